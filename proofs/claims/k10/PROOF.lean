import PyProof.Rows.All
import Wide.All
import OpenK.AllK
import Wide.FinOn
import HandS.ForMost
import HandS.ForExc
import HandS.IsInst
import HandS.Wide
import HandS.Style
import HandS.Deep
import HandS.More
import HandS.TupAny
import HandS.Text
import HandS.RaiseMore
import HandS.ExcCtx
import HandS.HotCalls
import HandS.WordsExc
import HandS.NestedHot
import HandS.Walk
import HandS.StrMore
import PyProof.StrBlock2
import HandS.Head0
import HandS.Head1
import HandS.Head2
import HandS.HeadEnd
import HandS.HeadHook1
import HandS.HeadHook2
import HandS.HeadHook3
import HandS.HeadHook4
import HandS.SetBool
import HandS.SetKeys
import HandS.ExcInit
import KE.KExcSuper
import HandS.Small
import HandS.ExcField
import HandS.TryMany
import KE.KExcIs
import HandS.Ends
import HandS.Rev
import HandS.RevTup
import HandS.DictComp
import PyProof.ListRange
import HandS.Zip0
import KE.KDictZip
import HandS.Zip
import HandS.Conv
import PyProof.CollectWalk
import HandS.ReplaceLit
import PyProof.StrLawsFirst
import PyProof.Rows.ReprOcc
import HandS.ReplaceList
import PyProof.Rows.StrJoinRep
import PySem.Challenge.RW_aliasfold_k10_words
set_option Elab.async false
set_option linter.all false
set_option maxRecDepth 100000
set_option maxHeartbeats 4000000
namespace Z
open PySem L2

/-- what a value is, as a tree; ref: an object that may change, by its address -/
inductive D where
  | non | bl (b : Bool) | int (i : Int) | str (x : Str)
  | lst (xs : List D) | tup (xs : List D) | klst (xs : List D)
  | dct (kvs : List (Key × D))
  | ins (C : Addr) (fs : List (Str × D))
  | ref (a : Addr)
  | oth (v : V)
  | exc (a : Addr) (d : Option Addr) (fs : List (Str × D))

abbrev Mu := Addr → Option D
/-- the set of addresses that stand aside -/
abbrev Ax := Addr → Prop

def isFrz : HO → Bool
  | .frz _ _ => true
  | _ => false
/-- what may be locked while it is walked -/
def lockable : HO → Bool
  | .lst _ => true
  | .dK _ => true
  | .dT _ => true
  | _ => false
/-- a thing that stays as it is -/
def Fz (H : Hp) (μ : Mu) (x : Ax) (a : Addr) (u : HO) : Prop := (H a = some u ∨ (lockable u = true ∧ ∃ o, H a = some (.frz o u))) ∧ isFrz u = false ∧ μ a = none ∧ ¬ x a
theorem Fz.rd {H : Hp} {μ : Mu} {x : Ax} {a : Addr} {u : HO} (h : Fz H μ x a u) : Rd H a u := h.1.imp id fun q => q.2
theorem Fz.hard {H : Hp} {μ : Mu} {x : Ax} {a : Addr} {u : HO} (h : Fz H μ x a u) (l : lockable u = false) : H a = some u := by
  rcases h.1 with e | ⟨e, _⟩
  · exact e
  · rw [l] at e; cases e
def KL (K : PySem.W.Frag) (a : Addr) (xs : List V) : Prop := ∃ (o : Obj) (its : Array Value) (n : Nat), K.lookup a = some o ∧ o.cls = .type "list" ∧ o.dict = none ∧ o.data = .seq its n ∧ its.size ≤ sizeLine ∧ Vals xs its.toList
def KT' (K : PySem.W.Frag) (a : Addr) (xs : List V) : Prop := ∃ (o : Obj) (its : Array Value) (n : Nat), K.lookup a = some o ∧ o.cls = .type "tuple" ∧ o.data = .seq its n ∧ its.size ≤ sizeLine ∧ Vals xs its.toList

mutual
def Rep (K : PySem.W.Frag) (H : Hp) (μ : Mu) (x : Ax) : D → V → Prop
  | .non, v => v = .non
  | .bl b, v => v = .bl b
  | .int i, v => v = .int i
  | .str s, v => v = .str s
  | .lst ds, v => ∃ a vs, v = .ref a ∧ Fz H μ x a (.lst vs) ∧ RepL K H μ x ds vs
  | .klst ds, v => ∃ a vs, v = .ref a ∧ (Fz H μ x a (.lst vs) ∨ KL K a vs) ∧ RepL K H μ x ds vs
  | .tup ds, v => ∃ a vs, v = .ref a ∧ (Fz H μ x a (.tup vs) ∨ KT' K a vs) ∧ RepL K H μ x ds vs
  | .dct kvs, v => ∃ a us, v = .ref a ∧ Fz H μ x a (.dK us) ∧ RepK K H μ x kvs us
  | .ins C fs, v => ∃ a dx gs, v = .ref a ∧ Fz H μ x a (.ins C dx gs) ∧ RepF K H μ x fs gs
  | .ref a, v => v = .ref a
  | .oth w, v => v = w
  | .exc a d fs, v => v = .ref a ∧ ((fs = [] ∧ d = none) ∨ ∃ dd gs, d = some dd ∧ Fz H μ x dd (.xd gs) ∧ RepF K H μ x fs gs)
def RepL (K : PySem.W.Frag) (H : Hp) (μ : Mu) (x : Ax) : List D → List V → Prop
  | [], vs => vs = []
  | d :: ds, vs => ∃ v r, vs = v :: r ∧ Rep K H μ x d v ∧ RepL K H μ x ds r
def RepK (K : PySem.W.Frag) (H : Hp) (μ : Mu) (x : Ax) : List (Key × D) → List (Key × V) → Prop
  | [], vs => vs = []
  | (k, d) :: ds, vs => ∃ v r, vs = (k, v) :: r ∧ Rep K H μ x d v ∧ RepK K H μ x ds r
def RepF (K : PySem.W.Frag) (H : Hp) (μ : Mu) (x : Ax) : List (Str × D) → List (Str × V) → Prop
  | [], vs => vs = []
  | (k, d) :: ds, vs => ∃ v r, vs = (k, v) :: r ∧ Rep K H μ x d v ∧ RepF K H μ x ds r
end
/-- what stays there stays here -/
def Fm (H : Hp) (μ : Mu) (x : Ax) (H' : Hp) (μ' : Mu) (x' : Ax) : Prop := ∀ a u, Fz H μ x a u → Fz H' μ' x' a u
theorem Fm.trans {H H1 H2 : Hp} {μ μ1 μ2 : Mu} {x x1 x2 : Ax} (a : Fm H μ x H1 μ1 x1) (b : Fm H1 μ1 x1 H2 μ2 x2) : Fm H μ x H2 μ2 x2 := fun c u h => b c u (a c u h)
/-- all that stays, stays -/
structure Grow (H : Hp) (μ : Mu) (H' : Hp) (μ' : Mu) (x : Ax) : Prop where
  fz : ∀ a u, Fz H μ x a u → Fz H' μ' x a u
  ax : ∀ a, x a → H' a = H a
theorem Grow.refl {H : Hp} {μ : Mu} {x : Ax} : Grow H μ H μ x := ⟨fun _ _ h => h, fun _ _ => rfl⟩
theorem Grow.trans {H H1 H2 : Hp} {μ μ1 μ2 : Mu} {x : Ax} (a : Grow H μ H1 μ1 x) (b : Grow H1 μ1 H2 μ2 x) : Grow H μ H2 μ2 x :=
  ⟨fun c u h => b.fz c u (a.fz c u h), fun c h => (b.ax c h).trans (a.ax c h)⟩

section
variable {K : PySem.W.Frag} {H H' : Hp} {μ μ' : Mu} {x x' : Ax}
mutual
theorem Rep.mo (g : Fm H μ x H' μ' x') : ∀ (d : D) (v : V), Rep K H μ x d v → Rep K H' μ' x' d v
  | .non, v, h => by simpa [Rep] using h
  | .bl b, v, h => by simpa [Rep] using h
  | .int i, v, h => by simpa [Rep] using h
  | .str s, v, h => by simpa [Rep] using h
  | .lst ds, v, h => by
    simp only [Rep] at h ⊢
    obtain ⟨a, vs, e, q, r⟩ := h
    exact ⟨a, vs, e, g _ _ q, RepL.mo g ds vs r⟩
  | .klst ds, v, h => by
    simp only [Rep] at h ⊢
    obtain ⟨a, vs, e, q, r⟩ := h
    exact ⟨a, vs, e, q.imp (g _ _) id, RepL.mo g ds vs r⟩
  | .tup ds, v, h => by
    simp only [Rep] at h ⊢
    obtain ⟨a, vs, e, q, r⟩ := h
    exact ⟨a, vs, e, q.imp (g _ _) id, RepL.mo g ds vs r⟩
  | .dct kvs, v, h => by
    simp only [Rep] at h ⊢
    obtain ⟨a, us, e, q, r⟩ := h
    exact ⟨a, us, e, g _ _ q, RepK.mo g kvs us r⟩
  | .ins C fs, v, h => by
    simp only [Rep] at h ⊢
    obtain ⟨a, dx, us, e, q, r⟩ := h
    exact ⟨a, dx, us, e, g _ _ q, RepF.mo g fs us r⟩
  | .ref a, v, h => by simpa [Rep] using h
  | .oth w, v, h => by simpa [Rep] using h
  | .exc a d fs, v, h => by
    simp only [Rep] at h ⊢
    obtain ⟨e, h⟩ := h
    refine ⟨e, ?_⟩
    rcases h with h | ⟨dd, gs, e2, q, r⟩
    · exact .inl h
    · exact .inr ⟨dd, gs, e2, g _ _ q, RepF.mo g fs gs r⟩
theorem RepL.mo (g : Fm H μ x H' μ' x') : ∀ (ds : List D) (vs : List V), RepL K H μ x ds vs → RepL K H' μ' x' ds vs
  | [], vs, h => by simpa [RepL] using h
  | d :: ds, vs, h => by
    simp only [RepL] at h ⊢
    obtain ⟨v, r, e, h1, h2⟩ := h
    exact ⟨v, r, e, Rep.mo g d v h1, RepL.mo g ds r h2⟩
theorem RepK.mo (g : Fm H μ x H' μ' x') : ∀ (ds : List (Key × D)) (vs : List (Key × V)), RepK K H μ x ds vs → RepK K H' μ' x' ds vs
  | [], vs, h => by simpa [RepK] using h
  | (k, d) :: ds, vs, h => by
    simp only [RepK] at h ⊢
    obtain ⟨v, r, e, h1, h2⟩ := h
    exact ⟨v, r, e, Rep.mo g d v h1, RepK.mo g ds r h2⟩
theorem RepF.mo (g : Fm H μ x H' μ' x') : ∀ (ds : List (Str × D)) (vs : List (Str × V)), RepF K H μ x ds vs → RepF K H' μ' x' ds vs
  | [], vs, h => by simpa [RepF] using h
  | (k, d) :: ds, vs, h => by
    simp only [RepF] at h ⊢
    obtain ⟨v, r, e, h1, h2⟩ := h
    exact ⟨v, r, e, Rep.mo g d v h1, RepF.mo g ds r h2⟩
end
theorem Rep.mono (g : Grow H μ H' μ' x) (d : D) (v : V) : Rep K H μ x d v → Rep K H' μ' x d v := Rep.mo g.fz d v
theorem RepL.mono (g : Grow H μ H' μ' x) (d : List D) (v : List V) : RepL K H μ x d v → RepL K H' μ' x d v := RepL.mo g.fz d v
theorem RepK.mono (g : Grow H μ H' μ' x) (d : List (Key × D)) (v : List (Key × V)) : RepK K H μ x d v → RepK K H' μ' x d v := RepK.mo g.fz d v
theorem RepF.mono (g : Grow H μ H' μ' x) (d : List (Str × D)) (v : List (Str × V)) : RepF K H μ x d v → RepF K H' μ' x d v := RepF.mo g.fz d v
end

/-- the object that may change lies as it is told -/
def Own (K : PySem.W.Frag) (H : Hp) (μ : Mu) (x : Ax) (a : Addr) : D → Prop
  | .lst ds => ∃ vs, H a = some (.lst vs) ∧ RepL K H μ x ds vs
  | .dct kvs => ∃ us, H a = some (.dK us) ∧ RepK K H μ x kvs us
  | .ins C fs => ∃ dx gs, H a = some (.ins C dx gs) ∧ RepF K H μ x fs gs
  | _ => False
structure ZH (K : PySem.W.Frag) (H : Hp) (μ : Mu) (x : Ax) : Prop where
  own : ∀ a c, μ a = some c → Own K H μ x a c
  ax : ∀ a, x a → μ a = none ∧ H a ≠ none

abbrev Sl := List (Option D)
structure ZInv (K : PySem.W.Frag) (σ : St) (H : Hp) (ρ : Sl) (μ : Mu) (x : Ax) : Prop where
  len : ρ.length = σ.length
  sl : ∀ (i : Nat) d, ρ[i]? = some (some d) → ∃ v, σ[i]? = some (some v) ∧ Rep K H μ x d v
  zh : ZH K H μ x
theorem ZInv.grow {K : PySem.W.Frag} {σ : St} {H H' : Hp} {ρ : Sl} {μ μ' : Mu} {x : Ax} (I : ZInv K σ H ρ μ x) (g : Grow H μ H' μ' x) (z : ZH K H' μ' x) : ZInv K σ H' ρ μ' x :=
  ⟨I.len, fun i d h => let ⟨v, e, r⟩ := I.sl i d h; ⟨v, e, r.mono g⟩, z⟩
theorem ZInv.set {K : PySem.W.Frag} {σ : St} {H : Hp} {ρ : Sl} {μ : Mu} {x : Ax} (I : ZInv K σ H ρ μ x) {d : D} {v : V} (r : Rep K H μ x d v) (i : Nat) : ZInv K (σ.set i (some v)) H (ρ.set i (some d)) μ x := by
  refine ⟨by simp [I.len], fun j e h => ?_, I.zh⟩
  by_cases hj : i = j
  · subst hj
    by_cases hl : i < ρ.length
    · rw [List.getElem?_set_self hl] at h
      cases h
      exact ⟨v, List.getElem?_set_self (by rw [← I.len]; exact hl), r⟩
    · rw [List.getElem?_eq_none (by simpa using hl)] at h
      cases h
  · rw [List.getElem?_set_ne hj] at h ⊢
    exact I.sl j e h

/-- the address of the module's name -/
def gad (K : PySem.W.Frag) (x : Str) : Addr := match PySem.W.nsIn K mainGlobals x with
  | some (some (.ref a)) => a
  | _ => 0
/-- an own error: its class's name, its fields -/
structure Err where
  C : Str
  fs : List (Str × D)
def ErrRep (K : PySem.W.Frag) (H : Hp) (μ : Mu) (x : Ax) (r : Err) (cls : Value) (dd : Option Addr) : Prop :=
  cls = .ref (gad K r.C) ∧ ((r.fs = [] ∧ dd = none) ∨ ∃ d gs, dd = some d ∧ Fz H μ x d (.xd gs) ∧ RepF K H μ x r.fs gs)

abbrev ZW := Err → Sl → Mu → Prop
/-- the wish for exceptions fits -/
def WC (K : PySem.W.Frag) (W : WX) (w : ZW) (H : Hp) (μ : Mu) (x : Ax) : Prop :=
  ∀ σ' H' ρ' μ' cls dd r, Grow H μ H' μ' x → ZInv K σ' H' ρ' μ' x → ErrRep K H' μ' x r cls dd → w r ρ' μ' → W cls dd σ' H'
theorem WC.grow {K : PySem.W.Frag} {W : WX} {w : ZW} {H H' : Hp} {μ μ' : Mu} {x : Ax} (h : WC K W w H μ x) (g : Grow H μ H' μ' x) : WC K W w H' μ' x :=
  fun σ2 H2 ρ2 μ2 cls dd r g2 => h σ2 H2 ρ2 μ2 cls dd r (g.trans g2)

/-! ### readings of values -/
abbrev ZQ := D → Mu → Prop
abbrev ZX := Err → Mu → Prop
abbrev ZT := Sl → Mu → ZQ → ZX → Prop
abbrev ZB := Sl → Mu → (Bool → Mu → Prop) → ZX → Prop
abbrev ZA := Sl → Mu → (List D → Mu → Prop) → ZX → Prop

def LE (K : PySem.W.Frag) (W : WX) (t : TE) (z : ZT) : Prop :=
  ∀ (x : Ax) (σ : St) (H : Hp) (ρ : Sl) (μ : Mu) (q : ZQ) (w : ZW) (Q : VK), ZInv K σ H ρ μ x → WC K W w H μ x → z ρ μ q (fun r μ' => w r ρ μ') →
    (∀ d v H' μ', Grow H μ H' μ' x → ZH K H' μ' x → Rep K H' μ' x d v → q d μ' → Q v H') → t σ H Q
def LT (K : PySem.W.Frag) (W : WX) (t : TT) (z : ZB) : Prop :=
  ∀ (x : Ax) (σ : St) (H : Hp) (ρ : Sl) (μ : Mu) (q : Bool → Mu → Prop) (w : ZW) (Q : Bool → Hp → Prop), ZInv K σ H ρ μ x → WC K W w H μ x → z ρ μ q (fun r μ' => w r ρ μ') →
    (∀ b H' μ', Grow H μ H' μ' x → ZH K H' μ' x → q b μ' → Q b H') → t σ H Q
def LA (K : PySem.W.Frag) (W : WX) (n : Nat) (t : TA) (z : ZA) : Prop :=
  ∀ (x : Ax) (σ : St) (H : Hp) (ρ : Sl) (μ : Mu) (q : List D → Mu → Prop) (w : ZW) (Q : List V → Hp → Prop), ZInv K σ H ρ μ x → WC K W w H μ x → z ρ μ q (fun r μ' => w r ρ μ') →
    (∀ ds vs H' μ', Grow H μ H' μ' x → ZH K H' μ' x → RepL K H' μ' x ds vs → vs.length = n → q ds μ' → Q vs H') → t σ H Q

/-! ### statements -/
structure ZEnds where
  nx : Sl → Mu → Prop
  rt : ZQ
  bk : Sl → Mu → Prop := fun _ _ => False
  ct : Sl → Mu → Prop := fun _ _ => False
  ex : ZW := fun _ _ _ => False
abbrev ZS := ZEnds → Sl → Mu → Prop
structure EOk (K : PySem.W.Frag) (H : Hp) (μ : Mu) (x : Ax) (D : ZEnds) (D' : Ends) : Prop where
  nx : ∀ σ' H' ρ' μ', Grow H μ H' μ' x → ZInv K σ' H' ρ' μ' x → D.nx ρ' μ' → D'.nx σ' H'
  rt : ∀ d v H' μ', Grow H μ H' μ' x → ZH K H' μ' x → Rep K H' μ' x d v → D.rt d μ' → D'.rt v H'
  bk : ∀ σ' H' ρ' μ', Grow H μ H' μ' x → ZInv K σ' H' ρ' μ' x → D.bk ρ' μ' → D'.bk σ' H'
  ct : ∀ σ' H' ρ' μ', Grow H μ H' μ' x → ZInv K σ' H' ρ' μ' x → D.ct ρ' μ' → D'.ct σ' H'
theorem EOk.grow {K : PySem.W.Frag} {H H' : Hp} {μ μ' : Mu} {x : Ax} {D : ZEnds} {D' : Ends} (e : EOk K H μ x D D') (g : Grow H μ H' μ' x) : EOk K H' μ' x D D' :=
  ⟨fun s h r m g2 => e.nx s h r m (g.trans g2), fun s h r m g2 => e.rt s h r m (g.trans g2), fun s h r m g2 => e.bk s h r m (g.trans g2), fun s h r m g2 => e.ct s h r m (g.trans g2)⟩
def LS (K : PySem.W.Frag) (W : WX) (t : TS) (z : ZS) : Prop :=
  ∀ (x : Ax) (σ : St) (H : Hp) (ρ : Sl) (μ : Mu) (D : ZEnds) (D' : Ends), ZInv K σ H ρ μ x → WC K W D.ex H μ x → z D ρ μ → EOk K H μ x D D' → t D' σ H

/-! ### the judgements -/
structure ZE (X : Cx) (W : WX) (e : Expr) (t : TE) (z : ZT) : Prop where
  p : PE X e t
  l : LE X.K W t z
structure ZTe (X : Cx) (W : WX) (e : Expr) (t : TT) (z : ZB) : Prop where
  p : PT X e t
  l : LT X.K W t z
structure ZTw (X : Cx) (W : WX) (e : Expr) (t : TT) (z : ZB) : Prop where
  p : PW X e t
  l : LT X.K W t z
structure ZAr (X : Cx) (W : WX) (n : Nat) (es : List Expr) (t : TA) (z : ZA) : Prop where
  p : PA X es t
  l : LA X.K W n t z
structure ZSt (X : Cx) (W : WX) (st : Stmt) (t : TS) (z : ZS) : Prop where
  p : PS X st t
  l : LS X.K W t z
structure ZSs (X : Cx) (W : WX) (st : List Stmt) (t : TS) (z : ZS) : Prop where
  p : PSs X st t
  l : LS X.K W t z
end Z

set_option maxRecDepth 100000
set_option maxHeartbeats 4000000
namespace Z
open PySem L2

/-! ### heaps -/
def updM (μ : Mu) (a : Addr) (c : D) : Mu := fun b => if b = a then some c else μ b
def delM (μ : Mu) (a : Addr) : Mu := fun b => if b = a then none else μ b
@[simp] theorem updM_same {μ : Mu} {a : Addr} {c : D} : updM μ a c a = some c := by unfold updM; rw [if_pos rfl]
theorem updM_ne {μ : Mu} {a b : Addr} {c : D} (h : b ≠ a) : updM μ a c b = μ b := by unfold updM; rw [if_neg h]
@[simp] theorem updM_updM {μ : Mu} {a : Addr} {c d : D} : updM (updM μ a c) a d = updM μ a d := by
  funext b; unfold updM; split <;> rfl
@[simp] theorem delM_same {μ : Mu} {a : Addr} : delM μ a a = none := by unfold delM; rw [if_pos rfl]
theorem delM_ne {μ : Mu} {a b : Addr} (h : b ≠ a) : delM μ a b = μ b := by unfold delM; rw [if_neg h]
theorem delM_updM {μ : Mu} {a : Addr} {c : D} (h : μ a = none) : delM (updM μ a c) a = μ := by
  funext b; unfold delM updM; split
  · rename_i e; subst e; exact h.symm
  · rfl
@[simp] theorem delM_updM' {μ : Mu} {a : Addr} {c : D} : delM (updM μ a c) a = delM μ a := by
  funext b; unfold delM updM; split <;> rfl

section
variable {K : PySem.W.Frag} {H H' : Hp} {μ μ' : Mu} {x : Ax} {a p : Addr} {o : HO} {c d : D} {v : V}
theorem Own.there (h : Own K H μ x a c) : ∃ o, H a = some o := by
  cases c <;> simp only [Own] at h
  all_goals first | exact h.elim | (obtain ⟨_, e, _⟩ := h; exact ⟨_, e⟩) | (obtain ⟨_, _, e, _⟩ := h; exact ⟨_, e⟩)
theorem ZH.fresh (z : ZH K H μ x) (h : H p = none) : μ p = none ∧ ¬ x p := by
  refine ⟨?_, fun hx => (z.ax p hx).2 h⟩
  cases e : μ p with
  | none => rfl
  | some c =>
    obtain ⟨o, e2⟩ := (z.own p c e).there
    rw [h] at e2
    cases e2
theorem Own.mo {x' : Ax} (g : Fm H μ x H' μ' x') (e : H' a = H a) (h : Own K H μ x a c) : Own K H' μ' x' a c := by
  cases c <;> simp only [Own] at h ⊢
  · obtain ⟨vs, e1, r⟩ := h; exact ⟨vs, e.trans e1, RepL.mo g _ _ r⟩
  · obtain ⟨vs, e1, r⟩ := h; exact ⟨vs, e.trans e1, RepK.mo g _ _ r⟩
  · obtain ⟨dx, vs, e1, r⟩ := h; exact ⟨dx, vs, e.trans e1, RepF.mo g _ _ r⟩
theorem Own.mono (g : Grow H μ H' μ' x) (e : H' a = H a) (h : Own K H μ x a c) : Own K H' μ' x a c := by
  cases c <;> simp only [Own] at h ⊢
  · obtain ⟨vs, e1, r⟩ := h; exact ⟨vs, e.trans e1, RepL.mono g _ _ r⟩
  · obtain ⟨vs, e1, r⟩ := h; exact ⟨vs, e.trans e1, RepK.mono g _ _ r⟩
  · obtain ⟨dx, vs, e1, r⟩ := h; exact ⟨dx, vs, e.trans e1, RepF.mono g _ _ r⟩
theorem Grow.new (h : H p = none) (hx : ¬ x p) : Grow H μ (upd H p o) μ x := by
  refine ⟨fun b u ⟨e, f, m, n⟩ => ⟨?_, f, m, n⟩, fun b hb => ?_⟩
  · have hb : b ≠ p := by
      rintro rfl
      rcases e with e | ⟨_, _, e⟩ <;> (rw [h] at e; cases e)
    rw [upd_ne hb]
    exact e
  · exact upd_ne (fun z => hx (z ▸ hb))
theorem ZH.gnew (z : ZH K H μ x) (h : H p = none) : Grow H μ (upd H p o) μ x := Grow.new h (z.fresh h).2
theorem ZH.new (z : ZH K H μ x) (h : H p = none) : ZH K (upd H p o) μ x := by
  refine ⟨fun b c e => ?_, fun b hb => ⟨(z.ax b hb).1, ?_⟩⟩
  · have w := z.own b c e
    obtain ⟨u, hu⟩ := w.there
    exact w.mono (z.gnew h) (upd_ne (ne_of_none hu h))
  · by_cases e : b = p
    · subst e; rw [upd_same]; exact fun z => nomatch z
    · rw [upd_ne e]; exact (z.ax b hb).2
theorem Fz.new (z : ZH K H μ x) (h : H p = none) (hf : isFrz o = false) : Fz (upd H p o) μ x p o := ⟨.inl upd_same, hf, (z.fresh h).1, (z.fresh h).2⟩
/-- a new object that may change -/
theorem ZH.gown (z : ZH K H μ x) (h : H p = none) : Grow H μ (upd H p o) (updM μ p c) x := by
  have g := z.gnew (o := o) h
  refine ⟨fun b u q => ?_, g.ax⟩
  obtain ⟨e, f, m, n⟩ := g.fz b u q
  refine ⟨e, f, ?_, n⟩
  rw [updM_ne]; exact m
  rintro rfl
  rcases q.1 with e | ⟨_, _, e⟩ <;> (rw [h] at e; cases e)
theorem ZH.onew (z : ZH K H μ x) (h : H p = none) (w : Own K (upd H p o) (updM μ p c) x p c) : ZH K (upd H p o) (updM μ p c) x := by
  refine ⟨fun b d e => ?_, fun b hb => ?_⟩
  · by_cases hb : b = p
    · subst hb; rw [updM_same] at e; cases e; exact w
    · rw [updM_ne hb] at e
      exact (z.own b d e).mono (z.gown h) (upd_ne hb)
  · have hp : b ≠ p := fun q => (z.fresh h).2 (q ▸ hb)
    rw [updM_ne hp, upd_ne hp]
    exact z.ax b hb
/-- an object that may change is written -/
theorem ZH.gwrite (z : ZH K H μ x) (h : μ a = some c) : Grow H μ (upd H a o) (updM μ a d) x := by
  refine ⟨fun b u ⟨e, f, m, n⟩ => ?_, fun b hb => upd_ne ?_⟩
  · have hb : b ≠ a := by rintro rfl; rw [h] at m; cases m
    exact ⟨by rw [upd_ne hb]; exact e, f, by rw [updM_ne hb]; exact m, n⟩
  · rintro rfl; have := (z.ax b hb).1; rw [h] at this; cases this
theorem ZH.write (z : ZH K H μ x) (h : μ a = some c) (w : Own K (upd H a o) (updM μ a d) x a d) : ZH K (upd H a o) (updM μ a d) x := by
  refine ⟨fun b d' e => ?_, fun b hb => ?_⟩
  · by_cases hb : b = a
    · subst hb; rw [updM_same] at e; cases e; exact w
    · rw [updM_ne hb] at e
      exact (z.own b d' e).mono (z.gwrite h) (upd_ne hb)
  · have hp : b ≠ a := by rintro rfl; have := (z.ax b hb).1; rw [h] at this; cases this
    rw [updM_ne hp, upd_ne hp]
    exact z.ax b hb
/-- an object that may change stays as it is from here on -/
theorem ZH.gfreeze : Grow H μ H (delM μ a) x :=
  ⟨fun b u ⟨e, f, m, n⟩ => ⟨e, f, by unfold delM; split; rfl; exact m, n⟩, fun _ _ => rfl⟩
theorem ZH.freeze (z : ZH K H μ x) : ZH K H (delM μ a) x := by
  refine ⟨fun b c e => ?_, fun b hb => ⟨by unfold delM; split; rfl; exact (z.ax b hb).1, (z.ax b hb).2⟩⟩
  have hb : b ≠ a := by rintro rfl; rw [delM_same] at e; cases e
  rw [delM_ne hb] at e
  exact (z.own b c e).mono ZH.gfreeze rfl
theorem ZH.frozen (z : ZH K H μ x) (h : μ a = some c) : Rep K H (delM μ a) x c (.ref a) := by
  have w := z.own a c h
  have nx : ¬ x a := fun q => by have := (z.ax a q).1; rw [h] at this; cases this
  cases c <;> simp only [Own] at w
  all_goals first | exact w.elim | skip
  · obtain ⟨vs, e, r⟩ := w
    simp only [Rep]
    exact ⟨a, vs, rfl, ⟨.inl e, rfl, delM_same, nx⟩, RepL.mono ZH.gfreeze _ _ r⟩
  · obtain ⟨vs, e, r⟩ := w
    simp only [Rep]
    exact ⟨a, vs, rfl, ⟨.inl e, rfl, delM_same, nx⟩, RepK.mono ZH.gfreeze _ _ r⟩
  · obtain ⟨dx, vs, e, r⟩ := w
    simp only [Rep]
    exact ⟨a, dx, vs, rfl, ⟨.inl e, rfl, delM_same, nx⟩, RepF.mono ZH.gfreeze _ _ r⟩

/-- one address more stands aside -/
def addX (x : Ax) (p : Addr) : Ax := fun a => x a ∨ a = p
theorem Fm.aside (h : H p = none) : Fm H μ x (upd H p o) μ (addX x p) := fun b u ⟨e, f, m, n⟩ => by
  have hb : b ≠ p := by
    rintro rfl
    rcases e with e | ⟨_, _, e⟩ <;> (rw [h] at e; cases e)
  exact ⟨by rw [upd_ne hb]; exact e, f, m, fun q => q.elim n hb⟩
theorem Fm.back : Fm H μ (addX x p) H μ x := fun b u ⟨e, f, m, n⟩ => ⟨e, f, m, fun q => n (.inl q)⟩
theorem ZH.aside (z : ZH K H μ x) (h : H p = none) : ZH K (upd H p o) μ (addX x p) := by
  refine ⟨fun b c e => ?_, fun b hb => ?_⟩
  · have w := z.own b c e
    obtain ⟨u, hu⟩ := w.there
    exact w.mo (Fm.aside h) (upd_ne (ne_of_none hu h))
  · rcases hb with hb | rfl
    · have q := z.ax b hb
      have hp : b ≠ p := fun e => q.2 (e ▸ h)
      rw [upd_ne hp]
      exact q
    · exact ⟨(z.fresh h).1, by rw [upd_same]; exact fun q => nomatch q⟩
theorem ZH.back (z : ZH K H μ (addX x p)) : ZH K H μ x := ⟨fun b c e => (z.own b c e).mo Fm.back rfl, fun b hb => z.ax b (.inl hb)⟩
/-- what stands aside is written -/
theorem ZH.wside (z : ZH K H μ (addX x p)) (o : HO) : Fm H μ (addX x p) (upd H p o) μ (addX x p) ∧ ZH K (upd H p o) μ (addX x p) := by
  have f : Fm H μ (addX x p) (upd H p o) μ (addX x p) := fun b u ⟨e, f, m, n⟩ => ⟨by rw [upd_ne (fun q => n (.inr q))]; exact e, f, m, n⟩
  refine ⟨f, fun b c e => (z.own b c e).mo f (upd_ne ?_), fun b hb => ⟨(z.ax b hb).1, ?_⟩⟩
  · rintro rfl; have := (z.ax b (.inr rfl)).1; rw [e] at this; cases this
  · by_cases e : b = p
    · subst e; rw [upd_same]; exact fun q => nomatch q
    · rw [upd_ne e]; exact (z.ax b hb).2
theorem RepL.length : ∀ {ds : List D} {vs : List V}, RepL K H μ x ds vs → ds.length = vs.length
  | [], vs, h => by simp only [RepL] at h; subst h; rfl
  | d :: ds, vs, h => by
    simp only [RepL] at h
    obtain ⟨v, r, rfl, _, h2⟩ := h
    simp [RepL.length h2]
theorem RepL.get : ∀ {ds : List D} {vs : List V} {i : Nat} {d : D}, RepL K H μ x ds vs → ds[i]? = some d → ∃ v, vs[i]? = some v ∧ Rep K H μ x d v
  | [], vs, i, d, h, e => by simp at e
  | d :: ds, vs, 0, d', h, e => by
    simp only [RepL] at h
    obtain ⟨v, r, rfl, h1, h2⟩ := h
    simp at e
    subst e
    exact ⟨v, rfl, h1⟩
  | d :: ds, vs, i + 1, d', h, e => by
    simp only [RepL] at h
    obtain ⟨v, r, rfl, h1, h2⟩ := h
    obtain ⟨v', e1, e2⟩ := RepL.get (i := i) (d := d') h2 (by simpa using e)
    exact ⟨v', by simpa using e1, e2⟩
theorem RepL.getR : ∀ {ds : List D} {vs : List V} {i : Nat} {v : V}, RepL K H μ x ds vs → vs[i]? = some v → ∃ d, ds[i]? = some d ∧ Rep K H μ x d v := fun {ds vs i v} h e => by
  have hl := h.length
  obtain ⟨hi, _⟩ := List.getElem?_eq_some_iff.mp e
  obtain ⟨v', e1, e2⟩ := h.get (i := i) (d := ds[i]'(by omega)) (List.getElem?_eq_getElem _)
  rw [e] at e1
  cases e1
  exact ⟨_, List.getElem?_eq_getElem _, e2⟩
theorem RepL.append : ∀ {ds es : List D} {vs us : List V}, RepL K H μ x ds vs → RepL K H μ x es us → RepL K H μ x (ds ++ es) (vs ++ us)
  | [], es, vs, us, h, h' => by simp only [RepL] at h; subst h; exact h'
  | d :: ds, es, vs, us, h, h' => by
    simp only [RepL] at h
    obtain ⟨v, r, rfl, h1, h2⟩ := h
    show RepL K H μ x (d :: (ds ++ es)) (v :: (r ++ us))
    simp only [RepL]
    exact ⟨v, r ++ us, rfl, h1, h2.append h'⟩
theorem RepL.one (h : Rep K H μ x d v) : RepL K H μ x [d] [v] := by
  simp only [RepL]; exact ⟨v, [], rfl, h, rfl⟩
theorem RepL.drop : ∀ {ds : List D} {vs : List V} (n : Nat), RepL K H μ x ds vs → RepL K H μ x (ds.drop n) (vs.drop n)
  | ds, vs, 0, h => h
  | [], vs, n + 1, h => by simp only [RepL] at h; subst h; simp [RepL]
  | d :: ds, vs, n + 1, h => by
    simp only [RepL] at h
    obtain ⟨v, r, rfl, h1, h2⟩ := h
    simpa using h2.drop n
theorem RepL.take : ∀ {ds : List D} {vs : List V} (n : Nat), RepL K H μ x ds vs → RepL K H μ x (ds.take n) (vs.take n)
  | ds, vs, 0, h => by simp [RepL]
  | [], vs, n + 1, h => by simp only [RepL] at h; subst h; simp [RepL]
  | d :: ds, vs, n + 1, h => by
    simp only [RepL] at h
    obtain ⟨v, r, rfl, h1, h2⟩ := h
    simp only [List.take_succ_cons, RepL]
    exact ⟨v, r.take n, rfl, h1, h2.take n⟩
theorem RepL.set : ∀ {ds : List D} {vs : List V} (n : Nat), RepL K H μ x ds vs → Rep K H μ x d v → RepL K H μ x (ds.set n d) (vs.set n v)
  | [], vs, n, h, _ => by simp only [RepL] at h; subst h; simp [RepL]
  | e :: ds, vs, 0, h, q => by
    simp only [RepL] at h
    obtain ⟨v', r, rfl, h1, h2⟩ := h
    simp only [List.set_cons_zero, RepL]
    exact ⟨v, r, rfl, q, h2⟩
  | e :: ds, vs, n + 1, h, q => by
    simp only [RepL] at h
    obtain ⟨v', r, rfl, h1, h2⟩ := h
    simp only [List.set_cons_succ, RepL]
    exact ⟨v', r.set n v, rfl, h1, h2.set n q⟩
theorem RepL.eraseIdx : ∀ {ds : List D} {vs : List V} (n : Nat), RepL K H μ x ds vs → RepL K H μ x (ds.eraseIdx n) (vs.eraseIdx n)
  | [], vs, n, h => by simp only [RepL] at h; subst h; simp [RepL]
  | d :: ds, vs, 0, h => by
    simp only [RepL] at h
    obtain ⟨v, r, rfl, h1, h2⟩ := h
    simpa using h2
  | d :: ds, vs, n + 1, h => by
    simp only [RepL] at h
    obtain ⟨v, r, rfl, h1, h2⟩ := h
    simp only [List.eraseIdx_cons_succ, RepL]
    exact ⟨v, _, rfl, h1, h2.eraseIdx n⟩
theorem RepL.dropLast (h : RepL K H μ x ds vs) : RepL K H μ x ds.dropLast vs.dropLast := by
  rw [List.dropLast_eq_take, List.dropLast_eq_take, h.length]; exact h.take _
theorem RepL.reverse : ∀ {ds : List D} {vs : List V}, RepL K H μ x ds vs → RepL K H μ x ds.reverse vs.reverse
  | [], vs, h => by simp only [RepL] at h; subst h; simp [RepL]
  | d :: ds, vs, h => by
    simp only [RepL] at h
    obtain ⟨v, r, rfl, h1, h2⟩ := h
    rw [List.reverse_cons, List.reverse_cons]
    exact h2.reverse.append (RepL.one h1)
end

/-! ### what may be read of a value -/
def lstOf (d : D) (μ : Mu) : Option (List D) := match d with
  | .klst ds => some ds
  | .lst ds => some ds
  | .ref a => match μ a with
    | some (.lst ds) => some ds
    | _ => none
  | _ => none
def seqOf (d : D) (μ : Mu) : Option (List D) := match d with
  | .klst ds => some ds
  | .tup ds => some ds
  | .lst ds => some ds
  | .ref a => match μ a with
    | some (.lst ds) => some ds
    | _ => none
  | _ => none
def dctOf (d : D) (μ : Mu) : Option (List (Key × D)) := match d with
  | .dct ds => some ds
  | .ref a => match μ a with
    | some (.dct ds) => some ds
    | _ => none
  | _ => none
def insOf (d : D) (μ : Mu) : Option (Addr × List (Str × D)) := match d with
  | .ins C ds => some (C, ds)
  | .ref a => match μ a with
    | some (.ins C ds) => some (C, ds)
    | _ => none
  | _ => none
section
variable {K : PySem.W.Frag} {H H' : Hp} {μ μ' : Mu} {x : Ax} {a p : Addr} {o : HO} {c d : D} {v : V} {ds : List D}
theorem lst_of (z : ZH K H μ x) (r : Rep K H μ x d v) (h : lstOf d μ = some ds) : ∃ a vs, v = .ref a ∧ SqL K H a vs ∧ RepL K H μ x ds vs := by
  cases d with
  | lst es =>
    have e : es = ds := Option.some.inj h
    subst e
    simp only [Rep] at r
    obtain ⟨a, vs, e, q, r⟩ := r
    exact ⟨a, vs, e, .inl q.rd, r⟩
  | klst es =>
    have e : es = ds := Option.some.inj h
    subst e
    simp only [Rep] at r
    obtain ⟨a, vs, e, q, r⟩ := r
    exact ⟨a, vs, e, q.imp Fz.rd id, r⟩
  | ref a =>
    simp only [Rep] at r
    simp only [lstOf] at h
    split at h
    · rename_i es e
      have e' : es = ds := Option.some.inj h
      subst e'
      have w := z.own a _ e
      simp only [Own] at w
      obtain ⟨vs, e1, r1⟩ := w
      exact ⟨a, vs, r, SqL.of e1, r1⟩
    · cases h
  | _ => cases h
theorem seq_of (z : ZH K H μ x) (r : Rep K H μ x d v) (h : seqOf d μ = some ds) : ∃ a vs, v = .ref a ∧ (SqL K H a vs ∨ SqT K H a vs) ∧ RepL K H μ x ds vs := by
  cases d with
  | lst es =>
    obtain ⟨a, vs, e, q, r⟩ := lst_of z r (ds := ds) h
    exact ⟨a, vs, e, .inl q, r⟩
  | ref a =>
    obtain ⟨a, vs, e, q, r⟩ := lst_of z r (ds := ds) h
    exact ⟨a, vs, e, .inl q, r⟩
  | klst a =>
    obtain ⟨a, vs, e, q, r⟩ := lst_of z r (ds := ds) h
    exact ⟨a, vs, e, .inl q, r⟩
  | tup es =>
    have e : es = ds := Option.some.inj h
    subst e
    simp only [Rep] at r
    obtain ⟨a, vs, e, q, r⟩ := r
    exact ⟨a, vs, e, .inr (q.imp Fz.rd id), r⟩
  | _ => cases h
theorem dct_of {kvs : List (Key × D)} (z : ZH K H μ x) (r : Rep K H μ x d v) (h : dctOf d μ = some kvs) : ∃ a us, v = .ref a ∧ Rd H a (.dK us) ∧ RepK K H μ x kvs us := by
  cases d with
  | dct es =>
    have e : es = kvs := Option.some.inj h
    subst e
    simp only [Rep] at r
    obtain ⟨a, vs, e, q, r⟩ := r
    exact ⟨a, vs, e, q.rd, r⟩
  | ref a =>
    simp only [Rep] at r
    simp only [dctOf] at h
    split at h
    · rename_i es e
      have e' : es = kvs := Option.some.inj h
      subst e'
      have w := z.own a _ e
      simp only [Own] at w
      obtain ⟨vs, e1, r1⟩ := w
      exact ⟨a, vs, r, .inl e1, r1⟩
    · cases h
  | _ => cases h
end
end Z

set_option maxRecDepth 100000
set_option maxHeartbeats 4000000
namespace Z
open PySem L2

/-! ### names, constants -/
def sget : Sl → Nat → Option D
  | [], _ => none
  | d :: _, 0 => d
  | _ :: r, n + 1 => sget r n
theorem sget_eq : ∀ (ρ : Sl) (i : Nat) (d : D), sget ρ i = some d → ρ[i]? = some (some d)
  | [], i, d, h => by cases h
  | e :: r, 0, d, h => by simp only [sget] at h; subst h; rfl
  | e :: r, n + 1, d, h => by simpa using sget_eq r n d h
def zVar (i : Nat) : ZT := fun ρ μ q _ => match sget ρ i with
  | some d => q d μ
  | none => False
def zC (d : D) : ZT := fun _ μ q _ => q d μ
section
variable {K : PySem.W.Frag} {W : WX}
theorem le_var {i : Nat} : LE K W (tVar i) (zVar i) := fun x σ H ρ μ q w Q I c h k => by
  unfold zVar at h
  split at h
  · rename_i d e
    obtain ⟨v, e1, r⟩ := I.sl i d (sget_eq ρ i d e)
    exact ⟨v, e1, k d v H μ Grow.refl I.zh r h⟩
  · exact h.elim
theorem le_c {d : D} {v : V} (r : ∀ H μ x, Rep K H μ x d v) : LE K W (tC v) (zC d) := fun x σ H ρ μ q w Q I c h k => k d v H μ Grow.refl I.zh (r H μ x) h
end
section
variable {X : Cx} {W : WX}
theorem zv (i : Nat) {x : Str} {pos : Pos} (hN : X.N[i]? = some x := by rfl) (hv : Vis X.env.scope x := by first | exact Or.inl rfl | exact Or.inr (Or.inl rfl) | exact Or.inr (Or.inr rfl)) (hd : (x == ("__debug__" : Str)) = false := by decide)
    (hcd : (x == ("__classdict__" : Str)) = false := by decide) : ZE X W (.Name x pos) (tVar i) (zVar i) := ⟨pe_var hN hv hd hcd, le_var⟩
theorem zint {i j pos} : ZE X W (.Constant (.int i) j pos) (tC (.int i)) (zC (.int i)) := ⟨pe_int, le_c fun _ _ _ => by simp [Rep]⟩
theorem zbl {b j pos} : ZE X W (.Constant (.bool b) j pos) (tC (.bl b)) (zC (.bl b)) := ⟨pe_bl, le_c fun _ _ _ => by simp [Rep]⟩
theorem znon {j pos} : ZE X W (.Constant .none j pos) (tC .non) (zC .non) := ⟨pe_non, le_c fun _ _ _ => by simp [Rep]⟩
theorem zstr {s j pos} : ZE X W (.Constant (.str s) j pos) (tC (.str s)) (zC (.str s)) := ⟨pe_str, le_c fun _ _ _ => by simp [Rep]⟩
/-- a module's constant; a class or a function as a value -/
theorem zglob {x : Str} {d : D} {v : V} {u : Value} {pos : Pos} (hg : Gl X x) (hm : X.mg x = some u) (r : RelV v u) (hr : ∀ H μ a, Rep X.K H μ a d v) (hd : (x == ("__debug__" : Str)) = false := by decide) : ZE X W (.Name x pos) (tC v) (zC d) := ⟨pe_glob hg hm r hd, le_c hr⟩
theorem zbltn {x : Str} {v : V} {u : Value} {pos : Pos} (hg : Gl X x) (hm : X.mg x = none) (hv : bootBuiltins x = some u) (r : RelV v u) (hn : x ≠ "__name__" := by decide) (hd : (x == ("__debug__" : Str)) = false := by decide) : ZE X W (.Name x pos) (tC v) (zC (.oth v)) :=
  ⟨pe_bltn hg hm hv r hn hd, le_c fun _ _ _ => by simp [Rep]⟩
end

/-! ### operators by values -/
abbrev F1 := D → Mu → ZQ → Prop
abbrev F2 := D → D → Mu → ZQ → Prop
abbrev FL := List D → Mu → ZQ → Prop
abbrev FM := D → List D → Mu → ZQ → Prop
def Post (K : PySem.W.Frag) (H : Hp) (μ : Mu) (x : Ax) (q : ZQ) (Q : VK) : Prop := ∀ d v H' μ', Grow H μ H' μ' x → ZH K H' μ' x → Rep K H' μ' x d v → q d μ' → Q v H'
def Lf1 (K : PySem.W.Frag) (r : V → Hp → VK → Prop) (f : F1) : Prop := ∀ x H μ d v q Q, ZH K H μ x → Rep K H μ x d v → f d μ q → Post K H μ x q Q → r v H Q
def Lf2 (K : PySem.W.Frag) (r : R2) (f : F2) : Prop := ∀ x H μ d e v u q Q, ZH K H μ x → Rep K H μ x d v → Rep K H μ x e u → f d e μ q → Post K H μ x q Q → r v u H Q
def LfL (K : PySem.W.Frag) (r : List V → Hp → VK → Prop) (f : FL) : Prop := ∀ x H μ ds vs q Q, ZH K H μ x → RepL K H μ x ds vs → f ds μ q → Post K H μ x q Q → r vs H Q
def LfM (K : PySem.W.Frag) (r : V → List V → Hp → VK → Prop) (f : FM) : Prop := ∀ x H μ d v ds vs q Q, ZH K H μ x → Rep K H μ x d v → RepL K H μ x ds vs → f d ds μ q → Post K H μ x q Q → r v vs H Q
def zOp (f : F2) (za zb : ZT) : ZT := fun ρ μ q e => za ρ μ (fun d μ1 => zb ρ μ1 (fun d2 μ2 => f d d2 μ2 q) e) e
def zUn (f : F1) (za : ZT) : ZT := fun ρ μ q e => za ρ μ (fun d μ1 => f d μ1 q) e
def zNil : ZA := fun _ μ q _ => q [] μ
def zCons (za : ZT) (zs : ZA) : ZA := fun ρ μ q e => za ρ μ (fun d μ1 => zs ρ μ1 (fun ds μ2 => q (d :: ds) μ2) e) e
def zCB (f : FL) (zs : ZA) : ZT := fun ρ μ q e => zs ρ μ (fun ds μ1 => f ds μ1 q) e
section
variable {K : PySem.W.Frag} {W : WX} {ta tb : TE} {za zb : ZT} {n : Nat} {tas : TA} {zas : ZA} {q : ZQ} {H H1 : Hp} {μ μ1 : Mu} {x : Ax} {Q : VK}
theorem Post.grow (p : Post K H μ x q Q) (g : Grow H μ H1 μ1 x) : Post K H1 μ1 x q Q := fun d v H' μ' g2 => p d v H' μ' (g.trans g2)
theorem Post.here (p : Post K H μ x q Q) (z : ZH K H μ x) {d : D} {v : V} (r : Rep K H μ x d v) (h : q d μ) : Q v H := p d v H μ Grow.refl z r h
theorem le_op {r : R2} {f : F2} (h : Lf2 K r f) (la : LE K W ta za) (lb : LE K W tb zb) : LE K W (tOp r ta tb) (zOp f za zb) := fun x σ H ρ μ q w Q I c hz k => by
  refine la x σ H ρ μ _ w _ I c hz fun d v H1 μ1 g1 z1 r1 h1 => ?_
  refine lb x σ H1 ρ μ1 _ w _ (I.grow g1 z1) (c.grow g1) h1 fun d2 v2 H2 μ2 g2 z2 r2 h2 => ?_
  exact h x H2 μ2 d d2 v v2 q Q z2 (r1.mono g2) r2 h2 fun d3 v3 H3 μ3 g3 z3 r3 h3 => k d3 v3 H3 μ3 (g1.trans (g2.trans g3)) z3 r3 h3
theorem le_un {r : V → Hp → VK → Prop} {f : F1} (h : Lf1 K r f) (la : LE K W ta za) : LE K W (tUn r ta) (zUn f za) := fun x σ H ρ μ q w Q I c hz k => by
  refine la x σ H ρ μ _ w _ I c hz fun d v H1 μ1 g1 z1 r1 h1 => ?_
  exact h x H1 μ1 d v q Q z1 r1 h1 fun d3 v3 H3 μ3 g3 z3 r3 h3 => k d3 v3 H3 μ3 (g1.trans g3) z3 r3 h3
theorem la_nil : LA K W 0 tNil zNil := fun x σ H ρ μ q w Q I c hz k => k [] [] H μ Grow.refl I.zh (by simp [RepL]) rfl hz
theorem la_cons (la : LE K W ta za) (lb : LA K W n tas zas) : LA K W (n + 1) (tCons ta tas) (zCons za zas) := fun x σ H ρ μ q w Q I c hz k => by
  refine la x σ H ρ μ _ w _ I c hz fun d v H1 μ1 g1 z1 r1 h1 => ?_
  refine lb x σ H1 ρ μ1 _ w _ (I.grow g1 z1) (c.grow g1) h1 fun ds vs H2 μ2 g2 z2 r2 l2 h2 => ?_
  exact k (d :: ds) (v :: vs) H2 μ2 (g1.trans g2) z2 (by simp only [RepL]; exact ⟨v, vs, rfl, r1.mono g2, r2⟩) (by rw [List.length_cons, l2]) h2
theorem le_cb {r : List V → Hp → VK → Prop} {f : FL} (h : LfL K r f) (la : LA K W n tas zas) : LE K W (tCB r tas) (zCB f zas) := fun x σ H ρ μ q w Q I c hz k => by
  refine la x σ H ρ μ _ w _ I c hz fun d v H1 μ1 g1 z1 r1 _ h1 => ?_
  exact h x H1 μ1 d v q Q z1 r1 h1 fun d3 v3 H3 μ3 g3 z3 r3 h3 => k d3 v3 H3 μ3 (g1.trans g3) z3 r3 h3
theorem Lf2.or1 {r r' : R2} {f : F2} (h : Lf2 K r f) : Lf2 K (fun x y H Q => r x y H Q ∨ r' x y H Q) f := fun x H μ d e v u q Q z r1 r2 h1 p => .inl (h x H μ d e v u q Q z r1 r2 h1 p)
end
section
variable {X : Cx} {W : WX} {a b : Expr} {ta tb : TE} {za zb : ZT} {pos : Pos} {es : List Expr} {n : Nat} {tas : TA} {zas : ZA}
theorem zop {op : Operator} {r : R2} {f : F2} (ho : OpR X (binaryOp op) r) (hl : Lf2 X.K r f) (ha : ZE X W a ta za) (hb : ZE X W b tb zb) : ZE X W (.BinOp a op b pos) (tOp r ta tb) (zOp f za zb) := ⟨pe_op ho ha.p hb.p, le_op hl ha.l hb.l⟩
theorem zun {op : UnaryOp} {r : V → Hp → VK → Prop} {f : F1} (ho : UnR X (unaryOp op) r) (hl : Lf1 X.K r f) (ha : ZE X W a ta za) : ZE X W (.UnaryOp op a pos) (tUn r ta) (zUn f za) := ⟨pe_un ho ha.p, le_un hl ha.l⟩
theorem zcmp {op : CmpOp} {r : R2} {f : F2} (ho : OpR X (compareOp op) r) (hl : Lf2 X.K r f) (ha : ZE X W a ta za) (hb : ZE X W b tb zb) (hm : behindInMarks op b = false := by rfl) : ZE X W (.Compare a [op] [b] pos) (tOp r ta tb) (zOp f za zb) := ⟨pe_cmpR ho ha.p hb.p hm, le_op hl ha.l hb.l⟩
theorem znil : ZAr X W 0 [] tNil zNil := ⟨pa_nil, la_nil⟩
theorem zcons {e : Expr} (ha : ZE X W e ta za) (hb : ZAr X W n es tas zas) (hs : starEach (e :: es) X.env = (false, eval e X.env) :: starEach es X.env := by rfl) : ZAr X W (n + 1) (e :: es) (tCons ta tas) (zCons za zas) := ⟨pa_cons ha.p hb.p hs, la_cons ha.l hb.l⟩
theorem zcallB {x : Str} {p : Pos} {e : Expr} {id : String} {r : List V → Hp → VK → Prop} {f : FL} (hc : CallR X (.builtin id) r) (hl : LfL X.K r f) (hm : X.mg x = none) (ha : ZAr X W n (e :: es) tas zas) (hg : Gl X x := by rfl) (hv : bootBuiltins x = some (.builtin id) := by decide +kernel) (hn : x ≠ "__name__" := by decide) (hdb : (x == ("__debug__" : Str)) = false := by decide)
    (he : starEach (e :: es) X.env = (false, eval e X.env) :: starEach es X.env := by rfl) (hpl : (backTo pos (starEach es X.env)).any (·.1) = false := by rfl) :
    ZE X W (.Call (.Name x p) (e :: es) [] pos) (tCB r tas) (zCB f zas) := ⟨pe_callB hc hg hm hv ha.p hn hdb he hpl, le_cb hl ha.l⟩
theorem zcallT {x : Str} {p : Pos} {e : Expr} {id : String} {r : List V → Hp → VK → Prop} {f : FL} (hc : CallR X (.type id) r) (hl : LfL X.K r f) (hm : X.mg x = none) (ha : ZAr X W n (e :: es) tas zas) (hg : Gl X x := by rfl) (hv : bootBuiltins x = some (.type id) := by decide +kernel) (hn : x ≠ "__name__" := by decide) (hdb : (x == ("__debug__" : Str)) = false := by decide)
    (he : starEach (e :: es) X.env = (false, eval e X.env) :: starEach es X.env := by rfl) (hpl : (backTo pos (starEach es X.env)).any (·.1) = false := by rfl) :
    ZE X W (.Call (.Name x p) (e :: es) [] pos) (tCB r tas) (zCB f zas) := ⟨pe_callTy hc hg hm hv ha.p hn hdb he hpl, le_cb hl ha.l⟩
end

/-! ### displays -/
def zTup (zs : ZA) : ZT := fun ρ μ q e => zs ρ μ (fun ds μ1 => q (.tup ds) μ1) e
def zLst (zs : ZA) : ZT := fun ρ μ q e => zs ρ μ (fun ds μ1 => q (.lst ds) μ1) e
/-- a list that will change -/
def zLstO (zs : ZA) : ZT := fun ρ μ q e => zs ρ μ (fun ds μ1 => ∀ p, μ1 p = none → q (.ref p) (updM μ1 p (.lst ds))) e
def zDctO : ZT := fun ρ μ q _ => ∀ p, μ p = none → q (.ref p) (updM μ p (.dct []))
section
variable {K : PySem.W.Frag} {W : WX} {tas : TA} {zas : ZA} {H : Hp} {μ : Mu} {x : Ax} {ds : List D} {vs : List V} {q : ZQ} {Q : VK}
theorem new_tup (z : ZH K H μ x) (r : RepL K H μ x ds vs) (p : Post K H μ x q Q) (h : q (.tup ds) μ) : ∀ a, H a = none → Q (.ref a) (upd H a (.tup vs)) := fun a ha =>
  p (.tup ds) (.ref a) _ μ (z.gnew ha) (z.new ha) (by simp only [Rep]; exact ⟨a, vs, rfl, .inl (Fz.new z ha rfl), RepL.mono (z.gnew ha) _ _ r⟩) h
theorem new_lst (z : ZH K H μ x) (r : RepL K H μ x ds vs) (p : Post K H μ x q Q) (h : q (.lst ds) μ) : ∀ a, H a = none → Q (.ref a) (upd H a (.lst vs)) := fun a ha =>
  p (.lst ds) (.ref a) _ μ (z.gnew ha) (z.new ha) (by simp only [Rep]; exact ⟨a, vs, rfl, Fz.new z ha rfl, RepL.mono (z.gnew ha) _ _ r⟩) h
theorem new_lstO (z : ZH K H μ x) (r : RepL K H μ x ds vs) (p : Post K H μ x q Q) (h : ∀ a, μ a = none → q (.ref a) (updM μ a (.lst ds))) : ∀ a, H a = none → Q (.ref a) (upd H a (.lst vs)) := fun a ha =>
  p (.ref a) (.ref a) _ _ (z.gown ha) (z.onew ha (by simp only [Own]; exact ⟨vs, upd_same, RepL.mono (z.gown ha) _ _ r⟩)) (by simp [Rep]) (h a (z.fresh ha).1)
theorem new_dct {kvs : List (Key × D)} {us : List (Key × V)} (z : ZH K H μ x) (r : RepK K H μ x kvs us) (p : Post K H μ x q Q) (h : q (.dct kvs) μ) : ∀ a, H a = none → Q (.ref a) (upd H a (.dK us)) := fun a ha =>
  p (.dct kvs) (.ref a) _ μ (z.gnew ha) (z.new ha) (by simp only [Rep]; exact ⟨a, us, rfl, Fz.new z ha rfl, RepK.mono (z.gnew ha) _ _ r⟩) h
theorem new_dctO {kvs : List (Key × D)} {us : List (Key × V)} (z : ZH K H μ x) (r : RepK K H μ x kvs us) (p : Post K H μ x q Q) (h : ∀ a, μ a = none → q (.ref a) (updM μ a (.dct kvs))) : ∀ a, H a = none → Q (.ref a) (upd H a (.dK us)) := fun a ha =>
  p (.ref a) (.ref a) _ _ (z.gown ha) (z.onew ha (by simp only [Own]; exact ⟨us, upd_same, RepK.mono (z.gown ha) _ _ r⟩)) (by simp [Rep]) (h a (z.fresh ha).1)
theorem le_tup {n : Nat} (la : LA K W n tas zas) (h : n ≤ 1000) : LE K W (tTup tas) (zTup zas) := fun x σ H ρ μ q w Q I c hz k => by
  refine la x σ H ρ μ _ w _ I c hz fun ds vs H1 μ1 g1 z1 r1 l1 h1 => ⟨?_, new_tup z1 r1 (fun d v H' μ' g => k d v H' μ' (g1.trans g)) h1⟩
  rw [l1]; exact Nat.le_of_lt (small1000 h)
theorem le_lst {n : Nat} (la : LA K W n tas zas) (h : n ≤ 1000) : LE K W (tLst tas) (zLst zas) := fun x σ H ρ μ q w Q I c hz k => by
  refine la x σ H ρ μ _ w _ I c hz fun ds vs H1 μ1 g1 z1 r1 l1 h1 => ⟨?_, new_lst z1 r1 (fun d v H' μ' g => k d v H' μ' (g1.trans g)) h1⟩
  rw [l1]; exact Nat.le_of_lt (small1000 h)
theorem le_lstO {n : Nat} (la : LA K W n tas zas) (h : n ≤ 1000) : LE K W (tLst tas) (zLstO zas) := fun x σ H ρ μ q w Q I c hz k => by
  refine la x σ H ρ μ _ w _ I c hz fun ds vs H1 μ1 g1 z1 r1 l1 h1 => ⟨?_, new_lstO z1 r1 (fun d v H' μ' g => k d v H' μ' (g1.trans g)) h1⟩
  rw [l1]; exact Nat.le_of_lt (small1000 h)
theorem le_dctO : LE K W tDNewK zDctO := fun x σ H ρ μ q w Q I c hz k => new_dctO (kvs := []) (us := []) I.zh (by simp [RepK]) k hz
end
section
variable {X : Cx} {W : WX} {pos : Pos} {es : List Expr} {n : Nat} {tas : TA} {zas : ZA}
theorem ztup {k} (h : ZAr X W n es tas zas) (hn : n ≤ 1000 := by decide) : ZE X W (.Tuple es k pos) (tTup tas) (zTup zas) := ⟨pe_tup h.p, le_tup h.l hn⟩
theorem zlst (h : ZAr X W n es tas zas) (hn : n ≤ 1000 := by decide) : ZE X W (.List es pos) (tLst tas) (zLst zas) := ⟨pe_lst h.p, le_lst h.l hn⟩
theorem zlstO (h : ZAr X W n es tas zas) (hn : n ≤ 1000 := by decide) : ZE X W (.List es pos) (tLst tas) (zLstO zas) := ⟨pe_lst h.p, le_lstO h.l hn⟩
theorem zdctO : ZE X W (.Dict [] [] pos) tDNewK zDctO := ⟨pe_dnewK, le_dctO⟩
end
end Z

set_option maxRecDepth 100000
set_option maxHeartbeats 4000000
namespace Z
open PySem L2

section
variable {K : PySem.W.Frag} {H : Hp} {μ : Mu} {x : Ax} {v : V} {q : ZQ} {Q : VK} {i : Int} {s : Str} {b : Bool}
theorem rep_int : Rep K H μ x (.int i) (.int i) := by simp [Rep]
theorem rep_str : Rep K H μ x (.str s) (.str s) := by simp [Rep]
theorem rep_bl : Rep K H μ x (.bl b) (.bl b) := by simp [Rep]
theorem rep_non : Rep K H μ x .non .non := by simp [Rep]
theorem rep_ref {a : Addr} : Rep K H μ x (.ref a) (.ref a) := by simp [Rep]
theorem Rep.int (h : Rep K H μ x (.int i) v) : v = .int i := by simpa [Rep] using h
theorem Rep.str (h : Rep K H μ x (.str s) v) : v = .str s := by simpa [Rep] using h
theorem Rep.bl (h : Rep K H μ x (.bl b) v) : v = .bl b := by simpa [Rep] using h
theorem Rep.non (h : Rep K H μ x .non v) : v = .non := by simpa [Rep] using h
theorem Rep.ref {a : Addr} (h : Rep K H μ x (.ref a) v) : v = .ref a := by simpa [Rep] using h
theorem Rep.oth {w : V} (h : Rep K H μ x (.oth w) v) : v = w := by simpa [Rep] using h
theorem Rep.tup {ds : List D} (h : Rep K H μ x (.tup ds) v) : ∃ a vs, v = .ref a ∧ SqT K H a vs ∧ RepL K H μ x ds vs := by
  simp only [Rep] at h
  obtain ⟨a, vs, e, q, r⟩ := h
  exact ⟨a, vs, e, q.imp Fz.rd id, r⟩
/-- a list that is no written one -/
def rlstOf (d : D) (μ : Mu) : Option (List D) := match d with
  | .lst ds => some ds
  | .ref a => match μ a with
    | some (.lst ds) => some ds
    | _ => none
  | _ => none
theorem rlst_of {d : D} {ds : List D} (z : ZH K H μ x) (r : Rep K H μ x d v) (h : rlstOf d μ = some ds) : ∃ a vs, v = .ref a ∧ Rd H a (.lst vs) ∧ RepL K H μ x ds vs := by
  cases d with
  | lst es =>
    have e : es = ds := Option.some.inj h
    subst e
    simp only [Rep] at r
    obtain ⟨a, vs, e, q, r⟩ := r
    exact ⟨a, vs, e, q.rd, r⟩
  | ref a =>
    simp only [Rep] at r
    simp only [rlstOf] at h
    split at h
    · rename_i es e
      have e' : es = ds := Option.some.inj h
      subst e'
      have w := z.own a _ e
      simp only [Own] at w
      obtain ⟨vs, e1, r1⟩ := w
      exact ⟨a, vs, r, .inl e1, r1⟩
    · cases h
  | _ => cases h
end

/-! ### + - * // % ** -/
section
variable {X : Cx}
theorem lstR {pins : List (Addr × Obj)} {σ : St} {H : Hp} {s : Shared} {l : Addr} {xs : List V} (I : Inv X pins σ H s) (hH : Rd H l (.lst xs)) : xs.length ≤ sizeLine ∧ ∃ (its : List Value) (n : Nat), Vals xs its ∧ xs.length = its.length ∧ s.heap.get? l = some { cls := .type "list", data := .seq its.toArray n } := by
  obtain ⟨z, its, n, r, e⟩ := hH.ok I.hok
  exact ⟨z, its, n, r, r.length, e⟩
def rCatQ : R2 := fun x y H Q => ∃ l b xs zs, x = .ref l ∧ y = .ref b ∧ Rd H l (.lst xs) ∧ Rd H b (.lst zs) ∧ xs.length + zs.length ≤ sizeLine ∧ ∀ p, H p = none → Q (.ref p) (upd H p (.lst (xs ++ zs)))
theorem op_catQ : OpR X (binaryOp .Add) rCatQ := by
  intro pins s σ H x y v u Q I rx ry h
  obtain ⟨l, b, xs, zs, rfl, rfl, hH, hB, hz, q⟩ := h
  cases rx
  cases ry
  obtain ⟨z, its, n, r, hl, e⟩ := lstR I hH
  obtain ⟨z2, its2, n2, r2, hl2, e2⟩ := lstR I hB
  refine PySem.P.add_list e e2 ?_ (by rw [List.size_toArray, List.size_toArray]; omega)
  have ea : its.toArray ++ its2.toArray = (its ++ its2).toArray := by simp
  rw [ea]
  exact ⟨.ref _, _, I.lnew (t' := s.toks) (r.append r2) (by rw [List.length_append]; omega), rfl, q _ I.fresh⟩
def rAddAll (K : PySem.W.Frag) : R2 := fun x y H Q => (∃ i j, x = .int i ∧ y = .int j ∧ Q (.int (i + j)) H) ∨ (∃ i j, x = .str i ∧ y = .str j ∧ i.length + j.length ≤ sizeLine ∧ Q (.str (i ++ j)) H) ∨ rCatQ x y H Q ∨ rCatA K x y H Q
theorem op_addAll : OpR X (binaryOp .Add) (rAddAll X.K) := op_add.or (op_add_str.or (op_catQ.or op_catA))
end
def zAdd : F2 := fun a b μ q => match a, b with
  | .int i, .int j => q (.int (i + j)) μ
  | .str i, .str j => i.length + j.length ≤ sizeLine ∧ q (.str (i ++ j)) μ
  | .tup xs, .tup ys => xs.length + ys.length ≤ sizeLine ∧ q (.tup (xs ++ ys)) μ
  | a, b => match rlstOf a μ, rlstOf b μ with
    | some xs, some ys => xs.length + ys.length ≤ sizeLine ∧ q (.lst (xs ++ ys)) μ
    | _, _ => False
section
variable {K : PySem.W.Frag}
theorem lf_add : Lf2 K (rAddAll K) zAdd := fun x H μ d e v u q Q z r1 r2 h p => by
  unfold zAdd at h
  split at h
  · exact .inl ⟨_, _, r1.int, r2.int, p.here z rep_int h⟩
  · exact .inr (.inl ⟨_, _, r1.str, r2.str, h.1, p.here z rep_str h.2⟩)
  · rename_i xs ys
    obtain ⟨a, vs, rfl, q1, l1⟩ := r1.tup
    obtain ⟨b, us, rfl, q2, l2⟩ := r2.tup
    obtain ⟨hz, hq⟩ := h
    refine .inr (.inr (.inr ⟨a, b, vs, us, rfl, rfl, q1, q2, by rw [← l1.length, ← l2.length]; exact hz, ?_, ?_, ?_⟩))
    · intro e
      subst e
      have ex : xs = [] := List.eq_nil_of_length_eq_zero l1.length
      subst ex
      rw [List.nil_append] at hq
      exact p.here z r2 hq
    · intro _ e
      subst e
      have ey : ys = [] := List.eq_nil_of_length_eq_zero l2.length
      subst ey
      rw [List.append_nil] at hq
      exact p.here z r1 hq
    · intro _ _
      exact new_tup z (l1.append l2) p hq
  · split at h
    · rename_i xs ys e1 e2
      obtain ⟨a, vs, rfl, q1, l1⟩ := rlst_of z r1 e1
      obtain ⟨b, us, rfl, q2, l2⟩ := rlst_of z r2 e2
      exact .inr (.inr (.inl ⟨a, b, vs, us, rfl, rfl, q1, q2, by rw [← l1.length, ← l2.length]; exact h.1, new_lst z (l1.append l2) p h.2⟩))
    · exact h.elim
def zI2 (C : Int → Int → Prop) (g : Int → Int → Int) : F2 := fun a b μ q => match a, b with
  | .int i, .int j => C i j ∧ q (.int (g i j)) μ
  | _, _ => False
theorem lf_I2 {C : Int → Int → Prop} {g : Int → Int → Int} : Lf2 K (rI C fun i j => .int (g i j)) (zI2 C g) := fun x H μ d e v u q Q z r1 r2 h p => by
  unfold zI2 at h
  split at h
  · exact ⟨_, _, r1.int, r2.int, h.1, p.here z rep_int h.2⟩
  · exact h.elim
def zSub : F2 := fun a b μ q => match a, b with
  | .int i, .int j => q (.int (i - j)) μ
  | _, _ => False
theorem lf_sub : Lf2 K (rI0 fun i j => .int (i - j)) zSub := fun x H μ d e v u q Q z r1 r2 h p => by
  unfold zSub at h
  split at h
  · exact ⟨_, _, r1.int, r2.int, p.here z rep_int h⟩
  · exact h.elim
abbrev zMulI : F2 := zI2 CMulW fun i j => i * j
abbrev zDiv : F2 := zI2 CDivW fun i j => i / j
abbrev zMod : F2 := zI2 (fun _ j => 0 < j) fun i j => i % j
abbrev zPow : F2 := zI2 CPow fun i j => i ^ j.toNat
def zNeg : F1 := fun a μ q => match a with
  | .int i => q (.int (-i)) μ
  | _ => False
theorem lf_neg : Lf1 K (rU fun i => .int (-i)) zNeg := fun x H μ d v q Q z r1 h p => by
  unfold zNeg at h
  split at h
  · exact ⟨_, r1.int, p.here z rep_int h⟩
  · exact h.elim

/-! ### comparisons of numbers -/
def zCmpI (g : Int → Int → Bool) : F2 := fun a b μ q => match a, b with
  | .int i, .int j => q (.bl (g i j)) μ
  | _, _ => False
theorem lf_cmpI {g : Int → Int → Bool} : Lf2 K (rI0 fun i j => .bl (g i j)) (zCmpI g) := fun x H μ d e v u q Q z r1 r2 h p => by
  unfold zCmpI at h
  split at h
  · exact ⟨_, _, r1.int, r2.int, p.here z rep_bl h⟩
  · exact h.elim
abbrev zLt : F2 := zCmpI fun i j => decide (i < j)
abbrev zLe : F2 := zCmpI fun i j => decide (i ≤ j)
abbrev zGt : F2 := zCmpI fun i j => decide (j < i)
abbrev zGe : F2 := zCmpI fun i j => decide (j ≤ i)
end

/-! ### == -/
mutual
def pdOf : D → Option PyData
  | .non => some .none
  | .bl b => some (.bool b)
  | .int i => some (.int i)
  | .str s => some (.str s)
  | .lst ds => (pdsOf ds).map .list
  | .klst ds => (pdsOf ds).map .list
  | .tup ds => (pdsOf ds).map .tuple
  | _ => none
def pdsOf : List D → Option (List PyData)
  | [] => some []
  | d :: ds => match pdOf d, pdsOf ds with
    | some p, some ps => some (p :: ps)
    | _, _ => none
end
section
variable {K : PySem.W.Frag} {H : Hp} {μ : Mu} {x : Ax}
mutual
theorem dp_of : ∀ (d : D) (v : V) (p : PyData), Rep K H μ x d v → pdOf d = some p → Dp K H v p
  | .non, v, p, r, h => by simp only [pdOf, Option.some.injEq] at h; subst h; rw [r.non]; exact .non
  | .bl b, v, p, r, h => by simp only [pdOf, Option.some.injEq] at h; subst h; rw [r.bl]; exact .bl b
  | .int i, v, p, r, h => by simp only [pdOf, Option.some.injEq] at h; subst h; rw [r.int]; exact .int i
  | .str i, v, p, r, h => by simp only [pdOf, Option.some.injEq] at h; subst h; rw [r.str]; exact .str i
  | .lst ds, v, p, r, h => by
    simp only [pdOf, Option.map_eq_some_iff] at h
    obtain ⟨ps, e, rfl⟩ := h
    simp only [Rep] at r
    obtain ⟨a, vs, rfl, q, l⟩ := r
    exact .lst (.inl q.rd) (dps_of ds vs ps l e)
  | .klst ds, v, p, r, h => by
    simp only [pdOf, Option.map_eq_some_iff] at h
    obtain ⟨ps, e, rfl⟩ := h
    simp only [Rep] at r
    obtain ⟨a, vs, rfl, q, l⟩ := r
    exact .lst (q.imp Fz.rd id) (dps_of ds vs ps l e)
  | .tup ds, v, p, r, h => by
    simp only [pdOf, Option.map_eq_some_iff] at h
    obtain ⟨ps, e, rfl⟩ := h
    simp only [Rep] at r
    obtain ⟨a, vs, rfl, q, l⟩ := r
    exact .tup (q.imp Fz.rd id) (dps_of ds vs ps l e)
  | .dct _, v, p, r, h => by simp only [pdOf] at h; cases h
  | .ins _ _, v, p, r, h => by simp only [pdOf] at h; cases h
  | .ref _, v, p, r, h => by simp only [pdOf] at h; cases h
  | .oth _, v, p, r, h => by simp only [pdOf] at h; cases h
theorem dps_of : ∀ (ds : List D) (vs : List V) (ps : List PyData), RepL K H μ x ds vs → pdsOf ds = some ps → DpAll K H vs ps
  | [], vs, ps, r, h => by simp only [pdsOf, Option.some.injEq] at h; subst h; simp only [RepL] at r; subst r; exact .nil
  | d :: ds, vs, ps, r, h => by
    simp only [RepL] at r
    obtain ⟨v, rs, rfl, r1, r2⟩ := r
    simp only [pdsOf] at h
    split at h
    · rename_i p ps' e1 e2
      cases h
      exact .cons (dp_of d v p r1 e1) (dps_of ds rs ps' r2 e2)
    · cases h
end
end
/-- a list that may change is read as it stands -/
def pdM (d : D) (μ : Mu) : Option PyData := match d with
  | .ref a => match μ a with
    | some (.lst ds) => (pdsOf ds).map .list
    | _ => none
  | d => pdOf d
theorem dpm_of {K : PySem.W.Frag} {H : Hp} {μ : Mu} {x : Ax} {d : D} {v : V} {p : PyData} (z : ZH K H μ x) (r : Rep K H μ x d v) (h : pdM d μ = some p) : Dp K H v p := by
  unfold pdM at h
  split at h
  · rename_i a
    split at h
    · rename_i ds e
      simp only [Option.map_eq_some_iff] at h
      obtain ⟨ps, e2, rfl⟩ := h
      have w := z.own a _ e
      simp only [Own] at w
      obtain ⟨vs, e1, l⟩ := w
      rw [r.ref]
      exact .lst (SqL.of e1) (dps_of ds vs ps l e2)
    · cases h
  · exact dp_of d v p r h
/-- == of values: of two numbers, two texts, None | of data at any depth -/
def pyEq (a b : D) (μ : Mu) : Option Bool := match a, b with
  | .int i, .int j => some (decide (i = j))
  | .str i, .str j => some (decide (i = j))
  | .bl i, .bl j => some (decide (i = j))
  | .non, .non => some true
  | a, b => match pdM a μ, pdM b μ with
    | some p, some p' => if SeqAt.shaped p = true ∧ SeqAt.shaped p' = true then some (PyData.eqv p p') else none
    | _, _ => none
def zEq : F2 := fun a b μ q => match pyEq a b μ with
  | some k => q (.bl k) μ
  | none => False
def zNe : F2 := fun a b μ q => match pyEq a b μ with
  | some k => q (.bl (!k)) μ
  | none => False
section
variable {K : PySem.W.Frag} {X : Cx}
def rEqAll (K : PySem.W.Frag) : R2 := fun x y H Q => rEq x y H Q ∨ rEqD K x y H Q
def rNeAll (K : PySem.W.Frag) : R2 := fun x y H Q => rNe x y H Q ∨ rNeD K x y H Q
theorem op_eqAll (hu : X.A.units + 64 < cLine) : OpR X (compareOp .Eq) (rEqAll X.K) := op_eq.or (op_eqD hu)
theorem op_neAll (hu : X.A.units + 64 < cLine) : OpR X (compareOp .NotEq) (rNeAll X.K) := op_ne.or (op_neD hu)
theorem dec_i {i j : Int} : decide (V.int i = V.int j) = decide (i = j) := by
  by_cases h : i = j
  · subst h; simp
  · rw [decide_eq_false h, decide_eq_false (fun q => h (V.int.inj q))]
theorem dec_s {i j : Str} : decide (V.str i = V.str j) = decide (i = j) := by
  by_cases h : i = j
  · subst h; simp
  · rw [decide_eq_false h, decide_eq_false (fun q => h (V.str.inj q))]
theorem dec_b {i j : Bool} : decide (V.bl i = V.bl j) = decide (i = j) := by
  by_cases h : i = j
  · subst h; simp
  · rw [decide_eq_false h, decide_eq_false (fun q => h (V.bl.inj q))]
theorem pyEq_ok {H : Hp} {μ : Mu} {x : Ax} {a b : D} {v u : V} {k : Bool} (z : ZH K H μ x) (r1 : Rep K H μ x a v) (r2 : Rep K H μ x b u) (h : pyEq a b μ = some k) :
    (scal v u = true ∧ decide (v = u) = k) ∨ ∃ d e, Dp K H v d ∧ Dp K H u e ∧ SeqAt.shaped d = true ∧ SeqAt.shaped e = true ∧ PyData.eqv d e = k := by
  unfold pyEq at h
  split at h
  · cases h; rw [r1.int, r2.int]; exact .inl ⟨rfl, dec_i⟩
  · cases h; rw [r1.str, r2.str]; exact .inl ⟨rfl, dec_s⟩
  · cases h; rw [r1.bl, r2.bl]; exact .inl ⟨rfl, dec_b⟩
  · cases h; rw [r1.non, r2.non]; exact .inl ⟨rfl, by simp⟩
  · split at h
    · rename_i p p' e1 e2
      split at h
      · rename_i hs
        cases h
        exact .inr ⟨p, p', dpm_of z r1 e1, dpm_of z r2 e2, hs.1, hs.2, rfl⟩
      · cases h
    · cases h
theorem lf_eq : Lf2 K (rEqAll K) zEq := fun x H μ d e v u q Q z r1 r2 h p => by
  unfold zEq at h
  split at h
  · rename_i k e1
    rcases pyEq_ok z r1 r2 e1 with ⟨h1, h2⟩ | ⟨d, e, h1, h2, h3, h4, h5⟩
    · exact .inl ⟨h1, by rw [h2]; exact p.here z rep_bl h⟩
    · exact .inr ⟨d, e, h1, h2, h3, h4, by rw [h5]; exact p.here z rep_bl h⟩
  · exact h.elim
theorem lf_ne : Lf2 K (rNeAll K) zNe := fun x H μ d e v u q Q z r1 r2 h p => by
  unfold zNe at h
  split at h
  · rename_i k e1
    rcases pyEq_ok z r1 r2 e1 with ⟨h1, h2⟩ | ⟨d, e, h1, h2, h3, h4, h5⟩
    · exact .inl ⟨h1, by rw [h2]; exact p.here z rep_bl h⟩
    · exact .inr ⟨d, e, h1, h2, h3, h4, by rw [h5]; exact p.here z rep_bl h⟩
  · exact h.elim
end
end Z

set_option maxRecDepth 100000
set_option maxHeartbeats 4000000
namespace Z
open PySem L2

/-! ### in, not in -/
def flatD : D → Bool
  | .non => true
  | .bl _ => true
  | .int _ => true
  | .str _ => true
  | _ => false
/-- == of flat things -/
def eqF : D → D → Bool
  | .non, .non => true
  | .bl a, .bl b => a == b
  | .bl a, .int b => (if a then 1 else 0) == b
  | .int a, .bl b => a == (if b then 1 else 0)
  | .int a, .int b => a == b
  | .str a, .str b => a == b
  | _, _ => false
def inF (x : D) (ys : List D) : Bool := ys.any fun y => eqF y x
section
variable {K : PySem.W.Frag} {H : Hp} {μ : Mu} {x : Ax}
theorem flat_of {d : D} {v : V} (r : Rep K H μ x d v) (f : flatD d = true) : flatV v = true := by
  cases d <;> simp only [flatD] at f
  all_goals first | (exact absurd f Bool.false_ne_true) | (simp only [Rep] at r; subst r; rfl)
theorem eqF_of {d e : D} {v u : V} (r : Rep K H μ x d v) (s : Rep K H μ x e u) (f : flatD d = true) (g : flatD e = true) : eqV v u = eqF d e := by
  cases d <;> simp only [flatD] at f <;> cases e <;> simp only [flatD] at g
  all_goals first | (exact absurd f Bool.false_ne_true) | (exact absurd g Bool.false_ne_true) | (simp only [Rep] at r s; subst r; subst s; rfl)
theorem flats_of : ∀ {ds : List D} {vs : List V}, RepL K H μ x ds vs → ds.all flatD = true → vs.all flatV = true
  | [], vs, r, f => by simp only [RepL] at r; subst r; rfl
  | d :: ds, vs, r, f => by
    simp only [RepL] at r
    obtain ⟨v, rs, rfl, r1, r2⟩ := r
    rw [List.all_cons, Bool.and_eq_true] at f
    rw [List.all_cons, flat_of r1 f.1, flats_of r2 f.2]; rfl
theorem inF_of {d : D} {v : V} (r : Rep K H μ x d v) (f : flatD d = true) : ∀ {ds : List D} {vs : List V}, RepL K H μ x ds vs → ds.all flatD = true → inV v vs = inF d ds
  | [], vs, s, g => by simp only [RepL] at s; subst s; rfl
  | e :: ds, vs, s, g => by
    simp only [RepL] at s
    obtain ⟨u, us, rfl, r1, r2⟩ := s
    rw [List.all_cons, Bool.and_eq_true] at g
    have ih := inF_of r f r2 g.2
    unfold inV inF at ih ⊢
    rw [List.any_cons, List.any_cons, ih, eqF_of r1 r g.1 f]
end
/-- a key -/
def keyOf : D → Option Key
  | .int i => some (.inl i)
  | .str s => some (.inr s)
  | _ => none
def lookK (k : Key) : List (Key × D) → Option D
  | [] => none
  | (j, d) :: r => if j = k then some d else lookK k r
section
variable {K : PySem.W.Frag} {H : Hp} {μ : Mu} {x : Ax}
theorem key_of {d : D} {v : V} {k : Key} (r : Rep K H μ x d v) (h : keyOf d = some k) : v = kV k := by
  cases d <;> simp only [keyOf] at h
  all_goals first | (cases h; simp only [Rep] at r; subst r; rfl) | (cases h)
theorem look_of {k : Key} : ∀ {kvs : List (Key × D)} {us : List (Key × V)}, RepK K H μ x kvs us → (∀ d, lookK k kvs = some d → ∃ v, valV us k = some v ∧ Rep K H μ x d v) ∧ (lookK k kvs = none → valV us k = none)
  | [], us, r => by simp only [RepK] at r; subst r; exact ⟨fun d h => by simp [lookK] at h, fun _ => rfl⟩
  | (j, e) :: kvs, us, r => by
    simp only [RepK] at r
    obtain ⟨v, rs, rfl, r1, r2⟩ := r
    have ih := look_of (k := k) r2
    by_cases hk : j = k
    · subst hk
      refine ⟨fun d h => ?_, fun h => ?_⟩
      · have h' : some e = some d := by rw [← h]; unfold lookK; rw [if_pos rfl]
        cases h'
        exact ⟨v, by simp [valV], r1⟩
      · unfold lookK at h
        rw [if_pos rfl] at h
        cases h
    · have e1 : valV ((j, v) :: rs) k = valV rs k := by
        unfold valV
        rw [List.find?_cons_of_neg (by simpa using hk)]
      rw [e1]
      simpa only [lookK, if_neg hk] using ih
end
def strIn (i j : Str) : Bool := match i.cps.toList with
  | [c] => decide (c ∈ j.cps.toList)
  | _ => !(Builtin.Str.occurrences j i 0 j.length 1).isEmpty
def zIn : F2 := fun a b μ q => match b with
  | .str j => match a with
    | .str i => q (.bl (strIn i j)) μ
    | _ => False
  | b => match seqOf b μ with
    | some ds => (flatD a = true ∧ ds.all flatD = true ∧ q (.bl (inF a ds)) μ) ∨ (∃ p ps, pdM a μ = some p ∧ (pdM b μ = some (.list ps) ∨ pdM b μ = some (.tuple ps)) ∧ SeqAt.shaped p = true ∧ SeqAt.shaped (.list ps) = true ∧ q (.bl (ps.any fun z => PyData.eqv z p)) μ)
    | none => match dctOf b μ, keyOf a with
      | some kvs, some k => q (.bl (lookK k kvs).isSome) μ
      | _, _ => False
def zNotIn : F2 := fun a b μ q => zIn a b μ fun d μ' => match d with
  | .bl k => q (.bl (!k)) μ'
  | _ => False
section
variable {X : Cx}
def rInDct (neg : Bool) : R2 := fun x y H Q => ∃ a o, y = .ref a ∧ DGet H a x o ∧ Q (.bl (if neg then !o.isSome else o.isSome)) H
theorem op_inDct (hu : X.A.units + 1 < cLine) : OpR X (compareOp .In) (rInDct false) := by
  intro pins s σ H x y v u Q I rx ry h
  obtain ⟨a, o, rfl, g, q⟩ := h
  obtain rfl : u = Value.ref a := ry
  exact d_in hu I g rx fun s3 I3 => ⟨.bl o.isSome, H, I3, rfl, q⟩
theorem op_notinDct (hu : X.A.units + 1 < cLine) : OpR X (compareOp .NotIn) (rInDct true) := by
  intro pins s σ H x y v u Q I rx ry h
  obtain ⟨a, o, rfl, g, q⟩ := h
  obtain rfl : u = Value.ref a := ry
  exact d_notIn hu I g rx fun s3 I3 => ⟨.bl (!o.isSome), H, I3, rfl, q⟩
def rStrIn (neg : Bool) : R2 := fun x y H Q => ∃ i j, x = .str i ∧ y = .str j ∧ Q (.bl (if neg then !strIn i j else strIn i j)) H
theorem str1 {i : Str} {c : Nat} (h : i.cps.toList = [c]) : i = ⟨#[c]⟩ := by
  cases i with
  | mk cps =>
    have e : cps = #[c] := by
      apply Array.ext'
      simpa using h
    rw [e]
theorem op_strIn : OpR X (compareOp .In) (rStrIn false) := by
  intro pins s σ H x y v u Q I rx ry h
  obtain ⟨i, j, rfl, rfl, q⟩ := h
  have q' : Q (.bl (strIn i j)) H := q
  unfold strIn at q'
  split at q'
  · rename_i c e
    have e1 := str1 e
    subst e1
    exact op_in_sign pins s σ H _ _ v u Q I rx ry ⟨c, j, rfl, rfl, q'⟩
  · exact op_in_str pins s σ H _ _ v u Q I rx ry ⟨i, j, rfl, rfl, q'⟩
theorem op_strNotIn : OpR X (compareOp .NotIn) (rStrIn true) := by
  intro pins s σ H x y v u Q I rx ry h
  obtain ⟨i, j, rfl, rfl, q⟩ := h
  have q' : Q (.bl (!strIn i j)) H := q
  unfold strIn at q'
  split at q'
  · rename_i c e
    have e1 := str1 e
    subst e1
    exact op_notIn_sign pins s σ H _ _ v u Q I rx ry ⟨c, j, rfl, rfl, q'⟩
  · exact op_notin_str pins s σ H _ _ v u Q I rx ry ⟨i, j, rfl, rfl, q'⟩
/-- in a list or a tuple of data of any depth -/
def rInDeep (K : PySem.W.Frag) (neg : Bool) : R2 := fun x y H Q => ∃ d ds, Dp K H x d ∧ (Dp K H y (.list ds) ∨ Dp K H y (.tuple ds)) ∧ SeqAt.shaped d = true ∧ SeqAt.shaped (.list ds) = true ∧ Q (.bl (if neg then !(ds.any fun z => PyData.eqv z d) else ds.any fun z => PyData.eqv z d)) H
theorem op_inDeep (hu : X.A.units + 65 < cLine) : OpR X (compareOp .In) (rInDeep X.K false) := by
  intro pins s σ H x y v u Q I rx ry ⟨d, ds, hd, he, sd, se, q⟩
  obtain ⟨as, r1⟩ := Dp.reads I d x v hd rx
  have lay : PyData.canLayAll0 ds = true := SeqAt.canLay_of_shaped se
  rcases he with he | he
  · obtain ⟨bs, r2⟩ := Dp.reads I _ y u he ry
    exact SeqAt.in_list_reads r2 r1 lay (SeqAt.canLay_of_shaped sd) (PyProof.Rows.room_in_shaped sd hu) ⟨.bl _, H, I, rfl, q⟩
  · obtain ⟨bs, r2⟩ := Dp.reads I _ y u he ry
    exact SeqAt.in_tuple_reads r2 r1 lay (SeqAt.canLay_of_shaped sd) (PyProof.Rows.room_in_shaped sd hu) ⟨.bl _, H, I, rfl, q⟩
theorem op_notInDeep (hu : X.A.units + 65 < cLine) : OpR X (compareOp .NotIn) (rInDeep X.K true) := by
  intro pins s σ H x y v u Q I rx ry ⟨d, ds, hd, he, sd, se, q⟩
  obtain ⟨as, r1⟩ := Dp.reads I d x v hd rx
  have lay : PyData.canLayAll0 ds = true := SeqAt.canLay_of_shaped se
  rcases he with he | he
  · obtain ⟨bs, r2⟩ := Dp.reads I _ y u he ry
    exact SeqAt.notIn_list_reads r2 r1 lay (SeqAt.canLay_of_shaped sd) (PyProof.Rows.room_in_shaped sd hu) ⟨.bl _, H, I, rfl, q⟩
  · obtain ⟨bs, r2⟩ := Dp.reads I _ y u he ry
    exact SeqAt.notIn_tuple_reads r2 r1 lay (SeqAt.canLay_of_shaped sd) (PyProof.Rows.room_in_shaped sd hu) ⟨.bl _, H, I, rfl, q⟩
def rInAll (K : PySem.W.Frag) (neg : Bool) : R2 := fun x y H Q => rStrIn neg x y H Q ∨ rIn K neg x y H Q ∨ rInDct neg x y H Q ∨ rInDeep K neg x y H Q
theorem op_inAll (hu : X.A.units + 65 < cLine) : OpR X (compareOp .In) (rInAll X.K false) := op_strIn.or (op_in_seq.or ((op_inDct (by omega)).or (op_inDeep hu)))
theorem op_notInAll (hu : X.A.units + 65 < cLine) : OpR X (compareOp .NotIn) (rInAll X.K true) := op_strNotIn.or (op_notIn_seq.or ((op_notinDct (by omega)).or (op_notInDeep hu)))
end
section
variable {K : PySem.W.Frag}
theorem in_core {x : Ax} {H : Hp} {μ : Mu} {d e : D} {v u : V} {q : ZQ} {Q : VK} {neg : Bool} (z : ZH K H μ x) (r1 : Rep K H μ x d v) (r2 : Rep K H μ x e u) (h : zIn d e μ q) (k : ∀ b, q (.bl b) μ → Q (.bl (if neg then !b else b)) H) : rInAll K neg v u H Q := by
  unfold zIn at h
  split at h
  · rename_i j
    split at h
    · exact .inl ⟨_, _, r1.str, r2.str, k _ h⟩
    · exact h.elim
  · split at h
    · rename_i ds e1
      rcases h with ⟨h1, h2, h3⟩ | ⟨p, ps, hp, hps, sp, sps, h3⟩
      · obtain ⟨a, vs, rfl, q1, l⟩ := seq_of z r2 e1
        refine .inr (.inl ⟨a, vs, rfl, q1, flat_of r1 h1, flats_of l h2, ?_⟩)
        rw [inF_of r1 h1 l h2]
        exact k _ h3
      · exact .inr (.inr (.inr ⟨p, ps, dpm_of z r1 hp, hps.imp (dpm_of z r2) (dpm_of z r2), sp, sps, k _ h3⟩))
    · split at h
      · rename_i kvs kk e1 e2
        obtain ⟨a, us, rfl, q1, l⟩ := dct_of z r2 e1
        have lo := look_of (k := kk) l
        rw [key_of r1 e2]
        refine .inr (.inr (.inl ⟨a, valV us kk, rfl, .inl ⟨us, kk, q1, rfl, rfl⟩, ?_⟩))
        have e3 : (valV us kk).isSome = (lookK kk kvs).isSome := by
          cases e4 : lookK kk kvs with
          | none => rw [lo.2 e4]; rfl
          | some d' =>
            obtain ⟨v', e5, _⟩ := lo.1 d' e4
            rw [e5]; rfl
        rw [e3]
        exact k _ h
      · exact h.elim
theorem lf_in : Lf2 K (rInAll K false) zIn := fun x H μ d e v u q Q z r1 r2 h p => in_core z r1 r2 h fun b hb => p.here z rep_bl hb
theorem lf_notIn : Lf2 K (rInAll K true) zNotIn := fun x H μ d e v u q Q z r1 r2 h p => in_core z r1 r2 h fun b hb => p.here z rep_bl hb
end

/-! ### is -/
def zIsN : F2 := fun a b μ q => match b with
  | .non => match a with
    | .non => q (.bl true) μ
    | .ref _ => q (.bl false) μ
    | .oth _ => False
    | _ => q (.bl false) μ
  | .bl k => match a with
    | .bl j => q (.bl (decide (j = k))) μ
    | _ => False
  | _ => False
def zNotN : F2 := fun a b μ q => zIsN a b μ fun d μ' => match d with
  | .bl k => q (.bl (!k)) μ'
  | _ => False
def rIsAll : R2 := fun x y H Q => (y = .non ∧ Q (.bl (decide (x = .non))) H) ∨ rIsB x y H Q
def rNotAll : R2 := fun x y H Q => (y = .non ∧ Q (.bl (!decide (x = .non))) H) ∨ rNotB x y H Q
section
variable {X : Cx} {K : PySem.W.Frag}
theorem op_isAll : OpR X (compareOp .Is) rIsAll := op_isN.or op_isBl
theorem is_core {x : Ax} {H : Hp} {μ : Mu} {d e : D} {v u : V} {q : ZQ} {Q : VK} {neg : Bool} (z : ZH K H μ x) (r1 : Rep K H μ x d v) (r2 : Rep K H μ x e u) (h : zIsN d e μ q) (k : ∀ b, q (.bl b) μ → Q (.bl (if neg then !b else b)) H) :
    (u = .non ∧ Q (.bl (if neg then !decide (v = .non) else decide (v = .non))) H) ∨ ∃ a b : Bool, v = .bl a ∧ u = .bl b ∧ Q (.bl (if neg then !decide (a = b) else decide (a = b))) H := by
  unfold zIsN at h
  split at h
  · refine .inl ⟨r2.non, ?_⟩
    split at h
    · rw [r1.non, decide_eq_true rfl]; exact k _ h
    · rw [r1.ref, decide_eq_false (fun q => nomatch q)]; exact k _ h
    · exact h.elim
    · rename_i n1 n2 n3
      have hv : v ≠ .non := by
        cases d <;> simp only [Rep] at r1
        all_goals first | exact absurd rfl n1 | exact absurd rfl (n3 _) | (subst r1; exact (fun q => nomatch q)) | (obtain ⟨rfl, _⟩ := r1; exact (fun q => nomatch q)) | (obtain ⟨_, _, rfl, _⟩ := r1; exact (fun q => nomatch q)) | (obtain ⟨_, _, _, rfl, _⟩ := r1; exact (fun q => nomatch q))
      rw [decide_eq_false hv]; exact k _ h
  · split at h
    · exact .inr ⟨_, _, r1.bl, r2.bl, k _ h⟩
    · exact h.elim
  · exact h.elim
theorem lf_is : Lf2 K rIsAll zIsN := fun x H μ d e v u q Q z r1 r2 h p => is_core (neg := false) z r1 r2 h fun b hb => p.here z rep_bl hb
theorem lf_isNot : Lf2 K rNotAll zNotN := fun x H μ d e v u q Q z r1 r2 h p => is_core (neg := true) z r1 r2 h fun b hb => p.here z rep_bl hb
end

/-! ### tests -/
def tTru (K : PySem.W.Frag) (ta : TE) : TT := fun σ H Q => ta σ H fun x H' => ∃ k, TruV K x H' k ∧ Q k H'
def truD (d : D) (μ : Mu) : Option Bool := match d with
  | .non => some false
  | .bl b => some b
  | .int i => some (i != 0)
  | .str s => if s.length ≤ sizeLine then some ((s.length : Int) != 0) else none
  | d => match seqOf d μ with
    | some ds => some (!ds.isEmpty)
    | none => match d with
      | .ref a => match μ a with
        | some (.dct kvs) => some (!kvs.isEmpty)
        | _ => none
      | _ => none
def zTru (za : ZT) : ZB := fun ρ μ q e => za ρ μ (fun d μ1 => match truD d μ1 with
  | some k => q k μ1
  | none => False) e
/-- the value is True or False -/
def zTst (za : ZT) : ZB := fun ρ μ q e => za ρ μ (fun d μ1 => match d with
  | .bl k => q k μ1
  | _ => False) e
def zAnd (ta tb : ZB) : ZB := fun ρ μ q e => ta ρ μ (fun b μ1 => match b with
  | true => tb ρ μ1 q e
  | false => q false μ1) e
def zOr (ta tb : ZB) : ZB := fun ρ μ q e => ta ρ μ (fun b μ1 => match b with
  | true => q true μ1
  | false => tb ρ μ1 q e) e
def zNot (ta : ZB) : ZB := fun ρ μ q e => ta ρ μ (fun b μ1 => q (!b) μ1) e
def zIf (t : ZB) (za zb : ZT) : ZT := fun ρ μ q e => t ρ μ (fun b μ1 => match b with
  | true => za ρ μ1 q e
  | false => zb ρ μ1 q e) e
/-- and, or, not as values: all parts are True or False -/
def zVal (t : ZB) : ZT := fun ρ μ q e => t ρ μ (fun b μ1 => q (.bl b) μ1) e
section
variable {K : PySem.W.Frag} {W : WX} {ta tb : TE} {za zb : ZT} {ua ub : TT} {ya yb : ZB}
theorem tru_of {x : Ax} {H : Hp} {μ : Mu} {d : D} {v : V} {k : Bool} (z : ZH K H μ x) (r : Rep K H μ x d v) (h : truD d μ = some k) : TruV K v H k := by
  have lists : ∀ {ds : List D}, seqOf d μ = some ds → k = !ds.isEmpty → TruV K v H k := fun {ds} e e2 => by
    obtain ⟨a, vs, rfl, q, l⟩ := seq_of z r e
    have ei : ds.isEmpty = vs.isEmpty := by
      have := l.length
      cases ds <;> cases vs <;> simp_all
    rw [ei] at e2
    rcases q with q | q
    · exact .inl ⟨vs, q, e2⟩
    · exact .inr (.inl ⟨vs, q, e2⟩)
  unfold truD at h
  split at h
  · cases h; rw [r.non]; exact rfl
  · cases h; rw [r.bl]; exact rfl
  · cases h; rw [r.int]; exact rfl
  · split at h
    · rename_i hs
      cases h; rw [r.str]; exact ⟨hs, rfl⟩
    · cases h
  · split at h
    · rename_i ds e
      cases h
      exact lists e rfl
    · split at h
      · rename_i a e
        split at h
        · rename_i b _ _ _ _ _ kvs e3
          cases h
          have w := z.own _ _ e3
          simp only [Own] at w
          obtain ⟨us, e4, l⟩ := w
          rw [r.ref]
          refine .inr (.inr ⟨us, e4, ?_⟩)
          cases kvs with
          | nil => simp only [RepK] at l; subst l; rfl
          | cons p r =>
            obtain ⟨j, d⟩ := p
            simp only [RepK] at l
            obtain ⟨_, _, rfl, _⟩ := l
            rfl
        · cases h
      · cases h
theorem lt_tru (la : LE K W ta za) : LT K W (tTru K ta) (zTru za) := fun x σ H ρ μ q w Q I c hz k => by
  refine la x σ H ρ μ _ w _ I c hz fun d v H1 μ1 g1 z1 r1 h1 => ?_
  split at h1
  · rename_i b e
    exact ⟨b, tru_of z1 r1 e, k b H1 μ1 g1 z1 h1⟩
  · exact h1.elim
theorem lt_tst (la : LE K W ta za) : LT K W (tTest ta) (zTst za) := fun x σ H ρ μ q w Q I c hz k => by
  refine la x σ H ρ μ _ w _ I c hz fun d v H1 μ1 g1 z1 r1 h1 => ?_
  split at h1
  · exact ⟨_, r1.bl, k _ H1 μ1 g1 z1 h1⟩
  · exact h1.elim
theorem lt_and (la : LT K W ua ya) (lb : LT K W ub yb) : LT K W (tAnd ua ub) (zAnd ya yb) := fun x σ H ρ μ q w Q I c hz k => by
  refine la x σ H ρ μ _ w _ I c hz fun b H1 μ1 g1 z1 h1 => ?_
  cases b with
  | true => exact iteT (lb x σ H1 ρ μ1 q w Q (I.grow g1 z1) (c.grow g1) h1 fun b H2 μ2 g2 z2 h2 => k b H2 μ2 (g1.trans g2) z2 h2)
  | false => exact iteF (k false H1 μ1 g1 z1 h1)
theorem lt_or (la : LT K W ua ya) (lb : LT K W ub yb) : LT K W (tOr ua ub) (zOr ya yb) := fun x σ H ρ μ q w Q I c hz k => by
  refine la x σ H ρ μ _ w _ I c hz fun b H1 μ1 g1 z1 h1 => ?_
  cases b with
  | false => exact iteF (lb x σ H1 ρ μ1 q w Q (I.grow g1 z1) (c.grow g1) h1 fun b H2 μ2 g2 z2 h2 => k b H2 μ2 (g1.trans g2) z2 h2)
  | true => exact iteT (k true H1 μ1 g1 z1 h1)
theorem lt_not (la : LT K W ua ya) : LT K W (tNot ua) (zNot ya) := fun x σ H ρ μ q w Q I c hz k =>
  la x σ H ρ μ _ w _ I c hz fun b H1 μ1 g1 z1 h1 => k (!b) H1 μ1 g1 z1 h1
theorem le_if (lt : LT K W ua ya) (la : LE K W ta za) (lb : LE K W tb zb) : LE K W (tIf ua ta tb) (zIf ya za zb) := fun x σ H ρ μ q w Q I c hz k => by
  refine lt x σ H ρ μ _ w _ I c hz fun b H1 μ1 g1 z1 h1 => ?_
  cases b with
  | true => exact iteT (la x σ H1 ρ μ1 q w Q (I.grow g1 z1) (c.grow g1) h1 fun d v H2 μ2 g2 z2 r2 h2 => k d v H2 μ2 (g1.trans g2) z2 r2 h2)
  | false => exact iteF (lb x σ H1 ρ μ1 q w Q (I.grow g1 z1) (c.grow g1) h1 fun d v H2 μ2 g2 z2 r2 h2 => k d v H2 μ2 (g1.trans g2) z2 r2 h2)
/-- a and b, a or b, not a as values -/
def zAndV (za zb : ZT) : ZT := fun ρ μ q e => za ρ μ (fun d μ1 => match d with
  | .bl true => zb ρ μ1 q e
  | .bl false => q (.bl false) μ1
  | _ => False) e
def zOrV (za zb : ZT) : ZT := fun ρ μ q e => za ρ μ (fun d μ1 => match d with
  | .bl true => q (.bl true) μ1
  | .bl false => zb ρ μ1 q e
  | _ => False) e
def zNotV (za : ZT) : ZT := fun ρ μ q e => za ρ μ (fun d μ1 => match d with
  | .bl b => q (.bl (!b)) μ1
  | _ => False) e
theorem le_andV (la : LE K W ta za) (lb : LE K W tb zb) : LE K W (tAndV ta tb) (zAndV za zb) := fun x σ H ρ μ q w Q I c hz k => by
  refine la x σ H ρ μ _ w _ I c hz fun d v H1 μ1 g1 z1 r1 h1 => ?_
  split at h1
  · exact ⟨true, r1.bl, iteT (lb x σ H1 ρ μ1 q w Q (I.grow g1 z1) (c.grow g1) h1 fun d v H2 μ2 g2 z2 r2 h2 => k d v H2 μ2 (g1.trans g2) z2 r2 h2)⟩
  · exact ⟨false, r1.bl, iteF (k _ _ H1 μ1 g1 z1 rep_bl h1)⟩
  · exact h1.elim
theorem le_orV (la : LE K W ta za) (lb : LE K W tb zb) : LE K W (tOrV ta tb) (zOrV za zb) := fun x σ H ρ μ q w Q I c hz k => by
  refine la x σ H ρ μ _ w _ I c hz fun d v H1 μ1 g1 z1 r1 h1 => ?_
  split at h1
  · exact ⟨true, r1.bl, iteT (k _ _ H1 μ1 g1 z1 rep_bl h1)⟩
  · exact ⟨false, r1.bl, iteF (lb x σ H1 ρ μ1 q w Q (I.grow g1 z1) (c.grow g1) h1 fun d v H2 μ2 g2 z2 r2 h2 => k d v H2 μ2 (g1.trans g2) z2 r2 h2)⟩
  · exact h1.elim
theorem le_notV (la : LE K W ta za) : LE K W (tNotV ta) (zNotV za) := fun x σ H ρ μ q w Q I c hz k => by
  refine la x σ H ρ μ _ w _ I c hz fun d v H1 μ1 g1 z1 r1 h1 => ?_
  split at h1
  · exact ⟨_, r1.bl, k _ _ H1 μ1 g1 z1 rep_bl h1⟩
  · exact h1.elim
end
section
variable {X : Cx} {W : WX} {a b c : Expr} {ta tb tc : TE} {za zb zc : ZT} {ua ub : TT} {ya yb : ZB} {pos : Pos} {rest : List Expr}
theorem ztru (h : ZE X W a ta za) (he : ∀ whole, isTrue a X.env whole = (do let v ← whole; standAt a.pos; holding [v] (truthy v)) := by intro _; rfl) : ZTe X W a (tTru X.K ta) (zTru za) := ⟨pt_truth h.p he, lt_tru h.l⟩
theorem ztcmp {op : CmpOp} {r : R2} {f : F2} (ho : OpR X (compareOp op) r) (hl : Lf2 X.K r f) (ha : ZE X W a ta za) (hb : ZE X W b tb zb) (hm : behindInMarks op b = false := by rfl) : ZTe X W (.Compare a [op] [b] pos) (tTest (tOp r ta tb)) (zTst (zOp f za zb)) := ⟨pt_cmpR ho ha.p hb.p hm, lt_tst (le_op hl ha.l hb.l)⟩
theorem zand1 (h : ZTe X W a ua ya) : ZTw X W (.BoolOp .And [a] pos) ua ya := ⟨pw_and1 h.p, h.l⟩
theorem zor1 (h : ZTe X W a ua ya) : ZTw X W (.BoolOp .Or [a] pos) ua ya := ⟨pw_or1 h.p, h.l⟩
theorem zand (h : ZTe X W a ua ya) (h2 : ZTw X W (.BoolOp .And (b :: rest) pos) ub yb) : ZTw X W (.BoolOp .And (a :: b :: rest) pos) (tAnd ua ub) (zAnd ya yb) := ⟨pw_and h.p h2.p, lt_and h.l h2.l⟩
theorem zor (h : ZTe X W a ua ya) (h2 : ZTw X W (.BoolOp .Or (b :: rest) pos) ub yb) : ZTw X W (.BoolOp .Or (a :: b :: rest) pos) (tOr ua ub) (zOr ya yb) := ⟨pw_or h.p h2.p, lt_or h.l h2.l⟩
theorem ztw (h : ZTw X W a ua ya) : ZTe X W a ua ya := ⟨h.p.pt, h.l⟩
theorem znot (h : ZTe X W a ua ya) : ZTe X W (.UnaryOp .Not a pos) (tNot ua) (zNot ya) := ⟨pt_not h.p, lt_not h.l⟩
theorem zifx (h : ZTe X W c ua ya) (ha : ZE X W a ta za) (hb : ZE X W b tb zb) : ZE X W (.IfExp c a b pos) (tIf ua ta tb) (zIf ya za zb) := ⟨pe_ifExp h.p ha.p hb.p, le_if h.l ha.l hb.l⟩
theorem zone {op} (h : ZE X W a ta za) : ZE X W (.BoolOp op [a] pos) ta za := ⟨pe_one h.p, h.l⟩
theorem zandV (h : ZE X W a ta za) (h2 : ZE X W (.BoolOp .And (b :: rest) pos) tb zb) : ZE X W (.BoolOp .And (a :: b :: rest) pos) (tAndV ta tb) (zAndV za zb) := ⟨pe_and h.p h2.p, le_andV h.l h2.l⟩
theorem zorV (h : ZE X W a ta za) (h2 : ZE X W (.BoolOp .Or (b :: rest) pos) tb zb) : ZE X W (.BoolOp .Or (a :: b :: rest) pos) (tOrV ta tb) (zOrV za zb) := ⟨pe_or h.p h2.p, le_orV h.l h2.l⟩
theorem znotV (h : ZE X W a ta za) : ZE X W (.UnaryOp .Not a pos) (tNotV ta) (zNotV za) := ⟨pe_not h.p, le_notV h.l⟩
/-- a < b < c -/
def zChain (f f' : F2) (za zb zc : ZT) : ZT := fun ρ μ q e => za ρ μ (fun d μ1 => zb ρ μ1 (fun d2 μ2 => f d d2 μ2 fun k μ3 => match k with
  | .bl true => zc ρ μ3 (fun d3 μ4 => f' d2 d3 μ4 q) e
  | .bl false => q (.bl false) μ3
  | _ => False) e) e
theorem le_chain {K : PySem.W.Frag} {r r' : R2} {f f' : F2} (hf : Lf2 K r f) (hf' : Lf2 K r' f') (la : LE K W ta za) (lb : LE K W tb zb) (lc : LE K W tc zc) : LE K W (tChain r r' ta tb tc) (zChain f f' za zb zc) := fun x σ H ρ μ q w Q I c hz k => by
  refine la x σ H ρ μ _ w _ I c hz fun d v H1 μ1 g1 z1 r1 h1 => ?_
  refine lb x σ H1 ρ μ1 _ w _ (I.grow g1 z1) (c.grow g1) h1 fun d2 v2 H2 μ2 g2 z2 r2 h2 => ?_
  refine hf x H2 μ2 d d2 v v2 _ _ z2 (r1.mono g2) r2 h2 fun d3 v3 H3 μ3 g3 z3 r3 h3 => ?_
  split at h3
  · refine ⟨true, r3.bl, iteT ?_⟩
    refine lc x σ H3 ρ μ3 _ w _ (I.grow (g1.trans (g2.trans g3)) z3) (c.grow (g1.trans (g2.trans g3))) h3 fun d4 v4 H4 μ4 g4 z4 r4 h4 => ?_
    exact hf' x H4 μ4 d2 d4 v2 v4 q Q z4 (r2.mono (g3.trans g4)) r4 h4 fun d5 v5 H5 μ5 g5 z5 r5 h5 => k d5 v5 H5 μ5 (g1.trans (g2.trans (g3.trans (g4.trans g5)))) z5 r5 h5
  · exact ⟨false, r3.bl, iteF (k _ _ H3 μ3 (g1.trans (g2.trans g3)) z3 rep_bl h3)⟩
  · exact h3.elim
theorem zchain {op op' : CmpOp} {r r' : R2} {f f' : F2} (ho : OpR X (compareOp op) r) (hf : Lf2 X.K r f) (ho' : OpR X (compareOp op') r') (hf' : Lf2 X.K r' f') (ha : ZE X W a ta za) (hb : ZE X W b tb zb) (hc : ZE X W c tc zc) (hm : lastMarks [op, op'] [b, c] = false := by with_unfolding_all rfl) :
    ZE X W (.Compare a [op, op'] [b, c] pos) (tChain r r' ta tb tc) (zChain f f' za zb zc) := ⟨pe_chain ho ho' ha.p hb.p hc.p hm, le_chain hf hf' ha.l hb.l hc.l⟩
theorem ztchain {op op' : CmpOp} {r r' : R2} {f f' : F2} (ho : OpR X (compareOp op) r) (hf : Lf2 X.K r f) (ho' : OpR X (compareOp op') r') (hf' : Lf2 X.K r' f') (ha : ZE X W a ta za) (hb : ZE X W b tb zb) (hc : ZE X W c tc zc) (hm : lastMarks [op, op'] [b, c] = false := by with_unfolding_all rfl) :
    ZTe X W (.Compare a [op, op'] [b, c] pos) (tTest (tChain r r' ta tb tc)) (zTst (zChain f f' za zb zc)) := ⟨pt_chain ho ho' ha.p hb.p hc.p hm, lt_tst (le_chain hf hf' ha.l hb.l hc.l)⟩
end
end Z

set_option maxRecDepth 100000
set_option maxHeartbeats 4000000
namespace Z
open PySem L2 PyProof.Rows

/-! ### subscripts -/
section
variable {X : Cx}
theorem ix_dct (hu : X.A.units + 1 < cLine) : IxR X (fun x y H Q => ∃ a v, x = .ref a ∧ DGet H a y (some v) ∧ Q v H) := by
  intro value slice pins s σ H x y v u Q I rx ry h hs
  obtain ⟨a, w, rfl, g, q⟩ := h
  obtain rfl : v = Value.ref a := rx
  have hT := dict_typeIs I g
  unfold subscriptTail
  refine wpAny_bind ?_
  rw [getitemInPython_of_ne hT.not_modules]
  refine wpAny_bind (wpAny_specialOf hT PySem.F.slot_dict_getitem.lookup ?_)
  have fin : wpAny (model X.prog X.w) X.A (subscripted slice false (.ref a) u) (fun r s₃ => wpAny (model X.prog X.w) X.A (letTemporaryGo value (.ref a) r >>= fun _ => pure r) (EP X pins σ Q) X.xe s₃) X.xe s := by
    rw [hs]
    exact wpAny_operating (d_getItem hu I g ry fun w' s3 I3 rw' => wpAny_bind (wpAny_letTemporaryGo (wpAny_pure ⟨w, H, I3, rw', q⟩)))
  first
    | exact wpAny_pure (wpAny_bind fin)
    | exact wpAny_bind (wpAny_pure (wpAny_bind fin))
    | exact wpAny_bind fin
def rIxAll (K : PySem.W.Frag) : R2 := fun x y H Q => (∃ a v, x = .ref a ∧ DGet H a y (some v) ∧ Q v H) ∨ rIx K x y H Q
theorem ix_all (hu : X.A.units + 1 < cLine) : IxR X (rIxAll X.K) := (ix_dct hu).or ix_seq
end
def zIx : F2 := fun a i μ q => match dctOf a μ with
  | some kvs => match keyOf i with
    | some k => match lookK k kvs with
      | some d => q d μ
      | none => False
    | none => False
  | none => match i with
    | .int n => match a with
      | .str s => match atI s.cps.toList n with
        | some c => s.length ≤ sizeLine ∧ q (.str ⟨#[c]⟩) μ
        | none => False
      | a => match seqOf a μ with
        | some ds => match atI ds n with
          | some d => q d μ
          | none => False
        | none => False
    | _ => False
theorem atI_ofNat {α : Type} {xs : List α} {n : Nat} : atI xs (Int.ofNat n) = xs[n]? := by
  cases h : xs[n]? with
  | some v => exact atI_nat h
  | none =>
    have hn := List.getElem?_eq_none_iff.mp h
    unfold atI ixN
    rw [if_pos (by exact Int.natCast_nonneg n), if_neg (by show ¬ ((n : Int) < _); omega)]
    rfl
@[simp] theorem atI_lit {α : Type} {xs : List α} {n : Nat} : atI xs (@OfNat.ofNat Int n instOfNat) = xs[n]? := atI_ofNat
@[simp] theorem atI_cast {α : Type} {xs : List α} {n : Nat} : atI xs ((n : Nat) : Int) = xs[n]? := atI_ofNat
@[simp] theorem atI_neg1 {α : Type} {xs : List α} : atI xs (-1) = xs.getLast? := by
  unfold atI ixN
  rw [if_neg (by decide)]
  cases xs with
  | nil => rfl
  | cons a r =>
    rw [if_pos (by simp; omega), List.getLast?_eq_getElem?]
    have e : ((-1 : Int) + (((a :: r).length : Nat) : Int)).toNat = (a :: r).length - 1 := by simp only [List.length_cons]; omega
    show (a :: r)[((-1 : Int) + (((a :: r).length : Nat) : Int)).toNat]? = _
    rw [e]
section
variable {K : PySem.W.Frag} {H : Hp} {μ : Mu} {x : Ax}
theorem atI_rep {ds : List D} {vs : List V} {i : Int} {d : D} (l : RepL K H μ x ds vs) (h : atI ds i = some d) : ∃ v, atI vs i = some v ∧ Rep K H μ x d v := by
  unfold atI at h ⊢
  rw [← l.length]
  cases e : ixN ds.length i with
  | none => rw [e] at h; cases h
  | some j =>
    rw [e] at h
    exact l.get h
theorem lf_ix : Lf2 K (rIxAll K) zIx := fun x H μ d e v u q Q z r1 r2 h p => by
  unfold zIx at h
  split at h
  · rename_i kvs e1
    split at h
    · rename_i k e2
      split at h
      · rename_i w e3
        obtain ⟨a, us, rfl, q1, l⟩ := dct_of z r1 e1
        obtain ⟨v', e4, r4⟩ := (look_of (k := k) l).1 w e3
        rw [key_of r2 e2]
        exact .inl ⟨a, v', rfl, .inl ⟨us, k, q1, rfl, e4.symm⟩, p.here z r4 h⟩
      · exact h.elim
    · exact h.elim
  · split at h
    · split at h
      · split at h
        · rename_i c e3
          rw [r1.str, r2.int]
          exact .inr (.inr (.inr ⟨_, _, c, rfl, rfl, h.1, e3, p.here z rep_str h.2⟩))
        · exact h.elim
      · split at h
        · rename_i ds e3
          split at h
          · rename_i w e4
            obtain ⟨a, vs, rfl, q1, l⟩ := seq_of z r1 e3
            obtain ⟨v', e5, r5⟩ := atI_rep l e4
            rw [r2.int]
            rcases q1 with q1 | q1
            · exact .inr (.inl ⟨a, vs, _, v', rfl, rfl, q1, e5, p.here z r5 h⟩)
            · exact .inr (.inr (.inl ⟨a, vs, _, v', rfl, rfl, q1, e5, p.here z r5 h⟩))
          · exact h.elim
        · exact h.elim
    · exact h.elim
end
section
variable {X : Cx} {W : WX} {a b : Expr} {ta tb : TE} {za zb : ZT} {pos : Pos}
theorem zix {r : R2} {f : F2} (ho : IxR X r) (hl : Lf2 X.K r f) (ha : ZE X W a ta za) (hb : ZE X W b tb zb) (hs : PlainIx b := by exact fun _ _ => rfl) : ZE X W (.Subscript a b pos) (tOp r ta tb) (zOp f za zb) := ⟨pe_ix ho ha.p hb.p hs, le_op hl ha.l hb.l⟩
end

/-! ### slices -/
def cutD {α : Type} (xs : List α) (lo hi : Option Int) : List α := (xs.drop (HT.sIx xs.length 0 lo)).take (HT.sIx xs.length xs.length hi - HT.sIx xs.length 0 lo)
def zSl (a : D) (lo hi : Option Int) (μ : Mu) (q : ZQ) : Prop := match a with
  | .str s => s.length ≤ sizeLine ∧ q (.str (cutS s lo hi)) μ
  | .tup ds => q (.tup (cutD ds lo hi)) μ
  | a => match lstOf a μ with
    | some ds => q (.lst (cutD ds lo hi)) μ
    | none => False
abbrev ZO := Sl → Mu → (Option Int → Mu → Prop) → ZX → Prop
def zNoP : ZO := fun _ μ q _ => q none μ
def zPart (z : ZT) : ZO := fun ρ μ q e => z ρ μ (fun d μ1 => match d with
  | .int i => q (some i) μ1
  | _ => False) e
def zSlice (za : ZT) (zl zh : ZO) : ZT := fun ρ μ q e => za ρ μ (fun d μ1 => zl ρ μ1 (fun l μ2 => zh ρ μ2 (fun h μ3 => zSl d l h μ3 q) e) e) e
def LO (K : PySem.W.Frag) (W : WX) (t : TO) (z : ZO) : Prop :=
  ∀ (x : Ax) (σ : L2.St) (H : Hp) (ρ : Sl) (μ : Mu) (q : Option Int → Mu → Prop) (w : ZW) (Q : Option Int → Hp → Prop), ZInv K σ H ρ μ x → WC K W w H μ x → z ρ μ q (fun r μ' => w r ρ μ') →
    (∀ o H' μ', Grow H μ H' μ' x → ZH K H' μ' x → q o μ' → Q o H') → t σ H Q
structure ZPo (X : Cx) (W : WX) (e : Option Expr) (t : TO) (z : ZO) : Prop where
  p : PO X e t
  l : LO X.K W t z
def rSlAll (K : PySem.W.Frag) : V → Option Int → Option Int → Hp → VK → Prop := fun x lo hi H Q => rSlS x lo hi H Q ∨ rSlA K x lo hi H Q ∨ rSlL K x lo hi H Q
section
variable {X : Cx} {W : WX} {e : Expr} {te : TE} {ze : ZT} {lo hi : Option Expr} {tl th : TO} {zl zh : ZO} {pos p2 : Pos}
theorem sl_all : SlR X (rSlAll X.K) := sl_str.or (sl_tupA.or sl_list)
theorem znop : ZPo X W none tNoPart zNoP := ⟨po_none, fun x σ H ρ μ q w Q I c hz k => k none H μ Grow.refl I.zh hz⟩
theorem zpart (h : ZE X W e te ze) : ZPo X W (some e) (tPart te) (zPart ze) := ⟨po_some h.p, fun x σ H ρ μ q w Q I c hz k => by
  refine h.l x σ H ρ μ _ w _ I c hz fun d v H1 μ1 g1 z1 r1 h1 => ?_
  split at h1
  · exact ⟨_, r1.int, k _ H1 μ1 g1 z1 h1⟩
  · exact h1.elim⟩
theorem lf_sl {K : PySem.W.Frag} {x : Ax} {H : Hp} {μ : Mu} {d : D} {v : V} {lo hi : Option Int} {q : ZQ} {Q : VK} (z : ZH K H μ x) (r : Rep K H μ x d v) (h : zSl d lo hi μ q) (p : Post K H μ x q Q) : rSlAll K v lo hi H Q := by
  unfold zSl at h
  split at h
  · rw [r.str]; exact .inl ⟨_, rfl, h.1, p.here z rep_str h.2⟩
  · rename_i ds
    obtain ⟨a, vs, rfl, q1, l⟩ := r.tup
    have hl := l.length
    refine .inr (.inl ⟨a, vs, rfl, q1, fun hw => ?_, fun _ => ?_⟩)
    · rw [← hl] at hw
      have e : cutD ds lo hi = ds := by
        unfold cutD
        rw [hw.1, hw.2, List.drop_zero, Nat.sub_zero, List.take_length]
      rw [e] at h
      exact p.here z r h
    refine new_tup z ?_ p h
    unfold cutV cutD
    rw [← hl]
    exact (l.drop _).take _
  · split at h
    · rename_i ds e
      obtain ⟨a, vs, rfl, q1, l⟩ := lst_of z r e
      have hl := l.length
      refine .inr (.inr ⟨a, vs, rfl, q1, ?_⟩)
      refine new_lst z ?_ p h
      unfold cutV cutD
      rw [← hl]
      exact (l.drop _).take _
    · exact h.elim
theorem zslice (he : ZE X W e te ze) (hl : ZPo X W lo tl zl) (hh : ZPo X W hi th zh) : ZE X W (.Subscript e (.Slice lo hi none p2) pos) (tSl (rSlAll X.K) te tl th) (zSlice ze zl zh) := ⟨pe_slice sl_all he.p hl.p hh.p, fun x σ H ρ μ q w Q I c hz k => by
  refine he.l x σ H ρ μ _ w _ I c hz fun d v H1 μ1 g1 z1 r1 h1 => ?_
  refine hl.l x σ H1 ρ μ1 _ w _ (I.grow g1 z1) (c.grow g1) h1 fun l H2 μ2 g2 z2 h2 => ?_
  refine hh.l x σ H2 ρ μ2 _ w _ (I.grow (g1.trans g2) z2) (c.grow (g1.trans g2)) h2 fun u H3 μ3 g3 z3 h3 => ?_
  exact lf_sl z3 (r1.mono (g2.trans g3)) h3 fun d4 v4 H4 μ4 g4 z4 r4 h4 => k d4 v4 H4 μ4 (g1.trans (g2.trans (g3.trans g4))) z4 r4 h4⟩
end

/-! ### calls of built-ins -/
def lenD (d : D) (μ : Mu) : Option Nat := match d with
  | .str s => if s.length ≤ sizeLine then some s.length else none
  | d => match seqOf d μ with
    | some ds => some ds.length
    | none => match dctOf d μ with
      | some kvs => some kvs.length
      | none => none
def zLen : FL := fun ds μ q => match ds with
  | [d] => match lenD d μ with
    | some n => q (.int (n : Nat)) μ
    | none => False
  | _ => False
def zAbs : FL := fun ds μ q => match ds with
  | [.int i] => q (.int (if i < 0 then -i else i)) μ
  | _ => False
def zToInt : FL := fun ds μ q => match ds with
  | [.int i] => q (.int i) μ
  | [.bl b] => q (.int (if b then 1 else 0)) μ
  | [.str s] => match PySem.intText? s with
    | some n => s.length ≤ 640 ∧ q (.int n) μ
    | none => False
  | _ => False
def zToStr : FL := fun ds μ q => match ds with
  | [.int i] => i.natAbs.log2 < 1920 ∧ q (.str (toString i)) μ
  | [.str s] => q (.str s) μ
  | _ => False
def zToList : FL := fun ds μ q => match ds with
  | [d] => match seqOf d μ with
    | some es => q (.lst es) μ
    | none => False
  | _ => False
def zToListO : FL := fun ds μ q => match ds with
  | [d] => match seqOf d μ with
    | some es => ∀ p, μ p = none → q (.ref p) (updM μ p (.lst es))
    | none => False
  | _ => False
def zToTup : FL := fun ds μ q => match ds with
  | [d] => match seqOf d μ with
    | some es => q (.tup es) μ
    | none => False
  | _ => False
def blOf : D → Option Bool
  | .bl b => some b
  | _ => none
def blsOf : List D → Option (List Bool)
  | [] => some []
  | d :: ds => match blOf d, blsOf ds with
    | some b, some bs => some (b :: bs)
    | _, _ => none
def intsOf : List D → Option (List Int)
  | [] => some []
  | .int i :: ds => match intsOf ds with
    | some is => some (i :: is)
    | none => none
  | _ :: _ => none
def zAll : FL := fun ds μ q => match ds with
  | [d] => match lstOf d μ with
    | some es => match blsOf es with
      | some bs => q (.bl (bs.all id)) μ
      | none => False
    | none => False
  | _ => False
def zSum : FL := fun ds μ q => match ds with
  | [d] => match lstOf d μ with
    | some es => match intsOf es with
      | some is => q (.int is.sum) μ
      | none => False
    | none => False
  | _ => False
def zMax : FL := fun ds μ q => match ds with
  | [.int i, .int j] => q (.int (if j > i then j else i)) μ
  | [d] => match lstOf d μ with
    | some es => match intsOf es with
      | some is => 0 < is.length ∧ ∀ m, m ∈ is → (∀ y, y ∈ is → y ≤ m) → q (.int m) μ
      | none => False
    | none => False
  | _ => False
def zMin : FL := fun ds μ q => match ds with
  | [.int i, .int j] => q (.int (if j < i then j else i)) μ
  | [d] => match lstOf d μ with
    | some es => match intsOf es with
      | some is => 0 < is.length ∧ ∀ m, m ∈ is → (∀ y, y ∈ is → m ≤ y) → q (.int m) μ
      | none => False
    | none => False
  | _ => False
/-- dict(d): a copy that will change -/
def zToDctO : FL := fun ds μ q => match ds with
  | [d] => match dctOf d μ with
    | some kvs => ∀ p, μ p = none → q (.ref p) (updM μ p (.dct kvs))
    | none => False
  | _ => False
section
variable {X : Cx} {K : PySem.W.Frag}
def rLenAll (K : PySem.W.Frag) : List V → Hp → VK → Prop := fun xs H Q => (∃ x n, xs = [x] ∧ LenV K x H n ∧ Q (.int n) H) ∨ ∃ a kvs, xs = [V.ref a] ∧ Rd H a (.dK kvs) ∧ Q (.int kvs.length) H
theorem call_lenR : CallR X (.builtin "len") (fun xs H Q => ∃ a kvs, xs = [V.ref a] ∧ Rd H a (.dK kvs) ∧ Q (.int kvs.length) H) := by
  intro pins s σ H xs us Q I r h
  obtain ⟨a, kvs, rfl, ha, q⟩ := h
  obtain ⟨u, rfl, ru⟩ := vals1 r
  cases ru
  exact d_len I ha fun t s' I' => ⟨.int kvs.length, H, I', ⟨t, rfl⟩, q⟩
theorem call_lenAll : CallR X (.builtin "len") (rLenAll X.K) := call_len.or call_lenR
theorem repl1 {H : Hp} {μ : Mu} {x : Ax} {d : D} {vs : List V} (l : RepL K H μ x [d] vs) : ∃ v, vs = [v] ∧ Rep K H μ x d v := by
  simp only [RepL] at l
  obtain ⟨v, r, rfl, h1, rfl⟩ := l
  exact ⟨v, rfl, h1⟩
theorem repl2 {H : Hp} {μ : Mu} {x : Ax} {d e : D} {vs : List V} (l : RepL K H μ x [d, e] vs) : ∃ v u, vs = [v, u] ∧ Rep K H μ x d v ∧ Rep K H μ x e u := by
  simp only [RepL] at l
  obtain ⟨v, r, rfl, h1, u, r', rfl, h2, rfl⟩ := l
  exact ⟨v, u, rfl, h1, h2⟩
theorem repl3 {H : Hp} {μ : Mu} {x : Ax} {d e f : D} {vs : List V} (l : RepL K H μ x [d, e, f] vs) : ∃ v u t, vs = [v, u, t] ∧ Rep K H μ x d v ∧ Rep K H μ x e u ∧ Rep K H μ x f t := by
  simp only [RepL] at l
  obtain ⟨v, r, rfl, h1, u, r', rfl, h2, t, r'', rfl, h3, rfl⟩ := l
  exact ⟨v, u, t, rfl, h1, h2, h3⟩
theorem RepK.length {H : Hp} {μ : Mu} {x : Ax} : ∀ {kvs : List (Key × D)} {us : List (Key × V)}, RepK K H μ x kvs us → kvs.length = us.length
  | [], us, l => by simp only [RepK] at l; subst l; rfl
  | (k, d) :: r, us, l => by
    simp only [RepK] at l
    obtain ⟨v, r', rfl, _, h2⟩ := l
    simp [RepK.length h2]
theorem lf_len : LfL K (rLenAll K) zLen := fun x H μ ds vs q Q z l h p => by
  unfold zLen at h
  split at h
  · rename_i d
    obtain ⟨v, rfl, r⟩ := repl1 l
    split at h
    · rename_i n e
      unfold lenD at e
      split at e
      · split at e
        · rename_i hs
          cases e
          rw [r.str]
          exact .inl ⟨_, _, rfl, ⟨hs, rfl⟩, p.here z rep_int h⟩
        · cases e
      · split at e
        · rename_i es e2
          cases e
          obtain ⟨a, us, rfl, q1, l2⟩ := seq_of z r e2
          refine .inl ⟨_, es.length, rfl, ?_, p.here z rep_int h⟩
          rw [l2.length]
          exact q1.imp (fun q => ⟨us, q, rfl⟩) (fun q => ⟨us, q, rfl⟩)
        · split at e
          · rename_i kvs e2
            cases e
            obtain ⟨a, us, rfl, q1, l2⟩ := dct_of z r e2
            have hl : kvs.length = us.length := l2.length
            exact .inr ⟨a, us, rfl, q1, by rw [← hl]; exact p.here z rep_int h⟩
          · cases e
    · exact h.elim
  · exact h.elim
theorem lf_abs : LfL K (fun xs H Q => ∃ i, xs = [.int i] ∧ Q (.int (if i < 0 then -i else i)) H) zAbs := fun x H μ ds vs q Q z l h p => by
  unfold zAbs at h
  split at h
  · obtain ⟨v, rfl, r⟩ := repl1 l
    exact ⟨_, by rw [r.int], p.here z rep_int h⟩
  · exact h.elim
def rToInt : List V → Hp → VK → Prop := fun xs H Q => ((∃ i, xs = [.int i] ∧ Q (.int i) H) ∨ ∃ k, xs = [.bl k] ∧ Q (.int (if k then 1 else 0)) H) ∨ ∃ a n, xs = [.str a] ∧ PySem.intText? a = some n ∧ a.length ≤ 640 ∧ Q (.int n) H
theorem call_toInt : CallR X (.type "int") rToInt := call_int1.or call_int_str
theorem lf_toInt : LfL K rToInt zToInt := fun x H μ ds vs q Q z l h p => by
  unfold zToInt at h
  split at h
  · obtain ⟨v, rfl, r⟩ := repl1 l
    exact .inl (.inl ⟨_, by rw [r.int], p.here z rep_int h⟩)
  · obtain ⟨v, rfl, r⟩ := repl1 l
    exact .inl (.inr ⟨_, by rw [r.bl], p.here z rep_int h⟩)
  · obtain ⟨v, rfl, r⟩ := repl1 l
    split at h
    · rename_i n e
      exact .inr ⟨_, n, by rw [r.str], e, h.1, p.here z rep_int h.2⟩
    · exact h.elim
  · exact h.elim
def rToStr : List V → Hp → VK → Prop := fun xs H Q => (∃ i, xs = [.int i] ∧ i.natAbs.log2 < 1920 ∧ Q (.str (toString i)) H) ∨ ∃ a, xs = [.str a] ∧ Q (.str a) H
theorem call_toStr : CallR X (.type "str") rToStr := call_str_int.or SkE.call_str_str
theorem lf_toStr : LfL K rToStr zToStr := fun x H μ ds vs q Q z l h p => by
  unfold zToStr at h
  split at h
  · obtain ⟨v, rfl, r⟩ := repl1 l
    exact .inl ⟨_, by rw [r.int], h.1, p.here z rep_str h.2⟩
  · obtain ⟨v, rfl, r⟩ := repl1 l
    exact .inr ⟨_, by rw [r.str], p.here z rep_str h⟩
  · exact h.elim
def rToList (K : PySem.W.Frag) : List V → Hp → VK → Prop := fun xs H Q => ∃ p ys, xs = [.ref p] ∧ (SqL K H p ys ∨ SqT K H p ys) ∧ ∀ l, H l = none → Q (.ref l) (upd H l (.lst ys))
theorem lf_toList : LfL K (rToList K) zToList := fun x H μ ds vs q Q z l h p => by
  unfold zToList at h
  split at h
  · obtain ⟨v, rfl, r⟩ := repl1 l
    split at h
    · rename_i es e
      obtain ⟨a, us, rfl, q1, l2⟩ := seq_of z r e
      exact ⟨a, us, rfl, q1, new_lst z l2 p h⟩
    · exact h.elim
  · exact h.elim
theorem lf_toListO : LfL K (rToList K) zToListO := fun x H μ ds vs q Q z l h p => by
  unfold zToListO at h
  split at h
  · obtain ⟨v, rfl, r⟩ := repl1 l
    split at h
    · rename_i es e
      obtain ⟨a, us, rfl, q1, l2⟩ := seq_of z r e
      exact ⟨a, us, rfl, q1, new_lstO z l2 p h⟩
    · exact h.elim
  · exact h.elim
def rToTup (K : PySem.W.Frag) : List V → Hp → VK → Prop := fun xs H Q => ∃ p ys, xs = [.ref p] ∧ ((SqL K H p ys ∧ ∀ l, H l = none → Q (.ref l) (upd H l (.tup ys))) ∨ (SqT K H p ys ∧ Q (.ref p) H))
theorem lf_toTup : LfL K (rToTup K) zToTup := fun x H μ ds vs q Q z l h p => by
  unfold zToTup at h
  split at h
  · obtain ⟨v, rfl, r⟩ := repl1 l
    rename_i d
    split at h
    · rename_i es e
      cases d with
      | tup fs =>
        cases (Option.some.inj e : fs = es)
        obtain ⟨a, us, rfl, q1, l2⟩ := r.tup
        exact ⟨a, us, rfl, .inr ⟨q1, p.here z r h⟩⟩
      | lst fs =>
        obtain ⟨a, us, rfl, q1, l2⟩ := lst_of z r (ds := es) e
        exact ⟨a, us, rfl, .inl ⟨q1, new_tup z l2 p h⟩⟩
      | klst fs =>
        obtain ⟨a, us, rfl, q1, l2⟩ := lst_of z r (ds := es) e
        exact ⟨a, us, rfl, .inl ⟨q1, new_tup z l2 p h⟩⟩
      | ref fs =>
        obtain ⟨a, us, rfl, q1, l2⟩ := lst_of z r (ds := es) e
        exact ⟨a, us, rfl, .inl ⟨q1, new_tup z l2 p h⟩⟩
      | _ => cases e
    · exact h.elim
  · exact h.elim
theorem bls_of {H : Hp} {μ : Mu} {x : Ax} : ∀ {ds : List D} {vs : List V} {bs : List Bool}, RepL K H μ x ds vs → blsOf ds = some bs → vs = bs.map V.bl
  | [], vs, bs, l, h => by simp only [blsOf, Option.some.injEq] at h; subst h; simpa [RepL] using l
  | d :: ds, vs, bs, l, h => by
    simp only [RepL] at l
    obtain ⟨v, r, rfl, h1, h2⟩ := l
    simp only [blsOf] at h
    split at h
    · rename_i b bs' e1 e2
      cases h
      cases d <;> simp only [blOf] at e1
      all_goals first | (cases e1; rw [h1.bl, bls_of h2 e2]; rfl) | (cases e1)
    · cases h
theorem ints_of {H : Hp} {μ : Mu} {x : Ax} : ∀ {ds : List D} {vs : List V} {bs : List Int}, RepL K H μ x ds vs → intsOf ds = some bs → vs = bs.map V.int
  | [], vs, bs, l, h => by simp only [intsOf, Option.some.injEq] at h; subst h; simpa [RepL] using l
  | .int i :: ds, vs, bs, l, h => by
    simp only [RepL] at l
    obtain ⟨v, r, rfl, h1, h2⟩ := l
    simp only [intsOf] at h
    split at h
    · rename_i bs' e2
      cases h
      rw [h1.int, ints_of h2 e2]; rfl
    · cases h
  | .non :: ds, vs, bs, l, h => by simp only [intsOf] at h; cases h
  | .bl _ :: ds, vs, bs, l, h => by simp only [intsOf] at h; cases h
  | .str _ :: ds, vs, bs, l, h => by simp only [intsOf] at h; cases h
  | .lst _ :: ds, vs, bs, l, h => by simp only [intsOf] at h; cases h
  | .klst _ :: ds, vs, bs, l, h => by simp only [intsOf] at h; cases h
  | .tup _ :: ds, vs, bs, l, h => by simp only [intsOf] at h; cases h
  | .dct _ :: ds, vs, bs, l, h => by simp only [intsOf] at h; cases h
  | .ins _ _ :: ds, vs, bs, l, h => by simp only [intsOf] at h; cases h
  | .ref _ :: ds, vs, bs, l, h => by simp only [intsOf] at h; cases h
  | .oth _ :: ds, vs, bs, l, h => by simp only [intsOf] at h; cases h
theorem lf_all : LfL K (rAll K) zAll := fun x H μ ds vs q Q z l h p => by
  unfold zAll at h
  split at h
  · obtain ⟨v, rfl, r⟩ := repl1 l
    split at h
    · rename_i es e
      split at h
      · rename_i bs e2
        obtain ⟨a, us, rfl, q1, l2⟩ := lst_of z r e
        have e3 := bls_of l2 e2
        subst e3
        exact ⟨a, bs, rfl, q1, p.here z rep_bl h⟩
      · exact h.elim
    · exact h.elim
  · exact h.elim
theorem lf_sum : LfL K (rSum K) zSum := fun x H μ ds vs q Q z l h p => by
  unfold zSum at h
  split at h
  · obtain ⟨v, rfl, r⟩ := repl1 l
    split at h
    · rename_i es e
      split at h
      · rename_i bs e2
        obtain ⟨a, us, rfl, q1, l2⟩ := lst_of z r e
        have e3 := ints_of l2 e2
        subst e3
        exact ⟨a, bs, rfl, q1, p.here z rep_int h⟩
      · exact h.elim
    · exact h.elim
  · exact h.elim
def rMaxAll (K : PySem.W.Frag) : List V → Hp → VK → Prop := fun xs H Q => (∃ i j, xs = [.int i, .int j] ∧ Q (.int (if j > i then j else i)) H) ∨ rMax K xs H Q
def rMinAll (K : PySem.W.Frag) : List V → Hp → VK → Prop := fun xs H Q => (∃ i j, xs = [.int i, .int j] ∧ Q (.int (if j < i then j else i)) H) ∨ rMin K xs H Q
theorem call_maxAll (hc : X.calm = true) : CallR X (.builtin "max") (rMaxAll X.K) := (call_max2 hc).or (cr_max hc)
theorem call_minAll (hc : X.calm = true) : CallR X (.builtin "min") (rMinAll X.K) := (call_min2 hc).or (cr_min hc)
theorem lf_max : LfL K (rMaxAll K) zMax := fun x H μ ds vs q Q z l h p => by
  unfold zMax at h
  split at h
  · obtain ⟨v, u, rfl, r, r2⟩ := repl2 l
    rw [r.int, r2.int]
    exact .inl ⟨_, _, rfl, p.here z rep_int h⟩
  · obtain ⟨v, rfl, r⟩ := repl1 l
    split at h
    · rename_i es e
      split at h
      · rename_i bs e2
        obtain ⟨a, us, rfl, q1, l2⟩ := lst_of z r e
        have e3 := ints_of l2 e2
        subst e3
        exact .inr ⟨a, bs, rfl, q1, h.1, fun m hm hy => p.here z rep_int (h.2 m hm hy)⟩
      · exact h.elim
    · exact h.elim
  · exact h.elim
theorem lf_min : LfL K (rMinAll K) zMin := fun x H μ ds vs q Q z l h p => by
  unfold zMin at h
  split at h
  · obtain ⟨v, u, rfl, r, r2⟩ := repl2 l
    rw [r.int, r2.int]
    exact .inl ⟨_, _, rfl, p.here z rep_int h⟩
  · obtain ⟨v, rfl, r⟩ := repl1 l
    split at h
    · rename_i es e
      split at h
      · rename_i bs e2
        obtain ⟨a, us, rfl, q1, l2⟩ := lst_of z r e
        have e3 := ints_of l2 e2
        subst e3
        exact .inr ⟨a, bs, rfl, q1, h.1, fun m hm hy => p.here z rep_int (h.2 m hm hy)⟩
      · exact h.elim
    · exact h.elim
  · exact h.elim
def rToDct : List V → Hp → VK → Prop := fun xs H Q => ∃ (a : Addr) (kvs : List (Key × V)), xs = [.ref a] ∧ Rd H a (.dK kvs) ∧ ∀ p, H p = none → Q (.ref p) (upd H p (.dK kvs))
theorem lf_toDctO : LfL K rToDct zToDctO := fun x H μ ds vs q Q z l h p => by
  unfold zToDctO at h
  split at h
  · obtain ⟨v, rfl, r⟩ := repl1 l
    split at h
    · rename_i es e
      obtain ⟨a, us, rfl, q1, l2⟩ := dct_of z r e
      exact ⟨a, us, rfl, q1, new_dctO z l2 p h⟩
    · exact h.elim
  · exact h.elim
end
end Z

namespace Z
open PySem PySem.Spec PyProof.Rows L2
theorem passLN {X : Cx} : Passes (L2N.CX X.prog X.w) X E0 := fun _ _ _ _ _ _ _ h => by
  obtain ⟨a, B, H', cls, d, rfl, fl, hok, ub, na, os, ag, hE⟩ := h
  exact hE.elim
theorem takes0N {X : Cx} : L2N.Takes X (fun _ _ _ _ => False) := fun _ _ x => by
  obtain ⟨a, B, sI, pins, σ, H, cls, d, e, I, nb, up, sky, na, os, ag, w⟩ := x
  exact w.elim
section
variable {P : Program} {w : World} {K : PySem.W.Frag} {mg : PySem.Str → Option Value} {base : Heap}
theorem okXN {x qual : PySem.Str} {st : Stmt} {f : Addr} {fd : FuncData} {N ps : List PySem.Str} {k : Nat} {sp : Sp} (F : Fun K x qual st f fd) (S : FnScope N ps (defScope st)) (len : ∀ vs H Q E, sp vs H Q E → vs.length = ps.length)
    (hbody : ∀ (cdv : Value) (A : Around) (outer : List Env) (s : Shared) (H : Hp) (vs : List V) (Q : VK) (E : XK), Room k (A.deeper (envOfC qual (defScope st) s.heap.objs.size f cdv)) → sp vs H Q E →
      ∃ t, PSs (cxOf (L2N.CX P w) P w K mg base N qual (defScope st) f cdv A outer s H E) (defBody st) t ∧ t { nx := fun _ H' => Q .non H', rt := Q } (start N vs) H) : FnOk P w K mg base (L2N.CX P w) (k + 1) f fd ps sp := by
  obtain ⟨oc, od, kV, doc, pm, an, cdv, ct, osl, rfl, lk, hcd⟩ := F.ex
  exact fn_of lk hcd S len fun A outer s H vs Q E hr hsp => hbody cdv A outer s H vs Q E hr hsp
end
end Z

set_option maxRecDepth 100000
set_option maxHeartbeats 4000000
namespace Z
open PySem L2

/-- what a body's rules lean on -/
structure ZC (X : Cx) (W : WX) (k : Nat) : Prop where
  calm : X.calm = true
  nd : X.N.Nodup
  room : Room k X.A
  tk : L2N.Takes X W
  po : PassesOwn (model X.prog X.w) X.A X.env X.xe
theorem ZC.hu {X : Cx} {W : WX} {k : Nat} (c : ZC X W k) : X.A.units + 1 < cLine := hu_of c.room
theorem ZC.hu65 {X : Cx} {W : WX} {k : Nat} (c : ZC X W k) : X.A.units + 65 < cLine := by have := c.room.un; omega
theorem ZC.hu64 {X : Cx} {W : WX} {k : Nat} (c : ZC X W k) : X.A.units + 64 < cLine := c.room.units

/-! ### calls of defs -/
abbrev Zp := List D → Mu → ZQ → ZX → Prop
def spOf (K : PySem.W.Frag) (n : Nat) (S : Zp) : Sp := fun vs H Q E => vs.length = n ∧ ∃ x ds μ q e, ZH K H μ x ∧ RepL K H μ x ds vs ∧ S ds μ q e ∧ Post K H μ x q Q ∧
  ∀ r cls dd H' μ', Grow H μ H' μ' x → ZH K H' μ' x → ErrRep K H' μ' x r cls dd → e r μ' → E cls dd H'
def zCall (S : Zp) (zas : ZA) : ZT := fun ρ μ q e => zas ρ μ (fun ds μ1 => S ds μ1 q e) e
def zCall0 (S : Zp) : ZT := fun ρ μ q e => S [] μ q (fun _ _ => False)
section
variable {X : Cx} {W : WX} {k j n : Nat} {f : Addr} {fd : FuncData} {ps : List Str} {S : Zp} {x : Str} {p pos : Pos} {e : Expr} {es : List Expr} {tas : TA} {zas : ZA}
theorem le_call (la : LA X.K W n tas zas) : LE X.K W (tCallS (spOf X.K n S) (WE W) tas) (zCall S zas) := fun x σ H ρ μ q w Q I c hz k => by
  refine la x σ H ρ μ _ w _ I c hz fun ds vs H1 μ1 g1 z1 r1 l1 h1 => ?_
  refine ⟨l1, x, ds, μ1, q, _, z1, r1, h1, fun d v H' μ' g => k d v H' μ' (g1.trans g), fun r cls dd H' μ' g z er hw => ?_⟩
  exact c σ H' ρ μ' cls dd r (g1.trans g) (I.grow (g1.trans g) z) er hw
theorem zcall (c : ZC X W k) (F : FnOk X.prog X.w X.K X.mg X.base (L2N.CX X.prog X.w) j f fd ps (spOf X.K n S)) (hm : X.mg x = some (.ref f)) (hk : PySem.W.keepIn X.K (.ref f) = true) (hb : Binds X.K fd ps []) (ha : ZAr X W n (e :: es) tas zas) (hj : j ≤ k := by decide)
    (hg : Gl X x := by rfl) (hdb : (x == ("__debug__" : Str)) = false := by decide) (he : starEach (e :: es) X.env = (false, eval e X.env) :: starEach es X.env := by rfl) (hpl : (backTo pos (starEach es X.env)).any (·.1) = false := by rfl) :
    ZE X W (.Call (.Name x p) (e :: es) [] pos) (tCallS (spOf X.K n S) (WE W) tas) (zCall S zas) :=
  ⟨pe_callS F (c.room.mono hj) hg hm hk hb (fun σ => L2N.passAt c.tk σ) ha.p hdb he hpl, le_call ha.l⟩
theorem zcall0 (c : ZC X W k) (F : FnOk X.prog X.w X.K X.mg X.base (L2N.CX X.prog X.w) j f fd ps (spOf X.K 0 S)) (hm : X.mg x = some (.ref f)) (hk : PySem.W.keepIn X.K (.ref f) = true) (hb : Binds X.K fd ps []) (hj : j ≤ k := by decide)
    (hg : Gl X x := by rfl) (hdb : (x == ("__debug__" : Str)) = false := by decide) :
    ZE X W (.Call (.Name x p) [] [] pos) (tCall (spOf X.K 0 S) [] E0 tNil) (zCall0 S) :=
  ⟨pe_call0 F (c.room.mono hj) hg hm hk hb .nil Z.passLN hdb, fun x σ H ρ μ q w Q I c hz k =>
    ⟨rfl, x, [], μ, q, _, I.zh, by simp [RepL], hz, k, fun r cls dd H' μ' g z er hw => hw.elim⟩⟩
end

/-! ### targets -/
abbrev ZG := D → Sl → Mu → (Sl → Mu → Prop) → Prop
abbrev ZGs := List D → Sl → Mu → (Sl → Mu → Prop) → Prop
def LG (K : PySem.W.Frag) (g : TG) (zg : ZG) : Prop := ∀ (x : Ax) d v σ H ρ μ (k : Sl → Mu → Prop) (k' : St → Hp → Prop), ZInv K σ H ρ μ x → Rep K H μ x d v → zg d ρ μ k →
  (∀ σ' H' ρ' μ', Grow H μ H' μ' x → ZInv K σ' H' ρ' μ' x → k ρ' μ' → k' σ' H') → g v σ H k'
def LGs (K : PySem.W.Frag) (g : TGs) (zg : ZGs) : Prop := ∀ (x : Ax) ds vs σ H ρ μ (k : Sl → Mu → Prop) (k' : St → Hp → Prop), ZInv K σ H ρ μ x → RepL K H μ x ds vs → zg ds ρ μ k →
  (∀ σ' H' ρ' μ', Grow H μ H' μ' x → ZInv K σ' H' ρ' μ' x → k ρ' μ' → k' σ' H') → g vs σ H k'
structure ZPg (X : Cx) (tg : Expr) (g : TG) (zg : ZG) : Prop where
  p : PG X tg g
  l : LG X.K g zg
structure ZPgs (X : Cx) (tg : List Expr) (g : TGs) (zg : ZGs) : Prop where
  p : PGs X tg g
  l : LGs X.K g zg
def zgName (i : Nat) : ZG := fun d ρ μ k => k (ρ.set i (some d)) μ
def zgNil : ZGs := fun ds ρ μ k => match ds with
  | [] => k ρ μ
  | _ => False
def zgCons (g : ZG) (gs : ZGs) : ZGs := fun ds ρ μ k => match ds with
  | d :: r => g d ρ μ fun ρ1 μ1 => gs r ρ1 μ1 k
  | [] => False
def zgTup (n : Nat) (gs : ZGs) : ZG := fun d ρ μ k => match d with
  | .tup ds => ds.length = n ∧ gs ds ρ μ k
  | _ => False
section
variable {K : PySem.W.Frag}
theorem lg_name {i : Nat} : LG K (gName i) (zgName i) := fun x d v σ H ρ μ k k' I r h hk => hk _ H _ μ Grow.refl (I.set r i) h
theorem lgs_nil : LGs K gNil zgNil := fun x ds vs σ H ρ μ k k' I r h hk => by
  unfold zgNil at h
  split at h
  · simp only [RepL] at r
    exact ⟨r, hk σ H ρ μ Grow.refl I h⟩
  · exact h.elim
theorem lgs_cons {g : TG} {zg : ZG} {gs : TGs} {zgs : ZGs} (h1 : LG K g zg) (h2 : LGs K gs zgs) : LGs K (gCons g gs) (zgCons zg zgs) := fun x ds vs σ H ρ μ k k' I r h hk => by
  unfold zgCons at h
  split at h
  · simp only [RepL] at r
    obtain ⟨v, r', rfl, q1, q2⟩ := r
    refine ⟨v, r', rfl, ?_⟩
    refine h1 x _ v σ H ρ μ _ _ I q1 h fun σ1 H1 ρ1 μ1 g1 I1 h1 => ?_
    exact h2 x _ r' σ1 H1 ρ1 μ1 _ _ I1 (RepL.mono g1 _ _ q2) h1 fun σ2 H2 ρ2 μ2 g2 I2 h2 => hk σ2 H2 ρ2 μ2 (g1.trans g2) I2 h2
  · exact h.elim
theorem lg_tup {n : Nat} {gs : TGs} {zgs : ZGs} (h1 : LGs K gs zgs) : LG K (gTup K n gs) (zgTup n zgs) := fun x d v σ H ρ μ k k' I r h hk => by
  unfold zgTup at h
  split at h
  · obtain ⟨a, vs, rfl, q, l⟩ := r.tup
    exact ⟨a, vs, rfl, q, by rw [← l.length]; exact h.1, h1 x _ vs σ H ρ μ _ _ I l h.2 hk⟩
  · exact h.elim
end
section
variable {X : Cx} {W : WX} {pos : Pos}
theorem zgn (i : Nat) {x : Str} (nd : X.N.Nodup) (hi : X.N[i]? = some x := by rfl) (hx : Loc X.env.scope x := by first | exact Or.inl rfl | exact Or.inr rfl) (hf : X.fn x = true ∨ X.env.scope.names.lookup x = some .local := by first | exact .inl rfl | exact .inr rfl | assumption) :
    ZPg X (.Name x pos) (gName i) (zgName i) := ⟨pg_name nd hi hx hf, lg_name⟩
theorem zgsnil : ZPgs X [] gNil zgNil := ⟨pgs_nil, lgs_nil⟩
theorem zgscons {e : Expr} {es : List Expr} {g : TG} {zg : ZG} {gs : TGs} {zgs : ZGs} (h1 : ZPg X e g zg) (h2 : ZPgs X es gs zgs) (hs : (assignEach (e :: es) X.env).map (·.2) = assign e X.env :: (assignEach es X.env).map (·.2) := by rfl) :
    ZPgs X (e :: es) (gCons g gs) (zgCons zg zgs) := ⟨pgs_cons h1.p h2.p hs, lgs_cons h1.l h2.l⟩
theorem zgtup {es : List Expr} {k n : Nat} {gs : TGs} {zgs : ZGs} (hc : X.calm = true) (h : ZPgs X es gs zgs) (hn : (assignEach es X.env).length = n := by rfl) (hst : (assignEach es X.env).findIdx? (·.1) = none := by rfl) :
    ZPg X (.Tuple es k pos) (gTup X.K n gs) (zgTup n zgs) := ⟨pg_tup hc h.p hn hst, lg_tup h.l⟩
end

/-! ### statements -/
def zNext : ZS := fun D ρ μ => D.nx ρ μ
def zSeq (a b : ZS) : ZS := fun D ρ μ => a { D with nx := b D } ρ μ
def zBrk : ZS := fun D ρ μ => D.bk ρ μ
def zCnt : ZS := fun D ρ μ => D.ct ρ μ
def zDrop (z : ZT) : ZS := fun D ρ μ => z ρ μ (fun _ μ1 => D.nx ρ μ1) (fun r μ1 => D.ex r ρ μ1)
def zRet (z : ZT) : ZS := fun D ρ μ => z ρ μ D.rt (fun r μ1 => D.ex r ρ μ1)
def zRetN : ZS := fun D _ μ => D.rt .non μ
def zIfS (c : ZB) (a b : ZS) : ZS := fun D ρ μ => c ρ μ (fun k μ1 => match k with
  | true => a D ρ μ1
  | false => b D ρ μ1) (fun r μ1 => D.ex r ρ μ1)
def zAsg (z : ZT) (g : ZG) : ZS := fun D ρ μ => z ρ μ (fun d μ1 => g d ρ μ1 D.nx) (fun r μ1 => D.ex r ρ μ1)
def zAugI (i : Nat) (z : ZT) (f : Int → Int → Int) : ZS := fun D ρ μ => match sget ρ i with
  | some (.int a) => z ρ μ (fun d μ1 => match d with
    | .int b => D.nx (ρ.set i (some (.int (f a b)))) μ1
    | _ => False) (fun r μ1 => D.ex r ρ μ1)
  | _ => False
def zNever : ZS := fun _ _ _ => False
/-- from here on the object that a name has stays as it is -/
def zFrz (i : Nat) (z : ZS) : ZS := fun D ρ μ => match sget ρ i with
  | some (.ref a) => match μ a with
    | some c => z D (ρ.set i (some c)) (delM μ a)
    | none => False
  | _ => z D ρ μ
section
variable {K : PySem.W.Frag} {W : WX} {t u : TS} {z y : ZS} {te : TE} {ze : ZT} {tt : TT} {zt : ZB} {g : TG} {zg : ZG}
theorem ls_next : LS K W tNext zNext := fun x σ H ρ μ D D' I c h e => e.nx σ H ρ μ Grow.refl I h
theorem ls_seq (h1 : LS K W t z) (h2 : LS K W u y) : LS K W (tSeq t u) (zSeq z y) := fun x σ H ρ μ D D' I c h e =>
  h1 x σ H ρ μ { D with nx := y D } { D' with nx := u D' } I c h ⟨fun σ' H' ρ' μ' g I' h' => h2 x σ' H' ρ' μ' D D' I' (c.grow g) h' (e.grow g), e.rt, e.bk, e.ct⟩
theorem ls_brk : LS K W tBreak zBrk := fun x σ H ρ μ D D' I c h e => e.bk σ H ρ μ Grow.refl I h
theorem ls_cnt : LS K W tCont zCnt := fun x σ H ρ μ D D' I c h e => e.ct σ H ρ μ Grow.refl I h
theorem ls_drop (h1 : LE K W te ze) : LS K W (tDrop te) (zDrop ze) := fun x σ H ρ μ D D' I c h e =>
  h1 x σ H ρ μ _ D.ex _ I c h fun d v H' μ' g z r h' => e.nx σ H' ρ μ' g (I.grow g z) h'
theorem ls_ret (h1 : LE K W te ze) : LS K W (tRet te) (zRet ze) := fun x σ H ρ μ D D' I c h e =>
  h1 x σ H ρ μ _ D.ex _ I c h e.rt
theorem ls_retN : LS K W tRetN zRetN := fun x σ H ρ μ D D' I c h e => e.rt .non .non H μ Grow.refl I.zh rep_non h
theorem ls_if (hc : LT K W tt zt) (h1 : LS K W t z) (h2 : LS K W u y) : LS K W (tIfS tt t u) (zIfS zt z y) := fun x σ H ρ μ D D' I c h e => by
  refine hc x σ H ρ μ _ D.ex _ I c h fun b H1 μ1 g1 z1 q => ?_
  cases b with
  | true => exact iteT (h1 x σ H1 ρ μ1 D D' (I.grow g1 z1) (c.grow g1) q (e.grow g1))
  | false => exact iteF (h2 x σ H1 ρ μ1 D D' (I.grow g1 z1) (c.grow g1) q (e.grow g1))
theorem ls_asg (h1 : LE K W te ze) (h2 : LG K g zg) : LS K W (tAsg te g) (zAsg ze zg) := fun x σ H ρ μ D D' I c h e =>
  h1 x σ H ρ μ _ D.ex _ I c h fun d v H' μ' g z r h' => h2 x d v σ H' ρ μ' _ _ (I.grow g z) r h' fun σ2 H2 ρ2 μ2 g2 I2 q => e.nx σ2 H2 ρ2 μ2 (g.trans g2) I2 q
theorem ls_aug {i : Nat} {f : Int → Int → Int} (h1 : LE K W te ze) : LS K W (tAug i te (ipI f)) (zAugI i ze f) := fun x σ H ρ μ D D' I c h e => by
  unfold zAugI at h
  split at h
  · rename_i a ea
    obtain ⟨v, e1, r1⟩ := I.sl i _ (sget_eq ρ i _ ea)
    refine ⟨v, e1, ?_⟩
    refine h1 x σ H ρ μ _ D.ex _ I c h fun d u H' μ' g z r h' => ?_
    split at h'
    · exact ⟨_, _, r1.int, r.int, e.nx _ H' _ μ' g ((I.grow g z).set rep_int i) h'⟩
    · exact h'.elim
  · exact h.elim
theorem ls_never {t : TS} : LS K W t zNever := fun x σ H ρ μ D D' I c h e => h.elim
theorem ls_frz {i : Nat} (h1 : LS K W t z) : LS K W t (zFrz i z) := fun x σ H ρ μ D D' I c h e => by
  unfold zFrz at h
  split at h
  · rename_i a ea
    split at h
    · rename_i b eb
      have g : Grow H μ H (delM μ a) x := ZH.gfreeze
      obtain ⟨v, e1, r1⟩ := I.sl i _ (sget_eq ρ i _ ea)
      have I1 : ZInv K σ H ρ (delM μ a) x := I.grow g I.zh.freeze
      have e2 := r1.ref
      subst e2
      have I2 : ZInv K (σ.set i (some (.ref a))) H (ρ.set i (some b)) (delM μ a) x := I1.set (I.zh.frozen eb) i
      have e3 : σ.set i (some (V.ref a)) = σ := by
        apply List.ext_getElem?
        intro j
        by_cases hj : i = j
        · subst hj
          have hi : i < σ.length := (List.getElem?_eq_some_iff.mp e1).1
          rw [List.getElem?_set_self hi, e1]
        · rw [List.getElem?_set_ne hj]
      rw [e3] at I2
      exact h1 x σ H _ _ D D' I2 (c.grow g) h (e.grow g)
    · exact h.elim
  · exact h1 x σ H ρ μ D D' I c h e
end
section
variable {X : Cx} {W : WX} {t u : TS} {z y : ZS} {te : TE} {ze : ZT} {tt : TT} {zt : ZB} {g : TG} {zg : ZG} {st : Stmt} {rest a b : List Stmt} {e c : Expr} {pos : Pos} {i : Nat} {x : Str} {pos' : Pos}
theorem zsnil : ZSs X W [] tNext zNext := ⟨pss_nil, ls_next⟩
theorem zscons (h1 : ZSt X W st t z) (h2 : ZSs X W rest u y) : ZSs X W (st :: rest) (tSeq t u) (zSeq z y) := ⟨pss_cons h1.p h2.p, ls_seq h1.l h2.l⟩
theorem zsone (h1 : ZSt X W st t z) : ZSs X W [st] t z := ⟨pss_one h1.p, h1.l⟩
theorem zsfrz (i : Nat) (h1 : ZSs X W rest t z) : ZSs X W rest t (zFrz i z) := ⟨h1.p, ls_frz h1.l⟩
theorem zsnever : ZSs X W rest tNever zNever := ⟨pss_never, ls_never⟩
theorem zsnev : ZSt X W st tNever zNever := ⟨ps_never, ls_never⟩
theorem zpass : ZSt X W (.Pass pos) tNext zNext := ⟨ps_pass, ls_next⟩
theorem zbrk : ZSt X W (.Break pos) tBreak zBrk := ⟨ps_break, ls_brk⟩
theorem zcnt : ZSt X W (.Continue pos) tCont zCnt := ⟨ps_continue, ls_cnt⟩
theorem zexpr (h : ZE X W e te ze) (hs : swapsWith e none pos.line X.env = pure false := by rfl) : ZSt X W (.Expr e pos) (tDrop te) (zDrop ze) := ⟨ps_expr h.p hs, ls_drop h.l⟩
theorem zret (h : ZE X W e te ze) : ZSt X W (.Return (some e) pos) (tRet te) (zRet ze) := ⟨ps_ret h.p, ls_ret h.l⟩
theorem zretN : ZSt X W (.Return none pos) tRetN zRetN := ⟨ps_retN, ls_retN⟩
theorem zif (hc : ZTe X W c tt zt) (h1 : ZSs X W a t z) (h2 : ZSs X W b u y) : ZSt X W (.If c a b pos) (tIfS tt t u) (zIfS zt z y) := ⟨ps_if hc.p h1.p h2.p, ls_if hc.l h1.l h2.l⟩
theorem zset (i : Nat) (nd : X.N.Nodup) (h : ZE X W e te ze) (hi : X.N[i]? = some x := by rfl) (hx : Loc X.env.scope x := by first | exact Or.inl rfl | exact Or.inr rfl) (hs : swapsWith e (some (.Name x pos')) pos.line X.env = pure false := by rfl)
    (hf : X.fn x = true ∨ X.env.scope.names.lookup x = some .local := by first | exact .inl rfl | exact .inr rfl | assumption) : ZSt X W (.Assign [.Name x pos'] e pos) (tAsg te (gName i)) (zAsg ze (zgName i)) := ⟨ps_set nd hi hx h.p hs hf, ls_asg h.l lg_name⟩
theorem zasg {tg : Expr} (he : ZE X W e te ze) (hg : ZPg X tg g zg) (hs : swapsWithSole [tg] e pos.line X.env = pure false := by rfl) (hw : swappedStores [tg] e X.env = pure none := by rfl) (h1 : (assignEach [tg] X.env).map (·.2) = [assign tg X.env] := by rfl) :
    ZSt X W (.Assign [tg] e pos) (tAsg te g) (zAsg ze zg) := ⟨ps_asg he.p hg.p hs hw h1, ls_asg he.l hg.l⟩
theorem zaugA (i : Nat) (nd : X.N.Nodup) (h : ZE X W e te ze) (hi : X.N[i]? = some x := by rfl) (hx : Loc X.env.scope x := by first | exact Or.inl rfl | exact Or.inr rfl) (hf : X.fn x = true ∨ X.env.scope.names.lookup x = some .local := by first | exact .inl rfl | exact .inr rfl | assumption) :
    ZSt X W (.AugAssign (.Name x pos') .Add e pos) (tAug i te (ipI fun i j => i + j)) (zAugI i ze fun i j => i + j) := ⟨ps_aug nd hi hx h.p ip_add hf, ls_aug h.l⟩
end

/-! ### while -/
def zWhileN (c : ZB) (b : ZS) (D : ZEnds) : Nat → Sl → Mu → Prop
  | 0, _, _ => False
  | n + 1, ρ, μ => c ρ μ (fun k μ1 => match k with
    | true => b { D with nx := zWhileN c b D n, ct := zWhileN c b D n, bk := D.nx } ρ μ1
    | false => D.nx ρ μ1) (fun r μ1 => D.ex r ρ μ1)
def zWhile (c : ZB) (b : ZS) : ZS := fun D ρ μ => ∃ n, zWhileN c b D n ρ μ
section
variable {K : PySem.W.Frag} {W : WX} {t : TS} {z : ZS} {tt : TT} {zt : ZB}
theorem ls_while (hc : LT K W tt zt) (h1 : LS K W t z) : LS K W (tWhile tt t) (zWhile zt z) := fun x σ H ρ μ D D' I c h e => by
  obtain ⟨n, h⟩ := h
  refine ⟨fun m σ' H' => ∃ ρ' μ', Grow H μ H' μ' x ∧ ZInv K σ' H' ρ' μ' x ∧ zWhileN zt z D m ρ' μ', ⟨n, ρ, μ, Grow.refl, I, h⟩, ?_⟩
  rintro m σ' H' ⟨ρ', μ', g, I', h'⟩
  cases m with
  | zero => exact h'.elim
  | succ m =>
    refine hc x σ' H' ρ' μ' _ D.ex _ I' (c.grow g) h' fun b H1 μ1 g1 z1 q => ?_
    cases b with
    | true =>
      refine iteT ⟨fun σ2 H2 => ∃ ρ2 μ2, Grow H μ H2 μ2 x ∧ ZInv K σ2 H2 ρ2 μ2 x ∧ zWhileN zt z D m ρ2 μ2, fun σ2 H2 w => ⟨m, Nat.lt_succ_self m, w⟩, ?_⟩
      refine h1 x σ' H1 ρ' μ1 { D with nx := zWhileN zt z D m, ct := zWhileN zt z D m, bk := D.nx } _ (I'.grow g1 z1) (c.grow (g.trans g1)) q ⟨fun σ2 H2 ρ2 μ2 g2 I2 w => ⟨ρ2, μ2, (g.trans g1).trans g2, I2, w⟩, (e.grow (g.trans g1)).rt, (e.grow (g.trans g1)).nx, fun σ2 H2 ρ2 μ2 g2 I2 w => ⟨ρ2, μ2, (g.trans g1).trans g2, I2, w⟩⟩
    | false => exact iteF ((e.grow (g.trans g1)).nx σ' H1 ρ' μ1 Grow.refl (I'.grow g1 z1) q)
end
section
variable {X : Cx} {W : WX} {k : Nat} {t : TS} {z : ZS} {tt : TT} {zt : ZB} {c : Expr} {body : List Stmt} {pos : Pos}
theorem zwhile (cx : ZC X W k) (hc : ZTe X W c tt zt) (hb : ZSs X W body t z) : ZSt X W (.While c body [] pos) (tWhile tt t) (zWhile zt z) := ⟨ps_while cx.po hc.p hb.p, ls_while hc.l hb.l⟩
end

/-! ### for -/
abbrev ZI := Sl → Mu → (List D → Mu → Prop) → ZX → Prop
/-- the iterator goes through ds, as long as all that stays, stays -/
structure WalkZ (K : PySem.W.Frag) (x : Ax) (J : It) (ds : List D) (H : Hp) (μ : Mu) : Prop where
  go : ∀ i H' μ' x', Fm H μ x H' μ' x' → ZH K H' μ' x' → i < ds.length → J.go i H'
  stop : ∀ H' μ' x', Fm H μ x H' μ' x' → ZH K H' μ' x' → J.stop ds.length H'
  yld : ∀ i H' μ' x' v H'' d, Fm H μ x H' μ' x' → ZH K H' μ' x' → ds[i]? = some d → J.yld i H' v H'' → Grow H' μ' H'' μ' x' ∧ ZH K H'' μ' x' ∧ Rep K H'' μ' x' d v
def LI (K : PySem.W.Frag) (W : WX) (wi : TI) (zi : ZI) : Prop :=
  ∀ (x : Ax) σ H ρ μ q (w : ZW) (R : It → Hp → Prop), ZInv K σ H ρ μ x → WC K W w H μ x → zi ρ μ q (fun r μ' => w r ρ μ') →
    (∀ ds J H' μ', Grow H μ H' μ' x → ZH K H' μ' x → WalkZ K x J ds H' μ' → q ds μ' → R J H') → wi σ H R
structure ZPi (X : Cx) (W : WX) (tg it : Expr) (wi : TI) (zi : ZI) : Prop where
  p : PI X tg it wi
  l : LI X.K W wi zi
def zForL (g : ZG) (b : ZS) (N : ZEnds) : List D → Sl → Mu → Prop
  | [], ρ, μ => N.nx ρ μ
  | d :: ds, ρ, μ => g d ρ μ fun ρ2 μ2 => b { N with nx := zForL g b N ds, ct := zForL g b N ds, bk := N.nx } ρ2 μ2
def zFor (zi : ZI) (g : ZG) (b : ZS) : ZS := fun D ρ μ => zi ρ μ (fun ds μ1 => zForL g b D ds ρ μ1) (fun r μ1 => D.ex r ρ μ1)
section
variable {K : PySem.W.Frag} {W : WX} {t : TS} {z : ZS} {wi : TI} {zi : ZI} {g : TG} {zg : ZG}
theorem ls_for (hi : LI K W wi zi) (hg : LG K g zg) (hb : LS K W t z) : LS K W (tFor wi g t) (zFor zi zg z) := fun x σ H ρ μ D D' I c h e => by
  refine hi x σ H ρ μ _ D.ex _ I c h fun ds J H1 μ1 g1 z1 wk h1 => ?_
  refine ⟨fun i m σ' H' => m = ds.length - i ∧ i ≤ ds.length ∧ ∃ ρ' μ', Grow H1 μ1 H' μ' x ∧ ZInv K σ' H' ρ' μ' x ∧ zForL zg z D (ds.drop i) ρ' μ', ⟨ds.length, by simp, Nat.zero_le _, ρ, μ1, Grow.refl, I.grow g1 z1, h1⟩, ?_⟩
  rintro i m σ' H' ⟨rfl, hi, ρ', μ', g2, I2, h2⟩
  by_cases hlt : i < ds.length
  · refine .inr ⟨wk.go i H' μ' x g2.fz I2.zh hlt, fun σ3 H3 => ∃ ρ3 μ3, Grow H1 μ1 H3 μ3 x ∧ ZInv K σ3 H3 ρ3 μ3 x ∧ zForL zg z D (ds.drop (i + 1)) ρ3 μ3, fun σ3 H3 w => ⟨ds.length - (i + 1), by omega, rfl, hlt, w⟩, fun v H'' y => ?_⟩
    rw [List.drop_eq_getElem_cons hlt] at h2
    obtain ⟨g3, z3, r3⟩ := wk.yld i H' μ' x v H'' ds[i] g2.fz I2.zh (List.getElem?_eq_getElem hlt) y
    refine hg x _ v σ' H'' ρ' μ' _ _ (I2.grow g3 z3) r3 h2 fun σ4 H4 ρ4 μ4 g4 I4 h4 => ?_
    have g5 : Grow H1 μ1 H4 μ4 x := g2.trans (g3.trans g4)
    have g6 := g1.trans g5
    refine hb x σ4 H4 ρ4 μ4 { D with nx := zForL zg z D (ds.drop (i + 1)), ct := zForL zg z D (ds.drop (i + 1)), bk := D.nx } _ I4 (c.grow g6) h4 ⟨fun σ5 H5 ρ5 μ5 g I5 w => ⟨ρ5, μ5, g5.trans g, I5, w⟩, (e.grow g6).rt, (e.grow g6).nx, fun σ5 H5 ρ5 μ5 g I5 w => ⟨ρ5, μ5, g5.trans g, I5, w⟩⟩
  · have ei : i = ds.length := by omega
    subst ei
    rw [List.drop_length] at h2
    exact .inl ⟨wk.stop H' μ' x g2.fz I2.zh, (e.grow (g1.trans g2)).nx σ' H' ρ' μ' Grow.refl I2 h2⟩
end
section
variable {X : Cx} {W : WX} {k : Nat} {t : TS} {z : ZS} {wi : TI} {zi : ZI} {g : TG} {zg : ZG} {tg it : Expr} {body : List Stmt} {pos : Pos}
theorem zfor (cx : ZC X W k) (hi : ZPi X W tg it wi zi) (hg : ZPg X tg g zg) (hb : ZSs X W body t z) (hs : ∀ x, foldedSetIterable it X.env x = pure x := by intro _; rfl) : ZSt X W (.For tg it body [] pos) (tFor wi g t) (zFor zi zg z) :=
  ⟨ps_for cx.po cx.calm hi.p hg.p hb.p hs, ls_for hi.l hg.l hb.l⟩
end

/-! ### what a for walks -/
section
variable {K : PySem.W.Frag} {x : Ax} {H : Hp} {μ : Mu} {ds : List D} {vs : List V} {a b : Addr}
/-- a list that stays -/
def fzlOf : D → Option (List D)
  | .lst ds => some ds
  | .klst ds => some ds
  | _ => none
theorem fzl_of {d : D} {v : V} (r : Rep K H μ x d v) (h : fzlOf d = some ds) : ∃ a vs, v = .ref a ∧ (Fz H μ x a (.lst vs) ∨ KL K a vs) ∧ RepL K H μ x ds vs := by
  cases d with
  | lst es => cases h; simp only [Rep] at r; obtain ⟨a, vs, e, q, l⟩ := r; exact ⟨a, vs, e, .inl q, l⟩
  | klst es => cases h; simpa only [Rep] using r
  | _ => cases h
theorem fzl_keep {H' : Hp} {μ' : Mu} {x' : Ax} (h : Fz H μ x a (.lst vs) ∨ KL K a vs) (g : Fm H μ x H' μ' x') : SqL K H' a vs := h.imp (fun q => (g _ _ q).rd) id
theorem fzt_keep {H' : Hp} {μ' : Mu} {x' : Ax} (h : Fz H μ x a (.tup vs) ∨ KT' K a vs) (g : Fm H μ x H' μ' x') : SqT K H' a vs := h.imp (fun q => (g _ _ q).rd) id
theorem walkz_list (h : Fz H μ x a (.lst vs) ∨ KL K a vs) (l : RepL K H μ x ds vs) : WalkZ K x (Itl K a) ds H μ := by
  refine ⟨fun i H' μ' x' g z hi => walk_list.goes i H' (by rw [← l.length]; exact hi) (fzl_keep h g), fun H' μ' x' g z => by rw [l.length]; exact walk_list.stops H' (fzl_keep h g), fun i H' μ' x' v H'' d g z e y => ?_⟩
  obtain ⟨v', e1, r⟩ := l.get e
  obtain ⟨rfl, e2⟩ := walk_list.yields i H' v H'' (List.getElem?_eq_some_iff.mp e1).1 (fzl_keep h g) y
  rw [e1] at e2
  cases e2
  exact ⟨Grow.refl, z, r.mo g⟩
theorem walkz_tup (h : Fz H μ x a (.tup vs) ∨ KT' K a vs) (l : RepL K H μ x ds vs) : WalkZ K x (Itt K a) ds H μ := by
  refine ⟨fun i H' μ' x' g z hi => walk_tup.goes i H' (by rw [← l.length]; exact hi) (fzt_keep h g), fun H' μ' x' g z => by rw [l.length]; exact walk_tup.stops H' (fzt_keep h g), fun i H' μ' x' v H'' d g z e y => ?_⟩
  obtain ⟨v', e1, r⟩ := l.get e
  obtain ⟨rfl, e2⟩ := walk_tup.yields i H' v H'' (List.getElem?_eq_some_iff.mp e1).1 (fzt_keep h g) y
  rw [e1] at e2
  cases e2
  exact ⟨Grow.refl, z, r.mo g⟩
theorem walkz_range {lo : Int} {n : Nat} : WalkZ K x (Itr lo n) ((List.range n).map fun (i : Nat) => D.int (lo + i)) H μ := by
  have hl : ((List.range n).map fun (i : Nat) => D.int (lo + i)).length = n := by simp
  refine ⟨fun i H' μ' x' g z hi => walk_range.goes i H' (by rw [hl] at hi; exact hi) trivial, fun H' μ' x' g z => by rw [hl]; exact walk_range.stops H' trivial, fun i H' μ' x' v H'' d g z e y => ?_⟩
  have hi : i < n := by have := (List.getElem?_eq_some_iff.mp e).1; rw [hl] at this; exact this
  obtain ⟨rfl, rfl⟩ := walk_range.yields i H' v H'' hi trivial y
  rw [List.getElem?_map, List.getElem?_range hi] at e
  cases e
  exact ⟨Grow.refl, z, rep_int⟩
theorem walkz_str {s : Str} : WalkZ K x (Its s) (s.cps.toList.map fun c => D.str ⟨#[c]⟩) H μ := by
  have hl : (s.cps.toList.map fun c => D.str ⟨#[c]⟩).length = s.cps.size := by simp
  refine ⟨fun i H' μ' x' g z hi => walk_str.goes i H' (by rw [hl] at hi; exact hi) trivial, fun H' μ' x' g z => by rw [hl]; exact walk_str.stops H' trivial, fun i H' μ' x' v H'' d g z e y => ?_⟩
  have hi : i < s.cps.size := by have := (List.getElem?_eq_some_iff.mp e).1; rw [hl] at this; exact this
  obtain ⟨rfl, c, e1, rfl⟩ := walk_str.yields i H' v H'' hi trivial y
  rw [List.getElem?_map, Array.getElem?_toList, e1] at e
  cases e
  exact ⟨Grow.refl, z, rep_str⟩
/-- pairs that are made at each turn -/
theorem walkz_pair {J : It} {n : Nat} {G : Hp → Prop} {f g : Nat → Option V} {as bs : List D} (wk : Walk J n G (YPair f g)) (hG : ∀ H' μ' x', Fm H μ x H' μ' x' → G H') (ha : as.length = n) (hb : bs.length = n)
    (hf : ∀ i d v, as[i]? = some d → f i = some v → Rep K H μ x d v) (hg : ∀ i d v, bs[i]? = some d → g i = some v → Rep K H μ x d v) : WalkZ K x J (List.zipWith (fun a b => D.tup [a, b]) as bs) H μ := by
  have hl : (List.zipWith (fun a b => D.tup [a, b]) as bs).length = n := by simp [ha, hb]
  refine ⟨fun i H' μ' x' g z hi => wk.goes i H' (by rw [hl] at hi; exact hi) (hG H' μ' x' g), fun H' μ' x' g z => by rw [hl]; exact wk.stops H' (hG H' μ' x' g), fun i H' μ' x' v H'' d gr z e y => ?_⟩
  have hi : i < n := by have := (List.getElem?_eq_some_iff.mp e).1; rw [hl] at this; exact this
  obtain ⟨T, v1, v2, rfl, hT, rfl, e1, e2⟩ := wk.yields i H' v H'' hi (hG H' μ' x' gr) y
  rw [List.getElem?_zipWith] at e
  have ea : as[i]? = some as[i] := List.getElem?_eq_getElem (by omega)
  have eb : bs[i]? = some bs[i] := List.getElem?_eq_getElem (by omega)
  rw [ea, eb] at e
  cases e
  have r1 := (hf i _ v1 ea e1).mo gr
  have r2 := (hg i _ v2 eb e2).mo gr
  refine ⟨z.gnew hT, z.new hT, ?_⟩
  simp only [Rep]
  refine ⟨T, [v1, v2], rfl, .inl (Fz.new z hT rfl), ?_⟩
  simp only [RepL]
  exact ⟨v1, [v2], rfl, r1.mono (z.gnew hT), v2, [], rfl, r2.mono (z.gnew hT), rfl⟩
end
/-- a list or a tuple that stays; a text -/
def itOf (d : D) : Option (List D) := match d with
  | .lst ds => some ds
  | .klst ds => some ds
  | .tup ds => some ds
  | .str s => some (s.cps.toList.map fun c => D.str ⟨#[c]⟩)
  | _ => none
def ziSeq (z : ZT) : ZI := fun ρ μ q e => z ρ μ (fun d μ1 => match itOf d with
  | some ds => q ds μ1
  | none => False) e
def ziRng1 (z : ZA) : ZI := fun ρ μ q e => z ρ μ (fun ds μ1 => match ds with
  | [.int j] => -(2 ^ 62) ≤ j ∧ j < 2 ^ 62 ∧ q ((List.range j.toNat).map fun (i : Nat) => D.int (0 + i)) μ1
  | _ => False) e
def ziRng2 (z : ZA) : ZI := fun ρ μ q e => z ρ μ (fun ds μ1 => match ds with
  | [.int i, .int j] => (-(2 ^ 62) ≤ i ∧ i < 2 ^ 62 ∧ -(2 ^ 62) ≤ j ∧ j < 2 ^ 62) ∧ q ((List.range (j - i).toNat).map fun (n : Nat) => D.int (i + n)) μ1
  | _ => False) e
def ziEnum (z : ZA) : ZI := fun ρ μ q e => z ρ μ (fun ds μ1 => match ds with
  | [d] => match fzlOf d with
    | some es => q (List.zipWith (fun a b => D.tup [a, b]) ((List.range es.length).map fun (i : Nat) => D.int i) es) μ1
    | none => False
  | _ => False) e
def ziZip (z : ZA) : ZI := fun ρ μ q e => z ρ μ (fun ds μ1 => match ds with
  | [d, d'] => match fzlOf d, fzlOf d' with
    | some es, some fs => q (List.zipWith (fun a b => D.tup [a, b]) (es.take (min es.length fs.length)) (fs.take (min es.length fs.length))) μ1
    | _, _ => False
  | _ => False) e
/-- a list, a tuple or a text -/
def iSeq (K : PySem.W.Frag) (tl : TE) : TI := fun σ H R => tl σ H fun x H1 => (∃ a, x = .ref a ∧ (∃ xs, SqL K H1 a xs) ∧ R (Itl K a) H1) ∨ (∃ a, x = .ref a ∧ (∃ xs, SqT K H1 a xs) ∧ R (Itt K a) H1) ∨ ∃ s, x = .str s ∧ R (Its s) H1
section
variable {X : Cx} {W : WX} {tg e e2 : Expr} {te : TE} {ze : ZT} {tas : TA} {zas : ZA} {p pos : Pos}
open PySem.Spec PyProof.Rows in
theorem pi_seq (he : PE X e te) : PI X tg e (iSeq X.K te) := by
  refine ⟨fun pins s σ H R I h => ?_⟩
  refine thn (he.run pins s σ H _ I h) fun v s1 ⟨x, H1, I1, r1, q1⟩ => ?_
  rcases q1 with ⟨a, rfl, ⟨xs, hq⟩, q⟩ | ⟨a, rfl, ⟨xs, hq⟩, q⟩ | ⟨z, rfl, q⟩
  · cases r1
    obtain ⟨its, rv, pl, hz⟩ := I1.list hq
    refine wpAny_pyIter_list pl.isList ?_
    refine ⟨s1.heap.objs.size, [s1.heap.objs.size], _, _, H1, rfl, I1.kept (t' := s1.toks) fun b o e => Heap.get?_push_of_some _ e, turn_list a _, ⟨_, Heap.get?_push_size _ rfl, rfl, rfl⟩, fun b hb => ?_, q⟩
    have e : b = s1.heap.objs.size := by simpa using hb
    subst e
    exact I1.fpOk (Nat.le_refl _) (I1.hok.fresh (Nat.le_refl _))
  · cases r1
    obtain ⟨its, rv, pl, hz⟩ := I1.tuple hq
    refine wpAny_pyIter_tuple (show s1.heap.IsTuple a its.toArray from pl) ?_
    refine ⟨s1.heap.objs.size, [s1.heap.objs.size], _, _, H1, rfl, I1.kept (t' := s1.toks) fun b o e => Heap.get?_push_of_some _ e, turn_tuple a _, ⟨_, Heap.get?_push_size _ rfl, rfl, rfl⟩, fun b hb => ?_, q⟩
    have e : b = s1.heap.objs.size := by simpa using hb
    subst e
    exact I1.fpOk (Nat.le_refl _) (I1.hok.fresh (Nat.le_refl _))
  · obtain ⟨t, rfl⟩ := r1
    cases ha : z.cps.all (· < 128)
    · exact wpAny_pyIter_wide ha (pi_one (tk := s1.toks) I1 _ (turn_str _ z t "str_iterator" (.inr rfl)) ⟨_, Heap.get?_push_size _ rfl, rfl, rfl⟩ q)
    · exact wpAny_pyIter_ascii ha (pi_one (tk := s1.toks) I1 _ (turn_str _ z t "str_ascii_iterator" (.inl rfl)) ⟨_, Heap.get?_push_size _ rfl, rfl, rfl⟩ q)
theorem li_seq {K : PySem.W.Frag} (he : LE K W te ze) : LI K W (iSeq K te) (ziSeq ze) := fun x σ H ρ μ q w R I c h k => by
  refine he x σ H ρ μ _ w _ I c h fun d v H1 μ1 g1 z1 r1 h1 => ?_
  split at h1
  · rename_i ds e
    cases d with
    | lst es =>
      cases e
      obtain ⟨a, vs, rfl, q1, l⟩ := fzl_of r1 (ds := ds) rfl
      exact .inl ⟨a, rfl, ⟨vs, fzl_keep q1 (Grow.refl (x := x)).fz⟩, k _ _ H1 μ1 g1 z1 (walkz_list q1 l) h1⟩
    | klst es =>
      cases e
      obtain ⟨a, vs, rfl, q1, l⟩ := fzl_of r1 (ds := ds) rfl
      exact .inl ⟨a, rfl, ⟨vs, fzl_keep q1 (Grow.refl (x := x)).fz⟩, k _ _ H1 μ1 g1 z1 (walkz_list q1 l) h1⟩
    | tup es =>
      cases e
      simp only [Rep] at r1
      obtain ⟨a, vs, rfl, q1, l⟩ := r1
      exact .inr (.inl ⟨a, rfl, ⟨vs, fzt_keep q1 (Grow.refl (x := x)).fz⟩, k _ _ H1 μ1 g1 z1 (walkz_tup q1 l) h1⟩)
    | str s =>
      cases e
      rw [r1.str]
      exact .inr (.inr ⟨s, rfl, k _ _ H1 μ1 g1 z1 walkz_str h1⟩)
    | _ => cases e
  · exact h1.elim
theorem ziseq (he : ZE X W e te ze) : ZPi X W tg e (iSeq X.K te) (ziSeq ze) := ⟨pi_seq he.p, li_seq he.l⟩
theorem zirng1 {n : Nat} (hm : X.mg "range" = none) (ha : ZAr X W n [e] tas zas) (hg : Gl X "range" := by rfl) (hs : starEach [e] X.env = [(false, eval e X.env)] := by rfl) : ZPi X W tg (.Call (.Name "range" p) [e] [] pos) (iRng1 tas) (ziRng1 zas) := ⟨pi_range1 hg hm ha.p hs, fun x σ H ρ μ q w R I c h k => by
  refine ha.l x σ H ρ μ _ w _ I c h fun ds vs H1 μ1 g1 z1 r1 l1 h1 => ?_
  split at h1
  · obtain ⟨v, rfl, r⟩ := repl1 r1
    exact ⟨_, by rw [r.int], h1.1, h1.2.1, k _ _ H1 μ1 g1 z1 walkz_range h1.2.2⟩
  · exact h1.elim⟩
theorem zirng2 {n : Nat} (hm : X.mg "range" = none) (ha : ZAr X W n [e, e2] tas zas) (hg : Gl X "range" := by rfl) (hs : starEach [e, e2] X.env = [(false, eval e X.env), (false, eval e2 X.env)] := by rfl) (hs2 : starEach [e2] X.env = [(false, eval e2 X.env)] := by rfl) :
    ZPi X W tg (.Call (.Name "range" p) [e, e2] [] pos) (iRng2 tas) (ziRng2 zas) := ⟨pi_range2 hg hm ha.p hs hs2, fun x σ H ρ μ q w R I c h k => by
  refine ha.l x σ H ρ μ _ w _ I c h fun ds vs H1 μ1 g1 z1 r1 l1 h1 => ?_
  split at h1
  · obtain ⟨v, u, rfl, r, r'⟩ := repl2 r1
    exact ⟨_, _, by rw [r.int, r'.int], h1.1, k _ _ H1 μ1 g1 z1 walkz_range h1.2⟩
  · exact h1.elim⟩
end
end Z

set_option maxRecDepth 100000
set_option maxHeartbeats 4000000
namespace Z
open PySem L2

/-! ### methods of lists and texts -/
def isL (d : D) (μ : Mu) : Bool := (lstOf d μ).isSome
def isS (d : D) (_ : Mu) : Bool := match d with
  | .str _ => true
  | _ => false
def zBM (ty : D → Mu → Bool) (f : FM) (za : ZT) (zas : ZA) : ZT := fun ρ μ q e => za ρ μ (fun d μ1 => match ty d μ1 with
  | true => zas ρ μ1 (fun ds μ2 => f d ds μ2 q) e
  | false => False) e
def zBM0 (ty : D → Mu → Bool) (f : FM) (za : ZT) : ZT := fun ρ μ q e => za ρ μ (fun d μ1 => match ty d μ1 with
  | true => f d [] μ1 q
  | false => False) e
def TyF (K : PySem.W.Frag) (T : String) (ty : D → Mu → Bool) : Prop := ∀ x H μ d v, ZH K H μ x → Rep K H μ x d v → ty d μ = true → tyV K T v H
theorem tyf_l {K : PySem.W.Frag} : TyF K "list" isL := fun x H μ d v z r h => by
  unfold isL at h
  cases e : lstOf d μ with
  | none => rw [e] at h; cases h
  | some ds =>
    obtain ⟨a, vs, rfl, q, _⟩ := lst_of z r e
    exact .inl ⟨rfl, vs, q⟩
theorem tyf_s {K : PySem.W.Frag} : TyF K "str" isS := fun x H μ d v z r h => by
  unfold isS at h
  split at h
  · rw [r.str]; rfl
  · cases h
section
variable {X : Cx} {W : WX} {T id : String} {name : Str} {apos cpos : Pos} {o e : Expr} {es : List Expr} {n : Nat} {to : TE} {zo : ZT} {tas : TA} {zas : ZA} {r : V → List V → Hp → VK → Prop} {f : FM} {ty : D → Mu → Bool}
theorem zbm (pa : PlainAttrs T) (slot : Slot T name id) (hty : typeOf (.builtin id) = pure (.type "method_descriptor")) (hm : MtR X id r) (hl : LfM X.K r f) (ht : TyF X.K T ty) (ho : ZE X W o to zo) (ha : ZAr X W n (e :: es) tas zas) (hbase : attributeBase o name X.env (eval o X.env) = eval o X.env := by rfl)
    (hfew : ((backTo cpos (starEach (e :: es) X.env)).all (fun x => !x.1) && (backToKw cpos (keywordEach [] X.env)).all (fun x => x.1.isSome) && decide ((e :: es).length + ([] : List Keyword).length + (if ([] : List Keyword).isEmpty then 0 else 1) < 30)) = true := by rfl)
    (he : starEach (e :: es) X.env = (false, eval e X.env) :: starEach es X.env := by rfl) (hpl : (backTo cpos (starEach es X.env)).any (·.1) = false := by rfl) (hline : (apos.endLine == cpos.line) = true := by rfl) :
    ZE X W (.Call (.Attribute o name apos) (e :: es) [] cpos) (tBM X.K T r to tas) (zBM ty f zo zas) := ⟨pe_bm pa slot hty hm ho.p ha.p hbase hfew hline he hpl, fun x σ H ρ μ q w Q I c h k => by
  refine ho.l x σ H ρ μ _ w _ I c h fun d v H1 μ1 g1 z1 r1 h1 => ?_
  split at h1
  · rename_i e1
    refine ⟨ht x H1 μ1 d v z1 r1 e1, ?_⟩
    refine ha.l x σ H1 ρ μ1 _ w _ (I.grow g1 z1) (c.grow g1) h1 fun ds vs H2 μ2 g2 z2 r2 l2 h2 => ?_
    exact hl x H2 μ2 d v ds vs q Q z2 (r1.mono g2) r2 h2 fun d3 v3 H3 μ3 g3 => k d3 v3 H3 μ3 (g1.trans (g2.trans g3))
  · exact h1.elim⟩
theorem zbm0 (pa : PlainAttrs T) (slot : Slot T name id) (hty : typeOf (.builtin id) = pure (.type "method_descriptor")) (hm : MtR X id r) (hl : LfM X.K r f) (ht : TyF X.K T ty) (ho : ZE X W o to zo) (hbase : attributeBase o name X.env (eval o X.env) = eval o X.env := by rfl)
    (hline : (apos.endLine == cpos.line) = true := by rfl) :
    ZE X W (.Call (.Attribute o name apos) [] [] cpos) (tBM0 X.K T r to) (zBM0 ty f zo) := ⟨pe_bm0 pa slot hty hm ho.p hbase hline, fun x σ H ρ μ q w Q I c h k => by
  refine ho.l x σ H ρ μ _ w _ I c h fun d v H1 μ1 g1 z1 r1 h1 => ?_
  split at h1
  · rename_i e1
    exact ⟨ht x H1 μ1 d v z1 r1 e1, hl x H1 μ1 d v [] [] q Q z1 r1 (by simp [RepL]) h1 fun d3 v3 H3 μ3 g3 => k d3 v3 H3 μ3 (g1.trans g3)⟩
  · exact h1.elim⟩
end
def zAppend : FM := fun d ds μ q => match d with
  | .ref a => match μ a with
    | some (.lst xs) => match ds with
      | [y] => xs.length < sizeLine ∧ q .non (updM μ a (.lst (xs ++ [y])))
      | _ => False
    | _ => False
  | _ => False
def zPop : FM := fun d ds μ q => match d with
  | .ref a => match μ a with
    | some (.lst xs) => match ds with
      | [] => match xs[xs.length - 1]? with
        | some y => q y (updM μ a (.lst xs.dropLast))
        | none => False
      | [.int i] => match ixN xs.length i with
        | some k => match xs[k]? with
          | some y => -(2 ^ 63) ≤ i ∧ i < 2 ^ 63 ∧ q y (updM μ a (.lst (xs.eraseIdx k)))
          | none => False
        | none => False
      | _ => False
    | _ => False
  | _ => False
def zInsert : FM := fun d ds μ q => match d with
  | .ref a => match μ a with
    | some (.lst xs) => match ds with
      | [.int i, y] => xs.length < sizeLine ∧ 0 ≤ i ∧ i < 2 ^ 63 ∧ q .non (updM μ a (.lst (xs.take i.toNat ++ [y] ++ xs.drop i.toNat)))
      | _ => False
    | _ => False
  | _ => False
def zExtend : FM := fun d ds μ q => match d with
  | .ref a => match μ a with
    | some (.lst xs) => match ds with
      | [e] => match rlstOf e μ with
        | some ys => xs.length + ys.length ≤ sizeLine ∧ q .non (updM μ a (.lst (xs ++ ys)))
        | none => False
      | _ => False
    | _ => False
  | _ => False
def strsOf : List D → Option (List Str)
  | [] => some []
  | .str s :: ds => match strsOf ds with
    | some is => some (s :: is)
    | none => none
  | _ :: _ => none
section
variable {K : PySem.W.Frag} {X : Cx} {H : Hp} {μ : Mu} {x : Ax}
theorem own_lst {a : Addr} {ds : List D} (z : ZH K H μ x) (h : μ a = some (.lst ds)) : ∃ vs, H a = some (.lst vs) ∧ RepL K H μ x ds vs := by
  have w := z.own a _ h
  simpa only [Own] using w
theorem own_dct {a : Addr} {ds : List (Key × D)} (z : ZH K H μ x) (h : μ a = some (.dct ds)) : ∃ vs, H a = some (.dK vs) ∧ RepK K H μ x ds vs := by
  have w := z.own a _ h
  simpa only [Own] using w
theorem own_ins {a C : Addr} {ds : List (Str × D)} (z : ZH K H μ x) (h : μ a = some (.ins C ds)) : ∃ dx vs, H a = some (.ins C dx vs) ∧ RepF K H μ x ds vs := by
  have w := z.own a _ h
  simpa only [Own] using w
/-- a list is written -/
theorem put_lst {a : Addr} {ds es : List D} {vs us : List V} {q : ZQ} {Q : VK} {d : D} {v : V} (z : ZH K H μ x) (h : μ a = some (.lst ds)) (l : RepL K H μ x es us) (r : Rep K H μ x d v) (p : Post K H μ x q Q) (hq : q d (updM μ a (.lst es))) : Q v (upd H a (.lst us)) :=
  p d v _ _ (z.gwrite h) (z.write h (by simp only [Own]; exact ⟨us, upd_same, RepL.mono (z.gwrite h) _ _ l⟩)) (r.mono (z.gwrite h)) hq
theorem lf_append : LfM K rAppend zAppend := fun x H μ d v ds vs q Q z r l h p => by
  unfold zAppend at h
  split at h
  · rename_i a
    split at h
    · rename_i xs e
      split at h
      · rename_i y
        obtain ⟨us, e1, l1⟩ := own_lst z e
        obtain ⟨u, rfl, r1⟩ := repl1 l
        exact ⟨a, us, u, r.ref, rfl, e1, by rw [← l1.length]; exact h.1, put_lst (vs := us) z e (l1.append (RepL.one r1)) rep_non p h.2⟩
      · exact h.elim
    · exact h.elim
  · exact h.elim
def rPopAll : V → List V → Hp → VK → Prop := fun x vs H Q => rPop x vs H Q ∨ rPopAt x vs H Q
theorem mt_popAll : MtR X "list.pop" rPopAll := MtR.or (r := rPop) (r' := rPopAt) mt_pop mt_popAt
theorem lf_pop : LfM K rPopAll zPop := fun x H μ d v ds vs q Q z r l h p => by
  unfold zPop at h
  split at h
  · rename_i a
    split at h
    · rename_i xs e
      obtain ⟨us, e1, l1⟩ := own_lst z e
      split at h
      · split at h
        · rename_i y ey
          obtain ⟨u, e2, r2⟩ := l1.get ey
          simp only [RepL] at l
          refine .inl ⟨a, us, u, r.ref, l, e1, by rw [← l1.length]; exact e2, put_lst (vs := us) z e l1.dropLast r2 p h⟩
        · exact h.elim
      · split at h
        · rename_i k ek
          split at h
          · rename_i y ey
            obtain ⟨w, rfl, rw'⟩ := repl1 l
            obtain ⟨u, e2, r2⟩ := l1.get ey
            exact .inr ⟨a, us, _, k, u, r.ref, by rw [rw'.int], e1, h.1, h.2.1, by rw [← l1.length]; exact (ixN_seq ek).1, e2, put_lst (vs := us) z e (l1.eraseIdx k) r2 p h.2.2⟩
          · exact h.elim
        · exact h.elim
      · exact h.elim
    · exact h.elim
  · exact h.elim
def rInsert : V → List V → Hp → VK → Prop := fun x vs H Q => ∃ (l : Addr) (xs : List V) (i : Int) (y : V), x = .ref l ∧ vs = [.int i, y] ∧ H l = some (.lst xs) ∧ xs.length < sizeLine ∧ 0 ≤ i ∧ i < 2 ^ 63 ∧ Q .non (upd H l (.lst (xs.take i.toNat ++ [y] ++ xs.drop i.toNat)))
theorem lf_insert : LfM K rInsert zInsert := fun x H μ d v ds vs q Q z r l h p => by
  unfold zInsert at h
  split at h
  · rename_i a
    split at h
    · rename_i xs e
      split at h
      · obtain ⟨us, e1, l1⟩ := own_lst z e
        obtain ⟨u, w, rfl, r1, r2⟩ := repl2 l
        rw [r1.int]
        exact ⟨a, us, _, w, r.ref, rfl, e1, by rw [← l1.length]; exact h.1, h.2.1, h.2.2.1, put_lst (vs := us) z e (((l1.take _).append (RepL.one r2)).append (l1.drop _)) rep_non p h.2.2.2⟩
      · exact h.elim
    · exact h.elim
  · exact h.elim

/-! ### texts -/
def zPartition : FM := fun d ds μ q => match d, ds with
  | .str a, [.str b] => (b.length == 0) = false ∧ a.length ≤ sizeLine ∧ q (.tup [.str (Txt.partition a b).1, .str (Txt.partition a b).2.1, .str (Txt.partition a b).2.2]) μ
  | _, _ => False
def zJoin : FM := fun d ds μ q => match d, ds with
  | .str a, [e] => match seqOf e μ with
    | some es => match strsOf es with
      | some ys => (ys.map (·.length)).sum + ys.length * a.length ≤ 16777216 ∧ q (.str (Txt.join a ys)) μ
      | none => False
    | none => False
  | _, _ => False
def zFind : FM := fun d ds μ q => match d, ds with
  | .str a, [.str b, .int i] => q (.int (Txt.find3 a b i)) μ
  | _, _ => False
theorem strs_of : ∀ {ds : List D} {vs : List V} {bs : List Str}, RepL K H μ x ds vs → strsOf ds = some bs → vs = bs.map V.str
  | [], vs, bs, l, h => by simp only [strsOf, Option.some.injEq] at h; subst h; simpa [RepL] using l
  | .str i :: ds, vs, bs, l, h => by
    simp only [RepL] at l
    obtain ⟨v, r, rfl, h1, h2⟩ := l
    simp only [strsOf] at h
    split at h
    · rename_i bs' e2
      cases h
      rw [h1.str, strs_of h2 e2]; rfl
    · cases h
  | .non :: ds, vs, bs, l, h => by simp only [strsOf] at h; cases h
  | .bl _ :: ds, vs, bs, l, h => by simp only [strsOf] at h; cases h
  | .int _ :: ds, vs, bs, l, h => by simp only [strsOf] at h; cases h
  | .lst _ :: ds, vs, bs, l, h => by simp only [strsOf] at h; cases h
  | .klst _ :: ds, vs, bs, l, h => by simp only [strsOf] at h; cases h
  | .tup _ :: ds, vs, bs, l, h => by simp only [strsOf] at h; cases h
  | .dct _ :: ds, vs, bs, l, h => by simp only [strsOf] at h; cases h
  | .ins _ _ :: ds, vs, bs, l, h => by simp only [strsOf] at h; cases h
  | .ref _ :: ds, vs, bs, l, h => by simp only [strsOf] at h; cases h
  | .oth _ :: ds, vs, bs, l, h => by simp only [strsOf] at h; cases h
def rPartition : V → List V → Hp → VK → Prop := fun x xs H Q => ∃ a b, x = .str a ∧ xs = [.str b] ∧ (b.length == 0) = false ∧ a.length ≤ sizeLine ∧
    ∀ p, H p = none → Q (.ref p) (upd H p (.tup [.str (Txt.partition a b).1, .str (Txt.partition a b).2.1, .str (Txt.partition a b).2.2]))
theorem lf_partition : LfM K rPartition zPartition := fun x H μ d v ds vs q Q z r l h p => by
  unfold zPartition at h
  split at h
  · obtain ⟨u, rfl, r1⟩ := repl1 l
    rw [r.str, r1.str]
    exact ⟨_, _, rfl, rfl, h.1, h.2.1, new_tup z (by simp [RepL, Rep]) p h.2.2⟩
  · exact h.elim
def rJoin (K : PySem.W.Frag) : V → List V → Hp → VK → Prop := fun x xs H Q => ∃ a p, ∃ ys : List Str, x = .str a ∧ xs = [.ref p] ∧ (SqL K H p (ys.map V.str) ∨ SqT K H p (ys.map V.str)) ∧
    (ys.map (·.length)).sum + ys.length * a.length ≤ 16777216 ∧ Q (.str (Txt.join a ys)) H
theorem lf_join : LfM K (rJoin K) zJoin := fun x H μ d v ds vs q Q z r l h p => by
  unfold zJoin at h
  split at h
  · obtain ⟨u, rfl, r1⟩ := repl1 l
    split at h
    · rename_i es e1
      split at h
      · rename_i ys e2
        obtain ⟨a, us, rfl, q1, l2⟩ := seq_of z r1 e1
        have e3 := strs_of l2 e2
        subst e3
        exact ⟨_, a, ys, r.str, rfl, q1, h.1, p.here z rep_str h.2⟩
      · exact h.elim
    · exact h.elim
  · exact h.elim
def rFind3 : V → List V → Hp → VK → Prop := fun x xs H Q => ∃ (a b : Str) (i : Int), x = .str a ∧ xs = [.str b, .int i] ∧ Q (.int (Txt.find3 a b i)) H
theorem lf_find : LfM K rFind3 zFind := fun x H μ d v ds vs q Q z r l h p => by
  unfold zFind at h
  split at h
  · obtain ⟨u, w, rfl, r1, r2⟩ := repl2 l
    rw [r.str, r1.str, r2.int]
    exact ⟨_, _, _, rfl, rfl, p.here z rep_int h⟩
  · exact h.elim
def rExtendR : V → List V → Hp → VK → Prop := rExtend
end

/-! ### o[i] = e -/
def putD (kvs : List (Key × D)) (k : Key) (v : D) : List (Key × D) := match kvs with
  | [] => [(k, v)]
  | (j, d) :: r => if j = k then (j, v) :: r else (j, d) :: putD r k v
def zSet (o i v : D) (μ : Mu) (k : Mu → Prop) : Prop := match o with
  | .ref a => match μ a with
    | some (.lst xs) => match i with
      | .int n => match ixN xs.length n with
        | some j => k (updM μ a (.lst (xs.set j v)))
        | none => False
      | _ => False
    | some (.dct kvs) => match keyOf i with
      | some kk => (kvs.map (·.1)).Nodup ∧ kvs.length < sizeLine ∧ k (updM μ a (.dct (putD kvs kk v)))
      | none => False
    | _ => False
  | _ => False
def zSetS (zo zi zv : ZT) : ZS := fun D ρ μ => zv ρ μ (fun v μ1 => zo ρ μ1 (fun o μ2 => zi ρ μ2 (fun i μ3 => zSet o i v μ3 (D.nx ρ)) (fun r μ1 => D.ex r ρ μ1)) (fun r μ1 => D.ex r ρ μ1)) (fun r μ1 => D.ex r ρ μ1)
def rSetAll : V → V → V → Hp → (Hp → Prop) → Prop := fun o i v H Q => rSetL o i v H Q ∨ ∃ a H', o = .ref a ∧ DPut H a i v H' ∧ Q H'
section
variable {X : Cx} {K : PySem.W.Frag} {W : WX} {H : Hp} {μ : Mu} {x : Ax}
theorem set_all (hu : X.A.units + 1 < cLine) : PSet X rSetAll := by
  intro pins s σ H o i v ov iv u Q I ro ri rv h
  rcases h with h | ⟨a, H', rfl, g, q⟩
  · exact set_list pins s σ H o i v ov iv u Q I ro ri rv h
  · obtain rfl : ov = Value.ref a := ro
    exact d_setItem hu I g ri rv fun s4 I4 => ⟨H', I4, q⟩
theorem map_same {α : Type} {f : α → α} : ∀ {l : List α}, (∀ a ∈ l, f a = a) → l.map f = l
  | [], _ => rfl
  | a :: r, h => by rw [List.map_cons, h a List.mem_cons_self, map_same fun b hb => h b (List.mem_cons_of_mem _ hb)]
theorem putD_notmem {k : Key} {d : D} : ∀ {kvs : List (Key × D)}, k ∉ kvs.map (·.1) → putD kvs k d = kvs ++ [(k, d)]
  | [], _ => rfl
  | (j, e) :: r, h => by
    have hj : ¬ j = k := fun q => h (by rw [← q]; exact List.mem_cons_self)
    simp only [putD, if_neg hj, List.cons_append]
    rw [putD_notmem fun q => h (List.mem_cons_of_mem _ q)]
theorem RepK.append : ∀ {kvs ls : List (Key × D)} {us ws : List (Key × V)}, RepK K H μ x kvs us → RepK K H μ x ls ws → RepK K H μ x (kvs ++ ls) (us ++ ws)
  | [], ls, us, ws, h, h' => by simp only [RepK] at h; subst h; exact h'
  | (k, d) :: r, ls, us, ws, h, h' => by
    simp only [RepK] at h
    obtain ⟨v, r', rfl, h1, h2⟩ := h
    show RepK K H μ x ((k, d) :: (r ++ ls)) ((k, v) :: (r' ++ ws))
    simp only [RepK]
    exact ⟨v, r' ++ ws, rfl, h1, h2.append h'⟩
theorem RepK.keys : ∀ {kvs : List (Key × D)} {us : List (Key × V)}, RepK K H μ x kvs us → us.map (·.1) = kvs.map (·.1)
  | [], us, h => by simp only [RepK] at h; subst h; rfl
  | (k, d) :: r, us, h => by
    simp only [RepK] at h
    obtain ⟨v, r', rfl, h1, h2⟩ := h
    simp [RepK.keys h2]
theorem RepK.putMap {k : Key} {d : D} {v : V} (q : Rep K H μ x d v) : ∀ {kvs : List (Key × D)} {us : List (Key × V)}, RepK K H μ x kvs us → (kvs.map (·.1)).Nodup → k ∈ kvs.map (·.1) →
    RepK K H μ x (putD kvs k d) (us.map fun kv => if kv.1 = k then (kv.1, v) else kv)
  | [], us, h, _, hm => by simp at hm
  | (j, e) :: r, us, h, nd, hm => by
    simp only [RepK] at h
    obtain ⟨w, r', rfl, h1, h2⟩ := h
    have nd' := List.nodup_cons.mp nd
    by_cases hj : j = k
    · subst hj
      have e1 : (r'.map fun kv : Key × V => if kv.1 = j then (kv.1, v) else kv) = r' := map_same fun kv hkv => by
        have : kv.1 ≠ j := fun q => nd'.1 (by
          have z : kv.1 ∈ r'.map (·.1) := List.mem_map_of_mem hkv
          rw [h2.keys, q] at z
          exact z)
        exact if_neg this
      unfold putD
      rw [if_pos rfl, List.map_cons, e1]
      simp only [RepK]
      exact ⟨v, r', by simp, q, h2⟩
    · simp only [putD, if_neg hj, List.map_cons, RepK]
      refine ⟨w, _, rfl, h1, RepK.putMap q h2 nd'.2 ?_⟩
      rcases List.mem_cons.mp hm with z | z
      · exact absurd z.symm hj
      · exact z
theorem RepK.put {k : Key} {d : D} {v : V} {kvs : List (Key × D)} {us : List (Key × V)} (h : RepK K H μ x kvs us) (q : Rep K H μ x d v) (nd : (kvs.map (·.1)).Nodup) : RepK K H μ x (putD kvs k d) (putK us k v) := by
  unfold putK
  by_cases hm : k ∈ kvs.map (·.1)
  · rw [if_pos]
    · exact h.putMap q nd hm
    · rw [List.any_eq_true]
      rw [← h.keys] at hm
      obtain ⟨kv, h1, h2⟩ := List.mem_map.mp hm
      exact ⟨kv, h1, decide_eq_true h2⟩
  · rw [if_neg, putD_notmem hm]
    · exact h.append (by simp only [RepK]; exact ⟨v, [], rfl, q, rfl⟩)
    · intro z
      rw [List.any_eq_true] at z
      obtain ⟨kv, h1, h2⟩ := z
      exact hm (by rw [← h.keys, ← of_decide_eq_true h2]; exact List.mem_map_of_mem h1)
theorem lf_set {o i v : D} {vo vi vv : V} {k : Mu → Prop} {Q : Hp → Prop} (z : ZH K H μ x) (ro : Rep K H μ x o vo) (ri : Rep K H μ x i vi) (rv : Rep K H μ x v vv) (h : zSet o i v μ k) (p : ∀ H' μ', Grow H μ H' μ' x → ZH K H' μ' x → k μ' → Q H') : rSetAll vo vi vv H Q := by
  unfold zSet at h
  split at h
  · rename_i a
    split at h
    · rename_i xs e
      obtain ⟨us, e1, l1⟩ := own_lst z e
      split at h
      · split at h
        · rename_i j ej
          refine .inl ⟨a, us, _, j, ro.ref, ri.int, e1, by rw [← l1.length]; exact ej, ?_⟩
          exact p _ _ (z.gwrite e) (z.write e (by simp only [Own]; exact ⟨_, upd_same, RepL.mono (z.gwrite e) _ _ (l1.set j rv)⟩)) h
        · exact h.elim
      · exact h.elim
    · rename_i kvs e
      obtain ⟨us, e1, l1⟩ := own_dct z e
      split at h
      · rename_i kk ek
        obtain ⟨nd, hz, h⟩ := h
        rw [key_of ri ek]
        refine .inr ⟨a, _, ro.ref, DPut.k e1 (by rw [← l1.length]; exact hz), ?_⟩
        exact p _ _ (z.gwrite e) (z.write e (by simp only [Own]; exact ⟨_, upd_same, RepK.mono (z.gwrite e) _ _ (l1.put rv nd)⟩)) h
      · exact h.elim
    · exact h.elim
  · exact h.elim
variable {o i e : Expr} {to ti te : TE} {zo zi ze : ZT} {pos p : Pos} {k : Nat}
theorem zsub (cx : ZC X W k) (ho : ZE X W o to zo) (hi : ZE X W i ti zi) (he : ZE X W e te ze)
    (ha : ∀ v, assign (.Subscript o i p) X.env v = (do let ov ← holding [v] (eval o X.env); let iv ← holding [v, ov] (eval i X.env); standAt p; holding [v, ov, iv] (setItem ov iv v); release [v, ov, iv] []) := by intro _; rfl)
    (hs : swapsWithSole [.Subscript o i p] e pos.line X.env = pure false := by rfl) (hw : swappedStores [.Subscript o i p] e X.env = pure none := by rfl) (h1 : (assignEach [.Subscript o i p] X.env).map (·.2) = [assign (.Subscript o i p) X.env] := by rfl) :
    ZSt X W (.Assign [.Subscript o i p] e pos) (tAsg te (gSub to ti rSetAll)) (zSetS zo zi ze) := ⟨ps_asg he.p (pg_sub ho.p hi.p (set_all cx.hu) ha) hs hw h1, fun x σ H ρ μ D D' I c h en => by
  refine he.l x σ H ρ μ _ D.ex _ I c h fun dv v H1 μ1 g1 z1 r1 h1 => ?_
  refine ho.l x σ H1 ρ μ1 _ D.ex _ (I.grow g1 z1) (c.grow g1) h1 fun d2 v2 H2 μ2 g2 z2 r2 h2 => ?_
  refine hi.l x σ H2 ρ μ2 _ D.ex _ (I.grow (g1.trans g2) z2) (c.grow (g1.trans g2)) h2 fun d3 v3 H3 μ3 g3 z3 r3 h3 => ?_
  have g := g1.trans (g2.trans g3)
  exact lf_set z3 (r2.mono g3) r3 (r1.mono (g2.trans g3)) h3 fun H4 μ4 g4 z4 h4 => en.nx σ H4 ρ μ4 (g.trans g4) (I.grow (g.trans g4) z4) h4⟩
end

/-! ### attributes -/
def lookF (f : Str) : List (Str × D) → Option D
  | [] => none
  | (g, d) :: r => if g = f then some d else lookF f r
def putFD (f : Str) (v : D) : List (Str × D) → List (Str × D)
  | [] => [(f, v)]
  | (g, x) :: r => if g = f then (g, v) :: r else (g, x) :: putFD f v r
def zFld (C : Addr) (f : Str) : F1 := fun d μ q => match insOf d μ with
  | some (C', fs) => C' = C ∧ match lookF f fs with
    | some v => q v μ
    | none => False
  | none => False
section
variable {X : Cx} {K : PySem.W.Frag} {W : WX} {H : Hp} {μ : Mu} {x : Ax} {f : Str}
theorem ins_of {d : D} {v : V} {C : Addr} {fs : List (Str × D)} (z : ZH K H μ x) (r : Rep K H μ x d v) (h : insOf d μ = some (C, fs)) : ∃ a dx gs, v = .ref a ∧ H a = some (.ins C dx gs) ∧ RepF K H μ x fs gs := by
  cases d with
  | ins C' es =>
    have e := Option.some.inj h
    cases e
    simp only [Rep] at r
    obtain ⟨a, dx, gs, e, q, r⟩ := r
    exact ⟨a, dx, gs, e, q.hard rfl, r⟩
  | ref a =>
    simp only [Rep] at r
    simp only [insOf] at h
    split at h
    · rename_i C2 es e
      cases h
      obtain ⟨dx, gs, e1, l⟩ := own_ins z e
      exact ⟨a, dx, gs, r, e1, l⟩
    · cases h
  | _ => cases h
theorem RepF.look {v : D} : ∀ {fs : List (Str × D)} {gs : List (Str × V)}, RepF K H μ x fs gs → lookF f fs = some v → ∃ u, gs.lookup f = some u ∧ Rep K H μ x v u
  | [], gs, h, e => by simp [lookF] at e
  | (g, d) :: r, gs, h, e => by
    simp only [RepF] at h
    obtain ⟨w, r', rfl, h1, h2⟩ := h
    by_cases hg : g = f
    · subst hg
      unfold lookF at e
      rw [if_pos rfl] at e
      cases e
      exact ⟨w, by simp [List.lookup], h1⟩
    · unfold lookF at e
      rw [if_neg hg] at e
      obtain ⟨u, e1, e2⟩ := RepF.look h2 e
      have hb : (f == g) = false := beq_eq_false_iff_ne.mpr (fun q => hg q.symm)
      exact ⟨u, by simp only [List.lookup, hb]; exact e1, e2⟩
theorem RepF.lookNone : ∀ {fs : List (Str × D)} {gs : List (Str × V)}, RepF K H μ x fs gs → lookF f fs = none → gs.lookup f = none
  | [], gs, h, e => by simp only [RepF] at h; subst h; rfl
  | (g, d) :: r, gs, h, e => by
    simp only [RepF] at h
    obtain ⟨w, r', rfl, h1, h2⟩ := h
    unfold lookF at e
    by_cases hg : g = f
    · rw [if_pos hg] at e; cases e
    · rw [if_neg hg] at e
      have hb : (f == g) = false := beq_eq_false_iff_ne.mpr (fun q => hg q.symm)
      simp only [List.lookup, hb]
      exact RepF.lookNone h2 e
theorem RepF.put {d : D} {v : V} (q : Rep K H μ x d v) : ∀ {fs : List (Str × D)} {gs : List (Str × V)}, RepF K H μ x fs gs → RepF K H μ x (putFD f d fs) (putF f v gs)
  | [], gs, h => by simp only [RepF] at h; subst h; simp only [putFD, putF, RepF]; exact ⟨v, [], rfl, q, rfl⟩
  | (g, e) :: r, gs, h => by
    simp only [RepF] at h
    obtain ⟨w, r', rfl, h1, h2⟩ := h
    by_cases hg : g = f
    · simp only [putFD, putF, if_pos hg, RepF]; exact ⟨v, r', rfl, q, h2⟩
    · simp only [putFD, putF, if_neg hg, RepF]; exact ⟨w, _, rfl, h1, RepF.put q h2⟩
theorem RepF.length : ∀ {fs : List (Str × D)} {gs : List (Str × V)}, RepF K H μ x fs gs → fs.length = gs.length
  | [], gs, h => by simp only [RepF] at h; subst h; rfl
  | (g, e) :: r, gs, h => by
    simp only [RepF] at h
    obtain ⟨w, r', rfl, h1, h2⟩ := h
    simp [RepF.length h2]
/-- the heap behind a store into an attribute -/
def zSetF (C : Addr) (f : Str) (o v : D) (μ : Mu) (k : Mu → Prop) : Prop := match o with
  | .ref a => match μ a with
    | some (.ins C' fs) => C' = C ∧ fs.length < 1000 ∧ k (updM μ a (.ins C (putFD f v fs)))
    | _ => False
  | _ => False
def zSetFS (C : Addr) (f : Str) (zo zv : ZT) : ZS := fun D ρ μ => zv ρ μ (fun v μ1 => zo ρ μ1 (fun o μ2 => zSetF C f o v μ2 (D.nx ρ)) (fun r μ1 => D.ex r ρ μ1)) (fun r μ1 => D.ex r ρ μ1)
def zAugF (C : Addr) (f : Str) (zo zv : ZT) : ZS := fun D ρ μ => zo ρ μ (fun o μ1 => match insOf o μ1 with
  | some (C', fs) => C' = C ∧ match lookF f fs with
    | some (.int i) => zv ρ μ1 (fun v μ2 => match v with
      | .int j => zSetF C f o (.int (i + j)) μ2 (D.nx ρ)
      | _ => False) (fun r μ1 => D.ex r ρ μ1)
    | _ => False
  | none => False) (fun r μ1 => D.ex r ρ μ1)
variable {o e : Expr} {to te : TE} {zo ze : ZT} {pos p : Pos} {C : Addr}
theorem lf_fld (cl : Cls K C) (na : NoAttr K C f) : Lf1 K (fun x H1 Q => ∃ a C dx fs v, x = .ref a ∧ H1 a = some (.ins C dx fs) ∧ Cls K C ∧ NoAttr K C f ∧ fs.lookup f = some v ∧ Q v H1) (zFld C f) := fun x H μ d v q Q z r h p => by
  unfold zFld at h
  split at h
  · rename_i C' fs e
    obtain ⟨rfl, h⟩ := h
    split at h
    · rename_i w ew
      obtain ⟨a, dx, gs, rfl, ea, l⟩ := ins_of z r e
      obtain ⟨u, e1, r1⟩ := l.look ew
      exact ⟨a, _, dx, gs, u, rfl, ea, cl, na, e1, p.here z r1 h⟩
    · exact h.elim
  · exact h.elim
theorem zfld (cl : Cls X.K C) (na : NoAttr X.K C f) (ho : ZE X W o to zo) (hb : attributeBase o f X.env (eval o X.env) = eval o X.env := by rfl) : ZE X W (.Attribute o f pos) (tFld X.K to f) (zUn (zFld C f) zo) := ⟨pe_fld ho.p hb, le_un (lf_fld cl na) ho.l⟩
theorem lf_setF {o v : D} {vo vv : V} {k : Mu → Prop} {Q : Hp → Prop} (z : ZH K H μ x) (ro : Rep K H μ x o vo) (rv : Rep K H μ x v vv) (h : zSetF C f o v μ k) (p : ∀ H' μ', Grow H μ H' μ' x → ZH K H' μ' x → k μ' → Q H') :
    ∃ a dx gs, vo = .ref a ∧ H a = some (.ins C dx gs) ∧ gs.length < 1000 ∧ Q (upd H a (.ins C dx (putF f vv gs))) := by
  unfold zSetF at h
  split at h
  · rename_i a
    split at h
    · rename_i C' fs e
      obtain ⟨rfl, hl, h⟩ := h
      obtain ⟨dx, gs, e1, l⟩ := own_ins z e
      refine ⟨a, dx, gs, ro.ref, e1, by rw [← l.length]; exact hl, ?_⟩
      exact p _ _ (z.gwrite e) (z.write e (by simp only [Own]; exact ⟨dx, _, upd_same, RepF.mono (z.gwrite e) _ _ (l.put rv)⟩)) h
    · exact h.elim
  · exact h.elim
theorem zsetF (cl : Cls X.K C) (na : NoAttr X.K C f) (ho : ZE X W o to zo) (he : ZE X W e te ze) (hs : swapsWith e (some (.Attribute o f p)) pos.line X.env = pure false := by rfl) : ZSt X W (.Assign [.Attribute o f p] e pos) (sFld X.K to te f) (zSetFS C f zo ze) := ⟨ps_fld ho.p he.p hs, fun x σ H ρ μ D D' I c h en => by
  refine he.l x σ H ρ μ _ D.ex _ I c h fun dv v H1 μ1 g1 z1 r1 h1 => ?_
  refine ho.l x σ H1 ρ μ1 _ D.ex _ (I.grow g1 z1) (c.grow g1) h1 fun d2 v2 H2 μ2 g2 z2 r2 h2 => ?_
  have g := g1.trans g2
  obtain ⟨a, dx, gs, e1, e2, e3, e4⟩ := lf_setF (Q := fun H4 => D'.nx σ H4) z2 r2 (r1.mono g2) h2 fun H4 μ4 g4 z4 h4 => en.nx σ H4 ρ μ4 (g.trans g4) (I.grow (g.trans g4) z4) h4
  exact ⟨a, C, dx, gs, e1, e2, cl, na, e3, e4⟩⟩
theorem zaugF (cl : Cls X.K C) (na : NoAttr X.K C f) (ho : ZE X W o to zo) (he : ZE X W e te ze) : ZSt X W (.AugAssign (.Attribute o f p) .Add e pos) (sFldAug X.K to te rAdd f) (zAugF C f zo ze) := ⟨ps_fldaug ho.p he.p in_add, fun x σ H ρ μ D D' I c h en => by
  refine ho.l x σ H ρ μ _ D.ex _ I c h fun d v H1 μ1 g1 z1 r1 h1 => ?_
  split at h1
  · rename_i C' fs e1
    obtain ⟨rfl, h1⟩ := h1
    split at h1
    · rename_i i ei
      obtain ⟨a, dx, gs, rfl, ea, l⟩ := ins_of z1 r1 e1
      obtain ⟨u, e2, r2⟩ := l.look ei
      refine ⟨a, _, dx, gs, u, rfl, ea, cl, na, e2, ?_⟩
      refine he.l x σ H1 ρ μ1 _ D.ex _ (I.grow g1 z1) (c.grow g1) h1 fun d2 v2 H2 μ2 g2 z2 r3 h2 => ?_
      split at h2
      · rw [r2.int, r3.int]
        have g := g1.trans g2
        refine ⟨_, _, rfl, rfl, ?_⟩
        obtain ⟨a', dx', gs', q1, q2, q3, q4⟩ := lf_setF (Q := fun H4 => D'.nx σ H4) (vv := .int _) z2 (r1.mono g2) rep_int h2 fun H4 μ4 g4 z4 h4 => en.nx σ H4 ρ μ4 (g.trans g4) (I.grow (g.trans g4) z4) h4
        cases q1
        exact ⟨dx', gs', q2, q3, q4⟩
      · exact h2.elim
    · exact h1.elim
  · exact h1.elim⟩
end

/-! ### instances made; own methods -/
def zMake (C : Addr) (S : Zp) (zas : ZA) : ZT := fun ρ μ q e => zas ρ μ (fun ds μ1 => ∀ p, μ1 p = none → S (.ref p :: ds) (updM μ1 p (.ins C [])) (fun d μ2 => d = .non ∧ q (.ref p) μ2) (fun _ _ => False)) e
/-- a new instance that stays as it is -/
def zMakeF (C : Addr) (S : Zp) (zas : ZA) : ZT := fun ρ μ q e => zas ρ μ (fun ds μ1 => ∀ p, μ1 p = none → S (.ref p :: ds) (updM μ1 p (.ins C [])) (fun d μ2 => d = .non ∧ match μ2 p with
  | some c => q c (delM μ2 p)
  | none => False) (fun _ _ => False)) e
def zMeth (C : Addr) (m : Str) (S : Zp) (zo : ZT) (zas : ZA) : ZT := fun ρ μ q e => zo ρ μ (fun o μ1 => match insOf o μ1 with
  | some (C', fs) => C' = C ∧ lookF m fs = none ∧ zas ρ μ1 (fun ds μ2 => S (o :: ds) μ2 q e) e
  | none => False) e
end Z

set_option maxRecDepth 100000
set_option maxHeartbeats 4000000
namespace Z
open PySem L2

/-! ### own methods, instances made -/
section
variable {X : Cx} {W : WX} {k j n : Nat} {f C : Addr} {fd : FuncData} {ps : List Str} {S : Zp} {x m : Str} {p pos apos : Pos} {o e : Expr} {es : List Expr} {to : TE} {zo : ZT} {tas : TA} {zas : ZA} {sp : Sp} {E : L2.St → XK}
/-- o.m(..): what it raises is wished for at the slots as they stand -/
def tMethW (C : Addr) (m : Str) (sp : Sp) (E : L2.St → XK) (ta : TE) (t : TA) : TE := fun σ H Q => ta σ H fun x H1 => ∃ a dx fs, x = .ref a ∧ H1 a = some (.ins C dx fs) ∧ fs.lookup m = none ∧ t σ H1 fun vs H2 => sp (x :: vs) H2 Q (E σ)
theorem pe_methW {pl : Sem Bool} (he : PE X o to) (c : Cls X.K C) (hm : Meth X.K C m f) (F : FnOk X.prog X.w X.K X.mg X.base (L2N.CX X.prog X.w) j f fd ps sp) (hr : Room j X.A) (hb : Binds X.K fd ps []) (hx : ∀ σ, PassesAt (L2N.CX X.prog X.w) X σ (E σ)) (ha : PA X (e :: es) tas)
    (hst : starEach (e :: es) X.env = (false, eval e X.env) :: starEach es X.env) (hpl : (backTo pos (starEach es X.env)).any (·.1) = false)
    (ht : eval (.Call (.Attribute o m apos) (e :: es) [] pos) X.env = (do
      let ov ← eval o X.env
      standAt apos.atName
      let (f, first) ← holding [ov] (getMethod ov m pl)
      callWith pos f first (backTo pos (starEach (e :: es) X.env)) (backToKw pos (keywordEach [] X.env)))) :
    PE X (.Call (.Attribute o m apos) (e :: es) [] pos) (tMethW C m sp E to tas) := by
  refine ⟨fun pins s σ H Q I h => PySem.W.methodCall_KW (pl := pl) (thn (he.run pins s σ H _ I h) fun u s1 q1 => ?_) ht⟩
  obtain ⟨x, H1, I1, rx, a, dx, fs, ex, ea, l, q⟩ := q1
  subst ex
  obtain rfl : u = Value.ref a := rx
  refine getmeth_ok I1 ea c hm l (PySem.W.callWith_K (first := [.ref a]) (h₀ := X.base) I.ok.mod.kin hm.kp (thn (ha.run pos pins s1 σ H1 _ I1 q) fun us s2 q2 => ?_) hst hpl)
  obtain ⟨vs, H2, I2, r, q2⟩ := q2
  exact ⟨I2.kIn, run_fnS (us := .ref a :: us) (vs := .ref a :: vs) F hr hb (hx σ) I2 (.cons rfl r) q2⟩
theorem pe_methW0 {pl : Sem Bool} (he : PE X o to) (c : Cls X.K C) (hm : Meth X.K C m f) (F : FnOk X.prog X.w X.K X.mg X.base (L2N.CX X.prog X.w) j f fd ps sp) (hr : Room j X.A) (hb : Binds X.K fd ps []) (hx : ∀ σ, PassesAt (L2N.CX X.prog X.w) X σ (E σ))
    (ht : eval (.Call (.Attribute o m apos) [] [] pos) X.env = (do
      let ov ← eval o X.env
      standAt apos.atName
      let (f, first) ← holding [ov] (getMethod ov m pl)
      callWith pos f first (backTo pos (starEach [] X.env)) (backToKw pos (keywordEach [] X.env)))) :
    PE X (.Call (.Attribute o m apos) [] [] pos) (tMethW C m sp E to tNil) := by
  refine ⟨fun pins s σ H Q I h => PySem.W.methodCall_KW (pl := pl) (thn (he.run pins s σ H _ I h) fun u s1 q1 => ?_) ht⟩
  obtain ⟨x, H1, I1, rx, a, dx, fs, ex, ea, l, q⟩ := q1
  subst ex
  obtain rfl : u = Value.ref a := rx
  exact getmeth_ok I1 ea c hm l (PySem.W.callWith_K0 (first := [.ref a]) I1.kIn hm.kp (run_fnS (us := [.ref a]) (vs := [.ref a]) F hr hb (hx σ) I1 (.cons rfl .nil) q))
theorem sp_in {K : PySem.W.Frag} {xx : Ax} {σ : L2.St} {H H1 : Hp} {ρ : Sl} {μ μ1 : Mu} {q : ZQ} {w : ZW} {Q : VK} {ds : List D} {vs : List V} (I : ZInv K σ H ρ μ xx) (c : WC K W w H μ xx) (k : ∀ d v H' μ', Grow H μ H' μ' xx → ZH K H' μ' xx → Rep K H' μ' xx d v → q d μ' → Q v H')
    (g1 : Grow H μ H1 μ1 xx) (z1 : ZH K H1 μ1 xx) (r : RepL K H1 μ1 xx ds vs) (hl : vs.length = n) (h : S ds μ1 q (fun r μ' => w r ρ μ')) : spOf K n S vs H1 Q (WE W σ) :=
  ⟨hl, xx, ds, μ1, q, _, z1, r, h, fun d v H' μ' g => k d v H' μ' (g1.trans g), fun r cls dd H' μ' g z er hw => c σ H' ρ μ' cls dd r (g1.trans g) (I.grow (g1.trans g) z) er hw⟩
theorem zmeth {pl : Sem Bool} (cx : ZC X W k) (cl : Cls X.K C) (hm : Meth X.K C m f) (F : FnOk X.prog X.w X.K X.mg X.base (L2N.CX X.prog X.w) j f fd ps (spOf X.K (n + 1) S)) (hb : Binds X.K fd ps []) (ho : ZE X W o to zo) (ha : ZAr X W n (e :: es) tas zas) (hj : j ≤ k := by decide)
    (hst : starEach (e :: es) X.env = (false, eval e X.env) :: starEach es X.env := by rfl) (hpl : (backTo pos (starEach es X.env)).any (·.1) = false := by rfl)
    (ht : eval (.Call (.Attribute o m apos) (e :: es) [] pos) X.env = (do
      let ov ← eval o X.env
      standAt apos.atName
      let (f, first) ← holding [ov] (getMethod ov m pl)
      callWith pos f first (backTo pos (starEach (e :: es) X.env)) (backToKw pos (keywordEach [] X.env))) := by rfl) :
    ZE X W (.Call (.Attribute o m apos) (e :: es) [] pos) (tMethW C m (spOf X.K (n + 1) S) (WE W) to tas) (zMeth C m S zo zas) :=
  ⟨pe_methW ho.p cl hm F (cx.room.mono hj) hb (fun σ => L2N.passAt cx.tk σ) ha.p hst hpl ht, fun x σ H ρ μ q w Q I c h k => by
    refine ho.l x σ H ρ μ _ w _ I c h fun d v H1 μ1 g1 z1 r1 h1 => ?_
    split at h1
    · rename_i C' fs e1
      obtain ⟨rfl, hl, h1⟩ := h1
      obtain ⟨a, dx, gs, rfl, ea, l⟩ := ins_of z1 r1 e1
      refine ⟨a, dx, gs, rfl, ea, l.lookNone hl, ?_⟩
      refine ha.l x σ H1 ρ μ1 _ w _ (I.grow g1 z1) (c.grow g1) h1 fun ds vs H2 μ2 g2 z2 r2 l2 h2 => ?_
      exact sp_in I c k (g1.trans g2) z2 (by simp only [RepL]; exact ⟨_, vs, rfl, r1.mono g2, r2⟩) (by rw [List.length_cons, l2]) h2
    · exact h1.elim⟩
theorem zmeth0 {pl : Sem Bool} (cx : ZC X W k) (cl : Cls X.K C) (hm : Meth X.K C m f) (F : FnOk X.prog X.w X.K X.mg X.base (L2N.CX X.prog X.w) j f fd ps (spOf X.K 1 S)) (hb : Binds X.K fd ps []) (ho : ZE X W o to zo) (hj : j ≤ k := by decide)
    (ht : eval (.Call (.Attribute o m apos) [] [] pos) X.env = (do
      let ov ← eval o X.env
      standAt apos.atName
      let (f, first) ← holding [ov] (getMethod ov m pl)
      callWith pos f first (backTo pos (starEach [] X.env)) (backToKw pos (keywordEach [] X.env))) := by rfl) :
    ZE X W (.Call (.Attribute o m apos) [] [] pos) (tMethW C m (spOf X.K 1 S) (WE W) to tNil) (zMeth C m S zo zNil) :=
  ⟨pe_methW0 ho.p cl hm F (cx.room.mono hj) hb (fun σ => L2N.passAt cx.tk σ) ht, fun x σ H ρ μ q w Q I c h k => by
    refine ho.l x σ H ρ μ _ w _ I c h fun d v H1 μ1 g1 z1 r1 h1 => ?_
    split at h1
    · rename_i C' fs e1
      obtain ⟨rfl, hl, h1⟩ := h1
      obtain ⟨a, dx, gs, rfl, ea, l⟩ := ins_of z1 r1 e1
      exact ⟨a, dx, gs, rfl, ea, l.lookNone hl, sp_in I c k g1 z1 (by simp only [RepL]; exact ⟨_, [], rfl, r1, rfl⟩) rfl h1⟩
    · exact h1.elim⟩
theorem grow_made {K : PySem.W.Frag} {xx : Ax} {H : Hp} {μ : Mu} (z : ZH K H μ xx) {p dx : Addr} (hp : H p = none) (hd : H dx = none) (ne : dx ≠ p) :
    Grow H μ (upd (upd H dx (.own p)) p (.ins C dx [])) (updM μ p (.ins C [])) xx ∧ ZH K (upd (upd H dx (.own p)) p (.ins C dx [])) (updM μ p (.ins C [])) xx := by
  have g1 := z.gnew (o := .own p) hd
  have z1 := z.new (o := .own p) hd
  have hp1 : (upd H dx (.own p)) p = none := by rw [upd_ne (Ne.symm ne)]; exact hp
  exact ⟨g1.trans (z1.gown hp1), z1.onew hp1 (by simp only [Own]; exact ⟨dx, [], upd_same, by simp [RepF]⟩)⟩
theorem le_make {k : Nat} (la : LA X.K W n tas zas) : LE X.K W (tMake C (spOf X.K (n + 1) S) [] E0 tas) (zMake C S zas) := fun x σ H ρ μ q w Q I c h k => by
  refine la x σ H ρ μ _ w _ I c h fun ds vs H1 μ1 g1 z1 r1 l1 h1 => fun p dx hp hd ne => ?_
  obtain ⟨g2, z2⟩ := grow_made (C := C) z1 hp hd ne
  refine ⟨by simp [l1], x, .ref p :: ds, _, _, _, z2, ?_, h1 p (z1.fresh hp).1, fun d v H' μ' g z r hq => ⟨?_, k _ _ H' μ' (g1.trans (g2.trans g)) z rep_ref hq.2⟩, fun r cls dd H' μ' g z er hw => hw.elim⟩
  · rw [List.append_nil]
    simp only [RepL]
    exact ⟨_, vs, rfl, rep_ref, RepL.mono g2 _ _ r1⟩
  · have e := hq.1
    subst e
    exact r.non
theorem le_makeF {k : Nat} (la : LA X.K W n tas zas) : LE X.K W (tMake C (spOf X.K (n + 1) S) [] E0 tas) (zMakeF C S zas) := fun x σ H ρ μ q w Q I c h k => by
  refine la x σ H ρ μ _ w _ I c h fun ds vs H1 μ1 g1 z1 r1 l1 h1 => fun p dx hp hd ne => ?_
  obtain ⟨g2, z2⟩ := grow_made (C := C) z1 hp hd ne
  refine ⟨by simp [l1], x, .ref p :: ds, _, _, _, z2, ?_, h1 p (z1.fresh hp).1, fun d v H' μ' g z r hq => ?_, fun r cls dd H' μ' g z er hw => hw.elim⟩
  · rw [List.append_nil]
    simp only [RepL]
    exact ⟨_, vs, rfl, rep_ref, RepL.mono g2 _ _ r1⟩
  · obtain ⟨e, hq⟩ := hq
    subst e
    split at hq
    · rename_i c2 e2
      exact ⟨r.non, k _ _ H' _ (g1.trans (g2.trans (g.trans ZH.gfreeze))) z.freeze (z.frozen e2) hq⟩
    · exact hq.elim
theorem zmake (cx : ZC X W k) (M : Mk X.K C f) (F : FnOk X.prog X.w X.K X.mg X.base (L2N.CX X.prog X.w) j f fd ps (spOf X.K (n + 1) S)) (hm : X.mg x = some (.ref C)) (hb : Binds X.K fd ps []) (ha : ZAr X W n (e :: es) tas zas) (hj : j + 1 ≤ k := by decide)
    (hg : Gl X x := by rfl) (hdb : (x == ("__debug__" : Str)) = false := by decide) (he : starEach (e :: es) X.env = (false, eval e X.env) :: starEach es X.env := by rfl) (hpl : (backTo pos (starEach es X.env)).any (·.1) = false := by rfl) :
    ZE X W (.Call (.Name x p) (e :: es) [] pos) (tMake C (spOf X.K (n + 1) S) [] E0 tas) (zMake C S zas) := ⟨pe_make M F (cx.room.mono hj) hg hm hb .nil Z.passLN ha.p hdb he hpl, le_make (k := k) ha.l⟩
theorem zmakeF (cx : ZC X W k) (M : Mk X.K C f) (F : FnOk X.prog X.w X.K X.mg X.base (L2N.CX X.prog X.w) j f fd ps (spOf X.K (n + 1) S)) (hm : X.mg x = some (.ref C)) (hb : Binds X.K fd ps []) (ha : ZAr X W n (e :: es) tas zas) (hj : j + 1 ≤ k := by decide)
    (hg : Gl X x := by rfl) (hdb : (x == ("__debug__" : Str)) = false := by decide) (he : starEach (e :: es) X.env = (false, eval e X.env) :: starEach es X.env := by rfl) (hpl : (backTo pos (starEach es X.env)).any (·.1) = false := by rfl) :
    ZE X W (.Call (.Name x p) (e :: es) [] pos) (tMake C (spOf X.K (n + 1) S) [] E0 tas) (zMakeF C S zas) := ⟨pe_make M F (cx.room.mono hj) hg hm hb .nil Z.passLN ha.p hdb he hpl, le_makeF (k := k) ha.l⟩
end

/-! ### isinstance -/
inductive Ty where
  | int | str | lst | tup | bool | dict | none | own (C : Addr)
  deriving DecidableEq
def Ty.val : Ty → Value
  | .int => .type "int"
  | .str => .type "str"
  | .lst => .type "list"
  | .tup => .type "tuple"
  | .bool => .type "bool"
  | .dict => .type "dict"
  | .none => .type "NoneType"
  | .own C => .ref C
def tyD (d : D) (μ : Mu) : Option Ty := match d with
  | .non => some .none
  | .bl _ => some .bool
  | .int _ => some .int
  | .str _ => some .str
  | .lst _ => some .lst
  | .klst _ => some .lst
  | .tup _ => some .tup
  | .dct _ => some .dict
  | .ins C _ => some (.own C)
  | .ref a => match μ a with
    | some (.lst _) => some .lst
    | some (.dct _) => some .dict
    | some (.ins C _) => some (.own C)
    | _ => Option.none
  | .oth _ => Option.none
  | .exc _ _ _ => Option.none
/-- whether a thing of type t is an instance of c; a bool is an int -/
def isTy (t c : Ty) : Bool := t == c || (t == .bool && c == .int)
def zIsi (own : List Addr) (cs : List Ty) : F1 := fun d μ q => match tyD d μ with
  | some (.own C) => C ∈ own ∧ q (.bl (cs.any (isTy (.own C)))) μ
  | some t => q (.bl (cs.any (isTy t))) μ
  | none => False
/-- what is known of an own class among the types -/
structure ClsTy (K : PySem.W.Frag) (C : Addr) : Prop where
  cl : Cls K C
  ha : PySem.W.findIn K (.ref C) "__class__" = some (some (.builtin "object.__class__"))
  hn : PySem.W.specialIn K (.builtin "object.__class__") "__get__" = some (some (.builtin "getset_descriptor.__get__"))
  htk : PySem.W.takesIn K (.builtin "object.__class__") = some true
  hm : PySem.W.mroIn K C (.type "object") = some true
section
variable {K : PySem.W.Frag} {H : Hp} {μ : Mu} {x : Ax}
theorem ty_of {d : D} {v : V} {t : Ty} (hc : ∀ C, t = .own C → ClsTy K C) (z : ZH K H μ x) (r : Rep K H μ x d v) (h : tyD d μ = some t) : TyX K H v t.val := by
  cases d with
  | non => cases h; rw [r.non]; exact .base .non
  | bl b => cases h; rw [r.bl]; exact .base (.bl b)
  | int i => cases h; rw [r.int]; exact .base (.int i)
  | str s => cases h; rw [r.str]; exact .base (.str s)
  | lst ds =>
    cases h
    simp only [Rep] at r
    obtain ⟨a, vs, rfl, q, _⟩ := r
    rcases q.1 with e | ⟨_, o, e⟩
    · exact .base (.lst e)
    · exact .base (.frz e)
  | klst ds =>
    cases h
    simp only [Rep] at r
    obtain ⟨a, vs, rfl, q, _⟩ := r
    rcases q with q | ⟨o, its, n, e, c, _⟩
    · rcases q.1 with e | ⟨_, o, e⟩
      · exact .base (.lst e)
      · exact .base (.frz e)
    · exact .kList e c
  | tup ds =>
    cases h
    simp only [Rep] at r
    obtain ⟨a, vs, rfl, q, _⟩ := r
    rcases q with q | ⟨o, its, n, e, c, _⟩
    · exact .base (.tup (q.hard rfl))
    · exact .kTuple e c
  | dct kvs =>
    cases h
    simp only [Rep] at r
    obtain ⟨a, us, rfl, q, _⟩ := r
    rcases q.1 with e | ⟨_, o, e⟩
    · exact .base (.dK e)
    · exact .fDict e
  | ins C fs =>
    cases h
    simp only [Rep] at r
    obtain ⟨a, dx, gs, rfl, q, _⟩ := r
    have T := hc C rfl
    exact .base (.ins (q.hard rfl) T.cl T.ha T.hn T.htk T.hm)
  | ref a =>
    have e0 := r.ref
    subst e0
    simp only [tyD] at h
    split at h
    · rename_i ds e
      cases h
      obtain ⟨us, e1, _⟩ := own_lst z e
      exact .base (.lst e1)
    · rename_i ds e
      cases h
      obtain ⟨us, e1, _⟩ := own_dct z e
      exact .base (.dK e1)
    · rename_i C ds e
      cases h
      obtain ⟨dx, us, e1, _⟩ := own_ins z e
      have T := hc C rfl
      exact .base (.ins e1 T.cl T.ha T.hn T.htk T.hm)
    · cases h
  | oth w => cases h
  | exc a d fs => cases h
end
/-- the facts that isinstance(.., c) leans on: every type that may come is told against c -/
structure Isi (K : PySem.W.Frag) (own : List Addr) (c : Ty) : Prop where
  ok : ∀ t : Ty, (∀ C, t = .own C → C ∈ own) → PySem.W.kitOne K t.val c.val = some (isTy t c)
def Ty.v : Ty → V
  | .int => .ty "int"
  | .str => .ty "str"
  | .lst => .ty "list"
  | .tup => .ty "tuple"
  | .bool => .ty "bool"
  | .dict => .ty "dict"
  | .none => .ty "NoneType"
  | .own C => .ref C
theorem Ty.cls (c : Ty) : ClsV c.v c.val := by cases c <;> first | exact .ty _ | exact .own _
section
variable {X : Cx} {W : WX} {K : PySem.W.Frag} {H : Hp} {μ : Mu} {x : Ax} {own : List Addr}
theorem isi_core {d : D} {v : V} {cs : List Ty} {q : ZQ} (hc : ∀ C ∈ own, ClsTy K C) (z : ZH K H μ x) (r : Rep K H μ x d v) (h : zIsi own cs d μ q) : ∃ t, (∀ C, t = .own C → C ∈ own) ∧ TyX K H v t.val ∧ q (.bl (cs.any (isTy t))) μ := by
  unfold zIsi at h
  split at h
  · rename_i C e
    have hm : ∀ C', Ty.own C = .own C' → C' ∈ own := fun C' e => by cases e; exact h.1
    exact ⟨.own C, hm, ty_of (fun C' e' => hc C' (hm C' e')) z r e, h.2⟩
  · rename_i t n e
    have hm : ∀ C', t = .own C' → C' ∈ own := fun C' e' => (n C' e').elim
    exact ⟨t, hm, ty_of (fun C' e' => hc C' (hm C' e')) z r e, h⟩
  · exact h.elim
theorem any1 {t c : Ty} : [c].any (isTy t) = isTy t c := by simp
theorem kit_any {t : Ty} : ∀ {cs : List Ty}, (∀ c ∈ cs, PySem.W.kitOne K t.val c.val = some (isTy t c)) → PySem.W.kitAny K t.val (cs.map Ty.val) = some (cs.any (isTy t))
  | [], _ => kitAny_nil
  | c :: cs, h => by
    rw [List.map_cons, List.any_cons]
    refine kitAny_cons (h c List.mem_cons_self) (fun e => ?_) (fun e => by rw [e, Bool.true_or])
    rw [e, Bool.false_or]
    exact kit_any fun c' hc' => h c' (List.mem_cons_of_mem _ hc')
theorem clsvs : ∀ cs : List Ty, Paired ClsV (cs.map Ty.v) (cs.map Ty.val)
  | [] => .nil
  | c :: cs => .cons c.cls (clsvs cs)
/-- a tuple of types, written -/
structure TyArgs (X : Cx) (es : List Expr) (cs : List Ty) (t : TA) : Prop where
  p : PA X es t
  l : ∀ σ H (Q : List V → Hp → Prop), Q (cs.map Ty.v) H → t σ H Q
theorem tyargs_nil : TyArgs X [] [] tNil := ⟨pa_nil, fun σ H Q h => h⟩
theorem tyargs_cons {e : Expr} {es : List Expr} {c : Ty} {cs : List Ty} {t : TA} (h1 : PE X e (tC c.v)) (h2 : TyArgs X es cs t) (hs : starEach (e :: es) X.env = (false, eval e X.env) :: starEach es X.env := by rfl) : TyArgs X (e :: es) (c :: cs) (tCons (tC c.v) t) :=
  ⟨pa_cons h1 h2.p hs, fun σ H Q h => h2.l σ H _ h⟩
variable {p pos tpos : Pos} {e ec : Expr} {te : TE} {ze : ZT} {es : List Expr} {c : Ty} {cs : List Ty} {t : TA} {k : Nat}
theorem zisi (hm : X.mg "isinstance" = none) (hc : ∀ C ∈ own, ClsTy X.K C) (hi : Isi X.K own c) (he : ZE X W e te ze) (h1 : PE X ec (tC c.v)) (hg : Gl X "isinstance" := by rfl)
    (hs : starEach (e :: [ec]) X.env = (false, eval e X.env) :: starEach [ec] X.env := by rfl) (hs2 : starEach [ec] X.env = (false, eval ec X.env) :: starEach [] X.env := by rfl) (hpl : (backTo pos (starEach [ec] X.env)).any (·.1) = false := by rfl) :
    ZE X W (.Call (.Name "isinstance" p) [e, ec] [] pos) (tCB (rIsi X.K) (tCons te (tCons (tC c.v) tNil))) (zUn (zIsi own [c]) ze) :=
  ⟨pe_callB call_isi hg hm (by decide +kernel) (pa_cons he.p (pa_cons h1 pa_nil hs2) hs) (by decide) (by decide) hs hpl, fun x σ H ρ μ q w Q I wc h k => by
    refine he.l x σ H ρ μ _ w _ I wc h fun d v H1 μ1 g1 z1 r1 h1 => ?_
    obtain ⟨t, hm, ty, hq⟩ := isi_core hc z1 r1 h1
    rw [any1] at hq
    exact ⟨v, c.v, t.val, c.val, isTy t c, rfl, c.cls, ty, hi.ok t hm, k _ _ H1 μ1 g1 z1 rep_bl hq⟩⟩
theorem tyx_new {H : Hp} {v : V} {t : Value} {a : Addr} {o : HO} (n : H a = none) (h : TyX K H v t) : TyX K (upd H a o) v t := by
  have up : ∀ {b u}, H b = some u → upd H a o b = some u := fun e => by rw [upd_ne (ne_of_none e n)]; exact e
  cases h with
  | base h =>
    cases h with
    | non => exact .base .non
    | bl b => exact .base (.bl b)
    | int b => exact .base (.int b)
    | str b => exact .base (.str b)
    | flt b => exact .base (.flt b)
    | lst e => exact .base (.lst (up e))
    | frz e => exact .base (.frz (up e))
    | tup e => exact .base (.tup (up e))
    | dK e => exact .base (.dK (up e))
    | dT e => exact .base (.dT (up e))
    | ins e h1 h2 h3 h4 h5 => exact .base (.ins (up e) h1 h2 h3 h4 h5)
  | byt b => exact .byt b
  | set e => exact .set (up e)
  | kList e c => exact .kList e c
  | kTuple e c => exact .kTuple e c
  | kDict e c => exact .kDict e c
  | fTuple e => exact .fTuple (up e)
  | fDict e => exact .fDict (up e)
theorem zisiT {kk : Nat} (hm : X.mg "isinstance" = none) (hc : ∀ C ∈ own, ClsTy X.K C) (hi : ∀ c ∈ cs, Isi X.K own c) (he : ZE X W e te ze) (h1 : TyArgs X es cs t) (hl : cs.length ≤ 1000 := by decide) (hg : Gl X "isinstance" := by rfl)
    (hs : starEach (e :: [.Tuple es kk tpos]) X.env = (false, eval e X.env) :: starEach [.Tuple es kk tpos] X.env := by rfl) (hs2 : starEach [.Tuple es kk tpos] X.env = (false, eval (.Tuple es kk tpos) X.env) :: starEach [] X.env := by rfl) (hpl : (backTo pos (starEach [.Tuple es kk tpos] X.env)).any (·.1) = false := by rfl) :
    ZE X W (.Call (.Name "isinstance" p) [e, .Tuple es kk tpos] [] pos) (tCB (rIsiT X.K) (tCons te (tCons (tTup t) tNil))) (zUn (zIsi own cs) ze) :=
  ⟨pe_callB call_isiT hg hm (by decide +kernel) (pa_cons he.p (pa_cons (pe_tup h1.p) pa_nil hs2) hs) (by decide) (by decide) hs hpl, fun x σ H ρ μ q w Q I wc h k => by
    refine he.l x σ H ρ μ _ w _ I wc h fun d v H1 μ1 g1 z1 r1 h' => ?_
    refine h1.l σ H1 _ ⟨by rw [List.length_map]; exact Nat.le_of_lt (small1000 hl), fun a ha => ?_⟩
    obtain ⟨t, hm, ty, hq⟩ := isi_core hc z1 r1 h'
    exact ⟨v, a, cs.map Ty.v, t.val, cs.map Ty.val, _, rfl, upd_same, clsvs cs, tyx_new ha ty, kit_any fun c hcs => (hi c hcs).ok t hm, k _ _ _ μ1 (g1.trans (z1.gnew ha)) (z1.new ha) rep_bl hq⟩⟩
theorem pe_ty {T : String} {x : Str} {pos : Pos} (hm : X.mg x = none) (hg : Gl X x := by rfl) (hv : bootBuiltins x = some (.type T) := by decide +kernel) (hn : x ≠ "__name__" := by decide) (hd : (x == ("__debug__" : Str)) = false := by decide) : PE X (.Name x pos) (tC (.ty T)) := pe_bltn hg hm hv rfl hn hd
end
/-- the built-in types among themselves -/
theorem isi_b {K : PySem.W.Frag} (c : Ty) (hc : ∀ C, c ≠ .own C) : Isi K [] c := ⟨fun t ht => by
  cases t <;> cases c
  all_goals first | exact absurd rfl (hc _) | exact absurd (ht _ rfl) (by simp) | exact kit_ty (by decide +kernel)⟩
end Z

set_option maxRecDepth 100000
set_option maxHeartbeats 4000000
namespace Z
open PySem L2

/-! ### comprehensions -/
abbrev W0 : WX := fun _ _ _ _ => False
def zwipe (ρ : Sl) : List Nat → Sl
  | [] => ρ
  | v :: vs => (zwipe ρ vs).set v none
/-- a target that touches the slots vs alone -/
def GOwn (g : TG) (vs : List Nat) : Prop := ∀ v σ H (k k' : L2.St → Hp → Prop), g v σ H k → (∀ σ2 H2, wipe σ2 vs = wipe σ vs → k σ2 H2 → k' σ2 H2) → g v σ H k'
def GsOwn (g : TGs) (vs : List Nat) : Prop := ∀ v σ H (k k' : L2.St → Hp → Prop), g v σ H k → (∀ σ2 H2, wipe σ2 vs = wipe σ vs → k σ2 H2 → k' σ2 H2) → g v σ H k'
theorem wipe_set {σ : L2.St} {i : Nat} {a : Option V} : ∀ {vs : List Nat}, i ∈ vs → wipe (σ.set i a) vs = wipe σ vs
  | [], h => by simp at h
  | v :: vs, h => by
    show (wipe (σ.set i a) vs).set v none = (wipe σ vs).set v none
    by_cases hv : i ∈ vs
    · rw [wipe_set hv]
    · have hi : i = v := (List.mem_cons.mp h).resolve_right hv
      subst hi
      have e : ∀ (us : List Nat), i ∉ us → wipe (σ.set i a) us = (wipe σ us).set i a := by
        intro us
        induction us with
        | nil => intro _; rfl
        | cons u us ih =>
          intro hu
          have h1 : u ≠ i := fun q => hu (by rw [q]; exact List.mem_cons_self)
          have h2 : i ∉ us := fun q => hu (List.mem_cons_of_mem _ q)
          show (wipe (σ.set i a) us).set u none = ((wipe σ us).set u none).set i a
          rw [ih h2, List.set_comm _ _ h1]
      rw [e vs hv, List.set_set]
theorem wipe_idem {σ : L2.St} : ∀ (vs us : List Nat), (∀ v ∈ vs, v ∈ us) → wipe (wipe σ vs) us = wipe σ us
  | [], us, _ => rfl
  | v :: vs, us, h => by
    show wipe ((wipe σ vs).set v none) us = wipe σ us
    rw [wipe_set (h v List.mem_cons_self), wipe_idem vs us fun w hw => h w (List.mem_cons_of_mem _ hw)]
theorem gown_name {i : Nat} {vs : List Nat} (h : i ∈ vs := by simp) : GOwn (gName i) vs := fun v σ H k k' q f => f _ H (wipe_set h) q
theorem gsown_nil {vs : List Nat} : GsOwn gNil vs := fun v σ H k k' q f => ⟨q.1, f σ H rfl q.2⟩
theorem gsown_cons {g : TG} {gs : TGs} {vs : List Nat} (h1 : GOwn g vs) (h2 : GsOwn gs vs) : GsOwn (gCons g gs) vs := fun v σ H k k' q f => by
  obtain ⟨a, r, e, q⟩ := q
  exact ⟨a, r, e, h1 a σ H _ _ q fun σ2 H2 w q2 => h2 r σ2 H2 _ _ q2 fun σ3 H3 w3 q3 => f σ3 H3 (w3.trans w) q3⟩
theorem gown_tup {K : PySem.W.Frag} {n : Nat} {gs : TGs} {vs : List Nat} (h : GsOwn gs vs) : GOwn (gTup K n gs) vs := fun v σ H k k' q f => by
  obtain ⟨a, xs, e, t, l, q⟩ := q
  exact ⟨a, xs, e, t, l, h xs σ H _ _ q f⟩
def zLcL (g : ZG) (c : ZB) (e : ZT) (ρ : Sl) (q : ZQ) : List D → List D → Mu → Prop
  | acc, [], μ => q (.lst acc) μ
  | acc, d :: ds, μ => g d ρ μ fun ρ2 μ2 => c ρ2 μ2 (fun b μ3 => match b with
    | true => e ρ2 μ3 (fun y μ4 => zLcL g c e ρ q (acc ++ [y]) ds μ4) (fun _ _ => False)
    | false => zLcL g c e ρ q acc ds μ3) (fun _ _ => False)
def zLc (zi : ZI) (g : ZG) (c : ZB) (e : ZT) (vs : List Nat) : ZT := fun ρ μ q ex => zi ρ μ (fun ds μ1 => ds.length ≤ sizeLine ∧ zLcL g c e (zwipe ρ vs) q [] ds μ1) ex
def zYes : ZB := fun _ μ q _ => q true μ
section
variable {K : PySem.W.Frag} {W : WX} {wi : TI} {zi : ZI} {g : TG} {zg : ZG} {tt : TT} {zt : ZB} {te : TE} {ze : ZT} {vs : List Nat}
theorem lt_yes : LT K W tYes zYes := fun x σ H ρ μ q w Q I c h k => k true H μ Grow.refl I.zh h
theorem ZInv.wipe {x : Ax} {σ : L2.St} {H : Hp} {ρ : Sl} {μ : Mu} (I : ZInv K σ H ρ μ x) : ∀ vs : List Nat, ZInv K (L2.wipe σ vs) H (zwipe ρ vs) μ x
  | [] => I
  | v :: vs => by
    have J := ZInv.wipe I vs
    refine ⟨by simp [zwipe, L2.wipe, J.len], fun i d h => ?_, I.zh⟩
    simp only [zwipe] at h
    by_cases hi : v = i
    · subst hi
      by_cases hl : v < (zwipe ρ vs).length
      · rw [List.getElem?_set_self hl] at h; cases h
      · rw [List.getElem?_eq_none (by simpa using hl)] at h; cases h
    · rw [List.getElem?_set_ne hi] at h
      obtain ⟨u, e, r⟩ := J.sl i d h
      exact ⟨u, by simp only [L2.wipe]; rw [List.getElem?_set_ne hi]; exact e, r⟩
theorem ZInv.mo {x x' : Ax} {σ : L2.St} {H H' : Hp} {ρ : Sl} {μ μ' : Mu} (I : ZInv K σ H ρ μ x) (f : Fm H μ x H' μ' x') (z : ZH K H' μ' x') : ZInv K σ H' ρ μ' x' :=
  ⟨I.len, fun i d h => let ⟨v, e, r⟩ := I.sl i d h; ⟨v, e, r.mo f⟩, z⟩
theorem wc0 {x : Ax} {H : Hp} {μ : Mu} : WC K W0 (fun _ _ _ => False) H μ x := fun _ _ _ _ _ _ _ _ _ _ h => h
theorem lc_core (hi : LI K W wi zi) (hg : LG K g zg) (ho : GOwn g vs) (ht : LT K W0 tt zt) (he : LE K W0 te ze) (x : Ax) (σ : L2.St) (H : Hp) (ρ : Sl) (μ : Mu) (q : ZQ) (w : ZW) (Q : VK) (I : ZInv K σ H ρ μ x) (c : WC K W w H μ x)
    (h : zLc zi zg zt ze vs ρ μ q (fun r μ' => w r ρ μ')) (fin : ∀ L acc accV H1 μ1 H' μ', Grow H μ H1 μ1 x → ZH K H1 μ1 x → H1 L = none → Fm H1 μ1 x H' μ' (addX x L) → (∀ a, x a → H' a = H1 a) → ZH K H' μ' (addX x L) → H' L = some (.lst accV) → RepL K H' μ' (addX x L) acc accV →
      q (.lst acc) μ' → Q (.ref L) H') : tLc wi g tt te vs σ H Q := by
  refine hi x σ H ρ μ _ w _ I c h fun ds J H1 μ1 g1 z1 wk h1 => fun L hL => ?_
  obtain ⟨hsz, h1⟩ := h1
  -- L stands aside
  have a1 : Fm H1 μ1 x (upd H1 L (.lst [])) μ1 (addX x L) := Fm.aside hL
  have b1 : ZH K (upd H1 L (.lst [])) μ1 (addX x L) := z1.aside hL
  have I1 := I.grow g1 z1
  refine ⟨fun i m H' => m = ds.length - i ∧ i ≤ ds.length ∧ ∃ acc accV μ', Fm H1 μ1 x H' μ' (addX x L) ∧ (∀ a, x a → H' a = H1 a) ∧ ZH K H' μ' (addX x L) ∧ H' L = some (.lst accV) ∧ RepL K H' μ' (addX x L) acc accV ∧ accV.length ≤ i ∧ zLcL zg zt ze (zwipe ρ vs) q acc (ds.drop i) μ',
    ⟨ds.length, by simp, Nat.zero_le _, [], [], μ1, a1, fun a ha => upd_ne (fun e => (z1.ax a ha).2 (e ▸ hL)), b1, upd_same, by simp [RepL], Nat.le_refl _, h1⟩, ?_⟩
  rintro i m H' ⟨rfl, hi, acc, accV, μ', f', xa', z', eL, l', len', h'⟩
  by_cases hlt : i < ds.length
  · refine .inr ⟨wk.go i H' μ' _ f' z' hlt, fun H5 => ∃ acc accV μ', Fm H1 μ1 x H5 μ' (addX x L) ∧ (∀ a, x a → H5 a = H1 a) ∧ ZH K H5 μ' (addX x L) ∧ H5 L = some (.lst accV) ∧ RepL K H5 μ' (addX x L) acc accV ∧ accV.length ≤ i + 1 ∧ zLcL zg zt ze (zwipe ρ vs) q acc (ds.drop (i + 1)) μ',
      fun H5 w5 => ⟨ds.length - (i + 1), by omega, rfl, hlt, w5⟩, fun v H'' y => ?_⟩
    rw [List.drop_eq_getElem_cons hlt] at h'
    obtain ⟨g3, z3, r3⟩ := wk.yld i H' μ' _ v H'' ds[i] f' z' (List.getElem?_eq_getElem hlt) y
    have J3 : ZInv K (wipe σ vs) H'' (zwipe ρ vs) μ' (addX x L) := (I1.mo (f'.trans g3.fz) z3).wipe vs
    refine ho v _ H'' _ _ (hg (addX x L) _ v _ H'' _ μ' _ (fun σ2 H2 => tt σ2 H2 fun b H3 => if b = true then te σ2 H3 fun y H4 => ∃ acc, H4 L = some (.lst acc) ∧ acc.length < sizeLine ∧ (∃ acc' accV μ', Fm H1 μ1 x (upd H4 L (.lst (acc ++ [y]))) μ' (addX x L) ∧ (∀ a, x a → (upd H4 L (.lst (acc ++ [y]))) a = H1 a) ∧ ZH K (upd H4 L (.lst (acc ++ [y]))) μ' (addX x L) ∧ (upd H4 L (.lst (acc ++ [y]))) L = some (.lst accV) ∧ RepL K (upd H4 L (.lst (acc ++ [y]))) μ' (addX x L) acc' accV ∧ accV.length ≤ i + 1 ∧ zLcL zg zt ze (zwipe ρ vs) q acc' (ds.drop (i + 1)) μ')
      else ∃ acc accV μ', Fm H1 μ1 x H3 μ' (addX x L) ∧ (∀ a, x a → H3 a = H1 a) ∧ ZH K H3 μ' (addX x L) ∧ H3 L = some (.lst accV) ∧ RepL K H3 μ' (addX x L) acc accV ∧ accV.length ≤ i + 1 ∧ zLcL zg zt ze (zwipe ρ vs) q acc (ds.drop (i + 1)) μ') J3 r3 h' fun σ2 H2 ρ2 μ2 g4 J4 h4 => ?_) fun σ2 H2 hw hq => ⟨hw.trans (wipe_idem vs vs fun _ h => h), hq⟩
    refine ht (addX x L) σ2 H2 ρ2 μ2 _ (fun _ _ _ => False) _ J4 wc0 h4 fun b H3 μ3 g5 z5 h5 => ?_
    have G3 : Grow H' μ' H3 μ3 (addX x L) := g3.trans (g4.trans g5)
    have eL3 : H3 L = some (.lst accV) := (G3.ax L (.inr rfl)).trans eL
    have xa3 : ∀ a, x a → H3 a = H1 a := fun a ha => (G3.ax a (.inl ha)).trans (xa' a ha)
    cases b with
    | false => exact iteF ⟨acc, accV, μ3, f'.trans G3.fz, xa3, z5, eL3, RepL.mono G3 _ _ l', Nat.le_succ_of_le len', h5⟩
    | true =>
      refine iteT (he (addX x L) σ2 H3 ρ2 μ3 _ (fun _ _ _ => False) _ (J4.grow g5 z5) wc0 h5 fun d y H4 μ4 g6 z6 r6 h6 => ?_)
      have G4 : Grow H' μ' H4 μ4 (addX x L) := G3.trans g6
      have eL4 : H4 L = some (.lst accV) := (G4.ax L (.inr rfl)).trans eL
      obtain ⟨f7, z7⟩ := z6.wside (.lst (accV ++ [y]))
      refine ⟨accV, eL4, by omega, acc ++ [d], accV ++ [y], μ4, f'.trans (Fm.trans G4.fz f7), fun a ha => ?_, z7, upd_same, (RepL.mo (Fm.trans G4.fz f7) _ _ l').append (RepL.one (r6.mo f7)), by simp; omega, h6⟩
      have ne : a ≠ L := fun e => by
        have := (z1.ax a ha).2
        rw [e] at this
        exact this hL
      rw [upd_ne ne]
      exact (G4.ax a (.inl ha)).trans (xa' a ha)
  · have ei : i = ds.length := by omega
    subst ei
    rw [List.drop_length] at h'
    refine .inl ⟨wk.stop H' μ' _ f' z', ?_⟩
    exact fin L acc accV H1 μ1 H' μ' g1 z1 hL f' xa' z' eL l' h'
theorem le_lc (hi : LI K W wi zi) (hg : LG K g zg) (ho : GOwn g vs) (ht : LT K W0 tt zt) (he : LE K W0 te ze) : LE K W (tLc wi g tt te vs) (zLc zi zg zt ze vs) := fun x σ H ρ μ q w Q I c h k =>
  lc_core hi hg ho ht he x σ H ρ μ q w Q I c h fun L acc accV H1 μ1 H' μ' g1 z1 hL f' xa' z' eL l' h' => by
    have g9 : Grow H μ H' μ' x := g1.trans ⟨f'.trans Fm.back, xa'⟩
    refine k (.lst acc) (.ref L) H' μ' g9 z'.back ?_ h'
    simp only [Rep]
    refine ⟨L, accV, rfl, ⟨.inl eL, rfl, (z'.ax L (.inr rfl)).1, fun e => (z1.ax L e).2 hL⟩, RepL.mo Fm.back _ _ l'⟩
/-- the list may change later -/
def zLcO (zi : ZI) (g : ZG) (c : ZB) (e : ZT) (vs : List Nat) : ZT := fun ρ μ q ex => zLc zi g c e vs ρ μ (fun d μ1 => match d with
  | .lst acc => ∀ p, μ1 p = none → q (.ref p) (updM μ1 p (.lst acc))
  | _ => False) ex
theorem le_lcO (hi : LI K W wi zi) (hg : LG K g zg) (ho : GOwn g vs) (ht : LT K W0 tt zt) (he : LE K W0 te ze) : LE K W (tLc wi g tt te vs) (zLcO zi zg zt ze vs) := fun x σ H ρ μ q w Q I c h k =>
  lc_core hi hg ho ht he x σ H ρ μ _ w Q I c h fun L acc accV H1 μ1 H' μ' g1 z1 hL f' xa' z' eL l' h' => by
    have nL : ∀ a u, Fz H1 μ1 x a u → a ≠ L := fun a u hu e => by
      have := hu.1
      rw [e, hL] at this
      rcases this with q | ⟨_, o, q⟩ <;> cases q
    have f2 : Fm H1 μ1 x H' (updM μ' L (.lst acc)) x := fun a u hu => by
      have h2 := Fm.back a u (f' a u hu)
      exact ⟨h2.1, h2.2.1, by rw [updM_ne (nL a u hu)]; exact h2.2.2.1, h2.2.2.2⟩
    have nX : ¬ x L := fun e => (z1.ax L e).2 hL
    have fX : Fm H' μ' (addX x L) H' (updM μ' L (.lst acc)) x := fun a u hu => by
      have ne : a ≠ L := fun e => hu.2.2.2 (.inr e)
      exact ⟨hu.1, hu.2.1, by rw [updM_ne ne]; exact hu.2.2.1, fun e => hu.2.2.2 (.inl e)⟩
    have zz : ZH K H' (updM μ' L (.lst acc)) x := by
      refine ⟨fun a c e => ?_, fun a ha => ?_⟩
      · by_cases hal : a = L
        · subst hal
          rw [updM_same] at e
          cases e
          exact ⟨accV, eL, RepL.mo fX _ _ l'⟩
        · rw [updM_ne hal] at e
          exact (z'.own a c e).mo fX rfl
      · have ne : a ≠ L := fun e => nX (e ▸ ha)
        rw [updM_ne ne]
        exact z'.ax a (.inl ha)
    have g9 : Grow H μ H' (updM μ' L (.lst acc)) x := g1.trans ⟨f2, xa'⟩
    exact k (.ref L) (.ref L) H' _ g9 zz rep_ref (h' L (z'.ax L (.inr rfl)).1)
end
structure ZPts (X : Cx) (W : WX) (ifs : List Expr) (t : TT) (z : ZB) : Prop where
  p : PTs X ifs t
  l : LT X.K W t z
section
variable {X : Cx} {W : WX} {c : Expr} {t : TT} {z : ZB}
theorem zptsnil : ZPts X W [] tYes zYes := ⟨pts_nil, lt_yes⟩
theorem zptsone (h : ZTe X W c t z) : ZPts X W [c] t z := ⟨pts_one h.p, h.l⟩
end
/-! readings of a block's parts: whatever block it is -/
def allE {ι : Sort _} (t : ι → TE) : TE := fun σ H Q => ∀ i, t i σ H Q
def allT {ι : Sort _} (t : ι → TT) : TT := fun σ H Q => ∀ i, t i σ H Q
def allG {ι : Sort _} (t : ι → TG) : TG := fun v σ H Q => ∀ i, t i v σ H Q
abbrev Bk (α : Type) := Shared → Hp → Addr → List (Str × Addr) → List Addr → α
def bkE (X : Cx) (k : Nat) (scope : Scope) (t : ∀ (s : Shared) (H : Hp) (C : Addr) (cl : List (Str × Addr)) (fp : List Addr), ZC (X.blk s H scope (compEnvC scope cl C X.env) fp) W0 k → TE) : TE :=
  fun σ H Q => ∀ s h C cl fp c, t s h C cl fp c σ H Q
def bkT (X : Cx) (k : Nat) (scope : Scope) (t : ∀ (s : Shared) (H : Hp) (C : Addr) (cl : List (Str × Addr)) (fp : List Addr), ZC (X.blk s H scope (compEnvC scope cl C X.env) fp) W0 k → TT) : TT :=
  fun σ H Q => ∀ s h C cl fp c, t s h C cl fp c σ H Q
def bkG (t : Bk TG) : TG := fun v σ H Q => ∀ s h C cl fp, t s h C cl fp v σ H Q
section
variable {X : Cx} {W : WX} {k : Nat} {elt tg iter : Expr} {ifs : List Expr} {scope : Scope} {own : List (Str × Nat)} {pos : Pos} {wi : TI} {zi : ZI} {zg : ZG} {zt : ZB} {ze : ZT} {g : Bk TG} {tt : ∀ (s : Shared) (H : Hp) (C : Addr) (cl : List (Str × Addr)) (fp : List Addr), ZC (X.blk s H scope (compEnvC scope cl C X.env) fp) W0 k → TT} {te : ∀ (s : Shared) (H : Hp) (C : Addr) (cl : List (Str × Addr)) (fp : List Addr), ZC (X.blk s H scope (compEnvC scope cl C X.env) fp) W0 k → TE}
/-- within a comprehension nothing is raised -/
theorem ZC.blk (cx : ZC X W k) (s : Shared) (H : Hp) (scope : Scope) (ce : Env) (fp : List Addr) : ZC (X.blk s H scope ce fp) W0 k := ⟨cx.calm, cx.nd, cx.room, Z.takes0N, PassesOwn.never⟩
theorem bk_pg (hg : ∀ (s : Shared) (H : Hp) (C : Addr) (cl : List (Str × Addr)) (fp : List Addr), ZPg (X.blk s H scope (compEnvC scope cl C X.env) fp) tg (g s H C cl fp) zg) (s : Shared) (H : Hp) (C : Addr) (cl : List (Str × Addr)) (fp : List Addr) : PG (X.blk s H scope (compEnvC scope cl C X.env) fp) tg (bkG g) :=
  ⟨fun pins s' σ H' v u Q I r hw => (hg s H C cl fp).p.run pins s' σ H' v u Q I r (hw s H C cl fp)⟩
theorem bk_pt (cx : ZC X W k) (ht : ∀ (s : Shared) (H : Hp) (C : Addr) (cl : List (Str × Addr)) (fp : List Addr) (c : ZC (X.blk s H scope (compEnvC scope cl C X.env) fp) W0 k), ZPts (X.blk s H scope (compEnvC scope cl C X.env) fp) W0 ifs (tt s H C cl fp c) zt) (s : Shared) (H : Hp) (C : Addr) (cl : List (Str × Addr)) (fp : List Addr) : PTs (X.blk s H scope (compEnvC scope cl C X.env) fp) ifs (bkT X k scope tt) :=
  ⟨fun pins s' σ H' Q I h => (ht s H C cl fp (cx.blk _ _ _ _ _)).p.run pins s' σ H' Q I (h s H C cl fp _)⟩
theorem bk_pe (cx : ZC X W k) (he : ∀ (s : Shared) (H : Hp) (C : Addr) (cl : List (Str × Addr)) (fp : List Addr) (c : ZC (X.blk s H scope (compEnvC scope cl C X.env) fp) W0 k), ZE (X.blk s H scope (compEnvC scope cl C X.env) fp) W0 elt (te s H C cl fp c) ze) (s : Shared) (H : Hp) (C : Addr) (cl : List (Str × Addr)) (fp : List Addr) : PE (X.blk s H scope (compEnvC scope cl C X.env) fp) elt (bkE X k scope te) :=
  ⟨fun pins s' σ H' Q I h => (he s H C cl fp (cx.blk _ _ _ _ _)).p.run pins s' σ H' Q I (h s H C cl fp _)⟩
theorem bk_lg (hg : ∀ (s : Shared) (H : Hp) (C : Addr) (cl : List (Str × Addr)) (fp : List Addr), ZPg (X.blk s H scope (compEnvC scope cl C X.env) fp) tg (g s H C cl fp) zg) : LG X.K (bkG g) zg := fun x d v σ H ρ μ k k' I r h hk s0 H0 C cl fp => (hg s0 H0 C cl fp).l x d v σ H ρ μ k k' I r h hk
theorem bk_own (ho : ∀ (s : Shared) (H : Hp) (C : Addr) (cl : List (Str × Addr)) (fp : List Addr), GOwn (g s H C cl fp) (own.map (·.2))) : GOwn (bkG g) (own.map (·.2)) := fun v σ H k k' q f s0 H0 C cl fp => ho s0 H0 C cl fp v σ H k k' (q s0 H0 C cl fp) f
theorem bk_lt (ht : ∀ (s : Shared) (H : Hp) (C : Addr) (cl : List (Str × Addr)) (fp : List Addr) (c : ZC (X.blk s H scope (compEnvC scope cl C X.env) fp) W0 k), ZPts (X.blk s H scope (compEnvC scope cl C X.env) fp) W0 ifs (tt s H C cl fp c) zt) : LT X.K W0 (bkT X k scope tt) zt := fun x σ H ρ μ q w Q I c h kk s0 H0 C cl fp cc => (ht s0 H0 C cl fp cc).l x σ H ρ μ q w Q I c h kk
theorem bk_le (he : ∀ (s : Shared) (H : Hp) (C : Addr) (cl : List (Str × Addr)) (fp : List Addr) (c : ZC (X.blk s H scope (compEnvC scope cl C X.env) fp) W0 k), ZE (X.blk s H scope (compEnvC scope cl C X.env) fp) W0 elt (te s H C cl fp c) ze) : LE X.K W0 (bkE X k scope te) ze := fun x σ H ρ μ q w Q I c h kk s0 H0 C cl fp cc => (he s0 H0 C cl fp cc).l x σ H ρ μ q w Q I c h kk
theorem zlc (cx : ZC X W k) (hi : ZPi X W tg iter wi zi) (ok : BlkOk X.N X.env.scope scope own)
    (hg : ∀ (s : Shared) (H : Hp) (C : Addr) (cl : List (Str × Addr)) (fp : List Addr), ZPg (X.blk s H scope (compEnvC scope cl C X.env) fp) tg (g s H C cl fp) zg) (ho : ∀ (s : Shared) (H : Hp) (C : Addr) (cl : List (Str × Addr)) (fp : List Addr), GOwn (g s H C cl fp) (own.map (·.2)))
    (ht : ∀ (s : Shared) (H : Hp) (C : Addr) (cl : List (Str × Addr)) (fp : List Addr) (c : ZC (X.blk s H scope (compEnvC scope cl C X.env) fp) W0 k), ZPts (X.blk s H scope (compEnvC scope cl C X.env) fp) W0 ifs (tt s H C cl fp c) zt)
    (he : ∀ (s : Shared) (H : Hp) (C : Addr) (cl : List (Str × Addr)) (fp : List Addr) (c : ZC (X.blk s H scope (compEnvC scope cl C X.env) fp) W0 k), ZE (X.blk s H scope (compEnvC scope cl C X.env) fp) W0 elt (te s H C cl fp c) ze) (hs : ∀ x, foldedSetIterable iter X.env x = pure x := by intro _; rfl) :
    ZE X W (.ListComp elt [⟨tg, iter, ifs, 0⟩] scope pos) (tLc wi (bkG g) (bkT X k scope tt) (bkE X k scope te) (own.map (·.2))) (zLc zi zg zt ze (own.map (·.2))) :=
  ⟨pe_lc cx.calm cx.nd hi.p ok (bk_pg hg) (bk_pt cx ht) (bk_pe cx he) hs,
    le_lc hi.l (bk_lg hg) (bk_own ho) (bk_lt ht) (bk_le he)⟩
theorem zlcO (cx : ZC X W k) (hi : ZPi X W tg iter wi zi) (ok : BlkOk X.N X.env.scope scope own)
    (hg : ∀ (s : Shared) (H : Hp) (C : Addr) (cl : List (Str × Addr)) (fp : List Addr), ZPg (X.blk s H scope (compEnvC scope cl C X.env) fp) tg (g s H C cl fp) zg) (ho : ∀ (s : Shared) (H : Hp) (C : Addr) (cl : List (Str × Addr)) (fp : List Addr), GOwn (g s H C cl fp) (own.map (·.2)))
    (ht : ∀ (s : Shared) (H : Hp) (C : Addr) (cl : List (Str × Addr)) (fp : List Addr) (c : ZC (X.blk s H scope (compEnvC scope cl C X.env) fp) W0 k), ZPts (X.blk s H scope (compEnvC scope cl C X.env) fp) W0 ifs (tt s H C cl fp c) zt)
    (he : ∀ (s : Shared) (H : Hp) (C : Addr) (cl : List (Str × Addr)) (fp : List Addr) (c : ZC (X.blk s H scope (compEnvC scope cl C X.env) fp) W0 k), ZE (X.blk s H scope (compEnvC scope cl C X.env) fp) W0 elt (te s H C cl fp c) ze) (hs : ∀ x, foldedSetIterable iter X.env x = pure x := by intro _; rfl) :
    ZE X W (.ListComp elt [⟨tg, iter, ifs, 0⟩] scope pos) (tLc wi (bkG g) (bkT X k scope tt) (bkE X k scope te) (own.map (·.2))) (zLcO zi zg zt ze (own.map (·.2))) :=
  ⟨(zlc cx hi ok hg ho ht he hs).p,
    le_lcO hi.l (bk_lg hg) (bk_own ho) (bk_lt ht) (bk_le he)⟩
theorem zsetLc (i : Nat) {y : Str} {py spos : Pos} (cx : ZC X W k) (hi : ZPi X W tg iter wi zi) (ok : BlkOk X.N X.env.scope scope own)
    (hg : ∀ (s : Shared) (H : Hp) (C : Addr) (cl : List (Str × Addr)) (fp : List Addr), ZPg (X.blk s H scope (compEnvC scope cl C X.env) fp) tg (g s H C cl fp) zg) (ho : ∀ (s : Shared) (H : Hp) (C : Addr) (cl : List (Str × Addr)) (fp : List Addr), GOwn (g s H C cl fp) (own.map (·.2)))
    (ht : ∀ (s : Shared) (H : Hp) (C : Addr) (cl : List (Str × Addr)) (fp : List Addr) (c : ZC (X.blk s H scope (compEnvC scope cl C X.env) fp) W0 k), ZPts (X.blk s H scope (compEnvC scope cl C X.env) fp) W0 ifs (tt s H C cl fp c) zt)
    (he : ∀ (s : Shared) (H : Hp) (C : Addr) (cl : List (Str × Addr)) (fp : List Addr) (c : ZC (X.blk s H scope (compEnvC scope cl C X.env) fp) W0 k), ZE (X.blk s H scope (compEnvC scope cl C X.env) fp) W0 elt (te s H C cl fp c) ze)
    (hsw : swapsWith (.ListComp elt [⟨tg, iter, ifs, 0⟩] scope pos) (some (.Name y py)) spos.line X.env = pure true) (hy : X.N[i]? = some y := by rfl) (hyl : X.env.scope.names.lookup y = some .local := by rfl) (hs : ∀ x, foldedSetIterable iter X.env x = pure x := by intro _; rfl) :
    ZSt X W (.Assign [.Name y py] (.ListComp elt [⟨tg, iter, ifs, 0⟩] scope pos) spos) (tAsg (tLc wi (bkG g) (bkT X k scope tt) (bkE X k scope te) (own.map (·.2))) (gName i)) (zAsg (zLc zi zg zt ze (own.map (·.2))) (zgName i)) :=
  ⟨ps_setLc cx.calm cx.nd hy hyl hsw hi.p ok (bk_pg hg) (bk_pt cx ht) (bk_pe cx he) hs,
    ls_asg (le_lc hi.l (bk_lg hg) (bk_own ho) (bk_lt ht) (bk_le he)) lg_name⟩
end

/-! ### a def keeps its promise -/
def startZ (n : Nat) (ds : List D) : Sl := ds.map some ++ List.replicate (n - ds.length) none
/-- what a body's reading is asked for -/
def zBody (n : Nat) (z : ZS) : Zp := fun ds μ q e => z { nx := fun _ μ' => q .non μ', rt := q, ex := fun r _ μ' => e r μ' } (startZ n ds) μ
section
variable {P : Program} {w : World} {K : PySem.W.Frag} {mg : Str → Option Value} {base : Heap}
theorem start_zinv {N : List Str} {x : Ax} {H : Hp} {μ : Mu} {ds : List D} {vs : List V} (z : ZH K H μ x) (r : RepL K H μ x ds vs) : ZInv K (L2.start N vs) H (startZ N.length ds) μ x := by
  have hl := r.length
  refine ⟨by simp [L2.start, startZ, hl], fun i d h => ?_, z⟩
  unfold startZ at h
  unfold L2.start
  by_cases hi : i < ds.length
  · rw [List.getElem?_append_left (by simpa using hi), List.getElem?_map] at h
    cases e : ds[i]? with
    | none => rw [e] at h; cases h
    | some d' =>
      rw [e] at h
      cases h
      obtain ⟨v, e1, r1⟩ := r.get e
      refine ⟨v, ?_, r1⟩
      rw [List.getElem?_append_left (by simp; omega), List.getElem?_map, e1]
      rfl
  · rw [List.getElem?_append_right (by simpa using hi), List.getElem?_replicate] at h
    split at h <;> cases h
theorem zfun {x qual : Str} {st : Stmt} {f : Addr} {fd : FuncData} {N ps : List Str} {k : Nat} {S : Zp} {z : ZS} (F : Fun K x qual st f fd) (Sc : FnScope N ps (defScope st)) (hS : ∀ ds μ q e, S ds μ q e → zBody N.length z ds μ q e)
    (hb : ∀ (cdv : Value) (A : Around) (outer : List Env) (s : Shared) (H : Hp) (E : XK), ZC (cxOf (L2N.CX P w) P w K mg base N qual (defScope st) f cdv A outer s H E) (fun cls d _ H => E cls d H) k →
      ∃ t, ZSs (cxOf (L2N.CX P w) P w K mg base N qual (defScope st) f cdv A outer s H E) (fun cls d _ H => E cls d H) (defBody st) t z) :
    FnOk P w K mg base (L2N.CX P w) (k + 1) f fd ps (spOf K ps.length S) := by
  refine okXN F Sc (fun vs H Q E h => h.1) fun cdv A outer s H vs Q E hr h => ?_
  obtain ⟨hl, x, ds, μ, q, e, zh, r, hs, pq, pe⟩ := h
  obtain ⟨t, p⟩ := hb cdv A outer s H E ⟨rfl, Sc.nd, hr, L2N.takes_of rfl rfl rfl rfl, passes_of rfl⟩
  refine ⟨t, p.p, ?_⟩
  refine p.l x (L2.start N vs) H (startZ N.length ds) μ _ _ (start_zinv zh r) (fun σ' H' ρ' μ' cls dd rr g I er hw => pe rr cls dd H' μ' g I.zh er hw) (hS ds μ q e hs) ⟨fun σ' H' ρ' μ' g I hq => pq .non .non H' μ' g I.zh rep_non hq, pq, fun _ _ _ _ _ _ h => h, fun _ _ _ _ _ _ h => h⟩
/-- with no calls left nothing is promised -/
theorem fn0 {f : Addr} {fd : FuncData} {ps : List Str} {n : Nat} (hn : n = ps.length := by rfl) : FnOk P w K mg base (L2N.CX P w) 0 f fd ps (spOf K n fun _ _ _ _ => False) :=
  ⟨fun vs H Q E h => h.1.trans hn, fun A outer s H args us vs Q E _ _ _ _ h => by obtain ⟨_, _, _, _, _, _, _, _, z, _⟩ := h; exact z.elim⟩
end
end Z
namespace Z
open PySem L2
/-! ### defs by their names -/
section
variable (P : Program) (w : World) (K : PySem.W.Frag) (mg : Str → Option Value) (base : Heap)
/-- the def st of the text stands under the name x -/
def Def (x : Str) (st : Stmt) (ps : List Str) : Prop := ∃ (f : Addr) (fd : FuncData), Fun K x x st f fd ∧ mg x = some (.ref f) ∧ Binds K fd ps []
/-- what is called by the name x keeps the promise S -/
def Cal (k : Nat) (x : Str) (ps : List Str) (S : Zp) : Prop := ∃ (f : Addr) (fd : FuncData), FnOk P w K mg base (L2N.CX P w) k f fd ps (spOf K ps.length S) ∧ mg x = some (.ref f) ∧ PySem.W.keepIn K (.ref f) = true ∧ Binds K fd ps []
end
section
variable {P : Program} {w : World} {K : PySem.W.Frag} {mg : Str → Option Value} {base : Heap} {x : Str} {ps : List Str} {S S' : Zp} {k j : Nat} {st : Stmt}
theorem Cal.mono (h : Cal P w K mg base j x ps S) (hj : j ≤ k) : Cal P w K mg base k x ps S := by
  obtain ⟨f, fd, F, r⟩ := h
  exact ⟨f, fd, F.mono hj, r⟩
theorem Cal.imp (h : Cal P w K mg base k x ps S) (hs : ∀ ds μ q e, S' ds μ q e → S ds μ q e) : Cal P w K mg base k x ps S' := by
  obtain ⟨f, fd, F, r⟩ := h
  refine ⟨f, fd, F.imp fun vs H Q E z => ?_, r⟩
  obtain ⟨hl, x, ds, μ, q, e, zh, rr, hS, pq, pe⟩ := z
  exact ⟨hl, x, ds, μ, q, e, zh, rr, hs _ _ _ _ hS, pq, pe⟩
theorem Cal.zero (h : Def K mg x st ps) : Cal P w K mg base 0 x ps (fun _ _ _ _ => False) := by
  obtain ⟨f, fd, F, m, b⟩ := h
  exact ⟨f, fd, fn0, m, F.kp, b⟩
theorem Cal.mk {N : List Str} {z : ZS} (h : Def K mg x st ps) (Sc : FnScope N ps (defScope st))
    (hb : ∀ (f : Addr) (cdv : Value) (A : Around) (outer : List Env) (s : Shared) (H : Hp) (E : XK), ZC (cxOf (L2N.CX P w) P w K mg base N x (defScope st) f cdv A outer s H E) (fun cls d _ H => E cls d H) k →
      ∃ t, ZSs (cxOf (L2N.CX P w) P w K mg base N x (defScope st) f cdv A outer s H E) (fun cls d _ H => E cls d H) (defBody st) t z) :
    Cal P w K mg base (k + 1) x ps (zBody N.length z) := by
  obtain ⟨f, fd, F, m, b⟩ := h
  exact ⟨f, fd, zfun F Sc (fun _ _ _ _ h => h) (hb f), m, F.kp, b⟩
end
section
variable {X : Cx} {W : WX} {k n : Nat} {ps : List Str} {S : Zp} {x : Str} {p pos : Pos} {e : Expr} {es : List Expr} {tas : TA} {zas : ZA}
theorem zcal (c : ZC X W k) (C : Cal X.prog X.w X.K X.mg X.base k x ps S) (ha : ZAr X W n (e :: es) tas zas) (hn : n = ps.length := by rfl)
    (hg : Gl X x := by rfl) (hdb : (x == ("__debug__" : Str)) = false := by decide) (he : starEach (e :: es) X.env = (false, eval e X.env) :: starEach es X.env := by rfl) (hpl : (backTo pos (starEach es X.env)).any (·.1) = false := by rfl) :
    ZE X W (.Call (.Name x p) (e :: es) [] pos) (tCallS (spOf X.K n S) (WE W) tas) (zCall S zas) := by
  obtain ⟨f, fd, F, m, kp, b⟩ := C
  subst hn
  exact zcall c F m kp b ha (Nat.le_refl k) hg hdb he hpl
theorem zcal0 (c : ZC X W k) (C : Cal X.prog X.w X.K X.mg X.base k x [] S) (hg : Gl X x := by rfl) (hdb : (x == ("__debug__" : Str)) = false := by decide) :
    ZE X W (.Call (.Name x p) [] [] pos) (tCall (spOf X.K 0 S) [] E0 tNil) (zCall0 S) := by
  obtain ⟨f, fd, F, m, kp, b⟩ := C
  exact zcall0 c F m kp b (Nat.le_refl k) hg hdb
theorem zglobI {i : Int} (h : ∃ t, X.mg x = some (.int i t)) (hg : Gl X x := by rfl) (hd : (x == ("__debug__" : Str)) = false := by decide) : ZE X W (.Name x pos) (tC (.int i)) (zC (.int i)) := by
  obtain ⟨t, h⟩ := h
  exact zglob hg h ⟨t, rfl⟩ (fun _ _ _ => rep_int) hd
theorem zglobS {i : Str} (h : ∃ t, X.mg x = some (.str i t)) (hg : Gl X x := by rfl) (hd : (x == ("__debug__" : Str)) = false := by decide) : ZE X W (.Name x pos) (tC (.str i)) (zC (.str i)) := by
  obtain ⟨t, h⟩ := h
  exact zglob hg h ⟨t, rfl⟩ (fun _ _ _ => rep_str) hd
end
end Z

set_option maxRecDepth 100000
set_option maxHeartbeats 4000000
namespace Z
open PySem PySem.Spec PyProof.Rows L2
/-! ### is not; times -/
theorem op_isNotAll {X : Cx} : OpR X (compareOp .IsNot) rNotAll := op_notN.or op_notBl
def rMulS : R2 := fun x y H Q => ∃ a n, x = .str a ∧ y = .int n ∧ MulOk a n ∧ Q (.str (Txt.mul a n)) H
theorem op_mulS {X : Cx} : OpR X (binaryOp .Mult) rMulS := by
  intro pins s σ H x y v u Q I rx ry h
  obtain ⟨a, n, rfl, rfl, ok, q⟩ := h
  obtain ⟨t, rfl⟩ := rx
  obtain ⟨t', rfl⟩ := ry
  exact SB.mul ok fun t' k => ⟨.str _, H, I.tok _, ⟨_, rfl⟩, q⟩
def rMulAll : R2 := fun x y H Q => rI CMulW (fun i j => .int (i * j)) x y H Q ∨ rRep x y H Q ∨ rMulS x y H Q
theorem op_mulAll {X : Cx} : OpR X (binaryOp .Mult) rMulAll := op_mulW.or (op_rep.or op_mulS)
def zMul : F2 := fun a b μ q => match a, b with
  | .int i, .int j => CMulW i j ∧ q (.int (i * j)) μ
  | .str s, .int j => MulOk s j ∧ q (.str (Txt.mul s j)) μ
  | _, _ => False
theorem lf_mulAll {K : PySem.W.Frag} : Lf2 K rMulAll zMul := fun x H μ d e v u q Q z r1 r2 h p => by
  unfold zMul at h
  split at h
  · exact .inl ⟨_, _, r1.int, r2.int, h.1, p.here z rep_int h.2⟩
  · exact .inr (.inr ⟨_, _, r1.str, r2.int, h.1, p.here z rep_str h.2⟩)
  · exact h.elim
/-! ### tables of the module -/
/-- x is a written dict from texts to ints -/
def CKD (K : PySem.W.Frag) (w : World) (mg : Str → Option Value) (x : Str) (kvs : List (Str × Int)) : Prop := ∃ (d : Addr) (es : Array DictEntry) (n : Nat), mg x = some (.ref d) ∧ KDict K w d es n ∧
  ∀ z, match kvs.lookup z with
    | some i => ∃ t, PySem.W.nsIn K d z = some (some (.int i t))
    | none => PySem.W.nsIn K d z = some none
/-- x is a written tuple of texts -/
def CKT (K : PySem.W.Frag) (mg : Str → Option Value) (x : Str) (xs : List Str) : Prop := ∃ (a : Addr), mg x = some (.ref a) ∧ KT' K a (xs.map V.str)
def zInK (kvs : List (Str × Int)) : F1 := fun d μ q => match d with
  | .str z => q (.bl (kvs.lookup z).isSome) μ
  | _ => False
def zNotInK (kvs : List (Str × Int)) : F1 := fun d μ q => match d with
  | .str z => q (.bl (!(kvs.lookup z).isSome)) μ
  | _ => False
def zIxK (kvs : List (Str × Int)) : F1 := fun d μ q => match d with
  | .str z => match kvs.lookup z with
    | some i => q (.int i) μ
    | none => False
  | _ => False
section
variable {X : Cx} {W : WX} {e : Expr} {te : TE} {ze : ZT} {pos p : Pos} {x : Str} {kvs : List (Str × Int)}
theorem le_kd {K : PySem.W.Frag} {r : R2} {f : F1} {u : V} (hr : ∀ H μ x d v q Q, ZH K H μ x → Rep K H μ x d v → f d μ q → Post K H μ x q Q → r v u H Q) (l : LE K W te ze) : LE K W (tOp r te (tC u)) (zUn f ze) := fun x σ H ρ μ q w Q I c h k =>
  l x σ H ρ μ _ w _ I c h fun d v H1 μ1 g1 z1 r1 h1 => hr H1 μ1 x d v q Q z1 r1 h1 fun d v H' μ' g => k d v H' μ' (g1.trans g)
theorem zcmpIn (C : CKD X.K X.w X.mg x kvs) (he : ZE X W e te ze) (hg : Gl X x := by rfl) (hd : (x == ("__debug__" : Str)) = false := by decide) (hm : behindInMarks .In (.Name x p) = false := by rfl) : ∃ t, ZE X W (.Compare e [.In] [.Name x p] pos) t (zUn (zInK kvs) ze) := by
  obtain ⟨d, es, n, m, D, hv⟩ := C
  refine ⟨_, pe_cmpR (op_in_kd D) he.p (pe_glob hg m (show RelV (.ref d) (.ref d) from rfl) hd) hm, le_kd (fun H μ x d v q Q z r h p => ?_) he.l⟩
  unfold zInK at h
  split at h
  · rename_i s
    have := hv s
    cases q1 : kvs.lookup s with
    | none => rw [q1] at this h; exact ⟨s, _, r.str, rfl, this, p.here z rep_bl h⟩
    | some i =>
      rw [q1] at this h
      obtain ⟨t, this⟩ := this
      exact ⟨s, _, r.str, rfl, this, p.here z rep_bl h⟩
  · exact h.elim
theorem zcmpNotIn (C : CKD X.K X.w X.mg x kvs) (he : ZE X W e te ze) (hg : Gl X x := by rfl) (hd : (x == ("__debug__" : Str)) = false := by decide) (hm : behindInMarks .NotIn (.Name x p) = false := by rfl) : ∃ t, ZE X W (.Compare e [.NotIn] [.Name x p] pos) t (zUn (zNotInK kvs) ze) := by
  obtain ⟨d, es, n, m, D, hv⟩ := C
  refine ⟨_, pe_cmpR (op_notIn_kd D) he.p (pe_glob hg m (show RelV (.ref d) (.ref d) from rfl) hd) hm, le_kd (fun H μ x d v q Q z r h p => ?_) he.l⟩
  unfold zNotInK at h
  split at h
  · rename_i s
    have := hv s
    cases q1 : kvs.lookup s with
    | none => rw [q1] at this h; exact ⟨s, _, r.str, rfl, this, p.here z rep_bl h⟩
    | some i =>
      rw [q1] at this h
      obtain ⟨t, this⟩ := this
      exact ⟨s, _, r.str, rfl, this, p.here z rep_bl h⟩
  · exact h.elim
theorem zx {z : ZT} (h : ∃ t, ZE X W e t z) : ZE X W e h.choose z := h.choose_spec
theorem ztx {z : ZB} (h : ∃ t, ZTe X W e t z) : ZTe X W e h.choose z := h.choose_spec
theorem zcmpInT (C : CKD X.K X.w X.mg x kvs) (he : ZE X W e te ze) (hg : Gl X x := by rfl) (hd : (x == ("__debug__" : Str)) = false := by decide) (hm : behindInMarks .In (.Name x p) = false := by rfl) : ∃ t, ZTe X W (.Compare e [.In] [.Name x p] pos) t (zTst (zUn (zInK kvs) ze)) := by
  obtain ⟨d, es, n, m, D, hv⟩ := C
  refine ⟨_, pt_cmpR (op_in_kd D) he.p (pe_glob hg m (show RelV (.ref d) (.ref d) from rfl) hd) hm, lt_tst (le_kd (fun H μ x d v q Q z r h p => ?_) he.l)⟩
  unfold zInK at h
  split at h
  · rename_i s
    have := hv s
    cases q1 : kvs.lookup s with
    | none => rw [q1] at this h; exact ⟨s, _, r.str, rfl, this, p.here z rep_bl h⟩
    | some i =>
      rw [q1] at this h
      obtain ⟨t, this⟩ := this
      exact ⟨s, _, r.str, rfl, this, p.here z rep_bl h⟩
  · exact h.elim
/-- the written tuple as a value -/
theorem zglobT {xs : List Str} (C : CKT X.K X.mg x xs) (hg : Gl X x := by rfl) (hd : (x == ("__debug__" : Str)) = false := by decide) : ∃ t, ZE X W (.Name x pos) t (zC (.tup (xs.map D.str))) := by
  obtain ⟨a, m, kt⟩ := C
  refine ⟨_, zglob (v := .ref a) hg m (show RelV (.ref a) (.ref a) from rfl) (fun H μ y => ?_) hd⟩
  simp only [Rep]
  refine ⟨a, xs.map V.str, rfl, .inr kt, ?_⟩
  clear kt
  induction xs with
  | nil => simp [RepL]
  | cons s r ih => simp only [List.map_cons, RepL]; exact ⟨_, _, rfl, rep_str, ih⟩
end
/-- the subscript of a written dict -/
theorem ix_kd {X : Cx} {d : Addr} {es : Array DictEntry} {n : Nat} (D : KDict X.K X.w d es n) : IxR X (fun x y H Q => ∃ (z : Str) (u0 : Value) (v0 : V), x = .ref d ∧ y = .str z ∧ PySem.W.nsIn X.K d z = some (some u0) ∧ RelV v0 u0 ∧ Q v0 H) := by
  intro value slice pins s σ H x y v u Q I rx ry h hs
  obtain ⟨z, u0, v0, rfl, rfl, e1, r0, q⟩ := h
  obtain rfl : v = Value.ref d := rx
  have hT := kd_type D I
  unfold subscriptTail
  refine wpAny_bind ?_
  rw [getitemInPython_of_ne hT.not_modules]
  refine wpAny_bind (wpAny_specialOf hT PySem.F.slot_dict_getitem.lookup ?_)
  have fin : wpAny (model X.prog X.w) X.A (subscripted slice false (.ref d) u) (fun r s₃ => wpAny (model X.prog X.w) X.A (letTemporaryGo value (.ref d) r >>= fun _ => pure r) (EP X pins σ Q) X.xe s₃) X.xe s := by
    rw [hs]
    exact wpAny_operating (thn (op_item_kd D pins s σ H (.ref d) (.str z) (.ref d) u (fun y H' => y = v0 ∧ Q v0 H') I rfl ry ⟨z, u0, v0, rfl, rfl, e1, r0, rfl, q⟩) fun w' s3 ⟨y, H3, I3, rw', ey, q3⟩ => by
      subst ey
      exact wpAny_bind (wpAny_letTemporaryGo (wpAny_pure ⟨y, H3, I3, rw', q3⟩)))
  first
    | exact wpAny_pure (wpAny_bind fin)
    | exact wpAny_bind (wpAny_pure (wpAny_bind fin))
    | exact wpAny_bind fin
section
variable {X : Cx} {W : WX} {e : Expr} {te : TE} {ze : ZT} {pos p : Pos} {x : Str} {kvs : List (Str × Int)}
theorem le_kdL {K : PySem.W.Frag} {r : R2} {f : F1} {u : V} (hr : ∀ H μ x d v q Q, ZH K H μ x → Rep K H μ x d v → f d μ q → Post K H μ x q Q → r u v H Q) (l : LE K W te ze) : LE K W (tOp r (tC u) te) (zUn f ze) := fun x σ H ρ μ q w Q I c h k =>
  l x σ H ρ μ _ w _ I c h fun d v H1 μ1 g1 z1 r1 h1 => hr H1 μ1 x d v q Q z1 r1 h1 fun d v H' μ' g => k d v H' μ' (g1.trans g)
theorem zixK (C : CKD X.K X.w X.mg x kvs) (he : ZE X W e te ze) (hs : PlainIx e := by exact fun _ _ => rfl) (hg : Gl X x := by rfl) (hd : (x == ("__debug__" : Str)) = false := by decide) : ∃ t, ZE X W (.Subscript (.Name x p) e pos) t (zUn (zIxK kvs) ze) := by
  obtain ⟨d, es, n, m, D, hv⟩ := C
  refine ⟨_, pe_ix (ix_kd D) (pe_glob hg m (show RelV (.ref d) (.ref d) from rfl) hd) he.p hs, le_kdL (fun H μ x d v q Q z r h p => ?_) he.l⟩
  unfold zIxK at h
  split at h
  · rename_i s
    have := hv s
    cases q1 : kvs.lookup s with
    | none => rw [q1] at h; exact h.elim
    | some i =>
      rw [q1] at this h
      obtain ⟨t, this⟩ := this
      exact ⟨s, _, .int i, rfl, r.str, this, ⟨t, rfl⟩, p.here z rep_int h⟩
  · exact h.elim
end
/-! ### from what the head reads -/
theorem nsIn_key {K : PySem.W.Frag} {P : Params} {a : Addr} {ks : List Str} {z : Str} (h : He.dicW K a = some (He.keysIn P ks)) (hz : z ∉ ks) : PySem.W.nsIn K a z = some none := by
  unfold He.dicW at h
  unfold PySem.W.nsIn
  cases q : K.lookup a with
  | none => rw [q] at h; cases h
  | some o =>
    obtain ⟨oc, od, dt, osl⟩ := o
    rw [q] at h
    cases oc with
    | type c =>
      cases od with
      | none =>
        cases dt with
        | dict es n =>
          have h1 : (match decide (c = "dict") && (osl.isEmpty && !(a == sysModules)) with
            | true => some (es.toList.map He.keyOf)
            | false => none) = some (He.keysIn P ks) := h
          split at h1
          · have h2 := Option.some.inj h1
            have key : ∀ (l : List DictEntry) (ks : List Str), l.map He.keyOf = He.keysIn P ks → z ∉ ks → l.find? (·.key.isStr z) = none ∧ l.any (·.refKey) = false := by
              intro l
              induction l with
              | nil => intro ks _ _; exact ⟨rfl, rfl⟩
              | cons e r ih =>
                intro ks hk hn
                cases ks with
                | nil => cases hk
                | cons k ks =>
                  have h3 : He.keyOf e :: r.map He.keyOf = some (k, PyData.keyHash P k) :: He.keysIn P ks := hk
                  injection h3 with h4 h5
                  obtain ⟨i1, i2⟩ := ih ks h5 (fun m => hn (List.mem_cons_of_mem _ m))
                  unfold He.keyOf at h4
                  split at h4
                  · rename_i y t ey
                    obtain ⟨h6, _⟩ := Prod.mk.inj (Option.some.inj h4)
                    have ne : e.key.isStr z = false := by
                      rw [ey]
                      show (y == z) = false
                      rw [h6]
                      exact beq_eq_false_iff_ne.mpr fun e => hn (e ▸ List.mem_cons_self)
                    have nr : e.refKey = false := by unfold DictEntry.refKey; rw [ey]
                    exact ⟨by rw [List.find?_cons, ne]; exact i1, by rw [List.any_cons, nr, i2]; rfl⟩
                  · cases h4
            obtain ⟨k1, k2⟩ := key es.toList ks h2 hz
            show (match es.toList.find? (·.key.isStr z) with
              | some e => some (some e.val)
              | none => if es.toList.any (·.refKey) then none else some none) = some none
            rw [k1, k2]
            rfl
          · cases h1
        | _ => cases h
      | some b => cases dt <;> cases h
    | _ => cases od <;> cases dt <;> cases h
theorem lookup_none {z : Str} : ∀ {kvs : List (Str × Int)}, kvs.lookup z = none → z ∉ kvs.map Prod.fst
  | [], _ => by simp
  | (k, i) :: r, h => by
    simp only [List.lookup] at h
    split at h
    · cases h
    · rename_i e
      have ne : z ≠ k := by simpa using e
      simp only [List.map_cons, List.mem_cons, not_or]
      exact ⟨ne, lookup_none h⟩
theorem lookup_mem {z : Str} {i : Int} : ∀ {kvs : List (Str × Int)}, kvs.lookup z = some i → (z, i) ∈ kvs
  | [], h => by cases h
  | (k, j) :: r, h => by
    simp only [List.lookup] at h
    split at h
    · rename_i e
      have ez : z = k := by simpa using e
      cases h
      rw [ez]
      exact List.mem_cons_self
    · exact List.mem_cons_of_mem _ (lookup_mem h)
def dvs (kvs : List (Str × Int)) : List (Str × He.Dv) := kvs.map fun q => (q.1, He.Dv.int q.2)
theorem ckd_of {K : PySem.W.Frag} {w : World} {h : Heap} {mg : Str → Option Value} {x : Str} {kvs : List (Str × Int)} (X : K.In h) (G : h.Ns mainGlobals mg) (hx : (He.Fa.glo x).ok K = true) (hk : He.dicW K (He.ga K x) = some (He.keysIn w.params (kvs.map Prod.fst)))
    (hv : He.valsB K (He.ga K x) (dvs kvs) = true) : CKD K w mg x kvs := by
  obtain ⟨es, n, D⟩ := He.dicW_ok hk
  refine ⟨_, es, n, He.glo_ok X G hx, D, fun z => ?_⟩
  cases q : kvs.lookup z with
  | none => exact nsIn_key hk (lookup_none q)
  | some i =>
    obtain ⟨u, e, r⟩ := He.valsB_ok hv (q := (z, He.Dv.int i)) (List.mem_map.mpr ⟨(z, i), lookup_mem q, rfl⟩)
    obtain ⟨t, rfl⟩ := r
    exact ⟨t, e⟩
theorem ckt_of {K : PySem.W.Frag} {h : Heap} {mg : Str → Option Value} {x : Str} {xs : List Str} (X : K.In h) (G : h.Ns mainGlobals mg) (hx : (He.Fa.glo x).ok K = true) (hv : He.tupB K x (xs.map He.Dv.str) = true) : CKT K mg x xs := by
  refine ⟨_, He.glo_ok X G hx, ?_⟩
  have := He.tupB_ok hv (fun _ => none)
  rw [List.map_map] at this
  rcases this with (q | ⟨o, q⟩) | q
  · cases q
  · cases q
  · exact q
/-- a def of the module, from what the head reads -/
def dd (x : Str) (st : Stmt) : He.DefD := ⟨(x, none), x, x, defArgs st, defBody st, defScope st, [], []⟩
theorem fun_of {K : PySem.W.Frag} {x : Str} {st : Stmt} {f : Addr} {fd : FuncData} (F : FunD K x x (defArgs st) (defBody st) (defScope st) [] [] f fd) : Fun K x x st f fd := by
  obtain ⟨oc, od, dV, kV, doc, pm, an, cdv, ct, osl, e, lk, hcd, hD, hK⟩ := F.ex
  rcases hD with ⟨_, rfl⟩ | ⟨e, _⟩
  · exact ⟨⟨oc, od, kV, doc, pm, an, cdv, ct, osl, e, lk, hcd⟩, F.kp⟩
  · exact absurd rfl e
theorem def_of {fa : List He.Fa} {fn : List He.DefD} {K : PySem.W.Frag} {h : Heap} {mg : Str → Option Value} {x : Str} {st : Stmt} {ps : List Str} (X : K.In h) (G : h.Ns mainGlobals mg) (c : He.SaysD fa fn K) (i j : Nat) (hi : fn[i]? = some (dd x st) := by rfl) (hj : fa[j]? = some (.glo x) := by rfl)
    (hb : ∀ (kV doc pm : Value) (an : Option Addr) (cdv ct : Value) (us : List Value), us.length = ps.length → bindArgs (PySem.W.fnOf x x (defArgs st) (defBody st) (defScope st) .none kV doc pm an cdv ct) ⟨us, []⟩ = pure (ps.zip us)) : Def K mg x st ps := by
  obtain ⟨fd, F⟩ := c.def_ i hi
  exact ⟨_, fd, fun_of F, He.glo_ok X G (c.fact j hj), FunD.bindsN F hb⟩
end Z

set_option maxRecDepth 100000
set_option maxHeartbeats 4000000
namespace Z
open PySem PySem.Spec PyProof.Rows L2 PpSet
/-! ### comprehensions of sets, by keys -/
section
variable {X : Cx}
def tSk (P : Program) (w : World) (wi : TI) (g : TG) (tt : TT) (te : TE) (vs : List Nat) : TE := fun σ H Q => wi σ H fun J Gp1 => ∀ Dst, Gp1 Dst = none → ∃ W : Nat → Nat → Hp → Prop, (∃ m, W 0 m (upd Gp1 Dst (SetK P w Dst (fun _ => false) 0))) ∧ ∀ i m H, W i m H →
  (J.stop i H ∧ Q (.ref Dst) H) ∨ (J.go i H ∧ ∃ Nx : Hp → Prop, (∀ H', Nx H' → ∃ m', m' < m ∧ W (i + 1) m' H') ∧ ∀ x H', J.yld i H x H' → g x (wipe σ vs) H' fun σ2 Gp2 => wipe σ2 vs = wipe σ vs ∧ tt σ2 Gp2 fun b Gp3 =>
    if b = true then te σ2 Gp3 fun y Gp4 => ∃ (c : Key) (S : Key → Bool) (n : Nat), y = kV c ∧ Gp4 Dst = some (SetK P w Dst S n) ∧ n + 1 < scanBound ∧ Nx (upd Gp4 Dst (SetK P w Dst (fun j => S j || decide (j = c)) (if S c = true then n else n + 1))) else Nx Gp3)
theorem sk_core {pins : List (Addr × Obj)} {s : Shared} {σ : L2.St} {H : Hp} {Q : VK} {elt tg iter : Expr} {ifs : List Expr} {scope : Scope} {own : List (PySem.Str × Nat)} {pos pos' : Pos} {wi : TI} {g : TG} {tt : TT} {te : TE} {use : Option (Value → Sem Unit)} {Qf : Value → Shared → Prop}
    (hc : X.calm = true) (hN : X.N.Nodup) (I : Inv X pins σ H s) (hi : PI X tg iter wi) (ok : BlkOk X.N X.env.scope scope own)
    (hg : ∀ (s : Shared) (H : Hp) (C : Addr) (cl : List (PySem.Str × Addr)) (fps : List Addr), PG (X.blk s H scope (compEnvC scope cl C X.env) fps) tg g) (ht : ∀ (s : Shared) (H : Hp) (C : Addr) (cl : List (PySem.Str × Addr)) (fps : List Addr), PTs (X.blk s H scope (compEnvC scope cl C X.env) fps) ifs tt)
    (he : ∀ (s : Shared) (H : Hp) (C : Addr) (cl : List (PySem.Str × Addr)) (fps : List Addr), PE (X.blk s H scope (compEnvC scope cl C X.env) fps) elt te) (hs : ∀ x, foldedSetIterable iter X.env x = pure x)
    (h : tSk X.prog X.w wi g tt te (own.map (·.2)) σ H Q)
    (kont : ∀ Dst C s' m H', Inv X pins σ H' s' → Q (.ref Dst) H' → s'.heap.Ns C m → FpOk X pins H' C → compPost (model X.prog X.w) X.A X.xe use Qf (.ref Dst) C (.ok .next) s') :
    wpAny (model X.prog X.w) X.A (comprehension (.SetComp elt [⟨tg, iter, ifs, 0⟩] scope pos) scope X.env pos' (newSet (.type "set")) false (eval iter X.env) use) Qf X.xe s := by
  have cellsOk : ∀ y ∈ scope.names, y.2 = .free → ∃ c, X.env.cells.lookup y.1 = some c := fun y hy e => by
    rcases ok.free y hy e with k | k
    · exact I.ok.has _ (.inl k)
    · exact I.ok.has _ (.inr k)
  refine wpAny_comprehension_free (use := use) rfl hs (closure_ok cellsOk) ok.kind (fun y hy e => by rw [ok.uniq y hy, e])
    (thn (hi.run pins s σ H _ I h) fun gv th1 gx => thn gx fun iv th2 got2 => ?_)
  obtain ⟨it, fps, lay, J, Gp2, e, Jn2, Wlk, lies2, fpk2, q⟩ := got2
  subst e
  refine newSet_ok (newEnv_comp ?_)
  generalize eqD : th2.heap.objs.size = Dst
  have freeD : Gp2 Dst = none := Jn2.hok.fresh (Nat.le_of_eq eqD)
  obtain ⟨W, ⟨m0, w0⟩, eachTurn⟩ := q Dst freeD
  -- the new list
  generalize eqT3 : ({ th2 with heap := th2.heap.push { cls := .type "set", dict := none, data := .set #[] 0 (.fresh 0 0 (!X.w.params.followText "set-order")) } } : Shared) = th3
  have Jn3 : Inv X pins σ (upd Gp2 Dst (SetK X.prog X.w Dst (fun _ => false) 0)) th3 := by
    rw [← eqT3]
    refine Jn2.laid (t' := th2.toks) (fun b o e => Heap.get?_push_of_some _ e) (Nat.le_of_eq eqD) ?_
    rw [← eqD]
    exact setK_new ⟨_, #[], 0, _, Heap.get?_push_size _ rfl, ⟨rfl, rfl, rfl⟩, rfl, (fun e he => by simp at he), (fun k => by simp), (by decide), (by rfl), rfl⟩
  have got3 : th3.heap = th2.heap.push { cls := .type "set", dict := none, data := .set #[] 0 (.fresh 0 0 (!X.w.params.followText "set-order")) } := by rw [← eqT3]
  have below : ∀ b ∈ fps, b < th2.heap.objs.size := fun b hb => by
    obtain ⟨o, e, _⟩ := Wlk.obj _ _ lies2 b hb
    exact Heap.lt_size e
  have fpk3 : ∀ b ∈ fps, FpOk X pins (upd Gp2 Dst (SetK X.prog X.w Dst (fun _ => false) 0)) b ∧ b < th3.heap.objs.size := fun b hb => by
    have ltb := below b hb
    refine ⟨⟨?_, (fpk2 b hb).2⟩, by rw [got3, Heap.size_push]; exact Nat.lt_succ_of_lt ltb⟩
    rw [upd_ne (by rw [← eqD]; exact Nat.ne_of_lt ltb)]
    exact (fpk2 b hb).1
  have lies3 : lay 0 th3.heap := Wlk.keep _ _ _ lies2 fun b _ o e => by rw [got3]; exact Heap.get?_push_of_some _ e
  have Jn4 := block_start Jn3 ok hN fpk3
  have tgOk := hg th3 (upd Gp2 Dst (SetK X.prog X.w Dst (fun _ => false) 0)) th3.heap.objs.size (cellsFrom (th3.heap.objs.size + 1) scope.names (cloFrom X.env.cells scope.names [])) fps
  have ifOk := ht th3 (upd Gp2 Dst (SetK X.prog X.w Dst (fun _ => false) 0)) th3.heap.objs.size (cellsFrom (th3.heap.objs.size + 1) scope.names (cloFrom X.env.cells scope.names [])) fps
  have eltOk := he th3 (upd Gp2 Dst (SetK X.prog X.w Dst (fun _ => false) 0)) th3.heap.objs.size (cellsFrom (th3.heap.objs.size + 1) scope.names (cloFrom X.env.cells scope.names [])) fps
  show codeAny _ _ (.compStart (.SetComp elt [⟨tg, iter, ifs, 0⟩] scope pos) 0 (.ref it) (.ref Dst) (compEnvC scope (cellsFrom (th3.heap.objs.size + 1) scope.names (cloFrom X.env.cells scope.names [])) th3.heap.objs.size X.env)) (compPost (model X.prog X.w) X.A X.xe use Qf (.ref Dst) th3.heap.objs.size) { th3 with heap := pushCells (th3.heap.push { cls := .type "dict", data := .dict #[] }) scope.names }
  have noFp : ∀ b ∈ fps, (upd Gp2 Dst (SetK X.prog X.w Dst (fun _ => false) 0)) b = none := fun b hb => (fpk3 b hb).1.1
  generalize eqCe : compEnvC scope (cellsFrom (th3.heap.objs.size + 1) scope.names (cloFrom X.env.cells scope.names [])) th3.heap.objs.size X.env = cev at Jn4 tgOk ifOk eltOk ⊢
  have ceL : cev.locals = th3.heap.objs.size := by subst eqCe; rfl
  generalize eqG3 : upd Gp2 Dst (SetK X.prog X.w Dst (fun _ => false) 0) = Gp3 at Jn3 Jn4 tgOk ifOk eltOk w0 noFp fpk3
  generalize eqT4 : ({ th3 with heap := pushCells (th3.heap.push { cls := .type "dict", data := .dict #[] }) scope.names } : Shared) = th4 at Jn4 ⊢
  have lies4 : lay 0 th4.heap := Wlk.keep _ _ _ lies3 fun b _ o e => by rw [← eqT4]; exact pushCells_keeps _ _ _ _ (Heap.get?_push_of_some _ e)
  have stays : ∀ {σ' : L2.St} {H' : Hp} {s' : Shared}, Inv (X.blk th3 Gp3 scope cev fps) [] σ' H' s' → (∀ b ∈ fps, H' b = none) → ∀ b ∈ fps, FpOk (X.blk th3 Gp3 scope cev fps) [] H' b := fun {σ' H' s'} I' nsAt b hb =>
    ⟨nsAt b hb, (I'.ok.exf b hb).1, I'.ok.exfs b hb, .inl hb, fun x c e => (I'.ok.exf b hb).2 x c e, fun p hp => absurd (show p ∈ ([] : List (Addr × Obj)) ++ [] from hp) (by simp)⟩
  have walkAll : codeAny (model X.prog X.w) X.A (.compLoop (.SetComp elt [⟨tg, iter, ifs, 0⟩] scope pos) 0 (.ref it) (.ref Dst) cev) (compPost (model X.prog X.w) X.A X.xe use Qf (.ref Dst) th3.heap.objs.size) th4 := by
    refine compLoopS_any (fun n s' => ∃ i H', Inv (X.blk th3 Gp3 scope cev fps) [] (wipe σ (own.map (·.2))) H' s' ∧ lay i s'.heap ∧ (∀ b ∈ fps, H' b = none) ∧ W i n H') ?_ m0 ⟨0, Gp3, Jn4, lies4, noFp, w0⟩
    rintro n th5 ⟨i, Gp5, Jn5, lies5, nil5, lft5⟩
    rcases eachTurn i n Gp5 lft5 with ⟨atEnd, wishE⟩ | ⟨goes, Nx, nxt, oneTurn⟩
    · have doneOk := Wlk.done (X.blk th3 Gp3 scope cev fps) rfl rfl rfl hc i [] th5 _ Gp5 (fun _ _ => False) Jn5 (stays Jn5 nil5) lies5 atEnd
      refine thnF doneOk fun r th6 ⟨rOk, Jn6⟩ => ?_
      subst rOk
      -- back in the def's context
      have Jn7 : Inv X pins σ Gp5 th6 := Jn3.call' (ch := fps) Jn6.os Jn6.base Jn6.hok Jn6.bare fun b hb => ⟨(fpk3 b hb).1.2.2.2.1, (fpk3 b hb).1.2.1, (fpk3 b hb).1.2.2.2.2.1, (fpk3 b hb).1.2.2.2.2.2⟩
      have freeC : Gp5 th3.heap.objs.size = none := by
        have zz : Gp5 cev.locals = none := Jn6.free
        rw [ceL] at zz
        exact zz
      obtain ⟨m, nsAt, _⟩ := Jn6.loc
      have nsAt : th6.heap.Ns cev.locals m := nsAt
      rw [ceL] at nsAt
      exact kont Dst th3.heap.objs.size th6 m Gp5 Jn7 wishE nsAt (Jn3.fpOk (Nat.le_refl _) freeC)
    · have itemOk := Wlk.item (X.blk th3 Gp3 scope cev fps) rfl rfl rfl hc i [] th5 _ Gp5 (fun _ _ => False) Jn5 (stays Jn5 nil5) lies5 goes
      refine thnF itemOk fun r th6 ⟨u, rOk, got6⟩ => ?_
      subst rOk
      refine thnF got6 fun _ th7 ⟨x, Gp7, Jn7, rel7, yl7, lies7, nil7⟩ => ?_
      have I7' := Jn7.pinned (stays Jn7 nil7) (Wlk.obj _ _ lies7)
      refine thnF (tgOk.run _ th7 _ Gp7 x u _ I7' rel7 (oneTurn x Gp7 yl7)) fun _ th8 ⟨σ8, Gp8, Jn8, wip8, wish8⟩ => ?_
      refine thnF (ifOk.run _ th8 σ8 Gp8 _ Jn8 wish8) fun b th9 ⟨Gp9, Jn9, wish9⟩ => ?_
      -- the turn's end
      have shut : ∀ {s' : Shared} {H' : Hp}, Inv (X.blk th3 Gp3 scope cev fps) ([] ++ pinsAt fps th7.heap) σ8 H' s' → Nx H' → ∃ m, m < n ∧ ∃ i H', Inv (X.blk th3 Gp3 scope cev fps) [] (wipe σ (own.map (·.2))) H' s' ∧ lay i s'.heap ∧ (∀ b ∈ fps, H' b = none) ∧ W i m H' := fun {s' H'} I' nextOk => by
        obtain ⟨m', hm, w'⟩ := nxt H' nextOk
        have pinKeeps : ∀ b ∈ fps, ∀ o, th7.heap.get? b = some o → s'.heap.get? b = some o ∧ H' b = none := fun b hb o e =>
          let zz := I'.pin (b, o) (List.mem_append_right _ (List.mem_append_right _ (mem_pinsAt hb e)))
          ⟨zz.1, zz.2.1⟩
        have lenEq : (wipe σ (own.map (·.2))).length = σ8.length := by rw [← wip8, wipe_length]
        refine ⟨m', hm, i + 1, H', (I'.unpinned (pins := [])).weak lenEq (fun j v e => ?_), Wlk.keep _ _ _ lies7 fun b hb o e => (pinKeeps b hb o e).1, fun b hb => ?_, w'⟩
        · rw [← wip8] at e
          exact (wipe_some e).1
        · obtain ⟨o, e, _⟩ := Wlk.obj _ _ lies7 b hb
          exact (pinKeeps b hb o e).2
      cases b with
      | false =>
        simp only [Bool.false_eq_true, if_false] at wish9 ⊢
        exact shut Jn9 wish9
      | true =>
        simp only [if_true] at wish9 ⊢
        refine thnF (eltOk.run _ th9 σ8 Gp9 _ Jn9 wish9) fun zz th10 ⟨yval, Gp10, Jn10, rel10, kb, Sb, nb, eqy, atD10, room10, nextOk⟩ => ?_
        subst eqy
        exact thnF (mt_saddK (X := X.blk th3 Gp3 scope cev fps) _ th10 σ8 Gp10 (.ref Dst) [kV kb] (.ref Dst) [zz] (fun _ H' => Nx H') Jn10 rfl (.cons rel10 .nil) ⟨Dst, kb, Sb, nb, rfl, rfl, atD10, room10, nextOk⟩) fun _ th11 ⟨_, Gp11, Jn11, _, wish11⟩ => shut Jn11 wish11
  exact codeAny_compStart_set walkAll (Wlk.self X.A 0 _ _ _ lies4 walkAll)
/-- as a value -/
theorem pe_sk {elt tg iter : Expr} {ifs : List Expr} {scope : Scope} {own : List (PySem.Str × Nat)} {pos : Pos} {wi : TI} {g : TG} {tt : TT} {te : TE} (hc : X.calm = true) (hN : X.N.Nodup) (hi : PI X tg iter wi) (ok : BlkOk X.N X.env.scope scope own)
    (hg : ∀ (s : Shared) (H : Hp) (C : Addr) (cl : List (PySem.Str × Addr)) (fps : List Addr), PG (X.blk s H scope (compEnvC scope cl C X.env) fps) tg g) (ht : ∀ (s : Shared) (H : Hp) (C : Addr) (cl : List (PySem.Str × Addr)) (fps : List Addr), PTs (X.blk s H scope (compEnvC scope cl C X.env) fps) ifs tt)
    (he : ∀ (s : Shared) (H : Hp) (C : Addr) (cl : List (PySem.Str × Addr)) (fps : List Addr), PE (X.blk s H scope (compEnvC scope cl C X.env) fps) elt te) (hs : ∀ x, foldedSetIterable iter X.env x = pure x := by intro _; rfl) :
    PE X (.SetComp elt [⟨tg, iter, ifs, 0⟩] scope pos) (tSk X.prog X.w wi g tt te (own.map (·.2))) := by
  refine ⟨fun pins s σ H Q I h => ?_⟩
  rw [eval_SetComp]
  refine sk_core hc hN I hi ok hg ht he hs h fun Dst C s' m H' I' q nsAt f => ⟨m, nsAt, fun h'' sb => ?_⟩
  obtain ⟨f0, fpk1, fpk2, fpk3, fpk4, fpk5⟩ := f
  exact ⟨.ref Dst, H', I'.turned (t' := s'.toks) (fun b o hb e => (sb.2 b hb).trans e) f0 fpk1 fpk3 fpk4 fpk5, rfl, q⟩
end

def hasK (acc : List Key) (k : Key) : Bool := acc.any fun j => decide (j = k)
/-- the set's keys, in the order in which they came -/
def zScL (g : ZG) (c : ZB) (e : ZT) (ρ : Sl) (q : List Key → Mu → Prop) : List Key → List D → Mu → Prop
  | acc, [], μ => q acc μ
  | acc, d :: ds, μ => g d ρ μ fun ρ2 μ2 => c ρ2 μ2 (fun b μ3 => match b with
    | true => e ρ2 μ3 (fun y μ4 => match keyOf y with
      | some k => zScL g c e ρ q (if hasK acc k = true then acc else acc ++ [k]) ds μ4
      | none => False) (fun _ _ => False)
    | false => zScL g c e ρ q acc ds μ3) (fun _ _ => False)
/-- len of a set comprehension -/
def zLenSc (zi : ZI) (g : ZG) (c : ZB) (e : ZT) (vs : List Nat) : ZT := fun ρ μ q ex => zi ρ μ (fun ds μ1 => ds.length < 3000 ∧ zScL g c e (zwipe ρ vs) (fun ks μ2 => q (.int ks.length) μ2) [] ds μ1) ex
def rLenSet (P : Program) (w : World) : List V → Hp → VK → Prop := fun xs H Q => ∃ (a : Addr) (S : Key → Bool) (n : Nat), xs = [V.ref a] ∧ H a = some (SetK P w a S n) ∧ n < 4000 ∧ Q (.int n) H
theorem call_lenSet {X : Cx} : CallR X (.builtin "len") (rLenSet X.prog X.w) := by
  intro pins s σ H xs us Q I r h
  obtain ⟨a, S, n, rfl, ha, hn, q⟩ := h
  cases r with
  | cons r1 r2 =>
    cases r2
    cases r1
    obtain ⟨o, es, ep, t, ho, hex, hd, _, _, _, hf, hn'⟩ := setK_get I ha
    exact call_len_set ho hex hd hf (by rw [hn'] <;> omega) ⟨.int n, H, I.tok _, ⟨_, by rw [hn']⟩, q⟩
section
variable {K : PySem.W.Frag} {W : WX} {wi : TI} {zi : ZI} {g : TG} {zg : ZG} {tt : TT} {zt : ZB} {te : TE} {ze : ZT} {vs : List Nat} {P : Program} {w : World}
theorem le_lensc (hi : LI K W wi zi) (hg : LG K g zg) (ho : GOwn g vs) (ht : LT K W0 tt zt) (he : LE K W0 te ze) : LE K W (tCB (rLenSet P w) (tCons (tSk P w wi g tt te vs) tNil)) (zLenSc zi zg zt ze vs) := fun x σ H ρ μ q w' Q I c h k => by
  refine hi x σ H ρ μ _ w' _ I c h fun ds J H1 μ1 g1 z1 wk h1 => fun L hL => ?_
  obtain ⟨hsz, h1⟩ := h1
  have a1 : Fm H1 μ1 x (upd H1 L (SetK P w L (fun _ => false) 0)) μ1 (addX x L) := Fm.aside hL
  have b1 : ZH K (upd H1 L (SetK P w L (fun _ => false) 0)) μ1 (addX x L) := z1.aside hL
  have I1 := I.grow g1 z1
  let Wp : Nat → Hp → Prop := fun i H' => ∃ (acc : List Key) (S : Key → Bool) (μ' : Mu), Fm H1 μ1 x H' μ' (addX x L) ∧ (∀ a, x a → H' a = H1 a) ∧ ZH K H' μ' (addX x L) ∧ H' L = some (SetK P w L S acc.length) ∧ (∀ j, S j = hasK acc j) ∧ acc.length ≤ i ∧
    zScL zg zt ze (zwipe ρ vs) (fun ks μ2 => q (.int ks.length) μ2) acc (ds.drop i) μ'
  refine ⟨fun i m H' => m = ds.length - i ∧ i ≤ ds.length ∧ Wp i H',
    ⟨ds.length, by simp, Nat.zero_le _, [], _, μ1, a1, fun a ha => upd_ne (fun e => (z1.ax a ha).2 (e ▸ hL)), b1, upd_same, fun _ => rfl, Nat.le_refl _, h1⟩, ?_⟩
  rintro i m H' ⟨rfl, hi, acc, S, μ', f', xa', z', eL, hS, len', h'⟩
  by_cases hlt : i < ds.length
  · refine .inr ⟨wk.go i H' μ' _ f' z' hlt, Wp (i + 1), fun H5 w5 => ⟨ds.length - (i + 1), by omega, rfl, hlt, w5⟩, fun v H'' y => ?_⟩
    rw [List.drop_eq_getElem_cons hlt] at h'
    obtain ⟨g3, z3, r3⟩ := wk.yld i H' μ' _ v H'' ds[i] f' z' (List.getElem?_eq_getElem hlt) y
    have J3 : ZInv K (wipe σ vs) H'' (zwipe ρ vs) μ' (addX x L) := (I1.mo (f'.trans g3.fz) z3).wipe vs
    refine ho v _ H'' _ _ (hg (addX x L) _ v _ H'' _ μ' _ (fun σ2 H2 => tt σ2 H2 fun b H3 => if b = true then te σ2 H3 fun y H4 => ∃ (c : Key) (S : Key → Bool) (n : Nat), y = kV c ∧ H4 L = some (SetK P w L S n) ∧ n + 1 < scanBound ∧
        Wp (i + 1) (upd H4 L (SetK P w L (fun j => S j || decide (j = c)) (if S c = true then n else n + 1))) else Wp (i + 1) H3) J3 r3 h' fun σ2 H2 ρ2 μ2 g4 J4 h4 => ?_) fun σ2 H2 hw hq => ⟨hw.trans (wipe_idem vs vs fun _ h => h), hq⟩
    refine ht (addX x L) σ2 H2 ρ2 μ2 _ (fun _ _ _ => False) _ J4 wc0 h4 fun b H3 μ3 g5 z5 h5 => ?_
    have G3 : Grow H' μ' H3 μ3 (addX x L) := g3.trans (g4.trans g5)
    have eL3 : H3 L = some (SetK P w L S acc.length) := (G3.ax L (.inr rfl)).trans eL
    have xa3 : ∀ a, x a → H3 a = H1 a := fun a ha => (G3.ax a (.inl ha)).trans (xa' a ha)
    cases b with
    | false => exact iteF ⟨acc, S, μ3, f'.trans G3.fz, xa3, z5, eL3, hS, Nat.le_succ_of_le len', h5⟩
    | true =>
      refine iteT (he (addX x L) σ2 H3 ρ2 μ3 _ (fun _ _ _ => False) _ (J4.grow g5 z5) wc0 h5 fun d y H4 μ4 g6 z6 r6 h6 => ?_)
      cases ek : keyOf d with
      | none => rw [ek] at h6; exact h6.elim
      | some kk =>
        rw [ek] at h6
        have G4 : Grow H' μ' H4 μ4 (addX x L) := G3.trans g6
        have eL4 : H4 L = some (SetK P w L S acc.length) := (G4.ax L (.inr rfl)).trans eL
        obtain ⟨f7, z7⟩ := z6.wside (SetK P w L (fun j => S j || decide (j = kk)) (if S kk = true then acc.length else acc.length + 1))
        have hb : acc.length + 1 < scanBound := by
          have : (4000 : Nat) < scanBound := by decide
          omega
        refine ⟨kk, S, acc.length, key_of r6 ek, eL4, hb, (if hasK acc kk = true then acc else acc ++ [kk]), fun j => S j || decide (j = kk), μ4, f'.trans (Fm.trans G4.fz f7), fun a ha => ?_, z7, ?_, ?_, ?_, h6⟩
        · have ne : a ≠ L := fun e => by
            have := (z1.ax a ha).2
            rw [e] at this
            exact this hL
          rw [upd_ne ne]
          exact (G4.ax a (.inl ha)).trans (xa' a ha)
        · rw [upd_same]
          congr 1
          rw [hS]
          by_cases hm : hasK acc kk = true
          · rw [if_pos hm, if_pos hm]
          · rw [if_neg hm, if_neg hm]; simp
        · intro j
          show (S j || decide (j = kk)) = _
          rw [hS]
          by_cases hm : hasK acc kk = true
          · rw [if_pos hm]
            by_cases hj : j = kk
            · subst hj; simp [hm]
            · simp [hj]
          · rw [if_neg hm]
            unfold hasK
            rw [List.any_append]
            simp [eq_comm]
        · split
          · omega
          · simp; omega
  · have ei : i = ds.length := by omega
    subst ei
    rw [List.drop_length] at h'
    refine .inl ⟨wk.stop H' μ' _ f' z', ?_⟩
    have g9 : Grow H μ H' μ' x := g1.trans ⟨f'.trans Fm.back, xa'⟩
    exact ⟨L, S, acc.length, rfl, eL, by omega, k (.int acc.length) (.int acc.length) H' μ' g9 z'.back rep_int h'⟩
end
section
variable {X : Cx} {W : WX} {k : Nat} {elt tg iter : Expr} {ifs : List Expr} {scope : Scope} {own : List (Str × Nat)} {pos cpos p : Pos} {wi : TI} {zi : ZI} {zg : ZG} {zt : ZB} {ze : ZT} {g : Bk TG} {tt : ∀ (s : Shared) (H : Hp) (C : Addr) (cl : List (Str × Addr)) (fp : List Addr), ZC (X.blk s H scope (compEnvC scope cl C X.env) fp) W0 k → TT} {te : ∀ (s : Shared) (H : Hp) (C : Addr) (cl : List (Str × Addr)) (fp : List Addr), ZC (X.blk s H scope (compEnvC scope cl C X.env) fp) W0 k → TE}
theorem zlensc (cx : ZC X W k) (hm : X.mg "len" = none) (hi : ZPi X W tg iter wi zi) (ok : BlkOk X.N X.env.scope scope own)
    (hg : ∀ (s : Shared) (H : Hp) (C : Addr) (cl : List (Str × Addr)) (fp : List Addr), ZPg (X.blk s H scope (compEnvC scope cl C X.env) fp) tg (g s H C cl fp) zg) (ho : ∀ (s : Shared) (H : Hp) (C : Addr) (cl : List (Str × Addr)) (fp : List Addr), GOwn (g s H C cl fp) (own.map (·.2)))
    (ht : ∀ (s : Shared) (H : Hp) (C : Addr) (cl : List (Str × Addr)) (fp : List Addr) (c : ZC (X.blk s H scope (compEnvC scope cl C X.env) fp) W0 k), ZPts (X.blk s H scope (compEnvC scope cl C X.env) fp) W0 ifs (tt s H C cl fp c) zt)
    (he : ∀ (s : Shared) (H : Hp) (C : Addr) (cl : List (Str × Addr)) (fp : List Addr) (c : ZC (X.blk s H scope (compEnvC scope cl C X.env) fp) W0 k), ZE (X.blk s H scope (compEnvC scope cl C X.env) fp) W0 elt (te s H C cl fp c) ze) (hs : ∀ x, foldedSetIterable iter X.env x = pure x := by intro _; rfl)
    (hg' : Gl X "len" := by rfl) (hee : starEach [Expr.SetComp elt [⟨tg, iter, ifs, 0⟩] scope pos] X.env = (false, eval (.SetComp elt [⟨tg, iter, ifs, 0⟩] scope pos) X.env) :: starEach [] X.env := by rfl) (hpl : (backTo cpos (starEach [] X.env)).any (·.1) = false := by rfl) :
    ZE X W (.Call (.Name "len" p) [.SetComp elt [⟨tg, iter, ifs, 0⟩] scope pos] [] cpos) (tCB (rLenSet X.prog X.w) (tCons (tSk X.prog X.w wi (bkG g) (bkT X k scope tt) (bkE X k scope te) (own.map (·.2))) tNil)) (zLenSc zi zg zt ze (own.map (·.2))) :=
  ⟨pe_callB call_lenSet hg' hm (by decide +kernel) (pa_cons (pe_sk cx.calm cx.nd hi.p ok (bk_pg hg) (bk_pt cx ht) (bk_pe cx he) hs) pa_nil) (by decide) rfl hee hpl,
    le_lensc hi.l (bk_lg hg) (bk_own ho) (bk_lt ht) (bk_le he)⟩
end
end Z

set_option maxRecDepth 100000
set_option maxHeartbeats 4000000
namespace Z
open PySem L2
/-! ### loops by invariants -/
theorem for_inv {g : ZG} {b : ZS} {N : ZEnds} (Inv : Nat → Sl → Mu → Prop) {ds : List D} {ρ : Sl} {μ : Mu} (h0 : Inv 0 ρ μ)
    (hs : ∀ i d ρ μ (K : Sl → Mu → Prop), ds[i]? = some d → Inv i ρ μ → (∀ ρ' μ', Inv (i + 1) ρ' μ' → K ρ' μ') → g d ρ μ fun ρ1 μ1 => b { N with nx := K, ct := K, bk := N.nx } ρ1 μ1)
    (he : ∀ ρ μ, Inv ds.length ρ μ → N.nx ρ μ) : zForL g b N ds ρ μ := by
  have key : ∀ (es : List D) (i : Nat) ρ μ, ds.drop i = es → i ≤ ds.length → Inv i ρ μ → zForL g b N es ρ μ := by
    intro es
    induction es with
    | nil =>
      intro i ρ μ e hi h
      have : i = ds.length := by
        have := congrArg List.length e
        simp at this; omega
      subst this
      simp only [zForL]
      exact he _ _ h
    | cons d r ih =>
      intro i ρ μ e hi h
      have hlt : i < ds.length := by
        have := congrArg List.length e
        simp at this; omega
      have e2 : ds[i]? = some d := by
        rw [List.drop_eq_getElem_cons hlt] at e
        rw [List.getElem?_eq_getElem hlt, (List.cons.inj e).1]
      have e3 : ds.drop (i + 1) = r := by
        rw [List.drop_eq_getElem_cons hlt] at e
        exact (List.cons.inj e).2
      simp only [zForL]
      exact hs i d ρ μ _ e2 h fun ρ' μ' q => ih (i + 1) ρ' μ' e3 hlt q
  exact key ds 0 ρ μ rfl (Nat.zero_le _) h0
theorem lc_inv {g : ZG} {c : ZB} {e : ZT} {ρ : Sl} {q : ZQ} (Inv : Nat → List D → Mu → Prop) {ds : List D} {μ : Mu} (h0 : Inv 0 [] μ)
    (hs : ∀ i d acc μ (K : List D → Mu → Prop), ds[i]? = some d → Inv i acc μ → (∀ acc' μ', Inv (i + 1) acc' μ' → K acc' μ') →
      g d ρ μ fun ρ2 μ2 => c ρ2 μ2 (fun b μ3 => match b with
        | true => e ρ2 μ3 (fun y μ4 => K (acc ++ [y]) μ4) (fun _ _ => False)
        | false => K acc μ3) (fun _ _ => False))
    (he : ∀ acc μ, Inv ds.length acc μ → q (.lst acc) μ) : zLcL g c e ρ q [] ds μ := by
  have key : ∀ (es : List D) (i : Nat) acc μ, ds.drop i = es → i ≤ ds.length → Inv i acc μ → zLcL g c e ρ q acc es μ := by
    intro es
    induction es with
    | nil =>
      intro i acc μ e hi h
      have : i = ds.length := by
        have := congrArg List.length e
        simp at this; omega
      subst this
      simp only [zLcL]
      exact he _ _ h
    | cons d r ih =>
      intro i acc μ e hi h
      have hlt : i < ds.length := by
        have := congrArg List.length e
        simp at this; omega
      have e2 : ds[i]? = some d := by
        rw [List.drop_eq_getElem_cons hlt] at e
        rw [List.getElem?_eq_getElem hlt, (List.cons.inj e).1]
      have e3 : ds.drop (i + 1) = r := by
        rw [List.drop_eq_getElem_cons hlt] at e
        exact (List.cons.inj e).2
      simp only [zLcL]
      exact hs i d acc μ (fun acc' μ' => zLcL g c _ ρ q acc' r μ') e2 h fun acc' μ' q => ih (i + 1) acc' μ' e3 hlt q
  exact key ds 0 [] μ rfl (Nat.zero_le _) h0
theorem sc_inv {g : ZG} {c : ZB} {e : ZT} {ρ : Sl} {q : List Key → Mu → Prop} (Inv : Nat → List Key → Mu → Prop) {ds : List D} {μ : Mu} (h0 : Inv 0 [] μ)
    (hs : ∀ i d acc μ (K : List Key → Mu → Prop), ds[i]? = some d → Inv i acc μ → (∀ acc' μ', Inv (i + 1) acc' μ' → K acc' μ') →
      g d ρ μ fun ρ2 μ2 => c ρ2 μ2 (fun b μ3 => match b with
        | true => e ρ2 μ3 (fun y μ4 => match keyOf y with
          | some k => K (if hasK acc k = true then acc else acc ++ [k]) μ4
          | none => False) (fun _ _ => False)
        | false => K acc μ3) (fun _ _ => False))
    (he : ∀ acc μ, Inv ds.length acc μ → q acc μ) : zScL g c e ρ q [] ds μ := by
  have key : ∀ (es : List D) (i : Nat) acc μ, ds.drop i = es → i ≤ ds.length → Inv i acc μ → zScL g c e ρ q acc es μ := by
    intro es
    induction es with
    | nil =>
      intro i acc μ e hi h
      have : i = ds.length := by
        have := congrArg List.length e
        simp at this; omega
      subst this
      simp only [zScL]
      exact he _ _ h
    | cons d r ih =>
      intro i acc μ e hi h
      have hlt : i < ds.length := by
        have := congrArg List.length e
        simp at this; omega
      have e2 : ds[i]? = some d := by
        rw [List.drop_eq_getElem_cons hlt] at e
        rw [List.getElem?_eq_getElem hlt, (List.cons.inj e).1]
      have e3 : ds.drop (i + 1) = r := by
        rw [List.drop_eq_getElem_cons hlt] at e
        exact (List.cons.inj e).2
      simp only [zScL]
      exact hs i d acc μ (fun acc' μ' => zScL g c _ ρ q acc' r μ') e2 h fun acc' μ' q => ih (i + 1) acc' μ' e3 hlt q
  exact key ds 0 [] μ rfl (Nat.zero_le _) h0
/-! ### the state that a law's makers draw from -/
/-- s: [cells, the number that is left] -/
def StAt (s c : Addr) (μ : Mu) : Prop := s ≠ c ∧ (∃ xs : List Int, μ c = some (.lst (xs.map .int))) ∧ ∃ v : Int, μ s = some (.lst [.ref c, .int v])
/-- all else stays -/
def Fr (s c : Addr) (μ μ' : Mu) : Prop := ∀ b u, b ≠ s → b ≠ c → μ b = some u → μ' b = some u
theorem Fr.refl {s c : Addr} {μ : Mu} : Fr s c μ μ := fun _ _ _ _ h => h
theorem Fr.trans {s c : Addr} {μ μ1 μ2 : Mu} (a : Fr s c μ μ1) (b : Fr s c μ1 μ2) : Fr s c μ μ2 := fun x u h1 h2 h => b x u h1 h2 (a x u h1 h2 h)
/-- what is made out of the state: P its wish -/
def Makes (s c : Addr) (μ : Mu) (P : D → Prop) (q : ZQ) : Prop := ∀ d μ', P d → StAt s c μ' → Fr s c μ μ' → q d μ'
def Smixed : Zp := fun ds μ q _ => ∃ i : Int, ds = [.int i] ∧ ∀ n : Int, q (.int n) μ
def Stake : Zp := fun ds μ q _ => ∃ s c n, ds = [.ref s, .int n] ∧ 0 < n ∧ n < 2 ^ 200 ∧ StAt s c μ ∧ Makes s c μ (fun d => ∃ i : Int, d = .int i ∧ 0 ≤ i ∧ i < n) q
def zTake (S__law_mixed : Zp) : ZS :=
  (zSeq (zIfS (zAnd (zTst (zOp zLt (zOp zIx (zVar 0) (zC (.int 1))) (zVar 1))) (zTst (zOp zGt (zCB zLen (zCons (zOp zIx (zVar 0) (zC (.int 0))) zNil)) (zC (.int 0))))) (zSeq (zAsg (zCB zAbs (zCons (zCB zToInt (zCons (zBM isL zPop (zOp zIx (zVar 0) (zC (.int 0))) (zCons (zC (.int 0)) zNil)) zNil)) zNil)) (zgName 2)) (zSeq (zIfS (zTst (zOp zLt (zVar 2) (zOp zPow (zC (.int 10)) (zC (.int 18))))) (zAsg (zCall S__law_mixed (zCons (zVar 2) zNil)) (zgName 2)) zNext) (zSetS (zVar 0) (zC (.int 1)) (zVar 2)))) zNext) (zSeq (zAsg (zOp zMod (zCB zToInt (zCons (zOp zIx (zVar 0) (zC (.int 1))) zNil)) (zVar 1)) (zgName 3)) (zSeq (zSetS (zVar 0) (zC (.int 1)) (zOp zDiv (zOp zIx (zVar 0) (zC (.int 1))) (zVar 1))) (zRet (zVar 3)))))
theorem small200 {n : Int} (h0 : 0 < n) (h : n < 2 ^ 200) : CDivW (0 : Int) n := by
  refine ⟨h0, ?_⟩
  have e : n.natAbs < 2 ^ 200 := by omega
  have := PySem.Flt.log2_lt_of (k := 200) (by decide) e
  omega
theorem dct_ref {s : Addr} {μ : Mu} {xs : List D} (h : μ s = some (.lst xs)) : dctOf (.ref s) μ = none := by simp only [dctOf, h]
theorem seq_ref {s : Addr} {μ : Mu} {xs : List D} (h : μ s = some (.lst xs)) : seqOf (.ref s) μ = some xs := by simp only [seqOf, h]
theorem lst_ref {s : Addr} {μ : Mu} {xs : List D} (h : μ s = some (.lst xs)) : lstOf (.ref s) μ = some xs := by simp only [lstOf, h]
theorem rlst_ref {s : Addr} {μ : Mu} {xs : List D} (h : μ s = some (.lst xs)) : rlstOf (.ref s) μ = some xs := by simp only [rlstOf, h]
theorem isL_ref {s : Addr} {μ : Mu} {xs : List D} (h : μ s = some (.lst xs)) : isL (.ref s) μ = true := by simp only [isL, lstOf, h]; rfl
theorem lend_ref {s : Addr} {μ : Mu} {xs : List D} (h : μ s = some (.lst xs)) : lenD (.ref s) μ = some xs.length := by simp only [lenD, seq_ref h]
theorem take_tail {s c : Addr} {n : Int} {o : Option D} {μ : Mu} {q : ZQ} {e : ZX} (h0 : 0 < n) (h1 : n < 2 ^ 200) (st : StAt s c μ) (k : Makes s c μ (fun d => ∃ i : Int, d = .int i ∧ 0 ≤ i ∧ i < n) q) :
    (zSeq (zAsg (zOp zMod (zCB zToInt (zCons (zOp zIx (zVar 0) (zC (.int 1))) zNil)) (zVar 1)) (zgName 3)) (zSeq (zSetS (zVar 0) (zC (.int 1)) (zOp zDiv (zOp zIx (zVar 0) (zC (.int 1))) (zVar 1))) (zRet (zVar 3))))
      { nx := fun _ μ' => q .non μ', rt := q, ex := fun r _ μ' => e r μ' } [some (.ref s), some (.int n), o, none] μ := by
  obtain ⟨ne, ⟨xs, hc⟩, v, hs⟩ := st
  ((conv => whnf); (repeat ((first | rw [dct_ref hs] | rw [seq_ref hs]); (conv => whnf))))
  refine ⟨h0, ?_⟩
  ((conv => whnf); (repeat ((first | rw [dct_ref hs] | rw [seq_ref hs]); (conv => whnf))))
  refine ⟨small200 h0 h1, ?_⟩
  ((conv => whnf); (repeat ((first | rw [hs]); (conv => whnf))))
  refine k _ _ ⟨_, rfl, Int.emod_nonneg _ (by omega), Int.emod_lt_of_pos _ h0⟩ ⟨ne, ⟨xs, ?_⟩, _, updM_same⟩ fun b u h1 h2 h => ?_
  · rw [updM_ne (Ne.symm ne)]; exact hc
  · rw [updM_ne h1]; exact h
theorem take_ok {ds : List D} {μ : Mu} {q : ZQ} {e : ZX} (h : Stake ds μ q e) : zBody 4 (zTake Smixed) ds μ q e := by
  obtain ⟨s, c, n, rfl, h0, h1, st, k⟩ := h
  have h10 : CPow 10 18 := ⟨by decide, by decide, by decide⟩
  have ⟨ne, ⟨xs, hc⟩, v, hs⟩ := st
  unfold zTake
  ((conv => whnf); (repeat ((first | rw [dct_ref hs] | rw [seq_ref hs]); (conv => whnf))))
  split
  · ((conv => whnf); (repeat ((first | rw [dct_ref hs] | rw [seq_ref hs] | rw [dct_ref hc] | rw [seq_ref hc]); (conv => whnf))))
    rw [lend_ref hc]
    (conv => whnf)
    split
    · rename_i hl
      have hl2 : 0 < xs.length := by
        have := of_decide_eq_true hl
        rw [List.length_map] at this
        omega
      obtain ⟨x, r, rfl⟩ := List.exists_cons_of_length_pos hl2
      ((conv => whnf); (repeat ((first | rw [dct_ref hs] | rw [seq_ref hs] | rw [isL_ref hc] | rw [hc]); (conv => whnf))))
      have e0 : ixN (List.map D.int (x :: r)).length 0 = some 0 := by simp [ixN]
      rw [e0]
      (conv => whnf)
      refine ⟨by decide, by decide, ?_⟩
      have hs2 : updM μ c (D.lst ((List.map D.int (x :: r)).eraseIdx 0)) s = some (.lst [.ref c, .int v]) := by rw [updM_ne ne]; exact hs
      have hc2 : updM μ c (D.lst ((List.map D.int (x :: r)).eraseIdx 0)) c = some (.lst (r.map .int)) := by rw [updM_same]; rfl
      have fin : ∀ i : Int, (zSeq (zAsg (zOp zMod (zCB zToInt (zCons (zOp zIx (zVar 0) (zC (.int 1))) zNil)) (zVar 1)) (zgName 3)) (zSeq (zSetS (zVar 0) (zC (.int 1)) (zOp zDiv (zOp zIx (zVar 0) (zC (.int 1))) (zVar 1))) (zRet (zVar 3))))
          { nx := fun _ μ' => q .non μ', rt := q, ex := fun r _ μ' => e r μ' } [some (.ref s), some (.int n), some (.int i), none] (updM (updM μ c (D.lst ((List.map D.int (x :: r)).eraseIdx 0))) s (.lst [.ref c, .int i])) := fun i => by
        refine take_tail h0 h1 ⟨ne, ⟨r, ?_⟩, i, updM_same⟩ fun d μ' p st' f => k d μ' p st' fun b u h1 h2 h => ?_
        · rw [updM_ne (Ne.symm ne)]; exact hc2
        · exact f b u h1 h2 (by rw [updM_ne h1, updM_ne h2]; exact h)
      (conv => whnf)
      refine ⟨h10, ?_⟩
      (conv => whnf)
      split
      · refine ⟨_, rfl, fun i => ?_⟩
        ((conv => whnf); (repeat ((first | rw [hs2]); (conv => whnf))))
        exact fin i
      · ((conv => whnf); (repeat ((first | rw [hs2]); (conv => whnf))))
        exact fin _
    · exact take_tail h0 h1 st k
  · exact take_tail h0 h1 st k
def zMixed : ZS :=
  (zSeq (zAsg (zOp zMod (zCB zToInt (zCons (zVar 0) zNil)) (zC (.int 1000000007))) (zgName 1)) (zSeq (zAsg (zC (.int 0)) (zgName 2)) (zSeq (zFor (ziRng1 (zCons (zC (.int 6)) zNil)) (zgName 3) (zSeq (zAsg (zOp zMod (zCB zToInt (zCons (zOp zAdd (zOp zAdd (zOp zMul (zVar 1) (zC (.int 48271))) (zC (.int 12820163))) (zOp zMul (zC (.int 7)) (zVar 3))) zNil)) (zC (.int 1000000007))) (zgName 1)) (zAsg (zOp zAdd (zOp zMul (zVar 2) (zC (.int 1000000007))) (zVar 1)) (zgName 2)))) (zRet (zVar 2)))))
theorem cmul_small {i j : Int} (h1 : i.natAbs < 2 ^ 250) (h2 : j.natAbs < 2 ^ 250) : CMulW i j := wide_mul h1 h2 (by decide) (by decide) (by decide)
theorem natAbs_lt {i : Int} {n : Nat} (h0 : 0 ≤ i) (h : i < (n : Int)) : i.natAbs < n := by omega
theorem mixed_ok {ds : List D} {μ : Mu} {q : ZQ} {e : ZX} (h : Smixed ds μ q e) : zBody 4 zMixed ds μ q e := by
  obtain ⟨cell, rfl, k⟩ := h
  unfold zMixed
  (conv => whnf)
  refine ⟨(by decide : (0 : Int) < 1000000007), ?_⟩
  (conv => whnf)
  refine ⟨by decide, by decide, ?_⟩
  refine for_inv (Inv := fun i ρ μ' => μ' = μ ∧ ∃ (seed num : Int) (o : Option D), ρ = [some (.int cell), some (.int seed), some (.int num), o] ∧ 0 ≤ seed ∧ seed < 1000000007 ∧ 0 ≤ num ∧ num < (2 : Int) ^ (30 * i)) ?_ ?_ ?_
  · exact ⟨rfl, _, _, _, rfl, Int.emod_nonneg _ (by decide), Int.emod_lt_of_pos _ (by decide), by decide, by decide⟩
  · rintro i d ρ μ' K hd ⟨rfl, seed, num, o, rfl, s0, s1, n0, n1⟩ hK
    simp only [List.getElem?_map, Option.map_eq_some_iff, List.getElem?_eq_some_iff] at hd
    obtain ⟨j, ⟨hj, ej⟩, rfl⟩ := hd
    have hj6 : i < 6 := by simpa using hj
    have ej2 : j = i := by rw [← ej]; simp
    subst ej2
    (conv => whnf)
    refine ⟨cmul_small (by omega) (by decide), ?_⟩
    (conv => whnf)
    refine ⟨cmul_small (by decide) (by omega), ?_⟩
    (conv => whnf)
    refine ⟨(by decide : (0 : Int) < 1000000007), ?_⟩
    (conv => whnf)
    have hb : (2 : Int) ^ (30 * j) ≤ 2 ^ 180 := by
      have : (2 : Nat) ^ (30 * j) ≤ 2 ^ 180 := Nat.pow_le_pow_right (by decide) (by omega)
      exact_mod_cast this
    refine ⟨cmul_small (by omega) (by decide), ?_⟩
    (conv => whnf)
    refine hK _ _ ⟨rfl, _, _, _, rfl, Int.emod_nonneg _ (by decide), Int.emod_lt_of_pos _ (by decide), ?_, ?_⟩
    · have := Int.emod_nonneg (seed * 48271 + 12820163 + 7 * (0 + (j : Int))) (show (1000000007 : Int) ≠ 0 by decide)
      show 0 ≤ num * 1000000007 + (seed * 48271 + 12820163 + 7 * (0 + (j : Int))) % 1000000007
      omega
    · have h1 := Int.emod_lt_of_pos (seed * 48271 + 12820163 + 7 * (0 + (j : Int))) (show (0 : Int) < 1000000007 by decide)
      have e1 : (2 : Int) ^ (30 * (j + 1)) = 2 ^ (30 * j) * 1073741824 := by rw [Nat.mul_add, Int.pow_add]; rfl
      show num * 1000000007 + (seed * 48271 + 12820163 + 7 * (0 + (j : Int))) % 1000000007 < _
      rw [e1]
      omega
  · rintro ρ μ' ⟨rfl, seed, num, o, rfl, _⟩
    exact k num
def zState : ZS :=
  (zRet (zLstO (zCons (zLcO (ziSeq (zSlice (zVar 0) zNoP (zPart (zC (.int 63))))) (zgName 1) zYes (zCB zToInt (zCons (zVar 1) zNil)) [1]) (zCons (zC (.int 0)) zNil))))
/-- the script's first cells, a state anew -/
def Sstate : Zp := fun ds μ q _ => ∃ ns : List Int, ds = [.klst (ns.map .int)] ∧ ns.length ≤ 63 ∧ ∀ s c μ', StAt s c μ' → (∀ b u, μ b = some u → μ' b = some u) → μ s = none → μ c = none → q (.ref s) μ'
theorem cut_all {α : Type} {xs : List α} (h : xs.length ≤ 63) : cutD xs none (some 63) = xs := by
  have e1 : HT.sIx xs.length 0 none = 0 := rfl
  have e2 : HT.sIx xs.length xs.length (some 63) = xs.length := by
    have := HT.sIx_nat xs.length xs.length 63
    rw [show ((63 : Nat) : Int) = 63 from rfl] at this
    rw [this]
    omega
  unfold cutD
  rw [e1, e2, List.drop_zero, Nat.sub_zero, List.take_length]
theorem state_ok {ds : List D} {μ : Mu} {q : ZQ} {e : ZX} (h : Sstate ds μ q e) : zBody 2 zState ds μ q e := by
  obtain ⟨ns, rfl, hn, k⟩ := h
  have sz : (1000 : Nat) ≤ sizeLine := by decide
  unfold zState
  (conv => whnf)
  rw [cut_all (by simpa using hn)]
  refine ⟨by simp; omega, ?_⟩
  refine lc_inv (Inv := fun i acc μ' => μ' = μ ∧ acc = (ns.take i).map .int) ⟨rfl, rfl⟩ ?_ ?_
  · rintro i d acc μ' K hd ⟨rfl, rfl⟩ hK
    simp only [List.getElem?_map, Option.map_eq_some_iff] at hd
    obtain ⟨n, hn2, rfl⟩ := hd
    (conv => whnf)
    refine hK _ _ ⟨rfl, ?_⟩
    rw [List.take_add_one, hn2]
    simp
  · rintro acc μ' ⟨rfl, rfl⟩
    intro c hc
    (conv => whnf)
    intro s hs
    have ne : s ≠ c := fun e => by
      rw [e, updM_same] at hs
      cases hs
    refine k s c _ ⟨ne, ⟨ns, ?_⟩, 0, updM_same⟩ (fun b u hb => ?_) ?_ hc
    · rw [updM_ne (Ne.symm ne), updM_same]
      simp
    · rw [updM_ne (fun e => ?_), updM_ne (fun e => ?_)]
      · exact hb
      · rw [e, hc] at hb; cases hb
      · rw [e] at hb
        rw [updM_ne ne] at hs
        rw [hs] at hb; cases hb
    · rw [updM_ne ne] at hs
      exact hs
end Z

set_option maxRecDepth 100000
set_option maxHeartbeats 4000000
namespace ErrX
open PySem PySem.W PySem.Calls PyProof.Rows PySem.HandSPX
/-! ### own errors whose __init__ says super().__init__(text) and keeps one field -/
def sArgs (f : Str) (p1 p2 : Pos) : Arguments := { posonlyargs := [], args := [{ arg := "self", annotation := none, pos := p1 }, { arg := f, annotation := none, pos := p2 }], vararg := none, kwonlyargs := [], kw_defaults := [], kwarg := none, defaults := [] }
def sBody (f msg : Str) (j : Nat) (a1 a2 a3 a4 a5 a6 q1 q2 q3 q4 : Pos) : List Stmt :=
  [.Expr (.Call (.Attribute (.Call (.Name "super" a1) [] [] a2) "__init__" a3) [.Constant (.str msg) j a4] [] a5) a6, .Assign [.Attribute (.Name "self" q1) f q2] (.Name f q3) q4]
/-- what the written part says of such a class at C, its __init__ at fI, its cell at cc, its code at cda -/
structure SupTxt (prog : Program) (K : Frag) (C : Addr) (f : Str) : Prop where
  cls : ∃ nm q N bs bm sn sub ab col dd k0 k1 k2 k3 k5, K.lookup C = some (excClassObj nm q C N bs bm true sn sub ab col dd k0 k1 k2 k3 k5 "ValueError.__new__") ∧ refsVE bm = true ∧ alongIn K "__init__" bm = some (some (.builtin "ValueError.__init__"))
  sa : findIn K (.ref C) "__setattr__" = some (some (.builtin "object.__setattr__"))
  ga : findIn K (.ref C) "__getattribute__" = some (some (.builtin "BaseException.__getattribute__"))
  gg : findIn K (.ref C) "__getattr__" = some none
  noN : findIn K (.ref C) f = some none
  kC : keepIn K (.ref C) = true
  exC : subIn K (.ref C) (.type "BaseException") = some true
  veC : subIn K (.ref C) (.type "ValueError") = some true
  tyC : typeIn K (.ref C) = some (.type "type")
  hdC : hasDictIn K C = true
  sub : mroIn K C (.ref C) = some true
  top : nsIn K mainGlobals "super" = some none
  tps : nsIn K cStatics "thirdparty.any" = some none
  fn : ∃ (fI cc cda : Addr) (oc : Value) (od : Option Addr) (doc pm : Value) (an : Option Addr) (ct : Value) (osl : Array (Option Value)) (scope : Scope) (qual msg : Str) (j : Nat) (p1 p2 a1 a2 a3 a4 a5 a6 q1 q2 q3 q4 : Pos)
      (cl : Value) (cld : Option Addr) (csl : Array (Option Value)) (ccl : Value) (cdd : Option Addr) (ccs : Array (Option Value)) (vs : Array Value) (file : Str) (tf : Tok),
    findIn K (.ref C) "__init__" = some (some (.ref fI)) ∧ typeIn K (.ref fI) = some (.type "function") ∧
    K.lookup fI = some ⟨oc, od, .func (ksFn "__init__" qual (sArgs f p1 p2) (sBody f msg j a1 a2 a3 a4 a5 a6 q1 q2 q3 q4) scope .none .none doc pm an (.ref cda) ct cc), osl⟩ ∧ codeIn K (.ref cda) qual = true ∧
    K.lookup cc = some ⟨cl, cld, .cell (some (.ref C)), csl⟩ ∧ K.lookup cda = some ⟨ccl, cdd, .fields vs, ccs⟩ ∧ vs[2]? = some (.str file tf) ∧ ((prog.main.file : Str) == file) = true ∧
    scope.names.lookup ("super" : Str) = some .globalImplicit ∧ scope.names.lookup ("__class__" : Str) = some .free ∧ scope.names.lookup ("self" : Str) = some .local ∧ scope.names.lookup f = some .local ∧ scope.kind = .function ∧ scope.isCoroutine = false ∧ scope.isGenerator = false ∧ (∀ x ∈ scope.names, x.2 ≠ .cell) ∧
    (prog.main.scope.names.lookup ("super" : Str)).isSome = false ∧ (f == ("self" : Str)) = false ∧ (f == ("__debug__" : Str)) = false ∧
    (∀ u v : Value, bindArgs (ksFn "__init__" qual (sArgs f p1 p2) (sBody f msg j a1 a2 a3 a4 a5 a6 q1 q2 q3 q4) scope .none .none doc pm an (.ref cda) ct cc) ⟨[u, v], []⟩ = pure [(("self" : Str), u), (f, v)]) ∧
    (∀ env : Env, ∃ pl : Sem Bool, eval (.Call (.Attribute (.Call (.Name "super" a1) [] [] a2) "__init__" a3) [.Constant (.str msg) j a4] [] a5) env = (do
      let ov ← attributeBase (.Call (.Name "super" a1) [] [] a2) "__init__" env (eval (.Call (.Name "super" a1) [] [] a2) env)
      standAt a3.atName
      let (f, first) ← holding [ov] (getMethod ov "__init__" pl)
      callWith a5 f first (backTo a5 (starEach [.Constant (.str msg) j a4] env)) []))
/-- what __init__ leaves of a fresh error at x -/
structure InitEnd (h h' : Heap) (x C dx t1 : Addr) (f : Str) (v : Value) : Prop where
  keep : ∀ b o, b ≠ x → h.get? b = some o → h'.get? b = some o
  obj : h'.get? x = some { cls := .ref C, dict := some dx, data := .fields #[.ref t1, .none, .none, .none, .bool false, .none] }
  dbig : h.objs.size ≤ dx
  dne : dx ≠ x
  ns : h'.Ns1 dx (fun y => if y = f then some v else none)
section
variable {prog : Program} {w : World} {A : Around} {E : Value → Shared → Prop} {R : Result → Shared → Prop} {s : Shared} {K : Frag} {mg mb : Str → Option Value} {C : Addr} {f : Str}
theorem sup_init (T : SupTxt prog K C f) {x t0 : Addr} {v : Value} (X : K.In s.heap) (hlim : s.heap.NoLimit) (G : s.heap.Ns mainGlobals mg) (GB : s.heap.Ns builtinsNs mb) (hmb : mb "super" = some (.type "super")) (hx : s.heap.get? x = some (excO C t0)) (xK : K.lookup x = none) (hroom : A.depth < recursionLimit)
    (hq : ∀ h' tk dx t1, InitEnd s.heap h' x C dx t1 f v → R (.ok (.ret .none)) { s with heap := h', toks := tk }) :
    ∀ fI, findIn K (.ref C) "__init__" = some (some (.ref fI)) → codeAny (model prog w) A (.call (.ref fI) ⟨[.ref x, v], []⟩) R s := by
  obtain ⟨fI, cc, cda, oc, od, doc, pm, an, ct, osl, scope, qual, msg, j, p1, p2, a1, a2, a3, a4, a5, a6, q1, q2, q3, q4, cl, cld, csl, ccl, cdd, ccs, vs, file, tf, iC, tC, ho, hcd, hcell, hcode, hvs, hfile, ns1, ns2, ns3, ns4, hk, hco, hgen, hnc, htop, fs, fd, bnd, evq⟩ := T.fn
  obtain ⟨nm, q, N, bs, bm, sn, sub, ab, col, dd, k0, k1, k2, k3, k5, hC, hbm, hal⟩ := T.cls
  intro fI' e'
  rw [iC] at e'
  cases e'
  refine ks_codeAny_call_defAt (fd := ksFn "__init__" qual (sArgs f p1 p2) (sBody f msg j a1 a2 a3 a4 a5 a6 q1 q2 q3 q4) scope .none .none doc pm an (.ref cda) ct cc) (body := sBody f msg j a1 a2 a3 a4 a5 a6 q1 q2 q3 q4) (binds := [("self", .ref x), (f, v)]) hroom (X _ _ ho) rfl hlim (codeRec_of X hcd) rfl
    (BindsTo.of_eq (bnd _ _)) hnc (fun y hy => ?_) (fun h₁ hns hk₁ => ?_) hco hgen hk
  · rcases List.mem_cons.mp hy with rfl | hy
    · exact ns3
    · rw [List.mem_singleton.mp hy]; exact ns4
  obtain ⟨hp, g, d, t, os⟩ := s
  have fs2 : (("self" : Str) == f) = false := by
    rw [beq_eq_false_iff_ne] at fs ⊢
    exact Ne.symm fs
  have X₁ : K.In h₁ := X.keeps hk₁
  have hx₁ := hk₁ _ _ hx
  have hxL : hp.objs.size ≠ x := Nat.ne_of_gt (Heap.lt_size hx)
  have hcl : clsIn K C = some { name := nm, bases := bs, mro := .ref C :: bm, ns := N, qualname := q, hasDict := true, slotNames := sn, subclasses := sub, abstract := ab, collection := col, hasDel := false } := by unfold clsIn; rw [hC] <;> rfl
  have hC₁ := X₁ _ _ hC
  have hxC : x ≠ C := fun e => by
    rw [e, hC₁] at hx₁
    cases hx₁
  show _root_.PySem.wpAt (model prog w) _ _ (execs (sBody f msg j a1 a2 a3 a4 a5 a6 q1 q2 q3 q4) (ksEnv qual scope hp.objs.size fI (.ref cda) cc)) _ _ _
  have hint : interactive (ksEnv qual scope hp.objs.size fI (.ref cda) cc) = false := by
    unfold interactive
    show (scope.kind == .module && _) = false
    rw [hk]; rfl
  obtain ⟨pl, he⟩ := evq (ksEnv qual scope hp.objs.size fI (.ref cda) cc)
  refine ks_wpAt_execs_cons (ks_wpAt_Expr_any (ks_wpAt_MethodCall (pl := pl) ?_ he) hint)
  refine ks_wpAt_super_base (env := ksEnv qual scope hp.objs.size fI (.ref cda) cc) ns1 ns2 (by decide) rfl (X₁ _ _ ho) rfl rfl rfl (X₁ _ _ hcode) rfl hvs hfile htop ?_
  refine ks_loadName_global hk ns1 (loadGlobal_builtin (env := ksEnv qual scope hp.objs.size fI (.ref cda) cc) (G.keeps hk₁) (mg_none_of X G T.top) (GB.keeps hk₁) hmb ⟨rfl, ?_⟩)
  refine wpAny_loadName_free hk ns2 rfl ⟨_, X₁ _ _ hcell, rfl⟩ ?_
  refine wpAny_loadName_local hk ns3 hns (v := .ref x) (by simp [List.lookup, fs2]) ?_
  refine ks_wpAny_isType_cls hC₁ rfl ⟨rfl, ?_⟩
  refine ks_wpAny_call_super hC₁ rfl hx₁ rfl (fun c e => by cases e) (looks_mroIn X₁ T.sub) (fun h2 hso k2 => ?_)
  have X₂ : K.In h2 := X₁.keeps k2
  have hx₂ := k2 _ _ hx₁
  refine kxs_getMethod kxs_ValueError hso (looks_opaque X₂ T.tps) (l₀ := .ref C :: bm) (fun A Q E s k q => wpAny_bind ((looks_clsIn X₂ hcl) A _ E s k (wpAny_pure q))) (l := bm) (by simp [List.dropWhile_cons]) X₂ hal ?_ hxC (by decide) ?_
  · have I : InstAt h2 x (excO C t0) C none := ⟨hx₂, rfl, rfl, trivial⟩
    exact I.type.andThen (looks_subIn X₂ T.veC)
  have hsz := Heap.lt_size hx₂
  refine kxs_callWith (i := "ValueError.__init__") (x := x) (by rfl) ?_
  refine Calls.evalArgs_plain (Calls.spliced_cons (Calls.Constant_str (k := j) (pos := a4) (Calls.spliced_nil ⟨Heap.get?_push_size _ rfl, ?_⟩)))
  -- the bound __init__ is called
  have hu : (h2.push (kxs_mw "ValueError.__init__" x)).get? h2.objs.size = some (kxs_mw "ValueError.__init__" x) := Heap.get?_push_size _ rfl
  have k3 : ∀ b o, h2.get? b = some o → (h2.push (kxs_mw "ValueError.__init__" x)).get? b = some o := fun b o e => Heap.get?_push_of_some _ e
  refine wpAny_call (codeAny_of_tree ?_)
  show wpAny _ _ (callAny (.ref h2.objs.size) ⟨_, []⟩) _ _ _
  simp only [callAny]
  refine wpAny_bind (wpAny_load hu ?_)
  simp only [kxs_mw, show (Value.type "method-wrapper" == Value.type "method" || Value.type "method-wrapper" == Value.type "builtin_function_or_method" || Value.type "method-wrapper" == Value.type "method-wrapper") = true by decide, if_true]
  refine KFB.if_so (by decide) ?_
  refine wpAny_bind (check_bound_init F.excBase_ValueError.toExcCallFacts (k3 _ _ (k2 _ _ hC₁)) (k3 _ _ hx₂) rfl ?_)
  refine wpAny_bind (wpAny_pure (wpAny_pure ?_))
  refine ⟨plainId_quiet F.excBase_ValueError.init.plain _, codeAny_builtin F.excBase_ValueError.initEntry ?_⟩
  refine exc_init_tree (cls := .ref C) (t0 := t0) (dv := none) (c2 := .none) (c3 := .none) (b4 := .bool false) (k3 _ _ hx₂) (by show 1 ≤ sizeLine; decide) fun h4 k4 e4 t4 => ?_
  have old : ∀ b o, b ≠ x → h₁.get? b = some o → h4.get? b = some o := fun b o hb e => k4 b o hb (k3 _ _ (k2 _ _ e))
  have X₄ : K.In h4 := fun a o e => old a o (fun z => by rw [z, xK] at e; cases e) (X₁ a o e)
  have hns4 : h4.Ns hp.objs.size fun y => List.lookup y [(("self" : Str), Value.ref x), (f, v)].reverse := hns.at fun o q => old _ _ hxL q
  show _root_.PySem.wpAt (model prog w) _ _ (execs [Stmt.Assign [(Expr.Name "self" q1).Attribute f q2] (Expr.Name f q3) q4] (ksEnv qual scope hp.objs.size fI (.ref cda) cc)) _ _ _
  refine _root_.PySem.wpAt_of_wpAny (wpAny_execs_cons (plainObj_wpAny_Assign_Attribute ?_))
  refine wpAny_Name (wpAny_loadName_local hk ns4 hns4 (v := v) (by simp [List.lookup]) ?_) fd
  refine wpAny_Name (wpAny_loadName_local hk ns3 hns4 (v := .ref x) (by simp [List.lookup, fs2]) ?_) (by decide)
  refine set_plain X₄ (ox := excO C (h2.push (kxs_mw "ValueError.__init__" x)).objs.size) (od := none) ⟨e4, rfl, rfl, trivial⟩ T.sa ?_
  refine exc_osa X₄ e4 hcl (show refsVE (.ref C :: bm) = true from hbm) rfl T.noN (fun h₅ tk₅ dx k₅ dn dne hx₅ hn₅ => ?_)
  show wpAny _ _ (execs _ _) _ _ _
  have z : hp.objs.size < h4.objs.size := hns4.lt
  exact wpAny_execs_nil (hq h₅ tk₅ dx _ ⟨fun b o hb e => k₅ b o hb (old b o hb (hk₁ b o e)), hx₅, Nat.le_of_lt (Nat.lt_of_lt_of_le z dn), dne, hn₅⟩)
/-- a made error -/
structure OwnMade (h h' : Heap) (e C d : Addr) (f : Str) (v : Value) : Prop where
  keep : ∀ b o, h.get? b = some o → h'.get? b = some o
  new : h.objs.size ≤ e
  obj : ∃ oe vs, h'.get? e = some oe ∧ oe.cls = .ref C ∧ oe.dict = some d ∧ oe.data = .fields vs ∧ vs[1]? = some .none ∧ vs[2]? = some .none
  dbig : h.objs.size ≤ d
  dne : d ≠ e
  ns : h'.Ns1 d (fun y => if y = f then some v else none)
theorem sup_made (T : SupTxt prog K C f) {v : Value} (X : K.In s.heap) (hlim : s.heap.NoLimit) (G : s.heap.Ns mainGlobals mg) (GB : s.heap.Ns builtinsNs mb) (hmb : mb "super" = some (.type "super")) (hroom : A.depth + 1 < recursionLimit)
    (hq : ∀ h' tk e d, OwnMade s.heap h' e C d f v → R (.ok (.ret (.ref e))) { s with heap := h', toks := tk }) : codeAny (model prog w) A (.call (.ref C) ⟨[v], []⟩) R s := by
  obtain ⟨nm, q, N, bs, bm, sn, sub, ab, col, dd, k0, k1, k2, k3, k5, hC, hbm, _⟩ := T.cls
  obtain ⟨fI, rest⟩ := T.fn
  obtain ⟨cc, cda, oc, od, doc, pm, an, ct, osl, scope, qual, msg, j, p1, p2, a1, a2, a3, a4, a5, a6, q1, q2, q3, q4, cl, cld, csl, ccl, cdd, ccs, vs, file, tf, iC, tC, _⟩ := rest
  obtain ⟨hp, g, dr, tk, os⟩ := s
  have k : ∀ b o, hp.get? b = some o → ((hp.push (kdv_tup [v])).push (excO C hp.objs.size)).get? b = some o := fun b o e => Heap.get?_push_of_some _ (Heap.get?_push_of_some _ e)
  have hget : ((hp.push (kdv_tup [v])).push (excO C hp.objs.size)).get? (hp.objs.size + 1) = some (excO C hp.objs.size) := by heap_get
  have hnx : K.lookup (hp.objs.size + 1) = none := by
    cases e : K.lookup (hp.objs.size + 1) with
    | none => rfl
    | some o =>
      have z : hp.objs.size + 1 < hp.objs.size := Heap.lt_size (show hp.get? (hp.objs.size + 1) = some o from X _ _ e)
      omega
  refine call_own F.excBase_ValueError (fun X => refsVE_contains X bm hbm) (X _ _ hC) (looks_findIn X iC) (fun self => bind_fn X self tC) (by show 1 ≤ sizeLine; decide) ?_
  refine sup_init (s := ⟨(hp.push (kdv_tup [v])).push (excO C hp.objs.size), g, dr, tk, os⟩) T (X.keeps k) (hlim.keeps k) (G.keeps k) (GB.keeps k) hmb hget hnx hroom (fun h' tk' dx t1 M => ?_) fI iC
  have old : ∀ b o, hp.get? b = some o → h'.get? b = some o := fun b o e => M.keep b o (Nat.ne_of_lt (Nat.lt_succ_of_lt (Heap.lt_size e))) (k b o e)
  have z : hp.objs.size + 1 + 1 ≤ dx := by
    have := M.dbig
    simpa only [Heap.size_push] using this
  exact ⟨rfl, hq h' tk' (hp.objs.size + 1) dx ⟨old, Nat.le_succ _, ⟨_, _, M.obj, rfl, rfl, rfl, rfl, rfl⟩, by show hp.objs.size ≤ dx; omega, M.dne, M.ns⟩⟩
end
end ErrX

set_option maxRecDepth 100000
set_option maxHeartbeats 4000000
namespace ErrX
open PySem PySem.Spec PyProof.Rows L2
/-! ### making own errors, over the layer -/
section
variable {X : Cx} {C : Addr} {f : Str}
/-- C(e): one field f -/
def tMkF (C : Addr) (f : Str) (ta : TA) : L2.St → Hp → XK → Prop := fun σ H Q => ta σ H fun vs H1 => ∃ v, vs = [v] ∧ ∀ d, H1 d = none → Q (.ref C) (some d) (upd H1 d (.xd [(f, v)]))
theorem pmk_sup {x : Str} {a : Expr} {ta : TA} {p pos : Pos} {k : Nat} (T : SupTxt X.prog X.K C f) (gC : X.mg x = some (.ref C)) (hr : Room k X.A) (ha : PA X [a] ta) (hg : Gl X x := by rfl) (hdb : (x == ("__debug__" : Str)) = false := by decide)
    (he : starEach (a :: []) X.env = (false, eval a X.env) :: starEach [] X.env := by rfl) (hpl : (backTo pos (starEach [] X.env)).any (·.1) = false := by rfl) :
    L2N.PMk X (.Call (.Name x p) [a] [] pos) (tMkF C f ta) := by
  intro pins s σ H Q I h
  refine wpAny_Call_Name_kw (ld_glob I hg gC ?_ hdb)
  refine PySem.W.callWith_K (h₀ := X.base) I.ok.mod.kin T.kC (thn (ha.run pos pins s σ H _ I h) fun us s1 ⟨vs, H1, I1, r1, v, ev, q1⟩ => ⟨I1.kIn, ?_⟩) he hpl
  subst ev
  obtain ⟨v', rfl, rv⟩ := vals1 r1
  show wpAny _ _ (call (.ref C) [v']) _ _ _
  have hlim := I1.nolimit
  obtain ⟨mb, b1, b2⟩ := I1.mod.blt
  have GB := b1.keeps I1.bk
  have GG := I1.mod.glob.keeps I1.bk
  obtain ⟨hp, g, dr, tk, os⟩ := s1
  refine wpAny_call (sup_made T I1.kIn hlim GG GB ((b2 _ (by decide)).trans (by decide +kernel)) (by have := hr.dp; omega) fun h' tk' e d M => ?_)
  show L2N.MkP X pins σ Q (.ref e) ⟨h', g, dr, tk', os⟩
  obtain ⟨oe, fv, hoe, hc, hd, hdat, h1, h2⟩ := M.obj
  have hns := M.ns
  obtain ⟨G', g1, g2⟩ := restrict h' fun b => decide (b ≠ e)
  have gk : ∀ b, b ≠ e → G'.get? b = h'.get? b := fun b hb => g1 b (decide_eq_true hb)
  have ge : G'.get? e = none := g2 e (by simp)
  have old : ∀ b o, hp.get? b = some o → G'.get? b = some o := fun b o q => (gk b (Nat.ne_of_lt (Nat.lt_of_lt_of_le (Heap.lt_size q) M.new))).trans (M.keep b o q)
  have ob : ObjOk X.prog X.w (upd H1 d (.xd [(f, v)])) G' d (.xd [(f, v)]) :=
    ⟨_, hns.at (fun o q => (gk d M.dne).trans q), fun z => relO_put rv (fs := []) (mA := fun _ => none) (fun _ => trivial) z⟩
  have J : Inv X pins σ (upd H1 d (.xd [(f, v)])) ⟨G', g, dr, tk', os⟩ := I1.laid (t' := tk') old M.dbig ob
  refine ⟨e, oe, fv, ⟨G', g, dr, tk', os⟩, _, .ref C, some d, rfl, J, fun b o q => ?_, ge, hoe, ⟨hc, hd, fun vs e => by rw [hdat] at e; cases e; exact h2⟩, hdat, h1, ?_, rfl, I1.bare, raises_own T.exC T.tyC, q1 d (I1.hok.fresh M.dbig)⟩
  · by_cases hb : b = e
    · have q' : G'.get? b = some o := q
      rw [hb, ge] at q'; cases q'
    · exact (gk b hb).symm.trans q
  · rw [upd_ne (Ne.symm M.dne)]
    exact I1.hok.fresh M.new
/-- C(): a class without an __init__ of its own -/
theorem pmk_own0 {bmB : List Value} {B newId initId : String} {x : Str} {p pos : Pos} (FB : ExcBaseFacts B newId initId bmB) (q : PySem.W.excIn X.K C bmB newId = true) (gC : X.mg x = some (.ref C)) (kC : PySem.W.keepIn X.K (.ref C) = true) (r : Raises X (.ref C)) (hg : Gl X x := by rfl)
    (hdb : (x == ("__debug__" : Str)) = false := by decide) : L2N.PMk X (.Call (.Name x p) [] [] pos) (fun _ H Q => Q (.ref C) none H) := by
  intro pins s σ H Q I h
  refine wpAny_Call_Name_kw (ld_glob I hg gC ?_ hdb)
  refine PySem.W.callWith_K0 I.kIn kC ?_
  show wpAny _ _ (call (.ref C) []) _ _ _
  obtain ⟨bm, N, nm, qn, bs, hdct, sn, sub, ab, col, dd, k0, k1, k2, k3, k5, mN, hC, hN, hni, T⟩ := exc_obj I.kIn q
  exact wpAny_call_exc_subT FB T hC hN hni (fun h' e hm => L2N.mk_of I hm r h (I.hok.gone hm.new)) (Nat.zero_le _)
end
/-! ### try with several clauses, with and without a name -/
abbrev Suite := Addr → Value → Option Addr → TS
/-- where the clause's name is unbound behind the suite -/
def behind (D : Ends) : Option Nat → Ends
  | none => D
  | some i => { nx := fun σ' H' => D.nx (σ'.set i none) H', rt := D.rt, bk := fun σ' H' => D.bk (σ'.set i none) H', ct := fun σ' H' => D.ct (σ'.set i none) H' }
def within (σ : L2.St) (a : Addr) : Option Nat → L2.St
  | none => σ
  | some i => σ.set i (some (.ref a))
/-- what the clauses wish of an error of the body -/
def wCl (K : PySem.W.Frag) (Wout : WX) (D : Ends) : List (Value × Option Nat × Suite) → WX
  | [] => Wout
  | (c, n, ts) :: r => fun cls d σ H => ∃ b, PySem.W.exmOne K cls c = some b ∧ (b = true → ∀ a, H a = none → ts a cls d (behind D n) (within σ a n) H) ∧ (b = false → wCl K Wout D r cls d σ H)
inductive Clauses (X : Cx) : List ExceptHandler → List (Value × Option Nat × Suite) → Prop
  | nil : Clauses X [] []
  | bare {x : Str} {c : Value} {ts : Suite} {b₀ : Stmt} {suite : List Stmt} {np hpos : Pos} {more : List ExceptHandler} {l : List (Value × Option Nat × Suite)} (hc : Names X x c)
      (hsu : ∀ (a : Addr) (oe : Obj) (cls : Value) (d : Option Addr) (pn : List (Addr × Obj)), L2N.Zn cls d oe → (∃ vs, oe.data = .fields vs) → PSs (X.suite a ((a, oe) :: pn)) (b₀ :: suite) (ts a cls d)) (r : Clauses X more l) :
      Clauses X (.ExceptHandler (some (.Name x np)) none (b₀ :: suite) hpos :: more) ((c, none, ts) :: l)
  | named {x n : Str} {i : Nat} {c : Value} {ts : Suite} {b₀ : Stmt} {suite : List Stmt} {np hpos : Pos} {more : List ExceptHandler} {l : List (Value × Option Nat × Suite)} (hi : X.N[i]? = some n) (hln : X.env.kindOf n = some .local) (hc : Names X x c)
      (hsu : ∀ (a : Addr) (oe : Obj) (cls : Value) (d : Option Addr) (pn : List (Addr × Obj)), L2N.Zn cls d oe → (∃ vs, oe.data = .fields vs) → PSs (X.suite a ((a, oe) :: pn)) (b₀ :: suite) (ts a cls d)) (r : Clauses X more l) :
      Clauses X (.ExceptHandler (some (.Name x np)) (some n) (b₀ :: suite) hpos :: more) ((c, some i, ts) :: l)
section
variable {X : Cx} {body : List Stmt} {first : ExceptHandler} {more : List ExceptHandler} {l : List (Value × Option Nat × Suite)} {pos : Pos} {tb : WX → TS} {Wout : WX}
theorem ps_try_cl (hs : X.stack = X.env :: X.outer) (hf : X.env.frame = some X.env.locals) (hN : X.N.Nodup) (tk : L2N.Takes X Wout)
    (hb : ∀ (W : WX) (pn : List (Addr × Obj)) (xe : Value → Shared → Prop), L2N.Takes (X.tr pn xe) W → PassesOwn (model X.prog X.w) X.A X.env xe → PSs (X.tr pn xe) body (tb W)) (cl : Clauses X (first :: more) l) :
    PS X (.Try body (first :: more) [] [] pos) (fun D σ H => tb (wCl X.K Wout D l) D σ H) := by
  refine ⟨fun pins s σ H D inv wish => ?_⟩
  have okX := inv.ok
  have frX : X.A.frames = some (X.env :: X.outer) := by rw [okX.frames, hs]
  refine wpAny_Try_except ?_
  have run := (hb (wCl X.K Wout D l) (X.pn ++ pins) (fun e u1 => wpAny (model X.prog X.w) X.A (noteFrame e X.env) (fun _ u2 => wpAny (model X.prog X.w) X.A (setFlight e none) (fun _ u3 =>
    wpAny (model X.prog X.w) X.A (handleBy e X.env (first :: more)) (SP X pins D) X.xe u3) X.xe u2) X.xe u1) (fun v u flown => ?_) PassesOwn.looking).run [] s σ H D (inv.toTry _) wish
  · refine wpAny_mono run (fun fl u1 told => ?_) (fun _ _ he => he)
    cases fl with
    | next =>
      obtain ⟨σ1, G1, J, t⟩ := told
      exact wpAny_execs_nil ⟨σ1, G1, J.ofTry okX, t⟩
    | brk =>
      obtain ⟨σ1, G1, J, t⟩ := told
      exact ⟨σ1, G1, J.ofTry okX, t⟩
    | cont =>
      obtain ⟨σ1, G1, J, t⟩ := told
      exact ⟨σ1, G1, J.ofTry okX, t⟩
    | ret _ =>
      obtain ⟨v, σ1, G1, J, rv, t⟩ := told
      exact ⟨v, σ1, G1, J.ofTry okX, rv, t⟩
  · -- an error of the body
    obtain ⟨a, B, uI, pins1, σ1, G1, cls, d, rfl, Jt, nb, up, sky, na, os, ag, wants⟩ := flown
    have J : Inv X pins σ1 G1 uI := Jt.ofTry okX
    have sky1 : Sky B (X.env :: X.outer) a (L2N.Zn cls d) X.env.locals u.heap := by rw [← hs]; exact sky
    show wpAny (model X.prog X.w) X.A (noteFrame (.ref a) X.env) _ _ _
    refine L2N.Sky.land L2N.Zn.steady frX hf sky1 fun k3 aloft up3 => ?_
    have J3 : Inv X pins σ1 G1 { u with heap := k3 } := J.landed nb aloft.1 (up.trans up3) os ag
    obtain ⟨ob3, vs3, at3, z3, data3⟩ := aloft.there
    have noFrame : a ∉ frs (X.env :: X.outer) := fun hm => by
      obtain ⟨_, ob, at4, hnf⟩ := aloft.2.2.1.mem hm
      rw [at3] at at4
      cases at4
      exact hnf _ data3
    have aL : a ≠ X.env.locals := fun z => noFrame (List.mem_filterMap.mpr ⟨X.env, List.mem_cons_self, by rw [hf, z]⟩)
    have aF : a ∉ X.fs := fun hm => by
      obtain ⟨e, he, t⟩ := List.mem_filterMap.mp hm
      exact noFrame (List.mem_filterMap.mpr ⟨e, List.mem_cons_of_mem _ he, t⟩)
    have S3 := J3.suite at3 data3 na aL aF
    have byName : ∀ {x : Str} {c : Value} {np : Pos} {Q E : Value → Shared → Prop}, Names X x c → Q c { u with heap := k3 } → wpAny (model X.prog X.w) (X.A.mark (some (.ref a))) (eval (.Name x np) X.env) Q E { u with heap := k3 } := fun {x c np Q E} hc t => by
      obtain ⟨hg, hdbg, hm | ⟨hm, hv, hnn⟩⟩ := hc
      · exact ld_glob (X := X.suite a ((a, ob3) :: (X.pn ++ pins))) S3 hg hm t hdbg
      · exact ld_blt (X := X.suite a ((a, ob3) :: (X.pn ++ pins))) S3 hg hm hv t hnn hdbg
    have ask : ∀ {c : Value} {b : Bool}, PySem.W.exmOne X.K cls c = some b → PySem.W.Looks (model X.prog X.w) k3 (excMatches (.ref a) c) b := fun hb1 =>
      PySem.W.exm_one (M := model X.prog X.w) (J3.kIn) (fun A Q E s k t => wpAny_typeOf_ref (k _ _ at3) (by rw [z3.1]; exact t)) hb1
    have go : ∀ {hs' : List ExceptHandler} {l' : List (Value × Option Nat × Suite)}, Clauses X hs' l' → wCl X.K Wout D l' cls d σ1 G1 → wpAny (model X.prog X.w) X.A (handleBy (.ref a) X.env hs') (SP X pins D) X.xe { u with heap := k3 } := by
      intro hs' l' hcl
      induction hcl with
      | nil =>
        intro out
        refine wpAny_handleBy_nil ?_
        obtain ⟨_, _, _, ob, vs, T, _, _, hob, _, hdat, hv1, _⟩ := id aloft
        unfold PySem.passOn
        refine wpAny_bind (wpAny_field hob hdat hv1 ?_)
        rw [if_neg (show ¬ ((Value.ref T == Value.none) = true) from by simp)]
        have away : wpAny (model X.prog X.w) X.A (setFlight (.ref a) X.env.frame) (fun _ u4 => wpAny (model X.prog X.w) X.A (throw (.ref a) : Sem Flow) (SP X pins D) X.xe u4) X.xe { u with heap := k3 } := by
          rw [hf]
          refine HandSPX.setFlight_upZ aloft fun k4 held up4 => wpAny_throw (tk _ _ ?_)
          exact ⟨a, B, uI, pins, σ1, G1, cls, d, rfl, J, nb, (up.trans up3).trans up4, .inr (.inr (by rw [hs]; exact held)), na, os, ag, out⟩
        first
          | exact wpAny_bind (wpAny_pure (wpAny_bind away))
          | exact wpAny_bind away
      | @bare x c ts b₀ suite np hpos more' l2 hc hsu r ih =>
        rintro ⟨b, hb1, yes, no⟩
        refine wpAny_handleBy_cons (codeAny_handlers_test ?_) (by intro t; cases t)
        refine byName hc ((ask hb1).here ?_)
        cases b with
        | false => exact ih (no rfl)
        | true =>
          refine codeAny_handlers_suite ?_
          refine HandSPX.lands_againZ aloft fun k4 aloft4 up4 => ?_
          have J4 : Inv X pins σ1 G1 { u with heap := k4 } := J.landed nb aloft4.1 ((up.trans up3).trans up4) os ag
          obtain ⟨ob4, vs4, at4, z4, data4⟩ := aloft4.there
          refine wpAny_mono ((hsu a ob4 cls d (X.pn ++ pins) z4 ⟨_, data4⟩).run [] _ _ G1 _ (J4.suite at4 data4 na aL aF) (yes rfl a na)) (fun fl u6 told => ?_) (fun _ _ z => False.elim z)
          cases fl with
          | next =>
            obtain ⟨σ6, G6, S6, t⟩ := told
            exact ⟨_, _, S6.unsuite okX, t⟩
          | brk =>
            obtain ⟨σ6, G6, S6, t⟩ := told
            exact ⟨_, _, S6.unsuite okX, t⟩
          | cont =>
            obtain ⟨σ6, G6, S6, t⟩ := told
            exact ⟨_, _, S6.unsuite okX, t⟩
          | ret _ =>
            obtain ⟨v6, σ6, G6, S6, rv, t⟩ := told
            exact ⟨_, _, _, S6.unsuite okX, rv, t⟩
      | @named x n i c ts b₀ suite np hpos more' l2 hi hln hc hsu r ih =>
        rintro ⟨b, hb1, yes, no⟩
        refine wpAny_handleBy_cons (codeAny_handlers_test ?_) (by intro t; cases t)
        refine byName hc ((ask hb1).here ?_)
        cases b with
        | false => exact ih (no rfl)
        | true =>
          refine codeAny_handlers_suite_as ?_
          refine HandSPX.lands_againZ aloft fun k4 aloft4 up4 => ?_
          have J4 : Inv X pins σ1 G1 { u with heap := k4 } := J.landed nb aloft4.1 ((up.trans up3).trans up4) os ag
          obtain ⟨ob4, vs4, at4, z4, data4⟩ := aloft4.there
          refine store_ok (X := X.suite a ((a, ob4) :: (X.pn ++ pins))) (v := .ref a) (J4.suite at4 data4 na aL aF) hN hi (.inl hln) rfl (fun u5 S5 => ?_) (.inr hln)
          refine wpAny_mono ((hsu a ob4 cls d (X.pn ++ pins) z4 ⟨_, data4⟩).run [] u5 _ G1 _ S5 (yes rfl a na)) (fun fl u6 told => ?_) (fun _ _ z => False.elim z)
          have unbound : ∀ {σ6 : L2.St} {G6 : Hp} {Q : Shared → Prop}, Inv (X.suite a ((a, ob4) :: (X.pn ++ pins))) [] σ6 G6 u6 → (∀ u7, Inv X pins (σ6.set i none) G6 u7 → Q u7) →
              wpAny (model X.prog X.w) X.A (do bindName X.env n .none; unbindBehindTheSuite X.env n hpos) (fun _ u7 => Q u7) X.xe u6 := fun S6 t => gone_ok (S6.unsuite okX) hN hi hln t
          cases fl with
          | next =>
            obtain ⟨σ6, G6, S6, t⟩ := told
            exact unbound S6 fun _ J7 => ⟨_, _, J7, t⟩
          | brk =>
            obtain ⟨σ6, G6, S6, t⟩ := told
            exact unbound S6 fun _ J7 => ⟨_, _, J7, t⟩
          | cont =>
            obtain ⟨σ6, G6, S6, t⟩ := told
            exact unbound S6 fun _ J7 => ⟨_, _, J7, t⟩
          | ret _ =>
            obtain ⟨v6, σ6, G6, S6, rv, t⟩ := told
            exact unbound S6 fun _ J7 => ⟨_, _, _, J7, rv, t⟩
    exact go cl wants
end
end ErrX

set_option maxRecDepth 100000
set_option maxHeartbeats 4000000
namespace Z
open PySem L2 ErrX
theorem ErrRep.grow {K : PySem.W.Frag} {H H' : Hp} {μ μ' : Mu} {x : Ax} {r : Err} {c : Value} {d : Option Addr} (h : ErrRep K H μ x r c d) (g : Grow H μ H' μ' x) : ErrRep K H' μ' x r c d :=
  ⟨h.1, h.2.imp id fun ⟨dd, gs, e, f, r⟩ => ⟨dd, gs, e, g.fz _ _ f, RepF.mono g _ _ r⟩⟩
/-! ### raise -/
def zRaiseF (C f : Str) (za : ZT) : ZS := fun D ρ μ => za ρ μ (fun d μ1 => D.ex ⟨C, [(f, d)]⟩ ρ μ1) (fun r μ1 => D.ex r ρ μ1)
def zRaise (C : Str) : ZS := fun D ρ μ => D.ex ⟨C, []⟩ ρ μ
/-- x is an own error with the field f -/
structure ExF (P : Program) (K : PySem.W.Frag) (mg : Str → Option Value) (x f : Str) : Prop where
  t : SupTxt P K (gad K x) f
  m : mg x = some (.ref (gad K x))
/-- x is an own error without an __init__ of its own -/
structure Ex0 (K : PySem.W.Frag) (mg : Str → Option Value) (x : Str) : Prop where
  q : PySem.W.excIn K (gad K x) He.veBase "ValueError.__new__" = true
  k : PySem.W.keepIn K (.ref (gad K x)) = true
  s : PySem.W.subIn K (.ref (gad K x)) (.type "BaseException") = some true
  t : PySem.W.typeIn K (.ref (gad K x)) = some (.type "type")
  m : mg x = some (.ref (gad K x))
section
variable {X : Cx} {W : WX} {k : Nat} {x f : Str} {a : Expr} {ta : TE} {za : ZT} {p pos pos2 p3 : Pos} {m : Str} {j : Nat}
theorem zraiseF (cx : ZC X W k) (T : ExF X.prog X.K X.mg x f) (ha : ZE X W a ta za) (hg : Gl X x := by rfl) (hdb : (x == ("__debug__" : Str)) = false := by decide)
    (he : starEach (a :: []) X.env = (false, eval a X.env) :: starEach [] X.env := by rfl) (hpl : (backTo pos (starEach [] X.env)).any (·.1) = false := by rfl) :
    ZSt X W (.Raise (some (.Call (.Name x p) [a] [] pos)) none pos2) (fun _ σ H => tMkF (gad X.K x) f (tCons ta tNil) σ H fun cls d H' => W cls d σ H') (zRaiseF x f za) :=
  ⟨L2N.ps_raise cx.calm cx.tk (pmk_sup T.t T.m cx.room (pa_cons ha.p pa_nil he) hg hdb he hpl), fun y σ H ρ μ D D' I c h e => by
    refine ha.l y σ H ρ μ _ D.ex _ I c h fun d v H1 μ1 g1 z1 r1 h1 => ?_
    refine ⟨v, rfl, fun dd hd => ?_⟩
    refine c σ _ ρ μ1 _ (some dd) ⟨x, [(f, d)]⟩ (g1.trans (z1.gnew hd)) (I.grow (g1.trans (z1.gnew hd)) (z1.new hd)) ⟨rfl, .inr ⟨dd, _, rfl, Fz.new z1 hd rfl, ?_⟩⟩ h1
    simp only [RepF]
    exact ⟨v, [], rfl, r1.mono (z1.gnew hd), rfl⟩⟩
theorem ls_raise0 {K : PySem.W.Frag} : LS K W (fun _ σ H => W (.ref (gad K x)) none σ H) (zRaise x) := fun y σ H ρ μ D D' I c h e => c σ H ρ μ _ none ⟨x, []⟩ Grow.refl I ⟨rfl, .inl ⟨rfl, rfl⟩⟩ h
theorem zraiseS (cx : ZC X W k) (T : Ex0 X.K X.mg x) (hg : Gl X x := by rfl) (hdb : (x == ("__debug__" : Str)) = false := by decide) :
    ZSt X W (.Raise (some (.Call (.Name x p) [.Constant (.str m) j p3] [] pos)) none pos2) (fun _ σ H => W (.ref (gad X.K x)) none σ H) (zRaise x) :=
  ⟨L2N.ps_raise cx.calm cx.tk (L2N.pmk_own PySem.F.excBase_ValueError T.q T.m T.k (raises_own T.s T.t) hg hdb), ls_raise0⟩
theorem zraise0 (cx : ZC X W k) (T : Ex0 X.K X.mg x) (hg : Gl X x := by rfl) (hdb : (x == ("__debug__" : Str)) = false := by decide) :
    ZSt X W (.Raise (some (.Call (.Name x p) [] [] pos)) none pos2) (fun _ σ H => W (.ref (gad X.K x)) none σ H) (zRaise x) :=
  ⟨L2N.ps_raise cx.calm cx.tk (pmk_own0 PySem.F.excBase_ValueError T.q T.m T.k (raises_own T.s T.t) hg hdb), ls_raise0⟩
end
/-! ### try -/
abbrev ZSu := Err → Addr → Option Addr → ZS
def zBeh (D : ZEnds) : Option Nat → ZEnds
  | none => { D with ex := fun _ _ _ => False }
  | some i => { nx := fun ρ μ => D.nx (ρ.set i none) μ, rt := D.rt, bk := fun ρ μ => D.bk (ρ.set i none) μ, ct := fun ρ μ => D.ct (ρ.set i none) μ, ex := fun _ _ _ => False }
def zHld (ρ : Sl) (e : Err) (a : Addr) (d : Option Addr) : Option Nat → Sl
  | none => ρ
  | some i => ρ.set i (some (.exc a d e.fs))
/-- sub C c: whether an error of the class C is the clause c's; none: not told -/
def zCl (sub : Str → Str → Option Bool) (D : ZEnds) : List (Str × Option Nat × ZSu) → ZW
  | [] => D.ex
  | (c, n, zs) :: r => fun e ρ μ => match sub e.C c with
    | some true => ∀ a d, zs e a d (zBeh D n) (zHld ρ e a d n) μ
    | some false => zCl sub D r e ρ μ
    | none => False
def zTry (sub : Str → Str → Option Bool) (zb : ZS) (l : List (Str × Option Nat × ZSu)) : ZS := fun D ρ μ => zb { D with ex := zCl sub D l } ρ μ
/-- the table tells right what except clauses ask -/
def ExmOk (K : PySem.W.Frag) (sub : Str → Str → Option Bool) : Prop := ∀ C c b, sub C c = some b → PySem.W.exmOne K (.ref (gad K C)) (.ref (gad K c)) = some b
inductive ZCls (X : Cx) (sub : Str → Str → Option Bool) : List ExceptHandler → List (Str × Option Nat × ZSu) → Prop
  | nil : ZCls X sub [] []
  | bare {x : Str} {zs : ZSu} {b₀ : Stmt} {suite : List Stmt} {np hpos : Pos} {more : List ExceptHandler} {l : List (Str × Option Nat × ZSu)} (hc : Names X x (.ref (gad X.K x)))
      (hsu : ∀ (e : Err) (a : Addr) (d : Option Addr) (oe : Obj) (pn : List (Addr × Obj)), L2N.Zn (.ref (gad X.K e.C)) d oe → (∃ vs, oe.data = .fields vs) → ∃ t, ZSs (X.suite a ((a, oe) :: pn)) W0 (b₀ :: suite) t (zs e a d)) (r : ZCls X sub more l) :
      ZCls X sub (.ExceptHandler (some (.Name x np)) none (b₀ :: suite) hpos :: more) ((x, none, zs) :: l)
  | named {x n : Str} {i : Nat} {zs : ZSu} {b₀ : Stmt} {suite : List Stmt} {np hpos : Pos} {more : List ExceptHandler} {l : List (Str × Option Nat × ZSu)} (hi : X.N[i]? = some n) (hln : X.env.kindOf n = some .local) (hc : Names X x (.ref (gad X.K x)))
      (hsu : ∀ (e : Err) (a : Addr) (d : Option Addr) (oe : Obj) (pn : List (Addr × Obj)), L2N.Zn (.ref (gad X.K e.C)) d oe → (∃ vs, oe.data = .fields vs) → ∃ t, ZSs (X.suite a ((a, oe) :: pn)) W0 (b₀ :: suite) t (zs e a d)) (r : ZCls X sub more l) :
      ZCls X sub (.ExceptHandler (some (.Name x np)) (some n) (b₀ :: suite) hpos :: more) ((x, some i, zs) :: l)
section
variable {X : Cx} {sub : Str → Str → Option Bool}
/-- the suite's reading, whatever error it is -/
def suT {b : List Stmt} {zs : ZSu} (hsu : ∀ (e : Err) (a : Addr) (d : Option Addr) (oe : Obj) (pn : List (Addr × Obj)), L2N.Zn (.ref (gad X.K e.C)) d oe → (∃ vs, oe.data = .fields vs) → ∃ t, ZSs (X.suite a ((a, oe) :: pn)) W0 b t (zs e a d)) : Suite :=
  fun a cls d D σ H => ∃ e : Err, cls = .ref (gad X.K e.C) ∧ ∀ oe pn (hz : L2N.Zn (.ref (gad X.K e.C)) d oe) (hf : ∃ vs, oe.data = .fields vs), (hsu e a d oe pn hz hf).choose D σ H
theorem suT_p {b : List Stmt} {zs : ZSu} (hsu : ∀ (e : Err) (a : Addr) (d : Option Addr) (oe : Obj) (pn : List (Addr × Obj)), L2N.Zn (.ref (gad X.K e.C)) d oe → (∃ vs, oe.data = .fields vs) → ∃ t, ZSs (X.suite a ((a, oe) :: pn)) W0 b t (zs e a d))
    (a : Addr) (oe : Obj) (cls : Value) (d : Option Addr) (pn : List (Addr × Obj)) (hz : L2N.Zn cls d oe) (hf : ∃ vs, oe.data = .fields vs) : PSs (X.suite a ((a, oe) :: pn)) b (suT hsu a cls d) :=
  ⟨fun pins s σ H D I h => by
    obtain ⟨e, rfl, h⟩ := h
    exact (hsu e a d oe pn hz hf).choose_spec.p.run pins s σ H D I (h oe pn hz hf)⟩
theorem EOk.beh {K : PySem.W.Frag} {H : Hp} {μ : Mu} {x : Ax} {D : ZEnds} {D' : Ends} (e : EOk K H μ x D D') (n : Option Nat) : EOk K H μ x (zBeh D n) (behind D' n) := by
  cases n with
  | none => exact ⟨e.nx, e.rt, e.bk, e.ct⟩
  | some i => exact ⟨fun s h r m g I q => e.nx _ _ _ _ g (I.wipe [i]) q, e.rt, fun s h r m g I q => e.bk _ _ _ _ g (I.wipe [i]) q, fun s h r m g I q => e.ct _ _ _ _ g (I.wipe [i]) q⟩
theorem ZInv.held {K : PySem.W.Frag} {σ : L2.St} {H : Hp} {ρ : Sl} {μ : Mu} {x : Ax} {e : Err} {cls : Value} {d : Option Addr} (I : ZInv K σ H ρ μ x) (r : ErrRep K H μ x e cls d) (a : Addr) (n : Option Nat) : ZInv K (within σ a n) H (zHld ρ e a d n) μ x := by
  cases n with
  | none => exact I
  | some i =>
    refine I.set ?_ i
    simp only [Rep]
    exact ⟨trivial, r.2⟩
theorem zcls_ok (sb : ExmOk X.K sub) : ∀ {hs : List ExceptHandler} {zl : List (Str × Option Nat × ZSu)}, ZCls X sub hs zl → ∃ l, Clauses X hs l ∧ ∀ (D : ZEnds) (D' : Ends) (x : Ax) (H : Hp) (μ : Mu) (Wout : WX), WC X.K Wout D.ex H μ x → EOk X.K H μ x D D' →
      WC X.K (wCl X.K Wout D' l) (zCl sub D zl) H μ x := by
  intro hs zl h
  induction h with
  | nil => exact ⟨[], .nil, fun D D' x H μ Wout c e => c⟩
  | bare hc hsu r ih =>
    obtain ⟨l, cl, ih⟩ := ih
    refine ⟨_, .bare (ts := suT hsu) hc (suT_p hsu) cl, fun D D' x H μ Wout c e => ?_⟩
    intro σ1 H1 ρ1 μ1 cls dd er g I1 rep w
    simp only [zCl] at w
    obtain ⟨ec, er2⟩ := rep
    subst ec
    split at w
    · rename_i q
      refine ⟨true, sb _ _ _ q, fun _ a _ => ⟨er, rfl, fun oe pn hz hf => ?_⟩, fun z => by cases z⟩
      exact (hsu er a dd oe pn hz hf).choose_spec.l x _ H1 _ μ1 _ _ (I1.held ⟨rfl, er2⟩ a none) (fun _ _ _ _ _ _ _ _ _ _ h => h) (w a dd) ((e.grow g).beh none)
    · rename_i q
      exact ⟨false, sb _ _ _ q, fun z => (by cases z), fun _ => ih D D' x H μ Wout c e σ1 H1 ρ1 μ1 _ dd er g I1 ⟨rfl, er2⟩ w⟩
    · exact w.elim
  | @named x n i zs b₀ suite np hpos more l0 hi hln hc hsu r ih =>
    obtain ⟨l, cl, ih⟩ := ih
    refine ⟨_, .named (ts := suT hsu) hi hln hc (suT_p hsu) cl, fun D D' x H μ Wout c e => ?_⟩
    intro σ1 H1 ρ1 μ1 cls dd er g I1 rep w
    simp only [zCl] at w
    obtain ⟨ec, er2⟩ := rep
    subst ec
    split at w
    · rename_i q
      refine ⟨true, sb _ _ _ q, fun _ a _ => ⟨er, rfl, fun oe pn hz hf => ?_⟩, fun z => by cases z⟩
      exact (hsu er a dd oe pn hz hf).choose_spec.l x _ H1 _ μ1 _ _ (I1.held ⟨rfl, er2⟩ a (some i)) (fun _ _ _ _ _ _ _ _ _ _ h => h) (w a dd) ((e.grow g).beh (some i))
    · rename_i q
      exact ⟨false, sb _ _ _ q, fun z => (by cases z), fun _ => ih D D' x H μ Wout c e σ1 H1 ρ1 μ1 _ dd er g I1 ⟨rfl, er2⟩ w⟩
    · exact w.elim
theorem ztry {W : WX} {k : Nat} {body : List Stmt} {zb : ZS} {first : ExceptHandler} {more : List ExceptHandler} {zl : List (Str × Option Nat × ZSu)} {pos : Pos} (cx : ZC X W k) (sb : ExmOk X.K sub)
    (hb : ∀ (W' : WX) (pn : List (Addr × Obj)) (xe : Value → Shared → Prop), ZC (X.tr pn xe) W' k → ∃ t, ZSs (X.tr pn xe) W' body t zb) (cl : ZCls X sub (first :: more) zl) (hs : X.stack = X.env :: X.outer := by rfl) (hf : X.env.frame = some X.env.locals := by rfl) :
    ∃ t, ZSt X W (.Try body (first :: more) [] [] pos) t (zTry sub zb zl) := by
  obtain ⟨l, cll, ok⟩ := zcls_ok sb cl
  have mk : ∀ {W' : WX} {pn : List (Addr × Obj)} {xe : Value → Shared → Prop}, L2N.Takes (X.tr pn xe) W' → PassesOwn (model X.prog X.w) X.A X.env xe → ZC (X.tr pn xe) W' k := fun tk po => ⟨cx.calm, cx.nd, cx.room, tk, po⟩
  let tb : WX → TS := fun W' D σ H => ∀ pn xe (tk : L2N.Takes (X.tr pn xe) W') (po : PassesOwn (model X.prog X.w) X.A X.env xe), (hb W' pn xe (mk tk po)).choose D σ H
  refine ⟨_, ps_try_cl (tb := tb) hs hf cx.nd cx.tk (fun W' pn xe tk po => ⟨fun pins s σ H D I h => (hb W' pn xe (mk tk po)).choose_spec.p.run pins s σ H D I (h pn xe tk po)⟩) cll, ?_⟩
  intro x σ H ρ μ D D' I c h e pn xe tk po
  exact (hb _ pn xe (mk tk po)).choose_spec.l x σ H ρ μ { D with ex := zCl sub D zl } D' I (ok D D' x H μ W c e) h ⟨e.nx, e.rt, e.bk, e.ct⟩
theorem zxs {W : WX} {st : Stmt} {z : ZS} (h : ∃ t, ZSt X W st t z) : ZSt X W st h.choose z := h.choose_spec
end
end Z

set_option maxRecDepth 100000
set_option maxHeartbeats 4000000
namespace Z
open PySem PySem.Spec PyProof.Rows L2 ErrX
/-! ### what a suite asks of its error -/
/-- the table of the fields that may be read -/
def FldOk (K : PySem.W.Frag) (fld : Str → Str → Bool) : Prop := ∀ C f, fld C f = true → XfC K (gad K C) ∧ PySem.W.findIn K (.ref (gad K C)) f = some none
def zXf (fld : Str → Str → Bool) (e : Err) (a : Addr) (d : Option Addr) (f : Str) (za : ZT) : ZT := fun ρ μ q ex => fld e.C f = true ∧ za ρ μ (fun v μ1 => match v with
  | .exc b d' fs => b = a ∧ d' = d ∧ (match lookF f fs with
    | some y => q y μ1
    | none => False)
  | _ => False) ex
structure KitC (K : PySem.W.Frag) (D : Addr) : Prop where
  cl : (PySem.W.clsIn K D).isSome = true
  ga : PySem.W.findIn K (.ref D) "__getattribute__" = some (some (.builtin "BaseException.__getattribute__"))
  gt : PySem.W.findIn K (.ref D) "__getattr__" = some none
  sb : PySem.W.subIn K (.ref D) (.type "BaseException") = some true
  ha : PySem.W.findIn K (.ref D) "__class__" = some (some (.builtin "object.__class__"))
  hn : PySem.W.specialIn K (.builtin "object.__class__") "__get__" = some (some (.builtin "getset_descriptor.__get__"))
  ht : PySem.W.takesIn K (.builtin "object.__class__") = some true
  hm : PySem.W.mroIn K D (.type "object") = some true
/-- a class by its name: own, or ValueError -/
def cval (K : PySem.W.Frag) (c : Str) : Value := if c = "ValueError" then .type "ValueError" else .ref (gad K c)
def cV (K : PySem.W.Frag) (c : Str) : V := if c = "ValueError" then .ty "ValueError" else .ref (gad K c)
theorem cV_rel {K : PySem.W.Frag} {c : Str} : RelV (cV K c) (cval K c) := by unfold cV cval; split <;> rfl
theorem cV_uni {K : PySem.W.Frag} {c : Str} {u : Value} (h : RelV (cV K c) u) : u = cval K c := by
  unfold cV at h
  unfold cval
  split at h
  · rename_i q
    rw [if_pos q]
    exact h
  · rename_i q
    rw [if_neg q]
    exact h
/-- the table tells right what isinstance answers -/
def KitOk (K : PySem.W.Frag) (kit : Str → Str → Option Bool) : Prop := ∀ C c b, kit C c = some b → KitC K (gad K C) ∧ PySem.W.kitOne K (.ref (gad K C)) (cval K c) = some b
def rIsX (K : PySem.W.Frag) (kit : Str → Str → Option Bool) (e : Err) (a : Addr) (d : Option Addr) (c : Str) : List V → Hp → VK → Prop := fun xs H Q => ∃ b, kit e.C c = some b ∧ xs = [.ref a, cV K c] ∧ (d = none ∨ ∃ dd gs, d = some dd ∧ H dd = some (.xd gs)) ∧ Q (.bl b) H
def zIsX (kit : Str → Str → Option Bool) (e : Err) (a : Addr) (d : Option Addr) (c : Str) (za : ZT) : ZT := fun ρ μ q ex => za ρ μ (fun v μ1 => match v with
  | .exc b d' fs => b = a ∧ d' = d ∧ (match kit e.C c with
    | some r => q (.bl r) μ1
    | none => False)
  | _ => False) ex
section
variable {X : Cx} {a : Addr} {oe : Obj} {d : Option Addr} {e : Err} {pn : List (Addr × Obj)}
theorem call_isX {kit : Str → Str → Option Bool} {c : Str} (ko : KitOk X.K kit) (hz : L2N.Zn (.ref (gad X.K e.C)) d oe) (hf : ∃ vs, oe.data = .fields vs) : CallR (X.suite a ((a, oe) :: pn)) (.builtin "isinstance") (rIsX X.K kit e a d c) := by
  intro pins s σ H xs us Q I r h
  obtain ⟨b, hk, rfl, hd, q⟩ := h
  obtain ⟨C, k1⟩ := ko _ _ _ hk
  cases r with
  | cons rx rr =>
    cases rr with
    | cons rt rr =>
      cases rr
      cases rx
      have ec := cV_uni rt
      subst ec
      obtain ⟨hget, _⟩ := I.pin (a, oe) (List.mem_append.mpr (.inl List.mem_cons_self))
      obtain ⟨vs, hv⟩ := hf
      have hn : PySem.W.notCls oe = true := by unfold PySem.W.notCls; rw [hv] <;> rfl
      rcases hd with rfl | ⟨dd, gs, rfl, hH⟩
      · have J : PySem.W.InstAt s.heap a oe (gad X.K e.C) none := ⟨hget, hz.1, hn, by rw [hz.2.1]; trivial⟩
        exact PySem.W.kia_one (PySem.W.kitx_exc C.cl C.ga C.gt C.sb C.ha C.hn C.ht C.hm) I.kIn J k1 (fun z => nomatch z) fun tk => ⟨.bl b, H, I.kept (t' := tk) fun _ _ z => z, rfl, q⟩
      · have hx : ObjOk X.prog X.w H s.heap dd (.xd gs) := I.hok dd _ hH
        obtain ⟨mA, hns, _⟩ := hx
        obtain ⟨od, ho, _⟩ := lookIn_ns hns
        have J : PySem.W.InstAt s.heap a oe (gad X.K e.C) (some od) := ⟨hget, hz.1, hn, by rw [hz.2.1]; exact ho⟩
        exact PySem.W.kia_one (PySem.W.kitx_exc C.cl C.ga C.gt C.sb C.ha C.hn C.ht C.hm) I.kIn J k1 (fun z => nomatch z) fun tk => ⟨.bl b, H, I.kept (t' := tk) fun _ _ z => z, rfl, q⟩
theorem zisX {kit : Str → Str → Option Bool} {c : Str} {ex ec : Expr} {te : TE} {ze : ZT} {p pos : Pos} (ko : KitOk X.K kit) (hz : L2N.Zn (.ref (gad X.K e.C)) d oe) (hf : ∃ vs, oe.data = .fields vs) (hm : X.mg "isinstance" = none)
    (he : ZE (X.suite a ((a, oe) :: pn)) W0 ex te ze) (h1 : PE (X.suite a ((a, oe) :: pn)) ec (tC (cV X.K c))) (hg : Gl X "isinstance" := by rfl)
    (hs : starEach (ex :: [ec]) X.env = (false, eval ex X.env) :: starEach [ec] X.env := by rfl) (hs2 : starEach (ec :: []) X.env = (false, eval ec X.env) :: starEach [] X.env := by rfl) (hpl : (backTo pos (starEach [ec] X.env)).any (·.1) = false := by rfl) :
    ZE (X.suite a ((a, oe) :: pn)) W0 (.Call (.Name "isinstance" p) [ex, ec] [] pos) (tCB (rIsX X.K kit e a d c) (tCons te (tCons (tC (cV X.K c)) tNil))) (zIsX kit e a d c ze) :=
  ⟨pe_callB (call_isX ko hz hf) hg hm (by decide +kernel) (pa_cons he.p (pa_cons h1 pa_nil hs2) hs) (by decide) rfl hs hpl, fun x σ H ρ μ q w Q I cc h k => by
    refine he.l x σ H ρ μ _ w _ I cc h fun v u H1 μ1 g1 z1 r1 h1 => ?_
    split at h1
    · obtain ⟨rfl, rfl, h1⟩ := h1
      simp only [Rep] at r1
      obtain ⟨rfl, r1⟩ := r1
      split at h1
      · rename_i r hr
        refine ⟨r, hr, rfl, ?_, k _ _ H1 μ1 g1 z1 rep_bl h1⟩
        rcases r1 with ⟨_, e0⟩ | ⟨dd, gs, e0, fz, _⟩
        · exact .inl e0
        · exact .inr ⟨dd, gs, e0, fz.hard rfl⟩
      · exact h1.elim
    · exact h1.elim⟩
theorem zxf {fld : Str → Str → Bool} {f : Str} {ex : Expr} {te : TE} {ze : ZT} {pos : Pos} (fo : FldOk X.K fld) (hz : L2N.Zn (.ref (gad X.K e.C)) d oe) (hf : ∃ vs, oe.data = .fields vs) (he : ZE (X.suite a ((a, oe) :: pn)) W0 ex te ze) (hb : attributeBase ex f X.env (eval ex X.env) = eval ex X.env := by rfl) :
    ZE (X.suite a ((a, oe) :: pn)) W0 (.Attribute ex f pos) (fun σ H Q => fld e.C f = true ∧ tXf a (.ref (gad X.K e.C)) d (gad X.K e.C) f te σ H Q) (zXf fld e a d f ze) :=
  ⟨⟨fun pins s σ H Q I h => (pe_xf (fo _ _ h.1).1 (fo _ _ h.1).2 hz.zc hf he.p hb).run pins s σ H Q I h.2⟩, fun x σ H ρ μ q w Q I cc h k => by
    refine ⟨h.1, ?_⟩
    refine he.l x σ H ρ μ _ w _ I cc h.2 fun v u H1 μ1 g1 z1 r1 h1 => ?_
    split at h1
    · obtain ⟨rfl, rfl, h1⟩ := h1
      split at h1
      · rename_i y hy
        simp only [Rep] at r1
        obtain ⟨rfl, r1⟩ := r1
        rcases r1 with ⟨e0, _⟩ | ⟨dd, gs, e0, fz, rf⟩
        · rw [e0] at hy; cases hy
        · obtain ⟨v, hv, rv⟩ := rf.look hy
          exact ⟨rfl, rfl, dd, gs, v, e0, fz.hard rfl, hv, k y v H1 μ1 g1 z1 rv h1⟩
      · exact h1.elim
    · exact h1.elim⟩
end
end Z

set_option maxRecDepth 100000
set_option maxHeartbeats 4000000
namespace Z
open PySem L2 ErrX
/-! ### d.get(k, x) -/
def zGet (zd zk zx : ZT) : ZT := fun ρ μ q e => zd ρ μ (fun d μ1 => match dctOf d μ1 with
  | some _ => zk ρ μ1 (fun k μ2 => zx ρ μ2 (fun x μ3 => match dctOf d μ3, keyOf k with
    | some kvs, some kk => q ((lookK kk kvs).getD x) μ3
    | _, _ => False) e) e
  | none => False) e
section
variable {X : Cx} {W : WX} {k : Nat} {o e f : Expr} {td tk tx : TE} {zd zk zx : ZT} {apos cpos : Pos}
theorem zget (cx : ZC X W k) (ho : ZE X W o td zd) (he : ZE X W e tk zk) (hf : ZE X W f tx zx) (m : M2 X o "get" apos e f cpos := by exact ⟨rfl, rfl, rfl, rfl⟩) : ZE X W (.Call (.Attribute o "get" apos) [e, f] [] cpos) (tDGet2 td tk tx) (zGet zd zk zx) :=
  ⟨pe_dget2 cx.hu ho.p he.p hf.p m, fun x σ H ρ μ q w Q I c h kk => by
    refine ho.l x σ H ρ μ _ w _ I c h fun d v H1 μ1 g1 z1 r1 h1 => ?_
    split at h1
    · rename_i kvs0 e0
      obtain ⟨a, us, rfl, q1, _⟩ := dct_of z1 r1 e0
      refine ⟨a, rfl, .inl ⟨us, q1⟩, ?_⟩
      refine he.l x σ H1 ρ μ1 _ w _ (I.grow g1 z1) (c.grow g1) h1 fun d2 v2 H2 μ2 g2 z2 r2 h2 => ?_
      refine hf.l x σ H2 ρ μ2 _ w _ (I.grow (g1.trans g2) z2) (c.grow (g1.trans g2)) h2 fun d3 v3 H3 μ3 g3 z3 r3 h3 => ?_
      split at h3
      · rename_i kvs kk' e1 e2
        obtain ⟨a', us', ea, q2, l⟩ := dct_of z3 (r1.mono (g2.trans g3)) e1
        cases ea
        have lo := look_of (k := kk') l
        rw [key_of r2 e2]
        refine ⟨valV us' kk', .inl ⟨us', kk', q2, rfl, rfl⟩, ?_⟩
        cases e4 : lookK kk' kvs with
        | none =>
          rw [lo.2 e4]
          rw [e4] at h3
          exact kk _ _ H3 μ3 (g1.trans (g2.trans g3)) z3 r3 h3
        | some d' =>
          obtain ⟨v', e5, r5⟩ := lo.1 d' e4
          rw [e5]
          rw [e4] at h3
          exact kk _ _ H3 μ3 (g1.trans (g2.trans g3)) z3 r5 h3
      · exact h3.elim
    · exact h1.elim⟩
end
/-! ### methods by their names -/
/-- the method number j of the class that stands as the statement st -/
def mthOf (st : Stmt) (j : Nat) : Stmt := match st with
  | .ClassDef _ _ _ b _ _ _ _ _ _ _ => b.getD j (.Pass ⟨0, 0, 0, 0⟩)
  | _ => .Pass ⟨0, 0, 0, 0⟩
section
variable (P : Program) (w : World) (K : PySem.W.Frag) (mg : Str → Option Value) (base : Heap)
/-- the method m of the class at C is the def st -/
def MDef (C : Addr) (m qual : Str) (st : Stmt) (ps : List Str) : Prop := ∃ (f : Addr) (fd : FuncData), Fun K m qual st f fd ∧ Meth K C m f ∧ Binds K fd ps []
def MCal (k : Nat) (C : Addr) (m : Str) (ps : List Str) (S : Zp) : Prop := ∃ (f : Addr) (fd : FuncData), FnOk P w K mg base (L2N.CX P w) k f fd ps (spOf K ps.length S) ∧ Meth K C m f ∧ Binds K fd ps []
/-- the class at C under the name x, its __init__ -/
def IDef (x : Str) (C : Addr) (qual : Str) (st : Stmt) (ps : List Str) : Prop := ∃ (f : Addr) (fd : FuncData), Fun K "__init__" qual st f fd ∧ Mk K C f ∧ mg x = some (.ref C) ∧ Binds K fd ps []
def ICal (k : Nat) (x : Str) (C : Addr) (ps : List Str) (S : Zp) : Prop := ∃ (f : Addr) (fd : FuncData), FnOk P w K mg base (L2N.CX P w) k f fd ps (spOf K ps.length S) ∧ Mk K C f ∧ mg x = some (.ref C) ∧ Binds K fd ps []
end
section
variable {P : Program} {w : World} {K : PySem.W.Frag} {mg : Str → Option Value} {base : Heap} {x m qual : Str} {C : Addr} {ps : List Str} {S S' : Zp} {k j : Nat} {st : Stmt}
theorem MCal.mono (h : MCal P w K mg base j C m ps S) (hj : j ≤ k) : MCal P w K mg base k C m ps S := by
  obtain ⟨f, fd, F, r⟩ := h
  exact ⟨f, fd, F.mono hj, r⟩
theorem ICal.mono (h : ICal P w K mg base j x C ps S) (hj : j ≤ k) : ICal P w K mg base k x C ps S := by
  obtain ⟨f, fd, F, r⟩ := h
  exact ⟨f, fd, F.mono hj, r⟩
theorem sp_imp {n : Nat} (hs : ∀ ds μ q e, S' ds μ q e → S ds μ q e) : ∀ vs H Q E, spOf K n S' vs H Q E → spOf K n S vs H Q E := fun vs H Q E z => by
  obtain ⟨hl, x, ds, μ, q, e, zh, rr, hS, pq, pe⟩ := z
  exact ⟨hl, x, ds, μ, q, e, zh, rr, hs _ _ _ _ hS, pq, pe⟩
theorem MCal.imp (h : MCal P w K mg base k C m ps S) (hs : ∀ ds μ q e, S' ds μ q e → S ds μ q e) : MCal P w K mg base k C m ps S' := by
  obtain ⟨f, fd, F, r⟩ := h
  exact ⟨f, fd, F.imp (sp_imp hs), r⟩
theorem ICal.imp (h : ICal P w K mg base k x C ps S) (hs : ∀ ds μ q e, S' ds μ q e → S ds μ q e) : ICal P w K mg base k x C ps S' := by
  obtain ⟨f, fd, F, r⟩ := h
  exact ⟨f, fd, F.imp (sp_imp hs), r⟩
theorem MCal.zero (h : MDef K C m qual st ps) : MCal P w K mg base 0 C m ps (fun _ _ _ _ => False) := by
  obtain ⟨f, fd, F, r⟩ := h
  exact ⟨f, fd, fn0, r⟩
theorem MCal.mk {N : List Str} {z : ZS} (h : MDef K C m qual st ps) (Sc : FnScope N ps (defScope st))
    (hb : ∀ (f : Addr) (cdv : Value) (A : Around) (outer : List Env) (s : Shared) (H : Hp) (E : XK), ZC (cxOf (L2N.CX P w) P w K mg base N qual (defScope st) f cdv A outer s H E) (fun cls d _ H => E cls d H) k →
      ∃ t, ZSs (cxOf (L2N.CX P w) P w K mg base N qual (defScope st) f cdv A outer s H E) (fun cls d _ H => E cls d H) (defBody st) t z) :
    MCal P w K mg base (k + 1) C m ps (zBody N.length z) := by
  obtain ⟨f, fd, F, r⟩ := h
  exact ⟨f, fd, zfun F Sc (fun _ _ _ _ h => h) (hb f), r⟩
theorem ICal.mk {N : List Str} {z : ZS} (h : IDef K mg x C qual st ps) (Sc : FnScope N ps (defScope st))
    (hb : ∀ (f : Addr) (cdv : Value) (A : Around) (outer : List Env) (s : Shared) (H : Hp) (E : XK), ZC (cxOf (L2N.CX P w) P w K mg base N qual (defScope st) f cdv A outer s H E) (fun cls d _ H => E cls d H) k →
      ∃ t, ZSs (cxOf (L2N.CX P w) P w K mg base N qual (defScope st) f cdv A outer s H E) (fun cls d _ H => E cls d H) (defBody st) t z) :
    ICal P w K mg base (k + 1) x C ps (zBody N.length z) := by
  obtain ⟨f, fd, F, r⟩ := h
  exact ⟨f, fd, zfun F Sc (fun _ _ _ _ h => h) (hb f), r⟩
end
section
variable {X : Cx} {W : WX} {k n : Nat} {ps : List Str} {S : Zp} {x m : Str} {C : Addr} {p pos apos : Pos} {o e : Expr} {es : List Expr} {to : TE} {zo : ZT} {tas : TA} {zas : ZA}
theorem zmc {pl : Sem Bool} (cx : ZC X W k) (cl : Cls X.K C) (M : MCal X.prog X.w X.K X.mg X.base k C m ps S) (ho : ZE X W o to zo) (ha : ZAr X W n (e :: es) tas zas) (hn : n + 1 = ps.length := by rfl)
    (hst : starEach (e :: es) X.env = (false, eval e X.env) :: starEach es X.env := by rfl) (hpl : (backTo pos (starEach es X.env)).any (·.1) = false := by rfl)
    (ht : eval (.Call (.Attribute o m apos) (e :: es) [] pos) X.env = (do
      let ov ← eval o X.env
      standAt apos.atName
      let (f, first) ← holding [ov] (getMethod ov m pl)
      callWith pos f first (backTo pos (starEach (e :: es) X.env)) (backToKw pos (keywordEach [] X.env))) := by rfl) :
    ZE X W (.Call (.Attribute o m apos) (e :: es) [] pos) (tMethW C m (spOf X.K (n + 1) S) (WE W) to tas) (zMeth C m S zo zas) := by
  obtain ⟨f, fd, F, hm, b⟩ := M
  rw [← hn] at F
  exact zmeth cx cl hm F b ho ha (Nat.le_refl k) hst hpl ht
theorem zmk (cx : ZC X W (k + 1)) (M : ICal X.prog X.w X.K X.mg X.base k x C ps S) (ha : ZAr X W n (e :: es) tas zas) (hn : n + 1 = ps.length := by rfl) (hg : Gl X x := by rfl) (hdb : (x == ("__debug__" : Str)) = false := by decide)
    (he : starEach (e :: es) X.env = (false, eval e X.env) :: starEach es X.env := by rfl) (hpl : (backTo pos (starEach es X.env)).any (·.1) = false := by rfl) :
    ZE X W (.Call (.Name x p) (e :: es) [] pos) (tMake C (spOf X.K (n + 1) S) [] E0 tas) (zMake C S zas) := by
  obtain ⟨f, fd, F, mk, hm, b⟩ := M
  rw [← hn] at F
  exact zmake cx mk F hm b ha (Nat.le_refl _) hg hdb he hpl
theorem zmkF (cx : ZC X W (k + 1)) (M : ICal X.prog X.w X.K X.mg X.base k x C ps S) (ha : ZAr X W n (e :: es) tas zas) (hn : n + 1 = ps.length := by rfl) (hg : Gl X x := by rfl) (hdb : (x == ("__debug__" : Str)) = false := by decide)
    (he : starEach (e :: es) X.env = (false, eval e X.env) :: starEach es X.env := by rfl) (hpl : (backTo pos (starEach es X.env)).any (·.1) = false := by rfl) :
    ZE X W (.Call (.Name x p) (e :: es) [] pos) (tMake C (spOf X.K (n + 1) S) [] E0 tas) (zMakeF C S zas) := by
  obtain ⟨f, fd, F, mk, hm, b⟩ := M
  rw [← hn] at F
  exact zmakeF cx mk F hm b ha (Nat.le_refl _) hg hdb he hpl
theorem peX {c : Str} (h : X.mg c = some (.ref (gad X.K c))) (hc : c ≠ "ValueError" := by decide) (hg : Gl X c := by rfl) (hd : (c == ("__debug__" : Str)) = false := by decide) : PE X (.Name c p) (tC (cV X.K c)) := by
  unfold cV
  rw [if_neg hc]
  exact pe_glob hg h rfl hd
theorem peXV (h : X.mg "ValueError" = none) (hg : Gl X "ValueError" := by rfl) : PE X (.Name "ValueError" p) (tC (cV X.K "ValueError")) := by
  unfold cV
  rw [if_pos rfl]
  exact pe_bltn (v := .ty "ValueError") (u := .type "ValueError") hg h (by decide +kernel) rfl (by decide) (by decide)
end
end Z
namespace Z
open PySem L2 ErrX
theorem zmc0 {X : Cx} {W : WX} {k : Nat} {ps : List Str} {S : Zp} {m : Str} {C : Addr} {pos apos : Pos} {o : Expr} {to : TE} {zo : ZT} {pl : Sem Bool} (cx : ZC X W k) (cl : Cls X.K C) (M : MCal X.prog X.w X.K X.mg X.base k C m ps S) (ho : ZE X W o to zo) (hn : 1 = ps.length := by rfl)
    (ht : eval (.Call (.Attribute o m apos) [] [] pos) X.env = (do
      let ov ← eval o X.env
      standAt apos.atName
      let (f, first) ← holding [ov] (getMethod ov m pl)
      callWith pos f first (backTo pos (starEach [] X.env)) (backToKw pos (keywordEach [] X.env))) := by rfl) :
    ZE X W (.Call (.Attribute o m apos) [] [] pos) (tMethW C m (spOf X.K 1 S) (WE W) to tNil) (zMeth C m S zo zNil) := by
  obtain ⟨f, fd, F, hm, b⟩ := M
  rw [← hn] at F
  exact zmeth0 cx cl hm F b ho (Nat.le_refl k) ht
end Z

set_option maxRecDepth 100000
set_option maxHeartbeats 4000000
namespace Z
open PySem PySem.W PySem.Calls PyProof.Rows PySem.HandSPX L2 ErrX
/-! ### what the head tells of own errors -/
abbrev SupV : Type := Option (Str × Str × Arguments × FuncBody × Scope × Addr × Value × Value × Addr)
def supObs (K : Frag) (x : Str) : SupV := match K.lookup (He.ma K (gad K x) "__init__") with
  | some ⟨_, _, .func fd, _⟩ => some (fd.name, fd.qualname, fd.params, fd.body, fd.scope, fd.globals, fd.defaults, fd.kwdefaults, fd.builtins)
  | _ => none
def supVal (qual : Str) (st : Stmt) : SupV := some ("__init__", qual, defArgs st, .stmts (defBody st), defScope st, mainGlobals, .none, .none, builtinsNs)
/-- the class's record -/
def supC (K : Frag) (C : Addr) : Bool := match K.lookup C with
  | some ⟨.type "type", _, .cls cd, sl⟩ => (match cd.mro, sl.toList with
    | .ref C' :: bm, [_, _, _, _, some (.builtin n), _] => C' == C && n == "ValueError.__new__" && !cd.hasDel && cd.hasDict && refsVE bm && decide (alongIn K "__init__" bm = some (some (.builtin "ValueError.__init__")))
    | _, _ => false)
  | _ => false
/-- the cell and the code of its __init__ -/
def supF (K : Frag) (file : Str) (C : Addr) (qual : Str) : Bool := match K.lookup (He.ma K C "__init__") with
  | some ⟨_, _, .func fd, _⟩ => (match fd.closure, fd.code with
    | [(n, cc)], .ref cda => decide (n = "__class__") && codeIn K (.ref cda) qual && (match K.lookup cc with
      | some ⟨_, _, .cell (some (.ref C')), _⟩ => C' == C
      | _ => false) && (match K.lookup cda with
      | some ⟨_, _, .fields vs, _⟩ => (match (vs[2]? : Option Value) with
        | some (.str fl _) => file == fl
        | _ => false)
      | _ => false)
    | _, _ => false)
  | _ => false
def supB (K : Frag) (file : Str) (x f qual : Str) : Bool :=
  supC K (gad K x) && (He.eqO (findIn K (.ref (gad K x)) "__setattr__") (some (some (.builtin "object.__setattr__"))) && (He.eqO (findIn K (.ref (gad K x)) "__getattribute__") (some (some (.builtin "BaseException.__getattribute__"))) &&
  (He.eqO (findIn K (.ref (gad K x)) "__getattr__") (some none) && (He.eqO (findIn K (.ref (gad K x)) f) (some none) && (keepIn K (.ref (gad K x)) && (decide (subIn K (.ref (gad K x)) (.type "BaseException") = some true) &&
  (decide (subIn K (.ref (gad K x)) (.type "ValueError") = some true) && (decide (typeIn K (.ref (gad K x)) = some (.type "type")) && (hasDictIn K (gad K x) && (decide (mroIn K (gad K x) (.ref (gad K x)) = some true) &&
  (He.eqO (nsIn K mainGlobals "super") (some none) && (He.eqO (nsIn K cStatics "thirdparty.any") (some none) && (He.eqO (findIn K (.ref (gad K x)) "__init__") (some (some (.ref (He.ma K (gad K x) "__init__")))) &&
  (decide (typeIn K (.ref (He.ma K (gad K x) "__init__")) = some (.type "function")) && supF K file (gad K x) qual))))))))))))))
/-- what the text of the __init__ is -/
structure SupSt (P : Program) (f qual : Str) (st : Stmt) : Prop where
  ex : ∃ (msg : Str) (j : Nat) (p1 p2 a1 a2 a3 a4 a5 a6 q1 q2 q3 q4 : Pos), defArgs st = sArgs f p1 p2 ∧ defBody st = sBody f msg j a1 a2 a3 a4 a5 a6 q1 q2 q3 q4 ∧ (∀ env : Env, ∃ pl : Sem Bool, eval (.Call (.Attribute (.Call (.Name "super" a1) [] [] a2) "__init__" a3) [.Constant (.str msg) j a4] [] a5) env = (do
      let ov ← attributeBase (.Call (.Name "super" a1) [] [] a2) "__init__" env (eval (.Call (.Name "super" a1) [] [] a2) env)
      standAt a3.atName
      let (f, first) ← holding [ov] (getMethod ov "__init__" pl)
      callWith a5 f first (backTo a5 (starEach [.Constant (.str msg) j a4] env)) []))
  s1 : (defScope st).names.lookup ("super" : Str) = some .globalImplicit
  s2 : (defScope st).names.lookup ("__class__" : Str) = some .free
  s3 : (defScope st).names.lookup ("self" : Str) = some .local
  s4 : (defScope st).names.lookup f = some .local
  k : (defScope st).kind = .function
  co : (defScope st).isCoroutine = false
  gn : (defScope st).isGenerator = false
  nc : ∀ x ∈ (defScope st).names, x.2 ≠ .cell
  top : (P.main.scope.names.lookup ("super" : Str)).isSome = false
  fs : (f == ("self" : Str)) = false
  fd : (f == ("__debug__" : Str)) = false
  bnd : ∀ (p1 p2 : Pos) (body : List Stmt) (scope : Scope) (doc pm : Value) (an : Option Addr) (cda : Value) (ct : Value) (cc : Addr) (u v : Value), bindArgs (ksFn "__init__" qual (sArgs f p1 p2) body scope .none .none doc pm an cda ct cc) ⟨[u, v], []⟩ = pure [(("self" : Str), u), (f, v)]
theorem beq_val {a b : Value} (h : (a == b) = true) : a = b := by simpa using h
theorem supC_ok {K : Frag} {C : Addr} (h : supC K C = true) : ∃ nm q N bs bm sn sub ab col dd k0 k1 k2 k3 k5, K.lookup C = some (excClassObj nm q C N bs bm true sn sub ab col dd k0 k1 k2 k3 k5 "ValueError.__new__") ∧ refsVE bm = true ∧ alongIn K "__init__" bm = some (some (.builtin "ValueError.__init__")) := by
  unfold supC at h
  split at h
  · rename_i dd cd sl ho
    split at h
    · rename_i C' bm k0 k1 k2 k3 n k5 hm hs
      simp only [Bool.and_eq_true, beq_iff_eq, Bool.not_eq_true', decide_eq_true_eq] at h
      obtain ⟨⟨⟨⟨⟨rfl, rfl⟩, hdel⟩, hd⟩, hr⟩, ha⟩ := h
      obtain ⟨nm, bs, mro, ns, qn, hd', sn, sub, ab, col, del⟩ := cd
      dsimp only at hm hdel hd
      subst hm hdel hd
      have hsl : sl = #[k0, k1, k2, k3, some (.builtin "ValueError.__new__"), k5] := by
        obtain ⟨l⟩ := sl
        simp only at hs
        rw [hs]
      subst hsl
      exact ⟨nm, qn, ns, bs, bm, sn, sub, ab, col, dd, k0, k1, k2, k3, k5, ho, hr, ha⟩
    · cases h
  · cases h
theorem sup_of {P : Program} {K : Frag} {x f qual : Str} {st : Stmt} (S : SupSt P f qual st) (e : supObs K x = supVal qual st) (h : supB K P.main.file x f qual = true) : SupTxt P K (gad K x) f := by
  unfold supB at h
  simp only [Bool.and_eq_true, decide_eq_true_eq] at h
  obtain ⟨h1, h2, h3, h4, h5, h6, h7, h8, h9, h10, h11, h12, h13, h14, h15, h16⟩ := h
  refine ⟨supC_ok h1, He.eqO_ok h2, He.eqO_ok h3, He.eqO_ok h4, He.eqO_ok h5, h6, h7, h8, h9, h10, h11, He.eqO_ok h12, He.eqO_ok h13, ?_⟩
  obtain ⟨msg, j, p1, p2, a1, a2, a3, a4, a5, a6, q1, q2, q3, q4, e1, e2, ev⟩ := S.ex
  have i1 := He.eqO_ok h14
  unfold supObs at e
  unfold supF at h16
  revert e h16 h15 i1
  generalize He.ma K (gad K x) "__init__" = fI
  intro e h15 h16 i1
  cases q : K.lookup fI with
  | none =>
    rw [q] at e
    cases e
  | some o =>
    obtain ⟨oc, od, dt, osl⟩ := o
    rw [q] at e h16
    cases dt with
    | func fd =>
      obtain ⟨n1, n2, n3, n4, n5, n6, n7, n8, n9, n10, n11, n12, n13, n14, n15⟩ := fd
      have e2 : (some (n1, n2, n3, n4, n5, n6, n8, n9, n15) : SupV) = supVal qual st := e
      unfold supVal at e2
      simp only [Option.some.injEq, Prod.mk.injEq] at e2
      obtain ⟨g1, g2, g3, g4, g5, g6, g7, g8, g9⟩ := e2
      subst g1 g2 g3 g4 g5 g6 g7 g8 g9
      dsimp only at h16
      split at h16
      · rename_i n cc cda
        rw [Bool.and_eq_true, Bool.and_eq_true, Bool.and_eq_true] at h16
        obtain ⟨⟨⟨w1, w2⟩, w3⟩, w4⟩ := h16
        have w1 := of_decide_eq_true w1
        subst w1
        split at w3
        · rename_i cl cld C' csl hcc
          have w3 : C' = gad K x := by simpa using w3
          subst w3
          split at w4
          · rename_i ccl cdd vs ccs hcda
            split at w4
            · rename_i fl tf hvs
              refine ⟨fI, cc, cda, oc, od, n10, n11, n12, n14, osl, defScope st, n2, msg, j, p1, p2, a1, a2, a3, a4, a5, a6, q1, q2, q3, q4, cl, cld, csl, ccl, cdd, ccs, vs, fl, tf, i1, h15, ?_, w2, hcc, hcda, hvs, w4, S.s1, S.s2, S.s3, S.s4, S.k, S.co, S.gn, S.nc, S.top, S.fs, S.fd, fun u v => S.bnd _ _ _ _ _ _ _ _ _ _ u v, ev⟩
              rw [e1, e2] at q
              exact q
            · cases w4
          · cases w4
        · cases w3
      · cases h16
    | _ => cases e
/-- an own error without an __init__ of its own -/
theorem ex0_of {K : Frag} {h : Heap} {mg : Str → Option Value} {x : Str} (X : K.In h) (G : h.Ns mainGlobals mg) (c1 : (He.Fa.glo x).ok K = true) (c2 : (He.Fa.exc x).ok K = true) : Ex0 K mg x := by
  obtain ⟨q1, q2, q3, q4⟩ := He.exc_ok c2
  exact ⟨q1, q2, q3, q4, He.glo_ok X G c1⟩
/-! ### the tables -/
def tabB (f : Str → Str → Bool → Bool) (t : List (Str × List (Str × Bool))) : Bool := t.all fun p => p.2.all fun q => f p.1 q.1 q.2
theorem look_mem {α : Type} {k : Str} {v : α} : ∀ {l : List (Str × α)}, l.lookup k = some v → (k, v) ∈ l
  | [], h => by cases h
  | (a, b) :: r, h => by
    simp only [List.lookup] at h
    split at h
    · rename_i e
      have ek : k = a := by simpa using e
      cases h
      rw [ek]
      exact List.mem_cons_self
    · exact List.mem_cons_of_mem _ (look_mem h)
theorem tab_ok {f : Str → Str → Bool → Bool} {t : List (Str × List (Str × Bool))} (h : tabB f t = true) {C c : Str} {b : Bool} (e : ((t.lookup C).bind fun l => l.lookup c) = some b) : f C c b = true := by
  cases q : t.lookup C with
  | none => rw [q] at e; cases e
  | some l =>
    rw [q] at e
    have e : l.lookup c = some b := e
    have h1 := List.all_eq_true.mp h _ (look_mem q)
    exact List.all_eq_true.mp h1 _ (look_mem e)
def exmF (K : Frag) (C c : Str) (b : Bool) : Bool := decide (exmOne K (.ref (gad K C)) (.ref (gad K c)) = some b)
def kitcB (K : Frag) (D : Addr) : Bool := (clsIn K D).isSome && (He.eqO (findIn K (.ref D) "__getattribute__") (some (some (.builtin "BaseException.__getattribute__"))) && (He.eqO (findIn K (.ref D) "__getattr__") (some none) && (decide (subIn K (.ref D) (.type "BaseException") = some true) &&
  (He.eqO (findIn K (.ref D) "__class__") (some (some (.builtin "object.__class__"))) && (He.eqO (specialIn K (.builtin "object.__class__") "__get__") (some (some (.builtin "getset_descriptor.__get__"))) && (decide (takesIn K (.builtin "object.__class__") = some true) && decide (mroIn K D (.type "object") = some true)))))))
theorem kitcB_ok {K : Frag} {D : Addr} (h : kitcB K D = true) : KitC K D := by
  unfold kitcB at h
  simp only [Bool.and_eq_true, decide_eq_true_eq] at h
  obtain ⟨h1, h2, h3, h4, h5, h6, h7, h8⟩ := h
  exact ⟨h1, He.eqO_ok h2, He.eqO_ok h3, h4, He.eqO_ok h5, He.eqO_ok h6, h7, h8⟩
def kitF (K : Frag) (C c : Str) (b : Bool) : Bool := kitcB K (gad K C) && decide (kitOne K (.ref (gad K C)) (cval K c) = some b)
theorem exm_of {K : Frag} {t : List (Str × List (Str × Bool))} (h : tabB (exmF K) t = true) : ExmOk K fun C c => (t.lookup C).bind fun l => l.lookup c := fun C c b e => of_decide_eq_true (tab_ok h e)
theorem kit_of {K : Frag} {t : List (Str × List (Str × Bool))} (h : tabB (kitF K) t = true) : KitOk K fun C c => (t.lookup C).bind fun l => l.lookup c := fun C c b e => by
  obtain ⟨h1, h2⟩ := Bool.and_eq_true_iff.mp (tab_ok h e)
  exact ⟨kitcB_ok h1, of_decide_eq_true h2⟩
def fldB (K : Frag) (t : List (Str × Str)) : Bool := t.all fun p => xfB K (gad K p.1) && He.eqO (findIn K (.ref (gad K p.1)) p.2) (some none)
theorem fld_of {K : Frag} {t : List (Str × Str)} (h : fldB K t = true) : FldOk K fun C f => decide (t.lookup C = some f) := fun C f e => by
  obtain ⟨h1, h2⟩ := Bool.and_eq_true_iff.mp (List.all_eq_true.mp h _ (look_mem (of_decide_eq_true e)))
  exact ⟨xfB_ok h1, He.eqO_ok h2⟩
def clstB (K : Frag) (D : Addr) : Bool := He.eqO (findIn K (.ref D) "__class__") (some (some (.builtin "object.__class__"))) && (He.eqO (specialIn K (.builtin "object.__class__") "__get__") (some (some (.builtin "getset_descriptor.__get__"))) && (decide (takesIn K (.builtin "object.__class__") = some true) && decide (mroIn K D (.type "object") = some true)))
theorem clst_of {K : Frag} {D : Addr} (c : Cls K D) (h : clstB K D = true) : ClsTy K D := by
  unfold clstB at h
  simp only [Bool.and_eq_true, decide_eq_true_eq] at h
  obtain ⟨h5, h6, h7, h8⟩ := h
  exact ⟨c, He.eqO_ok h5, He.eqO_ok h6, h7, h8⟩
/-! ### defs and methods of the head -/
def ddm (x m qual : Str) (st : Stmt) : He.DefD := ⟨(x, some m), m, qual, defArgs st, defBody st, defScope st, [], []⟩
theorem funq_of {K : Frag} {x q : Str} {st : Stmt} {f : Addr} {fd : FuncData} (F : FunD K x q (defArgs st) (defBody st) (defScope st) [] [] f fd) : Fun K x q st f fd := by
  obtain ⟨oc, od, dV, kV, doc, pm, an, cdv, ct, osl, e, lk, hcd, hD, hK⟩ := F.ex
  rcases hD with ⟨_, rfl⟩ | ⟨e, _⟩
  · exact ⟨⟨oc, od, kV, doc, pm, an, cdv, ct, osl, e, lk, hcd⟩, F.kp⟩
  · exact absurd rfl e
section
variable {fa : List He.Fa} {fn : List He.DefD} {ts : List He.Tab} {w : World} {K : Frag} {h : Heap} {mg : Str → Option Value} {x m qual : Str} {st : Stmt} {ps : List Str}
theorem dfT (X : K.In h) (G : h.Ns mainGlobals mg) (c : He.SaysT fa fn ts w K) (h1 : dd x st ∈ fn) (h2 : He.Fa.glo x ∈ fa)
    (hb : ∀ (kV doc pm : Value) (an : Option Addr) (cdv ct : Value) (us : List Value), us.length = ps.length → bindArgs (fnOf x x (defArgs st) (defBody st) (defScope st) .none kV doc pm an cdv ct) ⟨us, []⟩ = pure (ps.zip us)) : Def K mg x st ps := by
  obtain ⟨fd, F⟩ := c.d.defs h1
  exact ⟨_, fd, fun_of F, He.glo_ok X G (c.d.facts h2), FunD.bindsN F hb⟩
theorem mdT (c : He.SaysT fa fn ts w K) (h1 : ddm x m qual st ∈ fn) (h2 : He.Fa.meth x m ∈ fa)
    (hb : ∀ (kV doc pm : Value) (an : Option Addr) (cdv ct : Value) (us : List Value), us.length = ps.length → bindArgs (fnOf m qual (defArgs st) (defBody st) (defScope st) .none kV doc pm an cdv ct) ⟨us, []⟩ = pure (ps.zip us)) : MDef K (gad K x) m qual st ps := by
  obtain ⟨fd, F⟩ := c.d.defs h1
  exact ⟨_, fd, funq_of F, He.meth_ok (c.d.facts h2), FunD.bindsN F hb⟩
theorem idT (X : K.In h) (G : h.Ns mainGlobals mg) (c : He.SaysT fa fn ts w K) (h1 : ddm x "__init__" qual st ∈ fn) (h2 : He.Fa.mkr x ∈ fa) (h3 : He.Fa.glo x ∈ fa)
    (hb : ∀ (kV doc pm : Value) (an : Option Addr) (cdv ct : Value) (us : List Value), us.length = ps.length → bindArgs (fnOf "__init__" qual (defArgs st) (defBody st) (defScope st) .none kV doc pm an cdv ct) ⟨us, []⟩ = pure (ps.zip us)) : IDef K mg x (gad K x) qual st ps := by
  obtain ⟨fd, F⟩ := c.d.defs h1
  exact ⟨_, fd, funq_of F, He.mkr_ok (c.d.facts h2), He.glo_ok X G (c.d.facts h3), FunD.bindsN F hb⟩
end
end Z
namespace Z
open PySem PySem.Spec PyProof.Rows L2
theorem hsp_of {K : PySem.W.Frag} {H : Hp} {a : Addr} {ns : List Int} {S : Zp} (hl : ns.length ≤ 63) (hS : SqL K H a (ns.map V.int)) (hs : ∀ q e, (∀ μ, q (.bl true) μ) → S [.klst (ns.map .int)] (fun _ => none) q e) :
    spOf K 1 S [.ref a] H (fun v _ => v = .bl true) fun _ _ _ => False := by
  refine ⟨rfl, fun _ => False, [.klst (ns.map .int)], fun _ => none, fun d _ => d = .bl true, fun _ _ => False, ⟨(fun b c h => by cases h), fun b h => h.elim⟩, ?_, hs _ _ fun _ => rfl, ?_, fun _ _ _ _ _ _ _ _ h => h⟩
  · have hr : RepL K H (fun _ => none) (fun _ => False) (ns.map D.int) (ns.map V.int) := by
      clear hS hl hs
      induction ns with
      | nil => simp [RepL]
      | cons n r ih => simp only [List.map_cons, RepL]; exact ⟨_, _, rfl, rep_int, ih⟩
    simp only [RepL]
    refine ⟨_, _, rfl, ?_, rfl⟩
    simp only [Rep]
    refine ⟨a, _, rfl, ?_, hr⟩
    rcases hS with (h | ⟨o, h⟩) | h
    · exact .inl ⟨.inl h, rfl, rfl, id⟩
    · exact .inl ⟨.inr ⟨rfl, o, h⟩, rfl, rfl, id⟩
    · exact .inr h
  · rintro d v H' μ' _ _ r rfl
    exact r.bl
theorem walk {l : PySem.W.OpenLaw} {q : Program} {loose : List Str} {XP : (Str → Option Value) → Heap → Prop} {YP : World → Heap → Prop} {d : DefRec} {K : Params → PySem.W.Frag} {S : Zp} {k : Nat} (hn : l.most = some 63) (hdf : d.params.defaults = []) (hr : Room k callerA)
    (hY : ∀ (w : World) (h : Heap), YP w h → (K w.params).In h) (hs : ∀ ns : List Int, ns.length ≤ 63 → ∀ q e, (∀ μ, q (.bl true) μ) → S [.klst (ns.map .int)] (fun _ => none) q e)
    (F : ∀ (w : World) (mg : Str → Option Value) (fa : Addr) (h : Heap), (K w.params).In h → h.Ns mainGlobals mg → mg d.name = some (.ref fa) →
      ∃ fd : FuncData, (∀ (s : Shared) (u : Value), BindsTo s fd ⟨[u], []⟩ [("_law_script", u)]) ∧ ∀ base : Heap, (K w.params).In base → base.Ns mainGlobals mg → FnOk l.prog w (K w.params) mg base (L2N.CX l.prog w) k fa fd ["_law_script"] (spOf (K w.params) 1 S)) :
    PySem.W.WalkO q loose XP YP l.row.toRowW d [] (fun f vs => PySem.call f vs) :=
  L2.walk_of (n := 63) (k := k) (x := "_law_script") (CX := fun w => L2N.CX l.prog w) (sp := fun w => spOf (K w.params) 1 S) hn (by decide) hdf hr hY F
    (fun w H a ns hl _ hS => hsp_of hl hS (hs ns hl)) (fun w H s e s' h => by obtain ⟨a, B, H', cls, d, _, _, _, _, _, _, _, h⟩ := h; exact h)
end Z
namespace Z
open PySem L2
/-! ### xs.index(y), flat items -/
def zIndex : FM := fun d ds μ q => match ds with
  | [y] => match lstOf d μ with
    | some es => ∃ (j : Nat) (z : D), flatD y = true ∧ es.all flatD = true ∧ es[j]? = some z ∧ eqF z y = true ∧ (∀ (m : Nat) (z' : D), m < j → es[m]? = some z' → eqF z' y = false) ∧ q (.int (j : Nat)) μ
    | none => False
  | _ => False
theorem rep_at {K : PySem.W.Frag} {H : Hp} {μ : Mu} {x : Ax} : ∀ {ds : List D} {vs : List V}, RepL K H μ x ds vs → ∀ j : Nat, (∀ z : D, ds[j]? = some z → ∃ v : V, vs[j]? = some v ∧ Rep K H μ x z v) ∧ (∀ v : V, vs[j]? = some v → ∃ z : D, ds[j]? = some z ∧ Rep K H μ x z v)
  | [], vs, r, j => by
    simp only [RepL] at r
    subst r
    exact ⟨fun z h => by simp at h, fun v h => by simp at h⟩
  | d :: ds, vs, r, j => by
    simp only [RepL] at r
    obtain ⟨v, rs, rfl, r1, r2⟩ := r
    cases j with
    | zero => exact ⟨fun z h => by simp at h; subst h; exact ⟨v, by simp, r1⟩, fun u h => by simp at h; subst h; exact ⟨d, by simp, r1⟩⟩
    | succ j =>
      have ih := rep_at r2 j
      exact ⟨fun z h => by simpa using ih.1 z (by simpa using h), fun u h => by simpa using ih.2 u (by simpa using h)⟩
theorem flat_mem {es : List D} (f : es.all flatD = true) {j : Nat} {z : D} (h : es[j]? = some z) : flatD z = true := List.all_eq_true.mp f z (List.mem_of_getElem? h)
theorem lf_index {K : PySem.W.Frag} : LfM K (rIndex K) zIndex := fun x H μ d v ds vs q Q z r l h p => by
  unfold zIndex at h
  split at h
  · rename_i y
    split at h
    · rename_i es e
      obtain ⟨j, w, fy, fes, hj, hw, hno, hq⟩ := h
      obtain ⟨u, rfl, r1⟩ := repl1 l
      obtain ⟨a, us, rfl, q1, l1⟩ := lst_of z r e
      obtain ⟨wv, hwv, rw⟩ := (rep_at l1 j).1 w hj
      refine ⟨a, us, u, j, wv, rfl, rfl, q1, flat_of r1 fy, flats_of l1 fes, hwv, ?_, fun m z' hm hz => ?_, p.here z rep_int hq⟩
      · rw [eqF_of rw r1 (flat_mem fes hj) fy]; exact hw
      · obtain ⟨zd, hzd, rz⟩ := (rep_at l1 m).2 z' hz
        rw [eqF_of rz r1 (flat_mem fes hzd) fy]
        exact hno m zd hm hzd
    · exact h.elim
  · exact h.elim
end Z

set_option maxRecDepth 100000
set_option maxHeartbeats 4000000
namespace RvL
open PySem PySem.W PySem.Calls PyProof.Rows RT
section
variable {prog : Program} {w : World} {A : Around} {E : Value → Shared → Prop} {s : Shared}
/-! ### list(reversed(a list)) -/
theorem ext_rv {R : Result → Shared → Prop} {it l : Addr} {ys : Array Value} (hh : A.handled = none) (hit : s.heap.IsRevIter it l ((ys.size : Int) - 1)) (hl : s.heap.IsList l ys) (hne : l ≠ it) (hn : ys.size ≤ sizeLine) (S : Addr) (res : Value) (c₀ : Nat)
    (hS : s.heap.get? S = some { cls := .type "list", data := .seq #[] c₀ }) (hSi : S ≠ it) (hSl : S ≠ l)
    (hR : ∀ h' tk acc' c', (∀ b o, b ≠ S → b ≠ it → s.heap.get? b = some o → h'.get? b = some o) → h'.get? S = some { cls := .type "list", dict := none, data := .seq acc' c', slots := #[] } →
      ItemsOf (fun i v => ys[ys.size - 1 - i]? = some v) acc' ys.size → R (.ok (.ret res)) { s with heap := h', toks := tk }) :
    wpAny (model prog w) A.in1 (Builtin.List.listExtendWith (.ref S) (.ref it) res)
      (fun fin t => match fin with | .done f => R (.ok f) t | .again d => d.quiet = true ∧ codeAny (model prog w) A d R t) (fun e t => R (.error e) t) s := by
  have Wk := (Walks.listRev (prog := prog) (w := w) (A := A.in1) hh it l hne ys).toS
  have nf : S ∉ [it, l] := by simp [hSi, hSl]
  have tyI : s.TypeIs (.ref it) "list_reverseiterator" := hit.typeIs
  have same : Builtin.List.listSameRef (.ref S) (.ref it) = false := by simp [Builtin.List.listSameRef, hSi]
  unfold Builtin.List.listExtendWith
  refine wpAny_bind (wpAny_typeOf tyI ?_)
  rw [if_neg (by rw [same]; decide)]
  refine wpAny_bind (wpAny_pyIter_revIter hit ?_)
  refine wpAny_bind (wpAny_holding ?_)
  unfold Builtin.List.listLengthHint
  refine wpAny_bind (wpAny_specialOf tyI nolen_lri ?_)
  show wpAny _ A.in1 (specialOf (Value.ref it) (Str.ofString "__length_hint__") >>= _) _ _ _
  refine wpAny_bind (wpAny_specialOf tyI hint_lri ?_)
  generalize hid : ("list_reverseiterator.__length_hint__" : String) = id0
  wp_delta
  rw [show splitId id0 = some ("list_reverseiterator", "__length_hint__") from by subst hid; decide +kernel]
  subst hid
  refine wpAny_bind (wpAny_isInstance (b := true) tyI (by rw [isSubtype_type]; kernel_rfl) ?_)
  refine wpAny_pure ?_
  rw [if_neg (by decide)]
  have z0 : ((ys.size : Nat) : Int) - 1 - ((0 : Nat) : Int) = (ys.size : Int) - 1 := by omega
  refine wpAny_pure ⟨plainId_quiet F.plain_extend_loop _, codeAny_extend_loopS Wk hn S nf res ys.size 0 _ _ _ rfl (Nat.zero_le _) ⟨Nat.zero_le _, by rw [z0]; exact hit, hl⟩ hS (ItemsOf.nil _) fun t acc' c' hm hS' hacc => ?_⟩
  rw [Moved.eq_with hm]
  refine hR t.heap t.toks acc' c' (fun b o hb hbi e => hm.heap b o (fun hmem => ?_) e) hS' hacc
  simp only [List.mem_cons, List.not_mem_nil, or_false] at hmem
  rcases hmem with q | q
  · exact hb q
  · exact hbi q
theorem init_rv {R : Result → Shared → Prop} {it l : Addr} {ys : Array Value} (hh : A.handled = none) (hit : s.heap.IsRevIter it l ((ys.size : Int) - 1)) (hl : s.heap.IsList l ys) (hne : l ≠ it) (hn : ys.size ≤ sizeLine) (S : Addr)
    (hS : s.heap.get? S = some { cls := .type "list", data := .seq #[] }) (hSi : S ≠ it) (hSl : S ≠ l)
    (hR : ∀ h' tk acc' c', (∀ b o, b ≠ S → b ≠ it → s.heap.get? b = some o → h'.get? b = some o) → h'.get? S = some { cls := .type "list", dict := none, data := .seq acc' c', slots := #[] } →
      ItemsOf (fun i v => ys[ys.size - 1 - i]? = some v) acc' ys.size → R (.ok (.ret .none)) { s with heap := h', toks := tk }) :
    wpAny (model prog w) A.in1 (Builtin.«list.__init__» ⟨[.ref S, .ref it], []⟩)
      (fun fin t => match fin with | .done f => R (.ok f) t | .again d => d.quiet = true ∧ codeAny (model prog w) A d R t) (fun e t => R (.error e) t) s := by
  show wpAny _ _ (do let was ← Builtin.List.listItems (.ref S); Builtin.List.listUpdate (.ref S) (fun _ => #[]); letGo was.toList.reverse; Builtin.List.listExtendWith (.ref S) (.ref it) .none) _ _ s
  refine wpAny_bind ?_
  unfold Builtin.List.listItems
  refine wpAny_bind (wpAny_seqItems hS rfl (wpAny_pure ?_))
  show wpAny _ _ (updateSeq S (fun _ => #[]) >>= fun _ => letGo (#[] : Array Value).toList.reverse >>= fun _ => Builtin.List.listExtendWith (.ref S) (.ref it) .none) _ _ s
  refine wpAny_bind (wpAny_updateSeq hS rfl ?_)
  have h2 := Heap.get?_update_self (Obj.mapSeq (fun _ => (#[] : Array Value))) hS rfl
  have rest : ∀ b o, b ≠ S → s.heap.get? b = some o → (s.heap.update S (Obj.mapSeq (fun _ => (#[] : Array Value)))).get? b = some o := fun b o hb e => (Heap.get?_update_other _ _ (Ne.symm hb)).trans e
  refine wpAny_bind (wpAny_letGo ?_)
  exact ext_rv (s := { s with heap := s.heap.update S (Obj.mapSeq (fun _ => (#[] : Array Value))) }) hh (hit.at fun o e => rest it o (Ne.symm hSi) e) (hl.at fun o e => rest l o (Ne.symm hSl) e) hne hn S .none _ h2 hSi hSl fun h' tk acc' c' hk hS' hacc =>
    hR h' tk acc' c' (fun b o hb hbi e => hk b o hb hbi (rest b o hb e)) hS' hacc
theorem call_listRv {it l : Addr} {ys : Array Value} {Q : Value → Shared → Prop} (hh : A.handled = none) (hit : s.heap.IsRevIter it l ((ys.size : Int) - 1)) (hl : s.heap.IsList l ys) (hne : l ≠ it) (hn : ys.size ≤ sizeLine)
    (hQ : ∀ h' tk acc' c', (∀ b o, b ≠ it → s.heap.get? b = some o → h'.get? b = some o) → h'.get? s.heap.objs.size = some { cls := .type "list", dict := none, data := .seq acc' c', slots := #[] } →
      ItemsOf (fun i v => ys[ys.size - 1 - i]? = some v) acc' ys.size → Q (.ref s.heap.objs.size) { s with heap := h', toks := tk }) :
    wpAny (model prog w) A (call (.type "list") [.ref it]) Q E s := by
  refine callType_codes (Q₁ := fun v t => v = .ref s.heap.objs.size ∧ t = { s with heap := s.heap.push { cls := .type "list", data := .seq #[] } }) F.called_list (F.typeCall_list_1 _) F.entry_list_init (code_list_new _ ⟨rfl, rfl⟩) fun v t ht => ?_
  obtain ⟨rfl, rfl⟩ := ht
  obtain ⟨oi, hoi, _⟩ := id hit
  obtain ⟨ol, hol, _⟩ := id hl
  have hS : (s.heap.push { cls := .type "list", data := .seq #[] }).get? s.heap.objs.size = some { cls := .type "list", data := .seq #[] } := Heap.get?_push_size _ rfl
  refine ⟨⟨_, hS, rfl⟩, F.args_list_init_2 _ _, init_rv (A := A.in1) (s := { s with heap := s.heap.push { cls := .type "list", data := .seq #[] } }) hh (hit.at fun o e => Heap.get?_push_of_some _ e) (hl.push _) hne hn _ hS (Nat.ne_of_gt (Heap.lt_size hoi)) (Nat.ne_of_gt (Heap.lt_size hol)) fun h' tk acc' c' hk hS' hacc => ?_⟩
  exact ⟨rfl, hQ h' tk acc' c' (fun b o hb e => hk b o (Nat.ne_of_lt (Heap.lt_size e)) hb (Heap.get?_push_of_some _ e)) hS' hacc⟩
end
end RvL
namespace Z
open PySem PySem.Spec PyProof.Rows L2 ErrX RT RvL
theorem get_below {h : Heap} {b : Addr} {x o : Obj} (hb : b ≠ h.objs.size) (e : (h.push x).get? b = some o) : h.get? b = some o := by
  obtain ⟨e1, e2⟩ := Heap.get?_some_iff.mp e
  refine Heap.get?_some_iff.mpr ⟨?_, e2⟩
  cases h
  simpa [Heap.push, Array.getElem?_push, hb] using e1
/-- list(reversed(e)), e a list -/
def tLstRev (K : PySem.W.Frag) (te : TE) : TE := fun σ H Q => te σ H fun v H1 => ∃ (a : Addr) (xs : List V), v = .ref a ∧ SqL K H1 a xs ∧ ∀ q, H1 q = none → Q (.ref q) (upd H1 q (.lst xs.reverse))
theorem pe_lstRev {X : Cx} {e : Expr} {te : TE} {p p2 pos pos2 : Pos} (hc : X.calm = true) (hm : X.mg "list" = none) (hm2 : X.mg "reversed" = none) (he : PE X e te) (hg : Gl X "list" := by rfl) (hg2 : Gl X "reversed" := by rfl)
    (hs : starEach [e] X.env = (false, eval e X.env) :: starEach [] X.env := by rfl)
    (hs2 : starEach [.Call (.Name "reversed" p2) [e] [] pos2] X.env = (false, eval (.Call (.Name "reversed" p2) [e] [] pos2) X.env) :: starEach [] X.env := by rfl) :
    PE X (.Call (.Name "list" p) [.Call (.Name "reversed" p2) [e] [] pos2] [] pos) (tLstRev X.K te) := by
  refine ⟨fun pins s σ H Q I h => ?_⟩
  refine Call_ (ld_blt I hg hm boot_list (PyProof.Rows.callWith_type1 (args_cons (Call_ (ld_blt I hg2 hm2 PyProof.Rows.boot_reversed (PyProof.Rows.callWith_type1 (args_cons (thn (he.run pins s σ H _ I h) fun u s1 ⟨v, H1, I1, r1, q1⟩ => args_nil ?_) hs) hs rfl))) hs2) hs2 rfl))
  obtain ⟨a, xs, ev, hq, q⟩ := q1
  subst ev
  obtain rfl : u = Value.ref a := r1
  obtain ⟨its, rv, pl, hz⟩ := I1.list hq
  refine call_reversed_list pl.isList (args_nil ?_)
  have k0 : ∀ b o, s1.heap.get? b = some o → (s1.heap.push (revObj a ((its.toArray.size : Int) - 1))).get? b = some o := fun b o e => Heap.get?_push_of_some _ e
  have I2 : Inv X pins σ H1 { s1 with heap := s1.heap.push (revObj a ((its.toArray.size : Int) - 1)) } := I1.kept (t' := s1.toks) k0
  have hl := pl.isList
  obtain ⟨ol, hol, _⟩ := id hl
  have hne : a ≠ s1.heap.objs.size := Nat.ne_of_lt (Heap.lt_size hol)
  have hn : its.toArray.size ≤ sizeLine := by rw [List.size_toArray, ← rv.length]; exact hz
  generalize hs2' : ({ s1 with heap := s1.heap.push (revObj a ((its.toArray.size : Int) - 1)) } : Shared) = s2 at I2 ⊢
  have hh2 : s2.heap = s1.heap.push (revObj a ((its.toArray.size : Int) - 1)) := by rw [← hs2']
  have sz2 : s2.heap.objs.size = s1.heap.objs.size + 1 := by rw [hh2, Heap.size_push]
  refine call_listRv (s := s2) (it := s1.heap.objs.size) (I1.ok.hd hc) (by rw [hh2]; exact ⟨_, Heap.get?_push_size _ rfl, rfl, rfl⟩) (by rw [hh2]; exact hl.push _) hne hn fun h' tk acc c' hk hS' hi => ?_
  have hlen : acc.toList.length = xs.length := by rw [Array.length_toList, hi.1, List.size_toArray, rv.length]
  have hfree : H1 s2.heap.objs.size = none := I2.hok.fresh (Nat.le_refl _)
  have vals := vals_rev rv hi
  have nS : s1.heap.objs.size ≠ s2.heap.objs.size := by omega
  have I3 : Inv X pins σ (upd H1 s2.heap.objs.size (.lst xs.reverse)) { s2 with heap := s2.heap.push { cls := .type "list", data := .seq acc c' } } :=
    I2.laid (t' := s2.toks) (fun b o e => Heap.get?_push_of_some _ e) (Nat.le_refl _) ⟨by rw [List.length_reverse]; exact hz, acc.toList, c', vals, by rw [Heap.get?_push_size _ rfl, Array.toArray_toList]⟩
  obtain ⟨f0, f1, f2, f3, f4, f5⟩ := I1.fpOk (H' := upd H1 s2.heap.objs.size (.lst xs.reverse)) (b := s1.heap.objs.size) (Nat.le_refl _) (by rw [upd_ne nS]; exact I1.hok.fresh (Nat.le_refl _))
  refine ⟨.ref s2.heap.objs.size, upd H1 s2.heap.objs.size (.lst xs.reverse), I3.turned (t' := tk) (fun b o hb e => ?_) f0 f1 f3 f4 f5, rfl, q _ hfree⟩
  by_cases hb2 : b = s2.heap.objs.size
  · subst hb2
    have e' : (s2.heap.push { cls := .type "list", data := .seq acc c' }).get? s2.heap.objs.size = some o := e
    rw [Heap.get?_push_size _ rfl] at e'
    rw [← Option.some.inj e']
    exact hS'
  · refine hk b o hb ?_
    have e' : (s2.heap.push { cls := .type "list", data := .seq acc c' }).get? b = some o := e
    exact get_below hb2 e'
end Z
namespace Z
open PySem PySem.Spec PyProof.Rows L2 ErrX
/-- list(reversed(e)): a new list that stays -/
def zLRev : F1 := fun d μ q => match lstOf d μ with
  | some es => q (.lst es.reverse) μ
  | none => False
theorem zlrev {X : Cx} {W : WX} {k : Nat} {e : Expr} {te : TE} {ze : ZT} {p p2 pos pos2 : Pos} (cx : ZC X W k) (hm : X.mg "list" = none) (hm2 : X.mg "reversed" = none) (he : ZE X W e te ze) (hg : Gl X "list" := by rfl) (hg2 : Gl X "reversed" := by rfl)
    (hs : starEach [e] X.env = (false, eval e X.env) :: starEach [] X.env := by rfl)
    (hs2 : starEach [.Call (.Name "reversed" p2) [e] [] pos2] X.env = (false, eval (.Call (.Name "reversed" p2) [e] [] pos2) X.env) :: starEach [] X.env := by rfl) :
    ZE X W (.Call (.Name "list" p) [.Call (.Name "reversed" p2) [e] [] pos2] [] pos) (tLstRev X.K te) (zUn zLRev ze) :=
  ⟨pe_lstRev cx.calm hm hm2 he.p hg hg2 hs hs2, fun x σ H ρ μ q w Q I c h kk => by
    refine he.l x σ H ρ μ _ w _ I c h fun d v H1 μ1 g1 z1 r1 h1 => ?_
    unfold zLRev at h1
    split at h1
    · rename_i es e1
      obtain ⟨a, vs, rfl, q1, l⟩ := lst_of z1 r1 e1
      exact ⟨a, vs, rfl, q1, new_lst z1 l.reverse (fun d v H' μ' g => kk d v H' μ' (g1.trans g)) h1⟩
    · exact h1.elim⟩
/-! ### a dict's keys are walked -/
def keyD : Key → D
  | .inl i => .int i
  | .inr s => .str s
theorem rep_key {K : PySem.W.Frag} {H : Hp} {μ : Mu} {x : Ax} (k : Key) : Rep K H μ x (keyD k) (kV k) := by
  cases k <;> simp only [keyD, Rep] <;> rfl
/-- the dict that stays is locked from here on -/
def iKeysL (td : TE) : TI := fun σ H R => td σ H fun x H1 => ∃ d us, x = .ref d ∧ ((H1 d = some (.dK us) ∧ ∀ o, R (Itk d o us) (upd H1 d (.frz o (.dK us)))) ∨ ∃ o, H1 d = some (.frz o (.dK us)) ∧ R (Itk d o us) H1)
theorem pi_keysL {X : Cx} {tg e : Expr} {td : TE} (he : PE X e td) : PI X tg e (iKeysL td) := by
  refine ⟨fun pins s σ H R I h => ?_⟩
  refine thn (he.run pins s σ H _ I h) fun u s1 ⟨x, H1, I1, rx, d, us, ex, q⟩ => ?_
  subst ex
  have go : ∀ {H2 : Hp} {o : Obj}, Inv X pins σ H2 s1 → H2 d = some (.frz o (.dK us)) → R (Itk d o us) H2 → wpAny (model X.prog X.w) X.A (pyIter u) (PIE X pins σ tg R) X.xe s1 := fun {H2 o} I2 e2 r2 => by
    have P : PE ({ X with xe := X.xe } : Cx) e td := he
    have rx2 : u = Value.ref d := rx
    subst rx2
    obtain ⟨hs, hgd, hx, es, ep, vs, hdt, hsz, kv, hm⟩ := I2.frzK e2
    refine iter_keys hs hgd hx hdt (pi_one (tk := s1.toks) I2 _ (turn_keys _ hdt) ⟨_, Heap.get?_push_size _ rfl, rfl, ?_⟩ r2)
    rw [hsz] <;> rfl
  rcases q with ⟨e1, q⟩ | ⟨o, e1, q⟩
  · obtain ⟨o, I2⟩ := I1.lock e1 trivial
    exact go I2 upd_same (q o)
  · exact go I1 e1 q
section
variable {K : PySem.W.Frag} {H : Hp} {μ : Mu} {x : Ax} {a : Addr} {u : HO} {o : Obj}
theorem ZH.lock (z : ZH K H μ x) (e : H a = some u) (l : lockable u = true) (hμ : μ a = none) (hx : ¬ x a) (hf : isFrz u = false) : Grow H μ (upd H a (.frz o u)) μ x ∧ ZH K (upd H a (.frz o u)) μ x := by
  have f : Fm H μ x (upd H a (.frz o u)) μ x := fun b v hb => by
    by_cases hba : b = a
    · subst hba
      have ev : v = u := by
        rcases hb.1 with q | ⟨_, o', q⟩
        · rw [e] at q; cases q; rfl
        · rw [e] at q
          cases q
          cases hf
      subst ev
      exact ⟨.inr ⟨l, o, upd_same⟩, hb.2⟩
    · exact ⟨by rw [upd_ne hba]; exact hb.1, hb.2⟩
  refine ⟨⟨f, fun b hb => upd_ne fun q => hx (q ▸ hb)⟩, ⟨fun b c hb => ?_, fun b hb => ⟨(z.ax b hb).1, ?_⟩⟩⟩
  · have hba : b ≠ a := fun q => by rw [q, hμ] at hb; cases hb
    exact (z.own b c hb).mo f (upd_ne hba)
  · have hba : b ≠ a := fun q => hx (q ▸ hb)
    rw [upd_ne hba]
    exact (z.ax b hb).2
end
/-- the field f of every thing in a dict -/
def fldK (C : Addr) (f : Str) : List (Key × D) → Option (List (Key × D))
  | [] => some []
  | (k, .ins C' fs) :: r => if C' = C then (match lookF f fs, fldK C f r with
    | some y, some r' => some ((k, y) :: r')
    | _, _ => none) else none
  | _ => none
/-- {n: T[n].f for n in T} -/
def zDcA (C : Addr) (f : Str) (i j : Nat) : ZT := fun ρ μ q _ => i < ρ.length ∧ match sget ρ j with
  | some (.dct kvs) => (kvs.map (·.1)).Nodup ∧ kvs.length < sizeLine ∧ (match fldK C f kvs with
    | some kvs' => q (.dct kvs') μ
    | none => False)
  | _ => False
section
variable {K : PySem.W.Frag} {H : Hp} {μ : Mu} {x : Ax}
theorem fldK_rep {C : Addr} {f : Str} : ∀ {kvs kvs' : List (Key × D)} {us : List (Key × V)}, fldK C f kvs = some kvs' → RepK K H μ x kvs us → ∃ gs : List (Key × V), RepK K H μ x kvs' gs ∧ gs.length = us.length ∧ gs.map (·.1) = us.map (·.1) ∧
    ∀ (i : Nat) (k : Key) (v : V), us[i]? = some (k, v) → ∃ b dx fs u, v = .ref b ∧ H b = some (.ins C dx fs) ∧ fs.lookup f = some u ∧ gs[i]? = some (k, u)
  | [], kvs', us, h, r => by
    simp only [fldK, Option.some.injEq] at h
    subst h
    simp only [RepK] at r
    subst r
    exact ⟨[], by simp [RepK], rfl, rfl, fun i k v e => by simp at e⟩
  | (k, d) :: r0, kvs', us, h, r => by
    simp only [RepK] at r
    obtain ⟨v, rs, rfl, r1, r2⟩ := r
    cases d with
    | ins C' fs =>
      simp only [fldK] at h
      split at h
      · rename_i hC
        subst hC
        split at h
        · rename_i y r' e1 e2
          cases h
          obtain ⟨gs, g1, g2, g3, g4⟩ := fldK_rep e2 r2
          simp only [Rep] at r1
          obtain ⟨b, dx, gf, rfl, hb, rf⟩ := r1
          obtain ⟨u, hu, ru⟩ := rf.look e1
          refine ⟨(k, u) :: gs, by simp only [RepK]; exact ⟨u, gs, rfl, ru, g1⟩, by simp [g2], by simp [g3], fun i k2 v2 e => ?_⟩
          cases i with
          | zero =>
            simp only [List.getElem?_cons_zero, Option.some.injEq, Prod.mk.injEq] at e
            obtain ⟨rfl, rfl⟩ := e
            exact ⟨b, dx, gf, u, rfl, hb.hard rfl, hu, by simp⟩
          | succ i =>
            simp only [List.getElem?_cons_succ] at e
            obtain ⟨b2, dx2, fs2, u2, q1, q2, q3, q4⟩ := g4 i k2 v2 e
            exact ⟨b2, dx2, fs2, u2, q1, q2, q3, by simpa using q4⟩
        · cases h
      · cases h
    | _ => simp only [fldK] at h; cases h
theorem nodup_at {α : Type} {l : List α} (nd : l.Nodup) : ∀ {i j : Nat} {a : α}, l[i]? = some a → l[j]? = some a → i = j := by
  induction l with
  | nil => intro i j a h; simp at h
  | cons b r ih =>
    rw [List.nodup_cons] at nd
    intro i j a h1 h2
    cases i with
    | zero =>
      cases j with
      | zero => rfl
      | succ j =>
        simp only [List.getElem?_cons_zero, Option.some.injEq, List.getElem?_cons_succ] at h1 h2
        subst h1
        exact absurd (List.mem_of_getElem? h2) nd.1
    | succ i =>
      cases j with
      | zero =>
        simp only [List.getElem?_cons_zero, Option.some.injEq, List.getElem?_cons_succ] at h1 h2
        subst h2
        exact absurd (List.mem_of_getElem? h1) nd.1
      | succ j =>
        simp only [List.getElem?_cons_succ] at h1 h2
        rw [ih nd.2 h1 h2]
theorem valV_at {us : List (Key × V)} {i : Nat} {k : Key} {v : V} (nd : (us.map (·.1)).Nodup) (e : us[i]? = some (k, v)) : valV us k = some v := by
  induction us generalizing i with
  | nil => simp at e
  | cons p r ih =>
    obtain ⟨k0, v0⟩ := p
    rw [List.map_cons, List.nodup_cons] at nd
    cases i with
    | zero =>
      simp only [List.getElem?_cons_zero, Option.some.injEq, Prod.mk.injEq] at e
      obtain ⟨rfl, rfl⟩ := e
      simp [valV]
    | succ i =>
      simp only [List.getElem?_cons_succ] at e
      have hne : k0 ≠ k := fun q => nd.1 (List.mem_map.mpr ⟨(k, v), List.mem_of_getElem? e, q.symm⟩)
      unfold valV
      rw [List.find?_cons_of_neg (by simpa using hne)]
      exact ih nd.2 e
theorem putK_take {gs : List (Key × V)} {i : Nat} {k : Key} {u : V} (nd : (gs.map (·.1)).Nodup) (e : gs[i]? = some (k, u)) : putK (gs.take i) k u = gs.take (i + 1) := by
  have hno : ((gs.take i).any fun kv => decide (kv.1 = k)) = false := by
    rw [List.any_eq_false]
    intro p hp
    obtain ⟨j, hj, ej⟩ := List.mem_iff_getElem.mp hp
    have hji : j < i := by rw [List.length_take] at hj; omega
    have ej2 : gs[j]? = some p := by
      have := List.getElem?_eq_getElem hj
      rw [ej, List.getElem?_take] at this
      rw [if_pos hji] at this
      exact this
    simp only [decide_eq_true_eq]
    intro q
    have h1 : (gs.map (·.1))[j]? = some k := by rw [List.getElem?_map, ej2]; simp [q]
    have h2 : (gs.map (·.1))[i]? = some k := by rw [List.getElem?_map, e]; simp
    have := nodup_at nd h1 h2
    omega
  unfold putK
  rw [hno]
  simp only [Bool.false_eq_true, if_false]
  rw [List.take_succ, e]
  rfl
end
section
variable {X : Cx} {W : WX} {k : Nat} {C : Addr} {f : Str} {i j : Nat} {n T : Str} {scope : Scope} {p1 p2 p3 p4 p5 p6 p7 pos : Pos}
theorem le_dcA {K : PySem.W.Frag} (cl : Cls K C) (na : NoAttr K C f) (hij : i ≠ j) : LE K W (tDc (iKeysL (tVar j)) (gName i) tYes (tVar i) (tFld K (tOp (rIxAll K) (tVar j) (tVar i)) f) [i]) (zDcA C f i j) := fun x σ H ρ μ q w Q I c h kk => by
  obtain ⟨hi, h⟩ := h
  split at h
  · rename_i kvs ej
    obtain ⟨nd, hlen, h⟩ := h
    split at h
    · rename_i kvs' ek
      have ej' := sget_eq ρ j _ ej
      obtain ⟨v, sv, rv⟩ := I.sl j _ ej'
      simp only [Rep] at rv
      obtain ⟨a, us, rfl, fz, rk⟩ := rv
      have hi' : i < σ.length := by rw [← I.len]; exact hi
      have ndu : (us.map (·.1)).Nodup := by rw [rk.keys]; exact nd
      have lenu : us.length = kvs.length := by have := congrArg List.length rk.keys; simpa using this
      refine ⟨.ref a, sv, a, us, rfl, ?_⟩
      have body : ∀ (o : Obj) (H1 : Hp), H1 a = some (.frz o (.dK us)) → Grow H μ H1 μ x → ZH K H1 μ x → ∀ D, H1 D = none → ∃ Wv : Nat → Nat → Hp → Prop, (∃ m, Wv 0 m (upd H1 D (.dK []))) ∧ ∀ t m H, Wv t m H →
          ((Itk a o us).stop t H ∧ Q (.ref D) H) ∨ ((Itk a o us).go t H ∧ ∃ Nx : Hp → Prop, (∀ H', Nx H' → ∃ m', m' < m ∧ Wv (t + 1) m' H') ∧ ∀ y H', (Itk a o us).yld t H y H' → gName i y (L2.wipe σ [i]) H' fun σ2 H2 => L2.wipe σ2 [i] = L2.wipe σ [i] ∧ tYes σ2 H2 fun b H3 =>
            if b = true then tVar i σ2 H3 fun y H4 => tFld K (tOp (rIxAll K) (tVar j) (tVar i)) f σ2 H4 fun z H5 => ∃ kvs k, y = kV k ∧ H5 D = some (.dK kvs) ∧ kvs.length < sizeLine ∧ Nx (upd H5 D (.dK (putK kvs k z))) else Nx H3) := by
        intro o H1 e1 g1 z1 D hD
        obtain ⟨gs, r1, l1, m1, at1⟩ := fldK_rep ek (RepK.mono g1 _ _ rk)
        have ndg : (gs.map (·.1)).Nodup := by rw [m1]; exact ndu
        have haD : a ≠ D := fun e => by rw [e, hD] at e1; cases e1
        refine ⟨fun t m H' => m = us.length - t ∧ t ≤ us.length ∧ H' = upd H1 D (.dK (gs.take t)), ⟨us.length, by simp, Nat.zero_le _, by simp⟩, ?_⟩
        rintro t m H' ⟨rfl, ht, rfl⟩
        have eA : (upd H1 D (.dK (gs.take t))) a = some (.frz o (.dK us)) := by rw [upd_ne haD]; exact e1
        by_cases hlt : t < us.length
        · refine .inr ⟨⟨eA, hlt⟩, fun H' => H' = upd H1 D (.dK (gs.take (t + 1))), fun H' e => ⟨us.length - (t + 1), by omega, rfl, hlt, e⟩, fun y H' yl => ?_⟩
          obtain ⟨rfl, key, val, hat, rfl⟩ := yl
          obtain ⟨b, dx, fs, u, rfl, hb, hu, hg⟩ := at1 t key val hat
          have sI : ((L2.wipe σ [i]).set i (some (kV key)))[i]? = some (some (kV key)) := by
            rw [List.getElem?_set_self]
            rw [wipe_length]; exact hi'
          have sJ : ((L2.wipe σ [i]).set i (some (kV key)))[j]? = some (some (.ref a)) := by
            rw [List.getElem?_set_ne hij]
            simp only [L2.wipe]
            rw [List.getElem?_set_ne hij]
            exact sv
          have bD : b ≠ D := fun e => by rw [e, hD] at hb; cases hb
          refine ⟨?_, ?_⟩
          · simp only [L2.wipe, List.set_set]
          · unfold tYes
            refine Eq.mpr (if_pos rfl) ?_
            refine ⟨kV key, sI, .ref a, sJ, kV key, sI, .inl ⟨a, .ref b, rfl, .inl ⟨us, key, .inr ⟨o, eA⟩, rfl, (valV_at ndu hat).symm⟩, ?_⟩⟩
            refine ⟨b, C, dx, fs, u, rfl, by rw [upd_ne bD]; exact hb, cl, na, hu, gs.take t, key, rfl, upd_same, ?_, ?_⟩
            · rw [List.length_take]; omega
            · rw [upd_upd, putK_take ndg hg]
        · have et : t = us.length := by omega
          subst et
          refine .inl ⟨⟨eA, Nat.le_refl _⟩, ?_⟩
          rw [show gs.take us.length = gs by rw [← l1]; exact List.take_length]
          exact new_dct z1 r1 (fun d v H' μ' g => kk d v H' μ' (g1.trans g)) h D hD
      rcases fz.1 with e | ⟨_, o, e⟩
      · refine .inl ⟨e, fun o => ?_⟩
        obtain ⟨g, z⟩ := I.zh.lock (o := o) e rfl fz.2.2.1 fz.2.2.2 fz.2.1
        exact body o _ upd_same g z
      · exact .inr ⟨o, e, body o H e Grow.refl I.zh⟩
    · exact h.elim
  · exact h.elim
theorem zdcA (cx : ZC X W k) (cl : Cls X.K C) (na : NoAttr X.K C f) (hij : i ≠ j) (hT : ZE X W (.Name T p7) (tVar j) (zVar j)) (ok : BlkOk X.N X.env.scope scope [(n, i)])
    (hg : ∀ (s : Shared) (H : Hp) (C : Addr) (cl : List (Str × Addr)) (fp : List Addr), ZPg (X.blk s H scope (compEnvC scope cl C X.env) fp) (.Name n p6) (gName i) (zgName i))
    (hk : ∀ (s : Shared) (H : Hp) (C : Addr) (cl : List (Str × Addr)) (fp : List Addr), ZE (X.blk s H scope (compEnvC scope cl C X.env) fp) W0 (.Name n p1) (tVar i) (zVar i))
    (hv : ∀ (s : Shared) (H : Hp) (C' : Addr) (cl : List (Str × Addr)) (fp : List Addr) (c : ZC (X.blk s H scope (compEnvC scope cl C' X.env) fp) W0 k), ZE (X.blk s H scope (compEnvC scope cl C' X.env) fp) W0 (.Attribute (.Subscript (.Name T p2) (.Name n p3) p4) f p5) (tFld X.K (tOp (rIxAll X.K) (tVar j) (tVar i)) f) (zUn (zFld C f) (zOp zIx (zVar j) (zVar i)))) (hs : ∀ x, foldedSetIterable (.Name T p7) X.env x = pure x := by intro _; rfl) :
    ZE X W (.DictComp (.Name n p1) (.Attribute (.Subscript (.Name T p2) (.Name n p3) p4) f p5) [⟨.Name n p6, .Name T p7, [], 0⟩] scope pos) (tDc (iKeysL (tVar j)) (gName i) tYes (tVar i) (tFld X.K (tOp (rIxAll X.K) (tVar j) (tVar i)) f) [i]) (zDcA C f i j) :=
  ⟨pe_dc (own := [(n, i)]) cx.calm cx.nd (pi_keysL hT.p) ok (fun s H C cl fp => (hg s H C cl fp).p) (fun _ _ _ _ _ => pts_nil) (fun s H C cl fp => (hk s H C cl fp).p) (fun s H C cl fp => (hv s H C cl fp (cx.blk _ _ _ _ _)).p) hs, le_dcA cl na hij⟩
end
/-! ### sorted(a dict whose keys are texts) -/
def strKeys : List (Key × D) → Option (List Str)
  | [] => some []
  | (.inr s, _) :: r => (strKeys r).map (s :: ·)
  | _ => none
def zSortD : FL := fun ds μ q => match ds with
  | [d] => match dctOf d μ with
    | some kvs => match strKeys kvs with
      | some ks => ks.length < 64 ∧ ∀ ys, ys.Perm ks → sortedS ys = true → q (.lst (ys.map .str)) μ
      | none => False
    | none => False
  | _ => False
def rSortD : List V → Hp → VK → Prop := fun xs H Q => ∃ (a : Addr) (kvs : List (Key × V)) (ks : List Str), xs = [.ref a] ∧ Rd H a (.dK kvs) ∧ kvs.map (·.1) = ks.map Sum.inr ∧ ks.length < 64 ∧
    ∀ ys p, ys.Perm ks → sortedS ys = true → H p = none → Q (.ref p) (upd H p (.lst (ys.map V.str)))
theorem strKeys_map : ∀ {kvs : List (Key × D)} {ks : List Str}, strKeys kvs = some ks → kvs.map (·.1) = ks.map Sum.inr
  | [], ks, h => by
    simp only [strKeys, Option.some.injEq] at h
    subst h
    rfl
  | (.inr s, d) :: r, ks, h => by
    simp only [strKeys] at h
    cases e : strKeys r with
    | none => rw [e] at h; cases h
    | some r' =>
      rw [e] at h
      cases h
      simp [strKeys_map e]
  | (.inl _, d) :: r, ks, h => by simp only [strKeys] at h; cases h
theorem rep_strs {K : PySem.W.Frag} {H : Hp} {μ : Mu} {x : Ax} : ∀ ys : List Str, RepL K H μ x (ys.map D.str) (ys.map V.str)
  | [] => by simp [RepL]
  | s :: r => by simp only [List.map_cons, RepL]; exact ⟨_, _, rfl, rep_str, rep_strs r⟩
theorem lf_sortD {K : PySem.W.Frag} : LfL K rSortD zSortD := fun x H μ ds vs q Q z l h p => by
  unfold zSortD at h
  split at h
  · rename_i d
    split at h
    · rename_i kvs e
      split at h
      · rename_i ks ek
        obtain ⟨h64, h⟩ := h
        obtain ⟨v, rfl, r⟩ := repl1 l
        obtain ⟨a, us, rfl, q1, l2⟩ := dct_of z r e
        refine ⟨a, us, ks, rfl, q1, by rw [l2.keys, strKeys_map ek], h64, fun ys pp hp hs => ?_⟩
        exact new_lst z (rep_strs ys) p (h ys hp hs) pp
      · exact h.elim
    · exact h.elim
  · exact h.elim
end Z
namespace Z
open PySem PySem.Spec PyProof.Rows L2 ErrX
section
variable {X : Cx} {W : WX} {k : Nat} {elt tg iter : Expr} {ifs : List Expr} {scope : Scope} {own : List (Str × Nat)} {pos : Pos} {wi : TI} {zi : ZI} {zg : ZG} {zt : ZB} {ze : ZT} {g : Bk TG} {tt : ∀ (s : Shared) (H : Hp) (C : Addr) (cl : List (Str × Addr)) (fp : List Addr), ZC (X.blk s H scope (compEnvC scope cl C X.env) fp) W0 k → TT} {te : ∀ (s : Shared) (H : Hp) (C : Addr) (cl : List (Str × Addr)) (fp : List Addr), ZC (X.blk s H scope (compEnvC scope cl C X.env) fp) W0 k → TE}
theorem zsetLcO (i : Nat) {y : Str} {py spos : Pos} (cx : ZC X W k) (hi : ZPi X W tg iter wi zi) (ok : BlkOk X.N X.env.scope scope own)
    (hg : ∀ (s : Shared) (H : Hp) (C : Addr) (cl : List (Str × Addr)) (fp : List Addr), ZPg (X.blk s H scope (compEnvC scope cl C X.env) fp) tg (g s H C cl fp) zg) (ho : ∀ (s : Shared) (H : Hp) (C : Addr) (cl : List (Str × Addr)) (fp : List Addr), GOwn (g s H C cl fp) (own.map (·.2)))
    (ht : ∀ (s : Shared) (H : Hp) (C : Addr) (cl : List (Str × Addr)) (fp : List Addr) (c : ZC (X.blk s H scope (compEnvC scope cl C X.env) fp) W0 k), ZPts (X.blk s H scope (compEnvC scope cl C X.env) fp) W0 ifs (tt s H C cl fp c) zt)
    (he : ∀ (s : Shared) (H : Hp) (C : Addr) (cl : List (Str × Addr)) (fp : List Addr) (c : ZC (X.blk s H scope (compEnvC scope cl C X.env) fp) W0 k), ZE (X.blk s H scope (compEnvC scope cl C X.env) fp) W0 elt (te s H C cl fp c) ze)
    (hsw : swapsWith (.ListComp elt [⟨tg, iter, ifs, 0⟩] scope pos) (some (.Name y py)) spos.line X.env = pure true) (hy : X.N[i]? = some y := by rfl) (hyl : X.env.scope.names.lookup y = some .local := by rfl) (hs : ∀ x, foldedSetIterable iter X.env x = pure x := by intro _; rfl) :
    ZSt X W (.Assign [.Name y py] (.ListComp elt [⟨tg, iter, ifs, 0⟩] scope pos) spos) (tAsg (tLc wi (bkG g) (bkT X k scope tt) (bkE X k scope te) (own.map (·.2))) (gName i)) (zAsg (zLcO zi zg zt ze (own.map (·.2))) (zgName i)) :=
  ⟨ps_setLc cx.calm cx.nd hy hyl hsw hi.p ok (bk_pg hg) (bk_pt cx ht) (bk_pe cx he) hs,
    ls_asg (le_lcO hi.l (bk_lg hg) (bk_own ho) (bk_lt ht) (bk_le he)) lg_name⟩
end
end Z

set_option maxRecDepth 100000
set_option maxHeartbeats 4000000
namespace Z
open PySem PySem.Spec PyProof.Rows L2
open PySem.Sem (wp)
/-! ### a comprehension that an exception may leave -/
/-- an exception has left the block of cenv -/
def leftE (M : Model) (A : Around) (E : Value → Shared → Prop) (cenv : Env) (x : Value) (s' : Shared) : Prop :=
  ∃ m, s'.heap.Ns cenv.locals m ∧ ∀ h', Heap.SameBut cenv.locals s'.heap h' → wpAny M A (passOn "comprehension.variables-let-go" x cenv : Sem Value) (fun _ _ => False) E { s' with heap := h' }
def postE (M : Model) (A : Around) (E : Value → Shared → Prop) (use : Option (Value → Sem Unit)) (Q : Value → Shared → Prop) (acc : Value) (cenv : Env) (r : Result) (s' : Shared) : Prop :=
  match r, use with
  | .ok _, none => ∃ m, s'.heap.Ns cenv.locals m ∧ ∀ h', Heap.SameBut cenv.locals s'.heap h' → Q acc { s' with heap := h' }
  | .ok _, some u => wpAny M A (u acc) (fun _ s'' => ∃ m, s''.heap.Ns cenv.locals m ∧ ∀ h', Heap.SameBut cenv.locals s''.heap h' → Q .none { s'' with heap := h' }) E s'
  | .error x, _ => leftE M A E cenv x s'
section
variable {M : Model} {A : Around} {E : Value → Shared → Prop} {s : Shared} {env : Env}
theorem comp_freeE {e : Expr} {scope : Scope} {pos : Pos} {newAcc first : Sem Value} {g : Comprehension} {gs : List Comprehension} {cl : List (PySem.Str × Addr)} {use : Option (Value → Sem Unit)}
    {Q : Value → Shared → Prop}
    (hcl : clausesOf e = g :: gs) (hs : ∀ x, foldedSetIterable g.iter env x = pure x) (hclos : closureFor scope env = pure cl)
    (hkind : scope.kind = .function) (hnames : ∀ x ∈ scope.names, x.2 = .local → scope.names.lookup x.1 = some .local)
    (h : wpAny M A first (fun x s₁ => wpAny M A (pyIter x) (fun it s₂ => wpAny M A newAcc (fun acc s₃ =>
      wpAny M A (newFunctionEnv scope env.globals cl [] env.qual none .none (some env)) (fun cenv s₄ =>
        codeAny M A (.compStart e 0 it acc { cenv with scope := relabel scope env }) (postE M A E use Q acc { cenv with scope := relabel scope env }) s₄) E s₃) E s₂) E s₁) E s) :
    wpAny M A (comprehension e scope env pos newAcc false first use) Q E s := by
  unfold comprehension
  rw [hclos, hcl]
  refine wpAny_bind (wpAny_mono h (fun x s₁ h₁ => wpAny_bind (wpAny_standAt (wpAny_bind (wpAny_of_eq (hs x) (wpAny_bind (wpAny_holding (wpAny_mono h₁ (fun it s₂ h₂ =>
    wpAny_standIf (wpAny_bind (wpAny_mono h₂ (fun acc s₃ h₃ => wpAny_bind (wpAny_pure (wpAny_bind (wpAny_mono h₃ (fun cenv s₄ h₄ => ?_) fun _ _ h' => h')))) fun _ _ h' => h')))
      fun _ _ h' => h'))))))) fun _ _ h' => h')
  dsimp only
  have hv : ∀ x ∈ (scope.names.filter fun x => (x.2 == .local || x.2 == .cell) && x.1 != (".0" : PySem.Str)).reverse, x.2 = .local →
      Env.kindOf { cenv with scope := relabel scope env } x.1 = some .local := fun x hx hl => lookup_relabel_local (hnames x (List.mem_filter.mp (List.mem_reverse.mp hx)).1 hl)
  have hv' : ∀ x ∈ (scope.names.filter fun x => (x.2 == .local || x.2 == .cell) && x.1 != (".0" : PySem.Str)).reverse.drop 1 ++ (scope.names.filter fun x => (x.2 == .local || x.2 == .cell) && x.1 != (".0" : PySem.Str)).reverse.take 1,
      x.2 = .local → Env.kindOf { cenv with scope := relabel scope env } x.1 = some .local := fun x hx hl => by
    rcases List.mem_append.mp hx with h1 | h1
    · exact hv x (List.mem_of_mem_drop h1) hl
    · exact hv x (List.mem_of_mem_take h1) hl
  refine wpAny_holding (wpAny_bind (wpAny_attempt (wpAny_holding (wpAny_run (codeAny_mono h₄ fun r s' hr => ?_)))))
  cases r with
  | ok f =>
    cases use with
    | none =>
      obtain ⟨m, hn, hr⟩ := hr
      exact wpAny_bind (wpAny_holding (wpAny_comp_letGo (cenv := { cenv with scope := relabel scope env }) hkind _ s' m hv hn fun h' m' _ hs' => wpAny_pure (hr h' hs')))
    | some u =>
      refine wpAny_bind (wpAny_rule (wpAny_bind (wpAny_holding (wpAny_mono hr (fun _ s'' hr' => ?_) fun _ _ h' => h'))))
      obtain ⟨m, hn, hr'⟩ := hr'
      exact wpAny_bind (wpAny_comp_letGo (cenv := { cenv with scope := relabel scope env }) hkind _ s'' m hv' hn fun h' m' _ hs' => wpAny_pure (hr' h' hs'))
  | error x =>
    have hr' : leftE M A E { cenv with scope := relabel scope env } x s' := by cases use <;> exact hr
    obtain ⟨m, hn, hr⟩ := hr'
    exact wpAny_bind (wpAny_holding (wpAny_comp_letGo (cenv := { cenv with scope := relabel scope env }) hkind _ s' m hv hn fun h' m' _ hs' => wpAny_mono (hr h' hs') (fun _ _ f => f.elim) fun _ _ y => y))
end
section
variable {X : Cx} {pins : List (Addr × Obj)} {σ : L2.St} {H : Hp} {s : Shared} {W V : WX}
abbrev blkE (X : Cx) (s : Shared) (H : Hp) (scope : Scope) (cenv : Env) (fp : List Addr) : Cx := (X.blk s H scope cenv fp).wish (notedBy (model X.prog X.w) X.A cenv (leftE (model X.prog X.w) X.A X.xe cenv))
/-- noted by a frame: whatever the flight was, but not this frame's own -/
theorem note_other {M : Model} {A : Around} {E₁ : Value → Shared → Prop} {Zp : Obj → Prop} {B : Heap} {env : Env} {outer : List Env} {L e : Addr} {fl : Value} {Q : Unit → Shared → Prop} (hZ : PXN.Steady1 Zp) (hfr : A.frames = some (env :: outer)) (hf : env.frame = some L)
    (kb : B.StaysIn s.heap) (ne : B.get? e = none) (ff : s.heap.FunFrames B (env :: outer)) (tr : HandSPX.TracedZ s.heap B e Zp fl) (hfl : (fl == rawInt L) = false)
    (hQ : ∀ h', HandSPX.HeldZ B (env :: outer) e Zp L h' → s.heap.UpToSlots h' → Q () { s with heap := h' }) : wpAny M A (noteFrame (.ref e) env) Q E₁ s := by
  obtain ⟨oe, vs, T, oT, ts, he, hz, hd, h1, hnT, hTe, hT, hdT, h3⟩ := tr
  unfold noteFrame
  simp only [hf]
  refine wpAny_bind (wpAny_field he hd h1 ?_)
  rw [if_pos (show (Value.ref T != Value.none) = true from by simp)]
  refine wpAny_bind (wpAny_field hT hdT h3 ?_)
  rw [if_neg (by rw [hfl]; simp)]
  refine wpAny_bind (wpAny_setField hT hdT (Array.getElem?_eq_some_iff.mp h3).1 ?_)
  have oth : ∀ b, b ≠ T → (s.heap.update T (Obj.mapFields (·.setIfInBounds 3 Value.none))).get? b = s.heap.get? b := fun b hb => Heap.get?_update_other _ _ (Ne.symm hb)
  have nrec : ∀ b o, s.heap.get? b = some o → (∀ vs, o.data ≠ .fields vs) → b ≠ T := fun b o hb hnf q => by
    rw [q, hT] at hb; injection hb with hb; subst hb; exact hnf ts hdT
  refine PXN.wpAny_entryZ hZ hfr (ff.of_keeps fun b o hb hnf => ⟨o, (oth b (nrec b o hb hnf)).trans hb, rfl⟩) hf ((oth e (Ne.symm hTe)).trans he)
    (fun b o hbo => (oth b fun q => by rw [q, hnT] at hbo; cases hbo).trans (kb b o hbo)) ne hd (Array.getElem?_eq_some_iff.mp h1).1 hz fun h' hN => ?_
  obtain ⟨x1, x2, x3, x4⟩ := hN
  exact hQ h' ⟨x1, ne, x2, x3⟩ fun b o hb hnf => x4 b o ((oth b (nrec b o hb hnf)).trans hb) hnf
theorem ff_cong {base B h h' : Heap} : ∀ {l : List Env}, h.FunFrames base l → (∀ L ∈ frs l, h'.get? L = h.get? L ∧ B.get? L = none) → h'.FunFrames B l
  | [], _, _ => trivial
  | env :: l, h, hn => by
    obtain ⟨hk, ⟨L, o, hf, _, ho, hd⟩, hr⟩ := h
    have q := hn L (List.mem_filterMap.mpr ⟨env, List.mem_cons_self, hf⟩)
    exact ⟨hk, ⟨L, o, hf, q.2, q.1.trans ho, hd⟩, ff_cong hr fun b hb => by
      obtain ⟨e, he, q⟩ := List.mem_filterMap.mp hb
      exact hn b (List.mem_filterMap.mpr ⟨e, List.mem_cons_of_mem _ he, q⟩)⟩
/-- what left a block, at the frame's own hand -/
theorem comp_raise {s3 : Shared} {H3 : Hp} {scope : Scope} {ce : Env} {fp : List Addr} {u : Value} {s' : Shared} (hs : X.stack = X.env :: X.outer) (hf : X.env.frame = some X.env.locals) (tk : L2N.Takes X W)
    (hV : ∀ cls d σ' H', V cls d σ' H' → W cls d σ H') (I3 : Inv X pins σ H3 s3) (f3 : ∀ b ∈ fp, FpOk X pins H3 b) (hce : ce.frame = X.env.frame) (cL : ce.locals = s3.heap.objs.size)
    (xe : L2N.XE (X.blk s3 H3 scope ce fp) V u s') : notedBy (model X.prog X.w) X.A ce (leftE (model X.prog X.w) X.A X.xe ce) u s' := by
  obtain ⟨a, B, sI, pn', σ1, H1, cls, d, rfl, J, nb, up, sky, na, os, ag, w⟩ := xe
  have nb : ∀ b o, sI.heap.get? b = some o → b ∉ frs X.stack → B.get? b = some o := nb
  have hfr : X.A.frames = some (X.env :: X.outer) := by rw [I3.ok.frames, hs]
  have hL : s3.heap.objs.size ≠ X.env.locals := Nat.ne_of_gt I3.lt
  have hCfr : s3.heap.objs.size ∉ frs X.stack := fun hm => by
    rcases List.mem_cons.mp (I3.stkSub _ hm) with z | z
    · exact hL z
    · exact I3.nofs (Nat.le_refl _) z
  have nC : H1 s3.heap.objs.size = none := by
    have z : H1 ce.locals = none := J.free
    rwa [cL] at z
  have FC : FpOk X pins H1 s3.heap.objs.size := I3.fpOk (Nat.le_refl _) nC
  have J1 : Inv X pins σ H1 sI := I3.call' (ch := fp) J.os J.base J.hok J.bare fun b hb => ⟨(f3 b hb).2.2.2.1, (f3 b hb).2.1, (f3 b hb).2.2.2.2.1, (f3 b hb).2.2.2.2.2⟩
  have sky' : Sky B (X.env :: X.outer) a (L2N.Zn cls d) ce.locals s'.heap := by rw [← hs]; exact sky
  -- noted
  show wpAny (model X.prog X.w) X.A (noteFrame (.ref a) ce) _ _ s'
  have en : noteFrame (.ref a) ce = noteFrame (.ref a) X.env := by
    unfold noteFrame PySem.frameOf
    rw [hce]
  rw [en]
  have fin : ∀ h1, HandSPX.HeldZ B (X.env :: X.outer) a (L2N.Zn cls d) X.env.locals h1 → s'.heap.UpToSlots h1 → leftE (model X.prog X.w) X.A X.xe ce (.ref a) { s' with heap := h1 } := by
    intro h1 hh up1
    obtain ⟨kb, ne, ff, tr⟩ := hh
    have J2 : Inv (X.blk s3 H3 scope ce fp) pn' σ1 H1 { s' with heap := h1 } := J.landed (s' := { s' with heap := h1 }) nb kb (up.trans up1) os ag
    obtain ⟨m, hn, _⟩ := J2.loc
    have hn : h1.Ns ce.locals m := hn
    refine ⟨m, hn, fun h2 sb => ?_⟩
    have hBC : ∃ o, B.get? s3.heap.objs.size = some o := by
      obtain ⟨m0, hn0, _⟩ := J.loc
      have hn0 : sI.heap.Ns ce.locals m0 := hn0
      rw [cL] at hn0
      obtain ⟨o, _, _, e, _⟩ := hn0
      exact ⟨o, nb _ o e hCfr⟩
    obtain ⟨oC, hBC⟩ := hBC
    have sb : Heap.SameBut s3.heap.objs.size h1 h2 := by rw [← cL]; exact sb
    have b1 : ∀ {h : Heap} {b o}, (PySem.W.hideAll h [s3.heap.objs.size]).get? b = some o → h.get? b = some o ∧ b ≠ s3.heap.objs.size := fun {h b o} e => by
      refine ⟨PySem.W.of_hideAll _ e, fun z => ?_⟩
      rw [z, PySem.W.hideAll_none _ (List.mem_singleton.mpr rfl)] at e
      cases e
    have b2 : ∀ {h : Heap} {b}, h.get? b = none → (PySem.W.hideAll h [s3.heap.objs.size]).get? b = none := fun {h b} e => by
      cases q : (PySem.W.hideAll h [s3.heap.objs.size]).get? b with
      | none => rfl
      | some o => rw [(b1 q).1] at e; cases e
    have hh2 : HandSPX.HeldZ (PySem.W.hideAll B [s3.heap.objs.size]) (X.env :: X.outer) a (L2N.Zn cls d) X.env.locals h2 := by
      refine ⟨fun b o e => ?_, b2 ne, ff_cong ff fun L hLm => ⟨sb.2 L fun z => ?_, b2 ?_⟩, ?_⟩
      · exact (sb.2 b (b1 e).2).trans (kb b o (b1 e).1)
      · rw [hs, ← z] at hCfr
        exact hCfr hLm
      · exact (ff.mem hLm).1
      · obtain ⟨oe, vs, T, oT, ts, he, hz, hd, h1', hnT, hTe, hT, hdT, h3⟩ := tr
        refine ⟨oe, vs, T, oT, ts, (sb.2 a fun z => ?_).trans he, hz, hd, h1', b2 hnT, hTe, (sb.2 T fun z => ?_).trans hT, hdT, h3⟩
        · rw [z, hBC] at ne; cases ne
        · rw [z, hBC] at hnT; cases hnT
    obtain ⟨k1, k2, k3, oe, vs, T, oT, ts', he, hz, hd, h1', hr⟩ := id hh2
    unfold PySem.passOn
    refine wpAny_bind (wpAny_field he hd h1' ?_)
    rw [if_neg (show ¬ ((Value.ref T == Value.none) = true) from by simp)]
    have fin : wpAny (model X.prog X.w) X.A (setFlight (.ref a) ce.frame) (fun _ s4 => wpAny (model X.prog X.w) X.A (throw (.ref a) : Sem Value) (fun _ _ => False) X.xe s4) X.xe { s' with heap := h2 } := by
      rw [hce, hf]
      refine HandSPX.setFlight_onZ hh2 fun h4 hh4 up4 => wpAny_throw (tk _ _ ?_)
      obtain ⟨q0, q1, q2, q3, q4, q5⟩ := FC
      refine ⟨a, PySem.W.hideAll B [s3.heap.objs.size], { sI with heap := PySem.W.hideAll sI.heap [s3.heap.objs.size] }, pins, σ, H1, cls, d, rfl, J1.turned (t' := sI.toks) (fun b o hb e => PySem.W.hideAll_get _ e (fun hm => hb (List.mem_singleton.mp hm))) q0 q1 q3 q4 q5,
        fun b o e hb => PySem.W.hideAll_get _ (nb b o (b1 e).1 hb) (fun hm => (b1 e).2 (List.mem_singleton.mp hm)), fun b o e hd' => ?_, .inr (.inr (by rw [hs]; exact hh4)), na, os, ag, hV _ _ _ _ w⟩
      obtain ⟨sl1, e1⟩ := up b o (b1 e).1 hd'
      obtain ⟨sl2, e2⟩ := up1 b _ e1 hd'
      obtain ⟨sl3, e3⟩ := up4 b _ ((sb.2 b (b1 e).2).trans e2) hd'
      exact ⟨sl3, e3⟩
    first
      | exact wpAny_bind (wpAny_pure (wpAny_bind fin))
      | exact wpAny_bind fin
  rcases sky' with ⟨hB, hn, hl, oe, vs, he, hz, hd, h1⟩ | fl | hh
  · exact PXN.look_newZ L2N.Zn.steady hfr hl hf he hB hn hd h1 hz fin
  · exact PXN.looks_onZ L2N.Zn.steady hfr hf fl fin
  · obtain ⟨kb, ne, ff, tr⟩ := hh
    refine note_other L2N.Zn.steady hfr hf kb ne ff tr ?_ fin
    rw [cL]
    have ne : rawInt (s3.heap.objs.size : Int) ≠ rawInt (X.env.locals : Int) := fun e => by
      unfold rawInt at e
      injection e with e
      exact hL (by omega)
    simpa using ne
end
/-! ### [elt for target in iter if ..], with wishes for exceptions -/
section
variable {X : Cx}
def tLcE (W : WX) (wi : TI) (g : TG) (tt : WX → TT) (te : WX → TE) (vs : List Nat) : TE := fun σ H Q => wi σ H fun J H1 => ∀ D, H1 D = none → ∃ V : WX, (∀ cls d σ' H', V cls d σ' H' → W cls d σ H') ∧ ∃ Wm : Nat → Nat → Hp → Prop, (∃ m, Wm 0 m (upd H1 D (.lst []))) ∧ ∀ i m H, Wm i m H →
  (J.stop i H ∧ Q (.ref D) H) ∨ (J.go i H ∧ ∃ Nx : Hp → Prop, (∀ H', Nx H' → ∃ m', m' < m ∧ Wm (i + 1) m' H') ∧ ∀ x H', J.yld i H x H' → g x (wipe σ vs) H' fun σ2 H2 => wipe σ2 vs = wipe σ vs ∧ tt V σ2 H2 fun b H3 =>
    if b = true then te V σ2 H3 fun y H4 => ∃ acc, H4 D = some (.lst acc) ∧ acc.length < sizeLine ∧ Nx (upd H4 D (.lst (acc ++ [y]))) else Nx H3)
theorem lc_coreE {pins : List (Addr × Obj)} {s : Shared} {σ : L2.St} {H : Hp} {Q : VK} {W : WX} {elt tg iter : Expr} {ifs : List Expr} {scope : Scope} {own : List (PySem.Str × Nat)} {pos pos' : Pos} {wi : TI} {g : TG} {tt : WX → TT} {te : WX → TE} {use : Option (Value → Sem Unit)} {Qf : Value → Shared → Prop}
    (hst : X.stack = X.env :: X.outer) (hf : X.env.frame = some X.env.locals) (tk : L2N.Takes X W)
    (hc : X.calm = true) (hN : X.N.Nodup) (I : Inv X pins σ H s) (hi : PI X tg iter wi) (ok : BlkOk X.N X.env.scope scope own)
    (hg : ∀ (s : Shared) (H : Hp) (C : Addr) (cl : List (PySem.Str × Addr)) (fp : List Addr), PG (blkE X s H scope (compEnvC scope cl C X.env) fp) tg g)
    (ht : ∀ (V : WX) (s : Shared) (H : Hp) (C : Addr) (cl : List (PySem.Str × Addr)) (fp : List Addr), L2N.Takes (blkE X s H scope (compEnvC scope cl C X.env) fp) V → PTs (blkE X s H scope (compEnvC scope cl C X.env) fp) ifs (tt V))
    (he : ∀ (V : WX) (s : Shared) (H : Hp) (C : Addr) (cl : List (PySem.Str × Addr)) (fp : List Addr), L2N.Takes (blkE X s H scope (compEnvC scope cl C X.env) fp) V → PE (blkE X s H scope (compEnvC scope cl C X.env) fp) elt (te V)) (hs : ∀ x, foldedSetIterable iter X.env x = pure x)
    (h : tLcE W wi g tt te (own.map (·.2)) σ H Q)
    (hRR : ∀ D cenv s' m H', Inv X pins σ H' s' → Q (.ref D) H' → s'.heap.Ns cenv.locals m → FpOk X pins H' cenv.locals → postE (model X.prog X.w) X.A X.xe use Qf (.ref D) cenv (.ok .next) s') :
    wpAny (model X.prog X.w) X.A (comprehension (.ListComp elt [⟨tg, iter, ifs, 0⟩] scope pos) scope X.env pos' (newList []) false (eval iter X.env) use) Qf X.xe s := by
  have hfree : ∀ y ∈ scope.names, y.2 = .free → ∃ c, X.env.cells.lookup y.1 = some c := fun y hy e => by
    rcases ok.free y hy e with k | k
    · exact I.ok.has _ (.inl k)
    · exact I.ok.has _ (.inr k)
  refine comp_freeE (use := use) rfl hs (closure_ok hfree) ok.kind (fun y hy e => by rw [ok.uniq y hy, e])
    (thn (hi.run pins s σ H _ I h) fun xv s1 hx => thn hx fun itv s2 h2 => ?_)
  obtain ⟨it, fp, tn, J, H2, e, I2, T, st2, f2, q⟩ := h2
  subst e
  refine wpAny_newObj_type (newEnv_comp ?_) (by show 0 ≤ sizeLine; decide)
  generalize hD : s2.heap.objs.size = D
  have hDn : H2 D = none := I2.hok.fresh (Nat.le_of_eq hD)
  obtain ⟨V, hV, Wm, ⟨m0, w0⟩, turn⟩ := q D hDn
  -- the new list
  generalize hs3 : ({ s2 with heap := s2.heap.push { cls := .type "list", data := .seq ([] : List Value).toArray } } : Shared) = s3
  have I3 : Inv X pins σ (upd H2 D (.lst [])) s3 := by
    rw [← hs3]
    refine I2.laid (t' := s2.toks) (fun b o e => Heap.get?_push_of_some _ e) (Nat.le_of_eq hD) ⟨Nat.zero_le _, [], 0, .nil, ?_⟩
    rw [← hD]
    exact Heap.get?_push_size _ rfl
  have h3 : s3.heap = s2.heap.push { cls := .type "list", data := .seq ([] : List Value).toArray } := by rw [← hs3]
  have sz : ∀ b ∈ fp, b < s2.heap.objs.size := fun b hb => by
    obtain ⟨o, e, _⟩ := T.obj _ _ st2 b hb
    exact Heap.lt_size e
  have f3 : ∀ b ∈ fp, FpOk X pins (upd H2 D (.lst [])) b ∧ b < s3.heap.objs.size := fun b hb => by
    have hlt := sz b hb
    refine ⟨⟨?_, (f2 b hb).2⟩, by rw [h3, Heap.size_push]; exact Nat.lt_succ_of_lt hlt⟩
    rw [upd_ne (by rw [← hD]; exact Nat.ne_of_lt hlt)]
    exact (f2 b hb).1
  have st3 : tn 0 s3.heap := T.keep _ _ _ st2 fun b _ o e => by rw [h3]; exact Heap.get?_push_of_some _ e
  have I4 := block_start I3 ok hN f3
  have tkb := fun (u : Value) (s' : Shared) (xe : L2N.XE (X.blk s3 (upd H2 D (.lst [])) scope (compEnvC scope (cellsFrom (s3.heap.objs.size + 1) scope.names (cloFrom X.env.cells scope.names [])) s3.heap.objs.size X.env) fp) V u s') =>
    comp_raise hst hf tk hV I3 (fun b hb => (f3 b hb).1) (by rfl) (by rfl) xe
  have tkv : L2N.Takes (blkE X s3 (upd H2 D (.lst [])) scope (compEnvC scope (cellsFrom (s3.heap.objs.size + 1) scope.names (cloFrom X.env.cells scope.names [])) s3.heap.objs.size X.env) fp) V := fun u s' xe => by
    obtain ⟨a, B, sI, pn', σ1, H1, cls, d, e, J, r⟩ := xe
    exact tkb u s' ⟨a, B, sI, pn', σ1, H1, cls, d, e, J.unwish, r⟩
  have pg := hg s3 (upd H2 D (.lst [])) s3.heap.objs.size (cellsFrom (s3.heap.objs.size + 1) scope.names (cloFrom X.env.cells scope.names [])) fp
  have pt := ht V s3 (upd H2 D (.lst [])) s3.heap.objs.size (cellsFrom (s3.heap.objs.size + 1) scope.names (cloFrom X.env.cells scope.names [])) fp tkv
  have pe := he V s3 (upd H2 D (.lst [])) s3.heap.objs.size (cellsFrom (s3.heap.objs.size + 1) scope.names (cloFrom X.env.cells scope.names [])) fp tkv
  clear tkb tkv
  show codeAny _ _ (.compStart (.ListComp elt [⟨tg, iter, ifs, 0⟩] scope pos) 0 (.ref it) (.ref D) (compEnvC scope (cellsFrom (s3.heap.objs.size + 1) scope.names (cloFrom X.env.cells scope.names [])) s3.heap.objs.size X.env)) (postE (model X.prog X.w) X.A X.xe use Qf (.ref D) (compEnvC scope (cellsFrom (s3.heap.objs.size + 1) scope.names (cloFrom X.env.cells scope.names [])) s3.heap.objs.size X.env)) { s3 with heap := pushCells (s3.heap.push { cls := .type "dict", data := .dict #[] }) scope.names }
  have nfp : ∀ b ∈ fp, (upd H2 D (.lst [])) b = none := fun b hb => (f3 b hb).1.1
  generalize hce : compEnvC scope (cellsFrom (s3.heap.objs.size + 1) scope.names (cloFrom X.env.cells scope.names [])) s3.heap.objs.size X.env = ce at I4 pg pt pe ⊢
  have cL : ce.locals = s3.heap.objs.size := by subst hce; rfl
  generalize hH3 : upd H2 D (.lst []) = H3 at I3 I4 pg pt pe w0 nfp f3
  generalize hs4 : ({ s3 with heap := pushCells (s3.heap.push { cls := .type "dict", data := .dict #[] }) scope.names } : Shared) = s4 at I4 ⊢
  have st4 : tn 0 s4.heap := T.keep _ _ _ st3 fun b _ o e => by rw [← hs4]; exact pushCells_keeps _ _ _ _ (Heap.get?_push_of_some _ e)
  have stat : ∀ {σ' : L2.St} {H' : Hp} {s' : Shared}, Inv (blkE X s3 H3 scope ce fp) [] σ' H' s' → (∀ b ∈ fp, H' b = none) → ∀ b ∈ fp, FpOk (blkE X s3 H3 scope ce fp) [] H' b := fun {σ' H' s'} I' hn b hb =>
    ⟨hn b hb, (I'.ok.exf b hb).1, I'.ok.exfs b hb, .inl hb, fun x c e => (I'.ok.exf b hb).2 x c e, fun p hp => absurd (show p ∈ ([] : List (Addr × Obj)) ++ [] from hp) (by simp)⟩
  have I4 : Inv (blkE X s3 H3 scope ce fp) [] (wipe σ (own.map (·.2))) H3 s4 := I4.wish _
  have loop : codeAny (model X.prog X.w) X.A (.compLoop (.ListComp elt [⟨tg, iter, ifs, 0⟩] scope pos) 0 (.ref it) (.ref D) ce) (postE (model X.prog X.w) X.A X.xe use Qf (.ref D) ce) s4 := by
    refine compLoop_any (fun n s' => ∃ i H', Inv (blkE X s3 H3 scope ce fp) [] (wipe σ (own.map (·.2))) H' s' ∧ tn i s'.heap ∧ (∀ b ∈ fp, H' b = none) ∧ Wm i n H') ?_ m0 ⟨0, H3, I4, st4, nfp, w0⟩
    rintro n s5 ⟨i, H5, I5, st5, n5, w5⟩
    have exE : ∀ e s', (blkE X s3 H3 scope ce fp).xe e s' → notedBy (model X.prog X.w) X.A ce (fun e s' => postE (model X.prog X.w) X.A X.xe use Qf (.ref D) ce (.error e) s') e s' := fun e s' h => by
      cases use <;> exact h
    rcases turn i n H5 w5 with ⟨stop, qq⟩ | ⟨go, Nx, hNx, step⟩
    · have td := T.done (blkE X s3 H3 scope ce fp) rfl rfl rfl hc i [] s5 _ H5 (fun _ _ => False) I5 (stat I5 n5) st5 stop
      refine thnF td fun r s6 ⟨hr, I6⟩ => ?_
      subst hr
      -- back in the def's context
      have I7 : Inv X pins σ H5 s6 := I3.call' (ch := fp) I6.os I6.base I6.hok I6.bare fun b hb => ⟨(f3 b hb).1.2.2.2.1, (f3 b hb).1.2.1, (f3 b hb).1.2.2.2.2.1, (f3 b hb).1.2.2.2.2.2⟩
      have nC : H5 ce.locals = none := I6.free
      obtain ⟨m, hn, _⟩ := I6.loc
      have hn : s6.heap.Ns ce.locals m := hn
      exact hRR D ce s6 m H5 I7 qq hn (by rw [cL] at nC ⊢; exact I3.fpOk (Nat.le_refl _) nC)
    · have ti := T.item (blkE X s3 H3 scope ce fp) rfl rfl rfl hc i [] s5 _ H5 (fun _ _ => False) I5 (stat I5 n5) st5 go
      refine thnF ti fun r s6 ⟨u, hr, h6⟩ => ?_
      subst hr
      refine thnF h6 fun _ s7 ⟨x, H7, I7, r7, y7, st7, n7⟩ => ?_
      have I7' := I7.pinned (stat I7 n7) (T.obj _ _ st7)
      refine wpAny_mono (pg.run _ s7 _ H7 x u _ I7' r7 (step x H7 y7)) (fun _ s8 ⟨σ8, H8, I8, hw8, q8⟩ => ?_) exE
      refine wpAny_mono (pt.run _ s8 σ8 H8 _ I8 q8) (fun b s9 ⟨H9, I9, q9⟩ => ?_) exE
      -- the turn's end
      have fin : ∀ {s' : Shared} {H' : Hp}, Inv (blkE X s3 H3 scope ce fp) ([] ++ pinsAt fp s7.heap) σ8 H' s' → Nx H' → ∃ m, m < n ∧ ∃ i H', Inv (blkE X s3 H3 scope ce fp) [] (wipe σ (own.map (·.2))) H' s' ∧ tn i s'.heap ∧ (∀ b ∈ fp, H' b = none) ∧ Wm i m H' := fun {s' H'} I' nx => by
        obtain ⟨m', hm, w'⟩ := hNx H' nx
        have pin' : ∀ b ∈ fp, ∀ o, s7.heap.get? b = some o → s'.heap.get? b = some o ∧ H' b = none := fun b hb o e =>
          let z := I'.pin (b, o) (List.mem_append_right _ (List.mem_append_right _ (mem_pinsAt hb e)))
          ⟨z.1, z.2.1⟩
        have hl : (wipe σ (own.map (·.2))).length = σ8.length := by rw [← hw8, wipe_length]
        refine ⟨m', hm, i + 1, H', (I'.unpinned (pins := [])).weak hl (fun j v e => ?_), T.keep _ _ _ st7 fun b hb o e => (pin' b hb o e).1, fun b hb => ?_, w'⟩
        · rw [← hw8] at e
          exact (wipe_some e).1
        · obtain ⟨o, e, _⟩ := T.obj _ _ st7 b hb
          exact (pin' b hb o e).2
      cases b with
      | false =>
        simp only [Bool.false_eq_true, if_false] at q9 ⊢
        exact fin I9 q9
      | true =>
        simp only [if_true] at q9 ⊢
        refine wpAny_mono (pe.run _ s9 σ8 H9 _ I9 q9) (fun z s10 ⟨yv, H10, I10, r10, acc, hD10, hz10, nx⟩ => ?_) exE
        exact app_ok (X := blkE X s3 H3 scope ce fp) I10 hD10 hz10 r10 fun s11 I11 => fin I11 nx
  exact codeAny_compStart_list loop (T.self X.A 0 _ _ _ st4 loop)
/-- as a value -/
theorem pe_lcE {W : WX} {elt tg iter : Expr} {ifs : List Expr} {scope : Scope} {own : List (PySem.Str × Nat)} {pos : Pos} {wi : TI} {g : TG} {tt : WX → TT} {te : WX → TE} (hst : X.stack = X.env :: X.outer) (hf : X.env.frame = some X.env.locals) (tk : L2N.Takes X W) (hc : X.calm = true) (hN : X.N.Nodup) (hi : PI X tg iter wi) (ok : BlkOk X.N X.env.scope scope own)
    (hg : ∀ (s : Shared) (H : Hp) (C : Addr) (cl : List (PySem.Str × Addr)) (fp : List Addr), PG (blkE X s H scope (compEnvC scope cl C X.env) fp) tg g)
    (ht : ∀ (V : WX) (s : Shared) (H : Hp) (C : Addr) (cl : List (PySem.Str × Addr)) (fp : List Addr), L2N.Takes (blkE X s H scope (compEnvC scope cl C X.env) fp) V → PTs (blkE X s H scope (compEnvC scope cl C X.env) fp) ifs (tt V))
    (he : ∀ (V : WX) (s : Shared) (H : Hp) (C : Addr) (cl : List (PySem.Str × Addr)) (fp : List Addr), L2N.Takes (blkE X s H scope (compEnvC scope cl C X.env) fp) V → PE (blkE X s H scope (compEnvC scope cl C X.env) fp) elt (te V)) (hs : ∀ x, foldedSetIterable iter X.env x = pure x := by intro _; rfl) :
    PE X (.ListComp elt [⟨tg, iter, ifs, 0⟩] scope pos) (tLcE W wi g tt te (own.map (·.2))) := by
  refine ⟨fun pins s σ H Q I h => ?_⟩
  rw [eval_ListComp]
  refine lc_coreE hst hf tk hc hN I hi ok hg ht he hs h fun D ce s' m H' I' q hn f => ⟨m, hn, fun h'' sb => ?_⟩
  obtain ⟨f0, f1, f2, f3, f4, f5⟩ := f
  exact ⟨.ref D, H', I'.turned (t' := s'.toks) (fun b o hb e => (sb.2 b hb).trans e) f0 f1 f3 f4 f5, rfl, q⟩
/-- name = [..] on one line, the name a local -/
theorem ps_setLcE {W : WX} {i : Nat} {y : PySem.Str} {py : Pos} {elt tg iter : Expr} {ifs : List Expr} {scope : Scope} {own : List (PySem.Str × Nat)} {pos spos : Pos} {wi : TI} {g : TG} {tt : WX → TT} {te : WX → TE} (hst : X.stack = X.env :: X.outer) (hf : X.env.frame = some X.env.locals) (tk : L2N.Takes X W) (hc : X.calm = true) (hN : X.N.Nodup) (hy : X.N[i]? = some y) (hyl : X.env.scope.names.lookup y = some .local)
    (hsw : swapsWith (.ListComp elt [⟨tg, iter, ifs, 0⟩] scope pos) (some (.Name y py)) spos.line X.env = pure true) (hi : PI X tg iter wi) (ok : BlkOk X.N X.env.scope scope own)
    (hg : ∀ (s : Shared) (H : Hp) (C : Addr) (cl : List (PySem.Str × Addr)) (fp : List Addr), PG (blkE X s H scope (compEnvC scope cl C X.env) fp) tg g)
    (ht : ∀ (V : WX) (s : Shared) (H : Hp) (C : Addr) (cl : List (PySem.Str × Addr)) (fp : List Addr), L2N.Takes (blkE X s H scope (compEnvC scope cl C X.env) fp) V → PTs (blkE X s H scope (compEnvC scope cl C X.env) fp) ifs (tt V))
    (he : ∀ (V : WX) (s : Shared) (H : Hp) (C : Addr) (cl : List (PySem.Str × Addr)) (fp : List Addr), L2N.Takes (blkE X s H scope (compEnvC scope cl C X.env) fp) V → PE (blkE X s H scope (compEnvC scope cl C X.env) fp) elt (te V)) (hs : ∀ x, foldedSetIterable iter X.env x = pure x := by intro _; rfl) :
    PS X (.Assign [.Name y py] (.ListComp elt [⟨tg, iter, ifs, 0⟩] scope pos) spos) (tAsg (tLcE W wi g tt te (own.map (·.2))) (gName i)) := by
  refine ⟨fun pins s σ H D I h => ?_⟩
  rw [exec_Assign_Name_used _ _ _ _ hsw]
  refine wpAny_bind (wpAny_standAt (wpAny_bind ?_))
  show wpAny _ X.A (do let _ ← comprehension (.ListComp elt [⟨tg, iter, ifs, 0⟩] scope pos) scope X.env (firstIterPos [⟨tg, iter, ifs, 0⟩] pos) (newList []) false (eval iter X.env) (some (assign (.Name y py) X.env))) _ _ s
  have h : tLcE W wi g tt te (own.map (·.2)) σ H (fun x H1 => gName i x σ H1 D.nx) := h
  refine wpAny_bind (thn (lc_coreE (Qf := fun _ s' => SP X pins D .next s') hst hf tk hc hN I hi ok hg ht he hs h fun L ce s' m H' I' q hn f => ?_) fun _ s' hq => wpAny_pure (wpAny_pure hq))
  show wpAny _ _ (assign (.Name y py) X.env (.ref L)) _ _ _
  refine wpAny_assign_Name (store_ok2 (v := V.ref L) I' hN hy (.inl hyl) rfl (fun s2 I2 ⟨a, sb, ha⟩ => ?_) (.inr hyl))
  obtain ⟨f0, f1, f2, f3, f4, f5⟩ := f
  have haC : ce.locals ≠ a := by
    rcases ha with z | z
    · rw [z]; exact f1
    · exact fun e => f4 y a z e.symm
  refine ⟨m, hn.sameBut sb haC, fun h3 sb3 => ?_⟩
  exact ⟨_, H', I2.turned (t' := s2.toks) (fun b o hb e => (sb3.2 b hb).trans e) f0 f1 f3 f4 f5, q⟩
end
end Z

set_option maxRecDepth 100000
set_option maxHeartbeats 4000000
namespace Z
open PySem L2
/-! ### comprehensions that may be left by an exception -/
def zLcLE (g : ZG) (c : ZB) (e : ZT) (ρ : Sl) (q : ZQ) (ex : ZX) : List D → List D → Mu → Prop
  | acc, [], μ => q (.lst acc) μ
  | acc, d :: ds, μ => g d ρ μ fun ρ2 μ2 => c ρ2 μ2 (fun b μ3 => match b with
    | true => e ρ2 μ3 (fun y μ4 => zLcLE g c e ρ q ex (acc ++ [y]) ds μ4) ex
    | false => zLcLE g c e ρ q ex acc ds μ3) ex
def zLcE (zi : ZI) (g : ZG) (c : ZB) (e : ZT) (vs : List Nat) : ZT := fun ρ μ q ex => zi ρ μ (fun ds μ1 => ds.length ≤ sizeLine ∧ zLcLE g c e (zwipe ρ vs) q ex [] ds μ1) ex
def zLcOE (zi : ZI) (g : ZG) (c : ZB) (e : ZT) (vs : List Nat) : ZT := fun ρ μ q ex => zLcE zi g c e vs ρ μ (fun d μ1 => match d with
  | .lst acc => ∀ p, μ1 p = none → q (.ref p) (updM μ1 p (.lst acc))
  | _ => False) ex
theorem lcE_inv {g : ZG} {c : ZB} {e : ZT} {ρ : Sl} {q : ZQ} {ex : ZX} (Inv : Nat → List D → Mu → Prop) {ds : List D} {μ : Mu} (h0 : Inv 0 [] μ)
    (hs : ∀ i d acc μ (K : List D → Mu → Prop), ds[i]? = some d → Inv i acc μ → (∀ acc' μ', Inv (i + 1) acc' μ' → K acc' μ') →
      g d ρ μ fun ρ2 μ2 => c ρ2 μ2 (fun b μ3 => match b with
        | true => e ρ2 μ3 (fun y μ4 => K (acc ++ [y]) μ4) ex
        | false => K acc μ3) ex)
    (he : ∀ acc μ, Inv ds.length acc μ → q (.lst acc) μ) : zLcLE g c e ρ q ex [] ds μ := by
  have key : ∀ (es : List D) (i : Nat) acc μ, ds.drop i = es → i ≤ ds.length → Inv i acc μ → zLcLE g c e ρ q ex acc es μ := by
    intro es
    induction es with
    | nil =>
      intro i acc μ e hi h
      have : i = ds.length := by
        have := congrArg List.length e
        simp at this; omega
      subst this
      simp only [zLcLE]
      exact he _ _ h
    | cons d r ih =>
      intro i acc μ e hi h
      have hlt : i < ds.length := by
        have := congrArg List.length e
        simp at this; omega
      have e2 : ds[i]? = some d := by
        rw [List.drop_eq_getElem_cons hlt] at e
        rw [List.getElem?_eq_getElem hlt, (List.cons.inj e).1]
      have e3 : ds.drop (i + 1) = r := by
        rw [List.drop_eq_getElem_cons hlt] at e
        exact (List.cons.inj e).2
      simp only [zLcLE]
      exact hs i d acc μ (fun acc' μ' => zLcLE g c _ ρ q ex acc' r μ') e2 h fun acc' μ' q => ih (i + 1) acc' μ' e3 hlt q
  exact key ds 0 [] μ rfl (Nat.zero_le _) h0
theorem ErrRep.back {K : PySem.W.Frag} {H : Hp} {μ : Mu} {x : Ax} {p : Addr} {r : Err} {c : Value} {d : Option Addr} (h : ErrRep K H μ (addX x p) r c d) : ErrRep K H μ x r c d :=
  ⟨h.1, h.2.imp id fun ⟨dd, gs, e, f, r⟩ => ⟨dd, gs, e, Fm.back _ _ f, RepF.mo Fm.back _ _ r⟩⟩
section
variable {K : PySem.W.Frag} {W : WX} {wi : TI} {zi : ZI} {g : TG} {zg : ZG} {tt : WX → TT} {zt : ZB} {te : WX → TE} {ze : ZT} {vs : List Nat}
theorem lcE_core (hi : LI K W wi zi) (hg : LG K g zg) (ho : GOwn g vs) (ht : ∀ V, LT K V (tt V) zt) (he : ∀ V, LE K V (te V) ze) (x : Ax) (σ : L2.St) (H : Hp) (ρ : Sl) (μ : Mu) (q : ZQ) (w : ZW) (Q : VK) (I : ZInv K σ H ρ μ x) (c : WC K W w H μ x)
    (h : zLcE zi zg zt ze vs ρ μ q (fun r μ' => w r ρ μ')) (fin : ∀ L acc accV H1 μ1 H' μ', Grow H μ H1 μ1 x → ZH K H1 μ1 x → H1 L = none → Fm H1 μ1 x H' μ' (addX x L) → (∀ a, x a → H' a = H1 a) → ZH K H' μ' (addX x L) → H' L = some (.lst accV) → RepL K H' μ' (addX x L) acc accV →
      q (.lst acc) μ' → Q (.ref L) H') : tLcE W wi g tt te vs σ H Q := by
  refine hi x σ H ρ μ _ w _ I c h fun ds J H1 μ1 g1 z1 wk h1 => fun L hL => ?_
  obtain ⟨hsz, h1⟩ := h1
  -- L stands aside
  have a1 : Fm H1 μ1 x (upd H1 L (.lst [])) μ1 (addX x L) := Fm.aside hL
  have b1 : ZH K (upd H1 L (.lst [])) μ1 (addX x L) := z1.aside hL
  have I1 := I.grow g1 z1
  let V : WX := fun cls d _ H' => ∃ r μ', Grow H μ H' μ' x ∧ ZH K H' μ' x ∧ ErrRep K H' μ' x r cls d ∧ w r ρ μ'
  have hV : ∀ cls d σ' H', V cls d σ' H' → W cls d σ H' := fun cls d _ H' ⟨r, μ', gg, zz, er, hw⟩ => c σ H' ρ μ' cls d r gg (I.grow gg zz) er hw
  -- an exception of a turn
  have wcV : ∀ H3 μ3, Fm H1 μ1 x H3 μ3 (addX x L) → (∀ a, x a → H3 a = H1 a) → WC K V (fun r _ μ' => w r ρ μ') H3 μ3 (addX x L) := fun H3 μ3 f3 xa3 σ' H' ρ' μ' cls dd r gg JJ er hw => by
    refine ⟨r, μ', g1.trans ⟨(f3.trans gg.fz).trans Fm.back, fun a ha => (gg.ax a (.inl ha)).trans (xa3 a ha)⟩, JJ.zh.back, er.back, hw⟩
  refine ⟨V, hV, fun i m H' => m = ds.length - i ∧ i ≤ ds.length ∧ ∃ acc accV μ', Fm H1 μ1 x H' μ' (addX x L) ∧ (∀ a, x a → H' a = H1 a) ∧ ZH K H' μ' (addX x L) ∧ H' L = some (.lst accV) ∧ RepL K H' μ' (addX x L) acc accV ∧ accV.length ≤ i ∧ zLcLE zg zt ze (zwipe ρ vs) q (fun r μ' => w r ρ μ') acc (ds.drop i) μ',
    ⟨ds.length, by simp, Nat.zero_le _, [], [], μ1, a1, fun a ha => upd_ne (fun e => (z1.ax a ha).2 (e ▸ hL)), b1, upd_same, by simp [RepL], Nat.le_refl _, h1⟩, ?_⟩
  rintro i m H' ⟨rfl, hi, acc, accV, μ', f', xa', z', eL, l', len', h'⟩
  by_cases hlt : i < ds.length
  · refine .inr ⟨wk.go i H' μ' _ f' z' hlt, fun H5 => ∃ acc accV μ', Fm H1 μ1 x H5 μ' (addX x L) ∧ (∀ a, x a → H5 a = H1 a) ∧ ZH K H5 μ' (addX x L) ∧ H5 L = some (.lst accV) ∧ RepL K H5 μ' (addX x L) acc accV ∧ accV.length ≤ i + 1 ∧ zLcLE zg zt ze (zwipe ρ vs) q (fun r μ' => w r ρ μ') acc (ds.drop (i + 1)) μ',
      fun H5 w5 => ⟨ds.length - (i + 1), by omega, rfl, hlt, w5⟩, fun v H'' y => ?_⟩
    rw [List.drop_eq_getElem_cons hlt] at h'
    obtain ⟨g3, z3, r3⟩ := wk.yld i H' μ' _ v H'' ds[i] f' z' (List.getElem?_eq_getElem hlt) y
    have J3 : ZInv K (wipe σ vs) H'' (zwipe ρ vs) μ' (addX x L) := (I1.mo (f'.trans g3.fz) z3).wipe vs
    refine ho v _ H'' _ _ (hg (addX x L) _ v _ H'' _ μ' _ (fun σ2 H2 => tt V σ2 H2 fun b H3 => if b = true then te V σ2 H3 fun y H4 => ∃ acc, H4 L = some (.lst acc) ∧ acc.length < sizeLine ∧ (∃ acc' accV μ', Fm H1 μ1 x (upd H4 L (.lst (acc ++ [y]))) μ' (addX x L) ∧ (∀ a, x a → (upd H4 L (.lst (acc ++ [y]))) a = H1 a) ∧ ZH K (upd H4 L (.lst (acc ++ [y]))) μ' (addX x L) ∧ (upd H4 L (.lst (acc ++ [y]))) L = some (.lst accV) ∧ RepL K (upd H4 L (.lst (acc ++ [y]))) μ' (addX x L) acc' accV ∧ accV.length ≤ i + 1 ∧ zLcLE zg zt ze (zwipe ρ vs) q (fun r μ' => w r ρ μ') acc' (ds.drop (i + 1)) μ')
      else ∃ acc accV μ', Fm H1 μ1 x H3 μ' (addX x L) ∧ (∀ a, x a → H3 a = H1 a) ∧ ZH K H3 μ' (addX x L) ∧ H3 L = some (.lst accV) ∧ RepL K H3 μ' (addX x L) acc accV ∧ accV.length ≤ i + 1 ∧ zLcLE zg zt ze (zwipe ρ vs) q (fun r μ' => w r ρ μ') acc (ds.drop (i + 1)) μ') J3 r3 h' fun σ2 H2 ρ2 μ2 g4 J4 h4 => ?_) fun σ2 H2 hw hq => ⟨hw.trans (wipe_idem vs vs fun _ h => h), hq⟩
    have G2 : Grow H' μ' H2 μ2 (addX x L) := g3.trans g4
    have xa2 : ∀ a, x a → H2 a = H1 a := fun a ha => (G2.ax a (.inl ha)).trans (xa' a ha)
    refine ht V (addX x L) σ2 H2 ρ2 μ2 _ (fun r _ μ' => w r ρ μ') _ J4 (wcV H2 μ2 (f'.trans G2.fz) xa2) h4 fun b H3 μ3 g5 z5 h5 => ?_
    have G3 : Grow H' μ' H3 μ3 (addX x L) := G2.trans g5
    have eL3 : H3 L = some (.lst accV) := (G3.ax L (.inr rfl)).trans eL
    have xa3 : ∀ a, x a → H3 a = H1 a := fun a ha => (G3.ax a (.inl ha)).trans (xa' a ha)
    cases b with
    | false => exact iteF ⟨acc, accV, μ3, f'.trans G3.fz, xa3, z5, eL3, RepL.mono G3 _ _ l', Nat.le_succ_of_le len', h5⟩
    | true =>
      refine iteT (he V (addX x L) σ2 H3 ρ2 μ3 _ (fun r _ μ' => w r ρ μ') _ (J4.grow g5 z5) (wcV H3 μ3 (f'.trans G3.fz) xa3) h5 fun d y H4 μ4 g6 z6 r6 h6 => ?_)
      have G4 : Grow H' μ' H4 μ4 (addX x L) := G3.trans g6
      have eL4 : H4 L = some (.lst accV) := (G4.ax L (.inr rfl)).trans eL
      obtain ⟨f7, z7⟩ := z6.wside (.lst (accV ++ [y]))
      refine ⟨accV, eL4, by omega, acc ++ [d], accV ++ [y], μ4, f'.trans (Fm.trans G4.fz f7), fun a ha => ?_, z7, upd_same, (RepL.mo (Fm.trans G4.fz f7) _ _ l').append (RepL.one (r6.mo f7)), by simp; omega, h6⟩
      have ne : a ≠ L := fun e => by
        have := (z1.ax a ha).2
        rw [e] at this
        exact this hL
      rw [upd_ne ne]
      exact (G4.ax a (.inl ha)).trans (xa' a ha)
  · have ei : i = ds.length := by omega
    subst ei
    rw [List.drop_length] at h'
    refine .inl ⟨wk.stop H' μ' _ f' z', ?_⟩
    exact fin L acc accV H1 μ1 H' μ' g1 z1 hL f' xa' z' eL l' h'
theorem le_lcE (hi : LI K W wi zi) (hg : LG K g zg) (ho : GOwn g vs) (ht : ∀ V, LT K V (tt V) zt) (he : ∀ V, LE K V (te V) ze) : LE K W (tLcE W wi g tt te vs) (zLcE zi zg zt ze vs) := fun x σ H ρ μ q w Q I c h k =>
  lcE_core hi hg ho ht he x σ H ρ μ q w Q I c h fun L acc accV H1 μ1 H' μ' g1 z1 hL f' xa' z' eL l' h' => by
    have g9 : Grow H μ H' μ' x := g1.trans ⟨f'.trans Fm.back, xa'⟩
    refine k (.lst acc) (.ref L) H' μ' g9 z'.back ?_ h'
    simp only [Rep]
    refine ⟨L, accV, rfl, ⟨.inl eL, rfl, (z'.ax L (.inr rfl)).1, fun e => (z1.ax L e).2 hL⟩, RepL.mo Fm.back _ _ l'⟩
theorem le_lcOE (hi : LI K W wi zi) (hg : LG K g zg) (ho : GOwn g vs) (ht : ∀ V, LT K V (tt V) zt) (he : ∀ V, LE K V (te V) ze) : LE K W (tLcE W wi g tt te vs) (zLcOE zi zg zt ze vs) := fun x σ H ρ μ q w Q I c h k =>
  lcE_core hi hg ho ht he x σ H ρ μ _ w Q I c h fun L acc accV H1 μ1 H' μ' g1 z1 hL f' xa' z' eL l' h' => by
    have nL : ∀ a u, Fz H1 μ1 x a u → a ≠ L := fun a u hu e => by
      have := hu.1
      rw [e, hL] at this
      rcases this with q | ⟨_, o, q⟩ <;> cases q
    have f2 : Fm H1 μ1 x H' (updM μ' L (.lst acc)) x := fun a u hu => by
      have h2 := Fm.back a u (f' a u hu)
      exact ⟨h2.1, h2.2.1, by rw [updM_ne (nL a u hu)]; exact h2.2.2.1, h2.2.2.2⟩
    have nX : ¬ x L := fun e => (z1.ax L e).2 hL
    have fX : Fm H' μ' (addX x L) H' (updM μ' L (.lst acc)) x := fun a u hu => by
      have ne : a ≠ L := fun e => hu.2.2.2 (.inr e)
      exact ⟨hu.1, hu.2.1, by rw [updM_ne ne]; exact hu.2.2.1, fun e => hu.2.2.2 (.inl e)⟩
    have zz : ZH K H' (updM μ' L (.lst acc)) x := by
      refine ⟨fun a c e => ?_, fun a ha => ?_⟩
      · by_cases hal : a = L
        · subst hal
          rw [updM_same] at e
          cases e
          exact ⟨accV, eL, RepL.mo fX _ _ l'⟩
        · rw [updM_ne hal] at e
          exact (z'.own a c e).mo fX rfl
      · have ne : a ≠ L := fun e => nX (e ▸ ha)
        rw [updM_ne ne]
        exact z'.ax a (.inl ha)
    have g9 : Grow H μ H' (updM μ' L (.lst acc)) x := g1.trans ⟨f2, xa'⟩
    exact k (.ref L) (.ref L) H' _ g9 zz rep_ref (h' L (z'.ax L (.inr rfl)).1)
end
/-! readings of a block's parts: whatever block it is -/
def bxE (X : Cx) (k : Nat) (scope : Scope) (t : ∀ (V : WX) (s : Shared) (H : Hp) (C : Addr) (cl : List (Str × Addr)) (fp : List Addr), ZC (blkE X s H scope (compEnvC scope cl C X.env) fp) V k → TE) (V : WX) : TE :=
  fun σ H Q => ∀ s h C cl fp c, t V s h C cl fp c σ H Q
def bxT (X : Cx) (k : Nat) (scope : Scope) (t : ∀ (V : WX) (s : Shared) (H : Hp) (C : Addr) (cl : List (Str × Addr)) (fp : List Addr), ZC (blkE X s H scope (compEnvC scope cl C X.env) fp) V k → TT) (V : WX) : TT :=
  fun σ H Q => ∀ s h C cl fp c, t V s h C cl fp c σ H Q
section
variable {X : Cx} {W : WX} {k : Nat} {elt tg iter : Expr} {ifs : List Expr} {scope : Scope} {own : List (Str × Nat)} {pos : Pos} {wi : TI} {zi : ZI} {zg : ZG} {zt : ZB} {ze : ZT} {g : Bk TG}
  {tt : ∀ (V : WX) (s : Shared) (H : Hp) (C : Addr) (cl : List (Str × Addr)) (fp : List Addr), ZC (blkE X s H scope (compEnvC scope cl C X.env) fp) V k → TT} {te : ∀ (V : WX) (s : Shared) (H : Hp) (C : Addr) (cl : List (Str × Addr)) (fp : List Addr), ZC (blkE X s H scope (compEnvC scope cl C X.env) fp) V k → TE}
theorem ZC.blkE (cx : ZC X W k) (s : Shared) (H : Hp) (scope : Scope) (ce : Env) (fp : List Addr) {V : WX} (tk : L2N.Takes (Z.blkE X s H scope ce fp) V) : ZC (Z.blkE X s H scope ce fp) V k := ⟨cx.calm, cx.nd, cx.room, tk, PassesOwn.looking⟩
theorem bx_pg (hg : ∀ (s : Shared) (H : Hp) (C : Addr) (cl : List (Str × Addr)) (fp : List Addr), ZPg (blkE X s H scope (compEnvC scope cl C X.env) fp) tg (g s H C cl fp) zg) (s : Shared) (H : Hp) (C : Addr) (cl : List (Str × Addr)) (fp : List Addr) : PG (blkE X s H scope (compEnvC scope cl C X.env) fp) tg (bkG g) :=
  ⟨fun pins s' σ H' v u Q I r hw => (hg s H C cl fp).p.run pins s' σ H' v u Q I r (hw s H C cl fp)⟩
theorem bx_pt (cx : ZC X W k) (ht : ∀ (V : WX) (s : Shared) (H : Hp) (C : Addr) (cl : List (Str × Addr)) (fp : List Addr) (c : ZC (blkE X s H scope (compEnvC scope cl C X.env) fp) V k), ZPts (blkE X s H scope (compEnvC scope cl C X.env) fp) V ifs (tt V s H C cl fp c) zt) (V : WX) (s : Shared) (H : Hp) (C : Addr) (cl : List (Str × Addr)) (fp : List Addr) (tk : L2N.Takes (blkE X s H scope (compEnvC scope cl C X.env) fp) V) : PTs (blkE X s H scope (compEnvC scope cl C X.env) fp) ifs (bxT X k scope tt V) :=
  ⟨fun pins s' σ H' Q I h => (ht V s H C cl fp (cx.blkE _ _ _ _ _ tk)).p.run pins s' σ H' Q I (h s H C cl fp _)⟩
theorem bx_pe (cx : ZC X W k) (he : ∀ (V : WX) (s : Shared) (H : Hp) (C : Addr) (cl : List (Str × Addr)) (fp : List Addr) (c : ZC (blkE X s H scope (compEnvC scope cl C X.env) fp) V k), ZE (blkE X s H scope (compEnvC scope cl C X.env) fp) V elt (te V s H C cl fp c) ze) (V : WX) (s : Shared) (H : Hp) (C : Addr) (cl : List (Str × Addr)) (fp : List Addr) (tk : L2N.Takes (blkE X s H scope (compEnvC scope cl C X.env) fp) V) : PE (blkE X s H scope (compEnvC scope cl C X.env) fp) elt (bxE X k scope te V) :=
  ⟨fun pins s' σ H' Q I h => (he V s H C cl fp (cx.blkE _ _ _ _ _ tk)).p.run pins s' σ H' Q I (h s H C cl fp _)⟩
theorem bx_lg (hg : ∀ (s : Shared) (H : Hp) (C : Addr) (cl : List (Str × Addr)) (fp : List Addr), ZPg (blkE X s H scope (compEnvC scope cl C X.env) fp) tg (g s H C cl fp) zg) : LG X.K (bkG g) zg := fun x d v σ H ρ μ k k' I r h hk s0 H0 C cl fp => (hg s0 H0 C cl fp).l x d v σ H ρ μ k k' I r h hk
theorem bx_lt (ht : ∀ (V : WX) (s : Shared) (H : Hp) (C : Addr) (cl : List (Str × Addr)) (fp : List Addr) (c : ZC (blkE X s H scope (compEnvC scope cl C X.env) fp) V k), ZPts (blkE X s H scope (compEnvC scope cl C X.env) fp) V ifs (tt V s H C cl fp c) zt) (V : WX) : LT X.K V (bxT X k scope tt V) zt := fun x σ H ρ μ q w Q I c h kk s0 H0 C cl fp cc => (ht V s0 H0 C cl fp cc).l x σ H ρ μ q w Q I c h kk
theorem bx_le (he : ∀ (V : WX) (s : Shared) (H : Hp) (C : Addr) (cl : List (Str × Addr)) (fp : List Addr) (c : ZC (blkE X s H scope (compEnvC scope cl C X.env) fp) V k), ZE (blkE X s H scope (compEnvC scope cl C X.env) fp) V elt (te V s H C cl fp c) ze) (V : WX) : LE X.K V (bxE X k scope te V) ze := fun x σ H ρ μ q w Q I c h kk s0 H0 C cl fp cc => (he V s0 H0 C cl fp cc).l x σ H ρ μ q w Q I c h kk
theorem zlcE (cx : ZC X W k) (hi : ZPi X W tg iter wi zi) (ok : BlkOk X.N X.env.scope scope own)
    (hg : ∀ (s : Shared) (H : Hp) (C : Addr) (cl : List (Str × Addr)) (fp : List Addr), ZPg (blkE X s H scope (compEnvC scope cl C X.env) fp) tg (g s H C cl fp) zg) (ho : ∀ (s : Shared) (H : Hp) (C : Addr) (cl : List (Str × Addr)) (fp : List Addr), GOwn (g s H C cl fp) (own.map (·.2)))
    (ht : ∀ (V : WX) (s : Shared) (H : Hp) (C : Addr) (cl : List (Str × Addr)) (fp : List Addr) (c : ZC (blkE X s H scope (compEnvC scope cl C X.env) fp) V k), ZPts (blkE X s H scope (compEnvC scope cl C X.env) fp) V ifs (tt V s H C cl fp c) zt)
    (he : ∀ (V : WX) (s : Shared) (H : Hp) (C : Addr) (cl : List (Str × Addr)) (fp : List Addr) (c : ZC (blkE X s H scope (compEnvC scope cl C X.env) fp) V k), ZE (blkE X s H scope (compEnvC scope cl C X.env) fp) V elt (te V s H C cl fp c) ze) (hst : X.stack = X.env :: X.outer := by rfl) (hf : X.env.frame = some X.env.locals := by rfl) (hs : ∀ x, foldedSetIterable iter X.env x = pure x := by intro _; rfl) :
    ZE X W (.ListComp elt [⟨tg, iter, ifs, 0⟩] scope pos) (tLcE W wi (bkG g) (bxT X k scope tt) (bxE X k scope te) (own.map (·.2))) (zLcE zi zg zt ze (own.map (·.2))) :=
  ⟨pe_lcE hst hf cx.tk cx.calm cx.nd hi.p ok (bx_pg hg) (bx_pt cx ht) (bx_pe cx he) hs,
    le_lcE hi.l (bx_lg hg) (bk_own ho) (bx_lt ht) (bx_le he)⟩
theorem zlcOE (cx : ZC X W k) (hi : ZPi X W tg iter wi zi) (ok : BlkOk X.N X.env.scope scope own)
    (hg : ∀ (s : Shared) (H : Hp) (C : Addr) (cl : List (Str × Addr)) (fp : List Addr), ZPg (blkE X s H scope (compEnvC scope cl C X.env) fp) tg (g s H C cl fp) zg) (ho : ∀ (s : Shared) (H : Hp) (C : Addr) (cl : List (Str × Addr)) (fp : List Addr), GOwn (g s H C cl fp) (own.map (·.2)))
    (ht : ∀ (V : WX) (s : Shared) (H : Hp) (C : Addr) (cl : List (Str × Addr)) (fp : List Addr) (c : ZC (blkE X s H scope (compEnvC scope cl C X.env) fp) V k), ZPts (blkE X s H scope (compEnvC scope cl C X.env) fp) V ifs (tt V s H C cl fp c) zt)
    (he : ∀ (V : WX) (s : Shared) (H : Hp) (C : Addr) (cl : List (Str × Addr)) (fp : List Addr) (c : ZC (blkE X s H scope (compEnvC scope cl C X.env) fp) V k), ZE (blkE X s H scope (compEnvC scope cl C X.env) fp) V elt (te V s H C cl fp c) ze) (hst : X.stack = X.env :: X.outer := by rfl) (hf : X.env.frame = some X.env.locals := by rfl) (hs : ∀ x, foldedSetIterable iter X.env x = pure x := by intro _; rfl) :
    ZE X W (.ListComp elt [⟨tg, iter, ifs, 0⟩] scope pos) (tLcE W wi (bkG g) (bxT X k scope tt) (bxE X k scope te) (own.map (·.2))) (zLcOE zi zg zt ze (own.map (·.2))) :=
  ⟨(zlcE cx hi ok hg ho ht he hst hf hs).p, le_lcOE hi.l (bx_lg hg) (bk_own ho) (bx_lt ht) (bx_le he)⟩
theorem zsetLcE (i : Nat) {y : Str} {py spos : Pos} (cx : ZC X W k) (hi : ZPi X W tg iter wi zi) (ok : BlkOk X.N X.env.scope scope own)
    (hg : ∀ (s : Shared) (H : Hp) (C : Addr) (cl : List (Str × Addr)) (fp : List Addr), ZPg (blkE X s H scope (compEnvC scope cl C X.env) fp) tg (g s H C cl fp) zg) (ho : ∀ (s : Shared) (H : Hp) (C : Addr) (cl : List (Str × Addr)) (fp : List Addr), GOwn (g s H C cl fp) (own.map (·.2)))
    (ht : ∀ (V : WX) (s : Shared) (H : Hp) (C : Addr) (cl : List (Str × Addr)) (fp : List Addr) (c : ZC (blkE X s H scope (compEnvC scope cl C X.env) fp) V k), ZPts (blkE X s H scope (compEnvC scope cl C X.env) fp) V ifs (tt V s H C cl fp c) zt)
    (he : ∀ (V : WX) (s : Shared) (H : Hp) (C : Addr) (cl : List (Str × Addr)) (fp : List Addr) (c : ZC (blkE X s H scope (compEnvC scope cl C X.env) fp) V k), ZE (blkE X s H scope (compEnvC scope cl C X.env) fp) V elt (te V s H C cl fp c) ze)
    (hsw : swapsWith (.ListComp elt [⟨tg, iter, ifs, 0⟩] scope pos) (some (.Name y py)) spos.line X.env = pure true) (hy : X.N[i]? = some y := by rfl) (hyl : X.env.scope.names.lookup y = some .local := by rfl) (hst : X.stack = X.env :: X.outer := by rfl) (hf : X.env.frame = some X.env.locals := by rfl) (hs : ∀ x, foldedSetIterable iter X.env x = pure x := by intro _; rfl) :
    ZSt X W (.Assign [.Name y py] (.ListComp elt [⟨tg, iter, ifs, 0⟩] scope pos) spos) (tAsg (tLcE W wi (bkG g) (bxT X k scope tt) (bxE X k scope te) (own.map (·.2))) (gName i)) (zAsg (zLcE zi zg zt ze (own.map (·.2))) (zgName i)) :=
  ⟨ps_setLcE hst hf cx.tk cx.calm cx.nd hy hyl hsw hi.p ok (bx_pg hg) (bx_pt cx ht) (bx_pe cx he) hs,
    ls_asg (le_lcE hi.l (bx_lg hg) (bk_own ho) (bx_lt ht) (bx_le he)) lg_name⟩
theorem zsetLcOE (i : Nat) {y : Str} {py spos : Pos} (cx : ZC X W k) (hi : ZPi X W tg iter wi zi) (ok : BlkOk X.N X.env.scope scope own)
    (hg : ∀ (s : Shared) (H : Hp) (C : Addr) (cl : List (Str × Addr)) (fp : List Addr), ZPg (blkE X s H scope (compEnvC scope cl C X.env) fp) tg (g s H C cl fp) zg) (ho : ∀ (s : Shared) (H : Hp) (C : Addr) (cl : List (Str × Addr)) (fp : List Addr), GOwn (g s H C cl fp) (own.map (·.2)))
    (ht : ∀ (V : WX) (s : Shared) (H : Hp) (C : Addr) (cl : List (Str × Addr)) (fp : List Addr) (c : ZC (blkE X s H scope (compEnvC scope cl C X.env) fp) V k), ZPts (blkE X s H scope (compEnvC scope cl C X.env) fp) V ifs (tt V s H C cl fp c) zt)
    (he : ∀ (V : WX) (s : Shared) (H : Hp) (C : Addr) (cl : List (Str × Addr)) (fp : List Addr) (c : ZC (blkE X s H scope (compEnvC scope cl C X.env) fp) V k), ZE (blkE X s H scope (compEnvC scope cl C X.env) fp) V elt (te V s H C cl fp c) ze)
    (hsw : swapsWith (.ListComp elt [⟨tg, iter, ifs, 0⟩] scope pos) (some (.Name y py)) spos.line X.env = pure true) (hy : X.N[i]? = some y := by rfl) (hyl : X.env.scope.names.lookup y = some .local := by rfl) (hst : X.stack = X.env :: X.outer := by rfl) (hf : X.env.frame = some X.env.locals := by rfl) (hs : ∀ x, foldedSetIterable iter X.env x = pure x := by intro _; rfl) :
    ZSt X W (.Assign [.Name y py] (.ListComp elt [⟨tg, iter, ifs, 0⟩] scope pos) spos) (tAsg (tLcE W wi (bkG g) (bxT X k scope tt) (bxE X k scope te) (own.map (·.2))) (gName i)) (zAsg (zLcOE zi zg zt ze (own.map (·.2))) (zgName i)) :=
  ⟨ps_setLcE hst hf cx.tk cx.calm cx.nd hy hyl hsw hi.p ok (bx_pg hg) (bx_pt cx ht) (bx_pe cx he) hs,
    ls_asg (le_lcOE hi.l (bx_lg hg) (bk_own ho) (bx_lt ht) (bx_le he)) lg_name⟩
end
end Z

set_option maxRecDepth 100000
set_option maxHeartbeats 4000000
/-! ### zip of a tuple and a list (printed by mixzip.py) -/
namespace Zm
open PySem
open PySem.Sem (wp)
section
variable {prog : Program} {w : World} {A : Around} {E : Value → Shared → Prop} {s : Shared}
theorem zipM_next_item {z TI TO i1 i2 l1 l2 : Addr} {k1 k2 : Nat} {xs ys : Array Value} {x y a b : Value} {Q : Value → Shared → Prop} (D : ZipApart z TI TO i1 i2 l1 l2)
    (hz : IsZip s.heap z TI TO .none) (hTI : IsPair s.heap TI (.ref i1) (.ref i2)) (hTO : IsPair s.heap TO a b)
    (h1 : s.heap.IsTupleIter i1 l1 k1) (h2 : s.heap.IsListIter i2 l2 k2) (hl1 : s.heap.IsTuple l1 xs) (hl2 : s.heap.IsList l2 ys) (hx : xs[k1]? = some x) (hy : ys[k2]? = some y)
    (hQ : ∀ h', IsZip h' z TI TO (rawInt s.heap.objs.size) → IsPair h' TO x y → h'.IsTupleIter i1 l1 (k1 + 1) → h'.IsListIter i2 l2 (k2 + 1) → IsPair h' s.heap.objs.size x y → h'.objs.size = s.heap.objs.size + 1 →
      (∀ c o, c ≠ z → c ≠ TO → c ≠ i1 → c ≠ i2 → s.heap.get? c = some o → h'.get? c = some o) → Q (.ref s.heap.objs.size) { s with heap := h' }) :
    wpAny (model prog w) A (Builtin.«zip.__next__» ⟨[.ref z], []⟩) (fun fin s' => ∃ v, fin = .done (.ret v) ∧ Q v s') E s := by
  show wpAny _ _ (field (.ref z) 2 >>= _) _ _ _
  refine wpAny_bind (wpAny_field hz rfl (x := .bool false) rfl ?_)
  show wpAny _ _ (field (.ref z) 3 >>= _) _ _ _
  refine wpAny_bind (wpAny_field hz rfl (x := .ref TI) rfl ?_)
  refine wpAny_bind (wpAny_seqItems hTI rfl ?_)
  show wpAny _ _ (Builtin.SmallTypes.ownedTupleIsFree (.ref z) >>= _) _ _ _
  refine wpAny_bind ?_
  unfold Builtin.SmallTypes.ownedTupleIsFree
  refine wpAny_bind (wpAny_field hz rfl (x := .none) rfl (wpAny_pure ?_))
  simp only [if_true]
  refine wpAny_bind (wpAny_rule ?_)
  refine wpAny_bind (wpAny_field hz rfl (x := .ref TO) rfl ?_)
  refine wpAny_bind (wpAny_setField_rec hz (by simp) fun h₁ hz₁ hs₁ => ?_)
  replace hz₁ : IsZip h₁ z TI TO .ellipsis := hz₁
  refine wpAny_bind ?_
  simp only [List.zipIdx_cons, List.zipIdx_nil, List.forIn_cons, List.forIn_nil]

  refine wpAny_bind (wpAny_bind (wpAny_onRaise ?_))
  show wpAny _ _ (Builtin.SmallTypes.nextOf (.ref i1) >>= _) _ _ _
  refine wpAny_bind (RZ.nextOf_tuple_item (h1.extBut hs₁.extBut D.i1z) (hl1.extBut hs₁.extBut D.l1z) hx fun h₂ h1₂ hs₂ => wpAny_pure ?_)
  have hTO₂ : IsPair h₂ TO a b := hs₂.extBut _ _ D.TOi1 (hs₁.extBut _ _ D.TOz hTO)
  refine wpAny_bind (wpAny_seqItems hTO₂ rfl ?_)
  refine wpAny_bind (wpAny_updateSeq_pair hTO₂ fun h₃ hTO₃ hs₃ => ?_)
  replace hTO₃ : IsPair h₃ TO x b := hTO₃
  refine wpAny_bind (wpAny_letGo (wpAny_pure ?_))

  refine wpAny_bind (wpAny_bind (wpAny_onRaise ?_))
  show wpAny _ _ (Builtin.SmallTypes.nextOf (.ref i2) >>= _) _ _ _
  refine wpAny_bind (wpAny_nextOf_list_item (((h2.extBut hs₁.extBut D.i2z).extBut hs₂.extBut D.i12.symm).extBut hs₃.extBut D.TOi2.symm)
    (((hl2.extBut hs₁.extBut D.l2z).extBut hs₂.extBut D.l2i1).extBut hs₃.extBut D.l2TO) hy fun h₄ h2₄ hs₄ => wpAny_pure ?_)
  have hTO₄ : IsPair h₄ TO x b := hs₄.extBut _ _ D.TOi2 hTO₃
  refine wpAny_bind (wpAny_seqItems hTO₄ rfl ?_)
  refine wpAny_bind (wpAny_updateSeq_pair hTO₄ fun h₅ hTO₅ hs₅ => ?_)
  replace hTO₅ : IsPair h₅ TO x y := hTO₅
  refine wpAny_bind (wpAny_letGo (wpAny_pure (wpAny_pure ?_)))

  refine wpAny_bind (wpAny_seqItems hTO₅ rfl ?_)
  refine wpAny_bind (wpAny_newTuple ?_)
  have hsz : h₅.objs.size = s.heap.objs.size := by rw [hs₅.1, hs₄.1, hs₃.1, hs₂.1, hs₁.1]
  have hz₅ : IsZip h₅ z TI TO .ellipsis := hs₅.extBut _ _ D.TOz.symm (hs₄.extBut _ _ D.i2z.symm (hs₃.extBut _ _ D.TOz.symm (hs₂.extBut _ _ D.i1z.symm hz₁)))
  have hk₅ : ∀ c o, c ≠ z → c ≠ TO → c ≠ i1 → c ≠ i2 → s.heap.get? c = some o → h₅.get? c = some o := fun c o c1 c2 c3 c4 e =>
    hs₅.extBut _ _ c2 (hs₄.extBut _ _ c4 (hs₃.extBut _ _ c2 (hs₂.extBut _ _ c3 (hs₁.extBut _ _ c1 e))))
  have h1₅ : h₅.IsTupleIter i1 l1 (k1 + 1) := ((h1₂.extBut hs₃.extBut D.TOi1.symm).extBut hs₄.extBut D.i12).extBut hs₅.extBut D.TOi1.symm
  have h2₅ : h₅.IsListIter i2 l2 (k2 + 1) := h2₄.extBut hs₅.extBut D.TOi2.symm
  have hzlt : z < h₅.objs.size := Heap.lt_size hz₅
  have hTOlt : TO < h₅.objs.size := Heap.lt_size hTO₅
  have hi1lt : i1 < h₅.objs.size := by obtain ⟨_, e, _⟩ := h1₅; exact Heap.lt_size e
  have hi2lt : i2 < h₅.objs.size := by obtain ⟨_, e, _⟩ := h2₅; exact Heap.lt_size e
  show wpAny _ _ (Builtin.SmallTypes.ownedTupleHandOut (.ref z) (.ref h₅.objs.size) >>= _) _ _ _
  refine wpAny_bind ?_
  unfold Builtin.SmallTypes.ownedTupleHandOut
  have hz₆ : IsZip (h₅.push { cls := .type "tuple", data := .seq #[x, y] }) z TI TO .ellipsis := Heap.get?_push_of_some _ hz₅
  refine wpAny_bind (wpAny_setField_rec hz₆ (by simp) fun h₇ hz₇ hs₇ => ?_)
  replace hz₇ : IsZip h₇ z TI TO (rawInt h₅.objs.size) := hz₇
  refine wpAny_setField_rec hz₇ (by simp) fun h₈ hz₈ hs₈ => ?_
  replace hz₈ : IsZip h₈ z TI TO (rawInt h₅.objs.size) := hz₈
  have up : ∀ c o, c ≠ z → h₅.get? c = some o → h₈.get? c = some o := fun c o c1 e => hs₈.extBut _ _ c1 (hs₇.extBut _ _ c1 (Heap.get?_push_of_some _ e))
  have hT₈ : IsPair h₈ h₅.objs.size x y := hs₈.extBut _ _ (Nat.ne_of_gt hzlt) (hs₇.extBut _ _ (Nat.ne_of_gt hzlt) (Heap.get?_push_size _ rfl))
  have hz8 : h₈.objs.size = h₅.objs.size + 1 := by rw [hs₈.1, hs₇.1, Heap.size_push]
  rw [hsz] at hz₈ hT₈ hz8
  refine wpAny_pure ⟨_, rfl, ?_⟩
  show Q (.ref h₅.objs.size) _
  rw [hsz]
  exact hQ h₈ hz₈ (up _ _ D.TOz hTO₅) (h1₅.at fun o e => up _ o D.i1z e) (h2₅.at fun o e => up _ o D.i2z e) hT₈ hz8 fun c o c1 c2 c3 c4 e => up c o c1 (hk₅ c o c1 c2 c3 c4 e)

theorem zipM_next_end {z TI TO i1 i2 l1 l2 : Addr} {k1 k2 : Nat} {xs ys : Array Value} {a b : Value} {Q : Fin → Shared → Prop} (hh : A.handled = none) (D : ZipApart z TI TO i1 i2 l1 l2)
    (hz : IsZip s.heap z TI TO .none) (hTI : IsPair s.heap TI (.ref i1) (.ref i2)) (hTO : IsPair s.heap TO a b)
    (h1 : s.heap.IsTupleIter i1 l1 k1) (h2 : s.heap.IsListIter i2 l2 k2) (hl1 : s.heap.IsTuple l1 xs) (hl2 : s.heap.IsList l2 ys) (hend : xs[k1]? = none ∨ ys[k2]? = none)
    (hE : ∀ h' e, (∀ c o, c ≠ z → c ≠ TO → c ≠ i1 → c ≠ i2 → s.heap.get? c = some o → h'.get? c = some o) → (∃ o, h'.get? e = some o ∧ o.cls = .type "StopIteration") → E (.ref e) { s with heap := h' }) :
    wpAny (model prog w) A (Builtin.«zip.__next__» ⟨[.ref z], []⟩) Q E s := by
  show wpAny _ _ (field (.ref z) 2 >>= _) _ _ _
  refine wpAny_bind (wpAny_field hz rfl (x := .bool false) rfl ?_)
  show wpAny _ _ (field (.ref z) 3 >>= _) _ _ _
  refine wpAny_bind (wpAny_field hz rfl (x := .ref TI) rfl ?_)
  refine wpAny_bind (wpAny_seqItems hTI rfl ?_)
  show wpAny _ _ (Builtin.SmallTypes.ownedTupleIsFree (.ref z) >>= _) _ _ _
  refine wpAny_bind ?_
  unfold Builtin.SmallTypes.ownedTupleIsFree
  refine wpAny_bind (wpAny_field hz rfl (x := .none) rfl (wpAny_pure ?_))
  simp only [if_true]
  refine wpAny_bind (wpAny_rule ?_)
  refine wpAny_bind (wpAny_field hz rfl (x := .ref TO) rfl ?_)
  refine wpAny_bind (wpAny_setField_rec hz (by simp) fun h₁ hz₁ hs₁ => ?_)
  replace hz₁ : IsZip h₁ z TI TO .ellipsis := hz₁
  refine wpAny_bind ?_
  simp only [List.zipIdx_cons, List.zipIdx_nil, List.forIn_cons, List.forIn_nil]
  refine wpAny_bind (wpAny_bind (wpAny_onRaise ?_))
  show wpAny _ _ (Builtin.SmallTypes.nextOf (.ref i1) >>= _) _ _ _
  cases hx : xs[k1]? with
  | none =>
    refine wpAny_bind (RZ.nextOf_tuple_end hh (h1.extBut hs₁.extBut D.i1z) (hl1.extBut hs₁.extBut D.l1z) hx fun h₂ e hs₂ he => ?_)
    obtain ⟨oe, hoe, hce⟩ := he
    have hz₂ : IsZip h₂ z TI TO .ellipsis := hs₂ _ _ D.i1z.symm hz₁
    have hez : e ≠ z := fun x => by subst x; rw [hz₂] at hoe; cases hoe; simp at hce
    refine wpAny_setField_rec hz₂ (by simp) fun h₃ _ hs₃ => hE h₃ e (fun c o c1 _ c3 _ x => hs₃.extBut _ _ c1 (hs₂ _ _ c3 (hs₁.extBut _ _ c1 x))) ⟨oe, hs₃.extBut _ _ hez hoe, hce⟩
  | some x =>
    have hy : ys[k2]? = none := by rcases hend with h | h; rw [hx] at h; cases h; exact h
    refine wpAny_bind (RZ.nextOf_tuple_item (h1.extBut hs₁.extBut D.i1z) (hl1.extBut hs₁.extBut D.l1z) hx fun h₂ h1₂ hs₂ => wpAny_pure ?_)
    have hTO₂ : IsPair h₂ TO a b := hs₂.extBut _ _ D.TOi1 (hs₁.extBut _ _ D.TOz hTO)
    refine wpAny_bind (wpAny_seqItems hTO₂ rfl ?_)
    refine wpAny_bind (wpAny_updateSeq_pair hTO₂ fun h₃ hTO₃ hs₃ => ?_)
    refine wpAny_bind (wpAny_letGo (wpAny_pure ?_))
    refine wpAny_bind (wpAny_bind (wpAny_onRaise ?_))
    show wpAny _ _ (Builtin.SmallTypes.nextOf (.ref i2) >>= _) _ _ _
    refine wpAny_bind (wpAny_nextOf_list_end hh (((h2.extBut hs₁.extBut D.i2z).extBut hs₂.extBut D.i12.symm).extBut hs₃.extBut D.TOi2.symm)
      (((hl2.extBut hs₁.extBut D.l2z).extBut hs₂.extBut D.l2i1).extBut hs₃.extBut D.l2TO) hy fun h₄ e hs₄ he => ?_)
    obtain ⟨oe, hoe, hce⟩ := he
    have hz₄ : IsZip h₄ z TI TO .ellipsis := hs₄ _ _ D.i2z.symm (hs₃.extBut _ _ D.TOz.symm (hs₂.extBut _ _ D.i1z.symm hz₁))
    have hez : e ≠ z := fun x => by subst x; rw [hz₄] at hoe; cases hoe; simp at hce
    refine wpAny_setField_rec hz₄ (by simp) fun h₅ _ hs₅ => hE h₅ e (fun c o c1 c2 c3 c4 x => hs₅.extBut _ _ c1 (hs₄ _ _ c4 (hs₃.extBut _ _ c2 (hs₂.extBut _ _ c3 (hs₁.extBut _ _ c1 x))))) ⟨oe, hs₅.extBut _ _ hez hoe, hce⟩

theorem pyNext_zipM_item {z TI TO i1 i2 l1 l2 : Addr} {k1 k2 : Nat} {xs ys : Array Value} {x y a b : Value} {Q : Option Value → Shared → Prop} (D : ZipApart z TI TO i1 i2 l1 l2)
    (hz : IsZip s.heap z TI TO .none) (hTI : IsPair s.heap TI (.ref i1) (.ref i2)) (hTO : IsPair s.heap TO a b)
    (h1 : s.heap.IsTupleIter i1 l1 k1) (h2 : s.heap.IsListIter i2 l2 k2) (hl1 : s.heap.IsTuple l1 xs) (hl2 : s.heap.IsList l2 ys) (hx : xs[k1]? = some x) (hy : ys[k2]? = some y)
    (hQ : ∀ h', IsZip h' z TI TO (rawInt s.heap.objs.size) → IsPair h' TO x y → h'.IsTupleIter i1 l1 (k1 + 1) → h'.IsListIter i2 l2 (k2 + 1) → IsPair h' s.heap.objs.size x y → h'.objs.size = s.heap.objs.size + 1 →
      (∀ c o, c ≠ z → c ≠ TO → c ≠ i1 → c ≠ i2 → s.heap.get? c = some o → h'.get? c = some o) → Q (some (.ref s.heap.objs.size)) { s with heap := h' }) :
    wpAny (model prog w) A (pyNext (.ref z)) Q E s := by
  have hT : s.TypeIs (.ref z) "zip" := ⟨_, hz, rfl⟩
  unfold pyNext
  exact wpAny_bind (wpAny_attempt (wpAny_callSpecial?_slot (name := Str.ofString "__next__") hT F.slot_zip_next
    (wpAny_call_entry F.slot_zip_next hT F.entry_zip_next
      (zipM_next_item D hz hTI hTO h1 h2 hl1 hl2 hx hy fun h' a1 a2 a3 a4 a5 a6 a7 => wpAny_pure (hQ h' a1 a2 a3 a4 a5 a6 a7)) (F.args_zip_next_1 _))))

theorem pyNext_zipM_end {z TI TO i1 i2 l1 l2 : Addr} {k1 k2 : Nat} {xs ys : Array Value} {a b : Value} {Q : Option Value → Shared → Prop} (hh : A.handled = none) (D : ZipApart z TI TO i1 i2 l1 l2)
    (hz : IsZip s.heap z TI TO .none) (hTI : IsPair s.heap TI (.ref i1) (.ref i2)) (hTO : IsPair s.heap TO a b)
    (h1 : s.heap.IsTupleIter i1 l1 k1) (h2 : s.heap.IsListIter i2 l2 k2) (hl1 : s.heap.IsTuple l1 xs) (hl2 : s.heap.IsList l2 ys) (hend : xs[k1]? = none ∨ ys[k2]? = none)
    (hQ : ∀ h', (∀ c o, c ≠ z → c ≠ TO → c ≠ i1 → c ≠ i2 → s.heap.get? c = some o → h'.get? c = some o) → Q none { s with heap := h' }) : wpAny (model prog w) A (pyNext (.ref z)) Q E s := by
  have hT : s.TypeIs (.ref z) "zip" := ⟨_, hz, rfl⟩
  unfold pyNext
  refine wpAny_bind (wpAny_attempt (wpAny_callSpecial?_slot (name := Str.ofString "__next__") hT F.slot_zip_next
    (wpAny_call_entry F.slot_zip_next hT F.entry_zip_next (zipM_next_end hh D hz hTI hTO h1 h2 hl1 hl2 hend fun h' e hk he => ?_) (F.args_zip_next_1 _))))
  obtain ⟨o, ho, hc⟩ := he
  refine wpAny_bind (wpAny_isInstance (T := "StopIteration") (b := true) ⟨o, ho, hc⟩ isSubtype_stop ?_)
  exact wpAny_pure (hQ _ hk)
theorem zipM_next_item_held {z TI TO T i1 i2 l1 l2 : Addr} {f : Bool} {oT : Obj} {k1 k2 : Nat} {xs ys : Array Value} {x y : Value} {Q : Value → Shared → Prop} (D : ZipApart z TI TO i1 i2 l1 l2)
    (hz : IsZipHeld s.heap z TI TO T f) (hT : s.heap.get? T = some oT) (hTI : IsPair s.heap TI (.ref i1) (.ref i2))
    (h1 : s.heap.IsTupleIter i1 l1 k1) (h2 : s.heap.IsListIter i2 l2 k2) (hl1 : s.heap.IsTuple l1 xs) (hl2 : s.heap.IsList l2 ys) (hx : xs[k1]? = some x) (hy : ys[k2]? = some y)
    (hQ : ∀ h', IsZipHeld h' z TI TO T true → h'.IsTupleIter i1 l1 (k1 + 1) → h'.IsListIter i2 l2 (k2 + 1) → IsPair h' s.heap.objs.size x y → h'.objs.size = s.heap.objs.size + 1 →
      (∀ c o, c ≠ z → c ≠ i1 → c ≠ i2 → s.heap.get? c = some o → h'.get? c = some o) → Q (.ref s.heap.objs.size) { s with heap := h' }) :
    wpAny (model prog w) A (Builtin.«zip.__next__» ⟨[.ref z], []⟩) (fun fin s' => ∃ v, fin = .done (.ret v) ∧ Q v s') E s := by
  show wpAny _ _ (field (.ref z) 2 >>= _) _ _ _
  refine wpAny_bind (wpAny_field hz rfl (x := .bool false) rfl ?_)
  show wpAny _ _ (field (.ref z) 3 >>= _) _ _ _
  refine wpAny_bind (wpAny_field hz rfl (x := .ref TI) rfl ?_)
  refine wpAny_bind (wpAny_seqItems hTI rfl ?_)
  show wpAny _ _ (Builtin.SmallTypes.ownedTupleIsFree (.ref z) >>= _) _ _ _
  refine wpAny_bind (wpAny_tupleHeld_zip hz hT fun h₁ hz₁ hs₁ => ?_)
  simp only [Bool.false_eq_true, if_false]
  refine wpAny_bind ?_
  rw [← Array.forIn_toList]
  simp only [List.forIn_cons, List.forIn_nil]
  refine wpAny_bind (wpAny_bind (wpAny_holding ?_))
  show wpAny _ _ (Builtin.SmallTypes.nextOf (.ref i1) >>= _) _ _ _
  refine wpAny_bind (RZ.nextOf_tuple_item (s := { s with heap := h₁ }) (h1.extBut hs₁.extBut D.i1z) (hl1.extBut hs₁.extBut D.l1z) hx fun h₂ h1₂ hs₂ => wpAny_pure ?_)
  refine wpAny_pure ?_
  refine wpAny_bind (wpAny_bind (wpAny_holding ?_))
  show wpAny _ _ (Builtin.SmallTypes.nextOf (.ref i2) >>= _) _ _ _
  refine wpAny_bind (wpAny_nextOf_list_item (s := { s with heap := h₂ }) ((h2.extBut hs₁.extBut D.i2z).extBut hs₂.extBut D.i12.symm) ((hl2.extBut hs₁.extBut D.l2z).extBut hs₂.extBut D.l2i1) hy fun h₃ h2₃ hs₃ => wpAny_pure ?_)
  refine wpAny_pure (wpAny_pure ?_)
  show wpAny _ _ (newTuple [x, y] >>= _) _ _ _
  refine wpAny_bind (wpAny_newTuple ?_)
  have hsz : h₃.objs.size = s.heap.objs.size := by rw [hs₃.1, hs₂.1, hs₁.1]
  have hz₃ : IsZipHeld h₃ z TI TO T true := hs₃.extBut _ _ D.i2z.symm (hs₂.extBut _ _ D.i1z.symm hz₁)
  have hk : ∀ c o, c ≠ z → c ≠ i1 → c ≠ i2 → s.heap.get? c = some o → h₃.get? c = some o := fun c o c1 c2 c3 e => hs₃.extBut _ _ c3 (hs₂.extBut _ _ c2 (hs₁.extBut _ _ c1 e))
  have h1₃ : h₃.IsTupleIter i1 l1 (k1 + 1) := h1₂.extBut hs₃.extBut D.i12
  refine wpAny_pure ⟨_, rfl, ?_⟩
  show Q (.ref h₃.objs.size) _
  have hp : IsPair (h₃.push { cls := .type "tuple", data := .seq #[x, y] }) h₃.objs.size x y := Heap.get?_push_size _ rfl
  have hz4 : (h₃.push { cls := .type "tuple", data := .seq #[x, y] }).objs.size = h₃.objs.size + 1 := Heap.size_push ..
  rw [hsz] at hp hz4 ⊢
  exact hQ _ (Heap.get?_push_of_some _ hz₃) (h1₃.at fun o e => Heap.get?_push_of_some _ e) (h2₃.at fun o e => Heap.get?_push_of_some _ e) hp hz4 fun c o c1 c2 c3 e => Heap.get?_push_of_some _ (hk c o c1 c2 c3 e)

theorem zipM_next_end_held {z TI TO T i1 i2 l1 l2 : Addr} {f : Bool} {oT : Obj} {k1 k2 : Nat} {xs ys : Array Value} {Q : Fin → Shared → Prop} (hh : A.handled = none) (D : ZipApart z TI TO i1 i2 l1 l2)
    (hz : IsZipHeld s.heap z TI TO T f) (hT : s.heap.get? T = some oT) (hTI : IsPair s.heap TI (.ref i1) (.ref i2))
    (h1 : s.heap.IsTupleIter i1 l1 k1) (h2 : s.heap.IsListIter i2 l2 k2) (hl1 : s.heap.IsTuple l1 xs) (hl2 : s.heap.IsList l2 ys) (hend : xs[k1]? = none ∨ ys[k2]? = none)
    (hE : ∀ h' e, (∀ c o, c ≠ z → c ≠ i1 → c ≠ i2 → s.heap.get? c = some o → h'.get? c = some o) → (∃ o, h'.get? e = some o ∧ o.cls = .type "StopIteration") → E (.ref e) { s with heap := h' }) :
    wpAny (model prog w) A (Builtin.«zip.__next__» ⟨[.ref z], []⟩) Q E s := by
  show wpAny _ _ (field (.ref z) 2 >>= _) _ _ _
  refine wpAny_bind (wpAny_field hz rfl (x := .bool false) rfl ?_)
  show wpAny _ _ (field (.ref z) 3 >>= _) _ _ _
  refine wpAny_bind (wpAny_field hz rfl (x := .ref TI) rfl ?_)
  refine wpAny_bind (wpAny_seqItems hTI rfl ?_)
  show wpAny _ _ (Builtin.SmallTypes.ownedTupleIsFree (.ref z) >>= _) _ _ _
  refine wpAny_bind (wpAny_tupleHeld_zip hz hT fun h₁ hz₁ hs₁ => ?_)
  simp only [Bool.false_eq_true, if_false]
  refine wpAny_bind ?_
  rw [← Array.forIn_toList]
  simp only [List.forIn_cons, List.forIn_nil]
  refine wpAny_bind (wpAny_bind (wpAny_holding ?_))
  show wpAny _ _ (Builtin.SmallTypes.nextOf (.ref i1) >>= _) _ _ _
  cases hx : xs[k1]? with
  | none =>
    refine wpAny_bind (RZ.nextOf_tuple_end (s := { s with heap := h₁ }) hh (h1.extBut hs₁.extBut D.i1z) (hl1.extBut hs₁.extBut D.l1z) hx fun h₂ e hs₂ he => ?_)
    exact hE h₂ e (fun c o c1 c2 _ x => hs₂ _ _ c2 (hs₁.extBut _ _ c1 x)) he
  | some x =>
    have hy : ys[k2]? = none := by rcases hend with h | h; rw [hx] at h; cases h; exact h
    refine wpAny_bind (RZ.nextOf_tuple_item (s := { s with heap := h₁ }) (h1.extBut hs₁.extBut D.i1z) (hl1.extBut hs₁.extBut D.l1z) hx fun h₂ h1₂ hs₂ => wpAny_pure ?_)
    refine wpAny_pure ?_
    refine wpAny_bind (wpAny_bind (wpAny_holding ?_))
    show wpAny _ _ (Builtin.SmallTypes.nextOf (.ref i2) >>= _) _ _ _
    refine wpAny_bind (wpAny_nextOf_list_end (s := { s with heap := h₂ }) hh ((h2.extBut hs₁.extBut D.i2z).extBut hs₂.extBut D.i12.symm) ((hl2.extBut hs₁.extBut D.l2z).extBut hs₂.extBut D.l2i1) hy fun h₃ e hs₃ he => ?_)
    exact hE h₃ e (fun c o c1 c2 c3 x => hs₃ _ _ c3 (hs₂.extBut _ _ c2 (hs₁.extBut _ _ c1 x))) he

theorem pyNext_zipM_item_held {z TI TO T i1 i2 l1 l2 : Addr} {f : Bool} {oT : Obj} {k1 k2 : Nat} {xs ys : Array Value} {x y : Value} {Q : Option Value → Shared → Prop} (D : ZipApart z TI TO i1 i2 l1 l2)
    (hz : IsZipHeld s.heap z TI TO T f) (hT : s.heap.get? T = some oT) (hTI : IsPair s.heap TI (.ref i1) (.ref i2))
    (h1 : s.heap.IsTupleIter i1 l1 k1) (h2 : s.heap.IsListIter i2 l2 k2) (hl1 : s.heap.IsTuple l1 xs) (hl2 : s.heap.IsList l2 ys) (hx : xs[k1]? = some x) (hy : ys[k2]? = some y)
    (hQ : ∀ h', IsZipHeld h' z TI TO T true → h'.IsTupleIter i1 l1 (k1 + 1) → h'.IsListIter i2 l2 (k2 + 1) → IsPair h' s.heap.objs.size x y → h'.objs.size = s.heap.objs.size + 1 →
      (∀ c o, c ≠ z → c ≠ i1 → c ≠ i2 → s.heap.get? c = some o → h'.get? c = some o) → Q (some (.ref s.heap.objs.size)) { s with heap := h' }) :
    wpAny (model prog w) A (pyNext (.ref z)) Q E s := by
  have hTy : s.TypeIs (.ref z) "zip" := ⟨_, hz, rfl⟩
  unfold pyNext
  exact wpAny_bind (wpAny_attempt (wpAny_callSpecial?_slot (name := Str.ofString "__next__") hTy F.slot_zip_next
    (wpAny_call_entry F.slot_zip_next hTy F.entry_zip_next
      (zipM_next_item_held D hz hT hTI h1 h2 hl1 hl2 hx hy fun h' a1 a3 a4 a5 a6 a7 => wpAny_pure (hQ h' a1 a3 a4 a5 a6 a7)) (F.args_zip_next_1 _))))
theorem pyNext_zipM_end_held {z TI TO T i1 i2 l1 l2 : Addr} {f : Bool} {oT : Obj} {k1 k2 : Nat} {xs ys : Array Value} {Q : Option Value → Shared → Prop} (hh : A.handled = none) (D : ZipApart z TI TO i1 i2 l1 l2)
    (hz : IsZipHeld s.heap z TI TO T f) (hT : s.heap.get? T = some oT) (hTI : IsPair s.heap TI (.ref i1) (.ref i2))
    (h1 : s.heap.IsTupleIter i1 l1 k1) (h2 : s.heap.IsListIter i2 l2 k2) (hl1 : s.heap.IsTuple l1 xs) (hl2 : s.heap.IsList l2 ys) (hend : xs[k1]? = none ∨ ys[k2]? = none)
    (hQ : ∀ h', (∀ c o, c ≠ z → c ≠ i1 → c ≠ i2 → s.heap.get? c = some o → h'.get? c = some o) → Q none { s with heap := h' }) : wpAny (model prog w) A (pyNext (.ref z)) Q E s := by
  have hTy : s.TypeIs (.ref z) "zip" := ⟨_, hz, rfl⟩
  unfold pyNext
  refine wpAny_bind (wpAny_attempt (wpAny_callSpecial?_slot (name := Str.ofString "__next__") hTy F.slot_zip_next
    (wpAny_call_entry F.slot_zip_next hTy F.entry_zip_next (zipM_next_end_held hh D hz hT hTI h1 h2 hl1 hl2 hend fun h' e hk he => ?_) (F.args_zip_next_1 _))))
  obtain ⟨o, ho, hc⟩ := he
  refine wpAny_bind (wpAny_isInstance (T := "StopIteration") (b := true) ⟨o, ho, hc⟩ isSubtype_stop ?_)
  exact wpAny_pure (hQ _ hk)

end
abbrev zipMH1 (h : Heap) (l1 : Addr) : Heap := h.push { cls := .type "tuple_iterator", data := .fields #[.ref l1, .int 0 0] }
abbrev zipMH2 (h : Heap) (l1 l2 : Addr) : Heap := (zipMH1 h l1).push { cls := .type "list_iterator", data := .fields #[.ref l2, .int 0 0] }
abbrev zipMH3 (h : Heap) (l1 l2 : Addr) : Heap := (zipMH2 h l1 l2).push { cls := .type "tuple", data := .seq #[.ref h.objs.size, .ref (zipMH1 h l1).objs.size] }
abbrev zipMH4 (h : Heap) (l1 l2 : Addr) : Heap := (zipMH3 h l1 l2).push { cls := .type "tuple", data := .seq #[.none, .none] }
abbrev zipMH5 (h : Heap) (l1 l2 : Addr) : Heap := (zipMH4 h l1 l2).push { cls := .type "zip", data := .fields #[.none, .bool false, .bool false, .ref (zipMH2 h l1 l2).objs.size, .ref (zipMH3 h l1 l2).objs.size] }

theorem meets_zipM_new (l1 l2 : Addr) (xs ys : Array Value) :
    Meets (Builtin.«zip.__new__» ⟨[.type "zip", .ref l1, .ref l2], []⟩) (fun _ R s => s.heap.IsTuple l1 xs ∧ s.heap.IsList l2 ys ∧
      R (.ok (.ret (.ref (zipMH4 s.heap l1 l2).objs.size))) { s with heap := zipMH5 s.heap l1 l2 }) :=
  .of_wp fun prog w A R s h => by
    obtain ⟨hp, g, d, tk, os⟩ := s; obtain ⟨hl1, hl2, h⟩ := h
    have hsub := sub_zip
    have hL1 : Heap.IsTuple (Shared.heap ⟨hp, g, d, tk, os⟩) l1 xs := hl1
    have hL2 : Heap.IsList (Shared.heap ⟨hp.push { cls := .type "tuple_iterator", data := .fields #[.ref l1, .int 0 0] }, g, d, tk, os⟩) l2 ys := Heap.IsList.push hl2 _
    wp_walk using wpAny_pyIter_tuple hL1, wpAny_pyIter_list hL2
    exact ⟨_, rfl, h⟩

section
variable {prog : Program} {w : World} {A : Around} {E : Value → Shared → Prop} {s : Shared}

theorem call_zipM {l1 l2 : Addr} {xs ys : Array Value} {Q : Value → Shared → Prop} (hl1 : s.heap.IsTuple l1 xs) (hl2 : s.heap.IsList l2 ys)
    (h : ∀ h', IsZip h' (s.heap.objs.size + 4) (s.heap.objs.size + 2) (s.heap.objs.size + 3) .none → IsPair h' (s.heap.objs.size + 2) (.ref s.heap.objs.size) (.ref (s.heap.objs.size + 1)) →
      IsPair h' (s.heap.objs.size + 3) .none .none → h'.IsTupleIter s.heap.objs.size l1 0 → h'.IsListIter (s.heap.objs.size + 1) l2 0 → h'.objs.size = s.heap.objs.size + 5 →
      (∀ c o, s.heap.get? c = some o → h'.get? c = some o) → Q (.ref (s.heap.objs.size + 4)) { s with heap := h' }) :
    wpAny (model prog w) A (call (.type "zip") [.ref l1, .ref l2]) Q E s := by
  refine callType_new F.called_zip (by decide) (F.typeCall_zip_2 _ _) (F.newCall_zip_2 _ _) (fun obj => F.args_object_init_3 obj _ _) F.entry_zip_new
    (meets_zipM_new l1 l2 xs ys) ⟨hl1, hl2, ?_⟩
  have z1 : (zipMH1 s.heap l1).objs.size = s.heap.objs.size + 1 := Heap.size_push ..
  have z2 : (zipMH2 s.heap l1 l2).objs.size = s.heap.objs.size + 2 := by rw [Heap.size_push, z1]
  have z3 : (zipMH3 s.heap l1 l2).objs.size = s.heap.objs.size + 3 := by rw [Heap.size_push, z2]
  have z4 : (zipMH4 s.heap l1 l2).objs.size = s.heap.objs.size + 4 := by rw [Heap.size_push, z3]
  have z5 : (zipMH5 s.heap l1 l2).objs.size = s.heap.objs.size + 5 := by rw [Heap.size_push, z4]
  have g5 : (zipMH5 s.heap l1 l2).get? (zipMH4 s.heap l1 l2).objs.size = some _ := Heap.get?_push_size _ rfl
  have g4 : (zipMH5 s.heap l1 l2).get? (zipMH3 s.heap l1 l2).objs.size = some _ := Heap.get?_push_of_some _ (Heap.get?_push_size _ rfl)
  have g3 : (zipMH5 s.heap l1 l2).get? (zipMH2 s.heap l1 l2).objs.size = some _ := Heap.get?_push_of_some _ (Heap.get?_push_of_some _ (Heap.get?_push_size _ rfl))
  have g2 : (zipMH5 s.heap l1 l2).get? (zipMH1 s.heap l1).objs.size = some _ := Heap.get?_push_of_some _ (Heap.get?_push_of_some _ (Heap.get?_push_of_some _ (Heap.get?_push_size _ rfl)))
  have g1 : (zipMH5 s.heap l1 l2).get? s.heap.objs.size = some _ := Heap.get?_push_of_some _ (Heap.get?_push_of_some _ (Heap.get?_push_of_some _ (Heap.get?_push_of_some _ (Heap.get?_push_size _ rfl))))
  show _ ∧ _
  rw [z2, z3, z4] at g5
  rw [z1, z2] at g3
  rw [z3] at g4
  rw [z1] at g2
  rw [z4]
  exact ⟨⟨_, g5, rfl⟩, h _ g5 g3 g4 ⟨_, g1, rfl, rfl⟩ ⟨_, g2, rfl, rfl⟩ z5 fun c o x =>
    Heap.get?_push_of_some _ (Heap.get?_push_of_some _ (Heap.get?_push_of_some _ (Heap.get?_push_of_some _ (Heap.get?_push_of_some _ x))))⟩
end
end Zm

set_option maxRecDepth 100000
set_option maxHeartbeats 4000000
namespace Zm
open PySem PySem.Spec PyProof.Rows L2
open PySem (IsZip IsPair IsZipHeld ZipApart)
theorem zip_no_len : typeLookup (.type "zip") "__len__" = pure none := by rw [typeLookup_type, builtinLookup_eq_fast]; kernel_rfl
theorem zip_no_hint : typeLookup (.type "zip") "__length_hint__" = pure none := by rw [typeLookup_type, builtinLookup_eq_fast]; kernel_rfl
/-- the zip over the tuple a and the list b, i pairs out, which are Ts -/
def Zw (z TI TO i1 i2 a b : Addr) (i : Nat) (Ts : List Addr) (h : Heap) : Prop :=
  IsPair h TI (.ref i1) (.ref i2) ∧ h.IsTupleIter i1 a i ∧ h.IsListIter i2 b i ∧ ((Ts = [] ∧ IsZip h z TI TO .none ∧ ∃ x y, IsPair h TO x y) ∨ ∃ T r f o, Ts = T :: r ∧ IsZipHeld h z TI TO T f ∧ h.get? T = some o)
theorem Zw.keep {z TI TO i1 i2 a b : Addr} {i : Nat} {Ts : List Addr} {h h' : Heap} (w : Zw z TI TO i1 i2 a b i Ts h) (k : ∀ c o, h.get? c = some o → (c = z ∨ c = TI ∨ c = TO ∨ c = i1 ∨ c = i2 ∨ c ∈ Ts) → h'.get? c = some o) : Zw z TI TO i1 i2 a b i Ts h' := by
  obtain ⟨hTI, h1, h2, hw⟩ := w
  refine ⟨k _ _ hTI (by simp), h1.at fun o e => k _ o e (by simp), h2.at fun o e => k _ o e (by simp), ?_⟩
  rcases hw with ⟨e, hz, x, y, hTO⟩ | ⟨T, r, f, o, e, hz, hT⟩
  · exact .inl ⟨e, k _ _ hz (by simp), x, y, k _ _ hTO (by simp)⟩
  · exact .inr ⟨T, r, f, o, e, k _ _ hz (by simp), k _ _ hT (by simp [e])⟩
theorem Zw.ty {z TI TO i1 i2 a b : Addr} {i : Nat} {Ts : List Addr} {s : Shared} (w : Zw z TI TO i1 i2 a b i Ts s.heap) : s.TypeIs (.ref z) "zip" := by
  obtain ⟨_, _, _, hw⟩ := w
  rcases hw with ⟨e, hz, _⟩ | ⟨T, r, f, o, e, hz, hT⟩
  · exact ⟨_, hz, rfl⟩
  · exact ⟨_, hz, rfl⟩
/-- what has been made -/
structure Pz (H0 : Hp) (vs us : List V) (Ts : List Addr) (H : Hp) : Prop where
  kp : ∀ b u, H0 b = some u → H b = some u
  ts : ∀ (j : Nat) (T : Addr), Ts[j]? = some T → H0 T = none ∧ ∃ x y, vs[j]? = some x ∧ us[j]? = some y ∧ H T = some (.tup [x, y])
section
variable {X : Cx} {pins : List (Addr × Obj)} {σ : L2.St} {H0 : Hp} {vs us : List V} {z TI TO i1 i2 a b S : Addr} {R : Result → Shared → Prop}
def zch (z TI TO i1 i2 : Addr) : List Addr := [z, TI, TO, i1, i2]
theorem zl_loop {A : Around} (hh : A.handled = none) (D : ZipApart z TI TO i1 i2 a b) (hS : S ∉ zch z TI TO i1 i2) (hn : vs.length ≤ sizeLine) (hl : vs.length = us.length) (ha : SqT X.K H0 a vs) (hb : SqL X.K H0 b us) (res : Value) :
    ∀ (k i : Nat) (s : Shared) (Ts : List Addr) (H : Hp) (c : Nat), vs.length - i = k → i ≤ vs.length → Ts.length = i → Inv X pins σ H s → Pz H0 vs us Ts H → (SqT X.K H a vs ∧ SqL X.K H b us) → (∀ q ∈ S :: zch z TI TO i1 i2, FpOk X pins H q ∧ q < s.heap.objs.size) → Zw z TI TO i1 i2 a b i Ts s.heap →
      s.heap.get? S = some { cls := .type "list", dict := none, data := .seq (Ts.map Value.ref).toArray c, slots := #[] } → (∀ T ∈ Ts, T ≠ S ∧ T ∉ zch z TI TO i1 i2) →
      (∀ s' Ts' H' c', Ts'.length = vs.length → Inv X pins σ H' s' → Pz H0 vs us Ts' H' → s'.heap.get? S = some { cls := .type "list", dict := none, data := .seq (Ts'.map Value.ref).toArray c', slots := #[] } → R (.ok (.ret res)) s') →
      codeAny (model X.prog X.w) A (.builtin "list.extend.loop" ⟨[.ref S, .ref z, res], []⟩) R s := by
  intro k
  induction k with
  | zero =>
    intro i s Ts H c hk hi hTl I P hq hfp w eS hTs hR
    obtain ⟨hqa, hqb⟩ := hq
    have hin : i = vs.length := by omega
    obtain ⟨its, rv, p, _⟩ := I.tuple hqa
    obtain ⟨its2, rv2, p2, _⟩ := I.list hqb
    have l1 := rv.length
    have l2 := rv2.length
    have hend : its.toArray[i]? = none ∨ its2.toArray[i]? = none := .inl (by simp; omega)
    have hfp' : ∀ q ∈ zch z TI TO i1 i2, FpOk X pins H q := fun q hq => (hfp q (List.mem_cons_of_mem _ hq)).1
    refine codeAny_builtin F.entry_extend_loop ?_
    rw [Around.under_plainId F.plain_extend_loop _]
    show wpAny _ A.in1 (pyNext (.ref z) >>= _) _ _ s
    have hh1 : A.in1.handled = none := hh
    have fin : ∀ h', (∀ c o, c ≠ z → c ≠ TO → c ≠ i1 → c ≠ i2 → s.heap.get? c = some o → h'.get? c = some o) → R (.ok (.ret res)) { s with heap := h' } := fun h' hk' => by
      have I1 : Inv X pins σ H { s with heap := h' } := I.turnedL (t' := s.toks) (ch := zch z TI TO i1 i2) (fun c o hb q => hk' c o (fun e => hb (by simp [zch, e])) (fun e => hb (by simp [zch, e])) (fun e => hb (by simp [zch, e])) (fun e => hb (by simp [zch, e])) q) hfp'
      refine hR _ Ts H c (by omega) I1 P (hk' S _ (fun e => hS (by simp [zch, e])) (fun e => hS (by simp [zch, e])) (fun e => hS (by simp [zch, e])) (fun e => hS (by simp [zch, e])) eS)
    obtain ⟨hTI, h1, h2, hw⟩ := w
    rcases hw with ⟨e, hz, x, y, hTO⟩ | ⟨T, r, f, o, e, hz, hT⟩
    · exact wpAny_bind (pyNext_zipM_end hh1 D hz hTI hTO h1 h2 p p2.isList hend fun h' hk' => wpAny_pure (fin h' hk'))
    · exact wpAny_bind (pyNext_zipM_end_held hh1 D hz hT hTI h1 h2 p p2.isList hend fun h' hk' => wpAny_pure (fin h' fun c o c1 _ c3 c4 q => hk' c o c1 c3 c4 q))
  | succ k ih =>
    intro i s Ts H c hk hi hTl I P hq hfp w eS hTs hR
    obtain ⟨hqa, hqb⟩ := hq
    have hlt : i < vs.length := by omega
    obtain ⟨its, rv, p, _⟩ := I.tuple hqa
    obtain ⟨its2, rv2, p2, _⟩ := I.list hqb
    obtain ⟨u, hu, ru⟩ := rv.get (List.getElem?_eq_getElem hlt)
    obtain ⟨u2, hu2, ru2⟩ := rv2.get (List.getElem?_eq_getElem (show i < us.length by omega))
    have hfp' : ∀ q ∈ zch z TI TO i1 i2, FpOk X pins H q := fun q hq => (hfp q (List.mem_cons_of_mem _ hq)).1
    have nS : S ≠ s.heap.objs.size := Nat.ne_of_lt (hfp S (by simp)).2
    refine codeAny_builtin F.entry_extend_loop ?_
    rw [Around.under_plainId F.plain_extend_loop _]
    show wpAny _ A.in1 (pyNext (.ref z) >>= _) _ _ s
    have key : ∀ h', (∃ f, IsZipHeld h' z TI TO (Ts ++ [s.heap.objs.size])[0]! f) → h'.IsTupleIter i1 a (i + 1) → h'.IsListIter i2 b (i + 1) → IsPair h' s.heap.objs.size u u2 → h'.objs.size = s.heap.objs.size + 1 →
        (∀ c o, c ≠ z → c ≠ TO → c ≠ i1 → c ≠ i2 → s.heap.get? c = some o → h'.get? c = some o) →
        wpAny (model X.prog X.w) A.in1 (updateSeq S (·.push (.ref s.heap.objs.size))) (fun _ s' => codeAny (model X.prog X.w) A (.builtin "list.extend.loop" ⟨[.ref S, .ref z, res], []⟩) R s') (fun e s' => R (.error e) s') { s with heap := h' } := by
      rintro h' ⟨f, hz'⟩ h1' h2' hT' hsz hk'
      have hkz : ∀ c o, c ∉ zch z TI TO i1 i2 → s.heap.get? c = some o → h'.get? c = some o := fun c o hb q => hk' c o (fun e => hb (by simp [zch, e])) (fun e => hb (by simp [zch, e])) (fun e => hb (by simp [zch, e])) (fun e => hb (by simp [zch, e])) q
      have new : ObjOk X.prog X.w (upd H s.heap.objs.size (.tup [vs[i], us[i]])) h' s.heap.objs.size (.tup [vs[i], us[i]]) :=
        ⟨by show 2 ≤ sizeLine; decide, [u, u2], .cons ru (.cons ru2 .nil), ⟨_, hT', rfl, _, rfl⟩⟩
      have nT : H s.heap.objs.size = none := I.hok.fresh (Nat.le_refl _)
      have I1 : Inv X pins σ (upd H s.heap.objs.size (.tup [vs[i], us[i]])) { s with heap := h' } := I.turnedNew (t' := s.toks) (ch := zch z TI TO i1 i2) hkz hfp' (Nat.le_refl _) new
      have eS' := hkz S _ hS eS
      refine wpAny_updateSeq eS' rfl ?_ (by simp; omega) (by show ((Ts.map Value.ref).toArray.push _).size ≤ sizeLine + 1; simp; omega)
      have eS2 := Heap.get?_update_self (Obj.mapSeq (·.push (Value.ref s.heap.objs.size))) eS' rfl
      have oth : ∀ c, c ≠ S → (h'.update S (Obj.mapSeq (·.push (Value.ref s.heap.objs.size)))).get? c = h'.get? c := fun c hc => Heap.get?_update_other _ _ (Ne.symm hc)
      have FS : FpOk X pins (upd H s.heap.objs.size (.tup [vs[i], us[i]])) S := ⟨by rw [upd_ne nS]; exact (hfp S (by simp)).1.1, (hfp S (by simp)).1.2⟩
      obtain ⟨f0, f1, f2, f3, f4, f5⟩ := id FS
      have I2 : Inv X pins σ (upd H s.heap.objs.size (.tup [vs[i], us[i]])) { s with heap := h'.update S (Obj.mapSeq (·.push (Value.ref s.heap.objs.size))) } := I1.turned (t' := s.toks) (fun c o hc e => (oth c hc).trans e) f0 f1 f3 f4 f5
      have kq : ∀ b u, H b = some u → (upd H s.heap.objs.size (.tup [vs[i], us[i]])) b = some u := fun b u e => by
        rw [upd_ne (fun q => by rw [q, nT] at e; cases e)]; exact e
      have ts0 : ∀ T ∈ Ts, T ≠ s.heap.objs.size := fun T hT e => by
        obtain ⟨j, hj, ej⟩ := List.mem_iff_getElem.mp hT
        obtain ⟨_, x, y, _, _, q⟩ := P.ts j T (by rw [List.getElem?_eq_getElem hj, ej])
        rw [e, nT] at q
        cases q
      have eA : ((Ts ++ [s.heap.objs.size]).map Value.ref).toArray = (Ts.map Value.ref).toArray.push (.ref s.heap.objs.size) := by simp
      obtain ⟨c2, eS3⟩ : ∃ c2, (h'.update S (Obj.mapSeq (·.push (Value.ref s.heap.objs.size)))).get? S = some { cls := .type "list", dict := none, data := .seq ((Ts ++ [s.heap.objs.size]).map Value.ref).toArray c2, slots := #[] } := ⟨_, by rw [eA]; exact eS2⟩
      refine ih (i + 1) _ (Ts ++ [s.heap.objs.size]) _ c2 (by omega) hlt (by simp [hTl]) I2 ⟨fun b u e => kq b u (P.kp b u e), fun j T hj => ?_⟩ ⟨?_, ?_⟩ (fun q hq => ?_) ?_ ?_ (fun T hT => ?_) hR
      · by_cases hjl : j < Ts.length
        · rw [List.getElem?_append_left hjl] at hj
          obtain ⟨q0, x, y, q1, q2, q3⟩ := P.ts j T hj
          exact ⟨q0, x, y, q1, q2, kq _ _ q3⟩
        · rw [List.getElem?_append_right (by omega)] at hj
          have hj0 : j - Ts.length = 0 := by
            cases hjj : j - Ts.length with
            | zero => rfl
            | succ m => rw [hjj] at hj; simp at hj
          rw [hj0] at hj
          have ej : j = i := by omega
          have eT : T = s.heap.objs.size := by simpa using hj.symm
          subst ej eT
          refine ⟨?_, vs[j], us[j]'(by omega), List.getElem?_eq_getElem hlt, List.getElem?_eq_getElem _, upd_same⟩
          cases q : H0 s.heap.objs.size with
          | none => rfl
          | some u => rw [P.kp _ _ q] at nT; cases nT
      · rcases ha with q | q
        · exact .inl (q.imp (fun e => kq _ _ (P.kp _ _ e)) fun ⟨o, e⟩ => ⟨o, kq _ _ (P.kp _ _ e)⟩)
        · exact .inr q
      · rcases hb with q | q
        · exact .inl (q.imp (fun e => kq _ _ (P.kp _ _ e)) fun ⟨o, e⟩ => ⟨o, kq _ _ (P.kp _ _ e)⟩)
        · exact .inr q
      · have hql := (hfp q hq).2
        refine ⟨⟨by rw [upd_ne (Nat.ne_of_lt hql)]; exact (hfp q hq).1.1, (hfp q hq).1.2⟩, ?_⟩
        show q < (h'.update S _).objs.size
        rw [Heap.size_update, hsz]; exact Nat.lt_succ_of_lt hql
      · have hTI' : IsPair h' TI (.ref i1) (.ref i2) := hk' _ _ D.TIz D.TITO D.TIi1 D.TIi2 w.1
        have w' : Zw z TI TO i1 i2 a b (i + 1) (Ts ++ [s.heap.objs.size]) h' := by
          refine ⟨hTI', h1', h2', .inr ?_⟩
          cases hTs0 : Ts with
          | nil =>
            rw [hTs0] at hz'
            exact ⟨s.heap.objs.size, [], f, _, rfl, hz', hT'⟩
          | cons T r =>
            rw [hTs0] at hz'
            have hTm := hTs T (by rw [hTs0]; simp)
            obtain ⟨_, _, _, hw⟩ := w
            rcases hw with ⟨e, _⟩ | ⟨T2, r2, f2, o2, e, _, q⟩
            · rw [hTs0] at e; cases e
            · rw [hTs0] at e
              cases e
              exact ⟨T, r ++ [s.heap.objs.size], f, o2, rfl, hz', hkz T _ hTm.2 q⟩
        refine w'.keep fun c o q hc => ?_
        refine (oth c ?_).trans q
        rcases hc with e | e | e | e | e | hc
        · exact fun q => hS (by rw [← q, e]; simp [zch])
        · exact fun q => hS (by rw [← q, e]; simp [zch])
        · exact fun q => hS (by rw [← q, e]; simp [zch])
        · exact fun q => hS (by rw [← q, e]; simp [zch])
        · exact fun q => hS (by rw [← q, e]; simp [zch])
        · rcases List.mem_append.mp hc with hc | hc
          · exact (hTs c hc).1
          · rw [List.mem_singleton.mp hc]; exact Ne.symm nS
      · exact eS3
      · rcases List.mem_append.mp hT with hT | hT
        · exact hTs T hT
        · rw [List.mem_singleton.mp hT]
          exact ⟨Ne.symm nS, fun hm => absurd (hfp _ (List.mem_cons_of_mem _ hm)).2 (Nat.lt_irrefl _)⟩
    obtain ⟨hTI, h1, h2, hw⟩ := w
    rcases hw with ⟨e, hz, x, y, hTO⟩ | ⟨T, r, f, o, e, hz, hT⟩
    · refine wpAny_bind (pyNext_zipM_item D hz hTI hTO h1 h2 p p2.isList (x := u) (y := u2) (by simpa using hu) (by simpa using hu2) fun h' z' TO' h1' h2' hT' hsz hk' => ?_)
      show wpAny _ A.in1 (updateSeq S (·.push (.ref s.heap.objs.size)) >>= _) _ _ _
      refine wpAny_bind (wpAny_mono (key h' ⟨false, by rw [e]; exact z'⟩ h1' h2' hT' hsz hk') (fun _ s' q => ?_) fun _ _ q => q)
      exact wpAny_pure ⟨plainId_quiet F.plain_extend_loop _, q⟩
    · refine wpAny_bind (pyNext_zipM_item_held D hz hT hTI h1 h2 p p2.isList (x := u) (y := u2) (by simpa using hu) (by simpa using hu2) fun h' z' h1' h2' hT' hsz hk' => ?_)
      show wpAny _ A.in1 (updateSeq S (·.push (.ref s.heap.objs.size)) >>= _) _ _ _
      refine wpAny_bind (wpAny_mono (key h' ⟨true, by rw [e]; exact z'⟩ h1' h2' hT' hsz fun c o c1 _ c3 c4 q => hk' c o c1 c3 c4 q) (fun _ s' q => ?_) fun _ _ q => q)
      exact wpAny_pure ⟨plainId_quiet F.plain_extend_loop _, q⟩
/-- the list that collects -/
theorem zl_collect {A : Around} {E : Value → Shared → Prop} {Q : List Value → Shared → Prop} {s : Shared} (hh : A.handled = none) (D : ZipApart z TI TO i1 i2 a b) (hn : vs.length ≤ sizeLine) (hl : vs.length = us.length) (I : Inv X pins σ H0 s) (ha : SqT X.K H0 a vs) (hb : SqL X.K H0 b us)
    (hfp : ∀ q ∈ zch z TI TO i1 i2, FpOk X pins H0 q ∧ q < s.heap.objs.size) (w : Zw z TI TO i1 i2 a b 0 [] s.heap)
    (hQ : ∀ s' Ts' H', Ts'.length = vs.length → Inv X pins σ H' s' → Pz H0 vs us Ts' H' → Q (Ts'.map Value.ref) s') : wpAny (model X.prog X.w) A (collect (.ref z)) Q E s := by
  have lt5 : ∀ q ∈ zch z TI TO i1 i2, q < s.heap.objs.size := fun q hq => (hfp q hq).2
  have hS : s.heap.objs.size ∉ zch z TI TO i1 i2 := fun hm => Nat.lt_irrefl _ (lt5 _ hm)
  have hSz : s.heap.objs.size ≠ z := fun e => hS (by rw [e]; simp [zch])
  unfold collect
  refine wpAny_bind (wpAny_runValue (codeAny_builtin F.entry_proto_collect ?_))
  rw [Around.under_plainId F.plain_proto_collect _]
  show wpAny _ A.in1 (newList [] >>= fun l => again (.builtin "list.__iadd__" ⟨[l, .ref z], []⟩)) _ _ s
  refine wpAny_bind (wpAny_newObj_type ?_)
  refine wpAny_pure ⟨plainId_quiet F.plain_list_iadd _, codeAny_builtin F.entry_list_iadd ?_⟩
  rw [Around.under_plainId F.plain_list_iadd _]
  generalize hp : s.heap.push { cls := .type "list", data := .seq ([] : List Value).toArray } = hp1
  have kp1 : ∀ c o, s.heap.get? c = some o → hp1.get? c = some o := fun c o e => by rw [← hp]; exact Heap.get?_push_of_some _ e
  have I1 : Inv X pins σ H0 { s with heap := hp1 } := I.kept (t' := s.toks) kp1
  have hsz1 : hp1.objs.size = s.heap.objs.size + 1 := by rw [← hp, Heap.size_push]
  have w1 : Zw z TI TO i1 i2 a b 0 [] hp1 := w.keep fun c o e _ => kp1 c o e
  have nS : H0 s.heap.objs.size = none := I.hok.fresh (Nat.le_refl _)
  have FS : FpOk X pins H0 s.heap.objs.size := I.fpOk (Nat.le_refl _) nS
  have hS1 : hp1.get? s.heap.objs.size = some { cls := .type "list", data := .seq ([] : List Value).toArray } := by rw [← hp]; exact Heap.get?_push_size _ rfl
  show wpAny _ A.in1 (Builtin.List.listExtendWith (.ref s.heap.objs.size) (.ref z) (.ref s.heap.objs.size)) _ _ { s with heap := hp1 }
  unfold Builtin.List.listExtendWith
  have ty1 : Shared.TypeIs { s with heap := hp1 } (.ref z) "zip" := w1.ty (s := { s with heap := hp1 })
  refine wpAny_bind (wpAny_typeOf ty1 ?_)
  have h1 : Builtin.List.listSameRef (.ref s.heap.objs.size) (.ref z) = false := by simp [Builtin.List.listSameRef, hSz]
  have h2 : (Value.type "zip" == Value.type "list") = false := by decide
  have h3 : (Value.type "zip" == Value.type "tuple") = false := by decide
  simp only [h1, h2, h3, Bool.or_false, Bool.false_eq_true, if_false]
  obtain ⟨_, _, _, hw⟩ := id w1
  obtain ⟨hz, _⟩ : IsZip hp1 z TI TO .none ∧ True := by
    rcases hw with ⟨_, hz, _⟩ | ⟨T, r, f, o, e, _⟩
    · exact ⟨hz, trivial⟩
    · cases e
  refine wpAny_bind (wpAny_pyIter_zip hz ?_)
  refine wpAny_bind (wpAny_holding ?_)
  unfold Builtin.List.listLengthHint
  refine wpAny_bind (wpAny_specialOf ty1 zip_no_len ?_)
  show wpAny _ A.in1 (specialOf (Value.ref z) (Str.ofString "__length_hint__") >>= _) _ _ _
  refine wpAny_bind (wpAny_specialOf ty1 zip_no_hint ?_)
  refine wpAny_pure ?_
  show wpAny _ A.in1 (rule "list.extend.makes-room" >>= fun _ => Builtin.List.listTouch (.ref s.heap.objs.size) >>= fun _ =>
    again (.builtin "list.extend.loop" ⟨[.ref s.heap.objs.size, .ref z, .ref s.heap.objs.size], []⟩)) _ _ _
  refine wpAny_bind (wpAny_rule ?_)
  refine wpAny_bind ?_
  show wpAny _ A.in1 (updateSeq s.heap.objs.size (·.push .none) >>= fun _ => updateSeq s.heap.objs.size (·.pop)) _ _ _
  refine wpAny_bind (wpAny_updateSeq hS1 rfl ?_)
  have hS2 := Heap.get?_update_self (Obj.mapSeq (·.push Value.none)) hS1 rfl
  refine wpAny_updateSeq hS2 rfl ?_
  have hS3 := Heap.get?_update_self (Obj.mapSeq (·.pop)) hS2 rfl
  have oth : ∀ c, c ≠ s.heap.objs.size → ((hp1.update s.heap.objs.size (Obj.mapSeq (·.push Value.none))).update s.heap.objs.size (Obj.mapSeq (·.pop))).get? c = hp1.get? c := fun c hc =>
    (Heap.get?_update_other _ _ (Ne.symm hc)).trans (Heap.get?_update_other _ _ (Ne.symm hc))
  obtain ⟨f0, f1, f2, f3, f4, f5⟩ := id FS
  have I2 : Inv X pins σ H0 { s with heap := (hp1.update s.heap.objs.size (Obj.mapSeq (·.push Value.none))).update s.heap.objs.size (Obj.mapSeq (·.pop)) } :=
    I1.turned (t' := s.toks) (fun c o hc e => (oth c hc).trans e) f0 f1 f3 f4 f5
  refine wpAny_pure ⟨plainId_quiet F.plain_extend_loop _, zl_loop (X := X) (H0 := H0) (vs := vs) (us := us) hh D hS hn hl ha hb _ vs.length 0 _ [] H0 _ (by omega) (Nat.zero_le _) rfl I2 ⟨fun _ _ e => e, fun j T e => by simp at e⟩ ⟨ha, hb⟩ (fun q hq => ?_) (w1.keep fun c o e hc => (oth c ?_).trans e) hS3 (fun T hT => by simp at hT) fun s' Ts' H' c' hl' I' P' eS' => ?_⟩
  · have hs2 : ((hp1.update s.heap.objs.size (Obj.mapSeq (·.push Value.none))).update s.heap.objs.size (Obj.mapSeq (·.pop))).objs.size = s.heap.objs.size + 1 := by rw [Heap.size_update, Heap.size_update, hsz1]
    suffices hh : FpOk X pins H0 q ∧ q < s.heap.objs.size + 1 by
      rw [← hs2] at hh
      exact hh
    rcases List.mem_cons.mp hq with e | hq
    · rw [e]; exact ⟨FS, Nat.lt_succ_self _⟩
    · exact ⟨(hfp q hq).1, Nat.lt_succ_of_lt (lt5 q hq)⟩
  · refine fun q => ?_
    rcases hc with e | e | e | e | e | hc
    · exact hS (by rw [← q, e]; simp [zch])
    · exact hS (by rw [← q, e]; simp [zch])
    · exact hS (by rw [← q, e]; simp [zch])
    · exact hS (by rw [← q, e]; simp [zch])
    · exact hS (by rw [← q, e]; simp [zch])
    · simp at hc
  · show wpAny _ A (load s.heap.objs.size >>= _) _ _ s'
    refine wpAny_bind (wpAny_load eS' ?_)
    exact wpAny_pure (by simpa using hQ s' Ts' H' hl' I' P')
theorem zl_new {A : Around} {E : Value → Shared → Prop} {Q₁ : Value → Shared → Prop} {s : Shared} (hh : A.handled = none) (D : ZipApart z TI TO i1 i2 a b) (hn : vs.length ≤ sizeLine) (hl : vs.length = us.length) (I : Inv X pins σ H0 s) (ha : SqT X.K H0 a vs) (hb : SqL X.K H0 b us)
    (hfp : ∀ q ∈ zch z TI TO i1 i2, FpOk X pins H0 q ∧ q < s.heap.objs.size) (w : Zw z TI TO i1 i2 a b 0 [] s.heap)
    (h : ∀ s' Ts' H', Ts'.length = vs.length → Inv X pins σ H' s' → Pz H0 vs us Ts' H' → Q₁ (.ref s'.heap.objs.size) { s' with heap := s'.heap.push { cls := .type "tuple", data := .seq (Ts'.map Value.ref).toArray } }) :
    codeAny (model X.prog X.w) A (.call (.builtin "tuple.__new__") ⟨[.type "tuple", .ref z], []⟩) (wants Q₁ E) s := by
  refine codeAny_of_tree ?_
  show wpAny _ A.in1 (do checkBuiltinCall "tuple.__new__" ⟨[.type "tuple", .ref z], []⟩; again (.builtin "tuple.__new__" ⟨[.type "tuple", .ref z], []⟩)) _ _ s
  refine wpAny_bind (wpAny_of_eq (F.newCall_tuple_1 _) (wpAny_pure ⟨plainId_quiet F.plain_tuple_new _, codeAny_builtin F.entry_tuple_new ?_⟩))
  rw [Around.under_plainId F.plain_tuple_new _]
  have hsub := sub_tuple_self
  have hinit := init_tuple_lookup
  have hmh := madeHere_tuple
  have hTI : s.TypeIs (.ref z) "zip" := w.ty
  have hh1 : A.in1.handled = none := hh
  wp_walk using wpAny_typeOf hTI, zl_collect (X := X) (pins := pins) (σ := σ) (H0 := H0) (vs := vs) (us := us) (A := A.in1) hh1 D hn hl I ha hb hfp w
  intro s' Ts' H' hl' I' P'
  show wpAny _ _ (Builtin.Tuple.tupleExact (Ts'.map Value.ref).toArray >>= fun v => ret v) _ _ _
  unfold Builtin.Tuple.tupleExact
  refine wpAny_bind (wpAny_newObj_type ?_ (by show (Ts'.map Value.ref).toArray.size ≤ sizeLine; simp; omega))
  exact wpAny_pure (h s' Ts' H' hl' I' P')
theorem zl_call {A : Around} {E : Value → Shared → Prop} {Q : Value → Shared → Prop} {s : Shared} (hh : A.handled = none) (D : ZipApart z TI TO i1 i2 a b) (hn : vs.length ≤ sizeLine) (hl : vs.length = us.length) (I : Inv X pins σ H0 s) (ha : SqT X.K H0 a vs) (hb : SqL X.K H0 b us)
    (hfp : ∀ q ∈ zch z TI TO i1 i2, FpOk X pins H0 q ∧ q < s.heap.objs.size) (w : Zw z TI TO i1 i2 a b 0 [] s.heap)
    (h : ∀ s' Ts' H', Ts'.length = vs.length → Inv X pins σ H' s' → Pz H0 vs us Ts' H' → Q (.ref s'.heap.objs.size) { s' with heap := s'.heap.push { cls := .type "tuple", data := .seq (Ts'.map Value.ref).toArray } }) :
    wpAny (model X.prog X.w) A (call (.type "tuple") [.ref z]) Q E s := by
  have hh1 : A.in1.handled = none := hh
  refine callType_codes (Q₁ := fun obj s₁ => s₁.TypeIs obj "tuple" ∧ Q obj s₁) F.called_tuple (F.typeCall_tuple_1 _) F.entry_object_init
    (zl_new (X := X) (A := A.in1) hh1 D hn hl I ha hb hfp w fun s' Ts' H' hl' I' P' => ⟨⟨_, Heap.get?_push_size _ rfl, rfl⟩, h s' Ts' H' hl' I' P'⟩) fun obj s₁ h₁ => ?_
  exact ⟨h₁.1, F.args_object_init_2 obj _, object_init_meets F.called_tuple.init.lookup F.called_tuple.made (by decide) X.prog X.w A.in1 _ s₁ ⟨h₁.1, rfl, h₁.2⟩⟩
end
/-- tuple(zip(a tuple, a list)) -/
def tTupZip (K : PySem.W.Frag) (ta : TA) : TE := fun σ H Q => ta σ H fun ws H1 => ∃ a b vs us, ws = [.ref a, .ref b] ∧ SqT K H1 a vs ∧ SqL K H1 b us ∧ vs.length = us.length ∧ ∀ Ts H', Ts.length = vs.length → Pz H1 vs us Ts H' → ∀ T, H' T = none → Q (.ref T) (upd H' T (.tup (Ts.map V.ref)))
theorem pe_tupZip {X : Cx} {e e2 : Expr} {ta : TA} {p pos p2 pos2 : Pos} (hc : X.calm = true) (hgt : Gl X "tuple") (hmt : X.mg "tuple" = none) (hg : Gl X "zip") (hm : X.mg "zip" = none) (ha : PA X [e, e2] ta)
    (hs : starEach [e, e2] X.env = (false, eval e X.env) :: starEach [e2] X.env := by rfl) (hpl : (backTo pos2 (starEach [e2] X.env)).any (·.1) = false := by rfl)
    (na : starEach [.Call (.Name "zip" p2) [e, e2] [] pos2] X.env = (false, eval (.Call (.Name "zip" p2) [e, e2] [] pos2) X.env) :: starEach [] X.env := by rfl) :
    PE X (.Call (.Name "tuple" p) [.Call (.Name "zip" p2) [e, e2] [] pos2] [] pos) (tTupZip X.K ta) := by
  refine ⟨fun pins s σ H Q I h => ?_⟩
  refine Call_ (ld_blt I hgt hmt boot_tuple (PyProof.Rows.callWith_type1 (args_cons ?_ na) na))
  refine Call_ (ld_blt I hg hm PyProof.Rows.boot_zip (PyProof.Rows.callWith_type1 (thn (ha.run pos2 pins s σ H _ I h) fun ws s1 ⟨xs, H1, I1, r1, q1⟩ => ?_) hs hpl))
  obtain ⟨a, b, vs, us, ex, hqa, hqb, hl, q1⟩ := q1
  subst ex
  cases r1 with
  | cons r rr =>
    cases rr with
    | cons r' rr =>
      cases rr
      cases r
      cases r'
      obtain ⟨its, rv, p1, hz1⟩ := I1.tuple hqa
      obtain ⟨its2, rv2, p2', _⟩ := I1.list hqb
      obtain ⟨o1, ho1, _⟩ := id p1
      refine call_zipM (show s1.heap.IsTuple a its.toArray from p1) p2'.isList fun h' hz hTI hTO h1 h2 hsz hk => args_nil ?_
      have I2 : Inv X pins σ H1 { s1 with heap := h' } := I1.kept (t' := s1.toks) hk
      refine zl_call (X := X) (s := { s1 with heap := h' }) (z := s1.heap.objs.size + 4) (TI := s1.heap.objs.size + 2) (TO := s1.heap.objs.size + 3) (i1 := s1.heap.objs.size) (i2 := s1.heap.objs.size + 1) (I1.ok.hd hc) (PySem.W.ktu_apart s1.heap.objs.size a b (Heap.lt_size ho1) p2'.lt) hz1 hl I2 hqa hqb (fun c hcm => ?_) ⟨hTI, h1, h2, .inl ⟨rfl, hz, _, _, hTO⟩⟩ fun s' Ts' H' hl' I' P' => ?_
      · have e' : c = s1.heap.objs.size + 4 ∨ c = s1.heap.objs.size + 2 ∨ c = s1.heap.objs.size + 3 ∨ c = s1.heap.objs.size ∨ c = s1.heap.objs.size + 1 := by simpa [zch] using hcm
        have hle : s1.heap.objs.size ≤ c ∧ c < s1.heap.objs.size + 5 := by
          rcases e' with z | z | z | z | z <;> rw [z] <;> constructor <;> first | exact Nat.le_add_right _ _ | exact Nat.le_refl _ | exact Nat.add_lt_add_left (by decide) _ | exact Nat.lt_add_of_pos_right (by decide)
        refine ⟨I1.fpOk hle.1 (I1.hok.fresh hle.1), ?_⟩
        show c < h'.objs.size
        rw [hsz]; exact hle.2
      · have vT : Vals (Ts'.map V.ref) (Ts'.map Value.ref) := vals_refs Ts'
        have I3 : Inv X pins σ (upd H' s'.heap.objs.size (.tup (Ts'.map V.ref))) { s' with heap := s'.heap.push { cls := .type "tuple", data := .seq (Ts'.map Value.ref).toArray } } :=
          I'.laid (t' := s'.toks) (fun b o e => Heap.get?_push_of_some _ e) (Nat.le_refl _) (show ObjOk X.prog X.w _ _ _ (.tup (Ts'.map V.ref)) from ⟨by rw [List.length_map, hl']; exact hz1, Ts'.map Value.ref, vT, IsTup.new _ _⟩)
        exact ⟨.ref s'.heap.objs.size, _, I3, rfl, q1 Ts' H' hl' P' _ (I'.hok.fresh (Nat.le_refl _))⟩
end Zm

set_option maxRecDepth 100000
set_option maxHeartbeats 4000000
namespace Z
open PySem L2
def zTupZip (za : ZA) : ZT := fun ρ μ q ex => za ρ μ (fun ds μ1 => match ds with
  | [.tup xs, .lst ys] => xs.length = ys.length ∧ q (.tup (List.zipWith (fun a b => D.tup [a, b]) xs ys)) μ1
  | _ => False) ex
section
variable {K : PySem.W.Frag} {W : WX} {ta : TA} {za : ZA} {H H' : Hp} {μ : Mu} {x : Ax}
theorem ZH.ext (z : ZH K H μ x) (k : ∀ b u, H b = some u → H' b = some u) : Grow H μ H' μ x ∧ ZH K H' μ x := by
  have g : Grow H μ H' μ x := by
    refine ⟨fun a u ⟨e, f, m, n⟩ => ⟨e.imp (k _ _) fun ⟨l, o, e⟩ => ⟨l, o, k _ _ e⟩, f, m, n⟩, fun a ha => ?_⟩
    cases e : H a with
    | none => exact absurd e (z.ax a ha).2
    | some u => exact k _ _ e
  refine ⟨g, fun a c e => ?_, fun a ha => ⟨(z.ax a ha).1, ?_⟩⟩
  · have w := z.own a c e
    obtain ⟨u, hu⟩ := w.there
    exact w.mono g ((k _ _ hu).trans hu.symm)
  · rw [g.ax a ha]; exact (z.ax a ha).2
theorem repl_of : ∀ {ds : List D} {vs : List V}, ds.length = vs.length → (∀ (j : Nat) d v, ds[j]? = some d → vs[j]? = some v → Rep K H μ x d v) → RepL K H μ x ds vs
  | [], [], _, _ => by simp [RepL]
  | [], _ :: _, h, _ => by simp at h
  | _ :: _, [], h, _ => by simp at h
  | d :: ds, v :: vs, h, f => by
    simp only [RepL]
    exact ⟨v, vs, rfl, f 0 d v rfl rfl, repl_of (by simpa using h) fun j a b h1 h2 => f (j + 1) a b (by simpa using h1) (by simpa using h2)⟩
theorem le_tupZip (la : LA K W 2 ta za) : LE K W (Zm.tTupZip K ta) (zTupZip za) := fun x σ H ρ μ q w Q I c hz k => by
  refine la x σ H ρ μ _ w _ I c hz fun ds vs H1 μ1 g1 z1 r1 l1 h1 => ?_
  split at h1
  · rename_i xs ys
    obtain ⟨u, v, rfl, ra, rb⟩ := repl2 r1
    simp only [Rep] at ra rb
    obtain ⟨a, vs, rfl, qa, la'⟩ := ra
    obtain ⟨b, us, rfl, qb, lb'⟩ := rb
    obtain ⟨hl, hq⟩ := h1
    have e1 := la'.length
    have e2 := lb'.length
    refine ⟨a, b, vs, us, rfl, qa.imp (fun f => f.rd) id, .inl qb.rd, by omega, fun Ts H' hTl P T hT => ?_⟩
    obtain ⟨g2, z2⟩ := z1.ext P.kp
    have g3 := z2.gnew (o := .tup (Ts.map V.ref)) hT
    have z3 := z2.new (o := .tup (Ts.map V.ref)) hT
    refine k (.tup (List.zipWith (fun a b => D.tup [a, b]) xs ys)) (.ref T) _ μ1 (g1.trans (g2.trans g3)) z3 ?_ hq
    simp only [Rep]
    refine ⟨T, Ts.map V.ref, rfl, .inl (Fz.new z2 hT rfl), repl_of (by simp; omega) fun j d v hd hv => ?_⟩
    rw [List.getElem?_map, Option.map_eq_some_iff] at hv
    obtain ⟨Tj, hTj, rfl⟩ := hv
    obtain ⟨n0, x', y', hx, hy, hT'⟩ := P.ts j Tj hTj
    rw [List.getElem?_zipWith] at hd
    have hj : j < Ts.length := (List.getElem?_eq_some_iff.mp hTj).1
    have hxs : xs[j]? = some (xs[j]'(by omega)) := List.getElem?_eq_getElem _
    have hys : ys[j]? = some (ys[j]'(by omega)) := List.getElem?_eq_getElem _
    rw [hxs, hys] at hd
    simp only [Option.some.injEq] at hd
    subst hd
    obtain ⟨x2, hx2, rx⟩ := la'.get hxs
    obtain ⟨y2, hy2, ry⟩ := lb'.get hys
    rw [hx] at hx2
    rw [hy] at hy2
    cases hx2
    cases hy2
    have nT : Tj ≠ T := fun e => by rw [e, hT] at hT'; cases hT'
    have fr := z1.fresh n0
    simp only [Rep]
    refine ⟨Tj, [x', y'], rfl, .inl ⟨.inl (by rw [upd_ne nT]; exact hT'), rfl, fr.1, fr.2⟩, ?_⟩
    simp only [RepL]
    exact ⟨x', [y'], rfl, rx.mono (g2.trans g3), y', [], rfl, ry.mono (g2.trans g3), rfl⟩
  · exact h1.elim
end
section
variable {X : Cx} {W : WX} {k : Nat} {e e2 : Expr} {tas : TA} {zas : ZA} {p pos p2 pos2 : Pos}
theorem ztupzip (cx : ZC X W k) (hmt : X.mg "tuple" = none) (hm : X.mg "zip" = none) (ha : ZAr X W 2 [e, e2] tas zas) (hgt : Gl X "tuple" := by rfl) (hg : Gl X "zip" := by rfl)
    (hs : starEach [e, e2] X.env = (false, eval e X.env) :: starEach [e2] X.env := by rfl) (hpl : (backTo pos2 (starEach [e2] X.env)).any (·.1) = false := by rfl)
    (na : starEach [.Call (.Name "zip" p2) [e, e2] [] pos2] X.env = (false, eval (.Call (.Name "zip" p2) [e, e2] [] pos2) X.env) :: starEach [] X.env := by rfl) :
    ZE X W (.Call (.Name "tuple" p) [.Call (.Name "zip" p2) [e, e2] [] pos2] [] pos) (Zm.tTupZip X.K tas) (zTupZip zas) :=
  ⟨Zm.pe_tupZip cx.calm hgt hmt hg hm ha.p hs hpl na, le_tupZip ha.l⟩
end
end Z

set_option maxRecDepth 100000
set_option maxHeartbeats 4000000
namespace Z
open PySem L2
/-! ### == and != where one side is flat: the other may be deep -/
def sEq (a b : D) (μ : Mu) : Option Bool := match pdM a μ, pdM b μ with
  | some p, some p' => if p.canLay0 = true ∧ p'.canLay0 = true ∧ min p.depth p'.depth ≤ 64 then some (PyData.eqv p p') else none
  | _, _ => none
def zEqS : F2 := fun a b μ q => match sEq a b μ with
  | some k => q (.bl k) μ
  | none => False
def zNeS : F2 := fun a b μ q => match sEq a b μ with
  | some k => q (.bl (!k)) μ
  | none => False
def rEqS (K : PySem.W.Frag) : R2 := fun x y H Q => ∃ d e, Dp K H x d ∧ Dp K H y e ∧ d.canLay0 = true ∧ e.canLay0 = true ∧ min d.depth e.depth ≤ 64 ∧ Q (.bl (PyData.eqv d e)) H
def rNeS (K : PySem.W.Frag) : R2 := fun x y H Q => ∃ d e, Dp K H x d ∧ Dp K H y e ∧ d.canLay0 = true ∧ e.canLay0 = true ∧ min d.depth e.depth ≤ 64 ∧ Q (.bl (!PyData.eqv d e)) H
section
variable {X : Cx} {K : PySem.W.Frag}
theorem op_eqS (hu : X.A.units + 64 < cLine) : OpR X (compareOp .Eq) (rEqS X.K) := by
  intro pins s σ H x y v u Q I rx ry h
  obtain ⟨d, e, hd, he, sd, se, hm, q⟩ := h
  obtain ⟨as, r1⟩ := Dp.reads I d x v hd rx
  obtain ⟨bs, r2⟩ := Dp.reads I e y u he ry
  exact SeqAt.compareEq_reads r1 r2 sd se (by omega) ⟨.bl _, H, I, rfl, q⟩
theorem op_neS (hu : X.A.units + 64 < cLine) : OpR X (compareOp .NotEq) (rNeS X.K) := by
  intro pins s σ H x y v u Q I rx ry h
  obtain ⟨d, e, hd, he, sd, se, hm, q⟩ := h
  obtain ⟨as, r1⟩ := Dp.reads I d x v hd rx
  obtain ⟨bs, r2⟩ := Dp.reads I e y u he ry
  exact SeqAt.compareNe_reads r1 r2 sd se (by omega) ⟨.bl _, H, I, rfl, q⟩
theorem sEq_ok {H : Hp} {μ : Mu} {x : Ax} {a b : D} {v u : V} {k : Bool} (z : ZH K H μ x) (r1 : Rep K H μ x a v) (r2 : Rep K H μ x b u) (h : sEq a b μ = some k) :
    ∃ d e, Dp K H v d ∧ Dp K H u e ∧ d.canLay0 = true ∧ e.canLay0 = true ∧ min d.depth e.depth ≤ 64 ∧ PyData.eqv d e = k := by
  unfold sEq at h
  split at h
  · rename_i p p' e1 e2
    split at h
    · rename_i hs
      cases h
      exact ⟨p, p', dpm_of z r1 e1, dpm_of z r2 e2, hs.1, hs.2.1, hs.2.2, rfl⟩
    · cases h
  · cases h
theorem lf_eqS : Lf2 K (rEqS K) zEqS := fun x H μ d e v u q Q z r1 r2 h p => by
  unfold zEqS at h
  split at h
  · rename_i k e1
    obtain ⟨d, e, h1, h2, h3, h4, h5, h6⟩ := sEq_ok z r1 r2 e1
    exact ⟨d, e, h1, h2, h3, h4, h5, by rw [h6]; exact p.here z rep_bl h⟩
  · exact h.elim
theorem lf_neS : Lf2 K (rNeS K) zNeS := fun x H μ d e v u q Q z r1 r2 h p => by
  unfold zNeS at h
  split at h
  · rename_i k e1
    obtain ⟨d, e, h1, h2, h3, h4, h5, h6⟩ := sEq_ok z r1 r2 e1
    exact ⟨d, e, h1, h2, h3, h4, h5, by rw [h6]; exact p.here z rep_bl h⟩
  · exact h.elim
end
end Z

set_option maxRecDepth 100000
set_option maxHeartbeats 4000000
namespace Z
open PySem PySem.Spec PyProof.Rows L2
/-! ### a def that calls itself, by a finer measure of the depth: a level of Room holds three calls -/
structure RoomF (k j : Nat) (A : Around) : Prop where
  hd : A.handled = none
  dp : A.depth + j + 3 * k + 5 < recursionLimit
  un : A.units + 3 * j + 16 * k + 200 < cLine
theorem RoomF.room {k j : Nat} {A : Around} (r : RoomF k j A) : Room k A := ⟨r.hd, by have := r.dp; omega, by have := r.un; omega⟩
theorem RoomF.deeper {k j : Nat} {A : Around} (r : RoomF k (j + 1) A) (env : Env) : RoomF k j (A.deeper env) :=
  ⟨r.hd, by have := r.dp; show A.depth + 1 + j + 3 * k + 5 < _; omega, by have := r.un; show A.units + 3 + 3 * j + 16 * k + 200 < _; omega⟩
theorem RoomF.of {k j K : Nat} {A : Around} (r : Room K A) (h : j + 3 * k ≤ 3 * K) : RoomF k j A := ⟨r.hd, by have := r.dp; omega, by have := r.un; omega⟩
structure FnJ (P : Program) (w : World) (K : PySem.W.Frag) (mg : PySem.Str → Option Value) (base : Heap) (CX : CXT) (k j : Nat) (f : Addr) (fd : FuncData) (ps : List PySem.Str) (sp : Sp) : Prop where
  len : ∀ vs H Q E, sp vs H Q E → vs.length = ps.length
  run : ∀ (A : Around) (outer : List Env) (s : Shared) (H : Hp) (args : Args) (us : List Value) (vs : List V) (Q : VK) (E : XK), RoomF k j A → Env0 P w K mg base A outer s H → BindsTo s fd args (ps.zip us) → Vals vs us → sp vs H Q E →
    codeAny (model P w) A (.call (.ref f) args) (CR CX outer P w H s Q E) s
section
variable {P : Program} {w : World} {K : PySem.W.Frag} {mg : PySem.Str → Option Value} {base : Heap} {CX : CXT}
theorem FnJ.ok {k j KK : Nat} {f : Addr} {fd : FuncData} {ps : List PySem.Str} {sp : Sp} (F : FnJ P w K mg base CX k j f fd ps sp) (h : j + 3 * k ≤ 3 * KK) : FnOk P w K mg base CX KK f fd ps sp :=
  ⟨F.len, fun A outer s H args us vs Q E hr => F.run A outer s H args us vs Q E (.of hr h)⟩
theorem fn_ofJ {k j : Nat} {f : Addr} {name qual : PySem.Str} {params : Arguments} {body : List Stmt} {scope : Scope} {dV kV doc pm cdv ct oc : Value} {an od : Option Addr}
    {osl : Array (Option Value)} {N ps : List PySem.Str} {sp : Sp} (lk : K.lookup f = some ⟨oc, od, .func (PySem.W.fnOf name qual params body scope dV kV doc pm an cdv ct), osl⟩) (hcd : PySem.W.codeIn K cdv qual = true) (S : FnScope N ps scope)
    (len : ∀ vs H Q E, sp vs H Q E → vs.length = ps.length)
    (hbody : ∀ (A : Around) (outer : List Env) (s : Shared) (H : Hp) (vs : List V) (Q : VK) (E : XK), RoomF k j (A.deeper (envOfC qual scope s.heap.objs.size f cdv)) → sp vs H Q E →
      ∃ t, PSs (cxOf CX P w K mg base N qual scope f cdv A outer s H E) body t ∧ t { nx := fun _ H' => Q .non H', rt := Q } (start N vs) H) :
    FnJ P w K mg base CX k (j + 1) f (PySem.W.fnOf name qual params body scope dV kV doc pm an cdv ct) ps sp := by
  refine ⟨len, fun A outer s H args us vs Q E hr e0 hb r hsp => ?_⟩
  have hl := len _ _ _ _ hsp
  have KX : K.In s.heap := e0.mod.kin.keeps fun b o e => (e0.bs b o e).1
  have lim : s.heap.NoLimit := e0.mod.nolimit.keeps fun b o e => (e0.bs b o e).1
  have hkind : ∀ y ∈ ps.zip us, scope.names.lookup y.1 = some .local ∨ (scope.names.lookup y.1 = some .cell ∧ ((cellsFrom (s.heap.objs.size + 1) scope.names []).lookup y.1).isSome = true) := fun ⟨n, v⟩ hy => by
    rcases S.par n (List.of_mem_zip hy).1 with q | q
    · exact .inl q
    · exact .inr ⟨q, PySem.W.cellsFrom_some _ _ _ (.inl q)⟩
  refine codeAny_call_function hr.room.depth (KX _ _ lk) rfl S.co S.gen rfl (PySem.W.codeRec_of KX hcd) (hb _ _ _ _ ?_)
  refine wpAny_newFunctionEnv_cells S.kind hkind fun env he s1 x => ?_
  subst he
  refine ⟨lim.keeps x.toInCall.keep, codeAny_func ?_⟩
  obtain ⟨t, ht, hq⟩ := hbody A outer s H vs Q E (hr.deeper _) hsp
  have I : Inv (cxOf CX P w K mg base N qual scope f cdv A outer s H E) [] (start N vs) H s1 := inv_start S hr.hd e0 hl r x
  refine wpAny_mono (ht.run [] s1 (start N vs) H _ I hq) (fun fl s' hs => ?_) fun e s' hs => hs
  have fin : ∀ {σ' : L2.St} {H' : Hp} {v : V} {u : Value}, Inv (cxOf CX P w K mg base N qual scope f cdv A outer s H E) [] σ' H' s' → RelV v u → Q v H' → CE outer P w H s Q u s' :=
    fun {σ' H' v u} J rv q => ⟨v, H', J.os, J.bare, J.base, J.hok, rv, q⟩
  cases fl with
  | ret u =>
    obtain ⟨v, σ', H', J, rv, q⟩ := hs
    exact fin J rv q
  | next =>
    obtain ⟨σ', H', J, q⟩ := hs
    exact fin (v := V.non) (u := Value.none) J rfl q
  | brk =>
    obtain ⟨_, _, _, q⟩ := hs
    exact False.elim q
  | cont =>
    obtain ⟨_, _, _, q⟩ := hs
    exact False.elim q
end
section
variable {X : Cx} {CX : CXT} {k j : Nat} {f C : Addr} {fd : FuncData} {ps : List PySem.Str} {sp : Sp} {E : L2.St → XK} {x m : PySem.Str} {p pos apos : Pos} {e o : Expr} {es : List Expr} {ta : TE} {t : TA}
theorem run_fnJ {pins : List (Addr × Obj)} {σ : L2.St} {H : Hp} {s : Shared} {Q : VK} {us : List Value} {vs : List V} (F : FnJ X.prog X.w X.K X.mg X.base CX k j f fd ps sp) (hr : RoomF k j X.A) (hb : Binds X.K fd ps []) (hx : PassesAt CX X σ (E σ))
    (I : Inv X pins σ H s) (r : Vals vs us) (h : sp vs H Q (E σ)) : wpAny (model X.prog X.w) X.A (call (.ref f) us) (EP X pins σ Q) X.xe s := by
  have hl : us.length = ps.length := by rw [← r.length]; exact F.len _ _ _ _ h
  have b := hb s us I.kIn (by rw [List.append_nil]; exact hl)
  rw [List.append_nil] at b
  refine wpAny_call (codeAny_mono (F.run X.A X.stack s H ⟨us, []⟩ us vs Q (E σ) hr I.env0 b r h) fun r s' hq => ?_)
  cases r with
  | error e => exact hx pins H s e s' I hq
  | ok fl =>
    cases fl with
    | ret u => exact I.after hq
    | next => exact False.elim hq
    | brk => exact False.elim hq
    | cont => exact False.elim hq
theorem pe_callJ (F : FnJ X.prog X.w X.K X.mg X.base CX k j f fd ps sp) (hr : RoomF k j X.A) (hg : Gl X x) (hm : X.mg x = some (.ref f)) (hk : PySem.W.keepIn X.K (.ref f) = true) (hb : Binds X.K fd ps []) (hx : ∀ σ, PassesAt CX X σ (E σ))
    (ha : PA X (e :: es) t) (hdb : (x == ("__debug__" : PySem.Str)) = false := by decide) (he : starEach (e :: es) X.env = (false, eval e X.env) :: starEach es X.env := by rfl) (hpl : (backTo pos (starEach es X.env)).any (·.1) = false := by rfl) :
    PE X (.Call (.Name x p) (e :: es) [] pos) (tCallS sp E t) := by
  refine ⟨fun pins s σ H Q I h => ?_⟩
  refine wpAny_Call_Name_kw (ld_glob I hg hm ?_ hdb)
  refine PySem.W.callWith_K (h₀ := X.base) I.ok.mod.kin hk (thn (ha.run pos pins s σ H _ I h) fun us s1 ⟨vs, H1, I1, r, q⟩ => ⟨I1.kIn, ?_⟩) he hpl
  exact run_fnJ F hr hb (hx σ) I1 r q
end
section
variable (P : Program) (w : World) (K : PySem.W.Frag) (mg : PySem.Str → Option Value) (base : Heap)
def CalJ (k j : Nat) (x : PySem.Str) (ps : List PySem.Str) (S : Zp) : Prop := ∃ (f : Addr) (fd : FuncData), FnJ P w K mg base (L2N.CX P w) k j f fd ps (spOf K ps.length S) ∧ mg x = some (.ref f) ∧ PySem.W.keepIn K (.ref f) = true ∧ Binds K fd ps []
end
section
variable {P : Program} {w : World} {K : PySem.W.Frag} {mg : PySem.Str → Option Value} {base : Heap} {x : PySem.Str} {ps : List PySem.Str} {S S' : Zp} {k j KK : Nat} {st : Stmt}
theorem CalJ.cal (h : CalJ P w K mg base k j x ps S) (hj : j + 3 * k ≤ 3 * KK) : Cal P w K mg base KK x ps S := by
  obtain ⟨f, fd, F, r⟩ := h
  exact ⟨f, fd, F.ok hj, r⟩
theorem CalJ.imp (h : CalJ P w K mg base k j x ps S) (hs : ∀ ds μ q e, S' ds μ q e → S ds μ q e) : CalJ P w K mg base k j x ps S' := by
  obtain ⟨f, fd, F, r⟩ := h
  refine ⟨f, fd, ⟨fun vs H Q E z => z.1, fun A outer s H args us vs Q E hr he hb hv z => F.run A outer s H args us vs Q E hr he hb hv ?_⟩, r⟩
  obtain ⟨hl, x, ds, μ, q, e, zh, rr, hS, pq, pe⟩ := z
  exact ⟨hl, x, ds, μ, q, e, zh, rr, hs _ _ _ _ hS, pq, pe⟩
theorem CalJ.zero (h : Def K mg x st ps) : CalJ P w K mg base k j x ps (fun _ _ _ _ => False) := by
  obtain ⟨f, fd, F, m, b⟩ := h
  exact ⟨f, fd, ⟨fun vs H Q E h => h.1, fun A outer s H args us vs Q E _ _ _ _ h => by obtain ⟨_, _, _, _, _, _, _, _, z, _⟩ := h; exact z.elim⟩, m, F.kp, b⟩
theorem CalJ.mk {N : List PySem.Str} {z : ZS} (h : Def K mg x st ps) (Sc : FnScope N ps (defScope st))
    (hb : ∀ (f : Addr) (cdv : Value) (A : Around) (outer : List Env) (s : Shared) (H : Hp) (E : XK), RoomF k j (cxOf (L2N.CX P w) P w K mg base N x (defScope st) f cdv A outer s H E).A → ZC (cxOf (L2N.CX P w) P w K mg base N x (defScope st) f cdv A outer s H E) (fun cls d _ H => E cls d H) k →
      ∃ t, ZSs (cxOf (L2N.CX P w) P w K mg base N x (defScope st) f cdv A outer s H E) (fun cls d _ H => E cls d H) (defBody st) t z) :
    CalJ P w K mg base k (j + 1) x ps (zBody N.length z) := by
  obtain ⟨f, fd, F, m, b⟩ := h
  refine ⟨f, fd, ?_, m, F.kp, b⟩
  obtain ⟨oc, od, kV, doc, pm, an, cdv, ct, osl, rfl, lk, hcd⟩ := F.ex
  refine fn_ofJ lk hcd Sc (fun vs H Q E h => h.1) fun A outer s H vs Q E hr h => ?_
  obtain ⟨hl, x, ds, μ, q, e, zh, r, hs, pq, pe⟩ := h
  obtain ⟨t, p⟩ := hb f cdv A outer s H E hr ⟨rfl, Sc.nd, hr.room, L2N.takes_of rfl rfl rfl rfl, passes_of rfl⟩
  refine ⟨t, p.p, ?_⟩
  exact p.l x (L2.start N vs) H (startZ N.length ds) μ _ _ (start_zinv zh r) (fun σ' H' ρ' μ' cls dd rr g I er hw => pe rr cls dd H' μ' g I.zh er hw) hs ⟨fun σ' H' ρ' μ' g I hq => pq .non .non H' μ' g I.zh rep_non hq, pq, fun _ _ _ _ _ _ h => h, fun _ _ _ _ _ _ h => h⟩
end
section
variable {X : Cx} {W : WX} {k j kk n : Nat} {ps : List PySem.Str} {S : Zp} {x : PySem.Str} {p pos : Pos} {e : Expr} {es : List Expr} {tas : TA} {zas : ZA}
theorem zcalJ (c : ZC X W k) (hj : RoomF kk j X.A) (C : CalJ X.prog X.w X.K X.mg X.base kk j x ps S) (ha : ZAr X W n (e :: es) tas zas) (hn : n = ps.length := by rfl)
    (hg : Gl X x := by rfl) (hdb : (x == ("__debug__" : PySem.Str)) = false := by decide) (he : starEach (e :: es) X.env = (false, eval e X.env) :: starEach es X.env := by rfl) (hpl : (backTo pos (starEach es X.env)).any (·.1) = false := by rfl) :
    ZE X W (.Call (.Name x p) (e :: es) [] pos) (tCallS (spOf X.K n S) (WE W) tas) (zCall S zas) := by
  obtain ⟨f, fd, F, m, kp, b⟩ := C
  subst hn
  exact ⟨pe_callJ F hj hg m kp b (fun σ => L2N.passAt c.tk σ) ha.p hdb he hpl, le_call ha.l⟩
end
end Z

set_option maxRecDepth 100000
set_option maxHeartbeats 4000000
namespace Z
open PySem PySem.Spec PyProof.Rows L2
open HotX (HotAt raiseNew_hot)
/-! ### where an exception is being handled: loops, comprehensions and calls there -/
section
variable {prog : Program} {w : World} {A : Around} {E : Value → Shared → Prop} {s : Shared}
theorem nextListEnd_hot {it l x1 : Addr} {i : Nat} {items : Array Value} {Q : Option Value → Shared → Prop} (hot : HotAt A x1 s.heap) (hne : x1 ≠ it)
    (hit : s.heap.IsListIter it l i) (hl : s.heap.IsList l items) (hx : items[i]? = none)
    (hQ : ∀ h', (∀ b o, b ≠ it → s.heap.get? b = some o → h'.get? b = some o) → Q none { s with heap := h' }) : wpAny (model prog w) A (pyNext (.ref it)) Q E s := by
  obtain ⟨o, ho, hc, hd⟩ := id hit
  obtain ⟨ol, hol, _, nl, hdl⟩ := hl
  obtain ⟨hh, o1, vs1, h1, d1, c1⟩ := hot
  unfold pyNext
  refine wpAny_bind (wpAny_attempt (wpAny_callSpecial?_slot (name := PySem.Str.ofString "__next__") hit.typeIs slot_listiter_next
    (wpAny_call_entry slot_listiter_next hit.typeIs entry_listiter_next ?_ (args_listiter_next _))))
  show wpAny _ _ (field (.ref it) 0 >>= _) _ _ s
  refine wpAny_bind (wpAny_field ho hd (x := .ref l) rfl ?_)
  show wpAny _ _ (if (Value.ref l == Value.none) = true then _ else _) _ _ s
  rw [if_neg (show ¬ ((Value.ref l == Value.none) = true) from Bool.false_ne_true)]
  show wpAny _ _ (field (.ref it) 1 >>= _) _ _ s
  refine wpAny_bind (wpAny_field ho hd (x := .int i 0) rfl ?_)
  show wpAny _ _ (seqItems? (.ref l) >>= _) _ _ s
  refine wpAny_bind (wpAny_seqItems hol hdl ?_)
  simp only [Int.toNat_natCast, hx]
  refine wpAny_bind (wpAny_rule (wpAny_bind (wpAny_setField ho hd (by simp) ?_)))
  show wpAny _ _ (newExc (.type "StopIteration") [] >>= _) _ _ _
  refine wpAny_bind ?_
  simp only [newExc, newTuple]
  refine wpAny_bind (wpAny_newObj_type ?_ (by size_fits))
  refine wpAny_bind (m := firstArgMember _ _) (wpAny_of_eq (a := Value.none) (by first | rfl | (simp only [firstArgMember]; rfl)) ?_)
  refine wpAny_newObj_type ?_ (by size_fits)
  have g1 : (s.heap.update it (Obj.mapFields (·.setIfInBounds 0 Value.none))).get? x1 = some o1 := (Heap.get?_update_other _ _ (Ne.symm hne)).trans h1
  refine raiseNew_hot ⟨hh, o1, vs1, Heap.get?_push_of_some _ (Heap.get?_push_of_some _ g1), d1, c1⟩ (Nat.ne_of_lt (Heap.lt_size (Heap.get?_push_of_some _ g1))) (Heap.get?_push_size _ rfl) rfl (by first | (simp; done) | (simp; omega) | (simp only [Array.size_append]; simp; omega)) ?_
  refine wpAny_bind (wpAny_isInstance (T := "StopIteration") (b := true) ⟨_, Heap.get?_update_self _ (Heap.get?_push_size _ rfl) rfl, rfl⟩ isSubtype_stop ?_)
  refine wpAny_pure (hQ _ fun b o hb e => ?_)
  have e2 : (s.heap.update it (Obj.mapFields (·.setIfInBounds 0 Value.none))).get? b = some o := (Heap.get?_update_other _ _ (Ne.symm hb)).trans e
  rw [Heap.get?_update_other _ _ (Nat.ne_of_gt (Heap.lt_size (Heap.get?_push_of_some _ e2)))]
  exact Heap.get?_push_of_some _ (Heap.get?_push_of_some _ e2)
end
open L2H
theorem turn_listH {P : Program} {w : World} {K : PySem.W.Frag} {tg : Expr} (a it : Addr) : TurnH P w K tg (Itl K a) [it] it (fun i h => h.IsListIter it a i) where
  mem := by simp
  obj := fun i h st b hb => by
    have e : b = it := by simpa using hb
    subst e
    obtain ⟨o, e, c, d⟩ := st
    exact ⟨o, e, fun v z => by rw [d] at z; cases z⟩
  keep := fun i h h' st k => st.at fun o e => k it (by simp) o e
  item := by
    intro X hP hw hK hc i pins s σ H E I hf st hg
    subst hP hw hK
    obtain ⟨xs, x, hq, hx⟩ := hg
    obtain ⟨its, rv, p, hz⟩ := I.list hq
    obtain ⟨u, hu, ru⟩ := rv.get hx
    obtain ⟨f0, f1, f2, f3, f4, f5⟩ := hf it (by simp)
    refine wpAny_pyNext_list_item st p.isList (x := u) (by simpa using hu) fun h' st' sb => ?_
    have I1 : Inv X pins σ H { s with heap := h' } := I.turned (t' := s.toks) (fun b o hb e => (sb.2 b hb).trans e) f0 f1 f3 f4 f5
    obtain ⟨o, e, c, d⟩ := id st'
    exact ⟨u, rfl, go_of (s := { s with heap := h' }) e c d (by decide) ⟨x, H, I1, ru, ⟨rfl, fun ys hy => by rw [I.list_inj hy hq]; exact hx⟩, st', fun b hb => (hf b hb).1⟩⟩
  done := by
    intro X hP hw hK hc i pins s σ H E I hf st hg
    subst hP hw hK
    obtain ⟨xs, hq, hx⟩ := hg
    obtain ⟨its, rv, p, hz⟩ := I.list hq
    obtain ⟨f0, f1, f2, f3, f4, f5⟩ := hf it (by simp)
    have hl := rv.length
    obtain ⟨q, ⟨hh, v1, e1, c1⟩, hp⟩ := hc
    have hpin := (I.pin q (List.mem_append_left _ hp)).1
    exact nextListEnd_hot ⟨hh, q.2, v1, hpin, e1, c1⟩ (f5 q (List.mem_append_left _ hp)) st p.isList (by simp; omega) fun h' eb => ⟨rfl, I.turned (t' := s.toks) (fun b o hb e => eb b o hb e) f0 f1 f3 f4 f5⟩
  self := fun _ _ _ _ _ st h => wpAny_pyIter_listiter st h
section
variable {X : Cx} {tg : Expr}
theorem pi_listH {l : Expr} {tl : TE} (hl : PE X l tl) : PIH X tg l (iList X.K tl) := by
  refine ⟨fun pins s σ H R I h => ?_⟩
  refine thn (hl.run pins s σ H _ I h) fun v s1 ⟨x, H1, I1, r1, q1⟩ => ?_
  obtain ⟨a, e, ⟨xs, hq⟩, q⟩ := q1
  subst e
  cases r1
  obtain ⟨its, rv, p, hz⟩ := I1.list hq
  refine wpAny_pyIter_list p.isList ?_
  refine ⟨s1.heap.objs.size, [s1.heap.objs.size], _, _, H1, rfl, I1.kept (t' := s1.toks) fun b o e => Heap.get?_push_of_some _ e, turn_listH a _, ⟨_, Heap.get?_push_size _ rfl, rfl, rfl⟩, fun b hb => ?_, q⟩
  have e : b = s1.heap.objs.size := by simpa using hb
  subst e
  exact I1.fpOk (Nat.le_refl _) (I1.hok.fresh (Nat.le_refl _))
end
/-- the context of a block that starts where p's exception is handled -/
abbrev blkH (X : Cx) (p : Addr × Obj) (s : Shared) (H : Hp) (scope : Scope) (cenv : Env) (fp : List Addr) : Cx := { X.blk s H scope cenv fp with pn := [p] }
theorem hot_blk {X : Cx} {p : Addr × Obj} {s : Shared} {H : Hp} {scope : Scope} {cenv : Env} {fp : List Addr} (h : Hot1 X.A p) : HotC (blkH X p s H scope cenv fp) := ⟨p, h, List.mem_singleton.mpr rfl⟩
theorem inv_blkH {X : Cx} {p : Addr × Obj} {s s' : Shared} {σ : L2.St} {H H' : Hp} {scope : Scope} {cenv : Env} {fp : List Addr} (I : Inv (X.blk s H scope cenv fp) [] σ H' s') (h1 : s'.heap.get? p.1 = some p.2) (h2 : H' p.1 = none) (h3 : p.1 ≠ cenv.locals) (h4 : p.1 ∉ frs X.stack) (h5 : ∀ v, p.2.data ≠ .cell v) :
    Inv (blkH X p s H scope cenv fp) [] σ H' s' :=
  ⟨⟨I.ok.mod, I.ok.kind, I.ok.glob, I.ok.blt, I.ok.above, I.ok.inj, I.ok.has, I.ok.cab, I.ok.hd, I.ok.frames, I.ok.stk, I.ok.exf, I.ok.bs, I.ok.bsz, I.ok.noex, I.ok.exfs, I.ok.funs, I.ok.frf⟩, I.os, I.bare, I.base, I.loc, I.cell, I.free, I.freeC, fun q hq => by
    have e : q = p := by simpa using (show q ∈ [p] ++ ([] : List (Addr × Obj)) from hq)
    rw [e]
    exact ⟨h1, h2, h3, h4, h5⟩, I.hok, I.len⟩
section
variable {X : Cx}
theorem lc_coreH {pins : List (Addr × Obj)} {s : Shared} {σ : L2.St} {H : Hp} {Q : VK} {elt tg iter : Expr} {ifs : List Expr} {scope : Scope} {own : List (PySem.Str × Nat)} {pos pos' : Pos} {wi : TI} {g : TG} {tt : TT} {te : TE} {use : Option (Value → Sem Unit)} {Qf : Value → Shared → Prop}
    {p : Addr × Obj} (hp1 : Hot1 X.A p) (hp2 : p ∈ X.pn) (hN : X.N.Nodup) (I : Inv X pins σ H s) (hi : PIH X tg iter wi) (ok : BlkOk X.N X.env.scope scope own)
    (hg : ∀ (s : Shared) (H : Hp) (C : Addr) (cl : List (PySem.Str × Addr)) (fp : List Addr), PG (blkH X p s H scope (compEnvC scope cl C X.env) fp) tg g) (ht : ∀ (s : Shared) (H : Hp) (C : Addr) (cl : List (PySem.Str × Addr)) (fp : List Addr), PTs (blkH X p s H scope (compEnvC scope cl C X.env) fp) ifs tt)
    (he : ∀ (s : Shared) (H : Hp) (C : Addr) (cl : List (PySem.Str × Addr)) (fp : List Addr), PE (blkH X p s H scope (compEnvC scope cl C X.env) fp) elt te) (hs : ∀ x, foldedSetIterable iter X.env x = pure x)
    (h : tLc wi g tt te (own.map (·.2)) σ H Q)
    (hRR : ∀ D C s' m H', Inv X pins σ H' s' → Q (.ref D) H' → s'.heap.Ns C m → FpOk X pins H' C → compPost (model X.prog X.w) X.A X.xe use Qf (.ref D) C (.ok .next) s') :
    wpAny (model X.prog X.w) X.A (comprehension (.ListComp elt [⟨tg, iter, ifs, 0⟩] scope pos) scope X.env pos' (newList []) false (eval iter X.env) use) Qf X.xe s := by
  have hfree : ∀ y ∈ scope.names, y.2 = .free → ∃ c, X.env.cells.lookup y.1 = some c := fun y hy e => by
    rcases ok.free y hy e with k | k
    · exact I.ok.has _ (.inl k)
    · exact I.ok.has _ (.inr k)
  refine wpAny_comprehension_free (use := use) rfl hs (closure_ok hfree) ok.kind (fun y hy e => by rw [ok.uniq y hy, e])
    (thn (hi.run pins s σ H _ I h) fun xv s1 hx => thn hx fun itv s2 h2 => ?_)
  obtain ⟨it, fp, tn, J, H2, e, I2, T, st2, f2, q⟩ := h2
  subst e
  refine wpAny_newObj_type (newEnv_comp ?_) (by show 0 ≤ sizeLine; decide)
  generalize hD : s2.heap.objs.size = D
  have hDn : H2 D = none := I2.hok.fresh (Nat.le_of_eq hD)
  obtain ⟨W, ⟨m0, w0⟩, turn⟩ := q D hDn
  -- the new list
  generalize hs3 : ({ s2 with heap := s2.heap.push { cls := .type "list", data := .seq ([] : List Value).toArray } } : Shared) = s3
  have I3 : Inv X pins σ (upd H2 D (.lst [])) s3 := by
    rw [← hs3]
    refine I2.laid (t' := s2.toks) (fun b o e => Heap.get?_push_of_some _ e) (Nat.le_of_eq hD) ⟨Nat.zero_le _, [], 0, .nil, ?_⟩
    rw [← hD]
    exact Heap.get?_push_size _ rfl
  have h3 : s3.heap = s2.heap.push { cls := .type "list", data := .seq ([] : List Value).toArray } := by rw [← hs3]
  have sz : ∀ b ∈ fp, b < s2.heap.objs.size := fun b hb => by
    obtain ⟨o, e, _⟩ := T.obj _ _ st2 b hb
    exact Heap.lt_size e
  have f3 : ∀ b ∈ fp, FpOk X pins (upd H2 D (.lst [])) b ∧ b < s3.heap.objs.size := fun b hb => by
    have hlt := sz b hb
    refine ⟨⟨?_, (f2 b hb).2⟩, by rw [h3, Heap.size_push]; exact Nat.lt_succ_of_lt hlt⟩
    rw [upd_ne (by rw [← hD]; exact Nat.ne_of_lt hlt)]
    exact (f2 b hb).1
  have st3 : tn 0 s3.heap := T.keep _ _ _ st2 fun b _ o e => by rw [h3]; exact Heap.get?_push_of_some _ e
  have I4 := block_start I3 ok hN f3
  have P3 := I3.pin p (List.mem_append_left _ hp2)
  have pst : p.1 ∉ frs X.stack := fun hm => (List.mem_cons.mp (I3.stkSub p.1 hm)).elim P3.2.2.1 P3.2.2.2.1
  have pfp : ∀ b ∈ fp, p.1 ≠ b := fun b hb => (f3 b hb).1.2.2.2.2.2 p (List.mem_append_left _ hp2)
  have pg := hg s3 (upd H2 D (.lst [])) s3.heap.objs.size (cellsFrom (s3.heap.objs.size + 1) scope.names (cloFrom X.env.cells scope.names [])) fp
  have pt := ht s3 (upd H2 D (.lst [])) s3.heap.objs.size (cellsFrom (s3.heap.objs.size + 1) scope.names (cloFrom X.env.cells scope.names [])) fp
  have pe := he s3 (upd H2 D (.lst [])) s3.heap.objs.size (cellsFrom (s3.heap.objs.size + 1) scope.names (cloFrom X.env.cells scope.names [])) fp
  show codeAny _ _ (.compStart (.ListComp elt [⟨tg, iter, ifs, 0⟩] scope pos) 0 (.ref it) (.ref D) (compEnvC scope (cellsFrom (s3.heap.objs.size + 1) scope.names (cloFrom X.env.cells scope.names [])) s3.heap.objs.size X.env)) (compPost (model X.prog X.w) X.A X.xe use Qf (.ref D) s3.heap.objs.size) { s3 with heap := pushCells (s3.heap.push { cls := .type "dict", data := .dict #[] }) scope.names }
  have nfp : ∀ b ∈ fp, (upd H2 D (.lst [])) b = none := fun b hb => (f3 b hb).1.1
  generalize hce : compEnvC scope (cellsFrom (s3.heap.objs.size + 1) scope.names (cloFrom X.env.cells scope.names [])) s3.heap.objs.size X.env = ce at I4 pg pt pe ⊢
  have cL : ce.locals = s3.heap.objs.size := by subst hce; rfl
  generalize hH3 : upd H2 D (.lst []) = H3 at I3 I4 pg pt pe w0 nfp f3 P3
  generalize hs4 : ({ s3 with heap := pushCells (s3.heap.push { cls := .type "dict", data := .dict #[] }) scope.names } : Shared) = s4 at I4 ⊢
  have st4 : tn 0 s4.heap := T.keep _ _ _ st3 fun b _ o e => by rw [← hs4]; exact pushCells_keeps _ _ _ _ (Heap.get?_push_of_some _ e)
  have I4 : Inv (blkH X p s3 H3 scope ce fp) [] (wipe σ (own.map (·.2))) H3 s4 :=
    inv_blkH I4 (by rw [← hs4]; exact pushCells_keeps _ _ _ _ (Heap.get?_push_of_some _ P3.1)) P3.2.1 (by rw [cL]; exact Nat.ne_of_lt (Heap.lt_size P3.1)) pst P3.2.2.2.2
  have stat : ∀ {σ' : L2.St} {H' : Hp} {s' : Shared}, Inv (blkH X p s3 H3 scope ce fp) [] σ' H' s' → (∀ b ∈ fp, H' b = none) → ∀ b ∈ fp, FpOk (blkH X p s3 H3 scope ce fp) [] H' b := fun {σ' H' s'} I' hn b hb =>
    ⟨hn b hb, (I'.ok.exf b hb).1, I'.ok.exfs b hb, .inl hb, fun x c e => (I'.ok.exf b hb).2 x c e, fun q hq => by
      have e : q = p := by simpa using (show q ∈ [p] ++ ([] : List (Addr × Obj)) from hq)
      rw [e]
      exact pfp b hb⟩
  have hcB : HotC (blkH X p s3 H3 scope ce fp) := hot_blk hp1
  have loop : codeAny (model X.prog X.w) X.A (.compLoop (.ListComp elt [⟨tg, iter, ifs, 0⟩] scope pos) 0 (.ref it) (.ref D) ce) (compPost (model X.prog X.w) X.A X.xe use Qf (.ref D) s3.heap.objs.size) s4 := by
    refine compLoop_any (fun n s' => ∃ i H', Inv (blkH X p s3 H3 scope ce fp) [] (wipe σ (own.map (·.2))) H' s' ∧ tn i s'.heap ∧ (∀ b ∈ fp, H' b = none) ∧ W i n H') ?_ m0 ⟨0, H3, I4, st4, nfp, w0⟩
    rintro n s5 ⟨i, H5, I5, st5, n5, w5⟩
    rcases turn i n H5 w5 with ⟨stop, qq⟩ | ⟨go, Nx, hNx, step⟩
    · have td := T.done (blkH X p s3 H3 scope ce fp) rfl rfl rfl hcB i [] s5 _ H5 (fun _ _ => False) I5 (stat I5 n5) st5 stop
      refine thnF td fun r s6 ⟨hr, I6⟩ => ?_
      subst hr
      -- back in the def's context
      have I7 : Inv X pins σ H5 s6 := I3.call' (ch := fp) I6.os I6.base I6.hok I6.bare fun b hb => ⟨(f3 b hb).1.2.2.2.1, (f3 b hb).1.2.1, (f3 b hb).1.2.2.2.2.1, (f3 b hb).1.2.2.2.2.2⟩
      have nC : H5 s3.heap.objs.size = none := by
        have z : H5 ce.locals = none := I6.free
        rw [cL] at z
        exact z
      obtain ⟨m, hn, _⟩ := I6.loc
      have hn : s6.heap.Ns ce.locals m := hn
      rw [cL] at hn
      exact hRR D s3.heap.objs.size s6 m H5 I7 qq hn (I3.fpOk (Nat.le_refl _) nC)
    · have ti := T.item (blkH X p s3 H3 scope ce fp) rfl rfl rfl hcB i [] s5 _ H5 (fun _ _ => False) I5 (stat I5 n5) st5 go
      refine thnF ti fun r s6 ⟨u, hr, h6⟩ => ?_
      subst hr
      refine thnF h6 fun _ s7 ⟨x, H7, I7, r7, y7, st7, n7⟩ => ?_
      have I7' := I7.pinned (stat I7 n7) (T.obj _ _ st7)
      refine thnF (pg.run _ s7 _ H7 x u _ I7' r7 (step x H7 y7)) fun _ s8 ⟨σ8, H8, I8, hw8, q8⟩ => ?_
      refine thnF (pt.run _ s8 σ8 H8 _ I8 q8) fun b s9 ⟨H9, I9, q9⟩ => ?_
      -- the turn's end
      have fin : ∀ {s' : Shared} {H' : Hp}, Inv (blkH X p s3 H3 scope ce fp) ([] ++ pinsAt fp s7.heap) σ8 H' s' → Nx H' → ∃ m, m < n ∧ ∃ i H', Inv (blkH X p s3 H3 scope ce fp) [] (wipe σ (own.map (·.2))) H' s' ∧ tn i s'.heap ∧ (∀ b ∈ fp, H' b = none) ∧ W i m H' := fun {s' H'} I' nx => by
        obtain ⟨m', hm, w'⟩ := hNx H' nx
        have pin' : ∀ b ∈ fp, ∀ o, s7.heap.get? b = some o → s'.heap.get? b = some o ∧ H' b = none := fun b hb o e =>
          let z := I'.pin (b, o) (List.mem_append_right _ (List.mem_append_right _ (mem_pinsAt hb e)))
          ⟨z.1, z.2.1⟩
        have hl : (wipe σ (own.map (·.2))).length = σ8.length := by rw [← hw8, wipe_length]
        refine ⟨m', hm, i + 1, H', (I'.unpinned (pins := [])).weak hl (fun j v e => ?_), T.keep _ _ _ st7 fun b hb o e => (pin' b hb o e).1, fun b hb => ?_, w'⟩
        · rw [← hw8] at e
          exact (wipe_some e).1
        · obtain ⟨o, e, _⟩ := T.obj _ _ st7 b hb
          exact (pin' b hb o e).2
      cases b with
      | false =>
        simp only [Bool.false_eq_true, if_false] at q9 ⊢
        exact fin I9 q9
      | true =>
        simp only [if_true] at q9 ⊢
        refine thnF (pe.run _ s9 σ8 H9 _ I9 q9) fun z s10 ⟨yv, H10, I10, r10, acc, hD10, hz10, nx⟩ => ?_
        exact app_ok (X := blkH X p s3 H3 scope ce fp) I10 hD10 hz10 r10 fun s11 I11 => fin I11 nx
  exact codeAny_compStart_list loop (T.self X.A 0 _ _ _ st4 loop)
theorem pe_lcH {p : Addr × Obj} {elt tg iter : Expr} {ifs : List Expr} {scope : Scope} {own : List (PySem.Str × Nat)} {pos : Pos} {wi : TI} {g : TG} {tt : TT} {te : TE} (hp1 : Hot1 X.A p) (hp2 : p ∈ X.pn) (hN : X.N.Nodup) (hi : PIH X tg iter wi) (ok : BlkOk X.N X.env.scope scope own)
    (hg : ∀ (s : Shared) (H : Hp) (C : Addr) (cl : List (PySem.Str × Addr)) (fp : List Addr), PG (blkH X p s H scope (compEnvC scope cl C X.env) fp) tg g) (ht : ∀ (s : Shared) (H : Hp) (C : Addr) (cl : List (PySem.Str × Addr)) (fp : List Addr), PTs (blkH X p s H scope (compEnvC scope cl C X.env) fp) ifs tt)
    (he : ∀ (s : Shared) (H : Hp) (C : Addr) (cl : List (PySem.Str × Addr)) (fp : List Addr), PE (blkH X p s H scope (compEnvC scope cl C X.env) fp) elt te) (hs : ∀ x, foldedSetIterable iter X.env x = pure x := by intro _; rfl) :
    PE X (.ListComp elt [⟨tg, iter, ifs, 0⟩] scope pos) (tLc wi g tt te (own.map (·.2))) := by
  refine ⟨fun pins s σ H Q I h => ?_⟩
  rw [eval_ListComp]
  refine lc_coreH hp1 hp2 hN I hi ok hg ht he hs h fun D C s' m H' I' q hn f => ⟨m, hn, fun h'' sb => ?_⟩
  obtain ⟨f0, f1, f2, f3, f4, f5⟩ := f
  exact ⟨.ref D, H', I'.turned (t' := s'.toks) (fun b o hb e => (sb.2 b hb).trans e) f0 f1 f3 f4 f5, rfl, q⟩
end
end Z

set_option maxRecDepth 100000
set_option maxHeartbeats 4000000
namespace Z
open PySem PySem.Spec PyProof.Rows L2 L2H
/-- what a body's rules lean on where p's exception is being handled -/
structure ZCH (X : Cx) (p : Addr × Obj) (W : WX) (k : Nat) : Prop where
  hot : Hot1 X.A p
  mem : p ∈ X.pn
  nd : X.N.Nodup
  room : RoomH k X.A
  tk : L2N.Takes X W
  po : PassesOwn (model X.prog X.w) X.A X.env X.xe
section
variable {X : Cx} {p : Addr × Obj} {W : WX} {k : Nat}
theorem ZCH.hc (c : ZCH X p W k) : HotC X := ⟨p, c.hot, c.mem⟩
theorem ZCH.hu65 (c : ZCH X p W k) : X.A.units + 65 < cLine := by have := c.room.un; omega
theorem ZCH.hu64 (c : ZCH X p W k) : X.A.units + 64 < cLine := by have := c.room.un; omega
theorem ZCH.hu (c : ZCH X p W k) : X.A.units + 1 < cLine := by have := c.room.un; omega
theorem ZC.suiteH (c : ZC X W k) {a : Addr} {oe : Obj} {cls : Value} {d : Option Addr} {pn : List (Addr × Obj)} (hz : L2N.Zn cls d oe) (hf : ∃ vs, oe.data = .fields vs) : ZCH (X.suite a ((a, oe) :: pn)) (a, oe) W0 k := by
  obtain ⟨vs, hv⟩ := hf
  exact ⟨⟨rfl, vs, hv, hz.2.2 vs hv⟩, List.mem_cons_self, c.nd, ⟨c.room.dp, c.room.un⟩, Z.takes0N, PassesOwn.never⟩
end
/-! ### what a for walks -/
structure ZPiH (X : Cx) (W : WX) (tg it : Expr) (wi : TI) (zi : ZI) : Prop where
  p : PIH X tg it wi
  l : LI X.K W wi zi
/-- a list -/
def ziLs (z : ZT) : ZI := fun ρ μ q e => z ρ μ (fun d μ1 => match fzlOf d with
  | some ds => q ds μ1
  | none => False) e
theorem li_ls {K : PySem.W.Frag} {W : WX} {te : TE} {ze : ZT} (he : LE K W te ze) : LI K W (iList K te) (ziLs ze) := fun x σ H ρ μ q w R I c h k => by
  refine he x σ H ρ μ _ w _ I c h fun d v H1 μ1 g1 z1 r1 h1 => ?_
  split at h1
  · rename_i ds e
    obtain ⟨a, vs, rfl, q1, l⟩ := fzl_of r1 e
    exact ⟨a, rfl, ⟨vs, fzl_keep q1 (Grow.refl (x := x)).fz⟩, k _ _ H1 μ1 g1 z1 (walkz_list q1 l) h1⟩
  · exact h1.elim
section
variable {X : Cx} {p : Addr × Obj} {W : WX} {k : Nat} {tg e : Expr} {te : TE} {ze : ZT} {tas : TA} {zas : ZA} {pp pos : Pos}
theorem zils (he : ZE X W e te ze) : ZPi X W tg e (iList X.K te) (ziLs ze) := ⟨pi_list he.p, li_ls he.l⟩
theorem zilsH (he : ZE X W e te ze) : ZPiH X W tg e (iList X.K te) (ziLs ze) := ⟨pi_listH he.p, li_ls he.l⟩
theorem zirng1H {n : Nat} (hm : X.mg "range" = none) (ha : ZAr X W n [e] tas zas) (hg : Gl X "range" := by rfl) (hs : starEach [e] X.env = [(false, eval e X.env)] := by rfl) : ZPiH X W tg (.Call (.Name "range" pp) [e] [] pos) (iRng1 tas) (ziRng1 zas) :=
  ⟨pi_range1H hg hm ha.p hs, (zirng1 (tg := tg) (p := pp) (pos := pos) hm ha hg hs).l⟩
end
section
variable {X : Cx} {p : Addr × Obj} {W : WX} {k : Nat} {t : TS} {z : ZS} {wi : TI} {zi : ZI} {g : TG} {zg : ZG} {tg it : Expr} {body : List Stmt} {pos : Pos}
theorem zforH (cx : ZCH X p W k) (hi : ZPiH X W tg it wi zi) (hg : ZPg X tg g zg) (hb : ZSs X W body t z) (hs : ∀ x, foldedSetIterable it X.env x = pure x := by intro _; rfl) : ZSt X W (.For tg it body [] pos) (tFor wi g t) (zFor zi zg z) :=
  ⟨ps_forH cx.po cx.hc hi.p hg.p hb.p hs, ls_for hi.l hg.l hb.l⟩
end
/-! ### comprehensions -/
def bkEH (X : Cx) (p : Addr × Obj) (k : Nat) (scope : Scope) (t : ∀ (s : Shared) (H : Hp) (C : Addr) (cl : List (PySem.Str × Addr)) (fp : List Addr), ZCH (blkH X p s H scope (compEnvC scope cl C X.env) fp) p W0 k → TE) : TE :=
  fun σ H Q => ∀ s h C cl fp c, t s h C cl fp c σ H Q
def bkTH (X : Cx) (p : Addr × Obj) (k : Nat) (scope : Scope) (t : ∀ (s : Shared) (H : Hp) (C : Addr) (cl : List (PySem.Str × Addr)) (fp : List Addr), ZCH (blkH X p s H scope (compEnvC scope cl C X.env) fp) p W0 k → TT) : TT :=
  fun σ H Q => ∀ s h C cl fp c, t s h C cl fp c σ H Q
section
variable {X : Cx} {p : Addr × Obj} {W : WX} {k : Nat} {elt tg iter : Expr} {ifs : List Expr} {scope : Scope} {own : List (PySem.Str × Nat)} {pos : Pos} {wi : TI} {zi : ZI} {zg : ZG} {zt : ZB} {ze : ZT} {g : Bk TG} {tt : ∀ (s : Shared) (H : Hp) (C : Addr) (cl : List (PySem.Str × Addr)) (fp : List Addr), ZCH (blkH X p s H scope (compEnvC scope cl C X.env) fp) p W0 k → TT} {te : ∀ (s : Shared) (H : Hp) (C : Addr) (cl : List (PySem.Str × Addr)) (fp : List Addr), ZCH (blkH X p s H scope (compEnvC scope cl C X.env) fp) p W0 k → TE}
theorem ZCH.blk (cx : ZCH X p W k) (s : Shared) (H : Hp) (scope : Scope) (ce : Env) (fp : List Addr) : ZCH (blkH X p s H scope ce fp) p W0 k := ⟨cx.hot, List.mem_singleton.mpr rfl, cx.nd, cx.room, Z.takes0N, PassesOwn.never⟩
theorem bh_pg (hg : ∀ (s : Shared) (H : Hp) (C : Addr) (cl : List (PySem.Str × Addr)) (fp : List Addr), ZPg (blkH X p s H scope (compEnvC scope cl C X.env) fp) tg (g s H C cl fp) zg) (s : Shared) (H : Hp) (C : Addr) (cl : List (PySem.Str × Addr)) (fp : List Addr) : PG (blkH X p s H scope (compEnvC scope cl C X.env) fp) tg (bkG g) :=
  ⟨fun pins s' σ H' v u Q I r hw => (hg s H C cl fp).p.run pins s' σ H' v u Q I r (hw s H C cl fp)⟩
theorem bh_pt (cx : ZCH X p W k) (ht : ∀ (s : Shared) (H : Hp) (C : Addr) (cl : List (PySem.Str × Addr)) (fp : List Addr) (c : ZCH (blkH X p s H scope (compEnvC scope cl C X.env) fp) p W0 k), ZPts (blkH X p s H scope (compEnvC scope cl C X.env) fp) W0 ifs (tt s H C cl fp c) zt) (s : Shared) (H : Hp) (C : Addr) (cl : List (PySem.Str × Addr)) (fp : List Addr) : PTs (blkH X p s H scope (compEnvC scope cl C X.env) fp) ifs (bkTH X p k scope tt) :=
  ⟨fun pins s' σ H' Q I h => (ht s H C cl fp (cx.blk _ _ _ _ _)).p.run pins s' σ H' Q I (h s H C cl fp _)⟩
theorem bh_pe (cx : ZCH X p W k) (he : ∀ (s : Shared) (H : Hp) (C : Addr) (cl : List (PySem.Str × Addr)) (fp : List Addr) (c : ZCH (blkH X p s H scope (compEnvC scope cl C X.env) fp) p W0 k), ZE (blkH X p s H scope (compEnvC scope cl C X.env) fp) W0 elt (te s H C cl fp c) ze) (s : Shared) (H : Hp) (C : Addr) (cl : List (PySem.Str × Addr)) (fp : List Addr) : PE (blkH X p s H scope (compEnvC scope cl C X.env) fp) elt (bkEH X p k scope te) :=
  ⟨fun pins s' σ H' Q I h => (he s H C cl fp (cx.blk _ _ _ _ _)).p.run pins s' σ H' Q I (h s H C cl fp _)⟩
theorem bh_lg (hg : ∀ (s : Shared) (H : Hp) (C : Addr) (cl : List (PySem.Str × Addr)) (fp : List Addr), ZPg (blkH X p s H scope (compEnvC scope cl C X.env) fp) tg (g s H C cl fp) zg) : LG X.K (bkG g) zg := fun x d v σ H ρ μ k k' I r h hk s0 H0 C cl fp => (hg s0 H0 C cl fp).l x d v σ H ρ μ k k' I r h hk
theorem bh_lt (ht : ∀ (s : Shared) (H : Hp) (C : Addr) (cl : List (PySem.Str × Addr)) (fp : List Addr) (c : ZCH (blkH X p s H scope (compEnvC scope cl C X.env) fp) p W0 k), ZPts (blkH X p s H scope (compEnvC scope cl C X.env) fp) W0 ifs (tt s H C cl fp c) zt) : LT X.K W0 (bkTH X p k scope tt) zt := fun x σ H ρ μ q w Q I c h kk s0 H0 C cl fp cc => (ht s0 H0 C cl fp cc).l x σ H ρ μ q w Q I c h kk
theorem bh_le (he : ∀ (s : Shared) (H : Hp) (C : Addr) (cl : List (PySem.Str × Addr)) (fp : List Addr) (c : ZCH (blkH X p s H scope (compEnvC scope cl C X.env) fp) p W0 k), ZE (blkH X p s H scope (compEnvC scope cl C X.env) fp) W0 elt (te s H C cl fp c) ze) : LE X.K W0 (bkEH X p k scope te) ze := fun x σ H ρ μ q w Q I c h kk s0 H0 C cl fp cc => (he s0 H0 C cl fp cc).l x σ H ρ μ q w Q I c h kk
theorem zlcH (cx : ZCH X p W k) (hi : ZPiH X W tg iter wi zi) (ok : BlkOk X.N X.env.scope scope own)
    (hg : ∀ (s : Shared) (H : Hp) (C : Addr) (cl : List (PySem.Str × Addr)) (fp : List Addr), ZPg (blkH X p s H scope (compEnvC scope cl C X.env) fp) tg (g s H C cl fp) zg) (ho : ∀ (s : Shared) (H : Hp) (C : Addr) (cl : List (PySem.Str × Addr)) (fp : List Addr), GOwn (g s H C cl fp) (own.map (·.2)))
    (ht : ∀ (s : Shared) (H : Hp) (C : Addr) (cl : List (PySem.Str × Addr)) (fp : List Addr) (c : ZCH (blkH X p s H scope (compEnvC scope cl C X.env) fp) p W0 k), ZPts (blkH X p s H scope (compEnvC scope cl C X.env) fp) W0 ifs (tt s H C cl fp c) zt)
    (he : ∀ (s : Shared) (H : Hp) (C : Addr) (cl : List (PySem.Str × Addr)) (fp : List Addr) (c : ZCH (blkH X p s H scope (compEnvC scope cl C X.env) fp) p W0 k), ZE (blkH X p s H scope (compEnvC scope cl C X.env) fp) W0 elt (te s H C cl fp c) ze) (hs : ∀ x, foldedSetIterable iter X.env x = pure x := by intro _; rfl) :
    ZE X W (.ListComp elt [⟨tg, iter, ifs, 0⟩] scope pos) (tLc wi (bkG g) (bkTH X p k scope tt) (bkEH X p k scope te) (own.map (·.2))) (zLc zi zg zt ze (own.map (·.2))) :=
  ⟨pe_lcH cx.hot cx.mem cx.nd hi.p ok (bh_pg hg) (bh_pt cx ht) (bh_pe cx he) hs,
    le_lc hi.l (bh_lg hg) (bk_own ho) (bh_lt ht) (bh_le he)⟩
theorem zlcOH (cx : ZCH X p W k) (hi : ZPiH X W tg iter wi zi) (ok : BlkOk X.N X.env.scope scope own)
    (hg : ∀ (s : Shared) (H : Hp) (C : Addr) (cl : List (PySem.Str × Addr)) (fp : List Addr), ZPg (blkH X p s H scope (compEnvC scope cl C X.env) fp) tg (g s H C cl fp) zg) (ho : ∀ (s : Shared) (H : Hp) (C : Addr) (cl : List (PySem.Str × Addr)) (fp : List Addr), GOwn (g s H C cl fp) (own.map (·.2)))
    (ht : ∀ (s : Shared) (H : Hp) (C : Addr) (cl : List (PySem.Str × Addr)) (fp : List Addr) (c : ZCH (blkH X p s H scope (compEnvC scope cl C X.env) fp) p W0 k), ZPts (blkH X p s H scope (compEnvC scope cl C X.env) fp) W0 ifs (tt s H C cl fp c) zt)
    (he : ∀ (s : Shared) (H : Hp) (C : Addr) (cl : List (PySem.Str × Addr)) (fp : List Addr) (c : ZCH (blkH X p s H scope (compEnvC scope cl C X.env) fp) p W0 k), ZE (blkH X p s H scope (compEnvC scope cl C X.env) fp) W0 elt (te s H C cl fp c) ze) (hs : ∀ x, foldedSetIterable iter X.env x = pure x := by intro _; rfl) :
    ZE X W (.ListComp elt [⟨tg, iter, ifs, 0⟩] scope pos) (tLc wi (bkG g) (bkTH X p k scope tt) (bkEH X p k scope te) (own.map (·.2))) (zLcO zi zg zt ze (own.map (·.2))) :=
  ⟨(zlcH cx hi ok hg ho ht he hs).p,
    le_lcO hi.l (bh_lg hg) (bk_own ho) (bh_lt ht) (bh_le he)⟩
end
/-! ### calls -/
section
variable (P : Program) (w : World) (K : PySem.W.Frag) (mg : PySem.Str → Option Value) (base : Heap)
def CalH (k : Nat) (x : PySem.Str) (ps : List PySem.Str) (S : Zp) : Prop := ∃ (f : Addr) (fd : FuncData), FnH P w K mg base (L2N.CX P w) k f fd ps (spOf K ps.length S) ∧ mg x = some (.ref f) ∧ PySem.W.keepIn K (.ref f) = true ∧ Binds K fd ps []
end
section
variable {P : Program} {w : World} {K : PySem.W.Frag} {mg : PySem.Str → Option Value} {base : Heap} {x : PySem.Str} {ps : List PySem.Str} {S S' : Zp} {k j : Nat} {st : Stmt}
theorem CalH.mono (h : CalH P w K mg base j x ps S) (hj : j ≤ k) : CalH P w K mg base k x ps S := by
  obtain ⟨f, fd, F, r⟩ := h
  exact ⟨f, fd, ⟨F.len, fun A outer s H args us vs Q E p hr => F.run A outer s H args us vs Q E p (hr.mono hj)⟩, r⟩
theorem CalH.imp (h : CalH P w K mg base k x ps S) (hs : ∀ ds μ q e, S' ds μ q e → S ds μ q e) : CalH P w K mg base k x ps S' := by
  obtain ⟨f, fd, F, r⟩ := h
  refine ⟨f, fd, ⟨fun vs H Q E z => z.1, fun A outer s H args us vs Q E p hr hh hpin he hb hv z => F.run A outer s H args us vs Q E p hr hh hpin he hb hv ?_⟩, r⟩
  obtain ⟨hl, x, ds, μ, q, e, zh, rr, hS, pq, pe⟩ := z
  exact ⟨hl, x, ds, μ, q, e, zh, rr, hs _ _ _ _ hS, pq, pe⟩
theorem CalH.zero (h : Def K mg x st ps) : CalH P w K mg base 0 x ps (fun _ _ _ _ => False) := by
  obtain ⟨f, fd, F, m, b⟩ := h
  exact ⟨f, fd, ⟨fun vs H Q E h => h.1, fun A outer s H args us vs Q E p _ _ _ _ _ _ h => by obtain ⟨_, _, _, _, _, _, _, _, z, _⟩ := h; exact z.elim⟩, m, F.kp, b⟩
theorem CalH.mk {N : List PySem.Str} {z : ZS} (h : Def K mg x st ps) (Sc : FnScope N ps (defScope st))
    (hb : ∀ (f : Addr) (cdv : Value) (A : Around) (outer : List Env) (s : Shared) (H : Hp) (E : XK) (p : Addr × Obj), ZCH (cxH (L2N.CX P w) P w K mg base N x (defScope st) f cdv A outer s H E p) p (fun cls d _ H => E cls d H) k →
      ∃ t, ZSs (cxH (L2N.CX P w) P w K mg base N x (defScope st) f cdv A outer s H E p) (fun cls d _ H => E cls d H) (defBody st) t z) :
    CalH P w K mg base (k + 1) x ps (zBody N.length z) := by
  obtain ⟨f, fd, F, m, b⟩ := h
  refine ⟨f, fd, ?_, m, F.kp, b⟩
  obtain ⟨oc, od, kV, doc, pm, an, cdv, ct, osl, rfl, lk, hcd⟩ := F.ex
  refine fn_ofH lk hcd Sc (fun vs H Q E h => h.1) fun A outer s H vs Q E p hot hr h => ?_
  obtain ⟨hl, x, ds, μ, q, e, zh, r, hs, pq, pe⟩ := h
  obtain ⟨t, pp⟩ := hb f cdv A outer s H E p ⟨hot, List.mem_singleton.mpr rfl, Sc.nd, hr, L2N.takes_of rfl rfl rfl rfl, passes_of rfl⟩
  refine ⟨t, pp.p, ?_⟩
  exact pp.l x (L2.start N vs) H (startZ N.length ds) μ _ _ (start_zinv zh r) (fun σ' H' ρ' μ' cls dd rr g I er hw => pe rr cls dd H' μ' g I.zh er hw) hs ⟨fun σ' H' ρ' μ' g I hq => pq .non .non H' μ' g I.zh rep_non hq, pq, fun _ _ _ _ _ _ h => h, fun _ _ _ _ _ _ h => h⟩
end
section
variable {X : Cx} {p : Addr × Obj} {W : WX} {k n : Nat} {ps : List PySem.Str} {S : Zp} {x : PySem.Str} {pp pos : Pos} {e : Expr} {es : List Expr} {tas : TA} {zas : ZA}
theorem zcalH (c : ZCH X p W k) (C : CalH X.prog X.w X.K X.mg X.base k x ps S) (ha : ZAr X W n (e :: es) tas zas) (hn : n = ps.length := by rfl)
    (hg : Gl X x := by rfl) (hdb : (x == ("__debug__" : PySem.Str)) = false := by decide) (he : starEach (e :: es) X.env = (false, eval e X.env) :: starEach es X.env := by rfl) (hpl : (backTo pos (starEach es X.env)).any (·.1) = false := by rfl) :
    ZE X W (.Call (.Name x pp) (e :: es) [] pos) (tCallS (spOf X.K n S) (WE W) tas) (zCall S zas) := by
  obtain ⟨f, fd, F, m, kp, b⟩ := C
  subst hn
  exact ⟨pe_callH F c.room c.hc hg m kp b (fun σ => L2N.passAt c.tk σ) ha.p hdb he hpl, le_call ha.l⟩
end
end Z

set_option maxRecDepth 100000
set_option maxHeartbeats 4000000
/-! ### a def with a parameter: a token is out when its body begins -/
namespace Z
open PySem PySem.Spec PyProof.Rows L2
section
variable {M : Model} {A : Around} {E : Value → Shared → Prop} {s : Shared}
abbrev env0 (sc : Scope) (gl : Addr) (ql : PySem.Str) (fo : Option Addr) (cd : Value) (bu L : Addr) : Env := newEnv sc L gl (cellsFrom (L + 1) sc.names []) ql fo cd none bu
/-- as wpAny_newFunctionEnv_cells; the first parameter is no cell: storing it gives a token out -/
theorem newEnvT {sc : Scope} {gl bu : Addr} {n : PySem.Str} {v : Value} {bs : List (PySem.Str × Value)} {ql : PySem.Str} {fo : Option Addr} {cd : Value} {Q : Env → Shared → Prop} (hk : sc.kind = .function) (hn : sc.names.lookup n = some .local)
    (hb : ∀ x ∈ bs, sc.names.lookup x.1 = some .local ∨ (sc.names.lookup x.1 = some .cell ∧ ((cellsFrom (s.heap.objs.size + 1) sc.names []).lookup x.1).isSome = true))
    (hQ : ∀ en, en = newEnv sc s.heap.objs.size gl (cellsFrom (s.heap.objs.size + 1) sc.names []) ql fo cd none bu → ∀ s2 : Shared, 1 ≤ s2.toks →
      InCallC s en.locals (bindL en.kindOf ((n, v) :: bs) fun _ => none) en.cells (bindC en.kindOf ((n, v) :: bs) fun _ => none) s2 → Q en s2) :
    wpAny M A (newFunctionEnv sc gl [] ((n, v) :: bs) ql fo cd none bu) Q E s := by
  simp only [newFunctionEnv, Option.isSome_none, Bool.false_eq_true, if_false]
  refine wpAny_bind (wpAny_alloc (wpAny_bind (wpAny_layCells _ (fun a b c => by cases hh : b == NameKind.cell <;> simp [hh]) _ _ _ _ ?_)))
  have sz : ({ s with heap := s.heap.push { cls := .type "frame", data := .dict #[] } } : Shared).heap.objs.size = s.heap.objs.size + 1 := Heap.size_push ..
  have ok := cellsFrom_ok sc.names (s.heap.push { cls := .type "frame", data := .dict #[] }) (s.heap.objs.size + 1) [] ⟨fun _ _ z => (nomatch z), .nil⟩ (Nat.le_of_eq sz.symm)
  rw [Heap.size_push] at ok
  rw [sz]
  have kd : ∀ y, (env0 sc gl ql fo cd bu s.heap.objs.size).kindOf y = sc.names.lookup y := fun y => rfl
  have kn : (env0 sc gl ql fo cd bu s.heap.objs.size).kindOf n = some .local := (kd n).trans hn
  have I0 : InCallC s s.heap.objs.size (fun _ => none) (cellsFrom (s.heap.objs.size + 1) sc.names []) (fun _ => none) ({ s with heap := pushCells (s.heap.push { cls := .type "frame", data := .dict #[] }) sc.names } : Shared) := by
    refine ⟨⟨⟨_, _, rfl⟩, (Heap.Ns.new s.heap (.type "frame")).keeps (pushCells_keeps _ _), fun b o q => ?_, Nat.le_refl _⟩, fun y c q => (ok.empty y c (mem_of_lookup q)).1, ok.apart, fun y c q => (ok.empty y c q).2⟩
    exact pushCells_keeps _ _ b o (Heap.get?_push_of_some _ q)
  refine wpAny_bind ?_
  rw [List.forIn_cons]
  refine wpAny_bind (wpAny_bind (wpAny_storeName_local kn I0.toInCall.ns (fun h1 hn1 hs1 => ?_) (by show (sc.kind == .class || (sc.kind == .module && _)) = false; rw [hk]; rfl)))
  have I1 : InCallC s s.heap.objs.size (fun y => if y = n then some v else none) (cellsFrom (s.heap.objs.size + 1) sc.names []) (fun _ => none) ({ s with heap := h1, toks := s.toks + 1 } : Shared) := by
    refine ⟨⟨⟨h1, _, rfl⟩, hn1, fun b o q => ?_, I0.toInCall.fresh⟩, fun y c q => ?_, I0.apart, I0.above⟩
    · exact hs1.extBut b o (Nat.ne_of_lt (Nat.lt_of_lt_of_le (Heap.lt_size q) I0.toInCall.fresh)) (I0.toInCall.keep b o q)
    · exact (I0.cell y c q).sameBut hs1 (Nat.ne_of_gt (I0.above y c (mem_of_lookup q)))
  refine wpAny_pure (wpAny_with_toks (n := 1) (Nat.le_add_left 1 s.toks) ?_)
  refine wpAny_bindParams (s₀ := s) (env := env0 sc gl ql fo cd bu s.heap.objs.size) _ (fun _ _ _ => rfl) hk bs _ _ _ _ I1 (fun x hx => ?_) fun s2 I2 => ?_
  · exact hb x hx
  · intro ht
    refine wpAny_pure (hQ _ rfl s2 ht ?_)
    unfold bindL bindC
    rw [if_pos kn, if_pos kn]
    exact I2
end
section
variable {P : Program} {w : World} {K : PySem.W.Frag} {mg : PySem.Str → Option Value} {base : Heap}
theorem okXT {x qual n : PySem.Str} {st : Stmt} {f : Addr} {fd : FuncData} {N ps : List PySem.Str} {k : Nat} {sp : Sp} (F : Fun K x qual st f fd) (S : FnScope N (n :: ps) (defScope st)) (hn : (defScope st).names.lookup n = some .local) (len : ∀ vs H Q E, sp vs H Q E → vs.length = (n :: ps).length)
    (hbody : ∀ (cdv : Value) (A : Around) (outer : List Env) (s : Shared) (H : Hp) (vs : List V) (Q : VK) (E : XK), Room k (A.deeper (envOfC qual (defScope st) s.heap.objs.size f cdv)) → sp vs H Q E →
      ∃ t, PSsT (cxOf (L2N.CX P w) P w K mg base N qual (defScope st) f cdv A outer s H E) (defBody st) t ∧ t { nx := fun _ H' => Q .non H', rt := Q } (start N vs) H) : FnOk P w K mg base (L2N.CX P w) (k + 1) f fd (n :: ps) sp := by
  obtain ⟨oc, od, kV, doc, pm, an, cdv, ct, osl, rfl, lk, hcd⟩ := F.ex
  refine ⟨len, fun A outer s H args us vs Q E hr e0 hb r hsp => ?_⟩
  have hl := len _ _ _ _ hsp
  have stays : ∀ b o, base.get? b = some o → s.heap.get? b = some o := fun b o q => (e0.bs b o q).1
  have hul : us.length = (n :: ps).length := r.length.symm.trans hl
  obtain ⟨v, vr, rfl⟩ : ∃ v vr, us = v :: vr := List.exists_cons_of_length_pos (by rw [hul]; simp)
  have hz : (n :: ps).zip (v :: vr) = (n, v) :: ps.zip vr := rfl
  have hks : ∀ y ∈ ps.zip vr, (defScope st).names.lookup y.1 = some .local ∨ ((defScope st).names.lookup y.1 = some .cell ∧ ((cellsFrom (s.heap.objs.size + 1) (defScope st).names []).lookup y.1).isSome = true) := by
    rintro ⟨y, u⟩ hy
    exact (S.par y (List.mem_cons_of_mem _ (List.of_mem_zip hy).1)).imp id fun q => ⟨q, PySem.W.cellsFrom_some _ _ _ (.inl q)⟩
  refine codeAny_call_function hr.depth (e0.mod.kin.keeps stays _ _ lk) rfl S.co S.gen rfl (PySem.W.codeRec_of (e0.mod.kin.keeps stays) hcd) (hb _ _ _ _ ?_)
  rw [hz]
  refine newEnvT S.kind hn hks fun en he s1 ht x => ?_
  subst he
  obtain ⟨t, hp, hq⟩ := hbody cdv A outer s H vs Q E (hr.deeper _) hsp
  refine ⟨(e0.mod.nolimit.keeps stays).keeps x.toInCall.keep, codeAny_func ?_⟩
  have I : Inv (cxOf (L2N.CX P w) P w K mg base N qual (defScope st) f cdv A outer s H E) [] (start N vs) H s1 := inv_start S hr.hd e0 hl r x
  refine wpAny_mono (hp [] s1 (start N vs) H _ ht I hq) ?_ fun _ _ z => z
  rintro (u | _ | _ | _) s2 z
  all_goals first
    | exact (z.elim fun _ y => y.elim fun _ y => y.2).elim
    | (obtain ⟨a, σ', H', J, ra, qa⟩ := z; exact ⟨a, H', J.os, J.bare, J.base, J.hok, ra, qa⟩)
    | (obtain ⟨σ', H', J, qa⟩ := z; exact ⟨.non, H', J.os, J.bare, J.base, J.hok, rfl, qa⟩)
end
/-! ### readings where a token is out -/
structure ZStT (X : Cx) (W : WX) (st : Stmt) (t : TS) (z : ZS) : Prop where
  p : PST X st t
  l : LS X.K W t z
structure ZSsT (X : Cx) (W : WX) (st : List Stmt) (t : TS) (z : ZS) : Prop where
  p : PSsT X st t
  l : LS X.K W t z
structure ZET (X : Cx) (W : WX) (e : Expr) (t : TE) (z : ZT) : Prop where
  p : PET X e t
  l : LE X.K W t z
def zRepl (y z : PySem.Str) (zo : ZT) : ZT := fun ρ μ q e => zo ρ μ (fun d μ1 => match d with
  | .str x => x.length + (x.length + 1) * z.length ≤ 16777216 ∧ q (.str (Txt.replace x y z)) μ1
  | _ => False) e
section
variable {X : Cx} {W : WX} {st : Stmt} {rest a b : List Stmt} {t u : TS} {z y : ZS} {e o : Expr} {te to : TE} {ze zo : ZT} {tt : TT} {zt : ZB} {c : Expr} {pos pos' apos c0 c1 : Pos} {x r1 r2 : PySem.Str} {i j k : Nat}
theorem le_repl {K : PySem.W.Frag} (h : LE K W to zo) : LE K W (CwR.tReplC to r1 r2) (zRepl r1 r2 zo) := fun x σ H ρ μ q w R I cc hq kk => by
  refine h x σ H ρ μ _ w _ I cc hq fun d v H1 μ1 g1 z1 rr h1 => ?_
  split at h1
  · rename_i s
    exact ⟨s, rr.str, h1.1, kk _ _ H1 μ1 g1 z1 rep_str h1.2⟩
  · exact h1.elim
theorem zreplC (h : ZE X W o to zo) (hyz : (r1 == r2) = false := by decide +kernel)
    (hst : starEach [.Constant (.str r1) j c0, .Constant (.str r2) k c1] X.env = [(false, eval (.Constant (.str r1) j c0) X.env), (false, eval (.Constant (.str r2) k c1) X.env)] := by rfl)
    (hbase : attributeBase o "replace" X.env (eval o X.env) = eval o X.env := by rfl) (hline : (apos.endLine == pos.line) = true := by rfl) :
    ZET X W (.Call (.Attribute o "replace" apos) [.Constant (.str r1) j c0, .Constant (.str r2) k c1] [] pos) (CwR.tReplC to r1 r2) (zRepl r1 r2 zo) := ⟨CwR.pet_replC h.p hyz hst hbase hline, le_repl h.l⟩
theorem zreplT (h : ZET X W o to zo) (hyz : (r1 == r2) = false := by decide +kernel)
    (hst : starEach [.Constant (.str r1) j c0, .Constant (.str r2) k c1] X.env = [(false, eval (.Constant (.str r1) j c0) X.env), (false, eval (.Constant (.str r2) k c1) X.env)] := by rfl)
    (hbase : attributeBase o "replace" X.env (eval o X.env) = eval o X.env := by rfl) (hline : (apos.endLine == pos.line) = true := by rfl) :
    ZET X W (.Call (.Attribute o "replace" apos) [.Constant (.str r1) j c0, .Constant (.str r2) k c1] [] pos) (CwR.tReplC to r1 r2) (zRepl r1 r2 zo) := ⟨CwR.pet_replT h.p hyz hst hbase hline, le_repl h.l⟩
theorem zsetT (i : Nat) (nd : X.N.Nodup) (h : ZET X W e te ze) (hi : X.N[i]? = some x := by rfl) (hx : Loc X.env.scope x := by first | exact Or.inl rfl | exact Or.inr rfl) (hs : swapsWith e (some (.Name x pos')) pos.line X.env = pure false := by rfl)
    (hf : X.fn x = true ∨ X.env.scope.names.lookup x = some .local := by first | exact .inl rfl | exact .inr rfl | assumption) : ZStT X W (.Assign [.Name x pos'] e pos) (tAsg te (gName i)) (zAsg ze (zgName i)) := by
  refine ⟨fun pins s σ H D h0 I hq => ?_, ls_asg h.l lg_name⟩
  exact wpAny_Assign_Name (thn (h.p pins s σ H _ h0 I hq) fun v s1 ⟨y, H1, I1, rv, q1⟩ => store_ok I1 nd hi hx rv (fun s2 I2 => ⟨_, H1, I2, q1⟩) hf) hs
theorem zofT (h : ZSt X W st t z) : ZStT X W st t z := ⟨PST.of h.p, h.l⟩
theorem zsofT (h : ZSs X W rest t z) : ZSsT X W rest t z := ⟨PSsT.of h.p, h.l⟩
theorem zconsT (h1 : ZStT X W st t z) (h2 : ZSsT X W rest u y) : ZSsT X W (st :: rest) (tSeq t u) (zSeq z y) := ⟨psst_cons h1.p h2.p, ls_seq h1.l h2.l⟩
theorem zoneT (h1 : ZStT X W st t z) : ZSsT X W [st] t z := ⟨CwR.psst_one h1.p, h1.l⟩
theorem zifT (hc : ZTe X W c tt zt) (h1 : ZSsT X W a t z) (h2 : ZSsT X W b u y) : ZStT X W (.If c a b pos) (tIfS tt t u) (zIfS zt z y) := ⟨CwR.pst_if hc.p h1.p h2.p, ls_if hc.l h1.l h2.l⟩
end
section
variable {P : Program} {w : World} {K : PySem.W.Frag} {mg : PySem.Str → Option Value} {base : Heap} {x n : PySem.Str} {ps : List PySem.Str} {S : Zp} {k : Nat} {st : Stmt}
theorem Cal.mkT {N : List PySem.Str} {z : ZS} (h : Def K mg x st (n :: ps)) (Sc : FnScope N (n :: ps) (defScope st)) (hn : (defScope st).names.lookup n = some .local)
    (hb : ∀ (f : Addr) (cdv : Value) (A : Around) (outer : List Env) (s : Shared) (H : Hp) (E : XK), ZC (cxOf (L2N.CX P w) P w K mg base N x (defScope st) f cdv A outer s H E) (fun cls d _ H => E cls d H) k →
      ∃ t, ZSsT (cxOf (L2N.CX P w) P w K mg base N x (defScope st) f cdv A outer s H E) (fun cls d _ H => E cls d H) (defBody st) t z) :
    Cal P w K mg base (k + 1) x (n :: ps) (zBody N.length z) := by
  obtain ⟨f, fd, F, m, b⟩ := h
  refine ⟨f, fd, ?_, m, F.kp, b⟩
  refine okXT F Sc hn (fun vs H Q E h => h.1) fun cdv A outer s H vs Q E hr h => ?_
  obtain ⟨hl, x', ds, μ, q, e, zh, r, hs, pq, pe⟩ := h
  obtain ⟨t, p⟩ := hb f cdv A outer s H E ⟨rfl, Sc.nd, hr, L2N.takes_of rfl rfl rfl rfl, passes_of rfl⟩
  refine ⟨t, p.p, ?_⟩
  refine p.l x' (L2.start N vs) H (startZ N.length ds) μ _ _ (start_zinv zh r) (fun σ' H' ρ' μ' cls dd rr g I er hw => pe rr cls dd H' μ' g I.zh er hw) hs ⟨fun σ' H' ρ' μ' g I hq => pq .non .non H' μ' g I.zh rep_non hq, pq, fun _ _ _ _ _ _ h => h, fun _ _ _ _ _ _ h => h⟩
end
end Z

set_option maxRecDepth 100000
set_option maxHeartbeats 4000000
namespace Z
open PySem PySem.Spec PyProof.Rows L2 ErrX TL
/-! ### texts as lists of signs -/
def mk (l : List Nat) : Str := ⟨l.toArray⟩
theorem tlk (l : List Nat) : tl (mk l) = l := rfl
theorem mk_of (s : Str) : mk (tl s) = s := ext_tl rfl
theorem len_mk (l : List Nat) : (mk l).length = l.length := len_tl _
theorem mk_inj {a b : List Nat} (h : mk a = mk b) : a = b := by
  have := congrArg tl h
  exact this
theorem dec_mk (a b : List Nat) : decide (mk a = mk b) = decide (a = b) := by
  by_cases h : a = b
  · rw [h, decide_eq_true rfl, decide_eq_true rfl]
  · rw [decide_eq_false h, decide_eq_false fun e => h (mk_inj e)]
theorem strIn1 (c : Nat) (j : Str) : strIn (mk [c]) j = decide (c ∈ tl j) := rfl
theorem ix_mk {l : List Nat} {i : Nat} (h : i < l.length) : atI (mk l).cps.toList (i : Int) = some (l[i]'h) := by
  show atI l _ = _
  rw [atI_cast, List.getElem?_eq_getElem h]
theorem cut_ij {l : List Nat} {i j : Nat} (h1 : i ≤ j) (h2 : j ≤ l.length) : cutS (mk l) (some (i : Int)) (some (j : Int)) = mk ((l.drop i).take (j - i)) := by
  unfold cutS
  rw [len_mk, HT.sIx_nat, HT.sIx_nat, Nat.min_eq_left h2, Nat.min_eq_left (Nat.le_trans h1 h2)]
  rfl
theorem cut_1 (l : List Nat) : cutS (mk l) (some 1) none = mk l.tail := by
  have e1 : HT.sIx l.length 0 (some 1) = min 1 l.length := HT.sIx_nat _ _ 1
  have e2 : HT.sIx l.length l.length none = l.length := rfl
  unfold cutS
  rw [len_mk, e1, e2]
  cases l with
  | nil => rfl
  | cons c r =>
    have e3 : min 1 (c :: r).length = 1 := by simp only [List.length_cons]; omega
    rw [e3]
    show mk (List.take _ r) = mk r
    rw [List.take_of_length_le (by simp)]
theorem cut_h (l : List Nat) : cutS (mk l) none (some 1) = mk (l.take 1) := by
  have e1 : HT.sIx l.length l.length (some 1) = min 1 l.length := HT.sIx_nat _ _ 1
  have e2 : HT.sIx l.length 0 none = 0 := rfl
  unfold cutS
  rw [len_mk, e1, e2]
  cases l with
  | nil => rfl
  | cons c r =>
    have e3 : min 1 (c :: r).length = 1 := by simp only [List.length_cons]; omega
    rw [e3]
    rfl
/-! ### the next line feed -/
theorem at_nl {l : List Nat} {i : Nat} : StrLaws.At (mk l) (mk [10]) l.length i ↔ l[i]? = some 10 := by
  unfold StrLaws.At Builtin.Str.subAt
  have e1 : (mk [10]).length = 1 := rfl
  rw [e1]
  constructor
  · rintro ⟨h1, h2⟩
    have h2 : (mk l).cps.extract i (i + 1) = (mk [10]).cps := by simpa using h2
    have h3 := congrArg Array.toList h2
    rw [Array.toList_extract] at h3
    have h4 : (l.drop i).take 1 = [10] := by
      have : (l.extract i (i + 1)) = [10] := h3
      rw [List.extract_eq_take_drop] at this
      simpa using this
    have h5 : (l.drop i)[0]? = some 10 := by
      have := congrArg (fun x : List Nat => x[0]?) h4
      rw [List.getElem?_take] at this
      simpa using this
    rw [List.getElem?_drop] at h5
    simpa using h5
  · intro h
    obtain ⟨hl, he⟩ := List.getElem?_eq_some_iff.mp h
    refine ⟨by omega, ?_⟩
    have : (mk l).cps.extract i (i + 1) = (mk [10]).cps := by
      apply Array.ext'
      rw [Array.toList_extract]
      show l.extract i (i + 1) = [10]
      rw [List.extract_eq_take_drop, List.drop_eq_getElem_cons hl, he]
      simp
    rw [this]
    simp
theorem range'_cut {n i a : Nat} {pre post : List Nat} (h : List.range' i n = pre ++ a :: post) : a = i + pre.length := by
  have h1 : (List.range' i n)[pre.length]? = some a := by rw [h]; simp
  have hl : pre.length < n := by
    have := congrArg List.length h
    simp at this
    omega
  rw [List.getElem?_range' hl] at h1
  simp at h1
  omega
theorem find_nl {l : List Nat} {i : Nat} (hi : i ≤ l.length) : Txt.find3 (mk l) (mk [10]) (i : Int) = if 10 ∈ l.drop i then ((i + ((l.drop i).takeWhile fun c => c != 10).length : Nat) : Int) else -1 := by
  have e0 : fromIndex (mk l).length (i : Int) = i := by
    unfold fromIndex
    rw [if_neg (by omega)]
    omega
  unfold Txt.find3
  rw [e0, StrLaws.occ_eq, len_mk]
  rcases StrLaws.occ_first (mk l) (mk [10]) l.length 1 (by decide) (List.range' i (l.length + 1 - i)) i (fun j hj => by rw [List.mem_range'_1] at hj; omega) with ⟨h0, hn⟩ | ⟨pre, a, post, e, h0, ha, hn⟩
  · rw [h0]
    rw [if_neg]
    intro hm
    obtain ⟨j, hj, ej⟩ := List.mem_iff_getElem.mp hm
    have h1 : (l.drop i)[j]? = some 10 := by rw [List.getElem?_eq_getElem hj, ej]
    rw [List.getElem?_drop] at h1
    have h2 : i + j < l.length := (List.getElem?_eq_some_iff.mp h1).1
    exact hn (i + j) (by rw [List.mem_range'_1]; omega) (at_nl.mpr h1)
  · have ea := range'_cut e
    have hla := at_nl.mp ha
    obtain ⟨hal, hae⟩ := List.getElem?_eq_some_iff.mp hla
    have hpre : ∀ j, j < pre.length → (l.drop i)[j]? ≠ some 10 := fun j hj hh => by
      have hm : i + j ∈ pre := by
        have h1 : (List.range' i (l.length + 1 - i))[j]? = pre[j]? := by rw [e, List.getElem?_append_left hj]
        have h2 : j < l.length + 1 - i := by
          have := congrArg List.length e
          simp at this
          omega
        rw [List.getElem?_range' h2] at h1
        exact List.mem_of_getElem? (h1.symm.trans (by simp))
      rw [List.getElem?_drop] at hh
      exact hn _ hm (at_nl.mpr hh)
    have hat : (l.drop i)[pre.length]? = some 10 := by rw [List.getElem?_drop, ← ea]; exact hla
    have tw : ∀ (m : List Nat) (k : Nat), m[k]? = some 10 → (∀ j, j < k → m[j]? ≠ some 10) → 10 ∈ m ∧ (m.takeWhile fun c => c != 10).length = k := by
      intro m
      induction m with
      | nil => intro k h; simp at h
      | cons c r ih =>
        intro k h hb
        cases k with
        | zero =>
          simp at h
          subst h
          exact ⟨by simp, by simp [List.takeWhile]⟩
        | succ k =>
          have hc : c ≠ 10 := fun e => hb 0 (by omega) (by simp [e])
          obtain ⟨h1, h2⟩ := ih k (by simpa using h) (fun j hj => by have := hb (j + 1) (by omega); simpa using this)
          refine ⟨by simp [h1], ?_⟩
          rw [List.takeWhile_cons_of_pos (by simpa using hc), List.length_cons, h2]
    obtain ⟨t1, t2⟩ := tw _ _ hat hpre
    rw [if_pos t1, t2, ← ea]
    cases hL : (forIn (List.range' i (l.length + 1 - i)) ((#[] : Array Nat), i) (StrLaws.occBody (mk l) (mk [10]) l.length 1)).run.fst.toList with
    | nil =>
      rw [← Array.getElem?_toList, hL] at h0
      simp at h0
    | cons b t =>
      rw [← Array.getElem?_toList, hL] at h0
      simp at h0
      rw [h0]
end Z

set_option maxRecDepth 100000
set_option maxHeartbeats 4000000
namespace Z
open PySem L2 ErrX
/-! the text by places -/
def top (i : Nat) : Stmt := PySem.Challenge.pw_aliasfold_k10_words.main.body.getD i (.Pass ⟨0, 0, 0, 0⟩)
def own_ : List Addr := []
def subT_ : List (Str × List (Str × Bool)) := [("FoldError", [("FoldError", true)]), ("UnexpectedEnd", [("FoldError", true)]), ("UnexpectedClose", [("FoldError", true)]), ("InvalidWord", [("FoldError", true)]), ("TooDeep", [("FoldError", true)])]
def sub_ (C c : Str) : Option Bool := (subT_.lookup C).bind fun l => l.lookup c
def kitT_ : List (Str × List (Str × Bool)) := [("FoldError", [("InvalidWord", false), ("UnexpectedEnd", false)]), ("UnexpectedEnd", [("InvalidWord", false), ("UnexpectedEnd", true)]), ("UnexpectedClose", [("InvalidWord", false), ("UnexpectedEnd", false)]), ("InvalidWord", [("InvalidWord", true), ("UnexpectedEnd", false)]), ("TooDeep", [("InvalidWord", false), ("UnexpectedEnd", false)])]
def kit_ (C c : Str) : Option Bool := (kitT_.lookup C).bind fun l => l.lookup c
def fldT_ : List (Str × Str) := [("UnexpectedEnd", "at"), ("UnexpectedClose", "at"), ("InvalidWord", "at")]
def fld_ (C f : Str) : Bool := decide (fldT_.lookup C = some f)
structure Fx (P : Program) (w : World) (K : PySem.W.Frag) (mg : Str → Option Value) : Prop where
  e_InvalidWord : ExF P K mg "InvalidWord" "at"
  e_TooDeep : Ex0 K mg "TooDeep"
  e_UnexpectedClose : ExF P K mg "UnexpectedClose" "at"
  e_UnexpectedEnd : ExF P K mg "UnexpectedEnd" "at"
  fld : FldOk K fld_
  g_FoldError : mg "FoldError" = some (.ref (gad K "FoldError"))
  g_InvalidWord : mg "InvalidWord" = some (.ref (gad K "InvalidWord"))
  g_UnexpectedEnd : mg "UnexpectedEnd" = some (.ref (gad K "UnexpectedEnd"))
  sub : ExmOk K sub_
  kit : KitOk K kit_
  b_abs : mg "abs" = none
  b_all : mg "all" = none
  b_bool : mg "bool" = none
  b_int : mg "int" = none
  b_isinstance : mg "isinstance" = none
  b_len : mg "len" = none
  b_list : mg "list" = none
  b_range : mg "range" = none
  b_str : mg "str" = none
  b_tuple : mg "tuple" = none
  c_BLANKS : ∃ t, mg "BLANKS" = some (.str " \n" t)
  c_DIGITS : ∃ t, mg "DIGITS" = some (.str "0123456789" t)
  c_LETTERS : ∃ t, mg "LETTERS" = some (.str "abcdefghijklmnopqrstuvwxyzABCDEFGHIJKLMNOPQRSTUVWXYZ" t)
  c_MOST_DEPTH : ∃ t, mg "MOST_DEPTH" = some (.int (60) t)
  c_MOST_FIGURES : ∃ t, mg "MOST_FIGURES" = some (.int (40) t)
  c_PARTING : ∃ t, mg "PARTING" = some (.str " \n();" t)
  c_SIGNS : ∃ t, mg "SIGNS" = some (.str "-+*<=?!." t)
  own : ∀ C ∈ own_, ClsTy K C
  isi_bool : Isi K own_ .bool
  isi_int : Isi K own_ .int
  isi_list : Isi K own_ .lst
  isi_list_tuple : ∀ c ∈ [(.lst : Ty), (.tup : Ty)], Isi K own_ c
  isi_str : Isi K own_ .str
section
variable {P : Program} {w : World} {K : PySem.W.Frag} {mg : Str → Option Value} {base : Heap}
/-! ### may_stand -/
abbrev s_may_stand : Stmt := top 14
theorem sc_may_stand : FnScope ["sign"] ["sign"] (defScope s_may_stand) := ⟨rfl, rfl, rfl, by decide +kernel, rfl, by decide +kernel, by decide +kernel⟩
def z_may_stand   : ZS :=
  (zRet (zOrV (zOp zIn (zVar 0) (zC (.str "abcdefghijklmnopqrstuvwxyzABCDEFGHIJKLMNOPQRSTUVWXYZ"))) (zOrV (zOp zIn (zVar 0) (zC (.str "0123456789"))) (zOp zIn (zVar 0) (zC (.str "-+*<=?!."))))))
theorem ok_may_stand {k : Nat}   (fx : Fx P w K mg) (d : Def K mg "may_stand" s_may_stand ["sign"])  : Cal P w K mg base (k + 1) "may_stand" ["sign"] (zBody 1 (z_may_stand )) :=
  Cal.mk (N := ["sign"]) d sc_may_stand fun f cdv A outer s H E cx => ⟨_, by exact (zsone (zret (zorV (zcmp (op_inAll cx.hu65) lf_in (zv 0) (zglobS fx.c_LETTERS)) (zorV (zcmp (op_inAll cx.hu65) lf_in (zv 0) (zglobS fx.c_DIGITS)) (zone (zcmp (op_inAll cx.hu65) lf_in (zv 0) (zglobS fx.c_SIGNS)))))))⟩
/-! ### is_numeral -/
abbrev s_is_numeral : Stmt := top 15
theorem sc_is_numeral : FnScope ["word", "digits", "sign"] ["word"] (defScope s_is_numeral) := ⟨rfl, rfl, rfl, by decide +kernel, rfl, by decide +kernel, by decide +kernel⟩
def z_is_numeral   : ZS :=
  (zSeq (zAsg (zIf (zOr (zTst (zOp zEq (zSlice (zVar 0) zNoP (zPart (zC (.int 1)))) (zC (.str "-")))) (zTst (zOp zEq (zSlice (zVar 0) zNoP (zPart (zC (.int 1)))) (zC (.str "+"))))) (zSlice (zVar 0) (zPart (zC (.int 1))) zNoP) (zVar 0)) (zgName 1)) (zRet (zAndV (zOp zNe (zVar 1) (zC (.str ""))) (zCB zAll (zCons (zLc (ziSeq (zVar 1)) (zgName 2) zYes (zOp zIn (zVar 2) (zC (.str "0123456789"))) [2]) zNil)))))
theorem ok_is_numeral {k : Nat}   (fx : Fx P w K mg) (d : Def K mg "is_numeral" s_is_numeral ["word"])  : Cal P w K mg base (k + 1) "is_numeral" ["word"] (zBody 3 (z_is_numeral )) :=
  Cal.mk (N := ["word", "digits", "sign"]) d sc_is_numeral fun f cdv A outer s H E cx => ⟨_, by exact (zscons (zset 1 cx.nd (zifx (ztw (zor (ztcmp (op_eqAll cx.hu64) lf_eq (zslice (zv 0) znop (zpart zint)) zstr) (zor1 (ztcmp (op_eqAll cx.hu64) lf_eq (zslice (zv 0) znop (zpart zint)) zstr)))) (zslice (zv 0) (zpart zint) znop) (zv 0))) (zsone (zret (zandV (zcmp (op_neAll cx.hu64) lf_ne (zv 1) zstr) (zone (zcallB (cr_all cx.calm) lf_all fx.b_all (zcons (zlc cx (ziseq (zv 1)) (own := [("sign", 2)]) (blkOk_by rfl) (fun _ _ _ _ _ => (zgn 2 (by exact cx.nd))) (fun _ _ _ _ _ => gown_name) (fun _ _ _ _ _ cx => zptsnil) (fun _ _ _ _ _ cx => (zcmp (op_inAll cx.hu65) lf_in (zv 2) (zglobS fx.c_DIGITS)))) znil)))))))⟩
/-! ### is_symbol -/
abbrev s_is_symbol : Stmt := top 16
theorem sc_is_symbol : FnScope ["text", "sign"] ["text"] (defScope s_is_symbol) := ⟨rfl, rfl, rfl, by decide +kernel, rfl, by decide +kernel, by decide +kernel⟩
def z_is_symbol  (S_is_numeral : Zp) (S_may_stand : Zp) : ZS :=
  (zRet (zAndV (zOp zNe (zVar 0) (zC (.str ""))) (zAndV (zNotV (zCall S_is_numeral (zCons (zVar 0) zNil))) (zCB zAll (zCons (zLc (ziSeq (zVar 0)) (zgName 1) zYes (zCall S_may_stand (zCons (zVar 1) zNil)) [1]) zNil)))))
theorem ok_is_symbol {k : Nat}  {S_is_numeral : Zp} {S_may_stand : Zp} (fx : Fx P w K mg) (d : Def K mg "is_symbol" s_is_symbol ["text"]) (c_is_numeral : Cal P w K mg base k "is_numeral" ["word"] S_is_numeral) (c_may_stand : Cal P w K mg base k "may_stand" ["sign"] S_may_stand) : Cal P w K mg base (k + 1) "is_symbol" ["text"] (zBody 2 (z_is_symbol S_is_numeral S_may_stand)) :=
  Cal.mk (N := ["text", "sign"]) d sc_is_symbol fun f cdv A outer s H E cx => ⟨_, by exact (zsone (zret (zandV (zcmp (op_neAll cx.hu64) lf_ne (zv 0) zstr) (zandV (znotV (zcal cx c_is_numeral (zcons (zv 0) znil))) (zone (zcallB (cr_all cx.calm) lf_all fx.b_all (zcons (zlc cx (ziseq (zv 0)) (own := [("sign", 1)]) (blkOk_by rfl) (fun _ _ _ _ _ => (zgn 1 (by exact cx.nd))) (fun _ _ _ _ _ => gown_name) (fun _ _ _ _ _ cx => zptsnil) (fun _ _ _ _ _ cx => (zcal cx c_may_stand (zcons (zv 1) znil)))) znil)))))))⟩
/-! ### number_of -/
abbrev s_number_of : Stmt := top 17
theorem sc_number_of : FnScope ["word", "at", "digits"] ["word", "at"] (defScope s_number_of) := ⟨rfl, rfl, rfl, by decide +kernel, rfl, by decide +kernel, by decide +kernel⟩
def z_number_of   : ZS :=
  (zSeq (zAsg (zIf (zTst (zOp zEq (zOp zIx (zVar 0) (zC (.int 0))) (zC (.str "-")))) (zSlice (zVar 0) (zPart (zC (.int 1))) zNoP) (zVar 0)) (zgName 2)) (zSeq (zIfS (zOr (zTst (zOp zEq (zOp zIx (zVar 0) (zC (.int 0))) (zC (.str "+")))) (zTst (zOp zGt (zCB zLen (zCons (zVar 2) zNil)) (zC (.int (40)))))) (zRaiseF "InvalidWord" "at" (zVar 1)) zNext) (zSeq (zIfS (zAnd (zTst (zOp zEq (zOp zIx (zVar 2) (zC (.int 0))) (zC (.str "0")))) (zTst (zOp zNe (zVar 0) (zC (.str "0"))))) (zRaiseF "InvalidWord" "at" (zVar 1)) zNext) (zRet (zCB zToInt (zCons (zVar 0) zNil))))))
theorem ok_number_of {k : Nat}   (fx : Fx P w K mg) (d : Def K mg "number_of" s_number_of ["word", "at"])  : Cal P w K mg base (k + 1) "number_of" ["word", "at"] (zBody 3 (z_number_of )) :=
  Cal.mk (N := ["word", "at", "digits"]) d sc_number_of fun f cdv A outer s H E cx => ⟨_, by exact (zscons (zset 2 cx.nd (zifx (ztcmp (op_eqAll cx.hu64) lf_eq (zix (ix_all cx.hu) lf_ix (zv 0) zint) zstr) (zslice (zv 0) (zpart zint) znop) (zv 0))) (zscons (zif (ztw (zor (ztcmp (op_eqAll cx.hu64) lf_eq (zix (ix_all cx.hu) lf_ix (zv 0) zint) zstr) (zor1 (ztcmp op_gt lf_cmpI (zcallB call_lenAll lf_len fx.b_len (zcons (zv 2) znil)) (zglobI fx.c_MOST_FIGURES))))) (zsone (zraiseF cx fx.e_InvalidWord (zv 1))) zsnil) (zscons (zif (ztw (zand (ztcmp (op_eqAll cx.hu64) lf_eq (zix (ix_all cx.hu) lf_ix (zv 2) zint) zstr) (zand1 (ztcmp (op_neAll cx.hu64) lf_ne (zv 0) zstr)))) (zsone (zraiseF cx fx.e_InvalidWord (zv 1))) zsnil) (zsone (zret (zcallT call_toInt lf_toInt fx.b_int (zcons (zv 0) znil)))))))⟩
/-! ### word_at -/
abbrev s_word_at : Stmt := top 18
theorem sc_word_at : FnScope ["text", "start", "end", "word"] ["text", "start"] (defScope s_word_at) := ⟨rfl, rfl, rfl, by decide +kernel, rfl, by decide +kernel, by decide +kernel⟩
def z_word_at  (S_is_numeral : Zp) (S_number_of : Zp) (S_is_symbol : Zp) : ZS :=
  (zSeq (zAsg (zVar 1) (zgName 2)) (zSeq (zWhile (zAnd (zTst (zOp zLt (zVar 2) (zCB zLen (zCons (zVar 0) zNil)))) (zTst (zOp zNotIn (zOp zIx (zVar 0) (zVar 2)) (zC (.str " \n();"))))) (zAugI 2 (zC (.int 1)) fun i j => i + j)) (zSeq (zAsg (zSlice (zVar 0) (zPart (zVar 1)) (zPart (zVar 2))) (zgName 3)) (zSeq (zIfS (zTru (zCall S_is_numeral (zCons (zVar 3) zNil))) (zRet (zTup (zCons (zCall S_number_of (zCons (zVar 3) (zCons (zVar 1) zNil))) (zCons (zVar 2) zNil)))) zNext) (zSeq (zIfS (zNot (zTru (zCall S_is_symbol (zCons (zVar 3) zNil)))) (zRaiseF "InvalidWord" "at" (zVar 1)) zNext) (zRet (zTup (zCons (zVar 3) (zCons (zVar 2) zNil)))))))))
theorem ok_word_at {k : Nat}  {S_is_numeral : Zp} {S_number_of : Zp} {S_is_symbol : Zp} (fx : Fx P w K mg) (d : Def K mg "word_at" s_word_at ["text", "start"]) (c_is_numeral : Cal P w K mg base k "is_numeral" ["word"] S_is_numeral) (c_number_of : Cal P w K mg base k "number_of" ["word", "at"] S_number_of) (c_is_symbol : Cal P w K mg base k "is_symbol" ["text"] S_is_symbol) : Cal P w K mg base (k + 1) "word_at" ["text", "start"] (zBody 4 (z_word_at S_is_numeral S_number_of S_is_symbol)) :=
  Cal.mk (N := ["text", "start", "end", "word"]) d sc_word_at fun f cdv A outer s H E cx => ⟨_, by exact (zscons (zset 2 cx.nd (zv 1)) (zscons (zwhile cx (ztw (zand (ztcmp op_lt lf_cmpI (zv 2) (zcallB call_lenAll lf_len fx.b_len (zcons (zv 0) znil))) (zand1 (ztcmp (op_notInAll cx.hu65) lf_notIn (zix (ix_all cx.hu) lf_ix (zv 0) (zv 2)) (zglobS fx.c_PARTING))))) (zsone (zaugA 2 cx.nd zint))) (zscons (zset 3 cx.nd (zslice (zv 0) (zpart (zv 1)) (zpart (zv 2)))) (zscons (zif (ztru (zcal cx c_is_numeral (zcons (zv 3) znil))) (zsone (zret (ztup (zcons (zcal cx c_number_of (zcons (zv 3) (zcons (zv 1) znil))) (zcons (zv 2) znil))))) zsnil) (zscons (zif (znot (ztru (zcal cx c_is_symbol (zcons (zv 3) znil)))) (zsone (zraiseF cx fx.e_InvalidWord (zv 1))) zsnil) (zsone (zret (ztup (zcons (zv 3) (zcons (zv 2) znil))))))))))⟩
/-! ### behind_remark -/
abbrev s_behind_remark : Stmt := top 19
theorem sc_behind_remark : FnScope ["text", "at", "end"] ["text", "at"] (defScope s_behind_remark) := ⟨rfl, rfl, rfl, by decide +kernel, rfl, by decide +kernel, by decide +kernel⟩
def z_behind_remark   : ZS :=
  (zSeq (zAsg (zBM isS zFind (zVar 0) (zCons (zC (.str "\n")) (zCons (zVar 1) zNil))) (zgName 2)) (zSeq (zIfS (zTst (zOp zLt (zVar 2) (zC (.int 0)))) (zRet (zCB zLen (zCons (zVar 0) zNil))) zNext) (zRet (zVar 2))))
theorem ok_behind_remark {k : Nat}   (fx : Fx P w K mg) (d : Def K mg "behind_remark" s_behind_remark ["text", "at"])  : Cal P w K mg base (k + 1) "behind_remark" ["text", "at"] (zBody 3 (z_behind_remark )) :=
  Cal.mk (N := ["text", "at", "end"]) d sc_behind_remark fun f cdv A outer s H E cx => ⟨_, by exact (zscons (zset 2 cx.nd (zbm PySem.F.plainAttrs_str PySem.F.slot_str_find PySem.F.type_str_find mt_find3 lf_find tyf_s (zv 0) (zcons zstr (zcons (zv 1) znil)))) (zscons (zif (ztcmp op_lt lf_cmpI (zv 2) zint) (zsone (zret (zcallB call_lenAll lf_len fx.b_len (zcons (zv 0) znil)))) zsnil) (zsone (zret (zv 2)))))⟩
/-! ### parse_within -/
abbrev s_parse_within : Stmt := top 20
theorem sc_parse_within : FnScope ["text", "most", "lists", "at", "sign", "closed", "datum"] ["text", "most"] (defScope s_parse_within) := ⟨rfl, rfl, rfl, by decide +kernel, rfl, by decide +kernel, by decide +kernel⟩
def z_parse_within  (S_behind_remark : Zp) (S_word_at : Zp) : ZS :=
  (zSeq (zAsg (zLstO (zCons (zLstO zNil) zNil)) (zgName 2)) (zSeq (zAsg (zC (.int 0)) (zgName 3)) (zSeq (zWhile (zTst (zOp zLt (zVar 3) (zCB zLen (zCons (zVar 0) zNil)))) (zSeq (zAsg (zOp zIx (zVar 0) (zVar 3)) (zgName 4)) (zIfS (zTst (zOp zIn (zVar 4) (zC (.str " \n")))) (zAugI 3 (zC (.int 1)) fun i j => i + j) (zIfS (zTst (zOp zEq (zVar 4) (zC (.str ";")))) (zAsg (zCall S_behind_remark (zCons (zVar 0) (zCons (zVar 3) zNil))) (zgName 3)) (zIfS (zTst (zOp zEq (zVar 4) (zC (.str "(")))) (zSeq (zIfS (zTst (zOp zGt (zCB zLen (zCons (zVar 2) zNil)) (zVar 1))) (zRaise "TooDeep") zNext) (zSeq (zDrop (zBM isL zAppend (zVar 2) (zCons (zLstO zNil) zNil))) (zAugI 3 (zC (.int 1)) fun i j => i + j))) (zIfS (zTst (zOp zEq (zVar 4) (zC (.str ")")))) (zSeq (zIfS (zTst (zOp zEq (zCB zLen (zCons (zVar 2) zNil)) (zC (.int 1)))) (zRaiseF "UnexpectedClose" "at" (zVar 3)) zNext) (zSeq (zAsg (zBM0 isL zPop (zVar 2)) (zgName 5)) (zFrz 5 (zSeq (zDrop (zBM isL zAppend (zOp zIx (zVar 2) (zUn zNeg (zC (.int 1)))) (zCons (zVar 5) zNil))) (zAugI 3 (zC (.int 1)) fun i j => i + j))))) (zSeq (zAsg (zCall S_word_at (zCons (zVar 0) (zCons (zVar 3) zNil))) (zgTup 2 (zgCons (zgName 6) (zgCons (zgName 3) zgNil)))) (zDrop (zBM isL zAppend (zOp zIx (zVar 2) (zUn zNeg (zC (.int 1)))) (zCons (zVar 6) zNil)))))))))) (zSeq (zIfS (zTst (zOp zGt (zCB zLen (zCons (zVar 2) zNil)) (zC (.int 1)))) (zRaiseF "UnexpectedEnd" "at" (zCB zLen (zCons (zVar 0) zNil))) zNext) (zRet (zOp zIx (zVar 2) (zC (.int 0))))))))
theorem ok_parse_within {k : Nat}  {S_behind_remark : Zp} {S_word_at : Zp} (fx : Fx P w K mg) (d : Def K mg "parse_within" s_parse_within ["text", "most"]) (c_behind_remark : Cal P w K mg base k "behind_remark" ["text", "at"] S_behind_remark) (c_word_at : Cal P w K mg base k "word_at" ["text", "start"] S_word_at) : Cal P w K mg base (k + 1) "parse_within" ["text", "most"] (zBody 7 (z_parse_within S_behind_remark S_word_at)) :=
  Cal.mk (N := ["text", "most", "lists", "at", "sign", "closed", "datum"]) d sc_parse_within fun f cdv A outer s H E cx => ⟨_, by exact (zscons (zset 2 cx.nd (zlstO (zcons (zlstO znil) znil))) (zscons (zset 3 cx.nd zint) (zscons (zwhile cx (ztcmp op_lt lf_cmpI (zv 3) (zcallB call_lenAll lf_len fx.b_len (zcons (zv 0) znil))) (zscons (zset 4 cx.nd (zix (ix_all cx.hu) lf_ix (zv 0) (zv 3))) (zsone (zif (ztcmp (op_inAll cx.hu65) lf_in (zv 4) (zglobS fx.c_BLANKS)) (zsone (zaugA 3 cx.nd zint)) (zsone (zif (ztcmp (op_eqAll cx.hu64) lf_eq (zv 4) zstr) (zsone (zset 3 cx.nd (zcal cx c_behind_remark (zcons (zv 0) (zcons (zv 3) znil))))) (zsone (zif (ztcmp (op_eqAll cx.hu64) lf_eq (zv 4) zstr) (zscons (zif (ztcmp op_gt lf_cmpI (zcallB call_lenAll lf_len fx.b_len (zcons (zv 2) znil)) (zv 1)) (zsone (zraise0 cx fx.e_TooDeep)) zsnil) (zscons (zexpr (zbm PySem.F.plainAttrs_list PySem.F.slot_list_append PySem.F.type_list_append mt_append lf_append tyf_l (zv 2) (zcons (zlstO znil) znil))) (zsone (zaugA 3 cx.nd zint)))) (zsone (zif (ztcmp (op_eqAll cx.hu64) lf_eq (zv 4) zstr) (zscons (zif (ztcmp (op_eqAll cx.hu64) lf_eq (zcallB call_lenAll lf_len fx.b_len (zcons (zv 2) znil)) zint) (zsone (zraiseF cx fx.e_UnexpectedClose (zv 3))) zsnil) (zscons (zset 5 cx.nd (zbm0 PySem.F.plainAttrs_list PySem.F.slot_list_pop PySem.F.type_list_pop mt_popAll lf_pop tyf_l (zv 2))) (zsfrz 5 (zscons (zexpr (zbm PySem.F.plainAttrs_list PySem.F.slot_list_append PySem.F.type_list_append mt_append lf_append tyf_l (zix (ix_all cx.hu) lf_ix (zv 2) (zun un_neg lf_neg zint)) (zcons (zv 5) znil))) (zsone (zaugA 3 cx.nd zint)))))) (zscons (zasg (zcal cx c_word_at (zcons (zv 0) (zcons (zv 3) znil))) (zgtup cx.calm (zgscons (zgn 6 cx.nd) (zgscons (zgn 3 cx.nd) zgsnil)))) (zsone (zexpr (zbm PySem.F.plainAttrs_list PySem.F.slot_list_append PySem.F.type_list_append mt_append lf_append tyf_l (zix (ix_all cx.hu) lf_ix (zv 2) (zun un_neg lf_neg zint)) (zcons (zv 6) znil))))))))))))))) (zscons (zif (ztcmp op_gt lf_cmpI (zcallB call_lenAll lf_len fx.b_len (zcons (zv 2) znil)) zint) (zsone (zraiseF cx fx.e_UnexpectedEnd (zcallB call_lenAll lf_len fx.b_len (zcons (zv 0) znil)))) zsnil) (zsone (zret (zix (ix_all cx.hu) lf_ix (zv 2) zint)))))))⟩
/-! ### parse_all -/
abbrev s_parse_all : Stmt := top 21
theorem sc_parse_all : FnScope ["text"] ["text"] (defScope s_parse_all) := ⟨rfl, rfl, rfl, by decide +kernel, rfl, by decide +kernel, by decide +kernel⟩
def z_parse_all  (S_parse_within : Zp) : ZS :=
  (zRet (zCall S_parse_within (zCons (zVar 0) (zCons (zC (.int (60))) zNil))))
theorem ok_parse_all {k : Nat}  {S_parse_within : Zp} (fx : Fx P w K mg) (d : Def K mg "parse_all" s_parse_all ["text"]) (c_parse_within : Cal P w K mg base k "parse_within" ["text", "most"] S_parse_within) : Cal P w K mg base (k + 1) "parse_all" ["text"] (zBody 1 (z_parse_all S_parse_within)) :=
  Cal.mk (N := ["text"]) d sc_parse_all fun f cdv A outer s H E cx => ⟨_, by exact (zsone (zret (zcal cx c_parse_within (zcons (zv 0) (zcons (zglobI fx.c_MOST_DEPTH) znil)))))⟩
/-! ### _law_mixed -/
abbrev s__law_mixed : Stmt := top 23
theorem sc__law_mixed : FnScope ["_law_cell", "_law_seed", "_law_number", "_law_k"] ["_law_cell"] (defScope s__law_mixed) := ⟨rfl, rfl, rfl, by decide +kernel, rfl, by decide +kernel, by decide +kernel⟩
def z__law_mixed   : ZS :=
  (zSeq (zAsg (zOp zMod (zCB zToInt (zCons (zVar 0) zNil)) (zC (.int 1000000007))) (zgName 1)) (zSeq (zAsg (zC (.int 0)) (zgName 2)) (zSeq (zFor (ziRng1 (zCons (zC (.int 6)) zNil)) (zgName 3) (zSeq (zAsg (zOp zMod (zCB zToInt (zCons (zOp zAdd (zOp zAdd (zOp zMul (zVar 1) (zC (.int 48271))) (zC (.int 12820163))) (zOp zMul (zC (.int 7)) (zVar 3))) zNil)) (zC (.int 1000000007))) (zgName 1)) (zAsg (zOp zAdd (zOp zMul (zVar 2) (zC (.int 1000000007))) (zVar 1)) (zgName 2)))) (zRet (zVar 2)))))
theorem ok__law_mixed {k : Nat}   (fx : Fx P w K mg) (d : Def K mg "_law_mixed" s__law_mixed ["_law_cell"])  : Cal P w K mg base (k + 1) "_law_mixed" ["_law_cell"] (zBody 4 (z__law_mixed )) :=
  Cal.mk (N := ["_law_cell", "_law_seed", "_law_number", "_law_k"]) d sc__law_mixed fun f cdv A outer s H E cx => ⟨_, by exact (zscons (zset 1 cx.nd (zop op_mod lf_I2 (zcallT call_toInt lf_toInt fx.b_int (zcons (zv 0) znil)) zint)) (zscons (zset 2 cx.nd zint) (zscons (zfor cx (zirng1 fx.b_range (zcons zint znil)) (zgn 3 cx.nd) (zscons (zset 1 cx.nd (zop op_mod lf_I2 (zcallT call_toInt lf_toInt fx.b_int (zcons (zop op_addAll lf_add (zop op_addAll lf_add (zop op_mulAll lf_mulAll (zv 1) zint) zint) (zop op_mulAll lf_mulAll zint (zv 3))) znil)) zint)) (zsone (zset 2 cx.nd (zop op_addAll lf_add (zop op_mulAll lf_mulAll (zv 2) zint) (zv 1)))))) (zsone (zret (zv 2))))))⟩
/-! ### _law_take -/
abbrev s__law_take : Stmt := top 24
theorem sc__law_take : FnScope ["_law_state_here", "_law_limit", "_law_cell", "_law_digit"] ["_law_state_here", "_law_limit"] (defScope s__law_take) := ⟨rfl, rfl, rfl, by decide +kernel, rfl, by decide +kernel, by decide +kernel⟩
def z__law_take  (S__law_mixed : Zp) : ZS :=
  (zSeq (zIfS (zAnd (zTst (zOp zLt (zOp zIx (zVar 0) (zC (.int 1))) (zVar 1))) (zTst (zOp zGt (zCB zLen (zCons (zOp zIx (zVar 0) (zC (.int 0))) zNil)) (zC (.int 0))))) (zSeq (zAsg (zCB zAbs (zCons (zCB zToInt (zCons (zBM isL zPop (zOp zIx (zVar 0) (zC (.int 0))) (zCons (zC (.int 0)) zNil)) zNil)) zNil)) (zgName 2)) (zSeq (zIfS (zTst (zOp zLt (zVar 2) (zOp zPow (zC (.int 10)) (zC (.int 18))))) (zAsg (zCall S__law_mixed (zCons (zVar 2) zNil)) (zgName 2)) zNext) (zSetS (zVar 0) (zC (.int 1)) (zVar 2)))) zNext) (zSeq (zAsg (zOp zMod (zCB zToInt (zCons (zOp zIx (zVar 0) (zC (.int 1))) zNil)) (zVar 1)) (zgName 3)) (zSeq (zSetS (zVar 0) (zC (.int 1)) (zOp zDiv (zOp zIx (zVar 0) (zC (.int 1))) (zVar 1))) (zRet (zVar 3)))))
theorem ok__law_take {k : Nat}  {S__law_mixed : Zp} (fx : Fx P w K mg) (d : Def K mg "_law_take" s__law_take ["_law_state_here", "_law_limit"]) (c__law_mixed : Cal P w K mg base k "_law_mixed" ["_law_cell"] S__law_mixed) : Cal P w K mg base (k + 1) "_law_take" ["_law_state_here", "_law_limit"] (zBody 4 (z__law_take S__law_mixed)) :=
  Cal.mk (N := ["_law_state_here", "_law_limit", "_law_cell", "_law_digit"]) d sc__law_take fun f cdv A outer s H E cx => ⟨_, by exact (zscons (zif (ztw (zand (ztcmp op_lt lf_cmpI (zix (ix_all cx.hu) lf_ix (zv 0) zint) (zv 1)) (zand1 (ztcmp op_gt lf_cmpI (zcallB call_lenAll lf_len fx.b_len (zcons (zix (ix_all cx.hu) lf_ix (zv 0) zint) znil)) zint)))) (zscons (zset 2 cx.nd (zcallB call_abs lf_abs fx.b_abs (zcons (zcallT call_toInt lf_toInt fx.b_int (zcons (zbm PySem.F.plainAttrs_list PySem.F.slot_list_pop PySem.F.type_list_pop mt_popAll lf_pop tyf_l (zix (ix_all cx.hu) lf_ix (zv 0) zint) (zcons zint znil)) znil)) znil))) (zscons (zif (ztcmp op_lt lf_cmpI (zv 2) (zop op_pow lf_I2 zint zint)) (zsone (zset 2 cx.nd (zcal cx c__law_mixed (zcons (zv 2) znil)))) zsnil) (zsone (zsub cx (zv 0) zint (zv 2))))) zsnil) (zscons (zset 3 cx.nd (zop op_mod lf_I2 (zcallT call_toInt lf_toInt fx.b_int (zcons (zix (ix_all cx.hu) lf_ix (zv 0) zint) znil)) (zv 1))) (zscons (zsub cx (zv 0) zint (zop op_fdivW lf_I2 (zix (ix_all cx.hu) lf_ix (zv 0) zint) (zv 1))) (zsone (zret (zv 3))))))⟩
/-! ### _law_state -/
abbrev s__law_state : Stmt := top 25
theorem sc__law_state : FnScope ["_law_script", "_law_cell"] ["_law_script"] (defScope s__law_state) := ⟨rfl, rfl, rfl, by decide +kernel, rfl, by decide +kernel, by decide +kernel⟩
def z__law_state   : ZS :=
  (zRet (zLstO (zCons (zLcO (ziSeq (zSlice (zVar 0) zNoP (zPart (zC (.int 63))))) (zgName 1) zYes (zCB zToInt (zCons (zVar 1) zNil)) [1]) (zCons (zC (.int 0)) zNil))))
theorem ok__law_state {k : Nat}   (fx : Fx P w K mg) (d : Def K mg "_law_state" s__law_state ["_law_script"])  : Cal P w K mg base (k + 1) "_law_state" ["_law_script"] (zBody 2 (z__law_state )) :=
  Cal.mk (N := ["_law_script", "_law_cell"]) d sc__law_state fun f cdv A outer s H E cx => ⟨_, by exact (zsone (zret (zlstO (zcons (zlcO cx (ziseq (zslice (zv 0) znop (zpart zint))) (own := [("_law_cell", 1)]) (blkOk_by rfl) (fun _ _ _ _ _ => (zgn 1 (by exact cx.nd))) (fun _ _ _ _ _ => gown_name) (fun _ _ _ _ _ cx => zptsnil) (fun _ _ _ _ _ cx => (zcallT call_toInt lf_toInt fx.b_int (zcons (zv 1) znil)))) (zcons zint znil)))))⟩
/-! ### _law_same -/
abbrev s__law_same : Stmt := top 26
theorem sc__law_same : FnScope ["_law_one", "_law_two", "_law_k"] ["_law_one", "_law_two"] (defScope s__law_same) := ⟨rfl, rfl, rfl, by decide +kernel, rfl, by decide +kernel, by decide +kernel⟩
def z__law_same  (S__law_same : Zp) : ZS :=
  (zSeq (zIfS (zAnd (zTru (zUn (zIsi own_ [.lst, .tup]) (zVar 0))) (zTru (zUn (zIsi own_ [.lst, .tup]) (zVar 1)))) (zSeq (zIfS (zOr (zTst (zOp zNe (zUn (zIsi own_ [.lst]) (zVar 0)) (zUn (zIsi own_ [.lst]) (zVar 1)))) (zTst (zOp zNe (zCB zLen (zCons (zVar 0) zNil)) (zCB zLen (zCons (zVar 1) zNil))))) (zRet (zC (.bl false))) zNext) (zRet (zOp zEq (zCB zLen (zCons (zLc (ziRng1 (zCons (zCB zLen (zCons (zVar 0) zNil)) zNil)) (zgName 2) (zNot (zTru (zCall S__law_same (zCons (zOp zIx (zVar 0) (zVar 2)) (zCons (zOp zIx (zVar 1) (zVar 2)) zNil))))) (zVar 2) [2]) zNil)) (zC (.int 0))))) zNext) (zSeq (zIfS (zAnd (zTru (zUn (zIsi own_ [.int]) (zVar 0))) (zTru (zUn (zIsi own_ [.int]) (zVar 1)))) (zRet (zAndV (zNotV (zUn (zIsi own_ [.bool]) (zVar 0))) (zAndV (zNotV (zUn (zIsi own_ [.bool]) (zVar 1))) (zOp zEq (zVar 0) (zVar 1))))) zNext) (zRet (zAndV (zUn (zIsi own_ [.str]) (zVar 0)) (zAndV (zUn (zIsi own_ [.str]) (zVar 1)) (zOp zEq (zVar 0) (zVar 1)))))))
theorem ok__law_same {k : Nat}  {S__law_same : Zp} (fx : Fx P w K mg) (d : Def K mg "_law_same" s__law_same ["_law_one", "_law_two"]) (c__law_same : Cal P w K mg base k "_law_same" ["_law_one", "_law_two"] S__law_same) : Cal P w K mg base (k + 1) "_law_same" ["_law_one", "_law_two"] (zBody 3 (z__law_same S__law_same)) :=
  Cal.mk (N := ["_law_one", "_law_two", "_law_k"]) d sc__law_same fun f cdv A outer s H E cx => ⟨_, by exact (zscons (zif (ztw (zand (ztru (zisiT (cs := [.lst, .tup]) fx.b_isinstance fx.own fx.isi_list_tuple (zv 0) (tyargs_cons (pe_ty fx.b_list) (tyargs_cons (pe_ty fx.b_tuple) tyargs_nil)))) (zand1 (ztru (zisiT (cs := [.lst, .tup]) fx.b_isinstance fx.own fx.isi_list_tuple (zv 1) (tyargs_cons (pe_ty fx.b_list) (tyargs_cons (pe_ty fx.b_tuple) tyargs_nil))))))) (zscons (zif (ztw (zor (ztcmp (op_neAll cx.hu64) lf_ne (zisi (c := .lst) fx.b_isinstance fx.own fx.isi_list (zv 0) (pe_ty fx.b_list)) (zisi (c := .lst) fx.b_isinstance fx.own fx.isi_list (zv 1) (pe_ty fx.b_list))) (zor1 (ztcmp (op_neAll cx.hu64) lf_ne (zcallB call_lenAll lf_len fx.b_len (zcons (zv 0) znil)) (zcallB call_lenAll lf_len fx.b_len (zcons (zv 1) znil)))))) (zsone (zret zbl)) zsnil) (zsone (zret (zcmp (op_eqAll cx.hu64) lf_eq (zcallB call_lenAll lf_len fx.b_len (zcons (zlc cx (zirng1 fx.b_range (zcons (zcallB call_lenAll lf_len fx.b_len (zcons (zv 0) znil)) znil)) (own := [("_law_k", 2)]) (blkOk_by rfl) (fun _ _ _ _ _ => (zgn 2 (by exact cx.nd))) (fun _ _ _ _ _ => gown_name) (fun _ _ _ _ _ cx => (zptsone (znot (ztru (zcal cx c__law_same (zcons (zix (ix_all cx.hu) lf_ix (zv 0) (zv 2)) (zcons (zix (ix_all cx.hu) lf_ix (zv 1) (zv 2)) znil))))))) (fun _ _ _ _ _ cx => (zv 2))) znil)) zint)))) zsnil) (zscons (zif (ztw (zand (ztru (zisi (c := .int) fx.b_isinstance fx.own fx.isi_int (zv 0) (pe_ty fx.b_int))) (zand1 (ztru (zisi (c := .int) fx.b_isinstance fx.own fx.isi_int (zv 1) (pe_ty fx.b_int)))))) (zsone (zret (zandV (znotV (zisi (c := .bool) fx.b_isinstance fx.own fx.isi_bool (zv 0) (pe_ty fx.b_bool))) (zandV (znotV (zisi (c := .bool) fx.b_isinstance fx.own fx.isi_bool (zv 1) (pe_ty fx.b_bool))) (zone (zcmp (op_eqAll cx.hu64) lf_eq (zv 0) (zv 1))))))) zsnil) (zsone (zret (zandV (zisi (c := .str) fx.b_isinstance fx.own fx.isi_str (zv 0) (pe_ty fx.b_str)) (zandV (zisi (c := .str) fx.b_isinstance fx.own fx.isi_str (zv 1) (pe_ty fx.b_str)) (zone (zcmp (op_eqAll cx.hu64) lf_eq (zv 0) (zv 1)))))))))⟩
/-! ### _law_is_numeral -/
abbrev s__law_is_numeral : Stmt := top 27
theorem sc__law_is_numeral : FnScope ["_law_word_here", "_law_digits", "_law_sign"] ["_law_word_here"] (defScope s__law_is_numeral) := ⟨rfl, rfl, rfl, by decide +kernel, rfl, by decide +kernel, by decide +kernel⟩
def z__law_is_numeral   : ZS :=
  (zSeq (zAsg (zVar 0) (zgName 1)) (zSeq (zIfS (zTst (zOp zIn (zSlice (zVar 0) zNoP (zPart (zC (.int 1)))) (zLst (zCons (zC (.str "-")) (zCons (zC (.str "+")) zNil))))) (zAsg (zSlice (zVar 0) (zPart (zC (.int 1))) zNoP) (zgName 1)) zNext) (zRet (zAndV (zOp zNe (zVar 1) (zC (.str ""))) (zOp zEq (zCB zLen (zCons (zLc (ziSeq (zVar 1)) (zgName 2) (zTst (zOp zNotIn (zVar 2) (zC (.str "0123456789")))) (zVar 2) [2]) zNil)) (zC (.int 0)))))))
theorem ok__law_is_numeral {k : Nat}   (fx : Fx P w K mg) (d : Def K mg "_law_is_numeral" s__law_is_numeral ["_law_word_here"])  : Cal P w K mg base (k + 1) "_law_is_numeral" ["_law_word_here"] (zBody 3 (z__law_is_numeral )) :=
  Cal.mk (N := ["_law_word_here", "_law_digits", "_law_sign"]) d sc__law_is_numeral fun f cdv A outer s H E cx => ⟨_, by exact (zscons (zset 1 cx.nd (zv 0)) (zscons (zif (ztcmp (op_inAll cx.hu65) lf_in (zslice (zv 0) znop (zpart zint)) (zlst (zcons zstr (zcons zstr znil)))) (zsone (zset 1 cx.nd (zslice (zv 0) (zpart zint) znop))) zsnil) (zsone (zret (zandV (zcmp (op_neAll cx.hu64) lf_ne (zv 1) zstr) (zone (zcmp (op_eqAll cx.hu64) lf_eq (zcallB call_lenAll lf_len fx.b_len (zcons (zlc cx (ziseq (zv 1)) (own := [("_law_sign", 2)]) (blkOk_by rfl) (fun _ _ _ _ _ => (zgn 2 (by exact cx.nd))) (fun _ _ _ _ _ => gown_name) (fun _ _ _ _ _ cx => (zptsone (ztcmp (op_notInAll cx.hu65) lf_notIn (zv 2) zstr))) (fun _ _ _ _ _ cx => (zv 2))) znil)) zint)))))))⟩
/-! ### _law_word -/
abbrev s__law_word : Stmt := top 28
theorem sc__law_word : FnScope ["_law_state_here", "_law_signs", "_law_pick", "_law_many", "_law_digits", "_law_word_here", "_law_at", "_law_other", "_law_k"] ["_law_state_here"] (defScope s__law_word) := ⟨rfl, rfl, rfl, by decide +kernel, rfl, by decide +kernel, by decide +kernel⟩
def z__law_word  (S__law_take : Zp) : ZS :=
  (zSeq (zAsg (zC (.str "abcxyzABCXYZ0123456789-+*<=?!.")) (zgName 1)) (zSeq (zAsg (zCall S__law_take (zCons (zVar 0) (zCons (zC (.int 8)) zNil))) (zgName 2)) (zSeq (zIfS (zTst (zOp zEq (zVar 2) (zC (.int 0)))) (zRet (zOp zAdd (zOp zAdd (zOp zIx (zLst (zCons (zC (.str "")) (zCons (zC (.str "-")) (zCons (zC (.str "+")) zNil)))) (zCall S__law_take (zCons (zVar 0) (zCons (zC (.int 3)) zNil)))) (zOp zMul (zC (.str "0")) (zCall S__law_take (zCons (zVar 0) (zCons (zC (.int 3)) zNil))))) (zCB zToStr (zCons (zCall S__law_take (zCons (zVar 0) (zCons (zC (.int 1000)) zNil))) zNil)))) zNext) (zSeq (zIfS (zTst (zOp zEq (zVar 2) (zC (.int 1)))) (zSeq (zAsg (zOp zAdd (zC (.int 39)) (zCall S__law_take (zCons (zVar 0) (zCons (zC (.int 4)) zNil)))) (zgName 3)) (zSeq (zAsg (zBM isS zJoin (zC (.str "")) (zCons (zLc (ziRng1 (zCons (zVar 3) zNil)) (zgName 8) zYes (zOp zIx (zC (.str "0123456789")) (zCall S__law_take (zCons (zVar 0) (zCons (zC (.int 10)) zNil)))) [8]) zNil)) (zgName 4)) (zRet (zOp zAdd (zOp zAdd (zOp zIx (zLst (zCons (zC (.str "")) (zCons (zC (.str "-")) zNil))) (zCall S__law_take (zCons (zVar 0) (zCons (zC (.int 2)) zNil)))) (zCB zToStr (zCons (zOp zAdd (zC (.int 1)) (zCall S__law_take (zCons (zVar 0) (zCons (zC (.int 9)) zNil)))) zNil))) (zSlice (zVar 4) (zPart (zC (.int 1))) zNoP))))) zNext) (zSeq (zAsg (zBM isS zJoin (zC (.str "")) (zCons (zLc (ziRng1 (zCons (zOp zAdd (zC (.int 1)) (zCall S__law_take (zCons (zVar 0) (zCons (zC (.int 8)) zNil)))) zNil)) (zgName 8) zYes (zOp zIx (zVar 1) (zCall S__law_take (zCons (zVar 0) (zCons (zC (.int 30)) zNil)))) [8]) zNil)) (zgName 5)) (zSeq (zIfS (zTst (zOp zEq (zVar 2) (zC (.int 2)))) (zSeq (zAsg (zCall S__law_take (zCons (zVar 0) (zCons (zOp zAdd (zCB zLen (zCons (zVar 5) zNil)) (zC (.int 1))) zNil))) (zgName 6)) (zSeq (zAsg (zC (.str "#@$&'\",/:>[]{}^_`|~\\\t")) (zgName 7)) (zRet (zOp zAdd (zOp zAdd (zSlice (zVar 5) zNoP (zPart (zVar 6))) (zOp zIx (zVar 7) (zCall S__law_take (zCons (zVar 0) (zCons (zCB zLen (zCons (zVar 7) zNil)) zNil))))) (zSlice (zVar 5) (zPart (zVar 6)) zNoP))))) zNext) (zSeq (zIfS (zTst (zOp zEq (zVar 2) (zC (.int 3)))) (zRet (zOp zIx (zLst (zCons (zC (.str "-")) (zCons (zC (.str "+")) (zCons (zC (.str "...")) (zCons (zC (.str "--1")) (zCons (zC (.str "1-")) (zCons (zC (.str "-1-")) (zCons (zC (.str "+-")) (zCons (zC (.str "1.5")) (zCons (zC (.str "1a")) (zCons (zC (.str "a1")) (zCons (zC (.str ".")) (zCons (zC (.str "=")) (zCons (zC (.str "<=")) (zCons (zC (.str "-0")) (zCons (zC (.str "+0")) (zCons (zC (.str "0")) zNil))))))))))))))))) (zCall S__law_take (zCons (zVar 0) (zCons (zC (.int 16)) zNil))))) zNext) (zRet (zVar 5)))))))))
theorem ok__law_word {k : Nat}  {S__law_take : Zp} (fx : Fx P w K mg) (d : Def K mg "_law_word" s__law_word ["_law_state_here"]) (c__law_take : Cal P w K mg base k "_law_take" ["_law_state_here", "_law_limit"] S__law_take) : Cal P w K mg base (k + 1) "_law_word" ["_law_state_here"] (zBody 9 (z__law_word S__law_take)) :=
  Cal.mk (N := ["_law_state_here", "_law_signs", "_law_pick", "_law_many", "_law_digits", "_law_word_here", "_law_at", "_law_other", "_law_k"]) d sc__law_word fun f cdv A outer s H E cx => ⟨_, by exact (zscons (zset 1 cx.nd zstr) (zscons (zset 2 cx.nd (zcal cx c__law_take (zcons (zv 0) (zcons zint znil)))) (zscons (zif (ztcmp (op_eqAll cx.hu64) lf_eq (zv 2) zint) (zsone (zret (zop op_addAll lf_add (zop op_addAll lf_add (zix (ix_all cx.hu) lf_ix (zlst (zcons zstr (zcons zstr (zcons zstr znil)))) (zcal cx c__law_take (zcons (zv 0) (zcons zint znil)))) (zop op_mulAll lf_mulAll zstr (zcal cx c__law_take (zcons (zv 0) (zcons zint znil))))) (zcallT call_toStr lf_toStr fx.b_str (zcons (zcal cx c__law_take (zcons (zv 0) (zcons zint znil))) znil))))) zsnil) (zscons (zif (ztcmp (op_eqAll cx.hu64) lf_eq (zv 2) zint) (zscons (zset 3 cx.nd (zop op_addAll lf_add zint (zcal cx c__law_take (zcons (zv 0) (zcons zint znil))))) (zscons (zset 4 cx.nd (zbm PySem.F.plainAttrs_str PySem.F.slot_str_join PySem.F.type_str_join mt_join lf_join tyf_s zstr (zcons (zlc cx (zirng1 fx.b_range (zcons (zv 3) znil)) (own := [("_law_k", 8)]) (blkOk_by rfl) (fun _ _ _ _ _ => (zgn 8 (by exact cx.nd))) (fun _ _ _ _ _ => gown_name) (fun _ _ _ _ _ cx => zptsnil) (fun _ _ _ _ _ cx => (zix (ix_all cx.hu) lf_ix zstr (zcal cx c__law_take (zcons (zv 0) (zcons zint znil)))))) znil))) (zsone (zret (zop op_addAll lf_add (zop op_addAll lf_add (zix (ix_all cx.hu) lf_ix (zlst (zcons zstr (zcons zstr znil))) (zcal cx c__law_take (zcons (zv 0) (zcons zint znil)))) (zcallT call_toStr lf_toStr fx.b_str (zcons (zop op_addAll lf_add zint (zcal cx c__law_take (zcons (zv 0) (zcons zint znil)))) znil))) (zslice (zv 4) (zpart zint) znop)))))) zsnil) (zscons (zset 5 cx.nd (zbm PySem.F.plainAttrs_str PySem.F.slot_str_join PySem.F.type_str_join mt_join lf_join tyf_s zstr (zcons (zlc cx (zirng1 fx.b_range (zcons (zop op_addAll lf_add zint (zcal cx c__law_take (zcons (zv 0) (zcons zint znil)))) znil)) (own := [("_law_k", 8)]) (blkOk_by rfl) (fun _ _ _ _ _ => (zgn 8 (by exact cx.nd))) (fun _ _ _ _ _ => gown_name) (fun _ _ _ _ _ cx => zptsnil) (fun _ _ _ _ _ cx => (zix (ix_all cx.hu) lf_ix (zv 1) (zcal cx c__law_take (zcons (zv 0) (zcons zint znil)))))) znil))) (zscons (zif (ztcmp (op_eqAll cx.hu64) lf_eq (zv 2) zint) (zscons (zset 6 cx.nd (zcal cx c__law_take (zcons (zv 0) (zcons (zop op_addAll lf_add (zcallB call_lenAll lf_len fx.b_len (zcons (zv 5) znil)) zint) znil)))) (zscons (zset 7 cx.nd zstr) (zsone (zret (zop op_addAll lf_add (zop op_addAll lf_add (zslice (zv 5) znop (zpart (zv 6))) (zix (ix_all cx.hu) lf_ix (zv 7) (zcal cx c__law_take (zcons (zv 0) (zcons (zcallB call_lenAll lf_len fx.b_len (zcons (zv 7) znil)) znil))))) (zslice (zv 5) (zpart (zv 6)) znop)))))) zsnil) (zscons (zif (ztcmp (op_eqAll cx.hu64) lf_eq (zv 2) zint) (zsone (zret (zix (ix_all cx.hu) lf_ix (zlst (zcons zstr (zcons zstr (zcons zstr (zcons zstr (zcons zstr (zcons zstr (zcons zstr (zcons zstr (zcons zstr (zcons zstr (zcons zstr (zcons zstr (zcons zstr (zcons zstr (zcons zstr (zcons zstr znil))))))))))))))))) (zcal cx c__law_take (zcons (zv 0) (zcons zint znil)))))) zsnil) (zsone (zret (zv 5))))))))))⟩
/-! ### _law_due -/
abbrev s__law_due : Stmt := top 29
theorem sc__law_due : FnScope ["_law_word_here", "_law_digits", "_law_signs", "_law_sign"] ["_law_word_here"] (defScope s__law_due) := ⟨rfl, rfl, rfl, by decide +kernel, rfl, by decide +kernel, by decide +kernel⟩
def z__law_due  (S__law_is_numeral : Zp) : ZS :=
  (zSeq (zIfS (zTru (zCall S__law_is_numeral (zCons (zVar 0) zNil))) (zSeq (zAsg (zRepl "+" "" (zRepl "-" "" (zVar 0))) (zgName 1)) (zSeq (zIfS (zOr (zTst (zOp zEq (zOp zIx (zVar 0) (zC (.int 0))) (zC (.str "+")))) (zOr (zTst (zOp zGt (zCB zLen (zCons (zVar 1) zNil)) (zC (.int 40)))) (zAnd (zTst (zOp zEq (zOp zIx (zVar 1) (zC (.int 0))) (zC (.str "0")))) (zTst (zOp zNe (zVar 0) (zC (.str "0"))))))) (zRet (zC .non)) zNext) (zRet (zCB zToInt (zCons (zVar 0) zNil))))) zNext) (zSeq (zAsg (zC (.str "abcdefghijklmnopqrstuvwxyzABCDEFGHIJKLMNOPQRSTUVWXYZ0123456789-+*<=?!.")) (zgName 2)) (zSeq (zIfS (zTst (zOp zGt (zCB zLen (zCons (zLc (ziSeq (zVar 0)) (zgName 3) (zTst (zOp zNotIn (zVar 3) (zVar 2))) (zVar 3) [3]) zNil)) (zC (.int 0)))) (zRet (zC .non)) zNext) (zRet (zVar 0)))))
theorem ok__law_due {k : Nat}  {S__law_is_numeral : Zp} (fx : Fx P w K mg) (d : Def K mg "_law_due" s__law_due ["_law_word_here"]) (c__law_is_numeral : Cal P w K mg base k "_law_is_numeral" ["_law_word_here"] S__law_is_numeral) : Cal P w K mg base (k + 1) "_law_due" ["_law_word_here"] (zBody 4 (z__law_due S__law_is_numeral)) :=
  Cal.mkT (N := ["_law_word_here", "_law_digits", "_law_signs", "_law_sign"]) d sc__law_due (by decide +kernel) fun f cdv A outer s H E cx => ⟨_, by exact (zconsT (zifT (ztru (zcal cx c__law_is_numeral (zcons (zv 0) znil))) (zconsT (zsetT 1 cx.nd (zreplT (zreplC (zv 0)))) (zsofT (zscons (zif (ztw (zor (ztcmp (op_eqAll cx.hu64) lf_eq (zix (ix_all cx.hu) lf_ix (zv 0) zint) zstr) (zor (ztcmp op_gt lf_cmpI (zcallB call_lenAll lf_len fx.b_len (zcons (zv 1) znil)) zint) (zor1 (ztw (zand (ztcmp (op_eqAll cx.hu64) lf_eq (zix (ix_all cx.hu) lf_ix (zv 1) zint) zstr) (zand1 (ztcmp (op_neAll cx.hu64) lf_ne (zv 0) zstr)))))))) (zsone (zret znon)) zsnil) (zsone (zret (zcallT call_toInt lf_toInt fx.b_int (zcons (zv 0) znil))))))) (zsofT zsnil)) (zsofT (zscons (zset 2 cx.nd zstr) (zscons (zif (ztcmp op_gt lf_cmpI (zcallB call_lenAll lf_len fx.b_len (zcons (zlc cx (ziseq (zv 0)) (own := [("_law_sign", 3)]) (blkOk_by rfl) (fun _ _ _ _ _ => (zgn 3 (by exact cx.nd))) (fun _ _ _ _ _ => gown_name) (fun _ _ _ _ _ cx => (zptsone (ztcmp (op_notInAll cx.hu65) lf_notIn (zv 3) (zv 2)))) (fun _ _ _ _ _ cx => (zv 3))) znil)) zint) (zsone (zret znon)) zsnil) (zsone (zret (zv 0)))))))⟩
/-! ### _law_told -/
abbrev s__law_told : Stmt := top 30
theorem sc__law_told : FnScope ["_law_text", "e"] ["_law_text"] (defScope s__law_told) := ⟨rfl, rfl, rfl, by decide +kernel, rfl, by decide +kernel, by decide +kernel⟩
def z__law_told  (S_parse_all : Zp) : ZS :=
  (zTry sub_ (zRet (zLstO (zCons (zC (.str "read")) (zCons (zCall S_parse_all (zCons (zVar 0) zNil)) zNil)))) [("FoldError", some 1, fun e a d => (zSeq (zIfS (zOr (zNot (zTru (zIsX kit_ e a d "InvalidWord" (zVar 1)))) (zOr (zTru (zIsX kit_ e a d "UnexpectedEnd" (zVar 1))) (zTru (zUn (zIsi own_ [.bool]) (zXf fld_ e a d "at" (zVar 1)))))) (zRet (zLst (zCons (zC (.str "other")) (zCons (zC (.int 0)) zNil)))) zNext) (zRet (zLst (zCons (zC (.str "wrong")) (zCons (zXf fld_ e a d "at" (zVar 1)) zNil))))))])
theorem ok__law_told {k : Nat}  {S_parse_all : Zp} (fx : Fx P w K mg) (d : Def K mg "_law_told" s__law_told ["_law_text"]) (c_parse_all : Cal P w K mg base k "parse_all" ["text"] S_parse_all) : Cal P w K mg base (k + 1) "_law_told" ["_law_text"] (zBody 2 (z__law_told S_parse_all)) :=
  Cal.mk (N := ["_law_text", "e"]) d sc__law_told fun f cdv A outer s H E cx => ⟨_, by exact (zsone (zxs (ztry cx fx.sub (fun W2 pn2 xe2 cx => ⟨_, by exact (zsone (zret (zlstO (zcons zstr (zcons (zcal cx c_parse_all (zcons (zv 0) znil)) znil)))))⟩) (.named (i := 1) rfl rfl (by exact ⟨rfl, by decide, .inl fx.g_FoldError⟩) (fun e a d oe pn hz hf => ⟨_, by exact (zscons (zif (ztw (zor (znot (ztru (zisX (c := "InvalidWord") fx.kit hz hf fx.b_isinstance (zv 1) (peX fx.g_InvalidWord)))) (zor (ztru (zisX (c := "UnexpectedEnd") fx.kit hz hf fx.b_isinstance (zv 1) (peX fx.g_UnexpectedEnd))) (zor1 (ztru (zisi (c := .bool) fx.b_isinstance fx.own fx.isi_bool (zxf fx.fld hz hf (zv 1)) (pe_ty fx.b_bool))))))) (zsone (zret (zlst (zcons zstr (zcons zint znil))))) zsnil) (zsone (zret (zlst (zcons zstr (zcons (zxf fx.fld hz hf (zv 1)) znil))))))⟩) .nil))))⟩
/-! ### law -/
abbrev s_law : Stmt := top 31
theorem sc_law : FnScope ["_law_script", "_law_state_here", "_law_k", "_law_word_here", "_law_due_here", "_law_told_here", "_law_ahead", "_law_text", "_law_part"] ["_law_script"] (defScope s_law) := ⟨rfl, rfl, rfl, by decide +kernel, rfl, by decide +kernel, by decide +kernel⟩
def z_law  (S__law_state : Zp) (S_is_symbol : Zp) (S__law_word : Zp) (S__law_due : Zp) (S__law_take : Zp) (S__law_told : Zp) (S__law_same : Zp) : ZS :=
  (zSeq (zAsg (zCall S__law_state (zCons (zVar 0) zNil)) (zgName 1)) (zSeq (zIfS (zTst (zOp zNotN (zCall S_is_symbol (zCons (zC (.str "")) zNil)) (zC (.bl false)))) (zRet (zC (.bl false))) zNext) (zSeq (zFor (ziRng1 (zCons (zC (.int 12)) zNil)) (zgName 2) (zSeq (zAsg (zCall S__law_word (zCons (zVar 1) zNil)) (zgName 3)) (zSeq (zAsg (zCall S__law_due (zCons (zVar 3) zNil)) (zgName 4)) (zSeq (zAsg (zCall S_is_symbol (zCons (zVar 3) zNil)) (zgName 5)) (zSeq (zIfS (zOr (zNot (zTru (zUn (zIsi own_ [.bool]) (zVar 5)))) (zTst (zOp zNe (zVar 5) (zUn (zIsi own_ [.str]) (zVar 4))))) (zRet (zC (.bl false))) zNext) (zSeq (zAsg (zOp zIx (zLst (zCons (zLst zNil) (zCons (zLst (zCons (zC (.str "x")) zNil)) (zCons (zLst (zCons (zC (.int 7)) (zCons (zC (.str "a.b")) zNil))) zNil)))) (zCall S__law_take (zCons (zVar 1) (zCons (zC (.int 3)) zNil)))) (zgName 6)) (zSeq (zAsg (zOp zAdd (zBM isS zJoin (zC (.str "")) (zCons (zLc (ziSeq (zVar 6)) (zgName 8) zYes (zOp zAdd (zCB zToStr (zCons (zVar 8) zNil)) (zC (.str " "))) [8]) zNil)) (zOp zIx (zLst (zCons (zC (.str "")) (zCons (zC (.str " ")) (zCons (zC (.str "\n")) zNil)))) (zCall S__law_take (zCons (zVar 1) (zCons (zC (.int 3)) zNil))))) (zgName 7)) (zIfS (zTst (zOp zIsN (zVar 4) (zC .non))) (zIfS (zTst (zOp zNe (zCall S__law_told (zCons (zOp zAdd (zOp zAdd (zVar 7) (zVar 3)) (zOp zIx (zLst (zCons (zC (.str " @")) (zCons (zC (.str "")) (zCons (zC (.str " 9")) zNil)))) (zCall S__law_take (zCons (zVar 1) (zCons (zC (.int 3)) zNil))))) zNil)) (zLst (zCons (zC (.str "wrong")) (zCons (zCB zLen (zCons (zVar 7) zNil)) zNil))))) (zRet (zC (.bl false))) zNext) (zIfS (zNot (zTru (zCall S__law_same (zCons (zCall S__law_told (zCons (zOp zAdd (zOp zAdd (zVar 7) (zVar 3)) (zC (.str " y"))) zNil)) (zCons (zLst (zCons (zC (.str "read")) (zCons (zOp zAdd (zVar 6) (zLst (zCons (zVar 4) (zCons (zC (.str "y")) zNil)))) zNil))) zNil))))) (zRet (zC (.bl false))) zNext))))))))) (zRet (zC (.bl true))))))
theorem body_law {k : Nat}  {S__law_state : Zp} {S_is_symbol : Zp} {S__law_word : Zp} {S__law_due : Zp} {S__law_take : Zp} {S__law_told : Zp} {S__law_same : Zp} (fx : Fx P w K mg) (c__law_state : Cal P w K mg base k "_law_state" ["_law_script"] S__law_state) (c_is_symbol : Cal P w K mg base k "is_symbol" ["text"] S_is_symbol) (c__law_word : Cal P w K mg base k "_law_word" ["_law_state_here"] S__law_word) (c__law_due : Cal P w K mg base k "_law_due" ["_law_word_here"] S__law_due) (c__law_take : Cal P w K mg base k "_law_take" ["_law_state_here", "_law_limit"] S__law_take) (c__law_told : Cal P w K mg base k "_law_told" ["_law_text"] S__law_told) (c__law_same : Cal P w K mg base k "_law_same" ["_law_one", "_law_two"] S__law_same) (f : Addr) (cdv : Value) (A : Around) (outer : List Env) (s : Shared) (H : Hp) (E : XK) (cx : ZC (cxOf (L2N.CX P w) P w K mg base ["_law_script", "_law_state_here", "_law_k", "_law_word_here", "_law_due_here", "_law_told_here", "_law_ahead", "_law_text", "_law_part"] "law" (defScope s_law) f cdv A outer s H E) (fun cls d _ H => E cls d H) k) : ∃ t, ZSs (cxOf (L2N.CX P w) P w K mg base ["_law_script", "_law_state_here", "_law_k", "_law_word_here", "_law_due_here", "_law_told_here", "_law_ahead", "_law_text", "_law_part"] "law" (defScope s_law) f cdv A outer s H E) (fun cls d _ H => E cls d H) (defBody s_law) t (z_law S__law_state S_is_symbol S__law_word S__law_due S__law_take S__law_told S__law_same) :=
  ⟨_, by exact (zscons (zset 1 cx.nd (zcal cx c__law_state (zcons (zv 0) znil))) (zscons (zif (ztcmp op_isNotAll lf_isNot (zcal cx c_is_symbol (zcons zstr znil)) zbl) (zsone (zret zbl)) zsnil) (zscons (zfor cx (zirng1 fx.b_range (zcons zint znil)) (zgn 2 cx.nd) (zscons (zset 3 cx.nd (zcal cx c__law_word (zcons (zv 1) znil))) (zscons (zset 4 cx.nd (zcal cx c__law_due (zcons (zv 3) znil))) (zscons (zset 5 cx.nd (zcal cx c_is_symbol (zcons (zv 3) znil))) (zscons (zif (ztw (zor (znot (ztru (zisi (c := .bool) fx.b_isinstance fx.own fx.isi_bool (zv 5) (pe_ty fx.b_bool)))) (zor1 (ztcmp (op_neAll cx.hu64) lf_ne (zv 5) (zisi (c := .str) fx.b_isinstance fx.own fx.isi_str (zv 4) (pe_ty fx.b_str)))))) (zsone (zret zbl)) zsnil) (zscons (zset 6 cx.nd (zix (ix_all cx.hu) lf_ix (zlst (zcons (zlst znil) (zcons (zlst (zcons zstr znil)) (zcons (zlst (zcons zint (zcons zstr znil))) znil)))) (zcal cx c__law_take (zcons (zv 1) (zcons zint znil))))) (zscons (zset 7 cx.nd (zop op_addAll lf_add (zbm PySem.F.plainAttrs_str PySem.F.slot_str_join PySem.F.type_str_join mt_join lf_join tyf_s zstr (zcons (zlc cx (ziseq (zv 6)) (own := [("_law_part", 8)]) (blkOk_by rfl) (fun _ _ _ _ _ => (zgn 8 (by exact cx.nd))) (fun _ _ _ _ _ => gown_name) (fun _ _ _ _ _ cx => zptsnil) (fun _ _ _ _ _ cx => (zop op_addAll lf_add (zcallT call_toStr lf_toStr fx.b_str (zcons (zv 8) znil)) zstr))) znil)) (zix (ix_all cx.hu) lf_ix (zlst (zcons zstr (zcons zstr (zcons zstr znil)))) (zcal cx c__law_take (zcons (zv 1) (zcons zint znil)))))) (zsone (zif (ztcmp op_isAll lf_is (zv 4) znon) (zsone (zif (ztcmp (op_neAll cx.hu64) lf_ne (zcal cx c__law_told (zcons (zop op_addAll lf_add (zop op_addAll lf_add (zv 7) (zv 3)) (zix (ix_all cx.hu) lf_ix (zlst (zcons zstr (zcons zstr (zcons zstr znil)))) (zcal cx c__law_take (zcons (zv 1) (zcons zint znil))))) znil)) (zlst (zcons zstr (zcons (zcallB call_lenAll lf_len fx.b_len (zcons (zv 7) znil)) znil)))) (zsone (zret zbl)) zsnil)) (zsone (zif (znot (ztru (zcal cx c__law_same (zcons (zcal cx c__law_told (zcons (zop op_addAll lf_add (zop op_addAll lf_add (zv 7) (zv 3)) zstr) znil)) (zcons (zlst (zcons zstr (zcons (zop op_addAll lf_add (zv 6) (zlst (zcons (zv 4) (zcons zstr znil)))) znil))) znil))))) (zsone (zret zbl)) zsnil))))))))))) (zsone (zret zbl)))))⟩
end
end Z

set_option maxRecDepth 100000
set_option maxHeartbeats 4000000
namespace Z
open PySem PySem.Spec PyProof.Rows L2 ErrX TL
/-! ### the reader's words -/
def lLet : Str := "abcdefghijklmnopqrstuvwxyzABCDEFGHIJKLMNOPQRSTUVWXYZ"
def lDig : Str := "0123456789"
def lSig : Str := "-+*<=?!."
def lPar : Str := " \n();"
def lBlk : Str := " \n"
def dg (c : Nat) : Bool := decide (c ∈ tl lDig)
def mst (c : Nat) : Bool := decide (c ∈ tl lLet) || (dg c || decide (c ∈ tl lSig))
def prt (c : Nat) : Bool := decide (c ∈ tl lPar)
def blk (c : Nat) : Bool := decide (c ∈ tl lBlk)
/-- behind a sign -/
def dgs : List Nat → List Nat
  | [] => []
  | c :: r => if c = 45 ∨ c = 43 then r else c :: r
def num (w : List Nat) : Bool := !(dgs w).isEmpty && (dgs w).all dg
def sym (w : List Nat) : Bool := !w.isEmpty && (!num w && w.all mst)
/-- a numeral's figures behind a minus -/
def fgs : List Nat → List Nat
  | [] => []
  | c :: r => if c = 45 then r else c :: r
def badN (w : List Nat) : Bool := decide (w.head? = some 43) || (decide (40 < (fgs w).length) || (decide ((fgs w).head? = some 48) && !decide (w = [48])))
def word (w : List Nat) : Option D := if num w then (if badN w then none else (intText? (mk w)).map .int) else if sym w then some (.str (mk w)) else none
theorem dgs_cons (c : Nat) (r : List Nat) : dgs (c :: r) = if c = 45 ∨ c = 43 then r else c :: r := rfl
theorem fgs_cons (c : Nat) (r : List Nat) : fgs (c :: r) = if c = 45 then r else c :: r := rfl
theorem fgs_len : ∀ w : List Nat, (fgs w).length ≤ w.length
  | [] => Nat.le_refl _
  | c :: r => by
    rw [fgs_cons]
    split
    · simp
    · exact Nat.le_refl _
theorem l_m : ("-" : Str) = mk [45] := rfl
theorem l_p : ("+" : Str) = mk [43] := rfl
theorem l_e : ("" : Str) = mk [] := rfl
theorem l_0 : ("0" : Str) = mk [48] := rfl
def Sms : Zp := fun ds μ q e => ∃ c : Nat, ds = [.str (mk [c])] ∧ q (.bl (mst c)) μ
theorem ms_ok {ds : List D} {μ : Mu} {q : ZQ} {e : ZX} (h : Sms ds μ q e) : zBody 1 z_may_stand ds μ q e := by
  obtain ⟨c, rfl, h⟩ := h
  unfold z_may_stand
  have e1 : strIn (mk [c]) (Str.ofString "abcdefghijklmnopqrstuvwxyzABCDEFGHIJKLMNOPQRSTUVWXYZ") = decide (c ∈ tl lLet) := rfl
  have e2 : strIn (mk [c]) (Str.ofString "0123456789") = dg c := rfl
  have e3 : strIn (mk [c]) (Str.ofString "-+*<=?!.") = decide (c ∈ tl lSig) := rfl
  unfold mst at h
  ((conv => whnf); (repeat ((first | rw [e1]); (conv => whnf))))
  cases hA : decide (c ∈ tl lLet) with
  | true =>
    rw [hA] at h
    exact h
  | false =>
    rw [hA] at h
    ((conv => whnf); (repeat ((first | rw [e2]); (conv => whnf))))
    cases hB : dg c with
    | true =>
      rw [hB] at h
      exact h
    | false =>
      rw [hB] at h
      ((conv => whnf); (repeat ((first | rw [e3]); (conv => whnf))))
      exact h
theorem lc_signs {g : ZG} {e : ZT} {ρ : Sl} {q : ZQ} {μ : Mu} {f : Nat → D} (h : ∀ (c : Nat) (acc ds : List D), zLcL g zYes e ρ q (acc ++ [f c]) ds μ → zLcL g zYes e ρ q acc (.str (mk [c]) :: ds) μ) : ∀ (w : List Nat) (acc : List D), q (.lst (acc ++ w.map f)) μ → zLcL g zYes e ρ q acc (w.map fun c => D.str (mk [c])) μ
  | [], acc, hq => by simpa [zLcL] using hq
  | c :: w, acc, hq => by
    rw [List.map_cons]
    exact h c _ _ (lc_signs h w _ (by simpa using hq))
theorem bls_map (f : Nat → Bool) : ∀ w : List Nat, blsOf (w.map fun c => D.bl (f c)) = some (w.map f)
  | [] => rfl
  | c :: w => by simp only [List.map_cons, blsOf, blOf, bls_map f w]
theorem all_map (f : Nat → Bool) (w : List Nat) : (w.map f).all id = w.all f := by
  rw [List.all_map]; rfl
def Snum : Zp := fun ds μ q e => ∃ w : List Nat, ds = [.str (mk w)] ∧ w.length ≤ sizeLine ∧ q (.bl (num w)) μ
theorem num_ok {ds : List D} {μ : Mu} {q : ZQ} {e : ZX} (h : Snum ds μ q e) : zBody 3 z_is_numeral ds μ q e := by
  obtain ⟨w, rfl, hl, h⟩ := h
  unfold z_is_numeral
  have hl2 : (mk w).length ≤ sizeLine := by rw [len_mk]; exact hl
  -- the rest, of the figures
  have rest : ∀ d : List Nat, d.length ≤ sizeLine → q (.bl (!d.isEmpty && d.all dg)) μ → (zRet (zAndV (zOp zNe (zVar 1) (zC (.str ""))) (zCB zAll (zCons (zLc (ziSeq (zVar 1)) (zgName 2) zYes (zOp zIn (zVar 2) (zC (.str "0123456789"))) [2]) zNil)))) { nx := fun _ μ' => q .non μ', rt := q, ex := fun r _ μ' => e r μ' } [some (.str (mk w)), some (.str (mk d)), none] μ := by
    intro d hd hq
    have e1 : decide (mk d = Str.ofString "") = d.isEmpty := by
      rw [show Str.ofString "" = mk [] from rfl, dec_mk]
      cases d <;> rfl
    ((conv => whnf); (repeat ((first | rw [e1]); (conv => whnf))))
    cases hE : d.isEmpty with
    | true => rw [hE] at hq; exact hq
    | false =>
      rw [hE] at hq
      (conv => whnf)
      refine ⟨?_, ?_⟩
      · show (List.map _ (mk d).cps.toList).length ≤ sizeLine
        rw [List.length_map]; exact hd
      refine lc_signs (f := fun c => .bl (dg c)) (fun c acc ds hh => ?_) d [] ?_
      · exact hh
      · have e2 := bls_map dg d
        rw [List.nil_append]
        ((conv => whnf); (repeat ((first | rw [e2]); (conv => whnf))))
        rw [all_map]
        exact hq
  unfold num at h
  have e1 := cut_h w
  have e2 := cut_1 w
  (conv => whnf)
  refine ⟨hl2, ?_⟩
  ((conv => whnf); (repeat ((first | rw [e1]); (conv => whnf))))
  cases w with
  | nil =>
    have d1 : decide (mk (([] : List Nat).take 1) = Str.ofString "-") = false := by decide +kernel
    have d2 : decide (mk (([] : List Nat).take 1) = Str.ofString "+") = false := by decide +kernel
    rw [d1]
    (conv => whnf)
    refine ⟨hl2, ?_⟩
    ((conv => whnf); (repeat ((first | rw [e1]); (conv => whnf))))
    exact h
  | cons c r =>
    have d1 : decide (mk ((c :: r).take 1) = Str.ofString "-") = decide (c = 45) := by
      rw [show Str.ofString "-" = mk [45] from rfl, dec_mk]
      simp
    have d2 : decide (mk ((c :: r).take 1) = Str.ofString "+") = decide (c = 43) := by
      rw [show Str.ofString "+" = mk [43] from rfl, dec_mk]
      simp
    rw [d1]
    have ed : dgs (c :: r) = if c = 45 ∨ c = 43 then r else c :: r := rfl
    rw [ed] at h
    by_cases h1 : c = 45
    · rw [decide_eq_true h1]
      rw [if_pos (.inl h1)] at h
      (conv => whnf)
      refine ⟨hl2, ?_⟩
      rw [e2]
      exact rest r (by simp only [List.length_cons] at hl; omega) h
    · rw [decide_eq_false h1]
      (conv => whnf)
      refine ⟨hl2, ?_⟩
      ((conv => whnf); (repeat ((first | rw [e1]); (conv => whnf))))
      rw [d2]
      by_cases h2 : c = 43
      · rw [decide_eq_true h2]
        rw [if_pos (.inr h2)] at h
        (conv => whnf)
        refine ⟨hl2, ?_⟩
        rw [e2]
        exact rest r (by simp only [List.length_cons] at hl; omega) h
      · rw [decide_eq_false h2]
        rw [if_neg (fun hh => hh.elim h1 h2)] at h
        exact rest (c :: r) hl h
def Ssym : Zp := fun ds μ q e => ∃ w : List Nat, ds = [.str (mk w)] ∧ w.length ≤ sizeLine ∧ q (.bl (sym w)) μ
theorem sym_ok {ds : List D} {μ : Mu} {q : ZQ} {e : ZX} (h : Ssym ds μ q e) : zBody 2 (z_is_symbol Snum Sms) ds μ q e := by
  obtain ⟨w, rfl, hl, h⟩ := h
  unfold z_is_symbol
  unfold sym at h
  have e1 : decide (mk w = Str.ofString "") = w.isEmpty := by
    rw [show Str.ofString "" = mk [] from rfl, dec_mk]
    cases w <;> rfl
  ((conv => whnf); (repeat ((first | rw [e1]); (conv => whnf))))
  cases hE : w.isEmpty with
  | true => rw [hE] at h; exact h
  | false =>
    rw [hE] at h
    (conv => whnf)
    refine ⟨w, rfl, hl, ?_⟩
    cases hN : num w with
    | true => rw [hN] at h; exact h
    | false =>
      rw [hN] at h
      (conv => whnf)
      refine ⟨?_, ?_⟩
      · show (List.map _ (mk w).cps.toList).length ≤ sizeLine
        rw [List.length_map]; exact hl
      refine lc_signs (f := fun c => .bl (mst c)) (fun c acc ds hh => ?_) w [] ?_
      · exact ⟨c, rfl, hh⟩
      · have e2 := bls_map mst w
        rw [List.nil_append]
        ((conv => whnf); (repeat ((first | rw [e2]); (conv => whnf))))
        rw [all_map]
        exact h
def Snof : Zp := fun ds μ q e => ∃ (w : List Nat) (k : Int), ds = [.str (mk w), .int k] ∧ w.length ≤ sizeLine ∧ num w = true ∧ (badN w = true → e ⟨"InvalidWord", [("at", .int k)]⟩ μ) ∧ (badN w = false → ∃ n, intText? (mk w) = some n ∧ q (.int n) μ)
theorem fgs_ne {w : List Nat} (h : num w = true) (hp : w.head? ≠ some 43) : fgs w = dgs w ∧ fgs w ≠ [] := by
  unfold num at h
  rw [Bool.and_eq_true] at h
  have h1 : dgs w ≠ [] := by
    intro e
    rw [e] at h
    simp at h
  cases w with
  | nil => exact absurd rfl h1
  | cons c r =>
    have hc : c ≠ 43 := fun e => hp (by simp [e])
    have : fgs (c :: r) = dgs (c :: r) := by
      rw [fgs_cons, dgs_cons]
      by_cases h45 : c = 45
      · rw [if_pos h45, if_pos (.inl h45)]
      · rw [if_neg h45, if_neg (fun hh => hh.elim h45 hc)]
    exact ⟨this, by rw [this]; exact h1⟩
theorem nof_ok {ds : List D} {μ : Mu} {q : ZQ} {e : ZX} (h : Snof ds μ q e) : zBody 3 z_number_of ds μ q e := by
  obtain ⟨w, k, rfl, hl, hn, hb, hg⟩ := h
  unfold z_number_of
  have hl2 : (mk w).length ≤ sizeLine := by rw [len_mk]; exact hl
  cases w with
  | nil => cases hn
  | cons c r =>
    have i0 : atI (mk (c :: r)).cps.toList 0 = some c := atI_cast (n := 0)
    have d1 : decide ((⟨#[c]⟩ : Str) = Str.ofString "-") = decide (c = 45) := by
      rw [show (⟨#[c]⟩ : Str) = mk [c] from rfl, show Str.ofString "-" = mk [45] from rfl, dec_mk]
      simp
    have d2 : decide ((⟨#[c]⟩ : Str) = Str.ofString "+") = decide (c = 43) := by
      rw [show (⟨#[c]⟩ : Str) = mk [c] from rfl, show Str.ofString "+" = mk [43] from rfl, dec_mk]
      simp
    have tail : ∀ d : List Nat, d = fgs (c :: r) → (zSeq (zIfS (zOr (zTst (zOp zEq (zOp zIx (zVar 0) (zC (.int 0))) (zC (.str "+")))) (zTst (zOp zGt (zCB zLen (zCons (zVar 2) zNil)) (zC (.int (40)))))) (zRaiseF "InvalidWord" "at" (zVar 1)) zNext) (zSeq (zIfS (zAnd (zTst (zOp zEq (zOp zIx (zVar 2) (zC (.int 0))) (zC (.str "0")))) (zTst (zOp zNe (zVar 0) (zC (.str "0"))))) (zRaiseF "InvalidWord" "at" (zVar 1)) zNext) (zRet (zCB zToInt (zCons (zVar 0) zNil))))) { nx := fun _ μ' => q .non μ', rt := q, ex := fun r _ μ' => e r μ' } [some (.str (mk (c :: r))), some (.int k), some (.str (mk d))] μ := by
      intro d hd
      ((conv => whnf); (repeat ((first | rw [i0]); (conv => whnf))))
      refine ⟨hl2, ?_⟩
      (conv => whnf)
      rw [d2]
      by_cases h43 : c = 43
      · rw [decide_eq_true h43]
        have : badN (c :: r) = true := by
          unfold badN
          rw [decide_eq_true (by simp [h43])]
          rfl
        exact hb this
      · rw [decide_eq_false h43]
        obtain ⟨f1, f2⟩ := fgs_ne hn (by simpa using h43)
        have hdl : (mk d).length ≤ sizeLine := by
          rw [len_mk, hd]
          exact Nat.le_trans (fgs_len _) hl
        have eL : lenD (.str (mk d)) μ = some d.length := by
          simp only [lenD, len_mk] at hdl ⊢
          rw [if_pos hdl]
        ((conv => whnf); (repeat ((first | rw [eL]); (conv => whnf))))
        split
        · rename_i hh
          have h40 : (40 : Int) < (d.length : Int) := of_decide_eq_true hh
          have : badN (c :: r) = true := by
            unfold badN
            rw [← hd, decide_eq_true (show 40 < d.length by omega)]
            simp
          exact hb this
        · rename_i hh
          have h40 : ¬ (40 : Int) < (d.length : Int) := of_decide_eq_false hh
          cases d with
          | nil => exact absurd hd.symm f2
          | cons c2 r2 =>
            have i2 : atI (mk (c2 :: r2)).cps.toList 0 = some c2 := atI_cast (n := 0)
            have d3 : decide ((⟨#[c2]⟩ : Str) = Str.ofString "0") = decide (c2 = 48) := by
              rw [show (⟨#[c2]⟩ : Str) = mk [c2] from rfl, show Str.ofString "0" = mk [48] from rfl, dec_mk]
              simp
            have d4 : decide (mk (c :: r) = Str.ofString "0") = decide (c :: r = [48]) := by
              rw [show Str.ofString "0" = mk [48] from rfl, dec_mk]
            have eb : badN (c :: r) = (decide (c2 = 48) && !decide (c :: r = [48])) := by
              unfold badN
              rw [← hd, decide_eq_false (show ¬ 40 < (c2 :: r2).length by omega), decide_eq_false (show ¬ (c :: r).head? = some 43 by simpa using h43)]
              simp
            have fin : badN (c :: r) = false → (zRet (zCB zToInt (zCons (zVar 0) zNil))) { nx := fun _ μ' => q .non μ', rt := q, ex := fun r _ μ' => e r μ' } [some (.str (mk (c :: r))), some (.int k), some (.str (mk (c2 :: r2)))] μ := fun hbn => by
              obtain ⟨n, hn1, hq⟩ := hg hbn
              ((conv => whnf); (repeat ((first | rw [hn1]); (conv => whnf))))
              refine ⟨?_, hq⟩
              rw [len_mk]
              have h5 : (c :: r).length ≤ (fgs (c :: r)).length + 1 := by
                rw [fgs_cons]
                split
                · simp
                · omega
              rw [← hd] at h5
              omega
            ((conv => whnf); (repeat ((first | rw [i2]); (conv => whnf))))
            refine ⟨hdl, ?_⟩
            (conv => whnf)
            rw [d3]
            by_cases h48 : c2 = 48
            · rw [decide_eq_true h48] at eb ⊢
              ((conv => whnf); (repeat ((first | rw [d4]); (conv => whnf))))
              by_cases hw : c :: r = [48]
              · rw [decide_eq_true hw] at eb ⊢
                exact fin eb
              · rw [decide_eq_false hw] at eb ⊢
                exact hb eb
            · rw [decide_eq_false h48] at eb ⊢
              exact fin eb
    ((conv => whnf); (repeat ((first | rw [i0]); (conv => whnf))))
    refine ⟨hl2, ?_⟩
    (conv => whnf)
    rw [d1]
    by_cases h45 : c = 45
    · rw [decide_eq_true h45]
      (conv => whnf)
      refine ⟨hl2, ?_⟩
      rw [cut_1]
      exact tail r (by rw [fgs_cons, if_pos h45])
    · rw [decide_eq_false h45]
      exact tail (c :: r) (by rw [fgs_cons, if_neg h45])
end Z

set_option maxRecDepth 100000
set_option maxHeartbeats 4000000
namespace Z
open PySem PySem.Spec PyProof.Rows L2 ErrX TL
theorem dg_iff {c : Nat} : dg c = true ↔ 48 ≤ c ∧ c ≤ 57 := by
  unfold dg
  rw [decide_eq_true_eq, show tl lDig = [48, 49, 50, 51, 52, 53, 54, 55, 56, 57] from rfl]
  simp only [List.mem_cons, List.not_mem_nil, or_false]
  omega
theorem int_word {w : List Nat} (h : num w = true) (hb : badN w = false) : ∃ n, intText? (mk w) = some n := by
  unfold badN at hb
  simp only [Bool.or_eq_false_iff, decide_eq_false_iff_not] at hb
  obtain ⟨h43, h40, _⟩ := hb
  obtain ⟨f1, f2⟩ := fgs_ne h h43
  have hd : NumText.AllDigits (fgs w) := by
    unfold num at h
    rw [Bool.and_eq_true, ← f1] at h
    exact fun c hc => dg_iff.mp (List.all_eq_true.mp h.2 c hc)
  cases w with
  | nil => exact absurd rfl f2
  | cons c r =>
    have hl : (mk (c :: r)).length ≤ 4300 := by
      rw [len_mk]
      have h5 : (c :: r).length ≤ (fgs (c :: r)).length + 1 := by
        rw [fgs_cons]
        split
        · simp
        · omega
      omega
    rw [fgs_cons] at hd f2
    by_cases h45 : c = 45
    · rw [if_pos h45] at hd f2
      exact ⟨_, intText_neg (cs := r) (by rw [h45]; rfl) hd f2 hl⟩
    · rw [if_neg h45] at hd f2
      exact ⟨_, intText_digits hd f2 hl⟩
def wd (l : List Nat) (at_ : Nat) : List Nat := (l.drop at_).takeWhile fun c => !prt c
theorem wd_take (l : List Nat) (k : Nat) : (l.drop k).take (wd l k).length = wd l k := by
  unfold wd
  generalize l.drop k = m
  induction m with
  | nil => rfl
  | cons c r ih =>
    rw [List.takeWhile_cons]
    split
    · rw [List.length_cons, List.take_succ_cons, ih]
    · rfl
theorem wd_le (l : List Nat) (k : Nat) (h : k ≤ l.length) : k + (wd l k).length ≤ l.length := by
  have := congrArg List.length (wd_take l k)
  rw [List.length_take, List.length_drop] at this
  omega
def waC : ZB := (zAnd (zTst (zOp zLt (zVar 2) (zCB zLen (zCons (zVar 0) zNil)))) (zTst (zOp zNotIn (zOp zIx (zVar 0) (zVar 2)) (zC (.str " \n();")))))
def waB : ZS := (zAugI 2 (zC (.int 1)) fun i j => i + j)
theorem wa_loop {l : List Nat} {N : ZEnds} {o1 o3 : Option D} {μ : Mu} (hl : l.length ≤ sizeLine) : ∀ (n m k : Nat), (wd l k).length = n → k ≤ l.length → n < m → N.nx [some (.str (mk l)), o1, some (.int ((k + n : Nat) : Int)), o3] μ → zWhileN waC waB N m [some (.str (mk l)), o1, some (.int (k : Int)), o3] μ
  | n, 0, k, hn, hk, hm, h => by omega
  | n, m + 1, k, hn, hk, hm, h => by
    have hl2 : (mk l).length ≤ sizeLine := by rw [len_mk]; exact hl
    have eL : lenD (.str (mk l)) μ = some l.length := by
      simp only [lenD, len_mk]
      rw [if_pos hl]
    unfold waC
    by_cases hk2 : k < l.length
    · have e1 : decide ((k : Int) < (l.length : Int)) = true := decide_eq_true (by omega)
      have i0 := ix_mk hk2
      have e2 : strIn (⟨#[l[k]'hk2]⟩ : Str) (Str.ofString " \n();") = prt (l[k]'hk2) := rfl
      ((conv => whnf); (repeat ((first | rw [eL]); (conv => whnf))))
      split
      · ((conv => whnf); (repeat ((first | rw [i0]); (conv => whnf))))
        refine ⟨hl2, ?_⟩
        ((conv => whnf); (repeat ((first | rw [e2]); (conv => whnf))))
        have ew : wd l k = if prt (l[k]'hk2) = true then [] else l[k]'hk2 :: wd l (k + 1) := by
          unfold wd
          rw [List.drop_eq_getElem_cons hk2, List.takeWhile_cons]
          cases prt (l[k]'hk2) <;> rfl
        cases hp : prt (l[k]'hk2) with
        | true =>
          rw [hp, if_pos rfl] at ew
          rw [ew] at hn
          simp at hn
          subst hn
          exact h
        | false =>
          rw [hp, if_neg (by simp)] at ew
          rw [ew, List.length_cons] at hn
          unfold waB
          (conv => whnf)
          have e3 : ((k : Int) + 1) = ((k + 1 : Nat) : Int) := by omega
          have e4 : k + 1 + (n - 1) = k + n := by omega
          have hr := wa_loop (N := N) (o1 := o1) (o3 := o3) (μ := μ) hl (n - 1) m (k + 1) (by omega) (by omega) (by omega) (by rw [e4]; exact h)
          rw [← e3] at hr
          exact hr
      · rename_i hh; exact absurd (e1.symm.trans hh) (by simp)
    · have e1 : decide ((k : Int) < (l.length : Int)) = false := decide_eq_false (by omega)
      have e0 : n = 0 := by
        have := wd_le l k hk
        omega
      subst e0
      ((conv => whnf); (repeat ((first | rw [eL]); (conv => whnf))))
      split
      · rename_i hh; exact absurd (e1.symm.trans hh) (by simp)
      · exact h
def Swa : Zp := fun ds μ q e => ∃ (l : List Nat) (k : Nat), ds = [.str (mk l), .int (k : Int)] ∧ l.length ≤ sizeLine ∧ k ≤ l.length ∧ match word (wd l k) with
  | some d => q (.tup [d, .int ((k + (wd l k).length : Nat) : Int)]) μ
  | none => e ⟨"InvalidWord", [("at", .int (k : Int))]⟩ μ
theorem wa_ok {ds : List D} {μ : Mu} {q : ZQ} {e : ZX} (h : Swa ds μ q e) : zBody 4 (z_word_at Snum Snof Ssym) ds μ q e := by
  obtain ⟨l, k, rfl, hl, hk, h⟩ := h
  unfold z_word_at
  have hl2 : (mk l).length ≤ sizeLine := by rw [len_mk]; exact hl
  have hwl := wd_le l k hk
  (conv => whnf)
  refine ⟨(wd l k).length + 1, wa_loop hl (wd l k).length _ k rfl hk (by omega) ?_⟩
  (conv => whnf)
  refine ⟨hl2, ?_⟩
  have ec : cutS (mk l) (some (k : Int)) (some ((k + (wd l k).length : Nat) : Int)) = mk (wd l k) := by
    rw [cut_ij (by omega) hwl, Nat.add_sub_cancel_left, wd_take]
  rw [ec]
  have hw : (wd l k).length ≤ sizeLine := by omega
  generalize hn : ((k + (wd l k).length : Nat) : Int) = en at h ⊢
  generalize wd l k = w at h hw ⊢
  (conv => whnf)
  refine ⟨w, rfl, hw, ?_⟩
  unfold word at h
  cases hN : num w with
  | true =>
    rw [hN, if_pos rfl] at h
    (conv => whnf)
    refine ⟨w, k, rfl, hw, hN, fun hb => ?_, fun hb => ?_⟩
    · rw [hb, if_pos rfl] at h
      exact h
    · rw [hb, if_neg (by simp)] at h
      obtain ⟨n, hn⟩ := int_word hN hb
      rw [hn] at h
      exact ⟨n, hn, h⟩
  | false =>
    rw [hN, if_neg (by simp)] at h
    (conv => whnf)
    refine ⟨w, rfl, hw, ?_⟩
    cases hS : sym w with
    | true =>
      rw [hS, if_pos rfl] at h
      exact h
    | false =>
      rw [hS, if_neg (by simp)] at h
      exact h
def Sbr : Zp := fun ds μ q e => ∃ (l : List Nat) (k : Nat), ds = [.str (mk l), .int (k : Int)] ∧ l.length ≤ sizeLine ∧ k ≤ l.length ∧ q (.int ((k + ((l.drop k).takeWhile fun c => c != 10).length : Nat) : Int)) μ
theorem tw_all {l : List Nat} (h : 10 ∉ l) : (l.takeWhile fun c => c != 10).length = l.length := by
  induction l with
  | nil => rfl
  | cons c r ih =>
    rw [List.mem_cons, not_or] at h
    rw [List.takeWhile_cons_of_pos (by simpa using fun e => h.1 e.symm), List.length_cons, ih h.2, List.length_cons]
theorem br_ok {ds : List D} {μ : Mu} {q : ZQ} {e : ZX} (h : Sbr ds μ q e) : zBody 3 z_behind_remark ds μ q e := by
  obtain ⟨l, k, rfl, hl, hk, h⟩ := h
  unfold z_behind_remark
  have ef : Txt.find3 (mk l) (Str.ofString "\n") (k : Int) = _ := find_nl hk
  have eL : lenD (.str (mk l)) μ = some l.length := by
    simp only [lenD, len_mk]
    rw [if_pos hl]
  have go : ∀ F : Int, (zSeq (zIfS (zTst (zOp zLt (zVar 2) (zC (.int 0)))) (zRet (zCB zLen (zCons (zVar 0) zNil))) zNext) (zRet (zVar 2))) { nx := fun _ μ' => q .non μ', rt := q, ex := fun r _ μ' => e r μ' } [some (.str (mk l)), some (.int (k : Int)), some (.int F)] μ → zBody 3 (zSeq (zAsg (zBM isS zFind (zVar 0) (zCons (zC (.str "\n")) (zCons (zVar 1) zNil))) (zgName 2)) (zSeq (zIfS (zTst (zOp zLt (zVar 2) (zC (.int 0)))) (zRet (zCB zLen (zCons (zVar 0) zNil))) zNext) (zRet (zVar 2)))) [.str (mk l), .int (k : Int)] μ q e ∨ F ≠ Txt.find3 (mk l) (Str.ofString "\n") (k : Int) := by
    intro F hF
    by_cases hE : F = Txt.find3 (mk l) (Str.ofString "\n") (k : Int)
    · subst hE
      exact .inl hF
    · exact .inr hE
  refine (go _ ?_).resolve_right (fun hne => hne ef.symm)
  by_cases hm : 10 ∈ l.drop k
  · rw [if_pos hm]
    (conv => whnf)
    exact h
  · rw [if_neg hm]
    ((conv => whnf); (repeat ((first | rw [eL]); (conv => whnf))))
    have e3 : k + ((l.drop k).takeWhile fun c => c != 10).length = l.length := by
      rw [tw_all hm, List.length_drop]
      omega
    rw [e3] at h
    exact h
end Z

set_option maxRecDepth 100000
set_option maxHeartbeats 4000000
namespace Z
open PySem PySem.Spec PyProof.Rows L2 ErrX TL
/-! ### the reader's loop -/
def psh (d : D) : List (List D) → List (List D)
  | x :: st => (x ++ [d]) :: st
  | [] => []
def eAt (C : Str) (k : Nat) : Err := ⟨C, [("at", .int (k : Int))]⟩
def pw (most : Nat) : Nat → List Nat → Nat → List (List D) → Except Err (List D)
  | 0, _, _, _ => .error ⟨"", []⟩
  | _ + 1, [], k, st => if 1 < st.length then .error (eAt "UnexpectedEnd" k) else .ok (st.headD [])
  | f + 1, c :: r, k, st =>
    if blk c then pw most f r (k + 1) st
    else if c = 59 then pw most f ((c :: r).drop ((c :: r).takeWhile fun c => c != 10).length) (k + ((c :: r).takeWhile fun c => c != 10).length) st
    else if c = 40 then (if most < st.length then .error ⟨"TooDeep", []⟩ else pw most f r (k + 1) ([] :: st))
    else if c = 41 then (match st with
      | x :: y :: st' => pw most f r (k + 1) ((y ++ [.lst x]) :: st')
      | _ => .error (eAt "UnexpectedClose" k))
    else (match word ((c :: r).takeWhile fun c => !prt c) with
      | none => .error (eAt "InvalidWord" k)
      | some d => pw most f ((c :: r).drop ((c :: r).takeWhile fun c => !prt c).length) (k + ((c :: r).takeWhile fun c => !prt c).length) (psh d st))
def Kp (μ μ' : Mu) : Prop := ∀ b u, μ b = some u → μ' b = some u
theorem Kp.refl {μ : Mu} : Kp μ μ := fun _ _ h => h
theorem Kp.trans {a b c : Mu} (h : Kp a b) (g : Kp b c) : Kp a c := fun x u q => g x u (h x u q)
theorem Kp.upd {a b : Mu} {p : Addr} {d : D} (h : Kp a b) (n : a p = none) : Kp a (updM b p d) := fun x u q => by
  have hne : x ≠ p := fun e => by rw [e, n] at q; cases q
  rw [updM_ne hne]
  exact h x u q
theorem Kp.del {a b : Mu} {p : Addr} (h : Kp a b) (n : a p = none) : Kp a (delM b p) := fun x u q => by
  have hne : x ≠ p := fun e => by rw [e, n] at q; cases q
  rw [delM_ne hne]
  exact h x u q
abbrev Ent := Addr × List D
def refs (es : List Ent) : List D := es.reverse.map fun p => D.ref p.1
theorem refs_cons (p : Ent) (es : List Ent) : refs (p :: es) = refs es ++ [.ref p.1] := by simp [refs]
theorem refs_len (es : List Ent) : (refs es).length = es.length := by simp [refs]
theorem refs_last (p : Ent) (es : List Ent) : atI (refs (p :: es)) (-1) = some (.ref p.1) := by
  rw [atI_neg1, refs_cons]; simp
/-- the lists under way -/
structure Stk (A : Addr) (μ0 μ : Mu) (es : List Ent) : Prop where
  top : μ A = some (.lst (refs es))
  at_ : ∀ p ∈ es, μ p.1 = some (.lst p.2)
  nd : (A :: es.map (·.1)).Nodup
  kp : Kp μ0 μ
  fr : μ0 A = none ∧ ∀ p ∈ es, μ0 p.1 = none
def stk (es : List Ent) : List (List D) := es.map (·.2)
section
variable {A : Addr} {μ0 μ : Mu} {es : List Ent} {p : Ent}
theorem Stk.ne (S : Stk A μ0 μ es) (h : p ∈ es) : p.1 ≠ A := fun e => by
  have := S.nd
  rw [List.nodup_cons] at this
  exact this.1 (List.mem_map.mpr ⟨p, h, e⟩)
theorem Stk.seq (S : Stk A μ0 μ es) : seqOf (.ref A) μ = some (refs es) := by simp only [seqOf, S.top]
theorem Stk.dct (S : Stk A μ0 μ es) : dctOf (.ref A) μ = none := by simp only [dctOf, S.top]
/-- a datum is added to the last list -/
theorem Stk.add (S : Stk A μ0 μ (p :: es)) (d : D) : Stk A μ0 (updM μ p.1 (.lst (p.2 ++ [d]))) ((p.1, p.2 ++ [d]) :: es) := by
  have hn := S.nd
  rw [List.map_cons, List.nodup_cons, List.nodup_cons] at hn
  refine ⟨?_, fun x hx => ?_, ?_, S.kp.upd (S.fr.2 p (by simp)), S.fr.1, fun x hx => ?_⟩
  · rw [updM_ne (Ne.symm (S.ne (p := p) (by simp))), S.top]
    simp [refs]
  · rcases List.mem_cons.mp hx with e | hx
    · rw [e, updM_same]
    · have hne : x.1 ≠ p.1 := fun e => hn.2.1 (List.mem_map.mpr ⟨x, hx, e⟩)
      rw [updM_ne hne]
      exact S.at_ x (by simp [hx])
  · have := S.nd
    simpa using this
  · rcases List.mem_cons.mp hx with e | hx
    · rw [e]; exact S.fr.2 p (by simp)
    · exact S.fr.2 x (by simp [hx])
/-- a new list -/
theorem Stk.open_ (S : Stk A μ0 μ es) {b : Addr} (hb : μ b = none) : Stk A μ0 (updM (updM μ b (.lst [])) A (.lst (refs es ++ [.ref b]))) ((b, []) :: es) := by
  have bA : b ≠ A := fun e => by rw [e, S.top] at hb; cases hb
  have b0 : μ0 b = none := by
    cases q : μ0 b with
    | none => rfl
    | some u => rw [S.kp b u q] at hb; cases hb
  have bn : ∀ x ∈ es, x.1 ≠ b := fun x hx e => by
    have := S.at_ x hx
    rw [e, hb] at this; cases this
  have hn := S.nd
  rw [List.nodup_cons] at hn
  refine ⟨?_, fun x hx => ?_, ?_, (S.kp.upd b0).upd S.fr.1, S.fr.1, fun x hx => ?_⟩
  · rw [updM_same, refs_cons]
  · rcases List.mem_cons.mp hx with e | hx
    · rw [e, updM_ne bA, updM_same]
    · rw [updM_ne (S.ne hx), updM_ne (bn x hx)]
      exact S.at_ x hx
  · rw [List.map_cons, List.nodup_cons, List.nodup_cons]
    refine ⟨?_, ?_, hn.2⟩
    · rw [List.mem_cons, not_or]
      exact ⟨Ne.symm bA, hn.1⟩
    · intro hm
      obtain ⟨x, hx, e⟩ := List.mem_map.mp hm
      exact bn x hx e
  · rcases List.mem_cons.mp hx with e | hx
    · rw [e]; exact b0
    · exact S.fr.2 x hx
/-- the last list is taken off and stays as it is -/
theorem Stk.close (S : Stk A μ0 μ (p :: es)) : Stk A μ0 (delM (updM μ A (.lst (refs es))) p.1) es := by
  have hn := S.nd
  rw [List.map_cons, List.nodup_cons, List.nodup_cons, List.mem_cons, not_or] at hn
  refine ⟨?_, fun x hx => ?_, ?_, (S.kp.upd S.fr.1).del (S.fr.2 p (by simp)), S.fr.1, fun x hx => S.fr.2 x (by simp [hx])⟩
  · rw [delM_ne (Ne.symm (S.ne (p := p) (by simp))), updM_same]
  · have hne : x.1 ≠ p.1 := fun e => hn.2.1 (List.mem_map.mpr ⟨x, hx, e⟩)
    rw [delM_ne hne, updM_ne (S.ne (by simp [hx]))]
    exact S.at_ x (by simp [hx])
  · rw [List.nodup_cons]
    exact ⟨hn.1.2, hn.2.2⟩
end
end Z

set_option maxRecDepth 100000
set_option maxHeartbeats 4000000
namespace Z
open PySem PySem.Spec PyProof.Rows L2 ErrX TL
def tot : List Ent → Nat
  | [] => 0
  | p :: es => p.2.length + 1 + tot es
def pwC : ZB := (zTst (zOp zLt (zVar 3) (zCB zLen (zCons (zVar 0) zNil))))
def pwB : ZS := (zSeq (zAsg (zOp zIx (zVar 0) (zVar 3)) (zgName 4)) (zIfS (zTst (zOp zIn (zVar 4) (zC (.str " \n")))) (zAugI 3 (zC (.int 1)) fun i j => i + j) (zIfS (zTst (zOp zEq (zVar 4) (zC (.str ";")))) (zAsg (zCall Sbr (zCons (zVar 0) (zCons (zVar 3) zNil))) (zgName 3)) (zIfS (zTst (zOp zEq (zVar 4) (zC (.str "(")))) (zSeq (zIfS (zTst (zOp zGt (zCB zLen (zCons (zVar 2) zNil)) (zVar 1))) (zRaise "TooDeep") zNext) (zSeq (zDrop (zBM isL zAppend (zVar 2) (zCons (zLstO zNil) zNil))) (zAugI 3 (zC (.int 1)) fun i j => i + j))) (zIfS (zTst (zOp zEq (zVar 4) (zC (.str ")")))) (zSeq (zIfS (zTst (zOp zEq (zCB zLen (zCons (zVar 2) zNil)) (zC (.int 1)))) (zRaiseF "UnexpectedClose" "at" (zVar 3)) zNext) (zSeq (zAsg (zBM0 isL zPop (zVar 2)) (zgName 5)) (zFrz 5 (zSeq (zDrop (zBM isL zAppend (zOp zIx (zVar 2) (zUn zNeg (zC (.int 1)))) (zCons (zVar 5) zNil))) (zAugI 3 (zC (.int 1)) fun i j => i + j))))) (zSeq (zAsg (zCall Swa (zCons (zVar 0) (zCons (zVar 3) zNil))) (zgTup 2 (zgCons (zgName 6) (zgCons (zgName 3) zgNil)))) (zDrop (zBM isL zAppend (zOp zIx (zVar 2) (zUn zNeg (zC (.int 1)))) (zCons (zVar 6) zNil)))))))))
def pwE : ZS := (zSeq (zIfS (zTst (zOp zGt (zCB zLen (zCons (zVar 2) zNil)) (zC (.int 1)))) (zRaiseF "UnexpectedEnd" "at" (zCB zLen (zCons (zVar 0) zNil))) zNext) (zRet (zOp zIx (zVar 2) (zC (.int 0)))))
theorem wd_ne {l : List Nat} {k : Nat} (hk : k < l.length) (h : prt (l[k]'hk) = false) : 1 ≤ (wd l k).length := by
  unfold wd
  rw [List.drop_eq_getElem_cons hk, List.takeWhile_cons_of_pos (by rw [h]; rfl), List.length_cons]
  omega
theorem prt_no {c : Nat} (h1 : blk c = false) (h2 : c ≠ 59) (h3 : c ≠ 40) (h4 : c ≠ 41) : prt c = false := by
  unfold blk at h1
  unfold prt
  rw [show tl lBlk = [32, 10] from rfl] at h1
  rw [show tl lPar = [32, 10, 40, 41, 59] from rfl]
  simp only [decide_eq_false_iff_not, List.mem_cons, List.not_mem_nil, or_false, not_or] at h1 ⊢
  exact ⟨h1.1, h1.2, h3, h4, h2⟩
/-- what is wished of the outcome -/
def PwR (μ0 : Mu) (q : ZQ) (e : ZX) : Except Err (List D) → Prop
  | .error x => ∀ μ', Kp μ0 μ' → e x μ'
  | .ok ds => ∀ b μ', Kp μ0 μ' → μ0 b = none → μ' b = some (.lst ds) → q (.ref b) μ'
def pwN (q : ZQ) (e : ZX) : ZEnds := { nx := pwE { nx := fun _ μ' => q .non μ', rt := q, ex := fun r _ μ' => e r μ' }, rt := q, ex := fun r _ μ' => e r μ' }
theorem pw_loop {l : List Nat} {most : Nat} {A : Addr} {μ0 : Mu} {q : ZQ} {e : ZX} (hl : l.length ≤ 1000000) : ∀ (f m k : Nat) (es : List Ent) (μ : Mu) (o4 o5 o6 : Option D), l.length - k < f → l.length - k < m → k ≤ l.length → 1 ≤ es.length → tot es ≤ k + 1 → Stk A μ0 μ es →
    PwR μ0 q e (pw most f (l.drop k) k (stk es)) →
    zWhileN pwC pwB (pwN q e) m [some (.str (mk l)), some (.int (most : Int)), some (.ref A), some (.int (k : Int)), o4, o5, o6] μ
  | 0, m, k, es, μ, o4, o5, o6, hf, hm, hk, hes, ht, S, h => by omega
  | f + 1, 0, k, es, μ, o4, o5, o6, hf, hm, hk, hes, ht, S, h => by omega
  | f + 1, m + 1, k, es, μ, o4, o5, o6, hf, hm, hk, hes, ht, S, h => by
    have hsz : 1000010 < sizeLine := by rw [PySem.sizeLine_eq]; decide
    have hls : l.length ≤ sizeLine := by omega
    have hl2 : (mk l).length ≤ sizeLine := by rw [len_mk]; exact hls
    have eL : lenD (.str (mk l)) μ = some l.length := by
      simp only [lenD, len_mk]
      rw [if_pos hls]
    have eE : lenD (.ref A) μ = some es.length := by simp only [lenD, S.seq, refs_len]
    unfold pwC
    by_cases hk2 : k < l.length
    · have e1 : decide ((k : Int) < (l.length : Int)) = true := decide_eq_true (by omega)
      ((conv => whnf); (repeat ((first | rw [eL]); (conv => whnf))))
      split
      · have i0 := ix_mk hk2
        have hdr := List.drop_eq_getElem_cons hk2
        have hwd : wd l k = (l.drop k).takeWhile fun c => !prt c := rfl
        have hwe := wd_le l k hk
        have hne := fun hp => wd_ne hk2 hp
        have hwd2 : ∀ o, word (wd l k) = o → (match word (wd l k) with
          | some d => True
          | none => True) := fun _ _ => by split <;> trivial
        rw [hdr] at h
        unfold pw at h
        rw [← hdr, ← hwd] at h
        generalize hc : l[k]'hk2 = c at i0 h hne
        have eB : strIn (⟨#[c]⟩ : Str) (Str.ofString " 
") = blk c := rfl
        have d59 : decide ((⟨#[c]⟩ : Str) = Str.ofString ";") = decide (c = 59) := by
          rw [show (⟨#[c]⟩ : Str) = mk [c] from rfl, show Str.ofString ";" = mk [59] from rfl, dec_mk]
          simp
        have d40 : decide ((⟨#[c]⟩ : Str) = Str.ofString "(") = decide (c = 40) := by
          rw [show (⟨#[c]⟩ : Str) = mk [c] from rfl, show Str.ofString "(" = mk [40] from rfl, dec_mk]
          simp
        have d41 : decide ((⟨#[c]⟩ : Str) = Str.ofString ")") = decide (c = 41) := by
          rw [show (⟨#[c]⟩ : Str) = mk [c] from rfl, show Str.ofString ")" = mk [41] from rfl, dec_mk]
          simp
        have e3 : ((k : Int) + 1) = ((k + 1 : Nat) : Int) := by omega
        have step : ∀ (k' : Nat) (es' : List Ent) (μ' : Mu) (o4 o5 o6 : Option D), k < k' → k' ≤ l.length → 1 ≤ es'.length → tot es' ≤ k' + 1 → Stk A μ0 μ' es' → PwR μ0 q e (pw most f (l.drop k') k' (stk es')) →
            zWhileN pwC pwB (pwN q e) m [some (.str (mk l)), some (.int (most : Int)), some (.ref A), some (.int (k' : Int)), o4, o5, o6] μ' :=
          fun k' es' μ' o4 o5 o6 g1 g2 g3 g4 g5 g6 => pw_loop hl f m k' es' μ' o4 o5 o6 (by omega) (by omega) g2 g3 g4 g5 g6
        have step1 : ∀ (es' : List Ent) (μ' : Mu) (o4 o5 o6 : Option D), 1 ≤ es'.length → tot es' ≤ k + 2 → Stk A μ0 μ' es' → PwR μ0 q e (pw most f (l.drop (k + 1)) (k + 1) (stk es')) →
            zWhileN pwC pwB (pwN q e) m [some (.str (mk l)), some (.int (most : Int)), some (.ref A), some (.int ((k : Int) + 1)), o4, o5, o6] μ' := fun es' μ' o4 o5 o6 g3 g4 g5 g6 => by
          have := step (k + 1) es' μ' o4 o5 o6 (by omega) (by omega) g3 (by omega) g5 g6
          rw [← e3] at this
          exact this
        have tot_mem : ∀ {es : List Ent} {p : Ent}, p ∈ es → p.2.length + 1 ≤ tot es := by
          intro es
          induction es with
          | nil => intro p hp; simp at hp
          | cons x es ih =>
            intro p hp
            unfold tot
            rcases List.mem_cons.mp hp with e | hp
            · rw [e]; omega
            · have := ih hp; omega
        have tot_len : ∀ es : List Ent, es.length ≤ tot es := by
          intro es
          induction es with
          | nil => exact Nat.le_refl _
          | cons x es ih =>
            unfold tot
            rw [List.length_cons]; omega
        have htl := tot_len es
        have hsl : (stk es).length = es.length := by simp [stk]
        have es0 := S.seq
        have ed0 := S.dct
        have eLA : isL (.ref A) μ = true := isL_ref S.top
        unfold pwB at step1 step ⊢
        ((conv => whnf); (repeat ((first | rw [i0]); (conv => whnf))))
        refine ⟨hl2, ?_⟩
        (conv => whnf)
        cases hb : blk c with
        | true =>
          rw [hb, if_pos rfl] at h
          rw [hb] at eB
          ((conv => whnf); (repeat ((first | rw [eB]); (conv => whnf))))
          exact step1 es μ _ _ _ hes (by omega) S h
        | false =>
          rw [hb, if_neg (by simp)] at h
          rw [hb] at eB
          ((conv => whnf); (repeat ((first | rw [eB]); (conv => whnf))))
          rw [d59]
          by_cases h59 : c = 59
          · rw [if_pos h59] at h
            rw [decide_eq_true h59]
            (conv => whnf)
            refine ⟨l, k, rfl, hls, hk, ?_⟩
            have hn1 : 1 ≤ ((l.drop k).takeWhile fun c => c != 10).length := by
              rw [hdr, hc, List.takeWhile_cons_of_pos (by rw [h59]; decide), List.length_cons]
              omega
            have hn2 : ((l.drop k).takeWhile fun c => c != 10).length ≤ (l.drop k).length := List.Sublist.length_le (List.takeWhile_sublist _)
            rw [List.length_drop] at hn2
            rw [List.drop_drop] at h
            exact step _ es μ _ _ _ (by omega) (by omega) hes (by omega) S h
          · rw [if_neg h59] at h
            rw [decide_eq_false h59]
            (conv => whnf)
            rw [d40]
            by_cases h40 : c = 40
            · rw [if_pos h40] at h
              rw [decide_eq_true h40]
              ((conv => whnf); (repeat ((first | rw [eE]); (conv => whnf))))
              rw [hsl] at h
              by_cases hm2 : most < es.length
              · have e5 : decide ((most : Int) < (es.length : Int)) = true := decide_eq_true (by omega)
                rw [if_pos hm2] at h
                split
                · exact h μ S.kp
                · rename_i hh; exact absurd (e5.symm.trans hh) (by simp)
              · have e5 : decide ((most : Int) < (es.length : Int)) = false := decide_eq_false (by omega)
                rw [if_neg hm2] at h
                split
                · rename_i hh; exact absurd (e5.symm.trans hh) (by simp)
                · ((conv => whnf); (repeat ((first | rw [eLA]); (conv => whnf))))
                  intro b hbn
                  have hAb : (updM μ b (.lst [])) A = some (.lst (refs es)) := by
                    rw [updM_ne (fun e => by rw [← e, S.top] at hbn; cases hbn), S.top]
                  ((conv => whnf); (repeat ((first | rw [hAb]); (conv => whnf))))
                  refine ⟨by rw [refs_len]; omega, ?_⟩
                  refine step1 ((b, []) :: es) _ _ _ _ (by simp) ?_ (S.open_ hbn) h
                  unfold tot
                  simp only [List.length_nil]; omega
            · rw [if_neg h40] at h
              rw [decide_eq_false h40]
              (conv => whnf)
              rw [d41]
              by_cases h41 : c = 41
              · rw [if_pos h41] at h
                rw [decide_eq_true h41]
                ((conv => whnf); (repeat ((first | rw [eE]); (conv => whnf))))
                match es, hes, ht, S, h, eE, es0, ed0, eLA, htl, hsl with
                | [], hes, _, _, _, _, _, _, _, _, _ => exact absurd hes (by simp)
                | [p], _, _, S, h, _, _, _, _, _, _ =>
                  rw [show decide ((([p] : List Ent).length : Int) = 1) = true from rfl]
                  exact h μ S.kp
                | p :: p2 :: es', _, ht, S, h, _, _, _, eLA, _, _ =>
                  have e6 : decide (((p :: p2 :: es').length : Int) = 1) = false := decide_eq_false (by simp only [List.length_cons]; omega)
                  rw [e6]
                  have hA := S.top
                  have ePop : (refs (p :: p2 :: es'))[(refs (p :: p2 :: es')).length - 1]? = some (.ref p.1) := by
                    rw [refs_cons, List.length_append]
                    simp
                  have eDr : (refs (p :: p2 :: es')).dropLast = refs (p2 :: es') := by
                    rw [refs_cons, List.dropLast_concat]
                  ((conv => whnf); (repeat ((first | rw [eLA] | rw [hA] | rw [ePop] | rw [eDr]); (conv => whnf))))
                  have hp5 : updM μ A (.lst (refs (p2 :: es'))) p.1 = some (.lst p.2) := by
                    rw [updM_ne (S.ne (by simp)), S.at_ p (by simp)]
                  ((conv => whnf); (repeat ((first | rw [hp5]); (conv => whnf))))
                  have S' := S.close
                  have s0 := S'.seq
                  have d0 := S'.dct
                  have lst := refs_last p2 es'
                  have a2 := S'.at_ p2 (by simp)
                  have l2 := isL_ref a2
                  ((conv => whnf); (repeat ((first | rw [d0] | rw [s0] | rw [lst] | rw [l2] | rw [a2]); (conv => whnf))))
                  refine ⟨?_, ?_⟩
                  · unfold tot tot at ht; omega
                  have h' : PwR μ0 q e (pw most f (l.drop (k + 1)) (k + 1) (stk ((p2.1, p2.2 ++ [D.lst p.2]) :: es'))) := h
                  refine step1 ((p2.1, p2.2 ++ [D.lst p.2]) :: es') _ _ _ _ (by simp) ?_ (S'.add (D.lst p.2)) h'
                  unfold tot tot at ht
                  unfold tot
                  simp only [List.length_append, List.length_cons, List.length_nil]
                  omega
              · rw [if_neg h41] at h
                rw [decide_eq_false h41]
                have hn1 := hne (prt_no hb h59 h40 h41)
                (conv => whnf)
                refine ⟨l, k, rfl, hls, hk, ?_⟩
                cases hwo : word (wd l k) with
                | none =>
                  rw [hwo] at h
                  exact h μ S.kp
                | some d =>
                  rw [hwo] at h
                  (conv => whnf)
                  refine ⟨rfl, ?_⟩
                  match es, hes, ht, S, h, es0, ed0, htl with
                  | [], hes, _, _, _, _, _, _ => exact absurd hes (by simp)
                  | p :: es', _, ht, S, h, es0, ed0, _ =>
                    have lst := refs_last p es'
                    have a2 := S.at_ p (by simp)
                    have l2 := isL_ref a2
                    ((conv => whnf); (repeat ((first | rw [ed0] | rw [es0] | rw [lst] | rw [l2] | rw [a2]); (conv => whnf))))
                    refine ⟨?_, ?_⟩
                    · unfold tot at ht; omega
                    rw [List.drop_drop] at h
                    refine step _ ((p.1, p.2 ++ [d]) :: es') _ _ _ _ (by omega) hwe (by simp) ?_ (S.add d) h
                    unfold tot at ht
                    unfold tot
                    simp only [List.length_append, List.length_cons, List.length_nil]
                    omega
      · rename_i hh; exact absurd (e1.symm.trans hh) (by simp)
    · have e1 : decide ((k : Int) < (l.length : Int)) = false := decide_eq_false (by omega)
      have ek : k = l.length := by omega
      have ed : l.drop k = [] := List.drop_eq_nil_of_le (by omega)
      rw [ed] at h
      unfold pw at h
      ((conv => whnf); (repeat ((first | rw [eL]); (conv => whnf))))
      split
      · rename_i hh; exact absurd (e1.symm.trans hh) (by simp)
      · unfold pwN pwE
        ((conv => whnf); (repeat ((first | rw [eE]); (conv => whnf))))
        have hsl : (stk es).length = es.length := by simp [stk]
        rw [hsl] at h
        by_cases h1 : 1 < es.length
        · have e2 : decide ((1 : Int) < (es.length : Int)) = true := decide_eq_true (by omega)
          rw [if_pos h1] at h
          split
          · ((conv => whnf); (repeat ((first | rw [eL]); (conv => whnf))))
            rw [← ek]
            exact h μ S.kp
          · rename_i hh; exact absurd (e2.symm.trans hh) (by simp)
        · have e2 : decide ((1 : Int) < (es.length : Int)) = false := decide_eq_false (by omega)
          rw [if_neg h1] at h
          split
          · rename_i hh; exact absurd (e2.symm.trans hh) (by simp)
          · obtain ⟨p, rfl⟩ : ∃ p, es = [p] := List.length_eq_one_iff.mp (by omega)
            have i0 : atI (refs [p]) 0 = some (.ref p.1) := atI_cast (n := 0)
            have es0 := S.seq
            have ed0 := S.dct
            ((conv => whnf); (repeat ((first | rw [ed0] | rw [es0] | rw [i0]); (conv => whnf))))
            exact h p.1 μ S.kp (S.fr.2 p (by simp)) (S.at_ p (by simp))
def Spw : Zp := fun ds μ q e => ∃ (l : List Nat) (most : Nat), ds = [.str (mk l), .int (most : Int)] ∧ l.length ≤ 1000000 ∧ PwR μ q e (pw most (l.length + 1) l 0 [[]])
theorem pw_ok {ds : List D} {μ : Mu} {q : ZQ} {e : ZX} (h : Spw ds μ q e) : zBody 7 (z_parse_within Sbr Swa) ds μ q e := by
  obtain ⟨l, most, rfl, hl, h⟩ := h
  unfold z_parse_within
  (conv => whnf)
  intro b hb
  (conv => whnf)
  intro A hA
  have bA : b ≠ A := fun e => by
    have : updM μ b (.lst []) A = none := hA
    rw [← e, updM_same] at this
    cases this
  have A0 : μ A = none := by
    have : updM μ b (.lst []) A = none := hA
    rwa [updM_ne (Ne.symm bA)] at this
  have S : Stk A μ (updM (updM μ b (.lst [])) A (.lst [.ref b])) [(b, [])] := by
    refine ⟨by rw [updM_same]; rfl, fun p hp => ?_, ?_, (Kp.refl.upd hb).upd A0, A0, fun p hp => ?_⟩
    · rw [List.mem_singleton.mp hp, updM_ne bA, updM_same]
    · simp [Ne.symm bA]
    · rw [List.mem_singleton.mp hp]; exact hb
  refine ⟨l.length + 1, ?_⟩
  exact pw_loop hl (l.length + 1) (l.length + 1) 0 [(b, [])] _ _ _ _ (by omega) (by omega) (by omega) (by simp) (by unfold tot tot; simp) S h
def Spa : Zp := fun ds μ q e => ∃ l : List Nat, ds = [.str (mk l)] ∧ l.length ≤ 1000000 ∧ PwR μ q e (pw 60 (l.length + 1) l 0 [[]])
theorem pa_ok {ds : List D} {μ : Mu} {q : ZQ} {e : ZX} (h : Spa ds μ q e) : zBody 1 (z_parse_all Spw) ds μ q e := by
  obtain ⟨l, rfl, hl, h⟩ := h
  unfold z_parse_all
  (conv => whnf)
  exact ⟨l, 60, rfl, hl, h⟩
end Z

set_option maxRecDepth 100000
set_option maxHeartbeats 4000000
namespace Z
open PySem PySem.Spec PyProof.Rows L2 ErrX TL
/-! ### the reader's law, without fuel -/
theorem tw_len {p : Nat → Bool} (l : List Nat) : (l.takeWhile p).length ≤ l.length := List.Sublist.length_le (List.takeWhile_sublist _)
theorem pw_fuel {most : Nat} : ∀ (f f' : Nat) (r : List Nat) (k : Nat) (st : List (List D)), r.length < f → r.length < f' → pw most f r k st = pw most f' r k st
  | 0, _, r, k, st, h, _ => by omega
  | _ + 1, 0, r, k, st, _, h => by omega
  | f + 1, f' + 1, [], k, st, _, _ => rfl
  | f + 1, f' + 1, c :: r, k, st, h, h' => by
    rw [List.length_cons] at h h'
    unfold pw
    have g1 : ∀ k st, pw most f r k st = pw most f' r k st := fun k st => pw_fuel f f' r k st (by omega) (by omega)
    by_cases hb : blk c = true
    · rw [if_pos hb, if_pos hb]; exact g1 _ _
    rw [if_neg hb, if_neg hb]
    by_cases h59 : c = 59
    · rw [if_pos h59, if_pos h59]
      have hn : 1 ≤ ((c :: r).takeWhile fun c => c != 10).length := by
        rw [List.takeWhile_cons_of_pos (by rw [h59]; decide), List.length_cons]; omega
      exact pw_fuel f f' _ _ _ (by rw [List.length_drop, List.length_cons]; omega) (by rw [List.length_drop, List.length_cons]; omega)
    rw [if_neg h59, if_neg h59]
    by_cases h40 : c = 40
    · rw [if_pos h40, if_pos h40]
      split
      · rfl
      · exact g1 _ _
    rw [if_neg h40, if_neg h40]
    by_cases h41 : c = 41
    · rw [if_pos h41, if_pos h41]
      split
      · exact g1 _ _
      · rfl
    rw [if_neg h41, if_neg h41]
    split
    · rfl
    · have hp := prt_no (by simpa using hb) h59 h40 h41
      have hn : 1 ≤ ((c :: r).takeWhile fun c => !prt c).length := by
        rw [List.takeWhile_cons_of_pos (by rw [hp]; rfl), List.length_cons]; omega
      exact pw_fuel f f' _ _ _ (by rw [List.length_drop, List.length_cons]; omega) (by rw [List.length_drop, List.length_cons]; omega)
def pt (r : List Nat) (k : Nat) (st : List (List D)) : Except Err (List D) := pw 60 (r.length + 1) r k st
theorem pt_nil (k : Nat) (st : List (List D)) : pt [] k st = if 1 < st.length then .error (eAt "UnexpectedEnd" k) else .ok (st.headD []) := rfl
theorem pt_blk {c : Nat} {r : List Nat} {k : Nat} {st : List (List D)} (h : blk c = true) : pt (c :: r) k st = pt r (k + 1) st := by
  unfold pt
  rw [List.length_cons]
  conv => lhs; unfold pw
  rw [if_pos h]
theorem pt_open {r : List Nat} {k : Nat} {st : List (List D)} : pt (40 :: r) k st = if 60 < st.length then .error ⟨"TooDeep", []⟩ else pt r (k + 1) ([] :: st) := by
  unfold pt
  rw [List.length_cons]
  conv => lhs; unfold pw
  rw [if_neg (by decide), if_neg (by decide), if_pos rfl]
theorem pt_close {r : List Nat} {k : Nat} {x y : List D} {st : List (List D)} : pt (41 :: r) k (x :: y :: st) = pt r (k + 1) ((y ++ [.lst x]) :: st) := by
  unfold pt
  rw [List.length_cons]
  conv => lhs; unfold pw
  rw [if_neg (by decide), if_neg (by decide), if_neg (by decide), if_pos rfl]
/-- nothing, or a sign that parts -/
def Ends (r : List Nat) : Prop := ∀ c s, r = c :: s → prt c = true
theorem tw_word {w r : List Nat} (hw : w.all (fun c => !prt c) = true) (hr : Ends r) : (w ++ r).takeWhile (fun c => !prt c) = w := by
  induction w with
  | nil =>
    cases r with
    | nil => rfl
    | cons c s => rw [List.nil_append, List.takeWhile_cons_of_neg (by rw [hr c s rfl]; simp)]
  | cons c w ih =>
    rw [List.all_cons, Bool.and_eq_true] at hw
    have h1 : (fun c => !prt c) c = true := hw.1
    rw [List.cons_append, List.takeWhile_cons_of_pos (p := fun c => !prt c) h1, ih hw.2]
theorem prt_parts {c : Nat} (h : prt c = false) : blk c = false ∧ c ≠ 59 ∧ c ≠ 40 ∧ c ≠ 41 := by
  unfold prt at h
  unfold blk
  rw [show tl lBlk = [32, 10] from rfl]
  rw [show tl lPar = [32, 10, 40, 41, 59] from rfl] at h
  simp only [decide_eq_false_iff_not, List.mem_cons, List.not_mem_nil, or_false, not_or] at h ⊢
  exact ⟨⟨h.1, h.2.1⟩, h.2.2.2.2, h.2.2.1, h.2.2.2.1⟩
theorem pt_word {w r : List Nat} {k : Nat} {st : List (List D)} {d : D} (hne : w ≠ []) (hw : w.all (fun c => !prt c) = true) (hr : Ends r) (hd : word w = some d) : pt (w ++ r) k st = pt r (k + w.length) (psh d st) := by
  cases w with
  | nil => exact absurd rfl hne
  | cons c w =>
    have hc : prt c = false := by
      rw [List.all_cons, Bool.and_eq_true] at hw
      simpa using hw.1
    obtain ⟨hb, h59, h40, h41⟩ := prt_parts hc
    have ht := tw_word hw hr
    unfold pt
    conv => lhs; unfold pw
    rw [List.cons_append]
    simp only
    rw [if_neg (by simp [hb]), if_neg h59, if_neg h40, if_neg h41]
    rw [List.cons_append] at ht
    rw [ht, hd]
    simp only
    rw [← List.cons_append, List.drop_left]
    exact pw_fuel _ _ _ _ _ (by simp only [List.length_append, List.length_cons]; omega) (by omega)
theorem pt_rem {s r : List Nat} {k : Nat} {st : List (List D)} (hs : 10 ∉ s) : pt (59 :: (s ++ 10 :: r)) k st = pt r (k + s.length + 2) st := by
  have ht : ((59 : Nat) :: (s ++ 10 :: r)).takeWhile (fun c => c != 10) = 59 :: s := by
    have : ∀ s : List Nat, 10 ∉ s → (s ++ 10 :: r).takeWhile (fun c => c != 10) = s := by
      intro s
      induction s with
      | nil => intro _; rw [List.nil_append, List.takeWhile_cons_of_neg (by decide)]
      | cons c s ih =>
        intro h
        rw [List.mem_cons, not_or] at h
        rw [List.cons_append, List.takeWhile_cons_of_pos (by simpa using fun e => h.1 e.symm), ih h.2]
    rw [List.takeWhile_cons_of_pos (by decide), this s hs]
  unfold pt
  conv => lhs; unfold pw
  simp only
  rw [if_neg (by decide), if_pos trivial, ht]
  have hd : ((59 : Nat) :: (s ++ 10 :: r)).drop (59 :: s).length = 10 :: r := by
    rw [← List.cons_append, List.drop_left]
  rw [hd]
  have e1 : pw 60 ((59 :: (s ++ 10 :: r)).length) (10 :: r) (k + (59 :: s).length) st = pt (10 :: r) (k + (59 :: s).length) st := pw_fuel _ _ _ _ _ (by simp only [List.length_cons, List.length_append]; omega) (by omega)
  have e2 : pt (10 :: r) (k + (59 :: s).length) st = pt r (k + (59 :: s).length + 1) st := pt_blk (by decide)
  rw [e1, e2]
  unfold pt
  rw [List.length_cons]
  congr 1 <;> omega
end Z

set_option maxRecDepth 100000
set_option maxHeartbeats 4000000
namespace Z
open PySem PySem.Spec PyProof.Rows L2 ErrX TL
/-! ### data and their texts -/
inductive Da where
  | int (i : Int) | sym (w : List Nat) | lst (l : List Da)
def intL (i : Int) : List Nat := tl (Str.ofString (toString i))
mutual
def Da.d : Da → D
  | .int i => .int i
  | .sym w => .str (mk w)
  | .lst l => .lst (dL l)
def dL : List Da → List D
  | [] => []
  | a :: r => a.d :: dL r
end
mutual
def Da.dep : Da → Nat
  | .int _ => 0
  | .sym _ => 0
  | .lst l => depL l + 1
def depL : List Da → Nat
  | [] => 0
  | a :: r => max a.dep (depL r)
end
mutual
def Da.ok : Da → Bool
  | .int i => decide (i.natAbs < 10 ^ 40)
  | .sym w => sym w
  | .lst l => okL l
def okL : List Da → Bool
  | [] => true
  | a :: r => a.ok && okL r
end
mutual
def Da.txt : Da → List Nat
  | .int i => intL i
  | .sym w => w
  | .lst l => 40 :: (txtL l ++ [41])
def txtL : List Da → List Nat
  | [] => []
  | [a] => a.txt
  | a :: b :: r => a.txt ++ 32 :: txtL (b :: r)
end
mutual
def Da.pcs : Da → List (List Nat)
  | .int i => [intL i]
  | .sym w => [w]
  | .lst l => [40] :: (pcsL l ++ [[41]])
def pcsL : List Da → List (List Nat)
  | [] => []
  | a :: r => a.pcs ++ pcsL r
end
theorem dL_map : ∀ l : List Da, dL l = l.map Da.d
  | [] => by simp [dL]
  | a :: r => by simp [dL, dL_map r]
/-! ### words -/
theorem intL_nat (n : Nat) : intL (n : Int) = numL n := tl_num n
theorem intL_neg (m : Nat) : intL (Int.negSucc m) = 45 :: numL (m + 1) := by
  unfold intL tl
  rw [signs_ofString]
  have e : toString (Int.negSucc m) = "-" ++ Nat.repr (m + 1) := rfl
  rw [e, String.toList_append, List.map_append, Nat.toList_repr]
  rfl
theorem numL_head : ∀ n : Nat, 1 ≤ n → (numL n).head? ≠ some 48 := by
  intro n
  induction n using Nat.strongRecOn with
  | _ n ih =>
    intro h1
    by_cases h : n < 10
    · rw [numL_lt h]
      simp
      omega
    · rw [numL_step (by omega)]
      have := ih (n / 10) (by omega) (by omega)
      cases hn : numL (n / 10) with
      | nil => exact absurd hn (numL_ne _)
      | cons c r =>
        rw [hn] at this
        simpa using this
theorem numL_dg (n : Nat) : (numL n).all dg = true := List.all_eq_true.mpr fun c hc => dg_iff.mpr (numL_digits n c hc)
theorem numL_hd {n c : Nat} {r : List Nat} (h : numL n = c :: r) : 48 ≤ c ∧ c ≤ 57 := numL_digits n c (by rw [h]; simp)
theorem word_int {i : Int} (h : i.natAbs < 10 ^ 40) : word (intL i) = some (.int i) := by
  have mkI : mk (intL i) = Str.ofString (toString i) := mk_of _
  cases i with
  | ofNat n =>
    have e0 : intL (Int.ofNat n) = numL n := intL_nat n
    have hl : (numL n).length ≤ 40 := numL_len (by decide) (by simpa using h)
    have hi : intText? (mk (intL (Int.ofNat n))) = some (Int.ofNat n) := by
      rw [mkI]
      exact int_num (by omega)
    rw [e0] at hi ⊢
    cases hn : numL n with
    | nil => exact absurd hn (numL_ne n)
    | cons c r =>
      have hc := numL_hd hn
      have hd : dgs (c :: r) = c :: r := by rw [dgs_cons, if_neg (by omega)]
      have hf : fgs (c :: r) = c :: r := by rw [fgs_cons, if_neg (by omega)]
      have ha := numL_dg n
      rw [hn] at ha hl hi
      have hN : num (c :: r) = true := by
        unfold num
        rw [hd, ha]; rfl
      have hB : badN (c :: r) = false := by
        unfold badN
        rw [hf, decide_eq_false (show ¬ 40 < (c :: r).length by omega), decide_eq_false (show ¬ (c :: r).head? = some 43 by simp; omega)]
        by_cases h1 : 1 ≤ n
        · have := numL_head n h1
          rw [hn] at this
          rw [decide_eq_false this]
          rfl
        · have n0 : n = 0 := by omega
          subst n0
          have e1 : numL 0 = [48] := numL_lt (by decide)
          rw [e1] at hn
          rw [← hn]
          rfl
      unfold word
      rw [hN, if_pos rfl, hB, if_neg (by simp), hi]
      rfl
  | negSucc m =>
    have e0 := intL_neg m
    have hl : (numL (m + 1)).length ≤ 40 := numL_len (by decide) (by simpa using h)
    have ha := numL_dg (m + 1)
    have hne := numL_ne (m + 1)
    have hi : intText? (mk (45 :: numL (m + 1))) = some (Int.negSucc m) := by
      rw [intText_neg (x := mk (45 :: numL (m + 1))) (cs := numL (m + 1)) rfl (numL_digits _) hne (by rw [len_mk, List.length_cons]; omega), numL_val]
      rfl
    rw [e0]
    have hd : dgs (45 :: numL (m + 1)) = numL (m + 1) := by rw [dgs_cons, if_pos (.inl rfl)]
    have hf : fgs (45 :: numL (m + 1)) = numL (m + 1) := by rw [fgs_cons, if_pos rfl]
    have hN : num (45 :: numL (m + 1)) = true := by
      unfold num
      rw [hd, ha]
      cases hn : numL (m + 1) with
      | nil => exact absurd hn hne
      | cons c r => rfl
    have hB : badN (45 :: numL (m + 1)) = false := by
      unfold badN
      rw [hf, decide_eq_false (show ¬ 40 < (numL (m + 1)).length by omega), decide_eq_false (numL_head (m + 1) (by omega))]
      rfl
    unfold word
    rw [hN, if_pos rfl, hB, if_neg (by simp), hi]
    rfl
theorem mst_np {c : Nat} (h : mst c = true) : prt c = false := by
  cases hp : prt c with
  | false => rfl
  | true =>
    exfalso
    unfold prt at hp
    rw [show tl lPar = [32, 10, 40, 41, 59] from rfl] at hp
    simp only [decide_eq_true_eq, List.mem_cons, List.not_mem_nil, or_false] at hp
    rcases hp with e | e | e | e | e <;> subst e <;> exact absurd h (by decide +kernel)
theorem dg_np {c : Nat} (h : dg c = true) : prt c = false := mst_np (by unfold mst; rw [h]; simp)
theorem word_sym {w : List Nat} (h : sym w = true) : word w = some (.str (mk w)) ∧ w ≠ [] ∧ w.all (fun c => !prt c) = true := by
  have h0 := h
  unfold sym at h
  rw [Bool.and_eq_true, Bool.and_eq_true] at h
  obtain ⟨h1, h2, h3⟩ := h
  refine ⟨?_, (fun e => by rw [e] at h1; cases h1), ?_⟩
  · unfold word
    have h2 : num w = false := by simpa using h2
    rw [h2, if_neg (by simp), h0, if_pos rfl]
  · rw [List.all_eq_true] at h3 ⊢
    exact fun c hc => by rw [mst_np (h3 c hc)]; rfl
theorem int_np (i : Int) : intL i ≠ [] ∧ (intL i).all (fun c => !prt c) = true := by
  have hn : ∀ n : Nat, (numL n).all (fun c => !prt c) = true := fun n => List.all_eq_true.mpr fun c hc => by
    rw [dg_np (dg_iff.mpr (numL_digits n c hc))]; rfl
  cases i with
  | ofNat n =>
    have e0 : intL (Int.ofNat n) = numL n := intL_nat n
    rw [e0]
    exact ⟨numL_ne n, hn n⟩
  | negSucc m =>
    rw [intL_neg]
    exact ⟨by simp, by rw [List.all_cons, hn]; decide +kernel⟩
end Z

set_option maxRecDepth 100000
set_option maxHeartbeats 4000000
namespace Z
open PySem PySem.Spec PyProof.Rows L2 ErrX TL
theorem ends_p {c : Nat} {r : List Nat} (h : prt c = true) : Ends (c :: r) := fun _ _ e => by cases e; exact h
theorem ends_nil : Ends [] := fun _ _ e => by cases e
theorem p32 : prt 32 = true := by decide +kernel
theorem p41 : prt 41 = true := by decide +kernel
theorem p40 : prt 40 = true := by decide +kernel
theorem p10 : prt 10 = true := by decide +kernel
theorem p59 : prt 59 = true := by decide +kernel
theorem b32 : blk 32 = true := by decide +kernel
theorem b10 : blk 10 = true := by decide +kernel
mutual
theorem pt_txt : ∀ (d : Da), d.ok = true → ∀ (rest : List Nat) (k : Nat) (x : List D) (st : List (List D)), Ends rest → (x :: st).length + d.dep ≤ 61 → ∃ k', pt (d.txt ++ rest) k (x :: st) = pt rest k' ((x ++ [d.d]) :: st)
  | .int i, h, rest, k, x, st, hr, hd => by
    obtain ⟨h1, h2⟩ := int_np i
    have := pt_word (k := k) (st := x :: st) h1 h2 hr (word_int (by simpa [Da.ok] using h))
    exact ⟨_, by simp only [Da.txt, Da.d]; exact this⟩
  | .sym w, h, rest, k, x, st, hr, hd => by
    obtain ⟨h1, h2, h3⟩ := word_sym (by simpa [Da.ok] using h)
    have := pt_word (k := k) (st := x :: st) h2 h3 hr h1
    exact ⟨_, by simp only [Da.txt, Da.d]; exact this⟩
  | .lst l, h, rest, k, x, st, hr, hd => by
    simp only [Da.ok] at h
    simp only [Da.dep, List.length_cons] at hd
    obtain ⟨k1, h1⟩ := pt_txtL l h (41 :: rest) (k + 1) [] (x :: st) (ends_p p41) (by simp only [List.length_cons]; omega)
    refine ⟨k1 + 1, ?_⟩
    simp only [Da.txt, Da.d, List.cons_append, List.append_assoc, List.singleton_append]
    rw [pt_open, if_neg (by simp only [List.length_cons]; omega)]
    simp only [List.nil_append] at h1 ⊢
    rw [h1, pt_close]
theorem pt_txtL : ∀ (l : List Da), okL l = true → ∀ (rest : List Nat) (k : Nat) (x : List D) (st : List (List D)), Ends rest → (x :: st).length + depL l ≤ 61 → ∃ k', pt (txtL l ++ rest) k (x :: st) = pt rest k' ((x ++ dL l) :: st)
  | [], h, rest, k, x, st, hr, hd => ⟨k, by simp [txtL, dL]⟩
  | [a], h, rest, k, x, st, hr, hd => by
    simp only [okL, Bool.and_true] at h
    simp only [depL] at hd
    obtain ⟨k', h'⟩ := pt_txt a h rest k x st hr (by omega)
    exact ⟨k', by simp only [txtL, dL]; exact h'⟩
  | a :: b :: r, h, rest, k, x, st, hr, hd => by
    rw [okL, Bool.and_eq_true] at h
    rw [depL] at hd
    obtain ⟨k1, h1⟩ := pt_txt a h.1 (32 :: (txtL (b :: r) ++ rest)) k x st (ends_p p32) (by omega)
    obtain ⟨k2, h2⟩ := pt_txtL (b :: r) h.2 rest (k1 + 1) (x ++ [a.d]) st hr (by simp only [List.length_cons] at hd ⊢; omega)
    refine ⟨k2, ?_⟩
    simp only [txtL, List.append_assoc, List.cons_append]
    rw [h1, pt_blk b32, h2]
    simp [dL]
end
mutual
theorem pt_deep : ∀ (d : Da), d.ok = true → ∀ (rest : List Nat) (k : Nat) (x : List D) (st : List (List D)), Ends rest → (x :: st).length ≤ 61 → 61 < (x :: st).length + d.dep → pt (d.txt ++ rest) k (x :: st) = .error ⟨"TooDeep", []⟩
  | .int i, h, rest, k, x, st, hr, hl, hd => by simp only [Da.dep] at hd; omega
  | .sym w, h, rest, k, x, st, hr, hl, hd => by simp only [Da.dep] at hd; omega
  | .lst l, h, rest, k, x, st, hr, hl, hd => by
    simp only [Da.ok] at h
    simp only [Da.dep] at hd
    simp only [Da.txt, List.cons_append, List.append_assoc, List.singleton_append]
    rw [pt_open]
    by_cases h1 : 60 < (x :: st).length
    · rw [if_pos h1]
    · rw [if_neg h1]
      exact pt_deepL l h (41 :: rest) (k + 1) [] (x :: st) (ends_p p41) (by simp only [List.length_cons] at h1 ⊢; omega) (by simp only [List.length_cons] at hd ⊢; omega)
theorem pt_deepL : ∀ (l : List Da), okL l = true → ∀ (rest : List Nat) (k : Nat) (x : List D) (st : List (List D)), Ends rest → (x :: st).length ≤ 61 → 61 < (x :: st).length + depL l → pt (txtL l ++ rest) k (x :: st) = .error ⟨"TooDeep", []⟩
  | [], h, rest, k, x, st, hr, hl, hd => by simp only [depL] at hd; omega
  | [a], h, rest, k, x, st, hr, hl, hd => by
    simp only [okL, Bool.and_true] at h
    simp only [depL] at hd
    simp only [txtL]
    exact pt_deep a h rest k x st hr hl (by omega)
  | a :: b :: r, h, rest, k, x, st, hr, hl, hd => by
    rw [okL, Bool.and_eq_true] at h
    rw [depL] at hd
    simp only [txtL, List.append_assoc, List.cons_append]
    by_cases ha : 61 < (x :: st).length + a.dep
    · exact pt_deep a h.1 _ k x st (ends_p p32) hl ha
    · obtain ⟨k1, h1⟩ := pt_txt a h.1 (32 :: (txtL (b :: r) ++ rest)) k x st (ends_p p32) (by omega)
      rw [h1, pt_blk b32]
      exact pt_deepL (b :: r) h.2 rest (k1 + 1) (x ++ [a.d]) st hr (by simp only [List.length_cons] at hl ⊢; omega) (by simp only [List.length_cons] at hd ha ⊢; omega)
end
/-! ### pieces -/
def feed : List (List Nat) → List (List D) → Option (List (List D))
  | [], st => some st
  | p :: ps, st => if p = [40] then (if 60 < st.length then none else feed ps ([] :: st)) else if p = [41] then (match st with
      | x :: y :: s => feed ps ((y ++ [.lst x]) :: s)
      | _ => none) else (match word p with
      | some d => feed ps (psh d st)
      | none => none)
theorem feed_app : ∀ (a b : List (List Nat)) (st : List (List D)), feed (a ++ b) st = (feed a st).bind (feed b)
  | [], b, st => rfl
  | p :: a, b, st => by
    rw [List.cons_append]
    unfold feed
    by_cases h1 : p = [40]
    · rw [if_pos h1, if_pos h1]
      split
      · rfl
      · exact feed_app a b _
    rw [if_neg h1, if_neg h1]
    by_cases h2 : p = [41]
    · rw [if_pos h2, if_pos h2]
      split
      · exact feed_app a b _
      · rfl
    rw [if_neg h2, if_neg h2]
    split
    · exact feed_app a b _
    · rfl
theorem np_ne {w : List Nat} (h : w.all (fun c => !prt c) = true) : w ≠ [40] ∧ w ≠ [41] := by
  refine ⟨fun e => ?_, fun e => ?_⟩ <;> subst e
  · exact absurd h (by decide +kernel)
  · exact absurd h (by decide +kernel)
mutual
theorem feed_pcs : ∀ (d : Da), d.ok = true → ∀ (ps : List (List Nat)) (x : List D) (st : List (List D)), (x :: st).length + d.dep ≤ 61 → feed (d.pcs ++ ps) (x :: st) = feed ps ((x ++ [d.d]) :: st)
  | .int i, h, ps, x, st, hd => by
    obtain ⟨h1, h2⟩ := int_np i
    obtain ⟨h3, h4⟩ := np_ne h2
    simp only [Da.pcs, List.singleton_append, feed, if_neg h3, if_neg h4, word_int (i := i) (by simpa [Da.ok] using h), psh, Da.d]
  | .sym w, h, ps, x, st, hd => by
    obtain ⟨h1, h2, h2'⟩ := word_sym (w := w) (by simpa [Da.ok] using h)
    obtain ⟨h3, h4⟩ := np_ne h2'
    simp only [Da.pcs, List.singleton_append, feed, if_neg h3, if_neg h4, h1, psh, Da.d]
  | .lst l, h, ps, x, st, hd => by
    simp only [Da.ok] at h
    simp only [Da.dep, List.length_cons] at hd
    have h1 := feed_pcsL l h ([41] :: ps) [] (x :: st) (by simp only [List.length_cons]; omega)
    simp only [Da.pcs, List.cons_append, List.append_assoc, List.singleton_append, List.nil_append]
    conv => lhs; unfold feed
    rw [if_pos rfl, if_neg (by simp only [List.length_cons]; omega), h1]
    conv => lhs; unfold feed
    rw [if_neg (by decide), if_pos rfl]
    simp [Da.d]
theorem feed_pcsL : ∀ (l : List Da), okL l = true → ∀ (ps : List (List Nat)) (x : List D) (st : List (List D)), (x :: st).length + depL l ≤ 61 → feed (pcsL l ++ ps) (x :: st) = feed ps ((x ++ dL l) :: st)
  | [], h, ps, x, st, hd => by simp [pcsL, dL]
  | a :: r, h, ps, x, st, hd => by
    rw [okL, Bool.and_eq_true] at h
    rw [depL] at hd
    simp only [pcsL, List.append_assoc]
    rw [feed_pcs a h.1 _ x st (by omega), feed_pcsL r h.2 ps _ st (by simp only [List.length_cons] at hd ⊢; omega)]
    simp [dL]
end
/-! ### laid out with gaps -/
structure Gp (g : List Nat) : Prop where
  pass : ∀ (rest : List Nat) (k : Nat) (st : List (List D)), ∃ k', pt (g ++ rest) k st = pt rest k' st
  first : ∀ c s, g = c :: s → prt c = true
theorem Gp.ends {g rest : List Nat} (h : Gp g) (hr : g ≠ [] ∨ Ends rest) : Ends (g ++ rest) := fun c s e => by
  cases g with
  | nil => exact (hr.resolve_left (fun q => q rfl)) c s e
  | cons x r =>
    cases e
    exact h.first _ _ rfl
def isB (p : List Nat) : Prop := p = [40] ∨ p = [41]
def okP (p : List Nat) : Prop := isB p ∨ (p ≠ [] ∧ p.all (fun c => !prt c) = true)
/-- the last row first -/
def flatR : List (List Nat × List Nat) → List Nat
  | [] => []
  | (g, p) :: r => flatR r ++ (g ++ p)
def lastB : List (List Nat × List Nat) → Prop
  | [] => True
  | (_, p) :: _ => isB p
def AdjR : List (List Nat × List Nat) → Prop
  | [] => True
  | (g, p) :: r => Gp g ∧ okP p ∧ (lastB r ∨ isB p ∨ g ≠ []) ∧ AdjR r
theorem psh_some {p : List Nat} {st st' : List (List D)} (h : feed [p] st = some st') (hw : p ≠ [] ∧ p.all (fun c => !prt c) = true) : ∃ d, word p = some d ∧ st' = psh d st := by
  obtain ⟨h1, h2⟩ := np_ne hw.2
  unfold feed at h
  rw [if_neg h1, if_neg h2] at h
  split at h
  · rename_i d hd
    unfold feed at h
    exact ⟨d, hd, (Option.some.inj h).symm⟩
  · cases h
theorem pt_piece {p rest : List Nat} {k : Nat} {st st' : List (List D)} (hp : okP p) (hr : isB p ∨ Ends rest) (h : feed [p] st = some st') : ∃ k', pt (p ++ rest) k st = pt rest k' st' := by
  rcases hp with hb | hw
  · rcases hb with e | e
    · subst e
      unfold feed at h
      rw [if_pos rfl] at h
      split at h
      · cases h
      · rename_i h60
        unfold feed at h
        rw [← Option.some.inj h]
        exact ⟨_, by rw [List.singleton_append, pt_open, if_neg h60]⟩
    · subst e
      unfold feed at h
      rw [if_neg (by decide), if_pos rfl] at h
      split at h
      · unfold feed at h
        rw [← Option.some.inj h]
        exact ⟨_, by rw [List.singleton_append, pt_close]⟩
      · cases h
  · obtain ⟨d, hd, rfl⟩ := psh_some h hw
    have hne := np_ne hw.2
    exact ⟨_, pt_word hw.1 hw.2 (hr.resolve_left fun q => q.elim hne.1 hne.2) hd⟩
theorem pt_flat : ∀ (r : List (List Nat × List Nat)) (rest : List Nat) (k : Nat) (st st' : List (List D)), AdjR r → (lastB r ∨ Ends rest) → feed (r.map (·.2)).reverse st = some st' → ∃ k', pt (flatR r ++ rest) k st = pt rest k' st'
  | [], rest, k, st, st', _, _, h => by
    simp only [List.map_nil, List.reverse_nil, feed, Option.some.injEq] at h
    subst h
    exact ⟨k, rfl⟩
  | (g, p) :: r, rest, k, st, st', ha, hl, h => by
    obtain ⟨hg, hp, hadj, har⟩ := ha
    rw [List.map_cons, List.reverse_cons, feed_app] at h
    cases h1 : feed (r.map (·.2)).reverse st with
    | none => rw [h1] at h; cases h
    | some st1 =>
      rw [h1] at h
      have h : feed [p] st1 = some st' := h
      have hend : lastB r ∨ Ends (g ++ (p ++ rest)) := by
        rcases hadj with q | q | q
        · exact .inl q
        · right
          refine hg.ends (.inr fun c s e => ?_)
          rcases q with q | q <;> subst q <;> cases e
          · exact p40
          · exact p41
        · exact .inr (hg.ends (.inl q))
      obtain ⟨k1, e1⟩ := pt_flat r (g ++ (p ++ rest)) k st st1 har hend h1
      obtain ⟨k2, e2⟩ := hg.pass (p ++ rest) k1 st1
      obtain ⟨k3, e3⟩ := pt_piece (k := k2) hp hl h
      exact ⟨k3, by simp only [flatR, List.append_assoc]; rw [e1, e2, e3]⟩
/-! ### the gaps of the law -/
theorem gp_nil : Gp [] := ⟨fun rest k st => ⟨k, rfl⟩, fun _ _ e => by cases e⟩
theorem gp_blk {c : Nat} (h : blk c = true) (hp : prt c = true) {g : List Nat} (hg : Gp g) : Gp (c :: g) := ⟨fun rest k st => by
  obtain ⟨k', e⟩ := hg.pass rest (k + 1) st
  exact ⟨k', by rw [List.cons_append, pt_blk h, e]⟩, fun _ _ e => by cases e; exact hp⟩
theorem gp_rem {s : List Nat} (h : 10 ∉ s) : Gp (59 :: (s ++ [10])) := ⟨fun rest k st => ⟨_, by
  have := pt_rem (r := rest) (k := k) (st := st) h
  simpa using this⟩, fun _ _ e => by cases e; exact p59⟩
/-- the text as a whole -/
theorem pt_laid {r : List (List Nat × List Nat)} {g0 gE rest : List Nat} {l : List Da} (hl : okL l = true) (hd : depL l ≤ 60) (h0 : Gp g0) (hE : Gp gE) (ha : AdjR r) (hp : (r.map (·.2)).reverse = pcsL l) (hr : Ends rest) : ∃ k', pt (g0 ++ (flatR r ++ (gE ++ rest))) 0 [[]] = pt rest k' [dL l] := by
  have hf : feed (r.map (·.2)).reverse [[]] = some [dL l] := by
    have := feed_pcsL l hl [] [] [] (by simp only [List.length_cons, List.length_nil]; omega)
    rw [List.append_nil] at this
    rw [hp, this]
    rfl
  obtain ⟨k1, e1⟩ := h0.pass (flatR r ++ (gE ++ rest)) 0 [[]]
  obtain ⟨k2, e2⟩ := pt_flat r (gE ++ rest) k1 [[]] [dL l] ha (.inr (hE.ends (.inr hr))) hf
  obtain ⟨k3, e3⟩ := hE.pass rest k2 [dL l]
  exact ⟨k3, by rw [e1, e2, e3]⟩
end Z

set_option maxRecDepth 100000
set_option maxHeartbeats 4000000
namespace Z
open PySem PySem.Spec PyProof.Rows L2 ErrX TL
/-! ### the law's own words -/
theorem lc_flt {g : ZG} {c : ZB} {e : ZT} {ρ : Sl} {q : ZQ} {μ : Mu} {p : Nat → Bool} (h : ∀ (x : Nat) (acc ds : List D), zLcL g c e ρ q (if p x then acc ++ [.str (mk [x])] else acc) ds μ → zLcL g c e ρ q acc (.str (mk [x]) :: ds) μ) : ∀ (w : List Nat) (acc : List D), q (.lst (acc ++ (w.filter p).map fun x => D.str (mk [x]))) μ → zLcL g c e ρ q acc (w.map fun c => D.str (mk [c])) μ
  | [], acc, hq => by simpa [zLcL] using hq
  | x :: w, acc, hq => by
    rw [List.map_cons]
    refine h x _ _ (lc_flt h w _ ?_)
    cases hp : p x with
    | true => rw [List.filter_cons_of_pos hp] at hq; simpa using hq
    | false => rw [List.filter_cons_of_neg (by simp [hp])] at hq; simpa using hq
theorem flt_all {p : Nat → Bool} (w : List Nat) : decide (((w.filter fun c => !p c).length : Int) = 0) = w.all p := by
  induction w with
  | nil => rfl
  | cons c r ih =>
    cases hd : p c with
    | true => rw [List.filter_cons_of_neg (by simp [hd]), ih, List.all_cons, hd]; rfl
    | false =>
      rw [List.filter_cons_of_pos (by simp [hd]), List.all_cons, hd]
      exact decide_eq_false (by simp only [List.length_cons]; omega)
theorem flt_pos {p : Nat → Bool} (w : List Nat) : decide (0 < ((w.filter fun c => !p c).length : Int)) = !w.all p := by
  rw [← flt_all]
  by_cases h : ((w.filter fun c => !p c).length : Int) = 0
  · rw [decide_eq_true h, decide_eq_false (by omega)]; rfl
  · rw [decide_eq_false h, decide_eq_true (by omega)]; rfl
def lAll : Str := "abcdefghijklmnopqrstuvwxyzABCDEFGHIJKLMNOPQRSTUVWXYZ0123456789-+*<=?!."
theorem lAll_mst (c : Nat) : decide (c ∈ tl lAll) = mst c := by
  have e : tl lAll = tl lLet ++ (tl lDig ++ tl lSig) := by decide +kernel
  rw [e, mst, dg, ← Bool.decide_or, ← Bool.decide_or]
  exact decide_eq_decide.mpr (by rw [List.mem_append, List.mem_append])
def wdD (w : List Nat) : D := match word w with
  | some d => d
  | none => .non
theorem wdD_none {w : List Nat} (h : word w = none) : wdD w = .non := by unfold wdD; rw [h]
theorem wdD_some {w : List Nat} {d : D} (h : word w = some d) : wdD w = d := by unfold wdD; rw [h]
def Slnum : Zp := fun ds μ q e => ∃ w : List Nat, ds = [.str (mk w)] ∧ w.length ≤ 1000 ∧ q (.bl (num w)) μ
theorem lnum_ok {ds : List D} {μ : Mu} {q : ZQ} {e : ZX} (h : Slnum ds μ q e) : zBody 3 z__law_is_numeral ds μ q e := by
  obtain ⟨w, rfl, hl0, h⟩ := h
  have hsz : (1000 : Nat) ≤ sizeLine := by rw [PySem.sizeLine_eq]; decide
  have hl : w.length ≤ sizeLine := by omega
  unfold z__law_is_numeral
  have hl2 : (mk w).length ≤ sizeLine := by rw [len_mk]; exact hl
  have rest : ∀ d : List Nat, d.length ≤ sizeLine → q (.bl (!d.isEmpty && d.all dg)) μ → (zRet (zAndV (zOp zNe (zVar 1) (zC (.str ""))) (zOp zEq (zCB zLen (zCons (zLc (ziSeq (zVar 1)) (zgName 2) (zTst (zOp zNotIn (zVar 2) (zC (.str "0123456789")))) (zVar 2) [2]) zNil)) (zC (.int 0))))) { nx := fun _ μ' => q .non μ', rt := q, ex := fun r _ μ' => e r μ' } [some (.str (mk w)), some (.str (mk d)), none] μ := by
    intro d hd hq
    have e1 : decide (mk d = Str.ofString "") = d.isEmpty := by
      rw [show Str.ofString "" = mk [] from rfl, dec_mk]
      cases d <;> rfl
    ((conv => whnf); (repeat ((first | rw [e1]); (conv => whnf))))
    cases hE : d.isEmpty with
    | true => rw [hE] at hq; exact hq
    | false =>
      rw [hE] at hq
      (conv => whnf)
      refine ⟨?_, ?_⟩
      · show (List.map _ (mk d).cps.toList).length ≤ sizeLine
        rw [List.length_map]; exact hd
      refine lc_flt (p := fun c => !dg c) (fun c acc ds hh => ?_) d [] ?_
      · have e2 : strIn (mk [c]) (Str.ofString "0123456789") = dg c := rfl
        ((conv => whnf); (repeat ((first | rw [e2]); (conv => whnf))))
        cases hdg : dg c with
        | true => rw [hdg] at hh; exact hh
        | false => rw [hdg] at hh; exact hh
      · have e3 : (List.map (fun x => D.str (mk [x])) (List.filter (fun c => !dg c) d)).length = (d.filter fun c => !dg c).length := List.length_map ..
        rw [List.nil_append]
        (conv => whnf)
        show q (.bl (decide (((List.map (fun x => D.str (mk [x])) (List.filter (fun c => !dg c) d)).length : Int) = 0))) μ
        rw [e3, flt_all]
        exact hq
  unfold num at h
  have e1 := cut_h w
  have e2 := cut_1 w
  (conv => whnf)
  refine ⟨hl2, ?_⟩
  ((conv => whnf); (repeat ((first | rw [e1]); (conv => whnf))))
  refine .inl ⟨rfl, rfl, ?_⟩
  cases w with
  | nil => exact rest [] hl h
  | cons c r =>
    have d1 : inF (D.str (mk ((c :: r).take 1))) [.str (Str.ofString "-"), .str (Str.ofString "+")] = decide (c = 45 ∨ c = 43) := by
      show inF (D.str (mk [c])) _ = _
      by_cases h1 : c = 45
      · subst h1; decide +kernel
      by_cases h2 : c = 43
      · subst h2; decide +kernel
      rw [decide_eq_false (fun hh => hh.elim h1 h2)]
      have q1 : ¬ (mk [c] = Str.ofString "-") := fun hh => by
        have := mk_inj (hh.trans (show Str.ofString "-" = mk [45] from rfl))
        exact h1 (List.cons.inj this).1
      have q2 : ¬ (mk [c] = Str.ofString "+") := fun hh => by
        have := mk_inj (hh.trans (show Str.ofString "+" = mk [43] from rfl))
        exact h2 (List.cons.inj this).1
      simp [inF, List.any, Ne.symm q1, Ne.symm q2, eqF]
    ((conv => whnf); (repeat ((first | rw [d1]); (conv => whnf))))
    rw [dgs_cons] at h
    by_cases h1 : c = 45 ∨ c = 43
    · rw [decide_eq_true h1]
      rw [if_pos h1] at h
      (conv => whnf)
      refine ⟨hl2, ?_⟩
      rw [e2]
      exact rest r (by simp only [List.length_cons] at hl; omega) h
    · rw [decide_eq_false h1]
      rw [if_neg h1] at h
      exact rest (c :: r) hl h
/-! ### replaced -/
theorem repl_one (c : Nat) : ∀ l : List Nat, StrLaws.replL [c] [] l = l.filter fun x => x != c
  | [] => StrLaws.replL_nil
  | x :: r => by
    by_cases h : x = c
    · subst h
      rw [StrLaws.replL_hit (by simp) (by simp), List.filter_cons_of_neg (by simp)]
      simp only [List.length_singleton, List.drop_succ_cons, List.drop_zero, List.nil_append]
      exact repl_one x r
    · rw [StrLaws.replL_miss (by simpa using h), List.filter_cons_of_pos (by simpa using h), repl_one c r]
theorem repl_mk (c : Nat) (l : List Nat) : Txt.replace (mk l) (mk [c]) (mk []) = mk (l.filter fun x => x != c) := by
  rw [← mk_of (Txt.replace (mk l) (mk [c]) (mk []))]
  refine congrArg mk ?_
  have := StrLaws.replace_list (x := mk l) (y := mk [c]) (z := mk []) (Nat.le_refl 1)
  exact this.trans (repl_one c l)
theorem flt_digs {d : List Nat} (h : d.all dg = true) {c : Nat} (hc : dg c = false) : d.filter (fun x => x != c) = d := List.filter_eq_self.mpr fun x hx => by
  have := List.all_eq_true.mp h x hx
  simp only [bne_iff_ne, ne_eq]
  intro e
  rw [e, hc] at this
  cases this
theorem flt_num {w : List Nat} (h : num w = true) : (w.filter fun x => x != 45).filter (fun x => x != 43) = dgs w := by
  unfold num at h
  rw [Bool.and_eq_true] at h
  have d45 : dg 45 = false := by decide +kernel
  have d43 : dg 43 = false := by decide +kernel
  cases w with
  | nil => rfl
  | cons c r =>
    rw [dgs_cons] at h ⊢
    by_cases h1 : c = 45 ∨ c = 43
    · rw [if_pos h1] at h ⊢
      rcases h1 with rfl | rfl
      · rw [List.filter_cons_of_neg (by decide), flt_digs h.2 d45, flt_digs h.2 d43]
      · rw [List.filter_cons_of_pos (by decide), flt_digs h.2 d45, List.filter_cons_of_neg (by decide), flt_digs h.2 d43]
    · rw [if_neg h1] at h ⊢
      rw [flt_digs h.2 d45, flt_digs h.2 d43]
def Sdue : Zp := fun ds μ q e => ∃ w : List Nat, ds = [.str (mk w)] ∧ w ≠ [] ∧ w.length ≤ 1000 ∧ q (wdD w) μ
theorem due_ok {ds : List D} {μ : Mu} {q : ZQ} {e : ZX} (h : Sdue ds μ q e) : zBody 4 (z__law_due Slnum) ds μ q e := by
  obtain ⟨w, rfl, hne, hl0, h⟩ := h
  have hsz : (1000000 : Nat) ≤ sizeLine := by rw [PySem.sizeLine_eq]; decide
  have hl : w.length ≤ sizeLine := by omega
  have hl2 : (mk w).length ≤ sizeLine := by rw [len_mk]; exact hl
  have e1 := cut_1 w
  obtain ⟨c, r, rfl⟩ : ∃ c r, w = c :: r := by cases w with
    | nil => exact absurd rfl hne
    | cons c r => exact ⟨c, r, rfl⟩
  have i0 : atI (mk (c :: r)).cps.toList 0 = some c := atI_cast (n := 0)
  -- a symbol, or none
  have rest2 : ∀ o, num (c :: r) = false → (zSeq (zIfS (zTst (zOp zGt (zCB zLen (zCons (zLc (ziSeq (zVar 0)) (zgName 3) (zTst (zOp zNotIn (zVar 3) (zVar 2))) (zVar 3) [3]) zNil)) (zC (.int 0)))) (zRet (zC .non)) zNext) (zRet (zVar 0)))
      { nx := fun _ μ' => q .non μ', rt := q, ex := fun r _ μ' => e r μ' } [some (.str (mk (c :: r))), o, some (.str lAll), none] μ := by
    intro o hN
    (conv => whnf)
    refine ⟨?_, ?_⟩
    · show (List.map _ (mk (c :: r)).cps.toList).length ≤ sizeLine
      rw [List.length_map]; exact hl
    refine lc_flt (p := fun c => !mst c) (fun x acc ds hh => ?_) (c :: r) [] ?_
    · have e2 : strIn (mk [x]) lAll = mst x := (strIn1 x lAll).trans (lAll_mst x)
      ((conv => whnf); (repeat ((first | rw [e2]); (conv => whnf))))
      cases hm : mst x with
      | true => rw [hm] at hh; exact hh
      | false => rw [hm] at hh; exact hh
    · have e3 : (List.map (fun x => D.str (mk [x])) (List.filter (fun c => !mst c) (c :: r))).length = ((c :: r).filter fun c => !mst c).length := List.length_map ..
      have e4 : decide (0 < ((List.map (fun x => D.str (mk [x])) (List.filter (fun c => !mst c) (c :: r))).length : Int)) = !(c :: r).all mst := by rw [e3, flt_pos]
      rw [List.nil_append]
      (conv => whnf)
      rw [show (fun i j : Int => decide (j < i)) ((List.map (fun x => D.str (mk [x])) (List.filter (fun c => !mst c) (c :: r))).length : Int) 0 = !(c :: r).all mst from e4]
      have ew : word (c :: r) = if (c :: r).all mst then some (.str (mk (c :: r))) else none := by
        unfold word sym
        rw [hN]
        simp
      cases hA : (c :: r).all mst with
      | true =>
        rw [hA, if_pos rfl] at ew
        rw [wdD_some ew] at h
        exact h
      | false =>
        rw [hA, if_neg (by simp)] at ew
        rw [wdD_none ew] at h
        exact h
  have e1 := repl_mk 45 (c :: r)
  have e2 := repl_mk 43 ((c :: r).filter fun x => x != 45)
  unfold z__law_due
  (conv => whnf)
  refine ⟨c :: r, rfl, hl0, ?_⟩
  cases hN : num (c :: r) with
  | false =>
    (conv => whnf)
    exact rest2 _ hN
  | true =>
    have eF := flt_num hN
    (conv => whnf)
    have hlf : ((c :: r).filter fun x => x != 45).length ≤ 1000 := Nat.le_trans (List.length_filter_le ..) hl0
    have z0 : (Str.ofString "").length = 0 := rfl
    refine ⟨by rw [len_mk, z0]; omega, ?_⟩
    rw [show Txt.replace (mk (c :: r)) (Str.ofString "-") (Str.ofString "") = mk ((c :: r).filter fun x => x != 45) from e1]
    (conv => whnf)
    refine ⟨by rw [len_mk, z0]; omega, ?_⟩
    rw [show Txt.replace (mk ((c :: r).filter fun x => x != 45)) (Str.ofString "+") (Str.ofString "") = mk (((c :: r).filter fun x => x != 45).filter fun x => x != 43) from e2, eF]
    have hd0 : ∃ d, d = dgs (c :: r) := ⟨_, rfl⟩
    obtain ⟨d, hd⟩ := hd0
    rw [← hd]
    have hdl : d.length ≤ (c :: r).length := by
      rw [hd, dgs_cons]
      split
      · simp
      · exact Nat.le_refl _
    have hdl2 : (mk d).length ≤ sizeLine := by rw [len_mk]; omega
    have hE : d.isEmpty = false := by
      have := hN
      unfold num at this
      rw [← hd, Bool.and_eq_true] at this
      simpa using this.1
    have d43 : decide ((⟨#[c]⟩ : Str) = Str.ofString "+") = decide (c = 43) := by
      rw [show (⟨#[c]⟩ : Str) = mk [c] from rfl, show Str.ofString "+" = mk [43] from rfl, dec_mk]
      simp
    have ew : word (c :: r) = if badN (c :: r) then none else (intText? (mk (c :: r))).map .int := by
      unfold word
      rw [hN, if_pos rfl]
    have bad : badN (c :: r) = true → q .non μ := fun hb => by
      rw [hb, if_pos rfl] at ew
      rw [wdD_none ew] at h
      exact h
    have eL : lenD (.str (mk d)) μ = some d.length := by
      simp only [lenD, len_mk]
      rw [if_pos (by omega)]
    ((conv => whnf); (repeat ((first | rw [i0]); (conv => whnf))))
    refine ⟨hl2, ?_⟩
    (conv => whnf)
    rw [d43]
    by_cases h43 : c = 43
    · rw [decide_eq_true h43]
      refine bad ?_
      unfold badN
      simp [h43]
    rw [decide_eq_false h43]
    have hf : fgs (c :: r) = d := by
      rw [hd, dgs_cons, fgs_cons]
      by_cases h45 : c = 45
      · rw [if_pos h45, if_pos (.inl h45)]
      · rw [if_neg h45, if_neg (fun hh => hh.elim h45 h43)]
    cases d with
    | nil => simp at hE
    | cons c2 r2 =>
      have fin : badN (c :: r) = false → (zRet (zCB zToInt (zCons (zVar 0) zNil))) { nx := fun _ μ' => q .non μ', rt := q, ex := fun r _ μ' => e r μ' } [some (.str (mk (c :: r))), some (.str (mk (c2 :: r2))), none, none] μ := fun hbn => by
        obtain ⟨n, hn⟩ := int_word hN hbn
        rw [hbn, if_neg (by simp), hn] at ew
        rw [wdD_some ew] at h
        ((conv => whnf); (repeat ((first | rw [hn]); (conv => whnf))))
        refine ⟨?_, h⟩
        rw [len_mk]
        have h5 : (c :: r).length ≤ (fgs (c :: r)).length + 1 := by
          rw [fgs_cons]
          split
          · simp
          · omega
        have h6 : (fgs (c :: r)).length ≤ 40 := by
          unfold badN at hbn
          simp only [Bool.or_eq_false_iff, decide_eq_false_iff_not] at hbn
          omega
        omega
      have i2 : atI (mk (c2 :: r2)).cps.toList 0 = some c2 := atI_cast (n := 0)
      have d3 : decide ((⟨#[c2]⟩ : Str) = Str.ofString "0") = decide (c2 = 48) := by
        rw [show (⟨#[c2]⟩ : Str) = mk [c2] from rfl, show Str.ofString "0" = mk [48] from rfl, dec_mk]
        simp
      have d4 : decide (mk (c :: r) = Str.ofString "0") = decide (c :: r = [48]) := by
        rw [show Str.ofString "0" = mk [48] from rfl, dec_mk]
      have eb : badN (c :: r) = (decide (40 < (c2 :: r2).length) || (decide (c2 = 48) && !decide (c :: r = [48]))) := by
        unfold badN
        rw [hf, decide_eq_false (show ¬ (c :: r).head? = some 43 by simpa using h43)]
        simp
      ((conv => whnf); (repeat ((first | rw [eL]); (conv => whnf))))
      split
      · rename_i hh
        have hh : (40 : Int) < ((c2 :: r2).length : Int) := of_decide_eq_true hh
        refine bad ?_
        rw [eb, decide_eq_true (by omega)]; rfl
      · rename_i hh
        have hh : ¬ (40 : Int) < ((c2 :: r2).length : Int) := of_decide_eq_false hh
        rw [decide_eq_false (by omega), Bool.false_or] at eb
        ((conv => whnf); (repeat ((first | rw [i2]); (conv => whnf))))
        refine ⟨hdl2, ?_⟩
        (conv => whnf)
        rw [d3]
        by_cases h48 : c2 = 48
        · rw [decide_eq_true h48] at eb ⊢
          ((conv => whnf); (repeat ((first | rw [d4]); (conv => whnf))))
          by_cases hw : c :: r = [48]
          · rw [decide_eq_true hw] at eb ⊢
            exact fin eb
          · rw [decide_eq_false hw] at eb ⊢
            exact bad eb
        · rw [decide_eq_false h48] at eb ⊢
          exact fin eb
end Z

set_option maxRecDepth 100000
set_option maxHeartbeats 4000000
namespace Z
open PySem PySem.Spec PyProof.Rows L2 ErrX TL
/-! ### words that are drawn -/
def Smk (P : D → Prop) : Zp := fun ds μ q _ => ∃ s c, ds = [.ref s] ∧ StAt s c μ ∧ Makes s c μ P q
theorem atI_mem {α : Type} {xs : List α} {i : Int} (h0 : 0 ≤ i) (h1 : i < xs.length) : ∃ d, atI xs i = some d ∧ d ∈ xs := by
  have e : i = ((i.toNat : Nat) : Int) := by omega
  rw [e, atI_cast]
  exact ⟨xs[i.toNat]'(by omega), List.getElem?_eq_getElem _, List.getElem_mem _⟩
theorem atI_map {α β : Type} (f : α → β) (xs : List α) (i : Int) : atI (xs.map f) i = (atI xs i).map f := by
  unfold atI
  rw [List.length_map]
  cases ixN xs.length i with
  | none => rfl
  | some j => simp
theorem add_mk (a b : List Nat) : mk a ++ mk b = mk (a ++ b) := by
  rw [← mk_of (mk a ++ mk b), tl_append]; rfl
theorem strsOf_map {α : Type} (f : α → Str) : ∀ l : List α, strsOf (l.map fun a => D.str (f a)) = some (l.map f)
  | [] => rfl
  | a :: r => by simp only [List.map_cons, strsOf, strOf, strsOf_map f r]
theorem strsOf_mk (ss : List (List Nat)) : strsOf (ss.map fun s => D.str (mk s)) = some (ss.map mk) := strsOf_map mk ss
theorem tl_mk (ss : List (List Nat)) : (ss.map mk).map tl = ss := by
  rw [List.map_map]
  have : (tl ∘ mk) = id := rfl
  rw [this, List.map_id]
theorem joinL_nil : ∀ ss : List (List Nat), joinL [] ss = ss.flatten
  | [] => rfl
  | [p] => by simp [joinL]
  | p :: q :: r => by rw [joinL, joinL_nil (q :: r)]; rfl
theorem joinE (ss : List (List Nat)) : Txt.join (Str.ofString "") (ss.map mk) = mk ss.flatten := by
  rw [join_eq, ← mk_of (Str.join _ _), tl_join, tl_mk]
  exact congrArg mk (joinL_nil ss)
theorem sum_len (ss : List (List Nat)) : ((ss.map mk).map (·.length)).sum = ss.flatten.length := by
  induction ss with
  | nil => rfl
  | cons a r ih => simp only [List.map_cons, List.sum_cons, len_mk, ih, List.flatten_cons, List.length_append]
theorem intL_len {i : Int} (h : i.natAbs < 10 ^ 40) : (intL i).length ≤ 41 := by
  cases i with
  | ofNat n =>
    have e0 : intL (Int.ofNat n) = numL n := intL_nat n
    have : (numL n).length ≤ 40 := numL_len (by decide) (by simpa using h)
    rw [e0]; omega
  | negSucc m =>
    have : (numL (m + 1)).length ≤ 40 := numL_len (by decide) (by simpa using h)
    rw [intL_neg, List.length_cons]; omega
def np (w : List Nat) : Prop := w.all (fun c => !prt c) = true
theorem np.app {a b : List Nat} (h1 : np a) (h2 : np b) : np (a ++ b) := by
  unfold np at *
  rw [List.all_append, h1, h2]; rfl
def Pwd (d : D) : Prop := ∃ w : List Nat, d = .str (mk w) ∧ w ≠ [] ∧ w.length ≤ 100 ∧ np w
theorem atI_strs {xs : List (List Nat)} {i : Int} (h0 : 0 ≤ i) (h1 : i < xs.length) : ∃ s ∈ xs, atI (xs.map fun s => D.str (mk s)) i = some (.str (mk s)) := by
  obtain ⟨d, ed, hd⟩ := atI_mem h0 h1
  exact ⟨d, hd, by rw [atI_map, ed]; rfl⟩
theorem mul_ok {x : Str} {n : Int} (h1 : x.length = 1) (h2 : n ≤ 100) (h0 : 0 ≤ n) : MulOk x n := by
  have hsz : (1000 : Nat) ≤ sizeLine := by rw [PySem.sizeLine_eq]; decide
  refine ⟨?_, fun h3 h4 => ?_, fun h3 h4 => ?_⟩
  · rw [decide_eq_false (by omega), decide_eq_false (by omega)]; rfl
  · rw [h1]
    have : 1 ≤ (2 ^ 63 - 1) / n := by
      rw [Int.le_ediv_iff_mul_le (by omega)]
      omega
    omega
  · rw [h1, Nat.one_mul]
    show decide (n.toNat > sizeLine) = false
    exact decide_eq_false (by omega)
theorem mul_one (c : Nat) (n : Int) : Txt.mul (mk [c]) n = mk (List.replicate n.toNat c) := by
  rw [← mk_of (Txt.mul (mk [c]) n)]
  exact congrArg mk (mul_one_list c n)
/-- signs drawn one by one -/
theorem row_ok {s c : Addr} {xs : List Nat} {m : Nat} {n : Int} {g : ZG} {e : ZT} {ρ : Sl} {q : ZQ} {μ : Mu} (hm : n = (m : Int)) (st : StAt s c μ) 
    (hstep : ∀ (d : D) (μ1 : Mu) (q1 : ZQ), StAt s c μ1 → (∀ (x : Nat) (μ2 : Mu), x ∈ xs → StAt s c μ2 → Fr s c μ1 μ2 → q1 (.str (mk [x])) μ2) → g d ρ μ1 fun ρ2 μ2 => e ρ2 μ2 q1 (fun _ _ => False))
    (hq : ∀ (w : List Nat) (μ1 : Mu), w.length = m → (∀ x ∈ w, x ∈ xs) → StAt s c μ1 → Fr s c μ μ1 → q (.lst (w.map fun x => D.str (mk [x]))) μ1) : zLcL g zYes e ρ q [] ((List.range n.toNat).map fun (i : Nat) => D.int (0 + (i : Int))) μ := by
  subst hm
  refine lc_inv (Inv := fun i acc μ' => StAt s c μ' ∧ Fr s c μ μ' ∧ ∃ w : List Nat, acc = w.map (fun x => D.str (mk [x])) ∧ w.length = i ∧ ∀ x ∈ w, x ∈ xs) ⟨st, Fr.refl, [], rfl, rfl, by simp⟩ ?_ ?_
  · rintro i d acc μ1 K _ ⟨st1, f1, w, rfl, hi, hb⟩ hK
    have := hstep d μ1 (fun y μ4 => K (w.map (fun x => D.str (mk [x])) ++ [y]) μ4) st1 fun x μ2 hx st2 f2 => hK _ _ ⟨st2, f1.trans f2, w ++ [x], by simp, by simp [hi], fun y hy => by
      rcases List.mem_append.mp hy with hy | hy
      · exact hb y hy
      · rw [List.mem_singleton.mp hy]; exact hx⟩
    exact this
  · rintro acc μ1 ⟨st1, f1, w, rfl, hi, hb⟩
    exact hq w μ1 (by simpa using hi) hb st1 f1
theorem flat_one (w : List Nat) : (w.map fun x => [x]).flatten = w := by
  induction w with
  | nil => rfl
  | cons a r ih => rw [List.map_cons, List.flatten_cons, ih]; rfl
def aSg : List Nat := tl (Str.ofString "abcxyzABCXYZ0123456789-+*<=?!.")
def aDg : List Nat := tl (Str.ofString "0123456789")
def aOt : List Nat := tl (Str.ofString "#@$&'\",/:>[]{}^_`|~\\\t")
theorem aSg_np : np aSg := by unfold np; decide +kernel
theorem aDg_np : np aDg := by unfold np; decide +kernel
theorem aOt_np : np aOt := by unfold np; decide +kernel
theorem np_sub {w xs : List Nat} (h : np xs) (hw : ∀ x ∈ w, x ∈ xs) : np w := by
  unfold np at *
  rw [List.all_eq_true] at h ⊢
  exact fun x hx => h x (hw x hx)
theorem np_dg {w : List Nat} (h : ∀ x ∈ w, x = 48) : np w := by
  unfold np
  rw [List.all_eq_true]
  intro x hx
  rw [h x hx]
  decide +kernel
end Z

set_option maxRecDepth 100000
set_option maxHeartbeats 4000000
namespace Z
open PySem PySem.Spec PyProof.Rows L2 ErrX TL
theorem cutS_lo {l : List Nat} {i : Nat} : cutS (mk l) (some (i : Int)) none = mk (l.drop i) := by
  have e2 : HT.sIx l.length l.length none = l.length := rfl
  unfold cutS
  rw [len_mk, HT.sIx_nat, e2]
  show mk ((l.drop (min i l.length)).take (l.length - min i l.length)) = _
  congr 1
  rw [List.take_of_length_le (by rw [List.length_drop]; exact Nat.le_refl _)]
  by_cases h : i ≤ l.length
  · rw [Nat.min_eq_left h]
  · rw [Nat.min_eq_right (by omega), List.drop_of_length_le (Nat.le_refl _), List.drop_of_length_le (by omega)]
theorem cutS_hi {l : List Nat} {i : Nat} : cutS (mk l) none (some (i : Int)) = mk (l.take i) := by
  have e2 : HT.sIx l.length 0 none = 0 := rfl
  unfold cutS
  rw [len_mk, HT.sIx_nat, e2]
  show mk ((l.drop 0).take (min i l.length - 0)) = _
  congr 1
  rw [List.drop_zero, Nat.sub_zero]
  by_cases h : i ≤ l.length
  · rw [Nat.min_eq_left h]
  · rw [Nat.min_eq_right (by omega), List.take_of_length_le (Nat.le_refl _), List.take_of_length_le (by omega)]
theorem word_ok {ds : List D} {μ : Mu} {q : ZQ} {e : ZX} (h : Smk Pwd ds μ q e) : zBody 9 (z__law_word Stake) ds μ q e := by
  obtain ⟨s, c, rfl, st, k⟩ := h
  have hsz : (1000 : Nat) ≤ sizeLine := by rw [PySem.sizeLine_eq]; decide
  have nil0 : (Str.ofString "") = mk [] := rfl
  unfold z__law_word
  (conv => whnf)
  refine ⟨s, c, 8, rfl, by decide, by decide, st, ?_⟩
  rintro _ μ1 ⟨pk, rfl, p0, p1⟩ st1 f1
  (conv => whnf)
  split
  · (conv => whnf)
    refine ⟨s, c, 3, rfl, by decide, by decide, st1, ?_⟩
    rintro _ μ2 ⟨i, rfl, i0, i1⟩ st2 f2
    obtain ⟨x, hx, ex⟩ := atI_strs (xs := [[], [45], [43]]) i0 (by simpa using i1)
    have ex : atI [D.str (Str.ofString ""), .str (Str.ofString "-"), .str (Str.ofString "+")] i = some (.str (mk x)) := ex
    have hxl : x.length ≤ 1 := by
      simp only [List.mem_cons, List.not_mem_nil, or_false] at hx
      rcases hx with rfl | rfl | rfl <;> simp
    have hxn : np x := by
      simp only [List.mem_cons, List.not_mem_nil, or_false] at hx
      unfold np
      rcases hx with rfl | rfl | rfl <;> decide +kernel
    ((conv => whnf); (repeat ((first | rw [ex]); (conv => whnf))))
    refine ⟨s, c, 3, rfl, by decide, by decide, st2, ?_⟩
    rintro _ μ3 ⟨j, rfl, j0, j1⟩ st3 f3
    (conv => whnf)
    refine ⟨mul_ok (by decide +kernel) (by omega) j0, ?_⟩
    rw [show Txt.mul (Str.ofString "0") j = mk (List.replicate j.toNat 48) from mul_one 48 j]
    (conv => whnf)
    refine ⟨by rw [len_mk, len_mk, List.length_replicate]; omega, ?_⟩
    rw [add_mk]
    (conv => whnf)
    refine ⟨s, c, 1000, rfl, by decide, by decide, st3, ?_⟩
    rintro _ μ4 ⟨n, rfl, n0, n1⟩ st4 f4
    have hn : n.natAbs < 10 ^ 40 := Nat.lt_trans (show n.natAbs < 1000 by omega) (by decide)
    have hnl := intL_len hn
    (conv => whnf)
    refine ⟨?_, ?_⟩
    · have := PySem.Flt.log2_lt_of (k := 200) (by decide) (show n.natAbs < 2 ^ 200 from Nat.lt_trans hn (by decide))
      omega
    rw [show (Str.ofString (toString n) : Str) = mk (intL n) from (mk_of _).symm]
    (conv => whnf)
    refine ⟨by rw [len_mk, len_mk, List.length_append, List.length_replicate]; omega, ?_⟩
    rw [add_mk]
    obtain ⟨g1, g2⟩ := int_np n
    refine k _ _ ⟨_, rfl, ?_, ?_, ?_⟩ st4 (f1.trans (f2.trans (f3.trans f4)))
    · simp [g1]
    · simp only [List.length_append, List.length_replicate]; omega
    · exact (hxn.app (np_dg fun y hy => (List.mem_replicate.mp hy).2)).app g2
  (conv => whnf)
  split
  · (conv => whnf)
    refine ⟨s, c, 4, rfl, by decide, by decide, st1, ?_⟩
    rintro _ μ2 ⟨i, rfl, i0, i1⟩ st2 f2
    (conv => whnf)
    refine ⟨by omega, by omega, ?_⟩
    refine ⟨by simp; omega, ?_⟩
    refine row_ok (m := (39 + i).toNat) (xs := aDg) (by omega) st2 (fun d μ3 q1 st3 hk => ?_) fun w μ3 hl hw st3 f3 => ?_
    · (conv => whnf)
      refine ⟨s, c, 10, rfl, by decide, by decide, st3, ?_⟩
      rintro _ μ4 ⟨j, rfl, j0, j1⟩ st4 f4
      obtain ⟨x, ex, hx⟩ := atI_mem (xs := aDg) j0 (by show j < 10; exact j1)
      have ex : atI (Str.ofString "0123456789").cps.toList j = some x := ex
      ((conv => whnf); (repeat ((first | rw [ex]); (conv => whnf))))
      refine ⟨by show 10 ≤ sizeLine; omega, ?_⟩
      exact hk x μ4 hx st4 f4
    have hwl : w.length ≤ 42 := by omega
    have e1 := strsOf_mk (w.map fun x => [x])
    rw [List.map_map] at e1
    have e1 : strsOf (w.map fun x => D.str (mk [x])) = some ((w.map fun x => [x]).map mk) := e1
    ((conv => whnf); (repeat ((first | rw [e1]); (conv => whnf))))
    refine ⟨?_, ?_⟩
    · rw [sum_len, flat_one, nil0, len_mk]
      simp
      omega
    rw [joinE, flat_one]
    (conv => whnf)
    refine ⟨s, c, 2, rfl, by decide, by decide, st3, ?_⟩
    rintro _ μ4 ⟨j, rfl, j0, j1⟩ st4 f4
    obtain ⟨x, hx, ex⟩ := atI_strs (xs := [[], [45]]) j0 (by simpa using j1)
    have ex : atI [D.str (Str.ofString ""), .str (Str.ofString "-")] j = some (.str (mk x)) := ex
    have hxl : x.length ≤ 1 := by
      simp only [List.mem_cons, List.not_mem_nil, or_false] at hx
      rcases hx with rfl | rfl <;> simp
    have hxn : np x := by
      simp only [List.mem_cons, List.not_mem_nil, or_false] at hx
      unfold np
      rcases hx with rfl | rfl <;> decide +kernel
    ((conv => whnf); (repeat ((first | rw [ex]); (conv => whnf))))
    refine ⟨s, c, 9, rfl, by decide, by decide, st4, ?_⟩
    rintro _ μ5 ⟨n, rfl, n0, n1⟩ st5 f5
    have hn : (1 + n).natAbs < 10 ^ 40 := Nat.lt_trans (show (1 + n).natAbs < 1000 by omega) (by decide)
    have hnl := intL_len hn
    (conv => whnf)
    refine ⟨?_, ?_⟩
    · have := PySem.Flt.log2_lt_of (k := 200) (by decide) (show (1 + n).natAbs < 2 ^ 200 from Nat.lt_trans hn (by decide))
      omega
    rw [show (Str.ofString (toString (1 + n)) : Str) = mk (intL (1 + n)) from (mk_of _).symm]
    (conv => whnf)
    refine ⟨by rw [len_mk, len_mk]; omega, ?_⟩
    rw [add_mk]
    (conv => whnf)
    refine ⟨by rw [len_mk]; omega, ?_⟩
    rw [cut_1]
    (conv => whnf)
    refine ⟨by rw [len_mk, len_mk, List.length_append, List.length_tail]; omega, ?_⟩
    rw [add_mk]
    obtain ⟨g1, g2⟩ := int_np (1 + n)
    refine k _ _ ⟨_, rfl, ?_, ?_, ?_⟩ st5 (f1.trans (f2.trans (f3.trans (f4.trans f5))))
    · simp [g1]
    · simp only [List.length_append, List.length_tail]; omega
    · exact (hxn.app g2).app (np_sub aDg_np fun y hy => hw y (List.mem_of_mem_tail hy))
  (conv => whnf)
  refine ⟨s, c, 8, rfl, by decide, by decide, st1, ?_⟩
  rintro _ μ2 ⟨i, rfl, i0, i1⟩ st2 f2
  (conv => whnf)
  refine ⟨by omega, by omega, ?_⟩
  refine ⟨by simp; omega, ?_⟩
  refine row_ok (m := (1 + i).toNat) (xs := aSg) (by omega) st2 (fun d μ3 q1 st3 hk => ?_) fun w μ3 hl hw st3 f3 => ?_
  · (conv => whnf)
    refine ⟨s, c, 30, rfl, by decide, by decide, st3, ?_⟩
    rintro _ μ4 ⟨j, rfl, j0, j1⟩ st4 f4
    obtain ⟨x, ex, hx⟩ := atI_mem (xs := aSg) j0 (by show j < 30; exact j1)
    have ex : atI (Str.ofString "abcxyzABCXYZ0123456789-+*<=?!.").cps.toList j = some x := ex
    ((conv => whnf); (repeat ((first | rw [ex]); (conv => whnf))))
    refine ⟨by show 30 ≤ sizeLine; omega, ?_⟩
    exact hk x μ4 hx st4 f4
  have hwl : w.length ≤ 8 ∧ 1 ≤ w.length := by omega
  have hwn := np_sub aSg_np hw
  have e1 := strsOf_mk (w.map fun x => [x])
  rw [List.map_map] at e1
  have e1 : strsOf (w.map fun x => D.str (mk [x])) = some ((w.map fun x => [x]).map mk) := e1
  ((conv => whnf); (repeat ((first | rw [e1]); (conv => whnf))))
  refine ⟨?_, ?_⟩
  · rw [sum_len, flat_one, nil0, len_mk]
    simp
    omega
  rw [joinE, flat_one]
  have f12 := f1.trans (f2.trans f3)
  (conv => whnf)
  split
  · have eL : lenD (.str (mk w)) μ3 = some w.length := by
      simp only [lenD, len_mk]
      rw [if_pos (by omega)]
    ((conv => whnf); (repeat ((first | rw [eL]); (conv => whnf))))
    refine ⟨s, c, (w.length : Int) + 1, rfl, by omega, by omega, st3, ?_⟩
    rintro _ μ4 ⟨j, rfl, j0, j1⟩ st4 f4
    obtain ⟨j, rfl⟩ : ∃ n : Nat, j = (n : Int) := ⟨j.toNat, by omega⟩
    (conv => whnf)
    refine ⟨by rw [len_mk]; omega, ?_⟩
    rw [cutS_hi]
    (conv => whnf)
    refine ⟨s, c, 21, rfl, by decide, by decide, st4, ?_⟩
    rintro _ μ5 ⟨m, rfl, m0, m1⟩ st5 f5
    obtain ⟨x, ex, hx⟩ := atI_mem (xs := aOt) m0 (by show m < 21; exact m1)
    have ex : atI (Str.ofString "#@$&'\",/:>[]{}^_`|~\\\t").cps.toList m = some x := ex
    ((conv => whnf); (repeat ((first | rw [ex]); (conv => whnf))))
    refine ⟨by show 21 ≤ sizeLine; omega, ?_⟩
    (conv => whnf)
    have ex2 : (⟨#[x]⟩ : Str) = mk [x] := rfl
    rw [ex2]
    refine ⟨by rw [len_mk, len_mk, List.length_take]; simp; omega, ?_⟩
    rw [add_mk]
    (conv => whnf)
    refine ⟨by rw [len_mk]; omega, ?_⟩
    rw [cutS_lo]
    (conv => whnf)
    refine ⟨by rw [len_mk, len_mk, List.length_append, List.length_take, List.length_drop]; simp; omega, ?_⟩
    rw [add_mk]
    refine k _ _ ⟨_, rfl, by simp, ?_, ?_⟩ st5 (f12.trans (f4.trans f5))
    · simp only [List.length_append, List.length_take, List.length_drop, List.length_cons, List.length_nil]; omega
    · exact ((np_sub hwn fun y hy => List.mem_of_mem_take hy).app (np_sub aOt_np fun y hy => by rw [List.mem_singleton.mp hy]; exact hx)).app (np_sub hwn fun y hy => List.mem_of_mem_drop hy)
  (conv => whnf)
  split
  · (conv => whnf)
    refine ⟨s, c, 16, rfl, by decide, by decide, st3, ?_⟩
    rintro _ μ4 ⟨j, rfl, j0, j1⟩ st4 f4
    obtain ⟨x, hx, ex⟩ := atI_strs (xs := ["-", "+", "...", "--1", "1-", "-1-", "+-", "1.5", "1a", "a1", ".", "=", "<=", "-0", "+0", "0"].map fun t : String => tl (Str.ofString t)) j0 (by simpa using j1)
    have ex : atI [D.str (Str.ofString "-"), .str (Str.ofString "+"), .str (Str.ofString "..."), .str (Str.ofString "--1"), .str (Str.ofString "1-"), .str (Str.ofString "-1-"), .str (Str.ofString "+-"), .str (Str.ofString "1.5"), .str (Str.ofString "1a"), .str (Str.ofString "a1"), .str (Str.ofString "."), .str (Str.ofString "="), .str (Str.ofString "<="), .str (Str.ofString "-0"), .str (Str.ofString "+0"), .str (Str.ofString "0")] j = some (.str (mk x)) := ex
    have all : ∀ x ∈ ["-", "+", "...", "--1", "1-", "-1-", "+-", "1.5", "1a", "a1", ".", "=", "<=", "-0", "+0", "0"].map fun t : String => tl (Str.ofString t), x ≠ [] ∧ x.length ≤ 100 ∧ x.all (fun c => !prt c) = true := by decide +kernel
    obtain ⟨a1, a2, a3⟩ := all x hx
    ((conv => whnf); (repeat ((first | rw [ex]); (conv => whnf))))
    exact k _ _ ⟨x, rfl, a1, a2, a3⟩ st4 (f12.trans f4)
  · exact k _ _ ⟨w, rfl, fun e => by rw [e] at hwl; simp at hwl, by omega, hwn⟩ st3 f12
end Z

set_option maxRecDepth 100000
set_option maxHeartbeats 4000000
namespace Z
open PySem PySem.Spec PyProof.Rows L2 ErrX TL
def PlB : Nat → D → Prop
  | 0, _ => False
  | _ + 1, .int _ => True
  | _ + 1, .str _ => True
  | n + 1, .lst l => l.length ≤ 300000 ∧ ∀ y ∈ l, PlB n y
  | _ + 1, _ => False
/-! ### data that are the same -/
/-- x stands for a -/
inductive See (μ : Mu) : D → D → Prop where
  | same (a : D) : See μ a a
  | ref (b : Addr) (xs as : List D) : μ b = some (.lst xs) → xs.length = as.length → (∀ (i : Nat) (u v : D), xs[i]? = some u → as[i]? = some v → See μ u v) → See μ (.ref b) (.lst as)
def Ssame (n : Nat) : Zp := fun ds μ q _ => ∃ (x y : D) (a : D), ds = [x, y] ∧ See μ x a ∧ See μ y a ∧ PlB n a ∧ q (.bl true) μ
theorem see_lst {μ : Mu} {x : D} {l : List D} (h : See μ x (.lst l)) : ∃ xs, tyD x μ = some .lst ∧ seqOf x μ = some xs ∧ dctOf x μ = none ∧ lenD x μ = some xs.length ∧ (∀ s, x ≠ .str s) ∧ xs.length = l.length ∧ (∀ (i : Nat) (u v : D), xs[i]? = some u → l[i]? = some v → See μ u v) ∧ (x = .lst xs ∨ ∃ b, x = .ref b) := by
  cases h with
  | same =>
    refine ⟨l, rfl, rfl, rfl, rfl, (fun s e => by cases e), rfl, fun i u v h1 h2 => ?_, .inl rfl⟩
    rw [h1] at h2
    cases h2
    exact .same u
  | ref b xs as hb hl he =>
    refine ⟨xs, ?_, seq_ref hb, dct_ref hb, lend_ref hb, (fun s e => by cases e), hl, he, .inr ⟨b, rfl⟩⟩
    simp only [tyD, hb]
theorem same_ok {n : Nat} {ds : List D} {μ : Mu} {q : ZQ} {e : ZX} (h : Ssame (n + 1) ds μ q e) : zBody 3 (z__law_same (Ssame n)) ds μ q e := by
  obtain ⟨x, y, a, rfl, hx, hy, hp, h⟩ := h
  have hsz : (300000 : Nat) ≤ sizeLine := by rw [PySem.sizeLine_eq]; decide
  unfold z__law_same
  cases a with
  | int i =>
    cases hx with
    | same =>
      cases hy with
      | same =>
        have e1 : decide (i = i) = true := decide_eq_true rfl
        (conv => whnf)
        rw [e1]
        exact h
  | str w =>
    cases hx with
    | same =>
      cases hy with
      | same =>
        have e1 : decide (w = w) = true := decide_eq_true rfl
        (conv => whnf)
        rw [e1]
        exact h
  | lst l =>
    obtain ⟨xs, t1, s1, d1, l1, n1, w1, k1, c1⟩ := see_lst hx
    obtain ⟨ys, t2, s2, d2, l2, n2, w2, k2, c2⟩ := see_lst hy
    have hl := hp.1
    ((conv => whnf); (repeat ((first | rw [t1] | rw [t2]); (conv => whnf))))
    rw [l1]
    (conv => whnf)
    rw [l2]
    (conv => whnf)
    have e0 : decide ((xs.length : Int) = (ys.length : Int)) = true := decide_eq_true (by omega)
    rw [e0]
    (conv => whnf)
    rw [l1]
    (conv => whnf)
    refine ⟨by omega, by omega, ?_⟩
    refine ⟨by simp; omega, ?_⟩
    refine lc_inv (Inv := fun i acc μ' => μ' = μ ∧ acc = []) ⟨rfl, rfl⟩ ?_ ?_
    · rintro i d acc μ' K hd2 ⟨rfl, rfl⟩ hK
      simp only [List.getElem?_map, Option.map_eq_some_iff] at hd2
      obtain ⟨j, hj, rfl⟩ := hd2
      obtain ⟨hj3, hj4⟩ := List.getElem?_eq_some_iff.mp hj
      have hj5 : i < xs.length := by simp at hj3; omega
      have ej : j = i := by rw [← hj4]; simp
      subst ej
      obtain ⟨u, hu⟩ : ∃ u, xs[j]? = some u := ⟨xs[j], List.getElem?_eq_getElem hj5⟩
      obtain ⟨v, hv⟩ : ∃ v, ys[j]? = some v := ⟨ys[j]'(by omega), List.getElem?_eq_getElem (by omega)⟩
      obtain ⟨z, hz⟩ : ∃ z, l[j]? = some z := ⟨l[j]'(by omega), List.getElem?_eq_getElem (by omega)⟩
      have hu2 : atI xs (0 + (j : Int)) = some u := by rw [Int.zero_add, atI_cast, hu]
      have hv2 : atI ys (0 + (j : Int)) = some v := by rw [Int.zero_add, atI_cast, hv]
      have fin : Ssame n [u, v] μ' (fun d μ1 => K [] μ1) (fun _ _ => False) := ⟨u, v, z, rfl, k1 j u z hu hz, k2 j v z hv hz, hp.2 z (List.mem_of_getElem? hz), hK [] μ' ⟨rfl, rfl⟩⟩
      have h0 := hK [] μ' ⟨rfl, rfl⟩
      rcases c1 with rfl | ⟨b, rfl⟩ <;> rcases c2 with rfl | ⟨b', rfl⟩
      · ((conv => whnf); (repeat ((first | rw [hu2] | rw [hv2]); (conv => whnf))))
        exact ⟨u, v, z, rfl, k1 j u z hu hz, k2 j v z hv hz, hp.2 z (List.mem_of_getElem? hz), h0⟩
      · ((conv => whnf); (repeat ((first | rw [hu2] | rw [hv2] | rw [d2] | rw [s2]); (conv => whnf))))
        exact ⟨u, v, z, rfl, k1 j u z hu hz, k2 j v z hv hz, hp.2 z (List.mem_of_getElem? hz), h0⟩
      · ((conv => whnf); (repeat ((first | rw [hu2] | rw [hv2] | rw [d1] | rw [s1]); (conv => whnf))))
        exact ⟨u, v, z, rfl, k1 j u z hu hz, k2 j v z hv hz, hp.2 z (List.mem_of_getElem? hz), h0⟩
      · ((conv => whnf); (repeat ((first | rw [hu2] | rw [hv2] | rw [d1] | rw [s1] | rw [d2] | rw [s2]); (conv => whnf))))
        exact ⟨u, v, z, rfl, k1 j u z hu hz, k2 j v z hv hz, hp.2 z (List.mem_of_getElem? hz), h0⟩
    · rintro acc μ' ⟨rfl, rfl⟩
      (conv => whnf)
      exact h
  | _ => exact hp.elim
theorem PlB.mono : ∀ {n m : Nat} {x : D}, PlB n x → n ≤ m → PlB m x
  | 0, _, _, h, _ => h.elim
  | n + 1, 0, _, _, h => by omega
  | n + 1, m + 1, .int _, _, _ => trivial
  | n + 1, m + 1, .str _, _, _ => trivial
  | n + 1, m + 1, .lst l, h, hm => ⟨h.1, fun y hy => (h.2 y hy).mono (by omega)⟩
theorem see_res {μ : Mu} {t b : Addr} {ds : List D} (ht : μ t = some (.lst [.str "read", .ref b])) (hb : μ b = some (.lst ds)) : See μ (.ref t) (.lst [.str "read", .lst ds]) := by
  refine .ref t _ _ ht rfl fun i u v hu hv => ?_
  match i, hu, hv with
  | 0, hu, hv => cases hu; cases hv; exact .same _
  | 1, hu, hv =>
    cases hu; cases hv
    refine .ref b ds ds hb rfl fun i u v hu hv => ?_
    rw [hu] at hv
    cases hv
    exact .same _
  | i + 2, hu, _ => simp at hu
theorem St.kp {s c : Addr} {μ μ' : Mu} (st : StAt s c μ) (k : Kp μ μ') : StAt s c μ' := by
  obtain ⟨ne, ⟨xs, hc⟩, v, hs⟩ := st
  exact ⟨ne, ⟨xs, k _ _ hc⟩, v, k _ _ hs⟩
/-! ### told -/
def Stold : Zp := fun ds μ q _ => ∃ l : List Nat, ds = [.str (mk l)] ∧ l.length ≤ 100000 ∧ ((∃ data, pt l 0 [[]] = .ok data ∧ ∀ t b μ', Kp μ μ' → μ' t = some (.lst [.str "read", .ref b]) → μ' b = some (.lst data) → q (.ref t) μ') ∨
  ∃ k : Nat, pt l 0 [[]] = .error (eAt "InvalidWord" k) ∧ ∀ μ', Kp μ μ' → q (.lst [.str "wrong", .int (k : Int)]) μ')
theorem told_ok {ds : List D} {μ : Mu} {q : ZQ} {e : ZX} (h : Stold ds μ q e) : zBody 2 (z__law_told Spa) ds μ q e := by
  obtain ⟨l, rfl, hl, h⟩ := h
  unfold z__law_told
  (conv => whnf)
  refine ⟨l, rfl, by omega, ?_⟩
  show PwR _ _ _ (pt l 0 [[]])
  rcases h with ⟨data, hp, h⟩ | ⟨k, hp, h⟩
  · rw [hp]
    intro b μ1 kp b0 hb
    (conv => whnf)
    intro t ht
    have tb : b ≠ t := fun e => by rw [e, ht] at hb; cases hb
    have t0 : μ t = none := by
      cases q : μ t with
      | none => rfl
      | some u => rw [kp t u q] at ht; cases ht
    exact h t b _ (kp.upd t0) updM_same (by rw [updM_ne tb]; exact hb)
  · rw [hp]
    intro μ1 kp
    have fin := h μ1 kp
    (conv => whnf)
    intro a d
    (conv => whnf)
    refine ⟨rfl, rfl, ?_⟩
    (conv => whnf)
    refine ⟨rfl, rfl, ?_⟩
    (conv => whnf)
    refine ⟨rfl, ?_⟩
    (conv => whnf)
    refine ⟨rfl, rfl, ?_⟩
    (conv => whnf)
    refine ⟨rfl, ?_⟩
    (conv => whnf)
    refine ⟨rfl, rfl, ?_⟩
    (conv => whnf)
    exact fin
/-! ### the reader's way -/
theorem pt_bad {w r : List Nat} {k : Nat} {st : List (List D)} (hne : w ≠ []) (hw : np w) (hr : Ends r) (hd : word w = none) : pt (w ++ r) k st = .error (eAt "InvalidWord" k) := by
  cases w with
  | nil => exact absurd rfl hne
  | cons c w =>
    have hc : prt c = false := by
      unfold np at hw
      rw [List.all_cons, Bool.and_eq_true] at hw
      simpa using hw.1
    obtain ⟨hb, h59, h40, h41⟩ := prt_parts hc
    have ht := tw_word hw hr
    rw [List.cons_append] at ht
    unfold pt
    conv => lhs; unfold pw
    rw [List.cons_append]
    simp only
    rw [if_neg (by simp [hb]), if_neg h59, if_neg h40, if_neg h41, ht, hd]
theorem word_cases (w : List Nat) (hne : w ≠ []) : (word w = none ∧ sym w = false) ∨ (word w = some (.str (mk w)) ∧ sym w = true) ∨ ∃ n, word w = some (.int n) ∧ sym w = false := by
  unfold word
  cases hN : num w with
  | true =>
    have hs : sym w = false := by unfold sym; rw [hN]; simp
    rw [if_pos rfl]
    cases hB : badN w with
    | true => exact .inl ⟨by rw [if_pos rfl], hs⟩
    | false =>
      obtain ⟨n, hn⟩ := int_word hN hB
      exact .inr (.inr ⟨n, by rw [if_neg (by simp), hn]; rfl, hs⟩)
  | false =>
    rw [if_neg (by simp)]
    cases hs : sym w with
    | true => exact .inr (.inl ⟨by rw [if_pos rfl], rfl⟩)
    | false => exact .inl ⟨by rw [if_neg (by simp)], rfl⟩
/-- what stands ahead: its text, its data -/
def Ahead (p : List Nat) (a : List D) : Prop := p.length ≤ 10 ∧ (∀ rest, pt (p ++ rest) 0 [[]] = pt rest p.length [a]) ∧ ∀ y ∈ a, PlB 1 y
theorem w120 : word [120] = some (.str (mk [120])) := (word_sym (by decide +kernel)).1
theorem w121 : word [121] = some (.str (mk [121])) := (word_sym (by decide +kernel)).1
theorem wab : word [97, 46, 98] = some (.str (mk [97, 46, 98])) := (word_sym (by decide +kernel)).1
theorem w55 : word [55] = some (.int 7) := by
  have := word_int (i := 7) (by decide)
  rw [show intL 7 = [55] by decide +kernel] at this
  exact this
theorem ends32 (r : List Nat) : Ends (32 :: r) := fun _ _ e => by cases e; exact p32
theorem ends0 : Ends [] := fun _ _ e => by cases e
theorem ah0 : Ahead [] [] := ⟨by simp, fun rest => rfl, by simp⟩
theorem ah1 : Ahead [120, 32] [.str (mk [120])] := ⟨by simp, fun rest => by
  have h1 := pt_word (w := [120]) (r := 32 :: rest) (k := 0) (st := [[]]) (by simp) (by decide +kernel) (ends32 rest) w120
  rw [show [120, 32] ++ rest = [120] ++ 32 :: rest from rfl, h1, pt_blk b32]
  rfl, by simp [PlB]⟩
theorem ah2 : Ahead [55, 32, 97, 46, 98, 32] [.int 7, .str (mk [97, 46, 98])] := ⟨by simp, fun rest => by
  have h1 := pt_word (w := [55]) (r := 32 :: ([97, 46, 98] ++ 32 :: rest)) (k := 0) (st := [[]]) (by simp) (by decide +kernel) (ends32 _) w55
  have h2 := pt_word (w := [97, 46, 98]) (r := 32 :: rest) (k := 2) (st := [[.int 7]]) (by simp) (by decide +kernel) (ends32 rest) wab
  rw [show [55, 32, 97, 46, 98, 32] ++ rest = [55] ++ 32 :: ([97, 46, 98] ++ 32 :: rest) from rfl, h1, pt_blk b32]
  show pt ([97, 46, 98] ++ 32 :: rest) 2 [[.int 7]] = _
  rw [h2, pt_blk b32]
  rfl, by simp [PlB]⟩
/-- nothing, or a blank -/
theorem sep_ok {p x : List Nat} {a : List D} (h : Ahead p a) (hx : x = [] ∨ x = [32] ∨ x = [10]) (rest : List Nat) : pt (p ++ (x ++ rest)) 0 [[]] = pt rest (p ++ x).length [a] := by
  rw [h.2.1]
  rcases hx with rfl | rfl | rfl
  · simp
  · rw [List.singleton_append, pt_blk b32]; simp
  · rw [List.singleton_append, pt_blk (by decide +kernel)]; simp
theorem y_ok {k : Nat} {a : List D} : pt (32 :: [121]) k [a] = .ok (a ++ [.str (mk [121])]) := by
  have h1 := pt_word (w := [121]) (r := []) (k := k + 1) (st := [a]) (by simp) (by decide +kernel) ends0 w121
  rw [List.append_nil] at h1
  rw [pt_blk b32, h1, pt_nil]
  rfl
end Z

set_option maxRecDepth 100000
set_option maxHeartbeats 4000000
namespace Z
open PySem PySem.Spec PyProof.Rows L2 ErrX TL
def Slaw : Zp := fun ds μ q e => ∃ ns : List Int, ds = [.klst (ns.map .int)] ∧ ns.length ≤ 63 ∧ μ = (fun _ => none) ∧ ∀ μ', q (.bl true) μ'
theorem law_ok {ds : List D} {μ : Mu} {q : ZQ} {e : ZX} (h : Slaw ds μ q e) : zBody 9 (z_law Sstate Ssym (Smk Pwd) Sdue Stake Stold (Ssame 70)) ds μ q e := by
  obtain ⟨ns, rfl, hl, _, h⟩ := h
  have hsz : (1000 : Nat) ≤ sizeLine := by rw [PySem.sizeLine_eq]; decide
  unfold z_law
  (conv => whnf)
  refine ⟨ns, rfl, hl, fun s c μ0 st0 _ _ _ => ?_⟩
  (conv => whnf)
  refine ⟨[], rfl, Nat.zero_le _, ?_⟩
  (conv => whnf)
  refine ⟨by decide, by decide, ?_⟩
  refine for_inv (Inv := fun i ρ μ' => StAt s c μ' ∧ ∃ o2 o3 o4 o5 o6 o7 o8 : Option D, ρ = [some (.klst (ns.map .int)), some (.ref s), o2, o3, o4, o5, o6, o7, o8]) ⟨st0, _, _, _, _, _, _, _, rfl⟩ ?_ ?_
  · rintro i d ρ μ1 K _ ⟨st1, o2, o3, o4, o5, o6, o7, o8, rfl⟩ hK
    have fin : ∀ o2 o3 o4 o5 o6 o7 o8 μ2, StAt s c μ2 → K [some (.klst (ns.map .int)), some (.ref s), o2, o3, o4, o5, o6, o7, o8] μ2 := fun o2 o3 o4 o5 o6 o7 o8 μ2 st2 => hK _ _ ⟨st2, o2, o3, o4, o5, o6, o7, o8, rfl⟩
    (conv => whnf)
    refine ⟨s, c, rfl, st1, ?_⟩
    rintro _ μ2 ⟨w, rfl, hne, hwl, hnp⟩ st2 f2
    (conv => whnf)
    refine ⟨w, rfl, hne, by omega, ?_⟩
    (conv => whnf)
    refine ⟨w, rfl, by omega, ?_⟩
    -- behind the first test
    have rest : ∀ (v : D) (b : Bool), v = wdD w →
        (zSeq (zAsg (zOp zIx (zLst (zCons (zLst zNil) (zCons (zLst (zCons (zC (.str "x")) zNil)) (zCons (zLst (zCons (zC (.int 7)) (zCons (zC (.str "a.b")) zNil))) zNil)))) (zCall Stake (zCons (zVar 1) (zCons (zC (.int 3)) zNil)))) (zgName 6)) (zSeq (zAsg (zOp zAdd (zBM isS zJoin (zC (.str "")) (zCons (zLc (ziSeq (zVar 6)) (zgName 8) zYes (zOp zAdd (zCB zToStr (zCons (zVar 8) zNil)) (zC (.str " "))) [8]) zNil)) (zOp zIx (zLst (zCons (zC (.str "")) (zCons (zC (.str " ")) (zCons (zC (.str "\n")) zNil)))) (zCall Stake (zCons (zVar 1) (zCons (zC (.int 3)) zNil))))) (zgName 7)) (zIfS (zTst (zOp zIsN (zVar 4) (zC .non))) (zIfS (zTst (zOp zNe (zCall Stold (zCons (zOp zAdd (zOp zAdd (zVar 7) (zVar 3)) (zOp zIx (zLst (zCons (zC (.str " @")) (zCons (zC (.str "")) (zCons (zC (.str " 9")) zNil)))) (zCall Stake (zCons (zVar 1) (zCons (zC (.int 3)) zNil))))) zNil)) (zLst (zCons (zC (.str "wrong")) (zCons (zCB zLen (zCons (zVar 7) zNil)) zNil))))) (zRet (zC (.bl false))) zNext) (zIfS (zNot (zTru (zCall (Ssame 70) (zCons (zCall Stold (zCons (zOp zAdd (zOp zAdd (zVar 7) (zVar 3)) (zC (.str " y"))) zNil)) (zCons (zLst (zCons (zC (.str "read")) (zCons (zOp zAdd (zVar 6) (zLst (zCons (zVar 4) (zCons (zC (.str "y")) zNil)))) zNil))) zNil))))) (zRet (zC (.bl false))) zNext))))
          { nx := K, ct := K, bk := fun ρ μ => zRet (zC (.bl true)) { nx := fun _ μ' => q .non μ', rt := q, ex := fun r _ μ' => e r μ' } ρ μ, rt := q, ex := fun r _ μ' => e r μ' } [some (.klst (ns.map .int)), some (.ref s), some d, some (.str (mk w)), some v, some (.bl b), o6, o7, o8] μ2 := by
      intro v b hv
      (conv => whnf)
      refine ⟨s, c, 3, rfl, by decide, by decide, st2, ?_⟩
      rintro _ μ3 ⟨i, rfl, i0, i1⟩ st3 f3
      -- the ways on, by what stands ahead
      have go : ∀ (a : List D) (p : List Nat), a.length ≤ 2 → Ahead p a →
          (zSeq (zAsg (zOp zAdd (zC (.str (mk p))) (zOp zIx (zLst (zCons (zC (.str "")) (zCons (zC (.str " ")) (zCons (zC (.str "\n")) zNil)))) (zCall Stake (zCons (zVar 1) (zCons (zC (.int 3)) zNil))))) (zgName 7)) (zIfS (zTst (zOp zIsN (zVar 4) (zC .non))) (zIfS (zTst (zOp zNe (zCall Stold (zCons (zOp zAdd (zOp zAdd (zVar 7) (zVar 3)) (zOp zIx (zLst (zCons (zC (.str " @")) (zCons (zC (.str "")) (zCons (zC (.str " 9")) zNil)))) (zCall Stake (zCons (zVar 1) (zCons (zC (.int 3)) zNil))))) zNil)) (zLst (zCons (zC (.str "wrong")) (zCons (zCB zLen (zCons (zVar 7) zNil)) zNil))))) (zRet (zC (.bl false))) zNext) (zIfS (zNot (zTru (zCall (Ssame 70) (zCons (zCall Stold (zCons (zOp zAdd (zOp zAdd (zVar 7) (zVar 3)) (zC (.str " y"))) zNil)) (zCons (zLst (zCons (zC (.str "read")) (zCons (zOp zAdd (zVar 6) (zLst (zCons (zVar 4) (zCons (zC (.str "y")) zNil)))) zNil))) zNil))))) (zRet (zC (.bl false))) zNext)))
          { nx := K, ct := K, bk := fun ρ μ => zRet (zC (.bl true)) { nx := fun _ μ' => q .non μ', rt := q, ex := fun r _ μ' => e r μ' } ρ μ, rt := q, ex := fun r _ μ' => e r μ' } [some (.klst (ns.map .int)), some (.ref s), some d, some (.str (mk w)), some v, some (.bl b), some (.lst a), o7, o8] μ3 := by
        intro a p hal hah
        have hpl := hah.1
        (conv => whnf)
        refine ⟨s, c, 3, rfl, by decide, by decide, st3, ?_⟩
        rintro _ μ4 ⟨j, rfl, j0, j1⟩ st4 f4
        obtain ⟨x, hx, ex⟩ := atI_strs (xs := [[], [32], [10]]) j0 (by simpa using j1)
        have ex : atI [D.str (Str.ofString ""), .str (Str.ofString " "), .str (Str.ofString "\n")] j = some (.str (mk x)) := ex
        have hx : x = [] ∨ x = [32] ∨ x = [10] := by simpa using hx
        have hxl : x.length ≤ 1 := by rcases hx with rfl | rfl | rfl <;> simp
        ((conv => whnf); (repeat ((first | rw [ex]); (conv => whnf))))
        refine ⟨by rw [len_mk, len_mk]; omega, ?_⟩
        rw [add_mk]
        have sep := sep_ok hah hx
        have hal2 : (p ++ x).length ≤ 11 := by rw [List.length_append]; omega
        rcases word_cases w hne with ⟨hw, hs⟩ | hw
        · -- no word
          have ev : v = .non := by rw [hv, wdD_none hw]
          rw [ev]
          (conv => whnf)
          refine ⟨by rw [len_mk, len_mk]; omega, ?_⟩
          rw [add_mk]
          (conv => whnf)
          refine ⟨s, c, 3, rfl, by decide, by decide, st4, ?_⟩
          rintro _ μ5 ⟨m, rfl, m0, m1⟩ st5 f5
          obtain ⟨y, hy, ey⟩ := atI_strs (xs := [[32, 64], [], [32, 57]]) m0 (by simpa using m1)
          have ey : atI [D.str (Str.ofString " @"), .str (Str.ofString ""), .str (Str.ofString " 9")] m = some (.str (mk y)) := ey
          have hy : y = [32, 64] ∨ y = [] ∨ y = [32, 57] := by simpa using hy
          have hyl : y.length ≤ 2 := by rcases hy with rfl | rfl | rfl <;> simp
          have hye : Ends y := by
            rcases hy with rfl | rfl | rfl
            · exact ends32 _
            · exact ends0
            · exact ends32 _
          ((conv => whnf); (repeat ((first | rw [ey]); (conv => whnf))))
          refine ⟨by rw [len_mk, len_mk, List.length_append]; omega, ?_⟩
          rw [add_mk]
          refine ⟨p ++ x ++ w ++ y, rfl, by simp only [List.length_append] at hal2 ⊢; omega, .inr ⟨(p ++ x).length, ?_, fun μ6 k6 => ?_⟩⟩
          · rw [show p ++ x ++ w ++ y = p ++ (x ++ (w ++ y)) by simp, sep]
            exact pt_bad hne hnp hye hw
          have eL : lenD (.str (mk (p ++ x))) μ6 = some (p ++ x).length := by
            simp only [lenD, len_mk]
            rw [if_pos (by omega)]
          ((conv => whnf); (repeat ((first | rw [eL]); (conv => whnf))))
          have heq : pyEq (.lst [.str (Str.ofString "wrong"), .int ((p ++ x).length : Int)]) (.lst [.str (Str.ofString "wrong"), .int ((p ++ x).length : Int)]) μ6 = some true := by
            have hs : PyData.strOk (Str.ofString "wrong") = true := by decide +kernel
            have e1 : pdM (.lst [.str (Str.ofString "wrong"), .int ((p ++ x).length : Int)]) μ6 = some (.list [.str (Str.ofString "wrong"), .int ((p ++ x).length : Int)]) := by simp [pdM, pdOf, pdsOf]
            have e2 : SeqAt.shaped (.list [.str (Str.ofString "wrong"), .int ((p ++ x).length : Int)]) = true := by
              unfold SeqAt.shaped
              simp [PyData.canLay0, PyData.canLayAll0, PyData.depth, PyData.depthAll, hs]
            unfold pyEq
            simp only [e1, e2]
            simp [PyData.eqv, PyData.eqvAll]
          ((conv => whnf); (repeat ((first | rw [heq]); (conv => whnf))))
          exact fin _ _ _ _ _ _ _ _ (St.kp st5 k6)
        · -- a word
          obtain ⟨dv, hdv, ev, hkd⟩ : ∃ dv, word w = some dv ∧ v = dv ∧ ((∃ z, dv = .str z) ∨ ∃ z, dv = .int z) := by
            rcases hw with ⟨hw, _⟩ | ⟨n, hw, _⟩
            · exact ⟨_, hw, by rw [hv, wdD_some hw], .inl ⟨_, rfl⟩⟩
            · exact ⟨_, hw, by rw [hv, wdD_some hw], .inr ⟨_, rfl⟩⟩
          subst ev
          have hpt : pt (p ++ x ++ w ++ [32, 121]) 0 [[]] = .ok (a ++ [v] ++ [.str (mk [121])]) := by
            rw [show p ++ x ++ w ++ [32, 121] = p ++ (x ++ (w ++ 32 :: [121])) by simp, sep, pt_word hne hnp (ends32 _) hdv]
            exact y_ok
          have hpl : PlB 70 (.lst [.str "read", .lst (a ++ [v] ++ [.str (mk [121])])]) := by
            have : ∀ y ∈ a ++ [v] ++ [.str (mk [121])], PlB 1 y := by
              intro y hy
              rcases List.mem_append.mp hy with hy | hy
              · rcases List.mem_append.mp hy with hy | hy
                · exact hah.2.2 y hy
                · rw [List.mem_singleton.mp hy]
                  rcases hkd with ⟨z, rfl⟩ | ⟨z, rfl⟩ <;> trivial
              · rw [List.mem_singleton.mp hy]; trivial
            refine PlB.mono (n := 3) ⟨by simp, fun y hy => ?_⟩ (by decide)
            simp only [List.mem_cons, List.not_mem_nil, or_false] at hy
            rcases hy with rfl | rfl
            · trivial
            · exact ⟨by simp; omega, this⟩
          rcases hkd with ⟨z, rfl⟩ | ⟨z, rfl⟩
          · (conv => whnf)
            refine ⟨by rw [len_mk, len_mk]; omega, ?_⟩
            rw [add_mk]
            (conv => whnf)
            rw [show Str.ofString " y" = mk [32, 121] from rfl]
            refine ⟨by rw [len_mk, len_mk, List.length_append]; simp; omega, ?_⟩
            rw [add_mk]
            refine ⟨p ++ x ++ w ++ [32, 121], rfl, by simp only [List.length_append, List.length_cons, List.length_nil] at hal2 ⊢; omega, .inl ⟨_, hpt, fun t b' μ5 k5 h1 h2 => ?_⟩⟩
            (conv => whnf)
            refine ⟨by simp; omega, ?_⟩
            (conv => whnf)
            refine ⟨_, _, _, rfl, see_res h1 h2, ?_, hpl, ?_⟩
            · rw [List.append_assoc]; exact .same _
            · exact fin _ _ _ _ _ _ _ _ (St.kp st4 k5)
          · (conv => whnf)
            refine ⟨by rw [len_mk, len_mk]; omega, ?_⟩
            rw [add_mk]
            (conv => whnf)
            rw [show Str.ofString " y" = mk [32, 121] from rfl]
            refine ⟨by rw [len_mk, len_mk, List.length_append]; simp; omega, ?_⟩
            rw [add_mk]
            refine ⟨p ++ x ++ w ++ [32, 121], rfl, by simp only [List.length_append, List.length_cons, List.length_nil] at hal2 ⊢; omega, .inl ⟨_, hpt, fun t b' μ5 k5 h1 h2 => ?_⟩⟩
            (conv => whnf)
            refine ⟨by simp; omega, ?_⟩
            (conv => whnf)
            refine ⟨_, _, _, rfl, see_res h1 h2, ?_, hpl, ?_⟩
            · rw [List.append_assoc]; exact .same _
            · exact fin _ _ _ _ _ _ _ _ (St.kp st4 k5)
      have hi3 : i = 0 ∨ i = 1 ∨ i = 2 := by omega
      rcases hi3 with rfl | rfl | rfl
      · have g := go [] [] (by simp) ah0
        (conv => whnf)
        refine ⟨Nat.zero_le _, ?_⟩
        (conv => whnf)
        refine ⟨by decide, ?_⟩
        rw [show Txt.join (Str.ofString "") [] = mk [] from joinE []]
        exact g
      · have g := go _ _ (by simp) ah1
        (conv => whnf)
        refine ⟨by show 1 ≤ sizeLine; omega, ?_⟩
        (conv => whnf)
        have l1 : (Str.ofString "x").length + (Str.ofString " ").length = 2 := rfl
        refine ⟨by rw [l1]; omega, ?_⟩
        (conv => whnf)
        refine ⟨by decide +kernel, ?_⟩
        rw [show Txt.join (Str.ofString "") [Str.ofString "x" ++ Str.ofString " "] = mk [120, 32] from joinE [[120, 32]]]
        exact g
      · have g := go _ _ (by simp) ah2
        (conv => whnf)
        refine ⟨by show 2 ≤ sizeLine; omega, ?_⟩
        (conv => whnf)
        refine ⟨by decide +kernel, ?_⟩
        (conv => whnf)
        have e7 : (Str.ofString (toString (7 : Int)) : Str) = mk [55] := by decide +kernel
        have l1 : (Str.ofString (toString (7 : Int))).length + (Str.ofString " ").length = 2 := by rw [e7]; rfl
        refine ⟨by rw [l1]; omega, ?_⟩
        (conv => whnf)
        have l2 : (Str.ofString "a.b").length + (Str.ofString " ").length = 4 := rfl
        refine ⟨by rw [l2]; omega, ?_⟩
        (conv => whnf)
        rw [e7]
        refine ⟨by decide +kernel, ?_⟩
        rw [show Txt.join (Str.ofString "") [mk [55] ++ Str.ofString " ", Str.ofString "a.b" ++ Str.ofString " "] = mk [55, 32, 97, 46, 98, 32] from joinE [[55, 32], [97, 46, 98, 32]]]
        exact g
    rcases word_cases w hne with ⟨hw, hs⟩ | ⟨hw, hs⟩ | ⟨n, hw, hs⟩
    · have r := rest .non false (wdD_none hw).symm
      rw [hs, wdD_none hw]
      (conv => whnf)
      exact r
    · have r := rest (.str (mk w)) true (wdD_some hw).symm
      rw [hs, wdD_some hw]
      (conv => whnf)
      exact r
    · have r := rest (.int n) false (wdD_some hw).symm
      rw [hs, wdD_some hw]
      (conv => whnf)
      exact r
  · rintro ρ μ1 ⟨st1, o2, o3, o4, o5, o6, o7, o8, rfl⟩
    exact h _
end Z

set_option maxRecDepth 100000
set_option maxHeartbeats 0
namespace Z
open PySem PySem.Spec PyProof.Rows L2 ErrX
def fn : List He.DefD := [dd "may_stand" s_may_stand, dd "is_numeral" s_is_numeral, dd "is_symbol" s_is_symbol, dd "number_of" s_number_of, dd "word_at" s_word_at, dd "behind_remark" s_behind_remark, dd "parse_within" s_parse_within, dd "parse_all" s_parse_all, dd "_law_mixed" s__law_mixed, dd "_law_take" s__law_take, dd "_law_state" s__law_state, dd "_law_same" s__law_same, dd "_law_is_numeral" s__law_is_numeral, dd "_law_word" s__law_word, dd "_law_due" s__law_due, dd "_law_told" s__law_told, dd "law" s_law]
def fa : List He.Fa := [.glo "may_stand", .glo "is_numeral", .glo "is_symbol", .glo "number_of", .glo "word_at", .glo "behind_remark", .glo "parse_within", .glo "parse_all", .glo "_law_mixed", .glo "_law_take", .glo "_law_state", .glo "_law_same", .glo "_law_is_numeral", .glo "_law_word", .glo "_law_due", .glo "_law_told", .glo "law", .glo "InvalidWord", .glo "TooDeep", .exc "TooDeep", .glo "UnexpectedClose", .glo "UnexpectedEnd", .glo "FoldError", .free "abs", .free "all", .free "bool", .free "int", .free "isinstance", .free "len", .free "list", .free "range", .free "str", .free "tuple", .str "BLANKS" " \n", .str "DIGITS" "0123456789", .str "LETTERS" "abcdefghijklmnopqrstuvwxyzABCDEFGHIJKLMNOPQRSTUVWXYZ", .int "MOST_DEPTH" (60), .int "MOST_FIGURES" (40), .str "PARTING" " \n();", .str "SIGNS" "-+*<=?!."]
def ts : List He.Tab := []
abbrev s_InvalidWord___init__ : Stmt := mthOf (top 4) 0
theorem st_InvalidWord {P : Program} (h : (P.main.scope.names.lookup ("super" : Str)).isSome = false) : SupSt P "at" "InvalidWord.__init__" s_InvalidWord___init__ := ⟨⟨_, _, _, _, _, _, _, _, _, _, _, _, _, _, rfl, rfl, fun _ => ⟨_, rfl⟩⟩, by decide +kernel, by decide +kernel, by decide +kernel, by decide +kernel, rfl, rfl, rfl, by decide +kernel, h, by decide, by decide, fun _ _ _ _ _ _ _ _ _ _ _ _ => rfl⟩
abbrev s_UnexpectedClose___init__ : Stmt := mthOf (top 3) 0
theorem st_UnexpectedClose {P : Program} (h : (P.main.scope.names.lookup ("super" : Str)).isSome = false) : SupSt P "at" "UnexpectedClose.__init__" s_UnexpectedClose___init__ := ⟨⟨_, _, _, _, _, _, _, _, _, _, _, _, _, _, rfl, rfl, fun _ => ⟨_, rfl⟩⟩, by decide +kernel, by decide +kernel, by decide +kernel, by decide +kernel, rfl, rfl, rfl, by decide +kernel, h, by decide, by decide, fun _ _ _ _ _ _ _ _ _ _ _ _ => rfl⟩
abbrev s_UnexpectedEnd___init__ : Stmt := mthOf (top 2) 0
theorem st_UnexpectedEnd {P : Program} (h : (P.main.scope.names.lookup ("super" : Str)).isSome = false) : SupSt P "at" "UnexpectedEnd.__init__" s_UnexpectedEnd___init__ := ⟨⟨_, _, _, _, _, _, _, _, _, _, _, _, _, _, rfl, rfl, fun _ => ⟨_, rfl⟩⟩, by decide +kernel, by decide +kernel, by decide +kernel, by decide +kernel, rfl, rfl, rfl, by decide +kernel, h, by decide, by decide, fun _ _ _ _ _ _ _ _ _ _ _ _ => rfl⟩
def sx (K : PySem.W.Frag) : List SupV := [supObs K "InvalidWord", supObs K "UnexpectedClose", supObs K "UnexpectedEnd"]
def sv : List SupV := [supVal "InvalidWord.__init__" s_InvalidWord___init__, supVal "UnexpectedClose.__init__" s_UnexpectedClose___init__, supVal "UnexpectedEnd.__init__" s_UnexpectedEnd___init__]
def ex (K : PySem.W.Frag) (file : Str) : Bool := supB K file "InvalidWord" "at" "InvalidWord.__init__" && (supB K file "UnexpectedClose" "at" "UnexpectedClose.__init__" && (supB K file "UnexpectedEnd" "at" "UnexpectedEnd.__init__" && (fldB K fldT_ && (tabB (exmF K) subT_ && (tabB (kitF K) kitT_)))))
section
variable {P : Program} {w : World} {K : PySem.W.Frag} {h : Heap} {mg : Str → Option Value} {base : Heap}
theorem fx_of (X : K.In h) (G : h.Ns mainGlobals mg) (c : He.SaysT fa fn ts w K) (hP : (P.main.scope.names.lookup ("super" : Str)).isSome = false) (cs : sx K = sv) (cx : ex K P.main.file = true) : Fx P w K mg where
  e_InvalidWord := ⟨sup_of (st_InvalidWord hP) ((List.cons.inj cs).1) ((He.ba cx).1), He.glo_ok X G (c.d.facts (f := .glo "InvalidWord") (by simp [fa]))⟩
  e_TooDeep := ex0_of X G (c.d.facts (f := .glo "TooDeep") (by simp [fa])) (c.d.facts (f := .exc "TooDeep") (by simp [fa]))
  e_UnexpectedClose := ⟨sup_of (st_UnexpectedClose hP) ((List.cons.inj (List.cons.inj cs).2).1) ((He.ba (He.ba cx).2).1), He.glo_ok X G (c.d.facts (f := .glo "UnexpectedClose") (by simp [fa]))⟩
  e_UnexpectedEnd := ⟨sup_of (st_UnexpectedEnd hP) ((List.cons.inj (List.cons.inj (List.cons.inj cs).2).2).1) ((He.ba (He.ba (He.ba cx).2).2).1), He.glo_ok X G (c.d.facts (f := .glo "UnexpectedEnd") (by simp [fa]))⟩
  fld := fld_of ((He.ba (He.ba (He.ba (He.ba cx).2).2).2).1)
  g_FoldError := He.glo_ok X G (c.d.facts (f := .glo "FoldError") (by simp [fa]))
  g_InvalidWord := He.glo_ok X G (c.d.facts (f := .glo "InvalidWord") (by simp [fa]))
  g_UnexpectedEnd := He.glo_ok X G (c.d.facts (f := .glo "UnexpectedEnd") (by simp [fa]))
  sub := exm_of ((He.ba (He.ba (He.ba (He.ba (He.ba cx).2).2).2).2).1)
  kit := kit_of ((He.ba (He.ba (He.ba (He.ba (He.ba cx).2).2).2).2).2)
  b_abs := He.free_ok X G (c.d.facts (f := .free "abs") (by simp [fa]))
  b_all := He.free_ok X G (c.d.facts (f := .free "all") (by simp [fa]))
  b_bool := He.free_ok X G (c.d.facts (f := .free "bool") (by simp [fa]))
  b_int := He.free_ok X G (c.d.facts (f := .free "int") (by simp [fa]))
  b_isinstance := He.free_ok X G (c.d.facts (f := .free "isinstance") (by simp [fa]))
  b_len := He.free_ok X G (c.d.facts (f := .free "len") (by simp [fa]))
  b_list := He.free_ok X G (c.d.facts (f := .free "list") (by simp [fa]))
  b_range := He.free_ok X G (c.d.facts (f := .free "range") (by simp [fa]))
  b_str := He.free_ok X G (c.d.facts (f := .free "str") (by simp [fa]))
  b_tuple := He.free_ok X G (c.d.facts (f := .free "tuple") (by simp [fa]))
  c_BLANKS := He.str_ok X G (c.d.facts (f := .str "BLANKS" " \n") (by simp [fa]))
  c_DIGITS := He.str_ok X G (c.d.facts (f := .str "DIGITS" "0123456789") (by simp [fa]))
  c_LETTERS := He.str_ok X G (c.d.facts (f := .str "LETTERS" "abcdefghijklmnopqrstuvwxyzABCDEFGHIJKLMNOPQRSTUVWXYZ") (by simp [fa]))
  c_MOST_DEPTH := He.int_ok X G (c.d.facts (f := .int "MOST_DEPTH" (60)) (by simp [fa]))
  c_MOST_FIGURES := He.int_ok X G (c.d.facts (f := .int "MOST_FIGURES" (40)) (by simp [fa]))
  c_PARTING := He.str_ok X G (c.d.facts (f := .str "PARTING" " \n();") (by simp [fa]))
  c_SIGNS := He.str_ok X G (c.d.facts (f := .str "SIGNS" "-+*<=?!.") (by simp [fa]))
  own := fun C h => by simp [own_] at h
  isi_bool := isi_b _ (fun C h => by cases h)
  isi_int := isi_b _ (fun C h => by cases h)
  isi_list := isi_b _ (fun C h => by cases h)
  isi_list_tuple := fun c hc => isi_b c (fun C h => by subst h; simp at hc)
  isi_str := isi_b _ (fun C h => by cases h)
structure Ds (K : PySem.W.Frag) (mg : Str → Option Value) : Prop where
  may_stand : Def K mg "may_stand" s_may_stand ["sign"]
  is_numeral : Def K mg "is_numeral" s_is_numeral ["word"]
  is_symbol : Def K mg "is_symbol" s_is_symbol ["text"]
  number_of : Def K mg "number_of" s_number_of ["word", "at"]
  word_at : Def K mg "word_at" s_word_at ["text", "start"]
  behind_remark : Def K mg "behind_remark" s_behind_remark ["text", "at"]
  parse_within : Def K mg "parse_within" s_parse_within ["text", "most"]
  parse_all : Def K mg "parse_all" s_parse_all ["text"]
  _law_mixed : Def K mg "_law_mixed" s__law_mixed ["_law_cell"]
  _law_take : Def K mg "_law_take" s__law_take ["_law_state_here", "_law_limit"]
  _law_state : Def K mg "_law_state" s__law_state ["_law_script"]
  _law_same : Def K mg "_law_same" s__law_same ["_law_one", "_law_two"]
  _law_is_numeral : Def K mg "_law_is_numeral" s__law_is_numeral ["_law_word_here"]
  _law_word : Def K mg "_law_word" s__law_word ["_law_state_here"]
  _law_due : Def K mg "_law_due" s__law_due ["_law_word_here"]
  _law_told : Def K mg "_law_told" s__law_told ["_law_text"]
theorem ds_of (X : K.In h) (G : h.Ns mainGlobals mg) (c : He.SaysT fa fn ts w K) : Ds K mg where
  may_stand := dfT X G c (by simp [fn]) (by simp [fa]) fun _ _ _ _ _ _ us hl => match us, hl with | [_], _ => rfl
  is_numeral := dfT X G c (by simp [fn]) (by simp [fa]) fun _ _ _ _ _ _ us hl => match us, hl with | [_], _ => rfl
  is_symbol := dfT X G c (by simp [fn]) (by simp [fa]) fun _ _ _ _ _ _ us hl => match us, hl with | [_], _ => rfl
  number_of := dfT X G c (by simp [fn]) (by simp [fa]) fun _ _ _ _ _ _ us hl => match us, hl with | [_, _], _ => rfl
  word_at := dfT X G c (by simp [fn]) (by simp [fa]) fun _ _ _ _ _ _ us hl => match us, hl with | [_, _], _ => rfl
  behind_remark := dfT X G c (by simp [fn]) (by simp [fa]) fun _ _ _ _ _ _ us hl => match us, hl with | [_, _], _ => rfl
  parse_within := dfT X G c (by simp [fn]) (by simp [fa]) fun _ _ _ _ _ _ us hl => match us, hl with | [_, _], _ => rfl
  parse_all := dfT X G c (by simp [fn]) (by simp [fa]) fun _ _ _ _ _ _ us hl => match us, hl with | [_], _ => rfl
  _law_mixed := dfT X G c (by simp [fn]) (by simp [fa]) fun _ _ _ _ _ _ us hl => match us, hl with | [_], _ => rfl
  _law_take := dfT X G c (by simp [fn]) (by simp [fa]) fun _ _ _ _ _ _ us hl => match us, hl with | [_, _], _ => rfl
  _law_state := dfT X G c (by simp [fn]) (by simp [fa]) fun _ _ _ _ _ _ us hl => match us, hl with | [_], _ => rfl
  _law_same := dfT X G c (by simp [fn]) (by simp [fa]) fun _ _ _ _ _ _ us hl => match us, hl with | [_, _], _ => rfl
  _law_is_numeral := dfT X G c (by simp [fn]) (by simp [fa]) fun _ _ _ _ _ _ us hl => match us, hl with | [_], _ => rfl
  _law_word := dfT X G c (by simp [fn]) (by simp [fa]) fun _ _ _ _ _ _ us hl => match us, hl with | [_], _ => rfl
  _law_due := dfT X G c (by simp [fn]) (by simp [fa]) fun _ _ _ _ _ _ us hl => match us, hl with | [_], _ => rfl
  _law_told := dfT X G c (by simp [fn]) (by simp [fa]) fun _ _ _ _ _ _ us hl => match us, hl with | [_], _ => rfl
end
section
variable {P : Program} {w : World} {K : PySem.W.Frag} {h : Heap} {mg : Str → Option Value} {base : Heap}
variable (P base)
theorem c_ms (fx : Fx P w K mg) (D : Ds K mg) : Cal P w K mg base 1 "may_stand" ["sign"] Sms := (ok_may_stand (k := 0) fx D.may_stand).imp fun _ _ _ _ => ms_ok
theorem c_num (fx : Fx P w K mg) (D : Ds K mg) : Cal P w K mg base 1 "is_numeral" ["word"] Snum := (ok_is_numeral (k := 0) fx D.is_numeral).imp fun _ _ _ _ => num_ok
theorem c_sym (fx : Fx P w K mg) (D : Ds K mg) : Cal P w K mg base 2 "is_symbol" ["text"] Ssym := (ok_is_symbol fx D.is_symbol (c_num P base fx D) (c_ms P base fx D)).imp fun _ _ _ _ => sym_ok
theorem c_nof (fx : Fx P w K mg) (D : Ds K mg) : Cal P w K mg base 1 "number_of" ["word", "at"] Snof := (ok_number_of (k := 0) fx D.number_of).imp fun _ _ _ _ => nof_ok
theorem c_wa (fx : Fx P w K mg) (D : Ds K mg) : Cal P w K mg base 3 "word_at" ["text", "start"] Swa := (ok_word_at fx D.word_at ((c_num P base fx D).mono (by decide)) ((c_nof P base fx D).mono (by decide)) (c_sym P base fx D)).imp fun _ _ _ _ => wa_ok
theorem c_br (fx : Fx P w K mg) (D : Ds K mg) : Cal P w K mg base 1 "behind_remark" ["text", "at"] Sbr := (ok_behind_remark (k := 0) fx D.behind_remark).imp fun _ _ _ _ => br_ok
theorem c_pw (fx : Fx P w K mg) (D : Ds K mg) : Cal P w K mg base 4 "parse_within" ["text", "most"] Spw := (ok_parse_within fx D.parse_within ((c_br P base fx D).mono (by decide)) (c_wa P base fx D)).imp fun _ _ _ _ => pw_ok
theorem c_pa (fx : Fx P w K mg) (D : Ds K mg) : Cal P w K mg base 5 "parse_all" ["text"] Spa := (ok_parse_all fx D.parse_all (c_pw P base fx D)).imp fun _ _ _ _ => pa_ok
theorem c_mx (fx : Fx P w K mg) (D : Ds K mg) : Cal P w K mg base 1 "_law_mixed" ["_law_cell"] Smixed := (ok__law_mixed (k := 0) fx D._law_mixed).imp fun _ _ _ _ => mixed_ok
theorem c_tk (fx : Fx P w K mg) (D : Ds K mg) : Cal P w K mg base 2 "_law_take" ["_law_state_here", "_law_limit"] Stake := (ok__law_take fx D._law_take (c_mx P base fx D)).imp fun _ _ _ _ => take_ok
theorem c_st (fx : Fx P w K mg) (D : Ds K mg) : Cal P w K mg base 1 "_law_state" ["_law_script"] Sstate := (ok__law_state (k := 0) fx D._law_state).imp fun _ _ _ _ => state_ok
theorem c_sm (fx : Fx P w K mg) (D : Ds K mg) : ∀ n, Cal P w K mg base (n + 1) "_law_same" ["_law_one", "_law_two"] (Ssame n)
  | 0 => ((Cal.zero D._law_same).imp fun _ _ _ _ h => by obtain ⟨_, _, _, _, _, _, h, _⟩ := h; exact h.elim).mono (Nat.zero_le _)
  | n + 1 => (ok__law_same fx D._law_same (c_sm fx D n)).imp fun _ _ _ _ => same_ok
theorem c_ln (fx : Fx P w K mg) (D : Ds K mg) : Cal P w K mg base 1 "_law_is_numeral" ["_law_word_here"] Slnum := (ok__law_is_numeral (k := 0) fx D._law_is_numeral).imp fun _ _ _ _ => lnum_ok
theorem c_wo (fx : Fx P w K mg) (D : Ds K mg) : Cal P w K mg base 3 "_law_word" ["_law_state_here"] (Smk Pwd) := (ok__law_word fx D._law_word (c_tk P base fx D)).imp fun _ _ _ _ => word_ok
theorem c_du (fx : Fx P w K mg) (D : Ds K mg) : Cal P w K mg base 2 "_law_due" ["_law_word_here"] Sdue := (ok__law_due fx D._law_due (c_ln P base fx D)).imp fun _ _ _ _ => due_ok
theorem c_td (fx : Fx P w K mg) (D : Ds K mg) : Cal P w K mg base 6 "_law_told" ["_law_text"] Stold := (ok__law_told fx D._law_told (c_pa P base fx D)).imp fun _ _ _ _ => told_ok
theorem facts {f : Addr} (X : K.In h) (G : h.Ns mainGlobals mg) (hfa : mg "law" = some (.ref f)) (c : He.SaysT fa fn ts w K) (hP : (P.main.scope.names.lookup ("super" : Str)).isSome = false) (cs : sx K = sv) (cx : ex K P.main.file = true) :
    ∃ fd : FuncData, (∀ (s : Shared) (v : Value), BindsTo s fd ⟨[v], []⟩ [("_law_script", v)]) ∧ ∀ base : Heap, K.In base → base.Ns mainGlobals mg → FnOk P w K mg base (L2N.CX P w) 72 f fd ["_law_script"] (spOf K 1 Slaw) := by
  have fx := fx_of (P := P) X G c hP cs cx
  have D := ds_of X G c
  obtain ⟨fd, F⟩ := c.d.defs (d := dd "law" s_law) (by simp [fn])
  have e := hfa.symm.trans (He.glo_ok X G (c.d.facts (f := .glo "law") (by simp [fa])))
  cases e
  have b := FunD.bindsA (ps := ["_law_script"]) F fun _ _ _ _ _ _ us hl => match us, hl with | [_], _ => rfl
  refine ⟨fd, fun s v => b s [v] rfl, fun base _ _ => ?_⟩
  exact zfun (N := ["_law_script", "_law_state_here", "_law_k", "_law_word_here", "_law_due_here", "_law_told_here", "_law_ahead", "_law_text", "_law_part"]) (fun_of F) sc_law (fun _ _ _ _ => law_ok)
    (body_law fx ((c_st P base fx D).mono (by decide)) ((c_sym P base fx D).mono (by decide)) ((c_wo P base fx D).mono (by decide)) ((c_du P base fx D).mono (by decide)) ((c_tk P base fx D).mono (by decide)) ((c_td P base fx D).mono (by decide)) (c_sm P base fx D 70) _)
end
end Z
open PySem PySem.W PyProof.Rows
set_option maxRecDepth 100000 in
set_option maxHeartbeats 0 in
theorem PySem.Challenge.cw_aliasfold_k10_words_holds : PySem.Challenge.rw_aliasfold_k10_words.Holds := by
  w_on; o_law; k_head; (case hw => w_witness2)
  k_fill
  refine Z.walk (l := PySem.Challenge.rw_aliasfold_k10_words) (S := Z.Slaw) (k := 72) rfl rfl ⟨rfl, by decide, by decide⟩ (fun w h Y => PySem.W.kIn_of Y) (fun ns hl q e h => ⟨ns, rfl, hl, rfl, h⟩) ?F
  case F =>
    intro w mg fa h KX G hmg
    exact Z.facts _ KX G hmg (by unfold He.SaysT; kernel_rfl) (by decide +kernel) (by kernel_rfl) (by kernel_rfl)

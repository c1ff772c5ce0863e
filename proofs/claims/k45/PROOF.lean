import PyProof.Rows.All
import Wide.All
import OpenK.AllK
import Wide.FinOn
import HandS.ForMost
import HandS.ForExc
import HandS.Defaults
import HandS.TryMany
import HandS.CallSlots
import HandS.Wide
import HandS.TupMul
import HandS.TupAny
import HandS.Conv
import KE.KRevSl
import HandS.Style
import HandS.Iter
import HandS.Flow
import HandS.SortRule
import HandS.IsInst
import HandS.Deep
import HandS.Zip
import HandS.Codes
import KE.GoesEnum
import HandS.ExcInit
import HandS.ExcField
import KE.KExcSuper
import HandS.Nested
import HandS.NestedK
import HandS.HeadHook1
import HandS.HeadHook2
import KE.DatumOrd
import HandS.More
import HandS.SortInts
import PyProof.Rows.SortShellAny
import HandS.SlotsOwn
import OpenK.KWalk
import HandS.Strs
import HandS.TupLe
import HandS.Head0
import HandS.Head1
import HandS.Head2
import HandS.HeadEnd
import PySem.Challenge.RW_nearlords_k45_houses_struck
set_option Elab.async false
set_option linter.all false
set_option maxRecDepth 100000
set_option maxHeartbeats 4000000
namespace T
open PySem PySem.Spec PyProof.Rows L2

/-! ## results -/
structure Exn where
  cls : Str
  what : PyData
inductive Res (a : Type) where
  | ok (x : a) | exc (e : Exn) | stuck
def Res.bind {α β : Type} (m : Res α) (k : α → Res β) : Res β := match m with
  | .ok x => k x
  | .exc e => .exc e
  | .stuck => .stuck
instance : Monad Res where
  pure := Res.ok
  bind := Res.bind
def good {α : Type} (m : Res α) (P : α → Prop) (Z : Exn → Prop) : Prop := match m with
  | .ok x => P x
  | .exc e => Z e
  | .stuck => False
theorem good_bind {α β : Type} {m : Res α} {k : α → Res β} {P : β → Prop} {Z : Exn → Prop} (h : good (m >>= k) P Z) : good m (fun x => good (k x) P Z) Z := by
  cases m <;> exact h
theorem good_mono {α : Type} {m : Res α} {P P' : α → Prop} {Z Z' : Exn → Prop} (h : good m P Z) (hP : ∀ x, P x → P' x) (hZ : ∀ e, Z e → Z' e) : good m P' Z' := by
  cases m with
  | ok x => exact hP x h
  | exc e => exact hZ e h
  | stuck => exact h
theorem good_imp {α : Type} {m : Res α} {P P' : α → Prop} {Z : Exn → Prop} (h : good m P Z) (hP : ∀ x, P x → P' x) : good m P' Z := good_mono h hP fun _ z => z

/-! ## worlds -/
abbrev Fg := PySem.W.Frag
abbrev Lb := Nat ⊕ Nat
abbrev Ow := Addr → Option Lb
/-- what stood at the entry: the frozen heap, the heap, the addresses that may be changed -/
structure Bs where
  F : Hp
  H : Hp
  S : Addr → Prop
  pins : List Nat := []
  s0 : L2.St := []
structure Wd (B : Bs) (F : Hp) (own : Ow) (H : Hp) : Prop where
  fh : Same F H
  fo : ∀ a o, F a = some o → own a = none
  oh : ∀ a l, own a = some l → ∃ o, H a = some o
  b1 : Same B.F F
  b2 : ∀ a o, F a = some o → (∃ o', B.F a = some o') ∨ B.H a = none ∨ B.S a
  b3 : ∀ a l, own a = some l → B.H a = none ∨ B.S a
  b4 : ∀ a o, ¬ B.S a → B.H a = some o → H a = some o
theorem Same.newH {H : Hp} {p : Addr} {o : HO} (h : H p = none) : Same H (upd H p o) := fun a u e => by
  rw [upd_ne (ne_of_none e h)]
  exact e
section
variable {B : Bs} {F F' H H' : Hp} {own own' : Ow} {p a : Addr} {o : HO} {l : Lb}
theorem Wd.none_own (w : Wd B F own H) (h : H p = none) : own p = none := by
  cases q : own p with
  | none => rfl
  | some l =>
    obtain ⟨o, e⟩ := w.oh p l q
    rw [h] at e
    cases e
theorem Wd.none_F (w : Wd B F own H) (h : H p = none) : F p = none := by
  cases q : F p with
  | none => rfl
  | some o =>
    have e := w.fh p o q
    rw [h] at e
    cases e
theorem Wd.own_F (w : Wd B F own H) (h : own a = some l) : F a = none := by
  cases q : F a with
  | none => rfl
  | some o =>
    have e := w.fo a o q
    rw [h] at e
    cases e
theorem Wd.new_b (w : Wd B F own H) (h : H p = none) : B.H p = none ∨ B.S p := by
  by_cases hs : B.S p
  · exact .inr hs
  · refine .inl ?_
    cases q : B.H p with
    | none => rfl
    | some o =>
      have e := w.b4 p o hs q
      rw [h] at e
      cases e
theorem Wd.newF (w : Wd B F own H) (h : H p = none) : Wd B (upd F p o) own (upd H p o) where
  fh := fun a u e => by
    by_cases q : a = p
    · subst q
      rw [upd_same] at e ⊢
      exact e
    · rw [upd_ne q] at e ⊢
      exact w.fh a u e
  fo := fun a u e => by
    by_cases q : a = p
    · subst q
      exact w.none_own h
    · rw [upd_ne q] at e
      exact w.fo a u e
  oh := fun a l e => by
    obtain ⟨o, q⟩ := w.oh a l e
    exact ⟨o, Same.newH h a o q⟩
  b1 := fun a u e => Same.newH (w.none_F h) a u (w.b1 a u e)
  b2 := fun a u e => by
    by_cases q : a = p
    · subst q
      exact .inr (w.new_b h)
    · rw [upd_ne q] at e
      exact w.b2 a u e
  b3 := w.b3
  b4 := fun a u s e => Same.newH h a u (w.b4 a u s e)
def put (own : Ow) (p : Addr) (l : Lb) : Ow := fun a => if a = p then some l else own a
theorem put_same : put own p l p = some l := if_pos rfl
theorem put_ne (h : a ≠ p) : put own p l a = own a := if_neg h
theorem Wd.newO (w : Wd B F own H) (h : H p = none) (l : Lb) : Wd B F (put own p l) (upd H p o) where
  fh := fun a u e => Same.newH h a u (w.fh a u e)
  fo := fun a u e => by
    rw [put_ne (ne_of_none (w.fh a u e) h)]
    exact w.fo a u e
  oh := fun a l e => by
    by_cases q : a = p
    · subst q
      exact ⟨_, upd_same⟩
    · rw [put_ne q] at e
      obtain ⟨o, r⟩ := w.oh a l e
      exact ⟨o, Same.newH h a o r⟩
  b1 := w.b1
  b2 := w.b2
  b3 := fun a l e => by
    by_cases q : a = p
    · subst q
      exact w.new_b h
    · rw [put_ne q] at e
      exact w.b3 a l e
  b4 := fun a u s e => Same.newH h a u (w.b4 a u s e)
theorem Wd.write (w : Wd B F own H) (h : own a = some l) : Wd B F own (upd H a o) where
  fh := fun b u e => by
    have n : b ≠ a := fun z => by
      subst z
      rw [w.own_F h] at e
      cases e
    rw [upd_ne n]
    exact w.fh b u e
  fo := w.fo
  oh := fun b l e => by
    by_cases q : b = a
    · subst q
      exact ⟨_, upd_same⟩
    · rw [upd_ne q]
      exact w.oh b l e
  b1 := w.b1
  b2 := w.b2
  b3 := w.b3
  b4 := fun b u s e => by
    have n : b ≠ a := fun z => by
      subst z
      rcases w.b3 _ _ h with r | r
      · rw [r] at e
        cases e
      · exact s r
    rw [upd_ne n]
    exact w.b4 b u s e
def cut (own : Ow) (p : Addr) : Ow := fun a => if a = p then none else own a
theorem cut_ne (h : a ≠ p) : cut own p a = own a := if_neg h
theorem Wd.frz (w : Wd B F own H) (h : own a = some l) (e : H a = some o) : Wd B (upd F a o) (cut own a) H where
  fh := fun b u q => by
    by_cases z : b = a
    · subst z
      rw [upd_same] at q
      rw [e]
      exact q
    · rw [upd_ne z] at q
      exact w.fh b u q
  fo := fun b u q => by
    by_cases z : b = a
    · subst z
      exact if_pos rfl
    · rw [upd_ne z] at q
      rw [cut_ne z]
      exact w.fo b u q
  oh := fun b l q => by
    by_cases z : b = a
    · subst z
      rw [show cut own b b = none from if_pos rfl] at q
      cases q
    · rw [cut_ne z] at q
      exact w.oh b l q
  b1 := fun b u q => Same.newH (w.own_F h) b u (w.b1 b u q)
  b2 := fun b u q => by
    by_cases z : b = a
    · subst z
      exact .inr (w.b3 _ _ h)
    · rw [upd_ne z] at q
      exact w.b2 b u q
  b3 := fun b l q => by
    by_cases z : b = a
    · subst z
      rw [show cut own b b = none from if_pos rfl] at q
      cases q
    · rw [cut_ne z] at q
      exact w.b3 b l q
  b4 := w.b4
theorem Wd.relab (w : Wd B F own H) (h : ∀ a l, own' a = some l → ∃ l', own a = some l') : Wd B F own' H where
  fh := w.fh
  fo := fun a o e => by
    cases q : own' a with
    | none => rfl
    | some l =>
      obtain ⟨l', z⟩ := h a l q
      rw [w.fo a o e] at z
      cases z
  oh := fun a l e => by
    obtain ⟨l', z⟩ := h a l e
    exact w.oh a l' z
  b1 := w.b1
  b2 := w.b2
  b3 := fun a l e => by
    obtain ⟨l', z⟩ := h a l e
    exact w.b3 a l' z
  b4 := w.b4
end

/-! ## typed values -/
structure Cd (α : Type) where
  rp : Fg → Hp → α → V → Prop
  up : ∀ {K F F' x v}, Same F F' → rp K F x v → rp K F' x v
/-- what a slot or a temporary is known to hold -/
structure Bd where
  hold : Fg → Hp → Hp → Option V → (Addr → Prop) → Prop
  up : ∀ {K F F' H H' ov f f'}, Same F F' → (∀ b, f b → f' b ∧ ∀ o, H b = some o → H' b = some o) → hold K F H ov f → hold K F' H' ov f'
def un : Bd := ⟨fun _ _ _ _ _ => True, fun _ _ _ => trivial⟩
def va {α : Type} (c : Cd α) (x : α) : Bd := ⟨fun K F _ ov _ => ∃ v, ov = some v ∧ c.rp K F x v, fun s _ ⟨v, e, r⟩ => ⟨v, e, c.up s r⟩⟩
/-- a mutable object's kind -/
structure Oc (β : Type) where
  rp : Fg → Hp → Hp → β → Addr → (Addr → Prop) → Prop
  up : ∀ {K F F' H H' x a f f'}, Same F F' → (∀ b, f b → f' b ∧ ∀ o, H b = some o → H' b = some o) → rp K F H x a f → rp K F' H' x a f'
def ow {β : Type} (k : Oc β) (x : β) : Bd := ⟨fun K F H ov f => ∃ a, ov = some (.ref a) ∧ k.rp K F H x a f, fun s g ⟨a, e, r⟩ => ⟨a, e, k.up s g r⟩⟩

def slot (σ : L2.St) (i : Nat) : Option V := (σ[i]?).getD none
theorem slot_some {σ : L2.St} {i : Nat} {v : V} (h : slot σ i = some v) : σ[i]? = some (some v) := by
  unfold slot at h
  cases e : σ[i]? with
  | none =>
    rw [e] at h
    cases h
  | some x =>
    rw [e] at h
    have h' : x = some v := h
    rw [h']
theorem slot_set_same {σ : L2.St} {i : Nat} {ov : Option V} (h : i < σ.length) : slot (σ.set i ov) i = ov := by
  unfold slot
  rw [List.getElem?_set_self h]
  rfl
theorem slot_set_ne {σ : L2.St} {i j : Nat} {ov : Option V} (h : i ≠ j) : slot (σ.set i ov) j = slot σ j := by
  unfold slot
  rw [List.getElem?_set_ne h]
def HoldS (K : Fg) (F H : Hp) (own : Ow) (σ : L2.St) (Γ : List Bd) : Prop :=
  σ.length = Γ.length ∧ ∀ (i : Nat) (b : Bd), Γ[i]? = some b → b.hold K F H (slot σ i) (fun a => own a = some (.inl i))
def HoldT (K : Fg) (F H : Hp) (own : Ow) : List (V × Bd) → Prop
  | [] => True
  | p :: t => p.2.hold K F H (some p.1) (fun a => own a = some (.inr t.length)) ∧ HoldT K F H own t
theorem HoldS.up {K : Fg} {F F' H H' : Hp} {own own' : Ow} {σ : L2.St} {Γ : List Bd} (s : Same F F') (g : ∀ a i, own a = some (.inl i) → own' a = some (.inl i) ∧ ∀ o, H a = some o → H' a = some o) (h : HoldS K F H own σ Γ) : HoldS K F' H' own' σ Γ :=
  ⟨h.1, fun i b e => b.up s (fun a q => g a i q) (h.2 i b e)⟩
theorem HoldT.up {K : Fg} {F F' H H' : Hp} {own own' : Ow} (s : Same F F') : ∀ {t : List (V × Bd)}, (∀ a i, i < t.length → own a = some (.inr i) → own' a = some (.inr i) ∧ ∀ o, H a = some o → H' a = some o) → HoldT K F H own t → HoldT K F' H' own' t
  | [], _, _ => trivial
  | p :: t, g, h => ⟨p.2.up s (fun a q => g a _ (Nat.lt_succ_self _) q) h.1, HoldT.up s (fun a i hi q => g a i (Nat.lt_succ_of_lt hi) q) h.2⟩

/-- a frame's state: temporaries, slots -/
def Sat (K : Fg) (B : Bs) (t : List (V × Bd)) (σ : L2.St) (Γ : List Bd) (H : Hp) : Prop :=
  ∃ F own, Wd B F own H ∧ HoldS K F H own σ Γ ∧ HoldT K F H own t
/-- the parameters that stay as they were handed in -/
def Pin (B : Bs) (σ : L2.St) : Prop := ∀ j, B.pins.contains j = true → slot σ j = slot B.s0 j

/-! ## the judgements: weakest readings -/
structure wpE (X : Cx) (e : Expr) (σ : L2.St) (H : Hp) (Q : VK) : Prop where
  run : ∀ pins s, Inv X pins σ H s → wpAny (model X.prog X.w) X.A (eval e X.env) (EP X pins σ Q) X.xe s
structure wpT (X : Cx) (e : Expr) (σ : L2.St) (H : Hp) (Q : Bool → Hp → Prop) : Prop where
  run : ∀ pins s, Inv X pins σ H s → wpAny (model X.prog X.w) X.A (isTrue e X.env (eval e X.env)) (TP X pins σ Q) X.xe s
structure wpW (X : Cx) (e : Expr) (σ : L2.St) (H : Hp) (Q : Bool → Hp → Prop) : Prop where
  run : ∀ whole pins s, Inv X pins σ H s → wpAny (model X.prog X.w) X.A (isTrue e X.env whole) (TP X pins σ Q) X.xe s
structure wpA (X : Cx) (es : List Expr) (σ : L2.St) (H : Hp) (Q : List V → Hp → Prop) : Prop where
  run : ∀ (pos : Pos) pins s, Inv X pins σ H s → wpAny (model X.prog X.w) X.A (spliced (backTo pos (starEach es X.env))) (AP X pins σ Q) X.xe s
structure wpS (X : Cx) (st : Stmt) (D : Ends) (σ : L2.St) (H : Hp) : Prop where
  run : ∀ pins s, Inv X pins σ H s → wpAny (model X.prog X.w) X.A (exec st X.env) (SP X pins D) X.xe s
structure wpSs (X : Cx) (st : List Stmt) (D : Ends) (σ : L2.St) (H : Hp) : Prop where
  run : ∀ pins s, Inv X pins σ H s → wpAny (model X.prog X.w) X.A (execs st X.env) (SP X pins D) X.xe s
section
variable {X : Cx} {e : Expr} {es : List Expr} {st : Stmt} {ss : List Stmt}
theorem pe_wp : PE X e (wpE X e) := ⟨fun pins s σ H Q I h => h.run pins s I⟩
theorem pt_wp : PT X e (wpT X e) := ⟨fun pins s σ H Q I h => h.run pins s I⟩
theorem pw_wp : PW X e (wpW X e) := ⟨fun wh pins s σ H Q I h => h.run wh pins s I⟩
theorem pa_wp : PA X es (wpA X es) := ⟨fun pos pins s σ H Q I h => h.run pos pins s I⟩
theorem ps_wp : PS X st (wpS X st) := ⟨fun pins s σ H D I h => h.run pins s I⟩
theorem pss_wp : PSs X ss (wpSs X ss) := ⟨fun pins s σ H D I h => h.run pins s I⟩
theorem wp_of_pe {t : TE} (h : PE X e t) {σ H Q} (q : t σ H Q) : wpE X e σ H Q := ⟨fun pins s I => h.run pins s σ H Q I q⟩
theorem wp_of_pt {t : TT} (h : PT X e t) {σ H Q} (q : t σ H Q) : wpT X e σ H Q := ⟨fun pins s I => h.run pins s σ H Q I q⟩
theorem wp_of_pw {t : TT} (h : PW X e t) {σ H Q} (q : t σ H Q) : wpW X e σ H Q := ⟨fun wh pins s I => h.run wh pins s σ H Q I q⟩
theorem wp_of_pa {t : TA} (h : PA X es t) {σ H Q} (q : t σ H Q) : wpA X es σ H Q := ⟨fun pos pins s I => h.run pos pins s σ H Q I q⟩
theorem wp_of_ps {t : TS} (h : PS X st t) {σ H D} (q : t D σ H) : wpS X st D σ H := ⟨fun pins s I => h.run pins s σ H D I q⟩
theorem wp_of_pss {t : TS} (h : PSs X ss t) {σ H D} (q : t D σ H) : wpSs X ss D σ H := ⟨fun pins s I => h.run pins s σ H D I q⟩
end

/-- an exception in flight over the slots -/
def Flew (X : Cx) (B : Bs) (e : Exn) (Γ : List Bd) (cls : Value) (d : Option Addr) (σ : L2.St) (H : Hp) : Prop :=
  ∃ (C dd : Addr) (v : V) (F : Hp) (own : Ow), cls = .ref C ∧ X.mg e.cls = some (.ref C) ∧ d = some dd ∧ Wd B F own H ∧ HoldS X.K F H own σ Γ ∧ F dd = some (.xd [(("what" : Str), v)]) ∧ Dp X.K F v e.what
/-- the wish about exceptions -/
abbrev Zt := Exn → List Bd → Prop
structure Ok (X : Cx) (B : Bs) (Z : Zt) (k : Nat) : Prop where
  calm : X.calm = true
  nd : X.N.Nodup
  room : Room k X.A
  pass : PassesOwn (model X.prog X.w) X.A X.env X.xe
  exn : ∃ W : WX, Takes X W ∧ ∀ e Γ, Z e Γ → ∀ cls d σ H, Flew X B e Γ cls d σ H → W cls d σ H

def EV (X : Cx) (B : Bs) (e : Expr) (Γ : List Bd) (P : List Bd → Bd → Prop) : Prop :=
  ∀ t σ H Q, Sat X.K B t σ Γ H → (∀ Γ' b, P Γ' b → ∀ v H', Sat X.K B ((v, b) :: t) σ Γ' H' → Q v H') → wpE X e σ H Q
def ET (X : Cx) (B : Bs) (e : Expr) (Γ : List Bd) (P : List Bd → Bool → Prop) : Prop :=
  ∀ t σ H Q, Sat X.K B t σ Γ H → (∀ Γ' k, P Γ' k → ∀ H', Sat X.K B t σ Γ' H' → Q k H') → wpT X e σ H Q
def EW (X : Cx) (B : Bs) (e : Expr) (Γ : List Bd) (P : List Bd → Bool → Prop) : Prop :=
  ∀ t σ H Q, Sat X.K B t σ Γ H → (∀ Γ' k, P Γ' k → ∀ H', Sat X.K B t σ Γ' H' → Q k H') → wpW X e σ H Q
def XM {α : Type} (X : Cx) (B : Bs) (Z : Zt) (e : Expr) (Γ : List Bd) (c : Cd α) (m : Res α) : Prop :=
  ∀ P, good m (fun x => P Γ (va c x)) (fun ex => Z ex Γ) → EV X B e Γ P
def TM (X : Cx) (B : Bs) (Z : Zt) (e : Expr) (Γ : List Bd) (m : Res Bool) : Prop :=
  ∀ P, good m (fun k => P Γ k) (fun ex => Z ex Γ) → ET X B e Γ P
def WM (X : Cx) (B : Bs) (Z : Zt) (e : Expr) (Γ : List Bd) (m : Res Bool) : Prop :=
  ∀ P, good m (fun k => P Γ k) (fun ex => Z ex Γ) → EW X B e Γ P

section
variable {X : Cx} {B : Bs} {Z : Zt} {Γ : List Bd} {e : Expr} {P P' : List Bd → Bd → Prop}
theorem EV.mono (h : EV X B e Γ P) (hP : ∀ Γ' b, P Γ' b → P' Γ' b) : EV X B e Γ P' := fun t σ H Q s q => h t σ H Q s fun Γ' b p => q Γ' b (hP Γ' b p)
theorem ET.mono {P P' : List Bd → Bool → Prop} (h : ET X B e Γ P) (hP : ∀ Γ' b, P Γ' b → P' Γ' b) : ET X B e Γ P' := fun t σ H Q s q => h t σ H Q s fun Γ' b p => q Γ' b (hP Γ' b p)
theorem EV.of {α : Type} {c : Cd α} {m : Res α} (h : XM X B Z e Γ c m) (g : good m (fun x => P Γ (va c x)) (fun ex => Z ex Γ)) : EV X B e Γ P := h P g
theorem EV.ofP {α : Type} {c : Cd α} {x : α} (h : XM X B Z e Γ c (.ok x)) (g : P Γ (va c x)) : EV X B e Γ P := h P g
/-- a copy of a frozen binding as a new temporary -/
theorem Sat.push {K : Fg} {t : List (V × Bd)} {σ : L2.St} {Γ : List Bd} {H F : Hp} {own : Ow} {α : Type} {c : Cd α} {x : α} {v : V} (w : Wd B F own H) (hs : HoldS K F H own σ Γ) (ht : HoldT K F H own t) (r : c.rp K F x v) : Sat K B ((v, va c x) :: t) σ Γ H :=
  ⟨F, own, w, hs, ⟨v, rfl, r⟩, ht⟩
/-- after a step that keeps all that stands -/
theorem Sat.pushUp {K : Fg} {t : List (V × Bd)} {σ : L2.St} {Γ : List Bd} {H H' F F' : Hp} {own : Ow} {α : Type} {c : Cd α} {x : α} {v : V} (w : Wd B F' own H') (sF : Same F F') (sH : Same H H') (hs : HoldS K F H own σ Γ) (ht : HoldT K F H own t) (r : c.rp K F' x v) :
    Sat K B ((v, va c x) :: t) σ Γ H' :=
  ⟨F', own, w, hs.up sF fun a i q => ⟨q, fun o e => sH a o e⟩, ⟨v, rfl, r⟩, ht.up sF fun a i _ q => ⟨q, fun o e => sH a o e⟩⟩
end

/-! ## codes -/
def cInt : Cd Int := ⟨fun _ _ x v => v = .int x, fun _ h => h⟩
def cBool : Cd Bool := ⟨fun _ _ x v => v = .bl x, fun _ h => h⟩
def cStr : Cd Str := ⟨fun _ _ x v => v = .str x, fun _ h => h⟩
def cNon : Cd Unit := ⟨fun _ _ _ v => v = .non, fun _ h => h⟩
def All2 {α : Type} (r : α → V → Prop) : List α → List V → Prop
  | [], [] => True
  | x :: xs, v :: vs => r x v ∧ All2 r xs vs
  | _, _ => False
theorem All2.imp {α : Type} {r r' : α → V → Prop} (h : ∀ x v, r x v → r' x v) : ∀ {xs : List α} {vs : List V}, All2 r xs vs → All2 r' xs vs
  | [], [], _ => trivial
  | _ :: _, _ :: _, ⟨a, b⟩ => ⟨h _ _ a, All2.imp h b⟩
  | [], _ :: _, z => z
  | _ :: _, [], z => z
theorem All2.length {α : Type} {r : α → V → Prop} : ∀ {xs : List α} {vs : List V}, All2 r xs vs → vs.length = xs.length
  | [], [], _ => rfl
  | _ :: _, _ :: _, ⟨_, b⟩ => congrArg Nat.succ (All2.length b)
  | [], _ :: _, z => z.elim
  | _ :: _, [], z => z.elim
theorem All2.get {α : Type} {r : α → V → Prop} : ∀ {xs : List α} {vs : List V} {i : Nat} {x : α}, All2 r xs vs → xs[i]? = some x → ∃ v, vs[i]? = some v ∧ r x v
  | _ :: _, _ :: _, 0, _, ⟨a, _⟩, e => ⟨_, rfl, (Option.some.inj e) ▸ a⟩
  | _ :: xs, _ :: vs, i + 1, x, ⟨_, b⟩, e => All2.get (i := i) b e
  | [], [], _, _, _, e => nomatch e
  | [], _ :: _, _, _, z, _ => z.elim
  | _ :: _, [], _, _, z, _ => z.elim
theorem All2.getV {α : Type} {r : α → V → Prop} : ∀ {xs : List α} {vs : List V} {i : Nat} {v : V}, All2 r xs vs → vs[i]? = some v → ∃ x, xs[i]? = some x ∧ r x v
  | _ :: _, _ :: _, 0, _, ⟨a, _⟩, e => ⟨_, rfl, (Option.some.inj e) ▸ a⟩
  | _ :: xs, _ :: vs, i + 1, x, ⟨_, b⟩, e => All2.getV (i := i) b e
  | [], [], _, _, _, e => nomatch e
  | [], _ :: _, _, _, z, _ => z.elim
  | _ :: _, [], _, _, z, _ => z.elim
theorem All2.app {α : Type} {r : α → V → Prop} : ∀ {xs ys : List α} {vs ws : List V}, All2 r xs vs → All2 r ys ws → All2 r (xs ++ ys) (vs ++ ws)
  | [], _, [], _, _, h => h
  | _ :: _, _, _ :: _, _, ⟨a, b⟩, h => ⟨a, All2.app b h⟩
  | [], _, _ :: _, _, z, _ => z.elim
  | _ :: _, _, [], _, z, _ => z.elim
theorem All2.set {α : Type} {r : α → V → Prop} {y : α} {w : V} (q : r y w) : ∀ {xs : List α} {vs : List V} {i : Nat}, All2 r xs vs → All2 r (xs.set i y) (vs.set i w)
  | [], [], _, h => h
  | _ :: _, _ :: _, 0, ⟨_, b⟩ => ⟨q, b⟩
  | _ :: _, _ :: _, i + 1, ⟨a, b⟩ => ⟨a, All2.set (i := i) q b⟩
  | [], _ :: _, _, z => z.elim
  | _ :: _, [], _, z => z.elim
theorem All2.ints {xs : List Int} {vs : List V} (h : All2 (fun x v => v = V.int x) xs vs) : vs = xs.map V.int := by
  induction xs generalizing vs with
  | nil =>
    cases vs with
    | nil => rfl
    | cons _ _ => exact h.elim
  | cons x xs ih =>
    cases vs with
    | nil => exact h.elim
    | cons v vs =>
      obtain ⟨a, b⟩ := h
      rw [List.map_cons, ih b, a]
theorem seqL_up {K : Fg} {F F' : Hp} {a : Addr} {xs : List V} (s : Same F F') (h : SqL K F a xs) : SqL K F' a xs := Same.seq s h
theorem seqT_up {K : Fg} {F F' : Hp} {a : Addr} {xs : List V} (s : Same F F') (h : SqT K F a xs) : SqT K F' a xs := by
  rcases h with (h | ⟨o, h⟩) | h
  · exact .inl (.inl (s _ _ h))
  · exact .inl (.inr ⟨o, s _ _ h⟩)
  · exact .inr h
/-- a frozen list, a tuple of like items -/
def cLst {α : Type} (c : Cd α) : Cd (List α) := ⟨fun K F xs v => ∃ a vs, v = .ref a ∧ SqL K F a vs ∧ All2 (c.rp K F) xs vs, fun s ⟨a, vs, e, h, r⟩ => ⟨a, vs, e, seqL_up s h, r.imp fun _ _ => c.up s⟩⟩
/-- all that is read so is a key of a dict -/
def KeyC {α : Type} (c : Cd α) : Prop := ∀ K F x v, c.rp K F x v → ∃ k : Key, v = kV k
/-- an exact tuple of no dict -/
def tOb (us : Array Value) : Obj := { cls := .type "tuple", data := .seq us }
/-- a tuple, made here if its items are keys -/
def Tq {α : Type} (c : Cd α) (K : Fg) (F : Hp) (a : Addr) (vs : List V) : Prop := SqT K F a vs ∧ (KeyC c → ∃ us, F a = some (.frz (tOb us) (.tup vs)))
theorem Tq.of {α : Type} {c : Cd α} {K : Fg} {F : Hp} {a : Addr} {vs : List V} {us : Array Value} (h : F a = some (.frz (tOb us) (.tup vs))) : Tq c K F a vs := ⟨.inl (.inr ⟨_, h⟩), fun _ => ⟨us, h⟩⟩
theorem sqT {α : Type} {c : Cd α} {K : Fg} {F : Hp} {a : Addr} {vs : List V} (h : Tq c K F a vs) : SqT K F a vs := h.1
def cTup {α : Type} (c : Cd α) : Cd (List α) := ⟨fun K F xs v => ∃ a vs, v = .ref a ∧ Tq c K F a vs ∧ All2 (c.rp K F) xs vs, fun s ⟨a, vs, e, h, r⟩ => ⟨a, vs, e, ⟨seqT_up s h.1, fun k => (h.2 k).imp fun _ e => s _ _ e⟩, r.imp fun _ _ => c.up s⟩⟩
/-- None or a value that is not None -/
def cOpt {α : Type} (c : Cd α) : Cd (Option α) := ⟨fun K F o v => match o with
  | none => v = .non
  | some x => v ≠ .non ∧ c.rp K F x v, fun {K F F' o v} s h => by
    cases o with
    | none => exact h
    | some x => exact ⟨h.1, c.up s h.2⟩⟩
def cPr {α β : Type} (c : Cd α) (d : Cd β) : Cd (α × β) := ⟨fun K F p v => ∃ a x y, v = .ref a ∧ F a = some (.tup [x, y]) ∧ c.rp K F p.1 x ∧ d.rp K F p.2 y, fun s ⟨a, x, y, e, h, r, q⟩ => ⟨a, x, y, e, s _ _ h, c.up s r, d.up s q⟩⟩
def cTr {α β γ : Type} (c : Cd α) (d : Cd β) (f : Cd γ) : Cd (α × β × γ) := ⟨fun K F p v => ∃ a x y z, v = .ref a ∧ SqT K F a [x, y, z] ∧ c.rp K F p.1 x ∧ d.rp K F p.2.1 y ∧ f.rp K F p.2.2 z,
  fun s ⟨a, x, y, z, e, h, r, q, u⟩ => ⟨a, x, y, z, e, seqT_up s h, c.up s r, d.up s q, f.up s u⟩⟩
mutual
theorem dp_up {K : Fg} {F F' : Hp} (s : Same F F') : ∀ {v : V} {d : PyData}, Dp K F v d → Dp K F' v d
  | _, _, .non => .non
  | _, _, .bl b => .bl b
  | _, _, .int i => .int i
  | _, _, .str x => .str x
  | _, _, .lst h r => .lst (seqL_up s h) (dpAll_up s r)
  | _, _, .tup h r => .tup (seqT_up s h) (dpAll_up s r)
theorem dpAll_up {K : Fg} {F F' : Hp} (s : Same F F') : ∀ {vs : List V} {ds : List PyData}, DpAll K F vs ds → DpAll K F' vs ds
  | _, _, .nil => .nil
  | _, _, .cons h r => .cons (dp_up s h) (dpAll_up s r)
end
def cD : Cd PyData := ⟨fun K F d v => Dp K F v d, fun s h => dp_up s h⟩
theorem nkey_D : ¬ KeyC cD := fun k => by
  obtain ⟨x, e⟩ := k ([] : List (Addr × Obj)) (fun _ => none) .none .non .non
  cases x <;> cases e
/-- a mutable list of frozen items -/
def oLst {α : Type} (c : Cd α) : Oc (List α) := ⟨fun K F H xs a f => f a ∧ ∃ vs, H a = some (.lst vs) ∧ All2 (c.rp K F) xs vs,
  fun s g ⟨h1, vs, h2, r⟩ => ⟨(g _ h1).1, vs, (g _ h1).2 _ h2, r.imp fun _ _ => c.up s⟩⟩
end T
set_option maxHeartbeats 4000000
namespace T
open PySem PySem.Spec PyProof PyProof.Rows L2
open AutoSeq1 (wpAny_loadPart')
/-! ## tuples made here, their objects known: no dict -/
def NewT (H : Hp) (Q : VK) (xs : List V) : Prop := ∀ p us, H p = none → Q (.ref p) (upd H p (.frz (tOb us) (.tup xs)))
section
variable {X : Cx} {pins : List (Addr × Obj)} {s : Shared} {σ : L2.St} {H : Hp} {Q : VK}
theorem laidT {h' : Heap} {us : List Value} {xs : List V} (I : Inv X pins σ H { s with heap := h' }) (r : Vals xs us) (z : xs.length ≤ sizeLine) (q : NewT H Q xs) :
    EP X pins σ Q (.ref h'.objs.size) { s with heap := h'.push (tOb us.toArray) } :=
  ⟨.ref h'.objs.size, _, I.laid (t' := s.toks) (o := .frz (tOb us.toArray) (.tup xs)) (fun b u e => Heap.get?_push_of_some _ e) (Nat.le_refl _) ⟨Heap.get?_push_size _ rfl, z, us, r, IsTup.new _ _⟩, rfl, q _ _ (I.hok.fresh (Nat.le_refl _))⟩
end
section
variable {X : Cx} {es : List Expr} {t : TA} {pos : Pos}
def tTupF (t : TA) : TE := fun σ H Q => t σ H fun xs H1 => xs.length ≤ sizeLine ∧ NewT H1 Q xs
theorem pe_tupF {x1} (h : PA X es t) : PE X (.Tuple es x1 pos) (tTupF t) := by
  refine ⟨fun pins s σ H Q I hq => ?_⟩
  refine wpAny_Tuple_spliced (thn (h.run pos pins s σ H _ I hq) fun us s1 ⟨xs, H1, I1, r, z, q⟩ => ⟨by rw [← r.length]; exact z, ?_⟩)
  exact laidT (h' := s1.heap) I1 r z q
theorem call_tuple_ofF : CallR X (.type "tuple") (fun xs H Q => ∃ p ys, xs = [.ref p] ∧ ((SqL X.K H p ys ∧ NewT H Q ys) ∨ (SqT X.K H p ys ∧ Q (.ref p) H))) := by
  intro pins s σ H xs us Q I r h
  obtain ⟨p, ys, rfl, h⟩ := h
  obtain ⟨u, rfl, rx⟩ := vals1 r
  cases rx
  rcases h with ⟨hq, q⟩ | ⟨hq, q⟩
  · obtain ⟨its, r', pl, hz⟩ := I.list hq
    have hlen := r'.length
    refine call_tuple_list pl.isList (fun h' kp => ?_) (by simp only [List.size_toArray] <;> omega)
    have I1 : Inv X pins σ H { s with heap := h' } := I.kept (t' := s.toks) kp
    exact laidT (s := s) I1 r' hz q
  · obtain ⟨its, r', pl, hz⟩ := I.tuple hq
    exact call_tuple_same pl ⟨.ref p, H, I, rfl, q⟩
def rSlF (K : PySem.W.Frag) : V → Option Int → Option Int → Hp → VK → Prop := fun x lo hi H Q => ∃ a xs, x = .ref a ∧ SqT K H a xs ∧
  (HT.sIx xs.length 0 lo = 0 ∧ HT.sIx xs.length xs.length hi = xs.length → Q (.ref a) H) ∧ (¬ (HT.sIx xs.length 0 lo = 0 ∧ HT.sIx xs.length xs.length hi = xs.length) → NewT H Q (cutV xs lo hi))
theorem sl_tupF : SlR X (rSlF X.K) := by
  intro pins s σ H x v vl vu lo hi sl Q I rx hs pl pu h
  obtain ⟨a, xs, rfl, hx, q1, q2⟩ := h
  by_cases hw : HT.sIx xs.length 0 lo = 0 ∧ HT.sIx xs.length xs.length hi = xs.length
  · exact sl_tupA pins s σ H _ v vl vu lo hi sl Q I rx hs pl pu ⟨a, xs, rfl, hx, fun _ => q1 hw, fun n => absurd hw n⟩
  · cases rx
    obtain ⟨its, r, ht, hz⟩ := I.tuple hx
    have hlen : its.toArray.size = xs.length := by rw [List.size_toArray]; exact r.length.symm
    refine ⟨"tuple", _, PyProof.Rows.slot_tuple_getitem.lookup, ht.typeIs, ?_⟩
    refine HT.getItem_tuple_cut ht hs pl pu (by rw [hlen]; exact hw) ?_ (by rw [hlen]; exact hz)
    rw [hlen]
    exact laidT (s := s) (h' := s.heap) I ((r.drop (HT.sIx xs.length 0 lo)).take (HT.sIx xs.length xs.length hi - HT.sIx xs.length 0 lo)) (Nat.le_trans (cutV_length xs lo hi) hz) (q2 hw)
def rCatF (K : PySem.W.Frag) : R2 := fun x y H Q => ∃ a b xs ys, x = .ref a ∧ y = .ref b ∧ SqT K H a xs ∧ SqT K H b ys ∧ xs.length + ys.length ≤ sizeLine ∧
  (xs = [] → Q (.ref b) H) ∧ (xs ≠ [] → ys = [] → Q (.ref a) H) ∧ (xs ≠ [] → ys ≠ [] → NewT H Q (xs ++ ys))
theorem op_catF : OpR X (binaryOp .Add) (rCatF X.K) := by
  intro pins s σ H x y v u Q I rx ry h
  obtain ⟨a, b, xs, ys, rfl, rfl, ha, hb, hz, q0, q1, q2⟩ := h
  by_cases hx : xs = []
  · exact op_catA pins s σ H _ _ v u Q I rx ry ⟨a, b, xs, ys, rfl, rfl, ha, hb, hz, q0, fun n => absurd hx n, fun n => absurd hx n⟩
  · cases rx
    cases ry
    obtain ⟨its, r1, p1, _⟩ := I.tuple ha
    obtain ⟨its2, r2, p2, _⟩ := I.tuple hb
    refine HT.cat_tup p1 p2 (fun z => hx (r1.nil_iff.mp z)) (fun z => ⟨.ref a, H, I, rfl, q1 hx (r2.nil_iff.mp z)⟩) (fun z => ?_) (by rw [← r1.length, ← r2.length]; exact hz)
    exact laidT (s := s) (h' := s.heap) I (r1.append r2) (by rw [List.length_append]; exact hz) (q2 hx fun w => z (r2.nil_iff.mpr w))
def tTupRgF (te : L2.St → Hp → (Int → Int → Hp → Prop) → Prop) : TE := fun σ H Q => te σ H fun a b H1 => RgOk a b ∧ NewT H1 Q (rgV a b)
theorem pe_tupRgF {e : Expr} {te : L2.St → Hp → (Int → Int → Hp → Prop) → Prop} {p : Pos} (hc : X.calm = true) (hg : Gl X "tuple") (hm : X.mg "tuple" = none) (he : PRg X e te) (na : starEach [e] X.env = (false, eval e X.env) :: starEach [] X.env := by rfl) : PE X (.Call (.Name "tuple" p) [e] [] pos) (tTupRgF te) := by
  refine ⟨fun pins s σ H Q I h => ?_⟩
  refine Call_ (ld_blt I hg hm boot_tuple (PyProof.Rows.callWith_type1 (args_cons (thn (he pins s σ H _ I h) fun x s1 ⟨r, a, b, t, u, v, H1, ex, hr, I1, ok, q⟩ => args_nil ?_) na) na))
  subst ex
  obtain ⟨b1, b2, b3, b4, b5⟩ := ok
  refine call_tuple_range (n := (b - a).toNat) (I1.ok.hd hc) hr (small_one b1 b2 b3 b4) (rangeSize_nat a b) b5 fun h' tk acc hk hi => ?_
  have I2 : Inv X pins σ H1 { s1 with heap := h', toks := tk } := I1.kept hk
  have z := laidT (s := { s1 with toks := tk }) (h' := h') I2 (vals_rg hi) (by rw [rgV_length, sizeLine_eq]; omega) q
  rw [Array.toArray_toList] at z
  exact z
/-! ### t * k -/
theorem mul1 (l : Addr) (items : Array Value) (n : Nat) (dd : Option Addr) (sl : Array (Option Value)) (u : Tok) :
    Meets (Builtin.«tuple.__mul__» ⟨[.ref l, .int 1 u], []⟩) (fun _ R s => s.heap.get? l = some { cls := .type "tuple", dict := dd, data := .seq items n, slots := sl } ∧ R (.ok (.ret (Value.ref l))) s) :=
  .of_wp fun prog w A R s h => by
    obtain ⟨hp, g, d, tk, os⟩ := s
    obtain ⟨hl, h⟩ := h
    have f1 := AutoSeq1.idx_int
    wp_walk using wpAny_loadPart' hl
    exact ⟨_, rfl, h⟩
theorem mul0 (l : Addr) (items : Array Value) (n : Nat) (dd : Option Addr) (sl : Array (Option Value)) (x : Int) (u : Tok) (c0 : (decide (x < -(2 ^ 63)) || decide (x ≥ 2 ^ 63)) = false) (c1 : (items.isEmpty || x == 1) = false) (c2 : (decide (x ≤ 0) || items.isEmpty) = true) :
    Meets (Builtin.«tuple.__mul__» ⟨[.ref l, .int x u], []⟩) (fun _ R s => s.heap.get? l = some { cls := .type "tuple", dict := dd, data := .seq items n, slots := sl } ∧
      R (.ok (.ret (Value.ref s.heap.objs.size))) { s with heap := s.heap.push { cls := Value.type "tuple", data := Data.seq #[] }, toks := s.toks }) :=
  .of_wp fun prog w A R s h => by
    obtain ⟨hp, g, d, tk, os⟩ := s
    obtain ⟨hl, h⟩ := h
    have f1 := AutoSeq1.idx_int
    wp_walk using wpAny_loadPart' hl
    repeat (first
      | (refine wpAny_ite_false (decide_eq_false (by rw [c0]; exact Bool.false_ne_true)) ?_; wp_walk using wpAny_loadPart' hl)
      | (refine wpAny_ite_false (decide_eq_false (by rw [c1]; exact Bool.false_ne_true)) ?_; wp_walk using wpAny_loadPart' hl)
      | (refine wpAny_ite_true (decide_eq_true (by rw [c2])) ?_; wp_walk using wpAny_loadPart' hl))
    exact ⟨_, rfl, h⟩
def rRepF (K : PySem.W.Frag) : R2 := fun x y H Q => ∃ l k xs, x = .ref l ∧ y = .int k ∧ SqT K H l xs ∧ xs ≠ [] ∧ -1000 ≤ k ∧ k ≤ 1000 ∧ xs.length ≤ 1000 ∧ (k = 1 → Q (.ref l) H) ∧ (k ≠ 1 → NewT H Q (List.replicate k.toNat xs).flatten)
theorem op_repF : OpR X (binaryOp .Mult) (rRepF X.K) := by
  intro pins s σ H x y v u Q I rx ry h
  obtain ⟨l, k, xs, rfl, rfl, hT, hne, h0, h1, hz, q1, q2⟩ := h
  cases rx
  obtain ⟨t, rfl⟩ := ry
  obtain ⟨its, r, ⟨⟨cls, dd, data, sl⟩, ho, hc, n, hd⟩, hs⟩ := I.tuple hT
  simp only at hc hd
  subst hc hd
  have hle : its.length = xs.length := r.length.symm
  have hn : its ≠ [] := fun e => hne (by
    rw [e] at hle
    exact List.eq_nil_of_length_eq_zero hle.symm)
  have hi : its.toArray.isEmpty = false := by
    cases its with
    | nil => exact absurd rfl hn
    | cons a b => rfl
  have c0 : (decide (k < -(2 ^ 63)) || decide (k ≥ 2 ^ 63)) = false := by
    rw [decide_eq_false (by omega), decide_eq_false (by omega)] <;> rfl
  by_cases e1 : k = 1
  · subst e1
    refine wpAny_binaryOp_repeat_ref (T := "tuple") (U := "int") (by decide) ⟨_, ho, rfl⟩ (fun s' => typeIs_int s' 1 t) noFill_tuple_mul F.fills_int_mul F.slot_int_rmul repeat_tuple F.slot_int_index.lookup
      (call_meets F.slot_int_rmul (typeIs_int s 1 t) F.entry_int_rmul (F.args_int_rmul_2 _ _) (int_rmul_tuple 1 t l its.toArray n dd sl)
        ⟨ho, rfl, ⟨_, ho, rfl⟩, call_meets F.slot_tuple_mul ⟨_, ho, rfl⟩ F.entry_tuple_mul (F.args_tuple_mul_2 _ _) (mul1 l its.toArray n dd sl t) ⟨ho, ?_⟩⟩)
    exact ⟨.ref l, H, I, rfl, q1 rfl⟩
  have c1 : (its.toArray.isEmpty || k == 1) = false := by
    rw [hi, Bool.false_or]
    exact beq_eq_false_iff_ne.mpr e1
  have flen : (List.replicate k.toNat its).flatten.length ≤ sizeLine := by
    rw [PyProof.Rows.lm_len_rep_flat, hle, sizeLine_eq]
    have a1 : k.toNat * xs.length ≤ 1000 * 1000 := Nat.mul_le_mul (by omega) hz
    omega
  have fl2 : (List.replicate k.toNat xs).flatten.length ≤ sizeLine := by
    rw [PyProof.Rows.lm_len_rep_flat, sizeLine_eq]
    have a1 : k.toNat * xs.length ≤ 1000 * 1000 := Nat.mul_le_mul (by omega) hz
    omega
  by_cases hk : 2 ≤ k
  · have hsz0 : its.toArray.size = xs.length := by rw [List.size_toArray, hle]
    have hm : ((its.toArray.size : Nat) : Int) * k ≤ 1000000 := by
      rw [hsz0]
      have a1 : ((xs.length : Nat) : Int) * k ≤ 1000 * k := Int.mul_le_mul_of_nonneg_right (by omega) (by omega)
      omega
    have c2 : (decide (k ≤ 0) || its.toArray.isEmpty) = false := by
      rw [hi, Bool.or_false]
      exact decide_eq_false (by omega)
    have c4 : Builtin.Tuple.tupleTooMany (((its.toArray.size : Nat) : Int) * k) = false := by
      unfold Builtin.Tuple.tupleTooMany
      rw [sizeLine_eq]
      exact decide_eq_false (by omega)
    refine wpAny_binaryOp_repeat_ref (T := "tuple") (U := "int") (by decide) ⟨_, ho, rfl⟩ (fun s' => typeIs_int s' k t) noFill_tuple_mul F.fills_int_mul F.slot_int_rmul repeat_tuple F.slot_int_index.lookup
      (call_meets F.slot_int_rmul (typeIs_int s k t) F.entry_int_rmul (F.args_int_rmul_2 _ _) (int_rmul_tuple k t l its.toArray n dd sl)
        ⟨ho, rfl, ⟨_, ho, rfl⟩, call_meets F.slot_tuple_mul ⟨_, ho, rfl⟩ F.entry_tuple_mul (F.args_tuple_mul_2 _ _) (tuple_mulW l its.toArray n dd sl k t c0 c1 c2 (by omega) c4 (by rw [size_rep, List.size_toArray]; exact flen)) ⟨ho, ?_⟩⟩)
    rw [size_rep]
    exact laidT (s := s) (h' := s.heap) I (r.rep k.toNat) fl2 (q2 e1)
  · have c2 : (decide (k ≤ 0) || its.toArray.isEmpty) = true := by
      rw [decide_eq_true (by omega), Bool.true_or]
    refine wpAny_binaryOp_repeat_ref (T := "tuple") (U := "int") (by decide) ⟨_, ho, rfl⟩ (fun s' => typeIs_int s' k t) noFill_tuple_mul F.fills_int_mul F.slot_int_rmul repeat_tuple F.slot_int_index.lookup
      (call_meets F.slot_int_rmul (typeIs_int s k t) F.entry_int_rmul (F.args_int_rmul_2 _ _) (int_rmul_tuple k t l its.toArray n dd sl)
        ⟨ho, rfl, ⟨_, ho, rfl⟩, call_meets F.slot_tuple_mul ⟨_, ho, rfl⟩ F.entry_tuple_mul (F.args_tuple_mul_2 _ _) (mul0 l its.toArray n dd sl k t c0 c1 c2) ⟨ho, ?_⟩⟩)
    have e0 : (List.replicate k.toNat xs).flatten = [] := by
      rw [show k.toNat = 0 by omega]
      rfl
    exact laidT (s := s) (h' := s.heap) (us := []) I .nil (Nat.zero_le _) (by rw [e0] at q2; exact q2 e1)
end
end T
set_option maxHeartbeats 4000000
namespace T
open PySem PySem.Spec PyProof.Rows L2
/-- what can't be said is stuck -/
def lift {α : Type} (o : Option α) : Res α := match o with
  | some x => .ok x
  | none => .stuck
theorem good_lift {α : Type} {o : Option α} {P : α → Prop} {Z : Exn → Prop} (h : good (lift o) P Z) : ∃ x, o = some x ∧ P x := by
  cases o with
  | none => exact h.elim
  | some x => exact ⟨x, rfl, h⟩
theorem Same.rfl' (H : Hp) : Same H H := fun _ _ h => h
section
variable {X : Cx} {B : Bs} {Z : Zt} {Γ : List Bd} {P : List Bd → Bd → Prop} {a b e : Expr} {pos : Pos}

/-! ## names, constants -/
theorem xm_var {α : Type} {c : Cd α} {x : α} (i : Nat) {n : Str} (hΓ : Γ[i]? = some (va c x) := by rfl) (hN : X.N[i]? = some n := by rfl)
    (hv : Vis X.env.scope n := by first | exact Or.inl rfl | exact Or.inr (Or.inl rfl) | exact Or.inr (Or.inr rfl)) (hd : (n == ("__debug__" : Str)) = false := by decide) (hcd : (n == ("__classdict__" : Str)) = false := by decide) : XM X B Z (.Name n pos) Γ c (.ok x) := by
  intro P p t σ H Q ⟨F, own, w, hs, ht⟩ q
  obtain ⟨v, e, r⟩ := hs.2 i _ hΓ
  exact wp_of_pe (pe_var hN hv hd hcd) ⟨v, slot_some e, q _ _ p v H (Sat.push w hs ht r)⟩
theorem xm_int {i : Int} {j} : XM X B Z (.Constant (.int i) j pos) Γ cInt (.ok i) := fun P p t σ H Q ⟨F, own, w, hs, ht⟩ q => wp_of_pe pe_int (q _ _ p _ H (Sat.push w hs ht rfl))
theorem xm_bool {k : Bool} {j} : XM X B Z (.Constant (.bool k) j pos) Γ cBool (.ok k) := fun P p t σ H Q ⟨F, own, w, hs, ht⟩ q => wp_of_pe pe_bl (q _ _ p _ H (Sat.push w hs ht rfl))
theorem xm_non {j} : XM X B Z (.Constant .none j pos) Γ cNon (.ok ()) := fun P p t σ H Q ⟨F, own, w, hs, ht⟩ q => wp_of_pe pe_non (q _ _ p _ H (Sat.push w hs ht rfl))
theorem xm_str {x : Str} {j} : XM X B Z (.Constant (.str x) j pos) Γ cStr (.ok x) := fun P p t σ H Q ⟨F, own, w, hs, ht⟩ q => wp_of_pe pe_str (q _ _ p _ H (Sat.push w hs ht rfl))
/-- a module's constant -/
theorem xm_glob {α : Type} {c : Cd α} {x : α} {n : Str} {v : V} {u : Value} (hg : Gl X n) (hm : X.mg n = some u) (r : RelV v u) (hc : ∀ K F, c.rp K F x v) (hd : (n == ("__debug__" : Str)) = false := by decide) : XM X B Z (.Name n pos) Γ c (.ok x) :=
  fun P p t σ H Q ⟨F, own, w, hs, ht⟩ q => wp_of_pe (pe_glob hg hm r hd) (q _ _ p _ H (Sat.push w hs ht (hc _ F)))
theorem xm_globI {n : Str} {i : Int} (hm : ∃ t, X.mg n = some (.int i t)) (hg : Gl X n := by rfl) (hd : (n == ("__debug__" : Str)) = false := by decide) : XM X B Z (.Name n pos) Γ cInt (.ok i) := by
  obtain ⟨t, hm⟩ := hm
  exact xm_glob hg hm (v := .int i) ⟨t, rfl⟩ (fun _ _ => rfl) hd

/-! ## an operation on values -/
def Op2 {α β γ : Type} (X : Cx) (B : Bs) (r : R2) (ca : Cd α) (cb : Cd β) (cc : Cd γ) (x : α) (y : β) (z : γ) : Prop :=
  ∀ F own H v w Q, Wd B F own H → ca.rp X.K F x v → cb.rp X.K F y w → (∀ F' H' u, Wd B F' own H' → Same F F' → Same H H' → cc.rp X.K F' z u → Q u H') → r v w H Q
def Op1 {α γ : Type} (X : Cx) (B : Bs) (r : V → Hp → VK → Prop) (ca : Cd α) (cc : Cd γ) (x : α) (z : γ) : Prop :=
  ∀ F own H v Q, Wd B F own H → ca.rp X.K F x v → (∀ F' H' u, Wd B F' own H' → Same F F' → Same H H' → cc.rp X.K F' z u → Q u H') → r v H Q
section
variable {α β γ : Type} {ca : Cd α} {cb : Cd β} {cc : Cd γ} {r : R2} {r1 : V → Hp → VK → Prop}
/-- e is an operation of a and b, as Op2 tells -/
def Is2 (X : Cx) (e a b : Expr) (r : R2) : Prop := ∀ ta tb, PE X a ta → PE X b tb → PE X e (tOp r ta tb)
def Is1 (X : Cx) (e a : Expr) (r : V → Hp → VK → Prop) : Prop := ∀ ta, PE X a ta → PE X e (tUn r ta)
theorem ev_op2 {k : α → β → Option γ} (hop : Is2 X e a b r) (hs : ∀ x y z, k x y = some z → Op2 X B r ca cb cc x y z)
    (h : EV X B a Γ (fun Γ1 b1 => ∃ x, b1 = va ca x ∧ EV X B b Γ1 (fun Γ2 b2 => ∃ y, b2 = va cb y ∧ ∃ z, k x y = some z ∧ P Γ2 (va cc z)))) : EV X B e Γ P := by
  intro t σ H Q s q
  refine wp_of_pe (hop _ _ pe_wp pe_wp) ?_
  refine h t σ H _ s fun Γ1 b1 ⟨x, e1, h1⟩ v H1 s1 => ?_
  subst e1
  refine h1 _ σ H1 _ s1 fun Γ2 b2 ⟨y, e2, z, hz, h2⟩ w H2 s2 => ?_
  subst e2
  obtain ⟨F, own, wd, hS, ⟨w', ew, rw'⟩, ⟨v', ev, rv⟩, hT⟩ := s2
  cases ew
  cases ev
  exact hs x y z hz F own H2 v w Q wd rv rw' fun F' H' u wd' sF sH ru => q _ _ h2 u H' (Sat.pushUp wd' sF sH hS hT ru)
theorem xm_op2 {k : α → β → Option γ} {ma : Res α} {mb : Res β} (hop : Is2 X e a b r) (hs : ∀ x y z, k x y = some z → Op2 X B r ca cb cc x y z)
    (ha : XM X B Z a Γ ca ma) (hb : XM X B Z b Γ cb mb) : XM X B Z e Γ cc (ma >>= fun x => mb >>= fun y => lift (k x y)) := fun P g =>
  ev_op2 hop hs (ha _ (good_imp (good_bind g) fun x gx => ⟨x, rfl, hb _ (good_imp (good_bind gx) fun y gy => ⟨y, rfl, good_lift gy⟩)⟩))
/-- nothing fails -/
theorem xp_op2 {x : α} {y : β} {z : γ} (hop : Is2 X e a b r) (hs : Op2 X B r ca cb cc x y z) (ha : XM X B Z a Γ ca (.ok x)) (hb : XM X B Z b Γ cb (.ok y)) : XM X B Z e Γ cc (.ok z) := fun P g => by
  intro t σ H Q s q
  refine wp_of_pe (hop _ _ pe_wp pe_wp) ?_
  refine ha (fun Γ' b' => Γ' = Γ ∧ b' = va ca x) ⟨rfl, rfl⟩ t σ H _ s fun Γ1 b1 ⟨e0, e1⟩ v H1 s1 => ?_
  subst e1 e0
  refine hb (fun Γ' b' => Γ' = Γ1 ∧ b' = va cb y) ⟨rfl, rfl⟩ _ σ H1 _ s1 fun Γ2 b2 ⟨e0, e2⟩ w H2 s2 => ?_
  subst e2 e0
  obtain ⟨F, own, wd, hS, ⟨w', ew, rw'⟩, ⟨v', ev, rv⟩, hT⟩ := s2
  cases ew
  cases ev
  exact hs F own H2 v w Q wd rv rw' fun F' H' u wd' sF sH ru => q _ _ g u H' (Sat.pushUp wd' sF sH hS hT ru)
theorem ev_op1 {k : α → Option γ} (hop : Is1 X e a r1) (hs : ∀ x z, k x = some z → Op1 X B r1 ca cc x z)
    (h : EV X B a Γ (fun Γ1 b1 => ∃ x, b1 = va ca x ∧ ∃ z, k x = some z ∧ P Γ1 (va cc z))) : EV X B e Γ P := by
  intro t σ H Q s q
  refine wp_of_pe (hop _ pe_wp) ?_
  refine h t σ H _ s fun Γ1 b1 ⟨x, e1, z, hz, h1⟩ v H1 s1 => ?_
  subst e1
  obtain ⟨F, own, wd, hS, ⟨v', ev, rv⟩, hT⟩ := s1
  cases ev
  exact hs x z hz F own H1 v Q wd rv fun F' H' u wd' sF sH ru => q _ _ h1 u H' (Sat.pushUp wd' sF sH hS hT ru)
theorem xm_op1 {k : α → Option γ} {ma : Res α} (hop : Is1 X e a r1) (hs : ∀ x z, k x = some z → Op1 X B r1 ca cc x z) (ha : XM X B Z a Γ ca ma) : XM X B Z e Γ cc (ma >>= fun x => lift (k x)) := fun P g =>
  ev_op1 hop hs (ha _ (good_imp (good_bind g) fun x gx => ⟨x, rfl, good_lift gx⟩))
theorem xp_op1 {x : α} {z : γ} (hop : Is1 X e a r1) (hs : Op1 X B r1 ca cc x z) (ha : XM X B Z a Γ ca (.ok x)) : XM X B Z e Γ cc (.ok z) := fun P g => by
  intro t σ H Q s q
  refine wp_of_pe (hop _ pe_wp) ?_
  refine ha (fun Γ' b' => Γ' = Γ ∧ b' = va ca x) ⟨rfl, rfl⟩ t σ H _ s fun Γ1 b1 ⟨e0, e1⟩ v H1 s1 => ?_
  subst e1 e0
  obtain ⟨F, own, wd, hS, ⟨v', ev, rv⟩, hT⟩ := s1
  cases ev
  exact hs F own H1 v Q wd rv fun F' H' u wd' sF sH ru => q _ _ g u H' (Sat.pushUp wd' sF sH hS hT ru)
end

/-! ## whole numbers -/
theorem op2_I0 {γ : Type} {cc : Cd γ} {g : Int → Int → V} {f : Int → Int → γ} (hg : ∀ i j K F, cc.rp K F (f i j) (g i j)) (x y : Int) : Op2 X B (rI0 g) cInt cInt cc x y (f x y) := fun F own H v w Q wd hv hw q =>
  ⟨x, y, hv, hw, q F H _ wd (Same.rfl' F) (Same.rfl' H) (hg x y _ F)⟩
theorem op2_I {γ : Type} {cc : Cd γ} {C : Int → Int → Prop} {g : Int → Int → V} {f : Int → Int → γ} (hg : ∀ i j K F, cc.rp K F (f i j) (g i j)) {x y : Int} (hc : C x y) : Op2 X B (rI C g) cInt cInt cc x y (f x y) := fun F own H v w Q wd hv hw q =>
  ⟨x, y, hv, hw, hc, q F H _ wd (Same.rfl' F) (Same.rfl' H) (hg x y _ F)⟩
section
variable {i j : Int} {mi mj : Res Int}
theorem xp_add (ha : XM X B Z a Γ cInt (.ok i)) (hb : XM X B Z b Γ cInt (.ok j)) : XM X B Z (.BinOp a .Add b pos) Γ cInt (.ok (i + j)) := xp_op2 (fun _ _ => pe_op op_add) (op2_I0 (f := fun i j => i + j) (fun _ _ _ _ => rfl) i j) ha hb
theorem xp_sub (ha : XM X B Z a Γ cInt (.ok i)) (hb : XM X B Z b Γ cInt (.ok j)) : XM X B Z (.BinOp a .Sub b pos) Γ cInt (.ok (i - j)) := xp_op2 (fun _ _ => pe_op op_sub) (op2_I0 (f := fun i j => i - j) (fun _ _ _ _ => rfl) i j) ha hb
theorem xm_add (ha : XM X B Z a Γ cInt mi) (hb : XM X B Z b Γ cInt mj) : XM X B Z (.BinOp a .Add b pos) Γ cInt (mi >>= fun i => mj >>= fun j => .ok (i + j)) :=
  xm_op2 (k := fun i j => some (i + j)) (fun _ _ => pe_op op_add) (fun i j z h => by cases h; exact op2_I0 (f := fun i j => i + j) (fun _ _ _ _ => rfl) i j) ha hb
theorem xm_sub (ha : XM X B Z a Γ cInt mi) (hb : XM X B Z b Γ cInt mj) : XM X B Z (.BinOp a .Sub b pos) Γ cInt (mi >>= fun i => mj >>= fun j => .ok (i - j)) :=
  xm_op2 (k := fun i j => some (i - j)) (fun _ _ => pe_op op_sub) (fun i j z h => by cases h; exact op2_I0 (f := fun i j => i - j) (fun _ _ _ _ => rfl) i j) ha hb
end
/-- a product: one factor below 2 ^ 64, or both below 2 ^ 400000 -/
def mulO (i j : Int) : Option Int := if (i.natAbs < 2 ^ 64 ∨ j.natAbs < 2 ^ 64) ∨ (i.natAbs.log2 < 400000 ∧ j.natAbs.log2 < 400000) then some (i * j) else none
def rMulA : R2 := fun x y H Q => rI CMul (fun i j => .int (i * j)) x y H Q ∨ rI CMulW (fun i j => .int (i * j)) x y H Q
theorem op_mulA : OpR X (binaryOp .Mult) rMulA := op_mul.or op_mulW
theorem op2_mul {x y z : Int} (h : mulO x y = some z) : Op2 X B rMulA cInt cInt cInt x y z := fun F own H v w Q wd hv hw q => by
  unfold mulO at h
  split at h
  · rename_i c
    cases h
    have q' := q F H _ wd (Same.rfl' F) (Same.rfl' H) rfl
    rcases c with c | c
    · refine .inl ⟨x, y, hv, hw, ?_, q'⟩
      rcases c with c | c
      · exact .inl (by omega)
      · exact .inr (by omega)
    · exact .inr ⟨x, y, hv, hw, by unfold CMulW; omega, q'⟩
  · cases h
theorem xm_mul {mi mj : Res Int} (ha : XM X B Z a Γ cInt mi) (hb : XM X B Z b Γ cInt mj) : XM X B Z (.BinOp a .Mult b pos) Γ cInt (mi >>= fun i => mj >>= fun j => lift (mulO i j)) := xm_op2 (fun _ _ => pe_op op_mulA) (fun _ _ _ h => op2_mul h) ha hb
theorem mulO_l {i j : Int} (h : i.natAbs < 2 ^ 64) : mulO i j = some (i * j) := if_pos (.inl (.inl h))
theorem mulO_r {i j : Int} (h : j.natAbs < 2 ^ 64) : mulO i j = some (i * j) := if_pos (.inl (.inr h))
/-- one factor a written number -/
theorem xp_mulL {i j : Int} (ha : XM X B Z a Γ cInt (.ok i)) (hb : XM X B Z b Γ cInt (.ok j)) (h : i.natAbs < 2 ^ 64 := by decide) : XM X B Z (.BinOp a .Mult b pos) Γ cInt (.ok (i * j)) := xp_op2 (fun _ _ => pe_op op_mulA) (op2_mul (mulO_l h)) ha hb
theorem xp_mulR {i j : Int} (ha : XM X B Z a Γ cInt (.ok i)) (hb : XM X B Z b Γ cInt (.ok j)) (h : j.natAbs < 2 ^ 64 := by decide) : XM X B Z (.BinOp a .Mult b pos) Γ cInt (.ok (i * j)) := xp_op2 (fun _ _ => pe_op op_mulA) (op2_mul (mulO_r h)) ha hb
/-- // by a number above 0 -/
def divO (i j : Int) : Option Int := if 0 < j ∧ j.natAbs.log2 < 9000 then some (i / j) else none
def modO (i j : Int) : Option Int := if 0 < j then some (i % j) else none
theorem op2_div {x y z : Int} (h : divO x y = some z) : Op2 X B (rI CDivW fun i j => .int (i / j)) cInt cInt cInt x y z := by
  unfold divO at h
  split at h
  · rename_i c
    cases h
    exact op2_I (f := fun i j => i / j) (fun _ _ _ _ => rfl) c
  · cases h
theorem op2_mod {x y z : Int} (h : modO x y = some z) : Op2 X B (rI (fun _ j => 0 < j) fun i j => .int (i % j)) cInt cInt cInt x y z := by
  unfold modO at h
  split at h
  · rename_i c
    cases h
    exact op2_I (C := fun _ j => 0 < j) (f := fun i j => i % j) (fun _ _ _ _ => rfl) c
  · cases h
theorem xm_div {mi mj : Res Int} (ha : XM X B Z a Γ cInt mi) (hb : XM X B Z b Γ cInt mj) : XM X B Z (.BinOp a .FloorDiv b pos) Γ cInt (mi >>= fun i => mj >>= fun j => lift (divO i j)) := xm_op2 (fun _ _ => pe_op op_fdivW) (fun _ _ _ h => op2_div h) ha hb
theorem xm_mod {mi mj : Res Int} (ha : XM X B Z a Γ cInt mi) (hb : XM X B Z b Γ cInt mj) : XM X B Z (.BinOp a .Mod b pos) Γ cInt (mi >>= fun i => mj >>= fun j => lift (modO i j)) := xm_op2 (fun _ _ => pe_op op_mod) (fun _ _ _ h => op2_mod h) ha hb
theorem xp_div {i j : Int} (ha : XM X B Z a Γ cInt (.ok i)) (hb : XM X B Z b Γ cInt (.ok j)) (h : 0 < j ∧ j.natAbs.log2 < 9000 := by decide) : XM X B Z (.BinOp a .FloorDiv b pos) Γ cInt (.ok (i / j)) := xp_op2 (fun _ _ => pe_op op_fdivW) (op2_div (if_pos h)) ha hb
theorem xp_mod {i j : Int} (ha : XM X B Z a Γ cInt (.ok i)) (hb : XM X B Z b Γ cInt (.ok j)) (h : 0 < j := by decide) : XM X B Z (.BinOp a .Mod b pos) Γ cInt (.ok (i % j)) := xp_op2 (fun _ _ => pe_op op_mod) (op2_mod (if_pos h)) ha hb
/-- written powers -/
theorem xp_pow {i j : Int} (ha : XM X B Z a Γ cInt (.ok i)) (hb : XM X B Z b Γ cInt (.ok j)) (h : 0 ≤ j ∧ j ≤ 1000000 ∧ i.natAbs < 2 ^ 64 := by decide) : XM X B Z (.BinOp a .Pow b pos) Γ cInt (.ok (i ^ j.toNat)) :=
  xp_op2 (fun _ _ => pe_op op_pow) (op2_I (C := CPow) (f := fun i j => i ^ j.toNat) (fun _ _ _ _ => rfl) h) ha hb
theorem xp_neg {i : Int} (ha : XM X B Z a Γ cInt (.ok i)) : XM X B Z (.UnaryOp .USub a pos) Γ cInt (.ok (-i)) := xp_op1 (fun _ => pe_un un_neg) (fun F own H v Q wd hv q => ⟨i, hv, q F H _ wd (Same.rfl' F) (Same.rfl' H) rfl⟩) ha
theorem xm_neg {mi : Res Int} (ha : XM X B Z a Γ cInt mi) : XM X B Z (.UnaryOp .USub a pos) Γ cInt (mi >>= fun i => .ok (-i)) :=
  xm_op1 (k := fun i => some (-i)) (fun _ => pe_un un_neg) (fun i z h => by cases h; exact fun F own H v Q wd hv q => ⟨i, hv, q F H _ wd (Same.rfl' F) (Same.rfl' H) rfl⟩) ha

/-! ## comparisons -/
section
variable {r : R2} {op : CmpOp} {α β : Type} {ca : Cd α} {cb : Cd β} {ma : Res α} {mb : Res β}
/-- a comparison's rule, as a test and as a value -/
structure Cmp (X : Cx) (B : Bs) (op : CmpOp) (r : R2) (ca : Cd α) (cb : Cd β) (k : α → β → Option Bool) : Prop where
  op : OpR X (compareOp op) r
  ok : ∀ x y z, k x y = some z → Op2 X B r ca cb cBool x y z
theorem xm_cmp {k : α → β → Option Bool} (C : Cmp X B op r ca cb k) (ha : XM X B Z a Γ ca ma) (hb : XM X B Z b Γ cb mb) (hm : behindInMarks op b = false := by first | exact nomark _ | rfl) :
    XM X B Z (.Compare a [op] [b] pos) Γ cBool (ma >>= fun x => mb >>= fun y => lift (k x y)) := xm_op2 (fun _ _ ha hb => pe_cmpR C.op ha hb hm) C.ok ha hb
theorem xp_cmp {k : α → β → Bool} {x : α} {y : β} (C : Cmp X B op r ca cb (fun x y => some (k x y))) (ha : XM X B Z a Γ ca (.ok x)) (hb : XM X B Z b Γ cb (.ok y)) (hm : behindInMarks op b = false := by first | exact nomark _ | rfl) :
    XM X B Z (.Compare a [op] [b] pos) Γ cBool (.ok (k x y)) := xp_op2 (fun _ _ ha hb => pe_cmpR C.op ha hb hm) (C.ok x y _ rfl) ha hb
theorem et_cmp {P : List Bd → Bool → Prop} {k : α → β → Option Bool} (C : Cmp X B op r ca cb k) (h : EV X B a Γ (fun Γ1 b1 => ∃ x, b1 = va ca x ∧ EV X B b Γ1 (fun Γ2 b2 => ∃ y, b2 = va cb y ∧ ∃ z, k x y = some z ∧ P Γ2 z)))
    (hm : behindInMarks op b = false := by first | exact nomark _ | rfl) : ET X B (.Compare a [op] [b] pos) Γ P := by
  intro t σ H Q s q
  refine wp_of_pt (pt_cmpR C.op pe_wp pe_wp hm) ?_
  refine h t σ H _ s fun Γ1 b1 ⟨x, e1, h1⟩ v H1 s1 => ?_
  subst e1
  refine h1 _ σ H1 _ s1 fun Γ2 b2 ⟨y, e2, z, hz, h2⟩ w H2 s2 => ?_
  subst e2
  obtain ⟨F, own, wd, hS, ⟨w', ew, rw'⟩, ⟨v', ev, rv⟩, hT⟩ := s2
  cases ew
  cases ev
  refine C.ok x y z hz F own H2 v w _ wd rv rw' fun F' H' u wd' sF sH ru => ⟨z, ru, q _ _ h2 H' ?_⟩
  exact ⟨F', own, wd', hS.up sF fun a i q => ⟨q, fun o e => sH a o e⟩, hT.up sF fun a i _ q => ⟨q, fun o e => sH a o e⟩⟩
theorem tm_cmp {k : α → β → Option Bool} (C : Cmp X B op r ca cb k) (ha : XM X B Z a Γ ca ma) (hb : XM X B Z b Γ cb mb) (hm : behindInMarks op b = false := by first | exact nomark _ | rfl) :
    TM X B Z (.Compare a [op] [b] pos) Γ (ma >>= fun x => mb >>= fun y => lift (k x y)) := fun P g =>
  et_cmp C (ha _ (good_imp (good_bind g) fun x gx => ⟨x, rfl, hb _ (good_imp (good_bind gx) fun y gy => ⟨y, rfl, good_lift gy⟩)⟩)) hm
theorem tp_cmp {k : α → β → Bool} {x : α} {y : β} (C : Cmp X B op r ca cb (fun x y => some (k x y))) (ha : XM X B Z a Γ ca (.ok x)) (hb : XM X B Z b Γ cb (.ok y)) (hm : behindInMarks op b = false := by first | exact nomark _ | rfl) :
    TM X B Z (.Compare a [op] [b] pos) Γ (.ok (k x y)) := tm_cmp C ha hb hm
end
theorem op2_same {γ α β : Type} {ca : Cd α} {cb : Cd β} {cc : Cd γ} {r : R2} {x : α} {y : β} {z : γ} {u : V} (h : ∀ F H v w Q, Same F H → ca.rp X.K F x v → cb.rp X.K F y w → Q u H → r v w H Q) (hu : ∀ F, cc.rp X.K F z u) : Op2 X B r ca cb cc x y z :=
  fun F own H v w Q wd hv hw q => h F H v w Q wd.fh hv hw (q F H _ wd (Same.rfl' F) (Same.rfl' H) (hu F))
theorem cmp_lt : Cmp X B .Lt (rI0 fun i j => .bl (decide (i < j))) cInt cInt (fun i j => some (decide (i < j))) := ⟨op_lt, fun x y z h => by cases h; exact op2_I0 (f := fun i j => decide (i < j)) (fun _ _ _ _ => rfl) x y⟩
theorem cmp_le : Cmp X B .LtE (rI0 fun i j => .bl (decide (i ≤ j))) cInt cInt (fun i j => some (decide (i ≤ j))) := ⟨op_le, fun x y z h => by cases h; exact op2_I0 (f := fun i j => decide (i ≤ j)) (fun _ _ _ _ => rfl) x y⟩
theorem cmp_gt : Cmp X B .Gt (rI0 fun i j => .bl (decide (j < i))) cInt cInt (fun i j => some (decide (j < i))) := ⟨op_gt, fun x y z h => by cases h; exact op2_I0 (f := fun i j => decide (j < i)) (fun _ _ _ _ => rfl) x y⟩
theorem cmp_ge : Cmp X B .GtE (rI0 fun i j => .bl (decide (j ≤ i))) cInt cInt (fun i j => some (decide (j ≤ i))) := ⟨op_ge, fun x y z h => by cases h; exact op2_I0 (f := fun i j => decide (j ≤ i)) (fun _ _ _ _ => rfl) x y⟩
/-- scalars: == by their equality -/
structure Scal {α : Type} [DecidableEq α] (c : Cd α) : Prop where
  val : ∀ x, ∃ v : V, (∀ K F w, c.rp K F x w → w = v)
  eq : ∀ x y K F v w, c.rp K F x v → c.rp K F y w → scal v w = true ∧ (decide (v = w) = decide (x = y))
theorem scal_int : Scal cInt := ⟨fun x => ⟨.int x, fun _ _ _ h => h⟩, fun x y K F v w hv hw => by
  have hv' : v = .int x := hv
  have hw' : w = .int y := hw
  subst hv' hw'
  exact ⟨rfl, decide_eq_decide.mpr ⟨fun h => by injection h, fun h => by rw [h]⟩⟩⟩
theorem scal_bool : Scal cBool := ⟨fun x => ⟨.bl x, fun _ _ _ h => h⟩, fun x y K F v w hv hw => by
  have hv' : v = .bl x := hv
  have hw' : w = .bl y := hw
  subst hv' hw'
  exact ⟨rfl, decide_eq_decide.mpr ⟨fun h => by injection h, fun h => by rw [h]⟩⟩⟩
theorem scal_str : Scal cStr := ⟨fun x => ⟨.str x, fun _ _ _ h => h⟩, fun x y K F v w hv hw => by
  have hv' : v = .str x := hv
  have hw' : w = .str y := hw
  subst hv' hw'
  exact ⟨rfl, decide_eq_decide.mpr ⟨fun h => by injection h, fun h => by rw [h]⟩⟩⟩
theorem cmp_eq {α : Type} [DecidableEq α] {c : Cd α} (S : Scal c) : Cmp X B .Eq rEq c c (fun x y => some (decide (x = y))) := ⟨op_eq, fun x y z h => by
  cases h
  intro F own H v w Q wd hv hw q
  obtain ⟨s1, s2⟩ := S.eq x y _ F v w hv hw
  refine ⟨s1, ?_⟩
  rw [s2]
  exact q F H _ wd (Same.rfl' F) (Same.rfl' H) rfl⟩
theorem cmp_ne {α : Type} [DecidableEq α] {c : Cd α} (S : Scal c) : Cmp X B .NotEq rNe c c (fun x y => some (!decide (x = y))) := ⟨op_ne, fun x y z h => by
  cases h
  intro F own H v w Q wd hv hw q
  obtain ⟨s1, s2⟩ := S.eq x y _ F v w hv hw
  refine ⟨s1, ?_⟩
  rw [s2]
  exact q F H _ wd (Same.rfl' F) (Same.rfl' H) rfl⟩

/-! ## tests -/
theorem et_val {P : List Bd → Bool → Prop} (h : EV X B e Γ (fun Γ1 b1 => ∃ k, b1 = va cBool k ∧ P Γ1 k)) (he : ∀ whole, isTrue e X.env whole = (do let v ← whole; standAt e.pos; holding [v] (truthy v)) := by intro _; rfl) : ET X B e Γ P := by
  intro t σ H Q s q
  refine wp_of_pt (pt_val pe_wp he) ?_
  refine h t σ H _ s fun Γ1 b1 ⟨k, e1, h1⟩ v H1 s1 => ?_
  subst e1
  obtain ⟨F, own, wd, hS, ⟨v', ev, rv⟩, hT⟩ := s1
  cases ev
  exact ⟨k, rv, q _ _ h1 H1 ⟨F, own, wd, hS, hT⟩⟩
theorem tm_val {m : Res Bool} (h : XM X B Z e Γ cBool m) (he : ∀ whole, isTrue e X.env whole = (do let v ← whole; standAt e.pos; holding [v] (truthy v)) := by intro _; rfl) : TM X B Z e Γ m := fun P g => et_val (h _ (good_imp g fun k p => ⟨k, rfl, p⟩)) he
theorem et_not {P : List Bd → Bool → Prop} (h : ET X B a Γ (fun Γ1 k => P Γ1 (!k))) : ET X B (.UnaryOp .Not a pos) Γ P := by
  intro t σ H Q s q
  exact wp_of_pt (pt_not pt_wp) (h t σ H _ s fun Γ1 k p H' s' => q Γ1 (!k) p H' s')
theorem tm_not {m : Res Bool} (h : TM X B Z a Γ m) : TM X B Z (.UnaryOp .Not a pos) Γ (m >>= fun k => .ok (!k)) := fun P g => et_not (h _ (good_bind g))
theorem tp_not {k : Bool} (h : TM X B Z a Γ (.ok k)) : TM X B Z (.UnaryOp .Not a pos) Γ (.ok (!k)) := tm_not h
section
variable {rest : List Expr} {P : List Bd → Bool → Prop}
theorem et_w (h : EW X B e Γ P) : ET X B e Γ P := fun t σ H Q s q => wp_of_pt (PW.pt pw_wp) (h t σ H Q s q)
theorem ew_and1 (h : ET X B a Γ P) : EW X B (.BoolOp .And [a] pos) Γ P := fun t σ H Q s q => wp_of_pw (pw_and1 pt_wp) (h t σ H Q s q)
theorem ew_or1 (h : ET X B a Γ P) : EW X B (.BoolOp .Or [a] pos) Γ P := fun t σ H Q s q => wp_of_pw (pw_or1 pt_wp) (h t σ H Q s q)
theorem ew_and (h : ET X B a Γ (fun Γ1 k => if k = true then EW X B (.BoolOp .And (b :: rest) pos) Γ1 P else P Γ1 false)) : EW X B (.BoolOp .And (a :: b :: rest) pos) Γ P := by
  intro t σ H Q s q
  refine wp_of_pw (pw_and pt_wp pw_wp) ?_
  refine h t σ H _ s fun Γ1 k p H' s' => ?_
  cases k with
  | true =>
    rw [if_pos rfl] at p ⊢
    exact p t σ H' Q s' q
  | false =>
    rw [if_neg Bool.false_ne_true] at p ⊢
    exact q Γ1 false p H' s'
theorem ew_or (h : ET X B a Γ (fun Γ1 k => if k = true then P Γ1 true else EW X B (.BoolOp .Or (b :: rest) pos) Γ1 P)) : EW X B (.BoolOp .Or (a :: b :: rest) pos) Γ P := by
  intro t σ H Q s q
  refine wp_of_pw (pw_or pt_wp pw_wp) ?_
  refine h t σ H _ s fun Γ1 k p H' s' => ?_
  cases k with
  | false =>
    rw [if_neg Bool.false_ne_true] at p ⊢
    exact p t σ H' Q s' q
  | true =>
    rw [if_pos rfl] at p ⊢
    exact q Γ1 true p H' s'
theorem tm_w {m : Res Bool} (h : WM X B Z e Γ m) : TM X B Z e Γ m := fun P g => et_w (h P g)
theorem wm_and1 {m : Res Bool} (h : TM X B Z a Γ m) : WM X B Z (.BoolOp .And [a] pos) Γ m := fun P g => ew_and1 (h P g)
theorem wm_or1 {m : Res Bool} (h : TM X B Z a Γ m) : WM X B Z (.BoolOp .Or [a] pos) Γ m := fun P g => ew_or1 (h P g)
theorem wm_and {m m' : Res Bool} (h : TM X B Z a Γ m) (h' : WM X B Z (.BoolOp .And (b :: rest) pos) Γ m') : WM X B Z (.BoolOp .And (a :: b :: rest) pos) Γ (m >>= fun k => if k = true then m' else .ok false) := fun P g =>
  ew_and (h _ (good_imp (good_bind g) fun k gk => by
    cases k with
    | true =>
      rw [if_pos rfl] at gk ⊢
      exact h' P gk
    | false =>
      rw [if_neg Bool.false_ne_true] at gk ⊢
      exact gk))
theorem wm_or {m m' : Res Bool} (h : TM X B Z a Γ m) (h' : WM X B Z (.BoolOp .Or (b :: rest) pos) Γ m') : WM X B Z (.BoolOp .Or (a :: b :: rest) pos) Γ (m >>= fun k => if k = true then .ok true else m') := fun P g =>
  ew_or (h _ (good_imp (good_bind g) fun k gk => by
    cases k with
    | false =>
      rw [if_neg Bool.false_ne_true] at gk ⊢
      exact h' P gk
    | true =>
      rw [if_pos rfl] at gk ⊢
      exact gk))
theorem wp_and {k k' : Bool} (h : TM X B Z a Γ (.ok k)) (h' : WM X B Z (.BoolOp .And (b :: rest) pos) Γ (.ok k')) : WM X B Z (.BoolOp .And (a :: b :: rest) pos) Γ (.ok (k && k')) := fun P g => by
  refine wm_and h h' P ?_
  cases k <;> exact g
theorem wp_or {k k' : Bool} (h : TM X B Z a Γ (.ok k)) (h' : WM X B Z (.BoolOp .Or (b :: rest) pos) Γ (.ok k')) : WM X B Z (.BoolOp .Or (a :: b :: rest) pos) Γ (.ok (k || k')) := fun P g => by
  refine wm_or h h' P ?_
  cases k <;> exact g
end
/-- and, or, not as values -/
theorem ev_and {rest : List Expr} (h : EV X B a Γ (fun Γ1 b1 => ∃ k, b1 = va cBool k ∧ if k = true then EV X B (.BoolOp .And (b :: rest) pos) Γ1 P else P Γ1 (va cBool false))) : EV X B (.BoolOp .And (a :: b :: rest) pos) Γ P := by
  intro t σ H Q s q
  refine wp_of_pe (pe_and pe_wp pe_wp) ?_
  refine h t σ H _ s fun Γ1 b1 ⟨k, e1, p⟩ v H1 s1 => ?_
  subst e1
  obtain ⟨F, own, wd, hS, ⟨v', ev, rv⟩, hT⟩ := s1
  cases ev
  refine ⟨k, rv, ?_⟩
  cases k with
  | true =>
    rw [if_pos rfl] at p ⊢
    exact p t σ H1 Q ⟨F, own, wd, hS, hT⟩ q
  | false =>
    rw [if_neg Bool.false_ne_true] at p ⊢
    exact q _ _ p _ H1 (Sat.push wd hS hT rfl)
theorem ev_or {rest : List Expr} (h : EV X B a Γ (fun Γ1 b1 => ∃ k, b1 = va cBool k ∧ if k = true then P Γ1 (va cBool true) else EV X B (.BoolOp .Or (b :: rest) pos) Γ1 P)) : EV X B (.BoolOp .Or (a :: b :: rest) pos) Γ P := by
  intro t σ H Q s q
  refine wp_of_pe (pe_or pe_wp pe_wp) ?_
  refine h t σ H _ s fun Γ1 b1 ⟨k, e1, p⟩ v H1 s1 => ?_
  subst e1
  obtain ⟨F, own, wd, hS, ⟨v', ev, rv⟩, hT⟩ := s1
  cases ev
  refine ⟨k, rv, ?_⟩
  cases k with
  | false =>
    rw [if_neg Bool.false_ne_true] at p ⊢
    exact p t σ H1 Q ⟨F, own, wd, hS, hT⟩ q
  | true =>
    rw [if_pos rfl] at p ⊢
    exact q _ _ p _ H1 (Sat.push wd hS hT rfl)
theorem ev_one {op} (h : EV X B a Γ P) : EV X B (.BoolOp op [a] pos) Γ P := fun t σ H Q s q => wp_of_pe (pe_one pe_wp) (h t σ H Q s q)
theorem xm_one {op} {α : Type} {c : Cd α} {m : Res α} (h : XM X B Z a Γ c m) : XM X B Z (.BoolOp op [a] pos) Γ c m := fun P g => ev_one (h P g)
theorem xm_and {rest : List Expr} {m m' : Res Bool} (h : XM X B Z a Γ cBool m) (h' : XM X B Z (.BoolOp .And (b :: rest) pos) Γ cBool m') : XM X B Z (.BoolOp .And (a :: b :: rest) pos) Γ cBool (m >>= fun k => if k = true then m' else .ok false) := fun P g =>
  ev_and (h _ (good_imp (good_bind g) fun k gk => ⟨k, rfl, by
    cases k with
    | true =>
      rw [if_pos rfl] at gk ⊢
      exact h' P gk
    | false =>
      rw [if_neg Bool.false_ne_true] at gk ⊢
      exact gk⟩))
theorem xm_or {rest : List Expr} {m m' : Res Bool} (h : XM X B Z a Γ cBool m) (h' : XM X B Z (.BoolOp .Or (b :: rest) pos) Γ cBool m') : XM X B Z (.BoolOp .Or (a :: b :: rest) pos) Γ cBool (m >>= fun k => if k = true then .ok true else m') := fun P g =>
  ev_or (h _ (good_imp (good_bind g) fun k gk => ⟨k, rfl, by
    cases k with
    | false =>
      rw [if_neg Bool.false_ne_true] at gk ⊢
      exact h' P gk
    | true =>
      rw [if_pos rfl] at gk ⊢
      exact gk⟩))
theorem xp_and {rest : List Expr} {k k' : Bool} (h : XM X B Z a Γ cBool (.ok k)) (h' : XM X B Z (.BoolOp .And (b :: rest) pos) Γ cBool (.ok k')) : XM X B Z (.BoolOp .And (a :: b :: rest) pos) Γ cBool (.ok (k && k')) := fun P g => by
  refine xm_and h h' P ?_
  cases k <;> exact g
theorem xp_or {rest : List Expr} {k k' : Bool} (h : XM X B Z a Γ cBool (.ok k)) (h' : XM X B Z (.BoolOp .Or (b :: rest) pos) Γ cBool (.ok k')) : XM X B Z (.BoolOp .Or (a :: b :: rest) pos) Γ cBool (.ok (k || k')) := fun P g => by
  refine xm_or h h' P ?_
  cases k <;> exact g
theorem ev_not (h : EV X B a Γ (fun Γ1 b1 => ∃ k, b1 = va cBool k ∧ P Γ1 (va cBool (!k)))) : EV X B (.UnaryOp .Not a pos) Γ P := by
  intro t σ H Q s q
  refine wp_of_pe (pe_not pe_wp) ?_
  refine h t σ H _ s fun Γ1 b1 ⟨k, e1, p⟩ v H1 s1 => ?_
  subst e1
  obtain ⟨F, own, wd, hS, ⟨v', ev, rv⟩, hT⟩ := s1
  cases ev
  exact ⟨k, rv, q _ _ p _ H1 (Sat.push wd hS hT rfl)⟩
theorem xm_not {m : Res Bool} (h : XM X B Z a Γ cBool m) : XM X B Z (.UnaryOp .Not a pos) Γ cBool (m >>= fun k => .ok (!k)) := fun P g => ev_not (h _ (good_imp (good_bind g) fun k gk => ⟨k, rfl, gk⟩))
theorem xp_not {k : Bool} (h : XM X B Z a Γ cBool (.ok k)) : XM X B Z (.UnaryOp .Not a pos) Γ cBool (.ok (!k)) := xm_not h
/-- a if c else b -/
theorem ev_if {c : Expr} (h : ET X B c Γ (fun Γ1 k => if k = true then EV X B a Γ1 P else EV X B b Γ1 P)) : EV X B (.IfExp c a b pos) Γ P := by
  intro t σ H Q s q
  refine wp_of_pe (pe_ifExp pt_wp pe_wp pe_wp) ?_
  refine h t σ H _ s fun Γ1 k p H1 s1 => ?_
  cases k with
  | false =>
    rw [if_neg Bool.false_ne_true] at p ⊢
    exact p t σ H1 Q s1 q
  | true =>
    rw [if_pos rfl] at p ⊢
    exact p t σ H1 Q s1 q
theorem xm_if {α : Type} {cd : Cd α} {c : Expr} {m : Res Bool} {ma mb : Res α} (h : TM X B Z c Γ m) (ha : XM X B Z a Γ cd ma) (hb : XM X B Z b Γ cd mb) : XM X B Z (.IfExp c a b pos) Γ cd (m >>= fun k => if k = true then ma else mb) := fun P g =>
  ev_if (h _ (good_imp (good_bind g) fun k gk => by
    cases k with
    | false =>
      rw [if_neg Bool.false_ne_true] at gk ⊢
      exact hb P gk
    | true =>
      rw [if_pos rfl] at gk ⊢
      exact ha P gk))
theorem xp_if {α : Type} {cd : Cd α} {c : Expr} {k : Bool} {x y : α} (h : TM X B Z c Γ (.ok k)) (ha : XM X B Z a Γ cd (.ok x)) (hb : XM X B Z b Γ cd (.ok y)) : XM X B Z (.IfExp c a b pos) Γ cd (.ok (if k = true then x else y)) := fun P g => by
  refine xm_if h ha hb P ?_
  cases k <;> exact g
/-- x < y <= z -/
theorem xp_chain {op op' : CmpOp} {r r' : R2} {α β γ : Type} {ca : Cd α} {cb : Cd β} {cc : Cd γ} {k : α → β → Bool} {k' : β → γ → Bool} {c : Expr} {x : α} {y : β} {z : γ} (C : Cmp X B op r ca cb (fun x y => some (k x y))) (C' : Cmp X B op' r' cb cc (fun x y => some (k' x y)))
    (ha : XM X B Z a Γ ca (.ok x)) (hb : XM X B Z b Γ cb (.ok y)) (hc : XM X B Z c Γ cc (.ok z)) (hm : lastMarks [op, op'] [b, c] = false := by with_unfolding_all rfl) : TM X B Z (.Compare a [op, op'] [b, c] pos) Γ (.ok (k x y && k' y z)) := by
  intro P g t σ H Q s q
  refine wp_of_pt (pt_chain C.op C'.op pe_wp pe_wp pe_wp hm) ?_
  refine ha (fun Γ' b' => Γ' = Γ ∧ b' = va ca x) ⟨rfl, rfl⟩ t σ H _ s fun Γ1 b1 ⟨e0, e1⟩ v H1 s1 => ?_
  subst e1 e0
  refine hb (fun Γ' b' => Γ' = Γ1 ∧ b' = va cb y) ⟨rfl, rfl⟩ _ σ H1 _ s1 fun Γ2 b2 ⟨e0, e2⟩ w H2 s2 => ?_
  subst e2 e0
  obtain ⟨F, own, wd, hS, ⟨w', ew, rw'⟩, ⟨v', ev, rv⟩, hT⟩ := s2
  cases ew
  cases ev
  refine C.ok x y _ rfl F own H2 v w _ wd rv rw' fun F' H' u wd' sF sH ru => ⟨k x y, ru, ?_⟩
  have s3 : Sat X.K B ((w, va cb y) :: t) σ Γ2 H' := Sat.pushUp wd' sF sH hS hT (cb.up sF rw')
  cases hk : k x y with
  | false =>
    rw [if_neg Bool.false_ne_true]
    obtain ⟨F3, own3, wd3, hS3, _, hT3⟩ := s3
    exact ⟨false, rfl, q _ _ (by rw [hk] at g; exact g) H' ⟨F3, own3, wd3, hS3, hT3⟩⟩
  | true =>
    rw [if_pos rfl]
    refine hc (fun Γ' b' => Γ' = Γ2 ∧ b' = va cc z) ⟨rfl, rfl⟩ _ σ H' _ s3 fun Γ3 b3 ⟨e0, e3⟩ u' H3 s4 => ?_
    subst e3 e0
    obtain ⟨F4, own4, wd4, hS4, ⟨u'', eu, ru'⟩, ⟨w'', ew, rw''⟩, hT4⟩ := s4
    cases eu
    cases ew
    refine C'.ok y z _ rfl F4 own4 H3 w u' _ wd4 rw'' ru' fun F5 H5 u5 wd5 sF5 sH5 ru5 => ⟨k' y z, ru5, q _ _ (by rw [hk] at g; exact g) H5 ?_⟩
    exact ⟨F5, own4, wd5, hS4.up sF5 fun a i q => ⟨q, fun o e => sH5 a o e⟩, hT4.up sF5 fun a i _ q => ⟨q, fun o e => sH5 a o e⟩⟩
end
end T
set_option maxHeartbeats 4000000
namespace T
open PySem PySem.Spec PyProof.Rows L2

/-! ## argument lists -/
inductive Ag where
  | tmp (b : Bd) | bor (i : Nat)
inductive Args (σ : L2.St) : List (V × Bd) → List Ag → List V → List (V × Bd) → Prop
  | nil {t} : Args σ t [] [] t
  | tmp {t v b as vs t'} : Args σ ((v, b) :: t) as vs t' → Args σ t (.tmp b :: as) (v :: vs) t'
  | bor {t v i as vs t'} : slot σ i = some v → Args σ t as vs t' → Args σ t (.bor i :: as) (v :: vs) t'
def EA (X : Cx) (B : Bs) (es : List Expr) (Γ : List Bd) (P : List Bd → List Ag → Prop) : Prop :=
  ∀ t σ H Q, Sat X.K B t σ Γ H → (∀ Γ' as, P Γ' as → ∀ vs H' t', Args σ t as vs t' → Sat X.K B t' σ Γ' H' → Q vs H') → wpA X es σ H Q
section
variable {X : Cx} {B : Bs} {Z : Zt} {Γ : List Bd} {e : Expr} {es : List Expr} {P : List Bd → List Ag → Prop}
theorem ea_nil (h : P Γ []) : EA X B [] Γ P := fun t σ H Q s q => wp_of_pa pa_nil (q _ _ h [] H t .nil s)
theorem ea_tmp (h : EV X B e Γ (fun Γ1 b => EA X B es Γ1 (fun Γ2 as => P Γ2 (.tmp b :: as)))) (hs : starEach (e :: es) X.env = (false, eval e X.env) :: starEach es X.env := by rfl) : EA X B (e :: es) Γ P := by
  intro t σ H Q s q
  refine wp_of_pa (pa_cons pe_wp pa_wp hs) ?_
  refine h t σ H _ s fun Γ1 b h1 v H1 s1 => ?_
  exact h1 _ σ H1 _ s1 fun Γ2 as h2 vs H2 t' a2 s2 => q _ _ h2 _ H2 t' (.tmp a2) s2
theorem ea_bor {β : Type} {k : Oc β} {x : β} {n : Str} {pos : Pos} (i : Nat) (hΓ : Γ[i]? = some (ow k x)) (h : EA X B es Γ (fun Γ2 as => P Γ2 (.bor i :: as))) (hN : X.N[i]? = some n := by rfl)
    (hv : Vis X.env.scope n := by first | exact Or.inl rfl | exact Or.inr (Or.inl rfl) | exact Or.inr (Or.inr rfl)) (hd : (n == ("__debug__" : Str)) = false := by decide) (hcd : (n == ("__classdict__" : Str)) = false := by decide)
    (hs : starEach (.Name n pos :: es) X.env = (false, eval (.Name n pos) X.env) :: starEach es X.env := by rfl) : EA X B (.Name n pos :: es) Γ P := by
  intro t σ H Q s q
  refine wp_of_pa (pa_cons (pe_var hN hv hd hcd) pa_wp hs) ?_
  have s' := s
  obtain ⟨F, own, w, hS, hT⟩ := s'
  obtain ⟨a, ea, _⟩ := hS.2 i _ hΓ
  exact ⟨.ref a, slot_some ea, h t σ H _ s fun Γ2 as h2 vs H2 t' a2 s2 => q _ _ h2 _ H2 t' (.bor ea a2) s2⟩
end
def bdsOf (Γ : List Bd) : List Ag → List Bd
  | [] => []
  | .tmp b :: as => b :: bdsOf Γ as
  | .bor i :: as => (Γ[i]?).getD un :: bdsOf Γ as
def borOf : List Ag → List Nat
  | [] => []
  | .tmp _ :: as => borOf as
  | .bor i :: as => i :: borOf as
def back : List Bd → List Ag → List Bd → List Bd
  | Γ, .bor i :: as, o :: os => back (Γ.set i o) as os
  | Γ, .tmp _ :: as, _ :: os => back Γ as os
  | Γ, _, _ => Γ
def kill : List Bd → List Ag → List Bd
  | Γ, .bor i :: as => kill (Γ.set i un) as
  | Γ, .tmp _ :: as => kill Γ as
  | Γ, [] => Γ
def labs : Nat → List Ag → List Lb
  | _, [] => []
  | d, .tmp _ :: as => .inr d :: labs (d + 1) as
  | d, .bor i :: as => .inl i :: labs d as
section
variable {K : Fg} {F H : Hp} {own : Ow} {σ : L2.St} {Γ : List Bd}
theorem Args.sub {t as vs t'} (h : Args σ t as vs t') : HoldT K F H own t' → HoldT K F H own t := by
  induction h with
  | nil => exact fun h => h
  | tmp _ ih => exact fun h => (ih h).2
  | bor _ _ ih => exact ih
theorem Args.hold {t as vs t'} (h : Args σ t as vs t') (hS : HoldS K F H own σ Γ) (hT : HoldT K F H own t') : ∀ (j : Nat) (b : Bd), (bdsOf Γ as)[j]? = some b → ∃ (l : Lb) (v : V), (labs t.length as)[j]? = some l ∧ vs[j]? = some v ∧ b.hold K F H (some v) (fun a => own a = some l) := by
  induction h with
  | nil =>
    intro j b e
    cases e
  | @tmp t v b as vs t' ha ih =>
    intro j b' e
    cases j with
    | zero =>
      have e' : b = b' := Option.some.inj e
      subst e'
      exact ⟨_, v, rfl, rfl, (ha.sub hT).1⟩
    | succ j => exact ih hT j b' e
  | @bor t v i as vs t' ev ha ih =>
    intro j b' e
    cases j with
    | zero =>
      have e' : (Γ[i]?).getD un = b' := Option.some.inj e
      subst e'
      refine ⟨_, v, rfl, rfl, ?_⟩
      cases hg : Γ[i]? with
      | none => exact trivial
      | some b =>
        have := hS.2 i b hg
        rw [ev] at this
        exact this
    | succ j => exact ih hT j b' e
theorem Args.len {t as vs t'} (h : Args σ t as vs t') : vs.length = as.length := by
  induction h with
  | nil => rfl
  | tmp _ ih => exact congrArg Nat.succ ih
  | bor _ _ ih => exact congrArg Nat.succ ih
theorem bdsOf_len : ∀ {as : List Ag}, (bdsOf Γ as).length = as.length
  | [] => rfl
  | .tmp _ :: as => congrArg Nat.succ (bdsOf_len (as := as))
  | .bor _ :: as => congrArg Nat.succ (bdsOf_len (as := as))
end
theorem labs_len : ∀ {as : List Ag} {d : Nat}, (labs d as).length = as.length
  | [], _ => rfl
  | .tmp _ :: as, d => congrArg Nat.succ (labs_len (as := as))
  | .bor _ :: as, d => congrArg Nat.succ (labs_len (as := as))
theorem labs_inr : ∀ {as : List Ag} {d k : Nat}, Sum.inr k ∈ labs d as → d ≤ k
  | .tmp _ :: as, d, k, h => by
    rcases List.mem_cons.mp h with e | h
    · injection e with e
      omega
    · have := labs_inr h
      omega
  | .bor _ :: as, d, k, h => by
    rcases List.mem_cons.mp h with e | h
    · cases e
    · exact labs_inr h
theorem labs_inl : ∀ {as : List Ag} {d i : Nat}, Sum.inl i ∈ labs d as ↔ i ∈ borOf as
  | [], _, _ => by simp [labs, borOf]
  | .tmp _ :: as, d, i => by simp [labs, borOf, labs_inl (as := as)]
  | .bor _ :: as, d, i => by simp [labs, borOf, labs_inl (as := as)]
theorem labs_nd : ∀ {as : List Ag} {d : Nat}, (borOf as).Nodup → (labs d as).Nodup
  | [], _, _ => List.nodup_nil
  | .tmp _ :: as, d, h => List.nodup_cons.mpr ⟨fun q => by have := labs_inr q; omega, labs_nd (as := as) h⟩
  | .bor i :: as, d, h => List.nodup_cons.mpr ⟨fun q => (List.nodup_cons.mp h).1 (labs_inl.mp q), labs_nd (as := as) (List.nodup_cons.mp h).2⟩
/-- the callee's labels -/
def ixOf [DecidableEq Lb] : List Lb → Lb → Option Nat
  | [], _ => none
  | x :: l, y => if x = y then some 0 else (ixOf l y).map (· + 1)
theorem ixOf_some : ∀ {l : List Lb} {y : Lb} {j : Nat}, ixOf l y = some j → l[j]? = some y
  | x :: l, y, j, h => by
    unfold ixOf at h
    split at h
    · cases h
      rename_i e
      rw [e]
      rfl
    · cases q : ixOf l y with
      | none =>
        rw [q] at h
        cases h
      | some i =>
        rw [q] at h
        cases h
        show l[i]? = some y
        exact ixOf_some q
theorem ixOf_of : ∀ {l : List Lb} {y : Lb} {j : Nat}, l.Nodup → l[j]? = some y → ixOf l y = some j
  | x :: l, y, 0, _, h => by
    have e : x = y := Option.some.inj h
    unfold ixOf
    rw [if_pos e]
  | x :: l, y, j + 1, nd, h => by
    have h' : l[j]? = some y := h
    unfold ixOf
    rw [if_neg (fun e => (List.nodup_cons.mp nd).1 (by rw [e]; exact List.mem_of_getElem? h')), ixOf_of (List.nodup_cons.mp nd).2 h']
    rfl
theorem ixOf_mem {l : List Lb} {y : Lb} (h : ixOf l y = none) : y ∉ l := fun q => by
  induction l with
  | nil => cases q
  | cons x l ih =>
    unfold ixOf at h
    split at h
    · cases h
    · rename_i e
      cases z : ixOf l y with
      | none =>
        rcases List.mem_cons.mp q with r | r
        · exact e r.symm
        · exact ih z r
      | some i =>
        rw [z] at h
        cases h
def inOwn (L : List Lb) (own : Ow) : Ow := fun a => match own a with
  | some l => (ixOf L l).map .inl
  | none => none
theorem inOwn_some {L : List Lb} {own : Ow} {a : Addr} {x : Lb} (h : inOwn L own a = some x) : ∃ l j, own a = some l ∧ x = .inl j ∧ L[j]? = some l := by
  unfold inOwn at h
  cases e : own a with
  | none =>
    rw [e] at h
    cases h
  | some l =>
    rw [e] at h
    dsimp only at h
    cases q : ixOf L l with
    | none =>
      rw [q] at h
      cases h
    | some j =>
      rw [q] at h
      cases h
      exact ⟨l, j, rfl, rfl, ixOf_some q⟩
theorem inOwn_of {L : List Lb} {own : Ow} {a : Addr} {l : Lb} {j : Nat} (nd : L.Nodup) (h : own a = some l) (e : L[j]? = some l) : inOwn L own a = some (.inl j) := by
  unfold inOwn
  rw [h]
  dsimp only
  rw [ixOf_of nd e]
  rfl
theorem inOwn_none {L : List Lb} {own : Ow} {a : Addr} {l : Lb} (h : own a = some l) (n : l ∉ L) : inOwn L own a = none := by
  unfold inOwn
  rw [h]
  dsimp only
  cases q : ixOf L l with
  | none => rfl
  | some j => exact absurd (List.mem_of_getElem? (ixOf_some q)) n

/-! ## what a def promises -/
/-- an exception that leaves a def -/
def Left (K : Fg) (mg : Str → Option Value) (B : Bs) (e : Exn) (cls : Value) (d : Option Addr) (H : Hp) : Prop :=
  ∃ (C dd : Addr) (v : V) (F : Hp) (own : Ow), cls = .ref C ∧ mg e.cls = some (.ref C) ∧ d = some dd ∧ Wd B F own H ∧ F dd = some (.xd [(("what" : Str), v)]) ∧ Dp K F v e.what
def bsOf (F H : Hp) (own : Ow) : Bs := { F := F, H := H, S := fun a => ∃ l, own a = some l }
structure Fn (α ρ : Type) where
  ins : α → List Bd
  m : α → Res ρ
  outs : α → ρ → List Bd
  ret : α → ρ → Bd
def spOf {α ρ : Type} (K : Fg) (mg : Str → Option Value) (f : Fn α ρ) : Sp := fun vs H Q E => ∃ (x : α) (F : Hp) (own : Ow), Wd (bsOf F H own) F own H ∧ HoldS K F H own (vs.map some) (f.ins x) ∧
  good (f.m x) (fun r => ∀ v H', Sat K (bsOf F H own) [(v, f.ret x r)] (vs.map some) (f.outs x r) H' → Q v H') (fun ex => ∀ cls d H', Left K mg (bsOf F H own) ex cls d H' → E cls d H')
theorem Wd.self {B : Bs} {F H : Hp} {own : Ow} (w : Wd B F own H) : Wd (bsOf F H own) F own H := ⟨w.fh, w.fo, w.oh, fun _ _ h => h, fun a o e => .inl ⟨o, e⟩, fun a l e => .inr ⟨l, e⟩, fun _ _ _ e => e⟩
theorem Wd.part {B : Bs} {F H : Hp} {own : Ow} {L : List Lb} (w : Wd B F own H) : Wd (bsOf F H (inOwn L own)) F (inOwn L own) H :=
  (w.relab (own' := inOwn L own) fun a l e => by
    obtain ⟨l', j, h, _⟩ := inOwn_some e
    exact ⟨l', h⟩).self

/-- the caller's owners behind a call -/
def outOwn (L : List Lb) (as : List Ag) (d : Nat) (own own' : Ow) : Ow := fun a => match own' a with
  | some (.inl j) => (match as[j]? with
    | some (.bor i) => some (.inl i)
    | _ => none)
  | some (.inr 0) => some (.inr d)
  | some (.inr _) => none
  | none => (match inOwn L own a with
    | some _ => none
    | none => own a)
section
variable {B : Bs} {F F' H H' : Hp} {own own' : Ow} {L : List Lb} {as : List Ag} {d : Nat}
theorem outOwn_cases {a : Addr} {l : Lb} (h : outOwn L as d own own' a = some l) : (∃ j i, own' a = some (.inl j) ∧ as[j]? = some (.bor i) ∧ l = .inl i) ∨ (own' a = some (.inr 0) ∧ l = .inr d) ∨ (own' a = none ∧ inOwn L own a = none ∧ own a = some l) := by
  unfold outOwn at h
  split at h
  · rename_i j e
    split at h
    · rename_i i e2
      cases h
      exact .inl ⟨j, i, e, e2, rfl⟩
    · cases h
  · rename_i e
    cases h
    exact .inr (.inl ⟨e, rfl⟩)
  · cases h
  · rename_i e
    split at h
    · cases h
    · rename_i e2
      exact .inr (.inr ⟨e, e2, h⟩)
/-- behind a callee -/
theorem Wd.call (w : Wd B F own H) (w' : Wd (bsOf F H (inOwn L own)) F' own' H') : Wd B F' (outOwn L as d own own') H' where
  fh := w'.fh
  fo := fun a o e => by
    have z := w'.fo a o e
    cases q : outOwn L as d own own' a with
    | none => rfl
    | some l =>
      exfalso
      rcases outOwn_cases q with ⟨j, i, r, _⟩ | ⟨r, _⟩ | ⟨_, r2, r3⟩
      · rw [z] at r
        cases r
      · rw [z] at r
        cases r
      · rcases w'.b2 a o e with ⟨o', h⟩ | h | ⟨l', h⟩
        · have h' : F a = some o' := h
          rw [w.fo a o' h'] at r3
          cases r3
        · obtain ⟨o2, h2⟩ := w.oh a l r3
          have h' : H a = none := h
          rw [h2] at h'
          cases h'
        · rw [r2] at h
          cases h
  oh := fun a l e => by
    rcases outOwn_cases e with ⟨j, i, r, _⟩ | ⟨r, _⟩ | ⟨_, r2, r3⟩
    · exact w'.oh a _ r
    · exact w'.oh a _ r
    · obtain ⟨o, h⟩ := w.oh a l r3
      exact ⟨o, w'.b4 a o (fun ⟨l', z⟩ => by rw [r2] at z; cases z) h⟩
  b1 := fun a o e => w'.b1 a o (w.b1 a o e)
  b2 := fun a o e => by
    rcases w'.b2 a o e with ⟨o', h⟩ | h | ⟨l', h⟩
    · exact w.b2 a o' h
    · exact .inr (w.new_b h)
    · obtain ⟨l, j, h1, _⟩ := inOwn_some h
      exact .inr (w.b3 a l h1)
  b3 := fun a l e => by
    have back : ∀ x, own' a = some x → B.H a = none ∨ B.S a := fun x r => by
      rcases w'.b3 a x r with h | ⟨l', h⟩
      · exact w.new_b h
      · obtain ⟨l2, j, h1, _⟩ := inOwn_some h
        exact w.b3 a l2 h1
    rcases outOwn_cases e with ⟨j, i, r, _⟩ | ⟨r, _⟩ | ⟨_, r2, r3⟩
    · exact back _ r
    · exact back _ r
    · exact w.b3 a l r3
  b4 := fun a o s e => by
    have h := w.b4 a o s e
    refine w'.b4 a o (fun ⟨l', z⟩ => ?_) h
    obtain ⟨l2, j, h1, _⟩ := inOwn_some z
    rcases w.b3 a l2 h1 with r | r
    · rw [e] at r
      cases r
    · exact s r
/-- what the callee does not own stands -/
theorem Wd.call_keep (w : Wd B F own H) (w' : Wd (bsOf F H (inOwn L own)) F' own' H') {a : Addr} {l : Lb} (e : own a = some l) (n : l ∉ L) : outOwn L as d own own' a = some l ∧ ∀ o, H a = some o → H' a = some o := by
  have i := inOwn_none e n
  have ns : ¬ (bsOf F H (inOwn L own)).S a := fun ⟨l', z⟩ => by
    rw [i] at z
    cases z
  have on : own' a = none := by
    cases q : own' a with
    | none => rfl
    | some x =>
      exfalso
      rcases w'.b3 a x q with h | h
      · obtain ⟨o, ho⟩ := w.oh a l e
        have h' : H a = none := h
        rw [ho] at h'
        cases h'
      · exact ns h
  refine ⟨?_, fun o h => w'.b4 a o ns h⟩
  unfold outOwn
  rw [on]
  dsimp only
  rw [i]
  exact e
end
section
variable {σ : L2.St}
theorem back_len : ∀ {as : List Ag} {Γ os : List Bd}, (back Γ as os).length = Γ.length
  | [], Γ, os => by
    cases os <;> rfl
  | .bor i :: as, Γ, [] => rfl
  | .tmp _ :: as, Γ, [] => rfl
  | .bor i :: as, Γ, o :: os => by
    show (back (Γ.set i o) as os).length = _
    rw [back_len, List.length_set]
  | .tmp _ :: as, Γ, o :: os => back_len (as := as)
theorem back_at : ∀ {as : List Ag} {Γ os : List Bd} {i : Nat} {b : Bd}, (borOf as).Nodup → (back Γ as os)[i]? = some b → (i ∉ borOf as ∧ Γ[i]? = some b) ∨ (∃ j : Nat, as[j]? = some (.bor i) ∧ os[j]? = some b) ∨ (i ∈ borOf as ∧ os.length < as.length)
  | [], Γ, os, i, b, _, h => by
    refine .inl ⟨by simp [borOf], ?_⟩
    cases os <;> exact h
  | .bor k :: as, Γ, [], i, b, _, h => by
    by_cases q : i ∈ borOf (.bor k :: as)
    · exact .inr (.inr ⟨q, Nat.succ_pos _⟩)
    · exact .inl ⟨q, h⟩
  | .tmp _ :: as, Γ, [], i, b, _, h => by
    by_cases q : i ∈ borOf as
    · exact .inr (.inr ⟨q, Nat.succ_pos _⟩)
    · exact .inl ⟨q, h⟩
  | .tmp _ :: as, Γ, o :: os, i, b, nd, h => by
    rcases back_at (as := as) nd h with r | ⟨j, r1, r2⟩ | ⟨r1, r2⟩
    · exact .inl r
    · exact .inr (.inl ⟨j + 1, r1, r2⟩)
    · exact .inr (.inr ⟨r1, Nat.succ_lt_succ r2⟩)
  | .bor k :: as, Γ, o :: os, i, b, nd, h => by
    have nd' := List.nodup_cons.mp nd
    rcases back_at (as := as) nd'.2 h with ⟨r1, r2⟩ | ⟨j, r1, r2⟩ | ⟨r1, r2⟩
    · by_cases q : k = i
      · subst q
        by_cases hl : k < Γ.length
        · rw [List.getElem?_set_self hl] at r2
          exact .inr (.inl ⟨0, rfl, r2⟩)
        · rw [List.getElem?_eq_none (by rw [List.length_set]; omega)] at r2
          cases r2
      · rw [List.getElem?_set_ne q] at r2
        exact .inl ⟨fun z => (List.mem_cons.mp z).elim (fun z => q z.symm) r1, r2⟩
    · exact .inr (.inl ⟨j + 1, r1, r2⟩)
    · exact .inr (.inr ⟨List.mem_cons_of_mem _ r1, Nat.succ_lt_succ r2⟩)
theorem kill_at : ∀ {as : List Ag} {Γ : List Bd} {i : Nat} {b : Bd}, (kill Γ as)[i]? = some b → (i ∉ borOf as ∧ Γ[i]? = some b) ∨ b = un
  | [], Γ, i, b, h => .inl ⟨by simp [borOf], h⟩
  | .tmp _ :: as, Γ, i, b, h => kill_at (as := as) h
  | .bor k :: as, Γ, i, b, h => by
    rcases kill_at (as := as) h with ⟨r1, r2⟩ | r
    · by_cases q : k = i
      · subst q
        by_cases hl : k < Γ.length
        · rw [List.getElem?_set_self hl] at r2
          exact .inr (Option.some.inj r2).symm
        · rw [List.getElem?_eq_none (by rw [List.length_set]; omega)] at r2
          cases r2
      · rw [List.getElem?_set_ne q] at r2
        exact .inl ⟨fun z => (List.mem_cons.mp z).elim (fun z => q z.symm) r1, r2⟩
    · exact .inr r
theorem kill_len : ∀ {as : List Ag} {Γ : List Bd}, (kill Γ as).length = Γ.length
  | [], Γ => rfl
  | .tmp _ :: as, Γ => kill_len (as := as)
  | .bor k :: as, Γ => by
    show (kill (Γ.set k un) as).length = _
    rw [kill_len, List.length_set]
theorem labs_at : ∀ {as : List Ag} {d j i : Nat}, as[j]? = some (.bor i) → (labs d as)[j]? = some (.inl i)
  | .bor k :: as, d, 0, i, h => by
    cases h
    rfl
  | .tmp _ :: as, d, 0, i, h => by cases h
  | .bor k :: as, d, j + 1, i, h => labs_at (as := as) h
  | .tmp _ :: as, d, j + 1, i, h => labs_at (as := as) h
theorem Args.slot {t as vs t'} (h : Args σ t as vs t') : ∀ {j i : Nat}, as[j]? = some (.bor i) → T.slot σ i = vs[j]? := by
  induction h with
  | nil =>
    intro j i e
    cases e
  | tmp _ ih =>
    intro j i e
    cases j with
    | zero => cases e
    | succ j => exact ih e
  | bor ev _ ih =>
    intro j i e
    cases j with
    | zero =>
      cases e
      exact ev
    | succ j => exact ih e
end
theorem slot_map {vs : List V} {j : Nat} : slot (vs.map some) j = vs[j]? := by
  unfold slot
  rw [List.getElem?_map]
  cases vs[j]? <;> rfl

/-! ## the call -/
section
variable {X : Cx} {B : Bs} {Z : Zt} {Γ : List Bd} {P : List Bd → Bd → Prop} {e : Expr} {es : List Expr} {pos p : Pos} {k j : Nat} {f : Addr} {fd : FuncData} {ps : List Str} {n : Str} {α ρ : Type} {S : Fn α ρ}
theorem call_core {t t' : List (V × Bd)} {σ : L2.St} {H : Hp} {Γ1 : List Bd} {as : List Ag} {vs : List V} {x : α} {Q : VK} (O : Ok X B Z j) {W : WX} (hW : ∀ e Γ, Z e Γ → ∀ cls d σ H, Flew X B e Γ cls d σ H → W cls d σ H)
    (a : Args σ t as vs t') (s : Sat X.K B t' σ Γ1 H) (hi : bdsOf Γ1 as = S.ins x) (nd : (borOf as).Nodup) (ho : ∀ r, (S.outs x r).length = (S.ins x).length)
    (g : good (S.m x) (fun r => P (back Γ1 as (S.outs x r)) (S.ret x r)) (fun ex => Z ex (kill Γ1 as)))
    (q : ∀ Γ' b, P Γ' b → ∀ v H', Sat X.K B ((v, b) :: t) σ Γ' H' → Q v H') : spOf X.K X.mg S vs H Q (WE W σ) := by
  obtain ⟨F, own, w, hS, hT⟩ := s
  have hA := a.hold hS hT
  have ndL := labs_nd (d := t.length) nd
  refine ⟨x, F, inOwn (labs t.length as) own, w.part, ⟨?_, fun j b e => ?_⟩, ?_⟩
  · rw [List.length_map, a.len, ← hi, bdsOf_len]
  · rw [← hi] at e
    obtain ⟨l, v, h1, h2, h3⟩ := hA j b e
    rw [slot_map, h2]
    exact b.up (Same.rfl' F) (fun c z => ⟨inOwn_of ndL z h1, fun o z => z⟩) h3
  · refine good_mono g (fun r pr v H' s' => ?_) (fun ex zx cls d H' lf => ?_)
    · refine q _ _ pr v H' ?_
      obtain ⟨F', own', w', hS', hR, _⟩ := s'
      have wn : Wd B F' (outOwn (labs t.length as) as t.length own own') H' := w.call w'
      refine ⟨F', outOwn (labs t.length as) as t.length own own', wn, ⟨by rw [back_len]; exact hS.1, fun i b e => ?_⟩, ?_, ?_⟩
      · rcases back_at nd e with ⟨r1, r2⟩ | ⟨j, r1, r2⟩ | ⟨r1, r2⟩
        · refine b.up w'.b1 (fun c z => ?_) (hS.2 i b r2)
          exact w.call_keep w' z fun m => r1 (labs_inl.mp m)
        · have h := hS'.2 j b r2
          rw [slot_map, ← a.slot r1] at h
          refine b.up (Same.rfl' F') (fun c z => ⟨?_, fun o z => z⟩) h
          unfold outOwn
          rw [z]
          dsimp only
          rw [r1]
        · exfalso
          have e1 := ho r
          rw [← hi, bdsOf_len] at e1
          omega
      · refine Bd.up _ (Same.rfl' F') (fun c z => ⟨?_, fun o z => z⟩) hR
        unfold outOwn
        rw [show own' c = some (.inr 0) from z]
        rfl
      · refine (a.sub hT).up w'.b1 fun c i hi z => ?_
        exact w.call_keep w' z fun m => by
          have := labs_inr m
          omega
    · refine hW ex _ zx cls d σ H' ?_
      obtain ⟨C, dd, v, F', own', e1, e2, e3, w', e4, e5⟩ := lf
      have wn : Wd B F' (outOwn (labs t.length as) as t.length own own') H' := w.call w'
      refine ⟨C, dd, v, F', outOwn (labs t.length as) as t.length own own', e1, e2, e3, wn, ⟨by rw [kill_len]; exact hS.1, fun i b e => ?_⟩, e4, e5⟩
      rcases kill_at e with ⟨r1, r2⟩ | r
      · refine b.up w'.b1 (fun c z => ?_) (hS.2 i b r2)
        exact w.call_keep w' z fun m => r1 (labs_inl.mp m)
      · rw [r]
        exact trivial
theorem ev_call (O : Ok X B Z j) (G : FnOk X.prog X.w X.K X.mg X.base (L2.CX X.prog X.w) k f fd ps (spOf X.K X.mg S)) (hm : X.mg n = some (.ref f)) (hk : PySem.W.keepIn X.K (.ref f) = true) (hb : Binds X.K fd ps []) (ho : ∀ x r, (S.outs x r).length = (S.ins x).length)
    (h : EA X B (e :: es) Γ (fun Γ1 as => ∃ x, bdsOf Γ1 as = S.ins x ∧ (borOf as).Nodup ∧ good (S.m x) (fun r => P (back Γ1 as (S.outs x r)) (S.ret x r)) (fun ex => Z ex (kill Γ1 as))))
    (hkj : k ≤ j := by decide) (hg : Gl X n := by rfl) (hdb : (n == ("__debug__" : Str)) = false := by decide) (he : starEach (e :: es) X.env = (false, eval e X.env) :: starEach es X.env := by rfl) (hpl : (backTo pos (starEach es X.env)).any (·.1) = false := by rfl) :
    EV X B (.Call (.Name n p) (e :: es) [] pos) Γ P := by
  obtain ⟨W, tk, hW⟩ := O.exn
  intro t σ H Q s q
  refine wp_of_pe (pe_callS G (O.room.mono hkj) hg hm hk hb (fun σ => passAt tk σ) pa_wp hdb he hpl) ?_
  refine h t σ H _ s fun Γ1 as ⟨x, hi, nd, g⟩ vs H1 t' a s1 => ?_
  exact call_core O hW a s1 hi nd (ho x) g q
end
end T
set_option maxHeartbeats 4000000
namespace T
open PySem PySem.Spec PyProof.Rows L2

/-! ## lists that are read: frozen, or a slot's own -/
def Rdl {α : Type} (K : Fg) (B : Bs) (t : List (V × Bd)) (σ : L2.St) (Γ : List Bd) (c : Cd α) (xs : List α) (v : V) (H : Hp) : Prop :=
  Sat K B ((v, va (cLst c) xs) :: t) σ Γ H ∨ (∃ i, Γ[i]? = some (ow (oLst c) xs) ∧ slot σ i = some v ∧ Sat K B t σ Γ H)
def XL {α : Type} (X : Cx) (B : Bs) (Z : Zt) (e : Expr) (Γ : List Bd) (c : Cd α) (m : Res (List α)) : Prop :=
  ∀ (P : List α → Prop), good m P (fun ex => Z ex Γ) → ∀ t σ H Q, Sat X.K B t σ Γ H → (∀ xs, P xs → ∀ v H', Rdl X.K B t σ Γ c xs v H' → Q v H') → wpE X e σ H Q
/-- a new mutable object -/
def XO {β : Type} (X : Cx) (B : Bs) (Z : Zt) (e : Expr) (Γ : List Bd) (k : Oc β) (m : Res β) : Prop :=
  ∀ P, good m (fun x => P Γ (ow k x)) (fun ex => Z ex Γ) → EV X B e Γ P
section
variable {K : Fg} {B : Bs} {t : List (V × Bd)} {σ : L2.St} {Γ : List Bd} {F H : Hp} {own : Ow} {α : Type} {c : Cd α} {xs : List α} {v : V}
/-- what a readable list gives; the rest of the state -/
theorem Rdl.get (h : Rdl K B t σ Γ c xs v H) : ∃ F own a vs, v = .ref a ∧ Wd B F own H ∧ HoldS K F H own σ Γ ∧ HoldT K F H own t ∧ SqL K H a vs ∧ All2 (c.rp K F) xs vs := by
  rcases h with ⟨F, own, w, hS, ⟨v', e, a, vs, e2, h1, h2⟩, hT⟩ | ⟨i, e, es, F, own, w, hS, hT⟩
  · cases e
    exact ⟨F, own, a, vs, e2, w, hS, hT, seqL_up w.fh h1, h2⟩
  · obtain ⟨a, ea, h0, vs, h1, h2⟩ := hS.2 i _ e
    rw [es] at ea
    exact ⟨F, own, a, vs, Option.some.inj ea, w, hS, hT, .of h1, h2⟩
theorem Sat.frzT (s : Sat K B ((v, ow (oLst c) xs) :: t) σ Γ H) : Sat K B ((v, va (cLst c) xs) :: t) σ Γ H := by
  obtain ⟨F, own, w, hS, ⟨a, ea, h0, vs, h1, h2⟩, hT⟩ := s
  have sF : Same F (upd F a (.lst vs)) := Same.newH (w.own_F h0)
  refine ⟨upd F a (.lst vs), cut own a, w.frz h0 h1, hS.up sF fun b i q => ⟨?_, fun o e => e⟩, ⟨v, rfl, a, vs, Option.some.inj ea, .of upd_same, h2.imp fun _ _ => c.up sF⟩, hT.up sF fun b i hi q => ⟨?_, fun o e => e⟩⟩
  · rw [cut_ne (fun z => by rw [z, h0] at q; cases q)]
    exact q
  · rw [cut_ne (fun z => by rw [z, h0] at q; injection q with q; injection q with q; omega)]
    exact q
theorem Sat.frzS {i : Nat} (e : Γ[i]? = some (ow (oLst c) xs)) (s : Sat K B t σ Γ H) : Sat K B t σ (Γ.set i (va (cLst c) xs)) H := by
  obtain ⟨F, own, w, hS, hT⟩ := s
  obtain ⟨a, ea, h0, vs, h1, h2⟩ := hS.2 i _ e
  have sF : Same F (upd F a (.lst vs)) := Same.newH (w.own_F h0)
  refine ⟨upd F a (.lst vs), cut own a, w.frz h0 h1, ⟨by rw [List.length_set]; exact hS.1, fun j b q => ?_⟩, hT.up sF fun b i hi q => ⟨?_, fun o e => e⟩⟩
  · by_cases ij : i = j
    · subst ij
      have hl : i < Γ.length := (List.getElem?_eq_some_iff.mp e).1
      rw [List.getElem?_set_self hl] at q
      cases q
      exact ⟨.ref a, ea, a, vs, rfl, .of upd_same, h2.imp fun _ _ => c.up sF⟩
    · rw [List.getElem?_set_ne ij] at q
      refine b.up sF (fun d z => ⟨?_, fun o e => e⟩) (hS.2 j b q)
      rw [cut_ne (fun y => by rw [y, h0] at z; injection z with z; injection z with z; exact ij z)]
      exact z
  · rw [cut_ne (fun z => by rw [z, h0] at q; cases q)]
    exact q
end
section
variable {X : Cx} {B : Bs} {Z : Zt} {Γ : List Bd} {P : List Bd → Bd → Prop} {a b e : Expr} {pos : Pos} {α β γ : Type} {c : Cd α} {d : Cd β} {cc : Cd γ}
theorem ev_frz (h : EV X B e Γ (fun Γ1 b1 => ∃ xs, b1 = ow (oLst c) xs ∧ P Γ1 (va (cLst c) xs))) : EV X B e Γ P := fun t σ H Q s q => h t σ H Q s fun Γ1 b1 ⟨xs, e1, p⟩ v H1 s1 => by
  subst e1
  exact q _ _ p v H1 s1.frzT
theorem ev_frzS (i : Nat) {xs : List α} (hΓ : Γ[i]? = some (ow (oLst c) xs)) (h : EV X B e (Γ.set i (va (cLst c) xs)) P) : EV X B e Γ P := fun t σ H Q s q => h t σ H Q (s.frzS hΓ) q
theorem xm_frz {m : Res (List α)} (h : XO X B Z e Γ (oLst c) m) : XM X B Z e Γ (cLst c) m := fun P g => ev_frz (h _ (good_imp g fun xs p => ⟨xs, rfl, p⟩))
theorem xl_fr {m : Res (List α)} (h : XM X B Z e Γ (cLst c) m) : XL X B Z e Γ c m := fun P g t σ H Q s q => h (fun Γ' b' => Γ' = Γ ∧ ∃ xs, P xs ∧ b' = va (cLst c) xs) (good_imp g fun xs p => ⟨rfl, xs, p, rfl⟩) t σ H Q s fun Γ1 b1 ⟨e0, xs, p, e1⟩ v H1 s1 => by
  subst e0 e1
  exact q xs p v H1 (.inl s1)
theorem xl_ow (i : Nat) {xs : List α} {n : Str} (hΓ : Γ[i]? = some (ow (oLst c) xs) := by rfl) (hN : X.N[i]? = some n := by rfl) (hv : Vis X.env.scope n := by first | exact Or.inl rfl | exact Or.inr (Or.inl rfl) | exact Or.inr (Or.inr rfl))
    (hd : (n == ("__debug__" : Str)) = false := by decide) (hcd : (n == ("__classdict__" : Str)) = false := by decide) : XL X B Z (.Name n pos) Γ c (.ok xs) := fun P g t σ H Q s q => by
  have s' := s
  obtain ⟨F, own, w, hS, hT⟩ := s'
  obtain ⟨ad, ea, _⟩ := hS.2 i _ hΓ
  exact wp_of_pe (pe_var hN hv hd hcd) ⟨.ref ad, slot_some ea, q xs g _ H (.inr ⟨i, hΓ, ea, s⟩)⟩
theorem xl_var (i : Nat) {xs : List α} {n : Str} (hΓ : Γ[i]? = some (va (cLst c) xs) := by rfl) (hN : X.N[i]? = some n := by rfl) (hv : Vis X.env.scope n := by first | exact Or.inl rfl | exact Or.inr (Or.inl rfl) | exact Or.inr (Or.inr rfl))
    (hd : (n == ("__debug__" : Str)) = false := by decide) (hcd : (n == ("__classdict__" : Str)) = false := by decide) : XL X B Z (.Name n pos) Γ c (.ok xs) := xl_fr (xm_var i hΓ hN hv hd hcd)

/-- one operand, a readable list -/
def LOp1 (X : Cx) (B : Bs) (r : V → Hp → VK → Prop) (c : Cd α) (cc : Cd γ) (xs : List α) (z : γ) : Prop :=
  ∀ F own H a vs Q, Wd B F own H → SqL X.K H a vs → All2 (c.rp X.K F) xs vs → (∀ F' H' u, Wd B F' own H' → Same F F' → Same H H' → cc.rp X.K F' z u → Q u H') → r (.ref a) H Q
theorem xm_lop1 {r : V → Hp → VK → Prop} {k : List α → Option γ} {m : Res (List α)} (hop : Is1 X e a r) (hs : ∀ xs z, k xs = some z → LOp1 X B r c cc xs z) (ha : XL X B Z a Γ c m) : XM X B Z e Γ cc (m >>= fun xs => lift (k xs)) := fun P g t σ H Q s q => by
  refine wp_of_pe (hop _ pe_wp) ?_
  refine ha _ (good_bind g) t σ H _ s fun xs gx v H1 s1 => ?_
  obtain ⟨z, hz, p⟩ := good_lift gx
  obtain ⟨F, own, ad, vs, rfl, w, hS, hT, h1, h2⟩ := s1.get
  exact hs xs z hz F own H1 ad vs Q w h1 h2 fun F' H' u wd' sF sH ru => q _ _ p u H' (Sat.pushUp wd' sF sH hS hT ru)
/-- the second operand a readable list -/
def LOp2 (X : Cx) (B : Bs) (r : R2) (d : Cd β) (c : Cd α) (cc : Cd γ) (y : β) (xs : List α) (z : γ) : Prop :=
  ∀ F own H v a vs Q, Wd B F own H → d.rp X.K F y v → SqL X.K H a vs → All2 (c.rp X.K F) xs vs → (∀ F' H' u, Wd B F' own H' → Same F F' → Same H H' → cc.rp X.K F' z u → Q u H') → r v (.ref a) H Q
theorem Rdl.temp {K : Fg} {t : List (V × Bd)} {σ : L2.St} {xs : List α} {v w : V} {x : β} {H : Hp} (h : Rdl K B ((w, va d x) :: t) σ Γ c xs v H) :
    ∃ F own a vs, v = .ref a ∧ Wd B F own H ∧ HoldS K F H own σ Γ ∧ HoldT K F H own t ∧ SqL K H a vs ∧ All2 (c.rp K F) xs vs ∧ d.rp K F x w := by
  obtain ⟨F, own, ad, vs, e, wd, hS, ⟨⟨w', ew, r⟩, hT⟩, h1, h2⟩ := h.get
  cases ew
  exact ⟨F, own, ad, vs, e, wd, hS, hT, h1, h2, r⟩
theorem xm_lop2 {r : R2} {k : β → List α → Option γ} {m : Res β} {m' : Res (List α)} (hop : Is2 X e a b r) (hs : ∀ y xs z, k y xs = some z → LOp2 X B r d c cc y xs z) (ha : XM X B Z a Γ d m) (hb : XL X B Z b Γ c m') : XM X B Z e Γ cc (m >>= fun y => m' >>= fun xs => lift (k y xs)) := fun P g t σ H Q s q => by
  refine wp_of_pe (hop _ _ pe_wp pe_wp) ?_
  refine ha (fun Γ' b' => Γ' = Γ ∧ ∃ y, b' = va d y ∧ good (m' >>= fun xs => lift (k y xs)) (fun x => P Γ (va cc x)) fun ex => Z ex Γ) (good_imp (good_bind g) fun y gy => ⟨rfl, y, rfl, gy⟩) t σ H _ s fun Γ1 b1 ⟨e0, y, e1, g1⟩ v H1 s1 => ?_
  subst e0 e1
  refine hb _ (good_bind g1) _ σ H1 _ s1 fun xs gx w H2 s2 => ?_
  obtain ⟨z, hz, p⟩ := good_lift gx
  obtain ⟨F, own, ad, vs, rfl, wd, hS, hT, h1, h2, rv⟩ := s2.temp
  exact hs y xs z hz F own H2 v ad vs Q wd rv h1 h2 fun F' H' u wd' sF sH ru => q _ _ p u H' (Sat.pushUp wd' sF sH hS hT ru)
theorem tm_lop2 {r : R2} {op : CmpOp} {k : β → List α → Option Bool} {m : Res β} {m' : Res (List α)} (ho : OpR X (compareOp op) r) (hs : ∀ y xs z, k y xs = some z → LOp2 X B r d c cBool y xs z) (ha : XM X B Z a Γ d m) (hb : XL X B Z b Γ c m') (hm : behindInMarks op b = false := by rfl) :
    TM X B Z (.Compare a [op] [b] pos) Γ (m >>= fun y => m' >>= fun xs => lift (k y xs)) := fun P g t σ H Q s q => by
  refine wp_of_pt (pt_cmpR ho pe_wp pe_wp hm) ?_
  refine ha (fun Γ' b' => Γ' = Γ ∧ ∃ y, b' = va d y ∧ good (m' >>= fun xs => lift (k y xs)) (fun x => P Γ x) fun ex => Z ex Γ) (good_imp (good_bind g) fun y gy => ⟨rfl, y, rfl, gy⟩) t σ H _ s fun Γ1 b1 ⟨e0, y, e1, g1⟩ v H1 s1 => ?_
  subst e0 e1
  refine hb _ (good_bind g1) _ σ H1 _ s1 fun xs gx w H2 s2 => ?_
  obtain ⟨z, hz, p⟩ := good_lift gx
  obtain ⟨F, own, ad, vs, rfl, wd, hS, hT, h1, h2, rv⟩ := s2.temp
  refine hs y xs z hz F own H2 v ad vs _ wd rv h1 h2 fun F' H' u wd' sF sH ru => ⟨z, ru, q _ _ p H' ?_⟩
  exact ⟨F', own, wd', hS.up sF fun a i q => ⟨q, fun o e => sH a o e⟩, hT.up sF fun a i _ q => ⟨q, fun o e => sH a o e⟩⟩

/-! ## items -/
theorem All2.atI {r : α → V → Prop} {xs : List α} {vs : List V} {i : Int} {x : α} (h : All2 r xs vs) (e : L2.atI xs i = some x) : ∃ v, L2.atI vs i = some v ∧ r x v := by
  unfold L2.atI at e ⊢
  rw [h.length]
  cases q : ixN xs.length i with
  | none =>
    rw [q] at e
    cases e
  | some j =>
    rw [q] at e
    exact h.get (i := j) e
/-- xs[i] -/
def IsIx (X : Cx) (e a b : Expr) : Prop := Is2 X e a b (rIx X.K)
theorem is_ix (hs : PlainIx b := by exact fun _ _ => rfl) : Is2 X (.Subscript a b pos) a b (rIx X.K) := fun _ _ ha hb => pe_ix ix_seq ha hb hs
theorem xm_itemL {m : Res (List α)} {mi : Res Int} (ha : XL X B Z a Γ c m) (hb : XM X B Z b Γ cInt mi) (hs : PlainIx b := by exact fun _ _ => rfl) : XM X B Z (.Subscript a b pos) Γ c (m >>= fun xs => mi >>= fun i => lift (atI xs i)) := fun P g t σ H Q s q => by
  refine wp_of_pe (is_ix hs _ _ pe_wp pe_wp) ?_
  refine ha _ (good_bind g) t σ H _ s fun xs gx v H1 s1 => ?_
  rcases s1 with s1 | ⟨i0, ei, es, s1⟩
  · refine hb (fun Γ' b' => Γ' = Γ ∧ ∃ y, b' = va cInt y ∧ good (lift (atI xs y)) (fun x => P Γ (va c x)) fun ex => Z ex Γ) (good_imp (good_bind gx) fun y gy => ⟨rfl, y, rfl, gy⟩) _ σ H1 _ s1 fun Γ2 b2 ⟨e0, y, e1, g2⟩ w H2 s2 => ?_
    subst e0 e1
    obtain ⟨z, hz, p⟩ := good_lift g2
    obtain ⟨F, own, wd, hS, ⟨w', ew, rw'⟩, ⟨v', ev, ad, vs, e3, h1, h2⟩, hT⟩ := s2
    cases ew
    cases ev
    obtain ⟨u, hu, ru⟩ := h2.atI hz
    exact .inl ⟨ad, vs, y, u, e3, rw', seqL_up wd.fh h1, hu, q _ _ p u H2 (Sat.push wd hS hT ru)⟩
  · refine hb (fun Γ' b' => Γ' = Γ ∧ ∃ y, b' = va cInt y ∧ good (lift (atI xs y)) (fun x => P Γ (va c x)) fun ex => Z ex Γ) (good_imp (good_bind gx) fun y gy => ⟨rfl, y, rfl, gy⟩) _ σ H1 _ s1 fun Γ2 b2 ⟨e0, y, e1, g2⟩ w H2 s2 => ?_
    subst e0 e1
    obtain ⟨z, hz, p⟩ := good_lift g2
    obtain ⟨F, own, wd, hS, ⟨w', ew, rw'⟩, hT⟩ := s2
    cases ew
    obtain ⟨ad, ea, h0, vs, h1, h2⟩ := hS.2 i0 _ ei
    rw [es] at ea
    obtain ⟨u, hu, ru⟩ := h2.atI hz
    exact .inl ⟨ad, vs, y, u, Option.some.inj ea, rw', .of h1, hu, q _ _ p u H2 (Sat.push wd hS hT ru)⟩
theorem xm_itemT {m : Res (List α)} {mi : Res Int} (ha : XM X B Z a Γ (cTup c) m) (hb : XM X B Z b Γ cInt mi) (hs : PlainIx b := by exact fun _ _ => rfl) : XM X B Z (.Subscript a b pos) Γ c (m >>= fun xs => mi >>= fun i => lift (atI xs i)) :=
  xm_op2 (ca := cTup c) (is_ix hs) (fun xs i z hz F own H v w Q wd ⟨ad, vs, e1, h1, h2⟩ hw q => by
    obtain ⟨u, hu, ru⟩ := h2.atI hz
    exact .inr (.inl ⟨ad, vs, i, u, e1, hw, seqT_up wd.fh (sqT h1), hu, q F H u wd (Same.rfl' F) (Same.rfl' H) ru⟩)) ha hb
/-- p[0], p[1] of a pair; of a triple -/
theorem xp_fst {p : α × β} (ha : XM X B Z a Γ (cPr c d) (.ok p)) (hb : XM X B Z b Γ cInt (.ok 0)) (hs : PlainIx b := by exact fun _ _ => rfl) : XM X B Z (.Subscript a b pos) Γ c (.ok p.1) :=
  xp_op2 (ca := cPr c d) (is_ix hs) (fun F own H v w Q wd ⟨ad, x, y, e1, h1, r1, r2⟩ hw q => .inr (.inl ⟨ad, _, 0, x, e1, hw, .of (wd.fh _ _ h1), rfl, q F H x wd (Same.rfl' F) (Same.rfl' H) r1⟩)) ha hb
theorem xp_snd {p : α × β} (ha : XM X B Z a Γ (cPr c d) (.ok p)) (hb : XM X B Z b Γ cInt (.ok 1)) (hs : PlainIx b := by exact fun _ _ => rfl) : XM X B Z (.Subscript a b pos) Γ d (.ok p.2) :=
  xp_op2 (ca := cPr c d) (is_ix hs) (fun F own H v w Q wd ⟨ad, x, y, e1, h1, r1, r2⟩ hw q => .inr (.inl ⟨ad, _, 1, y, e1, hw, .of (wd.fh _ _ h1), rfl, q F H y wd (Same.rfl' F) (Same.rfl' H) r2⟩)) ha hb
theorem xm_fst {m : Res (α × β)} (ha : XM X B Z a Γ (cPr c d) m) (hb : XM X B Z b Γ cInt (.ok 0)) (hs : PlainIx b := by exact fun _ _ => rfl) : XM X B Z (.Subscript a b pos) Γ c (m >>= fun p => .ok p.1) := by
  have h := xm_op2 (ca := cPr c d) (k := fun (p : α × β) (i : Int) => if i = 0 then some p.1 else none) (cc := c) (B := B) (is_ix (X := X) (a := a) (b := b) (pos := pos) hs) (fun p i z hz F own H v w Q wd ⟨ad, x, y, e1, h1, r1, r2⟩ hw q => by
    split at hz
    · rename_i e
      subst e
      cases hz
      exact .inr (.inl ⟨ad, _, 0, x, e1, hw, .of (wd.fh _ _ h1), rfl, q F H x wd (Same.rfl' F) (Same.rfl' H) r1⟩)
    · cases hz) ha hb
  exact h
theorem xm_snd {m : Res (α × β)} (ha : XM X B Z a Γ (cPr c d) m) (hb : XM X B Z b Γ cInt (.ok 1)) (hs : PlainIx b := by exact fun _ _ => rfl) : XM X B Z (.Subscript a b pos) Γ d (m >>= fun p => .ok p.2) := by
  have h := xm_op2 (ca := cPr c d) (k := fun (p : α × β) (i : Int) => if i = 1 then some p.2 else none) (cc := d) (B := B) (is_ix (X := X) (a := a) (b := b) (pos := pos) hs) (fun p i z hz F own H v w Q wd ⟨ad, x, y, e1, h1, r1, r2⟩ hw q => by
    split at hz
    · rename_i e
      subst e
      cases hz
      exact .inr (.inl ⟨ad, _, 1, y, e1, hw, .of (wd.fh _ _ h1), rfl, q F H y wd (Same.rfl' F) (Same.rfl' H) r2⟩)
    · cases hz) ha hb
  exact h
/-! ## in, not in -/
/-- flat codes -/
structure Flat {α : Type} [DecidableEq α] (c : Cd α) : Prop where
  flat : ∀ {K F x v}, c.rp K F x v → flatV v = true
  eq : ∀ {K F x y v w}, c.rp K F x v → c.rp K F y w → eqV v w = decide (x = y)
theorem flat_int : Flat cInt := ⟨fun {K F x v} h => by cases (show v = V.int x from h); rfl, fun {K F x y v w} h h' => by
  cases (show v = V.int x from h)
  cases (show w = V.int y from h')
  show (x == y) = _
  exact Bool.beq_eq_decide_eq x y⟩
theorem flat_str : Flat cStr := ⟨fun {K F x v} h => by cases (show v = V.str x from h); rfl, fun {K F x y v w} h h' => by
  cases (show v = V.str x from h)
  cases (show w = V.str y from h')
  show (x == y) = _
  exact Bool.beq_eq_decide_eq x y⟩
theorem All2.flat [DecidableEq α] (f : Flat c) {K : Fg} {F : Hp} : ∀ {xs : List α} {vs : List V}, All2 (c.rp K F) xs vs → vs.all flatV = true
  | [], [], _ => rfl
  | _ :: _, _ :: _, ⟨a, b⟩ => by
    rw [List.all_cons, f.flat a, All2.flat f b]
    rfl
  | [], _ :: _, z => z.elim
  | _ :: _, [], z => z.elim
theorem All2.inV [DecidableEq α] (f : Flat c) {K : Fg} {F : Hp} {x : α} {v : V} (h : c.rp K F x v) : ∀ {xs : List α} {vs : List V}, All2 (c.rp K F) xs vs → L2.inV v vs = decide (x ∈ xs)
  | [], [], _ => by
    show false = _
    simp
  | y :: xs, w :: vs, ⟨a, b⟩ => by
    show (eqV w v || L2.inV v vs) = _
    rw [f.eq a h, All2.inV f h b]
    by_cases e : y = x
    · subst e
      simp
    · rw [decide_eq_false e, Bool.false_or]
      refine decide_eq_decide.mpr ⟨fun h => List.mem_cons_of_mem _ h, fun h => ?_⟩
      rcases List.mem_cons.mp h with z | z
      · exact absurd z.symm e
      · exact z
  | [], _ :: _, z => z.elim
  | _ :: _, [], z => z.elim
theorem lop_in [DecidableEq α] (f : Flat c) (y : α) (xs : List α) (z : Bool) (h : some (decide (y ∈ xs)) = some z) : LOp2 X B (rIn X.K false) c c cBool y xs z := fun F own H v a vs Q wd hv h1 h2 q => by
  cases h
  exact ⟨a, vs, rfl, .inl h1, f.flat hv, h2.flat f, by rw [if_neg Bool.false_ne_true, h2.inV f hv]; exact q F H _ wd (Same.rfl' F) (Same.rfl' H) rfl⟩
theorem lop_notIn [DecidableEq α] (f : Flat c) (y : α) (xs : List α) (z : Bool) (h : some (!decide (y ∈ xs)) = some z) : LOp2 X B (rIn X.K true) c c cBool y xs z := fun F own H v a vs Q wd hv h1 h2 q => by
  cases h
  exact ⟨a, vs, rfl, .inl h1, f.flat hv, h2.flat f, by rw [if_pos rfl, h2.inV f hv]; exact q F H _ wd (Same.rfl' F) (Same.rfl' H) rfl⟩
theorem xm_inL [DecidableEq α] {m : Res α} {m' : Res (List α)} (f : Flat c) (ha : XM X B Z a Γ c m) (hb : XL X B Z b Γ c m') (hm : behindInMarks .In b = false := by rfl) : XM X B Z (.Compare a [.In] [b] pos) Γ cBool (m >>= fun x => m' >>= fun xs => .ok (decide (x ∈ xs))) :=
  xm_lop2 (k := fun x xs => some (decide (x ∈ xs))) (fun _ _ ha hb => pe_cmpR op_in_seq ha hb hm) (lop_in f) ha hb
theorem xm_notInL [DecidableEq α] {m : Res α} {m' : Res (List α)} (f : Flat c) (ha : XM X B Z a Γ c m) (hb : XL X B Z b Γ c m') (hm : behindInMarks .NotIn b = false := by rfl) : XM X B Z (.Compare a [.NotIn] [b] pos) Γ cBool (m >>= fun x => m' >>= fun xs => .ok (!decide (x ∈ xs))) :=
  xm_lop2 (k := fun x xs => some (!decide (x ∈ xs))) (fun _ _ ha hb => pe_cmpR op_notIn_seq ha hb hm) (lop_notIn f) ha hb
theorem tm_inL [DecidableEq α] {m : Res α} {m' : Res (List α)} (f : Flat c) (ha : XM X B Z a Γ c m) (hb : XL X B Z b Γ c m') (hm : behindInMarks .In b = false := by rfl) : TM X B Z (.Compare a [.In] [b] pos) Γ (m >>= fun x => m' >>= fun xs => .ok (decide (x ∈ xs))) :=
  tm_lop2 (k := fun x xs => some (decide (x ∈ xs))) op_in_seq (lop_in f) ha hb hm
theorem tm_notInL [DecidableEq α] {m : Res α} {m' : Res (List α)} (f : Flat c) (ha : XM X B Z a Γ c m) (hb : XL X B Z b Γ c m') (hm : behindInMarks .NotIn b = false := by rfl) : TM X B Z (.Compare a [.NotIn] [b] pos) Γ (m >>= fun x => m' >>= fun xs => .ok (!decide (x ∈ xs))) :=
  tm_lop2 (k := fun x xs => some (!decide (x ∈ xs))) op_notIn_seq (lop_notIn f) ha hb hm
theorem cmp_inT [DecidableEq α] (f : Flat c) : Cmp X B .In (rIn X.K false) c (cTup c) (fun x xs => some (decide (x ∈ xs))) := ⟨op_in_seq, fun x xs z h F own H v w Q wd hv ⟨a, vs, e, h1, h2⟩ q => by
  cases h
  exact ⟨a, vs, e, .inr (seqT_up wd.fh (sqT h1)), f.flat hv, h2.flat f, by rw [if_neg Bool.false_ne_true, h2.inV f hv]; exact q F H _ wd (Same.rfl' F) (Same.rfl' H) rfl⟩⟩
theorem cmp_notInT [DecidableEq α] (f : Flat c) : Cmp X B .NotIn (rIn X.K true) c (cTup c) (fun x xs => some (!decide (x ∈ xs))) := ⟨op_notIn_seq, fun x xs z h F own H v w Q wd hv ⟨a, vs, e, h1, h2⟩ q => by
  cases h
  exact ⟨a, vs, e, .inr (seqT_up wd.fh (sqT h1)), f.flat hv, h2.flat f, by rw [if_pos rfl, h2.inV f hv]; exact q F H _ wd (Same.rfl' F) (Same.rfl' H) rfl⟩⟩

/-! ## built-ins of one argument -/
/-- f(a), f a built-in function or type -/
def Is1L (r : List V → Hp → VK → Prop) : V → Hp → VK → Prop := fun v H Q => r [v] H Q
theorem is_call {r : List V → Hp → VK → Prop} {n : Str} {id : String} {p : Pos} (hc : CallR X (.builtin id) r) (hm : X.mg n = none) (hv : bootBuiltins n = some (.builtin id)) (hg : Gl X n := by rfl) (hn : n ≠ "__name__" := by decide) (hdb : (n == ("__debug__" : Str)) = false := by decide)
    (he : starEach (a :: []) X.env = (false, eval a X.env) :: starEach [] X.env := by rfl) (hpl : (backTo pos (starEach [] X.env)).any (·.1) = false := by rfl) : Is1 X (.Call (.Name n p) [a] [] pos) a (Is1L r) := fun ta ha => pe_callB hc hg hm hv (pa_cons ha pa_nil he) hn hdb he hpl
theorem is_callT {r : List V → Hp → VK → Prop} {n : Str} {id : String} {p : Pos} (hc : CallR X (.type id) r) (hm : X.mg n = none) (hv : bootBuiltins n = some (.type id)) (hg : Gl X n := by rfl) (hn : n ≠ "__name__" := by decide) (hdb : (n == ("__debug__" : Str)) = false := by decide)
    (he : starEach (a :: []) X.env = (false, eval a X.env) :: starEach [] X.env := by rfl) (hpl : (backTo pos (starEach [] X.env)).any (·.1) = false := by rfl) : Is1 X (.Call (.Name n p) [a] [] pos) a (Is1L r) := fun ta ha => pe_callTy hc hg hm hv (pa_cons ha pa_nil he) hn hdb he hpl
section
variable {p : Pos}
theorem xm_lenL {m : Res (List α)} (hm : X.mg "len" = none) (ha : XL X B Z a Γ c m) (hg : Gl X "len" := by rfl) (he : starEach (a :: []) X.env = (false, eval a X.env) :: starEach [] X.env := by rfl) : XM X B Z (.Call (.Name "len" p) [a] [] pos) Γ cInt (m >>= fun xs => .ok (xs.length : Int)) :=
  xm_lop1 (k := fun xs => some (xs.length : Int)) (is_call call_len_seq hm boot_len hg (by decide) (by decide) he rfl) (fun xs z h F own H a vs Q wd h1 h2 q => by
    cases h
    exact ⟨a, vs, rfl, .inl h1, by rw [h2.length]; exact q F H _ wd (Same.rfl' F) (Same.rfl' H) rfl⟩) ha
theorem xm_lenT {m : Res (List α)} (hm : X.mg "len" = none) (ha : XM X B Z a Γ (cTup c) m) (hg : Gl X "len" := by rfl) (he : starEach (a :: []) X.env = (false, eval a X.env) :: starEach [] X.env := by rfl) : XM X B Z (.Call (.Name "len" p) [a] [] pos) Γ cInt (m >>= fun xs => .ok (xs.length : Int)) :=
  xm_op1 (ca := cTup c) (k := fun xs => some (xs.length : Int)) (is_call call_len_seq hm boot_len hg (by decide) (by decide) he rfl) (fun xs z h F own H v Q wd ⟨ad, vs, e, h1, h2⟩ q => by
    cases h
    exact ⟨ad, vs, by rw [e], .inr (seqT_up wd.fh (sqT h1)), by rw [h2.length]; exact q F H _ wd (Same.rfl' F) (Same.rfl' H) rfl⟩) ha
theorem xm_intI {m : Res Int} (hm : X.mg "int" = none) (ha : XM X B Z a Γ cInt m) (hg : Gl X "int" := by rfl) (he : starEach (a :: []) X.env = (false, eval a X.env) :: starEach [] X.env := by rfl) : XM X B Z (.Call (.Name "int" p) [a] [] pos) Γ cInt (m >>= fun i => .ok i) :=
  xm_op1 (k := fun i => some i) (is_callT call_int1 hm boot_int hg (by decide) (by decide) he rfl) (fun i z h F own H v Q wd hv q => by
    cases h
    exact .inl ⟨i, by rw [show v = V.int i from hv], q F H _ wd (Same.rfl' F) (Same.rfl' H) rfl⟩) ha
theorem xp_intI {i : Int} (hm : X.mg "int" = none) (ha : XM X B Z a Γ cInt (.ok i)) (hg : Gl X "int" := by rfl) (he : starEach (a :: []) X.env = (false, eval a X.env) :: starEach [] X.env := by rfl) : XM X B Z (.Call (.Name "int" p) [a] [] pos) Γ cInt (.ok i) := xm_intI hm ha hg he
theorem xm_intB {m : Res Bool} (hm : X.mg "int" = none) (ha : XM X B Z a Γ cBool m) (hg : Gl X "int" := by rfl) (he : starEach (a :: []) X.env = (false, eval a X.env) :: starEach [] X.env := by rfl) : XM X B Z (.Call (.Name "int" p) [a] [] pos) Γ cInt (m >>= fun k => .ok (if k = true then 1 else 0)) :=
  xm_op1 (k := fun k => some (if k = true then 1 else 0)) (is_callT call_int1 hm boot_int hg (by decide) (by decide) he rfl) (fun i z h F own H v Q wd hv q => by
    cases h
    exact .inr ⟨i, by rw [show v = V.bl i from hv], q F H _ wd (Same.rfl' F) (Same.rfl' H) rfl⟩) ha
theorem xp_intB {k : Bool} (hm : X.mg "int" = none) (ha : XM X B Z a Γ cBool (.ok k)) (hg : Gl X "int" := by rfl) (he : starEach (a :: []) X.env = (false, eval a X.env) :: starEach [] X.env := by rfl) : XM X B Z (.Call (.Name "int" p) [a] [] pos) Γ cInt (.ok (if k = true then 1 else 0)) := xm_intB hm ha hg he
/-- two arguments -/
def Is2L (r : List V → Hp → VK → Prop) : R2 := fun v w H Q => r [v, w] H Q
theorem is_call2 {r : List V → Hp → VK → Prop} {n : Str} {id : String} {p : Pos} (hc : CallR X (.builtin id) r) (hm : X.mg n = none) (hv : bootBuiltins n = some (.builtin id)) (hg : Gl X n := by rfl) (hn : n ≠ "__name__" := by decide) (hdb : (n == ("__debug__" : Str)) = false := by decide)
    (he : starEach (a :: [b]) X.env = (false, eval a X.env) :: starEach [b] X.env := by rfl) (he2 : starEach (b :: []) X.env = (false, eval b X.env) :: starEach [] X.env := by rfl) (hpl : (backTo pos (starEach [b] X.env)).any (·.1) = false := by rfl) : Is2 X (.Call (.Name n p) [a, b] [] pos) a b (Is2L r) :=
  fun ta tb ha hb => pe_callB hc hg hm hv (pa_cons ha (pa_cons hb pa_nil he2) he) hn hdb he hpl
theorem boot_max' : bootBuiltins "max" = some (.builtin "max") := by decide +kernel
theorem boot_min' : bootBuiltins "min" = some (.builtin "min") := by decide +kernel
theorem max_eq (i j : Int) : (if j > i then j else i) = max i j := by omega
theorem min_eq (i j : Int) : (if j < i then j else i) = min i j := by omega
theorem xm_max2 {mi mj : Res Int} {jj : Nat} (O : Ok X B Z jj) (hm : X.mg "max" = none) (ha : XM X B Z a Γ cInt mi) (hb : XM X B Z b Γ cInt mj) (hg : Gl X "max" := by rfl) (he : starEach (a :: [b]) X.env = (false, eval a X.env) :: starEach [b] X.env := by rfl) (he2 : starEach (b :: []) X.env = (false, eval b X.env) :: starEach [] X.env := by rfl)
    (hpl : (backTo pos (starEach [b] X.env)).any (·.1) = false := by rfl) : XM X B Z (.Call (.Name "max" p) [a, b] [] pos) Γ cInt (mi >>= fun i => mj >>= fun j => .ok (max i j)) :=
  xm_op2 (k := fun i j => some (max i j)) (is_call2 (call_max2 O.calm) hm boot_max' hg (by decide) (by decide) he he2 hpl) (fun i j z h F own H v w Q wd hv hw q => by
    cases h
    exact ⟨i, j, by rw [show v = V.int i from hv, show w = V.int j from hw], by rw [max_eq]; exact q F H _ wd (Same.rfl' F) (Same.rfl' H) rfl⟩) ha hb
theorem xm_min2 {mi mj : Res Int} {jj : Nat} (O : Ok X B Z jj) (hm : X.mg "min" = none) (ha : XM X B Z a Γ cInt mi) (hb : XM X B Z b Γ cInt mj) (hg : Gl X "min" := by rfl) (he : starEach (a :: [b]) X.env = (false, eval a X.env) :: starEach [b] X.env := by rfl) (he2 : starEach (b :: []) X.env = (false, eval b X.env) :: starEach [] X.env := by rfl)
    (hpl : (backTo pos (starEach [b] X.env)).any (·.1) = false := by rfl) : XM X B Z (.Call (.Name "min" p) [a, b] [] pos) Γ cInt (mi >>= fun i => mj >>= fun j => .ok (min i j)) :=
  xm_op2 (k := fun i j => some (min i j)) (is_call2 (call_min2 O.calm) hm boot_min' hg (by decide) (by decide) he he2 hpl) (fun i j z h F own H v w Q wd hv hw q => by
    cases h
    exact ⟨i, j, by rw [show v = V.int i from hv, show w = V.int j from hw], by rw [min_eq]; exact q F H _ wd (Same.rfl' F) (Same.rfl' H) rfl⟩) ha hb
end
end
end T
set_option maxHeartbeats 4000000
namespace T
open PySem PySem.Spec PyProof.Rows L2

/-! ## weakening, stores -/
inductive Wk : List Bd → List Bd → Prop
  | nil : Wk [] []
  | keep {b l l'} : Wk l l' → Wk (b :: l) (b :: l')
  | drop {b l l'} : Wk l l' → Wk (b :: l) (un :: l')
theorem Wk.refl : ∀ l : List Bd, Wk l l
  | [] => .nil
  | _ :: l => .keep (Wk.refl l)
theorem Wk.at {l l' : List Bd} (h : Wk l l') : l.length = l'.length ∧ ∀ (i : Nat) (b : Bd), l'[i]? = some b → b = un ∨ l[i]? = some b := by
  induction h with
  | nil => exact ⟨rfl, fun i b e => nomatch e⟩
  | keep _ ih =>
    refine ⟨congrArg Nat.succ ih.1, fun i b e => ?_⟩
    cases i with
    | zero => exact .inr e
    | succ i => exact ih.2 i b e
  | drop _ ih =>
    refine ⟨congrArg Nat.succ ih.1, fun i b e => ?_⟩
    cases i with
    | zero => exact .inl (Option.some.inj e).symm
    | succ i => exact ih.2 i b e
section
variable {K : Fg} {B : Bs} {t : List (V × Bd)} {σ : L2.St} {Γ Γ' : List Bd} {H : Hp} {v : V} {b : Bd} {i : Nat}
theorem Sat.wk (w : Wk Γ Γ') (s : Sat K B t σ Γ H) : Sat K B t σ Γ' H := by
  obtain ⟨F, own, wd, hS, hT⟩ := s
  obtain ⟨h1, h2⟩ := w.at
  refine ⟨F, own, wd, ⟨hS.1.trans h1, fun i b e => ?_⟩, hT⟩
  rcases h2 i b e with r | r
  · subst r
    exact trivial
  · exact hS.2 i b r
theorem Sat.drop (s : Sat K B ((v, b) :: t) σ Γ H) : Sat K B t σ Γ H := by
  obtain ⟨F, own, wd, hS, hT⟩ := s
  exact ⟨F, own, wd, hS, hT.2⟩
theorem Sat.len (s : Sat K B t σ Γ H) : σ.length = Γ.length := by
  obtain ⟨F, own, wd, hS, hT⟩ := s
  exact hS.1
def stOwn (own : Ow) (i d : Nat) : Ow := fun a => match own a with
  | some (.inr k) => if k = d then some (.inl i) else some (.inr k)
  | some (.inl j) => if j = i then none else some (.inl j)
  | none => none
theorem Sat.store (hi : i < σ.length) (s : Sat K B ((v, b) :: t) σ Γ H) : Sat K B t (σ.set i (some v)) (Γ.set i b) H := by
  obtain ⟨F, own, wd, hS, hb, hT⟩ := s
  refine ⟨F, stOwn own i t.length, wd.relab fun a l e => ?_, ⟨by rw [List.length_set, List.length_set]; exact hS.1, fun j b' e => ?_⟩, ?_⟩
  · unfold stOwn at e
    cases q : own a with
    | none =>
      rw [q] at e
      cases e
    | some l' => exact ⟨l', rfl⟩
  · by_cases ij : i = j
    · subst ij
      rw [List.getElem?_set_self (by rw [← hS.1]; exact hi)] at e
      cases e
      rw [slot_set_same hi]
      refine Bd.up _ (Same.rfl' F) (fun a z => ⟨?_, fun o h => h⟩) hb
      unfold stOwn
      rw [z]
      exact if_pos rfl
    · rw [List.getElem?_set_ne ij] at e
      rw [slot_set_ne ij]
      refine Bd.up _ (Same.rfl' F) (fun a z => ⟨?_, fun o h => h⟩) (hS.2 j b' e)
      unfold stOwn
      rw [z]
      exact if_neg fun h => ij h.symm
  · refine hT.up (Same.rfl' F) fun a k hk z => ⟨?_, fun o h => h⟩
    unfold stOwn
    rw [z]
    exact if_neg fun h => by omega
theorem Pin.set (hp : B.pins.contains i = false) (h : Pin B σ) : Pin B (σ.set i (some v)) := fun j hj => by
  have n : i ≠ j := fun e => by
    rw [e, hj] at hp
    cases hp
  rw [slot_set_ne n]
  exact h j hj
end

/-! ## targets -/
structure wpG (X : Cx) (e : Expr) (v : V) (σ : L2.St) (H : Hp) (Q : L2.St → Hp → Prop) : Prop where
  run : ∀ pins s u, Inv X pins σ H s → RelV v u → wpAny (model X.prog X.w) X.A (assign e X.env u) (fun _ s' => ∃ σ' H', Inv X pins σ' H' s' ∧ Q σ' H') X.xe s
theorem pg_wp {X : Cx} {e : Expr} : PG X e (wpG X e) := ⟨fun pins s σ H v u Q I r h => h.run pins s u I r⟩
theorem wp_of_pg {X : Cx} {e : Expr} {t : TG} (h : PG X e t) {v σ H Q} (q : t v σ H Q) : wpG X e v σ H Q := ⟨fun pins s u I r => h.run pins s σ H v u Q I r q⟩
/-- at most the slots js are other ones -/
def Dif (js : List Nat) (σ σ' : L2.St) : Prop := σ'.length = σ.length ∧ ∀ j, js.contains j = false → σ'[j]? = σ[j]?
def EG (X : Cx) (B : Bs) (js : List Nat) (e : Expr) (Γ : List Bd) (b : Bd) (P : List Bd → Prop) : Prop :=
  ∀ t σ H v Q, Pin B σ → Sat X.K B ((v, b) :: t) σ Γ H → (∀ Γ', P Γ' → ∀ σ' H', Dif js σ σ' → Pin B σ' → Sat X.K B t σ' Γ' H' → Q σ' H') → wpG X e v σ H Q
section
variable {X : Cx} {B : Bs} {Z : Zt} {Γ : List Bd} {b : Bd} {P : List Bd → Prop} {e e' : Expr} {pos : Pos} {k : Nat} {js js' : List Nat}
theorem eg_name (i : Nat) {n : Str} (O : Ok X B Z k) (h : P (Γ.set i b)) (hN : X.N[i]? = some n := by rfl) (hx : Loc X.env.scope n := by first | exact Or.inl rfl | exact Or.inr rfl) (hp : B.pins.contains i = false := by rfl) (hi : Nat.blt i Γ.length = true := by rfl)
    (hf : X.fn n = true ∨ X.env.scope.names.lookup n = some .local := by first | exact .inl rfl | exact .inr rfl) : EG X B [i] (.Name n pos) Γ b P := fun t σ H v Q pn s q =>
  wp_of_pg (pg_name O.nd hN hx hf) (q _ h _ H ⟨List.length_set, fun j hj => List.getElem?_set_ne fun e => by rw [e] at hj; simp at hj⟩ (pn.set hp) (s.store (by rw [s.len]; exact Nat.le_of_ble_eq_true hi)))
theorem eg_pair {α β : Type} {c : Cd α} {d : Cd β} {p : α × β} {x1} (O : Ok X B Z k) (h : EG X B js e Γ (va c p.1) (fun Γ1 => EG X B js' e' Γ1 (va d p.2) P)) (hn : (assignEach [e, e'] X.env).length = 2 := by rfl) (hst : (assignEach [e, e'] X.env).findIdx? (·.1) = none := by rfl)
    (hs : (assignEach (e :: [e']) X.env).map (·.2) = assign e X.env :: (assignEach [e'] X.env).map (·.2) := by rfl) (hs' : (assignEach (e' :: []) X.env).map (·.2) = assign e' X.env :: (assignEach [] X.env).map (·.2) := by rfl) : EG X B (js ++ js') (.Tuple [e, e'] x1 pos) Γ (va (cPr c d) p) P := by
  intro t σ H v Q pn s q
  obtain ⟨F, own, wd, hS, ⟨v', ev, a, x, y, e1, h1, r1, r2⟩, hT⟩ := s
  cases ev
  refine wp_of_pg (pg_tup O.calm (pgs_cons pg_wp (pgs_cons pg_wp pgs_nil hs') hs) hn hst) ⟨a, [x, y], e1, .of (wd.fh _ _ h1), rfl, x, [y], rfl, ?_⟩
  have s1 : Sat X.K B ((x, va c p.1) :: (y, va d p.2) :: t) σ Γ H := ⟨F, own, wd, hS, ⟨x, rfl, r1⟩, ⟨y, rfl, r2⟩, hT⟩
  refine h _ σ H x _ pn s1 fun Γ1 hg σ1 H1 d1 pn1 s2 => ⟨y, [], rfl, ?_⟩
  refine hg t σ1 H1 y _ pn1 s2 fun Γ2 p2 σ2 H2 d2 pn2 s3 => ⟨rfl, q _ p2 σ2 H2 ⟨d2.1.trans d1.1, fun j hj => ?_⟩ pn2 s3⟩
  have hj' : js.contains j = false ∧ js'.contains j = false := by
    rw [List.contains_eq_any_beq, List.any_append, Bool.or_eq_false_iff, ← List.contains_eq_any_beq, ← List.contains_eq_any_beq] at hj
    exact hj
  exact (d2.2 j hj'.2).trans (d1.2 j hj'.1)
end

/-! ## statements -/
structure Rs where
  nx : List Bd → Prop := fun _ => False
  rt : List Bd → Bd → Prop := fun _ _ => False
  bk : List Bd → Prop := fun _ => False
  ct : List Bd → Prop := fun _ => False
structure DOk (K : Fg) (B : Bs) (t : List (V × Bd)) (R : Rs) (D : Ends) : Prop where
  nx : ∀ Γ', R.nx Γ' → ∀ σ' H', Pin B σ' → Sat K B t σ' Γ' H' → D.nx σ' H'
  rt : ∀ Γ' b, R.rt Γ' b → ∀ v σ' H', Pin B σ' → Sat K B ((v, b) :: t) σ' Γ' H' → D.rt v H'
  bk : ∀ Γ', R.bk Γ' → ∀ σ' H', Pin B σ' → Sat K B t σ' Γ' H' → D.bk σ' H'
  ct : ∀ Γ', R.ct Γ' → ∀ σ' H', Pin B σ' → Sat K B t σ' Γ' H' → D.ct σ' H'
def S1 (X : Cx) (B : Bs) (st : Stmt) (Γ : List Bd) (R : Rs) : Prop := ∀ t σ H D, Pin B σ → Sat X.K B t σ Γ H → DOk X.K B t R D → wpS X st D σ H
def SB (X : Cx) (B : Bs) (ss : List Stmt) (Γ : List Bd) (R : Rs) : Prop := ∀ t σ H D, Pin B σ → Sat X.K B t σ Γ H → DOk X.K B t R D → wpSs X ss D σ H
section
variable {X : Cx} {B : Bs} {Z : Zt} {Γ : List Bd} {R : Rs} {e it tg c : Expr} {st : Stmt} {ss A1 A2 body : List Stmt} {pos pos' : Pos} {k : Nat} {js : List Nat}
theorem sb_nil (h : R.nx Γ) : SB X B [] Γ R := fun t σ H D pn s d => wp_of_pss pss_nil (d.nx Γ h σ H pn s)
theorem sb_cons (h : S1 X B st Γ { R with nx := fun Γ' => SB X B ss Γ' R }) : SB X B (st :: ss) Γ R := fun t σ H D pn s d =>
  wp_of_pss (pss_cons ps_wp pss_wp) (h t σ H { D with nx := wpSs X ss D } pn s ⟨fun Γ' h' σ' H' pn' s' => h' t σ' H' D pn' s' d, d.rt, d.bk, d.ct⟩)
theorem sb_one (h : S1 X B st Γ R) : SB X B [st] Γ R := fun t σ H D pn s d => wp_of_pss (pss_one ps_wp) (h t σ H D pn s d)
theorem sb_wk {Γ' : List Bd} (w : Wk Γ Γ') (h : SB X B ss Γ' R) : SB X B ss Γ R := fun t σ H D pn s d => h t σ H D pn (s.wk w) d
theorem s1_wk {Γ' : List Bd} (w : Wk Γ Γ') (h : S1 X B st Γ' R) : S1 X B st Γ R := fun t σ H D pn s d => h t σ H D pn (s.wk w) d
theorem sb_frz {α : Type} {c : Cd α} {xs : List α} (i : Nat) (hΓ : Γ[i]? = some (ow (oLst c) xs)) (h : SB X B ss (Γ.set i (va (cLst c) xs)) R) : SB X B ss Γ R := fun t σ H D pn s d => h t σ H D pn (s.frzS hΓ) d
theorem s1_pass (h : R.nx Γ) : S1 X B (.Pass pos) Γ R := fun t σ H D pn s d => wp_of_ps ps_pass (d.nx Γ h σ H pn s)
theorem s1_brk (h : R.bk Γ) : S1 X B (.Break pos) Γ R := fun t σ H D pn s d => wp_of_ps ps_break (d.bk Γ h σ H pn s)
theorem s1_ct (h : R.ct Γ) : S1 X B (.Continue pos) Γ R := fun t σ H D pn s d => wp_of_ps ps_continue (d.ct Γ h σ H pn s)
theorem s1_ret (h : EV X B e Γ (fun Γ1 b => R.rt Γ1 b)) : S1 X B (.Return (some e) pos) Γ R := fun t σ H D pn s d => wp_of_ps (ps_ret pe_wp) (h t σ H _ s fun Γ1 b p v H1 s1 => d.rt Γ1 b p v σ H1 pn s1)
theorem s1_retN (h : R.rt Γ (va cNon ())) : S1 X B (.Return none pos) Γ R := fun t σ H D pn s d => wp_of_ps ps_retN (by
  obtain ⟨F, own, wd, hS, hT⟩ := s
  exact d.rt Γ _ h _ σ H pn (Sat.push wd hS hT rfl))
theorem s1_expr (h : EV X B e Γ (fun Γ1 _ => R.nx Γ1)) (hs : swapsWith e none pos.line X.env = pure false := by rfl) : S1 X B (.Expr e pos) Γ R := fun t σ H D pn s d => wp_of_ps (ps_expr pe_wp hs) (h t σ H _ s fun Γ1 b p v H1 s1 => d.nx Γ1 p σ H1 pn s1.drop)
theorem s1_doc {x j} (h : R.nx Γ) : S1 X B (.Expr (.Constant (.str x) j pos) pos') Γ R := fun t σ H D pn s d => wp_of_ps ps_doc (d.nx Γ h σ H pn s)
theorem s1_if (h : ET X B c Γ (fun Γ1 k => if k = true then SB X B A1 Γ1 R else SB X B A2 Γ1 R)) : S1 X B (.If c A1 A2 pos) Γ R := fun t σ H D pn s d => wp_of_ps (ps_if pt_wp pss_wp pss_wp) (h t σ H _ s fun Γ1 k p H1 s1 => by
  cases k with
  | true =>
    rw [if_pos rfl] at p ⊢
    exact p t σ H1 D pn s1 d
  | false =>
    rw [if_neg Bool.false_ne_true] at p ⊢
    exact p t σ H1 D pn s1 d)
/-- a way that can't be -/
theorem s1_never (h : False) : S1 X B st Γ R := h.elim
theorem s1_asg {n : Str} (i : Nat) (O : Ok X B Z k) (h : EV X B e Γ (fun Γ1 b => R.nx (Γ1.set i b))) (hN : X.N[i]? = some n := by rfl) (hx : Loc X.env.scope n := by first | exact Or.inl rfl | exact Or.inr rfl) (hp : B.pins.contains i = false := by rfl) (hi : Nat.blt i Γ.length = true := by rfl)
    (hs : swapsWith e (some (.Name n pos')) pos.line X.env = pure false := by rfl) (hf : X.fn n = true ∨ X.env.scope.names.lookup n = some .local := by first | exact .inl rfl | exact .inr rfl) : S1 X B (.Assign [.Name n pos'] e pos) Γ R := fun t σ H D pn s d =>
  wp_of_ps (ps_set O.nd hN hx pe_wp hs hf) (h t σ H _ s fun Γ1 b p v H1 s1 => d.nx _ p _ H1 (pn.set hp) (s1.store (by rw [s.len]; exact Nat.le_of_ble_eq_true hi)))
theorem s1_asgG (h : EV X B e Γ (fun Γ1 b => EG X B js tg Γ1 b R.nx)) (hs : swapsWithSole [tg] e pos.line X.env = pure false := by rfl) (hw : swappedStores [tg] e X.env = pure none := by rfl) (h1 : (assignEach [tg] X.env).map (·.2) = [assign tg X.env] := by rfl) : S1 X B (.Assign [tg] e pos) Γ R := fun t σ H D pn s d =>
  wp_of_ps (ps_asg pe_wp pg_wp hs hw h1) (h t σ H _ s fun Γ1 b p v H1 s1 => p t σ H1 v _ pn s1 fun Γ' h' σ' H' _ pn' s' => d.nx Γ' h' σ' H' pn' s')
/-- x += y, x -= y of whole numbers -/
theorem s1_augI {n : Str} {op : Operator} {f : Int → Int → Int} (i : Nat) (O : Ok X B Z k) (ip : PIp X op (ipI f)) (h : EV X B e Γ (fun Γ1 b => ∃ y, b = va cInt y ∧ ∃ x, Γ1[i]? = some (va cInt x) ∧ R.nx (Γ1.set i (va cInt (f x y))))) {x0 : Int} (h0 : Γ[i]? = some (va cInt x0))
    (hN : X.N[i]? = some n := by rfl) (hx : Loc X.env.scope n := by first | exact Or.inl rfl | exact Or.inr rfl) (hp : B.pins.contains i = false := by rfl) (hi : Nat.blt i Γ.length = true := by rfl)
    (hf : X.fn n = true ∨ X.env.scope.names.lookup n = some .local := by first | exact .inl rfl | exact .inr rfl) : S1 X B (.AugAssign (.Name n pos') op e pos) Γ R := fun t σ H D pn s d => by
  have hl : i < σ.length := by rw [s.len]; exact Nat.le_of_ble_eq_true hi
  have s' := s
  obtain ⟨F, own, wd, hS, hT⟩ := s'
  obtain ⟨v0, ev0, _⟩ := hS.2 i _ h0
  refine wp_of_ps (ps_aug O.nd hN hx pe_wp ip hf) ⟨v0, slot_some ev0, h t σ H _ s fun Γ1 b ⟨y, eb, x, ex, p⟩ v H1 s1 => ?_⟩
  subst eb
  obtain ⟨F1, own1, wd1, hS1, ⟨v1, ev1, rv1⟩, hT1⟩ := s1
  cases ev1
  obtain ⟨vx, evx, rx⟩ := hS1.2 i _ ex
  rw [ev0] at evx
  cases evx
  refine ⟨x, y, rx, rv1, d.nx _ p _ H1 (pn.set hp) ?_⟩
  have s2 : Sat X.K B ((V.int (f x y), va cInt (f x y)) :: t) σ Γ1 H1 := Sat.push wd1 hS1 hT1 rfl
  exact s2.store hl
/-- a join: what follows is told once -/
theorem sb_cut {S : Type} {mif : Res S} {kk : S → Prop} (Γs : S → List Bd) (h : S1 X B st Γ { R with nx := fun Γ' => ∃ s, kk s ∧ Wk Γ' (Γs s) }) (hr : ∀ s, kk s → SB X B ss (Γs s) R) : SB X B (st :: ss) Γ R := fun t σ H D pn s d =>
  wp_of_pss (pss_cons ps_wp pss_wp) (h t σ H { D with nx := wpSs X ss D } pn s ⟨fun Γ' ⟨z, hz, w⟩ σ' H' pn' s' => hr z hz t σ' H' D pn' (s'.wk w) d, d.rt, d.bk, d.ct⟩)

/-! ## loops -/
/-- what a loop over xs is to show -/
def FB {α : Type} (X : Cx) (B : Bs) (js : List Nat) (tg : Expr) (body : List Stmt) (c : Cd α) (xs : List α) (Γ : List Bd) (R : Rs) : Prop :=
  ∃ J : Nat → List Bd → Prop, (∃ Γ0, Wk Γ Γ0 ∧ J 0 Γ0) ∧ (∀ i x Γ', xs[i]? = some x → J i Γ' → EG X B js tg Γ' (va c x) (fun Γ2 => SB X B body Γ2 { R with nx := fun Γ3 => ∃ Γ4, Wk Γ3 Γ4 ∧ J (i + 1) Γ4, ct := fun Γ3 => ∃ Γ4, Wk Γ3 Γ4 ∧ J (i + 1) Γ4, bk := fun Γ3 => ∃ Γ4, Wk Γ3 Γ4 ∧ R.nx Γ4 })) ∧
    ∀ Γ', J xs.length Γ' → R.nx Γ'
/-- a list as it stands at a -/
def raw {α : Type} (l : Bool) (a : Addr) (vs : List V) (c : Cd α) (xs : List α) : Bd := ⟨fun K F _ ov _ => ov = some (.ref a) ∧ (if l = true then SqL K F a vs else SqT K F a vs) ∧ All2 (c.rp K F) xs vs, fun {K F F' H H' ov f f'} s _ h => ⟨h.1, by
  cases l with
  | true => exact seqL_up s h.2.1
  | false => exact seqT_up s h.2.1, h.2.2.imp fun _ _ => c.up s⟩⟩
theorem loop_step {α : Type} {cd : Cd α} {J : Nat → List Bd → Prop} {t : List (V × Bd)} {D : Ends} {i : Nat} {x : α} {v : V} {σ : L2.St} {H : Hp} {Γ' : List Bd} (d : DOk X.K B t R D) (tm : List (V × Bd)) (hb : EG X B js tg Γ' (va cd x) (fun Γ2 => SB X B body Γ2 { R with nx := fun Γ3 => ∃ Γ4, Wk Γ3 Γ4 ∧ J (i + 1) Γ4, ct := fun Γ3 => ∃ Γ4, Wk Γ3 Γ4 ∧ J (i + 1) Γ4, bk := fun Γ3 => ∃ Γ4, Wk Γ3 Γ4 ∧ R.nx Γ4 }))
    (pn : Pin B σ) (s : Sat X.K B ((v, va cd x) :: (tm ++ t)) σ Γ' H) (dr : ∀ {σ Γ H p}, Sat X.K B (p ++ (tm ++ t)) σ Γ H → Sat X.K B (p ++ t) σ Γ H)
    {N : L2.St → Hp → Prop} (hN : ∀ Γ4 σ' H', J (i + 1) Γ4 → Pin B σ' → Sat X.K B (tm ++ t) σ' Γ4 H' → N σ' H') : wpG X tg v σ H fun σ2 H2 => wpSs X body { D with nx := N, ct := N, bk := D.nx } σ2 H2 := by
  refine hb (tm ++ t) σ H v _ pn s fun Γ2 h2 σ2 H2 _ pn2 s2 => ?_
  refine h2 (tm ++ t) σ2 H2 _ pn2 s2 ⟨fun Γ3 ⟨Γ4, w, j⟩ σ' H' pn' s' => hN Γ4 σ' H' j pn' (s'.wk w), fun Γ3 b p v σ' H' pn' s' => d.rt Γ3 b p v σ' H' pn' (dr (p := [(v, b)]) s'), fun Γ3 ⟨Γ4, w, p⟩ σ' H' pn' s' => d.nx Γ4 p σ' H' pn' (dr (p := []) (s'.wk w)), fun Γ3 ⟨Γ4, w, j⟩ σ' H' pn' s' => hN Γ4 σ' H' j pn' (s'.wk w)⟩
end
theorem HoldT.mid {K : Fg} {F H : Hp} {own : Ow} {q : V × Bd} : ∀ {p t : List (V × Bd)}, HoldT K F H own (p ++ q :: t) → HoldT K F H (fun a => match own a with
  | some (.inr k) => if k < t.length then some (.inr k) else if k = t.length then none else some (.inr (k - 1))
  | o => o) (p ++ t)
  | [], t, h => h.2.up (Same.rfl' F) fun a i hi z => ⟨by rw [z]; exact if_pos hi, fun o e => e⟩
  | r :: p, t, h => ⟨Bd.up _ (Same.rfl' F) (fun a z => ⟨by
      have l1 : (p.append (q :: t)).length = p.length + t.length + 1 := by
        show (p ++ q :: t).length = _
        rw [List.length_append, List.length_cons]
        omega
      have l2 : (p.append t).length = p.length + t.length := by
        show (p ++ t).length = _
        rw [List.length_append]
      rw [l1] at z
      rw [l2]
      dsimp only
      rw [z]
      dsimp only
      rw [if_neg (by omega), if_neg (by omega), Nat.add_sub_cancel], fun o e => e⟩) h.1, HoldT.mid h.2⟩
theorem Sat.mid {K : Fg} {B : Bs} {q : V × Bd} {p t : List (V × Bd)} {σ : L2.St} {Γ : List Bd} {H : Hp} (s : Sat K B (p ++ ([q] ++ t)) σ Γ H) : Sat K B (p ++ t) σ Γ H := by
  obtain ⟨F, own, wd, hS, hT⟩ := s
  refine ⟨F, _, wd.relab (fun a l e => ?_), hS.up (Same.rfl' F) (fun a i z => ⟨by rw [z], fun o e => e⟩), HoldT.mid hT⟩
  cases z : own a with
  | none =>
    rw [z] at e
    cases e
  | some l' => exact ⟨l', rfl⟩
section
variable {X : Cx} {B : Bs} {Z : Zt} {Γ : List Bd} {R : Rs} {e it tg c : Expr} {st : Stmt} {ss A1 A2 body : List Stmt} {pos pos' : Pos} {k : Nat} {α : Type} {cd : Cd α} {js : List Nat}
theorem s1_forL (O : Ok X B Z k) (h : EV X B it Γ (fun Γ1 b1 => ∃ xs, b1 = va (cLst cd) xs ∧ FB X B js tg body cd xs Γ1 R)) (hs : ∀ x, foldedSetIterable it X.env x = pure x := by intro _; rfl) : S1 X B (.For tg it body [] pos) Γ R := fun t σ H D pn s d => by
  refine wp_of_ps (ps_for O.pass O.calm (pi_list pe_wp) pg_wp pss_wp hs) ?_
  refine h t σ H _ s fun Γ1 b1 ⟨xs, e1, J, ⟨Γ0, w0, j0⟩, hb, hn⟩ v H1 s1 => ?_
  subst e1
  obtain ⟨F, own, wd, hS, ⟨v', ev, a, vs, ea, h1, h2⟩, hT⟩ := s1
  cases ev
  subst ea
  have st0 : Sat X.K B ([(V.ref a, raw true a vs cd xs)] ++ t) σ Γ0 H1 := Sat.wk w0 ⟨F, own, wd, hS, ⟨rfl, h1, h2⟩, hT⟩
  refine ⟨a, rfl, ⟨vs, seqL_up wd.fh h1⟩, for_list (K := X.K) (a := a) (xs := vs) (fun i σ' H' => ∃ Γ', J i Γ' ∧ Pin B σ' ∧ Sat X.K B ([(V.ref a, raw true a vs cd xs)] ++ t) σ' Γ' H') ⟨Γ0, j0, pn, st0⟩ (fun i σ' H' _ ⟨Γ', _, _, s'⟩ => ?_) (fun i y σ' H' hy ⟨Γ', j', pn', s'⟩ => ?_) fun σ' H' ⟨Γ', j', pn', s'⟩ => ?_⟩
  · obtain ⟨F', own', wd', _, ⟨_, r1, _⟩, _⟩ := s'
    exact seqL_up wd'.fh r1
  · have s2 := s'
    obtain ⟨F', own', wd', hS', ⟨r0, r1, r2⟩, hT'⟩ := s2
    obtain ⟨x, hx, rx⟩ := r2.getV hy
    refine loop_step d [(V.ref a, raw true a vs cd xs)] (hb i x Γ' hx j') pn' ⟨F', own', wd', hS', ⟨y, rfl, rx⟩, ⟨r0, r1, r2⟩, hT'⟩ (fun s => s.mid) fun Γ4 σ'' H'' j pn'' s'' => ⟨Γ4, j, pn'', s''⟩
  · rw [h2.length] at j'
    exact d.nx Γ' (hn Γ' j') σ' H' pn' s'.drop
theorem s1_forT (O : Ok X B Z k) (h : EV X B it Γ (fun Γ1 b1 => ∃ xs, b1 = va (cTup cd) xs ∧ FB X B js tg body cd xs Γ1 R)) (hs : ∀ x, foldedSetIterable it X.env x = pure x := by intro _; rfl) : S1 X B (.For tg it body [] pos) Γ R := fun t σ H D pn s d => by
  refine wp_of_ps (ps_for O.pass O.calm (pi_tup pe_wp) pg_wp pss_wp hs) ?_
  refine h t σ H _ s fun Γ1 b1 ⟨xs, e1, J, ⟨Γ0, w0, j0⟩, hb, hn⟩ v H1 s1 => ?_
  subst e1
  obtain ⟨F, own, wd, hS, ⟨v', ev, a, vs, ea, h1, h2⟩, hT⟩ := s1
  cases ev
  subst ea
  have st0 : Sat X.K B ([(V.ref a, raw false a vs cd xs)] ++ t) σ Γ0 H1 := Sat.wk w0 ⟨F, own, wd, hS, ⟨rfl, sqT h1, h2⟩, hT⟩
  refine ⟨a, rfl, ⟨vs, seqT_up wd.fh (sqT h1)⟩, for_tup (K := X.K) (a := a) (xs := vs) (fun i σ' H' => ∃ Γ', J i Γ' ∧ Pin B σ' ∧ Sat X.K B ([(V.ref a, raw false a vs cd xs)] ++ t) σ' Γ' H') ⟨Γ0, j0, pn, st0⟩ (fun i σ' H' _ ⟨Γ', _, _, s'⟩ => ?_) (fun i y σ' H' hy ⟨Γ', j', pn', s'⟩ => ?_) fun σ' H' ⟨Γ', j', pn', s'⟩ => ?_⟩
  · obtain ⟨F', own', wd', _, ⟨_, r1, _⟩, _⟩ := s'
    exact seqT_up wd'.fh r1
  · have s2 := s'
    obtain ⟨F', own', wd', hS', ⟨r0, r1, r2⟩, hT'⟩ := s2
    obtain ⟨x, hx, rx⟩ := r2.getV hy
    refine loop_step d [(V.ref a, raw false a vs cd xs)] (hb i x Γ' hx j') pn' ⟨F', own', wd', hS', ⟨y, rfl, rx⟩, ⟨r0, r1, r2⟩, hT'⟩ (fun s => s.mid) fun Γ4 σ'' H'' j pn'' s'' => ⟨Γ4, j, pn'', s''⟩
  · rw [h2.length] at j'
    exact d.nx Γ' (hn Γ' j') σ' H' pn' s'.drop
/-- lo, lo + 1, .. below hi -/
def rng (lo hi : Int) : List Int := (List.range (hi - lo).toNat).map fun (i : Nat) => lo + i
theorem rng_len {lo hi : Int} : (rng lo hi).length = (hi - lo).toNat := by unfold rng; rw [List.length_map, List.length_range]
theorem rng_at {lo hi : Int} {i : Nat} (h : i < (hi - lo).toNat) : (rng lo hi)[i]? = some (lo + i) := by unfold rng; rw [List.getElem?_map, List.getElem?_range h]; rfl
def rngOk (lo hi : Int) : Bool := decide (-(2 ^ 62) ≤ lo ∧ lo < 2 ^ 62 ∧ -(2 ^ 62) ≤ hi ∧ hi < 2 ^ 62)
theorem s1_range {p : Pos} {a : Expr} (O : Ok X B Z k) (hm : X.mg "range" = none) (h : EV X B a Γ (fun Γ1 b1 => ∃ n, b1 = va cInt n ∧ rngOk 0 n = true ∧ FB X B js tg body cInt (rng 0 n) Γ1 R)) (hg : Gl X "range" := by rfl) (he : starEach [a] X.env = [(false, eval a X.env)] := by rfl)
    (hs : ∀ x, foldedSetIterable (.Call (.Name "range" p) [a] [] pos') X.env x = pure x := by intro _; rfl) : S1 X B (.For tg (.Call (.Name "range" p) [a] [] pos') body [] pos) Γ R := fun t σ H D pn s d => by
  refine wp_of_ps (ps_for O.pass O.calm (pi_range1 hg hm (pa_cons pe_wp pa_nil he) he) pg_wp pss_wp hs) ?_
  refine h t σ H _ s fun Γ1 b1 ⟨n, e1, hr, J, ⟨Γ0, w0, j0⟩, hb, hn⟩ v H1 s1 => ?_
  subst e1
  obtain ⟨r1, r2, r3, r4⟩ := of_decide_eq_true hr
  have s2 := s1
  obtain ⟨F, own, wd, hS, ⟨v', ev, rv⟩, hT⟩ := s2
  cases ev
  refine ⟨n, by rw [show v = V.int n from rv], r3, r4, for_range (lo := 0) (n := n.toNat) (fun i σ' H' => ∃ Γ', J i Γ' ∧ Pin B σ' ∧ Sat X.K B t σ' Γ' H') ⟨Γ0, j0, pn, s1.drop.wk w0⟩ (fun i σ' H' hi ⟨Γ', j', pn', s'⟩ => ?_) fun σ' H' ⟨Γ', j', pn', s'⟩ => ?_⟩
  · obtain ⟨F', own', wd', hS', hT'⟩ := s'
    exact loop_step d [] (hb i (0 + i) Γ' (rng_at (by omega)) j') pn' (Sat.push wd' hS' hT' rfl) (fun s => s) fun Γ4 σ'' H'' j pn'' s'' => ⟨Γ4, j, pn'', s''⟩
  · have e : (rng 0 n).length = n.toNat := by rw [rng_len]; omega
    exact d.nx Γ' (hn Γ' (by rw [e]; exact j')) σ' H' pn' s'
theorem s1_range2 {p : Pos} {a b : Expr} (O : Ok X B Z k) (hm : X.mg "range" = none) (h : EV X B a Γ (fun Γ1 b1 => ∃ lo, b1 = va cInt lo ∧ EV X B b Γ1 (fun Γ2 b2 => ∃ hi, b2 = va cInt hi ∧ rngOk lo hi = true ∧ FB X B js tg body cInt (rng lo hi) Γ2 R))) (hg : Gl X "range" := by rfl)
    (he : starEach [a, b] X.env = [(false, eval a X.env), (false, eval b X.env)] := by rfl) (he2 : starEach [b] X.env = [(false, eval b X.env)] := by rfl)
    (hs : ∀ x, foldedSetIterable (.Call (.Name "range" p) [a, b] [] pos') X.env x = pure x := by intro _; rfl) : S1 X B (.For tg (.Call (.Name "range" p) [a, b] [] pos') body [] pos) Γ R := fun t σ H D pn s d => by
  refine wp_of_ps (ps_for O.pass O.calm (pi_range2 hg hm (pa_cons pe_wp (pa_cons pe_wp pa_nil he2) (by rw [he, he2])) he he2) pg_wp pss_wp hs) ?_
  refine h t σ H _ s fun Γ1 b1 ⟨lo, e1, h1⟩ v H1 s1 => ?_
  subst e1
  refine h1 _ σ H1 _ s1 fun Γ2 b2 ⟨hi, e2, hr, J, ⟨Γ0, w0, j0⟩, hb, hn⟩ w H2 s2 => ?_
  subst e2
  obtain ⟨r1, r2, r3, r4⟩ := of_decide_eq_true hr
  have s3 := s2
  obtain ⟨F, own, wd, hS, ⟨v', ev, rv⟩, ⟨w', ew, rw'⟩, hT⟩ := s3
  cases ev
  cases ew
  refine ⟨lo, hi, by rw [show v = V.int lo from rw', show w = V.int hi from rv], ⟨r1, r2, r3, r4⟩, for_range (lo := lo) (n := (hi - lo).toNat) (fun i σ' H' => ∃ Γ', J i Γ' ∧ Pin B σ' ∧ Sat X.K B t σ' Γ' H') ⟨Γ0, j0, pn, s2.drop.drop.wk w0⟩ (fun i σ' H' hi ⟨Γ', j', pn', s'⟩ => ?_) fun σ' H' ⟨Γ', j', pn', s'⟩ => ?_⟩
  · obtain ⟨F', own', wd', hS', hT'⟩ := s'
    exact loop_step d [] (hb i (lo + i) Γ' (rng_at hi) j') pn' (Sat.push wd' hS' hT' rfl) (fun s => s) fun Γ4 σ'' H'' j pn'' s'' => ⟨Γ4, j, pn'', s''⟩
  · exact d.nx Γ' (hn Γ' (by rw [rng_len]; exact j')) σ' H' pn' s'
/-- while: J by a number that falls -/
theorem s1_while (O : Ok X B Z k) (J : Nat → List Bd → Prop) (n0 : Nat) {Γ0 : List Bd} (w0 : Wk Γ Γ0) (h0 : J n0 Γ0) (h : ∀ n Γ', J n Γ' → ET X B c Γ' (fun Γ1 b => if b = true then SB X B body Γ1 { R with nx := fun Γ2 => ∃ Γ3 n', Wk Γ2 Γ3 ∧ n' < n ∧ J n' Γ3, ct := fun Γ2 => ∃ Γ3 n', Wk Γ2 Γ3 ∧ n' < n ∧ J n' Γ3, bk := fun Γ3 => ∃ Γ4, Wk Γ3 Γ4 ∧ R.nx Γ4 } else R.nx Γ1)) :
    S1 X B (.While c body [] pos) Γ R := fun t σ H D pn s d => by
  refine wp_of_ps (ps_while O.pass pt_wp pss_wp) ⟨fun n σ' H' => ∃ Γ', J n Γ' ∧ Pin B σ' ∧ Sat X.K B t σ' Γ' H', ⟨n0, Γ0, h0, pn, s.wk w0⟩, fun n σ1 H1 ⟨Γ1, j1, pn1, s1⟩ => ?_⟩
  refine h n Γ1 j1 t σ1 H1 _ s1 fun Γ2 b p H2 s2 => ?_
  cases b with
  | false =>
    rw [if_neg Bool.false_ne_true] at p ⊢
    exact d.nx Γ2 p σ1 H2 pn1 s2
  | true =>
    rw [if_pos rfl] at p ⊢
    refine ⟨fun σ' H' => ∃ Γ3 n', n' < n ∧ J n' Γ3 ∧ Pin B σ' ∧ Sat X.K B t σ' Γ3 H', fun σ' H' ⟨Γ3, n', a, b, c, d⟩ => ⟨n', a, Γ3, b, c, d⟩, ?_⟩
    exact p t σ1 H2 _ pn1 s2 ⟨fun Γ3 ⟨Γ4, n', w, a, j⟩ σ' H' pn' s' => ⟨Γ4, n', a, j, pn', s'.wk w⟩, d.rt, fun Γ3 ⟨Γ4, w, q⟩ σ' H' pn' s' => d.nx Γ4 q σ' H' pn' (s'.wk w), fun Γ3 ⟨Γ4, n', w, a, j⟩ σ' H' pn' s' => ⟨Γ4, n', a, j, pn', s'.wk w⟩⟩
end
end T
set_option maxHeartbeats 4000000
namespace T
open PySem PySem.Spec PyProof.Rows L2

/-! ## loops of the mirror -/
def forS {α S : Type} : List α → S → (α → S → Res S) → Res S
  | [], s, _ => .ok s
  | x :: xs, s, f => f x s >>= fun s' => forS xs s' f
inductive Ctl (S ρ : Type) where
  | nx (s : S) | bk (s : S) | rt (r : ρ)
inductive Lr (S ρ : Type) where
  | done (s : S) | rt (r : ρ)
def forC {α S ρ : Type} : List α → S → (α → S → Res (Ctl S ρ)) → Res (Lr S ρ)
  | [], s, _ => .ok (.done s)
  | x :: xs, s, f => f x s >>= fun c => match c with
    | .nx s' => forC xs s' f
    | .bk s' => .ok (.done s')
    | .rt r => .ok (.rt r)
def whileF {S : Type} : Nat → S → (S → Res Bool) → (S → Res S) → Res S
  | 0, _, _, _ => .stuck
  | n + 1, s, c, f => c s >>= fun b => if b = true then f s >>= fun s' => whileF n s' c f else .ok s
def whileC {S ρ : Type} : Nat → S → (S → Res Bool) → (S → Res (Ctl S ρ)) → Res (Lr S ρ)
  | 0, _, _, _ => .stuck
  | n + 1, s, c, f => c s >>= fun b => if b = true then f s >>= fun q => (match q with
      | .nx s' => whileC n s' c f
      | .bk s' => .ok (.done s')
      | .rt r => .ok (.rt r)) else .ok (.done s)
/-- how many turns a while may take -/
def fuel : Nat := 1000000
theorem drop_cons {α : Type} : ∀ {xs : List α} {i : Nat} {x : α}, xs[i]? = some x → xs.drop i = x :: xs.drop (i + 1)
  | _ :: _, 0, _, h => by
    cases h
    rfl
  | _ :: xs, i + 1, x, h => drop_cons (xs := xs) (i := i) h
section
variable {X : Cx} {B : Bs} {Γ : List Bd} {R R' : Rs} {tg c : Expr} {st : Stmt} {ss body : List Stmt} {pos : Pos} {k : Nat} {α S ρ : Type} {cd : Cd α} {js : List Nat} {b : Bd} {e : Expr}
structure Rs.Le (R R' : Rs) : Prop where
  nx : ∀ Γ, R.nx Γ → R'.nx Γ
  rt : ∀ Γ b, R.rt Γ b → R'.rt Γ b
  bk : ∀ Γ, R.bk Γ → R'.bk Γ
  ct : ∀ Γ, R.ct Γ → R'.ct Γ
theorem SB.mono (h : SB X B ss Γ R) (l : R.Le R') : SB X B ss Γ R' := fun t σ H D pn s d => h t σ H D pn s ⟨fun Γ' p => d.nx Γ' (l.nx Γ' p), fun Γ' b p => d.rt Γ' b (l.rt Γ' b p), fun Γ' p => d.bk Γ' (l.bk Γ' p), fun Γ' p => d.ct Γ' (l.ct Γ' p)⟩
theorem EG.mono {P P' : List Bd → Prop} (h : EG X B js e Γ b P) (hP : ∀ Γ', P Γ' → P' Γ') : EG X B js e Γ b P' := fun t σ H v Q pn s q => h t σ H v Q pn s fun Γ' p => q Γ' (hP Γ' p)
theorem fb_forS {f : α → S → Res S} {xs : List α} {s0 : S} {Pk : S → Prop} {Zk : Exn → Prop} (Γs : S → List Bd) (g : good (forS xs s0 f) Pk Zk) (w : Wk Γ (Γs s0))
    (hb : ∀ x s (Pb : S → Prop), x ∈ xs → good (f x s) Pb Zk → EG X B js tg (Γs s) (va cd x) (fun Γ2 => SB X B body Γ2 { nx := fun Γ3 => ∃ s', Pb s' ∧ Wk Γ3 (Γs s'), ct := fun Γ3 => ∃ s', Pb s' ∧ Wk Γ3 (Γs s') })) (hn : ∀ s, Pk s → R.nx (Γs s)) : FB X B js tg body cd xs Γ R := by
  refine ⟨fun i Γ' => ∃ s, Γ' = Γs s ∧ good (forS (xs.drop i) s f) Pk Zk, ⟨_, w, s0, rfl, g⟩, fun i x Γ' hx ⟨s, e, gs⟩ => ?_, fun Γ' ⟨s, e, gs⟩ => ?_⟩
  · subst e
    rw [drop_cons hx] at gs
    refine (hb x s _ (List.mem_of_getElem? hx) (good_bind gs)).mono fun Γ2 h2 => h2.mono ⟨fun Γ3 ⟨s', p, w3⟩ => ⟨_, w3, s', rfl, p⟩, fun _ _ z => z.elim, fun _ z => z.elim, fun Γ3 ⟨s', p, w3⟩ => ⟨_, w3, s', rfl, p⟩⟩
  · subst e
    rw [List.drop_length] at gs
    exact hn s gs
theorem fb_forC {f : α → S → Res (Ctl S ρ)} {xs : List α} {s0 : S} {Pk : Lr S ρ → Prop} {Zk : Exn → Prop} (Γs : S → List Bd) (Rt : ρ → List Bd → Bd → Prop) (g : good (forC xs s0 f) Pk Zk) (w : Wk Γ (Γs s0))
    (hb : ∀ x s (Pb : Ctl S ρ → Prop), x ∈ xs → good (f x s) Pb Zk → EG X B js tg (Γs s) (va cd x) (fun Γ2 => SB X B body Γ2 { nx := fun Γ3 => ∃ s', Pb (.nx s') ∧ Wk Γ3 (Γs s'), ct := fun Γ3 => ∃ s', Pb (.nx s') ∧ Wk Γ3 (Γs s'), bk := fun Γ3 => ∃ s', Pb (.bk s') ∧ Wk Γ3 (Γs s'), rt := fun Γ3 b => ∃ r, Pb (.rt r) ∧ Rt r Γ3 b }))
    (hn : ∀ s, Pk (.done s) → R.nx (Γs s)) (hr : ∀ r, Pk (.rt r) → ∀ Γ b, Rt r Γ b → R.rt Γ b) : FB X B js tg body cd xs Γ R := by
  refine ⟨fun i Γ' => ∃ s, Γ' = Γs s ∧ good (forC (xs.drop i) s f) Pk Zk, ⟨_, w, s0, rfl, g⟩, fun i x Γ' hx ⟨s, e, gs⟩ => ?_, fun Γ' ⟨s, e, gs⟩ => ?_⟩
  · subst e
    rw [drop_cons hx] at gs
    exact (hb x s _ (List.mem_of_getElem? hx) (good_bind gs)).mono fun Γ2 h2 => h2.mono ⟨fun Γ3 ⟨s', p, w3⟩ => ⟨_, w3, s', rfl, p⟩, fun Γ3 b ⟨r, p, q⟩ => hr r p Γ3 b q, fun Γ3 ⟨s', p, w3⟩ => ⟨_, w3, hn s' p⟩, fun Γ3 ⟨s', p, w3⟩ => ⟨_, w3, s', rfl, p⟩⟩
  · subst e
    rw [List.drop_length] at gs
    exact hn s gs
theorem s1_whileF {Z : Zt} (O : Ok X B Z k) {n : Nat} {s0 : S} {cf : S → Res Bool} {f : S → Res S} {Pk : S → Prop} {Zk : Exn → Prop} (hZ : ∀ ex Γ, Zk ex → Z ex Γ) (Γs : S → List Bd) (g : good (whileF n s0 cf f) Pk Zk) (w : Wk Γ (Γs s0)) (hc : ∀ s, TM X B Z c (Γs s) (cf s))
    (hb : ∀ s (Pb : S → Prop), good (f s) Pb Zk → SB X B body (Γs s) { nx := fun Γ3 => ∃ s', Pb s' ∧ Wk Γ3 (Γs s'), ct := fun Γ3 => ∃ s', Pb s' ∧ Wk Γ3 (Γs s') }) (hn : ∀ s, Pk s → R.nx (Γs s)) : S1 X B (.While c body [] pos) Γ R := by
  refine s1_while O (fun m Γ' => ∃ s, Γ' = Γs s ∧ good (whileF m s cf f) Pk Zk) n w ⟨s0, rfl, g⟩ fun m Γ' ⟨s, e, gs⟩ => ?_
  subst e
  cases m with
  | zero => exact gs.elim
  | succ m =>
    refine hc s _ (good_mono (good_bind gs) (fun b gb => ?_) fun ex z => hZ ex _ z)
    cases b with
    | false =>
      rw [if_neg Bool.false_ne_true] at gb ⊢
      exact hn s gb
    | true =>
      rw [if_pos rfl] at gb ⊢
      exact (hb s _ (good_bind gb)).mono ⟨fun Γ3 ⟨s', p, w3⟩ => ⟨_, m, w3, Nat.lt_succ_self _, s', rfl, p⟩, fun _ _ z => z.elim, fun _ z => z.elim, fun Γ3 ⟨s', p, w3⟩ => ⟨_, m, w3, Nat.lt_succ_self _, s', rfl, p⟩⟩
theorem s1_whileC {Z : Zt} (O : Ok X B Z k) {n : Nat} {s0 : S} {cf : S → Res Bool} {f : S → Res (Ctl S ρ)} {Pk : Lr S ρ → Prop} {Zk : Exn → Prop} (hZ : ∀ ex Γ, Zk ex → Z ex Γ) (Γs : S → List Bd) (Rt : ρ → List Bd → Bd → Prop) (g : good (whileC n s0 cf f) Pk Zk) (w : Wk Γ (Γs s0)) (hc : ∀ s, TM X B Z c (Γs s) (cf s))
    (hb : ∀ s (Pb : Ctl S ρ → Prop), good (f s) Pb Zk → SB X B body (Γs s) { nx := fun Γ3 => ∃ s', Pb (.nx s') ∧ Wk Γ3 (Γs s'), ct := fun Γ3 => ∃ s', Pb (.nx s') ∧ Wk Γ3 (Γs s'), bk := fun Γ3 => ∃ s', Pb (.bk s') ∧ Wk Γ3 (Γs s'), rt := fun Γ3 b => ∃ r, Pb (.rt r) ∧ Rt r Γ3 b })
    (hn : ∀ s, Pk (.done s) → R.nx (Γs s)) (hr : ∀ r, Pk (.rt r) → ∀ Γ b, Rt r Γ b → R.rt Γ b) : S1 X B (.While c body [] pos) Γ R := by
  refine s1_while O (fun m Γ' => ∃ s, Γ' = Γs s ∧ good (whileC m s cf f) Pk Zk) n w ⟨s0, rfl, g⟩ fun m Γ' ⟨s, e, gs⟩ => ?_
  subst e
  cases m with
  | zero => exact gs.elim
  | succ m =>
    refine hc s _ (good_mono (good_bind gs) (fun b gb => ?_) fun ex z => hZ ex _ z)
    cases b with
    | false =>
      rw [if_neg Bool.false_ne_true] at gb ⊢
      exact hn s gb
    | true =>
      rw [if_pos rfl] at gb ⊢
      exact (hb s _ (good_bind gb)).mono ⟨fun Γ3 ⟨s', p, w3⟩ => ⟨_, m, w3, Nat.lt_succ_self _, s', rfl, p⟩, fun Γ3 b ⟨r, p, q⟩ => hr r p Γ3 b q, fun Γ3 ⟨s', p, w3⟩ => ⟨_, w3, hn s' p⟩, fun Γ3 ⟨s', p, w3⟩ => ⟨_, m, w3, Nat.lt_succ_self _, s', rfl, p⟩⟩
end

/-! ## a def -/
def OutOk (pins : List Nat) : Nat → List Bd → List Bd → Prop
  | _, _, [] => True
  | j, g :: Γ, o :: os => (o = un ∨ (pins.contains j = true ∧ o = g)) ∧ OutOk pins (j + 1) Γ os
  | _, [], _ :: _ => False
theorem OutOk.at {pins : List Nat} : ∀ {os Γ : List Bd} {j i : Nat} {b : Bd}, OutOk pins j Γ os → os[i]? = some b → b = un ∨ (pins.contains (j + i) = true ∧ Γ[i]? = some b)
  | o :: os, g :: Γ, j, 0, b, h, e => by
    cases e
    rcases h.1 with r | ⟨r, r2⟩
    · exact .inl r
    · exact .inr ⟨r, by rw [r2]; rfl⟩
  | o :: os, g :: Γ, j, i + 1, b, h, e => by
    rcases OutOk.at (i := i) h.2 e with r | ⟨r, r2⟩
    · exact .inl r
    · refine .inr ⟨?_, r2⟩
      rw [show j + (i + 1) = j + 1 + i by omega]
      exact r
  | _ :: _, [], _, _, _, h, _ => h.elim
  | [], _, _, _, _, _, e => nomatch e
def Rf {α ρ : Type} (S : Fn α ρ) (x : α) (pins : List Nat) (Pr : ρ → Prop) : Rs where
  rt := fun Γ b => ∃ r, Pr r ∧ b = S.ret x r ∧ OutOk pins 0 Γ (S.outs x r)
  nx := fun Γ => ∃ r, Pr r ∧ va cNon () = S.ret x r ∧ OutOk pins 0 Γ (S.outs x r)
section
variable {P : Program} {w : World} {K : Fg} {mg : Str → Option Value} {base : Heap} {n qual : Str} {params : Arguments} {body : List Stmt} {scope : Scope} {f : Addr} {fd : FuncData} {N ps : List Str} {k : Nat} {α ρ : Type} {S : Fn α ρ}
theorem fn_mk (pins : List Nat) (F : FunD K n qual params body scope [] [] f fd) (Sc : FnScope N ps scope) (hl : ∀ x, (S.ins x).length = ps.length) (ho : ∀ x r, (S.outs x r).length = ps.length) (hN : Nat.ble ps.length N.length = true)
    (hb : ∀ (cdv : Value) (A : Around) (outer : List Env) (s : Shared) (H : Hp) (E : XK) (F0 : Hp) (Sf : Addr → Prop) (s0 : L2.St) (x : α) (Pr : ρ → Prop) (Zr : Exn → Prop),
      Ok (cxOf (L2.CX P w) P w K mg base N qual scope f cdv A outer s H E) { F := F0, H := H, S := Sf, pins := pins, s0 := s0 } (fun ex _ => Zr ex) k → good (S.m x) Pr Zr →
      SB (cxOf (L2.CX P w) P w K mg base N qual scope f cdv A outer s H E) { F := F0, H := H, S := Sf, pins := pins, s0 := s0 } body (S.ins x ++ List.replicate (N.length - ps.length) un) (Rf S x pins Pr)) :
    FnOk P w K mg base (L2.CX P w) (k + 1) f fd ps (spOf K mg S) := by
  have hNl : ps.length ≤ N.length := Nat.le_of_ble_eq_true hN
  have lenOf : ∀ {x : α} {F : Hp} {own : Ow} {H : Hp} {vs : List V}, HoldS K F H own (vs.map some) (S.ins x) → vs.length = ps.length := fun {x F own H vs} h => by
    have := h.1
    rw [List.length_map, hl] at this
    exact this
  refine F.ok Sc (fun vs H Q E ⟨x, F, own, wd, hS, g⟩ => lenOf hS) fun cdv A outer s H vs Q E hr ⟨x, F0, own, wd, hS, g⟩ => ?_
  have hlen := lenOf hS
  refine ⟨_, pss_wp, ?_⟩
  refine hb cdv A outer s H E F0 (fun a => ∃ l, own a = some l) (L2.start N vs) x _ (fun ex => ∀ cls d H', Left K mg (bsOf F0 H own) ex cls d H' → E cls d H') ?_ g [] (L2.start N vs) H _ (fun _ _ => rfl) ?_ ?_
  · refine ⟨rfl, Sc.nd, hr, passes_of rfl, fun cls d _ H => E cls d H, takes_of rfl rfl rfl rfl, fun ex Γ hz cls d σ H' fl => ?_⟩
    obtain ⟨C, dd, v, F', own', e1, e2, e3, w', _, e4, e5⟩ := fl
    exact hz cls d H' ⟨C, dd, v, F', own', e1, e2, e3, ⟨w'.fh, w'.fo, w'.oh, w'.b1, w'.b2, w'.b3, w'.b4⟩, e4, e5⟩
  · refine ⟨F0, own, ⟨wd.fh, wd.fo, wd.oh, wd.b1, wd.b2, wd.b3, wd.b4⟩, ⟨?_, fun i b e => ?_⟩, trivial⟩
    · unfold L2.start
      rw [List.length_append, List.length_map, List.length_replicate, List.length_append, List.length_replicate, hl, hlen]
    · by_cases hi : i < (S.ins x).length
      · rw [List.getElem?_append_left hi] at e
        have h := hS.2 i b e
        have es : slot (L2.start N vs) i = slot (vs.map some) i := by
          unfold slot L2.start
          rw [List.getElem?_append_left (by rw [List.length_map, hlen, ← hl x]; exact hi)]
        rw [es]
        exact h
      · rw [List.getElem?_append_right (by omega)] at e
        have : b = un := List.eq_of_mem_replicate (List.mem_of_getElem? e)
        subst this
        exact trivial
  · have fin : ∀ (r : ρ) (v : V) (b : Bd) (Γ' : List Bd) (σ' : L2.St) (H' : Hp), (∀ v H', Sat K (bsOf F0 H own) [(v, S.ret x r)] (vs.map some) (S.outs x r) H' → Q v H') → b = S.ret x r → OutOk pins 0 Γ' (S.outs x r) →
        Pin { F := F0, H := H, S := fun a => ∃ l, own a = some l, pins := pins, s0 := L2.start N vs } σ' → Sat K { F := F0, H := H, S := fun a => ∃ l, own a = some l, pins := pins, s0 := L2.start N vs } [(v, b)] σ' Γ' H' → Q v H' := fun r v b Γ' σ' H' q eb oo pn s' => by
      subst eb
      refine q v H' ?_
      obtain ⟨F', own', w', hS', hT'⟩ := s'
      refine ⟨F', own', ⟨w'.fh, w'.fo, w'.oh, w'.b1, w'.b2, w'.b3, w'.b4⟩, ⟨by rw [List.length_map, hlen, ho], fun j b e => ?_⟩, hT'⟩
      rcases oo.at e with z | ⟨z, z2⟩
      · subst z
        exact trivial
      · rw [Nat.zero_add] at z
        have h := hS'.2 j b z2
        have hj : j < vs.length := by
          have := (List.getElem?_eq_some_iff.mp e).1
          rw [ho] at this
          omega
        have es : slot σ' j = slot (vs.map some) j := by
          rw [pn j z]
          unfold slot L2.start
          rw [List.getElem?_append_left (by rw [List.length_map]; exact hj)]
        rw [← es]
        exact h
    refine ⟨fun Γ' ⟨r, pr, eb, oo⟩ σ' H' pn s' => ?_, fun Γ' b ⟨r, pr, eb, oo⟩ v σ' H' pn s' => fin r v b Γ' σ' H' pr eb oo pn s', fun _ z => z.elim, fun _ z => z.elim⟩
    obtain ⟨F', own', w', hS', hT'⟩ := s'
    exact fin r .non _ Γ' σ' H' pr rfl oo pn (by rw [← eb]; exact Sat.push w' hS' hT' rfl)
end
end T
set_option maxHeartbeats 4000000
namespace T
open PySem PySem.Spec PyProof.Rows L2
/-! ## displays -/
section
variable {X : Cx} {B : Bs} {Z : Zt} {Γ : List Bd} {P : List Bd → Bd → Prop} {e a b : Expr} {es : List Expr} {pos p : Pos} {k : Nat} {α β γ : Type} {c : Cd α} {d : Cd β} {f : Cd γ}
theorem args_va {K : Fg} {σ : L2.St} {F H : Hp} {own : Ow} : ∀ {xs : List α} {t t' : List (V × Bd)} {vs : List V}, Args σ t (xs.map fun x => .tmp (va c x)) vs t' → HoldT K F H own t' → HoldT K F H own t ∧ All2 (c.rp K F) xs vs
  | [], t, t', vs, h, hT => by
    cases h
    exact ⟨hT, trivial⟩
  | x :: xs, t, t', vs, h, hT => by
    cases h with
    | tmp h =>
      obtain ⟨⟨⟨v', e, r⟩, hT'⟩, q⟩ := args_va h hT
      cases e
      exact ⟨hT', r, q⟩
theorem ev_lst (h : EA X B es Γ (fun Γ1 as => ∃ xs : List α, as = xs.map (fun x => .tmp (va c x)) ∧ xs.length ≤ 100000 ∧ P Γ1 (ow (oLst c) xs))) : EV X B (.List es pos) Γ P := by
  intro t σ H Q s q
  refine wp_of_pe (pe_lst pa_wp) ?_
  refine h t σ H _ s fun Γ1 as ⟨xs, e1, hl, p⟩ vs H1 t' ha s1 => ?_
  subst e1
  obtain ⟨F, own, wd, hS, hT⟩ := s1
  obtain ⟨hT', r⟩ := args_va ha hT
  refine ⟨by rw [r.length]; exact Nat.le_trans hl (by decide), fun q0 hq => q _ _ p _ _ ?_⟩
  have nq := wd.none_own hq
  refine ⟨F, put own q0 (.inr t.length), wd.newO hq _, hS.up (Same.rfl' F) fun a i z => ⟨?_, fun o e => Same.newH hq a o e⟩, ⟨q0, rfl, put_same, vs, upd_same, r⟩, hT'.up (Same.rfl' F) fun a i hi z => ⟨?_, fun o e => Same.newH hq a o e⟩⟩
  · rw [put_ne (fun y => by rw [y, nq] at z; cases z)]
    exact z
  · rw [put_ne (fun y => by rw [y, nq] at z; cases z)]
    exact z
theorem ev_nil (c : Cd α) (h : P Γ (ow (oLst c) [])) : EV X B (.List [] pos) Γ P := ev_lst (ea_nil ⟨[], rfl, Nat.zero_le _, h⟩)
/-- frozen things in a tuple -/
theorem push_tup {K : Fg} {t : List (V × Bd)} {σ : L2.St} {F H : Hp} {own : Ow} {cd : Cd γ} {x : γ} {q0 : Addr} {vs : List V} (wd : Wd B F own H) (hS : HoldS K F H own σ Γ) (hT : HoldT K F H own t) (hq : H q0 = none) (r : cd.rp K (upd F q0 (.tup vs)) x (.ref q0)) : Sat K B ((V.ref q0, va cd x) :: t) σ Γ (upd H q0 (.tup vs)) :=
  Sat.pushUp (wd.newF hq) (Same.newH (wd.none_F hq)) (Same.newH hq) hS hT r
theorem push_tupF {K : Fg} {t : List (V × Bd)} {σ : L2.St} {F H : Hp} {own : Ow} {cd : Cd γ} {x : γ} {q0 : Addr} {vs : List V} {us : Array Value} (wd : Wd B F own H) (hS : HoldS K F H own σ Γ) (hT : HoldT K F H own t) (hq : H q0 = none) (r : cd.rp K (upd F q0 (.frz (tOb us) (.tup vs))) x (.ref q0)) : Sat K B ((V.ref q0, va cd x) :: t) σ Γ (upd H q0 (.frz (tOb us) (.tup vs))) :=
  Sat.pushUp (wd.newF hq) (Same.newH (wd.none_F hq)) (Same.newH hq) hS hT r
theorem ev_tup {x1} (h : EA X B es Γ (fun Γ1 as => ∃ xs : List α, as = xs.map (fun x => .tmp (va c x)) ∧ xs.length ≤ 100000 ∧ P Γ1 (va (cTup c) xs))) : EV X B (.Tuple es x1 pos) Γ P := by
  intro t σ H Q s q
  refine wp_of_pe (pe_tupF pa_wp) ?_
  refine h t σ H _ s fun Γ1 as ⟨xs, e1, hl, p⟩ vs H1 t' ha s1 => ?_
  subst e1
  obtain ⟨F, own, wd, hS, hT⟩ := s1
  obtain ⟨hT', r⟩ := args_va ha hT
  refine ⟨by rw [r.length]; exact Nat.le_trans hl (by decide), fun q0 us hq => q _ _ p _ _ ?_⟩
  exact push_tupF wd hS hT' hq ⟨q0, vs, rfl, .of upd_same, r.imp fun _ _ => c.up (Same.newH (wd.none_F hq))⟩
theorem ev_pr {x1} (h : EA X B es Γ (fun Γ1 as => ∃ x y, as = [.tmp (va c x), .tmp (va d y)] ∧ P Γ1 (va (cPr c d) (x, y)))) : EV X B (.Tuple es x1 pos) Γ P := by
  intro t σ H Q s q
  refine wp_of_pe (pe_tup pa_wp) ?_
  refine h t σ H _ s fun Γ1 as ⟨x, y, e1, p⟩ vs H1 t' ha s1 => ?_
  subst e1
  obtain ⟨F, own, wd, hS, hT⟩ := s1
  cases ha with
  | tmp ha => cases ha with
    | tmp ha =>
      cases ha
      rename_i v w
      obtain ⟨⟨w', ew, rw'⟩, ⟨v', ev, rv⟩, hT'⟩ := hT
      cases ev
      cases ew
      refine ⟨(by show 2 ≤ sizeLine; decide), fun q0 hq => q _ _ p _ _ ?_⟩
      have sF : Same F (upd F q0 (.tup [v, w])) := Same.newH (wd.none_F hq)
      exact push_tup wd hS hT' hq ⟨q0, v, w, rfl, upd_same, c.up sF rv, d.up sF rw'⟩
theorem ev_tr {x1} (h : EA X B es Γ (fun Γ1 as => ∃ x y z, as = [.tmp (va c x), .tmp (va d y), .tmp (va f z)] ∧ P Γ1 (va (cTr c d f) (x, y, z)))) : EV X B (.Tuple es x1 pos) Γ P := by
  intro t σ H Q s q
  refine wp_of_pe (pe_tup pa_wp) ?_
  refine h t σ H _ s fun Γ1 as ⟨x, y, z, e1, p⟩ vs H1 t' ha s1 => ?_
  subst e1
  obtain ⟨F, own, wd, hS, hT⟩ := s1
  cases ha with
  | tmp ha => cases ha with
    | tmp ha => cases ha with
      | tmp ha =>
        cases ha
        rename_i v w u
        obtain ⟨⟨u', eu, ru⟩, ⟨w', ew, rw'⟩, ⟨v', ev, rv⟩, hT'⟩ := hT
        cases ev
        cases ew
        cases eu
        refine ⟨(by show 3 ≤ sizeLine; decide), fun q0 hq => q _ _ p _ _ ?_⟩
        have sF : Same F (upd F q0 (.tup [v, w, u])) := Same.newH (wd.none_F hq)
        exact push_tup wd hS hT' hq ⟨q0, v, w, u, rfl, .of upd_same, c.up sF rv, d.up sF rw', f.up sF ru⟩
theorem xp_pr {x1} {x : α} {y : β} (ha : XM X B Z a Γ c (.ok x)) (hb : XM X B Z b Γ d (.ok y)) (hs : starEach (a :: [b]) X.env = (false, eval a X.env) :: starEach [b] X.env := by rfl) (hs2 : starEach (b :: []) X.env = (false, eval b X.env) :: starEach [] X.env := by rfl) : XM X B Z (.Tuple [a, b] x1 pos) Γ (cPr c d) (.ok (x, y)) := fun P g =>
  ev_pr (ea_tmp (ha _ (ea_tmp (hb _ (ea_nil ⟨x, y, rfl, g⟩)) hs2)) hs)
theorem xm_pr {x1} {m : Res α} {m' : Res β} (ha : XM X B Z a Γ c m) (hb : XM X B Z b Γ d m') (hs : starEach (a :: [b]) X.env = (false, eval a X.env) :: starEach [b] X.env := by rfl) (hs2 : starEach (b :: []) X.env = (false, eval b X.env) :: starEach [] X.env := by rfl) : XM X B Z (.Tuple [a, b] x1 pos) Γ (cPr c d) (m >>= fun x => m' >>= fun y => .ok (x, y)) := fun P g =>
  ev_pr (ea_tmp (ha _ (good_imp (good_bind g) fun x gx => ea_tmp (hb _ (good_imp (good_bind gx) fun y gy => ea_nil ⟨x, y, rfl, gy⟩)) hs2)) hs)
theorem xp_tup0 {x1} : XM X B Z (.Tuple [] x1 pos) Γ (cTup c) (.ok []) := fun P g => ev_tup (ea_nil ⟨[], rfl, Nat.zero_le _, g⟩)
theorem xp_tup1 {x1} {x : α} (ha : XM X B Z a Γ c (.ok x)) (hs : starEach (a :: []) X.env = (false, eval a X.env) :: starEach [] X.env := by rfl) : XM X B Z (.Tuple [a] x1 pos) Γ (cTup c) (.ok [x]) := fun P g => ev_tup (ea_tmp (ha _ (ea_nil ⟨[x], rfl, Nat.le_of_ble_eq_true rfl, g⟩)) hs)
theorem xm_tup1 {x1} {m : Res α} (ha : XM X B Z a Γ c m) (hs : starEach (a :: []) X.env = (false, eval a X.env) :: starEach [] X.env := by rfl) : XM X B Z (.Tuple [a] x1 pos) Γ (cTup c) (m >>= fun x => .ok [x]) := fun P g => ev_tup (ea_tmp (ha _ (good_imp (good_bind g) fun x gx => ea_nil ⟨[x], rfl, Nat.le_of_ble_eq_true rfl, gx⟩)) hs)
/-- a list of written, frozen items -/
inductive XMs {α : Type} (X : Cx) (B : Bs) (Z : Zt) (Γ : List Bd) (c : Cd α) : List Expr → List α → Prop
  | nil : XMs X B Z Γ c [] []
  | cons {e es x xs} : XM X B Z e Γ c (.ok x) → starEach (e :: es) X.env = (false, eval e X.env) :: starEach es X.env → XMs X B Z Γ c es xs → XMs X B Z Γ c (e :: es) (x :: xs)
theorem ea_XMs {es : List Expr} {xs : List α} (h : XMs X B Z Γ c es xs) : ∀ {P : List Bd → List Ag → Prop}, P Γ (xs.map fun x => .tmp (va c x)) → EA X B es Γ P := by
  induction h with
  | nil => exact fun p => ea_nil p
  | cons ha hs _ ih => exact fun p => ea_tmp (ha _ (ih p)) hs
theorem xo_lst {xs : List α} (h : XMs X B Z Γ c es xs) (hl : Nat.ble xs.length 100000 = true := by rfl) : XO X B Z (.List es pos) Γ (oLst c) (.ok xs) := fun P g => ev_lst (ea_XMs h ⟨xs, rfl, Nat.le_of_ble_eq_true hl, g⟩)
theorem xp_tupN {x1} {xs : List α} (h : XMs X B Z Γ c es xs) (hl : Nat.ble xs.length 100000 = true := by rfl) : XM X B Z (.Tuple es x1 pos) Γ (cTup c) (.ok xs) := fun P g => ev_tup (ea_XMs h ⟨xs, rfl, Nat.le_of_ble_eq_true hl, g⟩)
end

/-! ## a slot's own list changes -/
def setI {α : Type} (xs : List α) (i : Int) (y : α) : Option (List α) := (ixN xs.length i).map fun j => xs.set j y
def appO {α : Type} (xs : List α) (y : α) : Option (List α) := if xs.length < 16777216 then some (xs ++ [y]) else none
def popO {α : Type} (xs : List α) (i : Int) : Option (α × List α) := (ixN xs.length i).bind fun j => (xs[j]?).map fun y => (y, xs.eraseIdx j)
theorem All2.erase {α : Type} {r : α → V → Prop} : ∀ {xs : List α} {vs : List V} {i : Nat}, All2 r xs vs → All2 r (xs.eraseIdx i) (vs.eraseIdx i)
  | [], [], _, h => h
  | _ :: _, _ :: _, 0, ⟨_, b⟩ => b
  | _ :: _, _ :: _, i + 1, ⟨a, b⟩ => ⟨a, All2.erase (i := i) b⟩
  | [], _ :: _, _, z => z.elim
  | _ :: _, [], _, z => z.elim
section
variable {K : Fg} {B : Bs} {t : List (V × Bd)} {σ : L2.St} {Γ : List Bd} {H F : Hp} {own : Ow} {α : Type} {c : Cd α} {xs ys : List α} {i : Nat} {a : Addr} {us : List V}
/-- slot i's own list is written -/
theorem Sat.wrO (wd : Wd B F own H) (hS : HoldS K F H own σ Γ) (hT : HoldT K F H own t) (e : slot σ i = some (.ref a)) (h0 : own a = some (.inl i)) (hi : i < Γ.length) (r : All2 (c.rp K F) ys us) : Sat K B t σ (Γ.set i (ow (oLst c) ys)) (upd H a (.lst us)) := by
  refine ⟨F, own, wd.write h0, ⟨by rw [List.length_set]; exact hS.1, fun j b q => ?_⟩, hT.up (Same.rfl' F) fun b j hj z => ⟨z, fun o h => ?_⟩⟩
  · by_cases ij : i = j
    · subst ij
      rw [List.getElem?_set_self hi] at q
      cases q
      exact ⟨a, e, h0, us, upd_same, r⟩
    · rw [List.getElem?_set_ne ij] at q
      refine b.up (Same.rfl' F) (fun x z => ⟨z, fun o h => ?_⟩) (hS.2 j b q)
      rw [upd_ne (fun y => by rw [y, h0] at z; injection z with z; injection z with z; exact ij z)]
      exact h
  · rw [upd_ne (fun y => by rw [y, h0] at z; cases z)]
    exact h
end
section
variable {X : Cx} {B : Bs} {Z : Zt} {Γ : List Bd} {R : Rs} {P : List Bd → Bd → Prop} {e ix : Expr} {pos pos' p p2 : Pos} {k : Nat} {α : Type} {c : Cd α}
theorem eg_item (i : Nat) {n : Str} {y : α} (O : Ok X B Z k) {xs : List α} {j : Int} {ys : List α} (hi : XM X B Z ix Γ cInt (.ok j)) (hΓ : Γ[i]? = some (ow (oLst c) xs)) (hs : setI xs j y = some ys) {Q : List Bd → Prop} (h : Q (Γ.set i (ow (oLst c) ys))) (hN : X.N[i]? = some n := by rfl)
    (hv : Vis X.env.scope n := by first | exact Or.inl rfl | exact Or.inr (Or.inl rfl) | exact Or.inr (Or.inr rfl)) (hd : (n == ("__debug__" : Str)) = false := by decide) (hcd : (n == ("__classdict__" : Str)) = false := by decide)
    (ha : ∀ v, assign (.Subscript (.Name n p) ix pos) X.env v = (do
      let ov ← holding [v] (eval (.Name n p) X.env)
      let iv ← holding [v, ov] (eval ix X.env)
      standAt pos
      holding [v, ov, iv] (setItem ov iv v)
      release [v, ov, iv] []) := by intro _; rfl) : EG X B [] (.Subscript (.Name n p) ix pos) Γ (va c y) Q := by
  intro t σ H v Q' pn s q
  have s0 := s
  obtain ⟨F0, own0, w0, hS0, _⟩ := s0
  obtain ⟨a0, ea, _⟩ := hS0.2 i _ hΓ
  refine wp_of_pg (pg_sub (pe_var hN hv hd hcd) pe_wp set_list ha) ⟨.ref a0, slot_some ea, ?_⟩
  refine hi (fun Γ' b' => Γ' = Γ ∧ b' = va cInt j) ⟨rfl, rfl⟩ _ σ H _ s fun Γ1 b1 ⟨e0, e1⟩ w H1 s1 => ?_
  subst e0 e1
  obtain ⟨F, own, wd, hS, ⟨w', ew, rw'⟩, ⟨v', ev, rv⟩, hT⟩ := s1
  cases ew
  cases ev
  obtain ⟨a, ea', h0, vs, h1, h2⟩ := hS.2 i _ hΓ
  rw [ea] at ea'
  cases ea'
  unfold setI at hs
  cases q0 : ixN xs.length j with
  | none =>
    rw [q0] at hs
    cases hs
  | some jj =>
    rw [q0] at hs
    cases hs
    refine ⟨a0, vs, j, jj, rfl, rw', h1, by rw [h2.length]; exact q0, q _ h σ _ ⟨rfl, fun _ _ => rfl⟩ pn ?_⟩
    exact Sat.wrO wd hS hT ea h0 (List.getElem?_eq_some_iff.mp hΓ).1 (h2.set rv)
/-- xs[j] = e -/
theorem s1_setItem (i : Nat) {n : Str} (O : Ok X B Z k) (h : EV X B e Γ (fun Γ1 b1 => ∃ y, b1 = va c y ∧ ∃ j, XM X B Z ix Γ1 cInt (.ok j) ∧ ∃ xs ys, Γ1[i]? = some (ow (oLst c) xs) ∧ setI xs j y = some ys ∧ R.nx (Γ1.set i (ow (oLst c) ys)))) (hN : X.N[i]? = some n := by rfl)
    (hv : Vis X.env.scope n := by first | exact Or.inl rfl | exact Or.inr (Or.inl rfl) | exact Or.inr (Or.inr rfl)) (hd : (n == ("__debug__" : Str)) = false := by decide) (hcd : (n == ("__classdict__" : Str)) = false := by decide)
    (ha : ∀ v, assign (.Subscript (.Name n p) ix pos') X.env v = (do
      let ov ← holding [v] (eval (.Name n p) X.env)
      let iv ← holding [v, ov] (eval ix X.env)
      standAt pos'
      holding [v, ov, iv] (setItem ov iv v)
      release [v, ov, iv] []) := by intro _; rfl) (hs : swapsWithSole [.Subscript (.Name n p) ix pos'] e pos.line X.env = pure false := by rfl) (hw : swappedStores [.Subscript (.Name n p) ix pos'] e X.env = pure none := by rfl)
    (h1 : (assignEach [.Subscript (.Name n p) ix pos'] X.env).map (·.2) = [assign (.Subscript (.Name n p) ix pos') X.env] := by rfl) : S1 X B (.Assign [.Subscript (.Name n p) ix pos'] e pos) Γ R :=
  s1_asgG (h.mono fun Γ1 b1 ⟨y, e1, j, hj, xs, ys, h2, h3, h4⟩ => by
    subst e1
    exact eg_item i O hj h2 h3 h4 hN hv hd hcd ha) hs hw h1
/-- xs.append(e) as a statement -/
theorem ev_append (i : Nat) {n m : Str} {xs0 : List α} (hΓ : Γ[i]? = some (ow (oLst c) xs0)) (h : EV X B e Γ (fun Γ1 b1 => ∃ y, b1 = va c y ∧ ∃ xs ys, Γ1[i]? = some (ow (oLst c) xs) ∧ appO xs y = some ys ∧ P (Γ1.set i (ow (oLst c) ys)) (va cNon ()))) (hN : X.N[i]? = some n := by rfl)
    (hv : Vis X.env.scope n := by first | exact Or.inl rfl | exact Or.inr (Or.inl rfl) | exact Or.inr (Or.inr rfl)) (hd : (n == ("__debug__" : Str)) = false := by decide) (hcd : (n == ("__classdict__" : Str)) = false := by decide)
    (hbase : attributeBase (.Name n p) "append" X.env (eval (.Name n p) X.env) = eval (.Name n p) X.env := by rfl)
    (hfew : ((backTo pos (starEach (e :: []) X.env)).all (fun x => !x.1) && (backToKw pos (keywordEach [] X.env)).all (fun x => x.1.isSome) && decide ((e :: []).length + ([] : List Keyword).length + (if ([] : List Keyword).isEmpty then 0 else 1) < 30)) = true := by rfl)
    (hline : (p2.endLine == pos.line) = true := by rfl) (hs : starEach (e :: []) X.env = (false, eval e X.env) :: starEach [] X.env := by rfl) (hplain : (backTo pos (starEach [] X.env)).any (·.1) = false := by rfl) :
    EV X B (.Call (.Attribute (.Name n p) "append" p2) [e] [] pos) Γ P := by
  intro t σ H Q s q
  have s0 := s
  obtain ⟨F0, own0, w0, hS0, hT0⟩ := s0
  obtain ⟨a, ea, _, vs0, h0, _⟩ := hS0.2 i _ hΓ
  refine wp_of_pe (pe_bm PySem.F.plainAttrs_list PySem.F.slot_list_append PySem.F.type_list_append mt_append (pe_var hN hv hd hcd) (pa_cons pe_wp pa_nil hs) hbase hfew hline hs hplain) ⟨.ref a, slot_some ea, .inl ⟨rfl, vs0, .of h0⟩, ?_⟩
  refine h t σ H _ s fun Γ1 b1 ⟨y, e1, xs, ys, g1, g2, p⟩ v H1 s1 => ?_
  subst e1
  obtain ⟨F, own, wd, hS, ⟨v', ev, rv⟩, hT⟩ := s1
  cases ev
  obtain ⟨a', ea', k0, vs, k1, k2⟩ := hS.2 i _ g1
  rw [ea] at ea'
  cases ea'
  unfold appO at g2
  split at g2
  · rename_i hz
    cases g2
    refine ⟨a, vs, v, rfl, rfl, k1, by rw [k2.length, sizeLine_eq]; exact hz, q _ _ p _ _ ?_⟩
    have s2 : Sat X.K B t σ (Γ1.set i (ow (oLst c) (xs ++ [y]))) (upd H1 a (.lst (vs ++ [v]))) := Sat.wrO wd hS hT ea k0 (List.getElem?_eq_some_iff.mp g1).1 (k2.app ⟨rv, trivial⟩)
    obtain ⟨F2, own2, wd2, hS2, hT2⟩ := s2
    exact Sat.push wd2 hS2 hT2 rfl
  · cases g2
/-- xs.pop(e) -/
theorem ev_popAt (i : Nat) {n : Str} {xs0 : List α} (hΓ : Γ[i]? = some (ow (oLst c) xs0)) (h : EV X B e Γ (fun Γ1 b1 => ∃ j, b1 = va cInt j ∧ ∃ xs y ys, Γ1[i]? = some (ow (oLst c) xs) ∧ (-(2 ^ 63) ≤ j ∧ j < 2 ^ 63) ∧ popO xs j = some (y, ys) ∧ P (Γ1.set i (ow (oLst c) ys)) (va c y))) (hN : X.N[i]? = some n := by rfl)
    (hv : Vis X.env.scope n := by first | exact Or.inl rfl | exact Or.inr (Or.inl rfl) | exact Or.inr (Or.inr rfl)) (hd : (n == ("__debug__" : Str)) = false := by decide) (hcd : (n == ("__classdict__" : Str)) = false := by decide)
    (hbase : attributeBase (.Name n p) "pop" X.env (eval (.Name n p) X.env) = eval (.Name n p) X.env := by rfl)
    (hfew : ((backTo pos (starEach (e :: []) X.env)).all (fun x => !x.1) && (backToKw pos (keywordEach [] X.env)).all (fun x => x.1.isSome) && decide ((e :: []).length + ([] : List Keyword).length + (if ([] : List Keyword).isEmpty then 0 else 1) < 30)) = true := by rfl)
    (hline : (p2.endLine == pos.line) = true := by rfl) (hs : starEach (e :: []) X.env = (false, eval e X.env) :: starEach [] X.env := by rfl) (hplain : (backTo pos (starEach [] X.env)).any (·.1) = false := by rfl) :
    EV X B (.Call (.Attribute (.Name n p) "pop" p2) [e] [] pos) Γ P := by
  intro t σ H Q s q
  have s0 := s
  obtain ⟨F0, own0, w0, hS0, hT0⟩ := s0
  obtain ⟨a, ea, _, vs0, h0, _⟩ := hS0.2 i _ hΓ
  refine wp_of_pe (pe_bm PySem.F.plainAttrs_list PySem.F.slot_list_pop PySem.F.type_list_pop mt_popAt (pe_var hN hv hd hcd) (pa_cons pe_wp pa_nil hs) hbase hfew hline hs hplain) ⟨.ref a, slot_some ea, .inl ⟨rfl, vs0, .of h0⟩, ?_⟩
  refine h t σ H _ s fun Γ1 b1 ⟨j, e1, xs, y, ys, g1, ⟨l1, l2⟩, g2, p⟩ v H1 s1 => ?_
  subst e1
  obtain ⟨F, own, wd, hS, ⟨v', ev, rv⟩, hT⟩ := s1
  cases ev
  obtain ⟨a', ea', k0, vs, k1, k2⟩ := hS.2 i _ g1
  rw [ea] at ea'
  cases ea'
  unfold popO at g2
  cases q0 : ixN xs.length j with
  | none =>
    rw [q0] at g2
    cases g2
  | some jj =>
    rw [q0, Option.bind_some] at g2
    cases q1 : xs[jj]? with
    | none =>
      rw [q1] at g2
      cases g2
    | some y' =>
      rw [q1] at g2
      cases g2
      obtain ⟨u, hu, ru⟩ := k2.get q1
      have hix : seqIndex? j vs.length = some jj := by
        rw [k2.length]
        exact (ixN_seq q0).1
      refine ⟨a, vs, j, jj, u, rfl, by rw [show v = V.int j from rv], k1, l1, l2, hix, hu, q _ _ p _ _ ?_⟩
      have s2 : Sat X.K B t σ (Γ1.set i (ow (oLst c) (xs.eraseIdx jj))) (upd H1 a (.lst (vs.eraseIdx jj))) := Sat.wrO wd hS hT ea k0 (List.getElem?_eq_some_iff.mp g1).1 k2.erase
      have s3 := s2
      obtain ⟨F2, own2, wd2, hS2, hT2⟩ := s3
      refine ⟨F, own, wd.write k0, ?_, ⟨u, rfl, ru⟩, ?_⟩
      · refine ⟨by rw [List.length_set]; exact hS.1, fun j' b q' => ?_⟩
        by_cases ij : i = j'
        · subst ij
          rw [List.getElem?_set_self (List.getElem?_eq_some_iff.mp g1).1] at q'
          cases q'
          exact ⟨a, ea, k0, _, upd_same, k2.erase⟩
        · rw [List.getElem?_set_ne ij] at q'
          refine b.up (Same.rfl' F) (fun x z => ⟨z, fun o h => ?_⟩) (hS.2 j' b q')
          rw [upd_ne (fun y => by rw [y, k0] at z; injection z with z; injection z with z; exact ij z)]
          exact h
      · exact hT.up (Same.rfl' F) fun b j hj z => ⟨z, fun o h => by
          rw [upd_ne (fun y => by rw [y, k0] at z; cases z)]
          exact h⟩
end
end T
set_option maxHeartbeats 4000000
namespace T
open PySem PySem.Spec PyProof.Rows L2
/-! ## iterators -/
def Gd (gi : Option Nat) (b : Bd) (v : V) (Γ : List Bd) (σ : L2.St) : Prop := match gi with
  | none => True
  | some i => Γ[i]? = some b ∧ slot σ i = some v
def Gk (gi : Option Nat) (Γ Γ' : List Bd) : Prop := match gi with
  | none => True
  | some i => Γ'[i]? = Γ[i]?
theorem Gd.keep {gi : Option Nat} {b : Bd} {v : V} {Γ Γ' : List Bd} {σ : L2.St} (k : Gk gi Γ Γ') (h : Gd gi b v Γ σ) : Gd gi b v Γ' σ := by
  cases gi with
  | none => trivial
  | some i => exact ⟨Eq.trans k h.1, h.2⟩
structure Walks {α : Type} (K : Fg) (B : Bs) (cd : Cd α) (J : It) (tm : List (V × Bd)) (G : List Bd → L2.St → Prop) (xs : List α) : Prop where
  stop : ∀ p t σ Γ H, Sat K B (p ++ (tm ++ t)) σ Γ H → G Γ σ → J.stop xs.length H
  go : ∀ p t σ Γ H i x, Sat K B (p ++ (tm ++ t)) σ Γ H → G Γ σ → xs[i]? = some x → J.go i H ∧ ∀ v H', J.yld i H v H' → Sat K B ((v, va cd x) :: (p ++ (tm ++ t))) σ Γ H'
def IT {α : Type} (X : Cx) (B : Bs) (tg it : Expr) (Γ : List Bd) (gi : Option Nat) (cd : Cd α) (P : List Bd → List α → Prop) : Prop :=
  ∃ wi, PI X tg it wi ∧ ∀ t σ H R, Sat X.K B t σ Γ H → (∀ Γ' xs, P Γ' xs → ∀ J H' tm b v, Sat X.K B (tm ++ t) σ Γ' H' → Gd gi b v Γ' σ → Walks X.K B cd J tm (Gd gi b v) xs → R J H') → wi σ H R
theorem HoldT.at {K : Fg} {F H : Hp} {own : Ow} {q : V × Bd} {t : List (V × Bd)} : ∀ {p : List (V × Bd)}, HoldT K F H own (p ++ q :: t) → q.2.hold K F H (some q.1) (fun a => own a = some (.inr t.length))
  | [], h => h.1
  | _ :: p, h => HoldT.at (p := p) h.2
theorem Sat.mids {K : Fg} {B : Bs} {p t : List (V × Bd)} {σ : L2.St} {Γ : List Bd} {H : Hp} : ∀ {tm : List (V × Bd)}, Sat K B (p ++ (tm ++ t)) σ Γ H → Sat K B (p ++ t) σ Γ H
  | [], s => s
  | q :: tm, s => Sat.mids (tm := tm) (Sat.mid (q := q) s)
noncomputable def rngO (lo hi : Int) : Option (List Int) := @ite _ (rngOk lo hi = true) (Classical.propDecidable _) (some (rng lo hi)) none
theorem rngO_some {lo hi : Int} {xs : List Int} (h : rngO lo hi = some xs) : rngOk lo hi = true ∧ xs = rng lo hi := by
  unfold rngO at h
  split at h
  · cases h
    exact ⟨by assumption, rfl⟩
  · cases h
section
variable {X : Cx} {B : Bs} {Z : Zt} {Γ : List Bd} {R : Rs} {e it tg c : Expr} {st : Stmt} {ss A1 A2 body : List Stmt} {pos pos' p : Pos} {k : Nat} {α β : Type} {cd : Cd α} {js : List Nat} {P : List Bd → List α → Prop}
theorem IT.mono {gi : Option Nat} {P' : List Bd → List α → Prop} (h : IT X B tg it Γ gi cd P) (hP : ∀ Γ' xs, P Γ' xs → P' Γ' xs) : IT X B tg it Γ gi cd P' := by
  obtain ⟨wi, h1, h2⟩ := h
  exact ⟨wi, h1, fun t σ H R s q => h2 t σ H R s fun Γ' xs p => q Γ' xs (hP Γ' xs p)⟩
theorem walks_seq {K : Fg} {l : Bool} {a : Addr} {vs : List V} {xs : List α} {G : List Bd → L2.St → Prop} : Walks K B cd (if l = true then Itl K a else Itt K a) [(V.ref a, raw l a vs cd xs)] G xs := by
  refine ⟨fun p t σ Γ H s _ => ?_, fun p t σ Γ H i x s _ hx => ?_⟩
  · obtain ⟨F, own, wd, hS, hT⟩ := s
    have h := hT.at (p := p) (q := (V.ref a, raw l a vs cd xs))
    cases l with
    | true => exact ⟨vs, seqL_up wd.fh h.2.1, by rw [h.2.2.length]; exact Nat.le_refl _⟩
    | false => exact ⟨vs, seqT_up wd.fh h.2.1, by rw [h.2.2.length]; exact Nat.le_refl _⟩
  · obtain ⟨F, own, wd, hS, hT⟩ := s
    have h := hT.at (p := p) (q := (V.ref a, raw l a vs cd xs))
    obtain ⟨v, hv, rv⟩ := h.2.2.get hx
    cases l with
    | true =>
      refine ⟨⟨vs, v, seqL_up wd.fh h.2.1, hv⟩, fun v' H' ⟨e1, e2⟩ => ?_⟩
      subst e1
      have := e2 vs (seqL_up wd.fh h.2.1)
      rw [hv] at this
      cases this
      exact Sat.push wd hS hT rv
    | false =>
      refine ⟨⟨vs, v, seqT_up wd.fh h.2.1, hv⟩, fun v' H' ⟨e1, e2⟩ => ?_⟩
      subst e1
      have := e2 vs (seqT_up wd.fh h.2.1)
      rw [hv] at this
      cases this
      exact Sat.push wd hS hT rv
theorem it_list (h : EV X B it Γ (fun Γ1 b1 => ∃ xs, b1 = va (cLst cd) xs ∧ P Γ1 xs)) : IT X B tg it Γ none cd P := by
  refine ⟨_, pi_list pe_wp, fun t σ H R s q => h t σ H _ s fun Γ1 b1 ⟨xs, e1, p⟩ v H1 s1 => ?_⟩
  subst e1
  obtain ⟨F, own, wd, hS, ⟨v', ev, a, vs, ea, h1, h2⟩, hT⟩ := s1
  cases ev
  subst ea
  exact ⟨a, rfl, ⟨vs, seqL_up wd.fh h1⟩, q Γ1 xs p _ H1 [(V.ref a, raw true a vs cd xs)] un .non ⟨F, own, wd, hS, ⟨rfl, h1, h2⟩, hT⟩ trivial (walks_seq (l := true))⟩
theorem it_tup (h : EV X B it Γ (fun Γ1 b1 => ∃ xs, b1 = va (cTup cd) xs ∧ P Γ1 xs)) : IT X B tg it Γ none cd P := by
  refine ⟨_, pi_tup pe_wp, fun t σ H R s q => h t σ H _ s fun Γ1 b1 ⟨xs, e1, p⟩ v H1 s1 => ?_⟩
  subst e1
  obtain ⟨F, own, wd, hS, ⟨v', ev, a, vs, ea, h1, h2⟩, hT⟩ := s1
  cases ev
  subst ea
  exact ⟨a, rfl, ⟨vs, seqT_up wd.fh (sqT h1)⟩, q Γ1 xs p _ H1 [(V.ref a, raw false a vs cd xs)] un .non ⟨F, own, wd, hS, ⟨rfl, sqT h1, h2⟩, hT⟩ trivial (walks_seq (l := false))⟩
/-- a slot's own list that nobody changes meanwhile -/
theorem it_own (i : Nat) {xs : List α} {n : Str} (hΓ : Γ[i]? = some (ow (oLst cd) xs)) (h : P Γ xs) (hN : X.N[i]? = some n := by rfl)
    (hv : Vis X.env.scope n := by first | exact Or.inl rfl | exact Or.inr (Or.inl rfl) | exact Or.inr (Or.inr rfl)) (hd : (n == ("__debug__" : Str)) = false := by decide) (hcd : (n == ("__classdict__" : Str)) = false := by decide) : IT X B tg (.Name n pos) Γ (some i) cd P := by
  refine ⟨_, pi_list (pe_var hN hv hd hcd), fun t σ H R s q => ?_⟩
  have s' := s
  obtain ⟨F, own, wd, hS, hT⟩ := s'
  obtain ⟨a, ea, h0, vs, h1, h2⟩ := hS.2 i _ hΓ
  refine ⟨.ref a, slot_some ea, a, rfl, ⟨vs, .of h1⟩, q Γ xs h _ H [] _ (.ref a) s ⟨hΓ, ea⟩ ⟨fun p t σ Γ H s g => ?_, fun p t σ Γ H j x s g hx => ?_⟩⟩
  · obtain ⟨F, own, wd, hS, hT⟩ := s
    obtain ⟨g1, g2⟩ := g
    obtain ⟨a', ea', h0, vs, h1, h2⟩ := hS.2 i _ g1
    rw [g2] at ea'
    cases ea'
    exact ⟨vs, .of h1, by rw [h2.length]; exact Nat.le_refl _⟩
  · obtain ⟨F, own, wd, hS, hT⟩ := s
    obtain ⟨g1, g2⟩ := g
    obtain ⟨a', ea', h0, vs, h1, h2⟩ := hS.2 i _ g1
    rw [g2] at ea'
    cases ea'
    obtain ⟨v, hv, rv⟩ := h2.get hx
    refine ⟨⟨vs, v, .of h1, hv⟩, fun v' H' ⟨e1, e2⟩ => ?_⟩
    subst e1
    have := e2 vs (.of h1)
    rw [hv] at this
    cases this
    exact Sat.push wd hS hT rv
theorem walks_rng {K : Fg} {lo hi : Int} {G : List Bd → L2.St → Prop} : Walks K B cInt (Itr lo (hi - lo).toNat) [] G (rng lo hi) := by
  refine ⟨fun p t σ Γ H s _ => ?_, fun p t σ Γ H i x s _ hx => ?_⟩
  · show (hi - lo).toNat ≤ _
    rw [rng_len]
    exact Nat.le_refl _
  · have hl : i < (hi - lo).toNat := by
      have := (List.getElem?_eq_some_iff.mp hx).1
      rw [rng_len] at this
      exact this
    rw [rng_at hl] at hx
    cases hx
    refine ⟨hl, fun v H' ⟨e1, e2⟩ => ?_⟩
    subst e1
    subst e2
    obtain ⟨F, own, wd, hS, hT⟩ := s
    exact Sat.push wd hS hT rfl
theorem it_range {P : List Bd → List Int → Prop} {a : Expr} (hm : X.mg "range" = none) (h : EV X B a Γ (fun Γ1 b1 => ∃ n, b1 = va cInt n ∧ ∃ xs, rngO 0 n = some xs ∧ P Γ1 xs)) (hg : Gl X "range" := by rfl) (he : starEach [a] X.env = [(false, eval a X.env)] := by rfl) :
    IT X B tg (.Call (.Name "range" p) [a] [] pos) Γ none cInt P := by
  refine ⟨_, pi_range1 hg hm (pa_cons pe_wp pa_nil he) he, fun t σ H R s q => ?_⟩
  refine h t σ H _ s fun Γ1 b1 ⟨n, e1, xs, hr, p⟩ v H1 s1 => ?_
  subst e1
  obtain ⟨hk, ex⟩ := rngO_some hr
  subst ex
  obtain ⟨r1, r2, r3, r4⟩ := of_decide_eq_true hk
  have s2 := s1
  obtain ⟨F, own, wd, hS, ⟨v', ev, rv⟩, hT⟩ := s2
  cases ev
  refine ⟨n, by rw [show v = V.int n from rv], r3, r4, ?_⟩
  have e : n.toNat = (n - 0).toNat := by rw [Int.sub_zero]
  rw [e]
  exact q Γ1 _ p _ H1 [] un .non s1.drop trivial walks_rng
theorem it_range2 {P : List Bd → List Int → Prop} {a b : Expr} (hm : X.mg "range" = none) (h : EV X B a Γ (fun Γ1 b1 => ∃ lo, b1 = va cInt lo ∧ EV X B b Γ1 (fun Γ2 b2 => ∃ hi, b2 = va cInt hi ∧ ∃ xs, rngO lo hi = some xs ∧ P Γ2 xs))) (hg : Gl X "range" := by rfl)
    (he : starEach [a, b] X.env = [(false, eval a X.env), (false, eval b X.env)] := by rfl) (he2 : starEach [b] X.env = [(false, eval b X.env)] := by rfl) :
    IT X B tg (.Call (.Name "range" p) [a, b] [] pos) Γ none cInt P := by
  refine ⟨_, pi_range2 hg hm (pa_cons pe_wp (pa_cons pe_wp pa_nil he2) (by rw [he, he2])) he he2, fun t σ H R s q => ?_⟩
  refine h t σ H _ s fun Γ1 b1 ⟨lo, e1, h1⟩ v H1 s1 => ?_
  subst e1
  refine h1 _ σ H1 _ s1 fun Γ2 b2 ⟨hi, e2, xs, hr, p⟩ w H2 s2 => ?_
  subst e2
  obtain ⟨hk, ex⟩ := rngO_some hr
  subst ex
  obtain ⟨r1, r2, r3, r4⟩ := of_decide_eq_true hk
  have s3 := s2
  obtain ⟨F, own, wd, hS, ⟨v', ev, rv⟩, ⟨w', ew, rw'⟩, hT⟩ := s3
  cases ev
  cases ew
  exact ⟨lo, hi, by rw [show v = V.int lo from rw', show w = V.int hi from rv], ⟨r1, r2, r3, r4⟩, q Γ2 _ p _ H2 [] un .non s2.drop.drop trivial walks_rng⟩
/-- for -/
theorem s1_forI (O : Ok X B Z k) (h : IT X B tg it Γ none cd (fun Γ1 xs => FB X B js tg body cd xs Γ1 R)) (hs : ∀ x, foldedSetIterable it X.env x = pure x := by intro _; rfl) : S1 X B (.For tg it body [] pos) Γ R := fun t σ H D pn s d => by
  obtain ⟨wi, h1, h2⟩ := h
  refine wp_of_ps (ps_for O.pass O.calm h1 pg_wp pss_wp hs) ?_
  refine h2 t σ H _ s fun Γ1 xs ⟨J, ⟨Γ0, w0, j0⟩, hb, hn⟩ It H1 tm b v s1 _ W => ?_
  refine ⟨fun i m σ' H' => m = xs.length - i ∧ i ≤ xs.length ∧ ∃ Γ', J i Γ' ∧ Pin B σ' ∧ Sat X.K B (tm ++ t) σ' Γ' H', ⟨xs.length, by simp, Nat.zero_le _, Γ0, j0, pn, s1.wk w0⟩, ?_⟩
  rintro i m σ' H' ⟨rfl, hi, Γ', j', pn', s'⟩
  by_cases hlt : i < xs.length
  · obtain ⟨g1, g2⟩ := W.go [] t σ' Γ' H' i xs[i] s' trivial (List.getElem?_eq_getElem hlt)
    refine .inr ⟨g1, fun σ'' H'' => ∃ Γ'', J (i + 1) Γ'' ∧ Pin B σ'' ∧ Sat X.K B (tm ++ t) σ'' Γ'' H'', fun σ'' H'' p' => ⟨xs.length - (i + 1), by omega, rfl, hlt, p'⟩, fun x H2 y => ?_⟩
    exact loop_step d tm (hb i xs[i] Γ' (List.getElem?_eq_getElem hlt) j') pn' (g2 x H2 y) (fun s => s.mids) fun Γ4 σ'' H'' j pn'' s'' => ⟨Γ4, j, pn'', s''⟩
  · have e : i = xs.length := by omega
    subst e
    exact .inl ⟨W.stop [] t σ' Γ' H' s' trivial, d.nx Γ' (hn Γ' j') σ' H' pn' (Sat.mids (p := []) s')⟩
end

/-! ## list comprehensions -/
def ZF : Zt := fun _ _ => False
def noX {α : Type} (m : Res α) : Res α := match m with
  | .exc _ => .stuck
  | m => m
theorem good_noX {α : Type} {m : Res α} {P : α → Prop} {Z : Exn → Prop} (h : good (noX m) P Z) : good m P (fun _ => False) := by
  cases m with
  | ok x => exact h
  | exc e => exact h.elim
  | stuck => exact h
def compF {α β S : Type} : List α → S → List β → (α → S → Res (Option β × S)) → Res (List β × S)
  | [], s, acc, _ => .ok (acc, s)
  | x :: xs, s, acc, f => if acc.length < 16777216 then noX (f x s) >>= fun p => compF xs p.2 (match p.1 with
      | some y => acc ++ [y]
      | none => acc) f else .stuck
def wipB (Γ : List Bd) : List Nat → List Bd
  | [] => Γ
  | v :: vs => (wipB Γ vs).set v un
theorem wipB_len {Γ : List Bd} : ∀ {vs : List Nat}, (wipB Γ vs).length = Γ.length
  | [] => rfl
  | v :: vs => by
    show ((wipB Γ vs).set v un).length = _
    rw [List.length_set, wipB_len]
theorem wipB_at {Γ : List Bd} {j : Nat} {b : Bd} : ∀ {vs : List Nat}, j ∈ vs → (wipB Γ vs)[j]? = some b → b = un
  | v :: vs, h, e => by
    have e : ((wipB Γ vs).set v un)[j]? = some b := e
    by_cases q : v = j
    · subst q
      by_cases hl : v < (wipB Γ vs).length
      · rw [List.getElem?_set_self hl] at e
        exact (Option.some.inj e).symm
      · rw [List.getElem?_eq_none (by rw [List.length_set]; omega)] at e
        cases e
    · rw [List.getElem?_set_ne q] at e
      rcases List.mem_cons.mp h with z | z
      · exact absurd z.symm q
      · exact wipB_at z e
theorem Sat.swap {K : Fg} {B : Bs} {t : List (V × Bd)} {σ σ' : L2.St} {Γ : List Bd} {H : Hp} {vs : List Nat} (hw : wipB Γ vs = Γ) (e : wipe σ vs = wipe σ' vs) (s : Sat K B t σ Γ H) : Sat K B t σ' Γ H := by
  obtain ⟨F, own, wd, hS, hT⟩ := s
  have el : σ'.length = σ.length := by
    have := congrArg List.length e
    rw [wipe_length, wipe_length] at this
    exact this.symm
  refine ⟨F, own, wd, ⟨el.trans hS.1, fun j b q => ?_⟩, hT⟩
  by_cases m : j ∈ vs
  · rw [← hw] at q
    have := wipB_at m q
    subst this
    exact trivial
  · have h := hS.2 j b q
    have es : slot σ' j = slot σ j := by
      unfold slot
      rw [← wipe_out (σ := σ') m, ← e, wipe_out m]
    rw [es]
    exact h
theorem wipe_wipe {σ : L2.St} : ∀ {vs : List Nat}, ∀ {us : List Nat}, (∀ v ∈ us, v ∈ vs) → wipe (wipe σ us) vs = wipe σ vs
  | vs, us, h => by
    apply List.ext_getElem?
    intro j
    by_cases m : j ∈ vs
    · by_cases hl : j < σ.length
      · have a : ∀ {τ : L2.St} {vs : List Nat}, j ∈ vs → j < τ.length → (wipe τ vs)[j]? = some none := by
          intro τ vs
          induction vs with
          | nil =>
            intro z _
            cases z
          | cons v vs ih =>
            intro z hl
            show ((wipe τ vs).set v none)[j]? = _
            by_cases q : v = j
            · subst q
              rw [List.getElem?_set_self (by rw [wipe_length]; exact hl)]
            · rw [List.getElem?_set_ne q]
              rcases List.mem_cons.mp z with z | z
              · exact absurd z.symm q
              · exact ih z hl
        rw [a m (by rw [wipe_length]; exact hl), a m hl]
      · rw [List.getElem?_eq_none (by rw [wipe_length, wipe_length]; omega), List.getElem?_eq_none (by rw [wipe_length]; omega)]
    · rw [wipe_out m, wipe_out m, wipe_out (fun z => m (h j z))]
theorem Dif.wipe {σ σ' : L2.St} {vs : List Nat} (h : Dif vs σ σ') : L2.wipe σ' vs = L2.wipe σ vs := by
  apply List.ext_getElem?
  intro j
  by_cases m : j ∈ vs
  · by_cases hl : j < σ.length
    · have a : ∀ {τ : L2.St} {vs : List Nat}, j ∈ vs → j < τ.length → (L2.wipe τ vs)[j]? = some none := by
        intro τ vs
        induction vs with
        | nil =>
          intro z _
          cases z
        | cons v vs ih =>
          intro z hl
          show ((L2.wipe τ vs).set v none)[j]? = _
          by_cases q : v = j
          · subst q
            rw [List.getElem?_set_self (by rw [wipe_length]; exact hl)]
          · rw [List.getElem?_set_ne q]
            rcases List.mem_cons.mp z with z | z
            · exact absurd z.symm q
            · exact ih z hl
      rw [a m (by rw [h.1]; exact hl), a m hl]
    · rw [List.getElem?_eq_none (by rw [wipe_length, h.1]; omega), List.getElem?_eq_none (by rw [wipe_length]; omega)]
  · rw [wipe_out m, wipe_out m]
    exact h.2 j (by simpa using m)
theorem Pin.wipe {B : Bs} {σ : L2.St} {vs : List Nat} (hp : vs.all (fun i => !B.pins.contains i) = true) (h : Pin B σ) : Pin B (L2.wipe σ vs) := fun j hj => by
  have m : j ∉ vs := fun z => by
    have := List.all_eq_true.mp hp j z
    rw [hj] at this
    cases this
  unfold slot
  rw [wipe_out m]
  exact h j hj
section
variable {X : Cx} {B : Bs} {Z : Zt} {Γ : List Bd} {R : Rs} {e it tg c elt : Expr} {ifs : List Expr} {pos pos' p spos : Pos} {k : Nat} {α β S : Type} {cd : Cd α} {ce : Cd β} {js : List Nat} {scope : Scope} {s : Shared} {H0 : Hp} {cenv : Env} {fp : List Addr}
theorem Ok.blk {B' : Bs} (O : Ok X B Z k) : Ok (X.blk s H0 scope cenv fp) B' ZF k where
  calm := O.calm
  nd := O.nd
  room := O.room
  pass := PassesOwn.never
  exn := ⟨fun _ _ _ _ => False, fun u s' ⟨_, _, _, _, _, _, _, _, _, _, _, _, _, _, _, _, w⟩ => w, fun _ _ z => z.elim⟩
def Bs.unp (B : Bs) : Bs := { B with pins := [], s0 := [] }
theorem Sat.unp {K : Fg} {t : List (V × Bd)} {σ : L2.St} {Γ : List Bd} {H : Hp} (s : Sat K B t σ Γ H) : Sat K B.unp t σ Γ H := by
  obtain ⟨F, own, w, hS, hT⟩ := s
  exact ⟨F, own, ⟨w.fh, w.fo, w.oh, w.b1, w.b2, w.b3, w.b4⟩, hS, hT⟩
theorem Sat.pun {K : Fg} {t : List (V × Bd)} {σ : L2.St} {Γ : List Bd} {H : Hp} (s : Sat K B.unp t σ Γ H) : Sat K B t σ Γ H := by
  obtain ⟨F, own, w, hS, hT⟩ := s
  exact ⟨F, own, ⟨w.fh, w.fo, w.oh, w.b1, w.b2, w.b3, w.b4⟩, hS, hT⟩
theorem pin_unp {σ : L2.St} : Pin B.unp σ := fun j hj => by cases hj
def CE (X : Cx) (B : Bs) (elt : Expr) (Γ : List Bd) (ce : Cd β) (Γs : S → List Bd) (Pb : Option β × S → Prop) : Prop := EV X B elt Γ (fun Γ4 be => ∃ y s', Pb (some y, s') ∧ be = va ce y ∧ Wk Γ4 (Γs s'))
def CT (X : Cx) (B : Bs) (scope : Scope) (ifs : List Expr) (elt : Expr) (Γ : List Bd) (ce : Cd β) (Γs : S → List Bd) (Pb : Option β × S → Prop) : Prop := match ifs with
  | [] => ∀ s H C cl fp, CE (X.blk s H scope (compEnvC scope cl C X.env) fp) B elt Γ ce Γs Pb
  | [c] => ∀ s H C cl fp, ET (X.blk s H scope (compEnvC scope cl C X.env) fp) B c Γ (fun Γ3 b => if b = true then ∀ s H C cl fp, CE (X.blk s H scope (compEnvC scope cl C X.env) fp) B elt Γ3 ce Γs Pb else ∃ s', Pb (none, s') ∧ Wk Γ3 (Γs s'))
  | _ => False
/-- the readings in all blocks -/
def bG (X : Cx) (scope : Scope) (tg : Expr) : TG := fun v σ H Q => ∀ s H0 C cl fp, wpG (X.blk s H0 scope (compEnvC scope cl C X.env) fp) tg v σ H Q
def bE (X : Cx) (scope : Scope) (e : Expr) : TE := fun σ H Q => ∀ s H0 C cl fp, wpE (X.blk s H0 scope (compEnvC scope cl C X.env) fp) e σ H Q
def bT (X : Cx) (scope : Scope) : List Expr → TT
  | [] => tYes
  | [c] => fun σ H Q => ∀ s H0 C cl fp, wpT (X.blk s H0 scope (compEnvC scope cl C X.env) fp) c σ H Q
  | _ => fun _ _ _ => False
theorem bg_ok : ∀ (s : Shared) (H : Hp) (C : Addr) (cl : List (Str × Addr)) (fp : List Addr), PG (X.blk s H scope (compEnvC scope cl C X.env) fp) tg (bG X scope tg) := fun s H C cl fp => ⟨fun pins s' σ H' v u Q I r h => (h s H C cl fp).run pins s' u I r⟩
theorem be_ok : ∀ (s : Shared) (H : Hp) (C : Addr) (cl : List (Str × Addr)) (fp : List Addr), PE (X.blk s H scope (compEnvC scope cl C X.env) fp) e (bE X scope e) := fun s H C cl fp => ⟨fun pins s' σ H' Q I h => (h s H C cl fp).run pins s' I⟩
theorem bt_ok : ∀ (s : Shared) (H : Hp) (C : Addr) (cl : List (Str × Addr)) (fp : List Addr), PTs (X.blk s H scope (compEnvC scope cl C X.env) fp) ifs (bT X scope ifs) := fun s H C cl fp => by
  match ifs with
  | [] => exact pts_nil
  | [c] => exact pts_one ⟨fun pins s' σ H' Q I h => (h s H C cl fp).run pins s' I⟩
  | _ :: _ :: _ => exact ⟨fun pins s' σ H' Q I h => h.elim⟩
theorem comp_core {wi : TI} {gi : Option Nat} {vs : List Nat} {t : List (V × Bd)} {σ : L2.St} {H : Hp} {Q : VK} {f : α → S → Res (Option β × S)} {Pk : List β × S → Prop} {Pi : List Bd → List α → Prop} (Γs : S → List Bd)
    (hwi : ∀ R, (∀ Γ' xs, Pi Γ' xs → ∀ J H' tm b v, Sat X.K B (tm ++ t) σ Γ' H' → Gd gi b v Γ' σ → Walks X.K B cd J tm (Gd gi b v) xs → R J H') → wi σ H R)
    (hPi : ∀ Γ1 xs, Pi Γ1 xs → ∃ (s0 : S) (Zk : Exn → Prop), Wk Γ1 (Γs s0) ∧ (∀ s, Gk gi Γ1 (Γs s)) ∧ good (compF xs s0 [] f) Pk Zk)
    (hb : ∀ s H C cl fp, ∀ x st (Pb : Option β × S → Prop), good (f x st) Pb (fun _ => False) → EG (X.blk s H scope (compEnvC scope cl C X.env) fp) B.unp vs tg (Γs st) (va cd x) (fun Γ2 => CT X B.unp scope ifs elt Γ2 ce Γs Pb))
    (hw : ∀ s, wipB (Γs s) vs = Γs s) (q : ∀ p, Pk p → ∀ v H', Sat X.K B ((v, ow (oLst ce) p.1) :: t) σ (Γs p.2) H' → Q v H') : tLc wi (bG X scope tg) (bT X scope ifs) (bE X scope elt) vs σ H Q := by
  refine hwi _ fun Γ1 xs p1 J H1 tm b v s1 g1 W D hD => ?_
  obtain ⟨s0, Zk, w0, hG, gd⟩ := hPi Γ1 xs p1
  have g0 : ∀ s, Gd gi b v (Γs s) σ := fun s => g1.keep (hG s)
  refine ⟨fun i m H' => ∃ (st : S) (acc : List β), m = xs.length - i ∧ i ≤ xs.length ∧ Sat X.K B ([(V.ref D, ow (oLst ce) acc)] ++ (tm ++ t)) σ (Γs st) H' ∧ good (compF (xs.drop i) st acc f) Pk Zk, ⟨xs.length, s0, [], by simp, Nat.zero_le _, ?_, gd⟩, ?_⟩
  · obtain ⟨F, own, wd, hS, hT⟩ := s1.wk w0
    have nq := wd.none_own hD
    refine ⟨F, put own D (.inr (tm ++ t).length), wd.newO hD _, hS.up (Same.rfl' F) fun a i z => ⟨?_, fun o e => Same.newH hD a o e⟩, ⟨D, rfl, put_same, [], upd_same, trivial⟩, hT.up (Same.rfl' F) fun a i hi z => ⟨?_, fun o e => Same.newH hD a o e⟩⟩
    · rw [put_ne (fun y => by rw [y, nq] at z; cases z)]
      exact z
    · rw [put_ne (fun y => by rw [y, nq] at z; cases z)]
      exact z
  · rintro i m H' ⟨st, acc, rfl, hi, s', gs⟩
    by_cases hlt : i < xs.length
    · have hx : xs[i]? = some xs[i] := List.getElem?_eq_getElem hlt
      obtain ⟨w1, w2⟩ := W.go _ t σ (Γs st) H' i xs[i] s' (g0 st) hx
      rw [drop_cons hx] at gs
      unfold compF at gs
      by_cases hz : acc.length < 16777216
      · rw [if_pos hz] at gs
        have gf := good_noX (good_bind gs)
        refine .inr ⟨w1, fun H'' => ∃ (st' : S) (acc' : List β), Sat X.K B ([(V.ref D, ow (oLst ce) acc')] ++ (tm ++ t)) σ (Γs st') H'' ∧ good (compF (xs.drop (i + 1)) st' acc' f) Pk Zk, fun H'' ⟨st', acc', a, b⟩ => ⟨xs.length - (i + 1), by omega, st', acc', rfl, hlt, a, b⟩, fun x H2 y => ?_⟩
        have s2 := w2 x H2 y
        have s3 : Sat X.K B ((x, va cd xs[i]) :: ([(V.ref D, ow (oLst ce) acc)] ++ (tm ++ t))) (wipe σ vs) (Γs st) H2 := s2.swap (hw st) (wipe_wipe fun _ h => h).symm
        have fin : ∀ {Γ3 : List Bd} {σ2 : L2.St} {H3 : Hp} {st' : S} {pr : List (V × Bd)}, L2.wipe σ2 vs = L2.wipe σ vs → Wk Γ3 (Γs st') → Sat X.K B (pr ++ ([(V.ref D, ow (oLst ce) acc)] ++ (tm ++ t))) σ2 Γ3 H3 → Sat X.K B (pr ++ ([(V.ref D, ow (oLst ce) acc)] ++ (tm ++ t))) σ (Γs st') H3 := fun e w s => (s.wk w).swap (hw _) e
        intro s H0 C cl fp
        refine hb s H0 C cl fp xs[i] st _ gf _ (wipe σ vs) H2 x _ pin_unp s3.unp fun Γ2 h2 σ2 H3 df pn2 s4 => ?_
        have ew : L2.wipe σ2 vs = L2.wipe σ vs := df.wipe.trans (wipe_wipe fun _ h => h)
        refine ⟨ew, ?_⟩
        have elt_ok : ∀ {Γ3 : List Bd} {H4 : Hp} {Pb : Option β × S → Prop}, (∀ p, Pb p → good (compF (xs.drop (i + 1)) p.2 (match p.1 with
            | some y => acc ++ [y]
            | none => acc) f) Pk Zk) → (∀ s H C cl fp, CE (X.blk s H scope (compEnvC scope cl C X.env) fp) B.unp elt Γ3 ce Γs Pb) → Sat X.K B ([(V.ref D, ow (oLst ce) acc)] ++ (tm ++ t)) σ2 Γ3 H4 →
            bE X scope elt σ2 H4 fun y H4 => ∃ acc_1, H4 D = some (.lst acc_1) ∧ acc_1.length < sizeLine ∧ ∃ (st' : S) (acc' : List β), Sat X.K B ([(V.ref D, ow (oLst ce) acc')] ++ (tm ++ t)) σ (Γs st') (upd H4 D (.lst (acc_1 ++ [y]))) ∧ good (compF (xs.drop (i + 1)) st' acc' f) Pk Zk := by
          intro Γ3 H4 Pb hP hce s5 s H0 C cl fp
          refine hce s H0 C cl fp _ σ2 H4 _ s5.unp fun Γ4 be ⟨y, s', pb, e1, w⟩ yv H5 s6 => ?_
          subst e1
          have s7 := fin (pr := [(yv, va ce y)]) ew w s6.pun
          obtain ⟨F, own, wd, hS, ⟨y', ey, ry⟩, ⟨D', eD, hD', us, hu, ru⟩, hT⟩ := s7
          cases ey
          cases eD
          refine ⟨us, hu, by rw [ru.length, sizeLine_eq]; exact hz, s', acc ++ [y], ⟨F, own, wd.write hD', hS.up (Same.rfl' F) fun a i z => ⟨z, fun o e => ?_⟩, ⟨D, rfl, hD', us ++ [yv], upd_same, ru.app ⟨ry, trivial⟩⟩, hT.up (Same.rfl' F) fun a i hi z => ⟨z, fun o e => ?_⟩⟩, hP _ pb⟩
          · rw [upd_ne (fun y => by rw [y, hD'] at z; cases z)]
            exact e
          · rw [upd_ne (fun y => by rw [y, hD'] at z; injection z with z; injection z with z; simp at z hi; omega)]
            exact e
        match ifs, h2 with
        | [], h2 => exact elt_ok (fun _ h => h) h2 s4.pun
        | [c], h2 =>
          intro s H0 C cl fp
          refine h2 s H0 C cl fp _ σ2 H3 _ s4 fun Γ3 bb p3 H4 s5 => ?_
          cases bb with
          | true =>
            rw [if_pos rfl] at p3 ⊢
            exact elt_ok (fun _ h => h) p3 s5.pun
          | false =>
            rw [if_neg Bool.false_ne_true] at p3 ⊢
            obtain ⟨s', pb, w⟩ := p3
            exact ⟨s', acc, fin (pr := []) ew w s5.pun, pb⟩
        | _ :: _ :: _, h2 => exact h2.elim
      · rw [if_neg hz] at gs
        exact gs.elim
    · have e : i = xs.length := by omega
      subst e
      rw [List.drop_length] at gs
      exact .inl ⟨W.stop _ t σ (Γs st) H' s' (g0 st), q (acc, st) gs _ H' (Sat.mids (p := [(V.ref D, ow (oLst ce) acc)]) s')⟩
/-- [elt for tg in it if c] as a value -/
theorem ev_comp {gi : Option Nat} {vs : List Nat} {own : List (Str × Nat)} {f : α → S → Res (Option β × S)} {P : List Bd → Bd → Prop} (ce : Cd β) (O : Ok X B Z k) (Γs : S → List Bd)
    (hI : IT X B tg it Γ gi cd (fun Γ1 xs => ∃ (s0 : S) (Zk : Exn → Prop), Wk Γ1 (Γs s0) ∧ (∀ s, Gk gi Γ1 (Γs s)) ∧ good (compF xs s0 [] f) (fun p => P (Γs p.2) (ow (oLst ce) p.1)) Zk))
    (hb : ∀ s H C cl fp, Ok (X.blk s H scope (compEnvC scope cl C X.env) fp) B.unp ZF k → ∀ x st (Pb : Option β × S → Prop), good (f x st) Pb (fun _ => False) → EG (X.blk s H scope (compEnvC scope cl C X.env) fp) B.unp vs tg (Γs st) (va cd x) (fun Γ2 => CT X B.unp scope ifs elt Γ2 ce Γs Pb))
    (hv : own.map (·.2) = vs := by rfl) (ok : blkC X.N X.env.scope scope own = true := by decide +kernel) (hw : ∀ s, wipB (Γs s) vs = Γs s := by intro _; rfl) (hs : ∀ x, foldedSetIterable it X.env x = pure x := by intro _; rfl) :
    EV X B (.ListComp elt [⟨tg, it, ifs, 0⟩] scope pos) Γ P := by
  intro t σ H Q s q
  obtain ⟨wi, h1, h2⟩ := hI
  refine wp_of_pe (pe_lc (own := own) O.calm O.nd h1 (blkOk_by ok) bg_ok bt_ok be_ok hs) ?_
  rw [hv]
  exact comp_core Γs (fun R hR => h2 t σ H R s hR) (fun Γ1 xs h => h) (fun s H C cl fp => hb s H C cl fp O.blk) hw fun p hP v H' s' => q _ _ hP v H' s'
/-- name = [elt for tg in it if c] on one line -/
theorem s1_comp {gi : Option Nat} {vs : List Nat} {own : List (Str × Nat)} {f : α → S → Res (Option β × S)} {y : Str} {py : Pos} (ce : Cd β) (i : Nat) (O : Ok X B Z k) (Γs : S → List Bd)
    (hI : IT X B tg it Γ gi cd (fun Γ1 xs => ∃ (s0 : S) (Zk : Exn → Prop), Wk Γ1 (Γs s0) ∧ (∀ s, Gk gi Γ1 (Γs s)) ∧ good (compF xs s0 [] f) (fun p => R.nx ((Γs p.2).set i (ow (oLst ce) p.1))) Zk))
    (hb : ∀ s H C cl fp, Ok (X.blk s H scope (compEnvC scope cl C X.env) fp) B.unp ZF k → ∀ x st (Pb : Option β × S → Prop), good (f x st) Pb (fun _ => False) → EG (X.blk s H scope (compEnvC scope cl C X.env) fp) B.unp vs tg (Γs st) (va cd x) (fun Γ2 => CT X B.unp scope ifs elt Γ2 ce Γs Pb))
    (hN : X.N[i]? = some y := by rfl) (hy : X.env.scope.names.lookup y = some .local := by rfl) (hp : B.pins.contains i = false := by rfl) (hi : ∀ s, Nat.blt i (Γs s).length = true := by intro _; rfl) (hk : X.env.scope.kind = .function := by rfl) (hl : (py.line == pos.line) = true := by rfl) (ha : (scope.names.any fun (n, k) => n == y && (k == .local || k == .cell)) = false := by rfl)
    (hv : own.map (·.2) = vs := by rfl) (ok : blkC X.N X.env.scope scope own = true := by decide +kernel) (hw : ∀ s, wipB (Γs s) vs = Γs s := by intro _; rfl) (hs : ∀ x, foldedSetIterable it X.env x = pure x := by intro _; rfl) :
    S1 X B (.Assign [.Name y py] (.ListComp elt [⟨tg, it, ifs, 0⟩] scope pos) spos) Γ R := by
  intro t σ H D pn s d
  obtain ⟨wi, h1, h2⟩ := hI
  refine wp_of_ps (ps_setLc (own := own) O.calm O.nd hN hy (sw_true hk hy hl ha) h1 (blkOk_by ok) bg_ok bt_ok be_ok hs) ?_
  rw [hv]
  refine comp_core Γs (fun R hR => h2 t σ H R s hR) (fun Γ1 xs h => h) (fun s H C cl fp => hb s H C cl fp O.blk) hw fun p hP v H' s' => ?_
  exact d.nx _ hP _ H' (pn.set hp) (s'.store (by rw [s'.len]; exact Nat.le_of_ble_eq_true (hi _)))
end
end T
set_option maxHeartbeats 4000000
namespace T
open PySem PySem.Spec PyProof.Rows L2
/-! ## readable lists with a changing state -/
def EL {α : Type} (X : Cx) (B : Bs) (e : Expr) (Γ : List Bd) (c : Cd α) (P : List Bd → List α → Prop) : Prop :=
  ∀ t σ H Q, Sat X.K B t σ Γ H → (∀ Γ' xs, P Γ' xs → ∀ v H', Rdl X.K B t σ Γ' c xs v H' → Q v H') → wpE X e σ H Q
theorem push_own {K : Fg} {B : Bs} {t : List (V × Bd)} {σ : L2.St} {Γ : List Bd} {F H : Hp} {own : Ow} {α : Type} {c : Cd α} {xs : List α} {us : List V} {p : Addr} (wd : Wd B F own H) (hS : HoldS K F H own σ Γ) (hT : HoldT K F H own t) (hq : H p = none) (r : All2 (c.rp K F) xs us) : Sat K B ((V.ref p, ow (oLst c) xs) :: t) σ Γ (upd H p (.lst us)) := by
  have nq := wd.none_own hq
  refine ⟨F, put own p (.inr t.length), wd.newO hq _, hS.up (Same.rfl' F) fun a i z => ⟨?_, fun o e => Same.newH hq a o e⟩, ⟨p, rfl, put_same, us, upd_same, r⟩, hT.up (Same.rfl' F) fun a i hi z => ⟨?_, fun o e => Same.newH hq a o e⟩⟩
  · rw [put_ne (fun y => by rw [y, nq] at z; cases z)]
    exact z
  · rw [put_ne (fun y => by rw [y, nq] at z; cases z)]
    exact z
section
variable {X : Cx} {B : Bs} {Z : Zt} {Γ : List Bd} {P : List Bd → Bd → Prop} {a b e : Expr} {pos p : Pos} {k : Nat} {α β γ : Type} {c : Cd α} {d : Cd β} {cc : Cd γ}
theorem el_xl {m : Res (List α)} {P : List Bd → List α → Prop} (h : XL X B Z e Γ c m) (g : good m (fun xs => P Γ xs) (fun ex => Z ex Γ)) : EL X B e Γ c P := fun t σ H Q s q => h _ g t σ H Q s fun xs p v H' r => q _ xs p v H' r
theorem el_ev {P : List Bd → List α → Prop} (h : EV X B e Γ (fun Γ1 b1 => ∃ xs, (b1 = ow (oLst c) xs ∨ b1 = va (cLst c) xs) ∧ P Γ1 xs)) : EL X B e Γ c P := fun t σ H Q s q => h t σ H Q s fun Γ1 b1 ⟨xs, e1, p⟩ v H1 s1 => by
  rcases e1 with e1 | e1
  · subst e1
    exact q Γ1 xs p v H1 (.inl s1.frzT)
  · subst e1
    exact q Γ1 xs p v H1 (.inl s1)
theorem ev_lop1 {r : V → Hp → VK → Prop} {k : List α → Option γ} (hop : Is1 X e a r) (hs : ∀ xs z, k xs = some z → LOp1 X B r c cc xs z) (h : EL X B a Γ c (fun Γ1 xs => ∃ z, k xs = some z ∧ P Γ1 (va cc z))) : EV X B e Γ P := fun t σ H Q s q => by
  refine wp_of_pe (hop _ pe_wp) ?_
  refine h t σ H _ s fun Γ1 xs ⟨z, hz, p⟩ v H1 s1 => ?_
  obtain ⟨F, own, ad, vs, rfl, w, hS, hT, h1, h2⟩ := s1.get
  exact hs xs z hz F own H1 ad vs Q w h1 h2 fun F' H' u wd' sF sH ru => q _ _ p u H' (Sat.pushUp wd' sF sH hS hT ru)
/-- a rule that reads a list and lays a new one -/
def LNew (X : Cx) (B : Bs) (r : V → Hp → VK → Prop) (c : Cd α) (cc : Cd γ) (xs : List α) (ys : List γ) : Prop :=
  ∀ F own H a vs Q, Wd B F own H → SqL X.K H a vs → All2 (c.rp X.K F) xs vs → (∀ p us, H p = none → All2 (cc.rp X.K F) ys us → Q (.ref p) (upd H p (.lst us))) → r (.ref a) H Q
theorem ev_lnew {r : V → Hp → VK → Prop} {k : List α → Option (List γ)} (hop : Is1 X e a r) (hs : ∀ xs z, k xs = some z → LNew X B r c cc xs z) (h : EL X B a Γ c (fun Γ1 xs => ∃ z, k xs = some z ∧ P Γ1 (ow (oLst cc) z))) : EV X B e Γ P := fun t σ H Q s q => by
  refine wp_of_pe (hop _ pe_wp) ?_
  refine h t σ H _ s fun Γ1 xs ⟨z, hz, p⟩ v H1 s1 => ?_
  obtain ⟨F, own, ad, vs, rfl, w, hS, hT, h1, h2⟩ := s1.get
  exact hs xs z hz F own H1 ad vs Q w h1 h2 fun p' us hp ru => q _ _ p _ _ (push_own w hS hT hp ru)
/-- .. of a coded value -/
def VNew (X : Cx) (B : Bs) (r : V → Hp → VK → Prop) (c : Cd α) (cc : Cd γ) (x : α) (ys : List γ) : Prop :=
  ∀ F own H v Q, Wd B F own H → c.rp X.K F x v → (∀ p us, H p = none → All2 (cc.rp X.K F) ys us → Q (.ref p) (upd H p (.lst us))) → r v H Q
theorem ev_vnew {r : V → Hp → VK → Prop} {k : α → Option (List γ)} (hop : Is1 X e a r) (hs : ∀ x z, k x = some z → VNew X B r c cc x z) (h : EV X B a Γ (fun Γ1 b1 => ∃ x, b1 = va c x ∧ ∃ z, k x = some z ∧ P Γ1 (ow (oLst cc) z))) : EV X B e Γ P := fun t σ H Q s q => by
  refine wp_of_pe (hop _ pe_wp) ?_
  refine h t σ H _ s fun Γ1 b1 ⟨x, e1, z, hz, p⟩ v H1 s1 => ?_
  subst e1
  obtain ⟨F, own, wd, hS, ⟨v', ev, rv⟩, hT⟩ := s1
  cases ev
  exact hs x z hz F own H1 v Q wd rv fun p' us hp ru => q _ _ p _ _ (push_own wd hS hT hp ru)

/-! ### tuple(list), list(..) -/
theorem ev_tupleL (hm : X.mg "tuple" = none) (h : EL X B a Γ c (fun Γ1 xs => P Γ1 (va (cTup c) xs))) (hg : Gl X "tuple" := by rfl) (he : starEach (a :: []) X.env = (false, eval a X.env) :: starEach [] X.env := by rfl) : EV X B (.Call (.Name "tuple" p) [a] [] pos) Γ P := fun t σ H Q s q => by
  refine wp_of_pe (is_callT call_tuple_ofF hm boot_tuple hg (by decide) (by decide) he rfl _ pe_wp) ?_
  refine h t σ H _ s fun Γ1 xs p v H1 s1 => ?_
  obtain ⟨F, own, ad, vs, rfl, w, hS, hT, h1, h2⟩ := s1.get
  exact ⟨ad, vs, rfl, .inl ⟨h1, fun l _ hl => q _ _ p _ _ (push_tupF (cd := cTup c) w hS hT hl ⟨l, vs, rfl, .of upd_same, h2.imp fun _ _ => c.up (Same.newH (w.none_F hl))⟩)⟩⟩
theorem ev_tupleT (hm : X.mg "tuple" = none) (h : EV X B a Γ (fun Γ1 b1 => ∃ xs, b1 = va (cTup c) xs ∧ P Γ1 (va (cTup c) xs))) (hg : Gl X "tuple" := by rfl) (he : starEach (a :: []) X.env = (false, eval a X.env) :: starEach [] X.env := by rfl) : EV X B (.Call (.Name "tuple" p) [a] [] pos) Γ P := fun t σ H Q s q => by
  refine wp_of_pe (is_callT call_tuple_of hm boot_tuple hg (by decide) (by decide) he rfl _ pe_wp) ?_
  refine h t σ H _ s fun Γ1 b1 ⟨xs, e1, p⟩ v H1 s1 => ?_
  subst e1
  have s2 := s1
  obtain ⟨F, own, wd, hS, ⟨v', ev, ad, vs, e2, h1, h2⟩, hT⟩ := s1
  cases ev
  subst e2
  exact ⟨ad, vs, rfl, .inr ⟨seqT_up wd.fh (sqT h1), q _ _ p _ _ s2⟩⟩
theorem ev_listT (hm : X.mg "list" = none) (h : EV X B a Γ (fun Γ1 b1 => ∃ xs, b1 = va (cTup c) xs ∧ ∃ z, some xs = some z ∧ P Γ1 (ow (oLst c) z))) (hg : Gl X "list" := by rfl) (he : starEach (a :: []) X.env = (false, eval a X.env) :: starEach [] X.env := by rfl) : EV X B (.Call (.Name "list" p) [a] [] pos) Γ P :=
  ev_vnew (c := cTup c) (k := some) (is_callT call_list_of hm boot_list hg (by decide) (by decide) he rfl) (fun x z h F own H v Q wd ⟨ad, vs, e, h1, h2⟩ q => by
    cases h
    exact ⟨ad, vs, by rw [e], .inr (seqT_up wd.fh (sqT h1)), fun l hl => q l vs hl h2⟩) h
theorem ev_listL (hm : X.mg "list" = none) (h : EL X B a Γ c (fun Γ1 xs => ∃ z, some xs = some z ∧ P Γ1 (ow (oLst c) z))) (hg : Gl X "list" := by rfl) (he : starEach (a :: []) X.env = (false, eval a X.env) :: starEach [] X.env := by rfl) : EV X B (.Call (.Name "list" p) [a] [] pos) Γ P :=
  ev_lnew (k := some) (is_callT call_list_of hm boot_list hg (by decide) (by decide) he rfl) (fun x z h F own H ad vs Q wd h1 h2 q => by
    cases h
    exact ⟨ad, vs, rfl, .inl h1, fun l hl => q l vs hl h2⟩) h

/-! ### sum, any, all, max, min -/
theorem All2.bls {xs : List Bool} {vs : List V} (h : All2 (fun x v => v = V.bl x) xs vs) : vs = xs.map V.bl := by
  induction xs generalizing vs with
  | nil =>
    cases vs with
    | nil => rfl
    | cons _ _ => exact h.elim
  | cons x xs ih =>
    cases vs with
    | nil => exact h.elim
    | cons v vs =>
      obtain ⟨a, b⟩ := h
      rw [List.map_cons, ih b, a]
theorem boot_any' : bootBuiltins "any" = some (.builtin "any") := by decide +kernel
theorem boot_all' : bootBuiltins "all" = some (.builtin "all") := by decide +kernel
theorem boot_sum' : bootBuiltins "sum" = some (.builtin "sum") := by decide +kernel
theorem boot_sorted' : bootBuiltins "sorted" = some (.builtin "sorted") := by decide +kernel
theorem ev_any {j : Nat} (O : Ok X B Z j) (hm : X.mg "any" = none) (h : EL X B a Γ cBool (fun Γ1 xs => P Γ1 (va cBool (xs.any id)))) (hg : Gl X "any" := by rfl) (he : starEach (a :: []) X.env = (false, eval a X.env) :: starEach [] X.env := by rfl) : EV X B (.Call (.Name "any" p) [a] [] pos) Γ P :=
  ev_lop1 (cc := cBool) (k := fun xs => some (xs.any id)) (is_call (cr_any O.calm) hm boot_any' hg (by decide) (by decide) he rfl) (fun xs z h F own H ad vs Q wd h1 h2 q => by
    cases h
    have e := h2.bls
    subst e
    exact ⟨ad, xs, rfl, h1, q F H _ wd (Same.rfl' F) (Same.rfl' H) rfl⟩) (fun t σ H Q s q => h t σ H Q s fun Γ1 xs p => q Γ1 xs ⟨_, rfl, p⟩)
theorem ev_all {j : Nat} (O : Ok X B Z j) (hm : X.mg "all" = none) (h : EL X B a Γ cBool (fun Γ1 xs => P Γ1 (va cBool (xs.all id)))) (hg : Gl X "all" := by rfl) (he : starEach (a :: []) X.env = (false, eval a X.env) :: starEach [] X.env := by rfl) : EV X B (.Call (.Name "all" p) [a] [] pos) Γ P :=
  ev_lop1 (cc := cBool) (k := fun xs => some (xs.all id)) (is_call (cr_all O.calm) hm boot_all' hg (by decide) (by decide) he rfl) (fun xs z h F own H ad vs Q wd h1 h2 q => by
    cases h
    have e := h2.bls
    subst e
    exact ⟨ad, xs, rfl, h1, q F H _ wd (Same.rfl' F) (Same.rfl' H) rfl⟩) (fun t σ H Q s q => h t σ H Q s fun Γ1 xs p => q Γ1 xs ⟨_, rfl, p⟩)
theorem ev_sum {j : Nat} (O : Ok X B Z j) (hm : X.mg "sum" = none) (h : EL X B a Γ cInt (fun Γ1 xs => P Γ1 (va cInt xs.sum))) (hg : Gl X "sum" := by rfl) (he : starEach (a :: []) X.env = (false, eval a X.env) :: starEach [] X.env := by rfl) : EV X B (.Call (.Name "sum" p) [a] [] pos) Γ P :=
  ev_lop1 (cc := cInt) (k := fun xs => some xs.sum) (is_call (cr_sum O.calm) hm boot_sum' hg (by decide) (by decide) he rfl) (fun xs z h F own H ad vs Q wd h1 h2 q => by
    cases h
    have e := h2.ints
    subst e
    exact ⟨ad, xs, rfl, h1, q F H _ wd (Same.rfl' F) (Same.rfl' H) rfl⟩) (fun t σ H Q s q => h t σ H Q s fun Γ1 xs p => q Γ1 xs ⟨_, rfl, p⟩)

/-! ### the truth of a list -/
theorem et_truL {P : List Bd → Bool → Prop} (h : EL X B e Γ c (fun Γ1 xs => P Γ1 (!xs.isEmpty))) (he : ∀ whole, isTrue e X.env whole = (do let v ← whole; standAt e.pos; holding [v] (truthy v)) := by intro _; rfl) : ET X B e Γ P := fun t σ H Q s q => by
  refine wp_of_pt (pt_truth pe_wp he) ?_
  refine h t σ H _ s fun Γ1 xs p v H1 s1 => ?_
  have hs : ∃ k, TruV X.K v H1 k ∧ k = !xs.isEmpty := by
    obtain ⟨F, own, ad, vs, rfl, w, hS, hT, h1, h2⟩ := s1.get
    refine ⟨!vs.isEmpty, .inl ⟨vs, h1, rfl⟩, ?_⟩
    have := h2.length
    cases xs <;> cases vs <;> first | rfl | cases this
  obtain ⟨k, hk, ek⟩ := hs
  subst ek
  rcases s1 with s1 | ⟨i, e1, e2, s1⟩
  · exact ⟨_, hk, q _ _ p _ s1.drop⟩
  · exact ⟨_, hk, q _ _ p _ s1⟩

/-! ### items of a list that a state-changing expression gives -/
theorem ev_itemL (h : EL X B a Γ c (fun Γ1 xs => ∃ i, XM X B Z b Γ1 cInt (.ok i) ∧ ∃ x, atI xs i = some x ∧ P Γ1 (va c x))) (hs : PlainIx b := by exact fun _ _ => rfl) : EV X B (.Subscript a b pos) Γ P := fun t σ H Q s q => by
  refine wp_of_pe (is_ix hs _ _ pe_wp pe_wp) ?_
  refine h t σ H _ s fun Γ1 xs ⟨i, hi, x, hx, p⟩ v H1 s1 => ?_
  rcases s1 with s1 | ⟨i', e1, e2, s1⟩
  · refine hi (fun Γ' b' => Γ' = Γ1 ∧ b' = va cInt i) ⟨rfl, rfl⟩ _ σ H1 _ s1 fun Γ2 b2 ⟨e0, e1⟩ w H2 s2 => ?_
    subst e0 e1
    obtain ⟨F, own, wd, hS, ⟨w', ew, rw'⟩, ⟨v', ev, ad, vs, e3, h1, h2⟩, hT⟩ := s2
    cases ew
    cases ev
    subst e3
    obtain ⟨u, hu, ru⟩ := h2.atI hx
    exact .inl ⟨ad, vs, i, u, rfl, rw', seqL_up wd.fh h1, hu, q _ _ p u H2 (Sat.push wd hS hT ru)⟩
  · refine hi (fun Γ' b' => Γ' = Γ1 ∧ b' = va cInt i) ⟨rfl, rfl⟩ _ σ H1 _ s1 fun Γ2 b2 ⟨e0, e3⟩ w H2 s2 => ?_
    subst e0 e3
    obtain ⟨F, own, wd, hS, ⟨w', ew, rw'⟩, hT⟩ := s2
    cases ew
    obtain ⟨ad, ea, h0, vs, h1, h2⟩ := hS.2 i' _ e1
    rw [e2] at ea
    cases ea
    obtain ⟨u, hu, ru⟩ := h2.atI hx
    exact .inl ⟨ad, vs, i, u, rfl, rw', .of h1, hu, q _ _ p u H2 (Sat.push wd hS hT ru)⟩
theorem op2_ixL {xs : List α} {i : Int} {x : α} (h : atI xs i = some x) : Op2 X B (rIx X.K) (cLst c) cInt c xs i x := fun F own H v w Q wd ⟨ad, vs, e3, h1, h2⟩ rw' q => by
  obtain ⟨u, hu, ru⟩ := h2.atI h
  exact .inl ⟨ad, vs, i, u, e3, rw', seqL_up wd.fh h1, hu, q F H u wd (Same.rfl' F) (Same.rfl' H) ru⟩
theorem op2_ixT {xs : List α} {i : Int} {x : α} (h : atI xs i = some x) : Op2 X B (rIx X.K) (cTup c) cInt c xs i x := fun F own H v w Q wd ⟨ad, vs, e3, h1, h2⟩ rw' q => by
  obtain ⟨u, hu, ru⟩ := h2.atI h
  exact .inr (.inl ⟨ad, vs, i, u, e3, rw', seqT_up wd.fh (sqT h1), hu, q F H u wd (Same.rfl' F) (Same.rfl' H) ru⟩)
theorem ev_itemE (h : EV X B a Γ (fun Γ1 b1 => ∃ x, b1 = va (cLst c) x ∧ EV X B b Γ1 (fun Γ2 b2 => ∃ y, b2 = va cInt y ∧ ∃ z, atI x y = some z ∧ P Γ2 (va c z)))) (hs : PlainIx b := by exact fun _ _ => rfl) : EV X B (.Subscript a b pos) Γ P :=
  ev_op2 (k := fun xs i => atI xs i) (is_ix hs) (fun _ _ _ h => op2_ixL h) h
theorem ev_itemT (h : EV X B a Γ (fun Γ1 b1 => ∃ x, b1 = va (cTup c) x ∧ EV X B b Γ1 (fun Γ2 b2 => ∃ y, b2 = va cInt y ∧ ∃ z, atI x y = some z ∧ P Γ2 (va c z)))) (hs : PlainIx b := by exact fun _ _ => rfl) : EV X B (.Subscript a b pos) Γ P :=
  ev_op2 (k := fun xs i => atI xs i) (is_ix hs) (fun _ _ _ h => op2_ixT h) h

/-! ### a display times a number -/
theorem All2.rep {r : α → V → Prop} : ∀ {n : Nat} {xs : List α} {vs : List V}, All2 r xs vs → All2 r (List.replicate n xs).flatten (List.replicate n vs).flatten
  | 0, _, _, _ => trivial
  | n + 1, xs, vs, h => by
    rw [List.replicate_succ, List.replicate_succ, List.flatten_cons, List.flatten_cons]
    exact h.app (All2.rep h)
def repO (xs : List α) (k : Int) : Option (List α) := if -(2 ^ 63) ≤ k ∧ k < 2 ^ 63 ∧ xs.length * k.toNat ≤ 16777216 then some (List.replicate k.toNat xs).flatten else none
theorem ev_rep (h : EV X B a Γ (fun Γ1 b1 => ∃ xs, b1 = ow (oLst c) xs ∧ EV X B b Γ1 (fun Γ2 b2 => ∃ n, b2 = va cInt n ∧ ∃ z, repO xs n = some z ∧ P Γ2 (ow (oLst c) z)))) : EV X B (.BinOp a .Mult b pos) Γ P := fun t σ H Q s q => by
  refine wp_of_pe (pe_op op_rep pe_wp pe_wp) ?_
  refine h t σ H _ s fun Γ1 b1 ⟨xs, e1, h1⟩ v H1 s1 => ?_
  subst e1
  refine h1 _ σ H1 _ s1 fun Γ2 b2 ⟨n, e2, z, hz, p⟩ w H2 s2 => ?_
  subst e2
  obtain ⟨F, own, wd, hS, ⟨w', ew, rw'⟩, ⟨ad, ea, h0, vs, h2, h3⟩, hT⟩ := s2
  cases ew
  cases ea
  unfold repO at hz
  split at hz
  · rename_i hk
    cases hz
    refine ⟨ad, n, vs, rfl, rw', h2, hk.1, hk.2.1, by rw [h3.length, sizeLine_eq]; exact hk.2.2, fun p' hp => q _ _ p _ _ (push_own wd hS hT hp h3.rep)⟩
  · cases hz

/-! ### a, b = x, y -/
theorem s1_par {R : Rs} (i j : Nat) {x y : Str} {px py pt pt2 : Pos} {kt k2 : Nat} {jj : Nat} (O : Ok X B Z jj) (h : EA X B [a, b] Γ (fun Γ1 as => ∃ b1 b2, as = [.tmp b1, .tmp b2] ∧ R.nx ((Γ1.set i b1).set j b2))) (hi : X.N[i]? = some x := by rfl) (hj : X.N[j]? = some y := by rfl) (hij : i ≠ j := by decide)
    (hx : X.env.scope.names.lookup x = some .local := by rfl) (hy : X.env.scope.names.lookup y = some .local := by rfl) (hp : B.pins.contains i = false := by rfl) (hp' : B.pins.contains j = false := by rfl) (hl : Nat.blt i Γ.length = true ∧ Nat.blt j Γ.length = true := by exact ⟨rfl, rfl⟩)
    (hw : swappedStores [.Tuple [.Name x px, .Name y py] kt pt] (.Tuple [a, b] k2 pt2) X.env = pure (some [x, y]) := by rfl) (hs : swapsWithSole [.Tuple [.Name x px, .Name y py] kt pt] (.Tuple [a, b] k2 pt2) pos.line X.env = pure false := by rfl) :
    S1 X B (.Assign [.Tuple [.Name x px, .Name y py] kt pt] (.Tuple [a, b] k2 pt2) pos) Γ R := fun t σ H D pn s d => by
  have l0 : i < σ.length ∧ j < σ.length := by
    rw [s.len]
    exact ⟨Nat.le_of_ble_eq_true hl.1, Nat.le_of_ble_eq_true hl.2⟩
  refine wp_of_ps (ps_par O.calm O.nd hi hj hij hx hy pa_wp hw hs) ?_
  refine h t σ H _ s fun Γ1 as ⟨b1, b2, e1, p⟩ vs H1 t' ha s1 => ?_
  subst e1
  cases ha with
  | tmp ha => cases ha with
    | tmp ha =>
      cases ha
      rename_i v w
      refine ⟨v, w, rfl, d.nx _ p _ H1 ((pn.set hp).set hp') ?_⟩
      have s2 := (s1.store (i := j) l0.2).store (i := i) (by rw [List.length_set]; exact l0.1)
      rw [List.set_comm _ _ hij.symm, List.set_comm _ _ hij.symm] at s2
      exact s2
theorem s1_par3 {R : Rs} (i j l : Nat) {x y z : Str} {c1 : Expr} {px py pz pt pt2 : Pos} {kt k2 : Nat} {jj : Nat} (O : Ok X B Z jj) (h : EA X B [a, b, c1] Γ (fun Γ1 as => ∃ b1 b2 b3, as = [.tmp b1, .tmp b2, .tmp b3] ∧ R.nx (((Γ1.set i b1).set j b2).set l b3))) (hi : X.N[i]? = some x := by rfl) (hj : X.N[j]? = some y := by rfl) (hk : X.N[l]? = some z := by rfl) (hij : i ≠ j := by decide) (hil : i ≠ l := by decide) (hjl : j ≠ l := by decide)
    (hx : X.env.scope.names.lookup x = some .local := by rfl) (hy : X.env.scope.names.lookup y = some .local := by rfl) (hz : X.env.scope.names.lookup z = some .local := by rfl) (hp : B.pins.contains i = false := by rfl) (hp' : B.pins.contains j = false := by rfl) (hp2 : B.pins.contains l = false := by rfl) (hl : Nat.blt i Γ.length = true ∧ Nat.blt j Γ.length = true ∧ Nat.blt l Γ.length = true := by exact ⟨rfl, rfl, rfl⟩)
    (hw : swappedStores [.Tuple [.Name x px, .Name y py, .Name z pz] kt pt] (.Tuple [a, b, c1] k2 pt2) X.env = pure (some [x, y, z]) := by rfl) (hs : swapsWithSole [.Tuple [.Name x px, .Name y py, .Name z pz] kt pt] (.Tuple [a, b, c1] k2 pt2) pos.line X.env = pure false := by rfl) :
    S1 X B (.Assign [.Tuple [.Name x px, .Name y py, .Name z pz] kt pt] (.Tuple [a, b, c1] k2 pt2) pos) Γ R := fun t σ H D pn s d => by
  have l0 : i < σ.length ∧ j < σ.length ∧ l < σ.length := by
    rw [s.len]
    exact ⟨Nat.le_of_ble_eq_true hl.1, Nat.le_of_ble_eq_true hl.2.1, Nat.le_of_ble_eq_true hl.2.2⟩
  refine wp_of_ps (ps_par3 O.calm O.nd hi hj hk hij hil hjl hx hy hz pa_wp hw hs) ?_
  refine h t σ H _ s fun Γ1 as ⟨b1, b2, b3, e1, p⟩ vs H1 t' ha s1 => ?_
  subst e1
  cases ha with
  | tmp ha => cases ha with
    | tmp ha => cases ha with
      | tmp ha =>
        cases ha
        rename_i u v w
        refine ⟨u, v, w, rfl, d.nx _ p _ H1 (((pn.set hp).set hp').set hp2) ?_⟩
        have s2 := ((s1.store (i := l) l0.2.2).store (i := j) (by rw [List.length_set]; exact l0.2.1)).store (i := i) (by rw [List.length_set, List.length_set]; exact l0.1)
        rw [List.set_comm _ _ hjl.symm, List.set_comm _ _ hjl.symm, List.set_comm (l := (_ : List Bd).set j b2) _ _ hil.symm, List.set_comm (l := (σ.set j (some v))) _ _ hil.symm, List.set_comm _ _ hij.symm, List.set_comm _ _ hij.symm] at s2
        exact s2
end
end T
set_option maxHeartbeats 4000000
namespace T
open PySem PySem.Spec PyProof.Rows L2
/-! ## deep values -/
structure Deep {α : Type} [DecidableEq α] (c : Cd α) (d : α → PyData) (n : Nat) : Prop where
  dp : ∀ {K : Fg} {F : Hp} {x : α} {v : V}, c.rp K F x v → Dp K F v (d x)
  lay : ∀ x, (d x).canLay0 = true
  dep : ∀ x, (d x).depth ≤ n
  inj : ∀ x y, PyData.eqv (d x) (d y) = decide (x = y)
theorem deep_int : Deep cInt (fun i => .int i) 0 := ⟨fun {K F x v} h => by cases (show v = V.int x from h); exact .int x, fun _ => rfl, fun _ => Nat.le_refl _, fun x y => by
  show (x == y) = _
  by_cases h : x = y <;> simp [h]⟩
theorem deep_bool : Deep cBool (fun i => .bool i) 0 := ⟨fun {K F x v} h => by cases (show v = V.bl x from h); exact .bl x, fun _ => rfl, fun _ => Nat.le_refl _, fun x y => by cases x <;> cases y <;> rfl⟩
section
variable {α β : Type} [DecidableEq α] [DecidableEq β] {c : Cd α} {d : Cd β} {f : α → PyData} {g : β → PyData} {n : Nat}
theorem All2.dp (D : Deep c f n) {K : Fg} {F : Hp} : ∀ {xs : List α} {vs : List V}, All2 (c.rp K F) xs vs → DpAll K F vs (xs.map f)
  | [], [], _ => .nil
  | _ :: _, _ :: _, ⟨a, b⟩ => .cons (D.dp a) (All2.dp D b)
  | [], _ :: _, z => z.elim
  | _ :: _, [], z => z.elim
theorem Deep.layAll (D : Deep c f n) : ∀ xs : List α, PyData.canLayAll0 (xs.map f) = true
  | [] => rfl
  | x :: xs => by
    show ((f x).canLay0 && PyData.canLayAll0 (xs.map f)) = true
    rw [D.lay x, D.layAll xs]
    rfl
theorem Deep.depAll (D : Deep c f n) : ∀ xs : List α, PyData.depthAll (xs.map f) ≤ n
  | [] => Nat.zero_le _
  | x :: xs => by
    show max (f x).depth (PyData.depthAll (xs.map f)) ≤ n
    exact Nat.max_le.mpr ⟨D.dep x, D.depAll xs⟩
theorem Deep.injAll (D : Deep c f n) : ∀ xs ys : List α, PyData.eqvAll (xs.map f) (ys.map f) = decide (xs = ys)
  | [], [] => rfl
  | [], _ :: _ => rfl
  | _ :: _, [] => rfl
  | x :: xs, y :: ys => by
    show (PyData.eqv (f x) (f y) && PyData.eqvAll (xs.map f) (ys.map f)) = _
    rw [D.inj x y, D.injAll xs ys]
    by_cases h : x = y <;> by_cases h' : xs = ys <;> simp [h, h']
theorem deep_tup (D : Deep c f n) : Deep (cTup c) (fun xs => .tuple (xs.map f)) (n + 1) := ⟨fun {K F xs v} ⟨a, vs, e, h, r⟩ => by
  subst e
  exact .tup (sqT h) (r.dp D), fun xs => D.layAll xs, fun xs => Nat.succ_le_succ (D.depAll xs), fun x y => D.injAll x y⟩
theorem deep_lst (D : Deep c f n) : Deep (cLst c) (fun xs => .list (xs.map f)) (n + 1) := ⟨fun {K F xs v} ⟨a, vs, e, h, r⟩ => by
  subst e
  exact .lst h (r.dp D), fun xs => D.layAll xs, fun xs => Nat.succ_le_succ (D.depAll xs), fun x y => D.injAll x y⟩
theorem deep_pr (D : Deep c f n) (E : Deep d g n) : Deep (cPr c d) (fun p => .tuple [f p.1, g p.2]) (n + 1) := ⟨fun {K F p v} ⟨a, x, y, e, h, r, q⟩ => by
  subst e
  exact .tup (.of h) (.cons (D.dp r) (.cons (E.dp q) .nil)), fun p => by
  show ((f p.1).canLay0 && ((g p.2).canLay0 && true)) = true
  rw [D.lay, E.lay]
  rfl, fun p => by
  show max (f p.1).depth (max (g p.2).depth 0) + 1 ≤ n + 1
  have := D.dep p.1
  have := E.dep p.2
  omega, fun p q => by
  show (PyData.eqv (f p.1) (f q.1) && (PyData.eqv (g p.2) (g q.2) && true)) = _
  rw [D.inj, E.inj]
  obtain ⟨a, b⟩ := p
  obtain ⟨a', b'⟩ := q
  by_cases h : a = a' <;> by_cases h' : b = b' <;> simp [h, h']⟩
theorem Deep.up {m : Nat} (D : Deep c f n) (h : n ≤ m) : Deep c f m := ⟨D.dp, D.lay, fun x => Nat.le_trans (D.dep x) h, D.inj⟩
theorem Deep.sh (D : Deep c f n) (h : n ≤ 64) (x : α) : SeqAt.shaped (f x) = true := by
  unfold SeqAt.shaped
  rw [D.lay x, Bool.true_and]
  exact decide_eq_true (Nat.le_trans (D.dep x) h)
theorem dp_mem (D : Deep c f n) : ∀ (xs : List α) (y : α), ((xs.map f).any fun z => PyData.eqv z (f y)) = decide (y ∈ xs)
  | [], _ => by simp
  | x :: xs, y => by
    rw [List.map_cons, List.any_cons, dp_mem D xs y, D.inj]
    by_cases h : x = y <;> by_cases h' : y ∈ xs <;> simp [h, h', eq_comm]
end
section
variable {X : Cx} {B : Bs} {Z : Zt} {Γ : List Bd} {P : List Bd → Bd → Prop} {a b e : Expr} {pos p : Pos} {k j : Nat} {α β γ ρ : Type} {c : Cd α} {d : Cd β} {cc : Cd γ}
section
variable [DecidableEq α] {f : α → PyData} {n : Nat}
theorem lop_inD (O : Ok X B Z k) (D : Deep c f n) (hn : n < 64) (y : α) (xs : List α) (z : Bool) (h : some (decide (y ∈ xs)) = some z) : LOp2 X B (rInD X.K) c c cBool y xs z := fun F own H v a vs Q wd hv h1 h2 q => by
  cases h
  refine ⟨f y, xs.map f, D.dp (c.up wd.fh hv), .lst h1 (All2.dp D (h2.imp fun _ _ => c.up wd.fh)), D.sh (by omega) y, (deep_lst D).sh (by omega) xs, ?_⟩
  rw [dp_mem D]
  exact q F H _ wd (Same.rfl' F) (Same.rfl' H) rfl
theorem lop_notInD (O : Ok X B Z k) (D : Deep c f n) (hn : n < 64) (y : α) (xs : List α) (z : Bool) (h : some (!decide (y ∈ xs)) = some z) : LOp2 X B (rNotInD X.K) c c cBool y xs z := fun F own H v a vs Q wd hv h1 h2 q => by
  cases h
  refine ⟨f y, xs.map f, D.dp (c.up wd.fh hv), .lst h1 (All2.dp D (h2.imp fun _ _ => c.up wd.fh)), D.sh (by omega) y, (deep_lst D).sh (by omega) xs, ?_⟩
  rw [dp_mem D]
  exact q F H _ wd (Same.rfl' F) (Same.rfl' H) rfl
theorem room65 {A : Around} {k : Nat} (r : Room k A) : A.units + 65 < cLine := by have := r.un; omega
theorem tm_inD {m : Res α} {m' : Res (List α)} (O : Ok X B Z k) (D : Deep c f n) (ha : XM X B Z a Γ c m) (hb : XL X B Z b Γ c m') (hn : n < 64 := by decide) (hm : behindInMarks .In b = false := by rfl) : TM X B Z (.Compare a [.In] [b] pos) Γ (m >>= fun x => m' >>= fun xs => .ok (decide (x ∈ xs))) :=
  tm_lop2 (k := fun x xs => some (decide (x ∈ xs))) (op_inD (room65 O.room)) (lop_inD O D hn) ha hb hm
theorem tm_notInD {m : Res α} {m' : Res (List α)} (O : Ok X B Z k) (D : Deep c f n) (ha : XM X B Z a Γ c m) (hb : XL X B Z b Γ c m') (hn : n < 64 := by decide) (hm : behindInMarks .NotIn b = false := by rfl) : TM X B Z (.Compare a [.NotIn] [b] pos) Γ (m >>= fun x => m' >>= fun xs => .ok (!decide (x ∈ xs))) :=
  tm_lop2 (k := fun x xs => some (!decide (x ∈ xs))) (op_notInD (room65 O.room)) (lop_notInD O D hn) ha hb hm
theorem xm_inD {m : Res α} {m' : Res (List α)} (O : Ok X B Z k) (D : Deep c f n) (ha : XM X B Z a Γ c m) (hb : XL X B Z b Γ c m') (hn : n < 64 := by decide) (hm : behindInMarks .In b = false := by rfl) : XM X B Z (.Compare a [.In] [b] pos) Γ cBool (m >>= fun x => m' >>= fun xs => .ok (decide (x ∈ xs))) :=
  xm_lop2 (k := fun x xs => some (decide (x ∈ xs))) (fun _ _ ha hb => pe_cmpR (op_inD (room65 O.room)) ha hb hm) (lop_inD O D hn) ha hb
theorem xm_notInD {m : Res α} {m' : Res (List α)} (O : Ok X B Z k) (D : Deep c f n) (ha : XM X B Z a Γ c m) (hb : XL X B Z b Γ c m') (hn : n < 64 := by decide) (hm : behindInMarks .NotIn b = false := by rfl) : XM X B Z (.Compare a [.NotIn] [b] pos) Γ cBool (m >>= fun x => m' >>= fun xs => .ok (!decide (x ∈ xs))) :=
  xm_lop2 (k := fun x xs => some (!decide (x ∈ xs))) (fun _ _ ha hb => pe_cmpR (op_notInD (room65 O.room)) ha hb hm) (lop_notInD O D hn) ha hb
/-- ==, != of coded values -/
theorem cmp_eqD (O : Ok X B Z k) (D : Deep c f n) (hn : n < 64 := by decide) : Cmp X B .Eq (rEqD X.K) c c (fun x y => some (decide (x = y))) := ⟨op_eqD O.room.units, fun x y z h => by
  cases h
  exact fun F own H v w Q wd hv hw q => ⟨f x, f y, D.dp (c.up wd.fh hv), D.dp (c.up wd.fh hw), D.sh (by omega) x, D.sh (by omega) y, by rw [D.inj]; exact q F H _ wd (Same.rfl' F) (Same.rfl' H) rfl⟩⟩
theorem cmp_neD (O : Ok X B Z k) (D : Deep c f n) (hn : n < 64 := by decide) : Cmp X B .NotEq (rNeD X.K) c c (fun x y => some (!decide (x = y))) := ⟨op_neD O.room.units, fun x y z h => by
  cases h
  exact fun F own H v w Q wd hv hw q => ⟨f x, f y, D.dp (c.up wd.fh hv), D.dp (c.up wd.fh hw), D.sh (by omega) x, D.sh (by omega) y, by rw [D.inj]; exact q F H _ wd (Same.rfl' F) (Same.rfl' H) rfl⟩⟩
end

/-! ## None or not -/
def cAny : Cd Unit := ⟨fun _ _ _ _ => True, fun _ h => h⟩

/-! ## sorted pairs -/
def leP (p q : Int × Int) : Bool := decide (p.1 < q.1 ∨ (p.1 = q.1 ∧ p.2 ≤ q.2))
def sortP (xs : List (Int × Int)) : List (Int × Int) := xs.mergeSort leP
theorem leP_trans (a b c : Int × Int) (h : leP a b = true) (h' : leP b c = true) : leP a c = true := by
  unfold leP at *
  simp only [decide_eq_true_eq] at *
  omega
theorem leP_total (a b : Int × Int) : (leP a b || leP b a) = true := by
  unfold leP
  simp only [Bool.or_eq_true, decide_eq_true_eq]
  omega
theorem leP_anti {a b : Int × Int} (h : leP a b = true) (h' : leP b a = true) : a = b := by
  unfold leP at *
  simp only [decide_eq_true_eq] at *
  exact Prod.ext (by omega) (by omega)
theorem sorted_uniq : ∀ {l m : List (Int × Int)}, l.Pairwise (fun a b => leP a b = true) → m.Pairwise (fun a b => leP a b = true) → l.Perm m → l = m
  | [], m, _, _, h => (List.Perm.eq_nil h.symm).symm
  | x :: l, [], _, _, h => absurd h.length_eq (by simp)
  | x :: l, y :: m, hl, hm, h => by
    have h1 : leP y x = true := by
      rcases List.mem_cons.mp (h.mem_iff.mp (List.mem_cons_self (a := x) (l := l))) with e | hx
      · rw [e]
        have := leP_total y y
        rwa [Bool.or_self] at this
      · exact (List.pairwise_cons.mp hm).1 x hx
    have h2 : leP x y = true := by
      rcases List.mem_cons.mp (h.mem_iff.mpr (List.mem_cons_self (a := y) (l := m))) with e | hy
      · rw [e]
        have := leP_total x x
        rwa [Bool.or_self] at this
      · exact (List.pairwise_cons.mp hl).1 y hy
    have e := leP_anti h2 h1
    subst e
    rw [sorted_uniq (List.pairwise_cons.mp hl).2 (List.pairwise_cons.mp hm).2 h.cons_inv]
def keyP (F : Hp) : V → Int × Int
  | .ref t => match F t with
    | some (.tup [.int i, .int j]) => (i, j)
    | _ => (0, 0)
  | _ => (0, 0)
theorem keyP_of {K : Fg} {F : Hp} {p : Int × Int} {v : V} (h : (cPr cInt cInt).rp K F p v) : keyP F v = p := by
  obtain ⟨a, x, y, e, h1, h2, h3⟩ := h
  subst e
  cases (show x = V.int p.1 from h2)
  cases (show y = V.int p.2 from h3)
  show (match F a with
    | some (.tup [.int i, .int j]) => (i, j)
    | _ => (0, 0)) = p
  rw [h1]
theorem All2.keys {K : Fg} {F : Hp} : ∀ {xs : List (Int × Int)} {vs : List V}, All2 ((cPr cInt cInt).rp K F) xs vs → vs.map (keyP F) = xs
  | [], [], _ => rfl
  | _ :: _, _ :: _, ⟨a, b⟩ => by
    rw [List.map_cons, All2.keys b, keyP_of a]
  | [], _ :: _, z => z.elim
  | _ :: _, [], z => z.elim
theorem All2.memV {r : α → V → Prop} : ∀ {xs : List α} {vs : List V} {v : V}, All2 r xs vs → v ∈ vs → ∃ x, r x v
  | _ :: _, _ :: _, v, ⟨a, b⟩, h => by
    rcases List.mem_cons.mp h with e | h
    · exact ⟨_, e ▸ a⟩
    · exact All2.memV b h
  | [], [], _, _, h => nomatch h
  | [], _ :: _, _, z, _ => z.elim
  | _ :: _, [], _, z, _ => z.elim
theorem All2.ofKeys {K : Fg} {F : Hp} : ∀ {vs : List V}, (∀ v ∈ vs, (cPr cInt cInt).rp K F (keyP F v) v) → All2 ((cPr cInt cInt).rp K F) (vs.map (keyP F)) vs
  | [], _ => trivial
  | v :: vs, h => ⟨h v List.mem_cons_self, All2.ofKeys fun u hu => h u (List.mem_cons_of_mem _ hu)⟩
theorem ev_sortedP (hm : X.mg "sorted" = none) (h : EL X B a Γ (cPr cInt cInt) (fun Γ1 xs => P Γ1 (ow (oLst (cPr cInt cInt)) (sortP xs)))) (hg : Gl X "sorted" := by rfl) (he : starEach (a :: []) X.env = (false, eval a X.env) :: starEach [] X.env := by rfl) : EV X B (.Call (.Name "sorted" p) [a] [] pos) Γ P :=
  ev_lnew (k := fun xs => some (sortP xs)) (is_call cr_sortedPO hm boot_sorted' hg (by decide) (by decide) he rfl) (fun xs z h F own H ad vs Q wd h1 h2 q => by
    cases h
    have key : ∀ v ∈ vs, (cPr cInt cInt).rp X.K F (keyP F v) v := fun v hv => by
      obtain ⟨x, r⟩ := h2.memV hv
      rw [keyP_of r]
      exact r
    refine ⟨ad, vs, keyP F, rfl, h1, fun v hv => ?_, fun ys p' hs hst hp => q p' ys hp ?_⟩
    · obtain ⟨x, r⟩ := h2.memV hv
      rw [keyP_of r]
      obtain ⟨t, u, w, e, e1, e2, e3⟩ := r
      cases (show u = V.int x.1 from e2)
      cases (show w = V.int x.2 from e3)
      exact ⟨t, e, wd.fh _ _ e1⟩
    · have k2 : All2 ((cPr cInt cInt).rp X.K F) (ys.map (keyP F)) ys := All2.ofKeys fun v hv => key v (hst.perm.mem_iff.mp hv)
      have e : ys.map (keyP F) = sortP xs := by
        refine sorted_uniq ?_ (List.pairwise_mergeSort leP_trans leP_total _) (((hst.perm.map (keyP F)).trans (by rw [h2.keys])).trans (List.mergeSort_perm _ _).symm)
        refine List.pairwise_map.mpr (hs.imp fun {x y} hxy => ?_)
        have := SrtO.lexB_no.mp hxy
        unfold leP
        simp only [decide_eq_true_eq]
        omega
      rw [← e]
      exact k2) (fun t σ H Q s q => h t σ H Q s fun Γ1 xs p => q Γ1 xs ⟨_, rfl, p⟩)

/-! ## isinstance -/
def Ty (c : Cd α) (t : String) : Prop := ∀ K F H x v, Same F H → c.rp K F x v → TyX K H v (.type t)
theorem ty_int : Ty cInt "int" := fun K F H x v s h => by cases (show v = V.int x from h); exact .base (.int x)
theorem ty_bool : Ty cBool "bool" := fun K F H x v s h => by cases (show v = V.bl x from h); exact .base (.bl x)
theorem ty_str : Ty cStr "str" := fun K F H x v s h => by cases (show v = V.str x from h); exact .base (.str x)
theorem ty_seqT {K : Fg} {H : Hp} {a : Addr} {vs : List V} (h : SqT K H a vs) : TyX K H (.ref a) (.type "tuple") := by
  rcases h with (h | ⟨o, h⟩) | ⟨o, its, n, h1, h2, _⟩
  · exact .base (.tup h)
  · exact .fTuple h
  · exact .kTuple h1 h2
theorem ty_seqL {K : Fg} {H : Hp} {a : Addr} {vs : List V} (h : SqL K H a vs) : TyX K H (.ref a) (.type "list") := by
  rcases h with (h | ⟨o, h⟩) | ⟨o, its, n, h1, h2, _⟩
  · exact .base (.lst h)
  · exact .base (.frz h)
  · exact .kList h1 h2
theorem ty_tup : Ty (cTup c) "tuple" := fun K F H x v s ⟨a, vs, e, h, _⟩ => by
  subst e
  exact ty_seqT (seqT_up s (sqT h))
theorem ty_lst : Ty (cLst c) "list" := fun K F H x v s ⟨a, vs, e, h, _⟩ => by
  subst e
  exact ty_seqL (seqL_up s h)
theorem ty_pr : Ty (cPr c d) "tuple" := fun K F H x v s ⟨a, u, w, e, h, _⟩ => by
  subst e
  exact .base (.tup (s _ _ h))
def cTy : Cd String := ⟨fun _ _ n v => v = .ty n, fun _ h => h⟩
theorem xm_ty {n : Str} {u : String} (hm : X.mg n = none) (hv : bootBuiltins n = some (.type u)) (hg : Gl X n := by rfl) (hn : n ≠ "__name__" := by decide) (hd : (n == ("__debug__" : Str)) = false := by decide) : XM X B Z (.Name n pos) Γ cTy (.ok u) := fun P p t σ H Q ⟨F, own, w, hs, ht⟩ q =>
  wp_of_pe (pe_bltn (v := V.ty u) hg hm hv rfl hn hd) (q _ _ p _ H (Sat.push w hs ht rfl))
theorem ev_isi {u t : String} {r : Bool} (Y : Ty c t) (hk : kitB t u = some r) (hm : X.mg "isinstance" = none) (ht : ∀ {Z : Zt} {Γ}, XM X B Z b Γ cTy (.ok u)) (h : EV X B a Γ (fun Γ1 b1 => ∃ x, b1 = va c x ∧ P Γ1 (va cBool r))) (hg : Gl X "isinstance" := by rfl)
    (he : starEach (a :: [b]) X.env = (false, eval a X.env) :: starEach [b] X.env := by rfl) (he2 : starEach (b :: []) X.env = (false, eval b X.env) :: starEach [] X.env := by rfl) (hpl : (backTo pos (starEach [b] X.env)).any (·.1) = false := by rfl) :
    EV X B (.Call (.Name "isinstance" p) [a, b] [] pos) Γ P := fun tt σ H Q s q => by
  refine wp_of_pe (pe_callB call_isi hg hm boot_isinstance (pa_cons pe_wp (pa_cons pe_wp pa_nil he2) he) (by decide) (by decide) he hpl) ?_
  refine h tt σ H _ s fun Γ1 b1 ⟨x, e1, pp⟩ v H1 s1 => ?_
  subst e1
  refine ht (Z := ZF) (fun Γ' b' => Γ' = Γ1 ∧ b' = va cTy u) ⟨rfl, rfl⟩ _ σ H1 _ s1 fun Γ2 b2 ⟨e0, e2⟩ w H2 s2 => ?_
  subst e0 e2
  obtain ⟨F, own, wd, hS, ⟨w', ew, rw'⟩, ⟨v', ev, rv⟩, hT⟩ := s2
  cases ew
  cases ev
  cases (show w = V.ty u from rw')
  exact ⟨v, .ty u, .type t, .type u, r, rfl, .ty u, Y _ F H2 x v wd.fh rv, kit_ty hk, q _ _ pp _ H2 (Sat.push wd hS hT rfl)⟩

/-! ## calls without borrowed lists, as values -/
def AM {τ : Type} (X : Cx) (B : Bs) (Z : Zt) (es : List Expr) (Γ : List Bd) (ins : τ → List Bd) (m : Res τ) : Prop :=
  ∀ P, good m (fun x => P Γ ((ins x).map Ag.tmp)) (fun ex => Z ex Γ) → EA X B es Γ P
theorem am_nil : AM X B Z [] Γ (fun _ : Unit => []) (.ok ()) := fun P g => ea_nil g
theorem am_cons {τ : Type} {es : List Expr} {ins : τ → List Bd} {m : Res α} {m' : Res τ} (ha : XM X B Z e Γ c m) (hs : AM X B Z es Γ ins m') (h1 : starEach (e :: es) X.env = (false, eval e X.env) :: starEach es X.env := by rfl) : AM X B Z (e :: es) Γ (fun p : α × τ => va c p.1 :: ins p.2) (m >>= fun x => m' >>= fun y => .ok (x, y)) := fun P g =>
  ea_tmp (ha _ (good_imp (good_bind g) fun x gx => hs _ (good_imp (good_bind gx) fun y gy => gy))) h1
theorem ap_cons {τ : Type} {es : List Expr} {ins : τ → List Bd} {x : α} {y : τ} (ha : XM X B Z e Γ c (.ok x)) (hs : AM X B Z es Γ ins (.ok y)) (h1 : starEach (e :: es) X.env = (false, eval e X.env) :: starEach es X.env := by rfl) : AM X B Z (e :: es) Γ (fun p : α × τ => va c p.1 :: ins p.2) (.ok (x, y)) := fun P g =>
  ea_tmp (ha _ (hs _ g)) h1
def Has {α ρ : Type} (P : Program) (w : World) (K : Fg) (mg : Str → Option Value) (base : Heap) (k : Nat) (n : Str) (ps : List Str) (S : Fn α ρ) : Prop :=
  ∃ f fd, mg n = some (.ref f) ∧ FnOk P w K mg base (L2.CX P w) k f fd ps (spOf K mg S) ∧ Binds K fd ps [] ∧ PySem.W.keepIn K (.ref f) = true
def DefF (K : Fg) (mg : Str → Option Value) (n : Str) (st : Stmt) : Prop := ∃ f fd, mg n = some (.ref f) ∧ FunD K n n (defArgs st) (defBody st) (defScope st) [] [] f fd
theorem ev_callH {τ : Type} {n : Str} {ps : List Str} {es : List Expr} {S : Fn τ ρ} (O : Ok X B Z j) (hH : Has X.prog X.w X.K X.mg X.base k n ps S) (ho : ∀ x r, (S.outs x r).length = (S.ins x).length)
    (h : EA X B (e :: es) Γ (fun Γ1 as => ∃ x, bdsOf Γ1 as = S.ins x ∧ (borOf as).Nodup ∧ good (S.m x) (fun r => P (back Γ1 as (S.outs x r)) (S.ret x r)) (fun ex => Z ex (kill Γ1 as))))
    (hkj : k ≤ j := by decide) (hg : Gl X n := by rfl) (hdb : (n == ("__debug__" : Str)) = false := by decide) (he : starEach (e :: es) X.env = (false, eval e X.env) :: starEach es X.env := by rfl) (hpl : (backTo pos (starEach es X.env)).any (·.1) = false := by rfl) :
    EV X B (.Call (.Name n p) (e :: es) [] pos) Γ P := by
  obtain ⟨f, fd, hm, G, hb, hk⟩ := hH
  exact ev_call O G hm hk hb ho h hkj hg hdb he hpl
theorem bds_tmp {Γ : List Bd} : ∀ {bs : List Bd}, bdsOf Γ (bs.map Ag.tmp) = bs
  | [] => rfl
  | b :: bs => congrArg (b :: ·) bds_tmp
theorem bor_tmp : ∀ {bs : List Bd}, borOf (bs.map Ag.tmp) = []
  | [] => rfl
  | b :: bs => bor_tmp (bs := bs)
theorem back_tmp {Γ : List Bd} : ∀ {bs os : List Bd}, back Γ (bs.map Ag.tmp) os = Γ
  | [], os => by cases os <;> rfl
  | b :: bs, [] => rfl
  | b :: bs, o :: os => back_tmp (bs := bs) (os := os)
theorem kill_tmp {Γ : List Bd} : ∀ {bs : List Bd}, kill Γ (bs.map Ag.tmp) = Γ
  | [] => rfl
  | b :: bs => kill_tmp (bs := bs)
theorem xm_call {τ : Type} {n : Str} {ps : List Str} {es : List Expr} {S : Fn τ ρ} {m : Res τ} {cr : Cd ρ} (O : Ok X B Z j) (hH : Has X.prog X.w X.K X.mg X.base k n ps S) (ha : AM X B Z (e :: es) Γ S.ins m) (ho : ∀ x r, (S.outs x r).length = (S.ins x).length) (hr : ∀ x r, S.ret x r = va cr r := by intro _ _; rfl)
    (hkj : k ≤ j := by decide) (hg : Gl X n := by rfl) (hdb : (n == ("__debug__" : Str)) = false := by decide) (he : starEach (e :: es) X.env = (false, eval e X.env) :: starEach es X.env := by rfl) (hpl : (backTo pos (starEach es X.env)).any (·.1) = false := by rfl) :
    XM X B Z (.Call (.Name n p) (e :: es) [] pos) Γ cr (m >>= fun x => S.m x) := fun P g =>
  ev_callH O hH ho (ha _ (good_imp (good_bind g) fun x gx => ⟨x, bds_tmp, by rw [bor_tmp]; exact List.nodup_nil, by
    rw [kill_tmp]
    refine good_imp gx fun r p => ?_
    rw [back_tmp, hr]
    exact p⟩)) hkj hg hdb he hpl
theorem xp_call {τ : Type} {n : Str} {ps : List Str} {es : List Expr} {S : Fn τ ρ} {x : τ} {cr : Cd ρ} (O : Ok X B Z j) (hH : Has X.prog X.w X.K X.mg X.base k n ps S) (ha : AM X B Z (e :: es) Γ S.ins (.ok x)) (ho : ∀ x r, (S.outs x r).length = (S.ins x).length) (hr : ∀ x r, S.ret x r = va cr r := by intro _ _; rfl)
    (hkj : k ≤ j := by decide) (hg : Gl X n := by rfl) (hdb : (n == ("__debug__" : Str)) = false := by decide) (he : starEach (e :: es) X.env = (false, eval e X.env) :: starEach es X.env := by rfl) (hpl : (backTo pos (starEach es X.env)).any (·.1) = false := by rfl) :
    XM X B Z (.Call (.Name n p) (e :: es) [] pos) Γ cr (S.m x) := xm_call O hH ha ho hr hkj hg hdb he hpl
end
end T
set_option maxHeartbeats 1000000
namespace T
open PySem PySem.Spec PyProof.Rows L2

/-! ## orders: objects with the fields n, lesser -/
def cOrd (C : Addr) : Cd (Int × List (List Int)) := ⟨fun K F o v => ∃ a dx w, v = .ref a ∧ F a = some (.ins C dx [(("n" : Str), .int o.1), (("lesser" : Str), w)]) ∧ (cTup (cTup cInt)).rp K F o.2 w,
  fun s ⟨a, dx, w, e, h, r⟩ => ⟨a, dx, w, e, s _ _ h, (cTup (cTup cInt)).up s r⟩⟩
/-- what __init__ does -/
def spOI (C : Addr) : Sp := fun vs H Q E => ∃ x dx v1 v2, vs = [.ref x, v1, v2] ∧ H x = some (.ins C dx []) ∧ Q .non (upd (upd H x (.ins C dx [(("n" : Str), v1)])) x (.ins C dx [(("n" : Str), v1), (("lesser" : Str), v2)]))
structure OrdC (P : Program) (w : World) (K : Fg) (mg : Str → Option Value) (base : Heap) (C : Addr) : Prop where
  cls : Cls K C
  n1 : NoAttr K C "n"
  n2 : NoAttr K C "lesser"
  hm : mg "Order" = some (.ref C)
  mkr : ∃ f fd ps, L2.Mk K C f ∧ FnOk P w K mg base L2.CX0 1 f fd ps (spOI C) ∧ Binds K fd ps []
theorem ok_ordI {P : Program} {w : World} {K : Fg} {mg : Str → Option Value} {base : Heap} {C f : Addr} {fd : FuncData} {pa : Arguments} {sc : Scope} {q : Str} {nm : Str} {p1 p2 p3 p4 p5 p6 p7 p8 : Pos} (c : Cls K C) (n1 : NoAttr K C "n") (n2 : NoAttr K C "lesser")
    (F : FunD K nm q pa [.Assign [.Attribute (.Name "self" p1) "n" p2] (.Name "n" p3) p4, .Assign [.Attribute (.Name "self" p5) "lesser" p6] (.Name "lesser" p7) p8] sc [] [] f fd) (S : FnScope ["self", "n", "lesser"] ["self", "n", "lesser"] sc)
    (l1 : sc.names.lookup ("self" : Str) = some NameKind.local) (l2 : sc.names.lookup ("n" : Str) = some NameKind.local) (l3 : sc.names.lookup ("lesser" : Str) = some NameKind.local) : FnOk P w K mg base L2.CX0 1 f fd ["self", "n", "lesser"] (spOI C) := by
  refine F.ok S (fun vs H Q E ⟨x, dx, v1, v2, e, _⟩ => by rw [e]; rfl) fun cdv A outer s H vs Q E hr ⟨x, dx, v1, v2, e, h, q⟩ => ?_
  subst e
  refine ⟨tSeq (sFld K (tVar 0) (tVar 1) "n") (sFld K (tVar 0) (tVar 2) "lesser"), pss_cons (ps_fld (pe_var rfl (.inl l1)) (pe_var rfl (.inl l2)) rfl) (pss_one (ps_fld (pe_var rfl (.inl l1)) (pe_var rfl (.inl l3)) rfl)), ?_⟩
  refine ⟨v1, rfl, .ref x, rfl, x, C, dx, [], rfl, h, c, n1, Nat.zero_lt_succ _, ?_⟩
  refine ⟨v2, rfl, .ref x, rfl, x, C, dx, _, rfl, upd_same, c, n2, Nat.le_of_ble_eq_true rfl, ?_⟩
  exact q
section
variable {X : Cx} {B : Bs} {Z : Zt} {Γ : List Bd} {P : List Bd → Bd → Prop} {a b e : Expr} {es : List Expr} {pos p : Pos} {k j : Nat} {C : Addr} {α β : Type}
theorem ev_order (O : Ok X B Z (j + 2)) (W : OrdC X.prog X.w X.K X.mg X.base C) (h : EA X B (e :: es) Γ (fun Γ1 as => ∃ n l, as = [.tmp (va cInt n), .tmp (va (cTup (cTup cInt)) l)] ∧ P Γ1 (va (cOrd C) (n, l))))
    (hg : Gl X "Order" := by rfl) (he : starEach (e :: es) X.env = (false, eval e X.env) :: starEach es X.env := by rfl) (hpl : (backTo pos (starEach es X.env)).any (·.1) = false := by rfl) : EV X B (.Call (.Name "Order" p) (e :: es) [] pos) Γ P := by
  obtain ⟨f, fd, ps, M, G, hb⟩ := W.mkr
  intro t σ H Q s q
  refine wp_of_pe (pe_make M G (O.room.mono (Nat.le_add_left _ _)) hg W.hm hb .nil (E := fun _ _ _ => False) (fun _ _ _ _ _ _ _ z => z.elim) pa_wp (by decide) he hpl) ?_
  refine h t σ H _ s fun Γ1 as ⟨n, l, ea, p1⟩ vs H1 t' a1 s1 x dx hx hd hne => ?_
  subst ea
  cases a1 with
  | tmp a1 =>
    cases a1 with
    | tmp a1 =>
      cases a1
      obtain ⟨F, own, wd, hS, ⟨v2, e2, r2⟩, ⟨v1, e1, r1⟩, hT⟩ := s1
      cases e1
      cases (show _ = V.int n from r1)
      have e2' := (Option.some.inj e2).symm
      subst e2'
      refine ⟨x, dx, _, _, rfl, upd_same, rfl, q _ _ p1 _ _ ?_⟩
      have wd2 : Wd B (upd F dx (.own x)) own (upd H1 dx (.own x)) := wd.newF hd
      have hx2 : upd H1 dx (.own x) x = none := by rw [upd_ne (Ne.symm hne)]; exact hx
      have wd3 := wd2.newF (o := .ins C dx [(("n" : Str), .int n), (("lesser" : Str), v2)]) hx2
      have eH : upd (upd (upd (upd H1 dx (.own x)) x (.ins C dx [])) x (.ins C dx [(("n" : Str), .int n)])) x (.ins C dx [(("n" : Str), .int n), (("lesser" : Str), v2)]) = upd (upd H1 dx (.own x)) x (.ins C dx [(("n" : Str), .int n), (("lesser" : Str), v2)]) := by
        funext y
        by_cases z : y = x
        · subst z
          rw [upd_same, upd_same]
        · rw [upd_ne z, upd_ne z, upd_ne z, upd_ne z]
      rw [eH]
      have sF : Same F (upd (upd F dx (.own x)) x (.ins C dx [(("n" : Str), .int n), (("lesser" : Str), v2)])) := fun a u z => Same.newH (wd2.none_F hx2) a u (Same.newH (wd.none_F hd) a u z)
      have sH : Same H1 (upd (upd H1 dx (.own x)) x (.ins C dx [(("n" : Str), .int n), (("lesser" : Str), v2)])) := fun a u z => Same.newH hx2 a u (Same.newH hd a u z)
      exact Sat.pushUp wd3 sF sH hS hT ⟨x, dx, v2, rfl, upd_same, (cTup (cTup cInt)).up sF r2⟩
/-- e.n, e.lesser -/
def rFld (K : Fg) (f : Str) : V → Hp → VK → Prop := fun x H1 Q => ∃ a C dx fs v, x = .ref a ∧ H1 a = some (.ins C dx fs) ∧ Cls K C ∧ NoAttr K C f ∧ fs.lookup f = some v ∧ Q v H1
theorem is_fld {f : Str} (hb : attributeBase a f X.env (eval a X.env) = eval a X.env) : Is1 X (.Attribute a f pos) a (rFld X.K f) := fun _ h => pe_fld h hb
theorem xm_n {m : Res (Int × List (List Int))} (W : OrdC X.prog X.w X.K X.mg X.base C) (ha : XM X B Z a Γ (cOrd C) m) (hb : attributeBase a "n" X.env (eval a X.env) = eval a X.env := by rfl) : XM X B Z (.Attribute a "n" pos) Γ cInt (m >>= fun o => .ok o.1) :=
  xm_op1 (k := fun o : Int × List (List Int) => some o.1) (is_fld hb) (fun x z h => by
    cases h
    intro F own H v Q wd ⟨ad, dx, w, e, h1, h2⟩ q
    subst e
    exact ⟨ad, C, dx, _, _, rfl, wd.fh _ _ h1, W.cls, W.n1, rfl, q F H _ wd (Same.rfl' F) (Same.rfl' H) rfl⟩) ha
theorem xm_lesser {m : Res (Int × List (List Int))} (W : OrdC X.prog X.w X.K X.mg X.base C) (ha : XM X B Z a Γ (cOrd C) m) (hb : attributeBase a "lesser" X.env (eval a X.env) = eval a X.env := by rfl) : XM X B Z (.Attribute a "lesser" pos) Γ (cTup (cTup cInt)) (m >>= fun o => .ok o.2) :=
  xm_op1 (k := fun o : Int × List (List Int) => some o.2) (is_fld hb) (fun x z h => by
    cases h
    intro F own H v Q wd ⟨ad, dx, w, e, h1, h2⟩ q
    subst e
    exact ⟨ad, C, dx, _, w, rfl, wd.fh _ _ h1, W.cls, W.n2, rfl, q F H _ wd (Same.rfl' F) (Same.rfl' H) h2⟩) ha
theorem xp_n {o : Int × List (List Int)} (W : OrdC X.prog X.w X.K X.mg X.base C) (ha : XM X B Z a Γ (cOrd C) (.ok o)) (hb : attributeBase a "n" X.env (eval a X.env) = eval a X.env := by rfl) : XM X B Z (.Attribute a "n" pos) Γ cInt (.ok o.1) := xm_n W ha hb
theorem xp_lesser {o : Int × List (List Int)} (W : OrdC X.prog X.w X.K X.mg X.base C) (ha : XM X B Z a Γ (cOrd C) (.ok o)) (hb : attributeBase a "lesser" X.env (eval a X.env) = eval a X.env := by rfl) : XM X B Z (.Attribute a "lesser" pos) Γ (cTup (cTup cInt)) (.ok o.2) := xm_lesser W ha hb

/-! ## None or a value -/
def NonN (c : Cd α) : Prop := ∀ K F x v, c.rp K F x v → v ≠ .non
theorem nn_int : NonN cInt := fun K F x v h e => by
  have h' : v = .int x := h
  rw [h'] at e
  cases e
theorem nn_pr {c : Cd α} {d : Cd β} : NonN (cPr c d) := fun K F x v ⟨a, u, w, e, h, _⟩ e2 => by
  rw [e] at e2
  cases e2
theorem nn_tup {c : Cd α} : NonN (cTup c) := fun K F x v ⟨a, vs, e, _⟩ e2 => by
  rw [e] at e2
  cases e2
theorem Sat.cast {K : Fg} {B : Bs} {t : List (V × Bd)} {σ : L2.St} {Γ : List Bd} {H : Hp} {v : V} {b b' : Bd} (h : ∀ F H f, b.hold K F H (some v) f → b'.hold K F H (some v) f) (s : Sat K B ((v, b) :: t) σ Γ H) : Sat K B ((v, b') :: t) σ Γ H := by
  obtain ⟨F, own, wd, hS, hb, hT⟩ := s
  exact ⟨F, own, wd, hS, h _ _ _ hb, hT⟩
theorem ev_some {c : Cd α} (N : NonN c) (h : EV X B e Γ (fun Γ1 b1 => ∃ x, b1 = va c x ∧ P Γ1 (va (cOpt c) (some x)))) : EV X B e Γ P := fun t σ H Q s q => h t σ H Q s fun Γ1 b1 ⟨x, e1, p⟩ v H1 s1 => by
  subst e1
  exact q _ _ p v H1 (Sat.cast (b := va c x) (b' := va (cOpt c) (some x)) (fun F H f ⟨v', e, r⟩ => ⟨v', e, N _ _ _ _ r, r⟩) s1)
theorem ev_none (c : Cd α) (h : EV X B e Γ (fun Γ1 b1 => b1 = va cNon () ∧ P Γ1 (va (cOpt c) none))) : EV X B e Γ P := fun t σ H Q s q => h t σ H Q s fun Γ1 b1 ⟨e1, p⟩ v H1 s1 => by
  subst e1
  exact q _ _ p v H1 (Sat.cast (b := va cNon ()) (b' := va (cOpt c) none) (fun F H f ⟨v', e, r⟩ => ⟨v', e, r⟩) s1)
theorem xm_some {c : Cd α} {m : Res α} (N : NonN c) (h : XM X B Z e Γ c m) : XM X B Z e Γ (cOpt c) (m >>= fun x => .ok (some x)) := fun P g => ev_some N (h _ (good_imp (good_bind g) fun x gx => ⟨x, rfl, gx⟩))
theorem xp_some {c : Cd α} {x : α} (N : NonN c) (h : XM X B Z e Γ c (.ok x)) : XM X B Z e Γ (cOpt c) (.ok (some x)) := xm_some N h
theorem xm_none {c : Cd α} (h : XM X B Z e Γ cNon (.ok ())) : XM X B Z e Γ (cOpt c) (.ok none) := fun P g => ev_none c (h _ ⟨rfl, g⟩)
/-- a slot known to hold some x, seen as x -/
theorem ev_optS {c : Cd α} {x : α} (i : Nat) (hΓ : Γ[i]? = some (va (cOpt c) (some x))) (h : EV X B e (Γ.set i (va c x)) P) : EV X B e Γ P := fun t σ H Q s q => h t σ H Q (by
  obtain ⟨F, own, wd, hS, hT⟩ := s
  refine ⟨F, own, wd, ⟨by rw [List.length_set]; exact hS.1, fun j b ej => ?_⟩, hT⟩
  by_cases ij : i = j
  · subst ij
    obtain ⟨v, ev, r⟩ := hS.2 i _ hΓ
    rw [List.getElem?_set_self (List.getElem?_eq_some_iff.mp hΓ).1] at ej
    cases ej
    exact ⟨v, ev, r.2⟩
  · rw [List.getElem?_set_ne ij] at ej
    exact hS.2 j b ej) q
/-- x is None, x is not None -/
theorem cmp_isN {c : Cd α} : Cmp X B .Is (fun x y H Q => y = .non ∧ Q (.bl (decide (x = .non))) H) (cOpt c) cNon (fun x _ => some x.isNone) := ⟨op_isN, fun x y z h => by
  cases h
  intro F own H v w Q wd hv hw q
  refine ⟨hw, ?_⟩
  cases x with
  | none =>
    have hv' : v = .non := hv
    subst hv'
    exact q F H _ wd (Same.rfl' F) (Same.rfl' H) rfl
  | some x =>
    rw [decide_eq_false hv.1]
    exact q F H _ wd (Same.rfl' F) (Same.rfl' H) rfl⟩
theorem cmp_isNn {c : Cd α} : Cmp X B .IsNot (fun x y H Q => y = .non ∧ Q (.bl (!decide (x = .non))) H) (cOpt c) cNon (fun x _ => some x.isSome) := ⟨op_notN, fun x y z h => by
  cases h
  intro F own H v w Q wd hv hw q
  refine ⟨hw, ?_⟩
  cases x with
  | none =>
    have hv' : v = .non := hv
    subst hv'
    exact q F H _ wd (Same.rfl' F) (Same.rfl' H) rfl
  | some x =>
    rw [decide_eq_false hv.1]
    exact q F H _ wd (Same.rfl' F) (Same.rfl' H) rfl⟩
/-- total comparison -/
theorem tm_cmpT {op : CmpOp} {r : R2} {γ : Type} {ca : Cd α} {cb : Cd γ} {k : α → γ → Bool} {ma : Res α} {mb : Res γ} (C : Cmp X B op r ca cb (fun x y => some (k x y))) (ha : XM X B Z a Γ ca ma) (hb : XM X B Z b Γ cb mb) (hm : behindInMarks op b = false := by first | exact nomark _ | rfl) :
    TM X B Z (.Compare a [op] [b] pos) Γ (ma >>= fun x => mb >>= fun y => .ok (k x y)) := tm_cmp C ha hb hm
theorem xm_cmpT {op : CmpOp} {r : R2} {γ : Type} {ca : Cd α} {cb : Cd γ} {k : α → γ → Bool} {ma : Res α} {mb : Res γ} (C : Cmp X B op r ca cb (fun x y => some (k x y))) (ha : XM X B Z a Γ ca ma) (hb : XM X B Z b Γ cb mb) (hm : behindInMarks op b = false := by first | exact nomark _ | rfl) :
    XM X B Z (.Compare a [op] [b] pos) Γ cBool (ma >>= fun x => mb >>= fun y => .ok (k x y)) := xm_cmp C ha hb hm
theorem ite_sb {S : Type} {R : Rs} {A1 A2 : List Stmt} {m m' : Res S} {Pk : S → Prop} {Zk : Exn → Prop} {b : Bool} (g : good (if b = true then m else m') Pk Zk) (h1 : good m Pk Zk → SB X B A1 Γ R) (h2 : good m' Pk Zk → SB X B A2 Γ R) : if b = true then SB X B A1 Γ R else SB X B A2 Γ R := by
  cases b with
  | false =>
    rw [if_neg Bool.false_ne_true] at g ⊢
    exact h2 g
  | true =>
    rw [if_pos rfl] at g ⊢
    exact h1 g
theorem Ok.x {m : Res α} {c : Cd α} (_ : Ok X B Z k) (h : XM X B Z e Γ c m) (P : List Bd → Bd → Prop) (g : good m (fun x => P Γ (va c x)) (fun ex => Z ex Γ)) : EV X B e Γ P := h P g
theorem Ok.t {m : Res Bool} (_ : Ok X B Z k) (h : TM X B Z e Γ m) (P : List Bd → Bool → Prop) (g : good m (fun x => P Γ x) (fun ex => Z ex Γ)) : ET X B e Γ P := h P g
theorem Ok.o {β : Type} {m : Res β} {kk : Oc β} (_ : Ok X B Z k) (h : XO X B Z e Γ kk m) (P : List Bd → Bd → Prop) (g : good m (fun x => P Γ (ow kk x)) (fun ex => Z ex Γ)) : EV X B e Γ P := h P g
theorem Ok.l {m : Res (List α)} {c : Cd α} {P : List Bd → List α → Prop} (_ : Ok X B Z k) (h : XL X B Z e Γ c m) (g : good m (fun xs => P Γ xs) (fun ex => Z ex Γ)) : EL X B e Γ c P := el_xl h g
end
end T
set_option maxHeartbeats 1000000
namespace T
open PySem PySem.Spec PyProof.Rows L2

/-! ## enumerate, zip over lists and tuples -/
def SqX (l : Bool) (K : Fg) (H : Hp) (a : Addr) (xs : List V) : Prop := if l = true then SqL K H a xs else SqT K H a xs
def ItX (l : Bool) (h : Heap) (it a : Addr) (i : Nat) : Prop := if l = true then h.IsListIter it a i else h.IsTupleIter it a i
def IsX (l : Bool) (h : Heap) (a : Addr) (its : Array Value) : Prop := if l = true then h.IsList a its else h.IsTuple a its
def obX (l : Bool) (a : Addr) : Obj := { cls := .type (if l = true then "list_iterator" else "tuple_iterator"), data := .fields #[.ref a, .int 0 0] }
theorem draws_x {prog : Program} {w : World} {A : Around} (l : Bool) (hh : A.handled = none) (it a : Addr) (hne : a ≠ it) (its : Array Value) : Draws prog w A it [it, a] its.size (fun i v => its[i]? = some v) (fun i h => ItX l h it a i ∧ IsX l h a its) := by
  cases l
  · exact Draws.tuple hh it a hne its
  · exact Draws.list hh it a hne its
theorem begins_x (l : Bool) (a : Addr) (its : Array Value) : Begins (.ref a) (obX l a) (fun h => IsX l h a its) := by
  cases l
  · exact begins_tuple a its
  · exact begins_list a its
section
variable {X : Cx} {pins : List (Addr × Obj)} {σ : L2.St} {H : Hp} {s : Shared} {l : Bool} {a : Addr} {xs ys : List V}
theorem inv_x (I : Inv X pins σ H s) (h : SqX l X.K H a xs) : ∃ its : List Value, Vals xs its ∧ IsX l s.heap a its.toArray ∧ a < s.heap.objs.size := by
  cases l
  · obtain ⟨its, rv, p, _⟩ := I.tuple h
    obtain ⟨o, e, _⟩ := id p
    exact ⟨its, rv, p, Heap.lt_size e⟩
  · obtain ⟨its, rv, p, _⟩ := I.list h
    exact ⟨its, rv, p.isList, p.lt⟩
theorem inj_x (I : Inv X pins σ H s) (h : SqX l X.K H a xs) (h' : SqX l X.K H a ys) : xs = ys := by
  cases l
  · exact I.tuple_inj h h'
  · exact I.list_inj h h'
theorem itx_at {h h' : Heap} {it : Addr} {i : Nat} (q : ItX l h it a i) (k : ∀ o, h.get? it = some o → h'.get? it = some o) : ItX l h' it a i := by
  cases l
  · obtain ⟨o, e, r⟩ := (show h.IsTupleIter it a i from q)
    exact ⟨o, k o e, r⟩
  · obtain ⟨o, e, r⟩ := (show h.IsListIter it a i from q)
    exact ⟨o, k o e, r⟩
theorem itx_ob {h : Heap} {it : Addr} {i : Nat} (q : ItX l h it a i) : ∃ o, h.get? it = some o ∧ ∀ v, o.data ≠ .cell v := by
  cases l
  · obtain ⟨o, e, _, d⟩ := (show h.IsTupleIter it a i from q)
    exact ⟨o, e, fun v z => by rw [d] at z; cases z⟩
  · obtain ⟨o, e, _, d⟩ := (show h.IsListIter it a i from q)
    exact ⟨o, e, fun v z => by rw [d] at z; cases z⟩
theorem itx_new {h : Heap} {it : Addr} (e : h.get? it = some (obX l a)) : ItX l h it a 0 := by
  cases l
  · exact ⟨_, e, rfl, rfl⟩
  · exact ⟨_, e, rfl, rfl⟩
end
/-- the items with their numbers, in new pairs -/
def JEn (l : Bool) (K : Fg) (a : Addr) : It :=
  ⟨fun i H => ∃ (xs : List V) (x : V), SqX l K H a xs ∧ xs[i]? = some x, fun i H v H' => ∃ T x, v = .ref T ∧ H T = none ∧ H' = upd H T (.tup [.int (i : Nat), x]) ∧ ∀ xs, SqX l K H a xs → xs[i]? = some x, fun i H => ∃ xs : List V, SqX l K H a xs ∧ xs.length = i⟩
theorem turn_en {P : Program} {w : World} {K : Fg} {elts : List Expr} {kk : Nat} {tpos : Pos} (l : Bool) (a e it : Addr) (ae : e ≠ a) (ai : a ≠ it) :
    Turn P w K (.Tuple elts kk tpos) (JEn l K a) [e, it] e (fun i h => (∃ old, IsEnum h e it ((i : Nat) : Int) old) ∧ ItX l h it a i ∧ e ≠ it) where
  mem := List.mem_cons_self ..
  obj := fun i h ⟨⟨old, he⟩, hi, _⟩ b hb => by
    rcases List.mem_cons.mp hb with z | z
    · rw [z]
      exact ⟨_, he, fun v q => nomatch q⟩
    · rw [List.mem_singleton.mp z]
      exact itx_ob hi
  keep := fun i h h' ⟨⟨old, he⟩, hi, hne⟩ k => ⟨⟨old, k e (by simp) _ he⟩, itx_at hi fun o q => k it (by simp) o q, hne⟩
  item := by
    intro X hP hw hK hc i pins s σ H E I hf ⟨⟨old, he⟩, hi, hne⟩ ⟨xs, x, hq, hx⟩
    subst hP hw hK
    obtain ⟨its, rv, p, la⟩ := inv_x I hq
    obtain ⟨u, hu, ru⟩ := rv.get hx
    have hel : e < s.heap.objs.size := Heap.lt_size he
    have hlt : i < its.toArray.size := by
      have := rv.length
      have := (List.getElem?_eq_some_iff.mp hx).1
      simp
      omega
    refine wpAny_pyNext_enum_itemD (draws_x (prog := X.prog) (w := X.w) (A := X.A.in1) l (I.ok.hd hc) it a ai its.toArray) he ⟨hi, p⟩ hlt hne (by simp [hne, ae]) fun u' h' tk hP ho hst hT hsz hk => ?_
    have eu : u' = u := by
      rw [List.getElem?_toArray] at hP
      rw [hu] at hP
      exact (Option.some.inj hP).symm
    subst eu
    refine ⟨_, rfl, wpAny_letOwnedTupleGo_enum (s := { s with heap := h', toks := tk + 1 }) ho fun h2 he2 sb => ?_⟩
    have hT2 : h2.get? s.heap.objs.size = some { cls := .type "tuple", data := .seq #[.int i tk, u'] } := (sb.2 _ (Nat.ne_of_gt hel)).trans hT
    have nw : ObjOk X.prog X.w (upd H s.heap.objs.size (.tup [.int (i : Nat), x])) h2 s.heap.objs.size (.tup [.int (i : Nat), x]) := ⟨by show 2 ≤ sizeLine; decide, [.int i tk, u'], .cons ⟨_, rfl⟩ (.cons ru .nil), ⟨_, hT2, rfl, _, rfl⟩⟩
    have I1 : Inv X pins σ (upd H s.heap.objs.size (.tup [.int (i : Nat), x])) { s with heap := h2, toks := tk + 1 } :=
      I.turnedNew (ch := [e, it]) (fun b o hb q => (sb.2 b (fun z => hb (by simp [z]))).trans (hk b o (fun z => hb (by simp [z])) (fun z => hb (by simp [z])) q)) hf (Nat.le_refl _) nw
    refine ⟨.ref s.heap.objs.size, _, I1, rfl, ⟨_, x, rfl, I.hok.fresh (Nat.le_refl _), rfl, fun zs hz => by rw [inj_x I hz hq]; exact hx⟩, ⟨⟨u', ?_⟩, itx_at hst.1 fun o q => (sb.2 it (Ne.symm hne)).trans q, hne⟩, fun b hb => ?_⟩
    · rw [show ((i + 1 : Nat) : Int) = (i : Int) + 1 by omega]
      exact he2
    · have hb' : b < s.heap.objs.size := by
        rcases List.mem_cons.mp hb with z | z
        · rw [z]; exact hel
        · rw [List.mem_singleton.mp z]
          obtain ⟨o, q, _⟩ := itx_ob hi
          exact Heap.lt_size q
      rw [upd_ne (Nat.ne_of_lt hb')]
      exact (hf b hb).1
  done := by
    intro X hP hw hK hc i pins s σ H E I hf ⟨⟨old, he⟩, hi, hne⟩ ⟨xs, hq, hx⟩
    subst hP hw hK
    obtain ⟨its, rv, p, la⟩ := inv_x I hq
    obtain ⟨f0, f1, f2, f3, f4, f5⟩ := hf it (by simp)
    have en : i = its.toArray.size := by
      have := rv.length
      simp
      omega
    rw [en] at hi
    exact wpAny_pyNext_enum_endD (draws_x (prog := X.prog) (w := X.w) (A := X.A.in1) l (I.ok.hd hc) it a ai its.toArray) he ⟨hi, p⟩ fun h' eb => ⟨rfl, I.turned (t' := s.toks) (fun b o hb q => eb b o hb q) f0 f1 f3 f4 f5⟩
  self := fun A i s Q E ⟨⟨_, he⟩, _⟩ h => wpAny_pyIter_enum he h
theorem meets_enumT (a : Addr) (its : Array Value) (n : Nat) (dct : Option Addr) (sl : Array (Option Value)) :
    Meets (Builtin.«enumerate.__new__» ⟨[.type "enumerate", .ref a], []⟩) (fun _ R s => s.heap.get? a = some { cls := .type "tuple", dict := dct, data := .seq its n, slots := sl } ∧
      R (.ok (.ret (.ref (s.heap.push (obX false a)).objs.size))) { s with heap := (s.heap.push (obX false a)).push { cls := .type "enumerate", data := .fields #[.none, .bool false, .ref s.heap.objs.size, rawInt 0, .none, .none] } }) :=
  .of_wp fun prog w A R s h0 => by
    obtain ⟨hp, g, d, tk, os⟩ := s
    obtain ⟨hg, h0⟩ := h0
    have hsub := sub_enumerate
    have hT : Heap.IsTuple (Shared.heap ⟨hp, g, d, tk, os⟩) a its := ⟨_, hg, rfl, n, rfl⟩
    wp_walk using AutoSeq1.wpAny_loadPart' hg
    refine wpAny_stack_any fun st0 => wpAny_pure ?_
    split
    · rename_i c0 _ _ _ _ _
      cases (c0 == Value.type "enumerate") <;> (wp_walk using AutoSeq1.wpAny_loadPart' hg, wpAny_pyIter_tuple hT; exact ⟨_, rfl, h0⟩)
    · wp_walk using AutoSeq1.wpAny_loadPart' hg, wpAny_pyIter_tuple hT
      exact ⟨_, rfl, h0⟩
theorem call_enX {prog : Program} {w : World} {A : Around} {E : Value → Shared → Prop} {s : Shared} {l : Bool} {a : Addr} {its : Array Value} {Q : Value → Shared → Prop} (hL : IsX l s.heap a its)
    (h : ∀ h', IsEnum h' (s.heap.objs.size + 1) s.heap.objs.size 0 .none → ItX l h' s.heap.objs.size a 0 → (∀ b o, s.heap.get? b = some o → h'.get? b = some o) → Q (.ref (s.heap.objs.size + 1)) { s with heap := h' }) :
    wpAny (model prog w) A (call (.type "enumerate") [.ref a]) Q E s := by
  cases l with
  | true => exact call_enumerate_list hL fun h' he hi hz hk => h h' he hi hk
  | false =>
    obtain ⟨⟨c, dct, dt, sl⟩, hl, hc, n, hd⟩ := (show s.heap.IsTuple a its from hL)
    replace hc : c = .type "tuple" := hc
    replace hd : dt = .seq its n := hd
    subst hc hd
    refine callType_new F.called_enumerate (by decide) (F.typeCall_enumerate_1 _) (F.newCall_enumerate_1 _) (fun ob => F.args_object_init_2 ob _) F.entry_enumerate_new (meets_enumT a its n dct sl) ⟨hl, ?_⟩
    have hz : (s.heap.push (obX false a)).objs.size = s.heap.objs.size + 1 := Heap.size_push ..
    show _ ∧ _
    rw [hz]
    have he : IsEnum ((s.heap.push (obX false a)).push { cls := .type "enumerate", data := .fields #[.none, .bool false, .ref s.heap.objs.size, rawInt 0, .none, .none] }) (s.heap.objs.size + 1) s.heap.objs.size 0 .none := by
      have z := Heap.get?_push_size (s.heap.push (obX false a)) (o := { cls := .type "enumerate", data := .fields #[.none, .bool false, .ref s.heap.objs.size, rawInt 0, .none, .none] }) rfl
      rw [hz] at z
      exact z
    refine ⟨⟨_, he, rfl⟩, h _ he (itx_new (l := false) (Heap.get?_push_of_some _ (Heap.get?_push_size _ rfl))) fun b o x => Heap.get?_push_of_some _ (Heap.get?_push_of_some _ x)⟩
def iEnX (l : Bool) (K : Fg) (ta : TA) : TI := fun σ H R => ta σ H fun vs H1 => ∃ a xs, vs = [.ref a] ∧ SqX l K H1 a xs ∧ R (JEn l K a) H1
theorem pi_enX {X : Cx} {e : Expr} {ta : TA} {p pos tpos : Pos} {elts : List Expr} {kk : Nat} (l : Bool) (hg : Gl X "enumerate") (hm : X.mg "enumerate" = none) (ha : PA X [e] ta) (hs : starEach [e] X.env = [(false, eval e X.env)] := by rfl) :
    PI X (.Tuple elts kk tpos) (.Call (.Name "enumerate" p) [e] [] pos) (iEnX l X.K ta) := by
  refine ⟨fun pins s σ H R I h => ?_⟩
  refine Call_ (ld_blt I hg hm boot_enumerate (PyProof.Rows.callWith_type1 (thn (ha.run pos pins s σ H _ I h) fun us s1 ⟨vs, H1, I1, r1, a, xs, ev, hq, q⟩ => ?_) hs rfl))
  subst ev
  cases r1 with
  | cons r rr =>
    cases rr
    cases r
    obtain ⟨its, rv, p', la⟩ := inv_x I1 hq
    refine call_enX p' fun h' he hi hk => wpAny_pyIter_enum he ?_
    have I2 : Inv X pins σ H1 { s1 with heap := h' } := I1.kept (t' := s1.toks) hk
    refine ⟨s1.heap.objs.size + 1, [s1.heap.objs.size + 1, s1.heap.objs.size], _, _, H1, rfl, I2, turn_en l a (s1.heap.objs.size + 1) s1.heap.objs.size (fun z => Nat.lt_irrefl a (Nat.lt_of_lt_of_le la (Nat.le_trans (Nat.le_add_right _ _) (Nat.le_of_eq z)))) (Nat.ne_of_lt la), ⟨⟨.none, he⟩, hi, Nat.succ_ne_self _⟩, fun b hb => ?_, q⟩
    have hle : s1.heap.objs.size ≤ b := by
      rcases List.mem_cons.mp hb with z | z
      · rw [z]; exact Nat.le_add_right _ _
      · rw [List.mem_singleton.mp z]; exact Nat.le_refl _
    exact I1.fpOk hle (I1.hok.fresh hle)

/-- two in step, in new pairs -/
def JZp (l m : Bool) (K : Fg) (a b : Addr) : It :=
  ⟨fun i H => ∃ (xs ys : List V) (x y : V), SqX l K H a xs ∧ SqX m K H b ys ∧ xs[i]? = some x ∧ ys[i]? = some y,
    fun i H v H' => ∃ T x y, v = .ref T ∧ H T = none ∧ H' = upd H T (.tup [x, y]) ∧ (∀ xs, SqX l K H a xs → xs[i]? = some x) ∧ ∀ ys, SqX m K H b ys → ys[i]? = some y,
    fun i H => ∃ xs ys : List V, SqX l K H a xs ∧ SqX m K H b ys ∧ i = min xs.length ys.length⟩
theorem turn_zp {P : Program} {w : World} {K : Fg} {elts : List Expr} {kk : Nat} {tpos : Pos} {a b z TI TO i1 i2 : Addr} (l m : Bool) (D : ZipSep2 z TI TO i1 i2 [i1, a] [i2, b]) (n1 : a ≠ i1) (n2 : b ≠ i2) :
    Turn P w K (.Tuple elts kk tpos) (JZp l m K a b) [z, TI, TO, i1, i2] z (fun i h => IsZip h z TI TO .none ∧ IsTupOf2 h TI (.ref i1) (.ref i2) ∧ (∃ x y, IsTupOf2 h TO x y) ∧ ItX l h i1 a i ∧ ItX m h i2 b i) where
  mem := List.mem_cons_self ..
  obj := fun i h ⟨hz, hTI, ⟨x, y, hTO⟩, h1, h2⟩ c hc => by
    have e' : c = z ∨ c = TI ∨ c = TO ∨ c = i1 ∨ c = i2 := by simpa using hc
    rcases e' with q | q | q | q | q
    · exact ⟨_, q ▸ hz, fun v q => Data.noConfusion q⟩
    · exact ⟨_, q ▸ hTI, fun v q => Data.noConfusion q⟩
    · exact ⟨_, q ▸ hTO, fun v q => Data.noConfusion q⟩
    · exact q ▸ itx_ob h1
    · exact q ▸ itx_ob h2
  keep := fun i h h' ⟨hz, hTI, ⟨x, y, hTO⟩, h1, h2⟩ k => ⟨k z (by simp) _ hz, k TI (by simp) _ hTI, ⟨x, y, k TO (by simp) _ hTO⟩, itx_at h1 fun o q => k i1 (by simp) o q, itx_at h2 fun o q => k i2 (by simp) o q⟩
  item := by
    intro X hP hw hK hc i pins s σ H E I hf ⟨hz, hTI, ⟨x0, y0, hTO⟩, h1, h2⟩ ⟨xs, ys, x, y, hqx, hqy, hx, hy⟩
    subst hP hw hK
    obtain ⟨its, rv, p, la⟩ := inv_x I hqx
    obtain ⟨its2, rv2, p2, lb⟩ := inv_x I hqy
    obtain ⟨u, hu, ru⟩ := rv.get hx
    obtain ⟨u2, hu2, ru2⟩ := rv2.get hy
    have hzl : z < s.heap.objs.size := Heap.lt_size hz
    have l1 : i < its.toArray.size := by
      have := rv.length
      have := (List.getElem?_eq_some_iff.mp hx).1
      simp
      omega
    have l2 : i < its2.toArray.size := by
      have := rv2.length
      have := (List.getElem?_eq_some_iff.mp hy).1
      simp
      omega
    refine wpAny_pyNext_zipD2_item D (draws_x (prog := X.prog) (w := X.w) (A := X.A.in1) l (I.ok.hd hc) i1 a n1 its.toArray) (draws_x (prog := X.prog) (w := X.w) (A := X.A.in1) m (I.ok.hd hc) i2 b n2 its2.toArray) hz hTI hTO ⟨h1, p⟩ ⟨h2, p2⟩ l1 l2 fun u' u2' h' tk hP hP2 z' TO' h1' h2' hT hsz hk => ?_
    have eu : u' = u := by
      rw [List.getElem?_toArray, hu] at hP
      exact (Option.some.inj hP).symm
    have eu2 : u2' = u2 := by
      rw [List.getElem?_toArray, hu2] at hP2
      exact (Option.some.inj hP2).symm
    subst eu eu2
    refine ⟨_, rfl, wpAny_letOwnedTupleGo_zip (s := { s with heap := h', toks := tk }) z' fun h9 z2 sb => ?_⟩
    have hT2 : h9.get? s.heap.objs.size = some { cls := .type "tuple", data := .seq #[u', u2'] } := (sb.2 _ (Nat.ne_of_gt hzl)).trans hT
    have nw : ObjOk X.prog X.w (upd H s.heap.objs.size (.tup [x, y])) h9 s.heap.objs.size (.tup [x, y]) := ⟨by show 2 ≤ sizeLine; decide, [u', u2'], .cons ru (.cons ru2 .nil), ⟨_, hT2, rfl, _, rfl⟩⟩
    have I1 : Inv X pins σ (upd H s.heap.objs.size (.tup [x, y])) { s with heap := h9, toks := tk } :=
      I.turnedNew (t' := tk) (ch := [z, TI, TO, i1, i2]) (fun c o hb q => (sb.2 c (fun q' => hb (by simp [q']))).trans (hk c o (fun q' => hb (by simp [q'])) (fun q' => hb (by simp [q'])) (fun q' => hb (by simp [q'])) (fun q' => hb (by simp [q'])) q)) hf (Nat.le_refl _) nw
    refine ⟨.ref s.heap.objs.size, _, I1, rfl, ⟨_, x, y, rfl, I.hok.fresh (Nat.le_refl _), rfl, fun zs hl => by rw [inj_x I hl hqx]; exact hx, fun zs hl => by rw [inj_x I hl hqy]; exact hy⟩, ⟨z2, ?_, ⟨u', u2', ?_⟩, ?_, ?_⟩, fun c hcm => ?_⟩
    · exact (sb.2 _ D.TIz).trans (hk _ _ D.TIz D.TITO D.TIi1 D.TIi2 hTI)
    · exact (sb.2 _ D.TOz).trans TO'
    · exact itx_at h1'.1 fun o q => (sb.2 _ (Ne.symm D.zi1)).trans q
    · exact itx_at h2'.1 fun o q => (sb.2 _ (Ne.symm D.zi2)).trans q
    · have hlt : c < s.heap.objs.size := by
        have e' : c = z ∨ c = TI ∨ c = TO ∨ c = i1 ∨ c = i2 := by simpa using hcm
        rcases e' with q | q | q | q | q
        · exact q ▸ hzl
        · exact q ▸ Heap.lt_size hTI
        · exact q ▸ Heap.lt_size hTO
        · obtain ⟨_, e1, _⟩ := itx_ob h1
          exact q ▸ Heap.lt_size e1
        · obtain ⟨_, e1, _⟩ := itx_ob h2
          exact q ▸ Heap.lt_size e1
      rw [upd_ne (Nat.ne_of_lt hlt)]
      exact (hf c hcm).1
  done := by
    intro X hP hw hK hc i pins s σ H E I hf ⟨hz, hTI, ⟨x0, y0, hTO⟩, h1, h2⟩ ⟨xs, ys, hqx, hqy, hend⟩
    subst hP hw hK
    obtain ⟨its, rv, p, la⟩ := inv_x I hqx
    obtain ⟨its2, rv2, p2, lb⟩ := inv_x I hqy
    have q1 := rv.length
    have q2 := rv2.length
    have e1 : its.toArray.size = its.length := by simp
    have e2 : its2.toArray.size = its2.length := by simp
    exact wpAny_pyNext_zipD2_end D (draws_x (prog := X.prog) (w := X.w) (A := X.A.in1) l (I.ok.hd hc) i1 a n1 its.toArray) (draws_x (prog := X.prog) (w := X.w) (A := X.A.in1) m (I.ok.hd hc) i2 b n2 its2.toArray) hz hTI hTO ⟨h1, p⟩ ⟨h2, p2⟩ (by omega) (by omega) (by omega) fun h' tk hk =>
      ⟨rfl, I.turnedL (t' := tk) (ch := [z, TI, TO, i1, i2]) (fun c o hb q => hk c o (fun q' => hb (by simp [q'])) (fun q' => hb (by simp [q'])) (fun q' => hb (by simp [q'])) (fun q' => hb (by simp [q'])) q) hf⟩
  self := fun A i s Q E st h => wpAny_pyIter_zip st.1 h
def iZpX (l m : Bool) (K : Fg) (ta : TA) : TI := fun σ H R => ta σ H fun vs H1 => ∃ a b xs ys, vs = [.ref a, .ref b] ∧ SqX l K H1 a xs ∧ SqX m K H1 b ys ∧ R (JZp l m K a b) H1
theorem pi_zpX {X : Cx} {e e2 : Expr} {ta : TA} {p pos tpos : Pos} {elts : List Expr} {kk : Nat} (l m : Bool) (hg : Gl X "zip") (hm : X.mg "zip" = none) (ha : PA X [e, e2] ta) (hs : starEach [e, e2] X.env = (false, eval e X.env) :: starEach [e2] X.env := by rfl)
    (hpl : (backTo pos (starEach [e2] X.env)).any (·.1) = false := by rfl) : PI X (.Tuple elts kk tpos) (.Call (.Name "zip" p) [e, e2] [] pos) (iZpX l m X.K ta) := by
  refine ⟨fun pins s σ H R I h => ?_⟩
  refine Call_ (ld_blt I hg hm PyProof.Rows.boot_zip (PyProof.Rows.callWith_type1 (thn (ha.run pos pins s σ H _ I h) fun us s1 ⟨vs, H1, I1, r1, a, b, xs, ys, ev, hqx, hqy, q⟩ => ?_) hs hpl))
  subst ev
  cases r1 with
  | cons r rr =>
    cases rr with
    | cons r' rr =>
      cases rr
      cases r
      cases r'
      obtain ⟨its, rv, p1, la⟩ := inv_x I1 hqx
      obtain ⟨its2, rv2, p2, lb⟩ := inv_x I1 hqy
      refine zip_begins2 (begins_x l a its.toArray) (begins_x m b its2.toArray) p1 p2 fun h' hz hTI hTO h1 h2 hsz hk => wpAny_pyIter_zip hz ?_
      have I2 : Inv X pins σ H1 { s1 with heap := h' } := I1.kept (t' := s1.toks) hk
      refine ⟨s1.heap.objs.size + 4, [s1.heap.objs.size + 4, s1.heap.objs.size + 2, s1.heap.objs.size + 3, s1.heap.objs.size, s1.heap.objs.size + 1], _, _, H1, rfl, I2,
        turn_zp l m (zip_sep2 (fp1 := [a]) (fp2 := [b]) (fun c hc => by rw [List.mem_singleton.mp hc]; exact la) (fun c hc => by rw [List.mem_singleton.mp hc]; exact lb)) (Nat.ne_of_lt la) (Nat.ne_of_lt (Nat.lt_succ_of_lt lb)), ⟨hz, hTI, ⟨_, _, hTO⟩, itx_new h1, itx_new h2⟩, fun c hcm => ?_, q⟩
      have e' : c = s1.heap.objs.size + 4 ∨ c = s1.heap.objs.size + 2 ∨ c = s1.heap.objs.size + 3 ∨ c = s1.heap.objs.size ∨ c = s1.heap.objs.size + 1 := by simpa using hcm
      have hle : s1.heap.objs.size ≤ c := by
        rcases e' with z | z | z | z | z <;> rw [z] <;> first | exact Nat.le_add_right _ _ | exact Nat.le_refl _
      exact I1.fpOk hle (I1.hok.fresh hle)

/-! ### as iterators of typed values -/
def cSq {α : Type} (l : Bool) (c : Cd α) : Cd (List α) := if l = true then cLst c else cTup c
def numb {α : Type} (xs : List α) : List (Int × α) := (List.range xs.length).zipWith (fun (i : Nat) x => ((i : Int), x)) xs
theorem numb_at {α : Type} {xs : List α} {i : Nat} {p : Int × α} (h : (numb xs)[i]? = some p) : p.1 = (i : Int) ∧ xs[i]? = some p.2 := by
  unfold numb at h
  rw [List.getElem?_zipWith] at h
  cases h1 : xs[i]? with
  | none =>
    rw [h1] at h
    cases h2 : (List.range xs.length)[i]? <;> rw [h2] at h <;> cases h
  | some x =>
    have hl := (List.getElem?_eq_some_iff.mp h1).1
    rw [h1, List.getElem?_range hl] at h
    cases h
    exact ⟨rfl, rfl⟩
theorem numb_len {α : Type} {xs : List α} : (numb xs).length = xs.length := by
  unfold numb
  rw [List.length_zipWith, List.length_range, Nat.min_self]
section
variable {X : Cx} {B : Bs} {Z : Zt} {Γ : List Bd} {e e2 it : Expr} {pos p tpos : Pos} {k : Nat} {α β : Type} {cd : Cd α} {ce : Cd β} {elts : List Expr} {kk : Nat}
theorem raw_sq {K : Fg} {F : Hp} {l : Bool} {x : List α} {v : V} (h : (cSq l cd).rp K F x v) : ∃ a vs, v = .ref a ∧ (if l = true then SqL K F a vs else SqT K F a vs) ∧ All2 (cd.rp K F) x vs := by
  cases l
  · obtain ⟨a, vs, e, h1, h2⟩ := (show (cTup cd).rp K F x v from h)
    exact ⟨a, vs, e, sqT h1, h2⟩
  · exact h
theorem sq_up {K : Fg} {F H : Hp} {l : Bool} {a : Addr} {vs : List V} (s : Same F H) (h : if l = true then SqL K F a vs else SqT K F a vs) : SqX l K H a vs := by
  cases l
  · exact seqT_up s h
  · exact seqL_up s h
theorem new_pr {K : Fg} {t : List (V × Bd)} {σ : L2.St} {F H : Hp} {own : Ow} {T : Addr} {x y : V} {p : α × β} (wd : Wd B F own H) (hS : HoldS K F H own σ Γ) (hT : HoldT K F H own t) (hq : H T = none) (r : cd.rp K F p.1 x) (r' : ce.rp K F p.2 y) : Sat K B ((V.ref T, va (cPr cd ce) p) :: t) σ Γ (upd H T (.tup [x, y])) :=
  push_tup wd hS hT hq ⟨T, x, y, rfl, upd_same, cd.up (Same.newH (wd.none_F hq)) r, ce.up (Same.newH (wd.none_F hq)) r'⟩
theorem walks_en {K : Fg} {l : Bool} {a : Addr} {vs : List V} {xs : List α} {G : List Bd → L2.St → Prop} : Walks K B (cPr cInt cd) (JEn l K a) [(V.ref a, raw l a vs cd xs)] G (numb xs) where
  stop := fun p t σ Γ H s g => by
    obtain ⟨F, own, wd, hS, hT⟩ := s
    obtain ⟨_, r1, r2⟩ := hT.at (p := p) (q := (V.ref a, raw l a vs cd xs)) (t := t)
    exact ⟨vs, sq_up wd.fh r1, by rw [numb_len, r2.length]⟩
  go := fun p t σ Γ H i x s g hx => by
    obtain ⟨F, own, wd, hS, hT⟩ := s
    obtain ⟨_, r1, r2⟩ := hT.at (p := p) (q := (V.ref a, raw l a vs cd xs)) (t := t)
    obtain ⟨e1, hx2⟩ := numb_at hx
    obtain ⟨v, hv, rv⟩ := r2.get hx2
    refine ⟨⟨vs, v, sq_up wd.fh r1, hv⟩, fun w H' ⟨T, y, ew, hT0, eH, hy⟩ => ?_⟩
    subst ew eH
    have ey := hy vs (sq_up wd.fh r1)
    rw [hv] at ey
    cases ey
    exact new_pr wd hS hT hT0 (by rw [e1]; rfl) rv
theorem it_enum (l : Bool) {P : List Bd → List (Int × α) → Prop} (hm : X.mg "enumerate" = none) (h : EV X B e Γ (fun Γ1 b1 => ∃ xs, b1 = va (cSq l cd) xs ∧ P Γ1 (numb xs))) (hg : Gl X "enumerate" := by rfl) (hs : starEach [e] X.env = [(false, eval e X.env)] := by rfl) :
    IT X B (.Tuple elts kk tpos) (.Call (.Name "enumerate" p) [e] [] pos) Γ none (cPr cInt cd) P := by
  refine ⟨_, pi_enX l hg hm (pa_cons pe_wp pa_nil hs) hs, fun t σ H R s q => ?_⟩
  refine h t σ H _ s fun Γ1 b1 ⟨xs, e1, p1⟩ v H1 s1 => ?_
  subst e1
  obtain ⟨F, own, wd, hS, ⟨v', ev, r⟩, hT⟩ := s1
  cases ev
  obtain ⟨a, vs, ea, h1, h2⟩ := raw_sq r
  subst ea
  exact ⟨a, vs, rfl, sq_up wd.fh h1, q Γ1 _ p1 _ H1 [(V.ref a, raw l a vs cd xs)] un .non ⟨F, own, wd, hS, ⟨rfl, h1, h2⟩, hT⟩ trivial walks_en⟩
theorem zip_at {xs : List α} {ys : List β} {i : Nat} {p : α × β} (h : (xs.zip ys)[i]? = some p) : xs[i]? = some p.1 ∧ ys[i]? = some p.2 := by
  rw [List.zip, List.getElem?_zipWith] at h
  cases h1 : xs[i]? <;> cases h2 : ys[i]? <;> rw [h1, h2] at h <;> cases h
  exact ⟨rfl, rfl⟩
theorem walks_zp {K : Fg} {l m : Bool} {a b : Addr} {vs ws : List V} {xs : List α} {ys : List β} {G : List Bd → L2.St → Prop} : Walks K B (cPr cd ce) (JZp l m K a b) [(V.ref b, raw m b ws ce ys), (V.ref a, raw l a vs cd xs)] G (xs.zip ys) where
  stop := fun p t σ Γ H s g => by
    obtain ⟨F, own, wd, hS, hT⟩ := s
    obtain ⟨_, r3, r4⟩ := hT.at (p := p) (q := (V.ref b, raw m b ws ce ys)) (t := (V.ref a, raw l a vs cd xs) :: t)
    have hT' : HoldT K F H own ((p ++ [(V.ref b, raw m b ws ce ys)]) ++ ((V.ref a, raw l a vs cd xs) :: t)) := by
      rw [List.append_assoc]
      exact hT
    obtain ⟨_, r1, r2⟩ := hT'.at
    exact ⟨vs, ws, sq_up wd.fh r1, sq_up wd.fh r3, by rw [List.length_zip, r2.length, r4.length]⟩
  go := fun p t σ Γ H i x s g hx => by
    obtain ⟨F, own, wd, hS, hT⟩ := s
    obtain ⟨_, r3, r4⟩ := hT.at (p := p) (q := (V.ref b, raw m b ws ce ys)) (t := (V.ref a, raw l a vs cd xs) :: t)
    have hT' : HoldT K F H own ((p ++ [(V.ref b, raw m b ws ce ys)]) ++ ((V.ref a, raw l a vs cd xs) :: t)) := by
      rw [List.append_assoc]
      exact hT
    obtain ⟨_, r1, r2⟩ := hT'.at
    obtain ⟨hx1, hx2⟩ := zip_at hx
    obtain ⟨v, hv, rv⟩ := r2.get hx1
    obtain ⟨w, hw, rw'⟩ := r4.get hx2
    refine ⟨⟨vs, ws, v, w, sq_up wd.fh r1, sq_up wd.fh r3, hv, hw⟩, fun u H' ⟨T, y, y2, ew, hT0, eH, hy, hy2⟩ => ?_⟩
    subst ew eH
    have ey := hy vs (sq_up wd.fh r1)
    rw [hv] at ey
    cases ey
    have ey2 := hy2 ws (sq_up wd.fh r3)
    rw [hw] at ey2
    cases ey2
    exact new_pr wd hS hT hT0 rv rw'
theorem it_zip (l m : Bool) {P : List Bd → List (α × β) → Prop} (hm : X.mg "zip" = none) (h : EV X B e Γ (fun Γ1 b1 => ∃ xs, b1 = va (cSq l cd) xs ∧ EV X B e2 Γ1 (fun Γ2 b2 => ∃ ys, b2 = va (cSq m ce) ys ∧ P Γ2 (xs.zip ys)))) (hg : Gl X "zip" := by rfl)
    (hs : starEach [e, e2] X.env = (false, eval e X.env) :: starEach [e2] X.env := by rfl) (hs2 : starEach [e2] X.env = (false, eval e2 X.env) :: starEach [] X.env := by rfl) (hpl : (backTo pos (starEach [e2] X.env)).any (·.1) = false := by rfl) :
    IT X B (.Tuple elts kk tpos) (.Call (.Name "zip" p) [e, e2] [] pos) Γ none (cPr cd ce) P := by
  refine ⟨_, pi_zpX l m hg hm (pa_cons pe_wp (pa_cons pe_wp pa_nil hs2) hs) hs hpl, fun t σ H R s q => ?_⟩
  refine h t σ H _ s fun Γ1 b1 ⟨xs, e1, h1⟩ v H1 s1 => ?_
  subst e1
  refine h1 _ σ H1 _ s1 fun Γ2 b2 ⟨ys, e3, p2⟩ w H2 s2 => ?_
  subst e3
  obtain ⟨F, own, wd, hS, ⟨w', ew, r'⟩, ⟨v', ev, r⟩, hT⟩ := s2
  cases ev
  cases ew
  obtain ⟨a, vs, ea, h1, h2⟩ := raw_sq r
  obtain ⟨b, ws, eb, h3, h4⟩ := raw_sq r'
  subst ea eb
  exact ⟨a, b, vs, ws, rfl, sq_up wd.fh h1, sq_up wd.fh h3, q Γ2 _ p2 _ H2 [(V.ref b, raw m b ws ce ys), (V.ref a, raw l a vs cd xs)] un .non ⟨F, own, wd, hS, ⟨rfl, h3, h4⟩, ⟨rfl, h1, h2⟩, hT⟩ trivial walks_zp⟩
end
end T
set_option maxHeartbeats 1000000
namespace T
open PySem PySem.Spec PyProof.Rows L2

/-! ## lists of mutable lists of our own -/
def own1 {α : Type} (K : Fg) (F H : Hp) (c : Cd α) (f : Addr → Prop) (xs : List α) (v : V) : Prop := ∃ b us, v = .ref b ∧ f b ∧ H b = some (.lst us) ∧ All2 (c.rp K F) xs us
def oGrid {α : Type} (c : Cd α) : Oc (List (List α)) := ⟨fun K F H xss a f => f a ∧ ∃ vs, H a = some (.lst vs) ∧ All2 (own1 K F H c f) xss vs ∧ vs.Nodup ∧ V.ref a ∉ vs,
  fun s g ⟨h1, vs, h2, r, n1, n2⟩ => ⟨(g _ h1).1, vs, (g _ h1).2 _ h2, r.imp fun xs v ⟨b, us, e, q1, q2, q3⟩ => ⟨b, us, e, (g _ q1).1, (g _ q1).2 _ q2, q3.imp fun _ _ => c.up s⟩, n1, n2⟩⟩
/-- freezing all of a label -/
def cutL (own : Ow) (l : Lb) : Ow := fun a => if own a = some l then none else own a
def allF (F H : Hp) (own : Ow) (l : Lb) : Hp := fun a => if own a = some l then H a else F a
section
variable {B : Bs} {F F' H H' : Hp} {own own' : Ow} {p a : Addr} {o : HO} {l : Lb}
theorem cutL_some {l' : Lb} (h : cutL own l a = some l') : own a = some l' ∧ l' ≠ l := by
  unfold cutL at h
  split at h
  · cases h
  · rename_i q
    exact ⟨h, fun e => q (e ▸ h)⟩
theorem cutL_of {l' : Lb} (h : own a = some l') (n : l' ≠ l) : cutL own l a = some l' := by
  unfold cutL
  rw [if_neg (fun q => n (by rw [h] at q; exact Option.some.inj q))]
  exact h
theorem allF_own (h : own a = some l) : allF F H own l a = H a := if_pos h
theorem allF_not (h : own a ≠ some l) : allF F H own l a = F a := if_neg h
theorem Wd.sameL (w : Wd B F own H) : Same F (allF F H own l) := fun b u e => by
  rw [allF_not (fun z => by rw [w.fo b u e] at z; cases z)]
  exact e
theorem Wd.frzL (w : Wd B F own H) : Wd B (allF F H own l) (cutL own l) H where
  fh := fun b u q => by
    unfold allF at q
    split at q
    · exact q
    · exact w.fh b u q
  fo := fun b u q => by
    unfold allF at q
    unfold cutL
    split at q
    · rename_i e
      rw [if_pos e]
    · rename_i e
      rw [if_neg e]
      exact w.fo b u q
  oh := fun b l' q => w.oh b l' (cutL_some q).1
  b1 := fun b u q => w.sameL b u (w.b1 b u q)
  b2 := fun b u q => by
    unfold allF at q
    split at q
    · rename_i e
      exact .inr (w.b3 _ _ e)
    · exact w.b2 b u q
  b3 := fun b l' q => w.b3 b l' (cutL_some q).1
  b4 := w.b4
end
section
variable {K : Fg} {B : Bs} {t : List (V × Bd)} {σ : L2.St} {Γ : List Bd} {F H : Hp} {own : Ow} {α : Type} {c : Cd α} {xss : List (List α)} {v : V}
theorem grid_frz {l : Lb} {a : Addr} (w : Wd B F own H) (h : (oGrid c).rp K F H xss a (fun a => own a = some l)) : (cLst (cLst c)).rp K (allF F H own l) xss (.ref a) := by
  obtain ⟨h1, vs, h2, r, _, _⟩ := h
  refine ⟨a, vs, rfl, .of (by rw [allF_own h1]; exact h2), r.imp fun xs v ⟨b, us, e, q1, q2, q3⟩ => ⟨b, us, e, .of (by rw [allF_own q1]; exact q2), q3.imp fun _ _ => c.up w.sameL⟩⟩
theorem Sat.frzGS {i : Nat} (e : Γ[i]? = some (ow (oGrid c) xss)) (s : Sat K B t σ Γ H) : Sat K B t σ (Γ.set i (va (cLst (cLst c)) xss)) H := by
  obtain ⟨F, own, w, hS, hT⟩ := s
  obtain ⟨a, ea, h0⟩ := hS.2 i _ e
  refine ⟨_, _, w.frzL (l := .inl i), ⟨by rw [List.length_set]; exact hS.1, fun j b q => ?_⟩, hT.up w.sameL fun b i hi q => ⟨cutL_of q (fun z => nomatch z), fun o e => e⟩⟩
  by_cases ij : i = j
  · subst ij
    rw [List.getElem?_set_self (List.getElem?_eq_some_iff.mp e).1] at q
    cases q
    exact ⟨.ref a, ea, grid_frz w h0⟩
  · rw [List.getElem?_set_ne ij] at q
    exact b.up w.sameL (fun d z => ⟨cutL_of z (fun y => ij (Sum.inl.inj y).symm), fun o e => e⟩) (hS.2 j b q)
theorem Sat.frzGT (s : Sat K B ((v, ow (oGrid c) xss) :: t) σ Γ H) : Sat K B ((v, va (cLst (cLst c)) xss) :: t) σ Γ H := by
  obtain ⟨F, own, w, hS, ⟨a, ea, h0⟩, hT⟩ := s
  cases ea
  exact ⟨_, _, w.frzL (l := .inr t.length), hS.up w.sameL fun b i q => ⟨cutL_of q (fun z => nomatch z), fun o e => e⟩, ⟨_, rfl, grid_frz w h0⟩, hT.up w.sameL fun b i hi q => ⟨cutL_of q (fun z => by have := Sum.inr.inj z; omega), fun o e => e⟩⟩
end
section
variable {X : Cx} {B : Bs} {Z : Zt} {Γ : List Bd} {R : Rs} {P : List Bd → Bd → Prop} {e : Expr} {ss : List Stmt} {α : Type} {c : Cd α} {xss : List (List α)}
theorem sb_frzG (i : Nat) (hΓ : Γ[i]? = some (ow (oGrid c) xss)) (h : SB X B ss (Γ.set i (va (cLst (cLst c)) xss)) R) : SB X B ss Γ R := fun t σ H D pn s d => h t σ H D pn (s.frzGS hΓ) d
theorem ev_frzGS (i : Nat) (hΓ : Γ[i]? = some (ow (oGrid c) xss)) (h : EV X B e (Γ.set i (va (cLst (cLst c)) xss)) P) : EV X B e Γ P := fun t σ H Q s q => h t σ H Q (s.frzGS hΓ) q
theorem ev_frzG (h : EV X B e Γ (fun Γ1 b1 => ∃ xs, b1 = ow (oGrid c) xs ∧ P Γ1 (va (cLst (cLst c)) xs))) : EV X B e Γ P := fun t σ H Q s q => h t σ H Q s fun Γ1 b1 ⟨xs, e1, p⟩ v H1 s1 => by
  subst e1
  exact q _ _ p v H1 s1.frzGT
end

/-! ### a comprehension that gathers as it likes -/
structure Abs {β : Type} (K : Fg) (B : Bs) (be : β → Bd) (ab : List β → Bd) : Prop where
  nil : ∀ t σ Γ H D, Sat K B t σ Γ H → H D = none → Sat K B ([(V.ref D, ab [])] ++ t) σ Γ (upd H D (.lst []))
  cons : ∀ t σ Γ H D yv y acc, Sat K B ([(yv, be y)] ++ ([(V.ref D, ab acc)] ++ t)) σ Γ H → ∃ us, H D = some (.lst us) ∧ us.length = acc.length ∧ Sat K B ([(V.ref D, ab (acc ++ [y]))] ++ t) σ Γ (upd H D (.lst (us ++ [yv])))
section
variable {X : Cx} {B : Bs} {Z : Zt} {Γ : List Bd} {R : Rs} {e it tg c elt : Expr} {ifs : List Expr} {pos pos' p spos : Pos} {k : Nat} {α β S : Type} {cd : Cd α} {be : β → Bd} {ab : List β → Bd} {js : List Nat} {scope : Scope} {s : Shared} {H0 : Hp} {cenv : Env} {fp : List Addr}
def CEg (X : Cx) (B : Bs) (elt : Expr) (Γ : List Bd) (be : β → Bd) (Γs : S → List Bd) (Pb : Option β × S → Prop) : Prop := EV X B elt Γ (fun Γ4 b4 => ∃ y s', Pb (some y, s') ∧ b4 = be y ∧ Wk Γ4 (Γs s'))
def CTg (X : Cx) (B : Bs) (scope : Scope) (ifs : List Expr) (elt : Expr) (Γ : List Bd) (be : β → Bd) (Γs : S → List Bd) (Pb : Option β × S → Prop) : Prop := match ifs with
  | [] => ∀ s H C cl fp, CEg (X.blk s H scope (compEnvC scope cl C X.env) fp) B elt Γ be Γs Pb
  | [c] => ∀ s H C cl fp, ET (X.blk s H scope (compEnvC scope cl C X.env) fp) B c Γ (fun Γ3 b => if b = true then ∀ s H C cl fp, CEg (X.blk s H scope (compEnvC scope cl C X.env) fp) B elt Γ3 be Γs Pb else ∃ s', Pb (none, s') ∧ Wk Γ3 (Γs s'))
  | _ => False
theorem comp_coreG (A : Abs X.K B be ab) {wi : TI} {gi : Option Nat} {vs : List Nat} {t : List (V × Bd)} {σ : L2.St} {H : Hp} {Q : VK} {f : α → S → Res (Option β × S)} {Pk : List β × S → Prop} {Pi : List Bd → List α → Prop} (Γs : S → List Bd)
    (hwi : ∀ R, (∀ Γ' xs, Pi Γ' xs → ∀ J H' tm b v, Sat X.K B (tm ++ t) σ Γ' H' → Gd gi b v Γ' σ → Walks X.K B cd J tm (Gd gi b v) xs → R J H') → wi σ H R)
    (hPi : ∀ Γ1 xs, Pi Γ1 xs → ∃ (s0 : S) (Zk : Exn → Prop), Wk Γ1 (Γs s0) ∧ (∀ s, Gk gi Γ1 (Γs s)) ∧ good (compF xs s0 [] f) Pk Zk)
    (hb : ∀ s H C cl fp, ∀ x st (Pb : Option β × S → Prop), good (f x st) Pb (fun _ => False) → EG (X.blk s H scope (compEnvC scope cl C X.env) fp) B.unp vs tg (Γs st) (va cd x) (fun Γ2 => CTg X B.unp scope ifs elt Γ2 be Γs Pb))
    (hw : ∀ s, wipB (Γs s) vs = Γs s) (q : ∀ p, Pk p → ∀ v H', Sat X.K B ((v, ab p.1) :: t) σ (Γs p.2) H' → Q v H') : tLc wi (bG X scope tg) (bT X scope ifs) (bE X scope elt) vs σ H Q := by
  refine hwi _ fun Γ1 xs p1 J H1 tm b v s1 g1 W D hD => ?_
  obtain ⟨s0, Zk, w0, hG, gd⟩ := hPi Γ1 xs p1
  have g0 : ∀ s, Gd gi b v (Γs s) σ := fun s => g1.keep (hG s)
  refine ⟨fun i m H' => ∃ (st : S) (acc : List β), m = xs.length - i ∧ i ≤ xs.length ∧ Sat X.K B ([(V.ref D, ab acc)] ++ (tm ++ t)) σ (Γs st) H' ∧ good (compF (xs.drop i) st acc f) Pk Zk, ⟨xs.length, s0, [], by simp, Nat.zero_le _, ?_, gd⟩, ?_⟩
  · exact A.nil _ _ _ _ _ (s1.wk w0) hD
  · rintro i m H' ⟨st, acc, rfl, hi, s', gs⟩
    by_cases hlt : i < xs.length
    · have hx : xs[i]? = some xs[i] := List.getElem?_eq_getElem hlt
      obtain ⟨w1, w2⟩ := W.go _ t σ (Γs st) H' i xs[i] s' (g0 st) hx
      rw [drop_cons hx] at gs
      unfold compF at gs
      by_cases hz : acc.length < 16777216
      · rw [if_pos hz] at gs
        have gf := good_noX (good_bind gs)
        refine .inr ⟨w1, fun H'' => ∃ (st' : S) (acc' : List β), Sat X.K B ([(V.ref D, ab acc')] ++ (tm ++ t)) σ (Γs st') H'' ∧ good (compF (xs.drop (i + 1)) st' acc' f) Pk Zk, fun H'' ⟨st', acc', a, b⟩ => ⟨xs.length - (i + 1), by omega, st', acc', rfl, hlt, a, b⟩, fun x H2 y => ?_⟩
        have s2 := w2 x H2 y
        have s3 : Sat X.K B ((x, va cd xs[i]) :: ([(V.ref D, ab acc)] ++ (tm ++ t))) (wipe σ vs) (Γs st) H2 := s2.swap (hw st) (wipe_wipe fun _ h => h).symm
        have fin : ∀ {Γ3 : List Bd} {σ2 : L2.St} {H3 : Hp} {st' : S} {pr : List (V × Bd)}, L2.wipe σ2 vs = L2.wipe σ vs → Wk Γ3 (Γs st') → Sat X.K B (pr ++ ([(V.ref D, ab acc)] ++ (tm ++ t))) σ2 Γ3 H3 → Sat X.K B (pr ++ ([(V.ref D, ab acc)] ++ (tm ++ t))) σ (Γs st') H3 := fun e w s => (s.wk w).swap (hw _) e
        intro s H0 C cl fp
        refine hb s H0 C cl fp xs[i] st _ gf _ (wipe σ vs) H2 x _ pin_unp s3.unp fun Γ2 h2 σ2 H3 df pn2 s4 => ?_
        have ew : L2.wipe σ2 vs = L2.wipe σ vs := df.wipe.trans (wipe_wipe fun _ h => h)
        refine ⟨ew, ?_⟩
        have elt_ok : ∀ {Γ3 : List Bd} {H4 : Hp} {Pb : Option β × S → Prop}, (∀ p, Pb p → good (compF (xs.drop (i + 1)) p.2 (match p.1 with
            | some y => acc ++ [y]
            | none => acc) f) Pk Zk) → (∀ s H C cl fp, CEg (X.blk s H scope (compEnvC scope cl C X.env) fp) B.unp elt Γ3 be Γs Pb) → Sat X.K B ([(V.ref D, ab acc)] ++ (tm ++ t)) σ2 Γ3 H4 →
            bE X scope elt σ2 H4 fun y H4 => ∃ acc_1, H4 D = some (.lst acc_1) ∧ acc_1.length < sizeLine ∧ ∃ (st' : S) (acc' : List β), Sat X.K B ([(V.ref D, ab acc')] ++ (tm ++ t)) σ (Γs st') (upd H4 D (.lst (acc_1 ++ [y]))) ∧ good (compF (xs.drop (i + 1)) st' acc' f) Pk Zk := by
          intro Γ3 H4 Pb hP hce s5 s H0 C cl fp
          refine hce s H0 C cl fp _ σ2 H4 _ s5.unp fun Γ4 b4 ⟨y, s', pb, e1, w⟩ yv H5 s6 => ?_
          subst e1
          have s7 := fin (pr := [(yv, be y)]) ew w s6.pun
          obtain ⟨us, hu, hl, s8⟩ := A.cons _ _ _ _ _ _ _ _ s7
          exact ⟨us, hu, by rw [hl, sizeLine_eq]; exact hz, s', acc ++ [y], s8, hP _ pb⟩
        match ifs, h2 with
        | [], h2 => exact elt_ok (fun _ h => h) h2 s4.pun
        | [c], h2 =>
          intro s H0 C cl fp
          refine h2 s H0 C cl fp _ σ2 H3 _ s4 fun Γ3 bb p3 H4 s5 => ?_
          cases bb with
          | true =>
            rw [if_pos rfl] at p3 ⊢
            exact elt_ok (fun _ h => h) p3 s5.pun
          | false =>
            rw [if_neg Bool.false_ne_true] at p3 ⊢
            obtain ⟨s', pb, w⟩ := p3
            exact ⟨s', acc, fin (pr := []) ew w s5.pun, pb⟩
        | _ :: _ :: _, h2 => exact h2.elim
      · rw [if_neg hz] at gs
        exact gs.elim
    · have e : i = xs.length := by omega
      subst e
      rw [List.drop_length] at gs
      exact .inl ⟨W.stop _ t σ (Γs st) H' s' (g0 st), q (acc, st) gs _ H' (Sat.mids (p := [(V.ref D, ab acc)]) s')⟩
/-- [elt for tg in it if c] as a value -/
theorem ev_compG {gi : Option Nat} {vs : List Nat} {own : List (Str × Nat)} {f : α → S → Res (Option β × S)} {P : List Bd → Bd → Prop} (A : Abs X.K B be ab) (O : Ok X B Z k) (Γs : S → List Bd)
    (hI : IT X B tg it Γ gi cd (fun Γ1 xs => ∃ (s0 : S) (Zk : Exn → Prop), Wk Γ1 (Γs s0) ∧ (∀ s, Gk gi Γ1 (Γs s)) ∧ good (compF xs s0 [] f) (fun p => P (Γs p.2) (ab p.1)) Zk))
    (hb : ∀ s H C cl fp, Ok (X.blk s H scope (compEnvC scope cl C X.env) fp) B.unp ZF k → ∀ x st (Pb : Option β × S → Prop), good (f x st) Pb (fun _ => False) → EG (X.blk s H scope (compEnvC scope cl C X.env) fp) B.unp vs tg (Γs st) (va cd x) (fun Γ2 => CTg X B.unp scope ifs elt Γ2 be Γs Pb))
    (hv : own.map (·.2) = vs := by rfl) (ok : blkC X.N X.env.scope scope own = true := by decide +kernel) (hw : ∀ s, wipB (Γs s) vs = Γs s := by intro _; rfl) (hs : ∀ x, foldedSetIterable it X.env x = pure x := by intro _; rfl) :
    EV X B (.ListComp elt [⟨tg, it, ifs, 0⟩] scope pos) Γ P := by
  intro t σ H Q s q
  obtain ⟨wi, h1, h2⟩ := hI
  refine wp_of_pe (pe_lc (own := own) O.calm O.nd h1 (blkOk_by ok) bg_ok bt_ok be_ok hs) ?_
  rw [hv]
  exact comp_coreG A Γs (fun R hR => h2 t σ H R s hR) (fun Γ1 xs h => h) (fun s H C cl fp => hb s H C cl fp O.blk) hw fun p hP v H' s' => q _ _ hP v H' s'
/-- name = [elt for tg in it if c] on one line -/
theorem s1_compG {gi : Option Nat} {vs : List Nat} {own : List (Str × Nat)} {f : α → S → Res (Option β × S)} {y : Str} {py : Pos} (A : Abs X.K B be ab) (i : Nat) (O : Ok X B Z k) (Γs : S → List Bd)
    (hI : IT X B tg it Γ gi cd (fun Γ1 xs => ∃ (s0 : S) (Zk : Exn → Prop), Wk Γ1 (Γs s0) ∧ (∀ s, Gk gi Γ1 (Γs s)) ∧ good (compF xs s0 [] f) (fun p => R.nx ((Γs p.2).set i (ab p.1))) Zk))
    (hb : ∀ s H C cl fp, Ok (X.blk s H scope (compEnvC scope cl C X.env) fp) B.unp ZF k → ∀ x st (Pb : Option β × S → Prop), good (f x st) Pb (fun _ => False) → EG (X.blk s H scope (compEnvC scope cl C X.env) fp) B.unp vs tg (Γs st) (va cd x) (fun Γ2 => CTg X B.unp scope ifs elt Γ2 be Γs Pb))
    (hN : X.N[i]? = some y := by rfl) (hy : X.env.scope.names.lookup y = some .local := by rfl) (hp : B.pins.contains i = false := by rfl) (hi : ∀ s, Nat.blt i (Γs s).length = true := by intro _; rfl) (hk : X.env.scope.kind = .function := by rfl) (hl : (py.line == pos.line) = true := by rfl) (ha : (scope.names.any fun (n, k) => n == y && (k == .local || k == .cell)) = false := by rfl)
    (hv : own.map (·.2) = vs := by rfl) (ok : blkC X.N X.env.scope scope own = true := by decide +kernel) (hw : ∀ s, wipB (Γs s) vs = Γs s := by intro _; rfl) (hs : ∀ x, foldedSetIterable it X.env x = pure x := by intro _; rfl) :
    S1 X B (.Assign [.Name y py] (.ListComp elt [⟨tg, it, ifs, 0⟩] scope pos) spos) Γ R := by
  intro t σ H D pn s d
  obtain ⟨wi, h1, h2⟩ := hI
  refine wp_of_ps (ps_setLc (own := own) O.calm O.nd hN hy (sw_true hk hy hl ha) h1 (blkOk_by ok) bg_ok bt_ok be_ok hs) ?_
  rw [hv]
  refine comp_coreG A Γs (fun R hR => h2 t σ H R s hR) (fun Γ1 xs h => h) (fun s H C cl fp => hb s H C cl fp O.blk) hw fun p hP v H' s' => ?_
  exact d.nx _ hP _ H' (pn.set hp) (s'.store (by rw [s'.len]; exact Nat.le_of_ble_eq_true (hi _)))

end
theorem All2.impM {α : Type} {r r' : α → V → Prop} : ∀ {xs : List α} {vs : List V}, (∀ x v, v ∈ vs → r x v → r' x v) → All2 r xs vs → All2 r' xs vs
  | [], [], _, _ => trivial
  | _ :: _, _ :: _, h, ⟨a, b⟩ => ⟨h _ _ (List.mem_cons_self ..) a, All2.impM (fun x v m => h x v (List.mem_cons_of_mem _ m)) b⟩
  | [], _ :: _, _, z => z
  | _ :: _, [], _, z => z
theorem nodup_snoc {α : Type} : ∀ {xs : List α} {y : α}, xs.Nodup → y ∉ xs → (xs ++ [y]).Nodup := fun h n => List.nodup_append.mpr ⟨h, List.nodup_cons.mpr ⟨List.not_mem_nil, List.nodup_nil⟩, fun a ha b hb e => by
  rw [List.mem_singleton.mp hb] at e
  exact n (e ▸ ha)⟩
/-- the label of a new row becomes the grid's -/
def mvOwn (own : Ow) (d : Nat) : Ow := fun a => if own a = some (.inr (d + 1)) then some (.inr d) else own a
theorem abs_grid {K : Fg} {B : Bs} {α : Type} {c : Cd α} : Abs K B (ow (oLst c)) (ow (oGrid c)) where
  nil := fun t σ Γ H D ⟨F, own, wd, hS, hT⟩ hD => by
    have nq := wd.none_own hD
    have ne : ∀ {a : Addr} {l : Lb}, own a = some l → a ≠ D := fun z y => by rw [y, nq] at z; cases z
    exact ⟨F, put own D (.inr t.length), wd.newO hD _, hS.up (Same.rfl' F) fun a i z => ⟨by rw [put_ne (ne z)]; exact z, fun o e => Same.newH hD a o e⟩, ⟨D, rfl, put_same, [], upd_same, trivial, List.nodup_nil, List.not_mem_nil⟩,
      hT.up (Same.rfl' F) fun a i hi z => ⟨by rw [put_ne (ne z)]; exact z, fun o e => Same.newH hD a o e⟩⟩
  cons := fun t σ Γ H D yv y acc ⟨F, own, wd, hS, ⟨b, eb, hb, us, hus, rus⟩, ⟨D', eD, hD, vs, hvs, rvs, nd, nin⟩, hT⟩ => by
    have eb' : yv = V.ref b := Option.some.inj eb
    have eD' : D = D' := by injection (Option.some.inj eD)
    subst eb' eD'
    have hb1 : own b = some (.inr (t.length + 1)) := hb
    have hD1 : own D = some (.inr t.length) := hD
    have bD : b ≠ D := fun z => by
      rw [z, hD1] at hb1
      injection hb1 with q
      injection q with q
      omega
    have nb : V.ref b ∉ vs := fun q => by
      obtain ⟨xs, b2, us2, e2, q1, _⟩ := rvs.memV q
      injection e2 with e2
      have q1 : own b2 = some (.inr t.length) := q1
      rw [← e2, hb1] at q1
      injection q1 with q
      injection q with q
      omega
    have k2 : All2 (own1 K F (upd H D (.lst (vs ++ [.ref b]))) c (fun a => mvOwn own t.length a = some (.inr t.length))) acc vs := rvs.impM fun xs v hm ⟨b2, us2, e2, q1, q2, q3⟩ => by
      have q1' : own b2 = some (.inr t.length) := q1
      refine ⟨b2, us2, e2, ?_, ?_, q3⟩
      · show mvOwn own t.length b2 = _
        unfold mvOwn
        rw [if_neg (fun q => by rw [q1'] at q; injection q with q; injection q with q; omega)]
        exact q1'
      · rw [upd_ne (fun z => nin (by rw [← z, ← e2]; exact hm))]
        exact q2
    have k3 : own1 K F (upd H D (.lst (vs ++ [.ref b]))) c (fun a => mvOwn own t.length a = some (.inr t.length)) y (.ref b) := by
      refine ⟨b, us, rfl, ?_, ?_, rus⟩
      · show mvOwn own t.length b = _
        unfold mvOwn
        rw [if_pos hb1]
      · rw [upd_ne bD]
        exact hus
    have k4 : mvOwn own t.length D = some (.inr t.length) := by
      unfold mvOwn
      rw [if_neg (fun q => by rw [hD1] at q; injection q with q; injection q with q; omega)]
      exact hD1
    have k5 : All2 (own1 K F (upd H D (.lst (vs ++ [.ref b]))) c (fun a => mvOwn own t.length a = some (.inr t.length))) (acc ++ [y]) (vs ++ [.ref b]) := All2.app k2 ⟨k3, trivial⟩
    refine ⟨vs, hvs, rvs.length, F, mvOwn own t.length, (wd.write (o := .lst (vs ++ [.ref b])) hD1).relab fun a l e => ?_, hS.up (Same.rfl' F) fun a i z => ⟨?_, fun o e => ?_⟩, ⟨D, rfl, k4, vs ++ [.ref b], upd_same, (by exact k5), nodup_snoc nd nb, ?_⟩, hT.up (Same.rfl' F) fun a i hi z => ⟨?_, fun o e => ?_⟩⟩
    · unfold mvOwn at e
      split at e
      · rename_i q
        exact ⟨_, q⟩
      · exact ⟨_, e⟩
    · unfold mvOwn
      rw [if_neg (fun q => by rw [q] at z; cases z)]
      exact z
    · rw [upd_ne (fun q => by rw [q, hD1] at z; cases z)]
      exact e
    · intro q
      rcases List.mem_append.mp q with q | q
      · exact nin q
      · have := List.mem_singleton.mp q
        injection this with z
        exact bD z.symm
    · have hi' : i < t.length := hi
      unfold mvOwn
      rw [if_neg (fun q => by rw [z] at q; injection q with q; injection q with q; omega)]
      exact z
    · have hi' : i < t.length := hi
      rw [upd_ne (fun q => by rw [q, hD1] at z; injection z with z; injection z with z; omega)]
      exact e

/-! ### grid[x][y] = value -/

def setG {α : Type} (xss : List (List α)) (i j : Int) (y : α) : Option (List (List α)) := (ixN xss.length i).bind fun n => (xss[n]?).bind fun xs => (setI xs j y).map fun ys => xss.set n ys
theorem All2.setM {α : Type} {r r' : α → V → Prop} {y : α} {w : V} (q : r' y w) : ∀ {xs : List α} {vs : List V} {i : Nat}, vs.Nodup → vs[i]? = some w → (∀ x v, v ∈ vs → v ≠ w → r x v → r' x v) → All2 r xs vs → All2 r' (xs.set i y) vs
  | [], [], _, _, e, _, _ => nomatch e
  | _ :: _, v :: vs, 0, nd, e, h, ⟨_, b⟩ => by
    have e' : v = w := Option.some.inj e
    subst e'
    exact ⟨q, b.impM fun x u m z => h x u (List.mem_cons_of_mem _ m) (fun y => (List.nodup_cons.mp nd).1 (y ▸ m)) z⟩
  | _ :: xs, v :: vs, i + 1, nd, e, h, ⟨a, b⟩ => by
    have e' : vs[i]? = some w := e
    exact ⟨h _ _ (List.mem_cons_self ..) (fun y => (List.nodup_cons.mp nd).1 (y ▸ List.mem_of_getElem? e')) a, All2.setM (i := i) q (List.nodup_cons.mp nd).2 e' (fun x u m => h x u (List.mem_cons_of_mem _ m)) b⟩
  | [], _ :: _, _, _, _, _, z => z.elim
  | _ :: _, [], _, _, _, _, z => z.elim
section
variable {X : Cx} {B : Bs} {Z : Zt} {Γ : List Bd} {R : Rs} {e ix iy : Expr} {pos pos' p p2 p3 : Pos} {k : Nat} {α : Type} {c : Cd α}
theorem Sat.wrG {K : Fg} {t : List (V × Bd)} {σ : L2.St} {H F : Hp} {own : Ow} {xss : List (List α)} {i n : Nat} {a b : Addr} {us vs : List V} {ys : List α} (wd : Wd B F own H) (hS : HoldS K F H own σ Γ) (hT : HoldT K F H own t) (e : slot σ i = some (.ref a)) (h0 : own a = some (.inl i)) (hi : i < Γ.length)
    (h2 : H a = some (.lst vs)) (r : All2 (own1 K F H c (fun a => own a = some (.inl i))) xss vs) (nd : vs.Nodup) (nin : V.ref a ∉ vs) (hn : vs[n]? = some (.ref b)) (hb : own b = some (.inl i)) (ry : All2 (c.rp K F) ys us) : Sat K B t σ (Γ.set i (ow (oGrid c) (xss.set n ys))) (upd H b (.lst us)) := by
  have ab : a ≠ b := fun z => nin (by rw [z]; exact List.mem_of_getElem? hn)
  refine ⟨F, own, wd.write hb, ⟨by rw [List.length_set]; exact hS.1, fun j b' q' => ?_⟩, hT.up (Same.rfl' F) fun d j hj z => ⟨z, fun o h => by
    rw [upd_ne (fun y => by rw [y, hb] at z; cases z)]
    exact h⟩⟩
  by_cases ij : i = j
  · subst ij
    rw [List.getElem?_set_self hi] at q'
    cases q'
    refine ⟨a, e, h0, vs, by rw [upd_ne ab]; exact h2, ?_, nd, nin⟩
    refine All2.setM (r := own1 K F H c (fun a => own a = some (.inl i))) ⟨b, us, rfl, hb, upd_same, ry⟩ nd hn (fun xs v m ne ⟨b2, us2, e2, q1, q2, q3⟩ => ⟨b2, us2, e2, q1, ?_, q3⟩) r
    rw [upd_ne (fun z => ne (by rw [e2, z]))]
    exact q2
  · rw [List.getElem?_set_ne ij] at q'
    refine b'.up (Same.rfl' F) (fun x z => ⟨z, fun o h => ?_⟩) (hS.2 j b' q')
    rw [upd_ne (fun y => by rw [y, hb] at z; injection z with z; injection z with z; exact ij z)]
    exact h
/-- whole numbers that are only looked at -/
def XH (X : Cx) (B : Bs) (e : Expr) (Γ : List Bd) (x : Int) : Prop := ∀ t σ H Q, Sat X.K B t σ Γ H → Q (.int x) H → wpE X e σ H Q
theorem xh_var {x : Int} (i : Nat) {n : Str} (hΓ : Γ[i]? = some (va cInt x) := by rfl) (hN : X.N[i]? = some n := by rfl) (hv : Vis X.env.scope n := by first | exact Or.inl rfl | exact Or.inr (Or.inl rfl) | exact Or.inr (Or.inr rfl)) (hd : (n == ("__debug__" : Str)) = false := by decide) (hcd : (n == ("__classdict__" : Str)) = false := by decide) : XH X B (.Name n pos) Γ x := fun t σ H Q ⟨F, own, wd, hS, hT⟩ q => by
  obtain ⟨v, ev, r⟩ := hS.2 i _ hΓ
  have r' : v = .int x := r
  subst r'
  exact wp_of_pe (pe_var hN hv hd hcd) ⟨_, slot_some ev, q⟩
theorem xh_int {i : Int} {j} : XH X B (.Constant (.int i) j pos) Γ i := fun t σ H Q s q => wp_of_pe pe_int q
theorem xh_add {x y : Int} (ha : XH X B ix Γ x) (hb : XH X B iy Γ y) : XH X B (.BinOp ix .Add iy pos) Γ (x + y) := fun t σ H Q s q => wp_of_pe (pe_op op_add pe_wp pe_wp) (ha t σ H _ s (hb t σ H _ s ⟨x, y, rfl, rfl, q⟩))
theorem xh_sub {x y : Int} (ha : XH X B ix Γ x) (hb : XH X B iy Γ y) : XH X B (.BinOp ix .Sub iy pos) Γ (x - y) := fun t σ H Q s q => wp_of_pe (pe_op op_sub pe_wp pe_wp) (ha t σ H _ s (hb t σ H _ s ⟨x, y, rfl, rfl, q⟩))
/-- grid[x][y] = e -/
theorem eg_grid (i : Nat) {n : Str} {y : α} (O : Ok X B Z k) {xss : List (List α)} {jx jy : Int} {yss : List (List α)} (hx : XH X B ix Γ jx) (hy : XH X B iy Γ jy) (hΓ : Γ[i]? = some (ow (oGrid c) xss)) (hs : setG xss jx jy y = some yss) {Q : List Bd → Prop} (h : Q (Γ.set i (ow (oGrid c) yss))) (hN : X.N[i]? = some n := by rfl)
    (hv : Vis X.env.scope n := by first | exact Or.inl rfl | exact Or.inr (Or.inl rfl) | exact Or.inr (Or.inr rfl)) (hd : (n == ("__debug__" : Str)) = false := by decide) (hcd : (n == ("__classdict__" : Str)) = false := by decide) (hp : PlainIx ix := by exact fun _ _ => rfl)
    (ha : ∀ v, assign (.Subscript (.Subscript (.Name n p) ix p2) iy pos) X.env v = (do
      let ov ← holding [v] (eval (.Subscript (.Name n p) ix p2) X.env)
      let iv ← holding [v, ov] (eval iy X.env)
      standAt pos
      holding [v, ov, iv] (setItem ov iv v)
      release [v, ov, iv] []) := by intro _; rfl) : EG X B [] (.Subscript (.Subscript (.Name n p) ix p2) iy pos) Γ (va c y) Q := by
  intro t σ H v Q' pn s q
  have s0 := s
  obtain ⟨F, own, wd, hS, ⟨v', ev, rv⟩, hT⟩ := s0
  cases ev
  obtain ⟨a, ea, h0, vs, h1, h2, nd, nin⟩ := hS.2 i _ hΓ
  unfold setG at hs
  cases q0 : ixN xss.length jx with
  | none =>
    rw [q0] at hs
    cases hs
  | some nn =>
    rw [q0, Option.bind_some] at hs
    cases q1 : xss[nn]? with
    | none =>
      rw [q1] at hs
      cases hs
    | some xs =>
      rw [q1, Option.bind_some] at hs
      unfold setI at hs
      cases q2 : ixN xs.length jy with
      | none =>
        rw [q2] at hs
        cases hs
      | some mm =>
        rw [q2] at hs
        cases hs
        obtain ⟨rb, hrb, b, us, eb, hb, hus, rus⟩ := h2.get q1
        subst eb
        refine wp_of_pg (pg_sub (pe_ix ix_seq (pe_var hN hv hd hcd) pe_wp hp) pe_wp set_list ha) ⟨.ref a, slot_some ea, hx _ σ H _ s (.inl ⟨a, vs, jx, .ref b, rfl, rfl, .of h1, ?_, hy _ σ H _ s ⟨b, us, jy, mm, rfl, rfl, hus, by rw [rus.length]; exact q2, q _ h σ _ ⟨rfl, fun _ _ => rfl⟩ pn ?_⟩⟩)⟩
        · unfold L2.atI
          rw [h2.length, q0]
          exact hrb
        · exact Sat.wrG wd hS hT ea h0 (List.getElem?_eq_some_iff.mp hΓ).1 h1 h2 nd nin hrb hb (rus.set rv)
/-- grid[x][y] -/
def atG {α : Type} (xss : List (List α)) (i j : Int) : Option α := (atI xss i).bind fun xs => atI xs j
theorem xm_grid (i : Nat) {n : Str} {xss : List (List α)} {jx jy : Int} (hx : XH X B ix Γ jx) (hy : XH X B iy Γ jy) (hΓ : Γ[i]? = some (ow (oGrid c) xss) := by rfl) (hN : X.N[i]? = some n := by rfl)
    (hv : Vis X.env.scope n := by first | exact Or.inl rfl | exact Or.inr (Or.inl rfl) | exact Or.inr (Or.inr rfl)) (hd : (n == ("__debug__" : Str)) = false := by decide) (hcd : (n == ("__classdict__" : Str)) = false := by decide) (hp : PlainIx ix := by exact fun _ _ => rfl) (hp' : PlainIx iy := by exact fun _ _ => rfl) :
    XM X B Z (.Subscript (.Subscript (.Name n p) ix p2) iy pos) Γ c (lift (atG xss jx jy)) := fun P g t σ H Q s q => by
  obtain ⟨z, hz, pz⟩ := good_lift g
  unfold atG at hz
  cases q0 : L2.atI xss jx with
  | none =>
    rw [q0] at hz
    cases hz
  | some xs =>
    rw [q0, Option.bind_some] at hz
    have s0 := s
    obtain ⟨F, own, wd, hS, hT⟩ := s0
    obtain ⟨a, ea, h0, vs, h1, h2, nd, nin⟩ := hS.2 i _ hΓ
    obtain ⟨rb, hrb, b, us, eb, hb, hus, rus⟩ := h2.atI q0
    subst eb
    obtain ⟨u, hu, ru⟩ := rus.atI hz
    exact wp_of_pe (pe_ix ix_seq (pe_ix ix_seq (pe_var hN hv hd hcd) pe_wp hp) pe_wp hp') ⟨.ref a, slot_some ea, hx _ σ H _ s (.inl ⟨a, vs, jx, .ref b, rfl, rfl, .of h1, hrb, hy _ σ H _ s (.inl ⟨b, us, jy, u, rfl, rfl, .of hus, hu, q _ _ pz u H (Sat.push wd hS hT ru)⟩)⟩)⟩
/-- xs[j] = e, the index by a reading of its own -/
theorem eg_itemM (i : Nat) {n : Str} {y : α} (O : Ok X B Z k) {xs : List α} {mi : Res Int} (hi : XM X B Z ix Γ cInt mi) (hΓ : Γ[i]? = some (ow (oLst c) xs)) {Q : List Bd → Prop} (g : good mi (fun j => ∃ ys, setI xs j y = some ys ∧ Q (Γ.set i (ow (oLst c) ys))) (fun ex => Z ex Γ)) (hN : X.N[i]? = some n := by rfl)
    (hv : Vis X.env.scope n := by first | exact Or.inl rfl | exact Or.inr (Or.inl rfl) | exact Or.inr (Or.inr rfl)) (hd : (n == ("__debug__" : Str)) = false := by decide) (hcd : (n == ("__classdict__" : Str)) = false := by decide)
    (ha : ∀ v, assign (.Subscript (.Name n p) ix pos) X.env v = (do
      let ov ← holding [v] (eval (.Name n p) X.env)
      let iv ← holding [v, ov] (eval ix X.env)
      standAt pos
      holding [v, ov, iv] (setItem ov iv v)
      release [v, ov, iv] []) := by intro _; rfl) : EG X B [] (.Subscript (.Name n p) ix pos) Γ (va c y) Q := by
  intro t σ H v Q' pn s q
  have s0 := s
  obtain ⟨F0, own0, w0, hS0, _⟩ := s0
  obtain ⟨a0, ea, _⟩ := hS0.2 i _ hΓ
  refine wp_of_pg (pg_sub (pe_var hN hv hd hcd) pe_wp set_list ha) ⟨.ref a0, slot_some ea, ?_⟩
  refine hi (fun Γ' b' => Γ' = Γ ∧ ∃ j, b' = va cInt j ∧ ∃ ys, setI xs j y = some ys ∧ Q (Γ.set i (ow (oLst c) ys))) (good_imp g fun j p => ⟨rfl, j, rfl, p⟩) _ σ H _ s fun Γ1 b1 ⟨e0, j, e1, ys, hs, h⟩ w H1 s1 => ?_
  subst e0 e1
  obtain ⟨F, own, wd, hS, ⟨w', ew, rw'⟩, ⟨v', ev, rv⟩, hT⟩ := s1
  cases ew
  cases ev
  obtain ⟨a, ea', h0, vs, h1, h2⟩ := hS.2 i _ hΓ
  rw [ea] at ea'
  cases ea'
  unfold setI at hs
  cases q0 : ixN xs.length j with
  | none =>
    rw [q0] at hs
    cases hs
  | some jj =>
    rw [q0] at hs
    cases hs
    exact ⟨a0, vs, j, jj, rfl, rw', h1, by rw [h2.length]; exact q0, q _ h σ _ ⟨rfl, fun _ _ => rfl⟩ pn (Sat.wrO wd hS hT ea h0 (List.getElem?_eq_some_iff.mp hΓ).1 (h2.set rv))⟩
theorem s1_item (i : Nat) {n : Str} (O : Ok X B Z k) (h : EV X B e Γ (fun Γ1 b1 => ∃ y, b1 = va c y ∧ ∃ mi, XM X B Z ix Γ1 cInt mi ∧ ∃ xs, Γ1[i]? = some (ow (oLst c) xs) ∧ good mi (fun j => ∃ ys, setI xs j y = some ys ∧ R.nx (Γ1.set i (ow (oLst c) ys))) (fun ex => Z ex Γ1))) (hN : X.N[i]? = some n := by rfl)
    (hv : Vis X.env.scope n := by first | exact Or.inl rfl | exact Or.inr (Or.inl rfl) | exact Or.inr (Or.inr rfl)) (hd : (n == ("__debug__" : Str)) = false := by decide) (hcd : (n == ("__classdict__" : Str)) = false := by decide)
    (ha : ∀ v, assign (.Subscript (.Name n p) ix pos') X.env v = (do
      let ov ← holding [v] (eval (.Name n p) X.env)
      let iv ← holding [v, ov] (eval ix X.env)
      standAt pos'
      holding [v, ov, iv] (setItem ov iv v)
      release [v, ov, iv] []) := by intro _; rfl) (hs : swapsWithSole [.Subscript (.Name n p) ix pos'] e pos.line X.env = pure false := by rfl) (hw : swappedStores [.Subscript (.Name n p) ix pos'] e X.env = pure none := by rfl)
    (h1 : (assignEach [.Subscript (.Name n p) ix pos'] X.env).map (·.2) = [assign (.Subscript (.Name n p) ix pos') X.env] := by rfl) : S1 X B (.Assign [.Subscript (.Name n p) ix pos'] e pos) Γ R :=
  s1_asgG (js := []) (h.mono fun Γ1 b1 ⟨y, e1, mi, hj, xs, h2, g⟩ => by
    subst e1
    exact eg_itemM i O hj h2 g hN hv hd hcd ha) hs hw h1
theorem s1_grid (i : Nat) {n : Str} (O : Ok X B Z k) (h : EV X B e Γ (fun Γ1 b1 => ∃ y, b1 = va c y ∧ ∃ jx jy, XH X B ix Γ1 jx ∧ XH X B iy Γ1 jy ∧ ∃ xss yss, Γ1[i]? = some (ow (oGrid c) xss) ∧ setG xss jx jy y = some yss ∧ R.nx (Γ1.set i (ow (oGrid c) yss)))) (hN : X.N[i]? = some n := by rfl)
    (hv : Vis X.env.scope n := by first | exact Or.inl rfl | exact Or.inr (Or.inl rfl) | exact Or.inr (Or.inr rfl)) (hd : (n == ("__debug__" : Str)) = false := by decide) (hcd : (n == ("__classdict__" : Str)) = false := by decide) (hp : PlainIx ix := by exact fun _ _ => rfl)
    (ha : ∀ v, assign (.Subscript (.Subscript (.Name n p) ix p2) iy pos') X.env v = (do
      let ov ← holding [v] (eval (.Subscript (.Name n p) ix p2) X.env)
      let iv ← holding [v, ov] (eval iy X.env)
      standAt pos'
      holding [v, ov, iv] (setItem ov iv v)
      release [v, ov, iv] []) := by intro _; rfl) (hs : swapsWithSole [.Subscript (.Subscript (.Name n p) ix p2) iy pos'] e pos.line X.env = pure false := by rfl) (hw : swappedStores [.Subscript (.Subscript (.Name n p) ix p2) iy pos'] e X.env = pure none := by rfl)
    (h1 : (assignEach [.Subscript (.Subscript (.Name n p) ix p2) iy pos'] X.env).map (·.2) = [assign (.Subscript (.Subscript (.Name n p) ix p2) iy pos') X.env] := by rfl) : S1 X B (.Assign [.Subscript (.Subscript (.Name n p) ix p2) iy pos'] e pos) Γ R :=
  s1_asgG (js := []) (h.mono fun Γ1 b1 ⟨y, e1, jx, jy, hx, hy, xss, yss, h2, h3, h4⟩ => by
    subst e1
    exact eg_grid i O hx hy h2 h3 h4 hN hv hd hcd hp ha) hs hw h1
end
end T
set_option maxHeartbeats 1000000
namespace T
open PySem PySem.Spec PyProof.Rows L2

/-! ## f(k = v, ..) -/
structure wpK (X : Cx) (ks : List Keyword) (σ : L2.St) (H : Hp) (Q : List V → Hp → Prop) : Prop where
  run : ∀ (pos : Pos) pins s, Inv X pins σ H s → wpAny (model X.prog X.w) X.A (evalAll ((backToKw pos (keywordEach ks X.env)).map (·.2))) (AP X pins σ Q) X.xe s
theorem pk_wp {X : Cx} {ks : List Keyword} : PK X ks (wpK X ks) := ⟨fun pos pins s σ H Q I h => h.run pos pins s I⟩
theorem wp_of_pk {X : Cx} {ks : List Keyword} {t : TA} (h : PK X ks t) {σ H Q} (q : t σ H Q) : wpK X ks σ H Q := ⟨fun pos pins s I => h.run pos pins s σ H Q I q⟩
def EK (X : Cx) (B : Bs) (ks : List Keyword) (Γ : List Bd) (P : List Bd → List Ag → Prop) : Prop :=
  ∀ t σ H Q, Sat X.K B t σ Γ H → (∀ Γ' as, P Γ' as → ∀ vs H' t', Args σ t as vs t' → Sat X.K B t' σ Γ' H' → Q vs H') → wpK X ks σ H Q
/-- all parameters by their names, in their order -/
def BindK (K : Fg) (fd : FuncData) (ps : List Str) : Prop := ∀ (s : Shared) (ws : List Value), K.In s.heap → ws.length = ps.length → BindsTo s fd ⟨[], ps.zip ws⟩ (ps.zip ws)
theorem bindK_of {K : Fg} {x qual : Str} {params : Arguments} {body : List Stmt} {scope : Scope} {kws : List (Str × V)} {f : Addr} {fd : FuncData} {ps : List Str} (F : FunD K x qual params body scope [] kws f fd)
    (h : ∀ (kV doc pm : Value) (an : Option Addr) (cdv ct : Value) (us : List Value), us.length = ps.length → bindArgs (PySem.W.fnOf x qual params body scope .none kV doc pm an cdv ct) ⟨[], ps.zip us⟩ = pure (ps.zip us)) : BindK K fd ps := by
  obtain ⟨oc, od, dV, kV, doc, pm, an, cdv, ct, osl, rfl, lk, hcd, hD, hK⟩ := F.ex
  rcases hD with ⟨_, rfl⟩ | ⟨e, _⟩
  · exact fun s ws _ hl => .of_eq (h kV doc pm an cdv ct ws hl)
  · exact absurd rfl e
def HasK {α ρ : Type} (P : Program) (w : World) (K : Fg) (mg : Str → Option Value) (base : Heap) (k : Nat) (n : Str) (ps : List Str) (S : Fn α ρ) : Prop :=
  ∃ f fd, mg n = some (.ref f) ∧ FnOk P w K mg base (L2.CX P w) k f fd ps (spOf K mg S) ∧ BindK K fd ps ∧ PySem.W.keepIn K (.ref f) = true
section
variable {X : Cx} {B : Bs} {Z : Zt} {Γ : List Bd} {e : Expr} {ks : List Keyword} {P : List Bd → List Ag → Prop} {nm : Option Str} {kpos : Pos}
theorem ek_nil (h : P Γ []) : EK X B [] Γ P := fun t σ H Q s q => wp_of_pk pk_nil (q _ _ h [] H t .nil s)
theorem ek_tmp (h : EV X B e Γ (fun Γ1 b => EK X B ks Γ1 (fun Γ2 as => P Γ2 (.tmp b :: as)))) : EK X B (⟨nm, e, kpos⟩ :: ks) Γ P := by
  intro t σ H Q s q
  refine wp_of_pk (pk_cons pe_wp pk_wp) ?_
  refine h t σ H _ s fun Γ1 b h1 v H1 s1 => ?_
  exact h1 _ σ H1 _ s1 fun Γ2 as h2 vs H2 t' a2 s2 => q _ _ h2 _ H2 t' (.tmp a2) s2
theorem run_fnKS {pins : List (Addr × Obj)} {σ : L2.St} {H : Hp} {s : Shared} {Q : VK} {CX : CXT} {k : Nat} {f : Addr} {fd : FuncData} {ps : List Str} {sp : Sp} {E : L2.St → XK} {ws : List Value} {zs : List V} (F : FnOk X.prog X.w X.K X.mg X.base CX k f fd ps sp) (hr : Room k X.A) (hb : BindK X.K fd ps) (hx : PassesAt CX X σ (E σ))
    (I : Inv X pins σ H s) (rz : Vals zs ws) (h : sp zs H Q (E σ)) : wpAny (model X.prog X.w) X.A (call (.ref f) [] (ps.zip ws)) (EP X pins σ Q) X.xe s := by
  have hl : ws.length = ps.length := by rw [← rz.length]; exact F.len _ _ _ _ h
  refine wpAny_call (codeAny_mono (F.run X.A X.stack s H ⟨[], ps.zip ws⟩ ws zs Q (E σ) hr I.env0 (hb s ws I.kIn hl) rz h) fun r s' hq => ?_)
  cases r with
  | error e => exact hx pins H s e s' I hq
  | ok fl =>
    cases fl with
    | ret u => exact I.after hq
    | next => exact False.elim hq
    | brk => exact False.elim hq
    | cont => exact False.elim hq
theorem pe_callKS {CX : CXT} {k : Nat} {f : Addr} {fd : FuncData} {ps : List Str} {sp : Sp} {E : L2.St → XK} {x : Str} {p pos : Pos} {tk : TA} (F : FnOk X.prog X.w X.K X.mg X.base CX k f fd ps sp) (hr : Room k X.A) (hg : Gl X x) (hm : X.mg x = some (.ref f)) (hk : PySem.W.keepIn X.K (.ref f) = true) (hb : BindK X.K fd ps) (hx : ∀ σ, PassesAt CX X σ (E σ))
    (hkw : PK X ks tk) (hdb : (x == ("__debug__" : Str)) = false) (hall : (backToKw pos (keywordEach ks X.env)).all (·.1.isSome) = true) (hks : (backToKw pos (keywordEach ks X.env)).filterMap (·.1) = ps)
    (hpl : ((backTo pos (starEach [] X.env)).any (·.1) || (backToKw pos (keywordEach ks X.env)).any (·.1.isNone)) = false) : PE X (.Call (.Name x p) [] ks pos) (fun σ H Q => tk σ H fun zs H1 => sp zs H1 Q (E σ)) := by
  refine ⟨fun pins s σ H Q I h => ?_⟩
  refine wpAny_Call_Name_kw (ld_glob I hg hm ?_ hdb)
  refine PySem.W.callWith_KW0 (h₀ := X.base) I.ok.mod.kin hk hall (thn (hkw.run pos pins s σ H _ I h) fun ws s2 ⟨zs, H2, I2, rz, q2⟩ => ⟨I2.kIn, ?_⟩) hpl
  rw [hks]
  exact run_fnKS F hr hb (hx σ) I2 rz q2
theorem ev_callK {α ρ : Type} {S : Fn α ρ} {n : Str} {ps : List Str} {k j : Nat} {p pos : Pos} {P : List Bd → Bd → Prop} (O : Ok X B Z j) (hH : HasK X.prog X.w X.K X.mg X.base k n ps S) (ho : ∀ x r, (S.outs x r).length = (S.ins x).length)
    (h : EK X B ks Γ (fun Γ1 as => ∃ x, bdsOf Γ1 as = S.ins x ∧ (borOf as).Nodup ∧ good (S.m x) (fun r => P (back Γ1 as (S.outs x r)) (S.ret x r)) (fun ex => Z ex (kill Γ1 as))))
    (hkj : k ≤ j := by decide) (hg : Gl X n := by rfl) (hdb : (n == ("__debug__" : Str)) = false := by decide) (hall : (backToKw pos (keywordEach ks X.env)).all (·.1.isSome) = true := by rfl) (hks : (backToKw pos (keywordEach ks X.env)).filterMap (·.1) = ps := by rfl)
    (hpl : ((backTo pos (starEach [] X.env)).any (·.1) || (backToKw pos (keywordEach ks X.env)).any (·.1.isNone)) = false := by rfl) : EV X B (.Call (.Name n p) [] ks pos) Γ P := by
  obtain ⟨f, fd, hm, G, hb, hk⟩ := hH
  obtain ⟨W, tk, hW⟩ := O.exn
  intro t σ H Q s q
  refine wp_of_pe (pe_callKS G (O.room.mono hkj) hg hm hk hb (fun σ => passAt tk σ) pk_wp hdb hall hks hpl) ?_
  refine h t σ H _ s fun Γ1 as ⟨x, hi, nd, g⟩ vs H1 t' a s1 => ?_
  exact call_core O hW a s1 hi nd (ho x) g q
end
/-- [] or () given without arguments: range etc. stay elsewhere -/
theorem good_ok {α β : Type} {m : Res α} {x : α} {k : α → Res β} {P : β → Prop} {Z : Exn → Prop} (h : m = .ok x) (g : good (m >>= k) P Z) : good (k x) P Z := by
  rw [h] at g
  exact g
end T
set_option maxHeartbeats 1000000
namespace T
open PySem PySem.Spec PyProof.Rows L2

theorem nd0 : ([] : List Nat).Nodup := List.nodup_nil
theorem nd1 {i : Nat} : [i].Nodup := List.nodup_cons.mpr ⟨List.not_mem_nil, List.nodup_nil⟩
theorem ite_p {S : Type} {m m' : Res S} {Pk : S → Prop} {Zk : Exn → Prop} {b : Bool} {A B : Prop} (g : good (if b = true then m else m') Pk Zk) (h1 : good m Pk Zk → A) (h2 : good m' Pk Zk → B) : if b = true then A else B := by
  cases b with
  | false =>
    rw [if_neg Bool.false_ne_true] at g ⊢
    exact h2 g
  | true =>
    rw [if_pos rfl] at g ⊢
    exact h1 g
section
variable {X : Cx} {B : Bs} {Z : Zt} {Γ : List Bd} {P : List Bd → Bd → Prop} {a b e : Expr} {pos p : Pos} {k : Nat} {α β γ S : Type} {c : Cd α} {d : Cd β} {cc : Cd γ}
theorem Ok.xv {v : α} (_ : Ok X B Z k) (h : XM X B Z e Γ c (.ok v)) (q : P Γ (va c v)) : EV X B e Γ P := h P q
theorem Ok.lv {v : List α} {P : List Bd → List α → Prop} (_ : Ok X B Z k) (h : XL X B Z e Γ c (.ok v)) (q : P Γ v) : EL X B e Γ c P := el_xl h q
theorem Ok.tv {v : Bool} {P : List Bd → Bool → Prop} (_ : Ok X B Z k) (h : TM X B Z e Γ (.ok v)) (q : P Γ v) : ET X B e Γ P := h P q
theorem sb_cutg {S T : Type} {st : Stmt} {ss : List Stmt} {R : Rs} {mif : Res S} {rest : S → Res T} {Pk : T → Prop} {Zk : Exn → Prop} (Γs : S → List Bd) (g : good (mif >>= rest) Pk Zk)
    (h : good mif (fun s => good (rest s) Pk Zk) Zk → S1 X B st Γ { R with nx := fun Γ' => ∃ s, good (rest s) Pk Zk ∧ Wk Γ' (Γs s) }) (hr : ∀ s, good (rest s) Pk Zk → SB X B ss (Γs s) R) : SB X B (st :: ss) Γ R :=
  sb_cut (mif := mif) (kk := fun s => good (rest s) Pk Zk) Γs (h (good_bind g)) hr
/-! ### whole numbers, the parts with a state -/
theorem ev_add (h : EV X B a Γ (fun Γ1 b1 => ∃ x, b1 = va cInt x ∧ EV X B b Γ1 (fun Γ2 b2 => ∃ y, b2 = va cInt y ∧ P Γ2 (va cInt (x + y))))) : EV X B (.BinOp a .Add b pos) Γ P :=
  ev_op2 (k := fun x y => some (x + y)) (fun _ _ => pe_op op_add) (fun x y z h => by cases h; exact op2_I0 (f := fun i j => i + j) (fun _ _ _ _ => rfl) x y) (h.mono fun Γ1 b1 ⟨x, e1, h1⟩ => ⟨x, e1, h1.mono fun Γ2 b2 ⟨y, e2, h2⟩ => ⟨y, e2, _, rfl, h2⟩⟩)
theorem ev_sub (h : EV X B a Γ (fun Γ1 b1 => ∃ x, b1 = va cInt x ∧ EV X B b Γ1 (fun Γ2 b2 => ∃ y, b2 = va cInt y ∧ P Γ2 (va cInt (x - y))))) : EV X B (.BinOp a .Sub b pos) Γ P :=
  ev_op2 (k := fun x y => some (x - y)) (fun _ _ => pe_op op_sub) (fun x y z h => by cases h; exact op2_I0 (f := fun i j => i - j) (fun _ _ _ _ => rfl) x y) (h.mono fun Γ1 b1 ⟨x, e1, h1⟩ => ⟨x, e1, h1.mono fun Γ2 b2 ⟨y, e2, h2⟩ => ⟨y, e2, _, rfl, h2⟩⟩)
theorem ev_mul (h : EV X B a Γ (fun Γ1 b1 => ∃ x, b1 = va cInt x ∧ EV X B b Γ1 (fun Γ2 b2 => ∃ y, b2 = va cInt y ∧ ∃ z, mulO x y = some z ∧ P Γ2 (va cInt z)))) : EV X B (.BinOp a .Mult b pos) Γ P :=
  ev_op2 (k := mulO) (fun _ _ => pe_op op_mulA) (fun x y z h => op2_mul h) h
theorem ev_mod (h : EV X B a Γ (fun Γ1 b1 => ∃ x, b1 = va cInt x ∧ EV X B b Γ1 (fun Γ2 b2 => ∃ y, b2 = va cInt y ∧ ∃ z, modO x y = some z ∧ P Γ2 (va cInt z)))) : EV X B (.BinOp a .Mod b pos) Γ P :=
  ev_op2 (k := modO) (fun _ _ => pe_op op_mod) (fun x y z h => op2_mod h) h
theorem ev_div (h : EV X B a Γ (fun Γ1 b1 => ∃ x, b1 = va cInt x ∧ EV X B b Γ1 (fun Γ2 b2 => ∃ y, b2 = va cInt y ∧ ∃ z, divO x y = some z ∧ P Γ2 (va cInt z)))) : EV X B (.BinOp a .FloorDiv b pos) Γ P :=
  ev_op2 (k := divO) (fun _ _ => pe_op op_fdivW) (fun x y z h => op2_div h) h

/-! ### tests with a state -/
def TS (X : Cx) (B : Bs) (Zr : Exn → Prop) (e : Expr) (Γ : List Bd) (Γs : S → List Bd) (m : Res (Bool × S)) : Prop := ∀ P, good m (fun p => P (Γs p.2) p.1) Zr → ET X B e Γ P
def WS (X : Cx) (B : Bs) (Zr : Exn → Prop) (e : Expr) (Γ : List Bd) (Γs : S → List Bd) (m : Res (Bool × S)) : Prop := ∀ P, good m (fun p => P (Γs p.2) p.1) Zr → EW X B e Γ P
def XS (X : Cx) (B : Bs) (Zr : Exn → Prop) (e : Expr) (Γ : List Bd) (c : Cd α) (Γs : S → List Bd) (m : Res (α × S)) : Prop := ∀ P, good m (fun p => P (Γs p.2) (va c p.1)) Zr → EV X B e Γ P
variable {Zr : Exn → Prop} {Γs : S → List Bd} {rest : List Expr}
theorem ts_tm {m : Res Bool} {s : S} (h : TM X B (fun ex _ => Zr ex) e (Γs s) m) : TS X B Zr e (Γs s) Γs (m >>= fun k => .ok (k, s)) := fun P g => h _ (good_bind g)
theorem xs_xm {m : Res α} {s : S} (h : XM X B (fun ex _ => Zr ex) e (Γs s) c m) : XS X B Zr e (Γs s) c Γs (m >>= fun k => .ok (k, s)) := fun P g => h _ (good_bind g)
theorem xs_v {v : α} {s : S} (h : XM X B (fun ex _ => Zr ex) e (Γs s) c (.ok v)) : XS X B Zr e (Γs s) c Γs (.ok (v, s)) := fun P g => h _ g
theorem ts_w {m : Res (Bool × S)} (h : WS X B Zr e Γ Γs m) : TS X B Zr e Γ Γs m := fun P g => et_w (h P g)
theorem ts_not {m : Res (Bool × S)} (h : TS X B Zr a Γ Γs m) : TS X B Zr (.UnaryOp .Not a pos) Γ Γs (m >>= fun p => .ok (!p.1, p.2)) := fun P g => et_not (h _ (good_bind g))
theorem ws_or1 {m : Res (Bool × S)} (h : TS X B Zr a Γ Γs m) : WS X B Zr (.BoolOp .Or [a] pos) Γ Γs m := fun P g => ew_or1 (h P g)
theorem ws_and1 {m : Res (Bool × S)} (h : TS X B Zr a Γ Γs m) : WS X B Zr (.BoolOp .And [a] pos) Γ Γs m := fun P g => ew_and1 (h P g)
theorem ws_or {m : Res (Bool × S)} {m' : S → Res (Bool × S)} (h : TS X B Zr a Γ Γs m) (h' : ∀ s, WS X B Zr (.BoolOp .Or (b :: rest) pos) (Γs s) Γs (m' s)) : WS X B Zr (.BoolOp .Or (a :: b :: rest) pos) Γ Γs (m >>= fun p => if p.1 = true then .ok (true, p.2) else m' p.2) := fun P g =>
  ew_or (h _ (good_imp (good_bind g) fun p gk => by
    obtain ⟨k, s⟩ := p
    cases k with
    | true => exact gk
    | false => exact h' s P gk))
theorem ws_and {m : Res (Bool × S)} {m' : S → Res (Bool × S)} (h : TS X B Zr a Γ Γs m) (h' : ∀ s, WS X B Zr (.BoolOp .And (b :: rest) pos) (Γs s) Γs (m' s)) : WS X B Zr (.BoolOp .And (a :: b :: rest) pos) Γ Γs (m >>= fun p => if p.1 = true then m' p.2 else .ok (false, p.2)) := fun P g =>
  ew_and (h _ (good_imp (good_bind g) fun p gk => by
    obtain ⟨k, s⟩ := p
    cases k with
    | false => exact gk
    | true => exact h' s P gk))
theorem ts_cmp {op : CmpOp} {r : R2} {k : α → β → Bool} {m : Res (α × S)} {m' : S → Res (β × S)} (C : Cmp X B op r c d (fun x y => some (k x y))) (ha : XS X B Zr a Γ c Γs m) (hb : ∀ s, XS X B Zr b (Γs s) d Γs (m' s)) (hm : behindInMarks op b = false := by first | exact nomark _ | rfl) :
    TS X B Zr (.Compare a [op] [b] pos) Γ Γs (m >>= fun p => m' p.2 >>= fun q => .ok (k p.1 q.1, q.2)) := fun P g =>
  et_cmp C (ha _ (good_imp (good_bind g) fun p gp => ⟨p.1, rfl, hb p.2 _ (good_imp (good_bind gp) fun q gq => ⟨q.1, rfl, _, rfl, gq⟩)⟩)) hm
end
end T
set_option maxHeartbeats 1000000
namespace T
open PySem PySem.Spec PyProof.Rows L2
def popI {α : Type} (xs : List α) (j : Int) : Option (α × List α) := if -(2 ^ 63) ≤ j ∧ j < 2 ^ 63 then popO xs j else none
theorem popI_ok {α : Type} {xs : List α} {j : Int} {p : α × List α} (h : popI xs j = some p) : (-(2 ^ 63) ≤ j ∧ j < 2 ^ 63) ∧ popO xs j = some (p.1, p.2) := by
  unfold popI at h
  split at h
  · rename_i q
    exact ⟨q, h⟩
  · cases h
abbrev memb {α : Type} [DecidableEq α] (x : α) (xs : List α) : Bool := decide (x ∈ xs)
/-! ## a law's end -/
def cxAny (P : Program) : CXT := fun outer H s E u s' => ∃ w, L2.CX P w outer H s E u s'
theorem cxw {P : Program} {w : World} {K : Fg} {mg : Str → Option Value} {base : Heap} {k : Nat} {f : Addr} {fd : FuncData} {ps : List Str} {sp : Sp} (F : FnOk P w K mg base (L2.CX P w) k f fd ps sp) : FnOk P w K mg base (cxAny P) k f fd ps sp :=
  ⟨F.len, fun A outer s H args us vs Q E hr he hb hv hs => codeAny_mono (F.run A outer s H args us vs Q E hr he hb hv hs) fun r s' hq => by
    cases r with
    | error e => exact ⟨w, hq⟩
    | ok fl => cases fl <;> exact hq⟩
theorem cx_no {P : Program} (H : Hp) (s : Shared) (e : Value) (s' : Shared) (h : cxAny P [] H s (fun _ _ _ => False) e s') : False := by
  obtain ⟨w, a, B, H', cls, d, _, _, _, _, _, _, _, z⟩ := h
  exact z
theorem wd_all {H : Hp} : Wd (bsOf H H (fun _ => none)) H (fun _ => none) H := ⟨fun _ _ h => h, fun _ _ _ => rfl, fun _ _ h => (nomatch h), fun _ _ h => h, fun a o e => .inl ⟨o, e⟩, fun _ _ h => (nomatch h), fun _ _ _ e => e⟩
theorem all2_ints {K : Fg} {F : Hp} : ∀ ns : List Int, All2 (cInt.rp K F) ns (ns.map V.int)
  | [] => trivial
  | _ :: ns => ⟨rfl, all2_ints ns⟩
theorem law_end {K : Fg} {mg : Str → Option Value} {S : Fn (List Int × Unit) Bool} {H : Hp} {a : Addr} {ns : List Int} (hi : ∀ x, S.ins x = [va (cLst cInt) x.1]) (hr : ∀ x r, S.ret x r = va cBool r) (hm : S.m (ns, ()) = .ok true) (hS : SqL K H a (ns.map V.int)) :
    spOf K mg S [.ref a] H (fun v _ => v = .bl true) (fun _ _ _ => False) := by
  refine ⟨(ns, ()), H, fun _ => none, wd_all, ?_, ?_⟩
  · rw [hi]
    refine ⟨rfl, fun i b e => ?_⟩
    cases i with
    | zero =>
      cases e
      exact ⟨.ref a, rfl, a, _, rfl, hS, all2_ints ns⟩
    | succ i => cases e
  · rw [hm]
    intro v H' s
    rw [hr] at s
    obtain ⟨F, own, wd, hS', ⟨v', ev, rv⟩, _⟩ := s
    cases ev
    exact rv
end T
set_option maxHeartbeats 1000000
namespace T
open PySem PySem.Spec PyProof.Rows L2

/-! ## parts of lists and tuples -/
def cutF {α : Type} (xs : List α) (lo hi : Option Int) : List α := (xs.drop (HT.sIx xs.length 0 lo)).take (HT.sIx xs.length xs.length hi - HT.sIx xs.length 0 lo)
theorem All2.drop {α : Type} {r : α → V → Prop} : ∀ {n : Nat} {xs : List α} {vs : List V}, All2 r xs vs → All2 r (xs.drop n) (vs.drop n)
  | 0, _, _, h => h
  | n + 1, [], [], h => h
  | n + 1, _ :: _, _ :: _, h => All2.drop (n := n) h.2
  | _ + 1, [], _ :: _, z => z.elim
  | _ + 1, _ :: _, [], z => z.elim
theorem All2.take {α : Type} {r : α → V → Prop} : ∀ {n : Nat} {xs : List α} {vs : List V}, All2 r xs vs → All2 r (xs.take n) (vs.take n)
  | 0, _, _, _ => trivial
  | n + 1, [], [], h => h
  | n + 1, _ :: _, _ :: _, h => ⟨h.1, All2.take (n := n) h.2⟩
  | _ + 1, [], _ :: _, z => z.elim
  | _ + 1, _ :: _, [], z => z.elim
theorem All2.cut {α : Type} {r : α → V → Prop} {xs : List α} {vs : List V} {lo hi : Option Int} (h : All2 r xs vs) : All2 r (cutF xs lo hi) (cutV vs lo hi) := by
  unfold cutF cutV
  rw [h.length]
  exact h.drop.take
structure wpO (X : Cx) (e : Option Expr) (σ : L2.St) (H : Hp) (Q : Option Int → Hp → Prop) : Prop where
  run : ∀ pins s, Inv X pins σ H s → wpAny (model X.prog X.w) X.A (evalPart e X.env) (fun u s' => ∃ o H', Inv X pins σ H' s' ∧ IsPart u o ∧ Q o H') X.xe s
theorem po_wp {X : Cx} {e : Option Expr} : PO X e (wpO X e) := ⟨fun pins s σ H Q I h => h.run pins s I⟩
theorem wp_of_po {X : Cx} {e : Option Expr} {t : TO} (h : PO X e t) {σ H Q} (q : t σ H Q) : wpO X e σ H Q := ⟨fun pins s I => h.run pins s σ H Q I q⟩
def EO (X : Cx) (B : Bs) (e : Option Expr) (Γ : List Bd) (P : List Bd → Option Int → Prop) : Prop :=
  ∀ t σ H Q, Sat X.K B t σ Γ H → (∀ Γ' l, P Γ' l → ∀ H', Sat X.K B t σ Γ' H' → Q l H') → wpO X e σ H Q
section
variable {X : Cx} {B : Bs} {Z : Zt} {Γ : List Bd} {P : List Bd → Bd → Prop} {a b e : Expr} {lo hi : Option Expr} {pos p p2 : Pos} {k : Nat} {α β γ : Type} {c : Cd α} {d : Cd β} {cc : Cd γ}
theorem eo_none {P : List Bd → Option Int → Prop} (h : P Γ none) : EO X B none Γ P := fun t σ H Q s q => wp_of_po po_none (q _ _ h H s)
theorem eo_some {P : List Bd → Option Int → Prop} (h : EV X B e Γ (fun Γ1 b1 => ∃ i, b1 = va cInt i ∧ P Γ1 (some i))) : EO X B (some e) Γ P := fun t σ H Q s q =>
  wp_of_po (po_some pe_wp) (h t σ H _ s fun Γ1 b1 ⟨i, e1, p⟩ v H1 s1 => by
    subst e1
    have s2 := s1
    obtain ⟨F, own, wd, hS, ⟨v', ev, rv⟩, hT⟩ := s2
    cases ev
    exact ⟨i, rv, q _ _ p H1 s1.drop⟩)
/-- t[lo:hi] of a tuple -/
theorem ev_cutT (h : EV X B a Γ (fun Γ1 b1 => ∃ xs, b1 = va (cTup c) xs ∧ EO X B lo Γ1 (fun Γ2 l => EO X B hi Γ2 (fun Γ3 u => P Γ3 (va (cTup c) (cutF xs l u)))))) : EV X B (.Subscript a (.Slice lo hi none p2) pos) Γ P := fun t σ H Q s q => by
  refine wp_of_pe (pe_slice sl_tupF pe_wp po_wp po_wp) ?_
  refine h t σ H _ s fun Γ1 b1 ⟨xs, e1, h1⟩ v H1 s1 => ?_
  subst e1
  refine h1 _ σ H1 _ s1 fun Γ2 l h2 H2 s2 => ?_
  refine h2 _ σ H2 _ s2 fun Γ3 u p3 H3 s3 => ?_
  obtain ⟨F, own, wd, hS, ⟨v', ev, ad, vs, e2, r1, r2⟩, hT⟩ := s3
  cases ev
  subst e2
  refine ⟨ad, vs, rfl, seqT_up wd.fh (sqT r1), fun hw => ?_, fun hw p us hp => ?_⟩
  · refine q _ _ p3 _ H3 (Sat.push wd hS hT ⟨ad, vs, rfl, r1, ?_⟩)
    have e3 : cutF xs l u = xs := by
      unfold cutF
      rw [r2.length] at hw
      rw [hw.1, hw.2, List.drop_zero, Nat.sub_zero, List.take_length]
    rw [e3]
    exact r2
  · exact q _ _ p3 _ _ (push_tupF (cd := cTup c) wd hS hT hp ⟨p, cutV vs l u, rfl, .of upd_same, r2.cut.imp fun _ _ => c.up (Same.newH (wd.none_F hp))⟩)
/-- xs[lo:hi] of a frozen list: a new list -/
theorem ev_cutL (h : EV X B a Γ (fun Γ1 b1 => ∃ xs, b1 = va (cLst c) xs ∧ EO X B lo Γ1 (fun Γ2 l => EO X B hi Γ2 (fun Γ3 u => P Γ3 (ow (oLst c) (cutF xs l u)))))) : EV X B (.Subscript a (.Slice lo hi none p2) pos) Γ P := fun t σ H Q s q => by
  refine wp_of_pe (pe_slice sl_list pe_wp po_wp po_wp) ?_
  refine h t σ H _ s fun Γ1 b1 ⟨xs, e1, h1⟩ v H1 s1 => ?_
  subst e1
  refine h1 _ σ H1 _ s1 fun Γ2 l h2 H2 s2 => ?_
  refine h2 _ σ H2 _ s2 fun Γ3 u p3 H3 s3 => ?_
  obtain ⟨F, own, wd, hS, ⟨v', ev, ad, vs, e2, r1, r2⟩, hT⟩ := s3
  cases ev
  subst e2
  exact ⟨ad, vs, rfl, seqL_up wd.fh r1, fun p hp => q _ _ p3 _ _ (push_own wd hS hT hp r2.cut)⟩
/-- t + u of tuples -/
def catO {α : Type} (xs ys : List α) : Option (List α) := if xs.length + ys.length ≤ 16777216 then some (xs ++ ys) else none
theorem ev_catT (h : EV X B a Γ (fun Γ1 b1 => ∃ xs, b1 = va (cTup c) xs ∧ EV X B b Γ1 (fun Γ2 b2 => ∃ ys, b2 = va (cTup c) ys ∧ ∃ z, catO xs ys = some z ∧ P Γ2 (va (cTup c) z)))) : EV X B (.BinOp a .Add b pos) Γ P := fun t σ H Q s q => by
  refine wp_of_pe (pe_op op_catF pe_wp pe_wp) ?_
  refine h t σ H _ s fun Γ1 b1 ⟨xs, e1, h1⟩ v H1 s1 => ?_
  subst e1
  refine h1 _ σ H1 _ s1 fun Γ2 b2 ⟨ys, e2, z, hz, p2⟩ w H2 s2 => ?_
  subst e2
  obtain ⟨F, own, wd, hS, ⟨w', ew, bd, ws, eb, r3, r4⟩, ⟨v', ev, ad, vs, ea, r1, r2⟩, hT⟩ := s2
  cases ew
  cases ev
  subst ea eb
  unfold catO at hz
  split at hz
  · rename_i hl
    cases hz
    refine ⟨ad, bd, vs, ws, rfl, rfl, seqT_up wd.fh (sqT r1), seqT_up wd.fh (sqT r3), by rw [r2.length, r4.length, sizeLine_eq]; exact hl, fun e0 => ?_, fun e0 e1 => ?_, fun e0 e1 p us hp => ?_⟩
    · subst e0
      refine q _ _ p2 _ H2 (Sat.push wd hS hT ⟨bd, ws, rfl, r3, ?_⟩)
      cases xs with
      | nil => exact r4
      | cons _ _ => exact r2.elim
    · subst e1
      refine q _ _ p2 _ H2 (Sat.push wd hS hT ⟨ad, vs, rfl, r1, ?_⟩)
      cases ys with
      | nil =>
        rw [List.append_nil]
        exact r2
      | cons _ _ => exact r4.elim
    · exact q _ _ p2 _ _ (push_tupF (cd := cTup c) wd hS hT hp ⟨p, vs ++ ws, rfl, .of upd_same, (r2.app r4).imp fun _ _ => c.up (Same.newH (wd.none_F hp))⟩)
  · cases hz
/-! ### the greatest, the least -/
def maxI (xs : List Int) : Option Int := xs.max?
def minI (xs : List Int) : Option Int := xs.min?
theorem ev_maxL {j : Nat} (O : Ok X B Z j) (hm : X.mg "max" = none) (h : EL X B a Γ cInt (fun Γ1 xs => ∃ z, maxI xs = some z ∧ P Γ1 (va cInt z))) (hg : Gl X "max" := by rfl) (he : starEach (a :: []) X.env = (false, eval a X.env) :: starEach [] X.env := by rfl) : EV X B (.Call (.Name "max" p) [a] [] pos) Γ P :=
  ev_lop1 (cc := cInt) (k := maxI) (is_call (cr_max O.calm) hm boot_max' hg (by decide) (by decide) he rfl) (fun xs z hz F own H ad vs Q wd h1 h2 q => by
    have e := h2.ints
    subst e
    obtain ⟨m1, m2⟩ := List.max?_eq_some_iff.mp hz
    refine ⟨ad, xs, rfl, h1, List.length_pos_of_mem m1, fun m hmem hall => ?_⟩
    rw [show m = z from Int.le_antisymm (m2 m hmem) (hall z m1)]
    exact q F H _ wd (Same.rfl' F) (Same.rfl' H) rfl) h
theorem ev_minL {j : Nat} (O : Ok X B Z j) (hm : X.mg "min" = none) (h : EL X B a Γ cInt (fun Γ1 xs => ∃ z, minI xs = some z ∧ P Γ1 (va cInt z))) (hg : Gl X "min" := by rfl) (he : starEach (a :: []) X.env = (false, eval a X.env) :: starEach [] X.env := by rfl) : EV X B (.Call (.Name "min" p) [a] [] pos) Γ P :=
  ev_lop1 (cc := cInt) (k := minI) (is_call (cr_min O.calm) hm boot_min' hg (by decide) (by decide) he rfl) (fun xs z hz F own H ad vs Q wd h1 h2 q => by
    have e := h2.ints
    subst e
    obtain ⟨m1, m2⟩ := List.min?_eq_some_iff.mp hz
    refine ⟨ad, xs, rfl, h1, List.length_pos_of_mem m1, fun m hmem hall => ?_⟩
    rw [show m = z from Int.le_antisymm (hall z m1) (m2 m hmem)]
    exact q F H _ wd (Same.rfl' F) (Same.rfl' H) rfl) h
theorem ev_lenE (hm : X.mg "len" = none) (h : EL X B a Γ c (fun Γ1 xs => P Γ1 (va cInt (xs.length : Int)))) (hg : Gl X "len" := by rfl) (he : starEach (a :: []) X.env = (false, eval a X.env) :: starEach [] X.env := by rfl) : EV X B (.Call (.Name "len" p) [a] [] pos) Γ P :=
  ev_lop1 (cc := cInt) (k := fun xs : List α => some (xs.length : Int)) (is_call call_len_seq hm boot_len hg (by decide) (by decide) he rfl) (fun xs z h F own H ad vs Q wd h1 h2 q => by
    cases h
    exact ⟨ad, vs, rfl, .inl h1, by rw [h2.length]; exact q F H _ wd (Same.rfl' F) (Same.rfl' H) rfl⟩) (fun t σ H Q s q => h t σ H Q s fun Γ1 xs p => q Γ1 xs ⟨_, rfl, p⟩)
theorem xl_el {m : Res (List α)} (h : ∀ P : List Bd → List α → Prop, good m (fun xs => P Γ xs) (fun ex => Z ex Γ) → EL X B e Γ c P) : XL X B Z e Γ c m := fun P g t σ H Q s q =>
  h (fun Γ' xs => Γ' = Γ ∧ P xs) (good_imp g fun xs p => ⟨rfl, p⟩) t σ H Q s fun Γ' xs ⟨e1, p⟩ v H' r => by
    subst e1
    exact q xs p v H' r
/-! ### xs.index(y) -/
def idxO {α : Type} [DecidableEq α] (xs : List α) (y : α) : Option Int := if memb y xs = true then some ((xs.idxOf y : Nat) : Int) else none
theorem All2.idx [DecidableEq α] (f : Flat c) {K : Fg} {F : Hp} {y : α} {w : V} (hy : c.rp K F y w) : ∀ {xs : List α} {vs : List V}, All2 (c.rp K F) xs vs → y ∈ xs → ∃ z, vs[xs.idxOf y]? = some z ∧ eqV z w = true ∧ ∀ (m : Nat) (z' : V), m < xs.idxOf y → vs[m]? = some z' → eqV z' w = false
  | x :: xs, v :: vs, ⟨h1, h2⟩, hm => by
    by_cases e : x = y
    · subst e
      rw [List.idxOf_cons_self]
      exact ⟨v, rfl, by rw [f.eq h1 hy]; exact decide_eq_true rfl, fun m z' h => absurd h (Nat.not_lt_zero _)⟩
    · have hm' : y ∈ xs := by
        rcases List.mem_cons.mp hm with z | z
        · exact absurd z.symm e
        · exact z
      rw [show (x :: xs).idxOf y = xs.idxOf y + 1 by rw [List.idxOf_cons, beq_false_of_ne e]; rfl]
      obtain ⟨z, q1, q2, q3⟩ := All2.idx f hy h2 hm'
      refine ⟨z, q1, q2, fun m z' h h' => ?_⟩
      cases m with
      | zero =>
        cases h'
        rw [f.eq h1 hy]
        exact decide_eq_false e
      | succ m => exact q3 m z' (Nat.lt_of_succ_lt_succ h) h'
  | [], [], _, hm => nomatch hm
  | [], _ :: _, z, _ => z.elim
  | _ :: _, [], z, _ => z.elim
theorem xm_index [DecidableEq α] {m : Res (List α)} {mi : Res α} (f : Flat c) (ha : XL X B Z a Γ c m) (hb : XM X B Z b Γ c mi)
    (hbase : attributeBase a "index" X.env (eval a X.env) = eval a X.env := by rfl)
    (hfew : ((backTo pos (starEach (b :: []) X.env)).all (fun x => !x.1) && (backToKw pos (keywordEach [] X.env)).all (fun x => x.1.isSome) && decide ((b :: []).length + ([] : List Keyword).length + (if ([] : List Keyword).isEmpty then 0 else 1) < 30)) = true := by rfl)
    (hline : (p2.endLine == pos.line) = true := by rfl) (hs : starEach (b :: []) X.env = (false, eval b X.env) :: starEach [] X.env := by rfl) (hplain : (backTo pos (starEach [] X.env)).any (·.1) = false := by rfl) :
    XM X B Z (.Call (.Attribute a "index" p2) [b] [] pos) Γ cInt (m >>= fun xs => mi >>= fun y => lift (idxO xs y)) := fun P g t σ H Q s q => by
  refine wp_of_pe (pe_bm PySem.F.plainAttrs_list PySem.F.slot_list_index PySem.F.type_list_index mt_index pe_wp (pa_cons pe_wp pa_nil hs) hbase hfew hline hs hplain) ?_
  refine ha _ (good_bind g) t σ H _ s fun xs gx v H1 s1 => ?_
  have fin : ∀ {F own ad vs H2 w y}, Wd B F own H2 → HoldS X.K F H2 own σ Γ → HoldT X.K F H2 own t → SqL X.K H2 ad vs → All2 (c.rp X.K F) xs vs → c.rp X.K F y w → good (lift (idxO xs y)) (fun x => P Γ (va cInt x)) (fun ex => Z ex Γ) → rIndex X.K (.ref ad) [w] H2 Q := by
    intro F own ad vs H2 w y wd hS hT r1 r2 ry gy
    obtain ⟨z, hz, p⟩ := good_lift gy
    unfold idxO at hz
    split at hz
    · rename_i hm
      cases hz
      obtain ⟨z, q1, q2, q3⟩ := r2.idx f ry (of_decide_eq_true hm)
      exact ⟨ad, vs, w, _, z, rfl, rfl, r1, f.flat ry, r2.flat f, q1, q2, q3, q _ _ p _ H2 (Sat.push wd hS hT rfl)⟩
    · cases hz
  rcases s1 with s1 | ⟨i0, ei, es, s1⟩
  · have s1' := s1
    obtain ⟨F0, own0, wd0, hS0, ⟨v0, ev0, ad0, vs0, e0, r10, r20⟩, hT0⟩ := s1'
    cases ev0
    subst e0
    refine ⟨.inl ⟨rfl, vs0, seqL_up wd0.fh r10⟩, ?_⟩
    refine hb (fun Γ' b' => Γ' = Γ ∧ ∃ y, b' = va c y ∧ good (lift (idxO xs y)) (fun x => P Γ (va cInt x)) fun ex => Z ex Γ) (good_imp (good_bind gx) fun y gy => ⟨rfl, y, rfl, gy⟩) _ σ H1 _ s1 fun Γ2 b2 ⟨e0, y, e1, g2⟩ w H2 s2 => ?_
    subst e0 e1
    obtain ⟨F, own, wd, hS, ⟨w', ew, rw'⟩, ⟨v', ev, ad, vs, e3, h1, h2⟩, hT⟩ := s2
    cases ew
    cases ev
    cases e3
    exact fin wd hS hT (seqL_up wd.fh h1) h2 rw' g2
  · have s1' := s1
    obtain ⟨F0, own0, wd0, hS0, hT0⟩ := s1'
    obtain ⟨ad0, ea0, h00, vs0, h10, h20⟩ := hS0.2 i0 _ ei
    rw [es] at ea0
    cases ea0
    refine ⟨.inl ⟨rfl, vs0, .of h10⟩, ?_⟩
    refine hb (fun Γ' b' => Γ' = Γ ∧ ∃ y, b' = va c y ∧ good (lift (idxO xs y)) (fun x => P Γ (va cInt x)) fun ex => Z ex Γ) (good_imp (good_bind gx) fun y gy => ⟨rfl, y, rfl, gy⟩) _ σ H1 _ s1 fun Γ2 b2 ⟨e0, y, e1, g2⟩ w H2 s2 => ?_
    subst e0 e1
    obtain ⟨F, own, wd, hS, ⟨w', ew, rw'⟩, hT⟩ := s2
    cases ew
    obtain ⟨ad, ea, h0, vs, h1, h2⟩ := hS.2 i0 _ ei
    rw [es] at ea
    cases ea
    exact fin wd hS hT (.of h1) h2 rw' g2
end
/-! ### three names at once -/
section
variable {X : Cx} {B : Bs} {Z : Zt} {Γ : List Bd} {P : List Bd → Prop} {e e' e2 : Expr} {pos : Pos} {k : Nat} {js js' js2 : List Nat}
theorem eg_triple {α β γ : Type} {c : Cd α} {d : Cd β} {f : Cd γ} {p : α × β × γ} {x1} (O : Ok X B Z k) (h : EG X B js e Γ (va c p.1) (fun Γ1 => EG X B js' e' Γ1 (va d p.2.1) (fun Γ2 => EG X B js2 e2 Γ2 (va f p.2.2) P))) (hn : (assignEach [e, e', e2] X.env).length = 3 := by rfl) (hst : (assignEach [e, e', e2] X.env).findIdx? (·.1) = none := by rfl)
    (hs : (assignEach (e :: [e', e2]) X.env).map (·.2) = assign e X.env :: (assignEach [e', e2] X.env).map (·.2) := by rfl) (hs' : (assignEach (e' :: [e2]) X.env).map (·.2) = assign e' X.env :: (assignEach [e2] X.env).map (·.2) := by rfl) (hs2 : (assignEach (e2 :: []) X.env).map (·.2) = assign e2 X.env :: (assignEach [] X.env).map (·.2) := by rfl) :
    EG X B (js ++ (js' ++ js2)) (.Tuple [e, e', e2] x1 pos) Γ (va (cTr c d f) p) P := by
  intro t σ H v Q pn s q
  obtain ⟨F, own, wd, hS, ⟨v', ev, a, x, y, z, e1, h1, r1, r2, r3⟩, hT⟩ := s
  cases ev
  refine wp_of_pg (pg_tup O.calm (pgs_cons pg_wp (pgs_cons pg_wp (pgs_cons pg_wp pgs_nil hs2) hs') hs) hn hst) ⟨a, [x, y, z], e1, seqT_up wd.fh h1, rfl, x, [y, z], rfl, ?_⟩
  have s1 : Sat X.K B ((x, va c p.1) :: (y, va d p.2.1) :: (z, va f p.2.2) :: t) σ Γ H := ⟨F, own, wd, hS, ⟨x, rfl, r1⟩, ⟨y, rfl, r2⟩, ⟨z, rfl, r3⟩, hT⟩
  refine h _ σ H x _ pn s1 fun Γ1 hg σ1 H1 d1 pn1 s2 => ⟨y, [z], rfl, ?_⟩
  refine hg _ σ1 H1 y _ pn1 s2 fun Γ2 hg2 σ2 H2 d2 pn2 s3 => ⟨z, [], rfl, ?_⟩
  refine hg2 t σ2 H2 z _ pn2 s3 fun Γ3 p3 σ3 H3 d3 pn3 s4 => ⟨rfl, q _ p3 σ3 H3 ⟨d3.1.trans (d2.1.trans d1.1), fun j hj => ?_⟩ pn3 s4⟩
  have hj' : js.contains j = false ∧ (js' ++ js2).contains j = false := by
    rw [List.contains_eq_any_beq, List.any_append, Bool.or_eq_false_iff, ← List.contains_eq_any_beq, ← List.contains_eq_any_beq] at hj
    exact hj
  have hj2 : js'.contains j = false ∧ js2.contains j = false := by
    have := hj'.2
    rw [List.contains_eq_any_beq, List.any_append, Bool.or_eq_false_iff, ← List.contains_eq_any_beq, ← List.contains_eq_any_beq] at this
    exact this
  exact (d3.2 j hj2.2).trans ((d2.2 j hj2.1).trans (d1.2 j hj'.1))
end

/-! ### a slot's own thing is handed out -/
def mvS (own : Ow) (i d : Nat) : Ow := fun a => if own a = some (.inl i) then some (.inr d) else own a
theorem ev_move {X : Cx} {B : Bs} {Γ : List Bd} {P : List Bd → Bd → Prop} {pos : Pos} {β : Type} {k : Oc β} {x : β} {n : Str} (i : Nat) (hΓ : Γ[i]? = some (ow k x)) (h : P (Γ.set i un) (ow k x)) (hN : X.N[i]? = some n := by rfl)
    (hv : Vis X.env.scope n := by first | exact Or.inl rfl | exact Or.inr (Or.inl rfl) | exact Or.inr (Or.inr rfl)) (hd : (n == ("__debug__" : Str)) = false := by decide) (hcd : (n == ("__classdict__" : Str)) = false := by decide) : EV X B (.Name n pos) Γ P := fun t σ H Q s q => by
  obtain ⟨F, own, wd, hS, hT⟩ := s
  obtain ⟨a, ea, r⟩ := hS.2 i _ hΓ
  refine wp_of_pe (pe_var hN hv hd hcd) ⟨.ref a, slot_some ea, q _ _ h _ H ?_⟩
  refine ⟨F, mvS own i t.length, wd.relab fun b l e => ?_, ⟨by rw [List.length_set]; exact hS.1, fun j b e => ?_⟩, ⟨a, rfl, k.up (Same.rfl' F) (fun b z => ⟨?_, fun o e => e⟩) r⟩, hT.up (Same.rfl' F) fun b j hj z => ⟨?_, fun o e => e⟩⟩
  · unfold mvS at e
    split at e
    · rename_i z
      exact ⟨_, z⟩
    · exact ⟨_, e⟩
  · by_cases ij : i = j
    · subst ij
      rw [List.getElem?_set_self (List.getElem?_eq_some_iff.mp hΓ).1] at e
      cases e
      exact trivial
    · rw [List.getElem?_set_ne ij] at e
      refine b.up (Same.rfl' F) (fun c z => ⟨?_, fun o e => e⟩) (hS.2 j b e)
      unfold mvS
      rw [if_neg (fun w => by rw [z] at w; injection w with w; injection w with w; exact ij w.symm)]
      exact z
  · unfold mvS
    rw [if_pos z]
  · unfold mvS
    rw [if_neg (fun w => by rw [z] at w; cases w)]
    exact z
theorem good_v {α : Type} {x : α} {P : α → Prop} {Z : Exn → Prop} (h : P x) : good (.ok x) P Z := h
theorem xm_nilL {X : Cx} {B : Bs} {Z : Zt} {Γ : List Bd} {pos : Pos} {α : Type} (c : Cd α) : XM X B Z (.List [] pos) Γ (cLst c) (.ok []) := xm_frz (fun P g => ev_nil c g)
end T
set_option maxHeartbeats 1000000
namespace T
open PySem PySem.Spec PyProof.Rows L2

/-! ## deeds: a tuple of a word and one or two numbers -/
inductive Dd where
  | up (x : Int) | down (x q : Int)
  deriving DecidableEq
def Dd.w : Dd → Str
  | .up _ => "up"
  | .down _ _ => "down"
def Dd.x : Dd → Int
  | .up x => x
  | .down x _ => x
def Dd.q : Dd → Option Int
  | .up _ => none
  | .down _ q => some q
def Dd.ln : Dd → Int
  | .up _ => 2
  | .down _ _ => 3
def Dd.pl : Dd → List Int
  | .up x => [x]
  | .down x q => [x, q]
def Dd.raw : Dd → List V
  | .up x => [.str "up", .int x]
  | .down x q => [.str "down", .int x, .int q]
def cDd : Cd Dd := ⟨fun K F d v => ∃ a, v = .ref a ∧ SqT K F a d.raw, fun s ⟨a, e, h⟩ => ⟨a, e, seqT_up s h⟩⟩
theorem Dd.raw_pl {K : Fg} {F : Hp} (d : Dd) : ∃ u, d.raw = u :: d.raw.drop 1 ∧ All2 (cInt.rp K F) d.pl (d.raw.drop 1) := by
  cases d with
  | up x => exact ⟨_, rfl, rfl, trivial⟩
  | down x q => exact ⟨_, rfl, rfl, rfl, trivial⟩
section
variable {X : Cx} {B : Bs} {Z : Zt} {Γ : List Bd} {P : List Bd → Bd → Prop} {a b e : Expr} {es : List Expr} {pos p p2 : Pos}
theorem ev_ddD {x1} (h : EA X B es Γ (fun Γ1 as => ∃ x q, as = [.tmp (va cStr "down"), .tmp (va cInt x), .tmp (va cInt q)] ∧ P Γ1 (va cDd (.down x q)))) : EV X B (.Tuple es x1 pos) Γ P := fun t σ H Q s q =>
  ev_tr (c := cStr) (d := cInt) (f := cInt) (P := fun Γ1 b1 => ∃ x y, b1 = va (cTr cStr cInt cInt) ("down", x, y) ∧ P Γ1 (va cDd (.down x y)))
    (fun t σ H Q s q => h t σ H Q s fun Γ' as ⟨x, y, e1, g⟩ => q Γ' as ⟨_, x, y, e1, x, y, rfl, g⟩) t σ H Q s fun Γ1 b1 ⟨x, y, e1, g⟩ v H1 s1 => by
      subst e1
      refine q _ _ g v H1 (Sat.cast (b := va (cTr cStr cInt cInt) ("down", x, y)) (b' := va cDd (.down x y)) (fun F H f ⟨v', e, ad, u1, u2, u3, e2, r, r1, r2, r3⟩ => ⟨v', e, ad, e2, ?_⟩) s1)
      cases (show u1 = V.str "down" from r1)
      cases (show u2 = V.int x from r2)
      cases (show u3 = V.int y from r3)
      exact r
theorem ev_ddU {x1} (h : EA X B es Γ (fun Γ1 as => ∃ x, as = [.tmp (va cStr "up"), .tmp (va cInt x)] ∧ P Γ1 (va cDd (.up x)))) : EV X B (.Tuple es x1 pos) Γ P := fun t σ H Q s q =>
  ev_pr (c := cStr) (d := cInt) (P := fun Γ1 b1 => ∃ x, b1 = va (cPr cStr cInt) ("up", x) ∧ P Γ1 (va cDd (.up x)))
    (fun t σ H Q s q => h t σ H Q s fun Γ' as ⟨x, e1, g⟩ => q Γ' as ⟨_, x, e1, x, rfl, g⟩) t σ H Q s fun Γ1 b1 ⟨x, e1, g⟩ v H1 s1 => by
      subst e1
      refine q _ _ g v H1 (Sat.cast (b := va (cPr cStr cInt) ("up", x)) (b' := va cDd (.up x)) (fun F H f ⟨v', e, ad, u1, u2, e2, r, r1, r2⟩ => ⟨v', e, ad, e2, ?_⟩) s1)
      cases (show u1 = V.str "up" from r1)
      cases (show u2 = V.int x from r2)
      exact .of r
theorem ty_dd : Ty cDd "tuple" := fun K F H x v s ⟨a, e, h⟩ => by
  subst e
  exact ty_seqT (seqT_up s h)
theorem xm_ddw {m : Res Dd} (ha : XM X B Z a Γ cDd m) (hb : XM X B Z b Γ cInt (.ok 0)) (hs : PlainIx b := by exact fun _ _ => rfl) : XM X B Z (.Subscript a b pos) Γ cStr (m >>= fun d => .ok d.w) := by
  have h := xm_op2 (ca := cDd) (k := fun (d : Dd) (i : Int) => if i = 0 then some d.w else none) (cc := cStr) (B := B) (is_ix (X := X) (a := a) (b := b) (pos := pos) hs) (fun d i z hz F own H v w Q wd ⟨ad, e1, h1⟩ hw q => by
    split at hz
    · rename_i e
      subst e
      cases hz
      exact .inr (.inl ⟨ad, _, 0, .str d.w, e1, hw, seqT_up wd.fh h1, by cases d <;> rfl, q F H _ wd (Same.rfl' F) (Same.rfl' H) rfl⟩)
    · cases hz) ha hb
  exact h
theorem xp_ddw {d : Dd} (ha : XM X B Z a Γ cDd (.ok d)) (hb : XM X B Z b Γ cInt (.ok 0)) (hs : PlainIx b := by exact fun _ _ => rfl) : XM X B Z (.Subscript a b pos) Γ cStr (.ok d.w) := xm_ddw ha hb hs
theorem xm_ddx {m : Res Dd} (ha : XM X B Z a Γ cDd m) (hb : XM X B Z b Γ cInt (.ok 1)) (hs : PlainIx b := by exact fun _ _ => rfl) : XM X B Z (.Subscript a b pos) Γ cInt (m >>= fun d => .ok d.x) := by
  have h := xm_op2 (ca := cDd) (k := fun (d : Dd) (i : Int) => if i = 1 then some d.x else none) (cc := cInt) (B := B) (is_ix (X := X) (a := a) (b := b) (pos := pos) hs) (fun d i z hz F own H v w Q wd ⟨ad, e1, h1⟩ hw q => by
    split at hz
    · rename_i e
      subst e
      cases hz
      exact .inr (.inl ⟨ad, _, 1, .int d.x, e1, hw, seqT_up wd.fh h1, by cases d <;> rfl, q F H _ wd (Same.rfl' F) (Same.rfl' H) rfl⟩)
    · cases hz) ha hb
  exact h
theorem xp_ddx {d : Dd} (ha : XM X B Z a Γ cDd (.ok d)) (hb : XM X B Z b Γ cInt (.ok 1)) (hs : PlainIx b := by exact fun _ _ => rfl) : XM X B Z (.Subscript a b pos) Γ cInt (.ok d.x) := xm_ddx ha hb hs
theorem xm_ddq {m : Res Dd} (ha : XM X B Z a Γ cDd m) (hb : XM X B Z b Γ cInt (.ok 2)) (hs : PlainIx b := by exact fun _ _ => rfl) : XM X B Z (.Subscript a b pos) Γ cInt (m >>= fun d => lift d.q) := by
  have h := xm_op2 (ca := cDd) (k := fun (d : Dd) (i : Int) => if i = 2 then d.q else none) (cc := cInt) (B := B) (is_ix (X := X) (a := a) (b := b) (pos := pos) hs) (fun d i z hz F own H v w Q wd ⟨ad, e1, h1⟩ hw q => by
    split at hz
    · rename_i e
      subst e
      cases d with
      | up x => cases hz
      | down x y =>
        cases hz
        exact .inr (.inl ⟨ad, _, 2, .int z, e1, hw, seqT_up wd.fh h1, rfl, q F H _ wd (Same.rfl' F) (Same.rfl' H) rfl⟩)
    · cases hz) ha hb
  exact h
theorem xm_ddl {m : Res Dd} (hm : X.mg "len" = none) (ha : XM X B Z a Γ cDd m) (hg : Gl X "len" := by rfl) (he : starEach (a :: []) X.env = (false, eval a X.env) :: starEach [] X.env := by rfl) : XM X B Z (.Call (.Name "len" p) [a] [] pos) Γ cInt (m >>= fun d => .ok d.ln) :=
  xm_op1 (ca := cDd) (k := fun d => some d.ln) (is_call call_len_seq hm boot_len hg (by decide) (by decide) he rfl) (fun d z h F own H v Q wd ⟨ad, e, h1⟩ q => by
    cases h
    refine ⟨ad, d.raw, by rw [e], .inr (seqT_up wd.fh h1), ?_⟩
    cases d with
    | up x => exact q F H _ wd (Same.rfl' F) (Same.rfl' H) rfl
    | down x y => exact q F H _ wd (Same.rfl' F) (Same.rfl' H) rfl) ha
theorem xp_ddl {d : Dd} (hm : X.mg "len" = none) (ha : XM X B Z a Γ cDd (.ok d)) (hg : Gl X "len" := by rfl) (he : starEach (a :: []) X.env = (false, eval a X.env) :: starEach [] X.env := by rfl) : XM X B Z (.Call (.Name "len" p) [a] [] pos) Γ cInt (.ok d.ln) := xm_ddl hm ha hg he
theorem cutV1 {vs : List V} : cutV vs (some 1) none = vs.drop 1 := by
  unfold cutV
  rw [HT.sIx_none, show HT.sIx vs.length 0 (some 1) = min 1 vs.length from HT.sIx_nat _ 0 1]
  cases vs with
  | nil => rfl
  | cons v vs => rw [show min 1 (v :: vs).length = 1 by rw [List.length_cons]; omega, List.drop_succ_cons, List.drop_zero, List.length_cons, Nat.add_sub_cancel, List.take_length]
/-- deed[1:] -/
theorem ev_cutD {i1 : Expr} (h : EV X B a Γ (fun Γ1 b1 => ∃ d, b1 = va cDd d ∧ EV X B i1 Γ1 (fun Γ2 b2 => b2 = va cInt 1 ∧ P Γ2 (va (cTup cInt) d.pl)))) : EV X B (.Subscript a (.Slice (some i1) none none p2) pos) Γ P := fun t σ H Q s q => by
  refine wp_of_pe (pe_slice sl_tupF pe_wp po_wp po_wp) ?_
  refine h t σ H _ s fun Γ1 b1 ⟨d, e1, h1⟩ v H1 s1 => ?_
  subst e1
  refine (eo_some (P := fun Γ2 l => l = some 1 ∧ P Γ2 (va (cTup cInt) d.pl)) (fun t σ H Q s q => h1 t σ H Q s fun Γ2 b2 ⟨e2, g⟩ => q _ _ ⟨1, e2, rfl, g⟩)) _ σ H1 _ s1 fun Γ2 l ⟨el, p3⟩ H2 s2 => ?_
  subst el
  refine (eo_none (P := fun Γ3 u => Γ3 = Γ2 ∧ u = none) ⟨rfl, rfl⟩) _ σ H2 _ s2 fun Γ3 u ⟨e3, e4⟩ H3 s3 => ?_
  subst e3 e4
  obtain ⟨F, own, wd, hS, ⟨v', ev, ad, e2, r1⟩, hT⟩ := s3
  cases ev
  subst e2
  obtain ⟨u0, er, r2⟩ := d.raw_pl (K := X.K) (F := F)
  refine ⟨ad, d.raw, rfl, seqT_up wd.fh r1, fun hw => ?_, fun hw p us hp => ?_⟩
  · exfalso
    have := hw.1
    rw [show HT.sIx d.raw.length 0 (some 1) = min 1 d.raw.length from HT.sIx_nat _ 0 1, er, List.length_cons] at this
    omega
  · exact q _ _ p3 _ _ (push_tupF (cd := cTup cInt) wd hS hT hp ⟨p, cutV d.raw (some 1) none, rfl, .of upd_same, by rw [cutV1]; exact r2.imp fun _ _ => cInt.up (Same.newH (wd.none_F hp))⟩)
/-- x is True -/
theorem cmp_isB : Cmp X B .Is rIsB cBool cBool (fun x y => some (decide (x = y))) := ⟨op_isBl, fun x y z h => by
  cases h
  intro F own H v w Q wd hv hw q
  exact ⟨x, y, hv, hw, q F H _ wd (Same.rfl' F) (Same.rfl' H) rfl⟩⟩
end
end T
set_option maxHeartbeats 1000000
namespace T
open PySem PySem.Spec PyProof.Rows L2

/-! ## several except clauses, with and without a name -/
abbrev Cls1 := Value × Option Nat × (Addr → Value → Option Addr → L2.TS)
def offE (i : Nat) (D : Ends) : Ends := { nx := fun σ' H' => D.nx (σ'.set i none) H', rt := D.rt, bk := fun σ' H' => D.bk (σ'.set i none) H', ct := fun σ' H' => D.ct (σ'.set i none) H' }
def wCh (K : PySem.W.Frag) (Wout : WX) (D : Ends) : List Cls1 → WX
  | [] => Wout
  | (c, none, ts) :: r => fun cls d σ H => ∃ b, PySem.W.exmOne K cls c = some b ∧ (b = true → ∀ a, H a = none → ts a cls d D σ H) ∧ (b = false → wCh K Wout D r cls d σ H)
  | (c, some i, ts) :: r => fun cls d σ H => ∃ b, PySem.W.exmOne K cls c = some b ∧ (b = true → ∀ a, H a = none → ts a cls d (offE i D) (σ.set i (some (.ref a))) H) ∧ (b = false → wCh K Wout D r cls d σ H)
inductive HcOk (X : Cx) : List ExceptHandler → List Cls1 → Prop
  | nil : HcOk X [] []
  | plain {x : Str} {c : Value} {ts : Addr → Value → Option Addr → L2.TS} {b₀ : Stmt} {suite : List Stmt} {np pos' : Pos} {hds : List ExceptHandler} {l : List Cls1} (hc : Names X x c)
      (hsu : ∀ (a : Addr) (oe : Obj) (cls : Value) (d : Option Addr) (pn : List (Addr × Obj)), Zc cls d oe → (∃ vs, oe.data = .fields vs) → PSs (X.suite a ((a, oe) :: pn)) (b₀ :: suite) (ts a cls d)) (r : HcOk X hds l) :
      HcOk X (.ExceptHandler (some (.Name x np)) none (b₀ :: suite) pos' :: hds) ((c, none, ts) :: l)
  | named {x n : Str} {i : Nat} {c : Value} {ts : Addr → Value → Option Addr → L2.TS} {b₀ : Stmt} {suite : List Stmt} {np pos' : Pos} {hds : List ExceptHandler} {l : List Cls1} (hi : X.N[i]? = some n) (hln : X.env.kindOf n = some .local) (hc : Names X x c)
      (hsu : ∀ (a : Addr) (oe : Obj) (cls : Value) (d : Option Addr) (pn : List (Addr × Obj)), Zc cls d oe → (∃ vs, oe.data = .fields vs) → PSs (X.suite a ((a, oe) :: pn)) (b₀ :: suite) (ts a cls d)) (r : HcOk X hds l) :
      HcOk X (.ExceptHandler (some (.Name x np)) (some n) (b₀ :: suite) pos' :: hds) ((c, some i, ts) :: l)
section
variable {X : Cx} {body : List Stmt} {h₀ : ExceptHandler} {hds : List ExceptHandler} {l : List Cls1} {pos : Pos} {tb : WX → L2.TS} {Wout : WX}
theorem ps_try_chain (hs : X.stack = X.env :: X.outer) (hf : X.env.frame = some X.env.locals) (hN : X.N.Nodup) (tk : Takes X Wout)
    (hb : ∀ (W : WX) (pn : List (Addr × Obj)) (xe : Value → Shared → Prop), Takes (X.tr pn xe) W → PassesOwn (model X.prog X.w) X.A X.env xe → PSs (X.tr pn xe) body (tb W))
    (hh : HcOk X (h₀ :: hds) l) : PS X (.Try body (h₀ :: hds) [] [] pos) (fun D σ H => tb (wCh X.K Wout D l) D σ H) := by
  refine ⟨fun pins s σ H D I h => ?_⟩
  have ok := I.ok
  have hfr : X.A.frames = some (X.env :: X.outer) := by rw [ok.frames, hs]
  refine wpAny_Try_except ?_
  refine wpAny_mono ((hb (wCh X.K Wout D l) (X.pn ++ pins) (fun e s₁ => wpAny (model X.prog X.w) X.A (noteFrame e X.env) (fun _ s₂ => wpAny (model X.prog X.w) X.A (setFlight e none) (fun _ s₃ =>
    wpAny (model X.prog X.w) X.A (handleBy e X.env (h₀ :: hds)) (SP X pins D) X.xe s₃) X.xe s₂) X.xe s₁) (fun u s' xx => ?_) PassesOwn.looking).run [] s σ H D (I.toTry _) h) (fun f s1 hsp => ?_) (fun e s1 he => he)
  · obtain ⟨a, B, sI, pins', σ', H', cls, d, rfl, J', nb, up, sky, na, os, ag, w⟩ := xx
    have J : Inv X pins σ' H' sI := J'.ofTry ok
    have sky' : Sky B (X.env :: X.outer) a (Zc cls d) X.env.locals s'.heap := by rw [← hs]; exact sky
    show wpAny (model X.prog X.w) X.A (noteFrame (.ref a) X.env) _ _ _
    refine Sky.land Zc.steady hfr hf sky' fun h3 fl3 up3 => ?_
    have J3 : Inv X pins σ' H' { s' with heap := h3 } := J.landed nb fl3.1 (up.trans up3) os ag
    obtain ⟨oe3, vs3, he3, hz3, hd3⟩ := fl3.there
    have notFr : ∀ {h : Heap} {o : Obj} {vs : Array Value}, h.FunFrames B (X.env :: X.outer) → h.get? a = some o → o.data = .fields vs → a ∉ frs (X.env :: X.outer) := fun {h o vs} ff e dd hm => by
      obtain ⟨_, o', e', hnf⟩ := ff.mem hm
      rw [e] at e'; cases e'
      exact hnf _ dd
    have nfr := notFr fl3.2.2.1 he3 hd3
    have nL : a ≠ X.env.locals := fun z => nfr (List.mem_filterMap.mpr ⟨X.env, List.mem_cons_self, by rw [hf, z]⟩)
    have nF : a ∉ X.fs := fun hm => by
      obtain ⟨e, he, q⟩ := List.mem_filterMap.mp hm
      exact nfr (List.mem_filterMap.mpr ⟨e, List.mem_cons_of_mem _ he, q⟩)
    have S3 := J3.suite he3 hd3 na nL nF
    have LT : PySem.W.Looks (model X.prog X.w) h3 (typeOf (.ref a)) cls := fun A Q E s k q => wpAny_typeOf_ref (k _ _ he3) (by rw [hz3.1]; exact q)
    have test : ∀ {x : Str} {c : Value} {np : Pos} {Q : Value → Shared → Prop} {E : Value → Shared → Prop}, Names X x c → Q c { s' with heap := h3 } → wpAny (model X.prog X.w) (X.A.mark (some (.ref a))) (eval (.Name x np) X.env) Q E { s' with heap := h3 } := fun {x c np Q E} hc q => by
      obtain ⟨hg, hdbg, hm | ⟨hm, hv, hnn⟩⟩ := hc
      · exact ld_glob (X := X.suite a ((a, oe3) :: (X.pn ++ pins))) S3 hg hm q hdbg
      · exact ld_blt (X := X.suite a ((a, oe3) :: (X.pn ++ pins))) S3 hg hm hv q hnn hdbg
    have go : ∀ {hds' : List ExceptHandler} {l' : List Cls1}, HcOk X hds' l' → wCh X.K Wout D l' cls d σ' H' →
        wpAny (model X.prog X.w) X.A (handleBy (.ref a) X.env hds') (SP X pins D) X.xe { s' with heap := h3 } := by
      intro hds' l' hk
      induction hk with
      | nil =>
        intro w
        refine wpAny_handleBy_nil ?_
        obtain ⟨k1, k2, k3, oe, vs, T, oT, ts', he, hz, hd, h1, hr⟩ := id fl3
        unfold PySem.passOn
        refine wpAny_bind (wpAny_field he hd h1 ?_)
        rw [if_neg (show ¬ ((Value.ref T == Value.none) = true) from by simp)]
        have fin : wpAny (model X.prog X.w) X.A (setFlight (.ref a) X.env.frame) (fun _ s4 => wpAny (model X.prog X.w) X.A (throw (.ref a) : Sem Flow) (SP X pins D) X.xe s4) X.xe { s' with heap := h3 } := by
          rw [hf]
          refine HandSPX.setFlight_upZ fl3 fun h4 hh4 up4 => wpAny_throw (tk _ _ ?_)
          exact ⟨a, B, sI, pins, σ', H', cls, d, rfl, J, nb, (up.trans up3).trans up4, .inr (.inr (by rw [hs]; exact hh4)), na, os, ag, w⟩
        first
          | exact wpAny_bind (wpAny_pure (wpAny_bind fin))
          | exact wpAny_bind fin
      | @plain x c ts b₀ suite np pos' hds2 l2 hc hsu r ih =>
        intro w
        obtain ⟨b, hb1, hyes, hno⟩ := w
        refine wpAny_handleBy_cons (codeAny_handlers_test ?_) (by intro q; cases q)
        have LM := PySem.W.exm_one (M := model X.prog X.w) (J3.kIn) LT hb1
        refine test hc (LM.here ?_)
        cases b with
        | true =>
          refine codeAny_handlers_suite ?_
          refine HandSPX.lands_againZ fl3 fun h4 fl4 up4 => ?_
          have J4 : Inv X pins σ' H' { s' with heap := h4 } := J.landed nb fl4.1 ((up.trans up3).trans up4) os ag
          obtain ⟨oe4, vs4, he4, hz4, hd4⟩ := fl4.there
          have S4 := J4.suite he4 hd4 na nL nF
          refine wpAny_mono ((hsu a oe4 cls d (X.pn ++ pins) hz4 ⟨_, hd4⟩).run [] _ _ H' _ S4 (hyes rfl a na)) (fun f s6 hsp => ?_) (fun _ _ z => False.elim z)
          cases f with
          | next =>
            obtain ⟨σ6, H6, S6, q6⟩ := hsp
            exact ⟨_, _, S6.unsuite ok, q6⟩
          | brk =>
            obtain ⟨σ6, H6, S6, q6⟩ := hsp
            exact ⟨_, _, S6.unsuite ok, q6⟩
          | cont =>
            obtain ⟨σ6, H6, S6, q6⟩ := hsp
            exact ⟨_, _, S6.unsuite ok, q6⟩
          | ret u =>
            obtain ⟨v6, σ6, H6, S6, r6, q6⟩ := hsp
            exact ⟨_, _, _, S6.unsuite ok, r6, q6⟩
        | false =>
          show wpAny _ X.A (handleBy (.ref a) X.env hds2) _ _ _
          exact ih (hno rfl)
      | @named x n i c ts b₀ suite np pos' hds2 l2 hi hln hc hsu r ih =>
        intro w
        obtain ⟨b, hb1, hyes, hno⟩ := w
        refine wpAny_handleBy_cons (codeAny_handlers_test ?_) (by intro q; cases q)
        have LM := PySem.W.exm_one (M := model X.prog X.w) (J3.kIn) LT hb1
        refine test hc (LM.here ?_)
        cases b with
        | true =>
          refine codeAny_handlers_suite_as ?_
          refine HandSPX.lands_againZ fl3 fun h4 fl4 up4 => ?_
          have J4 : Inv X pins σ' H' { s' with heap := h4 } := J.landed nb fl4.1 ((up.trans up3).trans up4) os ag
          obtain ⟨oe4, vs4, he4, hz4, hd4⟩ := fl4.there
          have S4 := J4.suite he4 hd4 na nL nF
          refine store_ok (X := X.suite a ((a, oe4) :: (X.pn ++ pins))) (v := .ref a) S4 hN hi (.inl hln) rfl (fun s5 S5 => ?_) (.inr hln)
          refine wpAny_mono ((hsu a oe4 cls d (X.pn ++ pins) hz4 ⟨_, hd4⟩).run [] s5 _ H' _ S5 (hyes rfl a na)) (fun f s6 hsp => ?_) (fun _ _ z => False.elim z)
          have end_ : ∀ {σ6 : L2.St} {H6 : Hp} {Q : Shared → Prop}, Inv (X.suite a ((a, oe4) :: (X.pn ++ pins))) [] σ6 H6 s6 → (∀ s7, Inv X pins (σ6.set i none) H6 s7 → Q s7) →
              wpAny (model X.prog X.w) X.A (do bindName X.env n .none; unbindBehindTheSuite X.env n pos') (fun _ s7 => Q s7) X.xe s6 := fun {σ6 H6 Q} S6 hq => gone_ok (S6.unsuite ok) hN hi hln hq
          cases f with
          | next =>
            obtain ⟨σ6, H6, S6, q6⟩ := hsp
            exact end_ S6 fun s7 J7 => ⟨_, _, J7, q6⟩
          | brk =>
            obtain ⟨σ6, H6, S6, q6⟩ := hsp
            exact end_ S6 fun s7 J7 => ⟨_, _, J7, q6⟩
          | cont =>
            obtain ⟨σ6, H6, S6, q6⟩ := hsp
            exact end_ S6 fun s7 J7 => ⟨_, _, J7, q6⟩
          | ret u =>
            obtain ⟨v6, σ6, H6, S6, r6, q6⟩ := hsp
            exact end_ S6 fun s7 J7 => ⟨_, _, _, J7, r6, q6⟩
        | false =>
          show wpAny _ X.A (handleBy (.ref a) X.env hds2) _ _ _
          exact ih (hno rfl)
    exact go hh w
  · cases f with
    | next =>
      obtain ⟨σ', H', J', q⟩ := hsp
      exact wpAny_execs_nil ⟨σ', H', J'.ofTry ok, q⟩
    | brk =>
      obtain ⟨σ', H', J', q⟩ := hsp
      exact ⟨σ', H', J'.ofTry ok, q⟩
    | cont =>
      obtain ⟨σ', H', J', q⟩ := hsp
      exact ⟨σ', H', J'.ofTry ok, q⟩
    | ret u =>
      obtain ⟨v, σ', H', J', r, q⟩ := hsp
      exact ⟨v, σ', H', J'.ofTry ok, r, q⟩
end
end T
set_option maxHeartbeats 2000000
namespace T
open PySem PySem.Spec PyProof.Rows L2 NdefX

/-! ## an error class over ValueError whose __init__ says super().__init__(..), and its subclasses -/
/-- what the written part says of a class C beside the class D of the __init__ -/
structure RefC (K : Fg) (D C : Addr) : Prop where
  oex : OexC K C
  mro : PySem.W.mroIn K C (.ref D) = some true
  sup : PySem.W.ks_superIn K C D "__init__" = some (some (.builtin "ValueError.__init__"))
  sub : PySem.W.subIn K (.ref C) (.type "ValueError") = some true
  no : PySem.W.findIn K (.ref C) "what" = some none
section
variable {X : Cx} {pins : List (Addr × Obj)} {σ : L2.St} {H : Hp} {s : Shared} {A : Around} {E : Value → Shared → Prop}
/-- the method-wrapper called -/
theorem call_mw {C D e u : Addr} {rest : List Value} {Q : Value → Shared → Prop} (T : RefC X.K D C) (I : Inv X pins σ H s) (he : H e = some (exo e C none)) (hu : s.heap.get? u = some (PySem.W.kxs_mw "ValueError.__init__" e)) (hl : rest.length ≤ sizeLine)
    (h : ∀ s', Inv X pins σ H s' → Q .none s') : wpAny (model X.prog X.w) A (call (.ref u) rest) Q E s := by
  obtain ⟨nm, q, N, bs, bm, sn, sub, ab, col, dd, k0, k1, k2, k3, k5, hC, hbm⟩ := T.oex.cls
  obtain ⟨t1, ho⟩ := exo_at I.hok he
  have hCh := I.kIn _ _ hC
  obtain ⟨hp, g, d, t, os⟩ := s
  refine wpAny_call (codeAny_of_tree ?_)
  show wpAny _ A.in1 (callAny (.ref u) ⟨rest, []⟩) _ _ _
  simp only [callAny]
  refine wpAny_bind (wpAny_load hu ?_)
  simp only [PySem.W.kxs_mw, show (Value.type "method-wrapper" == Value.type "method" || Value.type "method-wrapper" == Value.type "builtin_function_or_method" || Value.type "method-wrapper" == Value.type "method-wrapper") = true by decide, if_true]
  refine PySem.W.KFB.if_so (by decide) ?_
  refine wpAny_bind (PySem.W.check_bound_init F.excBase_ValueError.toExcCallFacts hCh ho rfl ?_)
  refine wpAny_bind (wpAny_pure (wpAny_pure ?_))
  refine ⟨plainId_quiet F.excBase_ValueError.init.plain _, codeAny_builtin F.excBase_ValueError.initEntry ?_⟩
  refine PySem.W.exc_init_tree (cls := .ref C) (t0 := t1) (dv := none) (c2 := .none) (c3 := .none) (b4 := .bool false) ho hl fun h' k e' t' => ?_
  have J := I.write (t' := t) (x := e) (e := e) (o := exo e C none) (by rw [he]; exact True.intro) (.inl rfl) k ⟨_, e'⟩ (exo_ok e')
  have eu : upd H e (exo e C none) = H := by
    funext b
    by_cases hb : b = e
    · rw [hb, upd_same, he]
    · rw [upd_ne hb]
  rw [eu] at J
  exact h _ J
end
/-- what stands at the walk of that __init__ -/
def spRef (K : Fg) (D : Addr) : Sp := fun vs H Q _ => ∃ (a C : Addr) (v : V), vs = [.ref a, v] ∧ RefC K D C ∧ H a = some (exo a C none) ∧
  ∀ dx, H dx = none → dx ≠ a → Q .non (upd (upd H dx (exd dx [(("what" : Str), v)])) a (exo a C (some dx)))
def refBody (p0 p1 p2 p3 p4 p5 p6 p7 p8 p9 : Pos) (z : Str) (j : Nat) : List Stmt :=
  [.Expr (.Call (.Attribute (.Call (.Name "super" p0) [] [] p1) "__init__" p2) [.Constant (.str z) j p3] [] p4) p5, .Assign [.Attribute (.Name "self" p6) "what" p7] (.Name "what" p8) p9]
section
variable {P : Program} {w : World} {K : Fg} {mg : Str → Option Value} {base : Heap} {k : Nat} {f D cc c : Addr} {oc cl ccl : Value} {od cld cdd : Option Addr} {osl csl ccs : Array (Option Value)} {name qual : Str} {params : Arguments} {scope : Scope} {dV kV doc pm ct : Value} {an : Option Addr}
  {p0 p1 p2 p3 p4 p5 p6 p7 p8 p9 : Pos} {z : Str} {j : Nat} {ar : Arg} {vs0 : Array Value} {file : Str} {tf : Tok} {cdD : ClassData}
theorem he_super {env : Env} (hl : (p2.endLine == p4.line) = true) : eval (.Call (.Attribute (.Call (.Name "super" p0) [] [] p1) "__init__" p2) [.Constant (.str z) j p3] [] p4) env = (do
      let ov ← attributeBase (.Call (.Name "super" p0) [] [] p1) "__init__" env (eval (.Call (.Name "super" p0) [] [] p1) env)
      standAt p2.atName
      let (f, first) ← holding [ov] (getMethod ov "__init__" (do return (← importBound (.Call (.Name "super" p0) [] [] p1) env).getD true))
      callWith p4 f first (backTo p4 (starEach [.Constant (.str z) j p3] env)) []) := by
  show (do
    let ov ← attributeBase (.Call (.Name "super" p0) [] [] p1) "__init__" env (eval (.Call (.Name "super" p0) [] [] p1) env)
    standAt p2.atName
    methodCall (.Call (.Name "super" p0) [] [] p1) "__init__" p2 p4 env ov (1 + 0) (backTo p4 (starEach [.Constant (.str z) j p3] env)) []) = _
  have hm : methodCallForm (1 + 0) (backTo p4 (starEach [.Constant (.str z) j p3] env)) [] = true := rfl
  have e : ∀ ov, methodCall (.Call (.Name "super" p0) [] [] p1) "__init__" p2 p4 env ov (1 + 0) (backTo p4 (starEach [.Constant (.str z) j p3] env)) [] = (do
      let (f, first) ← holding [ov] (getMethod ov "__init__" (do return (← importBound (.Call (.Name "super" p0) [] [] p1) env).getD true))
      callWith p4 f first (backTo p4 (starEach [.Constant (.str z) j p3] env)) []) := fun ov => by
    unfold methodCall calleeOf methodCallPos
    rw [hm, if_pos rfl, if_pos (by rw [hl]; rfl)]
    simp only [pure_bind]
  simp only [e]
theorem ok_refI (lk : K.lookup f = some ⟨oc, od, .func (PySem.W.fnX name qual params (refBody p0 p1 p2 p3 p4 p5 p6 p7 p8 p9 z j) scope [("__class__", cc)] dV kV doc pm an (.ref c) ct), osl⟩) (hcd : PySem.W.codeIn K (.ref c) qual = true)
    (S : NScope ["self", "what", "__class__"] ["self", "what"] ["__class__"] scope) (hks : scope.names.lookup ("super" : Str) = some .globalImplicit) (hp : (params.posonlyargs ++ params.args).head? = some ar) (har : ar.arg = "self")
    (hcc : K.lookup cc = some ⟨cl, cld, .cell (some (.ref D)), csl⟩) (hcode : K.lookup c = some ⟨ccl, cdd, .fields vs0, ccs⟩) (hvs : vs0[2]? = some (.str file tf)) (hfile : ((P.main.file : Str) == file) = true) (hD : PySem.W.clsIn K D = some cdD)
    (hms : mg "super" = none) (htop : (P.main.scope.names.lookup ("super" : Str)).isSome = false) (hopq : PySem.W.nsIn K cStatics "thirdparty.any" = some none) (hln : (p2.endLine == p4.line) = true) :
    FnOk P w K mg base (L2.CX P w) (k + 1) f (PySem.W.fnX name qual params (refBody p0 p1 p2 p3 p4 p5 p6 p7 p8 p9 z j) scope [("__class__", cc)] dV kV doc pm an (.ref c) ct) ["self", "what"] (spRef K D) := by
  refine ⟨fun vs H Q E ⟨a, C, v, e, _⟩ => by rw [e]; rfl, fun A outer s H args us vs Q E hr e0 hb r ⟨a, C, v, ev, T, ha, hq⟩ => ?_⟩
  have KX : K.In s.heap := e0.mod.kin.keeps fun b o e => (e0.bs b o e).1
  have lim : s.heap.NoLimit := e0.mod.nolimit.keeps fun b o e => (e0.bs b o e).1
  subst ev
  refine PySem.ks_codeAny_call_defAt hr.depth (KX _ _ lk) rfl lim (PySem.W.codeRec_of KX hcd) rfl hb S.nocell (fun ⟨n, _⟩ hy => S.par n (List.of_mem_zip hy).1) (fun h₁ hns kp => ?_) S.co S.gen S.kind
  have hccH := e0.bs _ _ (e0.mod.kin _ _ hcc)
  have CA : CellsAt [(("__class__" : Str), cc)] ["__class__"] [some (V.ref D)] s.heap H := {
    len := rfl
    all := fun y c' e => by
      have ec : c' = cc := by
        rw [show ([(("__class__" : Str), cc)].lookup y) = if y = "__class__" then some cc else none by
          unfold List.lookup
          by_cases q : y = "__class__"
          · subst q; rfl
          · rw [if_neg q, show (y == ("__class__" : Str)) = false by simpa using q]; rfl] at e
        split at e
        · exact (Option.some.inj e).symm
        · cases e
      subst ec
      exact ⟨hccH.2, _, _, hccH.1, rfl⟩
    inj := fun x y c' e1 e2 => by
      have key : ∀ {y : Str} {c' : Addr}, [(("__class__" : Str), cc)].lookup y = some c' → y = "__class__" := fun {y c'} e => by
        by_cases q : y = "__class__"
        · exact q
        · rw [List.lookup, show (y == ("__class__" : Str)) = false by simpa using q] at e
          cases e
      rw [key e1, key e2]
    has := fun i y e => by
      cases i with
      | zero =>
        cases e
        exact ⟨cc, rfl, fun v hv => by
          cases hv
          exact ⟨.ref D, rfl, _, hccH.1, rfl⟩⟩
      | succ i => cases e }
  have I := inv_startN (CX := L2.CX P w) (P := P) (w := w) (K := K) (mg := mg) (base := base) (F := ⟨name, qual, params, refBody p0 p1 p2 p3 p4 p5 p6 p7 p8 p9 z j, scope, [("__class__", cc)], c⟩) (f := f) (E := E) (tk := s.toks + (([("self" : Str), "what"] : List Str).zip us).length) S hr.hd e0 rfl r CA hns kp
  have hr2 := hr.deeper (envF ⟨name, qual, params, refBody p0 p1 p2 p3 p4 p5 p6 p7 p8 p9 z j, scope, [("__class__", cc)], c⟩ f s.heap.objs.size)
  revert I
  generalize hX : ncx (L2.CX P w) P w K mg base ["self", "what", "__class__"] ⟨name, qual, params, refBody p0 p1 p2 p3 p4 p5 p6 p7 p8 p9 z j, scope, [("__class__", cc)], c⟩ f A outer s H E = X
  intro I
  have eK : X.K = K := by rw [← hX]; rfl
  have eS : X.env.scope = scope := by rw [← hX]; rfl
  have eP : X.prog = P := by rw [← hX]; rfl
  have eM : X.mg = mg := by rw [← hX]; rfl
  have eL : X.env.locals = s.heap.objs.size := by rw [← hX]; rfl
  have eC : X.env.cells = [(("__class__" : Str), cc)] := by rw [← hX]; rfl
  have eF : X.env.func = some f := by rw [← hX]; rfl
  have eO : X.env.code = .ref c := by rw [← hX]; rfl
  have eN : X.N = [("self" : Str), "what", "__class__"] := by rw [← hX]; rfl
  refine PySem.ks_wpAt_mono (Q := fun fl s' => SP X [] { nx := fun _ H' => Q .non H', rt := Q } fl s') (E := X.xe) ?_ ?_ ?_
  · have body : PySem.wpAt (model X.prog X.w) X.A (.func (refBody p0 p1 p2 p3 p4 p5 p6 p7 p8 p9 z j) X.env) (execs (refBody p0 p1 p2 p3 p4 p5 p6 p7 p8 p9 z j) X.env) (fun fl s' => SP X [] { nx := fun _ H' => Q .non H', rt := Q } fl s') X.xe { s with heap := h₁, toks := s.toks + (([("self" : Str), "what"] : List Str).zip us).length } := by
      have X1 : X.K.In h₁ := I.kIn
      have fo : h₁.get? f = some ⟨oc, od, .func (PySem.W.fnX name qual params (refBody p0 p1 p2 p3 p4 p5 p6 p7 p8 p9 z j) scope [("__class__", cc)] dV kV doc pm an (.ref c) ct), osl⟩ := by
        rw [← eK] at lk
        exact X1 _ _ lk
      have co : h₁.get? c = some ⟨ccl, cdd, .fields vs0, ccs⟩ := by
        rw [← eK] at hcode
        exact X1 _ _ hcode
      have ce : h₁.IsCell cc (some (.ref D)) := ⟨_, kp _ _ hccH.1, rfl⟩
      have T' : RefC X.K D C := by rw [eK]; exact T
      obtain ⟨oD, hD1, hD2⟩ : ∃ oD, h₁.get? D = some oD ∧ oD.data = .cls cdD := by
        have hD' := hD
        unfold PySem.W.clsIn at hD'
        split at hD'
        · rename_i a1 a2 a3 a4 ho
          cases hD'
          rw [← eK] at ho
          exact ⟨_, X1 _ _ ho, rfl⟩
        · cases hD'
      obtain ⟨t1, hx⟩ := exo_at I.hok ha
      have eSelf : (([("self" : Str), "what"] : List Str).zip us).reverse.lookup ("self" : Str) = some (.ref a) := by
        cases r with
        | @cons _ u0 _ ur ra rw' =>
          obtain rfl : u0 = Value.ref a := ra
          exact zip_look (i := 0) (by decide) rfl rfl
      refine PySem.ks_wpAt_execs_cons (PySem.ks_wpAt_Expr_any (PySem.ks_wpAt_MethodCall ?_ (he_super hln)) (by show (X.env.scope.kind == .module && _) = false; rw [eS, S.kind]; rfl))
      refine PySem.ks_wpAt_super_base (f := f) (cc := c) (by show X.env.scope.names.lookup _ = _; rw [eS]; exact hks) (by show X.env.scope.names.lookup _ = _; rw [eS]; exact S.frk _ (List.mem_singleton.mpr rfl)) (by decide) eF fo rfl hp eO co rfl hvs (by rw [eP]; exact hfile) (by rw [eP]; exact htop) ?_
      have kk : X.env.scope.kind = .function := by rw [eS]; exact S.kind
      obtain ⟨mb, b1, b2⟩ := I.mod.blt
      refine PySem.W.ks_loadName_global kk (by show X.env.scope.names.lookup _ = _; rw [eS]; exact hks) (Calls.loadGlobal_builtin (by rw [I.ok.glob]; exact I.mod.glob.keeps I.bk) (by rw [eM]; exact hms) (by rw [I.ok.blt]; exact b1.keeps I.bk) ((b2 "super" (by decide)).trans (by kernel_rfl)) ⟨rfl, ?_⟩)
      refine wpAny_loadName_free kk (by show X.env.scope.names.lookup _ = _; rw [eS]; exact S.frk _ (List.mem_singleton.mpr rfl)) (by rw [eC]; rfl) ce ?_
      rw [har]
      refine wpAny_loadName_local kk (by show X.env.scope.names.lookup _ = _; rw [eS]; exact S.par _ (List.mem_cons_self ..)) (by rw [eL]; exact hns) eSelf ?_
      refine PySem.ks_wpAny_isType_cls hD1 hD2 ⟨rfl, ?_⟩
      refine PySem.ks_wpAny_call_super hD1 hD2 hx rfl (fun c0 e => by cases e) (PySem.W.looks_mroIn X1 T'.mro) (fun h2 e2 k2 => ?_)
      have hsup := T'.sup
      unfold PySem.W.ks_superIn at hsup
      cases hc : PySem.W.clsIn X.K C with
      | none =>
        rw [hc] at hsup
        cases hsup
      | some cd =>
        rw [hc] at hsup
        have I2 : Inv X [] _ H { heap := h2, gens := s.gens, drawn := s.drawn, toks := s.toks + (([("self" : Str), "what"] : List Str).zip us).length, os := s.os } := I.kept k2
        have X2 : X.K.In h2 := I2.kIn
        have J0 : PySem.W.InstAt h2 a _ C none := ⟨k2 _ _ hx, rfl, rfl, trivial⟩
        refine PySem.W.kxs_getMethod PySem.W.kxs_ValueError e2 (PySem.W.looks_opaque X2 (by rw [eK]; exact hopq)) (l₀ := cd.mro) (fun A Q E s k q => wpAny_bind ((PySem.W.looks_clsIn X2 hc) A _ E s k (wpAny_pure q))) rfl X2 hsup (J0.type.andThen (PySem.W.looks_subIn X2 T'.sub)) (PySem.W.ks_ne X2 J0 hc) (by decide) ?_
        have k3 : ∀ b o, h2.get? b = some o → (h2.push (PySem.W.kxs_mw "ValueError.__init__" a)).get? b = some o := fun b o e => Heap.get?_push_of_some _ e
        refine PySem.W.kxs_callWith (i := "ValueError.__init__") (x := a) rfl (Calls.evalArgs_plain ?_)
        refine Calls.spliced_cons (Calls.Constant_str (pos := p3) (k := j) (Calls.spliced_nil ⟨Heap.get?_push_at rfl rfl, ?_⟩))
        refine call_mw T' (I2.kept k3) ha (Heap.get?_push_at rfl rfl) (by show 1 ≤ sizeLine; rw [sizeLine_eq]; decide) fun s5 J => ?_
        refine PySem.wpAt_of_wpAny ?_
        have r1 : PSs X [.Assign [.Attribute (.Name "self" p6) "what" p7] (.Name "what" p8) p9] _ := pss_cons (ps_ost (X := X) (f := "what") (pe_var (i := 0) (by rw [eN]; rfl) (by show Vis X.env.scope _; rw [eS]; exact .inl (S.par _ (List.mem_cons_self ..))) (by decide) (by decide)) (pe_var (i := 1) (by rw [eN]; rfl) (by show Vis X.env.scope _; rw [eS]; exact .inl (S.par _ (List.mem_cons_of_mem _ (List.mem_cons_self ..)))) (by decide) (by decide))) pss_nil
        refine r1.run [] s5 _ H _ J ?_
        exact ⟨v, rfl, .ref a, rfl, a, C, rfl, T'.oex, T'.no, .inl ⟨ha, fun dx h1 h2 => hq dx h1 h2⟩⟩
    subst hX
    exact body
  · intro fl s' hs
    have fin : ∀ {σ' : L2.St} {H' : Hp} {v' : V} {u : Value}, Inv X [] σ' H' s' → L2.RelV v' u → Q v' H' → L2.CE outer P w H s Q u s' := by
      subst hX
      exact fun {σ' H' v' u} J rv q => ⟨v', H', J.os, J.bare, J.base, J.hok, rv, q⟩
    cases fl with
    | ret u =>
      obtain ⟨v', σ', H', J, rv, q⟩ := hs
      exact fin J rv q
    | next =>
      obtain ⟨σ', H', J, q⟩ := hs
      exact fin (v' := V.non) (u := Value.none) J rfl q
    | brk =>
      obtain ⟨_, _, _, q⟩ := hs
      exact False.elim q
    | cont =>
      obtain ⟨_, _, _, q⟩ := hs
      exact False.elim q
  · intro e s' he
    subst hX
    exact he
end
end T
set_option maxHeartbeats 1000000
namespace T
open PySem PySem.Spec PyProof.Rows L2

/-! ## raise C(x) -/
/-- what is known of an error class by its name -/
structure RaiseC (P : Program) (w : World) (K : Fg) (mg : Str → Option Value) (base : Heap) (x : Str) : Prop where
  ex : ∃ (C D fI : Addr) (fd : FuncData), mg x = some (.ref C) ∧ RefC K D C ∧ PySem.W.findIn K (.ref C) "__init__" = some (some (.ref fI)) ∧ PySem.W.typeIn K (.ref fI) = some (.type "function") ∧
    FnOk P w K mg base (L2.CX P w) 1 fI fd ["self", "what"] (spRef K D) ∧ Binds K fd ["self", "what"] []
theorem passes_no {X : Cx} : Passes (L2.CX X.prog X.w) X (fun _ _ _ => False) := fun pins σ H s e s' I h => by
  obtain ⟨a, B, H', cls, d, _, _, _, _, _, _, _, z⟩ := h
  exact z.elim
theorem heap_made {H : Hp} {a dx : Addr} {o1 o2 o3 o4 : HO} (ha : H a = none) (hd : dx ≠ a) : upd (del (upd (upd (upd H a o1) dx o2) a o3) a) dx o4 = upd H dx o4 := by
  funext b
  by_cases h1 : b = dx
  · rw [h1, upd_same, upd_same]
  · rw [upd_ne h1, upd_ne h1]
    by_cases h2 : b = a
    · rw [h2, del_same, ha]
    · rw [del_ne h2, upd_ne h2, upd_ne h1, upd_ne h2]
section
variable {X : Cx} {B : Bs} {Z : Zt} {Γ : List Bd} {R : Rs} {e : Expr} {pos pos' p : Pos} {k : Nat} {α : Type} {c : Cd α}
theorem s1_raise {x : Str} (f : α → PyData) (dp : ∀ {K : Fg} {F : Hp} {y : α} {v : V}, c.rp K F y v → Dp K F v (f y)) (O : Ok X B Z k) (Rc : RaiseC X.prog X.w X.K X.mg X.base x) (h : EV X B e Γ (fun Γ1 b => ∃ y, b = va c y ∧ Z ⟨x, f y⟩ Γ1))
    (hk : Nat.ble 2 k = true := by rfl) (hg : Gl X x := by rfl) (hdb : (x == ("__debug__" : Str)) = false := by decide) (he : starEach (e :: []) X.env = (false, eval e X.env) :: starEach [] X.env := by rfl) : S1 X B (.Raise (some (.Call (.Name x p) [e] [] pos)) none pos') Γ R := fun t σ H D pn s d => by
  obtain ⟨C, Dd, fI, fd, hm, T, iC, tI, G, hb⟩ := Rc.ex
  obtain ⟨W, tk, hW⟩ := O.exn
  refine wp_of_ps (ps_raise O.calm tk (pmk_oex (k := 1) (ds := []) (dvs := []) T.oex iC tI G (O.room.mono (Nat.le_of_ble_eq_true hk)) hb .nil passes_no hg hm (pa_cons pe_wp pa_nil he) hdb he rfl)) ?_
  refine h t σ H _ s fun Γ1 b ⟨y, eb, zz⟩ v H1 s1 => ?_
  subst eb
  obtain ⟨F, own, wd, hS, ⟨v', ev, r⟩, hT⟩ := s1
  cases ev
  refine ⟨(by show 1 ≤ 1000; decide), fun a ha => ⟨a, C, v, rfl, T, upd_same, fun dx hd1 hd2 => ⟨rfl, dx, _, upd_same, by rw [upd_ne hd2]; exact upd_same, ?_, ?_⟩⟩⟩
  · rw [upd_ne hd2] at hd1
    exact hd1
  · have hdx : H1 dx = none := by
      rw [upd_ne hd2] at hd1
      exact hd1
    rw [heap_made ha hd2]
    refine hW _ _ zz _ _ σ _ ?_
    refine ⟨C, dx, v, upd F dx (.xd [(("what" : Str), v)]), own, rfl, hm, rfl, wd.newF hdx, HoldS.up (own := own) (H := H1) (Same.newH (wd.none_F hdx)) (fun b j hj => ⟨hj, fun o e => Same.newH hdx b o e⟩) hS, upd_same, ?_⟩
    exact dp_up (Same.newH (wd.none_F hdx)) (dp r)
end
end T
set_option maxHeartbeats 1000000
namespace T
open PySem PySem.Spec PyProof.Rows L2

/-! ## try at the top of a def -/
def S10 (X : Cx) (B : Bs) (st : Stmt) (Γ : List Bd) (R : Rs) : Prop := ∀ σ H D, Pin B σ → Sat X.K B [] σ Γ H → DOk X.K B [] R D → wpS X st D σ H
def SB0 (X : Cx) (B : Bs) (ss : List Stmt) (Γ : List Bd) (R : Rs) : Prop := ∀ σ H D, Pin B σ → Sat X.K B [] σ Γ H → DOk X.K B [] R D → wpSs X ss D σ H
/-- a slot with the caught exception at a, its dict at dd holding what -/
def bx (a dd : Addr) (what : PyData) : Bd := ⟨fun K F _ ov _ => ov = some (.ref a) ∧ ∃ v, F dd = some (.xd [(("what" : Str), v)]) ∧ Dp K F v what, fun s _ ⟨e, v, h, r⟩ => ⟨e, v, s _ _ h, dp_up s r⟩⟩
def offR (i : Nat) (R : Rs) : Rs := { nx := fun Γ => R.nx (Γ.set i un), rt := R.rt, bk := fun Γ => R.bk (Γ.set i un), ct := fun Γ => R.ct (Γ.set i un) }
section
variable {X : Cx} {B : Bs} {Z : Zt} {Γ : List Bd} {R : Rs} {st : Stmt} {ss body : List Stmt} {pos : Pos} {k : Nat} {K : Fg} {D : Ends}
theorem SB.zero (h : SB X B ss Γ R) : SB0 X B ss Γ R := fun σ H D pn s d => h [] σ H D pn s d
theorem S1.zero (h : S1 X B st Γ R) : S10 X B st Γ R := fun σ H D pn s d => h [] σ H D pn s d
theorem sb0_cons (h : S10 X B st Γ { R with nx := fun Γ' => SB0 X B ss Γ' R }) : SB0 X B (st :: ss) Γ R := fun σ H D pn s d =>
  wp_of_pss (pss_cons ps_wp pss_wp) (h σ H { D with nx := wpSs X ss D } pn s ⟨fun Γ' h' σ' H' pn' s' => h' σ' H' D pn' s' d, d.rt, d.bk, d.ct⟩)
theorem pin_nil (hp : B.pins = []) (σ : L2.St) : Pin B σ := fun j h => by
  rw [hp] at h
  cases h
theorem sat_off {σ : L2.St} {H : Hp} {i : Nat} (s : Sat K B [] σ Γ H) : Sat K B [] (σ.set i none) (Γ.set i un) H := by
  obtain ⟨F, own, wd, hS, hT⟩ := s
  refine ⟨F, own, wd, ⟨by rw [List.length_set, List.length_set]; exact hS.1, fun j b e => ?_⟩, hT⟩
  by_cases ij : i = j
  · subst ij
    have hl := (List.getElem?_eq_some_iff.mp e).1
    rw [List.length_set] at hl
    rw [List.getElem?_set_self hl] at e
    cases e
    exact trivial
  · rw [List.getElem?_set_ne ij] at e
    have h := hS.2 j b e
    have es : slot (σ.set i none) j = slot σ j := by
      unfold slot
      rw [List.getElem?_set_ne ij]
    rw [es]
    exact h
theorem DOk.off {i : Nat} (hp : B.pins = []) (d : DOk K B [] R D) : DOk K B [] (offR i R) (offE i D) :=
  ⟨fun Γ' h σ' H' pn s => d.nx _ h _ _ (pin_nil hp _) (sat_off s), d.rt, fun Γ' h σ' H' pn s => d.bk _ h _ _ (pin_nil hp _) (sat_off s), fun Γ' h σ' H' pn s => d.ct _ h _ _ (pin_nil hp _) (sat_off s)⟩
/-- what is wished of an exception, clause by clause -/
inductive HT (X : Cx) (B : Bs) (R : Rs) : List ExceptHandler → (Zt → Zt) → Prop
  | nil : HT X B R [] (fun Z => Z)
  | plain {x : Str} {Cx : Addr} {b₀ : Stmt} {suite : List Stmt} {np pos' : Pos} {hds : List ExceptHandler} {w : Zt → Zt} (hc : Names X x (.ref Cx)) (r : HT X B R hds w) :
      HT X B R (.ExceptHandler (some (.Name x np)) none (b₀ :: suite) pos' :: hds) (fun Z ex Γ => ∃ Ce b, X.mg ex.cls = some (.ref Ce) ∧ PySem.W.exmOne X.K (.ref Ce) (.ref Cx) = some b ∧
        (b = true → ∀ a oe pn dd, Zc (.ref Ce) (some dd) oe → (∃ vs, oe.data = .fields vs) → SB0 (X.suite a ((a, oe) :: pn)) B (b₀ :: suite) Γ R) ∧ (b = false → w Z ex Γ))
  | named {x n : Str} {i : Nat} {Cx : Addr} {b₀ : Stmt} {suite : List Stmt} {np pos' : Pos} {hds : List ExceptHandler} {w : Zt → Zt} (hi : X.N[i]? = some n) (hln : X.env.kindOf n = some .local) (hc : Names X x (.ref Cx)) (r : HT X B R hds w) :
      HT X B R (.ExceptHandler (some (.Name x np)) (some n) (b₀ :: suite) pos' :: hds) (fun Z ex Γ => ∃ Ce b, X.mg ex.cls = some (.ref Ce) ∧ PySem.W.exmOne X.K (.ref Ce) (.ref Cx) = some b ∧
        (b = true → i < Γ.length ∧ ∀ a oe pn dd, Zc (.ref Ce) (some dd) oe → (∃ vs, oe.data = .fields vs) → SB0 (X.suite a ((a, oe) :: pn)) B (b₀ :: suite) (Γ.set i (bx a dd ex.what)) (offR i R)) ∧ (b = false → w Z ex Γ))
theorem HT.cls {hds : List ExceptHandler} {w : Zt → Zt} (hp : B.pins = []) (h : HT X B R hds w) : ∃ l, HcOk X hds l ∧ ∀ {Z : Zt} {Wout : WX} {D : Ends}, DOk X.K B [] R D → (∀ e Γ, Z e Γ → ∀ cls d σ H, Flew X B e Γ cls d σ H → Wout cls d σ H) →
    ∀ e Γ, w Z e Γ → ∀ cls d σ H, Flew X B e Γ cls d σ H → wCh X.K Wout D l cls d σ H := by
  induction h with
  | nil => exact ⟨[], .nil, fun d hW e Γ z cls dd σ H f => hW e Γ z cls dd σ H f⟩
  | @plain x Cx b₀ suite np pos' hds w hc r ih =>
    obtain ⟨l, hl, q⟩ := ih
    refine ⟨(.ref Cx, none, fun a cls d => fun D σ H => ∀ oe pn, Zc cls d oe → (∃ vs, oe.data = .fields vs) → wpSs (X.suite a ((a, oe) :: pn)) (b₀ :: suite) D σ H) :: l, .plain hc (fun a oe cls d pn hz hd => ⟨fun pins s σ H D I h => (h oe pn hz hd).run pins s I⟩) hl, fun {Z Wout D} dok hW e Γ z cls d σ H f => ?_⟩
    obtain ⟨Ce, b, m1, m2, yes, no⟩ := z
    have f' := f
    obtain ⟨C, dd, v, F, own, e1, e2, e3, wd, hS, e4, e5⟩ := f
    rw [m1] at e2
    cases e2
    subst e1 e3
    exact ⟨b, m2, fun hb a ha oe pn hz hd => yes hb a oe pn dd hz hd σ H D (pin_nil hp _) ⟨F, own, wd, hS, trivial⟩ dok, fun hb => q dok hW e Γ (no hb) _ _ σ H f'⟩
  | @named x n i Cx b₀ suite np pos' hds w hi hln hc r ih =>
    obtain ⟨l, hl, q⟩ := ih
    refine ⟨(.ref Cx, some i, fun a cls d => fun D σ H => ∀ oe pn, Zc cls d oe → (∃ vs, oe.data = .fields vs) → wpSs (X.suite a ((a, oe) :: pn)) (b₀ :: suite) D σ H) :: l, .named hi hln hc (fun a oe cls d pn hz hd => ⟨fun pins s σ H D I h => (h oe pn hz hd).run pins s I⟩) hl, fun {Z Wout D} dok hW e Γ z cls d σ H f => ?_⟩
    obtain ⟨Ce, b, m1, m2, yes, no⟩ := z
    have f' := f
    obtain ⟨C, dd, v, F, own, e1, e2, e3, wd, hS, e4, e5⟩ := f
    rw [m1] at e2
    cases e2
    subst e1 e3
    refine ⟨b, m2, fun hb a ha oe pn hz hd => ?_, fun hb => q dok hW e Γ (no hb) _ _ σ H f'⟩
    obtain ⟨hlt, go⟩ := yes hb
    refine go a oe pn dd hz hd _ H _ (pin_nil hp _) ?_ (DOk.off hp dok)
    have s0 : Sat X.K B [(V.ref a, bx a dd e.what)] σ Γ H := ⟨F, own, wd, hS, ⟨rfl, v, e4, e5⟩, trivial⟩
    exact s0.store (by rw [hS.1]; exact hlt)
theorem s10_try {h₀ : ExceptHandler} {hds : List ExceptHandler} {w : Zt → Zt} (O : Ok X B Z k) (hp : B.pins = []) (hh : HT X B R (h₀ :: hds) w) (hb : ∀ pn xe, Ok (X.tr pn xe) B (w Z) k → SB0 (X.tr pn xe) B body Γ R)
    (hs : X.stack = X.env :: X.outer := by rfl) (hf : X.env.frame = some X.env.locals := by rfl) : S10 X B (.Try body (h₀ :: hds) [] [] pos) Γ R := fun σ H D pn s d => by
  obtain ⟨W, tk, hW⟩ := O.exn
  obtain ⟨l, hl, q⟩ := HT.cls hp hh
  refine wp_of_ps (ps_try_chain (tb := fun W' => fun D σ H => ∀ pn xe, Takes (X.tr pn xe) W' → PassesOwn (model X.prog X.w) X.A X.env xe → wpSs (X.tr pn xe) body D σ H) hs hf O.nd tk (fun W' pn xe t1 t2 => ⟨fun pins s σ H D I h => (h pn xe t1 t2).run pins s I⟩) hl) ?_
  intro pn' xe t1 t2
  exact hb pn' xe ⟨O.calm, O.nd, O.room, t2, _, t1, fun e Γ' z cls dd σ' H' f => q d hW e Γ' z cls dd σ' H' f⟩ σ H D pn s d
end
end T
set_option maxHeartbeats 1000000
namespace T
open PySem PySem.Spec PyProof.Rows L2

/-! ## e.what, values of any shape -/
section
variable {X : Cx} {B : Bs} {Z : Zt} {Γ : List Bd} {P : List Bd → Bd → Prop} {a b e : Expr} {es : List Expr} {pos p p2 : Pos} {k : Nat} {α : Type} {c : Cd α}
structure WhatC (K : Fg) (C : Addr) : Prop where
  xf : XfC K C
  no : PySem.W.findIn K (.ref C) "what" = some none
theorem ev_what {n : Str} {ea dd C : Addr} {oe : Obj} {pn : List (Addr × Obj)} {d : PyData} (i : Nat) (Tw : WhatC X.K C) (hz : Zc (.ref C) (some dd) oe) (hf : ∃ vs, oe.data = .fields vs) (hΓ : Γ[i]? = some (bx ea dd d)) (h : P Γ (va cD d)) (hN : X.N[i]? = some n := by rfl)
    (hv : Vis X.env.scope n := by first | exact Or.inl rfl | exact Or.inr (Or.inl rfl) | exact Or.inr (Or.inr rfl)) (hd : (n == ("__debug__" : Str)) = false := by decide) (hcd : (n == ("__classdict__" : Str)) = false := by decide) : EV (X.suite ea ((ea, oe) :: pn)) B (.Attribute (.Name n p) "what" pos) Γ P := fun t σ H Q s q => by
  have s0 := s
  obtain ⟨F, own, wd, hS, hT⟩ := s
  obtain ⟨es, v, ev, r⟩ := hS.2 i _ hΓ
  refine wp_of_pe (pe_xf Tw.xf Tw.no hz hf (pe_var (X := X.suite ea ((ea, oe) :: pn)) (i := i) hN hv hd hcd)) ⟨.ref ea, slot_some es, rfl, rfl, dd, _, v, rfl, wd.fh _ _ ev, rfl, ?_⟩
  exact q _ _ h v H (Sat.push wd hS hT r)
/-- a value seen as data -/
theorem ev_toD (f : α → PyData) (dp : ∀ {K : Fg} {F : Hp} {x : α} {v : V}, c.rp K F x v → Dp K F v (f x)) (h : EV X B e Γ (fun Γ1 b1 => ∃ x, b1 = va c x ∧ P Γ1 (va cD (f x)))) : EV X B e Γ P := fun t σ H Q s q => h t σ H Q s fun Γ1 b1 ⟨x, e1, g⟩ v H1 s1 => by
  subst e1
  exact q _ _ g v H1 (Sat.cast (b := va c x) (b' := va cD (f x)) (fun F H f' ⟨v', e, r⟩ => ⟨v', e, dp r⟩) s1)
theorem xm_toD {m : Res α} (f : α → PyData) (dp : ∀ {K : Fg} {F : Hp} {x : α} {v : V}, c.rp K F x v → Dp K F v (f x)) (h : XM X B Z e Γ c m) : XM X B Z e Γ cD (m >>= fun x => .ok (f x)) := fun P g => ev_toD f dp (h _ (good_imp (good_bind g) fun x gx => ⟨x, rfl, gx⟩))
theorem xp_toD {x : α} (f : α → PyData) (dp : ∀ {K : Fg} {F : Hp} {x : α} {v : V}, c.rp K F x v → Dp K F v (f x)) (h : XM X B Z e Γ c (.ok x)) : XM X B Z e Γ cD (.ok (f x)) := xm_toD f dp h
theorem all2_dp {K : Fg} {F : Hp} : ∀ {ds : List PyData} {vs : List V}, All2 (cD.rp K F) ds vs → DpAll K F vs ds
  | [], [], _ => .nil
  | _ :: _, _ :: _, ⟨a, b⟩ => .cons a (all2_dp b)
  | [], _ :: _, z => z.elim
  | _ :: _, [], z => z.elim
/-- a tuple of data -/
theorem ev_dtup {x1} (h : EA X B es Γ (fun Γ1 as => ∃ ds : List PyData, as = ds.map (fun d => .tmp (va cD d)) ∧ ds.length ≤ 100000 ∧ P Γ1 (va cD (.tuple ds)))) : EV X B (.Tuple es x1 pos) Γ P :=
  ev_toD (c := cTup cD) (fun ds => .tuple ds) (fun {K F ds v} ⟨a, vs, e, h, r⟩ => by subst e; exact .tup (sqT h) (all2_dp r)) (ev_tup (c := cD) (fun t σ H Q s q => h t σ H Q s fun Γ' as ⟨ds, e, hl, g⟩ => q Γ' as ⟨ds, e, hl, ds, rfl, g⟩))
theorem dp_int {K : Fg} {F : Hp} {x : Int} {v : V} (h : cInt.rp K F x v) : Dp K F v (.int x) := by
  cases (show v = V.int x from h)
  exact .int x
theorem dp_bool {K : Fg} {F : Hp} {x : Bool} {v : V} (h : cBool.rp K F x v) : Dp K F v (.bool x) := by
  cases (show v = V.bl x from h)
  exact .bl x
theorem dp_str {K : Fg} {F : Hp} {x : Str} {v : V} (h : cStr.rp K F x v) : Dp K F v (.str x) := by
  cases (show v = V.str x from h)
  exact .str x
theorem dp_non {K : Fg} {F : Hp} {x : Unit} {v : V} (h : cNon.rp K F x v) : Dp K F v .none := by
  cases (show v = V.non from h)
  exact .non
theorem dp_tup {f : α → PyData} (dp : ∀ {K : Fg} {F : Hp} {x : α} {v : V}, c.rp K F x v → Dp K F v (f x)) {K : Fg} {F : Hp} {xs : List α} {v : V} (h : (cTup c).rp K F xs v) : Dp K F v (.tuple (xs.map f)) := by
  obtain ⟨a, vs, e, h, r⟩ := h
  subst e
  refine .tup (sqT h) ?_
  clear h
  induction xs generalizing vs with
  | nil =>
    cases vs with
    | nil => exact .nil
    | cons _ _ => exact r.elim
  | cons x xs ih =>
    cases vs with
    | nil => exact r.elim
    | cons v vs => exact .cons (dp r.1) (ih _ r.2)
theorem dp_pr {β : Type} {d : Cd β} {f : α → PyData} {g : β → PyData} (dp : ∀ {K : Fg} {F : Hp} {x : α} {v : V}, c.rp K F x v → Dp K F v (f x)) (dq : ∀ {K : Fg} {F : Hp} {x : β} {v : V}, d.rp K F x v → Dp K F v (g x)) {K : Fg} {F : Hp} {x : α × β} {v : V} (h : (cPr c d).rp K F x v) : Dp K F v (.tuple [f x.1, g x.2]) := by
  obtain ⟨a, u, w, e, h, r, q⟩ := h
  subst e
  exact .tup (.of h) (.cons (dp r) (.cons (dq q) .nil))
/-- ==, != of data -/
def eqDO (x y : PyData) : Option Bool := if (SeqAt.shaped x && SeqAt.shaped y) = true then some (PyData.eqv x y) else none
def neDO (x y : PyData) : Option Bool := (eqDO x y).map (!·)
theorem cmp_eqDD (O : Ok X B Z k) : Cmp X B .Eq (rEqD X.K) cD cD eqDO := ⟨op_eqD O.room.units, fun x y z h => by
  unfold eqDO at h
  split at h
  · rename_i hs
    obtain ⟨h1, h2⟩ := Bool.and_eq_true_iff.mp hs
    cases h
    exact fun F own H v w Q wd hv hw q => ⟨x, y, dp_up wd.fh hv, dp_up wd.fh hw, h1, h2, q F H _ wd (Same.rfl' F) (Same.rfl' H) rfl⟩
  · cases h⟩
theorem cmp_neDD (O : Ok X B Z k) : Cmp X B .NotEq (rNeD X.K) cD cD neDO := ⟨op_neD O.room.units, fun x y z h => by
  unfold neDO eqDO at h
  split at h
  · rename_i hs
    obtain ⟨h1, h2⟩ := Bool.and_eq_true_iff.mp hs
    cases h
    exact fun F own H v w Q wd hv hw q => ⟨x, y, dp_up wd.fh hv, dp_up wd.fh hw, h1, h2, q F H _ wd (Same.rfl' F) (Same.rfl' H) rfl⟩
  · cases h⟩
end
end T
set_option maxHeartbeats 1000000
namespace T
open PySem PySem.Spec PyProof.Rows L2

/-! ## a def whose body tries -/
section
variable {P : Program} {w : World} {K : Fg} {mg : Str → Option Value} {base : Heap} {n qual : Str} {params : Arguments} {body : List Stmt} {scope : Scope} {f : Addr} {fd : FuncData} {N ps : List Str} {k : Nat} {α ρ : Type} {S : Fn α ρ}
theorem fn_mk0 (pins : List Nat) (F : FunD K n qual params body scope [] [] f fd) (Sc : FnScope N ps scope) (hl : ∀ x, (S.ins x).length = ps.length) (ho : ∀ x r, (S.outs x r).length = ps.length) (hN : Nat.ble ps.length N.length = true)
    (hb : ∀ (cdv : Value) (A : Around) (outer : List Env) (s : Shared) (H : Hp) (E : XK) (F0 : Hp) (Sf : Addr → Prop) (s0 : L2.St) (x : α) (Pr : ρ → Prop) (Zr : Exn → Prop),
      Ok (cxOf (L2.CX P w) P w K mg base N qual scope f cdv A outer s H E) { F := F0, H := H, S := Sf, pins := pins, s0 := s0 } (fun ex _ => Zr ex) k → good (S.m x) Pr Zr →
      SB0 (cxOf (L2.CX P w) P w K mg base N qual scope f cdv A outer s H E) { F := F0, H := H, S := Sf, pins := pins, s0 := s0 } body (S.ins x ++ List.replicate (N.length - ps.length) un) (Rf S x pins Pr)) :
    FnOk P w K mg base (L2.CX P w) (k + 1) f fd ps (spOf K mg S) := by
  have hNl : ps.length ≤ N.length := Nat.le_of_ble_eq_true hN
  have lenOf : ∀ {x : α} {F : Hp} {own : Ow} {H : Hp} {vs : List V}, HoldS K F H own (vs.map some) (S.ins x) → vs.length = ps.length := fun {x F own H vs} h => by
    have := h.1
    rw [List.length_map, hl] at this
    exact this
  refine F.ok Sc (fun vs H Q E ⟨x, F, own, wd, hS, g⟩ => lenOf hS) fun cdv A outer s H vs Q E hr ⟨x, F0, own, wd, hS, g⟩ => ?_
  have hlen := lenOf hS
  refine ⟨_, pss_wp, ?_⟩
  refine hb cdv A outer s H E F0 (fun a => ∃ l, own a = some l) (L2.start N vs) x _ (fun ex => ∀ cls d H', Left K mg (bsOf F0 H own) ex cls d H' → E cls d H') ?_ g (L2.start N vs) H _ (fun _ _ => rfl) ?_ ?_
  · refine ⟨rfl, Sc.nd, hr, passes_of rfl, fun cls d _ H => E cls d H, takes_of rfl rfl rfl rfl, fun ex Γ hz cls d σ H' fl => ?_⟩
    obtain ⟨C, dd, v, F', own', e1, e2, e3, w', _, e4, e5⟩ := fl
    exact hz cls d H' ⟨C, dd, v, F', own', e1, e2, e3, ⟨w'.fh, w'.fo, w'.oh, w'.b1, w'.b2, w'.b3, w'.b4⟩, e4, e5⟩
  · refine ⟨F0, own, ⟨wd.fh, wd.fo, wd.oh, wd.b1, wd.b2, wd.b3, wd.b4⟩, ⟨?_, fun i b e => ?_⟩, trivial⟩
    · unfold L2.start
      rw [List.length_append, List.length_map, List.length_replicate, List.length_append, List.length_replicate, hl, hlen]
    · by_cases hi : i < (S.ins x).length
      · rw [List.getElem?_append_left hi] at e
        have h := hS.2 i b e
        have es : slot (L2.start N vs) i = slot (vs.map some) i := by
          unfold slot L2.start
          rw [List.getElem?_append_left (by rw [List.length_map, hlen, ← hl x]; exact hi)]
        rw [es]
        exact h
      · rw [List.getElem?_append_right (by omega)] at e
        have : b = un := List.eq_of_mem_replicate (List.mem_of_getElem? e)
        subst this
        exact trivial
  · have fin : ∀ (r : ρ) (v : V) (b : Bd) (Γ' : List Bd) (σ' : L2.St) (H' : Hp), (∀ v H', Sat K (bsOf F0 H own) [(v, S.ret x r)] (vs.map some) (S.outs x r) H' → Q v H') → b = S.ret x r → OutOk pins 0 Γ' (S.outs x r) →
        Pin { F := F0, H := H, S := fun a => ∃ l, own a = some l, pins := pins, s0 := L2.start N vs } σ' → Sat K { F := F0, H := H, S := fun a => ∃ l, own a = some l, pins := pins, s0 := L2.start N vs } [(v, b)] σ' Γ' H' → Q v H' := fun r v b Γ' σ' H' q eb oo pn s' => by
      subst eb
      refine q v H' ?_
      obtain ⟨F', own', w', hS', hT'⟩ := s'
      refine ⟨F', own', ⟨w'.fh, w'.fo, w'.oh, w'.b1, w'.b2, w'.b3, w'.b4⟩, ⟨by rw [List.length_map, hlen, ho], fun j b e => ?_⟩, hT'⟩
      rcases oo.at e with z | ⟨z, z2⟩
      · subst z
        exact trivial
      · rw [Nat.zero_add] at z
        have h := hS'.2 j b z2
        have hj : j < vs.length := by
          have := (List.getElem?_eq_some_iff.mp e).1
          rw [ho] at this
          omega
        have es : slot σ' j = slot (vs.map some) j := by
          rw [pn j z]
          unfold slot L2.start
          rw [List.getElem?_append_left (by rw [List.length_map]; exact hj)]
        rw [← es]
        exact h
    refine ⟨fun Γ' ⟨r, pr, eb, oo⟩ σ' H' pn s' => ?_, fun Γ' b ⟨r, pr, eb, oo⟩ v σ' H' pn s' => fin r v b Γ' σ' H' pr eb oo pn s', fun _ z => z.elim, fun _ z => z.elim⟩
    obtain ⟨F', own', w', hS', hT'⟩ := s'
    exact fin r .non _ Γ' σ' H' pr rfl oo pn (by rw [← eb]; exact Sat.push w' hS' hT' rfl)
end
end T
set_option maxHeartbeats 1000000
namespace T
open PySem PySem.Spec PyProof.Rows L2

/-! ## the head's facts of the errors -/
def exoB (K : Fg) (C : Addr) : Bool := match K.lookup C with
  | some ⟨.type "type", _, .cls cd, sl⟩ => (match cd.mro, sl.toList with
    | .ref C' :: bm, [_, _, _, _, some (.builtin n), _] => C' == C && n == "ValueError.__new__" && !cd.hasDel && cd.hasDict && PySem.HandSPX.refsVE bm
    | _, _ => false)
  | _ => false
theorem exoB_ok {K : Fg} {C : Addr} (q : exoB K C = true) : ∃ nm q N bs bm sn sub ab col dd k0 k1 k2 k3 k5, K.lookup C = some (excClassObj nm q C N bs bm true sn sub ab col dd k0 k1 k2 k3 k5 "ValueError.__new__") ∧ PySem.HandSPX.refsVE bm = true := by
  unfold exoB at q
  split at q
  · rename_i dd cd sl ho
    split at q
    · rename_i C' bm k0 k1 k2 k3 n k5 hm hs
      simp only [Bool.and_eq_true, beq_iff_eq, Bool.not_eq_true'] at q
      obtain ⟨⟨⟨⟨rfl, rfl⟩, hdel⟩, hdic⟩, hv⟩ := q
      obtain ⟨nm, bs, mro, ns, qn, hd, sn, sub, ab, col, del⟩ := cd
      dsimp only at hm hdel hdic
      subst hm hdel hdic
      have hsl : sl = #[k0, k1, k2, k3, some (.builtin "ValueError.__new__"), k5] := by
        obtain ⟨l⟩ := sl
        simp only at hs
        rw [hs]
      subst hsl
      exact ⟨nm, qn, ns, bs, bm, sn, sub, ab, col, dd, k0, k1, k2, k3, k5, ho, hv⟩
    · cases q
  · cases q
/-- an error class -/
def errB (K : Fg) (D C f : Addr) : Bool :=
  exoB K C && (decide (PySem.W.findIn K (.ref C) "__setattr__" = some (some (.builtin "object.__setattr__"))) && (decide (PySem.W.subIn K (.ref C) (.type "BaseException") = some true) && (decide (PySem.W.typeIn K (.ref C) = some (.type "type")) && (PySem.W.keepIn K (.ref C) &&
  (decide (PySem.W.mroIn K C (.ref D) = some true) && (decide (PySem.W.ks_superIn K C D "__init__" = some (some (.builtin "ValueError.__init__"))) && (decide (PySem.W.subIn K (.ref C) (.type "ValueError") = some true) && (decide (PySem.W.findIn K (.ref C) "what" = some none) &&
  (decide (PySem.W.findIn K (.ref C) "__init__" = some (some (.ref f))) && (decide (PySem.W.typeIn K (.ref f) = some (.type "function")) && xfB K C))))))))))
structure ErrC (K : Fg) (D C f : Addr) : Prop where
  ref : RefC K D C
  ini : PySem.W.findIn K (.ref C) "__init__" = some (some (.ref f))
  typ : PySem.W.typeIn K (.ref f) = some (.type "function")
  wh : WhatC K C
theorem errB_ok {K : Fg} {D C f : Addr} (h : errB K D C f = true) : ErrC K D C f := by
  obtain ⟨h1, h⟩ := He.ba h
  obtain ⟨h2, h⟩ := He.ba h
  obtain ⟨h3, h⟩ := He.ba h
  obtain ⟨h4, h⟩ := He.ba h
  obtain ⟨h5, h⟩ := He.ba h
  obtain ⟨h6, h⟩ := He.ba h
  obtain ⟨h7, h⟩ := He.ba h
  obtain ⟨h8, h⟩ := He.ba h
  obtain ⟨h9, h⟩ := He.ba h
  obtain ⟨h10, h⟩ := He.ba h
  obtain ⟨h11, h12⟩ := He.ba h
  exact ⟨⟨⟨exoB_ok h1, of_decide_eq_true h2, of_decide_eq_true h3, of_decide_eq_true h4, h5⟩, of_decide_eq_true h6, of_decide_eq_true h7, of_decide_eq_true h8, of_decide_eq_true h9⟩, of_decide_eq_true h10, of_decide_eq_true h11, xfB_ok h12, of_decide_eq_true h9⟩
/-- the __init__ of the base error class -/
abbrev RfW : Type := Option (Str × Str × Arguments × FuncBody × Scope × Addr × List Str × Addr)
def rfW (K : Fg) (f : Addr) : RfW := match K.lookup f with
  | some ⟨_, _, .func fd, _⟩ => some (fd.name, fd.qualname, fd.params, fd.body, fd.scope, fd.globals, fd.closure.map (·.1), fd.builtins)
  | _ => none
def nonB : Value → Bool
  | .none => true
  | _ => false
theorem nonB_ok {v : Value} (h : nonB v = true) : v = .none := by cases v <;> first | rfl | cases h
def fileB (K : Fg) (v : Value) (file : Str) : Bool := match v with
  | .ref c => (match K.lookup c with
    | some ⟨_, _, Data.fields vs, _⟩ => (match (vs[2]? : Option Value) with
      | some (Value.str fl _) => file == fl
      | _ => false)
    | _ => false)
  | _ => false
theorem fileB_ok {K : Fg} {v : Value} {file : Str} (h : fileB K v file = true) : ∃ c cl cd vs sl fl tf, v = .ref c ∧ K.lookup c = some ⟨cl, cd, .fields vs, sl⟩ ∧ vs[2]? = some (.str fl tf) ∧ (file == fl) = true := by
  unfold fileB at h
  split at h
  · rename_i c
    split at h
    · rename_i cl cd vs sl ho
      split at h
      · rename_i fl tf hv
        exact ⟨c, _, _, vs, _, fl, tf, rfl, ho, hv, h⟩
      · cases h
    · cases h
  · cases h
def cellB (K : Fg) (cl : List (Str × Addr)) (D : Addr) : Bool := match cl with
  | [(_, cc)] => (match K.lookup cc with
    | some ⟨_, _, .cell (some (.ref D')), _⟩ => D' == D
    | _ => false)
  | _ => false
theorem cellB_ok {K : Fg} {cl : List (Str × Addr)} {D : Addr} (h : cellB K cl D = true) : ∃ n cc oc od sl, cl = [(n, cc)] ∧ K.lookup cc = some ⟨oc, od, .cell (some (.ref D)), sl⟩ := by
  unfold cellB at h
  split at h
  · rename_i n cc
    split at h
    · rename_i oc od D' sl ho
      obtain rfl : D' = D := beq_iff_eq.mp h
      exact ⟨n, cc, _, _, _, rfl, ho⟩
    · cases h
  · cases h
def refB (K : Fg) (D f : Addr) (file : Str) : Bool := (match K.lookup f with
  | some ⟨_, _, .func fd, _⟩ => PySem.W.codeIn K fd.code fd.qualname && (nonB fd.defaults && (nonB fd.kwdefaults && (fileB K fd.code file && cellB K fd.closure D)))
  | _ => false) && ((PySem.W.clsIn K D).isSome && decide (PySem.W.nsIn K cStatics "thirdparty.any" = some none))
theorem refI_ok {P : Program} {w : World} {K : Fg} {mg : Str → Option Value} {base : Heap} {D f : Addr} {file name qual : Str} {params : Arguments} {scope : Scope} {p0 p1 p2 p3 p4 p5 p6 p7 p8 p9 : Pos} {z : Str} {j : Nat} {ar : Arg}
    (e : rfW K f = some (name, qual, params, FuncBody.stmts (refBody p0 p1 p2 p3 p4 p5 p6 p7 p8 p9 z j), scope, mainGlobals, [("__class__" : Str)], builtinsNs)) (h : refB K D f file = true) (hfile : P.main.file = file)
    (S : NdefX.NScope ["self", "what", "__class__"] ["self", "what"] ["__class__"] scope) (hks : scope.names.lookup ("super" : Str) = some .globalImplicit) (hp : (params.posonlyargs ++ params.args).head? = some ar) (har : ar.arg = "self")
    (hms : mg "super" = none) (htop : (P.main.scope.names.lookup ("super" : Str)).isSome = false) (hln : (p2.endLine == p4.line) = true)
    (hb : ∀ (cc : Addr) (doc pm : Value) (an : Option Addr) (cdv ct : Value) (us : List Value), us.length = 2 → bindArgs (PySem.W.fnX name qual params (refBody p0 p1 p2 p3 p4 p5 p6 p7 p8 p9 z j) scope [("__class__", cc)] .none .none doc pm an cdv ct) ⟨us, []⟩ = pure ((["self", "what"] : List Str).zip us)) :
    ∃ fd, FnOk P w K mg base (L2.CX P w) 1 f fd ["self", "what"] (spRef K D) ∧ Binds K fd ["self", "what"] [] := by
  obtain ⟨h1, h⟩ := He.ba h
  obtain ⟨h2, h3⟩ := He.ba h
  obtain ⟨cdD, hD⟩ := Option.isSome_iff_exists.mp h2
  have hopq := of_decide_eq_true h3
  cases q : K.lookup f with
  | none =>
    rw [q] at h1
    cases h1
  | some o =>
    obtain ⟨oc, od, dt, osl⟩ := o
    unfold rfW at e
    rw [q] at h1 e
    cases dt with
    | func fd =>
      obtain ⟨n1, n2, n3, n4, n5, n6, n7, n8, n9, n10, n11, n12, n13, n14, n15⟩ := fd
      have e2 : (some (n1, n2, n3, n4, n5, n6, n7.map (·.1), n15) : RfW) = some (name, qual, params, FuncBody.stmts (refBody p0 p1 p2 p3 p4 p5 p6 p7 p8 p9 z j), scope, mainGlobals, [("__class__" : Str)], builtinsNs) := e
      simp only [Option.some.injEq, Prod.mk.injEq] at e2
      obtain ⟨g1, g2, g3, g4, g5, g6, g7, g8⟩ := e2
      subst g1 g2 g3 g4 g5 g6 g8
      have c3 : (PySem.W.codeIn K n13 n2 && (nonB n8 && (nonB n9 && (fileB K n13 file && cellB K n7 D)))) = true := h1
      obtain ⟨k1, k2⟩ := He.ba c3
      obtain ⟨k3, k4⟩ := He.ba k2
      obtain ⟨k5, k6⟩ := He.ba k4
      obtain ⟨k7, k8⟩ := He.ba k6
      obtain ⟨c, ccl, cdd, vs, ccs, fl, tf, r1, r2, r3, r4⟩ := fileB_ok k7
      obtain ⟨nn, cc, cl, cld, csl, s1, s2⟩ := cellB_ok k8
      have t1 := nonB_ok k3
      have t2 := nonB_ok k5
      subst r1 s1 t1 t2
      have g9 : nn = "__class__" := by
        have : [nn] = [("__class__" : Str)] := g7
        injection this
      subst g9
      exact ⟨_, ok_refI q k1 S hks hp har s2 r2 r3 (by rw [hfile]; exact r4) hD hms htop hopq hln, Binds.all fun us hl => hb _ _ _ _ _ _ us hl⟩
    | _ => cases h1
/-! ### the Hook -/
open He in
def asE (g : Addr → Option Obj) (n : Nat) : List Addr := cStatics :: asD g n
abbrev AlE : Type := He.AlD × RfW × Bool
open He in
def obsE (fa : List Fa) (fn : List DefD) (D : Str) (ex : Fg → Bool) (K : Fg) : AlE := (obsD fa fn K, rfW K (ma K (ga K D) "__init__"), ex K)
open He in
def valE (fn : List DefD) (v : RfW) : AlE := (valD fn, v, true)
open He in
def obsEG (n : Nat) (fa : List Fa) (fn : List DefD) (D : Str) (ex : Fg → Bool) (g : Addr → Option Obj) : AlE := obsE fa fn D ex (frG g (asE g n))
structure SaysE (fa : List He.Fa) (fn : List He.DefD) (D : Str) (v : RfW) (ex : Fg → Bool) (K : Fg) : Prop where
  d : He.SaysD fa fn K
  rf : rfW K (He.ma K (He.ga K D) "__init__") = v
  ex : ex K = true
open He in
def hookE (n : Nat) (fa : List Fa) (fn : List DefD) (D : Str) (v : RfW) (ex : Fg → Bool) : PySem.W.Hook where
  α := AlE
  obs := fun s => obsEG n fa fn D ex s.heap.get?
  val := fun _ => valE fn v
  says := fun _ h => ∃ K : PySem.W.Frag, K.In h ∧ SaysE fa fn D v ex K
  of := fun _ _ e => ⟨_, frG_in, congrArg (fun z : AlE => z.1) e, congrArg (fun z : AlE => z.2.1) e, congrArg (fun z : AlE => z.2.2) e⟩
  keeps := fun _ _ _ ⟨K, hK, c⟩ k => ⟨K, PySem.W.Frag.In.keeps hK k, c⟩
theorem obsEG_eq {n : Nat} {fa : List He.Fa} {fn : List He.DefD} {D : Str} {v : RfW} {ex : Fg → Bool} {g : Addr → Option Obj} {s : Shared} (h : ∀ a, g a = s.heap.get? a) : obsEG n fa fn D ex g = (hookE n fa fn D v ex).obs s := by
  have e : g = s.heap.get? := funext h
  rw [e] <;> rfl
/-- what ex asks: the base class, each error class -/
def errsB (D : Str) (names : List Str) (file : Str) (K : Fg) : Bool := refB K (He.ga K D) (He.ma K (He.ga K D) "__init__") file && names.all fun x => errB K (He.ga K D) (He.ga K x) (He.ma K (He.ga K D) "__init__")
theorem errsB_at {D : Str} {names : List Str} {file : Str} {K : Fg} (h : errsB D names file K = true) {x : Str} (hx : x ∈ names) : ErrC K (He.ga K D) (He.ga K x) (He.ma K (He.ga K D) "__init__") := errB_ok (List.all_eq_true.mp (He.ba h).2 x hx)
/-- the base class's __init__, walked -/
structure RefOk (P : Program) (w : World) (K : Fg) (mg : Str → Option Value) (base : Heap) (D f : Addr) : Prop where
  ex : ∃ fd, FnOk P w K mg base (L2.CX P w) 1 f fd ["self", "what"] (spRef K D) ∧ Binds K fd ["self", "what"] []
theorem raiseC_of {P : Program} {w : World} {K : Fg} {mg : Str → Option Value} {base : Heap} {D C f : Addr} {x : Str} (hm : mg x = some (.ref C)) (E : ErrC K D C f) (R : RefOk P w K mg base D f) : RaiseC P w K mg base x := by
  obtain ⟨fd, G, hb⟩ := R.ex
  exact ⟨C, D, f, fd, hm, E.ref, E.ini, E.typ, G, hb⟩
end T
set_option maxHeartbeats 2000000
namespace T
open PySem PySem.Spec PyProof.Rows L2
/-! ### what isinstance asks of an own class -/
structure IsaC (K : Fg) (C : Addr) : Prop where
  ha : PySem.W.findIn K (.ref C) "__class__" = some (some (.builtin "object.__class__"))
  hn : PySem.W.specialIn K (.builtin "object.__class__") "__get__" = some (some (.builtin "getset_descriptor.__get__"))
  ht : PySem.W.takesIn K (.builtin "object.__class__") = some true
  hm : PySem.W.mroIn K C (.type "object") = some true
  kp : PySem.W.keepIn K (.ref C) = true
  ne : PySem.W.findIn K (.ref C) "__ne__" = some (some (.builtin "object.__ne__"))
  ks : PySem.W.kitOne K (.ref C) (.type "str") = some false
def isaB (x : Str) (K : Fg) : Bool := He.eqO (PySem.W.findIn K (.ref (He.ga K x)) "__class__") (some (some (.builtin "object.__class__"))) && (He.eqO (PySem.W.specialIn K (.builtin "object.__class__") "__get__") (some (some (.builtin "getset_descriptor.__get__"))) &&
  (decide (PySem.W.takesIn K (.builtin "object.__class__") = some true) && (decide (PySem.W.mroIn K (He.ga K x) (.type "object") = some true) && (PySem.W.keepIn K (.ref (He.ga K x)) && (He.eqO (PySem.W.findIn K (.ref (He.ga K x)) "__ne__") (some (some (.builtin "object.__ne__"))) && decide (PySem.W.kitOne K (.ref (He.ga K x)) (.type "str") = some false))))))
theorem isaB_ok {x : Str} {K : Fg} (h : isaB x K = true) : IsaC K (He.ga K x) := by
  obtain ⟨a, h⟩ := He.ba h
  obtain ⟨b, h⟩ := He.ba h
  obtain ⟨c, h⟩ := He.ba h
  obtain ⟨d, h⟩ := He.ba h
  obtain ⟨e, h⟩ := He.ba h
  obtain ⟨f, g⟩ := He.ba h
  exact ⟨He.eqO_ok a, He.eqO_ok b, of_decide_eq_true c, of_decide_eq_true d, e, He.eqO_ok f, of_decide_eq_true g⟩
end T
set_option maxHeartbeats 1000000
namespace T
open PySem PySem.Spec PyProof.Rows L2

/-! ## try in the mirrors -/
def Res.tr {α β : Type} (m : Res α) (k : α → Res β) (h : Exn → Res β) : Res β := match m with
  | .ok x => k x
  | .exc e => h e
  | .stuck => .stuck
theorem good_tr {α β : Type} {m : Res α} {k : α → Res β} {h : Exn → Res β} {P : β → Prop} {Z : Exn → Prop} (g : good (Res.tr m k h) P Z) : good m (fun x => good (k x) P Z) (fun e => good (h e) P Z) := by
  cases m <;> exact g
section
variable {X : Cx} {B : Bs} {Z Z' : Zt} {Γ : List Bd} {R : Rs} {st : Stmt} {ss body : List Stmt} {pos : Pos} {k : Nat}
theorem Ok.monoZ (O : Ok X B Z k) (h : ∀ e Γ, Z' e Γ → Z e Γ) : Ok X B Z' k := by
  obtain ⟨W, tk, hW⟩ := O.exn
  exact ⟨O.calm, O.nd, O.room, O.pass, W, tk, fun e Γ z => hW e Γ (h e Γ z)⟩
/-- nothing known of the slots -/
def unk (X : Cx) : List Bd := List.replicate X.N.length un
theorem flew_unk {e : Exn} {cls : Value} {d : Option Addr} {σ : L2.St} {H : Hp} (hl : σ.length = X.N.length) (f : Flew X B e Γ cls d σ H) : Flew X B e (unk X) cls d σ H := by
  obtain ⟨C, dd, v, F, own, e1, e2, e3, wd, hS, e4⟩ := f
  refine ⟨C, dd, v, F, own, e1, e2, e3, wd, ⟨by unfold unk; rw [List.length_replicate]; exact hl, fun i b e => ?_⟩, e4⟩
  have : b = un := List.eq_of_mem_replicate (List.mem_of_getElem? e)
  subst this
  exact trivial
theorem takes_len {W : WX} (tk : Takes X W) : Takes X (fun c d σ H => σ.length = X.N.length → W c d σ H) := fun u s' ⟨a, B, sI, pins, σ, H, cls, d, e, I, nb, up, sky, na, os, ag, w⟩ =>
  tk u s' ⟨a, B, sI, pins, σ, H, cls, d, e, I, nb, up, sky, na, os, ag, w I.len⟩
theorem s10_tryU {h₀ : ExceptHandler} {hds : List ExceptHandler} {w : Zt → Zt} (O : Ok X B Z k) (hp : B.pins = []) (hh : HT X B R (h₀ :: hds) w) (hb : ∀ pn xe, Ok (X.tr pn xe) B (fun ex _ => w Z ex (unk X)) k → SB0 (X.tr pn xe) B body Γ R)
    (hs : X.stack = X.env :: X.outer := by rfl) (hf : X.env.frame = some X.env.locals := by rfl) : S10 X B (.Try body (h₀ :: hds) [] [] pos) Γ R := fun σ H D pn s d => by
  obtain ⟨W, tk, hW⟩ := O.exn
  obtain ⟨l, hl, q⟩ := HT.cls hp hh
  refine wp_of_ps (ps_try_chain (tb := fun W' => fun D σ H => ∀ pn xe, Takes (X.tr pn xe) W' → PassesOwn (model X.prog X.w) X.A X.env xe → wpSs (X.tr pn xe) body D σ H) hs hf O.nd tk (fun W' pn xe t1 t2 => ⟨fun pins s σ H D I h => (h pn xe t1 t2).run pins s I⟩) hl) ?_
  intro pn' xe t1 t2
  exact hb pn' xe ⟨O.calm, O.nd, O.room, t2, _, takes_len (X := X.tr pn' xe) t1, fun e Γ' z cls dd σ' H' f hlen => q d hW e (unk X) z cls dd σ' H' (flew_unk (X := X) hlen f)⟩ σ H D pn s d
/-- the table of a clause's class: which of the names it takes -/
structure EmC (K : Fg) (mg : Str → Option Value) (names : List Str) (y : Str) (Cy : Addr) (p : Str → Bool) : Prop where
  nm : mg y = some (.ref Cy)
  at_ : ∀ x ∈ names, ∃ Ce, mg x = some (.ref Ce) ∧ PySem.W.exmOne K (.ref Ce) (.ref Cy) = some (p x) ∧ WhatC K Ce
theorem EmC.names {K : Fg} {mg : Str → Option Value} {names : List Str} {y : Str} {Cy : Addr} {p : Str → Bool} (E : EmC K mg names y Cy p) (hmg : X.mg = mg) (hg : Gl X y) (hdb : (y == ("__debug__" : Str)) = false) : Names X y (.ref Cy) := ⟨hg, hdb, .inl (by rw [hmg]; exact E.nm)⟩
theorem ht_plain {names : List Str} {y : Str} {Cy : Addr} {p : Str → Bool} {suite : List Stmt} {ex : Exn} {rest : Prop} (E : EmC X.K X.mg names y Cy p) (hx : ex.cls ∈ names) (yes : p ex.cls = true → ∀ a oe pn, SB0 (X.suite a ((a, oe) :: pn)) B suite Γ R) (no : p ex.cls = false → rest) :
    ∃ Ce b, X.mg ex.cls = some (.ref Ce) ∧ PySem.W.exmOne X.K (.ref Ce) (.ref Cy) = some b ∧ (b = true → ∀ a oe pn dd, Zc (.ref Ce) (some dd) oe → (∃ vs, oe.data = .fields vs) → SB0 (X.suite a ((a, oe) :: pn)) B suite Γ R) ∧ (b = false → rest) := by
  obtain ⟨Ce, h1, h2, h3⟩ := E.at_ _ hx
  exact ⟨Ce, _, h1, h2, fun hb a oe pn dd _ _ => yes hb a oe pn, no⟩
theorem ht_named {names : List Str} {y : Str} {Cy : Addr} {p : Str → Bool} {suite : List Stmt} {ex : Exn} {rest : Prop} {i : Nat} (E : EmC X.K X.mg names y Cy p) (hx : ex.cls ∈ names) (hi : i < Γ.length)
    (yes : p ex.cls = true → ∀ Ce a oe pn dd, WhatC X.K Ce → Zc (.ref Ce) (some dd) oe → (∃ vs, oe.data = .fields vs) → SB0 (X.suite a ((a, oe) :: pn)) B suite (Γ.set i (bx a dd ex.what)) (offR i R)) (no : p ex.cls = false → rest) :
    ∃ Ce b, X.mg ex.cls = some (.ref Ce) ∧ PySem.W.exmOne X.K (.ref Ce) (.ref Cy) = some b ∧ (b = true → i < Γ.length ∧ ∀ a oe pn dd, Zc (.ref Ce) (some dd) oe → (∃ vs, oe.data = .fields vs) → SB0 (X.suite a ((a, oe) :: pn)) B suite (Γ.set i (bx a dd ex.what)) (offR i R)) ∧ (b = false → rest) := by
  obtain ⟨Ce, h1, h2, h3⟩ := E.at_ _ hx
  exact ⟨Ce, _, h1, h2, fun hb => ⟨hi, fun a oe pn dd hz hf => yes hb Ce a oe pn dd h3 hz hf⟩, no⟩
end
end T
set_option maxHeartbeats 1000000
namespace T
open PySem PySem.Spec PyProof.Rows L2
def isND : PyData → Bool
  | .none => true
  | _ => false
theorem dp_isN {K : Fg} {F : Hp} {v : V} {d : PyData} (h : Dp K F v d) : decide (v = .non) = isND d := by
  cases h <;> first | rfl | exact decide_eq_false (fun z => by cases z)
theorem dp_id {K : Fg} {F : Hp} {d : PyData} {v : V} (h : cD.rp K F d v) : Dp K F v d := h
def optD {α : Type} (f : α → PyData) : Option α → PyData
  | none => .none
  | some x => f x
theorem dp_opt {α : Type} {c : Cd α} {f : α → PyData} (dp : ∀ {K : Fg} {F : Hp} {x : α} {v : V}, c.rp K F x v → Dp K F v (f x)) {K : Fg} {F : Hp} {o : Option α} {v : V} (h : (cOpt c).rp K F o v) : Dp K F v (optD f o) := by
  cases o with
  | none =>
    cases (show v = V.non from h)
    exact .non
  | some x => exact dp h.2
section
variable {X : Cx} {B : Bs} {Z : Zt} {Γ : List Bd} {P : List Bd → Bd → Prop} {e : Expr} {k : Nat} {α : Type} {c : Cd α}
theorem cmp_isND : Cmp X B .Is (fun x y H Q => y = .non ∧ Q (.bl (decide (x = .non))) H) cD cNon (fun x _ => some (isND x)) := ⟨op_isN, fun x y z h => by
  cases h
  intro F own H v w Q wd hv hw q
  refine ⟨hw, ?_⟩
  rw [dp_isN hv]
  exact q F H _ wd (Same.rfl' F) (Same.rfl' H) rfl⟩
theorem cmp_isNnD : Cmp X B .IsNot (fun x y H Q => y = .non ∧ Q (.bl (!decide (x = .non))) H) cD cNon (fun x _ => some (!isND x)) := ⟨op_notN, fun x y z h => by
  cases h
  intro F own H v w Q wd hv hw q
  refine ⟨hw, ?_⟩
  rw [dp_isN hv]
  exact q F H _ wd (Same.rfl' F) (Same.rfl' H) rfl⟩
/-- a value that wants no Ok -/
theorem xv0 {x : α} (h : XM X B (fun _ _ => False) e Γ c (.ok x)) (p : P Γ (va c x)) : EV X B e Γ P := h _ p
end
end T
set_option maxHeartbeats 1000000
namespace T
open PySem PySem.Spec PyProof.Rows L2
section
variable {X : Cx} {B : Bs} {Γ : List Bd} {a b e : Expr} {pos : Pos} {α S : Type} {cc : Cd α} {Zr : Exn → Prop} {Γs : S → List Bd}
/-- a if t else b, where the test and the branches change the state -/
theorem xs_if {t : Expr} {m : Res (Bool × S)} {ma mb : S → Res (α × S)} (ht : TS X B Zr t Γ Γs m) (ha : ∀ s, XS X B Zr a (Γs s) cc Γs (ma s)) (hb : ∀ s, XS X B Zr b (Γs s) cc Γs (mb s)) : XS X B Zr (.IfExp t a b pos) Γ cc Γs (m >>= fun p => if p.1 = true then ma p.2 else mb p.2) := fun P g =>
  ev_if (ht _ (good_imp (good_bind g) fun p gp => by
    obtain ⟨k, s⟩ := p
    cases k with
    | false =>
      rw [if_neg Bool.false_ne_true] at gp ⊢
      exact hb s P gp
    | true =>
      rw [if_pos rfl] at gp ⊢
      exact ha s P gp))
end
end T
set_option maxHeartbeats 1000000
namespace T
open PySem PySem.Spec PyProof.Rows L2
def rCatLA (K : PySem.W.Frag) : R2 := fun x y H Q => ∃ l b xs zs, x = .ref l ∧ y = .ref b ∧ SqL K H l xs ∧ SqL K H b zs ∧ xs.length + zs.length ≤ sizeLine ∧ ∀ p, H p = none → Q (.ref p) (upd H p (.lst (xs ++ zs)))
theorem op_catLA {X : Cx} : OpR X (binaryOp .Add) (rCatLA X.K) := by
  intro pins s σ H x y v u Q I rx ry h
  obtain ⟨l, b, xs, zs, rfl, rfl, hH, hB, hz, q⟩ := h
  cases rx
  cases ry
  obtain ⟨its, r, ⟨⟨cls, dd, data, sl⟩, n, e, hc, hd, hdt⟩, hl⟩ := I.list hH
  obtain ⟨its2, r2, ⟨⟨cls2, dd2, data2, sl2⟩, n2, e2, hc2, hd2, hdt2⟩, hl2⟩ := I.list hB
  dsimp only at hc hd hdt hc2 hd2 hdt2
  subst hc hd hdt hc2 hd2 hdt2
  have k1 := r.length
  have k2 := r2.length
  refine concat_meets ⟨_, e, rfl⟩ ⟨_, e2, rfl⟩ noFill_list_add seq_list_add PySem.F.slot_list_add PySem.F.entry_list_add (PySem.F.args_list_add_2 _ _) (list_addW l b its.toArray its2.toArray n n2 none none sl sl2 (by rw [List.size_toArray, List.size_toArray]; omega)) ⟨e, e2, ?_⟩
  have ea : its.toArray ++ its2.toArray = (its ++ its2).toArray := by simp
  rw [ea]
  exact ⟨.ref _, _, I.lnew (t' := s.toks) (r.append r2) (by rw [List.length_append]; omega), rfl, q _ I.fresh⟩
section
variable {X : Cx} {B : Bs} {Γ : List Bd} {P : List Bd → Bd → Prop} {a b e : Expr} {pos : Pos} {α : Type} {c : Cd α}
/-- xs + ys of two lists read -/
theorem ev_catL (h : EV X B a Γ (fun Γ1 b1 => ∃ xs, b1 = va (cLst c) xs ∧ EV X B b Γ1 (fun Γ2 b2 => ∃ ys, b2 = va (cLst c) ys ∧ ∃ z, catO xs ys = some z ∧ P Γ2 (ow (oLst c) z)))) : EV X B (.BinOp a .Add b pos) Γ P := fun t σ H Q s q => by
  refine wp_of_pe (pe_op op_catLA pe_wp pe_wp) ?_
  refine h t σ H _ s fun Γ1 b1 ⟨xs, e1, h1⟩ v H1 s1 => ?_
  subst e1
  refine h1 _ σ H1 _ s1 fun Γ2 b2 ⟨ys, e2, z, hz, p2⟩ w H2 s2 => ?_
  subst e2
  obtain ⟨F, own, wd, hS, ⟨w', ew, bd, ws, eb, r3, r4⟩, ⟨v', ev, ad, vs, ea, r1, r2⟩, hT⟩ := s2
  cases ew
  cases ev
  subst ea eb
  unfold catO at hz
  split at hz
  · rename_i hl
    cases hz
    exact ⟨ad, bd, vs, ws, rfl, rfl, seqL_up wd.fh r1, seqL_up wd.fh r3, by rw [r2.length, r4.length, sizeLine_eq]; exact hl, fun p' hp => q _ _ p2 _ _ (push_own wd hS hT hp (r2.app r4))⟩
  · cases hz
end
end T
set_option maxHeartbeats 1000000
namespace T
open PySem PySem.Spec PyProof.Rows L2
section
variable {X : Cx} {B : Bs} {Z : Zt} {Γ : List Bd} {a b e : Expr} {pos : Pos} {β : Type} {kk : Oc β}
theorem xo_if {t : Expr} {m : Res Bool} {ma mb : Res β} (h : TM X B Z t Γ m) (ha : XO X B Z a Γ kk ma) (hb : XO X B Z b Γ kk mb) : XO X B Z (.IfExp t a b pos) Γ kk (m >>= fun k => if k = true then ma else mb) := fun P g =>
  ev_if (h _ (good_imp (good_bind g) fun k gk => by
    cases k with
    | false =>
      rw [if_neg Bool.false_ne_true] at gk ⊢
      exact hb P gk
    | true =>
      rw [if_pos rfl] at gk ⊢
      exact ha P gk))
end
end T
set_option maxHeartbeats 1000000
namespace T
open PySem PySem.Spec PyProof.Rows L2

/-! ### deeds as data -/
def Dd.d : Dd → PyData
  | .up x => .tuple [.str "up", .int x]
  | .down x q => .tuple [.str "down", .int x, .int q]
theorem dp_dd {K : Fg} {F : Hp} {x : Dd} {v : V} (h : cDd.rp K F x v) : Dp K F v x.d := by
  obtain ⟨a, e, h⟩ := h
  subst e
  cases x with
  | up x => exact .tup h (.cons (.str _) (.cons (.int _) .nil))
  | down x q => exact .tup h (.cons (.str _) (.cons (.int _) (.cons (.int _) .nil)))
theorem eqv_int (x y : Int) : PyData.eqv (.int x) (.int y) = decide (x = y) := by
  show (x == y) = _
  by_cases h : x = y <;> simp [h]
theorem deep_dd : Deep cDd Dd.d 1 := ⟨fun h => dp_dd h, fun x => by cases x <;> simp [Dd.d, PyData.canLay0, PyData.canLayAll0] <;> decide +kernel, fun x => by cases x <;> simp [Dd.d, PyData.depth, PyData.depthAll], fun x y => by
  cases x with
  | up x =>
    cases y with
    | up y =>
      show (PyData.eqv (.str "up") (.str "up") && (PyData.eqv (.int x) (.int y) && true)) = _
      rw [eqv_int, show PyData.eqv (.str "up") (.str "up") = true from rfl]
      by_cases h : x = y <;> simp [h]
    | down y r => rfl
  | down x q =>
    cases y with
    | up y => rfl
    | down y r =>
      show (PyData.eqv (.str "down") (.str "down") && (PyData.eqv (.int x) (.int y) && (PyData.eqv (.int q) (.int r) && true))) = _
      rw [eqv_int, eqv_int, show PyData.eqv (.str "down") (.str "down") = true from rfl]
      by_cases h : x = y <;> by_cases h' : q = r <;> simp [h, h']⟩

/-! ### data as numbers -/
def asI : PyData → Option Int
  | .int i => some i
  | _ => none
theorem good_zimp {α : Type} {m : Res α} {P : α → Prop} {Z Z' : Exn → Prop} (h : good m P Z) (hz : ∀ e, Z e → Z' e) : good m P Z' := good_mono h (fun _ p => p) hz
theorem map_rng (lo hi : Int) : rgV lo hi = (rng lo hi).map V.int := by
  unfold rgV rng
  rw [List.map_map]
  rfl
noncomputable def rngL (lo hi : Int) : Option (List Int) := @ite _ (RgOk lo hi) (Classical.propDecidable _) (some (rng lo hi)) none
/-! ### min, max of a tuple of numbers -/
section
variable {X : Cx}
def rMinT (K : PySem.W.Frag) : List V → Hp → VK → Prop := fun vs H Q => ∃ (a : Addr) (ns : List Int), vs = [V.ref a] ∧ SqT K H a (ns.map V.int) ∧ ∃ m, ns.min? = some m ∧ Q (.int m) H
def rMaxT (K : PySem.W.Frag) : List V → Hp → VK → Prop := fun vs H Q => ∃ (a : Addr) (ns : List Int), vs = [V.ref a] ∧ SqT K H a (ns.map V.int) ∧ ∃ m, ns.max? = some m ∧ Q (.int m) H
theorem hold_ints {h : Heap} : ∀ {its : List Value} {ns : List Int}, IntsAre its ns → PySem.W.HoldAll h its ns
  | _, _, .nil => PySem.W.HoldAll.nil
  | _, _, .cons n t r => PySem.W.HoldAll.cons (PySem.W.holds_int n t) (hold_ints r)
theorem minOf_mem : ∀ (xs : List Int) (x : Int), PySem.W.minOf x xs ∈ x :: xs ∧ ∀ y ∈ x :: xs, PySem.W.minOf x xs ≤ y
  | [], x => ⟨List.mem_cons_self .., fun y h => by rw [List.mem_singleton.mp h]; exact Int.le_refl _⟩
  | z :: xs, x => by
    have e : PySem.W.minOf x (z :: xs) = PySem.W.minOf (if PySem.W.DatumOrd.lt z x = true then z else x) xs := rfl
    have el : PySem.W.DatumOrd.lt z x = decide (z < x) := rfl
    rw [e, el]
    by_cases h : z < x
    · rw [if_pos (decide_eq_true h)]
      obtain ⟨h1, h2⟩ := minOf_mem xs z
      refine ⟨List.mem_cons_of_mem _ h1, fun y hy => ?_⟩
      rcases List.mem_cons.mp hy with rfl | hy
      · have := h2 z (List.mem_cons_self ..)
        omega
      · exact h2 y hy
    · rw [if_neg (by rw [decide_eq_true_eq]; exact h)]
      obtain ⟨h1, h2⟩ := minOf_mem xs x
      have h3 := h2 x (List.mem_cons_self ..)
      refine ⟨?_, fun y hy => ?_⟩
      · rcases List.mem_cons.mp h1 with h1 | h1
        · rw [h1]
          exact List.mem_cons_self ..
        · exact List.mem_cons_of_mem _ (List.mem_cons_of_mem _ h1)
      · rcases List.mem_cons.mp hy with rfl | hy
        · exact h3
        · rcases List.mem_cons.mp hy with rfl | hy
          · omega
          · exact h2 y (List.mem_cons_of_mem _ hy)
theorem maxOf_mem : ∀ (xs : List Int) (x : Int), PySem.W.maxOf x xs ∈ x :: xs ∧ ∀ y ∈ x :: xs, y ≤ PySem.W.maxOf x xs
  | [], x => ⟨List.mem_cons_self .., fun y h => by rw [List.mem_singleton.mp h]; exact Int.le_refl _⟩
  | z :: xs, x => by
    have e : PySem.W.maxOf x (z :: xs) = PySem.W.maxOf (if PySem.W.DatumOrd.lt x z = true then z else x) xs := rfl
    have el : PySem.W.DatumOrd.lt x z = decide (x < z) := rfl
    rw [e, el]
    by_cases h : x < z
    · rw [if_pos (decide_eq_true h)]
      obtain ⟨h1, h2⟩ := maxOf_mem xs z
      refine ⟨List.mem_cons_of_mem _ h1, fun y hy => ?_⟩
      rcases List.mem_cons.mp hy with rfl | hy
      · have := h2 z (List.mem_cons_self ..)
        omega
      · exact h2 y hy
    · rw [if_neg (by rw [decide_eq_true_eq]; exact h)]
      obtain ⟨h1, h2⟩ := maxOf_mem xs x
      have h3 := h2 x (List.mem_cons_self ..)
      refine ⟨?_, fun y hy => ?_⟩
      · rcases List.mem_cons.mp h1 with h1 | h1
        · rw [h1]
          exact List.mem_cons_self ..
        · exact List.mem_cons_of_mem _ (List.mem_cons_of_mem _ h1)
      · rcases List.mem_cons.mp hy with rfl | hy
        · exact h3
        · rcases List.mem_cons.mp hy with rfl | hy
          · omega
          · exact h2 y (List.mem_cons_of_mem _ hy)
theorem holds_is_int {h : Heap} {v : Value} {n : Int} (H : PySem.W.Holds h v n) : ∃ t, v = .int n t := by
  obtain ⟨as, r⟩ := H
  cases r with
  | int i t => exact ⟨t, rfl⟩
theorem cr_minT (hc : X.calm = true) (hu : X.A.units + 65 < cLine) : CallR X (.builtin "min") (rMinT X.K) := by
  intro pins s σ H vs us Q I r h
  obtain ⟨a, ns, rfl, hs, m, hm, q⟩ := h
  obtain ⟨its, rv, hl, _⟩ := I.tuple hs
  rw [Vals.ref1 r]
  cases ns with
  | nil => cases hm
  | cons x xs =>
    refine PySem.W.min_tuple_datum (I.ok.hd hc) hl (hold_ints rv.ints) (by show X.A.units + 1 + 0 < cLine; omega) fun i v h' tk hi hv hk => ?_
    obtain ⟨t, rfl⟩ := holds_is_int hv
    have e : PySem.W.minOf x xs = m := by
      obtain ⟨h1, h2⟩ := minOf_mem xs x
      obtain ⟨m1, m2⟩ := List.min?_eq_some_iff.mp hm
      have := h2 m m1
      have := m2 _ h1
      omega
    rw [e]
    exact ⟨.int m, H, I.kept hk, ⟨_, rfl⟩, q⟩
theorem cr_maxT (hc : X.calm = true) (hu : X.A.units + 65 < cLine) : CallR X (.builtin "max") (rMaxT X.K) := by
  intro pins s σ H vs us Q I r h
  obtain ⟨a, ns, rfl, hs, m, hm, q⟩ := h
  obtain ⟨its, rv, hl, _⟩ := I.tuple hs
  rw [Vals.ref1 r]
  cases ns with
  | nil => cases hm
  | cons x xs =>
    refine PySem.W.max_tuple_datum (I.ok.hd hc) hl (hold_ints rv.ints) (by show X.A.units + 1 + 0 < cLine; omega) fun i v h' tk hi hv hk => ?_
    obtain ⟨t, rfl⟩ := holds_is_int hv
    have e : PySem.W.maxOf x xs = m := by
      obtain ⟨h1, h2⟩ := maxOf_mem xs x
      obtain ⟨m1, m2⟩ := List.max?_eq_some_iff.mp hm
      have := h2 m m1
      have := m2 _ h1
      omega
    rw [e]
    exact ⟨.int m, H, I.kept hk, ⟨_, rfl⟩, q⟩
end
section
variable {X : Cx} {B : Bs} {Z : Zt} {Γ : List Bd} {P : List Bd → Bd → Prop} {R : Rs} {a b e : Expr} {st : Stmt} {ss : List Stmt} {pos p p2 : Pos} {k : Nat}
theorem ev_asI (h : EV X B e Γ (fun Γ1 b1 => ∃ d, b1 = va cD d ∧ ∃ i, asI d = some i ∧ P Γ1 (va cInt i))) : EV X B e Γ P := fun t σ H Q s q => h t σ H Q s fun Γ1 b1 ⟨d, e1, i, hi, g⟩ v H1 s1 => by
  subst e1
  refine q _ _ g v H1 (Sat.cast (b := va cD d) (b' := va cInt i) (fun F H f' ⟨v', e, r⟩ => ⟨v', e, ?_⟩) s1)
  cases d with
  | int j =>
    cases hi
    cases (show Dp _ _ v' (.int i) from r)
    rfl
  | _ => cases hi
theorem tup_ints {K : Fg} {F : Hp} {ns : List Int} {v : V} (h : (cTup cInt).rp K F ns v) : ∃ a, v = .ref a ∧ SqT K F a (ns.map V.int) := by
  obtain ⟨a, vs, e, h1, h2⟩ := h
  have e2 := h2.ints
  rw [e2] at h1
  exact ⟨a, e, sqT h1⟩
theorem ev_minT (O : Ok X B Z k) (hm : X.mg "min" = none) (h : EV X B a Γ (fun Γ1 b1 => ∃ xs, b1 = va (cTup cInt) xs ∧ ∃ z, minI xs = some z ∧ P Γ1 (va cInt z))) (hg : Gl X "min" := by rfl) (he : starEach (a :: []) X.env = (false, eval a X.env) :: starEach [] X.env := by rfl) : EV X B (.Call (.Name "min" p) [a] [] pos) Γ P :=
  ev_op1 (ca := cTup cInt) (cc := cInt) (k := minI) (is_call (cr_minT O.calm (room65 O.room)) hm boot_min' hg (by decide) (by decide) he rfl) (fun xs z hz F own H v Q wd hv q => by
    obtain ⟨ad, e1, h1⟩ := tup_ints hv
    exact ⟨ad, xs, by rw [e1], seqT_up wd.fh h1, z, hz, q F H _ wd (Same.rfl' F) (Same.rfl' H) rfl⟩) h
theorem ev_maxT (O : Ok X B Z k) (hm : X.mg "max" = none) (h : EV X B a Γ (fun Γ1 b1 => ∃ xs, b1 = va (cTup cInt) xs ∧ ∃ z, maxI xs = some z ∧ P Γ1 (va cInt z))) (hg : Gl X "max" := by rfl) (he : starEach (a :: []) X.env = (false, eval a X.env) :: starEach [] X.env := by rfl) : EV X B (.Call (.Name "max" p) [a] [] pos) Γ P :=
  ev_op1 (ca := cTup cInt) (cc := cInt) (k := maxI) (is_call (cr_maxT O.calm (room65 O.room)) hm boot_max' hg (by decide) (by decide) he rfl) (fun xs z hz F own H v Q wd hv q => by
    obtain ⟨ad, e1, h1⟩ := tup_ints hv
    exact ⟨ad, xs, by rw [e1], seqT_up wd.fh h1, z, hz, q F H _ wd (Same.rfl' F) (Same.rfl' H) rfl⟩) h
/-- list(range(n)) -/
theorem ev_listRng {p3 pos3 : Pos} (O : Ok X B Z k) (hm : X.mg "list" = none) (hm2 : X.mg "range" = none) (h : EV X B a Γ (fun Γ1 b1 => ∃ n, b1 = va cInt n ∧ ∃ z, rngL 0 n = some z ∧ P Γ1 (ow (oLst cInt) z))) (hg : Gl X "list" := by rfl) (hg2 : Gl X "range" := by rfl)
    (na : starEach [a] X.env = (false, eval a X.env) :: starEach [] X.env := by rfl) (na2 : starEach [.Call (.Name "range" p3) [a] [] pos3] X.env = (false, eval (.Call (.Name "range" p3) [a] [] pos3) X.env) :: starEach [] X.env := by rfl) :
    EV X B (.Call (.Name "list" p) [.Call (.Name "range" p3) [a] [] pos3] [] pos) Γ P := fun t σ H Q s q => by
  refine wp_of_pe (pe_listRg O.calm hg hm (prg_1 hg2 hm2 pe_wp na) na2) ?_
  refine h t σ H _ s fun Γ1 b1 ⟨n, e1, z, hz, g⟩ v H1 s1 => ?_
  subst e1
  obtain ⟨F, own, wd, hS, ⟨v', ev, rv⟩, hT⟩ := s1
  cases ev
  unfold rngL at hz
  split at hz
  · rename_i hr
    cases hz
    refine ⟨n, rv, hr, fun q' hq => ?_⟩
    rw [map_rng]
    exact q _ _ g _ _ (push_own wd hS hT hq (all2_ints _))
  · cases hz
/-! ### try in a row of statements -/
theorem SB0.wk {Γ' : List Bd} (w : Wk Γ Γ') (h : SB0 X B ss Γ' R) : SB0 X B ss Γ R := fun σ H D pn s d => h σ H D pn (s.wk w) d
theorem sb0_try {S ρ : Type} {body : List Stmt} {mb : Res S} {hnd : Exn → Res S} {kr : S → Res ρ} {Pr : ρ → Prop} {Zr : Exn → Prop} {Γs : S → List Bd} {h₀ : ExceptHandler} {hds : List ExceptHandler} {w : Zt → Zt}
    (O : Ok X B (fun ex _ => Zr ex) k) (hp : B.pins = []) (hh : HT X B { R with nx := fun Γ' => SB0 X B ss Γ' R } (h₀ :: hds) w) (g : good (Res.tr mb Res.ok hnd >>= kr) Pr Zr)
    (hrest : ∀ s, good (kr s) Pr Zr → SB0 X B ss (Γs s) R)
    (hw : (∀ s, good (kr s) Pr Zr → SB0 X B ss (Γs s) R) → ∀ ex, good (hnd ex) (fun s => good (kr s) Pr Zr) Zr → w (fun ex _ => Zr ex) ex Γ)
    (hb : (∀ s, good (kr s) Pr Zr → SB0 X B ss (Γs s) R) → ∀ pn xe, Ok (X.tr pn xe) B (fun ex Γ' => Γ' = Γ ∧ good (hnd ex) (fun s => good (kr s) Pr Zr) Zr) k → good mb (fun s => good (kr s) Pr Zr) (fun ex => Γ = Γ ∧ good (hnd ex) (fun s => good (kr s) Pr Zr) Zr) →
      SB (X.tr pn xe) B body Γ { R with nx := fun Γ' => SB0 X B ss Γ' R })
    (hs : X.stack = X.env :: X.outer := by rfl) (hf : X.env.frame = some X.env.locals := by rfl) : SB0 X B (.Try body (h₀ :: hds) [] [] pos :: ss) Γ R := by
  have g1 := good_tr (good_bind g)
  refine sb0_cons (s10_try O hp hh (fun pn xe O1 => ?_) hs hf)
  refine (hb hrest pn xe (O1.monoZ fun ex Γ' h => ?_) (good_zimp g1 fun e h => ⟨rfl, h⟩)).zero
  obtain ⟨e, h⟩ := h
  subst e
  exact hw hrest ex h
end
end T
set_option maxHeartbeats 4000000
namespace T
open PySem PySem.Spec PyProof.Rows L2

/-! ### a comprehension with two for -/
def compI {γ β : Type} : List γ → (γ → Res β) → List β → Res (List β)
  | [], _, acc => .ok acc
  | y :: r, f, acc => if acc.length < 16777216 then noX (f y) >>= fun b => compI r f (acc ++ [b]) else .stuck
def comp2 {α γ β : Type} : List α → (α → Res (List γ)) → (α → γ → Res β) → List β → Res (List β)
  | [], _, _, acc => .ok acc
  | x :: r, g, f, acc => noX (g x) >>= fun ys => compI ys (f x) acc >>= fun acc' => comp2 r g f acc'
theorem good_rebind {α β : Type} {m : Res α} {k : α → Res β} {P : β → Prop} {Z : Exn → Prop} (h : good m (fun x => good (k x) P Z) Z) : good (m >>= k) P Z := by
  cases m <;> exact h
theorem HoldT.wr {K : Fg} {F H H' : Hp} {own : Ow} {D : Addr} {b b' : Bd} {t : List (V × Bd)} (e : own D = some (.inr t.length)) (hb : b'.hold K F H' (some (.ref D)) (fun a => own a = some (.inr t.length))) (k : ∀ a o, a ≠ D → H a = some o → H' a = some o) :
    ∀ {p : List (V × Bd)}, HoldT K F H own (p ++ (V.ref D, b) :: t) → HoldT K F H' own (p ++ (V.ref D, b') :: t)
  | [], h => ⟨hb, h.2.up (Same.rfl' F) fun a i hi z => ⟨z, fun o eo => k a o (fun y => by rw [y, e] at z; injection z with z; injection z with z; omega) eo⟩⟩
  | q :: p, h => ⟨q.2.up (Same.rfl' F) (fun a z => by
      change own a = some (.inr (p ++ (V.ref D, b) :: t).length) at z
      show own a = some (.inr (p ++ (V.ref D, b') :: t).length) ∧ _
      have hl : (p ++ (V.ref D, b') :: t).length = (p ++ (V.ref D, b) :: t).length := by rw [List.length_append, List.length_append, List.length_cons, List.length_cons]
      refine ⟨by rw [hl]; exact z, fun o eo => k a o (fun y => ?_) eo⟩
      rw [y, e] at z
      injection z with z
      injection z with z
      rw [List.length_append, List.length_cons] at z
      omega) h.1, HoldT.wr e hb k h.2⟩
theorem EG.sub {X : Cx} {B : Bs} {js vs : List Nat} {e : Expr} {Γ : List Bd} {b : Bd} {P : List Bd → Prop} (hs : ∀ u ∈ js, u ∈ vs) (h : EG X B js e Γ b P) : EG X B vs e Γ b P := fun t σ H v Q pn s q =>
  h t σ H v Q pn s fun Γ' p σ' H' d pn' s' => q Γ' p σ' H' ⟨d.1, fun j hj => d.2 j (by
    cases hc : js.contains j with
    | false => rfl
    | true =>
      have := hs j (List.contains_iff_mem.mp hc)
      rw [List.contains_iff_mem.mpr this] at hj
      cases hj)⟩ pn' s'
section
variable {X : Cx} {B : Bs} {Z : Zt} {Γ : List Bd} {tg it tg1 it1 elt : Expr} {scope : Scope} {pos : Pos} {k : Nat} {α β γ : Type} {cd : Cd α} {cd1 : Cd γ}
def wpI (X : Cx) (tg it : Expr) : TI := fun σ H R => ∀ pins s, Inv X pins σ H s → wpAny (model X.prog X.w) X.A (eval it X.env) (fun v s1 => wpAny (model X.prog X.w) X.A (pyIter v) (PIE X pins σ tg R) X.xe s1) X.xe s
def bI (X : Cx) (scope : Scope) (tg it : Expr) : TI := fun σ H R => ∀ s H0 C cl fp, wpI (X.blk s H0 scope (compEnvC scope cl C X.env) fp) tg it σ H R
theorem bi_ok : ∀ (s : Shared) (H : Hp) (C : Addr) (cl : List (Str × Addr)) (fp : List Addr), PI (X.blk s H scope (compEnvC scope cl C X.env) fp) tg it (bI X scope tg it) := fun s H C cl fp => ⟨fun pins s' σ H' R I h => h s H C cl fp pins s' I⟩
theorem it_wp {gi : Option Nat} {P : List Bd → List α → Prop} (h : IT X B tg it Γ gi cd P) {t : List (V × Bd)} {σ : L2.St} {H : Hp} {R : It → Hp → Prop} (s : Sat X.K B t σ Γ H)
    (q : ∀ Γ' xs, P Γ' xs → ∀ J H' tm b v, Sat X.K B (tm ++ t) σ Γ' H' → Gd gi b v Γ' σ → Walks X.K B cd J tm (Gd gi b v) xs → R J H') : wpI X tg it σ H R := by
  obtain ⟨wi, h1, h2⟩ := h
  exact fun pins s' I => h1.run pins s' σ H R I (h2 t σ H R s q)
theorem comp2_core {wi : TI} {vs vs1 : List Nat} {t : List (V × Bd)} {σ : L2.St} {H : Hp} {Q : VK} {g : α → Res (List γ)} {f : α → γ → Res β} {Pk : List β → Prop} {Pi : List Bd → List α → Prop} (ce : Cd β) (Γ0 : List Bd) (Γx : α → List Bd)
    (hwi : ∀ R, (∀ Γ' xs, Pi Γ' xs → ∀ J H' tm b v, Sat X.K B (tm ++ t) σ Γ' H' → Gd none b v Γ' σ → Walks X.K B cd J tm (Gd none b v) xs → R J H') → wi σ H R)
    (hPi : ∀ Γ1 xs, Pi Γ1 xs → ∃ (Zk : Exn → Prop), Wk Γ1 Γ0 ∧ good (comp2 xs g f []) Pk Zk)
    (hb : ∀ s H C cl fp x, EG (X.blk s H scope (compEnvC scope cl C X.env) fp) B.unp vs tg Γ0 (va cd x) (fun Γ2 => Γ2 = Γx x))
    (hi1 : ∀ s H C cl fp x (Pb : List γ → Prop), good (g x) Pb (fun _ => False) → IT (X.blk s H scope (compEnvC scope cl C X.env) fp) B.unp tg1 it1 (Γx x) none cd1 (fun Γ3 ys => Wk Γ3 (Γx x) ∧ Pb ys))
    (hb1 : ∀ s H C cl fp x y (Pb : β → Prop), good (f x y) Pb (fun _ => False) → EG (X.blk s H scope (compEnvC scope cl C X.env) fp) B.unp vs1 tg1 (Γx x) (va cd1 y) (fun Γ4 => ∀ s H C cl fp, EV (X.blk s H scope (compEnvC scope cl C X.env) fp) B.unp elt Γ4 (fun Γ5 be => ∃ z, Pb z ∧ be = va ce z ∧ Wk Γ5 (Γx x))))
    (hw : wipB Γ0 vs = Γ0) (hw1 : ∀ x, wipB (Γx x) vs1 = Γx x) (hwk : ∀ x, Wk (Γx x) Γ0) (hsub : ∀ u ∈ vs1, u ∈ vs)
    (q : ∀ zs, Pk zs → ∀ v H', Sat X.K B ((v, ow (oLst ce) zs) :: t) σ Γ0 H' → Q v H') : tLc2 wi (bG X scope tg) tYes (bI X scope tg1 it1) (bG X scope tg1) tYes (bE X scope elt) vs vs1 σ H Q := by
  refine hwi _ fun Γ1 xs p1 J H1 tm b v s1 g1 W D hD => ?_
  obtain ⟨Zk, w0, gd⟩ := hPi Γ1 xs p1
  refine ⟨fun i m H' => ∃ acc : List β, m = xs.length - i ∧ i ≤ xs.length ∧ Sat X.K B ([(V.ref D, ow (oLst ce) acc)] ++ (tm ++ t)) σ Γ0 H' ∧ good (comp2 (xs.drop i) g f acc) Pk Zk, ⟨xs.length, [], by simp, Nat.zero_le _, ?_, gd⟩, ?_⟩
  · obtain ⟨F, own, wd, hS, hT⟩ := s1.wk w0
    have nq := wd.none_own hD
    refine ⟨F, put own D (.inr (tm ++ t).length), wd.newO hD _, hS.up (Same.rfl' F) fun a i z => ⟨?_, fun o e => Same.newH hD a o e⟩, ⟨D, rfl, put_same, [], upd_same, trivial⟩, hT.up (Same.rfl' F) fun a i hi z => ⟨?_, fun o e => Same.newH hD a o e⟩⟩
    · rw [put_ne (fun y => by rw [y, nq] at z; cases z)]
      exact z
    · rw [put_ne (fun y => by rw [y, nq] at z; cases z)]
      exact z
  · rintro i m H' ⟨acc, rfl, hi, s', gs⟩
    by_cases hlt : i < xs.length
    · have hx : xs[i]? = some xs[i] := List.getElem?_eq_getElem hlt
      obtain ⟨w1, w2⟩ := W.go _ t σ Γ0 H' i xs[i] s' trivial hx
      rw [drop_cons hx] at gs
      unfold comp2 at gs
      have gf := good_noX (good_bind gs)
      refine .inr ⟨w1, fun H'' => ∃ acc' : List β, Sat X.K B ([(V.ref D, ow (oLst ce) acc')] ++ (tm ++ t)) σ Γ0 H'' ∧ good (comp2 (xs.drop (i + 1)) g f acc') Pk Zk, fun H'' ⟨acc', a, b⟩ => ⟨xs.length - (i + 1), by omega, acc', rfl, hlt, a, b⟩, fun x H2 y => ?_⟩
      have s2 := w2 x H2 y
      have s3 : Sat X.K B ((x, va cd xs[i]) :: ([(V.ref D, ow (oLst ce) acc)] ++ (tm ++ t))) (wipe σ vs) Γ0 H2 := s2.swap hw (wipe_wipe fun _ h => h).symm
      intro s H0 C cl fp
      refine hb s H0 C cl fp xs[i] _ (wipe σ vs) H2 x _ pin_unp s3.unp fun Γ2 h2 σ2 H3 df pn2 s4 => ?_
      subst h2
      have ew : L2.wipe σ2 vs = L2.wipe σ vs := df.wipe.trans (wipe_wipe fun _ h => h)
      refine ⟨ew, ?_⟩
      show bI X scope tg1 it1 σ2 H3 _
      intro s H0 C cl fp
      refine it_wp (hi1 s H0 C cl fp xs[i] _ gf) s4 fun Γ3 ys ⟨w3, gi3⟩ J1 H4 tm1 b1 v1 s5 _ W1 => ?_
      refine ⟨fun j kk H' => ∃ acc1 : List β, kk = ys.length - j ∧ j ≤ ys.length ∧ Sat X.K B.unp (tm1 ++ ([(V.ref D, ow (oLst ce) acc1)] ++ (tm ++ t))) σ2 (Γx xs[i]) H' ∧ good (compI (ys.drop j) (f xs[i]) acc1 >>= fun acc' => comp2 (xs.drop (i + 1)) g f acc') Pk Zk, ⟨ys.length, acc, by simp, Nat.zero_le _, s5.wk w3, gi3⟩, ?_⟩
      rintro j kk H' ⟨acc1, rfl, hj, s6, gs1⟩
      by_cases hlt1 : j < ys.length
      · have hy : ys[j]? = some ys[j] := List.getElem?_eq_getElem hlt1
        obtain ⟨w4, w5⟩ := W1.go [] _ σ2 (Γx xs[i]) H' j ys[j] s6 trivial hy
        rw [drop_cons hy] at gs1
        unfold compI at gs1
        by_cases hz : acc1.length < 16777216
        · rw [if_pos hz] at gs1
          have gg := good_bind gs1
          have gf1 := good_noX (good_bind gg)
          refine .inr ⟨w4, fun H'' => ∃ acc' : List β, Sat X.K B.unp (tm1 ++ ([(V.ref D, ow (oLst ce) acc')] ++ (tm ++ t))) σ2 (Γx xs[i]) H'' ∧ good (compI (ys.drop (j + 1)) (f xs[i]) acc' >>= fun acc' => comp2 (xs.drop (i + 1)) g f acc') Pk Zk, fun H'' ⟨acc', a, b⟩ => ⟨ys.length - (j + 1), by omega, acc', rfl, hlt1, a, b⟩, fun xv H5 yy => ?_⟩
          have s7 := w5 xv H5 yy
          have s8 : Sat X.K B.unp ((xv, va cd1 ys[j]) :: (tm1 ++ ([(V.ref D, ow (oLst ce) acc1)] ++ (tm ++ t)))) (wipe σ2 vs1) (Γx xs[i]) H5 := s7.swap (hw1 _) (wipe_wipe fun _ h => h).symm
          intro s H0 C cl fp
          refine hb1 s H0 C cl fp xs[i] ys[j] _ gf1 _ (wipe σ2 vs1) H5 xv _ pin_unp s8 fun Γ4 h4 σ3 H6 df1 pn3 s9 => ?_
          have ew1 : L2.wipe σ3 vs1 = L2.wipe σ2 vs1 := df1.wipe.trans (wipe_wipe fun _ h => h)
          refine ⟨ew1, ?_⟩
          show bE X scope elt σ3 H6 _
          intro s H0 C cl fp
          refine h4 s H0 C cl fp _ σ3 H6 _ s9 fun Γ5 be ⟨z, pz, e1, w6⟩ yv H7 s10 => ?_
          subst e1
          have s11 : Sat X.K B.unp ((yv, va ce z) :: (tm1 ++ ([(V.ref D, ow (oLst ce) acc1)] ++ (tm ++ t)))) σ2 (Γx xs[i]) H7 := (s10.wk w6).swap (hw1 _) ew1
          obtain ⟨F, own, wd, hS, ⟨y', ey, ry⟩, hT⟩ := s11
          cases ey
          obtain ⟨D', eD, hD', us, hu, ru⟩ := hT.at (p := tm1) (q := (V.ref D, ow (oLst ce) acc1)) (t := tm ++ t)
          cases eD
          have hkeep : ∀ a o, a ≠ D → H7 a = some o → upd H7 D (.lst (us ++ [yv])) a = some o := fun a o ne e => by
            rw [upd_ne ne]
            exact e
          refine ⟨us, hu, by rw [ru.length, sizeLine_eq]; exact hz, acc1 ++ [z], ⟨F, own, wd.write hD', hS.up (Same.rfl' F) fun a i z => ⟨z, fun o e => ?_⟩, ?_⟩, ?_⟩
          · rw [upd_ne (fun y => by rw [y, hD'] at z; cases z)]
            exact e
          · exact HoldT.wr (b' := ow (oLst ce) (acc1 ++ [z])) (t := tm ++ t) hD' ⟨D, rfl, hD', us ++ [yv], upd_same, ru.app ⟨ry, trivial⟩⟩ hkeep hT
          · have := pz
            exact good_rebind this
        · rw [if_neg hz] at gs1
          exact (good_bind gs1).elim
      · have e : j = ys.length := by omega
        subst e
        rw [List.drop_length] at gs1
        refine .inl ⟨W1.stop [] _ σ2 (Γx xs[i]) H' s6 trivial, acc1, ?_, good_bind gs1⟩
        have s7 : Sat X.K B.unp ([(V.ref D, ow (oLst ce) acc1)] ++ (tm ++ t)) σ2 Γ0 H' := (Sat.mids (p := []) s6).wk (hwk _)
        exact (s7.swap hw ew).pun
    · have e : i = xs.length := by omega
      subst e
      rw [List.drop_length] at gs
      exact .inl ⟨W.stop _ t σ Γ0 H' s' trivial, q acc gs _ H' (Sat.mids (p := [(V.ref D, ow (oLst ce) acc)]) s')⟩
theorem ev_comp2 {vs vs1 : List Nat} {own : List (Str × Nat)} {g : α → Res (List γ)} {f : α → γ → Res β} {P : List Bd → Bd → Prop} (ce : Cd β) (O : Ok X B Z k) (Γ0 : List Bd) (Γx : α → List Bd)
    (hI : IT X B tg it Γ none cd (fun Γ1 xs => ∃ (Zk : Exn → Prop), Wk Γ1 Γ0 ∧ good (comp2 xs g f []) (fun zs => P Γ0 (ow (oLst ce) zs)) Zk))
    (hb : ∀ s H C cl fp, Ok (X.blk s H scope (compEnvC scope cl C X.env) fp) B.unp ZF k → ∀ x, EG (X.blk s H scope (compEnvC scope cl C X.env) fp) B.unp vs tg Γ0 (va cd x) (fun Γ2 => Γ2 = Γx x))
    (hi1 : ∀ s H C cl fp, Ok (X.blk s H scope (compEnvC scope cl C X.env) fp) B.unp ZF k → ∀ x (Pb : List γ → Prop), good (g x) Pb (fun _ => False) → IT (X.blk s H scope (compEnvC scope cl C X.env) fp) B.unp tg1 it1 (Γx x) none cd1 (fun Γ3 ys => Wk Γ3 (Γx x) ∧ Pb ys))
    (hb1 : ∀ s H C cl fp, Ok (X.blk s H scope (compEnvC scope cl C X.env) fp) B.unp ZF k → ∀ x y (Pb : β → Prop), good (f x y) Pb (fun _ => False) → EG (X.blk s H scope (compEnvC scope cl C X.env) fp) B.unp vs1 tg1 (Γx x) (va cd1 y) (fun Γ4 => ∀ s H C cl fp, EV (X.blk s H scope (compEnvC scope cl C X.env) fp) B.unp elt Γ4 (fun Γ5 be => ∃ z, Pb z ∧ be = va ce z ∧ Wk Γ5 (Γx x))))
    (hv : own.map (·.2) = vs := by rfl) (ok : blkC X.N X.env.scope scope own = true := by decide +kernel) (hw : wipB Γ0 vs = Γ0 := by rfl) (hw1 : ∀ x, wipB (Γx x) vs1 = Γx x := by intro _; rfl) (hwk : ∀ x, Wk (Γx x) Γ0) (hsub : ∀ u ∈ vs1, u ∈ vs := by decide)
    (hs : ∀ x, foldedSetIterable it X.env x = pure x := by intro _; rfl) (hs1 : ∀ env x, foldedSetIterable it1 env x = pure x := by intro _ _; rfl) :
    EV X B (.ListComp elt [⟨tg, it, [], 0⟩, ⟨tg1, it1, [], 0⟩] scope pos) Γ P := by
  intro t σ H Q s q
  obtain ⟨wi, h1, h2⟩ := hI
  refine wp_of_pe (pe_lc2 (own := own) (vs1 := vs1) O.calm O.nd h1 (blkOk_by ok) (by rw [hv]; exact hsub) bg_ok (fun _ _ _ _ _ => pts_nil) bi_ok bg_ok (fun _ _ _ _ _ => pts_nil) be_ok hs hs1) ?_
  rw [hv]
  exact comp2_core ce Γ0 Γx (fun R hR => h2 t σ H R s hR) (fun Γ1 xs h => h) (fun s H C cl fp => hb s H C cl fp O.blk) (fun s H C cl fp => hi1 s H C cl fp O.blk) (fun s H C cl fp => hb1 s H C cl fp O.blk) hw hw1 hwk hsub fun p hP v H' s' => q _ _ hP v H' s'
end
end T
set_option maxHeartbeats 4000000
namespace T
open PySem PySem.Spec PyProof.Rows L2
open AutoSeq1 (wpAny_loadPart')

def repT {α : Type} (xs : List α) (k : Int) : Option (List α) := if 0 < xs.length ∧ -1000 ≤ k ∧ k ≤ 1000 ∧ xs.length ≤ 1000 then some (List.replicate k.toNat xs).flatten else none
section
variable {X : Cx} {B : Bs} {Γ : List Bd} {P : List Bd → Bd → Prop} {a b : Expr} {pos : Pos} {α : Type} {c : Cd α}
theorem ev_repT (h : EV X B a Γ (fun Γ1 b1 => ∃ xs, b1 = va (cTup c) xs ∧ EV X B b Γ1 (fun Γ2 b2 => ∃ n, b2 = va cInt n ∧ ∃ z, repT xs n = some z ∧ P Γ2 (va (cTup c) z)))) : EV X B (.BinOp a .Mult b pos) Γ P := fun t σ H Q s q => by
  refine wp_of_pe (pe_op op_repF pe_wp pe_wp) ?_
  refine h t σ H _ s fun Γ1 b1 ⟨xs, e1, h1⟩ v H1 s1 => ?_
  subst e1
  refine h1 _ σ H1 _ s1 fun Γ2 b2 ⟨n, e2, z, hz, p⟩ w H2 s2 => ?_
  subst e2
  obtain ⟨F, own, wd, hS, ⟨w', ew, rw'⟩, ⟨v', ev, ad, vs, ea, h2, h3⟩, hT⟩ := s2
  cases ew
  cases ev
  subst ea
  unfold repT at hz
  split at hz
  · rename_i hk
    cases hz
    have hl := h3.length
    refine ⟨ad, n, vs, rfl, rw', seqT_up wd.fh (sqT h2), fun e => by rw [e] at hl; simp at hl; omega, hk.2.1, hk.2.2.1, by omega, fun e1 => ?_, fun _ p' us hp => ?_⟩
    · subst e1
      refine q _ _ p _ H2 (Sat.push wd hS hT ⟨ad, vs, rfl, h2, ?_⟩)
      rw [show (List.replicate (1 : Int).toNat xs).flatten = xs by show (List.replicate 1 xs).flatten = xs; simp]
      exact h3
    · exact q _ _ p _ _ (push_tupF (cd := cTup c) wd hS hT hp ⟨p', _, rfl, .of upd_same, h3.rep.imp fun _ _ => c.up (Same.newH (wd.none_F hp))⟩)
  · cases hz
end
theorem repT_one {α : Type} {x : α} {k : Int} (h0 : -1000 ≤ k) (h1 : k ≤ 1000) : repT [x] k = some (List.replicate k.toNat x) := by
  unfold repT
  rw [if_pos (by simp; omega)]
  congr 1
  generalize k.toNat = n
  induction n with
  | zero => rfl
  | succ n ih => rw [List.replicate_succ, List.flatten_cons, ih]; rfl
end T
set_option maxHeartbeats 4000000
namespace T
open PySem PySem.Spec PyProof.Rows L2
section
variable {X : Cx} {B : Bs} {Z : Zt} {Γ : List Bd} {P : List Bd → Bd → Prop} {a b e : Expr} {pos p : Pos} {k : Nat} {α : Type} {c : Cd α}
/-- an optional value that is there -/
theorem ev_unO (h : EV X B e Γ (fun Γ1 b1 => ∃ o, b1 = va (cOpt c) o ∧ ∃ x, o = some x ∧ P Γ1 (va c x))) : EV X B e Γ P := fun t σ H Q s q => h t σ H Q s fun Γ1 b1 ⟨o, e1, x, e2, g⟩ v H1 s1 => by
  subst e1 e2
  exact q _ _ g v H1 (Sat.cast (b := va (cOpt c) (some x)) (b' := va c x) (fun F H f ⟨v', e, r⟩ => ⟨v', e, r.2⟩) s1)
theorem xm_unO {m : Res (Option α)} (h : XM X B Z e Γ (cOpt c) m) : XM X B Z e Γ c (m >>= fun o => lift o) := fun P g => ev_unO (h _ (good_imp (good_bind g) fun o go => ⟨o, rfl, good_lift go⟩))
/-- a value that wants no Ok -/
theorem xx0 {Zr : Exn → Prop} {m : Res α} (h : XM X B (fun ex _ => Zr ex) e Γ c m) (P : List Bd → Bd → Prop) (g : good m (fun x => P Γ (va c x)) Zr) : EV X B e Γ P := h P g
theorem Sat.junk {K : Fg} {t : List (V × Bd)} {σ : L2.St} {H : Hp} {q0 : Addr} {vs : List V} (s : Sat K B t σ Γ H) (hq : H q0 = none) : Sat K B t σ Γ (upd H q0 (.tup vs)) := by
  obtain ⟨F, own, wd, hS, hT⟩ := s
  exact ⟨upd F q0 (.tup vs), own, wd.newF hq, hS.up (Same.newH (wd.none_F hq)) fun a i q => ⟨q, fun o e => Same.newH hq a o e⟩, hT.up (Same.newH (wd.none_F hq)) fun a i _ q => ⟨q, fun o e => Same.newH hq a o e⟩⟩
/-- x, y = a, b through a tuple -/
theorem s1_tup2 {R : Rs} (i j : Nat) {x y : Str} {px py pt pt2 : Pos} {kt k2 : Nat} (O : Ok X B Z k) (h : EA X B [a, b] Γ (fun Γ1 as => ∃ b1 b2, as = [.tmp b1, .tmp b2] ∧ R.nx ((Γ1.set i b1).set j b2))) (hi : X.N[i]? = some x := by rfl) (hj : X.N[j]? = some y := by rfl) (hij : i ≠ j := by decide)
    (hx : Loc X.env.scope x := by first | exact Or.inl rfl | exact Or.inr rfl) (hy : Loc X.env.scope y := by first | exact Or.inl rfl | exact Or.inr rfl)
    (fx : X.fn x = true ∨ X.env.scope.names.lookup x = some .local := by first | exact .inl rfl | exact .inr rfl) (fy : X.fn y = true ∨ X.env.scope.names.lookup y = some .local := by first | exact .inl rfl | exact .inr rfl)
    (hp : B.pins.contains i = false := by rfl) (hp' : B.pins.contains j = false := by rfl) (hl : Nat.blt i Γ.length = true ∧ Nat.blt j Γ.length = true := by exact ⟨rfl, rfl⟩)
    (hw : swappedStores [.Tuple [.Name x px, .Name y py] kt pt] (.Tuple [a, b] k2 pt2) X.env = pure none := by rfl) (hs : swapsWithSole [.Tuple [.Name x px, .Name y py] kt pt] (.Tuple [a, b] k2 pt2) pos.line X.env = pure false := by rfl)
    (h1 : (assignEach [.Tuple [.Name x px, .Name y py] kt pt] X.env).map (·.2) = [assign (.Tuple [.Name x px, .Name y py] kt pt) X.env] := by rfl)
    (hn : (assignEach [.Name x px, .Name y py] X.env).length = 2 := by rfl) (hst : (assignEach [.Name x px, .Name y py] X.env).findIdx? (·.1) = none := by rfl)
    (s1 : (assignEach (.Name x px :: [.Name y py]) X.env).map (·.2) = assign (.Name x px) X.env :: (assignEach [.Name y py] X.env).map (·.2) := by rfl) (s2 : (assignEach (.Name y py :: []) X.env).map (·.2) = assign (.Name y py) X.env :: (assignEach [] X.env).map (·.2) := by rfl) :
    S1 X B (.Assign [.Tuple [.Name x px, .Name y py] kt pt] (.Tuple [a, b] k2 pt2) pos) Γ R := fun t σ H D pn s d => by
  have l0 : i < σ.length ∧ j < σ.length := by
    rw [s.len]
    exact ⟨Nat.le_of_ble_eq_true hl.1, Nat.le_of_ble_eq_true hl.2⟩
  refine wp_of_ps (ps_asg (pe_tup pa_wp) (pg_tup O.calm (pgs_cons (pg_name O.nd hi hx fx) (pgs_cons (pg_name O.nd hj hy fy) pgs_nil s2) s1) hn hst) hs hw h1) ?_
  refine h t σ H _ s fun Γ1 as ⟨b1, b2, e1, p⟩ vs H1 t' ha s1 => ?_
  subst e1
  cases ha with
  | tmp ha => cases ha with
    | tmp ha =>
      cases ha
      rename_i u v
      refine ⟨(by show 2 ≤ sizeLine; decide), fun q0 hq => ⟨q0, [u, v], rfl, .of upd_same, rfl, u, [v], rfl, v, [], rfl, rfl, ?_⟩⟩
      have s3 := (s1.store (i := j) l0.2).store (i := i) (by rw [List.length_set]; exact l0.1)
      rw [List.set_comm _ _ hij.symm, List.set_comm _ _ hij.symm] at s3
      exact d.nx _ p _ _ ((pn.set hp).set hp') (s3.junk hq)
theorem s1_tup3 {R : Rs} (i j l : Nat) {x y z : Str} {c1 : Expr} {px py pz pt pt2 : Pos} {kt k2 : Nat} (O : Ok X B Z k) (h : EA X B [a, b, c1] Γ (fun Γ1 as => ∃ b1 b2 b3, as = [.tmp b1, .tmp b2, .tmp b3] ∧ R.nx (((Γ1.set i b1).set j b2).set l b3))) (hi : X.N[i]? = some x := by rfl) (hj : X.N[j]? = some y := by rfl) (hk : X.N[l]? = some z := by rfl) (hij : i ≠ j := by decide) (hil : i ≠ l := by decide) (hjl : j ≠ l := by decide)
    (hx : Loc X.env.scope x := by first | exact Or.inl rfl | exact Or.inr rfl) (hy : Loc X.env.scope y := by first | exact Or.inl rfl | exact Or.inr rfl) (hz : Loc X.env.scope z := by first | exact Or.inl rfl | exact Or.inr rfl)
    (fx : X.fn x = true ∨ X.env.scope.names.lookup x = some .local := by first | exact .inl rfl | exact .inr rfl) (fy : X.fn y = true ∨ X.env.scope.names.lookup y = some .local := by first | exact .inl rfl | exact .inr rfl) (fz : X.fn z = true ∨ X.env.scope.names.lookup z = some .local := by first | exact .inl rfl | exact .inr rfl)
    (hp : B.pins.contains i = false := by rfl) (hp' : B.pins.contains j = false := by rfl) (hp2 : B.pins.contains l = false := by rfl) (hl : Nat.blt i Γ.length = true ∧ Nat.blt j Γ.length = true ∧ Nat.blt l Γ.length = true := by exact ⟨rfl, rfl, rfl⟩)
    (hw : swappedStores [.Tuple [.Name x px, .Name y py, .Name z pz] kt pt] (.Tuple [a, b, c1] k2 pt2) X.env = pure none := by rfl) (hs : swapsWithSole [.Tuple [.Name x px, .Name y py, .Name z pz] kt pt] (.Tuple [a, b, c1] k2 pt2) pos.line X.env = pure false := by rfl)
    (h1 : (assignEach [.Tuple [.Name x px, .Name y py, .Name z pz] kt pt] X.env).map (·.2) = [assign (.Tuple [.Name x px, .Name y py, .Name z pz] kt pt) X.env] := by rfl)
    (hn : (assignEach [.Name x px, .Name y py, .Name z pz] X.env).length = 3 := by rfl) (hst : (assignEach [.Name x px, .Name y py, .Name z pz] X.env).findIdx? (·.1) = none := by rfl)
    (s1 : (assignEach (.Name x px :: [.Name y py, .Name z pz]) X.env).map (·.2) = assign (.Name x px) X.env :: (assignEach [.Name y py, .Name z pz] X.env).map (·.2) := by rfl) (s2 : (assignEach (.Name y py :: [.Name z pz]) X.env).map (·.2) = assign (.Name y py) X.env :: (assignEach [.Name z pz] X.env).map (·.2) := by rfl) (s3 : (assignEach (.Name z pz :: []) X.env).map (·.2) = assign (.Name z pz) X.env :: (assignEach [] X.env).map (·.2) := by rfl) :
    S1 X B (.Assign [.Tuple [.Name x px, .Name y py, .Name z pz] kt pt] (.Tuple [a, b, c1] k2 pt2) pos) Γ R := fun t σ H D pn s d => by
  have l0 : i < σ.length ∧ j < σ.length ∧ l < σ.length := by
    rw [s.len]
    exact ⟨Nat.le_of_ble_eq_true hl.1, Nat.le_of_ble_eq_true hl.2.1, Nat.le_of_ble_eq_true hl.2.2⟩
  refine wp_of_ps (ps_asg (pe_tup pa_wp) (pg_tup O.calm (pgs_cons (pg_name O.nd hi hx fx) (pgs_cons (pg_name O.nd hj hy fy) (pgs_cons (pg_name O.nd hk hz fz) pgs_nil s3) s2) s1) hn hst) hs hw h1) ?_
  refine h t σ H _ s fun Γ1 as ⟨b1, b2, b3, e1, p⟩ vs H1 t' ha s1 => ?_
  subst e1
  cases ha with
  | tmp ha => cases ha with
    | tmp ha => cases ha with
      | tmp ha =>
        cases ha
        rename_i u v w
        refine ⟨(by show 3 ≤ sizeLine; decide), fun q0 hq => ⟨q0, [u, v, w], rfl, .of upd_same, rfl, u, [v, w], rfl, v, [w], rfl, w, [], rfl, rfl, ?_⟩⟩
        have s2 := ((s1.store (i := l) l0.2.2).store (i := j) (by rw [List.length_set]; exact l0.2.1)).store (i := i) (by rw [List.length_set, List.length_set]; exact l0.1)
        rw [List.set_comm _ _ hjl.symm, List.set_comm _ _ hjl.symm, List.set_comm (l := (_ : List Bd).set j b2) _ _ hil.symm, List.set_comm (l := (σ.set j (some v))) _ _ hil.symm, List.set_comm _ _ hij.symm, List.set_comm _ _ hij.symm] at s2
        exact d.nx _ p _ _ (((pn.set hp).set hp').set hp2) (s2.junk hq)
end
end T
set_option maxHeartbeats 4000000
namespace T
open PySem PySem.Spec PyProof.Rows L2

/-! ### data of any kind: its type, its parts -/
def tyD : PyData → Option String
  | .int _ => some "int"
  | .bool _ => some "bool"
  | .str _ => some "str"
  | .tuple _ => some "tuple"
  | .list _ => some "list"
  | _ => none
def isD (u : String) (d : PyData) : Option Bool := (tyD d).bind fun t => kitB t u
def asT : PyData → Option (List PyData)
  | .tuple ds => some ds
  | _ => none
theorem tyD_ty {K : Fg} {F H : Hp} {v : V} {d : PyData} {t : String} (s : Same F H) (h : Dp K F v d) (e : tyD d = some t) : TyX K H v (.type t) := by
  cases h with
  | int i =>
    cases e
    exact .base (.int i)
  | bl b =>
    cases e
    exact .base (.bl b)
  | str x =>
    cases e
    exact .base (.str x)
  | tup h _ =>
    cases e
    exact ty_seqT (seqT_up s h)
  | non => cases e
  | lst h _ =>
    cases e
    exact ty_seqL (seqL_up s h)
theorem dp_all {K : Fg} {F : Hp} : ∀ {ds : List PyData} {vs : List V}, DpAll K F vs ds → All2 (cD.rp K F) ds vs
  | _, _, .nil => trivial
  | _, _, .cons h t => ⟨h, dp_all t⟩
theorem all2_mapD {α : Type} {c : Cd α} (f : α → PyData) (dp : ∀ {K : Fg} {F : Hp} {x : α} {v : V}, c.rp K F x v → Dp K F v (f x)) {K : Fg} {F : Hp} : ∀ {xs : List α} {vs : List V}, All2 (c.rp K F) xs vs → All2 (cD.rp K F) (xs.map f) vs
  | [], [], _ => trivial
  | _ :: _, _ :: _, ⟨h, t⟩ => ⟨dp h, all2_mapD f dp t⟩
  | [], _ :: _, z => z.elim
  | _ :: _, [], z => z.elim
section
variable {X : Cx} {B : Bs} {Z : Zt} {Γ : List Bd} {P : List Bd → Bd → Prop} {a b e : Expr} {pos p : Pos} {k : Nat}
theorem ev_isiD {u : String} (hm : X.mg "isinstance" = none) (ht : ∀ {Z : Zt} {Γ}, XM X B Z b Γ cTy (.ok u)) (h : EV X B a Γ (fun Γ1 b1 => ∃ d, b1 = va cD d ∧ ∃ r, isD u d = some r ∧ P Γ1 (va cBool r))) (hg : Gl X "isinstance" := by rfl)
    (he : starEach (a :: [b]) X.env = (false, eval a X.env) :: starEach [b] X.env := by rfl) (he2 : starEach (b :: []) X.env = (false, eval b X.env) :: starEach [] X.env := by rfl) (hpl : (backTo pos (starEach [b] X.env)).any (·.1) = false := by rfl) :
    EV X B (.Call (.Name "isinstance" p) [a, b] [] pos) Γ P := fun tt σ H Q s q => by
  refine wp_of_pe (pe_callB call_isi hg hm boot_isinstance (pa_cons pe_wp (pa_cons pe_wp pa_nil he2) he) (by decide) (by decide) he hpl) ?_
  refine h tt σ H _ s fun Γ1 b1 ⟨x, e1, r, hr, pp⟩ v H1 s1 => ?_
  subst e1
  refine ht (Z := ZF) (fun Γ' b' => Γ' = Γ1 ∧ b' = va cTy u) ⟨rfl, rfl⟩ _ σ H1 _ s1 fun Γ2 b2 ⟨e0, e2⟩ w H2 s2 => ?_
  subst e0 e2
  obtain ⟨F, own, wd, hS, ⟨w', ew, rw'⟩, ⟨v', ev, rv⟩, hT⟩ := s2
  cases ew
  cases ev
  cases (show w = V.ty u from rw')
  unfold isD at hr
  cases et : tyD x with
  | none =>
    rw [et] at hr
    cases hr
  | some t =>
    rw [et] at hr
    have hk : kitB t u = some r := hr
    exact ⟨v, .ty u, .type t, .type u, r, rfl, .ty u, tyD_ty wd.fh rv et, kit_ty hk, q _ _ pp _ H2 (Sat.push wd hS hT rfl)⟩
theorem ev_asT (h : EV X B e Γ (fun Γ1 b1 => ∃ d, b1 = va cD d ∧ ∃ ds, asT d = some ds ∧ P Γ1 (va (cTup cD) ds))) : EV X B e Γ P := fun t σ H Q s q => h t σ H Q s fun Γ1 b1 ⟨d, e1, ds, hi, g⟩ v H1 s1 => by
  subst e1
  refine q _ _ g v H1 (Sat.cast (b := va cD d) (b' := va (cTup cD) ds) (fun F H f' ⟨v', e, r⟩ => ⟨v', e, ?_⟩) s1)
  cases d with
  | tuple es =>
    cases hi
    have r' : Dp _ _ v' (.tuple ds) := r
    cases r' with
    | tup h1 h2 => exact ⟨_, _, rfl, ⟨h1, fun k => absurd k nkey_D⟩, dp_all h2⟩
  | _ => cases hi
theorem xm_asI {m : Res PyData} (h : XM X B Z e Γ cD m) : XM X B Z e Γ cInt (m >>= fun d => lift (asI d)) := fun P g => ev_asI (h _ (good_imp (good_bind g) fun d gd => ⟨d, rfl, good_lift gd⟩))
theorem xm_asT {m : Res PyData} (h : XM X B Z e Γ cD m) : XM X B Z e Γ (cTup cD) (m >>= fun d => lift (asT d)) := fun P g => ev_asT (h _ (good_imp (good_bind g) fun d gd => ⟨d, rfl, good_lift gd⟩))
theorem xm_isiD {u : String} {m : Res PyData} (hm : X.mg "isinstance" = none) (ht : ∀ {Z : Zt} {Γ}, XM X B Z b Γ cTy (.ok u)) (h : XM X B Z a Γ cD m) (hg : Gl X "isinstance" := by rfl)
    (he : starEach (a :: [b]) X.env = (false, eval a X.env) :: starEach [b] X.env := by rfl) (he2 : starEach (b :: []) X.env = (false, eval b X.env) :: starEach [] X.env := by rfl) (hpl : (backTo pos (starEach [b] X.env)).any (·.1) = false := by rfl) :
    XM X B Z (.Call (.Name "isinstance" p) [a, b] [] pos) Γ cBool (m >>= fun d => lift (isD u d)) := fun P g => ev_isiD hm ht (h _ (good_imp (good_bind g) fun d gd => ⟨d, rfl, good_lift gd⟩)) hg he he2 hpl
/-- tuples of numbers seen as tuples of data -/
theorem ev_tupD {α : Type} {c : Cd α} (f : α → PyData) (dp : ∀ {K : Fg} {F : Hp} {x : α} {v : V}, c.rp K F x v → Dp K F v (f x)) (h : EV X B e Γ (fun Γ1 b1 => ∃ xs, b1 = va (cTup c) xs ∧ P Γ1 (va (cTup cD) (xs.map f)))) : EV X B e Γ P := fun t σ H Q s q => h t σ H Q s fun Γ1 b1 ⟨xs, e1, g⟩ v H1 s1 => by
  subst e1
  refine q _ _ g v H1 (Sat.cast (b := va (cTup c) xs) (b' := va (cTup cD) (xs.map f)) (fun F H f' ⟨v', e, a, vs, e2, h1, h2⟩ => ⟨v', e, a, vs, e2, ⟨h1.1, fun k => absurd k nkey_D⟩, all2_mapD f dp h2⟩) s1)
/-- x < y <= z, any readings -/
theorem xm_chain {op op' : CmpOp} {r r' : R2} {α β γ : Type} {ca : Cd α} {cb : Cd β} {cc : Cd γ} {k : α → β → Bool} {k' : β → γ → Bool} {c : Expr} {ma : Res α} {mb : Res β} {mc : Res γ} (C : Cmp X B op r ca cb (fun x y => some (k x y))) (C' : Cmp X B op' r' cb cc (fun x y => some (k' x y)))
    (ha : XM X B Z a Γ ca ma) (hb : XM X B Z b Γ cb mb) (hc : XM X B Z c Γ cc mc) (hm : lastMarks [op, op'] [b, c] = false := by with_unfolding_all rfl) : TM X B Z (.Compare a [op, op'] [b, c] pos) Γ (ma >>= fun x => mb >>= fun y => if k x y = true then mc >>= fun z => .ok (k' y z) else .ok false) := by
  intro P g t σ H Q s q
  refine wp_of_pt (pt_chain C.op C'.op pe_wp pe_wp pe_wp hm) ?_
  refine ha (fun Γ' b' => Γ' = Γ ∧ ∃ x', b' = va ca x' ∧ good (mb >>= fun y => if k x' y = true then mc >>= fun z => Res.ok (k' y z) else Res.ok false) (fun x => P Γ x) fun ex => Z ex Γ) (good_imp (good_bind g) fun x gx => ⟨rfl, x, rfl, gx⟩) t σ H _ s fun Γ1 b1 ⟨e0, x, e1, gx⟩ v H1 s1 => ?_
  subst e1
  rw [e0] at s1
  refine hb (fun Γ' b' => Γ' = Γ ∧ ∃ y', b' = va cb y' ∧ good (if k x y' = true then mc >>= fun z => Res.ok (k' y' z) else Res.ok false) (fun x => P Γ x) fun ex => Z ex Γ) (good_imp (good_bind gx) fun y gy => ⟨rfl, y, rfl, gy⟩) _ σ H1 _ s1 fun Γ2 b2 ⟨e0, y, e2, gy⟩ w H2 s2 => ?_
  subst e2
  rw [e0] at s2
  obtain ⟨F, own, wd, hS, ⟨w', ew, rw'⟩, ⟨v', ev, rv⟩, hT⟩ := s2
  cases ew
  cases ev
  refine C.ok x y _ rfl F own H2 v w _ wd rv rw' fun F' H' u wd' sF sH ru => ⟨k x y, ru, ?_⟩
  have s3 : Sat X.K B ((w, va cb y) :: t) σ Γ H' := Sat.pushUp wd' sF sH hS hT (cb.up sF rw')
  cases hk : k x y with
  | false =>
    rw [hk, if_neg Bool.false_ne_true] at gy
    rw [if_neg Bool.false_ne_true]
    obtain ⟨F3, own3, wd3, hS3, _, hT3⟩ := s3
    exact ⟨false, rfl, q _ _ gy H' ⟨F3, own3, wd3, hS3, hT3⟩⟩
  | true =>
    rw [hk, if_pos rfl] at gy
    rw [if_pos rfl]
    refine hc (fun Γ' b' => Γ' = Γ ∧ ∃ z', b' = va cc z' ∧ good (Res.ok (k' y z')) (fun x => P Γ x) fun ex => Z ex Γ) (good_imp (good_bind gy) fun z gz => ⟨rfl, z, rfl, gz⟩) _ σ H' _ s3 fun Γ3 b3 ⟨e0, z, e3, gz⟩ u' H3 s4 => ?_
    subst e3
    rw [e0] at s4
    obtain ⟨F4, own4, wd4, hS4, ⟨u'', eu, ru'⟩, ⟨w'', ew, rw''⟩, hT4⟩ := s4
    cases eu
    cases ew
    refine C'.ok y z _ rfl F4 own4 H3 w u' _ wd4 rw'' ru' fun F5 H5 u5 wd5 sF5 sH5 ru5 => ⟨k' y z, ru5, q _ _ gz H5 ?_⟩
    exact ⟨F5, own4, wd5, hS4.up sF5 fun a i q => ⟨q, fun o e => sH5 a o e⟩, hT4.up sF5 fun a i _ q => ⟨q, fun o e => sH5 a o e⟩⟩
/-- x is not True -/
theorem cmp_isnB : Cmp X B .IsNot rNotB cBool cBool (fun x y => some (!decide (x = y))) := ⟨op_notBl, fun x y z h => by
  cases h
  intro F own H v w Q wd hv hw q
  exact ⟨x, y, hv, hw, q F H _ wd (Same.rfl' F) (Same.rfl' H) rfl⟩⟩
end
/-! ### xs.insert(i, y) -/
def insO {α : Type} (xs : List α) (i : Int) (y : α) : Option (List α) := if xs.length < 16777216 ∧ 0 ≤ i ∧ i < 2 ^ 63 then some (xs.take i.toNat ++ [y] ++ xs.drop i.toNat) else none
section
variable {X : Cx} {B : Bs} {Z : Zt} {Γ : List Bd} {P : List Bd → Bd → Prop} {a b e : Expr} {pos p p2 : Pos} {k : Nat} {α : Type} {c : Cd α}
theorem ev_insert (i : Nat) {n : Str} {xs0 : List α} (hΓ : Γ[i]? = some (ow (oLst c) xs0)) (h : EA X B [a, b] Γ (fun Γ1 as => ∃ j y, as = [.tmp (va cInt j), .tmp (va c y)] ∧ ∃ xs ys, Γ1[i]? = some (ow (oLst c) xs) ∧ insO xs j y = some ys ∧ P (Γ1.set i (ow (oLst c) ys)) (va cNon ()))) (hN : X.N[i]? = some n := by rfl)
    (hv : Vis X.env.scope n := by first | exact Or.inl rfl | exact Or.inr (Or.inl rfl) | exact Or.inr (Or.inr rfl)) (hd : (n == ("__debug__" : Str)) = false := by decide) (hcd : (n == ("__classdict__" : Str)) = false := by decide)
    (hbase : attributeBase (.Name n p) "insert" X.env (eval (.Name n p) X.env) = eval (.Name n p) X.env := by rfl)
    (hfew : ((backTo pos (starEach (a :: [b]) X.env)).all (fun x => !x.1) && (backToKw pos (keywordEach [] X.env)).all (fun x => x.1.isSome) && decide ((a :: [b]).length + ([] : List Keyword).length + (if ([] : List Keyword).isEmpty then 0 else 1) < 30)) = true := by rfl)
    (hline : (p2.endLine == pos.line) = true := by rfl) (hs : starEach (a :: [b]) X.env = (false, eval a X.env) :: starEach [b] X.env := by rfl) (hplain : (backTo pos (starEach [b] X.env)).any (·.1) = false := by rfl) :
    EV X B (.Call (.Attribute (.Name n p) "insert" p2) [a, b] [] pos) Γ P := by
  intro t σ H Q s q
  have s0 := s
  obtain ⟨F0, own0, w0, hS0, hT0⟩ := s0
  obtain ⟨ad, ea, _, vs0, h0, _⟩ := hS0.2 i _ hΓ
  refine wp_of_pe (pe_bm PySem.F.plainAttrs_list PySem.F.slot_list_insert PySem.F.type_list_insert mt_insert (pe_var hN hv hd hcd) pa_wp hbase hfew hline hs hplain) ⟨.ref ad, slot_some ea, .inl ⟨rfl, vs0, .of h0⟩, ?_⟩
  refine h t σ H _ s fun Γ1 as ⟨j, y, e1, xs, ys, g1, g2, pp⟩ vs H1 t' ha s1 => ?_
  subst e1
  cases ha with
  | tmp ha => cases ha with
    | tmp ha =>
      cases ha
      obtain ⟨F, own, wd, hS, ⟨v', ev, rv⟩, ⟨w', ew, rw'⟩, hT⟩ := s1
      cases ev
      cases ew
      rename_i u w
      cases (show u = V.int j from rw')
      obtain ⟨a', ea', k0, vs, k1, k2⟩ := hS.2 i _ g1
      rw [ea] at ea'
      cases ea'
      unfold insO at g2
      split at g2
      · rename_i hz
        cases g2
        refine ⟨ad, vs, j, w, rfl, rfl, k1, by rw [k2.length, sizeLine_eq]; exact hz.1, hz.2.1, hz.2.2, q _ _ pp _ _ ?_⟩
        have s2 : Sat X.K B t σ (Γ1.set i (ow (oLst c) (xs.take j.toNat ++ [y] ++ xs.drop j.toNat))) (upd H1 ad (.lst (vs.take j.toNat ++ [w] ++ vs.drop j.toNat))) := Sat.wrO wd hS hT ea k0 (List.getElem?_eq_some_iff.mp g1).1 (((k2.take (n := j.toNat)).app (show All2 (c.rp X.K F) [y] [w] from ⟨rv, trivial⟩)).app (k2.drop (n := j.toNat)))
        obtain ⟨F2, own2, wd2, hS2, hT2⟩ := s2
        exact Sat.push wd2 hS2 hT2 rfl
      · cases g2
end
end T
set_option maxHeartbeats 4000000
namespace T
open PySem PySem.Spec PyProof.Rows L2
/-! ### a try whose body is seen not to raise (also within loops) -/
section
variable {X : Cx} {B : Bs} {Z : Zt} {Γ : List Bd} {R R0 : Rs} {st : Stmt} {ss body : List Stmt} {pos : Pos} {k : Nat}
theorem s1_tryF {h₀ : ExceptHandler} {hds : List ExceptHandler} {w : Zt → Zt} (O : Ok X B Z k) (hp : B.pins = []) (hh : HT X B R0 (h₀ :: hds) w) (hb : ∀ pn xe, Ok (X.tr pn xe) B ZF k → SB (X.tr pn xe) B body Γ R)
    (hs : X.stack = X.env :: X.outer := by rfl) (hf : X.env.frame = some X.env.locals := by rfl) : S1 X B (.Try body (h₀ :: hds) [] [] pos) Γ R := fun t σ H D pn s d => by
  obtain ⟨W, tk, hW⟩ := O.exn
  obtain ⟨l, hl, q⟩ := HT.cls hp hh
  refine wp_of_ps (ps_try_chain (tb := fun W' => fun D σ H => ∀ pn xe, Takes (X.tr pn xe) W' → PassesOwn (model X.prog X.w) X.A X.env xe → wpSs (X.tr pn xe) body D σ H) hs hf O.nd tk (fun W' pn xe t1 t2 => ⟨fun pins s σ H D I h => (h pn xe t1 t2).run pins s I⟩) hl) ?_
  intro pn' xe t1 t2
  exact hb pn' xe ⟨O.calm, O.nd, O.room, t2, _, t1, fun e Γ' z => z.elim⟩ t σ H D pn s d
theorem sb_tryF {S ρ : Type} {mb : Res S} {kr : S → Res ρ} {Pk : ρ → Prop} {Zk : Exn → Prop} {Γs : S → List Bd} {h₀ : ExceptHandler} {hds : List ExceptHandler} {w : Zt → Zt} (O : Ok X B Z k) (hp : B.pins = []) (hh : HT X B R0 (h₀ :: hds) w) (g : good (noX mb >>= kr) Pk Zk)
    (hrest : ∀ s, good (kr s) Pk Zk → SB X B ss (Γs s) R)
    (hb : (∀ s, good (kr s) Pk Zk → SB X B ss (Γs s) R) → ∀ pn xe, Ok (X.tr pn xe) B ZF k → good mb (fun s => good (kr s) Pk Zk) (fun _ => False) → SB (X.tr pn xe) B body Γ { R with nx := fun Γ' => SB X B ss Γ' R })
    (hs : X.stack = X.env :: X.outer := by rfl) (hf : X.env.frame = some X.env.locals := by rfl) : SB X B (.Try body (h₀ :: hds) [] [] pos :: ss) Γ R :=
  sb_cons (s1_tryF O hp hh (fun pn xe O2 => hb hrest pn xe O2 (good_noX (good_bind g))) hs hf)
end
theorem good_with {α : Type} {m : Res α} {P Q : α → Prop} {Z : Exn → Prop} (hq : ∀ r, m = .ok r → Q r) (h : good m P Z) : good m (fun r => Q r ∧ P r) Z := by
  cases m with
  | ok x => exact ⟨hq x rfl, h⟩
  | exc e => exact h
  | stuck => exact h
theorem ro_bind {α β : Type} {m : Res α} {p : β} {x : α × β} (h : (m >>= fun r => Res.ok (r, p)) = .ok x) : x.2 = p := by
  cases m with
  | ok y =>
    have h' : Res.ok (y, p) = Res.ok x := h
    cases h'
    rfl
  | exc e => cases h
  | stuck => cases h
end T
set_option maxHeartbeats 4000000
namespace T
open PySem PySem.Spec PyProof.Rows L2
/-! ### repr(b) -/
def rpB (b : Bool) : Str := if b = true then "True" else "False"
theorem rpB_inj {a b : Bool} : rpB a = rpB b ↔ a = b := by
  constructor
  · intro h
    cases a <;> cases b
    · rfl
    · exact absurd h (by decide)
    · exact absurd h (by decide)
    · rfl
  · intro h; rw [h]
section
variable {X : Cx} {B : Bs} {Z : Zt} {Γ : List Bd} {a : Expr} {pos p : Pos}
theorem cr_reprB : CallR X (.builtin "repr") (fun xs H Q => ∃ b, xs = [V.bl b] ∧ Q (V.str (rpB b)) H) := by
  intro pins s σ H xs us Q I r h
  obtain ⟨b, rfl, q⟩ := h
  obtain ⟨u, rfl, e⟩ := vals1 r
  cases e
  exact PySem.P.repr_of_bool ⟨.str (rpB b), H, I.tok _, ⟨_, rfl⟩, q⟩
theorem boot_repr : bootBuiltins ("repr" : Str) = some (.builtin "repr") := by kernel_rfl
theorem xm_reprB {m : Res Bool} (hm : X.mg "repr" = none) (ha : XM X B Z a Γ cBool m) (hg : Gl X "repr" := by rfl) (he : starEach (a :: []) X.env = (false, eval a X.env) :: starEach [] X.env := by rfl) : XM X B Z (.Call (.Name "repr" p) [a] [] pos) Γ cStr (m >>= fun b => .ok (rpB b)) :=
  xm_op1 (k := fun b => some (rpB b)) (is_call cr_reprB hm boot_repr hg (by decide) (by decide) he rfl) (fun i z h F own H v Q wd hv q => by
    cases h
    exact ⟨i, by rw [show v = V.bl i from hv], q F H _ wd (Same.rfl' F) (Same.rfl' H) rfl⟩) ha
end
/-! ### ==, != of things with texts, as data -/
section
variable {α : Type} {c : Cd α} {f : α → PyData}
theorem dp_lst (dp : ∀ {K : Fg} {F : Hp} {x : α} {v : V}, c.rp K F x v → Dp K F v (f x)) {K : Fg} {F : Hp} {xs : List α} {v : V} (h : (cLst c).rp K F xs v) : Dp K F v (.list (xs.map f)) := by
  obtain ⟨a, vs, e, h, r⟩ := h
  subst e
  refine .lst h ?_
  clear h
  induction xs generalizing vs with
  | nil =>
    cases vs with
    | nil => exact .nil
    | cons _ _ => exact r.elim
  | cons x xs ih =>
    cases vs with
    | nil => exact r.elim
    | cons v vs => exact .cons (dp r.1) (ih _ r.2)
variable {X : Cx} {B : Bs} {Z : Zt} {k : Nat}
theorem cmp_eqF (O : Ok X B Z k) (dp : ∀ {K : Fg} {F : Hp} {x : α} {v : V}, c.rp K F x v → Dp K F v (f x)) : Cmp X B .Eq (rEqD X.K) c c (fun x y => eqDO (f x) (f y)) := ⟨op_eqD O.room.units, fun x y z h => by
  unfold eqDO at h
  split at h
  · rename_i hs
    obtain ⟨h1, h2⟩ := Bool.and_eq_true_iff.mp hs
    cases h
    exact fun F own H v w Q wd hv hw q => ⟨f x, f y, dp (c.up wd.fh hv), dp (c.up wd.fh hw), h1, h2, q F H _ wd (Same.rfl' F) (Same.rfl' H) rfl⟩
  · cases h⟩
theorem cmp_neF (O : Ok X B Z k) (dp : ∀ {K : Fg} {F : Hp} {x : α} {v : V}, c.rp K F x v → Dp K F v (f x)) : Cmp X B .NotEq (rNeD X.K) c c (fun x y => neDO (f x) (f y)) := ⟨op_neD O.room.units, fun x y z h => by
  unfold neDO eqDO at h
  split at h
  · rename_i hs
    obtain ⟨h1, h2⟩ := Bool.and_eq_true_iff.mp hs
    cases h
    exact fun F own H v w Q wd hv hw q => ⟨f x, f y, dp (c.up wd.fh hv), dp (c.up wd.fh hw), h1, h2, q F H _ wd (Same.rfl' F) (Same.rfl' H) rfl⟩
  · cases h⟩
end
end T
set_option maxHeartbeats 4000000
namespace T
open PySem PySem.Spec PyProof.Rows L2
/-! ### sorted ints -/
def leI (a b : Int) : Bool := decide (a ≤ b)
def sortI (xs : List Int) : List Int := xs.mergeSort leI
theorem leI_trans (a b c : Int) (h : leI a b = true) (h' : leI b c = true) : leI a c = true := by
  unfold leI at *
  simp only [decide_eq_true_eq] at *
  omega
theorem leI_total (a b : Int) : (leI a b || leI b a) = true := by
  unfold leI
  simp only [Bool.or_eq_true, decide_eq_true_eq]
  omega
theorem sortedI_uniq : ∀ {l m : List Int}, l.Pairwise (· ≤ ·) → m.Pairwise (· ≤ ·) → l.Perm m → l = m
  | [], m, _, _, h => (List.Perm.eq_nil h.symm).symm
  | x :: l, [], _, _, h => absurd h.length_eq (by simp)
  | x :: l, y :: m, hl, hm, h => by
    have h1 : y ≤ x := by
      rcases List.mem_cons.mp (h.mem_iff.mp (List.mem_cons_self (a := x) (l := l))) with e | hx
      · rw [e]
        exact Int.le_refl _
      · exact (List.pairwise_cons.mp hm).1 x hx
    have h2 : x ≤ y := by
      rcases List.mem_cons.mp (h.mem_iff.mpr (List.mem_cons_self (a := y) (l := m))) with e | hy
      · rw [e]
        exact Int.le_refl _
      · exact (List.pairwise_cons.mp hl).1 y hy
    have e := Int.le_antisymm h2 h1
    subst e
    rw [sortedI_uniq (List.pairwise_cons.mp hl).2 (List.pairwise_cons.mp hm).2 h.cons_inv]
theorem sortI_sorted (xs : List Int) : (sortI xs).Pairwise (· ≤ ·) := (List.pairwise_mergeSort leI_trans leI_total xs).imp fun h => of_decide_eq_true h
theorem sortI_perm (xs : List Int) : (sortI xs).Perm xs := List.mergeSort_perm _ _
theorem sortI_of {xs ys : List Int} (h : ys.Perm xs) (s : ys.Pairwise (· ≤ ·)) : sortI xs = ys := sortedI_uniq (sortI_sorted xs) s ((sortI_perm xs).trans h.symm)
section
variable {X : Cx} {B : Bs} {Γ : List Bd} {P : List Bd → Bd → Prop} {a : Expr} {pos p p2 : Pos} {α β γ : Type} {c : Cd α} {d : Cd β} {f : Cd γ}
theorem ev_sortedI (hm : X.mg "sorted" = none) (h : EL X B a Γ cInt (fun Γ1 xs => P Γ1 (ow (oLst cInt) (sortI xs)))) (hg : Gl X "sorted" := by rfl) (he : starEach (a :: []) X.env = (false, eval a X.env) :: starEach [] X.env := by rfl) : EV X B (.Call (.Name "sorted" p) [a] [] pos) Γ P :=
  ev_lnew (k := fun xs => some (sortI xs)) (is_call cr_sortedI hm boot_sorted' hg (by decide) (by decide) he rfl) (fun xs z h F own H ad vs Q wd h1 h2 q => by
    cases h
    have e := All2.ints h2
    subst e
    exact ⟨ad, xs, rfl, h1, fun ns p' hp hs hn => q p' _ hn (by rw [sortI_of hp hs]; exact all2_ints ns)⟩) (fun t σ H Q s q => h t σ H Q s fun Γ1 xs p => q Γ1 xs ⟨_, rfl, p⟩)
/-- t[1:] of a tuple of three -/
theorem ev_cut3 {i1 : Expr} (h : EV X B a Γ (fun Γ1 b1 => ∃ t, b1 = va (cTr c d f) t ∧ EV X B i1 Γ1 (fun Γ2 b2 => b2 = va cInt 1 ∧ P Γ2 (va (cPr d f) t.2)))) : EV X B (.Subscript a (.Slice (some i1) none none p2) pos) Γ P := fun t σ H Q s q => by
  refine wp_of_pe (pe_slice sl_tupA pe_wp po_wp po_wp) ?_
  refine h t σ H _ s fun Γ1 b1 ⟨x, e1, h1⟩ v H1 s1 => ?_
  subst e1
  refine (eo_some (P := fun Γ2 l => l = some 1 ∧ P Γ2 (va (cPr d f) x.2)) (fun t σ H Q s q => h1 t σ H Q s fun Γ2 b2 ⟨e2, g⟩ => q _ _ ⟨1, e2, rfl, g⟩)) _ σ H1 _ s1 fun Γ2 l ⟨el, p3⟩ H2 s2 => ?_
  subst el
  refine (eo_none (P := fun Γ3 u => Γ3 = Γ2 ∧ u = none) ⟨rfl, rfl⟩) _ σ H2 _ s2 fun Γ3 u ⟨e3, e4⟩ H3 s3 => ?_
  subst e3 e4
  obtain ⟨F, own, wd, hS, ⟨v', ev, ad, u, y, z, e2, r1, r2, r3, r4⟩, hT⟩ := s3
  cases ev
  subst e2
  refine ⟨ad, [u, y, z], rfl, seqT_up wd.fh r1, fun hw => ?_, fun hw p hp => ?_⟩
  · exfalso
    have h0 := hw.1
    rw [show HT.sIx ([u, y, z] : List V).length 0 (some 1) = min 1 3 from HT.sIx_nat _ 0 1] at h0
    exact absurd h0 (by decide)
  · exact q _ _ p3 _ _ (push_tup (cd := cPr d f) wd hS hT hp ⟨p, y, z, rfl, upd_same, d.up (Same.newH (wd.none_F hp)) r3, f.up (Same.newH (wd.none_F hp)) r4⟩)
/-- items of a pair or a triple that a call tells -/
theorem ev_fst {b : Expr} (h : EV X B a Γ (fun Γ1 b1 => ∃ t, b1 = va (cPr c d) t ∧ EV X B b Γ1 (fun Γ2 b2 => b2 = va cInt 0 ∧ P Γ2 (va c t.1)))) (hs : PlainIx b := by exact fun _ _ => rfl) : EV X B (.Subscript a b pos) Γ P :=
  ev_op2 (ca := cPr c d) (cb := cInt) (cc := c) (k := fun (p : α × β) (i : Int) => if i = 0 then some p.1 else none) (is_ix hs) (fun p i z hz F own H v w Q wd ⟨ad, x, y, e1, h1, r1, r2⟩ hw q => by
    split at hz
    · rename_i e
      subst e
      cases hz
      exact .inr (.inl ⟨ad, _, 0, x, e1, hw, .of (wd.fh _ _ h1), rfl, q F H x wd (Same.rfl' F) (Same.rfl' H) r1⟩)
    · cases hz) (fun t σ H Q s q => h t σ H Q s fun Γ1 b1 ⟨x, e1, h1⟩ => q Γ1 b1 ⟨x, e1, fun t σ H Q s q => h1 t σ H Q s fun Γ2 b2 ⟨e2, p⟩ => q Γ2 b2 ⟨0, e2, _, rfl, p⟩⟩)
theorem ev_snd {b : Expr} (h : EV X B a Γ (fun Γ1 b1 => ∃ t, b1 = va (cPr c d) t ∧ EV X B b Γ1 (fun Γ2 b2 => b2 = va cInt 1 ∧ P Γ2 (va d t.2)))) (hs : PlainIx b := by exact fun _ _ => rfl) : EV X B (.Subscript a b pos) Γ P :=
  ev_op2 (ca := cPr c d) (cb := cInt) (cc := d) (k := fun (p : α × β) (i : Int) => if i = 1 then some p.2 else none) (is_ix hs) (fun p i z hz F own H v w Q wd ⟨ad, x, y, e1, h1, r1, r2⟩ hw q => by
    split at hz
    · rename_i e
      subst e
      cases hz
      exact .inr (.inl ⟨ad, _, 1, y, e1, hw, .of (wd.fh _ _ h1), rfl, q F H y wd (Same.rfl' F) (Same.rfl' H) r2⟩)
    · cases hz) (fun t σ H Q s q => h t σ H Q s fun Γ1 b1 ⟨x, e1, h1⟩ => q Γ1 b1 ⟨x, e1, fun t σ H Q s q => h1 t σ H Q s fun Γ2 b2 ⟨e2, p⟩ => q Γ2 b2 ⟨1, e2, _, rfl, p⟩⟩)
end
/-- a def under another name -/
def DefF2 (K : Fg) (mg : Str → Option Value) (n m : Str) (st : Stmt) : Prop := ∃ f fd, mg n = some (.ref f) ∧ FunD K m m (defArgs st) (defBody st) (defScope st) [] [] f fd
end T
set_option maxHeartbeats 4000000
/-! sorted tuples of ints, any number of them, of any length but none -/
namespace SrtO
open PySem PyProof.Rows Srt TS
def lexL : List Int → List Int → Bool
  | [], [] => false
  | [], _ :: _ => true
  | _ :: _, [] => false
  | x :: xs, y :: ys => if x = y then lexL xs ys else decide (x < y)
theorem lexL_asym : ∀ x y : List Int, lexL x y = true → lexL y x = false
  | [], [], h => by cases h
  | [], _ :: _, _ => rfl
  | _ :: _, [], h => by cases h
  | x :: xs, y :: ys, h => by
    unfold lexL at h ⊢
    by_cases e : x = y
    · rw [if_pos e] at h
      rw [if_pos e.symm]
      exact lexL_asym xs ys h
    · rw [if_neg e, decide_eq_true_eq] at h
      rw [if_neg (fun z => e z.symm)]
      exact decide_eq_false (by omega)
theorem lexL_tr : ∀ x y z : List Int, lexL y x = false → lexL z y = false → lexL z x = false
  | [], _, [], _, _ => rfl
  | [], _, _ :: _, _, _ => rfl
  | _ :: _, [], _, h, _ => by cases h
  | _ :: _, _ :: _, [], _, h => by cases h
  | x :: xs, y :: ys, z :: zs, h1, h2 => by
    unfold lexL at h1 h2 ⊢
    by_cases e : y = x
    · rw [if_pos e] at h1
      subst e
      by_cases f : z = y
      · rw [if_pos f] at h2 ⊢
        exact lexL_tr xs ys zs h1 h2
      · rw [if_neg f] at h2 ⊢
        exact h2
    · rw [if_neg e] at h1
      have a := of_decide_eq_false h1
      by_cases f : z = y
      · subst f
        rw [if_neg e]
        exact h1
      · rw [if_neg f] at h2
        have b := of_decide_eq_false h2
        rw [if_neg (by omega)]
        exact decide_eq_false (by omega)
theorem lexL_eq : ∀ x y : List Int, lexL x y = false → lexL y x = false → x = y
  | [], [], _, _ => rfl
  | [], _ :: _, h, _ => by cases h
  | _ :: _, [], _, h => by cases h
  | x :: xs, y :: ys, h1, h2 => by
    unfold lexL at h1 h2
    by_cases e : x = y
    · rw [if_pos e] at h1
      rw [if_pos e.symm] at h2
      rw [e, lexL_eq xs ys h1 h2]
    · rw [if_neg e] at h1
      rw [if_neg (fun z => e z.symm)] at h2
      have a := of_decide_eq_false h1
      have b := of_decide_eq_false h2
      omega
theorem swo_lexL {α : Type} (k : α → List Int) : Swo fun v u => lexL (k v) (k u) := ⟨fun _ _ h => lexL_asym _ _ h, fun _ _ _ h1 h2 => lexL_tr _ _ _ h1 h2⟩
section
variable {prog : Program} {w : World} {A : Around} {E : Value → Shared → Prop} {s : Shared} {Q : Bool → Shared → Prop}
theorem lex_any {b : Bool} {xs ys : List Value} {ns ms : List Int} (i : Nat) (hx : IntsAre xs ns) (hy : IntsAre ys ms) (h : Q (lexL ns ms) s) : PySem.W.KatLex prog w A b (decide (ns.length < ms.length)) Q (xs.zip ys) i s := by
  induction hx generalizing ys ms i with
  | nil =>
    cases hy with
    | nil => exact PySem.W.kat_nil h
    | cons q u hy => exact PySem.W.kat_nil h
  | @cons p t xs ns hx ih =>
    cases hy with
    | nil => exact PySem.W.kat_nil h
    | @cons q u ys ms hy =>
      have hd : decide ((p :: ns).length < (q :: ms).length) = decide (ns.length < ms.length) := decide_eq_decide.mpr (by rw [List.length_cons, List.length_cons]; omega)
      rw [hd]
      show PySem.W.KatLex prog w A b _ Q ((Value.int p t, Value.int q u) :: xs.zip ys) i s
      refine PySem.W.kat_cons (wpAny_eqBool_int ?_)
      unfold lexL at h
      by_cases e : p = q
      · subst e
        rw [beq_self_eq_true]
        rw [if_pos rfl] at h
        refine PySem.W.kat_yes ?_
        exact ih (i + 1) hy h
      · rw [show (p == q) = false from beq_eq_false_iff_ne.mpr e]
        rw [if_neg e] at h
        exact PySem.W.kat_no (oneLt_ints _ h)
end
section
variable {prog : Program} {w : World} {A : Around} {E : Value → Shared → Prop} {s : Shared}
theorem firstsL {h : Heap} {k : Value → List Int} : ∀ vs : List Value, (∀ v ∈ vs, TupInts h v (k v) ∧ k v ≠ []) → ∃ fs, PySem.W.KatTups h vs fs ∧ fs.length = vs.length ∧ ∀ f, f ∈ fs → ∃ n t, f = Value.int n t
  | [], _ => ⟨[], PySem.W.KatTups.nil, rfl, fun f hf => by simp at hf⟩
  | v :: vs, x => by
    obtain ⟨fs, k, hl, hi⟩ := firstsL vs fun u hu => x u (List.mem_cons_of_mem _ hu)
    obtain ⟨⟨a, xs, rfl, ⟨o, ho, hc, n, hdt⟩, i⟩, hn⟩ := x v (List.mem_cons_self ..)
    obtain ⟨y, ys, e⟩ : ∃ y ys, xs.toList = y :: ys := by
      cases q : xs.toList with
      | nil =>
        rw [q] at i
        have l := i.length
        rw [List.length_nil] at l
        exact absurd (List.eq_nil_of_length_eq_zero l.symm) hn
      | cons y ys => exact ⟨y, ys, rfl⟩
    obtain ⟨m, t, hy⟩ := i.all y (by rw [e]; exact List.mem_cons_self ..)
    refine ⟨y :: fs, PySem.W.KatTups.cons ho hc hdt ?_ k, by simp [hl], ?_⟩
    · have z := congrArg (fun l : List Value => l[0]?) e
      simpa using z
    · intro f hf
      rcases List.mem_cons.mp hf with rfl | hf
      · exact ⟨m, t, hy⟩
      · exact hi f hf
theorem tup_cmpL {vs : List Value} {k : Value → List Int} (hp : ∀ v ∈ vs, TupInts s.heap v (k v) ∧ k v ≠ []) : Cmp prog w A s (tuples' true) (fun p => p.1 ∈ vs) (lt2 fun v u => lexL (k v) (k u)) := by
  intro p q hm hm'
  obtain ⟨a, xs, e, ⟨o, ho, hc, n, hd⟩, i⟩ := (hp _ hm).1
  obtain ⟨a', xs', e', ⟨o', ho', hc', n', hd'⟩, i'⟩ := (hp _ hm').1
  show wpAny (model prog w) A (keyLt' (tuples' true) p.1 q.1) (fun r s' => s' = s ∧ r = lexL (k p.1) (k q.1)) (fun _ _ => False) s
  generalize k p.1 = ns at i ⊢
  generalize k q.1 = ms at i' ⊢
  rw [e, e']
  refine PySem.W.kat_lt ho hd ho' hd' ?_
  have hl : decide (xs.size < xs'.size) = decide (ns.length < ms.length) := by
    have h1 := i.length
    have h2 := i'.length
    rw [Array.length_toList] at h1 h2
    rw [h1, h2]
  rw [hl]
  exact lex_any 0 i i' ⟨rfl, rfl⟩
theorem tups_sortableL {a : Addr} {vs : List Value} {k : Value → List Int} (h0 : 0 < vs.length) (hp : ∀ v ∈ vs, TupInts s.heap v (k v) ∧ k v ≠ []) (ha : ∀ o, s.heap.get? a = some o → o.cls ≠ .type "tuple") : SortableO prog w A s a vs fun v u => lexL (k v) (k u) := by
  intro h' keep
  have hp' : ∀ v ∈ vs, TupInts h' v (k v) ∧ k v ≠ [] := fun v hm => ⟨(hp v hm).1.keeps fun b o e c => keep b o (fun z => by subst z; exact ha o e c) e, (hp v hm).2⟩
  obtain ⟨fs, h1, h2, h3⟩ := firstsL vs hp'
  refine ⟨tuples' true, fun Q E hq => ?_, tup_cmpL (s := { s with heap := h' }) hp'⟩
  refine PySem.W.kat_kind (T := .type "int") h1 (by omega) (fun f hm => ?_) (by rfl) ?_
  · obtain ⟨x, t, rfl⟩ := h3 f hm
    exact PySem.W.Looks.now
  · have e : (Value.type "int" != Value.type "tuple") = true := by first | decide +kernel | rfl | decide
    rw [e]
    exact hq
end
end SrtO
namespace T
open PySem PySem.Spec PyProof.Rows L2
def leL (x y : List Int) : Bool := !SrtO.lexL y x
theorem leL_trans (a b c : List Int) (h : leL a b = true) (h' : leL b c = true) : leL a c = true := by
  unfold leL at *
  rw [Bool.not_eq_true'] at *
  exact SrtO.lexL_tr a b c h h'
theorem leL_total (a b : List Int) : (leL a b || leL b a) = true := by
  unfold leL
  cases h : SrtO.lexL b a with
  | false => rfl
  | true =>
    rw [SrtO.lexL_asym _ _ h]
    rfl
theorem sortedL_uniq : ∀ {l m : List (List Int)}, l.Pairwise (fun a b => leL a b = true) → m.Pairwise (fun a b => leL a b = true) → l.Perm m → l = m
  | [], m, _, _, h => (List.Perm.eq_nil h.symm).symm
  | x :: l, [], _, _, h => absurd h.length_eq (by simp)
  | x :: l, y :: m, hl, hm, h => by
    have rf : ∀ z : List Int, leL z z = true := fun z => by
      have := leL_total z z
      rwa [Bool.or_self] at this
    have h1 : leL y x = true := by
      rcases List.mem_cons.mp (h.mem_iff.mp (List.mem_cons_self (a := x) (l := l))) with e | hx
      · rw [e]
        exact rf y
      · exact (List.pairwise_cons.mp hm).1 x hx
    have h2 : leL x y = true := by
      rcases List.mem_cons.mp (h.mem_iff.mpr (List.mem_cons_self (a := y) (l := m))) with e | hy
      · rw [e]
        exact rf x
      · exact (List.pairwise_cons.mp hl).1 y hy
    have e : x = y := by
      unfold leL at h1 h2
      rw [Bool.not_eq_true'] at h1 h2
      exact SrtO.lexL_eq x y h1 h2
    subst e
    rw [sortedL_uniq (List.pairwise_cons.mp hl).2 (List.pairwise_cons.mp hm).2 h.cons_inv]
def sortTO (xs : List (List Int)) : Option (List (List Int)) := if [] ∈ xs then none else some (xs.mergeSort leL)
theorem All2.zipP {α : Type} {r : α → V → Prop} : ∀ {xs : List α} {vs : List V} {p : α × V}, All2 r xs vs → p ∈ xs.zip vs → r p.1 p.2
  | x :: xs, v :: vs, p, ⟨a, b⟩, h => by
    rw [List.zip_cons_cons] at h
    rcases List.mem_cons.mp h with e | h
    · rw [e]
      exact a
    · exact All2.zipP b h
  | [], _, p, _, h => by simp at h
  | _ :: _, [], p, _, h => by simp at h
theorem All2.ofZip {α : Type} {r : α → V → Prop} : ∀ {xs : List α} {vs : List V}, xs.length = vs.length → (∀ p ∈ xs.zip vs, r p.1 p.2) → All2 r xs vs
  | [], [], _, _ => trivial
  | x :: xs, v :: vs, hl, h => ⟨h (x, v) (List.mem_cons_self ..), All2.ofZip (by simpa using hl) fun p hp => h p (List.mem_cons_of_mem _ hp)⟩
  | [], _ :: _, hl, _ => by simp at hl
  | _ :: _, [], hl, _ => by simp at hl
/-- sorted(xs), tuples of ints -/
def IsTI (K : Fg) (H : Hp) (ns : List Int) (x : V) : Prop := (∃ t, x = V.ref t ∧ SqT K H t (ns.map V.int)) ∧ ns ≠ []
def rSortTI (K : Fg) : List V → Hp → VK → Prop := fun vs H Q => ∃ (a : Addr) (xs : List V) (nss : List (List Int)), vs = [V.ref a] ∧ SqL K H a xs ∧ All2 (IsTI K H) nss xs ∧
  ∀ (ys : List V) (mss : List (List Int)) (p : Addr), (mss.zip ys).Perm (nss.zip xs) → mss.length = ys.length → mss.Pairwise (fun a b => leL a b = true) → H p = none → Q (.ref p) (upd H p (.lst ys))
noncomputable def keyT (K : Fg) (H : Hp) (v : V) : List Int := @dite _ (∃ ns, IsTI K H ns v) (Classical.propDecidable _) (fun h => Classical.choose h) (fun _ => [])
theorem map_int_inj : ∀ {xs ys : List Int}, xs.map V.int = ys.map V.int → xs = ys
  | [], [], _ => rfl
  | x :: xs, y :: ys, h => by
    rw [List.map_cons, List.map_cons] at h
    obtain ⟨a, b⟩ := List.cons.inj h
    cases a
    rw [map_int_inj b]
  | [], _ :: _, h => by simp at h
  | _ :: _, [], h => by simp at h
theorem zip_map_self {α β : Type} (k : β → α) : ∀ l : List β, (l.map k).zip l = l.map fun y => (k y, y)
  | [] => rfl
  | y :: l => by rw [List.map_cons, List.zip_cons_cons, zip_map_self k l]; rfl
theorem All2.keyed {α : Type} {r : α → V → Prop} {k : V → α} (h : ∀ x v, r x v → k v = x) : ∀ {xs : List α} {vs : List V}, All2 r xs vs → xs = vs.map k
  | [], [], _ => rfl
  | x :: xs, v :: vs, ⟨a, b⟩ => by rw [List.map_cons, h x v a, ← All2.keyed h b]
  | [], _ :: _, z => z.elim
  | _ :: _, [], z => z.elim
theorem cr_sortTI {X : Cx} : CallR X (.builtin "sorted") (rSortTI X.K) := by
  intro pins s σ H vs us Q I r h
  obtain ⟨a, xs, nss, rfl, hs, hx, q⟩ := h
  obtain ⟨its, rv, hl, hz⟩ := I.list hs
  obtain ⟨u, rfl, ru⟩ := vals1 r
  obtain rfl : u = Value.ref a := ru
  have hk : ∀ ns v, IsTI X.K H ns v → keyT X.K H v = ns := fun ns v ⟨⟨t, e, ht⟩, ne⟩ => by
    have ex : ∃ ns, IsTI X.K H ns v := ⟨ns, ⟨t, e, ht⟩, ne⟩
    have hc : IsTI X.K H (keyT X.K H v) v := by
      unfold keyT
      rw [dif_pos ex]
      exact Classical.choose_spec ex
    obtain ⟨⟨t', e', ht'⟩, _⟩ := hc
    rw [e] at e'
    cases e'
    exact map_int_inj (I.tuple_inj ht' ht)
  have en := All2.keyed hk hx
  subst en
  have hx' : ∀ x ∈ xs, IsTI X.K H (keyT X.K H x) x := fun x hm => All2.zipP (p := (keyT X.K H x, x)) hx (by rw [zip_map_self]; exact List.mem_map.mpr ⟨x, hm, rfl⟩)
  generalize keyT X.K H = k at hx hx' q
  obtain ⟨e1, e2⟩ := refs_back rv fun x m => by
    obtain ⟨⟨t, e, _⟩, _⟩ := hx' x m
    exact ⟨t, e⟩
  have hp : ∀ v ∈ its, TS.TupInts s.heap v (k (backV v)) ∧ k (backV v) ≠ [] := fun v hv => by
    obtain ⟨t, rfl⟩ := e2 v hv
    have hm : V.ref t ∈ xs := by rw [e1]; exact List.mem_map.mpr ⟨_, hv, rfl⟩
    obtain ⟨⟨t', e, ht⟩, ne⟩ := hx' _ hm
    cases e
    obtain ⟨its2, r2, p2, _⟩ := I.tuple ht
    exact ⟨⟨t, its2.toArray, rfl, p2, (by show PyProof.Rows.IntsAre its2.toArray.toList (k (V.ref t)); simpa using r2.ints)⟩, ne⟩
  refine SrtO.sorted_ord (SrtO.swo_lexL fun v => k (backV v)) hl.isList (by rw [← rv.length]; exact hz) (fun h2 h₁ a' ha' kk => SrtO.tups_sortableL (s := { s with heap := h₁ }) (by omega) (fun v hm => ⟨(hp v hm).1.keeps fun b o e _ => (kk b o e).2, (hp v hm).2⟩) fun o e => ?_) fun out h1 h2 => ?_
  · have e' : some o = some (seqObj "list" its.toArray 0) := e.symm.trans ha'
    cases e'
    intro c
    exact absurd (Value.type.inj c) (by decide)
  · have h3 : ∀ u ∈ out, ∃ a, u = Value.ref a := fun u hu => e2 u (h2.perm.mem_iff.mp hu)
    have hb : (out.map backV).Perm xs := by
      rw [e1]
      exact h2.perm.map backV
    obtain ⟨ep, he'⟩ := PyProof.Rows.sortedAll_at s.heap its out.toArray
    refine ⟨.ref _, upd H (s.heap.objs.size + 1) (.lst (out.map backV)), I.laid (t' := s.toks) (fun _ _ => PyProof.Rows.sortedAll_old) (Nat.le_succ _) ⟨?_, out, ep, vals_back h3, he'⟩, rfl, q (out.map backV) ((out.map backV).map k) _ ?_ (by rw [List.length_map]) ?_ (I.hok.fresh (Nat.le_succ _))⟩
    · rw [hb.length_eq]
      exact hz
    · rw [zip_map_self, zip_map_self]
      exact hb.map _
    · rw [List.map_map, List.pairwise_map]
      exact h1.imp fun {x y} hxy => by
        show leL (k (backV x)) (k (backV y)) = true
        unfold leL
        rw [Bool.not_eq_true']
        exact hxy
section
variable {X : Cx} {B : Bs} {Γ : List Bd} {P : List Bd → Bd → Prop} {a : Expr} {pos p p2 : Pos}
theorem ev_sortedT (hm : X.mg "sorted" = none) (h : EL X B a Γ (cTup cInt) (fun Γ1 xs => ∃ z, sortTO xs = some z ∧ P Γ1 (ow (oLst (cTup cInt)) z))) (hg : Gl X "sorted" := by rfl) (he : starEach (a :: []) X.env = (false, eval a X.env) :: starEach [] X.env := by rfl) : EV X B (.Call (.Name "sorted" p) [a] [] pos) Γ P :=
  ev_lnew (k := sortTO) (is_call cr_sortTI hm boot_sorted' hg (by decide) (by decide) he rfl) (fun xs z h F own H ad vs Q wd h1 h2 q => by
    unfold sortTO at h
    split at h
    · cases h
    · rename_i hne
      cases h
      have hH : All2 (IsTI X.K H) xs vs := All2.ofZip h2.length.symm fun pr hp => by
        have r := All2.zipP h2 hp
        obtain ⟨t, e, st⟩ := tup_ints r
        exact ⟨⟨t, e, seqT_up wd.fh st⟩, fun e0 => hne (by rw [← e0]; exact (List.of_mem_zip hp).1)⟩
      refine ⟨ad, vs, xs, rfl, h1, hH, fun ys mss p' pm hl' hs hn => q p' _ hn ?_⟩
      have e : xs.mergeSort leL = mss := by
        refine sortedL_uniq (List.pairwise_mergeSort leL_trans leL_total xs) hs ((List.mergeSort_perm _ _).trans ?_)
        have := pm.map Prod.fst
        rw [List.map_fst_zip (by omega), List.map_fst_zip (by have := h2.length; omega)] at this
        exact this.symm
      rw [e]
      exact All2.ofZip hl' fun pr hp => All2.zipP h2 (pm.mem_iff.mp hp)) h
end
end T
set_option maxHeartbeats 4000000
namespace T
open PySem PySem.Spec PyProof.Rows L2
/-! ### boxes: objects with the fields order, lords, rows -/
/-- the classes Order, Box -/
abbrev CA := Addr × Addr
abbrev BoxT := (Int × List (List Int)) × List Int × List (List Int)
def bxF (w1 w2 w3 : V) : List (Str × V) := [(("order" : Str), w1), (("lords" : Str), w2), (("rows" : Str), w3)]
def cBox (C : CA) : Cd BoxT := ⟨fun K F o v => ∃ a dx w1 w2 w3, v = .ref a ∧ F a = some (.ins C.2 dx (bxF w1 w2 w3)) ∧ (cOrd C.1).rp K F o.1 w1 ∧ (cTup cInt).rp K F o.2.1 w2 ∧ (cTup (cTup cInt)).rp K F o.2.2 w3,
  fun s ⟨a, dx, w1, w2, w3, e, h, r1, r2, r3⟩ => ⟨a, dx, w1, w2, w3, e, s _ _ h, (cOrd C.1).up s r1, (cTup cInt).up s r2, (cTup (cTup cInt)).up s r3⟩⟩
def spBI (C : Addr) : Sp := fun vs H Q E => ∃ x dx v1 v2 v3, vs = [.ref x, v1, v2, v3] ∧ H x = some (.ins C dx []) ∧
  Q .non (upd (upd (upd H x (.ins C dx [(("order" : Str), v1)])) x (.ins C dx [(("order" : Str), v1), (("lords" : Str), v2)])) x (.ins C dx (bxF v1 v2 v3)))
structure BoxC (P : Program) (w : World) (K : Fg) (mg : Str → Option Value) (base : Heap) (C : Addr) : Prop where
  cls : Cls K C
  n1 : NoAttr K C "order"
  n2 : NoAttr K C "lords"
  n3 : NoAttr K C "rows"
  hm : mg "Box" = some (.ref C)
  mkr : ∃ f fd ps, L2.Mk K C f ∧ FnOk P w K mg base L2.CX0 1 f fd ps (spBI C) ∧ Binds K fd ps []
theorem ok_boxI {P : Program} {w : World} {K : Fg} {mg : Str → Option Value} {base : Heap} {C f : Addr} {fd : FuncData} {pa : Arguments} {sc : Scope} {q : Str} {nm : Str} {p1 p2 p3 p4 p5 p6 p7 p8 p9 p10 p11 p12 : Pos} (c : Cls K C) (n1 : NoAttr K C "order") (n2 : NoAttr K C "lords") (n3 : NoAttr K C "rows")
    (F : FunD K nm q pa [.Assign [.Attribute (.Name "self" p1) "order" p2] (.Name "order" p3) p4, .Assign [.Attribute (.Name "self" p5) "lords" p6] (.Name "form" p7) p8, .Assign [.Attribute (.Name "self" p9) "rows" p10] (.Name "rows" p11) p12] sc [] [] f fd) (S : FnScope ["self", "order", "form", "rows"] ["self", "order", "form", "rows"] sc)
    (l1 : sc.names.lookup ("self" : Str) = some NameKind.local) (l2 : sc.names.lookup ("order" : Str) = some NameKind.local) (l3 : sc.names.lookup ("form" : Str) = some NameKind.local) (l4 : sc.names.lookup ("rows" : Str) = some NameKind.local) : FnOk P w K mg base L2.CX0 1 f fd ["self", "order", "form", "rows"] (spBI C) := by
  refine F.ok S (fun vs H Q E ⟨x, dx, v1, v2, v3, e, _⟩ => by rw [e]; rfl) fun cdv A outer s H vs Q E hr ⟨x, dx, v1, v2, v3, e, h, q⟩ => ?_
  subst e
  refine ⟨tSeq (sFld K (tVar 0) (tVar 1) "order") (tSeq (sFld K (tVar 0) (tVar 2) "lords") (sFld K (tVar 0) (tVar 3) "rows")), pss_cons (ps_fld (pe_var rfl (.inl l1)) (pe_var rfl (.inl l2)) rfl) (pss_cons (ps_fld (pe_var rfl (.inl l1)) (pe_var rfl (.inl l3)) rfl) (pss_one (ps_fld (pe_var rfl (.inl l1)) (pe_var rfl (.inl l4)) rfl))), ?_⟩
  refine ⟨v1, rfl, .ref x, rfl, x, C, dx, [], rfl, h, c, n1, Nat.zero_lt_succ _, ?_⟩
  refine ⟨v2, rfl, .ref x, rfl, x, C, dx, _, rfl, upd_same, c, n2, Nat.le_of_ble_eq_true rfl, ?_⟩
  refine ⟨v3, rfl, .ref x, rfl, x, C, dx, _, rfl, upd_same, c, n3, Nat.le_of_ble_eq_true rfl, ?_⟩
  exact q
section
variable {X : Cx} {B : Bs} {Z : Zt} {Γ : List Bd} {P : List Bd → Bd → Prop} {a b e : Expr} {es : List Expr} {pos p : Pos} {k j : Nat} {C : CA} {α β : Type}
theorem ev_box (O : Ok X B Z (j + 2)) (W : BoxC X.prog X.w X.K X.mg X.base C.2) (h : EA X B (e :: es) Γ (fun Γ1 as => ∃ o l r, as = [.tmp (va (cOrd C.1) o), .tmp (va (cTup cInt) l), .tmp (va (cTup (cTup cInt)) r)] ∧ P Γ1 (va (cBox C) (o, l, r))))
    (hg : Gl X "Box" := by rfl) (he : starEach (e :: es) X.env = (false, eval e X.env) :: starEach es X.env := by rfl) (hpl : (backTo pos (starEach es X.env)).any (·.1) = false := by rfl) : EV X B (.Call (.Name "Box" p) (e :: es) [] pos) Γ P := by
  obtain ⟨f, fd, ps, M, G, hb⟩ := W.mkr
  intro t σ H Q s q
  refine wp_of_pe (pe_make M G (O.room.mono (Nat.le_add_left _ _)) hg W.hm hb .nil (E := fun _ _ _ => False) (fun _ _ _ _ _ _ _ z => z.elim) pa_wp (by decide) he hpl) ?_
  refine h t σ H _ s fun Γ1 as ⟨o, l, r, ea, p1⟩ vs H1 t' a1 s1 x dx hx hd hne => ?_
  subst ea
  cases a1 with
  | tmp a1 =>
    cases a1 with
    | tmp a1 =>
      cases a1 with
      | tmp a1 =>
        cases a1
        obtain ⟨F, own, wd, hS, ⟨v3, e3, r3⟩, ⟨v2, e2, r2⟩, ⟨v1, e1, r1⟩, hT⟩ := s1
        have e1' := (Option.some.inj e1).symm
        subst e1'
        have e2' := (Option.some.inj e2).symm
        subst e2'
        have e3' := (Option.some.inj e3).symm
        subst e3'
        refine ⟨x, dx, _, _, _, rfl, upd_same, rfl, q _ _ p1 _ _ ?_⟩
        have wd2 : Wd B (upd F dx (.own x)) own (upd H1 dx (.own x)) := wd.newF hd
        have hx2 : upd H1 dx (.own x) x = none := by rw [upd_ne (Ne.symm hne)]; exact hx
        have wd3 := wd2.newF (o := .ins C.2 dx (bxF v1 v2 v3)) hx2
        have eH : upd (upd (upd (upd (upd H1 dx (.own x)) x (.ins C.2 dx [])) x (.ins C.2 dx [(("order" : Str), v1)])) x (.ins C.2 dx [(("order" : Str), v1), (("lords" : Str), v2)])) x (.ins C.2 dx (bxF v1 v2 v3)) = upd (upd H1 dx (.own x)) x (.ins C.2 dx (bxF v1 v2 v3)) := by
          funext y
          by_cases z : y = x
          · subst z
            rw [upd_same, upd_same]
          · rw [upd_ne z, upd_ne z, upd_ne z, upd_ne z, upd_ne z]
        rw [eH]
        have sF : Same F (upd (upd F dx (.own x)) x (.ins C.2 dx (bxF v1 v2 v3))) := fun a u z => Same.newH (wd2.none_F hx2) a u (Same.newH (wd.none_F hd) a u z)
        have sH : Same H1 (upd (upd H1 dx (.own x)) x (.ins C.2 dx (bxF v1 v2 v3))) := fun a u z => Same.newH hx2 a u (Same.newH hd a u z)
        exact Sat.pushUp wd3 sF sH hS hT ⟨x, dx, v1, v2, v3, rfl, upd_same, (cOrd C.1).up sF r1, (cTup cInt).up sF r2, (cTup (cTup cInt)).up sF r3⟩
/-- b.order, b.lords, b.rows -/
theorem xm_border {m : Res BoxT} (W : BoxC X.prog X.w X.K X.mg X.base C.2) (ha : XM X B Z a Γ (cBox C) m) (hb : attributeBase a "order" X.env (eval a X.env) = eval a X.env := by rfl) : XM X B Z (.Attribute a "order" pos) Γ (cOrd C.1) (m >>= fun o => .ok o.1) :=
  xm_op1 (k := fun o : BoxT => some o.1) (is_fld hb) (fun x z h => by
    cases h
    intro F own H v Q wd ⟨ad, dx, w1, w2, w3, e, h1, r1, r2, r3⟩ q
    subst e
    exact ⟨ad, C.2, dx, _, w1, rfl, wd.fh _ _ h1, W.cls, W.n1, rfl, q F H _ wd (Same.rfl' F) (Same.rfl' H) r1⟩) ha
theorem xm_blords {m : Res BoxT} (W : BoxC X.prog X.w X.K X.mg X.base C.2) (ha : XM X B Z a Γ (cBox C) m) (hb : attributeBase a "lords" X.env (eval a X.env) = eval a X.env := by rfl) : XM X B Z (.Attribute a "lords" pos) Γ (cTup cInt) (m >>= fun o => .ok o.2.1) :=
  xm_op1 (k := fun o : BoxT => some o.2.1) (is_fld hb) (fun x z h => by
    cases h
    intro F own H v Q wd ⟨ad, dx, w1, w2, w3, e, h1, r1, r2, r3⟩ q
    subst e
    exact ⟨ad, C.2, dx, _, w2, rfl, wd.fh _ _ h1, W.cls, W.n2, rfl, q F H _ wd (Same.rfl' F) (Same.rfl' H) r2⟩) ha
theorem xm_brows {m : Res BoxT} (W : BoxC X.prog X.w X.K X.mg X.base C.2) (ha : XM X B Z a Γ (cBox C) m) (hb : attributeBase a "rows" X.env (eval a X.env) = eval a X.env := by rfl) : XM X B Z (.Attribute a "rows" pos) Γ (cTup (cTup cInt)) (m >>= fun o => .ok o.2.2) :=
  xm_op1 (k := fun o : BoxT => some o.2.2) (is_fld hb) (fun x z h => by
    cases h
    intro F own H v Q wd ⟨ad, dx, w1, w2, w3, e, h1, r1, r2, r3⟩ q
    subst e
    exact ⟨ad, C.2, dx, _, w3, rfl, wd.fh _ _ h1, W.cls, W.n3, rfl, q F H _ wd (Same.rfl' F) (Same.rfl' H) r3⟩) ha
theorem xp_border {o : BoxT} (W : BoxC X.prog X.w X.K X.mg X.base C.2) (ha : XM X B Z a Γ (cBox C) (.ok o)) (hb : attributeBase a "order" X.env (eval a X.env) = eval a X.env := by rfl) : XM X B Z (.Attribute a "order" pos) Γ (cOrd C.1) (.ok o.1) := xm_border W ha hb
theorem xp_blords {o : BoxT} (W : BoxC X.prog X.w X.K X.mg X.base C.2) (ha : XM X B Z a Γ (cBox C) (.ok o)) (hb : attributeBase a "lords" X.env (eval a X.env) = eval a X.env := by rfl) : XM X B Z (.Attribute a "lords" pos) Γ (cTup cInt) (.ok o.2.1) := xm_blords W ha hb
theorem xp_brows {o : BoxT} (W : BoxC X.prog X.w X.K X.mg X.base C.2) (ha : XM X B Z a Γ (cBox C) (.ok o)) (hb : attributeBase a "rows" X.env (eval a X.env) = eval a X.env := by rfl) : XM X B Z (.Attribute a "rows" pos) Γ (cTup (cTup cInt)) (.ok o.2.2) := xm_brows W ha hb
end
end T
set_option maxHeartbeats 4000000
namespace T
open PySem PySem.Spec PyProof.Rows L2
section
variable {X : Cx} {B : Bs} {Γ : List Bd} {P : List Bd → Bd → Prop} {a : Expr} {pos p p1 p2 p3 : Pos} {k : Nat} {α : Type} {c : Cd α}
theorem All2.rev {r : α → V → Prop} : ∀ {xs : List α} {vs : List V}, All2 r xs vs → All2 r xs.reverse vs.reverse
  | [], [], _ => trivial
  | x :: xs, v :: vs, ⟨a, b⟩ => by
    rw [List.reverse_cons, List.reverse_cons]
    exact (All2.rev b).app ⟨a, trivial⟩
  | [], _ :: _, z => z.elim
  | _ :: _, [], z => z.elim
/-- xs[::-1] of a list: a new list -/
theorem ev_revL (h : EL X B a Γ c (fun Γ1 xs => P Γ1 (ow (oLst c) xs.reverse))) : EV X B (.Subscript a (.Slice none none (some (.UnaryOp .USub (.Constant (.int 1) k p1) p2)) p3) pos) Γ P := fun t σ H Q s q => by
  refine wp_of_pe (pe_revL pe_wp) ?_
  refine h t σ H _ s fun Γ1 xs pp v H1 s1 => ?_
  obtain ⟨F, own, ad, vs, rfl, w, hS, hT, h1, h2⟩ := s1.get
  exact ⟨ad, vs, rfl, h1, fun p' hp => q _ _ pp _ _ (push_own w hS hT hp h2.rev)⟩
/-! ### sorted words of deeds -/
def sortDU (xs : List Str) : Option (List Str) := if (xs.all fun (x : Str) => decide (x = "up") || decide (x = "down")) = true then some (xs.filter (fun (x : Str) => decide (x = "down")) ++ xs.filter (fun (x : Str) => decide (x = "up"))) else none
end
theorem ud_lt : ltCps ("down" : Str).cps.toList ("up" : Str).cps.toList = true := by decide +kernel
theorem rise_up : ∀ {ys : List Str}, (∀ y ∈ ys, y = "up" ∨ y = "down") → risingS "up" ys = true → ∀ y ∈ ys, y = "up"
  | [], _, _, y, h => by cases h
  | x :: ys, ha, hr, y, h => by
    unfold risingS at hr
    rw [Bool.and_eq_true, Bool.not_eq_true'] at hr
    have hx : x = "up" := by
      rcases ha x (List.mem_cons_self ..) with e | e
      · exact e
      · rw [e, ud_lt] at hr
        cases hr.1
    rcases List.mem_cons.mp h with e | e
    · rw [e]
      exact hx
    · subst hx
      exact rise_up (fun z hz => ha z (List.mem_cons_of_mem _ hz)) hr.2 y e
theorem rise_tail : ∀ {x : Str} {ys : List Str}, risingS x ys = true → sortedS ys = true
  | _, [], _ => rfl
  | _, y :: ys, h => by
    unfold risingS at h
    rw [Bool.and_eq_true] at h
    exact h.2
theorem sorted_du : ∀ {ys : List Str}, (∀ y ∈ ys, y = "up" ∨ y = "down") → sortedS ys = true → ys = ys.filter (fun (x : Str) => decide (x = "down")) ++ ys.filter (fun (x : Str) => decide (x = "up"))
  | [], _, _ => rfl
  | x :: ys, ha, hs => by
    have hs' : risingS x ys = true := hs
    have ht := rise_tail hs'
    rcases ha x (List.mem_cons_self ..) with e | e
    · subst e
      have all := rise_up (fun z hz => ha z (List.mem_cons_of_mem _ hz)) hs'
      rw [List.filter_eq_nil_iff.mpr, List.nil_append, List.filter_eq_self.mpr]
      · intro z hz
        rcases List.mem_cons.mp hz with e | e
        · rw [e]
          exact decide_eq_true rfl
        · exact decide_eq_true (all z e)
      · intro z hz hd
        have hd' := of_decide_eq_true hd
        rcases List.mem_cons.mp hz with e | e
        · rw [e] at hd'
          exact absurd hd' (by decide)
        · rw [all z e] at hd'
          exact absurd hd' (by decide)
    · subst e
      have ih := sorted_du (fun z hz => ha z (List.mem_cons_of_mem _ hz)) ht
      rw [List.filter_cons_of_pos (by decide), List.filter_cons_of_neg (by decide), List.cons_append, ← ih]
theorem filter_perm_rep {xs ys : List Str} {w : Str} (h : ys.Perm xs) : ys.filter (fun x => decide (x = w)) = xs.filter (fun x => decide (x = w)) := by
  have e : ∀ zs : List Str, zs.filter (fun x => decide (x = w)) = List.replicate (zs.filter (fun x => decide (x = w))).length w := fun zs => List.eq_replicate_iff.mpr ⟨rfl, fun b hb => of_decide_eq_true (List.mem_filter.mp hb).2⟩
  rw [e ys, e xs, (h.filter _).length_eq]
theorem sortDU_of {xs ys z : List Str} (hz : sortDU xs = some z) (h : ys.Perm xs) (s : sortedS ys = true) : ys = z := by
  unfold sortDU at hz
  split at hz
  · rename_i ha
    cases hz
    have ha' : ∀ y ∈ ys, y = "up" ∨ y = "down" := fun y hy => by
      have := List.all_eq_true.mp ha y (h.mem_iff.mp hy)
      rw [Bool.or_eq_true, decide_eq_true_eq, decide_eq_true_eq] at this
      exact this
    rw [sorted_du ha' s, filter_perm_rep h, filter_perm_rep h]
  · cases hz
theorem All2.strs {xs : List Str} {vs : List V} (h : All2 (fun x v => v = V.str x) xs vs) : vs = xs.map V.str := by
  induction xs generalizing vs with
  | nil =>
    cases vs with
    | nil => rfl
    | cons _ _ => exact h.elim
  | cons x xs ih =>
    cases vs with
    | nil => exact h.elim
    | cons v vs =>
      have h1 : v = V.str x := h.1
      rw [List.map_cons, ← ih h.2, h1]
theorem all2_strs {K : Fg} {F : Hp} : ∀ ns : List Str, All2 (cStr.rp K F) ns (ns.map V.str)
  | [] => trivial
  | _ :: ns => ⟨rfl, all2_strs ns⟩
def rSortedSA (K : Fg) : List V → Hp → VK → Prop := fun vs H Q => ∃ (a : Addr) (xs : List Str), vs = [V.ref a] ∧ SqL K H a (xs.map V.str) ∧
  ∀ (ys : List Str) (p : Addr), ys.Perm xs → sortedS ys = true → H p = none → Q (.ref p) (upd H p (.lst (ys.map V.str)))
theorem cr_sortedSA {X : Cx} : CallR X (.builtin "sorted") (rSortedSA X.K) := by
  intro pins s σ H vs us Q I r h
  obtain ⟨a, xs, rfl, hs, q⟩ := h
  obtain ⟨its, rv, hl, hz⟩ := I.list hs
  rw [Vals.ref1 r]
  refine PyProof.Rows.sorted_strsAny hl.isList rv.strs (by rw [← rv.length]; exact hz) fun out ys h1 h2 h3 => ?_
  obtain ⟨ep, he'⟩ := PyProof.Rows.sortedAll_at s.heap its out
  have hlen : (ys.map V.str).length ≤ sizeLine := by
    rw [List.length_map, h2.length_eq]
    rw [List.length_map] at hz
    exact hz
  exact ⟨.ref _, upd H (s.heap.objs.size + 1) (.lst (ys.map V.str)), I.laid (t' := s.toks) (fun _ _ => PyProof.Rows.sortedAll_old) (Nat.le_succ _) ⟨hlen, out.toList, ep, vals_of_strs h1, he'⟩, rfl, q ys _ h2 h3 (I.hok.fresh (Nat.le_succ _))⟩
section
variable {X : Cx} {B : Bs} {Γ : List Bd} {P : List Bd → Bd → Prop} {a : Expr} {pos p : Pos}
theorem ev_sortedS (hm : X.mg "sorted" = none) (h : EL X B a Γ cStr (fun Γ1 xs => ∃ z, sortDU xs = some z ∧ P Γ1 (ow (oLst cStr) z))) (hg : Gl X "sorted" := by rfl) (he : starEach (a :: []) X.env = (false, eval a X.env) :: starEach [] X.env := by rfl) : EV X B (.Call (.Name "sorted" p) [a] [] pos) Γ P :=
  ev_lnew (k := sortDU) (is_call cr_sortedSA hm boot_sorted' hg (by decide) (by decide) he rfl) (fun xs z hz F own H ad vs Q wd h1 h2 q => by
    have e := All2.strs h2
    subst e
    exact ⟨ad, xs, rfl, h1, fun ys p' hp hs hn => q p' _ hn (by rw [← sortDU_of hz hp hs]; exact all2_strs ys)⟩) h
end
end T
set_option maxHeartbeats 4000000
namespace T
open PySem PySem.Spec PyProof.Rows L2
/-! ### isinstance of own classes -/
def cCls (C : Addr) : Cd Unit := ⟨fun _ _ _ v => v = .ref C, fun _ h => h⟩
/-- the readings of instances of the class at C -/
def Inst {α : Type} (C : Addr) (c : Cd α) : Prop := ∀ K F x v, c.rp K F x v → ∃ a dx fs, v = .ref a ∧ F a = some (.ins C dx fs)
theorem inst_ord {C : Addr} : Inst C (cOrd C) := fun K F x v ⟨a, dx, w, e, h, _⟩ => ⟨a, dx, _, e, h⟩
theorem inst_box {C : CA} : Inst C.2 (cBox C) := fun K F x v ⟨a, dx, w1, w2, w3, e, h, _⟩ => ⟨a, dx, _, e, h⟩
section
variable {X : Cx} {B : Bs} {Z : Zt} {Γ : List Bd} {P : List Bd → Bd → Prop} {a b e : Expr} {pos p : Pos} {j k : Nat} {C : Addr} {α β : Type} {c : Cd α}
theorem xm_cls {n : Str} (hm : X.mg n = some (.ref C)) (hg : Gl X n := by rfl) (hd : (n == ("__debug__" : Str)) = false := by decide) : XM X B Z (.Name n pos) Γ (cCls C) (.ok ()) :=
  xm_glob (v := .ref C) hg hm rfl (fun _ _ => rfl) hd
theorem xm_isO {m : Res α} {n : Str} {q : Pos} (hc : Inst C c) (hm : X.mg "isinstance" = none) (hC : X.mg n = some (.ref C)) (I : IsaC X.K C) (cl : Cls X.K C) (ha : XM X B Z a Γ c m) (hg : Gl X "isinstance" := by rfl) (hg2 : Gl X n := by rfl) (hd : (n == ("__debug__" : Str)) = false := by decide)
    (he : starEach (a :: [.Name n q]) X.env = (false, eval a X.env) :: starEach [.Name n q] X.env := by rfl) (he2 : starEach (Expr.Name n q :: []) X.env = (false, eval (.Name n q) X.env) :: starEach [] X.env := by rfl) (hpl : (backTo pos (starEach [Expr.Name n q] X.env)).any (·.1) = false := by rfl) :
    XM X B Z (.Call (.Name "isinstance" p) [a, .Name n q] [] pos) Γ cBool (m >>= fun _ => .ok true) := fun P g => by
  intro t σ H Q s qq
  refine wp_of_pe (pe_callB call_isi hg hm boot_isinstance (pa_cons pe_wp (pa_cons pe_wp pa_nil he2) he) (by decide) (by decide) he hpl) ?_
  refine ha (fun Γ1 b1 => ∃ x, b1 = va c x ∧ P Γ1 (va cBool true)) (good_imp (good_bind g) fun x gx => ⟨x, rfl, gx⟩) t σ H _ s fun Γ1 b1 ⟨x, e1, pp⟩ v H1 s1 => ?_
  subst e1
  refine xm_cls (Z := ZF) hC hg2 hd (fun Γ' b' => Γ' = Γ1 ∧ b' = va (cCls C) ()) ⟨rfl, rfl⟩ _ σ H1 _ s1 fun Γ2 b2 ⟨e0, e2⟩ w H2 s2 => ?_
  subst e0 e2
  obtain ⟨F, own, wd, hS, ⟨w', ew, rw'⟩, ⟨v', ev, rv⟩, hT⟩ := s2
  cases ew
  cases ev
  cases (show w = V.ref C from rw')
  obtain ⟨ad, dx, fs, e3, hF⟩ := hc _ _ _ _ rv
  subst e3
  refine ⟨.ref ad, .ref C, .ref C, .ref C, true, rfl, .own C, .base (.ins (wd.fh _ _ hF) cl I.ha I.hn I.ht I.hm), ?_, ?_⟩
  · unfold PySem.W.kitOne
    rw [if_pos (by exact beq_self_eq_true _)]
  · exact qq _ _ pp _ _ (Sat.push wd hS hT rfl)
/-! ### x == y by the class's own __eq__ -/
def HasE {τ ρ : Type} (P : Program) (w : World) (K : Fg) (mg : Str → Option Value) (base : Heap) (C : Addr) (k : Nat) (S : Fn τ ρ) : Prop :=
  ∃ f fd ps, PySem.W.findIn K (.ref C) "__eq__" = some (some (.ref f)) ∧ PySem.W.isFn K (.ref f) = true ∧ FnOk P w K mg base (L2.CX P w) k f fd ps (spOf K mg S) ∧ Binds K fd ps []
def DefE (K : Fg) (C : Addr) (q : Str) (st : Stmt) : Prop := ∃ f fd, PySem.W.findIn K (.ref C) "__eq__" = some (some (.ref f)) ∧ PySem.W.isFn K (.ref f) = true ∧ FunD K "__eq__" q (defArgs st) (defBody st) (defScope st) [] [] f fd
def rEqI (C : Addr) (sp : Sp) : R2 := fun x y H Q => ∃ a b dx dy fs gs, x = .ref a ∧ y = .ref b ∧ H a = some (.ins C dx fs) ∧ H b = some (.ins C dy gs) ∧ sp [.ref a, .ref b] H Q (fun _ _ _ => False)
theorem op_eqI {f : Addr} {fd : FuncData} {ps : List Str} {sp : Sp} (F : FnOk X.prog X.w X.K X.mg X.base (L2.CX X.prog X.w) k f fd ps sp) (hs : PySem.W.findIn X.K (.ref C) "__eq__" = some (some (.ref f))) (hf : PySem.W.isFn X.K (.ref f) = true) (hb : Binds X.K fd ps []) (hr : Room k X.A) :
    OpR X (compareOp .Eq) (rEqI C sp) := by
  intro pins s σ H x y v u Q I rx ry h
  obtain ⟨a, b, dx, dy, fs, gs, rfl, rfl, ha, hb', hsp⟩ := h
  cases rx
  cases ry
  obtain ⟨mA, J, _⟩ := ins_get I.hok ha
  obtain ⟨mB, J', _⟩ := ins_get I.hok hb'
  obtain ⟨od, J, _⟩ := J.look
  obtain ⟨od', J', _⟩ := J'.look
  obtain ⟨m, hF⟩ := I.fr
  show wpAny (model X.prog X.w) X.A (richCompare .Eq (.ref a) (.ref b)) (EP X pins σ Q) X.xe s
  refine PySem.W.cmp_K (op := .Eq) (tb := .ref C) hr.units0 hF I.ok.mod.kin J J'.type (by simp [PySem.W.notFirst]) hs hf ?_
  have hl := F.len _ _ _ _ hsp
  have r2 : Vals [V.ref a, V.ref b] [Value.ref a, Value.ref b] := .cons rfl (.cons rfl .nil)
  refine wpAny_call (codeAny_mono (F.run X.A X.stack s H ⟨[.ref a, .ref b], []⟩ [.ref a, .ref b] [.ref a, .ref b] _ _ hr I.env0 (by
    have := hb s [.ref a, .ref b] I.kIn (by simpa using hl)
    simpa using this) r2 hsp) fun r s' hq => ?_)
  cases r with
  | error e =>
    obtain ⟨_, _, _, _, _, _, _, _, _, _, _, _, z⟩ := hq
    exact z.elim
  | ok fl =>
    cases fl with
    | ret w =>
      obtain ⟨z, H', I', rz, qz⟩ := I.after hq
      exact SlX.cmpback rz ⟨z, H', I', rz, qz⟩
    | next => exact False.elim hq
    | brk => exact False.elim hq
    | cont => exact False.elim hq
theorem ev_eqI {S : Fn (α × α × Unit) Bool} (O : Ok X B Z j) (hc : Inst C c) (hH : HasE X.prog X.w X.K X.mg X.base C k S) (hi : ∀ x, S.ins x = [va c x.1, va c x.2.1]) (ho : ∀ x r, (S.outs x r).length = (S.ins x).length) (hr : ∀ x r, S.ret x r = va cBool r)
    (h : EV X B a Γ (fun Γ1 b1 => ∃ x, b1 = va c x ∧ EV X B b Γ1 (fun Γ2 b2 => ∃ y, b2 = va c y ∧ good (S.m (x, y, ())) (fun r => P Γ2 (va cBool r)) (fun _ => False)))) (hkj : k ≤ j := by decide) (hm : behindInMarks .Eq b = false := by first | exact nomark _ | rfl) :
    EV X B (.Compare a [.Eq] [b] pos) Γ P := by
  obtain ⟨f, fd, ps, hs, hf, G, hb⟩ := hH
  intro t σ H Q s q
  refine wp_of_pe (pe_cmpR (op_eqI G hs hf hb (O.room.mono hkj)) pe_wp pe_wp hm) ?_
  refine h t σ H _ s fun Γ1 b1 ⟨x, e1, h1⟩ v H1 s1 => ?_
  subst e1
  refine h1 _ σ H1 _ s1 fun Γ2 b2 ⟨y, e2, g⟩ w H2 s2 => ?_
  subst e2
  have s3 := s2
  obtain ⟨F, own, wd, hS, ⟨w', ew, rw'⟩, ⟨v', ev, rv⟩, hT⟩ := s3
  cases ew
  cases ev
  obtain ⟨a1, d1, f1, e3, hF1⟩ := hc _ _ _ _ rv
  obtain ⟨a2, d2, f2, e4, hF2⟩ := hc _ _ _ _ rw'
  subst e3 e4
  refine ⟨a1, a2, d1, d2, f1, f2, rfl, rfl, wd.fh _ _ hF1, wd.fh _ _ hF2, ?_⟩
  have cc := call_core (Z := ZF) (Γ1 := Γ2) (as := [.tmp (va c x), .tmp (va c y)]) (x := (x, y, ())) (P := fun Γ' b' => P Γ2 b' ∧ Γ' = Γ2) (Q := Q) (O.monoZ fun _ _ z => z.elim) (W := fun _ _ _ _ => False) (fun _ _ z => z.elim) (.tmp (.tmp .nil)) s2 (by rw [hi]; rfl) List.nodup_nil (ho _) (by
    refine good_mono g (fun r p => ?_) fun ex z => z.elim
    rw [hr]
    exact ⟨p, back_tmp (bs := [va c x, va c y])⟩) (fun Γ' b' ⟨p, e⟩ v' H' s' => q _ _ p v' H' (by rw [← e]; exact s'))
  exact cc
theorem xm_eqI {S : Fn (α × α × Unit) Bool} {ma mb : Res α} (O : Ok X B Z j) (hc : Inst C c) (hH : HasE X.prog X.w X.K X.mg X.base C k S) (ha : XM X B Z a Γ c ma) (hb : XM X B Z b Γ c mb) (hi : ∀ x, S.ins x = [va c x.1, va c x.2.1] := by intro _; rfl) (ho : ∀ x r, (S.outs x r).length = (S.ins x).length := by intro _ _; rfl) (hr : ∀ x r, S.ret x r = va cBool r := by intro _ _; rfl)
    (hkj : k ≤ j := by decide) (hm : behindInMarks .Eq b = false := by first | exact nomark _ | rfl) : XM X B Z (.Compare a [.Eq] [b] pos) Γ cBool (ma >>= fun x => mb >>= fun y => noX (S.m (x, y, ()))) := fun P g =>
  ev_eqI O hc hH hi ho hr (ha _ (good_imp (good_bind g) fun x gx => ⟨x, rfl, hb _ (good_imp (good_bind gx) fun y gy => ⟨y, rfl, good_noX gy⟩)⟩)) hkj hm
theorem et_eqI {P : List Bd → Bool → Prop} {S : Fn (α × α × Unit) Bool} (O : Ok X B Z j) (hc : Inst C c) (hH : HasE X.prog X.w X.K X.mg X.base C k S) (hi : ∀ x, S.ins x = [va c x.1, va c x.2.1]) (ho : ∀ x r, (S.outs x r).length = (S.ins x).length) (hr : ∀ x r, S.ret x r = va cBool r)
    (h : EV X B a Γ (fun Γ1 b1 => ∃ x, b1 = va c x ∧ EV X B b Γ1 (fun Γ2 b2 => ∃ y, b2 = va c y ∧ good (S.m (x, y, ())) (fun r => P Γ2 r) (fun _ => False)))) (hkj : k ≤ j := by decide) (hm : behindInMarks .Eq b = false := by first | exact nomark _ | rfl) :
    ET X B (.Compare a [.Eq] [b] pos) Γ P := by
  obtain ⟨f, fd, ps, hs, hf, G, hb⟩ := hH
  intro t σ H Q s q
  refine wp_of_pt (pt_cmpR (op_eqI G hs hf hb (O.room.mono hkj)) pe_wp pe_wp hm) ?_
  refine h t σ H _ s fun Γ1 b1 ⟨x, e1, h1⟩ v H1 s1 => ?_
  subst e1
  refine h1 _ σ H1 _ s1 fun Γ2 b2 ⟨y, e2, g⟩ w H2 s2 => ?_
  subst e2
  have s3 := s2
  obtain ⟨F, own, wd, hS, ⟨w', ew, rw'⟩, ⟨v', ev, rv⟩, hT⟩ := s3
  cases ew
  cases ev
  obtain ⟨a1, d1, f1, e3, hF1⟩ := hc _ _ _ _ rv
  obtain ⟨a2, d2, f2, e4, hF2⟩ := hc _ _ _ _ rw'
  subst e3 e4
  refine ⟨a1, a2, d1, d2, f1, f2, rfl, rfl, wd.fh _ _ hF1, wd.fh _ _ hF2, ?_⟩
  have cc := call_core (Z := ZF) (Γ1 := Γ2) (as := [.tmp (va c x), .tmp (va c y)]) (x := (x, y, ())) (P := fun Γ' b' => ∃ r, b' = va cBool r ∧ P Γ2 r ∧ Γ' = Γ2) (Q := fun x H' => ∃ k, x = V.bl k ∧ Q k H') (O.monoZ fun _ _ z => z.elim) (W := fun _ _ _ _ => False) (fun _ _ z => z.elim) (.tmp (.tmp .nil)) s2 (by rw [hi]; rfl) List.nodup_nil (ho _) (by
    refine good_mono g (fun r p => ?_) fun ex z => z.elim
    rw [hr]
    exact ⟨r, rfl, p, back_tmp (bs := [va c x, va c y])⟩) (fun Γ' b' ⟨r, eb, p, e⟩ v' H' s' => by
      subst eb e
      have s4 := s'
      obtain ⟨F4, own4, wd4, hS4, ⟨v4, e4, r4⟩, hT4⟩ := s4
      cases e4
      exact ⟨r, r4, q _ _ p H' s'.drop⟩)
  exact cc
theorem tm_eqI {S : Fn (α × α × Unit) Bool} {ma mb : Res α} (O : Ok X B Z j) (hc : Inst C c) (hH : HasE X.prog X.w X.K X.mg X.base C k S) (ha : XM X B Z a Γ c ma) (hb : XM X B Z b Γ c mb) (hi : ∀ x, S.ins x = [va c x.1, va c x.2.1] := by intro _; rfl) (ho : ∀ x r, (S.outs x r).length = (S.ins x).length := by intro _ _; rfl) (hr : ∀ x r, S.ret x r = va cBool r := by intro _ _; rfl)
    (hkj : k ≤ j := by decide) (hm : behindInMarks .Eq b = false := by first | exact nomark _ | rfl) : TM X B Z (.Compare a [.Eq] [b] pos) Γ (ma >>= fun x => mb >>= fun y => noX (S.m (x, y, ()))) := fun P g =>
  et_eqI O hc hH hi ho hr (ha _ (good_imp (good_bind g) fun x gx => ⟨x, rfl, hb _ (good_imp (good_bind gx) fun y gy => ⟨y, rfl, good_noX gy⟩)⟩)) hkj hm
end
end T
set_option maxHeartbeats 2000000
namespace T
open PySem PySem.Spec PyProof.Rows L2
section
variable {X : Cx} {B : Bs} {Z : Zt} {Γ : List Bd} {P : List Bd → Bd → Prop} {a b e : Expr} {pos p : Pos} {j k : Nat} {α β γ : Type} {c : Cd α}
/-! ### two readable lists side by side -/
def Rd2 (K : Fg) (B : Bs) (t : List (V × Bd)) (σ : L2.St) (Γ : List Bd) (c : Cd α) (xs ys : List α) (v w : V) (H : Hp) : Prop :=
  ∃ F own a vs a' vs', v = .ref a ∧ w = .ref a' ∧ Wd B F own H ∧ HoldS K F H own σ Γ ∧ HoldT K F H own t ∧ SqL K H a vs ∧ All2 (c.rp K F) xs vs ∧ SqL K H a' vs' ∧ All2 (c.rp K F) ys vs'
theorem xl_two {t : List (V × Bd)} {σ : L2.St} {H1 : Hp} {v : V} {xs : List α} {m' : Res (List α)} {Q : V → Hp → Prop} (hb : XL X B Z b Γ c m') {P : List α → Prop} (g : good m' P (fun ex => Z ex Γ)) (s1 : Rdl X.K B t σ Γ c xs v H1)
    (q : ∀ ys, P ys → ∀ w H2, Rd2 X.K B t σ Γ c xs ys v w H2 → Q w H2) : wpE X b σ H1 Q := by
  rcases s1 with s1 | ⟨i, hΓ, hs, s1⟩
  · refine hb P g _ σ H1 _ s1 fun ys py w H2 s2 => q ys py w H2 ?_
    obtain ⟨F, own, a, vs, e, wd, hS, hT, h1, h2, a0, vs0, e0, h3, h4⟩ := s2.temp
    exact ⟨F, own, a0, vs0, a, vs, e0, e, wd, hS, hT, seqL_up wd.fh h3, h4, h1, h2⟩
  · refine hb P g _ σ H1 _ s1 fun ys py w H2 s2 => q ys py w H2 ?_
    obtain ⟨F, own, a, vs, e, wd, hS, hT, h1, h2⟩ := s2.get
    obtain ⟨a0, ea, h0, vs0, h3, h4⟩ := hS.2 i _ hΓ
    rw [hs] at ea
    exact ⟨F, own, a0, vs0, a, vs, Option.some.inj ea, e, wd, hS, hT, .of h3, h4, h1, h2⟩
section
variable [DecidableEq α] {f : α → PyData} {n : Nat}
theorem rd2_eq {t : List (V × Bd)} {σ : L2.St} {H : Hp} {xs ys : List α} {v w : V} {Q : VK} (D : Deep c f n) (hn : n < 63) (s : Rd2 X.K B t σ Γ c xs ys v w H) (q : (∀ u, u = V.bl (decide (xs = ys)) → Sat X.K B t σ Γ H → Sat X.K B ((u, va cBool (decide (xs = ys))) :: t) σ Γ H → Q u H)) : rEqD X.K v w H Q := by
  obtain ⟨F, own, a, vs, a', vs', rfl, rfl, wd, hS, hT, h1, h2, h3, h4⟩ := s
  refine ⟨_, _, .lst h1 (All2.dp D (h2.imp fun _ _ => c.up wd.fh)), .lst h3 (All2.dp D (h4.imp fun _ _ => c.up wd.fh)), (deep_lst D).sh (by omega) xs, (deep_lst D).sh (by omega) ys, ?_⟩
  rw [show PyData.eqv (PyData.list (xs.map f)) (PyData.list (ys.map f)) = decide (xs = ys) from (deep_lst D).inj xs ys]
  exact q _ rfl ⟨F, own, wd, hS, hT⟩ (Sat.push wd hS hT rfl)
theorem rd2_ne {t : List (V × Bd)} {σ : L2.St} {H : Hp} {xs ys : List α} {v w : V} {Q : VK} (D : Deep c f n) (hn : n < 63) (s : Rd2 X.K B t σ Γ c xs ys v w H) (q : (∀ u, u = V.bl (!decide (xs = ys)) → Sat X.K B t σ Γ H → Sat X.K B ((u, va cBool (!decide (xs = ys))) :: t) σ Γ H → Q u H)) : rNeD X.K v w H Q := by
  obtain ⟨F, own, a, vs, a', vs', rfl, rfl, wd, hS, hT, h1, h2, h3, h4⟩ := s
  refine ⟨_, _, .lst h1 (All2.dp D (h2.imp fun _ _ => c.up wd.fh)), .lst h3 (All2.dp D (h4.imp fun _ _ => c.up wd.fh)), (deep_lst D).sh (by omega) xs, (deep_lst D).sh (by omega) ys, ?_⟩
  rw [show PyData.eqv (PyData.list (xs.map f)) (PyData.list (ys.map f)) = decide (xs = ys) from (deep_lst D).inj xs ys]
  exact q _ rfl ⟨F, own, wd, hS, hT⟩ (Sat.push wd hS hT rfl)
theorem tm_eqLL {m m' : Res (List α)} (O : Ok X B Z k) (D : Deep c f n) (ha : XL X B Z a Γ c m) (hb : XL X B Z b Γ c m') (hn : n < 63 := by decide) (hm : behindInMarks .Eq b = false := by first | exact nomark _ | rfl) : TM X B Z (.Compare a [.Eq] [b] pos) Γ (m >>= fun xs => m' >>= fun ys => .ok (decide (xs = ys))) := fun P g t σ H Q s q => by
  refine wp_of_pt (pt_cmpR (op_eqD O.room.units) pe_wp pe_wp hm) ?_
  refine ha _ (good_bind g) t σ H _ s fun xs gx v H1 s1 => ?_
  exact xl_two hb (good_bind gx) s1 fun ys gy w H2 s2 => rd2_eq D hn s2 fun u e s3 _ => ⟨_, e, q _ _ gy _ s3⟩
theorem tm_neLL {m m' : Res (List α)} (O : Ok X B Z k) (D : Deep c f n) (ha : XL X B Z a Γ c m) (hb : XL X B Z b Γ c m') (hn : n < 63 := by decide) (hm : behindInMarks .NotEq b = false := by first | exact nomark _ | rfl) : TM X B Z (.Compare a [.NotEq] [b] pos) Γ (m >>= fun xs => m' >>= fun ys => .ok (!decide (xs = ys))) := fun P g t σ H Q s q => by
  refine wp_of_pt (pt_cmpR (op_neD O.room.units) pe_wp pe_wp hm) ?_
  refine ha _ (good_bind g) t σ H _ s fun xs gx v H1 s1 => ?_
  exact xl_two hb (good_bind gx) s1 fun ys gy w H2 s2 => rd2_ne D hn s2 fun u e s3 _ => ⟨_, e, q _ _ gy _ s3⟩
theorem xm_eqLL {m m' : Res (List α)} (O : Ok X B Z k) (D : Deep c f n) (ha : XL X B Z a Γ c m) (hb : XL X B Z b Γ c m') (hn : n < 63 := by decide) (hm : behindInMarks .Eq b = false := by first | exact nomark _ | rfl) : XM X B Z (.Compare a [.Eq] [b] pos) Γ cBool (m >>= fun xs => m' >>= fun ys => .ok (decide (xs = ys))) := fun P g t σ H Q s q => by
  refine wp_of_pe (pe_cmpR (op_eqD O.room.units) pe_wp pe_wp hm) ?_
  refine ha _ (good_bind g) t σ H _ s fun xs gx v H1 s1 => ?_
  exact xl_two hb (good_bind gx) s1 fun ys gy w H2 s2 => rd2_eq D hn s2 fun u e _ s3 => q _ _ gy _ _ s3
theorem xm_neLL {m m' : Res (List α)} (O : Ok X B Z k) (D : Deep c f n) (ha : XL X B Z a Γ c m) (hb : XL X B Z b Γ c m') (hn : n < 63 := by decide) (hm : behindInMarks .NotEq b = false := by first | exact nomark _ | rfl) : XM X B Z (.Compare a [.NotEq] [b] pos) Γ cBool (m >>= fun xs => m' >>= fun ys => .ok (!decide (xs = ys))) := fun P g t σ H Q s q => by
  refine wp_of_pe (pe_cmpR (op_neD O.room.units) pe_wp pe_wp hm) ?_
  refine ha _ (good_bind g) t σ H _ s fun xs gx v H1 s1 => ?_
  exact xl_two hb (good_bind gx) s1 fun ys gy w H2 s2 => rd2_ne D hn s2 fun u e _ s3 => q _ _ gy _ _ s3
end
/-! ### a comparison as a value, its sides with a state -/
theorem ev_cmp {r : R2} {op : CmpOp} {ca : Cd α} {cb : Cd β} {k : α → β → Option Bool} (C : Cmp X B op r ca cb k) (h : EV X B a Γ (fun Γ1 b1 => ∃ x, b1 = va ca x ∧ EV X B b Γ1 (fun Γ2 b2 => ∃ y, b2 = va cb y ∧ ∃ z, k x y = some z ∧ P Γ2 (va cBool z))))
    (hm : behindInMarks op b = false := by first | exact nomark _ | rfl) : EV X B (.Compare a [op] [b] pos) Γ P := ev_op2 (fun _ _ ha hb => pe_cmpR C.op ha hb hm) C.ok h
end
/-! ### xs[i] of a slot's own list, where i changes others -/
section
variable {X : Cx} {B : Bs} {Z : Zt} {Γ : List Bd} {P : List Bd → Bd → Prop} {b : Expr} {pos p : Pos} {α : Type} {c : Cd α}
theorem ev_itemO (i : Nat) {xs : List α} {n : Str} (h : EV X B b Γ (fun Γ1 b1 => ∃ j, b1 = va cInt j ∧ ∃ xs', Γ1[i]? = some (ow (oLst c) xs') ∧ ∃ z, atI xs' j = some z ∧ P Γ1 (va c z))) (hΓ : Γ[i]? = some (ow (oLst c) xs) := by rfl) (hN : X.N[i]? = some n := by rfl) (hv : Vis X.env.scope n := by first | exact Or.inl rfl | exact Or.inr (Or.inl rfl) | exact Or.inr (Or.inr rfl))
    (hd : (n == ("__debug__" : Str)) = false := by decide) (hcd : (n == ("__classdict__" : Str)) = false := by decide) (hs : PlainIx b := by exact fun _ _ => rfl) : EV X B (.Subscript (.Name n p) b pos) Γ P := fun t σ H Q s q => by
  refine wp_of_pe (is_ix hs _ _ pe_wp pe_wp) ?_
  have s' := s
  obtain ⟨F0, own0, w0, hS0, hT0⟩ := s'
  obtain ⟨ad, ea, _⟩ := hS0.2 i _ hΓ
  refine wp_of_pe (pe_var hN hv hd hcd) ⟨.ref ad, slot_some ea, ?_⟩
  refine h t σ H _ s fun Γ1 b1 ⟨j, e1, xs', e2, z, hz, p⟩ w H2 s2 => ?_
  subst e1
  obtain ⟨F, own, wd, hS, ⟨w', ew, rw'⟩, hT⟩ := s2
  cases ew
  obtain ⟨ad', ea', h0, vs, h1, h2⟩ := hS.2 i _ e2
  rw [ea] at ea'
  cases ea'
  obtain ⟨u, hu, ru⟩ := h2.atI hz
  exact .inl ⟨ad, vs, j, u, rfl, rw', .of h1, hu, q _ _ p u H2 (Sat.push wd hS hT ru)⟩
end
/-! ### f(k = v, ..): the names in any order -/
def pick {β : Type} (d : β) (is : List Nat) (l : List β) : List β := is.map fun i => (l[i]?).getD d
/-- a binding that no label touches -/
def Vb (b : Bd) : Prop := ∀ K F H ov f f', b.hold K F H ov f → b.hold K F H ov f'
theorem vb_va {α : Type} {c : Cd α} {x : α} : Vb (va c x) := fun _ _ _ _ _ _ h => h
theorem vb_un : Vb un := fun _ _ _ _ _ _ h => h
theorem vb_nil : ∀ b ∈ ([] : List Bd), Vb b := fun _ h => by cases h
theorem vb_cons {b : Bd} {l : List Bd} (h : Vb b) (hl : ∀ b ∈ l, Vb b) : ∀ b' ∈ b :: l, Vb b' := fun b' m => by
  rcases List.mem_cons.mp m with e | m
  · rw [e]
    exact h
  · exact hl b' m
theorem vals_pick {vs : List V} {us : List Value} (r : Vals vs us) (is : List Nat) : Vals (pick .non is vs) (pick .none is us) := by
  have h : ∀ i : Nat, RelV ((vs[i]?).getD .non) ((us[i]?).getD .none) := fun i => by
    cases e : vs[i]? with
    | some v =>
      obtain ⟨u, e2, q⟩ := r.get e
      rw [e2]
      exact q
    | none =>
      have hl := List.getElem?_eq_none_iff.mp e
      rw [r.length] at hl
      rw [List.getElem?_eq_none_iff.mpr hl]
      exact rfl
  induction is with
  | nil => exact .nil
  | cons i is ih => exact .cons (h i) ih
def HasN {α ρ : Type} (P : Program) (w : World) (K : Fg) (mg : Str → Option Value) (base : Heap) (k : Nat) (n : Str) (ns : List Str) (S : Fn α ρ) : Prop :=
  ∃ (f : Addr) (fd : FuncData) (ps : List Str) (is : List Nat) (S0 : Fn α ρ), mg n = some (.ref f) ∧ FnOk P w K mg base (L2.CX P w) k f fd ps (spOf K mg S0) ∧ PySem.W.keepIn K (.ref f) = true ∧ (∀ (s : Shared) (ws : List Value), K.In s.heap → ws.length = ns.length → BindsTo s fd ⟨[], ns.zip ws⟩ (ps.zip (pick .none is ws))) ∧
    (∀ x, (S.ins x).length = ns.length) ∧ ∀ vs H Q E, spOf K mg S vs H Q E → spOf K mg S0 (pick .non is vs) H Q E
theorem hasN_of {α ρ : Type} {P : Program} {w : World} {K : Fg} {mg : Str → Option Value} {base : Heap} {k : Nat} {n : Str} {ns ps : List Str} {S S0 : Fn α ρ} {f : Addr} {fd : FuncData} {x : Str} {qual : Str} {params : Arguments} {body : List Stmt} {scope : Scope} (is : List Nat) (hm : mg n = some (.ref f)) (F : FnOk P w K mg base (L2.CX P w) k f fd ps (spOf K mg S0)) (FD : FunD K x qual params body scope [] [] f fd)
    (hb : ∀ (kV doc pm : Value) (an : Option Addr) (cdv ct : Value) (us : List Value), us.length = ns.length → bindArgs (PySem.W.fnOf x qual params body scope .none kV doc pm an cdv ct) ⟨[], ns.zip us⟩ = pure (ps.zip (pick .none is us)))
    (hl : ∀ x, (S.ins x).length = ns.length) (hi : ∀ x, S0.ins x = pick un is (S.ins x)) (hv : ∀ x, ∀ b ∈ S.ins x, Vb b) (hr : ∀ x r, S0.ret x r = S.ret x r) (hmm : ∀ x, S0.m x = S.m x) (ho : ∀ x r, S.outs x r = List.replicate ns.length un) : HasN P w K mg base k n ns S := by
  refine ⟨f, fd, ps, is, S0, hm, F, FD.kp, ?_, hl, ?_⟩
  · obtain ⟨oc, od, dV, kV, doc, pm, an, cdv, ct, osl, rfl, lk, hcd, hD, hK⟩ := FD.ex
    rcases hD with ⟨_, rfl⟩ | ⟨e, _⟩
    · exact fun s ws _ h => .of_eq (hb kV doc pm an cdv ct ws h)
    · exact absurd rfl e
  · rintro vs H Q E ⟨x, F, own, wd, hS, g⟩
    refine ⟨x, F, own, wd, ⟨?_, fun i b e => ?_⟩, ?_⟩
    · rw [hi]
      simp [pick]
    · rw [hi] at e
      unfold pick at e
      rw [List.getElem?_map, Option.map_eq_some_iff] at e
      obtain ⟨j, hj, e⟩ := e
      rw [slot_map]
      unfold pick
      rw [List.getElem?_map, hj]
      cases e2 : (S.ins x)[j]? with
      | none =>
        rw [e2] at e
        rw [← e]
        exact trivial
      | some b' =>
        rw [e2] at e
        cases (show b' = b from e)
        have h := hS.2 j _ e2
        rw [slot_map] at h
        have hjl : j < vs.length := by
          have := (List.getElem?_eq_some_iff.mp e2).1
          rw [← hS.1, List.length_map] at this
          exact this
        rw [List.getElem?_eq_getElem hjl] at h
        show b.hold K F H (some ((vs[j]?).getD .non)) _
        rw [List.getElem?_eq_getElem hjl]
        exact hv x _ (List.mem_of_getElem? e2) _ _ _ _ _ _ h
    · rw [hmm]
      refine good_mono g (fun r q v H' s => q v H' ?_) fun ex q => q
      obtain ⟨F', own', wd', hS', hT'⟩ := s
      rw [hr] at hT'
      refine ⟨F', own', wd', ⟨?_, fun i b e => ?_⟩, hT'⟩
      · rw [ho, List.length_replicate, hS.1, hl]
      · rw [ho] at e
        rw [List.mem_replicate.mp (List.mem_of_getElem? e) |>.2]
        exact trivial
section
variable {X : Cx} {B : Bs} {Z : Zt} {Γ : List Bd} {e : Expr} {ks : List Keyword}
theorem ev_callN {α ρ : Type} {S : Fn α ρ} {n : Str} {ns : List Str} {k j : Nat} {p pos : Pos} {P : List Bd → Bd → Prop} (O : Ok X B Z j) (hH : HasN X.prog X.w X.K X.mg X.base k n ns S) (ho : ∀ x r, (S.outs x r).length = (S.ins x).length)
    (h : EK X B ks Γ (fun Γ1 as => ∃ x, bdsOf Γ1 as = S.ins x ∧ (borOf as).Nodup ∧ good (S.m x) (fun r => P (back Γ1 as (S.outs x r)) (S.ret x r)) (fun ex => Z ex (kill Γ1 as))))
    (hkj : k ≤ j := by decide) (hg : Gl X n := by rfl) (hdb : (n == ("__debug__" : Str)) = false := by decide) (hall : (backToKw pos (keywordEach ks X.env)).all (·.1.isSome) = true := by rfl) (hks : (backToKw pos (keywordEach ks X.env)).filterMap (·.1) = ns := by rfl)
    (hpl : ((backTo pos (starEach [] X.env)).any (·.1) || (backToKw pos (keywordEach ks X.env)).any (·.1.isNone)) = false := by rfl) : EV X B (.Call (.Name n p) [] ks pos) Γ P := by
  obtain ⟨f, fd, ps, is, S0, hm, G, hk, hb, hl, hsp⟩ := hH
  obtain ⟨W, tk, hW⟩ := O.exn
  intro t σ H Q s q
  refine wp_of_pe (t := fun σ H Q => wpK X ks σ H fun zs H1 => spOf X.K X.mg S zs H1 Q (WE W σ)) ⟨fun pins s σ H Q I h => ?_⟩ ?_
  · refine wpAny_Call_Name_kw (ld_glob I hg hm ?_ hdb)
    refine PySem.W.callWith_KW0 (h₀ := X.base) I.ok.mod.kin hk hall (thn (pk_wp.run pos pins s σ H _ I h) fun ws s2 ⟨zs, H2, I2, rz, q2⟩ => ⟨I2.kIn, ?_⟩) hpl
    rw [hks]
    have hlw : ws.length = ns.length := by
      obtain ⟨x, F, own, wd, hS, g⟩ := q2
      rw [← rz.length, ← hl x, ← hS.1, List.length_map]
    refine wpAny_call (codeAny_mono (G.run X.A X.stack s2 H2 ⟨[], ns.zip ws⟩ _ _ Q (WE W σ) (O.room.mono hkj) I2.env0 (hb s2 ws I2.kIn hlw) (vals_pick rz is) (hsp _ _ _ _ q2)) fun r s' hq => ?_)
    cases r with
    | error e => exact passAt tk σ pins H2 s2 e s' I2 hq
    | ok fl =>
      cases fl with
      | ret u => exact I2.after hq
      | next => exact False.elim hq
      | brk => exact False.elim hq
      | cont => exact False.elim hq
  · refine h t σ H _ s fun Γ1 as ⟨x, hi, nd, g⟩ vs H1 t' a s1 => ?_
    exact call_core O hW a s1 hi nd (ho x) g q
end
end T
set_option maxHeartbeats 2000000
namespace T
open PySem PySem.Spec PyProof.Rows L2
section
variable {X : Cx} {B : Bs} {Z : Zt} {Γ : List Bd} {P : List Bd → Bd → Prop} {a b e : Expr} {pos p : Pos} {k : Nat} {α β : Type} {c : Cd α} {d : Cd β}
/-- int(i) -/
theorem ev_intI (hm : X.mg "int" = none) (h : EV X B a Γ (fun Γ1 b1 => ∃ i, b1 = va cInt i ∧ P Γ1 (va cInt i))) (hg : Gl X "int" := by rfl) (he : starEach (a :: []) X.env = (false, eval a X.env) :: starEach [] X.env := by rfl) : EV X B (.Call (.Name "int" p) [a] [] pos) Γ P :=
  ev_op1 (ca := cInt) (cc := cInt) (k := fun i => some i) (is_callT call_int1 hm boot_int hg (by decide) (by decide) he rfl) (fun i z h F own H v Q wd hv q => by
    cases h
    exact .inl ⟨i, by rw [show v = V.int i from hv], q F H _ wd (Same.rfl' F) (Same.rfl' H) rfl⟩) (h.mono fun Γ1 b1 ⟨i, e, q⟩ => ⟨i, e, i, rfl, q⟩)
/-- tuple(range(n)) -/
theorem ev_tupRng {p3 pos3 : Pos} (O : Ok X B Z k) (hm : X.mg "tuple" = none) (hm2 : X.mg "range" = none) (h : EV X B a Γ (fun Γ1 b1 => ∃ n, b1 = va cInt n ∧ ∃ z, rngL 0 n = some z ∧ P Γ1 (va (cTup cInt) z))) (hg : Gl X "tuple" := by rfl) (hg2 : Gl X "range" := by rfl)
    (na : starEach [a] X.env = (false, eval a X.env) :: starEach [] X.env := by rfl) (na2 : starEach [.Call (.Name "range" p3) [a] [] pos3] X.env = (false, eval (.Call (.Name "range" p3) [a] [] pos3) X.env) :: starEach [] X.env := by rfl) :
    EV X B (.Call (.Name "tuple" p) [.Call (.Name "range" p3) [a] [] pos3] [] pos) Γ P := fun t σ H Q s q => by
  refine wp_of_pe (pe_tupRgF O.calm hg hm (prg_1 hg2 hm2 pe_wp na) na2) ?_
  refine h t σ H _ s fun Γ1 b1 ⟨n, e1, z, hz, g⟩ v H1 s1 => ?_
  subst e1
  obtain ⟨F, own, wd, hS, ⟨v', ev, rv⟩, hT⟩ := s1
  cases ev
  unfold rngL at hz
  split at hz
  · rename_i hr
    cases hz
    refine ⟨n, rv, hr, fun q' us hq => ?_⟩
    rw [map_rng]
    exact q _ _ g _ _ (push_tupF (cd := cTup cInt) wd hS hT hq ⟨q', _, rfl, .of upd_same, all2_ints _⟩)
  · cases hz
/-- len of a pair -/
theorem xm_lenP {m : Res (α × β)} (hm : X.mg "len" = none) (ha : XM X B Z a Γ (cPr c d) m) (hg : Gl X "len" := by rfl) (he : starEach (a :: []) X.env = (false, eval a X.env) :: starEach [] X.env := by rfl) : XM X B Z (.Call (.Name "len" p) [a] [] pos) Γ cInt (m >>= fun _ => .ok 2) :=
  xm_op1 (ca := cPr c d) (k := fun _ => some 2) (is_call call_len_seq hm boot_len hg (by decide) (by decide) he rfl) (fun xs z h F own H v Q wd ⟨ad, x, y, e, h1, h2, h3⟩ q => by
    cases h
    exact ⟨ad, [x, y], by rw [e], .inr (seqT_up wd.fh (.of h1)), q F H _ wd (Same.rfl' F) (Same.rfl' H) rfl⟩) ha
end
end T
set_option maxHeartbeats 2000000
namespace T
open PySem PySem.Spec PyProof.Rows L2
def isDB : PyData → Bool → Option Bool
  | .bool a, b => some (decide (a = b))
  | _, _ => none
def asL : PyData → Option (List PyData)
  | .list ds => some ds
  | _ => none
def inDO (x : PyData) (xs : List PyData) : Option Bool := if (SeqAt.shaped x && SeqAt.shaped (.list xs)) = true then some (xs.any fun z => PyData.eqv z x) else none
def notInDO (x : PyData) (xs : List PyData) : Option Bool := (inDO x xs).map (!·)
theorem all2_dpall {K : Fg} {F : Hp} : ∀ {ds : List PyData} {vs : List V}, All2 (cD.rp K F) ds vs → DpAll K F vs ds
  | [], [], _ => .nil
  | _ :: _, _ :: _, ⟨a, b⟩ => .cons a (all2_dpall b)
  | [], _ :: _, z => z.elim
  | _ :: _, [], z => z.elim
section
variable {X : Cx} {B : Bs} {Z : Zt} {Γ : List Bd} {P : List Bd → Bd → Prop} {a b e : Expr} {pos p : Pos} {k : Nat} {α β : Type} {c : Cd α} {d : Cd β}
/-- a number as a test -/
theorem et_int {P : List Bd → Bool → Prop} (h : EV X B e Γ (fun Γ1 b1 => ∃ i, b1 = va cInt i ∧ P Γ1 (i != 0))) (he : ∀ whole, isTrue e X.env whole = (do let v ← whole; standAt e.pos; holding [v] (truthy v)) := by intro _; rfl) : ET X B e Γ P := fun t σ H Q s q => by
  refine wp_of_pt (pt_truth pe_wp he) ?_
  refine h t σ H _ s fun Γ1 b1 ⟨i, e1, p⟩ v H1 s1 => ?_
  subst e1
  have s2 := s1
  obtain ⟨F, own, wd, hS, ⟨v', ev, rv⟩, hT⟩ := s1
  cases ev
  cases (show v = V.int i from rv)
  exact ⟨_, rfl, q _ _ p _ s2.drop⟩
theorem tm_int {m : Res Int} (h : XM X B Z e Γ cInt m) (he : ∀ whole, isTrue e X.env whole = (do let v ← whole; standAt e.pos; holding [v] (truthy v)) := by intro _; rfl) : TM X B Z e Γ (m >>= fun i => .ok (i != 0)) := fun P g => et_int (h _ (good_imp (good_bind g) fun i p => ⟨i, rfl, p⟩)) he
theorem cmp_isDB : Cmp X B .Is rIsB cD cBool isDB := ⟨op_isBl, fun x y z h => by
  intro F own H v w Q wd hv hw q
  cases x with
  | bool a =>
    cases h
    cases (show v = V.bl a from by cases (show Dp _ _ v (.bool a) from hv); rfl)
    exact ⟨a, y, rfl, hw, q F H _ wd (Same.rfl' F) (Same.rfl' H) rfl⟩
  | _ => cases h⟩
theorem ev_asL (h : EV X B e Γ (fun Γ1 b1 => ∃ d, b1 = va cD d ∧ ∃ ds, asL d = some ds ∧ P Γ1 (va (cLst cD) ds))) : EV X B e Γ P := fun t σ H Q s q => h t σ H Q s fun Γ1 b1 ⟨d, e1, ds, hi, g⟩ v H1 s1 => by
  subst e1
  refine q _ _ g v H1 (Sat.cast (b := va cD d) (b' := va (cLst cD) ds) (fun F H f' ⟨v', e, r⟩ => ⟨v', e, ?_⟩) s1)
  cases d with
  | list es =>
    cases hi
    have r' : Dp _ _ v' (.list ds) := r
    cases r' with
    | lst h1 h2 => exact ⟨_, _, rfl, h1, dp_all h2⟩
  | _ => cases hi
theorem xm_asL {m : Res PyData} (h : XM X B Z e Γ cD m) : XM X B Z e Γ (cLst cD) (m >>= fun d => lift (asL d)) := fun P g => ev_asL (h _ (good_imp (good_bind g) fun d gd => ⟨d, rfl, good_lift gd⟩))
theorem lop_inDO (y : PyData) (xs : List PyData) (z : Bool) (h : inDO y xs = some z) : LOp2 X B (rInD X.K) cD cD cBool y xs z := fun F own H v a vs Q wd hv h1 h2 q => by
  unfold inDO at h
  split at h
  · rename_i hs
    obtain ⟨s1, s2⟩ := Bool.and_eq_true_iff.mp hs
    cases h
    exact ⟨y, xs, cD.up wd.fh hv, .lst h1 (all2_dpall (h2.imp fun _ _ => cD.up wd.fh)), s1, s2, q F H _ wd (Same.rfl' F) (Same.rfl' H) rfl⟩
  · cases h
theorem lop_notInDO (y : PyData) (xs : List PyData) (z : Bool) (h : notInDO y xs = some z) : LOp2 X B (rNotInD X.K) cD cD cBool y xs z := fun F own H v a vs Q wd hv h1 h2 q => by
  unfold notInDO inDO at h
  split at h
  · rename_i hs
    obtain ⟨s1, s2⟩ := Bool.and_eq_true_iff.mp hs
    cases h
    exact ⟨y, xs, cD.up wd.fh hv, .lst h1 (all2_dpall (h2.imp fun _ _ => cD.up wd.fh)), s1, s2, q F H _ wd (Same.rfl' F) (Same.rfl' H) rfl⟩
  · cases h
theorem xm_inDO {m : Res PyData} {m' : Res (List PyData)} (O : Ok X B Z k) (ha : XM X B Z a Γ cD m) (hb : XL X B Z b Γ cD m') (hm : behindInMarks .In b = false := by rfl) : XM X B Z (.Compare a [.In] [b] pos) Γ cBool (m >>= fun x => m' >>= fun xs => lift (inDO x xs)) :=
  xm_lop2 (k := inDO) (fun _ _ ha hb => pe_cmpR (op_inD (room65 O.room)) ha hb hm) lop_inDO ha hb
theorem tm_inDO {m : Res PyData} {m' : Res (List PyData)} (O : Ok X B Z k) (ha : XM X B Z a Γ cD m) (hb : XL X B Z b Γ cD m') (hm : behindInMarks .In b = false := by rfl) : TM X B Z (.Compare a [.In] [b] pos) Γ (m >>= fun x => m' >>= fun xs => lift (inDO x xs)) :=
  tm_lop2 (k := inDO) (op_inD (room65 O.room)) lop_inDO ha hb hm
theorem xm_notInDO {m : Res PyData} {m' : Res (List PyData)} (O : Ok X B Z k) (ha : XM X B Z a Γ cD m) (hb : XL X B Z b Γ cD m') (hm : behindInMarks .NotIn b = false := by rfl) : XM X B Z (.Compare a [.NotIn] [b] pos) Γ cBool (m >>= fun x => m' >>= fun xs => lift (notInDO x xs)) :=
  xm_lop2 (k := notInDO) (fun _ _ ha hb => pe_cmpR (op_notInD (room65 O.room)) ha hb hm) lop_notInDO ha hb
theorem tm_notInDO {m : Res PyData} {m' : Res (List PyData)} (O : Ok X B Z k) (ha : XM X B Z a Γ cD m) (hb : XL X B Z b Γ cD m') (hm : behindInMarks .NotIn b = false := by rfl) : TM X B Z (.Compare a [.NotIn] [b] pos) Γ (m >>= fun x => m' >>= fun xs => lift (notInDO x xs)) :=
  tm_lop2 (k := notInDO) (op_notInD (room65 O.room)) lop_notInDO ha hb hm
end
end T
set_option maxHeartbeats 2000000
namespace T
open PySem PySem.Spec PyProof.Rows L2
section
variable {X : Cx} {B : Bs} {Z : Zt} {Γ : List Bd} {P : List Bd → Bd → Prop} {a b e : Expr} {pos p : Pos} {k : Nat} {α β : Type} {c : Cd α} {d : Cd β}
/-- -i, of a value with a state -/
theorem ev_negI (h : EV X B a Γ (fun Γ1 b1 => ∃ i, b1 = va cInt i ∧ P Γ1 (va cInt (-i)))) : EV X B (.UnaryOp .USub a pos) Γ P :=
  ev_op1 (ca := cInt) (cc := cInt) (k := fun i => some (-i)) (fun _ => pe_un un_neg) (fun i z h F own H v Q wd hv q => by
    cases h
    exact ⟨i, hv, q F H _ wd (Same.rfl' F) (Same.rfl' H) rfl⟩) (h.mono fun Γ1 b1 ⟨i, e, q⟩ => ⟨i, e, -i, rfl, q⟩)
end
end T
set_option maxHeartbeats 2000000
namespace T
open PySem PySem.Spec PyProof.Rows L2
/-! ## four at once -/
def cQd {α β γ δ : Type} (c : Cd α) (d : Cd β) (f : Cd γ) (g : Cd δ) : Cd (α × β × γ × δ) := ⟨fun K F p v => ∃ a x y z u, v = .ref a ∧ SqT K F a [x, y, z, u] ∧ c.rp K F p.1 x ∧ d.rp K F p.2.1 y ∧ f.rp K F p.2.2.1 z ∧ g.rp K F p.2.2.2 u,
  fun s ⟨a, x, y, z, u, e, h, r, q, t, w⟩ => ⟨a, x, y, z, u, e, seqT_up s h, c.up s r, d.up s q, f.up s t, g.up s w⟩⟩
section
variable {X : Cx} {B : Bs} {Z : Zt} {Γ : List Bd} {P : List Bd → Bd → Prop} {a b e : Expr} {es : List Expr} {pos p : Pos} {k : Nat} {α β γ δ : Type} {c : Cd α} {d : Cd β} {f : Cd γ} {g : Cd δ}
theorem ev_qd {x1} (h : EA X B es Γ (fun Γ1 as => ∃ x y z u, as = [.tmp (va c x), .tmp (va d y), .tmp (va f z), .tmp (va g u)] ∧ P Γ1 (va (cQd c d f g) (x, y, z, u)))) : EV X B (.Tuple es x1 pos) Γ P := by
  intro t σ H Q s q
  refine wp_of_pe (pe_tup pa_wp) ?_
  refine h t σ H _ s fun Γ1 as ⟨x, y, z, u, e1, p⟩ vs H1 t' ha s1 => ?_
  subst e1
  obtain ⟨F, own, wd, hS, hT⟩ := s1
  cases ha with
  | tmp ha => cases ha with
    | tmp ha => cases ha with
      | tmp ha => cases ha with
        | tmp ha =>
          cases ha
          rename_i v1 v2 v3 v4
          obtain ⟨⟨w4, e4, r4⟩, ⟨w3, e3, r3⟩, ⟨w2, e2, r2⟩, ⟨w1, e1, r1⟩, hT'⟩ := hT
          cases e1
          cases e2
          cases e3
          cases e4
          refine ⟨(by show 4 ≤ sizeLine; decide), fun q0 hq => q _ _ p _ _ ?_⟩
          have sF : Same F (upd F q0 (.tup [v1, v2, v3, v4])) := Same.newH (wd.none_F hq)
          exact push_tup wd hS hT' hq ⟨q0, v1, v2, v3, v4, rfl, .of upd_same, c.up sF r1, d.up sF r2, f.up sF r3, g.up sF r4⟩
end
section
variable {X : Cx} {B : Bs} {Z : Zt} {Γ : List Bd} {P : List Bd → Prop} {e1 e2 e3 e4 : Expr} {pos : Pos} {k : Nat} {j1 j2 j3 j4 : List Nat}
theorem nct {a b : List Nat} {j : Nat} (h : (a ++ b).contains j = false) : a.contains j = false ∧ b.contains j = false := by
  rw [List.contains_eq_any_beq, List.any_append, Bool.or_eq_false_iff, ← List.contains_eq_any_beq, ← List.contains_eq_any_beq] at h
  exact h
theorem eg_quad {α β γ δ : Type} {c : Cd α} {d : Cd β} {f : Cd γ} {g : Cd δ} {p : α × β × γ × δ} {x1} (O : Ok X B Z k) (h : EG X B j1 e1 Γ (va c p.1) (fun Γ1 => EG X B j2 e2 Γ1 (va d p.2.1) (fun Γ2 => EG X B j3 e3 Γ2 (va f p.2.2.1) (fun Γ3 => EG X B j4 e4 Γ3 (va g p.2.2.2) P))))
    (hn : (assignEach [e1, e2, e3, e4] X.env).length = 4 := by rfl) (hst : (assignEach [e1, e2, e3, e4] X.env).findIdx? (·.1) = none := by rfl)
    (hs : (assignEach (e1 :: [e2, e3, e4]) X.env).map (·.2) = assign e1 X.env :: (assignEach [e2, e3, e4] X.env).map (·.2) := by rfl) (hs' : (assignEach (e2 :: [e3, e4]) X.env).map (·.2) = assign e2 X.env :: (assignEach [e3, e4] X.env).map (·.2) := by rfl)
    (hs2 : (assignEach (e3 :: [e4]) X.env).map (·.2) = assign e3 X.env :: (assignEach [e4] X.env).map (·.2) := by rfl) (hs3 : (assignEach (e4 :: []) X.env).map (·.2) = assign e4 X.env :: (assignEach [] X.env).map (·.2) := by rfl) :
    EG X B (j1 ++ (j2 ++ (j3 ++ j4))) (.Tuple [e1, e2, e3, e4] x1 pos) Γ (va (cQd c d f g) p) P := by
  intro t σ H v Q pn s q
  obtain ⟨F, own, wd, hS, ⟨v', ev, a, x, y, z, u, e0, h1, r1, r2, r3, r4⟩, hT⟩ := s
  cases ev
  refine wp_of_pg (pg_tup O.calm (pgs_cons pg_wp (pgs_cons pg_wp (pgs_cons pg_wp (pgs_cons pg_wp pgs_nil hs3) hs2) hs') hs) hn hst) ⟨a, [x, y, z, u], e0, seqT_up wd.fh h1, rfl, x, [y, z, u], rfl, ?_⟩
  have s1 : Sat X.K B ((x, va c p.1) :: (y, va d p.2.1) :: (z, va f p.2.2.1) :: (u, va g p.2.2.2) :: t) σ Γ H := ⟨F, own, wd, hS, ⟨x, rfl, r1⟩, ⟨y, rfl, r2⟩, ⟨z, rfl, r3⟩, ⟨u, rfl, r4⟩, hT⟩
  refine h _ σ H x _ pn s1 fun Γ1 hg σ1 H1 d1 pn1 s2 => ⟨y, [z, u], rfl, ?_⟩
  refine hg _ σ1 H1 y _ pn1 s2 fun Γ2 hg2 σ2 H2 d2 pn2 s3 => ⟨z, [u], rfl, ?_⟩
  refine hg2 _ σ2 H2 z _ pn2 s3 fun Γ3 hg3 σ3 H3 d3 pn3 s4 => ⟨u, [], rfl, ?_⟩
  refine hg3 t σ3 H3 u _ pn3 s4 fun Γ4 p4 σ4 H4 d4 pn4 s5 => ⟨rfl, q _ p4 σ4 H4 ⟨d4.1.trans (d3.1.trans (d2.1.trans d1.1)), fun j hj => ?_⟩ pn4 s5⟩
  have a1 := nct hj
  have a2 := nct a1.2
  have a3 := nct a2.2
  exact (d4.2 j a3.2).trans ((d3.2 j a3.1).trans ((d2.2 j a2.1).trans (d1.2 j a1.1)))
end
end T
set_option maxHeartbeats 2000000
namespace T
section
open PySem PySem.Spec PyProof.Rows PySem.SeqAt
variable {M : Model} {prog : Program} {w : World} {A : Around} {E : Value → Shared → Prop} {s : Shared} {K : PySem.W.Frag} {x C f : Addr} {ox : Obj} {od : Option Obj}
/-! ## x != y of an own class that has __eq__ alone -/
theorem ifBound_objNe {args : List Value} {Q : Option Value → Shared → Prop} (X : K.In s.heap) (I : PySem.W.InstAt s.heap x ox C od) (hs : PySem.W.findIn K (.ref C) "__ne__" = some (some (.builtin "object.__ne__")))
    (h : wpAny M A (call (.builtin "object.__ne__") (.ref x :: args)) (fun v => Q (some v)) E s) : wpAny M A (callSpecialIfBound? (.ref x) "__ne__" args) Q E s := by
  simp only [callSpecialIfBound?, bindSpecialIfBound?]
  refine wpAny_holding (wpAny_bind (wpAny_bind (wpAny_bind (I.type.here ((PySem.W.looks_findIn X hs).here ?_)))))
  refine wpAny_bind (wpAny_askSetting (wpAny_ite ?_))
  have fin : wpAny M A (call (.builtin "object.__ne__") ([.ref x] ++ args) >>= fun v => pure (some v)) Q E s := wpAny_bind (wpAny_mono h (fun v s' h' => wpAny_pure h') fun _ _ h' => h')
  split
  · exact wpAny_bind (wpAny_of_eq (F.cmp_object.ne.bind _) (wpAny_pure (by exact fin)))
  · exact wpAny_tryCatch (wpAny_bind (wpAny_of_eq (F.cmp_object.ne.bind _) (wpAny_pure (by exact fin))))
theorem entry_objNe {b : Value} {Q : Fin → Shared → Prop} (hu : A.units < cLine) (X : K.In s.heap) (I : PySem.W.InstAt s.heap x ox C od) (hs : PySem.W.findIn K (.ref C) "__eq__" = some (some (.ref f))) (hf : PySem.W.isFn K (.ref f) = true)
    (hcall : wpAny (model prog w) A (call (.ref f) [.ref x, b]) (fun v s' => ∃ k, v = .bool k ∧ Q (.done (.ret (.bool (!k)))) s') E s) : wpAny (model prog w) A (Builtin.«object.__ne__» ⟨[.ref x, b], []⟩) Q E s := by
  unfold Builtin.«object.__ne__»
  repeat (first
    | with_reducible refine wpAny_cRoomFor hu ?_
    | (refine wpAny_bind (m := callSpecialIfBound? (.ref x) (Str.ofString "__eq__") [b])
        (PySem.W.ifBound_K X I hs hf (wpAny_mono hcall (fun r s' hr => by
          obtain ⟨b, rfl, hq⟩ := hr
          repeat (first | exact hq | exact wpAny_pure hq | exact wpAny_truthy_bool hq | (refine wpAny_bind (m := truthy (.bool _)) (wpAny_truthy_bool ?_)) | wp_step)) fun _ _ e => e)))
    | wp_step)
theorem call_objNe {b : Value} {Q : Value → Shared → Prop} (hu : A.units + 1 < cLine) (X : K.In s.heap) (I : PySem.W.InstAt s.heap x ox C od) (hm : PySem.W.mroIn K C (.type "object") = some true) (hs : PySem.W.findIn K (.ref C) "__eq__" = some (some (.ref f))) (hf : PySem.W.isFn K (.ref f) = true)
    (hcall : wpAny (model prog w) A.in1 (call (.ref f) [.ref x, b]) (fun v s' => ∃ k, v = .bool k ∧ Q (.bool (!k)) s') E s) : wpAny (model prog w) A (call (.builtin "object.__ne__") [.ref x, b]) Q E s :=
  wpAny_call (codeAny_call_builtin F.cmp_object.ne.plain F.cmpEntry_ne (PySem.W.check_slot F.cmpKind_ne F.cmpSplit_ne (I.type.andThen (PySem.W.looks_mroIn X hm)) (F.cmpArgs_ne _ _) (entry_objNe (A := A.in1) hu X I hs hf hcall)))
theorem ne_K {b tb : Value} {Q : Value → Shared → Prop} (hu : A.units + 1 < cLine) (X : K.In s.heap) (I : PySem.W.InstAt s.heap x ox C od) (hb : PySem.W.Looks (model prog w) s.heap (typeOf b) tb) (hn : PySem.W.notFirst K C tb = true)
    (hm : PySem.W.mroIn K C (.type "object") = some true) (hne : PySem.W.findIn K (.ref C) "__ne__" = some (some (.builtin "object.__ne__"))) (hs : PySem.W.findIn K (.ref C) "__eq__" = some (some (.ref f))) (hf : PySem.W.isFn K (.ref f) = true)
    (h : wpAny (model prog w) A.in1 (call (.ref f) [.ref x, b]) (fun v s' => ∃ k, v = .bool k ∧ Q (.bool (!k)) s') E s) : wpAny (model prog w) A (richCompare .NotEq (.ref x) b) Q E s := by
  have one : wpAny (model prog w) A (tryCompare (.ref x) "__ne__" b) (fun r s' => ∃ v, r = some v ∧ Q v s') E s := by
    unfold tryCompare
    refine wpAny_bind (ifBound_objNe X I hne (call_objNe hu X I hm hs hf (wpAny_mono h (fun v s' hv => ?_) fun _ _ e => e)))
    obtain ⟨k, e, hq⟩ := hv
    exact ⟨k, e, wpAny_pure ⟨_, rfl, hq⟩⟩
  unfold richCompare
  simp only [oneThing_ref]
  refine wpAny_holding (wpAny_bind (wpAny_cRoomFor (Nat.lt_of_succ_lt hu) ?_))
  refine wpAny_bind (I.type.here (wpAny_bind (hb.here ?_)))
  split
  · rename_i q
    have e : PySem.W.subIn K tb (.ref C) = some false := by
      rcases Bool.or_eq_true_iff.mp hn with e | e
      · rw [beq_iff_eq.mp e] at q; simp at q
      · exact beq_iff_eq.mp e
    refine wpAny_bind ((PySem.W.looks_subIn X e).here ?_)
    simp only [Bool.false_eq_true, if_false]
    refine wpAny_bind (wpAny_mono one (fun r s' z => ?_) fun _ _ e => e)
    obtain ⟨v, rfl, hq⟩ := z
    exact wpAny_pure hq
  · refine wpAny_bind (wpAny_pure ?_)
    simp only [Bool.false_eq_true, if_false]
    refine wpAny_bind (wpAny_mono one (fun r s' z => ?_) fun _ _ e => e)
    obtain ⟨v, rfl, hq⟩ := z
    exact wpAny_pure hq
end
section
open PySem PySem.Spec PyProof.Rows L2
variable {X : Cx} {B : Bs} {Z : Zt} {Γ : List Bd} {P : List Bd → Bd → Prop} {a b e : Expr} {pos p : Pos} {k j : Nat} {α β : Type} {c : Cd α} {d : Cd β} {C : Addr}
def rNeI (C : Addr) (sp : Sp) : R2 := fun x y H Q => ∃ a b dx dy fs gs, x = .ref a ∧ y = .ref b ∧ H a = some (.ins C dx fs) ∧ H b = some (.ins C dy gs) ∧ sp [.ref a, .ref b] H (fun v H' => ∃ r, v = V.bl r ∧ Q (.bl (!r)) H') (fun _ _ _ => False)
theorem op_neI {f : Addr} {fd : FuncData} {ps : List Str} {sp : Sp} (F : FnOk X.prog X.w X.K X.mg X.base (L2.CX X.prog X.w) k f fd ps sp) (hs : PySem.W.findIn X.K (.ref C) "__eq__" = some (some (.ref f))) (hf : PySem.W.isFn X.K (.ref f) = true) (hb : Binds X.K fd ps []) (hr : Room (k + 1) X.A) (hi : IsaC X.K C) :
    OpR X (compareOp .NotEq) (rNeI C sp) := by
  intro pins s σ H x y v u Q I rx ry h
  obtain ⟨a, b, dx, dy, fs, gs, rfl, rfl, ha, hb', hsp⟩ := h
  cases rx
  cases ry
  obtain ⟨mA, J, _⟩ := ins_get I.hok ha
  obtain ⟨mB, J', _⟩ := ins_get I.hok hb'
  obtain ⟨od, J, _⟩ := J.look
  obtain ⟨od', J', _⟩ := J'.look
  show wpAny (model X.prog X.w) X.A (richCompare .NotEq (.ref a) (.ref b)) (EP X pins σ Q) X.xe s
  refine ne_K (tb := .ref C) (by have := hr.units; omega) I.kIn J J'.type (by simp [PySem.W.notFirst]) hi.hm hi.ne hs hf ?_
  have hl := F.len _ _ _ _ hsp
  have r2 : Vals [V.ref a, V.ref b] [Value.ref a, Value.ref b] := .cons rfl (.cons rfl .nil)
  refine wpAny_call (codeAny_mono (F.run X.A.in1 X.stack s H ⟨[.ref a, .ref b], []⟩ [.ref a, .ref b] [.ref a, .ref b] _ _ hr.in1 I.env0.in1 (by
    have := hb s [.ref a, .ref b] I.kIn (by simpa using hl)
    simpa using this) r2 hsp) fun r s' hq => ?_)
  cases r with
  | error e =>
    obtain ⟨_, _, _, _, _, _, _, _, _, _, _, _, z⟩ := hq
    exact z.elim
  | ok fl =>
    cases fl with
    | ret w =>
      obtain ⟨z, H', I', rz, qz⟩ := I.after hq
      obtain ⟨r, e, q⟩ := qz
      subst e
      cases rz
      exact ⟨r, rfl, .bl (!r), H', I', rfl, q⟩
    | next => exact False.elim hq
    | brk => exact False.elim hq
    | cont => exact False.elim hq
theorem ev_neI {S : Fn (α × α × Unit) Bool} (O : Ok X B Z j) (hc : Inst C c) (hH : HasE X.prog X.w X.K X.mg X.base C k S) (hi0 : IsaC X.K C) (hi : ∀ x, S.ins x = [va c x.1, va c x.2.1]) (ho : ∀ x r, (S.outs x r).length = (S.ins x).length) (hr : ∀ x r, S.ret x r = va cBool r)
    (h : EV X B a Γ (fun Γ1 b1 => ∃ x, b1 = va c x ∧ EV X B b Γ1 (fun Γ2 b2 => ∃ y, b2 = va c y ∧ good (S.m (x, y, ())) (fun r => P Γ2 (va cBool (!r))) (fun _ => False)))) (hkj : k + 1 ≤ j := by decide) (hm : behindInMarks .NotEq b = false := by first | exact nomark _ | rfl) :
    EV X B (.Compare a [.NotEq] [b] pos) Γ P := by
  obtain ⟨f, fd, ps, hs, hf, G, hb⟩ := hH
  intro t σ H Q s q
  refine wp_of_pe (pe_cmpR (op_neI G hs hf hb (O.room.mono hkj) hi0) pe_wp pe_wp hm) ?_
  refine h t σ H _ s fun Γ1 b1 ⟨x, e1, h1⟩ v H1 s1 => ?_
  subst e1
  refine h1 _ σ H1 _ s1 fun Γ2 b2 ⟨y, e2, g⟩ w H2 s2 => ?_
  subst e2
  have s3 := s2
  obtain ⟨F, own, wd, hS, ⟨w', ew, rw'⟩, ⟨v', ev, rv⟩, hT⟩ := s3
  cases ew
  cases ev
  obtain ⟨a1, d1, f1, e3, hF1⟩ := hc _ _ _ _ rv
  obtain ⟨a2, d2, f2, e4, hF2⟩ := hc _ _ _ _ rw'
  subst e3 e4
  refine ⟨a1, a2, d1, d2, f1, f2, rfl, rfl, wd.fh _ _ hF1, wd.fh _ _ hF2, ?_⟩
  have cc := call_core (Z := ZF) (Γ1 := Γ2) (as := [.tmp (va c x), .tmp (va c y)]) (x := (x, y, ())) (P := fun Γ' b' => ∃ r, b' = va cBool r ∧ P Γ2 (va cBool (!r)) ∧ Γ' = Γ2) (Q := fun x H' => ∃ r, x = V.bl r ∧ Q (.bl (!r)) H') (O.monoZ fun _ _ z => z.elim) (W := fun _ _ _ _ => False) (fun _ _ z => z.elim) (.tmp (.tmp .nil)) s2 (by rw [hi]; rfl) List.nodup_nil (ho _) (by
    refine good_mono g (fun r p => ?_) fun ex z => z.elim
    rw [hr]
    exact ⟨r, rfl, p, back_tmp (bs := [va c x, va c y])⟩) (fun Γ' b' ⟨r, eb, p, e⟩ v' H' s' => by
      subst eb e
      have s4 := s'
      obtain ⟨F4, own4, wd4, hS4, ⟨v4, e4, r4⟩, hT4⟩ := s4
      cases e4
      have r5 : v' = V.bl r := r4
      exact ⟨r, r5, q _ _ p _ H' (Sat.push wd4 hS4 hT4 rfl)⟩)
  exact cc
theorem xm_neI {S : Fn (α × α × Unit) Bool} {ma mb : Res α} (O : Ok X B Z j) (hc : Inst C c) (hH : HasE X.prog X.w X.K X.mg X.base C k S) (hi0 : IsaC X.K C) (ha : XM X B Z a Γ c ma) (hb : XM X B Z b Γ c mb) (hi : ∀ x, S.ins x = [va c x.1, va c x.2.1] := by intro _; rfl) (ho : ∀ x r, (S.outs x r).length = (S.ins x).length := by intro _ _; rfl) (hr : ∀ x r, S.ret x r = va cBool r := by intro _ _; rfl)
    (hkj : k + 1 ≤ j := by decide) (hm : behindInMarks .NotEq b = false := by first | exact nomark _ | rfl) : XM X B Z (.Compare a [.NotEq] [b] pos) Γ cBool (ma >>= fun x => mb >>= fun y => noX (S.m (x, y, ())) >>= fun r => .ok (!r)) := fun P g =>
  ev_neI O hc hH hi0 hi ho hr (ha _ (good_imp (good_bind g) fun x gx => ⟨x, rfl, hb _ (good_imp (good_bind gx) fun y gy => ⟨y, rfl, good_noX (good_bind gy)⟩)⟩)) hkj hm
end
end T
set_option maxHeartbeats 2000000
namespace T
section
open PySem PySem.Spec PyProof.Rows
variable {prog : Program} {w : World} {A : Around} {E : Value → Shared → Prop} {s : Shared}
/-! ## a list unpacked -/
theorem draw_list {it t : Addr} {items : Array Value} (hne : t ≠ it) : ∀ (n i : Nat) (s : Shared) (Q : List Value → Shared → Prop), s.heap.IsListIter it t i → s.heap.IsList t items → i + n ≤ items.size →
    (∀ h', h'.IsListIter it t (i + n) → Heap.SameBut it s.heap h' → Q ((items.toList.drop i).take n) { s with heap := h' }) → wpAny (model prog w) A (draw (.ref it) n) Q E s
  | 0, i, s, Q, hit, _, _, hQ => by
    show wpAny _ _ (pure []) Q E s
    exact wpAny_pure (by simpa using hQ s.heap hit (Heap.SameBut.refl ..))
  | n + 1, i, s, Q, hit, ht, hle, hQ => by
    have hlt : i < items.size := by omega
    show wpAny _ _ (pyNext (.ref it) >>= _) Q E s
    refine wpAny_bind (wpAny_pyNext_list_item hit ht (x := items[i]) (by simp [hlt]) fun h₁ hit₁ hs₁ => ?_)
    refine wpAny_bind (wpAny_holding (draw_list hne n (i + 1) _ _ hit₁ (ht.extBut hs₁.extBut hne) (by omega) fun h₂ hit₂ hs₂ => wpAny_pure ?_))
    have hd : items.toList.drop i = items[i] :: items.toList.drop (i + 1) := by simp [List.drop_eq_getElem_cons, hlt]
    have := hQ h₂ (by rw [show i + (n + 1) = i + 1 + n by omega]; exact hit₂) (hs₁.trans hs₂)
    rw [hd, List.take_succ_cons] at this
    exact this
theorem unpackItems_list {t : Addr} {items : Array Value} {Q : List Value → Shared → Prop} (hh : A.handled = none) (ht : s.heap.IsList t items)
    (hQ : ∀ h', Heap.ExtBut s.heap.objs.size s.heap h' → Q items.toList { s with heap := h' }) : wpAny (model prog w) A (unpackItems (.ref t) items.size none) Q E s := by
  have hlt : t ≠ s.heap.objs.size := by obtain ⟨o, ho, _⟩ := ht; exact Nat.ne_of_lt (Heap.lt_size ho)
  unfold unpackItems
  refine wpAny_bind ?_
  · unfold notIterableAtAll
    refine wpAny_bind (wpAny_specialOf ht.typeIs slot_list_iter.lookup ?_)
    refine wpAny_pure ?_
    simp only [Bool.false_eq_true, if_false]
    refine wpAny_bind (wpAny_holding (wpAny_pyIter_list ht ?_))
    refine wpAny_bind (wpAny_holding (draw_list hlt items.size 0 _ _ ⟨_, Heap.get?_push_size _ rfl, rfl, rfl⟩ (ht.push _) (by omega) fun h₁ hit₁ hs₁ => ?_))
    have hall : List.take items.size (List.drop 0 items.toList) = items.toList := by
      rw [List.drop_zero]; exact List.take_of_length_le (by simp)
    rw [hall]
    rw [if_neg (by simp)]
    have ht₁ : h₁.IsList t items := (ht.push _).extBut hs₁.extBut hlt
    refine wpAny_bind (wpAny_holding (wpAny_pyNext_list_end hh hit₁ ht₁ (by simp) fun h₂ he₂ => ?_))
    simp only [Option.isSome_none, Bool.false_eq_true, if_false]
    refine wpAny_pure (hQ h₂ fun b o hb e => he₂ b o hb (hs₁.extBut b o hb (Heap.get?_push_of_some _ e)))
theorem unpack_list {t : Addr} {items : Array Value} {targets : List (Bool × (Value → Sem Unit))} {Q : Unit → Shared → Prop} (hh : A.handled = none) (ht : s.heap.IsList t items)
    (hn : targets.length = items.size) (hstar : targets.findIdx? (·.1) = none)
    (h : ∀ h', Heap.ExtBut s.heap.objs.size s.heap h' → wpAny (model prog w) A (assignInOrder (targets.map (·.2)) items.toList) Q E { s with heap := h' }) :
    wpAny (model prog w) A (unpack (.ref t) targets) Q E s := by
  unfold unpack
  rw [hn, hstar]
  exact wpAny_bind (wpAny_holding (unpackItems_list hh ht h))
theorem assign_Tuple_list {env : Env} {elts : List Expr} {x1} {pos : Pos} {t : Addr} {items : Array Value} {Q : Unit → Shared → Prop} (hh : A.handled = none) (ht : s.heap.IsList t items)
    (hn : (assignEach elts env).length = items.size) (hstar : (assignEach elts env).findIdx? (·.1) = none)
    (h : ∀ h', Heap.ExtBut s.heap.objs.size s.heap h' → wpAny (model prog w) A (assignInOrder ((assignEach elts env).map (·.2)) items.toList) Q E { s with heap := h' }) :
    wpAny (model prog w) A (assign (.Tuple elts x1 pos) env (.ref t)) Q E s := by
  rw [assign_Tuple]
  exact wpAny_bind (wpAny_standAt (unpack_list hh ht hn hstar h))
end
section
open PySem PySem.Spec PyProof.Rows L2
variable {X : Cx} {pos : Pos}
def gLst (K : PySem.W.Frag) (n : Nat) (t : TGs) : TG := fun v σ H Q => ∃ a xs, v = .ref a ∧ SqL K H a xs ∧ xs.length = n ∧ t xs σ H Q
theorem pg_lst {es : List Expr} {k : Nat} {t : TGs} {n : Nat} (hc : X.calm = true) (h : PGs X es t)
    (hn : (assignEach es X.env).length = n := by rfl) (hst : (assignEach es X.env).findIdx? (·.1) = none := by rfl) : PG X (.Tuple es k pos) (gLst X.K n t) := by
  refine ⟨fun pins s σ H v u Q I r hw => ?_⟩
  obtain ⟨a, xs, e1, hq, hl, hw⟩ := hw
  subst e1
  cases r
  obtain ⟨its, rv, ⟨o, n1, e, c1, _, d1⟩, hz⟩ := I.list hq
  refine assign_Tuple_list (items := its.toArray) (I.ok.hd hc) ⟨o, e, c1, n1, d1⟩ (by simp [hn, ← hl, rv.length]) hst fun h' hx => ?_
  have I1 : Inv X pins σ H { s with heap := h' } := I.kept (t' := s.toks) fun b o e => hx b o (Nat.ne_of_lt (Heap.lt_size e)) e
  exact h.run pins _ σ H xs _ Q I1 (by simpa using rv) hw
end
/-- the two entries of a list of two -/
def twoO {α : Type} : List α → Option (α × α)
  | [a, b] => some (a, b)
  | _ => none
section
open PySem PySem.Spec PyProof.Rows L2
variable {X : Cx} {B : Bs} {Z : Zt} {Γ : List Bd} {P : List Bd → Prop} {e e' : Expr} {pos : Pos} {k : Nat} {js js' : List Nat} {α : Type} {c : Cd α}
theorem eg_twoL {xs : List α} {p : α × α} {x1} (O : Ok X B Z k) (hp : twoO xs = some p) (h : EG X B js e Γ (va c p.1) (fun Γ1 => EG X B js' e' Γ1 (va c p.2) P)) (hn : (assignEach [e, e'] X.env).length = 2 := by rfl) (hst : (assignEach [e, e'] X.env).findIdx? (·.1) = none := by rfl)
    (hs : (assignEach (e :: [e']) X.env).map (·.2) = assign e X.env :: (assignEach [e'] X.env).map (·.2) := by rfl) (hs' : (assignEach (e' :: []) X.env).map (·.2) = assign e' X.env :: (assignEach [] X.env).map (·.2) := by rfl) : EG X B (js ++ js') (.Tuple [e, e'] x1 pos) Γ (va (cLst c) xs) P := by
  match xs, hp with
  | [u1, u2], hp =>
    cases hp
    intro t σ H v Q pn s q
    obtain ⟨F, own, wd, hS, ⟨v', ev, a, vs, e1, h1, h2⟩, hT⟩ := s
    cases ev
    match vs, h2 with
    | [x, y], ⟨r1, r2, _⟩ =>
      refine wp_of_pg (pg_lst O.calm (pgs_cons pg_wp (pgs_cons pg_wp pgs_nil hs') hs) hn hst) ⟨a, [x, y], e1, seqL_up wd.fh h1, rfl, x, [y], rfl, ?_⟩
      have s1 : Sat X.K B ((x, va c u1) :: (y, va c u2) :: t) σ Γ H := ⟨F, own, wd, hS, ⟨x, rfl, r1⟩, ⟨y, rfl, r2⟩, hT⟩
      refine h _ σ H x _ pn s1 fun Γ1 hg σ1 H1 d1 pn1 s2 => ⟨y, [], rfl, ?_⟩
      refine hg t σ1 H1 y _ pn1 s2 fun Γ2 p2 σ2 H2 d2 pn2 s3 => ⟨rfl, q _ p2 σ2 H2 ⟨d2.1.trans d1.1, fun j hj => ?_⟩ pn2 s3⟩
      have hj' := nct hj
      exact (d2.2 j hj'.2).trans (d1.2 j hj'.1)
end
section
open PySem PySem.Spec PyProof.Rows L2
variable {X : Cx} {B : Bs} {Z : Zt} {Γ : List Bd} {Q : List Bd → Prop} {e ix : Expr} {pos pos' p p2 : Pos} {k : Nat} {α : Type} {c : Cd α}
/-- xs[i] = y, i with a state -/
theorem eg_itemE (i : Nat) {n : Str} {y : α} (O : Ok X B Z k) {xs0 : List α} (hΓ : Γ[i]? = some (ow (oLst c) xs0)) (h : EV X B ix Γ (fun Γ1 b1 => ∃ j, b1 = va cInt j ∧ ∃ xs ys, Γ1[i]? = some (ow (oLst c) xs) ∧ setI xs j y = some ys ∧ Q (Γ1.set i (ow (oLst c) ys)))) (hN : X.N[i]? = some n := by rfl)
    (hv : Vis X.env.scope n := by first | exact Or.inl rfl | exact Or.inr (Or.inl rfl) | exact Or.inr (Or.inr rfl)) (hd : (n == ("__debug__" : Str)) = false := by decide) (hcd : (n == ("__classdict__" : Str)) = false := by decide)
    (ha : ∀ v, assign (.Subscript (.Name n p) ix pos) X.env v = (do
      let ov ← holding [v] (eval (.Name n p) X.env)
      let iv ← holding [v, ov] (eval ix X.env)
      standAt pos
      holding [v, ov, iv] (setItem ov iv v)
      release [v, ov, iv] []) := by intro _; rfl) : EG X B [] (.Subscript (.Name n p) ix pos) Γ (va c y) Q := by
  intro t σ H v Q' pn s q
  have s0 := s
  obtain ⟨F0, own0, w0, hS0, _⟩ := s0
  obtain ⟨a0, ea, _⟩ := hS0.2 i _ hΓ
  refine wp_of_pg (pg_sub (pe_var hN hv hd hcd) pe_wp set_list ha) ⟨.ref a0, slot_some ea, ?_⟩
  refine h _ σ H _ s fun Γ1 b1 ⟨j, e1, xs, ys, g1, hs, hq⟩ w H1 s1 => ?_
  subst e1
  obtain ⟨F, own, wd, hS, ⟨w', ew, rw'⟩, ⟨v', ev, rv⟩, hT⟩ := s1
  cases ew
  cases ev
  obtain ⟨a, ea', h0, vs, h1, h2⟩ := hS.2 i _ g1
  rw [ea] at ea'
  cases ea'
  unfold setI at hs
  cases q0 : ixN xs.length j with
  | none =>
    rw [q0] at hs
    cases hs
  | some jj =>
    rw [q0] at hs
    cases hs
    refine ⟨a0, vs, j, jj, rfl, rw', h1, by rw [h2.length]; exact q0, q _ hq σ _ ⟨rfl, fun _ _ => rfl⟩ pn ?_⟩
    exact Sat.wrO wd hS hT ea h0 (List.getElem?_eq_some_iff.mp g1).1 (h2.set rv)
end
theorem nn_box {C : CA} : NonN (cBox C) := fun K F x v ⟨a, _, _, _, _, e, _⟩ e2 => by
  rw [e] at e2
  cases e2
section
open PySem PySem.Spec PyProof.Rows L2
variable {X : Cx} {B : Bs} {Γ : List Bd} {a b : Expr} {pos : Pos} {α β S : Type} {c : Cd α} {d : Cd β} {Zr : Exn → Prop} {Γs : S → List Bd}
/-- two values with a state, compared in part -/
theorem ts_cmpO {op : CmpOp} {r : R2} {k : α → β → Option Bool} {m : Res (α × S)} {m' : S → Res (β × S)} (C : Cmp X B op r c d k) (ha : XS X B Zr a Γ c Γs m) (hb : ∀ s, XS X B Zr b (Γs s) d Γs (m' s)) (hm : behindInMarks op b = false := by first | exact nomark _ | rfl) :
    TS X B Zr (.Compare a [op] [b] pos) Γ Γs (m >>= fun p => m' p.2 >>= fun q => lift (k p.1 q.1) >>= fun z => .ok (z, q.2)) := fun P g =>
  et_cmp C (ha _ (good_imp (good_bind g) fun p gp => ⟨p.1, rfl, hb p.2 _ (good_imp (good_bind gp) fun q gq => by
    obtain ⟨z, hz, gz⟩ := good_lift (good_bind gq)
    exact ⟨q.1, rfl, z, hz, gz⟩)⟩)) hm
end
/-! ## a list that is lent and stays -/
theorem bind_okI {α β : Type} {m : Res α} {k : α → Res β} {r : β} (h : (m >>= k) = .ok r) : ∃ x, m = .ok x ∧ k x = .ok r := by
  cases m with
  | ok x => exact ⟨x, rfl, h⟩
  | _ => cases h
theorem forC_rtI {α S ρ : Type} {f : α → S → Res (Ctl S ρ)} {Q : ρ → Prop} (hf : ∀ x s r, f x s = .ok (.rt r) → Q r) : ∀ {xs : List α} {s : S} {r : ρ}, forC xs s f = .ok (.rt r) → Q r
  | [], s, r, h => by
    unfold forC at h
    cases h
  | x :: xs, s, r, h => by
    unfold forC at h
    obtain ⟨c, hc, h⟩ := bind_okI h
    cases c with
    | nx s' => exact forC_rtI hf h
    | bk s' => cases h
    | rt r' =>
      cases h
      exact hf _ _ _ hc
/-! ## for over a list that is lent -/
section
open PySem PySem.Spec PyProof.Rows L2
variable {X : Cx} {B : Bs} {Z : Zt} {Γ : List Bd} {R : Rs} {tg it : Expr} {body : List Stmt} {pos : Pos} {js : List Nat} {k : Nat} {α S : Type} {cd : Cd α}
def FBg (X : Cx) (B : Bs) (js : List Nat) (tg : Expr) (body : List Stmt) (i : Nat) (c : Cd α) (xs : List α) (Γ : List Bd) (R : Rs) : Prop :=
  ∃ J : Nat → List Bd → Prop, (∃ Γ0, Wk Γ Γ0 ∧ J 0 Γ0) ∧ (∀ i x Γ', xs[i]? = some x → J i Γ' → EG X B js tg Γ' (va c x) (fun Γ2 => SB X B body Γ2 { R with nx := fun Γ3 => ∃ Γ4, Wk Γ3 Γ4 ∧ J (i + 1) Γ4, ct := fun Γ3 => ∃ Γ4, Wk Γ3 Γ4 ∧ J (i + 1) Γ4, bk := fun Γ3 => ∃ Γ4, Wk Γ3 Γ4 ∧ R.nx Γ4 })) ∧
    (∀ Γ', J xs.length Γ' → R.nx Γ') ∧ ∀ j Γ', J j Γ' → Γ'[i]? = Γ[i]?
theorem fbg_forS {i : Nat} {f : α → S → Res S} {xs : List α} {s0 : S} {Pk : S → Prop} {Zk : Exn → Prop} (Γs : S → List Bd) (g : good (forS xs s0 f) Pk Zk) (w : Wk Γ (Γs s0)) (hk : ∀ s, (Γs s)[i]? = Γ[i]?)
    (hb : ∀ x s (Pb : S → Prop), x ∈ xs → good (f x s) Pb Zk → EG X B js tg (Γs s) (va cd x) (fun Γ2 => SB X B body Γ2 { nx := fun Γ3 => ∃ s', Pb s' ∧ Wk Γ3 (Γs s'), ct := fun Γ3 => ∃ s', Pb s' ∧ Wk Γ3 (Γs s') })) (hn : ∀ s, Pk s → R.nx (Γs s)) : FBg X B js tg body i cd xs Γ R := by
  refine ⟨fun i Γ' => ∃ s, Γ' = Γs s ∧ good (forS (xs.drop i) s f) Pk Zk, ⟨_, w, s0, rfl, g⟩, fun i x Γ' hx ⟨s, e, gs⟩ => ?_, fun Γ' ⟨s, e, gs⟩ => ?_, fun j Γ' ⟨s, e, _⟩ => by rw [e]; exact hk s⟩
  · subst e
    rw [drop_cons hx] at gs
    refine (hb x s _ (List.mem_of_getElem? hx) (good_bind gs)).mono fun Γ2 h2 => h2.mono ⟨fun Γ3 ⟨s', p, w3⟩ => ⟨_, w3, s', rfl, p⟩, fun _ _ z => z.elim, fun _ z => z.elim, fun Γ3 ⟨s', p, w3⟩ => ⟨_, w3, s', rfl, p⟩⟩
  · subst e
    rw [List.drop_length] at gs
    exact hn s gs
theorem s1_forO {i : Nat} (O : Ok X B Z k) (hpin : B.pins.contains i = true) (h : IT X B tg it Γ (some i) cd (fun Γ1 xs => FBg X B js tg body i cd xs Γ1 R)) (hs : ∀ x, foldedSetIterable it X.env x = pure x := by intro _; rfl) : S1 X B (.For tg it body [] pos) Γ R := fun t σ H D pn s d => by
  obtain ⟨wi, h1, h2⟩ := h
  refine wp_of_ps (ps_for O.pass O.calm h1 pg_wp pss_wp hs) ?_
  refine h2 t σ H _ s fun Γ1 xs ⟨J, ⟨Γ0, w0, j0⟩, hb, hn, hk⟩ It H1 tm b v s1 hg W => ?_
  have gd : ∀ {j : Nat} {Γ' : List Bd} {σ' : L2.St}, J j Γ' → Pin B σ' → Gd (some i) b v Γ' σ' := fun j' pn' => ⟨(hk _ _ j').trans hg.1, by rw [pn' i hpin, ← pn i hpin]; exact hg.2⟩
  refine ⟨fun i m σ' H' => m = xs.length - i ∧ i ≤ xs.length ∧ ∃ Γ', J i Γ' ∧ Pin B σ' ∧ Sat X.K B (tm ++ t) σ' Γ' H', ⟨xs.length, by simp, Nat.zero_le _, Γ0, j0, pn, s1.wk w0⟩, ?_⟩
  rintro i m σ' H' ⟨rfl, hi, Γ', j', pn', s'⟩
  by_cases hlt : i < xs.length
  · obtain ⟨g1, g2⟩ := W.go [] t σ' Γ' H' i xs[i] s' (gd j' pn') (List.getElem?_eq_getElem hlt)
    refine .inr ⟨g1, fun σ'' H'' => ∃ Γ'', J (i + 1) Γ'' ∧ Pin B σ'' ∧ Sat X.K B (tm ++ t) σ'' Γ'' H'', fun σ'' H'' p' => ⟨xs.length - (i + 1), by omega, rfl, hlt, p'⟩, fun x H2 y => ?_⟩
    exact loop_step d tm (hb i xs[i] Γ' (List.getElem?_eq_getElem hlt) j') pn' (g2 x H2 y) (fun s => s.mids) fun Γ4 σ'' H'' j pn'' s'' => ⟨Γ4, j, pn'', s''⟩
  · have e : i = xs.length := by omega
    subst e
    exact .inl ⟨W.stop [] t σ' Γ' H' s' (gd j' pn'), d.nx Γ' (hn Γ' j') σ' H' pn' (Sat.mids (p := []) s')⟩
end
/-! ## the truth of x != y -/
section
open PySem PySem.Spec PyProof.Rows L2
variable {X : Cx} {B : Bs} {Z : Zt} {Γ : List Bd} {a b e : Expr} {pos p : Pos} {k j : Nat} {α β : Type} {c : Cd α} {C : Addr}
theorem et_neI {P : List Bd → Bool → Prop} {S : Fn (α × α × Unit) Bool} (O : Ok X B Z j) (hc : Inst C c) (hH : HasE X.prog X.w X.K X.mg X.base C k S) (hi0 : IsaC X.K C) (hi : ∀ x, S.ins x = [va c x.1, va c x.2.1]) (ho : ∀ x r, (S.outs x r).length = (S.ins x).length) (hr : ∀ x r, S.ret x r = va cBool r)
    (h : EV X B a Γ (fun Γ1 b1 => ∃ x, b1 = va c x ∧ EV X B b Γ1 (fun Γ2 b2 => ∃ y, b2 = va c y ∧ good (S.m (x, y, ())) (fun r => P Γ2 (!r)) (fun _ => False)))) (hkj : k + 1 ≤ j := by decide) (hm : behindInMarks .NotEq b = false := by first | exact nomark _ | rfl) :
    ET X B (.Compare a [.NotEq] [b] pos) Γ P := by
  obtain ⟨f, fd, ps, hs, hf, G, hb⟩ := hH
  intro t σ H Q s q
  refine wp_of_pt (pt_cmpR (op_neI G hs hf hb (O.room.mono hkj) hi0) pe_wp pe_wp hm) ?_
  refine h t σ H _ s fun Γ1 b1 ⟨x, e1, h1⟩ v H1 s1 => ?_
  subst e1
  refine h1 _ σ H1 _ s1 fun Γ2 b2 ⟨y, e2, g⟩ w H2 s2 => ?_
  subst e2
  have s3 := s2
  obtain ⟨F, own, wd, hS, ⟨w', ew, rw'⟩, ⟨v', ev, rv⟩, hT⟩ := s3
  cases ew
  cases ev
  obtain ⟨a1, d1, f1, e3, hF1⟩ := hc _ _ _ _ rv
  obtain ⟨a2, d2, f2, e4, hF2⟩ := hc _ _ _ _ rw'
  subst e3 e4
  refine ⟨a1, a2, d1, d2, f1, f2, rfl, rfl, wd.fh _ _ hF1, wd.fh _ _ hF2, ?_⟩
  have cc := call_core (Z := ZF) (Γ1 := Γ2) (as := [.tmp (va c x), .tmp (va c y)]) (x := (x, y, ())) (P := fun Γ' b' => ∃ r, b' = va cBool r ∧ P Γ2 (!r) ∧ Γ' = Γ2) (Q := fun x H' => ∃ r, x = V.bl r ∧ ∃ k, V.bl (!r) = V.bl k ∧ Q k H') (O.monoZ fun _ _ z => z.elim) (W := fun _ _ _ _ => False) (fun _ _ z => z.elim) (.tmp (.tmp .nil)) s2 (by rw [hi]; rfl) List.nodup_nil (ho _) (by
    refine good_mono g (fun r p => ?_) fun ex z => z.elim
    rw [hr]
    exact ⟨r, rfl, p, back_tmp (bs := [va c x, va c y])⟩) (fun Γ' b' ⟨r, eb, p, e⟩ v' H' s' => by
      subst eb e
      have s4 := s'
      obtain ⟨F4, own4, wd4, hS4, ⟨v4, e4, r4⟩, hT4⟩ := s4
      cases e4
      have r5 : v' = V.bl r := r4
      exact ⟨r, r5, !r, rfl, q _ _ p H' s'.drop⟩)
  exact cc
theorem tm_neI {S : Fn (α × α × Unit) Bool} {ma mb : Res α} (O : Ok X B Z j) (hc : Inst C c) (hH : HasE X.prog X.w X.K X.mg X.base C k S) (hi0 : IsaC X.K C) (ha : XM X B Z a Γ c ma) (hb : XM X B Z b Γ c mb) (hi : ∀ x, S.ins x = [va c x.1, va c x.2.1] := by intro _; rfl) (ho : ∀ x r, (S.outs x r).length = (S.ins x).length := by intro _ _; rfl) (hr : ∀ x r, S.ret x r = va cBool r := by intro _ _; rfl)
    (hkj : k + 1 ≤ j := by decide) (hm : behindInMarks .NotEq b = false := by first | exact nomark _ | rfl) : TM X B Z (.Compare a [.NotEq] [b] pos) Γ (ma >>= fun x => mb >>= fun y => noX (S.m (x, y, ())) >>= fun r => .ok (!r)) := fun P g =>
  et_neI O hc hH hi0 hi ho hr (ha _ (good_imp (good_bind g) fun x gx => ⟨x, rfl, hb _ (good_imp (good_bind gx) fun y gy => ⟨y, rfl, good_noX (good_bind gy)⟩)⟩)) hkj hm
end
end T
set_option maxHeartbeats 2000000
namespace T
open PySem PySem.Spec PyProof.Rows L2
section
variable {X : Cx} {B : Bs} {Z : Zt} {Γ : List Bd} {a b : Expr} {pos : Pos} {α : Type} [DecidableEq α] {c : Cd α} {f : α → PyData} {n k : Nat}
/-! ## x in a tuple of data of any depth -/
def rInTD (K : PySem.W.Frag) : R2 := fun x y H Q => ∃ d ds, Dp K H x d ∧ Dp K H y (.tuple ds) ∧ SeqAt.shaped d = true ∧ SeqAt.shaped (.tuple ds) = true ∧ Q (.bl (ds.any fun z => PyData.eqv z d)) H
def rNotInTD (K : PySem.W.Frag) : R2 := fun x y H Q => ∃ d ds, Dp K H x d ∧ Dp K H y (.tuple ds) ∧ SeqAt.shaped d = true ∧ SeqAt.shaped (.tuple ds) = true ∧ Q (.bl (!ds.any fun z => PyData.eqv z d)) H
theorem op_inTD (hu : X.A.units + 65 < cLine) : OpR X (compareOp .In) (rInTD X.K) := by
  intro pins s σ H x y v u Q I rx ry h
  obtain ⟨d, ds, hd, he, sd, se, q⟩ := h
  obtain ⟨as, r1⟩ := Dp.reads I d x v hd rx
  obtain ⟨bs, r2⟩ := Dp.reads I (.tuple ds) y u he ry
  exact SeqAt.in_tuple_reads r2 r1 (SeqAt.canLay_of_shaped se) (SeqAt.canLay_of_shaped sd) (room_in_shaped sd hu) ⟨.bl _, H, I, rfl, q⟩
theorem op_notInTD (hu : X.A.units + 65 < cLine) : OpR X (compareOp .NotIn) (rNotInTD X.K) := by
  intro pins s σ H x y v u Q I rx ry h
  obtain ⟨d, ds, hd, he, sd, se, q⟩ := h
  obtain ⟨as, r1⟩ := Dp.reads I d x v hd rx
  obtain ⟨bs, r2⟩ := Dp.reads I (.tuple ds) y u he ry
  exact SeqAt.notIn_tuple_reads r2 r1 (SeqAt.canLay_of_shaped se) (SeqAt.canLay_of_shaped sd) (room_in_shaped sd hu) ⟨.bl _, H, I, rfl, q⟩
theorem cmp_inTD (O : Ok X B Z k) (D : Deep c f n) (hn : n < 63 := by decide) : Cmp X B .In (rInTD X.K) c (cTup c) (fun x xs => some (decide (x ∈ xs))) := ⟨op_inTD (room65 O.room), fun x xs z h F own H v w Q wd hv hw q => by
  cases h
  refine ⟨f x, xs.map f, D.dp (c.up wd.fh hv), (deep_tup D).dp ((cTup c).up wd.fh hw), D.sh (by omega) x, (deep_tup D).sh (by omega) xs, ?_⟩
  rw [dp_mem D]
  exact q F H _ wd (Same.rfl' F) (Same.rfl' H) rfl⟩
theorem cmp_notInTD (O : Ok X B Z k) (D : Deep c f n) (hn : n < 63 := by decide) : Cmp X B .NotIn (rNotInTD X.K) c (cTup c) (fun x xs => some (!decide (x ∈ xs))) := ⟨op_notInTD (room65 O.room), fun x xs z h F own H v w Q wd hv hw q => by
  cases h
  refine ⟨f x, xs.map f, D.dp (c.up wd.fh hv), (deep_tup D).dp ((cTup c).up wd.fh hw), D.sh (by omega) x, (deep_tup D).sh (by omega) xs, ?_⟩
  rw [dp_mem D]
  exact q F H _ wd (Same.rfl' F) (Same.rfl' H) rfl⟩
end
section
variable {X : Cx} {B : Bs} {Z : Zt} {Γ : List Bd} {α : Type} {c : Cd α} {k : Nat}
/-! ## xs != [] of a list of anything -/
def neNilO {α : Type} : List α → List α → Option Bool
  | xs, [] => some (!xs.isEmpty)
  | _, _ => none
def rNeNil (K : PySem.W.Frag) : R2 := fun x y H Q => ∃ p q xs, x = .ref p ∧ y = .ref q ∧ SqL K H p xs ∧ SqL K H q [] ∧ Q (.bl (!xs.isEmpty)) H
theorem op_neNil (hu : X.A.units < cLine) : OpR X (compareOp .NotEq) (rNeNil X.K) := by
  intro pins s σ H x y v u Q I rx ry h
  obtain ⟨p, q, xs, rfl, rfl, h1, h2, hq⟩ := h
  cases rx
  cases ry
  obtain ⟨is1, r1, pl1, _⟩ := I.list h1
  obtain ⟨is2, r2, pl2, _⟩ := I.list h2
  have e2 : is2 = [] := by
    cases r2
    rfl
  subst e2
  show wpAny (model X.prog X.w) X.A (richCompare .NotEq (.ref p) (.ref q)) (EP X pins σ Q) X.xe s
  cases xs with
  | nil =>
    cases r1
    exact SeqAt.RcNeAt.lists (e := fun _ => true) pl1.isList pl2.isList rfl hu (fun j h1 => absurd h1 (Nat.not_lt_zero _)) X.prog X.w _ _ ⟨.bl _, H, I, rfl, hq⟩
  | cons a l =>
    cases r1
    exact SeqAt.RcNeAt.lists_lengths pl1.isList pl2.isList (by simp) hu X.prog X.w _ _ ⟨.bl _, H, I, rfl, hq⟩
theorem cmp_neNil (O : Ok X B Z k) : Cmp X B .NotEq (rNeNil X.K) (cLst c) (cLst c) neNilO := ⟨op_neNil O.room.units0, fun xs ys z h F own H v w Q wd ⟨a1, v1, e1, q1, r1⟩ ⟨a2, v2, e2, q2, r2⟩ q => by
  cases ys with
  | cons y ys => cases h
  | nil =>
    cases h
    match v2, r2 with
    | [], _ =>
      refine ⟨a1, a2, v1, e1, e2, seqL_up wd.fh q1, seqL_up wd.fh q2, ?_⟩
      rw [show v1.isEmpty = xs.isEmpty by
        match xs, v1, r1 with
        | [], [], _ => rfl
        | _ :: _, _ :: _, _ => rfl]
      exact q F H _ wd (Same.rfl' F) (Same.rfl' H) rfl⟩
end
end T
set_option maxHeartbeats 4000000
namespace T
open PySem PySem.Spec PyProof PyProof.Rows L2 HT
/-! ## t[::-1] of a tuple: always a new tuple -/
section
variable {prog : Program} {w : World} {A : Around} {E : Value → Shared → Prop} {s : Shared}
theorem adj_rev (n : Nat) : Builtin.Slice.sliceAdjust none none (-1) (n : Int) = ((n : Int) - 1, -1) := by
  unfold Builtin.Slice.sliceAdjust
  simp
theorem plc_rev (n : Nat) : Builtin.Slice.slicePlaces ((n : Int) - 1) (-1) (-1) = n := by
  unfold Builtin.Slice.slicePlaces
  have h1 : ¬ ((-1 : Int) > 0) := by omega
  have h2 : (-(-1 : Int)) = 1 := by omega
  simp only [h1, if_false, h2, Int.ediv_one]
  split <;> omega
theorem pick_rev (items : Array Value) : ((List.range items.size).filterMap fun (k : Nat) => items[(((items.size : Int) - 1) + (k : Int) * (-1)).toNat]?).toArray = items.toList.reverse.toArray := by
  congr 1
  have e : (fun (k : Nat) => items[(((items.size : Int) - 1) + (k : Int) * (-1)).toNat]?) = (fun (j : Nat) => items[j]?) ∘ fun k => items.size - 1 - k := by
    funext k
    have : (((items.size : Int) - 1) + (k : Int) * (-1)).toNat = items.size - 1 - k := by omega
    rw [this]
    rfl
  rw [e, ← List.filterMap_map, PySem.W.krv_range, List.filterMap_reverse]
  congr 1
  have := pick_run items 0 items.size
  rw [List.filterMap_map] at this
  have e2 : ((fun (x : Nat) => items[x]?) ∘ fun x => 0 + x) = fun m => items[m]? := by
    funext m
    show items[0 + m]? = items[m]?
    rw [Nat.zero_add]
  rw [e2] at this
  rw [this, List.drop_zero, ← Array.length_toList, List.take_length]
theorem applied_rev {sl : Addr} {vl vu vs : Value} {n : Nat} {Q : Int × Int × Nat → Shared → Prop} (hs : s.heap.IsSliceOf sl vl vu vs) (pl : IsPart vl none) (pu : IsPart vu none) (ps : IsPart vs (some (-1)))
    (h : Q ((n : Int) - 1, -1, n) s) : wpAny (model prog w) A (Builtin.Slice.sliceApplied (.ref sl) (pure (n : Int))) Q E s := by
  obtain ⟨os, hos, hcs, hds⟩ := id hs
  unfold Builtin.Slice.sliceApplied Builtin.Slice.sliceFields
  refine wpAny_bind (wpAny_bind (wpAny_field hos hds (x := vl) rfl (wpAny_bind (wpAny_field hos hds (x := vu) rfl (wpAny_bind (wpAny_field hos hds (x := vs) rfl (wpAny_pure ?_)))))))
  refine wpAny_bind (HT.slicePart_ ps ?_)
  show wpAny _ _ (if ((-1 : Int) == 0) = true then _ else _) _ _ s
  rw [if_neg (by decide)]
  refine wpAny_bind (HT.slicePart_ pl (wpAny_bind (HT.slicePart_ pu (wpAny_bind (wpAny_pure ?_)))))
  show wpAny _ _ (match Builtin.Slice.sliceAdjust none none (-1) (n : Int) with | (lo, hi) => pure (lo, (-1 : Int), Builtin.Slice.slicePlaces lo hi (-1))) _ _ s
  rw [adj_rev n]
  show wpAny _ _ (pure ((n : Int) - 1, (-1 : Int), Builtin.Slice.slicePlaces ((n : Int) - 1) (-1) (-1))) _ _ s
  rw [plc_rev]
  exact wpAny_pure h
theorem getItem_tupRev {t sl : Addr} {items : Array Value} {vl vu vs : Value} {Q : Value → Shared → Prop} (ht : IsTup s.heap t items) (hs : s.heap.IsSliceOf sl vl vu vs) (pl : IsPart vl none) (pu : IsPart vu none) (ps : IsPart vs (some (-1)))
    (h : Q (.ref s.heap.objs.size) { s with heap := s.heap.push { cls := .type "tuple", data := .seq items.toList.reverse.toArray } })
    (hsz : items.size ≤ sizeLine) : wpAny (model prog w) A (getItem (.ref t) (.ref sl)) Q E s := by
  have htake : sizeOk (.seq items.toList.reverse.toArray) := by
    show items.toList.reverse.toArray.size ≤ sizeLine
    rw [List.size_toArray, List.length_reverse, Array.length_toList]
    exact hsz
  obtain ⟨os, hos, hcs, hds⟩ := id hs
  have hTs : s.TypeIs (.ref sl) "slice" := ⟨os, hos, hcs⟩
  unfold getItem
  try with_reducible refine wpAny_holding ?_
  first | refine wpAny_bind (wpAny_pure ?_) | skip
  refine wpAny_bind (wpAny_sequenceKey ht.typeIs (by decide) ?_)
  refine wpAny_bind (wpAny_callSpecial?_slot (name := Str.ofString "__getitem__") ht.typeIs PyProof.Rows.slot_tuple_getitem
    (wpAny_call_entry PyProof.Rows.slot_tuple_getitem ht.typeIs entry_tuple_getitem ?_ (args_tuple_getitem _ _)))
  show wpAny _ _ (Builtin.Tuple.tupleItemsOf (.ref t) >>= _) _ _ s
  refine wpAny_bind (tupleItemsOf_ ht ?_)
  refine wpAny_bind (wpAny_typeOf hTs ?_)
  rw [if_pos (by decide)]
  refine wpAny_bind (applied_rev hs pl pu ps ?_)
  have hno : ¬ ((((items.size : Int) - 1) == 0 && (-1 : Int) == 1 && items.size == items.size) = true) := by
    intro q
    rw [Bool.and_eq_true, Bool.and_eq_true] at q
    exact absurd q.1.2 (by decide)
  show wpAny _ _ (if (((items.size : Int) - 1) == 0 && (-1 : Int) == 1 && items.size == items.size) = true then _ else _) _ _ s
  rw [if_neg hno, pick_rev]
  first
    | exact wpAny_bind (m := Builtin.Tuple.tupleExact _) (wpAny_newObj_type (wpAny_pure ⟨_, rfl, wpAny_pure h⟩) htake)
    | exact wpAny_bind (m := Builtin.Tuple.tupleExact _) (wpAny_newObj_type (wpAny_bind (wpAny_pure (wpAny_pure ⟨_, rfl, wpAny_pure h⟩))) htake)
    | exact wpAny_bind (wpAny_bind (m := Builtin.Tuple.tupleExact _) (wpAny_newObj_type (wpAny_pure (wpAny_pure ⟨_, rfl, wpAny_pure h⟩)) htake))
    | exact wpAny_bind (wpAny_bind (m := Builtin.Tuple.tupleExact _) (wpAny_newObj_type (wpAny_pure ⟨_, rfl, wpAny_pure h⟩) htake))
end
section
variable {X : Cx} {B : Bs} {Γ : List Bd} {P : List Bd → Bd → Prop} {a : Expr} {pos p p1 p2 p3 : Pos} {k : Nat} {α : Type} {c : Cd α}
def tRevT (K : PySem.W.Frag) (te : TE) : TE := fun σ H Q => te σ H fun x H1 => ∃ a xs, x = .ref a ∧ SqT K H1 a xs ∧ NewT H1 Q xs.reverse
theorem pe_revT {e : Expr} {te : TE} (he : PE X e te) : PE X (.Subscript e (.Slice none none (some (.UnaryOp .USub (.Constant (.int 1) k p1) p2)) p3) pos) (tRevT X.K te) := by
  refine ⟨fun pins s σ H Q I h => ?_⟩
  refine Subscript_ (thn (he.run pins s σ H _ I h) fun v s1 ⟨x, H1, I1, r1, q1⟩ => ?_)
  obtain ⟨a, xs, ex, hx, q⟩ := q1
  subst ex
  cases r1
  have hst : PO X (some (.UnaryOp .USub (.Constant (.int 1) k p1) p2)) (tPart (tUn (rU fun i => .int (-i)) (tC (.int 1)))) := po_some (pe_un un_neg pe_int)
  refine wpAny_Slice (thn (po_none.run pins s1 σ H1 (fun o H2 => o = none ∧ H2 = H1) I1 ⟨rfl, rfl⟩) fun vl s2 ⟨l, H2, I2, pl, el, e2⟩ => ?_)
  subst el e2
  refine thn (po_none.run pins s2 σ H2 (fun o H3 => o = none ∧ H3 = H2) I2 ⟨rfl, rfl⟩) fun vu s3 ⟨u, H3, I3, pu, eu, e3⟩ => ?_
  subst eu e3
  refine thn (hst.run pins s3 σ H3 (fun o H4 => o = some (-1) ∧ H4 = H3) I3 ⟨1, rfl, -1, rfl, rfl, rfl⟩) fun vs s4 ⟨o, H4, I4, ps, eo, e4⟩ => ?_
  subst eo e4
  have I5 : Inv X pins σ H4 { s4 with heap := s4.heap.push { cls := .type "slice", data := .fields #[vl, vu, vs] } } := I4.kept (t' := s4.toks) fun b ob q => Heap.get?_push_of_some _ q
  obtain ⟨its, r, ht, hz⟩ := I5.tuple hx
  have hlen := r.length
  show wpAny (model X.prog X.w) X.A (subscriptTail e (.Slice none none (some (.UnaryOp .USub (.Constant (.int 1) k p1) p2)) p3) (.ref a) (.ref s4.heap.objs.size)) (EP X pins σ Q) X.xe { s4 with heap := s4.heap.push { cls := .type "slice", data := .fields #[vl, vu, vs] } }
  refine tail_any (ops := [.ref a, .ref s4.heap.objs.size]) ht.typeIs (PyProof.Rows.slot_tuple_getitem.lookup) ?_ (by with_unfolding_all rfl)
  refine getItem_tupRev ht (Heap.IsSliceOf.new _ vl vu vs) pl pu ps ?_ (by rw [List.size_toArray]; omega)
  exact laidT (s := { s4 with heap := s4.heap.push { cls := .type "slice", data := .fields #[vl, vu, vs] } }) (h' := s4.heap.push { cls := .type "slice", data := .fields #[vl, vu, vs] }) I5 r.reverse (by rw [List.length_reverse]; exact hz) q
/-- t[::-1] of a tuple -/
theorem ev_revT (h : EV X B a Γ (fun Γ1 b1 => ∃ xs, b1 = va (cTup c) xs ∧ P Γ1 (va (cTup c) xs.reverse))) : EV X B (.Subscript a (.Slice none none (some (.UnaryOp .USub (.Constant (.int 1) k p1) p2)) p3) pos) Γ P := fun t σ H Q s q => by
  refine wp_of_pe (pe_revT pe_wp) ?_
  refine h t σ H _ s fun Γ1 b1 ⟨xs, e1, p3⟩ v H1 s1 => ?_
  subst e1
  obtain ⟨F, own, wd, hS, ⟨v', ev, ad, vs, e2, r1, r2⟩, hT⟩ := s1
  cases ev
  subst e2
  refine ⟨ad, vs, rfl, seqT_up wd.fh (sqT r1), fun p us hp => ?_⟩
  exact q _ _ p3 _ _ (push_tupF (cd := cTup c) wd hS hT hp ⟨p, vs.reverse, rfl, .of upd_same, r2.rev.imp fun _ _ => c.up (Same.newH (wd.none_F hp))⟩)
end
end T
set_option maxHeartbeats 4000000
namespace T
open PySem PySem.Spec PyProof.Rows L2
theorem key_I : KeyC cInt := fun K F x v h => ⟨.inl x, h⟩
theorem key_S : KeyC cStr := fun K F x v h => ⟨.inr x, h⟩
/-! ## t.index(y) of a tuple made here -/
section
variable {X : Cx} {o e : Expr} {es : List Expr} {to : TE} {t : TA} {name : Str} {apos cpos : Pos} {id : String} {r : V → List V → Hp → VK → Prop}
def tBMT (r : V → List V → Hp → VK → Prop) (to : TE) (t : TA) : TE := fun σ H Q => to σ H fun x H1 => (∃ p us vs, x = .ref p ∧ H1 p = some (.frz (tOb us) (.tup vs))) ∧ t σ H1 fun xs H2 => r x xs H2 Q
theorem pe_bmT (pa : PlainAttrs "tuple") (slot : Slot "tuple" name id) (hty : typeOf (.builtin id) = pure (.type "method_descriptor")) (hm : MtR X id r) (ho : PE X o to) (ha : PA X (e :: es) t)
    (hbase : attributeBase o name X.env (eval o X.env) = eval o X.env := by rfl)
    (hfew : ((backTo cpos (starEach (e :: es) X.env)).all (fun x => !x.1) && (backToKw cpos (keywordEach [] X.env)).all (fun x => x.1.isSome) && decide ((e :: es).length + ([] : List Keyword).length + (if ([] : List Keyword).isEmpty then 0 else 1) < 30)) = true := by rfl)
    (hline : (apos.endLine == cpos.line) = true := by rfl) (hs : starEach (e :: es) X.env = (false, eval e X.env) :: starEach es X.env := by rfl) (hplain : (backTo cpos (starEach es X.env)).any (·.1) = false := by rfl) :
    PE X (.Call (.Attribute o name apos) (e :: es) [] cpos) (tBMT r to t) := by
  refine ⟨fun pins s σ H Q I h => ?_⟩
  refine wpAny_Call_method_late hbase hfew hline rfl (thn (ho.run pins s σ H _ I h) fun v s1 ⟨x, H1, I1, r1, ty, q1⟩ => ?_)
  obtain ⟨p, us, vs0, ex, hp⟩ := ty
  subst ex
  cases r1
  have ho : s1.heap.get? p = some (tOb us) := (I1.hok p _ hp).1
  refine ⟨"tuple", id, pa, slot, hty, ⟨_, ho, rfl⟩, fun a ea => ⟨_, by cases ea; exact ho, rfl⟩, ?_⟩
  have hA := ha.run cpos pins s1 σ H1 _ I1 q1
  rw [hs] at hA ⊢
  refine Calls.callWith_builtin (by show (false || (backTo cpos (starEach es X.env)).any (·.1)) = false; rw [hplain] <;> rfl) (Calls.evalArgs_plain ?_)
  exact thn hA fun us s2 ⟨vs, H2, I2, r2, q2⟩ => hm pins s2 σ H2 (.ref p) vs (.ref p) us Q I2 rfl r2 q2
end
section
variable {X : Cx}
def rIdxT (K : PySem.W.Frag) : V → List V → Hp → VK → Prop := fun x xs H Q => ∃ (a : Addr) (ys : List V) (y : V) (j : Nat) (z : V), x = V.ref a ∧ xs = [y] ∧ SqT K H a ys ∧ flatV y = true ∧ ys.all flatV = true ∧ ys[j]? = some z ∧ eqV z y = true ∧
  (∀ (m : Nat) (z' : V), m < j → ys[m]? = some z' → eqV z' y = false) ∧ Q (.int (j : Nat)) H
theorem mt_idxT : MtR X "tuple.index" (rIdxT X.K) := by
  intro pins s σ H x xs v us Q I rx rxs h
  obtain ⟨a, ys, y, j, z, rfl, rfl, hs, fy, fys, hz, hzj, hno, q⟩ := h
  cases rx
  cases rxs with
  | cons ry rt =>
    rename_i uy ut
    cases rt
    obtain ⟨its, rv, ⟨⟨cls, dd, data, sl⟩, ho, hc, n, hd⟩, hlen⟩ := I.tuple hs
    simp only at hc hd
    subst hc hd
    obtain ⟨u, hu, ru⟩ := rv.get hz
    obtain ⟨hjl, hje⟩ := List.getElem?_eq_some_iff.mp hu
    have hvl := rv.length
    have hj : j < its.toArray.size := by simpa using hjl
    refine call_meets PySem.F.slot_tuple_index ⟨_, ho, rfl⟩ PySem.F.entry_tuple_index (PySem.F.args_tuple_index_2 _ _) (TI.tuple_indexAt a its.toArray n dd sl uy (eqU y) j hj ?_ ?_)
      ⟨ho, fun u' hu' => mem_eqAt ry fy rv fys u' (by simpa using hu'), ⟨.int (j : Nat), H, I.tok _, ⟨_, rfl⟩, q⟩⟩
    · have e1 : its.toArray[j] = u := by simpa using hje
      rw [e1, eqU_of ru (flat_at fys hz)]
      exact hzj
    · intro m hm hmj
      have hml : m < its.length := by simpa using hm
      have hmy : m < ys.length := by omega
      obtain ⟨u', hu', ru'⟩ := rv.get (List.getElem?_eq_getElem hmy)
      obtain ⟨_, he'⟩ := List.getElem?_eq_some_iff.mp hu'
      have e1 : its.toArray[m] = u' := by simpa using he'
      rw [e1, eqU_of ru' (flat_at fys (List.getElem?_eq_getElem hmy))]
      exact hno m _ hmj (List.getElem?_eq_getElem hmy)
end
section
variable {X : Cx} {B : Bs} {Z : Zt} {Γ : List Bd} {a b : Expr} {pos p2 : Pos} {α : Type} {c : Cd α}
theorem xm_indexT [DecidableEq α] {m : Res (List α)} {mi : Res α} (kc : KeyC c) (f : Flat c) (ha : XM X B Z a Γ (cTup c) m) (hb : XM X B Z b Γ c mi)
    (hbase : attributeBase a "index" X.env (eval a X.env) = eval a X.env := by rfl)
    (hfew : ((backTo pos (starEach (b :: []) X.env)).all (fun x => !x.1) && (backToKw pos (keywordEach [] X.env)).all (fun x => x.1.isSome) && decide ((b :: []).length + ([] : List Keyword).length + (if ([] : List Keyword).isEmpty then 0 else 1) < 30)) = true := by rfl)
    (hline : (p2.endLine == pos.line) = true := by rfl) (hs : starEach (b :: []) X.env = (false, eval b X.env) :: starEach [] X.env := by rfl) (hplain : (backTo pos (starEach [] X.env)).any (·.1) = false := by rfl) :
    XM X B Z (.Call (.Attribute a "index" p2) [b] [] pos) Γ cInt (m >>= fun xs => mi >>= fun y => lift (idxO xs y)) := fun P g t σ H Q s q => by
  refine wp_of_pe (pe_bmT PySem.F.plainAttrs_tuple PySem.F.slot_tuple_index PySem.F.type_tuple_index mt_idxT pe_wp (pa_cons pe_wp pa_nil hs) hbase hfew hline hs hplain) ?_
  refine ha (fun Γ' b' => Γ' = Γ ∧ ∃ xs, b' = va (cTup c) xs ∧ good (mi >>= fun y => lift (idxO xs y)) (fun x => P Γ (va cInt x)) fun ex => Z ex Γ) (good_imp (good_bind g) fun xs gx => ⟨rfl, xs, rfl, gx⟩) t σ H _ s fun Γ1 b1 ⟨e0, xs, e1, gx⟩ v H1 s1 => ?_
  subst e0 e1
  have s1' := s1
  obtain ⟨F0, own0, wd0, hS0, ⟨v0, ev0, ad0, vs0, e0, r10, r20⟩, hT0⟩ := s1'
  cases ev0
  subst e0
  obtain ⟨us, eF⟩ := r10.2 kc
  refine ⟨⟨ad0, us, vs0, rfl, wd0.fh _ _ eF⟩, ?_⟩
  refine hb (fun Γ' b' => Γ' = Γ1 ∧ ∃ y, b' = va c y ∧ good (lift (idxO xs y)) (fun x => P Γ1 (va cInt x)) fun ex => Z ex Γ1) (good_imp (good_bind gx) fun y gy => ⟨rfl, y, rfl, gy⟩) _ σ H1 _ s1 fun Γ2 b2 ⟨e0, y, e1, g2⟩ w H2 s2 => ?_
  subst e0 e1
  obtain ⟨F, own, wd, hS, ⟨w', ew, rw'⟩, ⟨v', ev, ad, vs, e3, h1, h2⟩, hT⟩ := s2
  cases ew
  cases ev
  cases e3
  obtain ⟨z, hz, p⟩ := good_lift g2
  unfold idxO at hz
  split at hz
  · rename_i hm
    cases hz
    obtain ⟨z, q1, q2, q3⟩ := h2.idx f rw' (of_decide_eq_true hm)
    exact ⟨ad0, vs, w, _, z, rfl, rfl, seqT_up wd.fh (sqT h1), f.flat rw', h2.flat f, q1, q2, q3, q _ _ p _ H2 (Sat.push wd hS hT rfl)⟩
  · cases hz
end
/-! ## t > u of tuples of ints -/
section
variable {X : Cx} {B : Bs} {Z : Zt}
def gtI (ns ms : List Int) : Bool := Ob.lexAt (fun j => decide (ns.getD j 0 = ms.getD j 0)) (fun j => decide (ms.getD j 0 < ns.getD j 0)) (decide (ns.length > ms.length)) 0 (min ns.length ms.length)
def rGtT (K : PySem.W.Frag) : R2 := fun x y H Q => ∃ (a b : Addr) (ns ms : List Int), x = .ref a ∧ y = .ref b ∧ SqT K H a (ns.map V.int) ∧ SqT K H b (ms.map V.int) ∧ Q (.bl (gtI ns ms)) H
theorem op_gtT {X : Cx} (hu : X.A.units < cLine) : OpR X (compareOp .Gt) (rGtT X.K) := by
  intro pins s σ H x y v u Q I rx ry h
  obtain ⟨a, b, ns, ms, rfl, rfl, ha, hb, q⟩ := h
  cases rx
  cases ry
  obtain ⟨its, r1, p1, _⟩ := I.tuple ha
  obtain ⟨its2, r2, p2, _⟩ := I.tuple hb
  have i1 : IntsAre its ns := Vals.ints r1
  have i2 : IntsAre its2 ms := Vals.ints r2
  have e1 : its.toArray.size = ns.length := by rw [List.size_toArray]; exact i1.length
  have e2 : its2.toArray.size = ms.length := by rw [List.size_toArray]; exact i2.length
  have at1 : ∀ j (h1 : j < its.toArray.size), ∃ t, its.toArray[j] = .int (ns.getD j 0) t := fun j h1 => PyProof.Rows.IntsAre.int_at i1 _ _ (by simp at h1; simp [h1])
  have at2 : ∀ j (h1 : j < its2.toArray.size), ∃ t, its2.toArray[j] = .int (ms.getD j 0) t := fun j h1 => PyProof.Rows.IntsAre.int_at i2 _ _ (by simp at h1; simp [h1])
  have R := Ob.RcOp.tuples_gt (A := X.A) (s := s) (e := fun j => decide (ns.getD j 0 = ms.getD j 0)) (r := fun j => decide (ms.getD j 0 < ns.getD j 0)) p1 p2 hu (fun j h1 h2 => by
    obtain ⟨t, et⟩ := at1 j h1
    obtain ⟨t', et'⟩ := at2 j h2
    rw [et, et']
    have z : (ns.getD j 0 == ms.getD j 0) = decide (ns.getD j 0 = ms.getD j 0) := by
      by_cases q : ns.getD j 0 = ms.getD j 0
      · rw [decide_eq_true q]; exact beq_iff_eq.mpr q
      · rw [decide_eq_false q]; exact beq_eq_false_iff_ne.mpr q
    rw [← z]
    exact SeqAt.EqAt.int_int _ _ _ _) (fun j h1 h2 _ => by
    obtain ⟨t, et⟩ := at1 j h1
    obtain ⟨t', et'⟩ := at2 j h2
    rw [et, et']
    exact Ob.RcOp.gt_int _ _ _ _)
  rw [e1, e2] at R
  have z : wpAny (model X.prog X.w) X.A (compareOp .Gt (.ref a) (.ref b)) (EP X pins σ Q) X.xe s := R X.prog X.w X.xe (EP X pins σ Q) ⟨.bl _, H, I, rfl, q⟩
  exact z
theorem cmp_gtT {k : Nat} (O : Ok X B Z k) : Cmp X B .Gt (rGtT X.K) (cTup cInt) (cTup cInt) (fun x y => some (gtI x y)) := ⟨op_gtT (by have := O.room.units; omega), fun x y z h => by
  cases h
  intro F own H v w Q wd hv hw q
  obtain ⟨a, vs, e1, h1, r1⟩ := hv
  obtain ⟨b, ws, e2, h2, r2⟩ := hw
  subst e1 e2
  have q1 := All2.ints r1
  have q2 := All2.ints r2
  subst q1 q2
  exact ⟨a, b, x, y, rfl, rfl, seqT_up wd.fh (sqT h1), seqT_up wd.fh (sqT h2), q F H _ wd (Same.rfl' F) (Same.rfl' H) rfl⟩⟩
end
section
variable {X : Cx} {B : Bs} {Z : Zt} {Γ : List Bd} {a b e : Expr} {pos : Pos} {α β γ : Type} {c : Cd α} {d : Cd β} {f : Cd γ}
theorem xm_tr {x1} {m : Res α} {m' : Res β} {m2 : Res γ} (ha : XM X B Z a Γ c m) (hb : XM X B Z b Γ d m') (he : XM X B Z e Γ f m2) (hs : starEach (a :: [b, e]) X.env = (false, eval a X.env) :: starEach [b, e] X.env := by rfl) (hs2 : starEach (b :: [e]) X.env = (false, eval b X.env) :: starEach [e] X.env := by rfl) (hs3 : starEach (e :: []) X.env = (false, eval e X.env) :: starEach [] X.env := by rfl) :
    XM X B Z (.Tuple [a, b, e] x1 pos) Γ (cTr c d f) (m >>= fun x => m' >>= fun y => m2 >>= fun z => .ok (x, y, z)) := fun P g =>
  ev_tr (ea_tmp (ha _ (good_imp (good_bind g) fun x gx => ea_tmp (hb _ (good_imp (good_bind gx) fun y gy => ea_tmp (he _ (good_imp (good_bind gy) fun z gz => ea_nil ⟨x, y, z, rfl, gz⟩)) hs3)) hs2)) hs)
end
end T
set_option maxHeartbeats 4000000
namespace T
open PySem PySem.Spec PyProof.Rows L2
/-! ## one thing or another -/
def cSum {α β : Type} (c : Cd α) (d : Cd β) : Cd (α ⊕ β) := ⟨fun K F s v => match s with
  | .inl x => c.rp K F x v
  | .inr y => d.rp K F y v, fun {K F F' s v} sm h => by
    cases s with
    | inl x => exact c.up sm h
    | inr y => exact d.up sm h⟩
def sumL {α β : Type} : α ⊕ β → Option α
  | .inl x => some x
  | .inr _ => none
def sumR {α β : Type} : α ⊕ β → Option β
  | .inl _ => none
  | .inr y => some y
section
variable {X : Cx} {B : Bs} {Z : Zt} {Γ : List Bd} {P : List Bd → Bd → Prop} {a b e : Expr} {pos p : Pos} {α β : Type} {c : Cd α} {d : Cd β}
theorem ev_inl (h : EV X B e Γ (fun Γ1 b1 => ∃ x, b1 = va c x ∧ P Γ1 (va (cSum c d) (.inl x)))) : EV X B e Γ P := fun t σ H Q s q => h t σ H Q s fun Γ1 b1 ⟨x, e1, p⟩ v H1 s1 => by
  subst e1
  exact q _ _ p v H1 (Sat.cast (b := va c x) (b' := va (cSum c d) (.inl x)) (fun F H f ⟨v', e, r⟩ => ⟨v', e, r⟩) s1)
theorem ev_inr (h : EV X B e Γ (fun Γ1 b1 => ∃ x, b1 = va d x ∧ P Γ1 (va (cSum c d) (.inr x)))) : EV X B e Γ P := fun t σ H Q s q => h t σ H Q s fun Γ1 b1 ⟨x, e1, p⟩ v H1 s1 => by
  subst e1
  exact q _ _ p v H1 (Sat.cast (b := va d x) (b' := va (cSum c d) (.inr x)) (fun F H f ⟨v', e, r⟩ => ⟨v', e, r⟩) s1)
theorem ev_sumL (h : EV X B e Γ (fun Γ1 b1 => ∃ s, b1 = va (cSum c d) s ∧ ∃ z, sumL s = some z ∧ P Γ1 (va c z))) : EV X B e Γ P := fun t σ H Q s q => h t σ H Q s fun Γ1 b1 ⟨x, e1, z, hz, p⟩ v H1 s1 => by
  subst e1
  cases x with
  | inl x =>
    have hz' := Option.some.inj (show some x = some z from hz)
    subst hz'
    exact q _ _ p v H1 (Sat.cast (b := va (cSum c d) (.inl x)) (b' := va c x) (fun F H f ⟨v', e, r⟩ => ⟨v', e, r⟩) s1)
  | inr y => cases hz
theorem ev_sumR (h : EV X B e Γ (fun Γ1 b1 => ∃ s, b1 = va (cSum c d) s ∧ ∃ z, sumR s = some z ∧ P Γ1 (va d z))) : EV X B e Γ P := fun t σ H Q s q => h t σ H Q s fun Γ1 b1 ⟨x, e1, z, hz, p⟩ v H1 s1 => by
  subst e1
  cases x with
  | inl x => cases hz
  | inr y =>
    have hz' := Option.some.inj (show some y = some z from hz)
    subst hz'
    exact q _ _ p v H1 (Sat.cast (b := va (cSum c d) (.inr y)) (b' := va d y) (fun F H f ⟨v', e, r⟩ => ⟨v', e, r⟩) s1)
theorem xm_sumL {m : Res (α ⊕ β)} (h : XM X B Z e Γ (cSum c d) m) : XM X B Z e Γ c (m >>= fun s => lift (sumL s)) := fun P g => ev_sumL (h _ (good_imp (good_bind g) fun s gs => ⟨s, rfl, good_lift gs⟩))
theorem xm_sumR {m : Res (α ⊕ β)} (h : XM X B Z e Γ (cSum c d) m) : XM X B Z e Γ d (m >>= fun s => lift (sumR s)) := fun P g => ev_sumR (h _ (good_imp (good_bind g) fun s gs => ⟨s, rfl, good_lift gs⟩))
/-- isinstance(x, str) of an instance of an own class -/
theorem xm_isOs {C : Addr} {m : Res α} (hc : Inst C c) (hm : X.mg "isinstance" = none) (I : IsaC X.K C) (cl : Cls X.K C) (ht : ∀ {Z : Zt} {Γ}, XM X B Z b Γ cTy (.ok "str")) (ha : XM X B Z a Γ c m) (hg : Gl X "isinstance" := by rfl)
    (he : starEach (a :: [b]) X.env = (false, eval a X.env) :: starEach [b] X.env := by rfl) (he2 : starEach (b :: []) X.env = (false, eval b X.env) :: starEach [] X.env := by rfl) (hpl : (backTo pos (starEach [b] X.env)).any (·.1) = false := by rfl) :
    XM X B Z (.Call (.Name "isinstance" p) [a, b] [] pos) Γ cBool (m >>= fun _ => .ok false) := fun P g => by
  intro t σ H Q s qq
  refine wp_of_pe (pe_callB call_isi hg hm boot_isinstance (pa_cons pe_wp (pa_cons pe_wp pa_nil he2) he) (by decide) (by decide) he hpl) ?_
  refine ha (fun Γ1 b1 => ∃ x, b1 = va c x ∧ P Γ1 (va cBool false)) (good_imp (good_bind g) fun x gx => ⟨x, rfl, gx⟩) t σ H _ s fun Γ1 b1 ⟨x, e1, pp⟩ v H1 s1 => ?_
  subst e1
  refine ht (Z := ZF) (fun Γ' b' => Γ' = Γ1 ∧ b' = va cTy "str") ⟨rfl, rfl⟩ _ σ H1 _ s1 fun Γ2 b2 ⟨e0, e2⟩ w H2 s2 => ?_
  subst e0 e2
  obtain ⟨F, own, wd, hS, ⟨w', ew, rw'⟩, ⟨v', ev, rv⟩, hT⟩ := s2
  cases ew
  cases ev
  cases (show w = V.ty "str" from rw')
  obtain ⟨ad, dx, fs, e3, hF⟩ := hc _ _ _ _ rv
  subst e3
  exact ⟨.ref ad, .ty "str", .ref C, .type "str", false, rfl, .ty "str", .base (.ins (wd.fh _ _ hF) cl I.ha I.hn I.ht I.hm), I.ks, qq _ _ pp _ _ (Sat.push wd hS hT rfl)⟩
end
section
variable {X : Cx} {B : Bs} {Γ : List Bd} {R : Rs} {e : Expr} {pos pos' : Pos}
/-- x = e in a handler's suite -/
theorem s1_asg0 {n : Str} (i : Nat) (nd : X.N.Nodup) (h : EV X B e Γ (fun Γ1 b => R.nx (Γ1.set i b))) (hN : X.N[i]? = some n := by rfl) (hx : Loc X.env.scope n := by first | exact Or.inl rfl | exact Or.inr rfl) (hp : B.pins.contains i = false := by rfl) (hi : Nat.blt i Γ.length = true := by rfl)
    (hs : swapsWith e (some (.Name n pos')) pos.line X.env = pure false := by rfl) (hf : X.fn n = true ∨ X.env.scope.names.lookup n = some .local := by first | exact .inl rfl | exact .inr rfl) : S1 X B (.Assign [.Name n pos'] e pos) Γ R := fun t σ H D pn s d =>
  wp_of_ps (ps_set nd hN hx pe_wp hs hf) (h t σ H _ s fun Γ1 b p v H1 s1 => d.nx _ p _ H1 (pn.set hp) (s1.store (by rw [s.len]; exact Nat.le_of_ble_eq_true hi)))
end
end T
set_option maxHeartbeats 0
namespace Hd
open PySem PySem.Spec PyProof.Rows L2
def top (i : Nat) : Stmt := PySem.Challenge.pw_nearlords_k45_houses_struck.main.body.getD i (.Pass ⟨0, 0, 0, 0⟩)
def clsB (s : Stmt) : List Stmt := match s with
  | .ClassDef _ _ _ b _ _ _ _ _ _ _ => b
  | _ => []
def mOrd : Stmt := (clsB (top 23)).getD 0 (.Pass ⟨0, 0, 0, 0⟩)
def mEqOrder : Stmt := (clsB (top 23)).getD 1 (.Pass ⟨0, 0, 0, 0⟩)
abbrev Fg := PySem.W.Frag
def clsR (s : Stmt) : List Stmt := match s with
  | .ClassDef _ _ _ b _ _ _ _ _ _ _ => b
  | _ => []
def mRef : Stmt := (clsR (top 1)).getD 0 (.Pass ⟨0, 0, 0, 0⟩)
def rv : T.RfW := some ("__init__", "Refused.__init__", defArgs mRef, FuncBody.stmts (defBody mRef), defScope mRef, mainGlobals, [("__class__" : Str)], builtinsNs)
def ex0 : Fg → Bool := T.errsB "Refused" ["BadSize", "BadPair", "NotOrder", "BadParent", "Round", "Unlike", "BadPlace", "IsLord"] PySem.Challenge.pw_nearlords_k45_houses_struck.main.file
def ex : Fg → Bool := fun K => ex0 K && (T.isaB "Order" K)
theorem exE {K : Fg} (h : ex K = true) : ex0 K = true := (He.ba h).1
theorem exIOrder {K : Fg} (h : ex K = true) : T.isaB "Order" K = true := (He.ba h).2
def n0 : List Str := ["Refused", "BadSize", "BadPair", "NotOrder", "BadPlace", "BadParent", "Round", "Unlike", "IsLord", "DOOR", "MOST", "want_size", "want_place", "comes_home", "made_house", "want_house", "lord", "lords", "MOST_PLACES", "Order", "check_size", "order_of_grid", "grid_of_pairs", "gap_of", "made_order", "kept", "thinned", "strike", "_law_pool", "_law_take"]
def n1 : List Str := ["_law_one", "_law_shuffled", "_law_closed", "_law_order", "_law_roads", "_law_house", "_law_lords", "_law_places", "_law_kept", "_law_names", "_law_told", "_law_struck_right", "_law_case"]
def loose : List Str := n0 ++ n1
def fn : List He.DefD := [⟨("Order", some "__eq__"), "__eq__", "Order.__eq__", defArgs mEqOrder, defBody mEqOrder, defScope mEqOrder, [], []⟩,
  ⟨("_law_take", none), "_law_take", "_law_take", defArgs (top 36), defBody (top 36), defScope (top 36), [], []⟩,
  ⟨("_law_shuffled", none), "_law_shuffled", "_law_shuffled", defArgs (top 38), defBody (top 38), defScope (top 38), [], []⟩,
  ⟨("_law_closed", none), "_law_closed", "_law_closed", defArgs (top 39), defBody (top 39), defScope (top 39), [], []⟩,
  ⟨("_law_order", none), "_law_order", "_law_order", defArgs (top 40), defBody (top 40), defScope (top 40), [], []⟩,
  ⟨("_law_roads", none), "_law_roads", "_law_roads", defArgs (top 41), defBody (top 41), defScope (top 41), [], []⟩,
  ⟨("_law_lords", none), "_law_lords", "_law_lords", defArgs (top 43), defBody (top 43), defScope (top 43), [], []⟩,
  ⟨("_law_one", none), "_law_one", "_law_one", defArgs (top 37), defBody (top 37), defScope (top 37), [], []⟩,
  ⟨("_law_names", none), "_law_names", "_law_names", defArgs (top 46), defBody (top 46), defScope (top 46), [], []⟩,
  ⟨("_law_places", none), "_law_places", "_law_places", defArgs (top 44), defBody (top 44), defScope (top 44), [], []⟩,
  ⟨("_law_house", none), "_law_house", "_law_house", defArgs (top 42), defBody (top 42), defScope (top 42), [], []⟩,
  ⟨("check_size", none), "check_size", "check_size", defArgs (top 24), defBody (top 24), defScope (top 24), [], []⟩,
  ⟨("grid_of_pairs", none), "grid_of_pairs", "grid_of_pairs", defArgs (top 26), defBody (top 26), defScope (top 26), [], []⟩,
  ⟨("gap_of", none), "gap_of", "gap_of", defArgs (top 27), defBody (top 27), defScope (top 27), [], []⟩,
  ⟨("order_of_grid", none), "order_of_grid", "order_of_grid", defArgs (top 25), defBody (top 25), defScope (top 25), [], []⟩,
  ⟨("made_order", none), "made_order", "made_order", defArgs (top 28), defBody (top 28), defScope (top 28), [], []⟩,
  ⟨("want_size", none), "want_size", "want_size", defArgs (top 13), defBody (top 13), defScope (top 13), [], []⟩,
  ⟨("comes_home", none), "comes_home", "comes_home", defArgs (top 15), defBody (top 15), defScope (top 15), [], []⟩,
  ⟨("made_house", none), "made_house", "made_house", defArgs (top 16), defBody (top 16), defScope (top 16), [], []⟩,
  ⟨("want_house", none), "want_house", "want_house", defArgs (top 17), defBody (top 17), defScope (top 17), [], []⟩,
  ⟨("lord", none), "lord", "lord", defArgs (top 19), defBody (top 19), defScope (top 19), [], []⟩,
  ⟨("lords", none), "lords", "lords", defArgs (top 20), defBody (top 20), defScope (top 20), [], []⟩,
  ⟨("want_place", none), "want_place", "want_place", defArgs (top 14), defBody (top 14), defScope (top 14), [], []⟩,
  ⟨("kept", none), "kept", "kept", defArgs (top 30), defBody (top 30), defScope (top 30), [], []⟩,
  ⟨("thinned", none), "thinned", "thinned", defArgs (top 32), defBody (top 32), defScope (top 32), [], []⟩,
  ⟨("strike", none), "strike", "strike", defArgs (top 33), defBody (top 33), defScope (top 33), [], []⟩,
  ⟨("_law_told", none), "_law_told", "_law_told", defArgs (top 47), defBody (top 47), defScope (top 47), [], []⟩,
  ⟨("_law_kept", none), "_law_kept", "_law_kept", defArgs (top 45), defBody (top 45), defScope (top 45), [], []⟩,
  ⟨("_law_struck_right", none), "_law_struck_right", "_law_struck_right", defArgs (top 48), defBody (top 48), defScope (top 48), [], []⟩,
  ⟨("_law_case", none), "_law_case", "_law_case", defArgs (top 49), defBody (top 49), defScope (top 49), [], []⟩,
  ⟨("_law_pool", none), "_law_pool", "_law_pool", defArgs (top 35), defBody (top 35), defScope (top 35), [], []⟩,
  ⟨("law", none), "law", "law", defArgs (top 50), defBody (top 50), defScope (top 50), [], []⟩,
  ⟨("Order", some "__init__"), "__init__", "Order.__init__", defArgs mOrd, defBody mOrd, defScope mOrd, [], []⟩]
def fa : List He.Fa := [.meth "Order" "__eq__", .glo "_law_take", .glo "_law_shuffled", .glo "_law_closed", .glo "_law_order", .glo "_law_roads", .glo "_law_lords", .glo "_law_one", .glo "_law_names", .glo "_law_places", .glo "_law_house", .glo "check_size", .glo "grid_of_pairs", .glo "gap_of", .glo "order_of_grid", .glo "made_order", .glo "want_size", .glo "comes_home", .glo "made_house", .glo "want_house", .glo "lord", .glo "lords", .glo "want_place", .glo "kept", .glo "thinned", .glo "strike", .glo "_law_told", .glo "_law_kept", .glo "_law_struck_right", .glo "_law_case", .glo "_law_pool", .glo "law", .free "any", .free "enumerate", .free "int", .free "isinstance", .free "len", .free "max", .free "min", .free "range", .free "sorted", .free "str", .free "tuple", .int "DOOR" (-1), .int "MOST" (16), .int "MOST_PLACES" (16), .glo "Order", .cls "Order", .noat "Order" "n", .noat "Order" "lesser", .mkr "Order", .glo "BadSize", .glo "BadPair", .glo "NotOrder", .glo "BadParent", .glo "Round", .glo "Unlike", .glo "BadPlace", .glo "IsLord", .glo "Refused", .exm "BadSize" "BadPlace" false, .exm "BadPair" "BadPlace" false, .exm "NotOrder" "BadPlace" false, .exm "BadParent" "BadPlace" false, .exm "Round" "BadPlace" false, .exm "Unlike" "BadPlace" false, .exm "BadPlace" "BadPlace" true, .exm "IsLord" "BadPlace" false, .exm "BadSize" "BadSize" true, .exm "BadPair" "BadSize" false, .exm "NotOrder" "BadSize" false, .exm "BadParent" "BadSize" false, .exm "Round" "BadSize" false, .exm "Unlike" "BadSize" false, .exm "BadPlace" "BadSize" false, .exm "IsLord" "BadSize" false, .exm "BadSize" "IsLord" false, .exm "BadPair" "IsLord" false, .exm "NotOrder" "IsLord" false, .exm "BadParent" "IsLord" false, .exm "Round" "IsLord" false, .exm "Unlike" "IsLord" false, .exm "BadPlace" "IsLord" false, .exm "IsLord" "IsLord" true, .exm "BadSize" "Refused" true, .exm "BadPair" "Refused" true, .exm "NotOrder" "Refused" true, .exm "BadParent" "Refused" true, .exm "Round" "Refused" true, .exm "Unlike" "Refused" true, .exm "BadPlace" "Refused" true, .exm "IsLord" "Refused" true, .exm "BadSize" "Unlike" false, .exm "BadPair" "Unlike" false, .exm "NotOrder" "Unlike" false, .exm "BadParent" "Unlike" false, .exm "Round" "Unlike" false, .exm "Unlike" "Unlike" true, .exm "BadPlace" "Unlike" false, .exm "IsLord" "Unlike" false, .free "super"]
abbrev R : PySem.W.OpenRow := PySem.W.OpenLaw.row PySem.Challenge.rw_nearlords_k45_houses_struck
abbrev hk : PySem.W.Hook := T.hookE 5 fa fn "Refused" rv ex
def ob (s : PySem.W.SharedT) : T.AlE := T.obsEG 5 fa fn "Refused" ex (HandSHeadRun.getT s)
theorem ob_eq (s : PySem.W.SharedT) : ob s = hk.obs s.abs := T.obsEG_eq (HandSHeadRun.getT_eq s)
theorem run (w : World) : HandSHeadRun.RunEq R (PySem.W.view R.prog [50]) hk ob 4000 loose w := by
  intro os
  kernel_rfl
end Hd
set_option maxHeartbeats 400000
namespace T
open PySem PySem.Spec PyProof.Rows L2
structure Fcts (P : Program) (w : World) (K : Fg) (mg : Str → Option Value) (base : Heap) (C : Addr) : Prop where
  f_any : mg "any" = none
  f_enumerate : mg "enumerate" = none
  f_int : mg "int" = none
  f_isinstance : mg "isinstance" = none
  f_len : mg "len" = none
  f_max : mg "max" = none
  f_min : mg "min" = none
  f_range : mg "range" = none
  f_sorted : mg "sorted" = none
  f_str : mg "str" = none
  f_tuple : mg "tuple" = none
  i_DOOR : ∃ t, mg "DOOR" = some (.int (-1) t)
  i_MOST : ∃ t, mg "MOST" = some (.int (16) t)
  i_MOST_PLACES : ∃ t, mg "MOST_PLACES" = some (.int (16) t)
  x_BadPair : RaiseC P w K mg base "BadPair"
  x_BadParent : RaiseC P w K mg base "BadParent"
  x_BadPlace : RaiseC P w K mg base "BadPlace"
  x_BadSize : RaiseC P w K mg base "BadSize"
  x_IsLord : RaiseC P w K mg base "IsLord"
  x_NotOrder : RaiseC P w K mg base "NotOrder"
  x_Round : RaiseC P w K mg base "Round"
  x_Unlike : RaiseC P w K mg base "Unlike"
  em_BadPlace : ∃ Cy, EmC K mg (["BadSize", "BadPair", "NotOrder", "BadParent", "Round", "Unlike", "BadPlace", "IsLord"] : List Str) "BadPlace" Cy (fun (x : Str) => x == "BadPlace")
  em_BadSize : ∃ Cy, EmC K mg (["BadSize", "BadPair", "NotOrder", "BadParent", "Round", "Unlike", "BadPlace", "IsLord"] : List Str) "BadSize" Cy (fun (x : Str) => x == "BadSize")
  em_IsLord : ∃ Cy, EmC K mg (["BadSize", "BadPair", "NotOrder", "BadParent", "Round", "Unlike", "BadPlace", "IsLord"] : List Str) "IsLord" Cy (fun (x : Str) => x == "IsLord")
  em_Refused : ∃ Cy, EmC K mg (["BadSize", "BadPair", "NotOrder", "BadParent", "Round", "Unlike", "BadPlace", "IsLord"] : List Str) "Refused" Cy (fun (_ : Str) => true)
  em_Unlike : ∃ Cy, EmC K mg (["BadSize", "BadPair", "NotOrder", "BadParent", "Round", "Unlike", "BadPlace", "IsLord"] : List Str) "Unlike" Cy (fun (x : Str) => x == "Unlike")
  ord : OrdC P w K mg base C
  isa_Order : IsaC K C
  d_Order__eq : DefE K C "Order.__eq__" (Hd.mEqOrder)
  d__law_take : DefF K mg "_law_take" (Hd.top 36)
  d__law_shuffled : DefF K mg "_law_shuffled" (Hd.top 38)
  d__law_closed : DefF K mg "_law_closed" (Hd.top 39)
  d__law_order : DefF K mg "_law_order" (Hd.top 40)
  d__law_roads : DefF K mg "_law_roads" (Hd.top 41)
  d__law_lords : DefF K mg "_law_lords" (Hd.top 43)
  d__law_one : DefF K mg "_law_one" (Hd.top 37)
  d__law_names : DefF K mg "_law_names" (Hd.top 46)
  d__law_places : DefF K mg "_law_places" (Hd.top 44)
  d__law_house : DefF K mg "_law_house" (Hd.top 42)
  d_check_size : DefF K mg "check_size" (Hd.top 24)
  d_grid_of_pairs : DefF K mg "grid_of_pairs" (Hd.top 26)
  d_gap_of : DefF K mg "gap_of" (Hd.top 27)
  d_order_of_grid : DefF K mg "order_of_grid" (Hd.top 25)
  d_made_order : DefF K mg "made_order" (Hd.top 28)
  d_want_size : DefF K mg "want_size" (Hd.top 13)
  d_comes_home : DefF K mg "comes_home" (Hd.top 15)
  d_made_house : DefF K mg "made_house" (Hd.top 16)
  d_want_house : DefF K mg "want_house" (Hd.top 17)
  d_lord : DefF K mg "lord" (Hd.top 19)
  d_lords : DefF K mg "lords" (Hd.top 20)
  d_want_place : DefF K mg "want_place" (Hd.top 14)
  d_kept : DefF K mg "kept" (Hd.top 30)
  d_thinned : DefF K mg "thinned" (Hd.top 32)
  d_strike : DefF K mg "strike" (Hd.top 33)
  d__law_told : DefF K mg "_law_told" (Hd.top 47)
  d__law_kept : DefF K mg "_law_kept" (Hd.top 45)
  d__law_struck_right : DefF K mg "_law_struck_right" (Hd.top 48)
  d__law_case : DefF K mg "_law_case" (Hd.top 49)
  d__law_pool : DefF K mg "_law_pool" (Hd.top 35)
  d_law : DefF K mg "law" (Hd.top 50)
noncomputable def m_Order__eq (a_self : (Int × List (List Int))) (a_other : (Int × List (List Int))) : Res Bool :=
  ((((Res.ok a_other) >>= fun _ => Res.ok true) >>= fun r1 => Res.ok r1) >>= fun k3 => if k3 = true then ((Res.ok (decide (a_self.1 = a_other.1))) >>= fun k2 => if k2 = true then (Res.ok (decide (a_self.2 = a_other.2))) else Res.ok false) else Res.ok false) >>= fun r4 => Res.ok r4
noncomputable def s_Order__eq (C : Addr) : Fn ((Int × List (List Int)) × (Int × List (List Int)) × Unit) Bool where
  ins := fun x => [(va (cOrd C) x.1), (va (cOrd C) x.2.1)]
  m := fun x => m_Order__eq x.1 x.2.1
  outs := fun x r => [un, un]
  ret := fun x r => (va cBool r)
theorem sc_Order__eq : FnScope ["self", "other"] ["self", "other"] (defScope (Hd.mEqOrder)) := ⟨rfl, rfl, rfl, by decide +kernel, rfl, by decide +kernel, by decide +kernel⟩
noncomputable def m__law_take (a_source : (List Int)) (a_top : Int) : Res (Int × (List Int)) :=
  (((Res.ok a_source) >>= fun a1 => (Res.ok (0 : Int)) >>= fun i2 => lift (atI a1 i2)) >>= fun x3 => (Res.ok (0 : Int)) >>= fun y4 => Res.ok (decide (y4 < x3))) >>= fun k43 => if k43 = true then (((((Res.ok a_source) >>= fun a5 => (Res.ok (0 : Int)) >>= fun i6 => lift (atI a5 i6)) >>= fun i7 => Res.ok i7) >>= fun i8 => (Res.ok a_top) >>= fun j9 => lift (modO i8 j9)) >>= fun r10 => (((Res.ok a_source) >>= fun a11 => (Res.ok (0 : Int)) >>= fun i12 => lift (atI a11 i12)) >>= fun i13 => (Res.ok a_top) >>= fun j14 => lift (divO i13 j14)) >>= fun r15 => lift (setI a_source (0 : Int) r15) >>= fun ys16 => Res.ok (r10, ys16)) else (((((((Res.ok a_source) >>= fun a17 => (Res.ok (1 : Int)) >>= fun i18 => lift (atI a17 i18)) >>= fun i19 => (Res.ok (39373 : Int)) >>= fun j20 => lift (mulO i19 j20)) >>= fun i21 => (Res.ok (7 : Int)) >>= fun j22 => Res.ok (i21 + j22)) >>= fun i23 => Res.ok i23) >>= fun i24 => (Res.ok (2147483647 : Int)) >>= fun j25 => lift (modO i24 j25)) >>= fun r26 => lift (setI a_source (1 : Int) r26) >>= fun ys27 => ((((((((Res.ok ys27) >>= fun a28 => (Res.ok (1 : Int)) >>= fun i29 => lift (atI a28 i29)) >>= fun i32 => ((Res.ok ys27) >>= fun a30 => (Res.ok (1 : Int)) >>= fun i31 => lift (atI a30 i31)) >>= fun j33 => lift (mulO i32 j33)) >>= fun i34 => Res.ok i34) >>= fun i35 => (Res.ok (2147483629 : Int)) >>= fun j36 => lift (modO i35 j36)) >>= fun i37 => (Res.ok (32 : Int)) >>= fun j38 => lift (divO i37 j38)) >>= fun i39 => Res.ok i39) >>= fun i40 => (Res.ok a_top) >>= fun j41 => lift (modO i40 j41)) >>= fun r42 => Res.ok (r42, ys27))
noncomputable def s__law_take (C : Addr) : Fn ((List Int) × Int × Unit) (Int × (List Int)) where
  ins := fun x => [(ow (oLst cInt) x.1), (va cInt x.2.1)]
  m := fun x => m__law_take x.1 x.2.1
  outs := fun x r => [(ow (oLst cInt) r.2), un]
  ret := fun x r => (va cInt r.1)
theorem sc__law_take : FnScope ["source", "top", "digit"] ["source", "top"] (defScope (Hd.top 36)) := ⟨rfl, rfl, rfl, by decide +kernel, rfl, by decide +kernel, by decide +kernel⟩
noncomputable def m__law_shuffled (a_source : (List Int)) (a_count : Int) : Res ((List Int) × (List Int)) :=
  lift (rngO 0 a_count) >>= fun xs1 => compF xs1 () [] (fun x4 (s2 : Unit) => Res.ok (some x4, ())) >>= fun p3 => lift (rngO 0 a_count) >>= fun xs5 => forS xs5 (a_source, p3.1, ([] : List Int)) (fun x7 (s6 : ((List Int) × (List Int) × (List Int))) => m__law_take s6.1 (List.length s6.2.1 : Int) >>= fun r8 => lift (popI s6.2.1 r8.1) >>= fun p9 => lift (appO s6.2.2 p9.1) >>= fun ys10 => Res.ok (r8.2, p9.2, ys10)) >>= fun s6 => Res.ok (s6.2.2, s6.1)
noncomputable def s__law_shuffled (C : Addr) : Fn ((List Int) × Int × Unit) ((List Int) × (List Int)) where
  ins := fun x => [(ow (oLst cInt) x.1), (va cInt x.2.1)]
  m := fun x => m__law_shuffled x.1 x.2.1
  outs := fun x r => [(ow (oLst cInt) r.2), un]
  ret := fun x r => (ow (oLst cInt) r.1)
theorem sc__law_shuffled : FnScope ["source", "count", "left", "found", "x", "turn"] ["source", "count"] (defScope (Hd.top 38)) := ⟨rfl, rfl, rfl, by decide +kernel, rfl, by decide +kernel, by decide +kernel⟩
noncomputable def m__law_closed (a_n : Int) (a_pairs : (List (Int × Int))) : Res (List (Int × Int)) :=
  compF a_pairs () [] (fun x3 (s1 : Unit) => Res.ok (some x3, ())) >>= fun p2 => lift (rngO 0 a_n) >>= fun xs4 => forS xs4 p2.1 (fun x6 (s5 : (List (Int × Int))) => compF s5 () [] (fun x9 (s7 : Unit) => if (decide (x9.2 = x6)) = true then (Res.ok (some x9.1, ())) else Res.ok (none, ())) >>= fun p8 => compF s5 () [] (fun x12 (s10 : Unit) => if (decide (x12.1 = x6)) = true then (Res.ok (some x12.2, ())) else Res.ok (none, ())) >>= fun p11 => forS p8.1 s5 (fun x14 (s13 : (List (Int × Int))) => forS p11.1 s13 (fun x16 (s15 : (List (Int × Int))) => if (!memb (x14, x16) s15) = true then (lift (appO s15 (x14, x16)) >>= fun ys19 => Res.ok ys19) else (Res.ok s15)) >>= fun s15 => Res.ok s15) >>= fun s13 => Res.ok s13) >>= fun s5 => Res.ok (sortP s5)
noncomputable def s__law_closed (C : Addr) : Fn (Int × (List (Int × Int)) × Unit) (List (Int × Int)) where
  ins := fun x => [(va cInt x.1), (va (cLst (cPr cInt cInt)) x.2.1)]
  m := fun x => m__law_closed x.1 x.2.1
  outs := fun x r => [un, un]
  ret := fun x r => (va (cLst (cPr cInt cInt)) r)
theorem sc__law_closed : FnScope ["n", "pairs", "found", "pair", "y", "lows", "highs", "a", "b"] ["n", "pairs"] (defScope (Hd.top 39)) := ⟨rfl, rfl, rfl, by decide +kernel, rfl, by decide +kernel, by decide +kernel⟩
noncomputable def m__law_order (a_source : (List Int)) (a_n : Int) : Res ((Int × (List (Int × Int))) × (List Int)) :=
  m__law_shuffled a_source a_n >>= fun r1 => m__law_take r1.2 (8 : Int) >>= fun r2 => lift (rngO 0 a_n) >>= fun xs3 => compF xs3 r2.2 [] (fun x6 (s4 : (List Int)) => m__law_take s4 (3 : Int) >>= fun r7 => Res.ok (some r7.1, r7.2)) >>= fun p5 => m__law_take p5.2 (3 : Int) >>= fun r8 => lift (rngO 0 a_n) >>= fun xs9 => forS xs9 (r8.2, ([] : List (Int × Int))) (fun x11 (s10 : ((List Int) × (List (Int × Int)))) => lift (rngO 0 x11) >>= fun xs12 => forS xs12 (s10.1, s10.2) (fun x14 (s13 : ((List Int) × (List (Int × Int)))) => (((Res.ok (decide (r2.1 = (0 : Int)))) >>= fun k17 => Res.ok (k17, s13.1)) >>= fun p18 => if p18.1 = true then Res.ok (true, p18.2) else ((((Res.ok (decide (r2.1 < (3 : Int)))) >>= fun k20 => Res.ok (k20, p18.2)) >>= fun p21 => if p21.1 = true then ((((Res.ok p5.1) >>= fun a23 => (Res.ok x14) >>= fun i24 => lift (atI a23 i24)) >>= fun x27 => ((Res.ok p5.1) >>= fun a25 => (Res.ok x11) >>= fun i26 => lift (atI a25 i26)) >>= fun y28 => Res.ok (decide (x27 < y28))) >>= fun k29 => Res.ok (k29, p21.2)) else Res.ok (false, p21.2)) >>= fun p37 => if p37.1 = true then Res.ok (true, p37.2) else (((Res.ok (decide ((3 : Int) < r2.1))) >>= fun k39 => Res.ok (k39, p37.2)) >>= fun p40 => if p40.1 = true then ((m__law_take p40.2 (4 : Int) >>= fun r42 => Res.ok (r42.1, r42.2)) >>= fun p43 => (Res.ok (((1 : Int) + r8.1), p43.2)) >>= fun q44 => Res.ok ((decide (p43.1 < q44.1)), q44.2)) else Res.ok (false, p40.2)))) >>= fun p16 => if p16.1 = true then ((((Res.ok r1.1) >>= fun a102 => (Res.ok x14) >>= fun i103 => lift (atI a102 i103)) >>= fun a106 => ((Res.ok r1.1) >>= fun a104 => (Res.ok x11) >>= fun i105 => lift (atI a104 i105)) >>= fun b107 => Res.ok (a106, b107)) >>= fun r108 => lift (appO s13.2 r108) >>= fun ys109 => Res.ok (p16.2, ys109)) else (Res.ok (p16.2, s13.2))) >>= fun s13 => Res.ok (s13.1, s13.2)) >>= fun s10 => ((Res.ok a_n) >>= fun a110 => (m__law_closed a_n s10.2) >>= fun b111 => Res.ok (a110, b111)) >>= fun r112 => Res.ok (r112, s10.1)
noncomputable def s__law_order (C : Addr) : Fn ((List Int) × Int × Unit) ((Int × (List (Int × Int))) × (List Int)) where
  ins := fun x => [(ow (oLst cInt) x.1), (va cInt x.2.1)]
  m := fun x => m__law_order x.1 x.2.1
  outs := fun x r => [(ow (oLst cInt) r.2), un]
  ret := fun x r => (va (cPr cInt (cLst (cPr cInt cInt))) r.1)
theorem sc__law_order : FnScope ["source", "n", "names", "kind", "pairs", "ranks", "x", "share", "b", "a"] ["source", "n"] (defScope (Hd.top 40)) := ⟨rfl, rfl, rfl, by decide +kernel, rfl, by decide +kernel, by decide +kernel⟩
noncomputable def m__law_roads (a_house : (List Int)) : Res (List (List Int)) :=
  lift (rngO 0 (List.length a_house : Int)) >>= fun xs1 => forS xs1 ([] : List (List Int)) (fun x3 (s2 : (List (List Int))) => ((Res.ok a_house) >>= fun a4 => (Res.ok x3) >>= fun i5 => lift (atI a4 i5)) >>= fun r6 => lift (rngO 0 (List.length a_house : Int)) >>= fun xs7 => forS xs7 [r6] (fun x9 (s8 : (List Int)) => (((Res.ok s8) >>= fun a10 => (Res.ok (-(1 : Int))) >>= fun i11 => lift (atI a10 i11)) >>= fun x12 => (Res.ok (0 : Int)) >>= fun y13 => Res.ok (decide (y13 ≤ x12))) >>= fun k20 => if k20 = true then (((Res.ok a_house) >>= fun a16 => ((Res.ok s8) >>= fun a14 => (Res.ok (-(1 : Int))) >>= fun i15 => lift (atI a14 i15)) >>= fun i17 => lift (atI a16 i17)) >>= fun r18 => lift (appO s8 r18) >>= fun ys19 => Res.ok ys19) else (Res.ok s8)) >>= fun s8 => lift (appO s2 s8) >>= fun ys21 => Res.ok ys21) >>= fun s2 => Res.ok s2
noncomputable def s__law_roads (C : Addr) : Fn ((List Int) × Unit) (List (List Int)) where
  ins := fun x => [(va (cTup cInt) x.1)]
  m := fun x => m__law_roads x.1
  outs := fun x r => [un]
  ret := fun x r => (va (cLst (cLst cInt)) r)
theorem sc__law_roads : FnScope ["house", "told", "x", "row", "turn"] ["house"] (defScope (Hd.top 41)) := ⟨rfl, rfl, rfl, by decide +kernel, rfl, by decide +kernel, by decide +kernel⟩
noncomputable def m__law_lords (a_pairs : (List (Int × Int))) (a_house : (List Int)) : Res (List Int) :=
  (m__law_roads a_house) >>= fun r1 => lift (rngO 0 (List.length a_house : Int)) >>= fun xs2 => forS xs2 ([] : List Int) (fun x4 (s3 : (List Int)) => ((Res.ok r1) >>= fun a5 => (Res.ok x4) >>= fun i6 => lift (atI a5 i6)) >>= fun r7 => compF r7 () [] (fun x10 (s8 : Unit) => if (!memb (x10, x4) a_pairs) = true then (Res.ok (some x10, ())) else Res.ok (none, ())) >>= fun p9 => lift (atI p9.1 (0 : Int)) >>= fun z13 => lift (appO s3 z13) >>= fun ys14 => Res.ok ys14) >>= fun s3 => Res.ok s3
noncomputable def s__law_lords (C : Addr) : Fn ((List (Int × Int)) × (List Int) × Unit) (List Int) where
  ins := fun x => [(va (cLst (cPr cInt cInt)) x.1), (va (cTup cInt) x.2.1)]
  m := fun x => m__law_lords x.1 x.2.1
  outs := fun x r => [un, un]
  ret := fun x r => (va (cLst cInt) r)
theorem sc__law_lords : FnScope ["pairs", "house", "told", "roads", "x", "y"] ["pairs", "house"] (defScope (Hd.top 43)) := ⟨rfl, rfl, rfl, by decide +kernel, rfl, by decide +kernel, by decide +kernel⟩
noncomputable def m__law_one (a_source : (List Int)) (a_things : (List Int)) : Res (Int × (List Int)) :=
  m__law_take a_source (List.length a_things : Int) >>= fun r1 => lift (atI a_things r1.1) >>= fun z2 => Res.ok (z2, r1.2)
noncomputable def s__law_one (C : Addr) : Fn ((List Int) × (List Int) × Unit) (Int × (List Int)) where
  ins := fun x => [(ow (oLst cInt) x.1), (va (cLst cInt) x.2.1)]
  m := fun x => m__law_one x.1 x.2.1
  outs := fun x r => [(ow (oLst cInt) r.2), un]
  ret := fun x r => (va cInt r.1)
theorem sc__law_one : FnScope ["source", "things"] ["source", "things"] (defScope (Hd.top 37)) := ⟨rfl, rfl, rfl, by decide +kernel, rfl, by decide +kernel, by decide +kernel⟩
noncomputable def m__law_names (a_source : (List Int)) (a_n : Int) : Res (Int × (List Int)) :=
  m__law_one a_source [(-(1 : Int)), (-(2 : Int)), a_n, (a_n + (((10 : Int)) ^ ((9 : Int)).toNat))] >>= fun r1 => Res.ok (r1.1, r1.2)
noncomputable def s__law_names (C : Addr) : Fn ((List Int) × Int × Unit) (Int × (List Int)) where
  ins := fun x => [(ow (oLst cInt) x.1), (va cInt x.2.1)]
  m := fun x => m__law_names x.1 x.2.1
  outs := fun x r => [(ow (oLst cInt) r.2), un]
  ret := fun x r => (va cInt r.1)
theorem sc__law_names : FnScope ["source", "n"] ["source", "n"] (defScope (Hd.top 46)) := ⟨rfl, rfl, rfl, by decide +kernel, rfl, by decide +kernel, by decide +kernel⟩
noncomputable def m__law_places (a_source : (List Int)) : Res (Int × (List Int)) :=
  m__law_one a_source [(1 : Int), (2 : Int), (3 : Int), (3 : Int), (4 : Int), (4 : Int), (5 : Int), (5 : Int), (6 : Int)] >>= fun r1 => Res.ok (r1.1, r1.2)
noncomputable def s__law_places (C : Addr) : Fn ((List Int) × Unit) (Int × (List Int)) where
  ins := fun x => [(ow (oLst cInt) x.1)]
  m := fun x => m__law_places x.1
  outs := fun x r => [(ow (oLst cInt) r.2)]
  ret := fun x r => (va cInt r.1)
theorem sc__law_places : FnScope ["source"] ["source"] (defScope (Hd.top 44)) := ⟨rfl, rfl, rfl, by decide +kernel, rfl, by decide +kernel, by decide +kernel⟩
noncomputable def m__law_house (a_source : (List Int)) (a_n : Int) : Res ((List Int) × (List Int)) :=
  m__law_shuffled a_source a_n >>= fun r1 => m__law_take r1.2 (5 : Int) >>= fun r2 => lift (repO [(-(1 : Int))] a_n) >>= fun z3 => lift (rngO (1 : Int) a_n) >>= fun xs4 => forS xs4 (r2.2, z3) (fun x6 (s5 : ((List Int) × (List Int))) => m__law_take s5.1 (x6 + (1 : Int)) >>= fun r7 => ((((Res.ok (decide (r2.1 = (0 : Int)))) >>= fun k38 => Res.ok (k38, r7.2)) >>= fun p39 => if p39.1 = true then Res.ok (true, p39.2) else (((Res.ok (decide (r2.1 = (1 : Int)))) >>= fun k41 => Res.ok (k41, p39.2)) >>= fun p42 => if p42.1 = true then ((m__law_take p42.2 (2 : Int) >>= fun r44 => Res.ok (r44.1, r44.2)) >>= fun p45 => (Res.ok ((0 : Int), p45.2)) >>= fun q46 => Res.ok ((decide (p45.1 = q46.1)), q46.2)) else Res.ok (false, p42.2))) >>= fun p37 => if p37.1 = true then (Res.ok (p37.2, x6)) else (Res.ok (p37.2, r7.1))) >>= fun s35 => if (decide ((0 : Int) < s35.2)) = true then (((Res.ok r1.1) >>= fun a63 => (Res.ok (s35.2 - (1 : Int))) >>= fun i64 => lift (atI a63 i64)) >>= fun r65 => ((Res.ok r1.1) >>= fun a66 => (Res.ok x6) >>= fun i67 => lift (atI a66 i67)) >>= fun j69 => lift (setI s5.2 j69 r65) >>= fun ys68 => Res.ok (s35.1, ys68)) else (Res.ok (s35.1, s5.2))) >>= fun s5 => Res.ok (s5.2, s5.1)
noncomputable def s__law_house (C : Addr) : Fn ((List Int) × Int × Unit) ((List Int) × (List Int)) where
  ins := fun x => [(ow (oLst cInt) x.1), (va cInt x.2.1)]
  m := fun x => m__law_house x.1 x.2.1
  outs := fun x r => [(ow (oLst cInt) r.2), un]
  ret := fun x r => (va (cTup cInt) r.1)
theorem sc__law_house : FnScope ["source", "n", "names", "kind", "parents", "k", "at"] ["source", "n"] (defScope (Hd.top 42)) := ⟨rfl, rfl, rfl, by decide +kernel, rfl, by decide +kernel, by decide +kernel⟩
noncomputable def m_check_size (a_n : Int) : Res Unit :=
  if (!(decide ((1 : Int) ≤ a_n) && decide (a_n ≤ (16 : Int)))) = true then (Res.exc (⟨"BadSize", (fun (i : Int) => PyData.int i) a_n⟩ : Exn)) else (Res.ok ())
noncomputable def s_check_size (C : Addr) : Fn (Int × Unit) Unit where
  ins := fun x => [(va cInt x.1)]
  m := fun x => m_check_size x.1
  outs := fun x r => [un]
  ret := fun x r => (va cNon r)
theorem sc_check_size : FnScope ["n"] ["n"] (defScope (Hd.top 24)) := ⟨rfl, rfl, rfl, by decide +kernel, rfl, by decide +kernel, by decide +kernel⟩
noncomputable def m_grid_of_pairs (a_n : Int) (a_pairs : (List (Int × Int))) : Res (List (List Bool)) :=
  (m_check_size a_n) >>= fun r1 => lift (rngO 0 a_n) >>= fun xs2 => compF xs2 () [] (fun x5 (s3 : Unit) => lift (repO [false] a_n) >>= fun z6 => Res.ok (some z6, ())) >>= fun p4 => forS (numb a_pairs) p4.1 (fun x8 (s7 : (List (List Bool))) => if ((!(decide ((0 : Int) ≤ x8.2.1) && decide (x8.2.1 < a_n))) || ((!(decide ((0 : Int) ≤ x8.2.2) && decide (x8.2.2 < a_n))) || (decide (x8.2.1 = x8.2.2)))) = true then (Res.exc (⟨"BadPair", (fun (i : Int) => PyData.int i) x8.1⟩ : Exn)) else (lift (setG s7 x8.2.1 x8.2.2 true) >>= fun ys9 => Res.ok ys9)) >>= fun s7 => Res.ok s7
noncomputable def s_grid_of_pairs (C : Addr) : Fn (Int × (List (Int × Int)) × Unit) (List (List Bool)) where
  ins := fun x => [(va cInt x.1), (va (cTup (cPr cInt cInt)) x.2.1)]
  m := fun x => m_grid_of_pairs x.1 x.2.1
  outs := fun x r => [un, un]
  ret := fun x r => (va (cLst (cLst cBool)) r)
theorem sc_grid_of_pairs : FnScope ["n", "pairs", "grid", "_", "index", "x", "y"] ["n", "pairs"] (defScope (Hd.top 26)) := ⟨rfl, rfl, rfl, by decide +kernel, rfl, by decide +kernel, by decide +kernel⟩
noncomputable def m_gap_of (a_grid : (List (List Bool))) : Res (Option (Int × Int)) :=
  lift (rngO 0 (List.length a_grid : Int)) >>= fun xs1 => forC (ρ := (Option (Int × Int))) xs1 () (fun x3 (s2 : Unit) => lift (rngO 0 (List.length a_grid : Int)) >>= fun xs4 => forC (ρ := (Option (Int × Int))) xs4 () (fun x6 (s5 : Unit) => (((((Res.ok a_grid) >>= fun a9 => (Res.ok x3) >>= fun i10 => lift (atI a9 i10)) >>= fun a7 => (Res.ok x6) >>= fun i8 => lift (atI a7 i8)) >>= fun k11 => Res.ok (!k11)) >>= fun k26 => if k26 = true then (lift (rngO 0 (List.length a_grid : Int)) >>= fun xs12 => compF xs12 () [] (fun x15 (s13 : Unit) => ((((Res.ok a_grid) >>= fun a18 => (Res.ok x3) >>= fun i19 => lift (atI a18 i19)) >>= fun a16 => (Res.ok x15) >>= fun i17 => lift (atI a16 i17)) >>= fun k24 => if k24 = true then (((Res.ok a_grid) >>= fun a22 => (Res.ok x15) >>= fun i23 => lift (atI a22 i23)) >>= fun a20 => (Res.ok x6) >>= fun i21 => lift (atI a20 i21)) else Res.ok false) >>= fun r25 => Res.ok (some r25, ())) >>= fun p14 => Res.ok (List.any p14.1 id)) else Res.ok false) >>= fun k27 => if k27 = true then (Res.ok (.rt (some (x3, x6)))) else (Res.ok (.nx ()))) >>= fun q28 => (match q28 with | .done s5 => Res.ok (.nx ()) | .rt r => Res.ok (.rt r))) >>= fun q29 => (match q29 with | .done s2 => Res.ok none | .rt r => Res.ok r)
noncomputable def s_gap_of (C : Addr) : Fn ((List (List Bool)) × Unit) (Option (Int × Int)) where
  ins := fun x => [(va (cLst (cLst cBool)) x.1)]
  m := fun x => m_gap_of x.1
  outs := fun x r => [un]
  ret := fun x r => (va (cOpt (cPr cInt cInt)) r)
theorem sc_gap_of : FnScope ["grid", "n", "x", "z", "y"] ["grid"] (defScope (Hd.top 27)) := ⟨rfl, rfl, rfl, by decide +kernel, rfl, by decide +kernel, by decide +kernel⟩
noncomputable def m_order_of_grid (a_grid : (List (List Bool))) : Res (Int × List (List Int)) :=
  lift (rngO 0 (List.length a_grid : Int)) >>= fun xs1 => compF xs1 () [] (fun x4 (s2 : Unit) => lift (rngO 0 (List.length a_grid : Int)) >>= fun xs5 => compF xs5 () [] (fun x8 (s6 : Unit) => (((Res.ok a_grid) >>= fun a11 => (Res.ok x8) >>= fun i12 => lift (atI a11 i12)) >>= fun a9 => (Res.ok x4) >>= fun i10 => lift (atI a9 i10)) >>= fun k13 => if k13 = true then (Res.ok (some x8, ())) else Res.ok (none, ())) >>= fun p7 => Res.ok (some p7.1, ())) >>= fun p3 => Res.ok ((List.length a_grid : Int), p3.1)
noncomputable def s_order_of_grid (C : Addr) : Fn ((List (List Bool)) × Unit) (Int × List (List Int)) where
  ins := fun x => [(va (cLst (cLst cBool)) x.1)]
  m := fun x => m_order_of_grid x.1
  outs := fun x r => [un]
  ret := fun x r => (va (cOrd C) r)
theorem sc_order_of_grid : FnScope ["grid", "n", "x", "y"] ["grid"] (defScope (Hd.top 25)) := ⟨rfl, rfl, rfl, by decide +kernel, rfl, by decide +kernel, by decide +kernel⟩
noncomputable def m_made_order (a_n : Int) (a_pairs : (List (Int × Int))) : Res (Int × List (List Int)) :=
  (m_grid_of_pairs a_n a_pairs) >>= fun r1 => (m_gap_of r1) >>= fun r2 => if (r2.isSome) = true then (Res.exc (⟨"NotOrder", (optD (fun (p : (Int × Int)) => PyData.tuple [(fun (i : Int) => PyData.int i) p.1, (fun (i : Int) => PyData.int i) p.2])) r2⟩ : Exn)) else ((m_order_of_grid r1) >>= fun r3 => Res.ok r3)
noncomputable def s_made_order (C : Addr) : Fn (Int × (List (Int × Int)) × Unit) (Int × List (List Int)) where
  ins := fun x => [(va cInt x.1), (va (cTup (cPr cInt cInt)) x.2.1)]
  m := fun x => m_made_order x.1 x.2.1
  outs := fun x r => [un, un]
  ret := fun x r => (va (cOrd C) r)
theorem sc_made_order : FnScope ["n", "pairs", "grid", "gap"] ["n", "pairs"] (defScope (Hd.top 28)) := ⟨rfl, rfl, rfl, by decide +kernel, rfl, by decide +kernel, by decide +kernel⟩
noncomputable def m_want_size (a_n : Int) : Res Unit :=
  if (!(decide ((1 : Int) ≤ a_n) && decide (a_n ≤ (16 : Int)))) = true then (Res.exc (⟨"BadSize", (fun (i : Int) => PyData.int i) a_n⟩ : Exn)) else (Res.ok ())
noncomputable def s_want_size (C : Addr) : Fn (Int × Unit) Unit where
  ins := fun x => [(va cInt x.1)]
  m := fun x => m_want_size x.1
  outs := fun x r => [un]
  ret := fun x r => (va cNon r)
theorem sc_want_size : FnScope ["n"] ["n"] (defScope (Hd.top 13)) := ⟨rfl, rfl, rfl, by decide +kernel, rfl, by decide +kernel, by decide +kernel⟩
noncomputable def m_comes_home (a_parents : (List Int)) (a_x : Int) : Res Bool :=
  lift (rngO 0 (List.length a_parents : Int)) >>= fun xs1 => forC (ρ := Bool) xs1 a_x (fun x3 (s2 : Int) => ((Res.ok a_parents) >>= fun a4 => (Res.ok s2) >>= fun i5 => lift (atI a4 i5)) >>= fun r6 => if (decide (r6 = (-1 : Int))) = true then (Res.ok (.rt true)) else (Res.ok (.nx r6))) >>= fun q7 => (match q7 with | .done s2 => Res.ok false | .rt r => Res.ok r)
noncomputable def s_comes_home (C : Addr) : Fn ((List Int) × Int × Unit) Bool where
  ins := fun x => [(va (cTup cInt) x.1), (va cInt x.2.1)]
  m := fun x => m_comes_home x.1 x.2.1
  outs := fun x r => [un, un]
  ret := fun x r => (va cBool r)
theorem sc_comes_home : FnScope ["parents", "x", "here", "_"] ["parents", "x"] (defScope (Hd.top 15)) := ⟨rfl, rfl, rfl, by decide +kernel, rfl, by decide +kernel, by decide +kernel⟩
noncomputable def m_made_house (a_parents : (List Int)) : Res (List Int) :=
  (m_want_size (List.length a_parents : Int)) >>= fun r1 => forS (numb a_parents) () (fun x3 (s2 : Unit) => if ((decide (x3.2 = x3.1)) || (!(decide ((-1 : Int) ≤ x3.2) && decide (x3.2 < (List.length a_parents : Int))))) = true then (Res.exc (⟨"BadParent", (fun (i : Int) => PyData.int i) x3.1⟩ : Exn)) else (Res.ok ())) >>= fun s2 => lift (rngO 0 (List.length a_parents : Int)) >>= fun xs4 => forS xs4 () (fun x6 (s5 : Unit) => ((m_comes_home a_parents x6) >>= fun k7 => Res.ok (!k7)) >>= fun k8 => if k8 = true then (Res.exc (⟨"Round", (fun (i : Int) => PyData.int i) x6⟩ : Exn)) else (Res.ok ())) >>= fun s5 => Res.ok a_parents
noncomputable def s_made_house (C : Addr) : Fn ((List Int) × Unit) (List Int) where
  ins := fun x => [(va (cTup cInt) x.1)]
  m := fun x => m_made_house x.1
  outs := fun x r => [un]
  ret := fun x r => (va (cTup cInt) r)
theorem sc_made_house : FnScope ["parents", "x", "parent"] ["parents"] (defScope (Hd.top 16)) := ⟨rfl, rfl, rfl, by decide +kernel, rfl, by decide +kernel, by decide +kernel⟩
noncomputable def m_want_house (a_order : (Int × List (List Int))) (a_house : (List Int)) : Res (List Int) :=
  (m_made_house a_house) >>= fun r1 => if (!decide ((List.length a_house : Int) = a_order.1)) = true then (Res.exc (⟨"Unlike", (fun (i : Int) => PyData.int i) (List.length a_house : Int)⟩ : Exn)) else (Res.ok a_house)
noncomputable def s_want_house (C : Addr) : Fn ((Int × List (List Int)) × (List Int) × Unit) (List Int) where
  ins := fun x => [(va (cOrd C) x.1), (va (cTup cInt) x.2.1)]
  m := fun x => m_want_house x.1 x.2.1
  outs := fun x r => [un, un]
  ret := fun x r => (va (cTup cInt) r)
theorem sc_want_house : FnScope ["order", "house"] ["order", "house"] (defScope (Hd.top 17)) := ⟨rfl, rfl, rfl, by decide +kernel, rfl, by decide +kernel, by decide +kernel⟩
noncomputable def m_lord (a_order : (Int × List (List Int))) (a_house : (List Int)) (a_x : Int) : Res Int :=
  ((Res.ok a_house) >>= fun a1 => (Res.ok a_x) >>= fun i2 => lift (atI a1 i2)) >>= fun r3 => whileF fuel r3 (fun (s4 : Int) => (Res.ok s4) >>= fun x5 => ((Res.ok a_order.2) >>= fun a7 => (Res.ok a_x) >>= fun i8 => lift (atI a7 i8)) >>= fun xs6 => Res.ok (memb x5 xs6)) (fun (s4 : Int) => ((Res.ok a_house) >>= fun a9 => (Res.ok s4) >>= fun i10 => lift (atI a9 i10)) >>= fun r11 => Res.ok r11) >>= fun s4 => Res.ok s4
noncomputable def s_lord (C : Addr) : Fn ((Int × List (List Int)) × (List Int) × Int × Unit) Int where
  ins := fun x => [(va (cOrd C) x.1), (va (cTup cInt) x.2.1), (va cInt x.2.2.1)]
  m := fun x => m_lord x.1 x.2.1 x.2.2.1
  outs := fun x r => [un, un, un]
  ret := fun x r => (va cInt r)
theorem sc_lord : FnScope ["order", "house", "x", "here"] ["order", "house", "x"] (defScope (Hd.top 19)) := ⟨rfl, rfl, rfl, by decide +kernel, rfl, by decide +kernel, by decide +kernel⟩
noncomputable def m_lords (a_order : (Int × List (List Int))) (a_house : (List Int)) : Res (List Int) :=
  (m_want_house a_order a_house) >>= fun r1 => lift (rngO 0 a_order.1) >>= fun xs2 => compF xs2 () [] (fun x5 (s3 : Unit) => (m_lord a_order a_house x5) >>= fun r6 => Res.ok (some r6, ())) >>= fun p4 => Res.ok p4.1
noncomputable def s_lords (C : Addr) : Fn ((Int × List (List Int)) × (List Int) × Unit) (List Int) where
  ins := fun x => [(va (cOrd C) x.1), (va (cTup cInt) x.2.1)]
  m := fun x => m_lords x.1 x.2.1
  outs := fun x r => [un, un]
  ret := fun x r => (va (cTup cInt) r)
theorem sc_lords : FnScope ["order", "house", "x"] ["order", "house"] (defScope (Hd.top 20)) := ⟨rfl, rfl, rfl, by decide +kernel, rfl, by decide +kernel, by decide +kernel⟩
noncomputable def m_want_place (a_n : Int) (a_x : Int) : Res Unit :=
  if (!(decide ((0 : Int) ≤ a_x) && decide (a_x < a_n))) = true then (Res.exc (⟨"BadPlace", (fun (i : Int) => PyData.int i) a_x⟩ : Exn)) else (Res.ok ())
noncomputable def s_want_place (C : Addr) : Fn (Int × Int × Unit) Unit where
  ins := fun x => [(va cInt x.1), (va cInt x.2.1)]
  m := fun x => m_want_place x.1 x.2.1
  outs := fun x r => [un, un]
  ret := fun x r => (va cNon r)
theorem sc_want_place : FnScope ["n", "x"] ["n", "x"] (defScope (Hd.top 14)) := ⟨rfl, rfl, rfl, by decide +kernel, rfl, by decide +kernel, by decide +kernel⟩
noncomputable def m_kept (a_order : (Int × List (List Int))) (a_places : (List Int)) : Res (Int × List (List Int)) :=
  if (decide ((List.length a_places : Int) = (0 : Int))) = true then (Res.exc (⟨"BadSize", (fun (i : Int) => PyData.int i) (0 : Int)⟩ : Exn)) else (forS a_places (-(1 : Int)) (fun x2 (s1 : Int) => if (!(decide (s1 < x2) && decide (x2 < a_order.1))) = true then (Res.exc (⟨"BadPlace", (fun (i : Int) => PyData.int i) x2⟩ : Exn)) else (Res.ok x2)) >>= fun s1 => compF a_places () [] (fun x5 (s3 : Unit) => compF a_places () [] (fun x8 (s6 : Unit) => ((Res.ok x5) >>= fun x9 => ((Res.ok a_order.2) >>= fun a11 => (Res.ok x8) >>= fun i12 => lift (atI a11 i12)) >>= fun xs10 => Res.ok (memb x9 xs10)) >>= fun r13 => Res.ok (some r13, ())) >>= fun p7 => Res.ok (some p7.1, ())) >>= fun p4 => m_order_of_grid p4.1 >>= fun r14 => Res.ok r14)
noncomputable def s_kept (C : Addr) : Fn ((Int × List (List Int)) × (List Int) × Unit) (Int × List (List Int)) where
  ins := fun x => [(va (cOrd C) x.1), (va (cTup cInt) x.2.1)]
  m := fun x => m_kept x.1 x.2.1
  outs := fun x r => [un, un]
  ret := fun x r => (va (cOrd C) r)
theorem sc_kept : FnScope ["order", "places", "last", "x", "y"] ["order", "places"] (defScope (Hd.top 30)) := ⟨rfl, rfl, rfl, by decide +kernel, rfl, by decide +kernel, by decide +kernel⟩
noncomputable def m_thinned (a_order : (Int × List (List Int))) (a_parents : (List Int)) (a_places : (List Int)) : Res ((Int × List (List Int)) × (List Int)) :=
  forS a_places ([] : List Int) (fun x2 (s1 : (List Int)) => ((((Res.ok a_parents) >>= fun a3 => (Res.ok x2) >>= fun i4 => lift (atI a3 i4)) >>= fun x5 => (Res.ok (-1 : Int)) >>= fun y6 => Res.ok (decide (x5 = y6))) >>= fun k11 => if k11 = true then (Res.ok (-1 : Int)) else ((Res.ok a_places) >>= fun a9 => ((Res.ok a_parents) >>= fun a7 => (Res.ok x2) >>= fun i8 => lift (atI a7 i8)) >>= fun b10 => lift (idxO a9 b10))) >>= fun r12 => lift (appO s1 r12) >>= fun ys13 => Res.ok ys13) >>= fun s1 => (m_kept a_order a_places) >>= fun r14 => Res.ok (r14, s1)
noncomputable def s_thinned (C : Addr) : Fn ((Int × List (List Int)) × (List Int) × (List Int) × Unit) ((Int × List (List Int)) × (List Int)) where
  ins := fun x => [(va (cOrd C) x.1), (va (cLst cInt) x.2.1), (va (cTup cInt) x.2.2.1)]
  m := fun x => m_thinned x.1 x.2.1 x.2.2.1
  outs := fun x r => [un, un, un]
  ret := fun x r => (va (cPr (cOrd C) (cTup cInt)) r)
theorem sc_thinned : FnScope ["order", "parents", "places", "found", "x"] ["order", "parents", "places"] (defScope (Hd.top 32)) := ⟨rfl, rfl, rfl, by decide +kernel, rfl, by decide +kernel, by decide +kernel⟩
noncomputable def m_strike (a_order : (Int × List (List Int))) (a_house : (List Int)) (a_z : Int) : Res ((Int × List (List Int)) × (List Int)) :=
  (m_lords a_order a_house) >>= fun r1 => (m_want_place a_order.1 a_z) >>= fun r2 => if (decide (a_order.1 = (1 : Int))) = true then (Res.exc (⟨"BadSize", (fun (i : Int) => PyData.int i) (1 : Int)⟩ : Exn)) else (if (memb a_z r1) = true then (Res.exc (⟨"IsLord", (fun (i : Int) => PyData.int i) a_z⟩ : Exn)) else (compF a_house () [] (fun x7 (s5 : Unit) => ((Res.ok (decide (x7 = a_z))) >>= fun k10 => if k10 = true then ((Res.ok a_house) >>= fun a8 => (Res.ok a_z) >>= fun i9 => lift (atI a8 i9)) else (Res.ok x7)) >>= fun r11 => Res.ok (some r11, ())) >>= fun p6 => lift (rngO 0 a_order.1) >>= fun xs12 => compF xs12 () [] (fun x15 (s13 : Unit) => if (!decide (x15 = a_z)) = true then (Res.ok (some x15, ())) else Res.ok (none, ())) >>= fun p14 => m_thinned a_order p6.1 p14.1 >>= fun r16 => Res.ok r16))
noncomputable def s_strike (C : Addr) : Fn ((Int × List (List Int)) × (List Int) × Int × Unit) ((Int × List (List Int)) × (List Int)) where
  ins := fun x => [(va (cOrd C) x.1), (va (cTup cInt) x.2.1), (va cInt x.2.2.1)]
  m := fun x => m_strike x.1 x.2.1 x.2.2.1
  outs := fun x r => [un, un, un]
  ret := fun x r => (va (cPr (cOrd C) (cTup cInt)) r)
theorem sc_strike : FnScope ["order", "house", "z", "form", "parents", "parent", "x"] ["order", "house", "z"] (defScope (Hd.top 33)) := ⟨rfl, rfl, rfl, by decide +kernel, rfl, by decide +kernel, by decide +kernel⟩
noncomputable def m__law_told (a_order : (Int × List (List Int))) (a_house : (List Int)) (a_z : Int) : Res (((Int × List (List Int)) × (List Int)) ⊕ (Str × PyData)) :=
  (Res.tr ((m_strike a_order a_house a_z) >>= fun r2 => Res.ok (Sum.inl r2 : (((Int × List (List Int)) × (List Int)) ⊕ (Str × PyData)))) Res.ok (fun (ex : Exn) => if ex.cls ∈ (["BadSize", "BadPair", "NotOrder", "BadParent", "Round", "Unlike", "BadPlace", "IsLord"] : List Str) then (if (ex.cls == "BadPlace") = true then (Res.ok (Sum.inr (("place" : Str), ex.what) : (((Int × List (List Int)) × (List Int)) ⊕ (Str × PyData)))) else (if (ex.cls == "BadSize") = true then (Res.ok (Sum.inr (("size" : Str), ex.what) : (((Int × List (List Int)) × (List Int)) ⊕ (Str × PyData)))) else (if (ex.cls == "IsLord") = true then (Res.ok (Sum.inr (("lord" : Str), ex.what) : (((Int × List (List Int)) × (List Int)) ⊕ (Str × PyData)))) else (if (ex.cls == "Unlike") = true then (Res.ok (Sum.inr (("unlike" : Str), ex.what) : (((Int × List (List Int)) × (List Int)) ⊕ (Str × PyData)))) else (if true = true then (Res.ok (Sum.inr (("other" : Str), ((fun (i : Int) => PyData.int i) (0 : Int))) : (((Int × List (List Int)) × (List Int)) ⊕ (Str × PyData)))) else (Res.exc ex)))))) else Res.stuck)) >>= (fun s1 => Res.ok s1)
noncomputable def s__law_told (C : Addr) : Fn ((Int × List (List Int)) × (List Int) × Int × Unit) (((Int × List (List Int)) × (List Int)) ⊕ (Str × PyData)) where
  ins := fun x => [(va (cOrd C) x.1), (va (cTup cInt) x.2.1), (va cInt x.2.2.1)]
  m := fun x => m__law_told x.1 x.2.1 x.2.2.1
  outs := fun x r => [un, un, un]
  ret := fun x r => (va (cSum (cPr (cOrd C) (cTup cInt)) (cPr cStr cD)) r)
theorem sc__law_told : FnScope ["order", "house", "z", "found", "e"] ["order", "house", "z"] (defScope (Hd.top 47)) := ⟨rfl, rfl, rfl, by decide +kernel, rfl, by decide +kernel, by decide +kernel⟩
noncomputable def m__law_kept (a_pairs : (List (Int × Int))) (a_parents : (List Int)) (a_places : (List Int)) : Res ((List (List Int)) × (List Int)) :=
  forS a_places ([] : List (List Int)) (fun x2 (s1 : (List (List Int))) => compF a_places () [] (fun x5 (s3 : Unit) => if (memb (x5, x2) a_pairs) = true then (((Res.ok a_places) >>= fun a8 => (Res.ok x5) >>= fun b9 => lift (idxO a8 b9)) >>= fun r10 => Res.ok (some r10, ())) else Res.ok (none, ())) >>= fun p4 => lift (appO s1 p4.1) >>= fun ys11 => Res.ok ys11) >>= fun s1 => compF a_places () [] (fun x14 (s12 : Unit) => ((((Res.ok a_parents) >>= fun a15 => (Res.ok x14) >>= fun i16 => lift (atI a15 i16)) >>= fun x17 => (Res.ok a_places) >>= fun xs18 => Res.ok (memb x17 xs18)) >>= fun k23 => if k23 = true then ((Res.ok a_places) >>= fun a21 => ((Res.ok a_parents) >>= fun a19 => (Res.ok x14) >>= fun i20 => lift (atI a19 i20)) >>= fun b22 => lift (idxO a21 b22)) else (Res.ok (-(1 : Int)))) >>= fun r24 => Res.ok (some r24, ())) >>= fun p13 => Res.ok (s1, p13.1)
noncomputable def s__law_kept (C : Addr) : Fn ((List (Int × Int)) × (List Int) × (List Int) × Unit) ((List (List Int)) × (List Int)) where
  ins := fun x => [(va (cLst (cPr cInt cInt)) x.1), (va (cLst cInt) x.2.1), (va (cLst cInt) x.2.2.1)]
  m := fun x => m__law_kept x.1 x.2.1 x.2.2.1
  outs := fun x r => [un, un, un]
  ret := fun x r => (va (cPr (cTup (cTup cInt)) (cTup cInt)) r)
theorem sc__law_kept : FnScope ["pairs", "parents", "places", "lessers", "y", "x"] ["pairs", "parents", "places"] (defScope (Hd.top 45)) := ⟨rfl, rfl, rfl, by decide +kernel, rfl, by decide +kernel, by decide +kernel⟩
noncomputable def m__law_struck_right (a_told : ((Int × List (List Int)) × (List Int))) (a_n : Int) (a_pairs : (List (Int × Int))) (a_house : (List Int)) (a_z : Int) : Res Bool :=
  lift (rngO 0 a_n) >>= fun xs1 => compF xs1 () [] (fun x4 (s2 : Unit) => if (!decide (x4 = a_z)) = true then (Res.ok (some x4, ())) else Res.ok (none, ())) >>= fun p3 => lift (rngO 0 a_n) >>= fun xs5 => compF xs5 () [] (fun x8 (s6 : Unit) => ((((Res.ok a_house) >>= fun a9 => (Res.ok x8) >>= fun i10 => lift (atI a9 i10)) >>= fun x11 => (Res.ok a_z) >>= fun y12 => Res.ok (decide (x11 = y12))) >>= fun k17 => if k17 = true then ((Res.ok a_house) >>= fun a13 => (Res.ok a_z) >>= fun i14 => lift (atI a13 i14)) else ((Res.ok a_house) >>= fun a15 => (Res.ok x8) >>= fun i16 => lift (atI a15 i16))) >>= fun r18 => Res.ok (some r18, ())) >>= fun p7 => (m__law_kept a_pairs p7.1 p3.1) >>= fun r19 => (((Res.ok true) >>= fun k20 => Res.ok (!k20)) >>= fun k25 => if k25 = true then Res.ok true else ((((Res.ok a_told) >>= fun _ => Res.ok (2 : Int)) >>= fun x21 => (Res.ok (2 : Int)) >>= fun y22 => Res.ok (!decide (x21 = y22))) >>= fun k24 => if k24 = true then Res.ok true else (((Res.ok a_told.1) >>= fun _ => Res.ok false) >>= fun r23 => Res.ok r23))) >>= fun k26 => if k26 = true then (Res.ok false) else (Res.ok ((decide (a_told.1.1 = (a_n - (1 : Int)))) && ((decide (a_told.1.2 = r19.1)) && (decide (a_told.2 = r19.2)))))
noncomputable def s__law_struck_right (C : Addr) : Fn (((Int × List (List Int)) × (List Int)) × Int × (List (Int × Int)) × (List Int) × Int × Unit) Bool where
  ins := fun x => [(va (cPr (cOrd C) (cTup cInt)) x.1), (va cInt x.2.1), (va (cLst (cPr cInt cInt)) x.2.2.1), (va (cTup cInt) x.2.2.2.1), (va cInt x.2.2.2.2.1)]
  m := fun x => m__law_struck_right x.1 x.2.1 x.2.2.1 x.2.2.2.1 x.2.2.2.2.1
  outs := fun x r => [un, un, un, un, un]
  ret := fun x r => (va cBool r)
theorem sc__law_struck_right : FnScope ["told", "n", "pairs", "house", "z", "places", "x", "parents", "lessers", "due"] ["told", "n", "pairs", "house", "z"] (defScope (Hd.top 48)) := ⟨rfl, rfl, rfl, by decide +kernel, rfl, by decide +kernel, by decide +kernel⟩
noncomputable def m__law_case (a_source : (List Int)) : Res (Bool × (List Int)) :=
  m__law_places a_source >>= fun r1 => m__law_order r1.2 r1.1 >>= fun r2 => m__law_house r2.2 r2.1.1 >>= fun r3 => m_made_order r2.1.1 r2.1.2 >>= fun r4 => (m__law_lords r2.1.2 r3.1) >>= fun r5 => lift (rngO 0 r2.1.1) >>= fun xs6 => forC (ρ := (Bool × (List Int))) xs6 () (fun x8 (s7 : Unit) => (m__law_told r4 r3.1 x8) >>= fun r9 => if (decide (r2.1.1 = (1 : Int))) = true then (((((Res.ok r9) >>= fun o10 => lift (sumR o10)) >>= fun r11 => Res.ok ((fun (p : (Str × PyData)) => PyData.tuple [(fun (i : Str) => PyData.str i) p.1, (fun (d : PyData) => d) p.2]) r11)) >>= fun x12 => (Res.ok (PyData.tuple [((fun (i : Str) => PyData.str i) ("size" : Str)), ((fun (i : Int) => PyData.int i) (1 : Int))])) >>= fun y13 => lift (neDO x12 y13)) >>= fun k14 => if k14 = true then (Res.ok (.rt (false, r3.2))) else (Res.ok (.nx ()))) else (if (memb x8 r5) = true then (((((Res.ok r9) >>= fun o17 => lift (sumR o17)) >>= fun r18 => Res.ok ((fun (p : (Str × PyData)) => PyData.tuple [(fun (i : Str) => PyData.str i) p.1, (fun (d : PyData) => d) p.2]) r18)) >>= fun x19 => (Res.ok (PyData.tuple [((fun (i : Str) => PyData.str i) ("lord" : Str)), ((fun (i : Int) => PyData.int i) x8)])) >>= fun y20 => lift (neDO x19 y20)) >>= fun k21 => if k21 = true then (Res.ok (.rt (false, r3.2))) else (Res.ok (.nx ()))) else ((((((Res.ok r9) >>= fun o22 => lift (sumL o22)) >>= fun a23 => (Res.ok (r2.1.1, (r2.1.2, (r3.1, (x8, ()))))) >>= fun b24 => Res.ok (a23, b24)) >>= fun a25 => m__law_struck_right a25.1 a25.2.1 a25.2.2.1 a25.2.2.2.1 a25.2.2.2.2.1) >>= fun k26 => Res.ok (!k26)) >>= fun k27 => if k27 = true then (Res.ok (.rt (false, r3.2))) else (Res.ok (.nx ()))))) >>= fun q40 => (match q40 with | .done s7 => m__law_names r3.2 r2.1.1 >>= fun r28 => (((m__law_told r4 r3.1 r28.1) >>= fun r29 => lift (sumR r29) >>= fun z30 => Res.ok ((fun (p : (Str × PyData)) => PyData.tuple [(fun (i : Str) => PyData.str i) p.1, (fun (d : PyData) => d) p.2]) z30)) >>= fun x31 => (Res.ok (PyData.tuple [((fun (i : Str) => PyData.str i) ("place" : Str)), ((fun (i : Int) => PyData.int i) r28.1)])) >>= fun y32 => lift (neDO x31 y32)) >>= fun k39 => if k39 = true then (Res.ok (false, r28.2)) else (((lift (catO r3.1 [(-(1 : Int))]) >>= fun z33 => m__law_told r4 z33 r28.1 >>= fun r34 => lift (sumR r34) >>= fun z35 => Res.ok ((fun (p : (Str × PyData)) => PyData.tuple [(fun (i : Str) => PyData.str i) p.1, (fun (d : PyData) => d) p.2]) z35)) >>= fun x36 => (Res.ok (PyData.tuple [((fun (i : Str) => PyData.str i) ("unlike" : Str)), ((fun (i : Int) => PyData.int i) (r2.1.1 + (1 : Int)))])) >>= fun y37 => lift (eqDO x36 y37)) >>= fun r38 => Res.ok (r38, r28.2)) | .rt r => Res.ok r)
noncomputable def s__law_case (C : Addr) : Fn ((List Int) × Unit) (Bool × (List Int)) where
  ins := fun x => [(ow (oLst cInt) x.1)]
  m := fun x => m__law_case x.1
  outs := fun x r => [(ow (oLst cInt) r.2)]
  ret := fun x r => (va cBool r.1)
theorem sc__law_case : FnScope ["source", "n", "pairs", "house", "order", "form", "z", "told", "far"] ["source"] (defScope (Hd.top 49)) := ⟨rfl, rfl, rfl, by decide +kernel, rfl, by decide +kernel, by decide +kernel⟩
noncomputable def m__law_pool (a_script : (List Int)) (a_k : Int) : Res (List Int) :=
  (if (decide (a_k < (List.length a_script : Int))) = true then (((Res.ok a_script) >>= fun a8 => (Res.ok a_k) >>= fun i9 => lift (atI a8 i9)) >>= fun r10 => Res.ok r10) else (if (!List.isEmpty a_script) = true then (((Res.ok a_script) >>= fun a11 => (Res.ok (0 : Int)) >>= fun i12 => lift (atI a11 i12)) >>= fun r13 => Res.ok r13) else (Res.ok (0 : Int)))) >>= fun s7 => (((((((Res.ok ((max s7 ((-(1 : Int)) - s7)) % (2147483629 : Int))) >>= fun i18 => ((Res.ok ((7919 : Int) * a_k)) >>= fun i16 => (Res.ok a_k) >>= fun j17 => lift (mulO i16 j17)) >>= fun j19 => Res.ok (i18 + j19)) >>= fun i20 => (Res.ok ((31 : Int) * a_k)) >>= fun j21 => Res.ok (i20 + j21)) >>= fun i22 => (Res.ok (17 : Int)) >>= fun j23 => Res.ok (i22 + j23)) >>= fun i24 => (Res.ok (48271 : Int)) >>= fun j25 => lift (mulO i24 j25)) >>= fun i26 => Res.ok i26) >>= fun i27 => (Res.ok (2147483647 : Int)) >>= fun j28 => lift (modO i27 j28)) >>= fun r29 => ((Res.ok (max s7 ((-(1 : Int)) - s7))) >>= fun i30 => (Res.ok (if (decide ((((10 : Int)) ^ ((18 : Int)).toNat) ≤ (max s7 ((-(1 : Int)) - s7)))) = true then 1 else 0)) >>= fun j31 => lift (mulO i30 j31)) >>= fun r32 => Res.ok [r32, r29]
noncomputable def s__law_pool (C : Addr) : Fn ((List Int) × Int × Unit) (List Int) where
  ins := fun x => [(va (cLst cInt) x.1), (va cInt x.2.1)]
  m := fun x => m__law_pool x.1 x.2.1
  outs := fun x r => [un, un]
  ret := fun x r => (ow (oLst cInt) r)
theorem sc__law_pool : FnScope ["script", "k", "cell", "big", "stirred"] ["script", "k"] (defScope (Hd.top 35)) := ⟨rfl, rfl, rfl, by decide +kernel, rfl, by decide +kernel, by decide +kernel⟩
noncomputable def m_law (a_script : (List Int)) : Res Bool :=
  lift (rngO 0 (max (1 : Int) (min (List.length a_script : Int) (8 : Int)))) >>= fun xs1 => forC (ρ := Bool) xs1 () (fun x7 (s6 : Unit) => ((m__law_pool a_script x7 >>= fun r8 => m__law_case r8 >>= fun r9 => Res.ok r9.1) >>= fun k10 => Res.ok (!k10)) >>= fun k11 => if k11 = true then (Res.ok (.rt false)) else (Res.ok (.nx ()))) >>= fun q12 => (match q12 with | .done s6 => Res.ok true | .rt r => Res.ok r)
noncomputable def s_law (C : Addr) : Fn ((List Int) × Unit) Bool where
  ins := fun x => [(va (cLst cInt) x.1)]
  m := fun x => m_law x.1
  outs := fun x r => [un]
  ret := fun x r => (va cBool r)
theorem sc_law : FnScope ["script", "k"] ["script"] (defScope (Hd.top 50)) := ⟨rfl, rfl, rfl, by decide +kernel, rfl, by decide +kernel, by decide +kernel⟩
end T
set_option maxHeartbeats 400000
namespace T
open PySem PySem.Spec PyProof.Rows L2
theorem bd_Order__eq {P : Program} {w : World} {K : Fg} {mg : Str → Option Value} {base : Heap} {C : Addr} (E : Fcts P w K mg base C) {f : Addr} {fd : FuncData} (F : FunD K "__eq__" "Order.__eq__" (defArgs (Hd.mEqOrder)) (defBody (Hd.mEqOrder)) (defScope (Hd.mEqOrder)) [] [] f fd) : FnOk P w K mg base (L2.CX P w) 1 f fd ["self", "other"] (spOf K mg (s_Order__eq C)) := by
  refine fn_mk [] F sc_Order__eq (fun _ => rfl) (fun _ _ => rfl) rfl ?_
  intro cdv A outer s0 H E0 F0 Sf st0 ⟨a_self, a_other, _⟩ Pr Zr O g
  change good (m_Order__eq a_self a_other) Pr Zr at g
  unfold m_Order__eq at g
  refine @sb_wk _ _ _ _ _ [(va (cOrd C) a_self), (va (cOrd C) a_other)] (Wk.refl _) ?_
  refine sb_cons (s1_ret ?_)
  refine Ok.x O ((xm_and ((fun P g => by (refine Ok.x O (xm_isO inst_ord E.f_isinstance E.ord.hm E.isa_Order E.ord.cls (xm_var 1)) _ (good_imp (good_bind g) fun r1 g => ?_); exact g))) (xm_and (xp_cmp (k := fun (x : Int) (y : Int) => decide (x = y)) (cmp_eq scal_int) (xp_n E.ord (xm_var 0)) (xp_n E.ord (xm_var 1))) (xm_one (xp_cmp (k := fun (x : (List (List Int))) (y : (List (List Int))) => decide (x = y)) (cmp_eqD O (deep_tup (deep_tup deep_int))) (xp_lesser E.ord (xm_var 0)) (xp_lesser E.ord (xm_var 1))))))) _ (good_imp (good_bind g) fun r4 g => ?_)
  exact ⟨r4, g, rfl, ⟨.inl rfl, .inl rfl, trivial⟩⟩
theorem ok_Order__eq {P : Program} {w : World} {K : Fg} {mg : Str → Option Value} {base : Heap} {C : Addr} (E : Fcts P w K mg base C) : HasE P w K mg base C 1 (s_Order__eq C) := by
  obtain ⟨f, fd, hs, hf, F⟩ := E.d_Order__eq
  exact ⟨f, fd, ["self", "other"], hs, hf, bd_Order__eq E F, F.bindsN (fun _ _ _ _ _ _ us hl => match us, hl with | [_, _], _ => rfl)⟩
end T
set_option maxHeartbeats 400000
namespace T
open PySem PySem.Spec PyProof.Rows L2
theorem bd__law_take {P : Program} {w : World} {K : Fg} {mg : Str → Option Value} {base : Heap} {C : Addr} (E : Fcts P w K mg base C) {f : Addr} {fd : FuncData} (F : FunD K "_law_take" "_law_take" (defArgs (Hd.top 36)) (defBody (Hd.top 36)) (defScope (Hd.top 36)) [] [] f fd) : FnOk P w K mg base (L2.CX P w) 1 f fd ["source", "top"] (spOf K mg (s__law_take C)) := by
  refine fn_mk [0] F sc__law_take (fun _ => rfl) (fun _ _ => rfl) rfl ?_
  intro cdv A outer s0 H E0 F0 Sf st0 ⟨a_source, a_top, _⟩ Pr Zr O g
  change good (m__law_take a_source a_top) Pr Zr at g
  unfold m__law_take at g
  refine @sb_wk _ _ _ _ _ [(ow (oLst cInt) a_source), (va cInt a_top), un] (Wk.refl _) ?_
  refine sb_cons (s1_if (Ok.t O (tm_cmpT (k := fun (x : Int) (y : Int) => decide (y < x)) cmp_gt (xm_itemL (xl_ow 0) (xm_int)) (xm_int)) _ (good_imp (good_bind g) fun k43 g => ite_sb g (fun g => ?_) (fun g => ?_))))
  · refine sb_cons (s1_asg 2 O ?_)
    refine Ok.x O (xm_mod (xm_intI E.f_int (xm_itemL (xl_ow 0) (xm_int))) (xm_var 1)) _ (good_imp (good_bind g) fun r10 g => ?_)
    refine sb_cons (s1_item (c := cInt) 0 O ?_)
    refine Ok.x O (xm_div (xm_itemL (xl_ow 0) (xm_int)) (xm_var 1)) _ (good_imp (good_bind g) fun r15 g => ?_)
    obtain ⟨ys16, hy, g⟩ := good_lift (good_bind g)
    refine ⟨_, rfl, _, xm_int, _, rfl, ?_⟩
    refine ⟨ys16, hy, ?_⟩
    refine sb_cons (s1_ret ?_)
    refine Ok.xv O (xm_var 2) ?_
    exact ⟨(r10, ys16), g, rfl, ⟨.inr ⟨rfl, rfl⟩, .inl rfl, trivial⟩⟩
  · refine sb_nil ?_
    refine sb_cons (s1_item (c := cInt) 0 O ?_)
    refine Ok.x O (xm_mod (xm_intI E.f_int (xm_add (xm_mul (xm_itemL (xl_ow 0) (xm_int)) (xm_int)) (xm_int))) (xm_int)) _ (good_imp (good_bind g) fun r26 g => ?_)
    obtain ⟨ys27, hy, g⟩ := good_lift (good_bind g)
    refine ⟨_, rfl, _, xm_int, _, rfl, ?_⟩
    refine ⟨ys27, hy, ?_⟩
    refine sb_cons (s1_ret ?_)
    refine Ok.x O (xm_mod (xm_intI E.f_int (xm_div (xm_mod (xm_intI E.f_int (xm_mul (xm_itemL (xl_ow 0) (xm_int)) (xm_itemL (xl_ow 0) (xm_int)))) (xm_int)) (xm_int))) (xm_var 1)) _ (good_imp (good_bind g) fun r42 g => ?_)
    exact ⟨(r42, ys27), g, rfl, ⟨.inr ⟨rfl, rfl⟩, .inl rfl, trivial⟩⟩
theorem ok__law_take {P : Program} {w : World} {K : Fg} {mg : Str → Option Value} {base : Heap} {C : Addr} (E : Fcts P w K mg base C) : Has P w K mg base 1 "_law_take" ["source", "top"] (s__law_take C) := by
  obtain ⟨f, fd, hm, F⟩ := E.d__law_take
  refine ⟨f, fd, hm, bd__law_take E F, F.bindsN (fun _ _ _ _ _ _ us hl => match us, hl with | [_, _], _ => rfl), F.kp⟩
end T
set_option maxHeartbeats 400000
namespace T
open PySem PySem.Spec PyProof.Rows L2
theorem bd__law_shuffled {P : Program} {w : World} {K : Fg} {mg : Str → Option Value} {base : Heap} {C : Addr} (E : Fcts P w K mg base C) (H__law_take : Has P w K mg base 1 "_law_take" ["source", "top"] (s__law_take C)) {f : Addr} {fd : FuncData} (F : FunD K "_law_shuffled" "_law_shuffled" (defArgs (Hd.top 38)) (defBody (Hd.top 38)) (defScope (Hd.top 38)) [] [] f fd) : FnOk P w K mg base (L2.CX P w) 2 f fd ["source", "count"] (spOf K mg (s__law_shuffled C)) := by
  refine fn_mk [0] F sc__law_shuffled (fun _ => rfl) (fun _ _ => rfl) rfl ?_
  intro cdv A outer s0 H E0 F0 Sf st0 ⟨a_source, a_count, _⟩ Pr Zr O g
  change good (m__law_shuffled a_source a_count) Pr Zr at g
  unfold m__law_shuffled at g
  refine @sb_wk _ _ _ _ _ [(ow (oLst cInt) a_source), (va cInt a_count), un, un, un, un] (Wk.refl _) ?_
  refine sb_cons (s1_par 2 3 O ?_)
  refine ea_tmp ?_
  refine ev_comp (gi := none) (f := (fun x4 (s2 : Unit) => Res.ok (some x4, ()))) (cd := cInt) cInt O (own := [("x", 4)]) (fun (s2 : Unit) => ([(ow (oLst cInt) a_source), (va cInt a_count), un, un, un, un] : List Bd)) ?_ (fun _ _ _ _ _ _ x4 s2 Pb g => by (refine eg_name 4 (Ok.blk O) ?_; intro _ _ _ _ _; refine Ok.xv (Ok.blk O) (xm_var 4) ?_; exact ⟨_, (), g, rfl, (.keep (.keep (.drop (.drop (.drop (.drop .nil))))))⟩)) (ok := by kernel_rfl)
  refine it_range E.f_range ?_
  refine Ok.xv O (xm_var 1) ?_
  obtain ⟨xs1, hx, g⟩ := good_lift (good_bind g)
  refine ⟨_, rfl, xs1, hx, ?_⟩
  refine ⟨(), _, (.keep (.keep (.drop (.drop (.drop (.drop .nil)))))), fun _ => trivial, good_imp (good_bind g) fun p3 g => ?_⟩
  refine ea_tmp ?_
  refine ev_nil cInt ?_
  refine ea_nil ⟨_, _, rfl, ?_⟩
  refine sb_cons (s1_forI (js := [5]) (cd := cInt) O ?_)
  refine it_range E.f_range ?_
  refine Ok.xv O (xm_var 1) ?_
  obtain ⟨xs5, hx, g⟩ := good_lift (good_bind g)
  refine ⟨_, rfl, xs5, hx, ?_⟩
  refine fb_forS (fun (s6 : ((List Int) × (List Int) × (List Int))) => ([(ow (oLst cInt) s6.1), (va cInt a_count), (ow (oLst cInt) s6.2.1), (ow (oLst cInt) s6.2.2), un, un] : List Bd)) (good_bind g) (.keep (.keep (.keep (.keep (.drop (.drop .nil)))))) (fun x7 s6 Pb hx g => ?_) (fun s6 g => ?_)
  · refine eg_name 5 O ?_
    refine sb_cons (s1_expr ?_)
    refine ev_append (m := "append") 3 rfl ?_
    refine ev_popAt 2 rfl ?_
    refine ev_callH O H__law_take (fun _ _ => rfl) ?_
    refine ea_bor 0 rfl ?_
    refine ea_tmp ?_
    refine Ok.xv O (xm_lenL E.f_len ((xl_ow 2))) ?_
    refine ea_nil ⟨(s6.1, (List.length s6.2.1 : Int), ()), rfl, nd1, good_imp (good_bind g) fun r8 g => ?_⟩
    obtain ⟨p9, hy, g⟩ := good_lift (good_bind g)
    obtain ⟨hy, hz⟩ := popI_ok hy
    refine ⟨_, rfl, _, p9.1, p9.2, rfl, hy, hz, ?_⟩
    obtain ⟨ys10, hy, g⟩ := good_lift (good_bind g)
    refine ⟨_, rfl, _, ys10, rfl, hy, ?_⟩
    exact sb_nil ⟨(r8.2, p9.2, ys10), g, (.keep (.keep (.keep (.keep (.drop (.drop .nil))))))⟩
  · refine sb_cons (s1_ret ?_)
    refine ev_move 3 rfl ?_
    exact ⟨(s6.2.2, s6.1), g, rfl, ⟨.inr ⟨rfl, rfl⟩, .inl rfl, trivial⟩⟩
theorem ok__law_shuffled {P : Program} {w : World} {K : Fg} {mg : Str → Option Value} {base : Heap} {C : Addr} (E : Fcts P w K mg base C) (H__law_take : Has P w K mg base 1 "_law_take" ["source", "top"] (s__law_take C)) : Has P w K mg base 2 "_law_shuffled" ["source", "count"] (s__law_shuffled C) := by
  obtain ⟨f, fd, hm, F⟩ := E.d__law_shuffled
  refine ⟨f, fd, hm, bd__law_shuffled E H__law_take F, F.bindsN (fun _ _ _ _ _ _ us hl => match us, hl with | [_, _], _ => rfl), F.kp⟩
end T
set_option maxHeartbeats 400000
namespace T
open PySem PySem.Spec PyProof.Rows L2
theorem bd__law_closed {P : Program} {w : World} {K : Fg} {mg : Str → Option Value} {base : Heap} {C : Addr} (E : Fcts P w K mg base C) {f : Addr} {fd : FuncData} (F : FunD K "_law_closed" "_law_closed" (defArgs (Hd.top 39)) (defBody (Hd.top 39)) (defScope (Hd.top 39)) [] [] f fd) : FnOk P w K mg base (L2.CX P w) 1 f fd ["n", "pairs"] (spOf K mg (s__law_closed C)) := by
  refine fn_mk [] F sc__law_closed (fun _ => rfl) (fun _ _ => rfl) rfl ?_
  intro cdv A outer s0 H E0 F0 Sf st0 ⟨a_n, a_pairs, _⟩ Pr Zr O g
  change good (m__law_closed a_n a_pairs) Pr Zr at g
  unfold m__law_closed at g
  refine @sb_wk _ _ _ _ _ [(va cInt a_n), (va (cLst (cPr cInt cInt)) a_pairs), un, un, un, un, un, un, un] (Wk.refl _) ?_
  refine @sb_wk _ _ _ _ _ [(va cInt a_n), (va (cLst (cPr cInt cInt)) a_pairs), un, un, un, un, un, un, un] (.keep (.keep (.drop (.drop (.drop (.drop (.drop (.drop (.drop .nil))))))))) ?_
  refine sb_cons (s1_comp (gi := none) (f := (fun x3 (s1 : Unit) => Res.ok (some x3, ()))) (cd := (cPr cInt cInt)) (cPr cInt cInt) 2 O (own := [("pair", 3)]) (fun (s1 : Unit) => ([(va cInt a_n), (va (cLst (cPr cInt cInt)) a_pairs), un, un, un, un, un, un, un] : List Bd)) ?_ (fun _ _ _ _ _ _ x3 s1 Pb g => by (refine eg_name 3 (Ok.blk O) ?_; intro _ _ _ _ _; refine Ok.xv (Ok.blk O) (xm_var 3) ?_; exact ⟨_, (), g, rfl, (.keep (.keep (.drop (.drop (.drop (.drop (.drop (.drop (.drop .nil)))))))))⟩)) (ok := by kernel_rfl))
  refine it_list ?_
  refine Ok.xv O (xm_var 1) ?_
  refine ⟨_, rfl, ?_⟩
  refine ⟨(), _, (.keep (.keep (.drop (.drop (.drop (.drop (.drop (.drop (.drop .nil))))))))), fun _ => trivial, good_imp (good_bind g) fun p2 g => ?_⟩
  refine @sb_wk _ _ _ _ _ [(va cInt a_n), (va (cLst (cPr cInt cInt)) a_pairs), (ow (oLst (cPr cInt cInt)) p2.1), un, un, un, un, un, un] (.keep (.keep (.keep (.drop (.drop (.drop (.drop (.drop (.drop .nil))))))))) ?_
  refine sb_cons (s1_forI (js := [4]) (cd := cInt) O ?_)
  refine it_range E.f_range ?_
  refine Ok.xv O (xm_var 0) ?_
  obtain ⟨xs4, hx, g⟩ := good_lift (good_bind g)
  refine ⟨_, rfl, xs4, hx, ?_⟩
  refine fb_forS (fun (s5 : (List (Int × Int))) => ([(va cInt a_n), (va (cLst (cPr cInt cInt)) a_pairs), (ow (oLst (cPr cInt cInt)) s5), un, un, un, un, un, un] : List Bd)) (good_bind g) (.keep (.keep (.keep (.drop (.drop (.drop (.drop (.drop (.drop .nil))))))))) (fun x6 s5 Pb hx g => ?_) (fun s5 g => ?_)
  · refine eg_name 4 O ?_
    refine @sb_wk _ _ _ _ _ [(va cInt a_n), (va (cLst (cPr cInt cInt)) a_pairs), (ow (oLst (cPr cInt cInt)) s5), un, (va cInt x6), un, un, un, un] (.keep (.keep (.keep (.drop (.keep (.drop (.drop (.drop (.drop .nil))))))))) ?_
    refine sb_cons (s1_par 5 6 O ?_)
    refine ea_tmp ?_
    refine ev_comp (gi := (some 2)) (f := (fun x9 (s7 : Unit) => if (decide (x9.2 = x6)) = true then (Res.ok (some x9.1, ())) else Res.ok (none, ()))) (cd := (cPr cInt cInt)) cInt O (own := [("a", 7), ("b", 8)]) (fun (s7 : Unit) => ([(va cInt a_n), (va (cLst (cPr cInt cInt)) a_pairs), (ow (oLst (cPr cInt cInt)) s5), un, (va cInt x6), un, un, un, un] : List Bd)) ?_ (fun _ _ _ _ _ _ x9 s7 Pb g => by (refine eg_pair (Ok.blk O) (eg_name 7 (Ok.blk O) (eg_name 8 (Ok.blk O) ?_)); intro _ _ _ _ _; exact Ok.tv (Ok.blk O) (tp_cmp (k := fun (x : Int) (y : Int) => decide (x = y)) (cmp_eq scal_int) (xm_var 8) (xm_var 4)) (ite_p g (fun g => by (intro _ _ _ _ _; refine Ok.xv (Ok.blk O) (xm_var 7) ?_; exact ⟨_, (), g, rfl, (.keep (.keep (.keep (.drop (.keep (.drop (.drop (.drop (.drop .nil)))))))))⟩)) (fun g => ⟨(), g, (.keep (.keep (.keep (.drop (.keep (.drop (.drop (.drop (.drop .nil)))))))))⟩)))) (ok := by kernel_rfl)
    refine it_own 2 rfl ?_
    refine ⟨(), _, (.keep (.keep (.keep (.drop (.keep (.drop (.drop (.drop (.drop .nil))))))))), fun _ => rfl, good_imp (good_bind g) fun p8 g => ?_⟩
    refine ea_tmp ?_
    refine ev_comp (gi := (some 2)) (f := (fun x12 (s10 : Unit) => if (decide (x12.1 = x6)) = true then (Res.ok (some x12.2, ())) else Res.ok (none, ()))) (cd := (cPr cInt cInt)) cInt O (own := [("a", 7), ("b", 8)]) (fun (s10 : Unit) => ([(va cInt a_n), (va (cLst (cPr cInt cInt)) a_pairs), (ow (oLst (cPr cInt cInt)) s5), un, (va cInt x6), un, un, un, un] : List Bd)) ?_ (fun _ _ _ _ _ _ x12 s10 Pb g => by (refine eg_pair (Ok.blk O) (eg_name 7 (Ok.blk O) (eg_name 8 (Ok.blk O) ?_)); intro _ _ _ _ _; exact Ok.tv (Ok.blk O) (tp_cmp (k := fun (x : Int) (y : Int) => decide (x = y)) (cmp_eq scal_int) (xm_var 7) (xm_var 4)) (ite_p g (fun g => by (intro _ _ _ _ _; refine Ok.xv (Ok.blk O) (xm_var 8) ?_; exact ⟨_, (), g, rfl, (.keep (.keep (.keep (.drop (.keep (.drop (.drop (.drop (.drop .nil)))))))))⟩)) (fun g => ⟨(), g, (.keep (.keep (.keep (.drop (.keep (.drop (.drop (.drop (.drop .nil)))))))))⟩)))) (ok := by kernel_rfl)
    refine it_own 2 rfl ?_
    refine ⟨(), _, (.keep (.keep (.keep (.drop (.keep (.drop (.drop (.drop (.drop .nil))))))))), fun _ => rfl, good_imp (good_bind g) fun p11 g => ?_⟩
    refine ea_nil ⟨_, _, rfl, ?_⟩
    refine @sb_wk _ _ _ _ _ [(va cInt a_n), (va (cLst (cPr cInt cInt)) a_pairs), (ow (oLst (cPr cInt cInt)) s5), un, (va cInt x6), (ow (oLst cInt) p8.1), (ow (oLst cInt) p11.1), un, un] (.keep (.keep (.keep (.drop (.keep (.keep (.keep (.drop (.drop .nil))))))))) ?_
    refine sb_frz 5 rfl ?_
    refine sb_frz 6 rfl ?_
    refine sb_cons (s1_forI (js := [7]) (cd := cInt) O ?_)
    refine it_list ?_
    refine Ok.xv O (xm_var 5) ?_
    refine ⟨_, rfl, ?_⟩
    refine fb_forS (fun (s13 : (List (Int × Int))) => ([(va cInt a_n), (va (cLst (cPr cInt cInt)) a_pairs), (ow (oLst (cPr cInt cInt)) s13), un, (va cInt x6), (va (cLst cInt) p8.1), (va (cLst cInt) p11.1), un, un] : List Bd)) (good_bind g) (.keep (.keep (.keep (.drop (.keep (.keep (.keep (.drop (.drop .nil))))))))) (fun x14 s13 Pb hx g => ?_) (fun s13 g => ?_)
    · refine eg_name 7 O ?_
      refine @sb_wk _ _ _ _ _ [(va cInt a_n), (va (cLst (cPr cInt cInt)) a_pairs), (ow (oLst (cPr cInt cInt)) s13), un, (va cInt x6), (va (cLst cInt) p8.1), (va (cLst cInt) p11.1), (va cInt x14), un] (.keep (.keep (.keep (.drop (.keep (.keep (.keep (.keep (.drop .nil))))))))) ?_
      refine sb_cons (s1_forI (js := [8]) (cd := cInt) O ?_)
      refine it_list ?_
      refine Ok.xv O (xm_var 6) ?_
      refine ⟨_, rfl, ?_⟩
      refine fb_forS (fun (s15 : (List (Int × Int))) => ([(va cInt a_n), (va (cLst (cPr cInt cInt)) a_pairs), (ow (oLst (cPr cInt cInt)) s15), un, (va cInt x6), (va (cLst cInt) p8.1), (va (cLst cInt) p11.1), (va cInt x14), un] : List Bd)) (good_bind g) (.keep (.keep (.keep (.drop (.keep (.keep (.keep (.keep (.drop .nil))))))))) (fun x16 s15 Pb hx g => ?_) (fun s15 g => ?_)
      · refine eg_name 8 O ?_
        refine @sb_wk _ _ _ _ _ [(va cInt a_n), (va (cLst (cPr cInt cInt)) a_pairs), (ow (oLst (cPr cInt cInt)) s15), un, (va cInt x6), (va (cLst cInt) p8.1), (va (cLst cInt) p11.1), (va cInt x14), (va cInt x16)] (.keep (.keep (.keep (.drop (.keep (.keep (.keep (.keep (.keep .nil))))))))) ?_
        refine sb_cons (s1_if (Ok.tv O (tm_notInD O (deep_pr (deep_int) (deep_int)) (xp_pr (xm_var 7) (xm_var 8)) (xl_ow 2)) (ite_sb g (fun g => ?_) (fun g => ?_))))
        · refine @sb_wk _ _ _ _ _ [(va cInt a_n), (va (cLst (cPr cInt cInt)) a_pairs), (ow (oLst (cPr cInt cInt)) s15), un, (va cInt x6), (va (cLst cInt) p8.1), (va (cLst cInt) p11.1), (va cInt x14), (va cInt x16)] (.keep (.keep (.keep (.drop (.keep (.keep (.keep (.keep (.keep .nil))))))))) ?_
          refine sb_cons (s1_expr ?_)
          refine ev_append (m := "append") 2 rfl ?_
          refine Ok.xv O (xp_pr (xm_var 7) (xm_var 8)) ?_
          obtain ⟨ys19, hy, g⟩ := good_lift (good_bind g)
          refine ⟨_, rfl, _, ys19, rfl, hy, ?_⟩
          refine sb_nil ?_
          exact sb_nil ⟨ys19, g, (.keep (.keep (.keep (.drop (.keep (.keep (.keep (.keep (.drop .nil)))))))))⟩
        · refine sb_nil ?_
          exact sb_nil ⟨s15, g, (.keep (.keep (.keep (.drop (.keep (.keep (.keep (.keep (.drop .nil)))))))))⟩
      · exact sb_nil ⟨s15, g, (.keep (.keep (.keep (.drop (.keep (.keep (.keep (.drop (.drop .nil)))))))))⟩
    · exact sb_nil ⟨s13, g, (.keep (.keep (.keep (.drop (.drop (.drop (.drop (.drop (.drop .nil)))))))))⟩
  · refine sb_cons (s1_ret (ev_frz (c := (cPr cInt cInt)) ?_))
    refine ev_sortedP E.f_sorted ?_
    refine Ok.lv O (xl_ow 2) ?_
    refine ⟨_, rfl, ?_⟩
    exact ⟨(sortP s5), g, rfl, ⟨.inl rfl, .inl rfl, trivial⟩⟩
theorem ok__law_closed {P : Program} {w : World} {K : Fg} {mg : Str → Option Value} {base : Heap} {C : Addr} (E : Fcts P w K mg base C) : Has P w K mg base 1 "_law_closed" ["n", "pairs"] (s__law_closed C) := by
  obtain ⟨f, fd, hm, F⟩ := E.d__law_closed
  refine ⟨f, fd, hm, bd__law_closed E F, F.bindsN (fun _ _ _ _ _ _ us hl => match us, hl with | [_, _], _ => rfl), F.kp⟩
end T
set_option maxHeartbeats 400000
namespace T
open PySem PySem.Spec PyProof.Rows L2
theorem bd__law_order {P : Program} {w : World} {K : Fg} {mg : Str → Option Value} {base : Heap} {C : Addr} (E : Fcts P w K mg base C) (H__law_closed : Has P w K mg base 1 "_law_closed" ["n", "pairs"] (s__law_closed C)) (H__law_shuffled : Has P w K mg base 2 "_law_shuffled" ["source", "count"] (s__law_shuffled C)) (H__law_take : Has P w K mg base 1 "_law_take" ["source", "top"] (s__law_take C)) {f : Addr} {fd : FuncData} (F : FunD K "_law_order" "_law_order" (defArgs (Hd.top 40)) (defBody (Hd.top 40)) (defScope (Hd.top 40)) [] [] f fd) : FnOk P w K mg base (L2.CX P w) 3 f fd ["source", "n"] (spOf K mg (s__law_order C)) := by
  refine fn_mk [0] F sc__law_order (fun _ => rfl) (fun _ _ => rfl) rfl ?_
  intro cdv A outer s0 H E0 F0 Sf st0 ⟨a_source, a_n, _⟩ Pr Zr O g
  change good (m__law_order a_source a_n) Pr Zr at g
  unfold m__law_order at g
  refine @sb_wk _ _ _ _ _ [(ow (oLst cInt) a_source), (va cInt a_n), un, un, un, un, un, un, un, un] (Wk.refl _) ?_
  refine @sb_wk _ _ _ _ _ [(ow (oLst cInt) a_source), (va cInt a_n), un, un, un, un, un, un, un, un] (.keep (.keep (.drop (.drop (.drop (.drop (.drop (.drop (.drop (.drop .nil)))))))))) ?_
  refine sb_cons (s1_par3 2 3 4 O ?_)
  refine ea_tmp ?_
  refine ev_callH O H__law_shuffled (fun _ _ => rfl) ?_
  refine ea_bor 0 rfl ?_
  refine ea_tmp ?_
  refine Ok.xv O (xm_var 1) ?_
  refine ea_nil ⟨(a_source, a_n, ()), rfl, nd1, good_imp (good_bind g) fun r1 g => ?_⟩
  refine ea_tmp ?_
  refine ev_callH O H__law_take (fun _ _ => rfl) ?_
  refine ea_bor 0 rfl ?_
  refine ea_tmp ?_
  refine Ok.xv O (xm_int) ?_
  refine ea_nil ⟨(r1.2, (8 : Int), ()), rfl, nd1, good_imp (good_bind g) fun r2 g => ?_⟩
  refine ea_tmp ?_
  refine ev_nil (cPr cInt cInt) ?_
  refine ea_nil ⟨_, _, _, rfl, ?_⟩
  refine @sb_wk _ _ _ _ _ [(ow (oLst cInt) r2.2), (va cInt a_n), (ow (oLst cInt) r1.1), (va cInt r2.1), (ow (oLst (cPr cInt cInt)) ([] : List (Int × Int))), un, un, un, un, un] (.keep (.keep (.keep (.keep (.keep (.drop (.drop (.drop (.drop (.drop .nil)))))))))) ?_
  refine sb_cons (s1_comp (gi := none) (f := (fun x6 (s4 : (List Int)) => m__law_take s4 (3 : Int) >>= fun r7 => Res.ok (some r7.1, r7.2))) (cd := cInt) cInt 5 O (own := [("x", 6)]) (fun (s4 : (List Int)) => ([(ow (oLst cInt) s4), (va cInt a_n), (ow (oLst cInt) r1.1), (va cInt r2.1), (ow (oLst (cPr cInt cInt)) ([] : List (Int × Int))), un, un, un, un, un] : List Bd)) ?_ (fun _ _ _ _ _ _ x6 s4 Pb g => by (refine eg_name 6 (Ok.blk O) ?_; intro _ _ _ _ _; refine ev_callH (Ok.blk O) H__law_take (fun _ _ => rfl) ?_; refine ea_bor 0 rfl ?_; refine ea_tmp ?_; refine Ok.xv (Ok.blk O) (xm_int) ?_; refine ea_nil ⟨(s4, (3 : Int), ()), rfl, nd1, good_imp (good_bind g) fun r7 g => ?_⟩; exact ⟨_, r7.2, g, rfl, (.keep (.keep (.keep (.keep (.keep (.drop (.drop (.drop (.drop (.drop .nil))))))))))⟩)) (ok := by kernel_rfl))
  refine it_range E.f_range ?_
  refine Ok.xv O (xm_var 1) ?_
  obtain ⟨xs3, hx, g⟩ := good_lift (good_bind g)
  refine ⟨_, rfl, xs3, hx, ?_⟩
  refine ⟨r2.2, _, (.keep (.keep (.keep (.keep (.keep (.drop (.drop (.drop (.drop (.drop .nil)))))))))), fun _ => trivial, good_imp (good_bind g) fun p5 g => ?_⟩
  refine @sb_wk _ _ _ _ _ [(ow (oLst cInt) p5.2), (va cInt a_n), (ow (oLst cInt) r1.1), (va cInt r2.1), (ow (oLst (cPr cInt cInt)) ([] : List (Int × Int))), (ow (oLst cInt) p5.1), un, un, un, un] (.keep (.keep (.keep (.keep (.keep (.keep (.drop (.drop (.drop (.drop .nil)))))))))) ?_
  refine sb_cons (s1_asg 7 O ?_)
  refine ev_add ?_
  refine Ok.xv O (xm_int) ?_
  refine ⟨_, rfl, ?_⟩
  refine ev_callH O H__law_take (fun _ _ => rfl) ?_
  refine ea_bor 0 rfl ?_
  refine ea_tmp ?_
  refine Ok.xv O (xm_int) ?_
  refine ea_nil ⟨(p5.2, (3 : Int), ()), rfl, nd1, good_imp (good_bind g) fun r8 g => ?_⟩
  refine ⟨_, rfl, ?_⟩
  refine @sb_wk _ _ _ _ _ [(ow (oLst cInt) r8.2), (va cInt a_n), (ow (oLst cInt) r1.1), (va cInt r2.1), (ow (oLst (cPr cInt cInt)) ([] : List (Int × Int))), (ow (oLst cInt) p5.1), un, (va cInt ((1 : Int) + r8.1)), un, un] (.keep (.keep (.keep (.keep (.keep (.keep (.drop (.keep (.drop (.drop .nil)))))))))) ?_
  refine sb_cons (s1_forI (js := [8]) (cd := cInt) O ?_)
  refine it_range E.f_range ?_
  refine Ok.xv O (xm_var 1) ?_
  obtain ⟨xs9, hx, g⟩ := good_lift (good_bind g)
  refine ⟨_, rfl, xs9, hx, ?_⟩
  refine fb_forS (fun (s10 : ((List Int) × (List (Int × Int)))) => ([(ow (oLst cInt) s10.1), (va cInt a_n), (ow (oLst cInt) r1.1), (va cInt r2.1), (ow (oLst (cPr cInt cInt)) s10.2), (ow (oLst cInt) p5.1), un, (va cInt ((1 : Int) + r8.1)), un, un] : List Bd)) (good_bind g) (.keep (.keep (.keep (.keep (.keep (.keep (.drop (.keep (.drop (.drop .nil)))))))))) (fun x11 s10 Pb hx g => ?_) (fun s10 g => ?_)
  · refine eg_name 8 O ?_
    refine @sb_wk _ _ _ _ _ [(ow (oLst cInt) s10.1), (va cInt a_n), (ow (oLst cInt) r1.1), (va cInt r2.1), (ow (oLst (cPr cInt cInt)) s10.2), (ow (oLst cInt) p5.1), un, (va cInt ((1 : Int) + r8.1)), (va cInt x11), un] (.keep (.keep (.keep (.keep (.keep (.keep (.drop (.keep (.keep (.drop .nil)))))))))) ?_
    refine sb_cons (s1_forI (js := [9]) (cd := cInt) O ?_)
    refine it_range E.f_range ?_
    refine Ok.xv O (xm_var 8) ?_
    obtain ⟨xs12, hx, g⟩ := good_lift (good_bind g)
    refine ⟨_, rfl, xs12, hx, ?_⟩
    refine fb_forS (fun (s13 : ((List Int) × (List (Int × Int)))) => ([(ow (oLst cInt) s13.1), (va cInt a_n), (ow (oLst cInt) r1.1), (va cInt r2.1), (ow (oLst (cPr cInt cInt)) s13.2), (ow (oLst cInt) p5.1), un, (va cInt ((1 : Int) + r8.1)), (va cInt x11), un] : List Bd)) (good_bind g) (.keep (.keep (.keep (.keep (.keep (.keep (.drop (.keep (.keep (.drop .nil)))))))))) (fun x14 s13 Pb hx g => ?_) (fun s13 g => ?_)
    · refine eg_name 9 O ?_
      refine @sb_wk _ _ _ _ _ [(ow (oLst cInt) s13.1), (va cInt a_n), (ow (oLst cInt) r1.1), (va cInt r2.1), (ow (oLst (cPr cInt cInt)) s13.2), (ow (oLst cInt) p5.1), un, (va cInt ((1 : Int) + r8.1)), (va cInt x11), (va cInt x14)] (.keep (.keep (.keep (.keep (.keep (.keep (.drop (.keep (.keep (.keep .nil)))))))))) ?_
      refine sb_cons (s1_if ((show TS _ _ _ _ _ (fun (s15 : (List Int)) => ([(ow (oLst cInt) s15), (va cInt a_n), (ow (oLst cInt) r1.1), (va cInt r2.1), (ow (oLst (cPr cInt cInt)) s13.2), (ow (oLst cInt) p5.1), un, (va cInt ((1 : Int) + r8.1)), (va cInt x11), (va cInt x14)] : List Bd)) _ from (ts_w (ws_or (m' := fun s19 => (((Res.ok (decide (r2.1 < (3 : Int)))) >>= fun k61 => Res.ok (k61, s19)) >>= fun p62 => if p62.1 = true then ((((Res.ok p5.1) >>= fun a64 => (Res.ok x14) >>= fun i65 => lift (atI a64 i65)) >>= fun x68 => ((Res.ok p5.1) >>= fun a66 => (Res.ok x11) >>= fun i67 => lift (atI a66 i67)) >>= fun y69 => Res.ok (decide (x68 < y69))) >>= fun k70 => Res.ok (k70, p62.2)) else Res.ok (false, p62.2)) >>= fun p78 => if p78.1 = true then Res.ok (true, p78.2) else (((Res.ok (decide ((3 : Int) < r2.1))) >>= fun k80 => Res.ok (k80, p78.2)) >>= fun p81 => if p81.1 = true then ((m__law_take p81.2 (4 : Int) >>= fun r83 => Res.ok (r83.1, r83.2)) >>= fun p84 => (Res.ok (((1 : Int) + r8.1), p84.2)) >>= fun q85 => Res.ok ((decide (p84.1 < q85.1)), q85.2)) else Res.ok (false, p81.2))) (ts_tm (Γs := (fun (s15 : (List Int)) => ([(ow (oLst cInt) s15), (va cInt a_n), (ow (oLst cInt) r1.1), (va cInt r2.1), (ow (oLst (cPr cInt cInt)) s13.2), (ow (oLst cInt) p5.1), un, (va cInt ((1 : Int) + r8.1)), (va cInt x11), (va cInt x14)] : List Bd))) (s := s13.1) (tp_cmp (k := fun (x : Int) (y : Int) => decide (x = y)) (cmp_eq scal_int) (xm_var 3) (xm_int))) (fun s19 => (ws_or (m' := fun s79 => ((Res.ok (decide ((3 : Int) < r2.1))) >>= fun k91 => Res.ok (k91, s79)) >>= fun p92 => if p92.1 = true then ((m__law_take p92.2 (4 : Int) >>= fun r94 => Res.ok (r94.1, r94.2)) >>= fun p95 => (Res.ok (((1 : Int) + r8.1), p95.2)) >>= fun q96 => Res.ok ((decide (p95.1 < q96.1)), q96.2)) else Res.ok (false, p92.2)) (ts_w (ws_and (m' := fun s63 => (((Res.ok p5.1) >>= fun a71 => (Res.ok x14) >>= fun i72 => lift (atI a71 i72)) >>= fun x75 => ((Res.ok p5.1) >>= fun a73 => (Res.ok x11) >>= fun i74 => lift (atI a73 i74)) >>= fun y76 => Res.ok (decide (x75 < y76))) >>= fun k77 => Res.ok (k77, s63)) (ts_tm (Γs := (fun (s15 : (List Int)) => ([(ow (oLst cInt) s15), (va cInt a_n), (ow (oLst cInt) r1.1), (va cInt r2.1), (ow (oLst (cPr cInt cInt)) s13.2), (ow (oLst cInt) p5.1), un, (va cInt ((1 : Int) + r8.1)), (va cInt x11), (va cInt x14)] : List Bd))) (s := s19) (tp_cmp (k := fun (x : Int) (y : Int) => decide (x < y)) cmp_lt (xm_var 3) (xm_int))) (fun s63 => (ws_and1 (ts_tm (Γs := (fun (s15 : (List Int)) => ([(ow (oLst cInt) s15), (va cInt a_n), (ow (oLst cInt) r1.1), (va cInt r2.1), (ow (oLst (cPr cInt cInt)) s13.2), (ow (oLst cInt) p5.1), un, (va cInt ((1 : Int) + r8.1)), (va cInt x11), (va cInt x14)] : List Bd))) (s := s63) (tm_cmpT (k := fun (x : Int) (y : Int) => decide (x < y)) cmp_lt (xm_itemL (xl_ow 5) (xm_var 9)) (xm_itemL (xl_ow 5) (xm_var 8)))))))) (fun s79 => (ws_or1 (ts_w (ws_and (m' := fun s93 => (m__law_take s93 (4 : Int) >>= fun r98 => Res.ok (r98.1, r98.2)) >>= fun p99 => (Res.ok (((1 : Int) + r8.1), p99.2)) >>= fun q100 => Res.ok ((decide (p99.1 < q100.1)), q100.2)) (ts_tm (Γs := (fun (s15 : (List Int)) => ([(ow (oLst cInt) s15), (va cInt a_n), (ow (oLst cInt) r1.1), (va cInt r2.1), (ow (oLst (cPr cInt cInt)) s13.2), (ow (oLst cInt) p5.1), un, (va cInt ((1 : Int) + r8.1)), (va cInt x11), (va cInt x14)] : List Bd))) (s := s79) (tp_cmp (k := fun (x : Int) (y : Int) => decide (y < x)) cmp_gt (xm_var 3) (xm_int))) (fun s93 => (ws_and1 (ts_cmp (k := fun (x : Int) (y : Int) => decide (x < y)) (m' := fun s101 => Res.ok (((1 : Int) + r8.1), s101)) cmp_lt (fun P g => by (refine ev_callH O H__law_take (fun _ _ => rfl) ?_; refine ea_bor 0 rfl ?_; refine ea_tmp ?_; refine Ok.xv O (xm_int) ?_; refine ea_nil ⟨(s93, (4 : Int), ()), rfl, nd1, good_imp (good_bind g) fun r98 g => ?_⟩; exact g)) (fun s101 => (xs_v (Γs := (fun (s15 : (List Int)) => ([(ow (oLst cInt) s15), (va cInt a_n), (ow (oLst cInt) r1.1), (va cInt r2.1), (ow (oLst (cPr cInt cInt)) s13.2), (ow (oLst cInt) p5.1), un, (va cInt ((1 : Int) + r8.1)), (va cInt x11), (va cInt x14)] : List Bd))) (s := s101) (xm_var 7))))))))))))))) _ (good_imp (good_bind g) fun p16 g => ite_sb g (fun g => ?_) (fun g => ?_))))
      · refine @sb_wk _ _ _ _ _ [(ow (oLst cInt) p16.2), (va cInt a_n), (ow (oLst cInt) r1.1), (va cInt r2.1), (ow (oLst (cPr cInt cInt)) s13.2), (ow (oLst cInt) p5.1), un, (va cInt ((1 : Int) + r8.1)), (va cInt x11), (va cInt x14)] (.keep (.keep (.keep (.keep (.keep (.keep (.drop (.keep (.keep (.keep .nil)))))))))) ?_
        refine sb_cons (s1_expr ?_)
        refine ev_append (m := "append") 4 rfl ?_
        refine Ok.x O (xm_pr (xm_itemL (xl_ow 2) (xm_var 9)) (xm_itemL (xl_ow 2) (xm_var 8))) _ (good_imp (good_bind g) fun r108 g => ?_)
        obtain ⟨ys109, hy, g⟩ := good_lift (good_bind g)
        refine ⟨_, rfl, _, ys109, rfl, hy, ?_⟩
        refine sb_nil ?_
        exact sb_nil ⟨(p16.2, ys109), g, (.keep (.keep (.keep (.keep (.keep (.keep (.drop (.keep (.keep (.drop .nil))))))))))⟩
      · refine sb_nil ?_
        exact sb_nil ⟨(p16.2, s13.2), g, (.keep (.keep (.keep (.keep (.keep (.keep (.drop (.keep (.keep (.drop .nil))))))))))⟩
    · exact sb_nil ⟨(s13.1, s13.2), g, (.keep (.keep (.keep (.keep (.keep (.keep (.drop (.keep (.drop (.drop .nil))))))))))⟩
  · refine sb_frz 4 rfl ?_
    refine sb_cons (s1_ret ?_)
    refine Ok.x O (xm_pr (xm_var 1) (xp_call (x := (a_n, s10.2, ())) O H__law_closed (ap_cons (xm_var 1) (ap_cons (xm_var 4) am_nil)) (fun _ _ => rfl))) _ (good_imp (good_bind g) fun r112 g => ?_)
    exact ⟨(r112, s10.1), g, rfl, ⟨.inr ⟨rfl, rfl⟩, .inl rfl, trivial⟩⟩
theorem ok__law_order {P : Program} {w : World} {K : Fg} {mg : Str → Option Value} {base : Heap} {C : Addr} (E : Fcts P w K mg base C) (H__law_closed : Has P w K mg base 1 "_law_closed" ["n", "pairs"] (s__law_closed C)) (H__law_shuffled : Has P w K mg base 2 "_law_shuffled" ["source", "count"] (s__law_shuffled C)) (H__law_take : Has P w K mg base 1 "_law_take" ["source", "top"] (s__law_take C)) : Has P w K mg base 3 "_law_order" ["source", "n"] (s__law_order C) := by
  obtain ⟨f, fd, hm, F⟩ := E.d__law_order
  refine ⟨f, fd, hm, bd__law_order E H__law_closed H__law_shuffled H__law_take F, F.bindsN (fun _ _ _ _ _ _ us hl => match us, hl with | [_, _], _ => rfl), F.kp⟩
end T
set_option maxHeartbeats 400000
namespace T
open PySem PySem.Spec PyProof.Rows L2
theorem bd__law_roads {P : Program} {w : World} {K : Fg} {mg : Str → Option Value} {base : Heap} {C : Addr} (E : Fcts P w K mg base C) {f : Addr} {fd : FuncData} (F : FunD K "_law_roads" "_law_roads" (defArgs (Hd.top 41)) (defBody (Hd.top 41)) (defScope (Hd.top 41)) [] [] f fd) : FnOk P w K mg base (L2.CX P w) 1 f fd ["house"] (spOf K mg (s__law_roads C)) := by
  refine fn_mk [] F sc__law_roads (fun _ => rfl) (fun _ _ => rfl) rfl ?_
  intro cdv A outer s0 H E0 F0 Sf st0 ⟨a_house, _⟩ Pr Zr O g
  change good (m__law_roads a_house) Pr Zr at g
  unfold m__law_roads at g
  refine @sb_wk _ _ _ _ _ [(va (cTup cInt) a_house), un, un, un, un] (Wk.refl _) ?_
  refine sb_cons (s1_asg 1 O ?_)
  refine ev_nil (cLst cInt) ?_
  refine sb_cons (s1_forI (js := [2]) (cd := cInt) O ?_)
  refine it_range E.f_range ?_
  refine Ok.xv O (xm_lenT E.f_len (xm_var 0)) ?_
  obtain ⟨xs1, hx, g⟩ := good_lift (good_bind g)
  refine ⟨_, rfl, xs1, hx, ?_⟩
  refine fb_forS (fun (s2 : (List (List Int))) => ([(va (cTup cInt) a_house), (ow (oLst (cLst cInt)) s2), un, un, un] : List Bd)) (good_bind g) (.keep (.keep (.drop (.drop (.drop .nil))))) (fun x3 s2 Pb hx g => ?_) (fun s2 g => ?_)
  · refine eg_name 2 O ?_
    refine sb_cons (s1_asg 3 O ?_)
    refine ev_lst (c := cInt) ?_
    refine ea_tmp ?_
    refine Ok.x O (xm_itemT (xm_var 0) (xm_var 2)) _ (good_imp (good_bind g) fun r6 g => ?_)
    refine ea_nil ⟨[r6], rfl, Nat.le_of_ble_eq_true rfl, ?_⟩
    refine sb_cons (s1_forI (js := [4]) (cd := cInt) O ?_)
    refine it_range E.f_range ?_
    refine Ok.xv O (xm_lenT E.f_len (xm_var 0)) ?_
    obtain ⟨xs7, hx, g⟩ := good_lift (good_bind g)
    refine ⟨_, rfl, xs7, hx, ?_⟩
    refine fb_forS (fun (s8 : (List Int)) => ([(va (cTup cInt) a_house), (ow (oLst (cLst cInt)) s2), (va cInt x3), (ow (oLst cInt) s8), un] : List Bd)) (good_bind g) (.keep (.keep (.keep (.keep (.drop .nil))))) (fun x9 s8 Pb hx g => ?_) (fun s8 g => ?_)
    · refine eg_name 4 O ?_
      refine sb_cons (s1_if (Ok.t O (tm_cmpT (k := fun (x : Int) (y : Int) => decide (y ≤ x)) cmp_ge (xm_itemL (xl_ow 3) (xp_neg (xm_int))) (xm_int)) _ (good_imp (good_bind g) fun k20 g => ite_sb g (fun g => ?_) (fun g => ?_))))
      · refine sb_cons (s1_expr ?_)
        refine ev_append (m := "append") 3 rfl ?_
        refine Ok.x O (xm_itemT (xm_var 0) (xm_itemL (xl_ow 3) (xp_neg (xm_int)))) _ (good_imp (good_bind g) fun r18 g => ?_)
        obtain ⟨ys19, hy, g⟩ := good_lift (good_bind g)
        refine ⟨_, rfl, _, ys19, rfl, hy, ?_⟩
        refine sb_nil ?_
        exact sb_nil ⟨ys19, g, (.keep (.keep (.keep (.keep (.drop .nil)))))⟩
      · refine sb_nil ?_
        exact sb_nil ⟨s8, g, (.keep (.keep (.keep (.keep (.drop .nil)))))⟩
    · refine sb_frz 3 rfl ?_
      refine sb_cons (s1_expr ?_)
      refine ev_append (m := "append") 1 rfl ?_
      refine Ok.xv O (xm_var 3) ?_
      obtain ⟨ys21, hy, g⟩ := good_lift (good_bind g)
      refine ⟨_, rfl, _, ys21, rfl, hy, ?_⟩
      exact sb_nil ⟨ys21, g, (.keep (.keep (.drop (.drop (.drop .nil)))))⟩
  · refine sb_frz 1 rfl ?_
    refine sb_cons (s1_ret ?_)
    refine Ok.xv O (xm_var 1) ?_
    exact ⟨s2, g, rfl, ⟨.inl rfl, trivial⟩⟩
theorem ok__law_roads {P : Program} {w : World} {K : Fg} {mg : Str → Option Value} {base : Heap} {C : Addr} (E : Fcts P w K mg base C) : Has P w K mg base 1 "_law_roads" ["house"] (s__law_roads C) := by
  obtain ⟨f, fd, hm, F⟩ := E.d__law_roads
  refine ⟨f, fd, hm, bd__law_roads E F, F.bindsN (fun _ _ _ _ _ _ us hl => match us, hl with | [_], _ => rfl), F.kp⟩
end T
set_option maxHeartbeats 400000
namespace T
open PySem PySem.Spec PyProof.Rows L2
theorem bd__law_lords {P : Program} {w : World} {K : Fg} {mg : Str → Option Value} {base : Heap} {C : Addr} (E : Fcts P w K mg base C) (H__law_roads : Has P w K mg base 1 "_law_roads" ["house"] (s__law_roads C)) {f : Addr} {fd : FuncData} (F : FunD K "_law_lords" "_law_lords" (defArgs (Hd.top 43)) (defBody (Hd.top 43)) (defScope (Hd.top 43)) [] [] f fd) : FnOk P w K mg base (L2.CX P w) 2 f fd ["pairs", "house"] (spOf K mg (s__law_lords C)) := by
  refine fn_mk [] F sc__law_lords (fun _ => rfl) (fun _ _ => rfl) rfl ?_
  intro cdv A outer s0 H E0 F0 Sf st0 ⟨a_pairs, a_house, _⟩ Pr Zr O g
  change good (m__law_lords a_pairs a_house) Pr Zr at g
  unfold m__law_lords at g
  refine @sb_wk _ _ _ _ _ [(va (cLst (cPr cInt cInt)) a_pairs), (va (cTup cInt) a_house), un, un, un, un] (Wk.refl _) ?_
  refine sb_cons (s1_par 2 3 O ?_)
  refine ea_tmp ?_
  refine ev_nil cInt ?_
  refine ea_tmp ?_
  refine Ok.x O (xp_call (x := (a_house, ())) O H__law_roads (ap_cons (xm_var 1) am_nil) (fun _ _ => rfl)) _ (good_imp (good_bind g) fun r1 g => ?_)
  refine ea_nil ⟨_, _, rfl, ?_⟩
  refine sb_cons (s1_forI (js := [4]) (cd := cInt) O ?_)
  refine it_range E.f_range ?_
  refine Ok.xv O (xm_lenT E.f_len (xm_var 1)) ?_
  obtain ⟨xs2, hx, g⟩ := good_lift (good_bind g)
  refine ⟨_, rfl, xs2, hx, ?_⟩
  refine fb_forS (fun (s3 : (List Int)) => ([(va (cLst (cPr cInt cInt)) a_pairs), (va (cTup cInt) a_house), (ow (oLst cInt) s3), (va (cLst (cLst cInt)) r1), un, un] : List Bd)) (good_bind g) (.keep (.keep (.keep (.keep (.drop (.drop .nil)))))) (fun x4 s3 Pb hx g => ?_) (fun s3 g => ?_)
  · refine eg_name 4 O ?_
    refine sb_cons (s1_expr ?_)
    refine ev_append (m := "append") 2 rfl ?_
    refine ev_itemL (Z := ZF) (c := cInt) ?_
    refine el_ev ?_
    refine ev_comp (gi := none) (f := (fun x10 (s8 : Unit) => if (!memb (x10, x4) a_pairs) = true then (Res.ok (some x10, ())) else Res.ok (none, ()))) (cd := cInt) cInt O (own := [("y", 5)]) (fun (s8 : Unit) => ([(va (cLst (cPr cInt cInt)) a_pairs), (va (cTup cInt) a_house), (ow (oLst cInt) s3), (va (cLst (cLst cInt)) r1), (va cInt x4), un] : List Bd)) ?_ (fun _ _ _ _ _ _ x10 s8 Pb g => by (refine eg_name 5 (Ok.blk O) ?_; intro _ _ _ _ _; exact Ok.tv (Ok.blk O) (tm_notInD (Ok.blk O) (deep_pr (deep_int) (deep_int)) (xp_pr (xm_var 5) (xm_var 4)) (xl_var 0)) (ite_p g (fun g => by (intro _ _ _ _ _; refine Ok.xv (Ok.blk O) (xm_var 5) ?_; exact ⟨_, (), g, rfl, (.keep (.keep (.keep (.keep (.keep (.drop .nil))))))⟩)) (fun g => ⟨(), g, (.keep (.keep (.keep (.keep (.keep (.drop .nil))))))⟩)))) (ok := by kernel_rfl)
    refine it_list ?_
    refine Ok.x O (xm_itemL (xl_var 3) (xm_var 4)) _ (good_imp (good_bind g) fun r7 g => ?_)
    refine ⟨_, rfl, ?_⟩
    refine ⟨(), _, (.keep (.keep (.keep (.keep (.keep (.drop .nil)))))), fun _ => trivial, good_imp (good_bind g) fun p9 g => ?_⟩
    refine ⟨_, .inl rfl, ?_⟩
    obtain ⟨z13, hz, g⟩ := good_lift (good_bind g)
    refine ⟨_, xm_int, z13, hz, ?_⟩
    obtain ⟨ys14, hy, g⟩ := good_lift (good_bind g)
    refine ⟨_, rfl, _, ys14, rfl, hy, ?_⟩
    exact sb_nil ⟨ys14, g, (.keep (.keep (.keep (.keep (.drop (.drop .nil))))))⟩
  · refine sb_frz 2 rfl ?_
    refine sb_cons (s1_ret ?_)
    refine Ok.xv O (xm_var 2) ?_
    exact ⟨s3, g, rfl, ⟨.inl rfl, .inl rfl, trivial⟩⟩
theorem ok__law_lords {P : Program} {w : World} {K : Fg} {mg : Str → Option Value} {base : Heap} {C : Addr} (E : Fcts P w K mg base C) (H__law_roads : Has P w K mg base 1 "_law_roads" ["house"] (s__law_roads C)) : Has P w K mg base 2 "_law_lords" ["pairs", "house"] (s__law_lords C) := by
  obtain ⟨f, fd, hm, F⟩ := E.d__law_lords
  refine ⟨f, fd, hm, bd__law_lords E H__law_roads F, F.bindsN (fun _ _ _ _ _ _ us hl => match us, hl with | [_, _], _ => rfl), F.kp⟩
end T
set_option maxHeartbeats 400000
namespace T
open PySem PySem.Spec PyProof.Rows L2
theorem bd__law_one {P : Program} {w : World} {K : Fg} {mg : Str → Option Value} {base : Heap} {C : Addr} (E : Fcts P w K mg base C) (H__law_take : Has P w K mg base 1 "_law_take" ["source", "top"] (s__law_take C)) {f : Addr} {fd : FuncData} (F : FunD K "_law_one" "_law_one" (defArgs (Hd.top 37)) (defBody (Hd.top 37)) (defScope (Hd.top 37)) [] [] f fd) : FnOk P w K mg base (L2.CX P w) 2 f fd ["source", "things"] (spOf K mg (s__law_one C)) := by
  refine fn_mk [0] F sc__law_one (fun _ => rfl) (fun _ _ => rfl) rfl ?_
  intro cdv A outer s0 H E0 F0 Sf st0 ⟨a_source, a_things, _⟩ Pr Zr O g
  change good (m__law_one a_source a_things) Pr Zr at g
  unfold m__law_one at g
  refine @sb_wk _ _ _ _ _ [(ow (oLst cInt) a_source), (va (cLst cInt) a_things)] (Wk.refl _) ?_
  refine sb_cons (s1_ret ?_)
  refine ev_itemE (c := cInt) ?_
  refine Ok.xv O (xm_var 1) ?_
  refine ⟨_, rfl, ?_⟩
  refine ev_callH O H__law_take (fun _ _ => rfl) ?_
  refine ea_bor 0 rfl ?_
  refine ea_tmp ?_
  refine Ok.xv O (xm_lenL E.f_len ((xl_var 1))) ?_
  refine ea_nil ⟨(a_source, (List.length a_things : Int), ()), rfl, nd1, good_imp (good_bind g) fun r1 g => ?_⟩
  obtain ⟨z2, hz, g⟩ := good_lift (good_bind g)
  refine ⟨_, rfl, z2, hz, ?_⟩
  exact ⟨(z2, r1.2), g, rfl, ⟨.inr ⟨rfl, rfl⟩, .inl rfl, trivial⟩⟩
theorem ok__law_one {P : Program} {w : World} {K : Fg} {mg : Str → Option Value} {base : Heap} {C : Addr} (E : Fcts P w K mg base C) (H__law_take : Has P w K mg base 1 "_law_take" ["source", "top"] (s__law_take C)) : Has P w K mg base 2 "_law_one" ["source", "things"] (s__law_one C) := by
  obtain ⟨f, fd, hm, F⟩ := E.d__law_one
  refine ⟨f, fd, hm, bd__law_one E H__law_take F, F.bindsN (fun _ _ _ _ _ _ us hl => match us, hl with | [_, _], _ => rfl), F.kp⟩
end T
set_option maxHeartbeats 400000
namespace T
open PySem PySem.Spec PyProof.Rows L2
theorem bd__law_names {P : Program} {w : World} {K : Fg} {mg : Str → Option Value} {base : Heap} {C : Addr} (E : Fcts P w K mg base C) (H__law_one : Has P w K mg base 2 "_law_one" ["source", "things"] (s__law_one C)) {f : Addr} {fd : FuncData} (F : FunD K "_law_names" "_law_names" (defArgs (Hd.top 46)) (defBody (Hd.top 46)) (defScope (Hd.top 46)) [] [] f fd) : FnOk P w K mg base (L2.CX P w) 3 f fd ["source", "n"] (spOf K mg (s__law_names C)) := by
  refine fn_mk [0] F sc__law_names (fun _ => rfl) (fun _ _ => rfl) rfl ?_
  intro cdv A outer s0 H E0 F0 Sf st0 ⟨a_source, a_n, _⟩ Pr Zr O g
  change good (m__law_names a_source a_n) Pr Zr at g
  unfold m__law_names at g
  refine @sb_wk _ _ _ _ _ [(ow (oLst cInt) a_source), (va cInt a_n)] (Wk.refl _) ?_
  refine sb_cons (s1_ret ?_)
  refine ev_callH O H__law_one (fun _ _ => rfl) ?_
  refine ea_bor 0 rfl ?_
  refine ea_tmp (ev_frz (c := cInt) ?_)
  refine ev_lst (c := cInt) ?_
  refine ea_tmp ?_
  refine Ok.xv O (xp_neg (xm_int)) ?_
  refine ea_tmp ?_
  refine Ok.xv O (xp_neg (xm_int)) ?_
  refine ea_tmp ?_
  refine Ok.xv O (xm_var 1) ?_
  refine ea_tmp ?_
  refine Ok.xv O (xp_add (xm_var 1) (xp_pow (xm_int) (xm_int))) ?_
  refine ea_nil ⟨[(-(1 : Int)), (-(2 : Int)), a_n, (a_n + (((10 : Int)) ^ ((9 : Int)).toNat))], rfl, Nat.le_of_ble_eq_true rfl, ?_⟩
  refine ⟨_, rfl, ?_⟩
  refine ea_nil ⟨(a_source, [(-(1 : Int)), (-(2 : Int)), a_n, (a_n + (((10 : Int)) ^ ((9 : Int)).toNat))], ()), rfl, nd1, good_imp (good_bind g) fun r1 g => ?_⟩
  exact ⟨(r1.1, r1.2), g, rfl, ⟨.inr ⟨rfl, rfl⟩, .inl rfl, trivial⟩⟩
theorem ok__law_names {P : Program} {w : World} {K : Fg} {mg : Str → Option Value} {base : Heap} {C : Addr} (E : Fcts P w K mg base C) (H__law_one : Has P w K mg base 2 "_law_one" ["source", "things"] (s__law_one C)) : Has P w K mg base 3 "_law_names" ["source", "n"] (s__law_names C) := by
  obtain ⟨f, fd, hm, F⟩ := E.d__law_names
  refine ⟨f, fd, hm, bd__law_names E H__law_one F, F.bindsN (fun _ _ _ _ _ _ us hl => match us, hl with | [_, _], _ => rfl), F.kp⟩
end T
set_option maxHeartbeats 400000
namespace T
open PySem PySem.Spec PyProof.Rows L2
theorem bd__law_places {P : Program} {w : World} {K : Fg} {mg : Str → Option Value} {base : Heap} {C : Addr} (E : Fcts P w K mg base C) (H__law_one : Has P w K mg base 2 "_law_one" ["source", "things"] (s__law_one C)) {f : Addr} {fd : FuncData} (F : FunD K "_law_places" "_law_places" (defArgs (Hd.top 44)) (defBody (Hd.top 44)) (defScope (Hd.top 44)) [] [] f fd) : FnOk P w K mg base (L2.CX P w) 3 f fd ["source"] (spOf K mg (s__law_places C)) := by
  refine fn_mk [0] F sc__law_places (fun _ => rfl) (fun _ _ => rfl) rfl ?_
  intro cdv A outer s0 H E0 F0 Sf st0 ⟨a_source, _⟩ Pr Zr O g
  change good (m__law_places a_source) Pr Zr at g
  unfold m__law_places at g
  refine @sb_wk _ _ _ _ _ [(ow (oLst cInt) a_source)] (Wk.refl _) ?_
  refine sb_cons (s1_ret ?_)
  refine ev_callH O H__law_one (fun _ _ => rfl) ?_
  refine ea_bor 0 rfl ?_
  refine ea_tmp (ev_frz (c := cInt) ?_)
  refine ev_lst (c := cInt) ?_
  refine ea_tmp ?_
  refine Ok.xv O (xm_int) ?_
  refine ea_tmp ?_
  refine Ok.xv O (xm_int) ?_
  refine ea_tmp ?_
  refine Ok.xv O (xm_int) ?_
  refine ea_tmp ?_
  refine Ok.xv O (xm_int) ?_
  refine ea_tmp ?_
  refine Ok.xv O (xm_int) ?_
  refine ea_tmp ?_
  refine Ok.xv O (xm_int) ?_
  refine ea_tmp ?_
  refine Ok.xv O (xm_int) ?_
  refine ea_tmp ?_
  refine Ok.xv O (xm_int) ?_
  refine ea_tmp ?_
  refine Ok.xv O (xm_int) ?_
  refine ea_nil ⟨[(1 : Int), (2 : Int), (3 : Int), (3 : Int), (4 : Int), (4 : Int), (5 : Int), (5 : Int), (6 : Int)], rfl, Nat.le_of_ble_eq_true rfl, ?_⟩
  refine ⟨_, rfl, ?_⟩
  refine ea_nil ⟨(a_source, [(1 : Int), (2 : Int), (3 : Int), (3 : Int), (4 : Int), (4 : Int), (5 : Int), (5 : Int), (6 : Int)], ()), rfl, nd1, good_imp (good_bind g) fun r1 g => ?_⟩
  exact ⟨(r1.1, r1.2), g, rfl, ⟨.inr ⟨rfl, rfl⟩, trivial⟩⟩
theorem ok__law_places {P : Program} {w : World} {K : Fg} {mg : Str → Option Value} {base : Heap} {C : Addr} (E : Fcts P w K mg base C) (H__law_one : Has P w K mg base 2 "_law_one" ["source", "things"] (s__law_one C)) : Has P w K mg base 3 "_law_places" ["source"] (s__law_places C) := by
  obtain ⟨f, fd, hm, F⟩ := E.d__law_places
  refine ⟨f, fd, hm, bd__law_places E H__law_one F, F.bindsN (fun _ _ _ _ _ _ us hl => match us, hl with | [_], _ => rfl), F.kp⟩
end T
set_option maxHeartbeats 400000
namespace T
open PySem PySem.Spec PyProof.Rows L2
theorem bd__law_house {P : Program} {w : World} {K : Fg} {mg : Str → Option Value} {base : Heap} {C : Addr} (E : Fcts P w K mg base C) (H__law_shuffled : Has P w K mg base 2 "_law_shuffled" ["source", "count"] (s__law_shuffled C)) (H__law_take : Has P w K mg base 1 "_law_take" ["source", "top"] (s__law_take C)) {f : Addr} {fd : FuncData} (F : FunD K "_law_house" "_law_house" (defArgs (Hd.top 42)) (defBody (Hd.top 42)) (defScope (Hd.top 42)) [] [] f fd) : FnOk P w K mg base (L2.CX P w) 3 f fd ["source", "n"] (spOf K mg (s__law_house C)) := by
  refine fn_mk [0] F sc__law_house (fun _ => rfl) (fun _ _ => rfl) rfl ?_
  intro cdv A outer s0 H E0 F0 Sf st0 ⟨a_source, a_n, _⟩ Pr Zr O g
  change good (m__law_house a_source a_n) Pr Zr at g
  unfold m__law_house at g
  refine @sb_wk _ _ _ _ _ [(ow (oLst cInt) a_source), (va cInt a_n), un, un, un, un, un] (Wk.refl _) ?_
  refine sb_cons (s1_par3 2 3 4 O ?_)
  refine ea_tmp ?_
  refine ev_callH O H__law_shuffled (fun _ _ => rfl) ?_
  refine ea_bor 0 rfl ?_
  refine ea_tmp ?_
  refine Ok.xv O (xm_var 1) ?_
  refine ea_nil ⟨(a_source, a_n, ()), rfl, nd1, good_imp (good_bind g) fun r1 g => ?_⟩
  refine ea_tmp ?_
  refine ev_callH O H__law_take (fun _ _ => rfl) ?_
  refine ea_bor 0 rfl ?_
  refine ea_tmp ?_
  refine Ok.xv O (xm_int) ?_
  refine ea_nil ⟨(r1.2, (5 : Int), ()), rfl, nd1, good_imp (good_bind g) fun r2 g => ?_⟩
  refine ea_tmp ?_
  refine ev_rep (c := cInt) ?_
  refine ev_lst (c := cInt) ?_
  refine ea_tmp ?_
  refine Ok.xv O (xp_neg (xm_int)) ?_
  refine ea_nil ⟨[(-(1 : Int))], rfl, Nat.le_of_ble_eq_true rfl, ?_⟩
  refine ⟨_, rfl, ?_⟩
  refine Ok.xv O (xm_var 1) ?_
  obtain ⟨z3, hz, g⟩ := good_lift (good_bind g)
  refine ⟨_, rfl, z3, hz, ?_⟩
  refine ea_nil ⟨_, _, _, rfl, ?_⟩
  refine sb_cons (s1_forI (js := [5]) (cd := cInt) O ?_)
  refine it_range2 E.f_range ?_
  refine Ok.xv O (xm_int) ?_
  refine ⟨_, rfl, ?_⟩
  refine Ok.xv O (xm_var 1) ?_
  obtain ⟨xs4, hx, g⟩ := good_lift (good_bind g)
  refine ⟨_, rfl, xs4, hx, ?_⟩
  refine fb_forS (fun (s5 : ((List Int) × (List Int))) => ([(ow (oLst cInt) s5.1), (va cInt a_n), (ow (oLst cInt) r1.1), (va cInt r2.1), (ow (oLst cInt) s5.2), un, un] : List Bd)) (good_bind g) (.keep (.keep (.keep (.keep (.keep (.drop (.drop .nil))))))) (fun x6 s5 Pb hx g => ?_) (fun s5 g => ?_)
  · refine eg_name 5 O ?_
    refine sb_cons (s1_asg 6 O ?_)
    refine ev_callH O H__law_take (fun _ _ => rfl) ?_
    refine ea_bor 0 rfl ?_
    refine ea_tmp ?_
    refine Ok.xv O (xp_add (xm_var 5) (xm_int)) ?_
    refine ea_nil ⟨(s5.1, (x6 + (1 : Int)), ()), rfl, nd1, good_imp (good_bind g) fun r7 g => ?_⟩
    refine sb_cutg (fun (s35 : ((List Int) × Int)) => ([(ow (oLst cInt) s35.1), (va cInt a_n), (ow (oLst cInt) r1.1), (va cInt r2.1), (ow (oLst cInt) s5.2), (va cInt x6), (va cInt s35.2)] : List Bd)) g (fun g => ?_) (fun s35 g => ?_)
    · refine s1_if ((show TS _ _ _ _ _ (fun (s36 : (List Int)) => ([(ow (oLst cInt) s36), (va cInt a_n), (ow (oLst cInt) r1.1), (va cInt r2.1), (ow (oLst cInt) s5.2), (va cInt x6), (va cInt r7.1)] : List Bd)) _ from (ts_w (ws_or (m' := fun s40 => ((Res.ok (decide (r2.1 = (1 : Int)))) >>= fun k52 => Res.ok (k52, s40)) >>= fun p53 => if p53.1 = true then ((m__law_take p53.2 (2 : Int) >>= fun r55 => Res.ok (r55.1, r55.2)) >>= fun p56 => (Res.ok ((0 : Int), p56.2)) >>= fun q57 => Res.ok ((decide (p56.1 = q57.1)), q57.2)) else Res.ok (false, p53.2)) (ts_tm (Γs := (fun (s36 : (List Int)) => ([(ow (oLst cInt) s36), (va cInt a_n), (ow (oLst cInt) r1.1), (va cInt r2.1), (ow (oLst cInt) s5.2), (va cInt x6), (va cInt r7.1)] : List Bd))) (s := r7.2) (tp_cmp (k := fun (x : Int) (y : Int) => decide (x = y)) (cmp_eq scal_int) (xm_var 3) (xm_int))) (fun s40 => (ws_or1 (ts_w (ws_and (m' := fun s54 => (m__law_take s54 (2 : Int) >>= fun r59 => Res.ok (r59.1, r59.2)) >>= fun p60 => (Res.ok ((0 : Int), p60.2)) >>= fun q61 => Res.ok ((decide (p60.1 = q61.1)), q61.2)) (ts_tm (Γs := (fun (s36 : (List Int)) => ([(ow (oLst cInt) s36), (va cInt a_n), (ow (oLst cInt) r1.1), (va cInt r2.1), (ow (oLst cInt) s5.2), (va cInt x6), (va cInt r7.1)] : List Bd))) (s := s40) (tp_cmp (k := fun (x : Int) (y : Int) => decide (x = y)) (cmp_eq scal_int) (xm_var 3) (xm_int))) (fun s54 => (ws_and1 (ts_cmp (k := fun (x : Int) (y : Int) => decide (x = y)) (m' := fun s62 => Res.ok ((0 : Int), s62)) (cmp_eq scal_int) (fun P g => by (refine ev_callH O H__law_take (fun _ _ => rfl) ?_; refine ea_bor 0 rfl ?_; refine ea_tmp ?_; refine Ok.xv O (xm_int) ?_; refine ea_nil ⟨(s54, (2 : Int), ()), rfl, nd1, good_imp (good_bind g) fun r59 g => ?_⟩; exact g)) (fun s62 => (xs_v (Γs := (fun (s36 : (List Int)) => ([(ow (oLst cInt) s36), (va cInt a_n), (ow (oLst cInt) r1.1), (va cInt r2.1), (ow (oLst cInt) s5.2), (va cInt x6), (va cInt r7.1)] : List Bd))) (s := s62) (xm_int))))))))))))) _ (good_imp (good_bind g) fun p37 g => ite_sb g (fun g => ?_) (fun g => ?_)))
      · refine sb_cons (s1_asg 6 O ?_)
        refine Ok.xv O (xm_var 5) ?_
        exact sb_nil ⟨(p37.2, x6), g, (.keep (.keep (.keep (.keep (.keep (.keep (.keep .nil)))))))⟩
      · exact sb_nil ⟨(p37.2, r7.1), g, (.keep (.keep (.keep (.keep (.keep (.keep (.keep .nil)))))))⟩
    · refine sb_cons (s1_if (Ok.tv O (tp_cmp (k := fun (x : Int) (y : Int) => decide (y < x)) cmp_gt (xm_var 6) (xm_int)) (ite_sb g (fun g => ?_) (fun g => ?_))))
      · refine sb_cons (s1_item (c := cInt) 4 O ?_)
        refine Ok.x O (xm_itemL (xl_ow 2) (xp_sub (xm_var 6) (xm_int))) _ (good_imp (good_bind g) fun r65 g => ?_)
        refine ⟨_, rfl, _, xm_itemL (xl_ow 2) (xm_var 5), _, rfl, good_imp (good_bind g) fun j69 g => ?_⟩
        obtain ⟨ys68, hy, g⟩ := good_lift (good_bind g)
        refine ⟨ys68, hy, ?_⟩
        refine sb_nil ?_
        exact sb_nil ⟨(s35.1, ys68), g, (.keep (.keep (.keep (.keep (.keep (.drop (.drop .nil)))))))⟩
      · refine sb_nil ?_
        exact sb_nil ⟨(s35.1, s5.2), g, (.keep (.keep (.keep (.keep (.keep (.drop (.drop .nil)))))))⟩
  · refine sb_cons (s1_ret ?_)
    refine ev_tupleL (c := cInt) E.f_tuple ?_
    refine Ok.lv O (xl_ow 4) ?_
    exact ⟨(s5.2, s5.1), g, rfl, ⟨.inr ⟨rfl, rfl⟩, .inl rfl, trivial⟩⟩
theorem ok__law_house {P : Program} {w : World} {K : Fg} {mg : Str → Option Value} {base : Heap} {C : Addr} (E : Fcts P w K mg base C) (H__law_shuffled : Has P w K mg base 2 "_law_shuffled" ["source", "count"] (s__law_shuffled C)) (H__law_take : Has P w K mg base 1 "_law_take" ["source", "top"] (s__law_take C)) : Has P w K mg base 3 "_law_house" ["source", "n"] (s__law_house C) := by
  obtain ⟨f, fd, hm, F⟩ := E.d__law_house
  refine ⟨f, fd, hm, bd__law_house E H__law_shuffled H__law_take F, F.bindsN (fun _ _ _ _ _ _ us hl => match us, hl with | [_, _], _ => rfl), F.kp⟩
end T
set_option maxHeartbeats 400000
namespace T
open PySem PySem.Spec PyProof.Rows L2
theorem bd_check_size {P : Program} {w : World} {K : Fg} {mg : Str → Option Value} {base : Heap} {C : Addr} (E : Fcts P w K mg base C) {f : Addr} {fd : FuncData} (F : FunD K "check_size" "check_size" (defArgs (Hd.top 24)) (defBody (Hd.top 24)) (defScope (Hd.top 24)) [] [] f fd) : FnOk P w K mg base (L2.CX P w) 3 f fd ["n"] (spOf K mg (s_check_size C)) := by
  refine fn_mk [] F sc_check_size (fun _ => rfl) (fun _ _ => rfl) rfl ?_
  intro cdv A outer s0 H E0 F0 Sf st0 ⟨a_n, _⟩ Pr Zr O g
  change good (m_check_size a_n) Pr Zr at g
  unfold m_check_size at g
  refine @sb_wk _ _ _ _ _ [(va cInt a_n)] (Wk.refl _) ?_
  refine sb_cons (s1_if (Ok.tv O (tp_not (xp_chain (k := fun (x : Int) (y : Int) => decide (x ≤ y)) (k' := fun (x : Int) (y : Int) => decide (x ≤ y)) cmp_le cmp_le (xm_int) (xm_var 0) (xm_globI E.i_MOST_PLACES))) (ite_sb g (fun g => ?_) (fun g => ?_))))
  · refine sb_cons (s1_raise (c := cInt) (fun (i : Int) => PyData.int i) dp_int O E.x_BadSize ?_)
    refine Ok.xv O (xm_var 0) ?_
    exact ⟨_, rfl, g⟩
  · refine sb_nil ?_
    exact sb_nil ⟨(), g, rfl, ⟨.inl rfl, trivial⟩⟩
theorem ok_check_size {P : Program} {w : World} {K : Fg} {mg : Str → Option Value} {base : Heap} {C : Addr} (E : Fcts P w K mg base C) : Has P w K mg base 3 "check_size" ["n"] (s_check_size C) := by
  obtain ⟨f, fd, hm, F⟩ := E.d_check_size
  refine ⟨f, fd, hm, bd_check_size E F, F.bindsN (fun _ _ _ _ _ _ us hl => match us, hl with | [_], _ => rfl), F.kp⟩
end T
set_option maxHeartbeats 400000
namespace T
open PySem PySem.Spec PyProof.Rows L2
theorem bd_grid_of_pairs {P : Program} {w : World} {K : Fg} {mg : Str → Option Value} {base : Heap} {C : Addr} (E : Fcts P w K mg base C) (H_check_size : Has P w K mg base 3 "check_size" ["n"] (s_check_size C)) {f : Addr} {fd : FuncData} (F : FunD K "grid_of_pairs" "grid_of_pairs" (defArgs (Hd.top 26)) (defBody (Hd.top 26)) (defScope (Hd.top 26)) [] [] f fd) : FnOk P w K mg base (L2.CX P w) 4 f fd ["n", "pairs"] (spOf K mg (s_grid_of_pairs C)) := by
  refine fn_mk [] F sc_grid_of_pairs (fun _ => rfl) (fun _ _ => rfl) rfl ?_
  intro cdv A outer s0 H E0 F0 Sf st0 ⟨a_n, a_pairs, _⟩ Pr Zr O g
  change good (m_grid_of_pairs a_n a_pairs) Pr Zr at g
  unfold m_grid_of_pairs at g
  refine @sb_wk _ _ _ _ _ [(va cInt a_n), (va (cTup (cPr cInt cInt)) a_pairs), un, un, un, un, un] (Wk.refl _) ?_
  refine sb_cons (s1_expr ?_)
  refine Ok.x O (xp_call (x := (a_n, ())) O H_check_size (ap_cons (xm_var 0) am_nil) (fun _ _ => rfl)) _ (good_imp (good_bind g) fun r1 g => ?_)
  refine sb_cons (s1_compG (gi := none) (f := (fun x5 (s3 : Unit) => lift (repO [false] a_n) >>= fun z6 => Res.ok (some z6, ()))) (cd := cInt) abs_grid 2 O (own := [("_", 3)]) (fun (s3 : Unit) => ([(va cInt a_n), (va (cTup (cPr cInt cInt)) a_pairs), un, un, un, un, un] : List Bd)) ?_ (fun _ _ _ _ _ _ x5 s3 Pb g => by (refine eg_name 3 (Ok.blk O) ?_; intro _ _ _ _ _; refine ev_rep (c := cBool) ?_; refine ev_lst (c := cBool) ?_; refine ea_tmp ?_; refine Ok.xv (Ok.blk O) (xm_bool) ?_; refine ea_nil ⟨[false], rfl, Nat.le_of_ble_eq_true rfl, ?_⟩; refine ⟨_, rfl, ?_⟩; refine Ok.xv (Ok.blk O) (xm_var 0) ?_; obtain ⟨z6, hz, g⟩ := good_lift (good_bind g); refine ⟨_, rfl, z6, hz, ?_⟩; exact ⟨_, (), g, rfl, (.keep (.keep (.drop (.drop (.drop (.drop (.drop .nil)))))))⟩)) (ok := by kernel_rfl))
  refine it_range E.f_range ?_
  refine Ok.xv O (xm_var 0) ?_
  obtain ⟨xs2, hx, g⟩ := good_lift (good_bind g)
  refine ⟨_, rfl, xs2, hx, ?_⟩
  refine ⟨(), _, (.keep (.keep (.drop (.drop (.drop (.drop (.drop .nil))))))), fun _ => trivial, good_imp (good_bind g) fun p4 g => ?_⟩
  refine sb_cons (s1_forI (js := ([4] ++ ([5] ++ [6]))) (cd := (cPr cInt (cPr cInt cInt))) O ?_)
  refine it_enum (cd := (cPr cInt cInt)) false E.f_enumerate ?_
  refine Ok.xv O (xm_var 1) ?_
  refine ⟨_, rfl, ?_⟩
  refine fb_forS (fun (s7 : (List (List Bool))) => ([(va cInt a_n), (va (cTup (cPr cInt cInt)) a_pairs), (ow (oGrid cBool) s7), un, un, un, un] : List Bd)) (good_bind g) (.keep (.keep (.keep (.drop (.drop (.drop (.drop .nil))))))) (fun x8 s7 Pb hx g => ?_) (fun s7 g => ?_)
  · refine eg_pair O (eg_name 4 O (eg_pair O (eg_name 5 O (eg_name 6 O ?_))))
    refine sb_cons (s1_if (Ok.tv O (tm_w (wp_or (tp_not (xp_chain (k := fun (x : Int) (y : Int) => decide (x ≤ y)) (k' := fun (x : Int) (y : Int) => decide (x < y)) cmp_le cmp_lt (xm_int) (xm_var 5) (xm_var 0))) (wp_or (tp_not (xp_chain (k := fun (x : Int) (y : Int) => decide (x ≤ y)) (k' := fun (x : Int) (y : Int) => decide (x < y)) cmp_le cmp_lt (xm_int) (xm_var 6) (xm_var 0))) (wm_or1 (tp_cmp (k := fun (x : Int) (y : Int) => decide (x = y)) (cmp_eq scal_int) (xm_var 5) (xm_var 6)))))) (ite_sb g (fun g => ?_) (fun g => ?_))))
    · refine sb_cons (s1_raise (c := cInt) (fun (i : Int) => PyData.int i) dp_int O E.x_BadPair ?_)
      refine Ok.xv O (xm_var 4) ?_
      exact ⟨_, rfl, g⟩
    · refine sb_nil ?_
      refine sb_cons (s1_grid (c := cBool) 2 O ?_)
      refine Ok.xv O (xm_bool) ?_
      obtain ⟨ys9, hy, g⟩ := good_lift (good_bind g)
      refine ⟨_, rfl, x8.2.1, x8.2.2, (xh_var 5), (xh_var 6), _, ys9, rfl, hy, ?_⟩
      exact sb_nil ⟨ys9, g, (.keep (.keep (.keep (.drop (.drop (.drop (.drop .nil)))))))⟩
  · refine sb_frzG 2 rfl ?_
    refine sb_cons (s1_ret ?_)
    refine Ok.xv O (xm_var 2) ?_
    exact ⟨s7, g, rfl, ⟨.inl rfl, .inl rfl, trivial⟩⟩
theorem ok_grid_of_pairs {P : Program} {w : World} {K : Fg} {mg : Str → Option Value} {base : Heap} {C : Addr} (E : Fcts P w K mg base C) (H_check_size : Has P w K mg base 3 "check_size" ["n"] (s_check_size C)) : Has P w K mg base 4 "grid_of_pairs" ["n", "pairs"] (s_grid_of_pairs C) := by
  obtain ⟨f, fd, hm, F⟩ := E.d_grid_of_pairs
  refine ⟨f, fd, hm, bd_grid_of_pairs E H_check_size F, F.bindsN (fun _ _ _ _ _ _ us hl => match us, hl with | [_, _], _ => rfl), F.kp⟩
end T
set_option maxHeartbeats 400000
namespace T
open PySem PySem.Spec PyProof.Rows L2
theorem bd_gap_of {P : Program} {w : World} {K : Fg} {mg : Str → Option Value} {base : Heap} {C : Addr} (E : Fcts P w K mg base C) {f : Addr} {fd : FuncData} (F : FunD K "gap_of" "gap_of" (defArgs (Hd.top 27)) (defBody (Hd.top 27)) (defScope (Hd.top 27)) [] [] f fd) : FnOk P w K mg base (L2.CX P w) 1 f fd ["grid"] (spOf K mg (s_gap_of C)) := by
  refine fn_mk [] F sc_gap_of (fun _ => rfl) (fun _ _ => rfl) rfl ?_
  intro cdv A outer s0 H E0 F0 Sf st0 ⟨a_grid, _⟩ Pr Zr O g
  change good (m_gap_of a_grid) Pr Zr at g
  unfold m_gap_of at g
  refine @sb_wk _ _ _ _ _ [(va (cLst (cLst cBool)) a_grid), un, un, un, un] (Wk.refl _) ?_
  refine sb_cons (s1_asg 1 O ?_)
  refine Ok.xv O (xm_lenL E.f_len ((xl_var 0))) ?_
  refine sb_cons (s1_forI (js := [2]) (cd := cInt) O ?_)
  refine it_range E.f_range ?_
  refine Ok.xv O (xm_var 1) ?_
  obtain ⟨xs1, hx, g⟩ := good_lift (good_bind g)
  refine ⟨_, rfl, xs1, hx, ?_⟩
  refine fb_forC (fun (s2 : Unit) => ([(va (cLst (cLst cBool)) a_grid), (va cInt (List.length a_grid : Int)), un, un, un] : List Bd)) (fun r Γ b => b = (s_gap_of C).ret (a_grid, ()) r ∧ OutOk [] 0 Γ ((s_gap_of C).outs (a_grid, ()) r)) (good_bind g) (.keep (.keep (.drop (.drop (.drop .nil))))) (fun x3 s2 Pb hx g => ?_) (fun s2 g => ?_) (fun r g Γ b h => ⟨r, g, h⟩)
  · refine eg_name 2 O ?_
    refine sb_cons (s1_forI (js := [3]) (cd := cInt) O ?_)
    refine it_range E.f_range ?_
    refine Ok.xv O (xm_var 1) ?_
    obtain ⟨xs4, hx, g⟩ := good_lift (good_bind g)
    refine ⟨_, rfl, xs4, hx, ?_⟩
    refine fb_forC (fun (s5 : Unit) => ([(va (cLst (cLst cBool)) a_grid), (va cInt (List.length a_grid : Int)), (va cInt x3), un, un] : List Bd)) (fun r Γ b => b = (s_gap_of C).ret (a_grid, ()) r ∧ OutOk [] 0 Γ ((s_gap_of C).outs (a_grid, ()) r)) (good_bind g) (.keep (.keep (.keep (.drop (.drop .nil))))) (fun x6 s5 Pb hx g => ?_) (fun s5 g => ?_) (fun r g Γ b h => ⟨r, g, h⟩)
    · refine eg_name 3 O ?_
      refine sb_cons (s1_if (Ok.t O (tm_w (wm_and (tm_not (tm_val (xm_itemL (xl_fr (xm_itemL (xl_var 0) (xm_var 2))) (xm_var 3)))) (wm_and1 (tm_val ((fun P g => by (refine ev_any O E.f_any ?_; refine el_ev ?_; refine ev_comp (gi := none) (f := (fun x15 (s13 : Unit) => ((((Res.ok a_grid) >>= fun a18 => (Res.ok x3) >>= fun i19 => lift (atI a18 i19)) >>= fun a16 => (Res.ok x15) >>= fun i17 => lift (atI a16 i17)) >>= fun k24 => if k24 = true then (((Res.ok a_grid) >>= fun a22 => (Res.ok x15) >>= fun i23 => lift (atI a22 i23)) >>= fun a20 => (Res.ok x6) >>= fun i21 => lift (atI a20 i21)) else Res.ok false) >>= fun r25 => Res.ok (some r25, ()))) (cd := cInt) cBool O (own := [("y", 4)]) (fun (s13 : Unit) => ([(va (cLst (cLst cBool)) a_grid), (va cInt (List.length a_grid : Int)), (va cInt x3), (va cInt x6), un] : List Bd)) ?_ (fun _ _ _ _ _ _ x15 s13 Pb g => by (refine eg_name 4 (Ok.blk O) ?_; intro _ _ _ _ _; refine Ok.x (Ok.blk O) ((xm_and (xm_itemL (xl_fr (xm_itemL (xl_var 0) (xm_var 2))) (xm_var 4)) (xm_one (xm_itemL (xl_fr (xm_itemL (xl_var 0) (xm_var 4))) (xm_var 3))))) _ (good_imp (good_bind g) fun r25 g => ?_); exact ⟨_, (), g, rfl, (.keep (.keep (.keep (.keep (.drop .nil)))))⟩)) (ok := by kernel_rfl); refine it_range E.f_range ?_; refine Ok.xv O (xm_var 1) ?_; obtain ⟨xs12, hx, g⟩ := good_lift (good_bind g); refine ⟨_, rfl, xs12, hx, ?_⟩; refine ⟨(), _, (.keep (.keep (.keep (.keep (.drop .nil))))), fun _ => trivial, good_imp (good_bind g) fun p14 g => ?_⟩; refine ⟨_, .inl rfl, ?_⟩; exact g))))))) _ (good_imp (good_bind g) fun k27 g => ite_sb g (fun g => ?_) (fun g => ?_))))
      · refine sb_cons (s1_ret ?_)
        refine Ok.xv O (xp_some nn_pr (xp_pr (xm_var 2) (xm_var 3))) ?_
        exact ⟨(some (x3, x6)), g, rfl, ⟨.inl rfl, trivial⟩⟩
      · refine sb_nil ?_
        exact sb_nil ⟨(), g, (.keep (.keep (.keep (.drop (.drop .nil)))))⟩
    · exact sb_nil ⟨(), g, (.keep (.keep (.drop (.drop (.drop .nil)))))⟩
  · refine sb_cons (s1_ret ?_)
    refine Ok.xv O (xm_none (c := (cPr cInt cInt)) xm_non) ?_
    exact ⟨none, g, rfl, ⟨.inl rfl, trivial⟩⟩
theorem ok_gap_of {P : Program} {w : World} {K : Fg} {mg : Str → Option Value} {base : Heap} {C : Addr} (E : Fcts P w K mg base C) : Has P w K mg base 1 "gap_of" ["grid"] (s_gap_of C) := by
  obtain ⟨f, fd, hm, F⟩ := E.d_gap_of
  refine ⟨f, fd, hm, bd_gap_of E F, F.bindsN (fun _ _ _ _ _ _ us hl => match us, hl with | [_], _ => rfl), F.kp⟩
end T
set_option maxHeartbeats 400000
namespace T
open PySem PySem.Spec PyProof.Rows L2
theorem bd_order_of_grid {P : Program} {w : World} {K : Fg} {mg : Str → Option Value} {base : Heap} {C : Addr} (E : Fcts P w K mg base C) {f : Addr} {fd : FuncData} (F : FunD K "order_of_grid" "order_of_grid" (defArgs (Hd.top 25)) (defBody (Hd.top 25)) (defScope (Hd.top 25)) [] [] f fd) : FnOk P w K mg base (L2.CX P w) 3 f fd ["grid"] (spOf K mg (s_order_of_grid C)) := by
  refine fn_mk [] F sc_order_of_grid (fun _ => rfl) (fun _ _ => rfl) rfl ?_
  intro cdv A outer s0 H E0 F0 Sf st0 ⟨a_grid, _⟩ Pr Zr O g
  change good (m_order_of_grid a_grid) Pr Zr at g
  unfold m_order_of_grid at g
  refine @sb_wk _ _ _ _ _ [(va (cLst (cLst cBool)) a_grid), un, un, un] (Wk.refl _) ?_
  refine sb_cons (s1_asg 1 O ?_)
  refine Ok.xv O (xm_lenL E.f_len ((xl_var 0))) ?_
  refine sb_cons (s1_ret ?_)
  refine ev_order O E.ord ?_
  refine ea_tmp ?_
  refine Ok.xv O (xm_var 1) ?_
  refine ea_tmp ?_
  refine ev_tupleL (c := (cTup cInt)) E.f_tuple ?_
  refine el_ev ?_
  refine ev_comp (gi := none) (f := (fun x4 (s2 : Unit) => lift (rngO 0 (List.length a_grid : Int)) >>= fun xs5 => compF xs5 () [] (fun x8 (s6 : Unit) => (((Res.ok a_grid) >>= fun a11 => (Res.ok x8) >>= fun i12 => lift (atI a11 i12)) >>= fun a9 => (Res.ok x4) >>= fun i10 => lift (atI a9 i10)) >>= fun k13 => if k13 = true then (Res.ok (some x8, ())) else Res.ok (none, ())) >>= fun p7 => Res.ok (some p7.1, ()))) (cd := cInt) (cTup cInt) O (own := [("y", 3)]) (fun (s2 : Unit) => ([(va (cLst (cLst cBool)) a_grid), (va cInt (List.length a_grid : Int)), un, un] : List Bd)) ?_ (fun _ _ _ _ _ _ x4 s2 Pb g => by (refine eg_name 3 (Ok.blk O) ?_; intro _ _ _ _ _; refine ev_tupleL (c := cInt) E.f_tuple ?_; refine el_ev ?_; refine ev_comp (gi := none) (f := (fun x8 (s6 : Unit) => (((Res.ok a_grid) >>= fun a11 => (Res.ok x8) >>= fun i12 => lift (atI a11 i12)) >>= fun a9 => (Res.ok x4) >>= fun i10 => lift (atI a9 i10)) >>= fun k13 => if k13 = true then (Res.ok (some x8, ())) else Res.ok (none, ()))) (cd := cInt) cInt (Ok.blk O) (own := [("x", 2)]) (fun (s6 : Unit) => ([(va (cLst (cLst cBool)) a_grid), (va cInt (List.length a_grid : Int)), un, (va cInt x4)] : List Bd)) ?_ (fun _ _ _ _ _ _ x8 s6 Pb g => by (refine eg_name 2 (Ok.blk (Ok.blk (B' := { F := F0, H := H, S := Sf }) O)) ?_; intro _ _ _ _ _; exact Ok.t (Ok.blk (Ok.blk (B' := { F := F0, H := H, S := Sf }) O)) (tm_val (xm_itemL (xl_fr (xm_itemL (xl_var 0) (xm_var 2))) (xm_var 3))) _ (good_imp (good_bind g) fun k13 g => ite_p g (fun g => by (intro _ _ _ _ _; refine Ok.xv (Ok.blk (Ok.blk (B' := { F := F0, H := H, S := Sf }) O)) (xm_var 2) ?_; exact ⟨_, (), g, rfl, (.keep (.keep (.drop (.keep .nil))))⟩)) (fun g => ⟨(), g, (.keep (.keep (.drop (.keep .nil))))⟩)))) (ok := by kernel_rfl); refine it_range E.f_range ?_; refine Ok.xv (Ok.blk O) (xm_var 1) ?_; obtain ⟨xs5, hx, g⟩ := good_lift (good_bind g); refine ⟨_, rfl, xs5, hx, ?_⟩; refine ⟨(), _, (.keep (.keep (.drop (.keep .nil)))), fun _ => trivial, good_imp (good_bind g) fun p7 g => ?_⟩; refine ⟨_, .inl rfl, ?_⟩; exact ⟨_, (), g, rfl, (.keep (.keep (.drop (.drop .nil))))⟩)) (ok := by kernel_rfl)
  refine it_range E.f_range ?_
  refine Ok.xv O (xm_var 1) ?_
  obtain ⟨xs1, hx, g⟩ := good_lift (good_bind g)
  refine ⟨_, rfl, xs1, hx, ?_⟩
  refine ⟨(), _, (.keep (.keep (.drop (.drop .nil)))), fun _ => trivial, good_imp (good_bind g) fun p3 g => ?_⟩
  refine ⟨_, .inl rfl, ?_⟩
  refine ea_nil ⟨_, _, rfl, ?_⟩
  exact ⟨((List.length a_grid : Int), p3.1), g, rfl, ⟨.inl rfl, trivial⟩⟩
theorem ok_order_of_grid {P : Program} {w : World} {K : Fg} {mg : Str → Option Value} {base : Heap} {C : Addr} (E : Fcts P w K mg base C) : Has P w K mg base 3 "order_of_grid" ["grid"] (s_order_of_grid C) := by
  obtain ⟨f, fd, hm, F⟩ := E.d_order_of_grid
  refine ⟨f, fd, hm, bd_order_of_grid E F, F.bindsN (fun _ _ _ _ _ _ us hl => match us, hl with | [_], _ => rfl), F.kp⟩
end T
set_option maxHeartbeats 400000
namespace T
open PySem PySem.Spec PyProof.Rows L2
theorem bd_made_order {P : Program} {w : World} {K : Fg} {mg : Str → Option Value} {base : Heap} {C : Addr} (E : Fcts P w K mg base C) (H_gap_of : Has P w K mg base 1 "gap_of" ["grid"] (s_gap_of C)) (H_grid_of_pairs : Has P w K mg base 4 "grid_of_pairs" ["n", "pairs"] (s_grid_of_pairs C)) (H_order_of_grid : Has P w K mg base 3 "order_of_grid" ["grid"] (s_order_of_grid C)) {f : Addr} {fd : FuncData} (F : FunD K "made_order" "made_order" (defArgs (Hd.top 28)) (defBody (Hd.top 28)) (defScope (Hd.top 28)) [] [] f fd) : FnOk P w K mg base (L2.CX P w) 5 f fd ["n", "pairs"] (spOf K mg (s_made_order C)) := by
  refine fn_mk [] F sc_made_order (fun _ => rfl) (fun _ _ => rfl) rfl ?_
  intro cdv A outer s0 H E0 F0 Sf st0 ⟨a_n, a_pairs, _⟩ Pr Zr O g
  change good (m_made_order a_n a_pairs) Pr Zr at g
  unfold m_made_order at g
  refine @sb_wk _ _ _ _ _ [(va cInt a_n), (va (cTup (cPr cInt cInt)) a_pairs), un, un] (Wk.refl _) ?_
  refine sb_cons (s1_asg 2 O ?_)
  refine Ok.x O (xp_call (x := (a_n, a_pairs, ())) O H_grid_of_pairs (ap_cons (xm_var 0) (ap_cons (xm_var 1) am_nil)) (fun _ _ => rfl)) _ (good_imp (good_bind g) fun r1 g => ?_)
  refine sb_cons (s1_asg 3 O ?_)
  refine Ok.x O (xp_call (x := (r1, ())) O H_gap_of (ap_cons (xm_var 2) am_nil) (fun _ _ => rfl)) _ (good_imp (good_bind g) fun r2 g => ?_)
  refine sb_cons (s1_if (Ok.tv O (tp_cmp (k := fun (x : (Option (Int × Int))) (y : Unit) => x.isSome) cmp_isNn (xm_var 3) xm_non) (ite_sb g (fun g => ?_) (fun g => ?_))))
  · refine sb_cons (s1_raise (c := (cOpt (cPr cInt cInt))) (optD (fun (p : (Int × Int)) => PyData.tuple [(fun (i : Int) => PyData.int i) p.1, (fun (i : Int) => PyData.int i) p.2])) (dp_opt (f := (fun (p : (Int × Int)) => PyData.tuple [(fun (i : Int) => PyData.int i) p.1, (fun (i : Int) => PyData.int i) p.2])) (dp_pr (f := (fun (i : Int) => PyData.int i)) (g := (fun (i : Int) => PyData.int i)) dp_int dp_int)) O E.x_NotOrder ?_)
    refine Ok.xv O (xm_var 3) ?_
    exact ⟨_, rfl, g⟩
  · refine sb_nil ?_
    refine sb_cons (s1_ret ?_)
    refine Ok.x O (xp_call (x := (r1, ())) O H_order_of_grid (ap_cons (xm_var 2) am_nil) (fun _ _ => rfl)) _ (good_imp (good_bind g) fun r3 g => ?_)
    exact ⟨r3, g, rfl, ⟨.inl rfl, .inl rfl, trivial⟩⟩
theorem ok_made_order {P : Program} {w : World} {K : Fg} {mg : Str → Option Value} {base : Heap} {C : Addr} (E : Fcts P w K mg base C) (H_gap_of : Has P w K mg base 1 "gap_of" ["grid"] (s_gap_of C)) (H_grid_of_pairs : Has P w K mg base 4 "grid_of_pairs" ["n", "pairs"] (s_grid_of_pairs C)) (H_order_of_grid : Has P w K mg base 3 "order_of_grid" ["grid"] (s_order_of_grid C)) : Has P w K mg base 5 "made_order" ["n", "pairs"] (s_made_order C) := by
  obtain ⟨f, fd, hm, F⟩ := E.d_made_order
  refine ⟨f, fd, hm, bd_made_order E H_gap_of H_grid_of_pairs H_order_of_grid F, F.bindsN (fun _ _ _ _ _ _ us hl => match us, hl with | [_, _], _ => rfl), F.kp⟩
end T
set_option maxHeartbeats 400000
namespace T
open PySem PySem.Spec PyProof.Rows L2
theorem bd_want_size {P : Program} {w : World} {K : Fg} {mg : Str → Option Value} {base : Heap} {C : Addr} (E : Fcts P w K mg base C) {f : Addr} {fd : FuncData} (F : FunD K "want_size" "want_size" (defArgs (Hd.top 13)) (defBody (Hd.top 13)) (defScope (Hd.top 13)) [] [] f fd) : FnOk P w K mg base (L2.CX P w) 3 f fd ["n"] (spOf K mg (s_want_size C)) := by
  refine fn_mk [] F sc_want_size (fun _ => rfl) (fun _ _ => rfl) rfl ?_
  intro cdv A outer s0 H E0 F0 Sf st0 ⟨a_n, _⟩ Pr Zr O g
  change good (m_want_size a_n) Pr Zr at g
  unfold m_want_size at g
  refine @sb_wk _ _ _ _ _ [(va cInt a_n)] (Wk.refl _) ?_
  refine sb_cons (s1_if (Ok.tv O (tp_not (xp_chain (k := fun (x : Int) (y : Int) => decide (x ≤ y)) (k' := fun (x : Int) (y : Int) => decide (x ≤ y)) cmp_le cmp_le (xm_int) (xm_var 0) (xm_globI E.i_MOST))) (ite_sb g (fun g => ?_) (fun g => ?_))))
  · refine sb_cons (s1_raise (c := cInt) (fun (i : Int) => PyData.int i) dp_int O E.x_BadSize ?_)
    refine Ok.xv O (xm_var 0) ?_
    exact ⟨_, rfl, g⟩
  · refine sb_nil ?_
    exact sb_nil ⟨(), g, rfl, ⟨.inl rfl, trivial⟩⟩
theorem ok_want_size {P : Program} {w : World} {K : Fg} {mg : Str → Option Value} {base : Heap} {C : Addr} (E : Fcts P w K mg base C) : Has P w K mg base 3 "want_size" ["n"] (s_want_size C) := by
  obtain ⟨f, fd, hm, F⟩ := E.d_want_size
  refine ⟨f, fd, hm, bd_want_size E F, F.bindsN (fun _ _ _ _ _ _ us hl => match us, hl with | [_], _ => rfl), F.kp⟩
end T
set_option maxHeartbeats 400000
namespace T
open PySem PySem.Spec PyProof.Rows L2
theorem bd_comes_home {P : Program} {w : World} {K : Fg} {mg : Str → Option Value} {base : Heap} {C : Addr} (E : Fcts P w K mg base C) {f : Addr} {fd : FuncData} (F : FunD K "comes_home" "comes_home" (defArgs (Hd.top 15)) (defBody (Hd.top 15)) (defScope (Hd.top 15)) [] [] f fd) : FnOk P w K mg base (L2.CX P w) 1 f fd ["parents", "x"] (spOf K mg (s_comes_home C)) := by
  refine fn_mk [] F sc_comes_home (fun _ => rfl) (fun _ _ => rfl) rfl ?_
  intro cdv A outer s0 H E0 F0 Sf st0 ⟨a_parents, a_x, _⟩ Pr Zr O g
  change good (m_comes_home a_parents a_x) Pr Zr at g
  unfold m_comes_home at g
  refine @sb_wk _ _ _ _ _ [(va (cTup cInt) a_parents), (va cInt a_x), un, un] (Wk.refl _) ?_
  refine sb_cons (s1_asg 2 O ?_)
  refine Ok.xv O (xm_var 1) ?_
  refine sb_cons (s1_forI (js := [3]) (cd := cInt) O ?_)
  refine it_range E.f_range ?_
  refine Ok.xv O (xm_lenT E.f_len (xm_var 0)) ?_
  obtain ⟨xs1, hx, g⟩ := good_lift (good_bind g)
  refine ⟨_, rfl, xs1, hx, ?_⟩
  refine fb_forC (fun (s2 : Int) => ([(va (cTup cInt) a_parents), (va cInt a_x), (va cInt s2), un] : List Bd)) (fun r Γ b => b = (s_comes_home C).ret (a_parents, a_x, ()) r ∧ OutOk [] 0 Γ ((s_comes_home C).outs (a_parents, a_x, ()) r)) (good_bind g) (.keep (.keep (.keep (.drop .nil)))) (fun x3 s2 Pb hx g => ?_) (fun s2 g => ?_) (fun r g Γ b h => ⟨r, g, h⟩)
  · refine eg_name 3 O ?_
    refine sb_cons (s1_asg 2 O ?_)
    refine Ok.x O (xm_itemT (xm_var 0) (xm_var 2)) _ (good_imp (good_bind g) fun r6 g => ?_)
    refine sb_cons (s1_if (Ok.tv O (tp_cmp (k := fun (x : Int) (y : Int) => decide (x = y)) (cmp_eq scal_int) (xm_var 2) (xm_globI E.i_DOOR)) (ite_sb g (fun g => ?_) (fun g => ?_))))
    · refine sb_cons (s1_ret ?_)
      refine Ok.xv O (xm_bool) ?_
      exact ⟨true, g, rfl, ⟨.inl rfl, .inl rfl, trivial⟩⟩
    · refine sb_nil ?_
      exact sb_nil ⟨r6, g, (.keep (.keep (.keep (.drop .nil))))⟩
  · refine sb_cons (s1_ret ?_)
    refine Ok.xv O (xm_bool) ?_
    exact ⟨false, g, rfl, ⟨.inl rfl, .inl rfl, trivial⟩⟩
theorem ok_comes_home {P : Program} {w : World} {K : Fg} {mg : Str → Option Value} {base : Heap} {C : Addr} (E : Fcts P w K mg base C) : Has P w K mg base 1 "comes_home" ["parents", "x"] (s_comes_home C) := by
  obtain ⟨f, fd, hm, F⟩ := E.d_comes_home
  refine ⟨f, fd, hm, bd_comes_home E F, F.bindsN (fun _ _ _ _ _ _ us hl => match us, hl with | [_, _], _ => rfl), F.kp⟩
end T
set_option maxHeartbeats 400000
namespace T
open PySem PySem.Spec PyProof.Rows L2
theorem bd_made_house {P : Program} {w : World} {K : Fg} {mg : Str → Option Value} {base : Heap} {C : Addr} (E : Fcts P w K mg base C) (H_comes_home : Has P w K mg base 1 "comes_home" ["parents", "x"] (s_comes_home C)) (H_want_size : Has P w K mg base 3 "want_size" ["n"] (s_want_size C)) {f : Addr} {fd : FuncData} (F : FunD K "made_house" "made_house" (defArgs (Hd.top 16)) (defBody (Hd.top 16)) (defScope (Hd.top 16)) [] [] f fd) : FnOk P w K mg base (L2.CX P w) 4 f fd ["parents"] (spOf K mg (s_made_house C)) := by
  refine fn_mk [] F sc_made_house (fun _ => rfl) (fun _ _ => rfl) rfl ?_
  intro cdv A outer s0 H E0 F0 Sf st0 ⟨a_parents, _⟩ Pr Zr O g
  change good (m_made_house a_parents) Pr Zr at g
  unfold m_made_house at g
  refine @sb_wk _ _ _ _ _ [(va (cTup cInt) a_parents), un, un] (Wk.refl _) ?_
  refine sb_cons (s1_expr ?_)
  refine Ok.x O (xp_call (x := ((List.length a_parents : Int), ())) O H_want_size (ap_cons (xm_lenT E.f_len (xm_var 0)) am_nil) (fun _ _ => rfl)) _ (good_imp (good_bind g) fun r1 g => ?_)
  refine sb_cons (s1_forI (js := ([1] ++ [2])) (cd := (cPr cInt cInt)) O ?_)
  refine it_enum (cd := cInt) false E.f_enumerate ?_
  refine Ok.xv O (xm_var 0) ?_
  refine ⟨_, rfl, ?_⟩
  refine fb_forS (fun (s2 : Unit) => ([(va (cTup cInt) a_parents), un, un] : List Bd)) (good_bind g) (.keep (.drop (.drop .nil))) (fun x3 s2 Pb hx g => ?_) (fun s2 g => ?_)
  · refine eg_pair O (eg_name 1 O (eg_name 2 O ?_))
    refine sb_cons (s1_if (Ok.tv O (tm_w (wp_or (tp_cmp (k := fun (x : Int) (y : Int) => decide (x = y)) (cmp_eq scal_int) (xm_var 2) (xm_var 1)) (wm_or1 (tp_not (xp_chain (k := fun (x : Int) (y : Int) => decide (x ≤ y)) (k' := fun (x : Int) (y : Int) => decide (x < y)) cmp_le cmp_lt (xm_globI E.i_DOOR) (xm_var 2) (xm_lenT E.f_len (xm_var 0))))))) (ite_sb g (fun g => ?_) (fun g => ?_))))
    · refine sb_cons (s1_raise (c := cInt) (fun (i : Int) => PyData.int i) dp_int O E.x_BadParent ?_)
      refine Ok.xv O (xm_var 1) ?_
      exact ⟨_, rfl, g⟩
    · refine sb_nil ?_
      exact sb_nil ⟨(), g, (.keep (.drop (.drop .nil)))⟩
  · refine sb_cons (s1_forI (js := [1]) (cd := cInt) O ?_)
    refine it_range E.f_range ?_
    refine Ok.xv O (xm_lenT E.f_len (xm_var 0)) ?_
    obtain ⟨xs4, hx, g⟩ := good_lift (good_bind g)
    refine ⟨_, rfl, xs4, hx, ?_⟩
    refine fb_forS (fun (s5 : Unit) => ([(va (cTup cInt) a_parents), un, un] : List Bd)) (good_bind g) (.keep (.drop (.drop .nil))) (fun x6 s5 Pb hx g => ?_) (fun s5 g => ?_)
    · refine eg_name 1 O ?_
      refine sb_cons (s1_if (Ok.t O (tm_not (tm_val (xp_call (x := (a_parents, x6, ())) O H_comes_home (ap_cons (xm_var 0) (ap_cons (xm_var 1) am_nil)) (fun _ _ => rfl)))) _ (good_imp (good_bind g) fun k8 g => ite_sb g (fun g => ?_) (fun g => ?_))))
      · refine sb_cons (s1_raise (c := cInt) (fun (i : Int) => PyData.int i) dp_int O E.x_Round ?_)
        refine Ok.xv O (xm_var 1) ?_
        exact ⟨_, rfl, g⟩
      · refine sb_nil ?_
        exact sb_nil ⟨(), g, (.keep (.drop (.drop .nil)))⟩
    · refine sb_cons (s1_ret ?_)
      refine Ok.xv O (xm_var 0) ?_
      exact ⟨a_parents, g, rfl, ⟨.inl rfl, trivial⟩⟩
theorem ok_made_house {P : Program} {w : World} {K : Fg} {mg : Str → Option Value} {base : Heap} {C : Addr} (E : Fcts P w K mg base C) (H_comes_home : Has P w K mg base 1 "comes_home" ["parents", "x"] (s_comes_home C)) (H_want_size : Has P w K mg base 3 "want_size" ["n"] (s_want_size C)) : Has P w K mg base 4 "made_house" ["parents"] (s_made_house C) := by
  obtain ⟨f, fd, hm, F⟩ := E.d_made_house
  refine ⟨f, fd, hm, bd_made_house E H_comes_home H_want_size F, F.bindsN (fun _ _ _ _ _ _ us hl => match us, hl with | [_], _ => rfl), F.kp⟩
end T
set_option maxHeartbeats 400000
namespace T
open PySem PySem.Spec PyProof.Rows L2
theorem bd_want_house {P : Program} {w : World} {K : Fg} {mg : Str → Option Value} {base : Heap} {C : Addr} (E : Fcts P w K mg base C) (H_made_house : Has P w K mg base 4 "made_house" ["parents"] (s_made_house C)) {f : Addr} {fd : FuncData} (F : FunD K "want_house" "want_house" (defArgs (Hd.top 17)) (defBody (Hd.top 17)) (defScope (Hd.top 17)) [] [] f fd) : FnOk P w K mg base (L2.CX P w) 5 f fd ["order", "house"] (spOf K mg (s_want_house C)) := by
  refine fn_mk [] F sc_want_house (fun _ => rfl) (fun _ _ => rfl) rfl ?_
  intro cdv A outer s0 H E0 F0 Sf st0 ⟨a_order, a_house, _⟩ Pr Zr O g
  change good (m_want_house a_order a_house) Pr Zr at g
  unfold m_want_house at g
  refine @sb_wk _ _ _ _ _ [(va (cOrd C) a_order), (va (cTup cInt) a_house)] (Wk.refl _) ?_
  refine sb_cons (s1_expr ?_)
  refine Ok.x O (xp_call (x := (a_house, ())) O H_made_house (ap_cons (xm_var 1) am_nil) (fun _ _ => rfl)) _ (good_imp (good_bind g) fun r1 g => ?_)
  refine sb_cons (s1_if (Ok.tv O (tp_cmp (k := fun (x : Int) (y : Int) => !decide (x = y)) (cmp_ne scal_int) (xm_lenT E.f_len (xm_var 1)) (xp_n E.ord (xm_var 0))) (ite_sb g (fun g => ?_) (fun g => ?_))))
  · refine sb_cons (s1_raise (c := cInt) (fun (i : Int) => PyData.int i) dp_int O E.x_Unlike ?_)
    refine Ok.xv O (xm_lenT E.f_len (xm_var 1)) ?_
    exact ⟨_, rfl, g⟩
  · refine sb_nil ?_
    refine sb_cons (s1_ret ?_)
    refine Ok.xv O (xm_var 1) ?_
    exact ⟨a_house, g, rfl, ⟨.inl rfl, .inl rfl, trivial⟩⟩
theorem ok_want_house {P : Program} {w : World} {K : Fg} {mg : Str → Option Value} {base : Heap} {C : Addr} (E : Fcts P w K mg base C) (H_made_house : Has P w K mg base 4 "made_house" ["parents"] (s_made_house C)) : Has P w K mg base 5 "want_house" ["order", "house"] (s_want_house C) := by
  obtain ⟨f, fd, hm, F⟩ := E.d_want_house
  refine ⟨f, fd, hm, bd_want_house E H_made_house F, F.bindsN (fun _ _ _ _ _ _ us hl => match us, hl with | [_, _], _ => rfl), F.kp⟩
end T
set_option maxHeartbeats 400000
namespace T
open PySem PySem.Spec PyProof.Rows L2
theorem bd_lord {P : Program} {w : World} {K : Fg} {mg : Str → Option Value} {base : Heap} {C : Addr} (E : Fcts P w K mg base C) {f : Addr} {fd : FuncData} (F : FunD K "lord" "lord" (defArgs (Hd.top 19)) (defBody (Hd.top 19)) (defScope (Hd.top 19)) [] [] f fd) : FnOk P w K mg base (L2.CX P w) 1 f fd ["order", "house", "x"] (spOf K mg (s_lord C)) := by
  refine fn_mk [] F sc_lord (fun _ => rfl) (fun _ _ => rfl) rfl ?_
  intro cdv A outer s0 H E0 F0 Sf st0 ⟨a_order, a_house, a_x, _⟩ Pr Zr O g
  change good (m_lord a_order a_house a_x) Pr Zr at g
  unfold m_lord at g
  refine @sb_wk _ _ _ _ _ [(va (cOrd C) a_order), (va (cTup cInt) a_house), (va cInt a_x), un] (Wk.refl _) ?_
  refine sb_cons (s1_asg 3 O ?_)
  refine Ok.x O (xm_itemT (xm_var 1) (xm_var 2)) _ (good_imp (good_bind g) fun r3 g => ?_)
  refine sb_cons (s1_whileF O (fun _ _ h => h) (fun (s4 : Int) => ([(va (cOrd C) a_order), (va (cTup cInt) a_house), (va cInt a_x), (va cInt s4)] : List Bd)) (good_bind g) (.keep (.keep (.keep (.keep .nil)))) (fun s4 => tm_cmpT (k := fun (x : Int) (y : (List Int)) => memb x y) (cmp_inT flat_int) (xm_var 3) (xm_itemT (xp_lesser E.ord (xm_var 0)) (xm_var 2))) (fun s4 Pb g => ?_) (fun s4 g => ?_))
  · refine sb_cons (s1_asg 3 O ?_)
    refine Ok.x O (xm_itemT (xm_var 1) (xm_var 3)) _ (good_imp (good_bind g) fun r11 g => ?_)
    exact sb_nil ⟨r11, g, (.keep (.keep (.keep (.keep .nil))))⟩
  · refine sb_cons (s1_ret ?_)
    refine Ok.xv O (xm_var 3) ?_
    exact ⟨s4, g, rfl, ⟨.inl rfl, .inl rfl, .inl rfl, trivial⟩⟩
theorem ok_lord {P : Program} {w : World} {K : Fg} {mg : Str → Option Value} {base : Heap} {C : Addr} (E : Fcts P w K mg base C) : Has P w K mg base 1 "lord" ["order", "house", "x"] (s_lord C) := by
  obtain ⟨f, fd, hm, F⟩ := E.d_lord
  refine ⟨f, fd, hm, bd_lord E F, F.bindsN (fun _ _ _ _ _ _ us hl => match us, hl with | [_, _, _], _ => rfl), F.kp⟩
end T
set_option maxHeartbeats 400000
namespace T
open PySem PySem.Spec PyProof.Rows L2
theorem bd_lords {P : Program} {w : World} {K : Fg} {mg : Str → Option Value} {base : Heap} {C : Addr} (E : Fcts P w K mg base C) (H_lord : Has P w K mg base 1 "lord" ["order", "house", "x"] (s_lord C)) (H_want_house : Has P w K mg base 5 "want_house" ["order", "house"] (s_want_house C)) {f : Addr} {fd : FuncData} (F : FunD K "lords" "lords" (defArgs (Hd.top 20)) (defBody (Hd.top 20)) (defScope (Hd.top 20)) [] [] f fd) : FnOk P w K mg base (L2.CX P w) 6 f fd ["order", "house"] (spOf K mg (s_lords C)) := by
  refine fn_mk [] F sc_lords (fun _ => rfl) (fun _ _ => rfl) rfl ?_
  intro cdv A outer s0 H E0 F0 Sf st0 ⟨a_order, a_house, _⟩ Pr Zr O g
  change good (m_lords a_order a_house) Pr Zr at g
  unfold m_lords at g
  refine @sb_wk _ _ _ _ _ [(va (cOrd C) a_order), (va (cTup cInt) a_house), un] (Wk.refl _) ?_
  refine sb_cons (s1_expr ?_)
  refine Ok.x O (xp_call (x := (a_order, a_house, ())) O H_want_house (ap_cons (xm_var 0) (ap_cons (xm_var 1) am_nil)) (fun _ _ => rfl)) _ (good_imp (good_bind g) fun r1 g => ?_)
  refine sb_cons (s1_ret ?_)
  refine ev_tupleL (c := cInt) E.f_tuple ?_
  refine el_ev ?_
  refine ev_comp (gi := none) (f := (fun x5 (s3 : Unit) => (m_lord a_order a_house x5) >>= fun r6 => Res.ok (some r6, ()))) (cd := cInt) cInt O (own := [("x", 2)]) (fun (s3 : Unit) => ([(va (cOrd C) a_order), (va (cTup cInt) a_house), un] : List Bd)) ?_ (fun _ _ _ _ _ _ x5 s3 Pb g => by (refine eg_name 2 (Ok.blk O) ?_; intro _ _ _ _ _; refine Ok.x (Ok.blk O) (xp_call (x := (a_order, a_house, x5, ())) (Ok.blk O) H_lord (ap_cons (xm_var 0) (ap_cons (xm_var 1) (ap_cons (xm_var 2) am_nil))) (fun _ _ => rfl)) _ (good_imp (good_bind g) fun r6 g => ?_); exact ⟨_, (), g, rfl, (.keep (.keep (.drop .nil)))⟩)) (ok := by kernel_rfl)
  refine it_range E.f_range ?_
  refine Ok.xv O (xp_n E.ord (xm_var 0)) ?_
  obtain ⟨xs2, hx, g⟩ := good_lift (good_bind g)
  refine ⟨_, rfl, xs2, hx, ?_⟩
  refine ⟨(), _, (.keep (.keep (.drop .nil))), fun _ => trivial, good_imp (good_bind g) fun p4 g => ?_⟩
  refine ⟨_, .inl rfl, ?_⟩
  exact ⟨p4.1, g, rfl, ⟨.inl rfl, .inl rfl, trivial⟩⟩
theorem ok_lords {P : Program} {w : World} {K : Fg} {mg : Str → Option Value} {base : Heap} {C : Addr} (E : Fcts P w K mg base C) (H_lord : Has P w K mg base 1 "lord" ["order", "house", "x"] (s_lord C)) (H_want_house : Has P w K mg base 5 "want_house" ["order", "house"] (s_want_house C)) : Has P w K mg base 6 "lords" ["order", "house"] (s_lords C) := by
  obtain ⟨f, fd, hm, F⟩ := E.d_lords
  refine ⟨f, fd, hm, bd_lords E H_lord H_want_house F, F.bindsN (fun _ _ _ _ _ _ us hl => match us, hl with | [_, _], _ => rfl), F.kp⟩
end T
set_option maxHeartbeats 400000
namespace T
open PySem PySem.Spec PyProof.Rows L2
theorem bd_want_place {P : Program} {w : World} {K : Fg} {mg : Str → Option Value} {base : Heap} {C : Addr} (E : Fcts P w K mg base C) {f : Addr} {fd : FuncData} (F : FunD K "want_place" "want_place" (defArgs (Hd.top 14)) (defBody (Hd.top 14)) (defScope (Hd.top 14)) [] [] f fd) : FnOk P w K mg base (L2.CX P w) 3 f fd ["n", "x"] (spOf K mg (s_want_place C)) := by
  refine fn_mk [] F sc_want_place (fun _ => rfl) (fun _ _ => rfl) rfl ?_
  intro cdv A outer s0 H E0 F0 Sf st0 ⟨a_n, a_x, _⟩ Pr Zr O g
  change good (m_want_place a_n a_x) Pr Zr at g
  unfold m_want_place at g
  refine @sb_wk _ _ _ _ _ [(va cInt a_n), (va cInt a_x)] (Wk.refl _) ?_
  refine sb_cons (s1_if (Ok.tv O (tp_not (xp_chain (k := fun (x : Int) (y : Int) => decide (x ≤ y)) (k' := fun (x : Int) (y : Int) => decide (x < y)) cmp_le cmp_lt (xm_int) (xm_var 1) (xm_var 0))) (ite_sb g (fun g => ?_) (fun g => ?_))))
  · refine sb_cons (s1_raise (c := cInt) (fun (i : Int) => PyData.int i) dp_int O E.x_BadPlace ?_)
    refine Ok.xv O (xm_var 1) ?_
    exact ⟨_, rfl, g⟩
  · refine sb_nil ?_
    exact sb_nil ⟨(), g, rfl, ⟨.inl rfl, .inl rfl, trivial⟩⟩
theorem ok_want_place {P : Program} {w : World} {K : Fg} {mg : Str → Option Value} {base : Heap} {C : Addr} (E : Fcts P w K mg base C) : Has P w K mg base 3 "want_place" ["n", "x"] (s_want_place C) := by
  obtain ⟨f, fd, hm, F⟩ := E.d_want_place
  refine ⟨f, fd, hm, bd_want_place E F, F.bindsN (fun _ _ _ _ _ _ us hl => match us, hl with | [_, _], _ => rfl), F.kp⟩
end T
set_option maxHeartbeats 400000
namespace T
open PySem PySem.Spec PyProof.Rows L2
theorem bd_kept {P : Program} {w : World} {K : Fg} {mg : Str → Option Value} {base : Heap} {C : Addr} (E : Fcts P w K mg base C) (H_order_of_grid : Has P w K mg base 3 "order_of_grid" ["grid"] (s_order_of_grid C)) {f : Addr} {fd : FuncData} (F : FunD K "kept" "kept" (defArgs (Hd.top 30)) (defBody (Hd.top 30)) (defScope (Hd.top 30)) [] [] f fd) : FnOk P w K mg base (L2.CX P w) 4 f fd ["order", "places"] (spOf K mg (s_kept C)) := by
  refine fn_mk [] F sc_kept (fun _ => rfl) (fun _ _ => rfl) rfl ?_
  intro cdv A outer s0 H E0 F0 Sf st0 ⟨a_order, a_places, _⟩ Pr Zr O g
  change good (m_kept a_order a_places) Pr Zr at g
  unfold m_kept at g
  refine @sb_wk _ _ _ _ _ [(va (cOrd C) a_order), (va (cTup cInt) a_places), un, un, un] (Wk.refl _) ?_
  refine sb_cons (s1_if (Ok.tv O (tp_cmp (k := fun (x : Int) (y : Int) => decide (x = y)) (cmp_eq scal_int) (xm_lenT E.f_len (xm_var 1)) (xm_int)) (ite_sb g (fun g => ?_) (fun g => ?_))))
  · refine sb_cons (s1_raise (c := cInt) (fun (i : Int) => PyData.int i) dp_int O E.x_BadSize ?_)
    refine Ok.xv O (xm_int) ?_
    exact ⟨_, rfl, g⟩
  · refine sb_nil ?_
    refine sb_cons (s1_asg 2 O ?_)
    refine Ok.xv O (xp_neg (xm_int)) ?_
    refine sb_cons (s1_forI (js := [3]) (cd := cInt) O ?_)
    refine it_tup ?_
    refine Ok.xv O (xm_var 1) ?_
    refine ⟨_, rfl, ?_⟩
    refine fb_forS (fun (s1 : Int) => ([(va (cOrd C) a_order), (va (cTup cInt) a_places), (va cInt s1), un, un] : List Bd)) (good_bind g) (.keep (.keep (.keep (.drop (.drop .nil))))) (fun x2 s1 Pb hx g => ?_) (fun s1 g => ?_)
    · refine eg_name 3 O ?_
      refine sb_cons (s1_if (Ok.tv O (tp_not (xp_chain (k := fun (x : Int) (y : Int) => decide (x < y)) (k' := fun (x : Int) (y : Int) => decide (x < y)) cmp_lt cmp_lt (xm_var 2) (xm_var 3) (xp_n E.ord (xm_var 0)))) (ite_sb g (fun g => ?_) (fun g => ?_))))
      · refine sb_cons (s1_raise (c := cInt) (fun (i : Int) => PyData.int i) dp_int O E.x_BadPlace ?_)
        refine Ok.xv O (xm_var 3) ?_
        exact ⟨_, rfl, g⟩
      · refine sb_nil ?_
        refine sb_cons (s1_asg 2 O ?_)
        refine Ok.xv O (xm_var 3) ?_
        exact sb_nil ⟨x2, g, (.keep (.keep (.keep (.drop (.drop .nil)))))⟩
    · refine sb_cons (s1_ret ?_)
      refine ev_callH O H_order_of_grid (fun _ _ => rfl) ?_
      refine ea_tmp (ev_frzG (c := cBool) ?_)
      refine ev_compG (gi := none) (f := (fun x5 (s3 : Unit) => compF a_places () [] (fun x8 (s6 : Unit) => ((Res.ok x5) >>= fun x9 => ((Res.ok a_order.2) >>= fun a11 => (Res.ok x8) >>= fun i12 => lift (atI a11 i12)) >>= fun xs10 => Res.ok (memb x9 xs10)) >>= fun r13 => Res.ok (some r13, ())) >>= fun p7 => Res.ok (some p7.1, ()))) (cd := cInt) abs_grid O (own := [("x", 3)]) (fun (s3 : Unit) => ([(va (cOrd C) a_order), (va (cTup cInt) a_places), (va cInt s1), un, un] : List Bd)) ?_ (fun _ _ _ _ _ _ x5 s3 Pb g => by (refine eg_name 3 (Ok.blk O) ?_; intro _ _ _ _ _; refine ev_comp (gi := none) (f := (fun x8 (s6 : Unit) => ((Res.ok x5) >>= fun x9 => ((Res.ok a_order.2) >>= fun a11 => (Res.ok x8) >>= fun i12 => lift (atI a11 i12)) >>= fun xs10 => Res.ok (memb x9 xs10)) >>= fun r13 => Res.ok (some r13, ()))) (cd := cInt) cBool (Ok.blk O) (own := [("y", 4)]) (fun (s6 : Unit) => ([(va (cOrd C) a_order), (va (cTup cInt) a_places), (va cInt s1), (va cInt x5), un] : List Bd)) ?_ (fun _ _ _ _ _ _ x8 s6 Pb g => by (refine eg_name 4 (Ok.blk (Ok.blk (B' := { F := F0, H := H, S := Sf }) O)) ?_; intro _ _ _ _ _; refine Ok.x (Ok.blk (Ok.blk (B' := { F := F0, H := H, S := Sf }) O)) (xm_cmpT (k := fun (x : Int) (y : (List Int)) => memb x y) (cmp_inT flat_int) (xm_var 3) (xm_itemT (xp_lesser E.ord (xm_var 0)) (xm_var 4))) _ (good_imp (good_bind g) fun r13 g => ?_); exact ⟨_, (), g, rfl, (.keep (.keep (.keep (.keep (.drop .nil)))))⟩)) (ok := by kernel_rfl); refine it_tup ?_; refine Ok.xv (Ok.blk O) (xm_var 1) ?_; refine ⟨_, rfl, ?_⟩; refine ⟨(), _, (.keep (.keep (.keep (.keep (.drop .nil))))), fun _ => trivial, good_imp (good_bind g) fun p7 g => ?_⟩; exact ⟨_, (), g, rfl, (.keep (.keep (.keep (.drop (.drop .nil)))))⟩)) (ok := by kernel_rfl)
      refine it_tup ?_
      refine Ok.xv O (xm_var 1) ?_
      refine ⟨_, rfl, ?_⟩
      refine ⟨(), _, (.keep (.keep (.keep (.drop (.drop .nil))))), fun _ => trivial, good_imp (good_bind g) fun p4 g => ?_⟩
      refine ⟨_, rfl, ?_⟩
      refine ea_nil ⟨(p4.1, ()), rfl, nd0, good_imp (good_bind g) fun r14 g => ?_⟩
      exact ⟨r14, g, rfl, ⟨.inl rfl, .inl rfl, trivial⟩⟩
theorem ok_kept {P : Program} {w : World} {K : Fg} {mg : Str → Option Value} {base : Heap} {C : Addr} (E : Fcts P w K mg base C) (H_order_of_grid : Has P w K mg base 3 "order_of_grid" ["grid"] (s_order_of_grid C)) : Has P w K mg base 4 "kept" ["order", "places"] (s_kept C) := by
  obtain ⟨f, fd, hm, F⟩ := E.d_kept
  refine ⟨f, fd, hm, bd_kept E H_order_of_grid F, F.bindsN (fun _ _ _ _ _ _ us hl => match us, hl with | [_, _], _ => rfl), F.kp⟩
end T
set_option maxHeartbeats 400000
namespace T
open PySem PySem.Spec PyProof.Rows L2
theorem bd_thinned {P : Program} {w : World} {K : Fg} {mg : Str → Option Value} {base : Heap} {C : Addr} (E : Fcts P w K mg base C) (H_kept : Has P w K mg base 4 "kept" ["order", "places"] (s_kept C)) {f : Addr} {fd : FuncData} (F : FunD K "thinned" "thinned" (defArgs (Hd.top 32)) (defBody (Hd.top 32)) (defScope (Hd.top 32)) [] [] f fd) : FnOk P w K mg base (L2.CX P w) 5 f fd ["order", "parents", "places"] (spOf K mg (s_thinned C)) := by
  refine fn_mk [] F sc_thinned (fun _ => rfl) (fun _ _ => rfl) rfl ?_
  intro cdv A outer s0 H E0 F0 Sf st0 ⟨a_order, a_parents, a_places, _⟩ Pr Zr O g
  change good (m_thinned a_order a_parents a_places) Pr Zr at g
  unfold m_thinned at g
  refine @sb_wk _ _ _ _ _ [(va (cOrd C) a_order), (va (cLst cInt) a_parents), (va (cTup cInt) a_places), un, un] (Wk.refl _) ?_
  refine sb_cons (s1_asg 3 O ?_)
  refine ev_nil cInt ?_
  refine sb_cons (s1_forI (js := [4]) (cd := cInt) O ?_)
  refine it_tup ?_
  refine Ok.xv O (xm_var 2) ?_
  refine ⟨_, rfl, ?_⟩
  refine fb_forS (fun (s1 : (List Int)) => ([(va (cOrd C) a_order), (va (cLst cInt) a_parents), (va (cTup cInt) a_places), (ow (oLst cInt) s1), un] : List Bd)) (good_bind g) (.keep (.keep (.keep (.keep (.drop .nil))))) (fun x2 s1 Pb hx g => ?_) (fun s1 g => ?_)
  · refine eg_name 4 O ?_
    refine sb_cons (s1_expr ?_)
    refine ev_append (m := "append") 3 rfl ?_
    refine Ok.x O (xm_if (tm_cmpT (k := fun (x : Int) (y : Int) => decide (x = y)) (cmp_eq scal_int) (xm_itemL (xl_var 1) (xm_var 4)) (xm_globI E.i_DOOR)) (xm_globI E.i_DOOR) (xm_indexT key_I flat_int (xm_var 2) (xm_itemL (xl_var 1) (xm_var 4)))) _ (good_imp (good_bind g) fun r12 g => ?_)
    obtain ⟨ys13, hy, g⟩ := good_lift (good_bind g)
    refine ⟨_, rfl, _, ys13, rfl, hy, ?_⟩
    exact sb_nil ⟨ys13, g, (.keep (.keep (.keep (.keep (.drop .nil)))))⟩
  · refine sb_cons (s1_ret ?_)
    refine ev_pr (c := (cOrd C)) (d := (cTup cInt)) ?_
    refine ea_tmp ?_
    refine Ok.x O (xp_call (x := (a_order, a_places, ())) O H_kept (ap_cons (xm_var 0) (ap_cons (xm_var 2) am_nil)) (fun _ _ => rfl)) _ (good_imp (good_bind g) fun r14 g => ?_)
    refine ea_tmp ?_
    refine ev_tupleL (c := cInt) E.f_tuple ?_
    refine Ok.lv O (xl_ow 3) ?_
    refine ea_nil ⟨_, _, rfl, ?_⟩
    exact ⟨(r14, s1), g, rfl, ⟨.inl rfl, .inl rfl, .inl rfl, trivial⟩⟩
theorem ok_thinned {P : Program} {w : World} {K : Fg} {mg : Str → Option Value} {base : Heap} {C : Addr} (E : Fcts P w K mg base C) (H_kept : Has P w K mg base 4 "kept" ["order", "places"] (s_kept C)) : Has P w K mg base 5 "thinned" ["order", "parents", "places"] (s_thinned C) := by
  obtain ⟨f, fd, hm, F⟩ := E.d_thinned
  refine ⟨f, fd, hm, bd_thinned E H_kept F, F.bindsN (fun _ _ _ _ _ _ us hl => match us, hl with | [_, _, _], _ => rfl), F.kp⟩
end T
set_option maxHeartbeats 400000
namespace T
open PySem PySem.Spec PyProof.Rows L2
theorem bd_strike {P : Program} {w : World} {K : Fg} {mg : Str → Option Value} {base : Heap} {C : Addr} (E : Fcts P w K mg base C) (H_lords : Has P w K mg base 6 "lords" ["order", "house"] (s_lords C)) (H_thinned : Has P w K mg base 5 "thinned" ["order", "parents", "places"] (s_thinned C)) (H_want_place : Has P w K mg base 3 "want_place" ["n", "x"] (s_want_place C)) {f : Addr} {fd : FuncData} (F : FunD K "strike" "strike" (defArgs (Hd.top 33)) (defBody (Hd.top 33)) (defScope (Hd.top 33)) [] [] f fd) : FnOk P w K mg base (L2.CX P w) 7 f fd ["order", "house", "z"] (spOf K mg (s_strike C)) := by
  refine fn_mk [] F sc_strike (fun _ => rfl) (fun _ _ => rfl) rfl ?_
  intro cdv A outer s0 H E0 F0 Sf st0 ⟨a_order, a_house, a_z, _⟩ Pr Zr O g
  change good (m_strike a_order a_house a_z) Pr Zr at g
  unfold m_strike at g
  refine @sb_wk _ _ _ _ _ [(va (cOrd C) a_order), (va (cTup cInt) a_house), (va cInt a_z), un, un, un, un] (Wk.refl _) ?_
  refine sb_cons (s1_asg 3 O ?_)
  refine Ok.x O (xp_call (x := (a_order, a_house, ())) O H_lords (ap_cons (xm_var 0) (ap_cons (xm_var 1) am_nil)) (fun _ _ => rfl)) _ (good_imp (good_bind g) fun r1 g => ?_)
  refine sb_cons (s1_expr ?_)
  refine Ok.x O (xp_call (x := (a_order.1, a_z, ())) O H_want_place (ap_cons (xp_n E.ord (xm_var 0)) (ap_cons (xm_var 2) am_nil)) (fun _ _ => rfl)) _ (good_imp (good_bind g) fun r2 g => ?_)
  refine sb_cons (s1_if (Ok.tv O (tp_cmp (k := fun (x : Int) (y : Int) => decide (x = y)) (cmp_eq scal_int) (xp_n E.ord (xm_var 0)) (xm_int)) (ite_sb g (fun g => ?_) (fun g => ?_))))
  · refine sb_cons (s1_raise (c := cInt) (fun (i : Int) => PyData.int i) dp_int O E.x_BadSize ?_)
    refine Ok.xv O (xm_int) ?_
    exact ⟨_, rfl, g⟩
  · refine sb_nil ?_
    refine sb_cons (s1_if (Ok.tv O (tp_cmp (k := fun (x : Int) (y : (List Int)) => memb x y) (cmp_inT flat_int) (xm_var 2) (xm_var 3)) (ite_sb g (fun g => ?_) (fun g => ?_))))
    · refine sb_cons (s1_raise (c := cInt) (fun (i : Int) => PyData.int i) dp_int O E.x_IsLord ?_)
      refine Ok.xv O (xm_var 2) ?_
      exact ⟨_, rfl, g⟩
    · refine sb_nil ?_
      refine sb_cons (s1_comp (gi := none) (f := (fun x7 (s5 : Unit) => ((Res.ok (decide (x7 = a_z))) >>= fun k10 => if k10 = true then ((Res.ok a_house) >>= fun a8 => (Res.ok a_z) >>= fun i9 => lift (atI a8 i9)) else (Res.ok x7)) >>= fun r11 => Res.ok (some r11, ()))) (cd := cInt) cInt 4 O (own := [("parent", 5)]) (fun (s5 : Unit) => ([(va (cOrd C) a_order), (va (cTup cInt) a_house), (va cInt a_z), (va (cTup cInt) r1), un, un, un] : List Bd)) ?_ (fun _ _ _ _ _ _ x7 s5 Pb g => by (refine eg_name 5 (Ok.blk O) ?_; intro _ _ _ _ _; refine Ok.x (Ok.blk O) (xm_if (tp_cmp (k := fun (x : Int) (y : Int) => decide (x = y)) (cmp_eq scal_int) (xm_var 5) (xm_var 2)) (xm_itemT (xm_var 1) (xm_var 2)) (xm_var 5)) _ (good_imp (good_bind g) fun r11 g => ?_); exact ⟨_, (), g, rfl, (.keep (.keep (.keep (.keep (.drop (.drop (.drop .nil)))))))⟩)) (ok := by kernel_rfl))
      refine it_tup ?_
      refine Ok.xv O (xm_var 1) ?_
      refine ⟨_, rfl, ?_⟩
      refine ⟨(), _, (.keep (.keep (.keep (.keep (.drop (.drop (.drop .nil))))))), fun _ => trivial, good_imp (good_bind g) fun p6 g => ?_⟩
      refine sb_frz 4 rfl ?_
      refine sb_cons (s1_ret ?_)
      refine ev_callH O H_thinned (fun _ _ => rfl) ?_
      refine ea_tmp ?_
      refine Ok.xv O (xm_var 0) ?_
      refine ea_tmp ?_
      refine Ok.xv O (xm_var 4) ?_
      refine ea_tmp ?_
      refine ev_tupleL (c := cInt) E.f_tuple ?_
      refine el_ev ?_
      refine ev_comp (gi := none) (f := (fun x15 (s13 : Unit) => if (!decide (x15 = a_z)) = true then (Res.ok (some x15, ())) else Res.ok (none, ()))) (cd := cInt) cInt O (own := [("x", 6)]) (fun (s13 : Unit) => ([(va (cOrd C) a_order), (va (cTup cInt) a_house), (va cInt a_z), (va (cTup cInt) r1), (va (cLst cInt) p6.1), un, un] : List Bd)) ?_ (fun _ _ _ _ _ _ x15 s13 Pb g => by (refine eg_name 6 (Ok.blk O) ?_; intro _ _ _ _ _; exact Ok.tv (Ok.blk O) (tp_cmp (k := fun (x : Int) (y : Int) => !decide (x = y)) (cmp_ne scal_int) (xm_var 6) (xm_var 2)) (ite_p g (fun g => by (intro _ _ _ _ _; refine Ok.xv (Ok.blk O) (xm_var 6) ?_; exact ⟨_, (), g, rfl, (.keep (.keep (.keep (.keep (.keep (.drop (.drop .nil)))))))⟩)) (fun g => ⟨(), g, (.keep (.keep (.keep (.keep (.keep (.drop (.drop .nil)))))))⟩)))) (ok := by kernel_rfl)
      refine it_range E.f_range ?_
      refine Ok.xv O (xp_n E.ord (xm_var 0)) ?_
      obtain ⟨xs12, hx, g⟩ := good_lift (good_bind g)
      refine ⟨_, rfl, xs12, hx, ?_⟩
      refine ⟨(), _, (.keep (.keep (.keep (.keep (.keep (.drop (.drop .nil))))))), fun _ => trivial, good_imp (good_bind g) fun p14 g => ?_⟩
      refine ⟨_, .inl rfl, ?_⟩
      refine ea_nil ⟨(a_order, p6.1, p14.1, ()), rfl, nd0, good_imp (good_bind g) fun r16 g => ?_⟩
      exact ⟨r16, g, rfl, ⟨.inl rfl, .inl rfl, .inl rfl, trivial⟩⟩
theorem ok_strike {P : Program} {w : World} {K : Fg} {mg : Str → Option Value} {base : Heap} {C : Addr} (E : Fcts P w K mg base C) (H_lords : Has P w K mg base 6 "lords" ["order", "house"] (s_lords C)) (H_thinned : Has P w K mg base 5 "thinned" ["order", "parents", "places"] (s_thinned C)) (H_want_place : Has P w K mg base 3 "want_place" ["n", "x"] (s_want_place C)) : Has P w K mg base 7 "strike" ["order", "house", "z"] (s_strike C) := by
  obtain ⟨f, fd, hm, F⟩ := E.d_strike
  refine ⟨f, fd, hm, bd_strike E H_lords H_thinned H_want_place F, F.bindsN (fun _ _ _ _ _ _ us hl => match us, hl with | [_, _, _], _ => rfl), F.kp⟩
end T
set_option maxHeartbeats 400000
namespace T
open PySem PySem.Spec PyProof.Rows L2
theorem bd__law_told {P : Program} {w : World} {K : Fg} {mg : Str → Option Value} {base : Heap} {C : Addr} (E : Fcts P w K mg base C) (H_strike : Has P w K mg base 7 "strike" ["order", "house", "z"] (s_strike C)) {f : Addr} {fd : FuncData} (F : FunD K "_law_told" "_law_told" (defArgs (Hd.top 47)) (defBody (Hd.top 47)) (defScope (Hd.top 47)) [] [] f fd) : FnOk P w K mg base (L2.CX P w) 8 f fd ["order", "house", "z"] (spOf K mg (s__law_told C)) := by
  refine fn_mk0 [] F sc__law_told (fun _ => rfl) (fun _ _ => rfl) rfl ?_
  intro cdv A outer s0 H E0 F0 Sf st0 ⟨a_order, a_house, a_z, _⟩ Pr Zr O g
  change good (m__law_told a_order a_house a_z) Pr Zr at g
  unfold m__law_told at g
  refine sb0_cons (S1.zero (s1_asg 3 O ?_))
  refine ev_tup (c := cInt) ?_
  refine ea_nil ⟨[], rfl, Nat.le_of_ble_eq_true rfl, ?_⟩
  obtain ⟨C_BadPlace, em_BadPlace⟩ := E.em_BadPlace
  obtain ⟨C_BadSize, em_BadSize⟩ := E.em_BadSize
  obtain ⟨C_IsLord, em_IsLord⟩ := E.em_IsLord
  obtain ⟨C_Unlike, em_Unlike⟩ := E.em_Unlike
  obtain ⟨C_Refused, em_Refused⟩ := E.em_Refused
  refine sb0_try (S := ((((Int × List (List Int)) × (List Int)) ⊕ (Str × PyData)))) (Γs := fun s1 => [(va (cOrd C) a_order), (va (cTup cInt) a_house), (va cInt a_z), (va (cSum (cPr (cOrd C) (cTup cInt)) (cPr cStr cD)) s1), un]) (kr := (fun s1 => Res.ok s1)) (hnd := (fun (ex : Exn) => if ex.cls ∈ (["BadSize", "BadPair", "NotOrder", "BadParent", "Round", "Unlike", "BadPlace", "IsLord"] : List Str) then (if (ex.cls == "BadPlace") = true then (Res.ok (Sum.inr (("place" : Str), ex.what) : (((Int × List (List Int)) × (List Int)) ⊕ (Str × PyData)))) else (if (ex.cls == "BadSize") = true then (Res.ok (Sum.inr (("size" : Str), ex.what) : (((Int × List (List Int)) × (List Int)) ⊕ (Str × PyData)))) else (if (ex.cls == "IsLord") = true then (Res.ok (Sum.inr (("lord" : Str), ex.what) : (((Int × List (List Int)) × (List Int)) ⊕ (Str × PyData)))) else (if (ex.cls == "Unlike") = true then (Res.ok (Sum.inr (("unlike" : Str), ex.what) : (((Int × List (List Int)) × (List Int)) ⊕ (Str × PyData)))) else (if true = true then (Res.ok (Sum.inr (("other" : Str), ((fun (i : Int) => PyData.int i) (0 : Int))) : (((Int × List (List Int)) × (List Int)) ⊕ (Str × PyData)))) else (Res.exc ex)))))) else Res.stuck)) O rfl (HT.named (i := 4) rfl rfl (em_BadPlace.names rfl rfl (by decide)) (HT.named (i := 4) rfl rfl (em_BadSize.names rfl rfl (by decide)) (HT.named (i := 4) rfl rfl (em_IsLord.names rfl rfl (by decide)) (HT.named (i := 4) rfl rfl (em_Unlike.names rfl rfl (by decide)) (HT.plain (em_Refused.names rfl rfl (by decide)) HT.nil))))) g ?_ ?_ ?_
  · intro s1 g
    skip
    refine SB.zero ?_
    refine sb_cons (s1_ret ?_)
    refine Ok.xv O (xm_var 3) ?_
    exact ⟨s1, g, rfl, ⟨.inl rfl, .inl rfl, .inl rfl, trivial⟩⟩
  · intro hrest ex g
    change good (if ex.cls ∈ (["BadSize", "BadPair", "NotOrder", "BadParent", "Round", "Unlike", "BadPlace", "IsLord"] : List Str) then (if (ex.cls == "BadPlace") = true then (Res.ok (Sum.inr (("place" : Str), ex.what) : (((Int × List (List Int)) × (List Int)) ⊕ (Str × PyData)))) else (if (ex.cls == "BadSize") = true then (Res.ok (Sum.inr (("size" : Str), ex.what) : (((Int × List (List Int)) × (List Int)) ⊕ (Str × PyData)))) else (if (ex.cls == "IsLord") = true then (Res.ok (Sum.inr (("lord" : Str), ex.what) : (((Int × List (List Int)) × (List Int)) ⊕ (Str × PyData)))) else (if (ex.cls == "Unlike") = true then (Res.ok (Sum.inr (("unlike" : Str), ex.what) : (((Int × List (List Int)) × (List Int)) ⊕ (Str × PyData)))) else (if true = true then (Res.ok (Sum.inr (("other" : Str), ((fun (i : Int) => PyData.int i) (0 : Int))) : (((Int × List (List Int)) × (List Int)) ⊕ (Str × PyData)))) else (Res.exc ex)))))) else Res.stuck) _ _ at g
    by_cases hx : ex.cls ∈ (["BadSize", "BadPair", "NotOrder", "BadParent", "Round", "Unlike", "BadPlace", "IsLord"] : List Str)
    · rw [if_pos hx] at g
      refine ht_named em_BadPlace hx (Nat.le_of_ble_eq_true rfl) (fun hb Ce a oe pn dd wh hz hf => ?_) (fun hb => ?_)
      · have hb1 : (ex.cls == "BadPlace") = true := hb
        rw [if_pos hb1] at g
        refine SB.zero ?_
        refine @sb_wk _ _ _ _ _ [(va (cOrd C) a_order), (va (cTup cInt) a_house), (va cInt a_z), (va (cTup cInt) []), (bx a dd ex.what)] (Wk.refl _) ?_
        refine sb_cons (s1_asg0 3 O.nd ?_)
        refine ev_inr (c := (cPr (cOrd C) (cTup cInt))) (d := (cPr cStr cD)) ?_
        refine ev_pr (c := cStr) (d := cD) ?_
        refine ea_tmp ?_
        refine xv0 (xm_str) ?_
        refine ea_tmp ?_
        refine ev_what 4 wh hz hf rfl ?_
        refine ea_nil ⟨_, _, rfl, ?_⟩
        refine ⟨_, rfl, ?_⟩
        exact sb_nil (hrest _ g)
      · have hb1 : ¬ (ex.cls == "BadPlace") = true := by rw [show (ex.cls == "BadPlace") = false from hb]; decide
        rw [if_neg hb1] at g
        refine ht_named em_BadSize hx (Nat.le_of_ble_eq_true rfl) (fun hb Ce a oe pn dd wh hz hf => ?_) (fun hb => ?_)
        · have hb1 : (ex.cls == "BadSize") = true := hb
          rw [if_pos hb1] at g
          refine SB.zero ?_
          refine @sb_wk _ _ _ _ _ [(va (cOrd C) a_order), (va (cTup cInt) a_house), (va cInt a_z), (va (cTup cInt) []), (bx a dd ex.what)] (Wk.refl _) ?_
          refine sb_cons (s1_asg0 3 O.nd ?_)
          refine ev_inr (c := (cPr (cOrd C) (cTup cInt))) (d := (cPr cStr cD)) ?_
          refine ev_pr (c := cStr) (d := cD) ?_
          refine ea_tmp ?_
          refine xv0 (xm_str) ?_
          refine ea_tmp ?_
          refine ev_what 4 wh hz hf rfl ?_
          refine ea_nil ⟨_, _, rfl, ?_⟩
          refine ⟨_, rfl, ?_⟩
          exact sb_nil (hrest _ g)
        · have hb1 : ¬ (ex.cls == "BadSize") = true := by rw [show (ex.cls == "BadSize") = false from hb]; decide
          rw [if_neg hb1] at g
          refine ht_named em_IsLord hx (Nat.le_of_ble_eq_true rfl) (fun hb Ce a oe pn dd wh hz hf => ?_) (fun hb => ?_)
          · have hb1 : (ex.cls == "IsLord") = true := hb
            rw [if_pos hb1] at g
            refine SB.zero ?_
            refine @sb_wk _ _ _ _ _ [(va (cOrd C) a_order), (va (cTup cInt) a_house), (va cInt a_z), (va (cTup cInt) []), (bx a dd ex.what)] (Wk.refl _) ?_
            refine sb_cons (s1_asg0 3 O.nd ?_)
            refine ev_inr (c := (cPr (cOrd C) (cTup cInt))) (d := (cPr cStr cD)) ?_
            refine ev_pr (c := cStr) (d := cD) ?_
            refine ea_tmp ?_
            refine xv0 (xm_str) ?_
            refine ea_tmp ?_
            refine ev_what 4 wh hz hf rfl ?_
            refine ea_nil ⟨_, _, rfl, ?_⟩
            refine ⟨_, rfl, ?_⟩
            exact sb_nil (hrest _ g)
          · have hb1 : ¬ (ex.cls == "IsLord") = true := by rw [show (ex.cls == "IsLord") = false from hb]; decide
            rw [if_neg hb1] at g
            refine ht_named em_Unlike hx (Nat.le_of_ble_eq_true rfl) (fun hb Ce a oe pn dd wh hz hf => ?_) (fun hb => ?_)
            · have hb1 : (ex.cls == "Unlike") = true := hb
              rw [if_pos hb1] at g
              refine SB.zero ?_
              refine @sb_wk _ _ _ _ _ [(va (cOrd C) a_order), (va (cTup cInt) a_house), (va cInt a_z), (va (cTup cInt) []), (bx a dd ex.what)] (Wk.refl _) ?_
              refine sb_cons (s1_asg0 3 O.nd ?_)
              refine ev_inr (c := (cPr (cOrd C) (cTup cInt))) (d := (cPr cStr cD)) ?_
              refine ev_pr (c := cStr) (d := cD) ?_
              refine ea_tmp ?_
              refine xv0 (xm_str) ?_
              refine ea_tmp ?_
              refine ev_what 4 wh hz hf rfl ?_
              refine ea_nil ⟨_, _, rfl, ?_⟩
              refine ⟨_, rfl, ?_⟩
              exact sb_nil (hrest _ g)
            · have hb1 : ¬ (ex.cls == "Unlike") = true := by rw [show (ex.cls == "Unlike") = false from hb]; decide
              rw [if_neg hb1] at g
              refine ht_plain em_Refused hx (fun hb a oe pn => ?_) (fun hb => ?_)
              · have hb1 : true = true := hb
                rw [if_pos hb1] at g
                refine SB.zero ?_
                refine @sb_wk _ _ _ _ _ [(va (cOrd C) a_order), (va (cTup cInt) a_house), (va cInt a_z), (va (cTup cInt) []), un] (Wk.refl _) ?_
                refine sb_cons (s1_asg0 3 O.nd ?_)
                refine ev_inr (c := (cPr (cOrd C) (cTup cInt))) (d := (cPr cStr cD)) ?_
                refine ev_pr (c := cStr) (d := cD) ?_
                refine ea_tmp ?_
                refine xv0 (xm_str) ?_
                refine ea_tmp ?_
                refine ev_toD (c := cInt) (fun (i : Int) => PyData.int i) dp_int ?_
                refine xv0 (xm_int) ?_
                refine ⟨_, rfl, ?_⟩
                refine ea_nil ⟨_, _, rfl, ?_⟩
                refine ⟨_, rfl, ?_⟩
                exact sb_nil (hrest _ g)
              · exact absurd (show true = false from hb) (by decide)
    · rw [if_neg hx] at g
      exact g.elim
  · intro hrest pn xe O2 g
    refine sb_cons (s1_asg 3 O2 ?_)
    refine ev_inl (c := (cPr (cOrd C) (cTup cInt))) (d := (cPr cStr cD)) ?_
    refine Ok.x O2 (xp_call (x := (a_order, a_house, a_z, ())) O2 H_strike (ap_cons (xm_var 0) (ap_cons (xm_var 1) (ap_cons (xm_var 2) am_nil))) (fun _ _ => rfl)) _ (good_imp (good_bind g) fun r2 g => ?_)
    refine ⟨_, rfl, ?_⟩
    exact sb_nil (hrest _ g)
theorem ok__law_told {P : Program} {w : World} {K : Fg} {mg : Str → Option Value} {base : Heap} {C : Addr} (E : Fcts P w K mg base C) (H_strike : Has P w K mg base 7 "strike" ["order", "house", "z"] (s_strike C)) : Has P w K mg base 8 "_law_told" ["order", "house", "z"] (s__law_told C) := by
  obtain ⟨f, fd, hm, F⟩ := E.d__law_told
  refine ⟨f, fd, hm, bd__law_told E H_strike F, F.bindsN (fun _ _ _ _ _ _ us hl => match us, hl with | [_, _, _], _ => rfl), F.kp⟩
end T
set_option maxHeartbeats 400000
namespace T
open PySem PySem.Spec PyProof.Rows L2
theorem bd__law_kept {P : Program} {w : World} {K : Fg} {mg : Str → Option Value} {base : Heap} {C : Addr} (E : Fcts P w K mg base C) {f : Addr} {fd : FuncData} (F : FunD K "_law_kept" "_law_kept" (defArgs (Hd.top 45)) (defBody (Hd.top 45)) (defScope (Hd.top 45)) [] [] f fd) : FnOk P w K mg base (L2.CX P w) 1 f fd ["pairs", "parents", "places"] (spOf K mg (s__law_kept C)) := by
  refine fn_mk [] F sc__law_kept (fun _ => rfl) (fun _ _ => rfl) rfl ?_
  intro cdv A outer s0 H E0 F0 Sf st0 ⟨a_pairs, a_parents, a_places, _⟩ Pr Zr O g
  change good (m__law_kept a_pairs a_parents a_places) Pr Zr at g
  unfold m__law_kept at g
  refine @sb_wk _ _ _ _ _ [(va (cLst (cPr cInt cInt)) a_pairs), (va (cLst cInt) a_parents), (va (cLst cInt) a_places), un, un, un] (Wk.refl _) ?_
  refine sb_cons (s1_asg 3 O ?_)
  refine ev_nil (cTup cInt) ?_
  refine sb_cons (s1_forI (js := [4]) (cd := cInt) O ?_)
  refine it_list ?_
  refine Ok.xv O (xm_var 2) ?_
  refine ⟨_, rfl, ?_⟩
  refine fb_forS (fun (s1 : (List (List Int))) => ([(va (cLst (cPr cInt cInt)) a_pairs), (va (cLst cInt) a_parents), (va (cLst cInt) a_places), (ow (oLst (cTup cInt)) s1), un, un] : List Bd)) (good_bind g) (.keep (.keep (.keep (.keep (.drop (.drop .nil)))))) (fun x2 s1 Pb hx g => ?_) (fun s1 g => ?_)
  · refine eg_name 4 O ?_
    refine sb_cons (s1_expr ?_)
    refine ev_append (m := "append") 3 rfl ?_
    refine ev_tupleL (c := cInt) E.f_tuple ?_
    refine el_ev ?_
    refine ev_comp (gi := none) (f := (fun x5 (s3 : Unit) => if (memb (x5, x2) a_pairs) = true then (((Res.ok a_places) >>= fun a8 => (Res.ok x5) >>= fun b9 => lift (idxO a8 b9)) >>= fun r10 => Res.ok (some r10, ())) else Res.ok (none, ()))) (cd := cInt) cInt O (own := [("x", 5)]) (fun (s3 : Unit) => ([(va (cLst (cPr cInt cInt)) a_pairs), (va (cLst cInt) a_parents), (va (cLst cInt) a_places), (ow (oLst (cTup cInt)) s1), (va cInt x2), un] : List Bd)) ?_ (fun _ _ _ _ _ _ x5 s3 Pb g => by (refine eg_name 5 (Ok.blk O) ?_; intro _ _ _ _ _; exact Ok.tv (Ok.blk O) (tm_inD (Ok.blk O) (deep_pr (deep_int) (deep_int)) (xp_pr (xm_var 5) (xm_var 4)) (xl_var 0)) (ite_p g (fun g => by (intro _ _ _ _ _; refine Ok.x (Ok.blk O) (xm_index flat_int (xl_var 2) (xm_var 5)) _ (good_imp (good_bind g) fun r10 g => ?_); exact ⟨_, (), g, rfl, (.keep (.keep (.keep (.keep (.keep (.drop .nil))))))⟩)) (fun g => ⟨(), g, (.keep (.keep (.keep (.keep (.keep (.drop .nil))))))⟩)))) (ok := by kernel_rfl)
    refine it_list ?_
    refine Ok.xv O (xm_var 2) ?_
    refine ⟨_, rfl, ?_⟩
    refine ⟨(), _, (.keep (.keep (.keep (.keep (.keep (.drop .nil)))))), fun _ => trivial, good_imp (good_bind g) fun p4 g => ?_⟩
    refine ⟨_, .inl rfl, ?_⟩
    obtain ⟨ys11, hy, g⟩ := good_lift (good_bind g)
    refine ⟨_, rfl, _, ys11, rfl, hy, ?_⟩
    exact sb_nil ⟨ys11, g, (.keep (.keep (.keep (.keep (.drop (.drop .nil))))))⟩
  · refine sb_cons (s1_ret ?_)
    refine ev_pr (c := (cTup (cTup cInt))) (d := (cTup cInt)) ?_
    refine ea_tmp ?_
    refine ev_tupleL (c := (cTup cInt)) E.f_tuple ?_
    refine Ok.lv O (xl_ow 3) ?_
    refine ea_tmp ?_
    refine ev_tupleL (c := cInt) E.f_tuple ?_
    refine el_ev ?_
    refine ev_comp (gi := none) (f := (fun x14 (s12 : Unit) => ((((Res.ok a_parents) >>= fun a15 => (Res.ok x14) >>= fun i16 => lift (atI a15 i16)) >>= fun x17 => (Res.ok a_places) >>= fun xs18 => Res.ok (memb x17 xs18)) >>= fun k23 => if k23 = true then ((Res.ok a_places) >>= fun a21 => ((Res.ok a_parents) >>= fun a19 => (Res.ok x14) >>= fun i20 => lift (atI a19 i20)) >>= fun b22 => lift (idxO a21 b22)) else (Res.ok (-(1 : Int)))) >>= fun r24 => Res.ok (some r24, ()))) (cd := cInt) cInt O (own := [("x", 5)]) (fun (s12 : Unit) => ([(va (cLst (cPr cInt cInt)) a_pairs), (va (cLst cInt) a_parents), (va (cLst cInt) a_places), (ow (oLst (cTup cInt)) s1), un, un] : List Bd)) ?_ (fun _ _ _ _ _ _ x14 s12 Pb g => by (refine eg_name 5 (Ok.blk O) ?_; intro _ _ _ _ _; refine Ok.x (Ok.blk O) (xm_if (tm_inL flat_int (xm_itemL (xl_var 1) (xm_var 5)) (xl_var 2)) (xm_index flat_int (xl_var 2) (xm_itemL (xl_var 1) (xm_var 5))) (xp_neg (xm_int))) _ (good_imp (good_bind g) fun r24 g => ?_); exact ⟨_, (), g, rfl, (.keep (.keep (.keep (.keep (.drop (.drop .nil))))))⟩)) (ok := by kernel_rfl)
    refine it_list ?_
    refine Ok.xv O (xm_var 2) ?_
    refine ⟨_, rfl, ?_⟩
    refine ⟨(), _, (.keep (.keep (.keep (.keep (.drop (.drop .nil)))))), fun _ => trivial, good_imp (good_bind g) fun p13 g => ?_⟩
    refine ⟨_, .inl rfl, ?_⟩
    refine ea_nil ⟨_, _, rfl, ?_⟩
    exact ⟨(s1, p13.1), g, rfl, ⟨.inl rfl, .inl rfl, .inl rfl, trivial⟩⟩
theorem ok__law_kept {P : Program} {w : World} {K : Fg} {mg : Str → Option Value} {base : Heap} {C : Addr} (E : Fcts P w K mg base C) : Has P w K mg base 1 "_law_kept" ["pairs", "parents", "places"] (s__law_kept C) := by
  obtain ⟨f, fd, hm, F⟩ := E.d__law_kept
  refine ⟨f, fd, hm, bd__law_kept E F, F.bindsN (fun _ _ _ _ _ _ us hl => match us, hl with | [_, _, _], _ => rfl), F.kp⟩
end T
set_option maxHeartbeats 400000
namespace T
open PySem PySem.Spec PyProof.Rows L2
theorem bd__law_struck_right {P : Program} {w : World} {K : Fg} {mg : Str → Option Value} {base : Heap} {C : Addr} (E : Fcts P w K mg base C) (H__law_kept : Has P w K mg base 1 "_law_kept" ["pairs", "parents", "places"] (s__law_kept C)) {f : Addr} {fd : FuncData} (F : FunD K "_law_struck_right" "_law_struck_right" (defArgs (Hd.top 48)) (defBody (Hd.top 48)) (defScope (Hd.top 48)) [] [] f fd) : FnOk P w K mg base (L2.CX P w) 2 f fd ["told", "n", "pairs", "house", "z"] (spOf K mg (s__law_struck_right C)) := by
  refine fn_mk [] F sc__law_struck_right (fun _ => rfl) (fun _ _ => rfl) rfl ?_
  intro cdv A outer s0 H E0 F0 Sf st0 ⟨a_told, a_n, a_pairs, a_house, a_z, _⟩ Pr Zr O g
  change good (m__law_struck_right a_told a_n a_pairs a_house a_z) Pr Zr at g
  unfold m__law_struck_right at g
  refine @sb_wk _ _ _ _ _ [(va (cPr (cOrd C) (cTup cInt)) a_told), (va cInt a_n), (va (cLst (cPr cInt cInt)) a_pairs), (va (cTup cInt) a_house), (va cInt a_z), un, un, un, un, un] (Wk.refl _) ?_
  refine @sb_wk _ _ _ _ _ [(va (cPr (cOrd C) (cTup cInt)) a_told), (va cInt a_n), (va (cLst (cPr cInt cInt)) a_pairs), (va (cTup cInt) a_house), (va cInt a_z), un, un, un, un, un] (.keep (.keep (.keep (.keep (.keep (.drop (.drop (.drop (.drop (.drop .nil)))))))))) ?_
  refine sb_cons (s1_comp (gi := none) (f := (fun x4 (s2 : Unit) => if (!decide (x4 = a_z)) = true then (Res.ok (some x4, ())) else Res.ok (none, ()))) (cd := cInt) cInt 5 O (own := [("x", 6)]) (fun (s2 : Unit) => ([(va (cPr (cOrd C) (cTup cInt)) a_told), (va cInt a_n), (va (cLst (cPr cInt cInt)) a_pairs), (va (cTup cInt) a_house), (va cInt a_z), un, un, un, un, un] : List Bd)) ?_ (fun _ _ _ _ _ _ x4 s2 Pb g => by (refine eg_name 6 (Ok.blk O) ?_; intro _ _ _ _ _; exact Ok.tv (Ok.blk O) (tp_cmp (k := fun (x : Int) (y : Int) => !decide (x = y)) (cmp_ne scal_int) (xm_var 6) (xm_var 4)) (ite_p g (fun g => by (intro _ _ _ _ _; refine Ok.xv (Ok.blk O) (xm_var 6) ?_; exact ⟨_, (), g, rfl, (.keep (.keep (.keep (.keep (.keep (.drop (.drop (.drop (.drop (.drop .nil))))))))))⟩)) (fun g => ⟨(), g, (.keep (.keep (.keep (.keep (.keep (.drop (.drop (.drop (.drop (.drop .nil))))))))))⟩)))) (ok := by kernel_rfl))
  refine it_range E.f_range ?_
  refine Ok.xv O (xm_var 1) ?_
  obtain ⟨xs1, hx, g⟩ := good_lift (good_bind g)
  refine ⟨_, rfl, xs1, hx, ?_⟩
  refine ⟨(), _, (.keep (.keep (.keep (.keep (.keep (.drop (.drop (.drop (.drop (.drop .nil)))))))))), fun _ => trivial, good_imp (good_bind g) fun p3 g => ?_⟩
  refine @sb_wk _ _ _ _ _ [(va (cPr (cOrd C) (cTup cInt)) a_told), (va cInt a_n), (va (cLst (cPr cInt cInt)) a_pairs), (va (cTup cInt) a_house), (va cInt a_z), (ow (oLst cInt) p3.1), un, un, un, un] (.keep (.keep (.keep (.keep (.keep (.keep (.drop (.drop (.drop (.drop .nil)))))))))) ?_
  refine sb_cons (s1_comp (gi := none) (f := (fun x8 (s6 : Unit) => ((((Res.ok a_house) >>= fun a9 => (Res.ok x8) >>= fun i10 => lift (atI a9 i10)) >>= fun x11 => (Res.ok a_z) >>= fun y12 => Res.ok (decide (x11 = y12))) >>= fun k17 => if k17 = true then ((Res.ok a_house) >>= fun a13 => (Res.ok a_z) >>= fun i14 => lift (atI a13 i14)) else ((Res.ok a_house) >>= fun a15 => (Res.ok x8) >>= fun i16 => lift (atI a15 i16))) >>= fun r18 => Res.ok (some r18, ()))) (cd := cInt) cInt 7 O (own := [("x", 6)]) (fun (s6 : Unit) => ([(va (cPr (cOrd C) (cTup cInt)) a_told), (va cInt a_n), (va (cLst (cPr cInt cInt)) a_pairs), (va (cTup cInt) a_house), (va cInt a_z), (ow (oLst cInt) p3.1), un, un, un, un] : List Bd)) ?_ (fun _ _ _ _ _ _ x8 s6 Pb g => by (refine eg_name 6 (Ok.blk O) ?_; intro _ _ _ _ _; refine Ok.x (Ok.blk O) (xm_if (tm_cmpT (k := fun (x : Int) (y : Int) => decide (x = y)) (cmp_eq scal_int) (xm_itemT (xm_var 3) (xm_var 6)) (xm_var 4)) (xm_itemT (xm_var 3) (xm_var 4)) (xm_itemT (xm_var 3) (xm_var 6))) _ (good_imp (good_bind g) fun r18 g => ?_); exact ⟨_, (), g, rfl, (.keep (.keep (.keep (.keep (.keep (.keep (.drop (.drop (.drop (.drop .nil))))))))))⟩)) (ok := by kernel_rfl))
  refine it_range E.f_range ?_
  refine Ok.xv O (xm_var 1) ?_
  obtain ⟨xs5, hx, g⟩ := good_lift (good_bind g)
  refine ⟨_, rfl, xs5, hx, ?_⟩
  refine ⟨(), _, (.keep (.keep (.keep (.keep (.keep (.keep (.drop (.drop (.drop (.drop .nil)))))))))), fun _ => trivial, good_imp (good_bind g) fun p7 g => ?_⟩
  refine @sb_wk _ _ _ _ _ [(va (cPr (cOrd C) (cTup cInt)) a_told), (va cInt a_n), (va (cLst (cPr cInt cInt)) a_pairs), (va (cTup cInt) a_house), (va cInt a_z), (ow (oLst cInt) p3.1), un, (ow (oLst cInt) p7.1), un, un] (.keep (.keep (.keep (.keep (.keep (.keep (.drop (.keep (.drop (.drop .nil)))))))))) ?_
  refine sb_frz 7 rfl ?_
  refine sb_frz 5 rfl ?_
  refine sb_cons (s1_asgG (js := ([8] ++ [9])) ?_)
  refine Ok.x O (xp_call (x := (a_pairs, p7.1, p3.1, ())) O H__law_kept (ap_cons (xm_var 2) (ap_cons (xm_var 7) (ap_cons (xm_var 5) am_nil))) (fun _ _ => rfl)) _ (good_imp (good_bind g) fun r19 g => ?_)
  refine eg_pair O (eg_name 8 O (eg_name 9 O ?_))
  refine @sb_wk _ _ _ _ _ [(va (cPr (cOrd C) (cTup cInt)) a_told), (va cInt a_n), (va (cLst (cPr cInt cInt)) a_pairs), (va (cTup cInt) a_house), (va cInt a_z), (va (cLst cInt) p3.1), un, (va (cLst cInt) p7.1), (va (cTup (cTup cInt)) r19.1), (va (cTup cInt) r19.2)] (.keep (.keep (.keep (.keep (.keep (.keep (.drop (.keep (.keep (.keep .nil)))))))))) ?_
  refine sb_cons (s1_if (Ok.t O (tm_w (wm_or (tm_not (tm_val ((fun P g => by (refine ev_isi (c := (cPr (cOrd C) (cTup cInt))) ty_pr (r := true) rfl E.f_isinstance (xm_ty (u := "tuple") E.f_tuple (by decide +kernel)) ?_; refine Ok.xv O (xm_var 0) ?_; refine ⟨_, rfl, ?_⟩; exact g))))) (wm_or (tm_cmpT (k := fun (x : Int) (y : Int) => !decide (x = y)) (cmp_ne scal_int) (xm_lenP E.f_len (xm_var 0)) (xm_int)) (wm_or1 (tm_val ((fun P g => by (refine Ok.x O (xm_isOs inst_ord E.f_isinstance E.isa_Order E.ord.cls (xm_ty (u := "str") E.f_str (by decide +kernel)) (xp_fst (xm_var 0) xm_int)) _ (good_imp (good_bind g) fun r23 g => ?_); exact g)))))))) _ (good_imp (good_bind g) fun k26 g => ite_sb g (fun g => ?_) (fun g => ?_))))
  · refine sb_cons (s1_ret ?_)
    refine Ok.xv O (xm_bool) ?_
    exact ⟨false, g, rfl, ⟨.inl rfl, .inl rfl, .inl rfl, .inl rfl, .inl rfl, trivial⟩⟩
  · refine sb_nil ?_
    refine sb_cons (s1_ret ?_)
    refine Ok.xv O ((xp_and (xp_cmp (k := fun (x : Int) (y : Int) => decide (x = y)) (cmp_eq scal_int) (xp_n E.ord (xp_fst (xm_var 0) xm_int)) (xp_sub (xm_var 1) (xm_int))) (xp_and (xp_cmp (k := fun (x : (List (List Int))) (y : (List (List Int))) => decide (x = y)) (cmp_eqD O (deep_tup (deep_tup deep_int))) (xp_lesser E.ord (xp_fst (xm_var 0) xm_int)) (xm_var 8)) (xm_one (xp_cmp (k := fun (x : (List Int)) (y : (List Int)) => decide (x = y)) (cmp_eqD O (deep_tup deep_int)) (xp_snd (xm_var 0) xm_int) (xm_var 9)))))) ?_
    exact ⟨((decide (a_told.1.1 = (a_n - (1 : Int)))) && ((decide (a_told.1.2 = r19.1)) && (decide (a_told.2 = r19.2)))), g, rfl, ⟨.inl rfl, .inl rfl, .inl rfl, .inl rfl, .inl rfl, trivial⟩⟩
theorem ok__law_struck_right {P : Program} {w : World} {K : Fg} {mg : Str → Option Value} {base : Heap} {C : Addr} (E : Fcts P w K mg base C) (H__law_kept : Has P w K mg base 1 "_law_kept" ["pairs", "parents", "places"] (s__law_kept C)) : Has P w K mg base 2 "_law_struck_right" ["told", "n", "pairs", "house", "z"] (s__law_struck_right C) := by
  obtain ⟨f, fd, hm, F⟩ := E.d__law_struck_right
  refine ⟨f, fd, hm, bd__law_struck_right E H__law_kept F, F.bindsN (fun _ _ _ _ _ _ us hl => match us, hl with | [_, _, _, _, _], _ => rfl), F.kp⟩
end T
set_option maxHeartbeats 400000
namespace T
open PySem PySem.Spec PyProof.Rows L2
theorem bd__law_case {P : Program} {w : World} {K : Fg} {mg : Str → Option Value} {base : Heap} {C : Addr} (E : Fcts P w K mg base C) (H__law_house : Has P w K mg base 3 "_law_house" ["source", "n"] (s__law_house C)) (H__law_lords : Has P w K mg base 2 "_law_lords" ["pairs", "house"] (s__law_lords C)) (H__law_names : Has P w K mg base 3 "_law_names" ["source", "n"] (s__law_names C)) (H__law_order : Has P w K mg base 3 "_law_order" ["source", "n"] (s__law_order C)) (H__law_places : Has P w K mg base 3 "_law_places" ["source"] (s__law_places C)) (H__law_struck_right : Has P w K mg base 2 "_law_struck_right" ["told", "n", "pairs", "house", "z"] (s__law_struck_right C)) (H__law_told : Has P w K mg base 8 "_law_told" ["order", "house", "z"] (s__law_told C)) (H_made_order : Has P w K mg base 5 "made_order" ["n", "pairs"] (s_made_order C)) {f : Addr} {fd : FuncData} (F : FunD K "_law_case" "_law_case" (defArgs (Hd.top 49)) (defBody (Hd.top 49)) (defScope (Hd.top 49)) [] [] f fd) : FnOk P w K mg base (L2.CX P w) 9 f fd ["source"] (spOf K mg (s__law_case C)) := by
  refine fn_mk [0] F sc__law_case (fun _ => rfl) (fun _ _ => rfl) rfl ?_
  intro cdv A outer s0 H E0 F0 Sf st0 ⟨a_source, _⟩ Pr Zr O g
  change good (m__law_case a_source) Pr Zr at g
  unfold m__law_case at g
  refine @sb_wk _ _ _ _ _ [(ow (oLst cInt) a_source), un, un, un, un, un, un, un, un] (Wk.refl _) ?_
  refine @sb_wk _ _ _ _ _ [(ow (oLst cInt) a_source), un, un, un, un, un, un, un, un] (.keep (.drop (.drop (.drop (.drop (.drop (.drop (.drop (.drop .nil))))))))) ?_
  refine sb_cons (s1_asgG (js := ([1] ++ [2])) ?_)
  refine ev_callH O H__law_order (fun _ _ => rfl) ?_
  refine ea_bor 0 rfl ?_
  refine ea_tmp ?_
  refine ev_callH O H__law_places (fun _ _ => rfl) ?_
  refine ea_bor 0 rfl ?_
  refine ea_nil ⟨(a_source, ()), rfl, nd1, good_imp (good_bind g) fun r1 g => ?_⟩
  refine ea_nil ⟨(r1.2, r1.1, ()), rfl, nd1, good_imp (good_bind g) fun r2 g => ?_⟩
  refine eg_pair O (eg_name 1 O (eg_name 2 O ?_))
  refine @sb_wk _ _ _ _ _ [(ow (oLst cInt) r2.2), (va cInt r2.1.1), (va (cLst (cPr cInt cInt)) r2.1.2), un, un, un, un, un, un] (.keep (.keep (.keep (.drop (.drop (.drop (.drop (.drop (.drop .nil))))))))) ?_
  refine sb_cons (s1_par 3 4 O ?_)
  refine ea_tmp ?_
  refine ev_callH O H__law_house (fun _ _ => rfl) ?_
  refine ea_bor 0 rfl ?_
  refine ea_tmp ?_
  refine Ok.xv O (xm_var 1) ?_
  refine ea_nil ⟨(r2.2, r2.1.1, ()), rfl, nd1, good_imp (good_bind g) fun r3 g => ?_⟩
  refine ea_tmp ?_
  refine ev_callH O H_made_order (fun _ _ => rfl) ?_
  refine ea_tmp ?_
  refine Ok.xv O (xm_var 1) ?_
  refine ea_tmp ?_
  refine ev_tupleL (c := (cPr cInt cInt)) E.f_tuple ?_
  refine Ok.lv O (xl_var 2) ?_
  refine ea_nil ⟨(r2.1.1, r2.1.2, ()), rfl, nd0, good_imp (good_bind g) fun r4 g => ?_⟩
  refine ea_nil ⟨_, _, rfl, ?_⟩
  refine @sb_wk _ _ _ _ _ [(ow (oLst cInt) r3.2), (va cInt r2.1.1), (va (cLst (cPr cInt cInt)) r2.1.2), (va (cTup cInt) r3.1), (va (cOrd C) r4), un, un, un, un] (.keep (.keep (.keep (.keep (.keep (.drop (.drop (.drop (.drop .nil))))))))) ?_
  refine sb_cons (s1_asg 5 O ?_)
  refine Ok.x O (xp_call (x := (r2.1.2, r3.1, ())) O H__law_lords (ap_cons (xm_var 2) (ap_cons (xm_var 3) am_nil)) (fun _ _ => rfl)) _ (good_imp (good_bind g) fun r5 g => ?_)
  refine @sb_wk _ _ _ _ _ [(ow (oLst cInt) r3.2), (va cInt r2.1.1), (va (cLst (cPr cInt cInt)) r2.1.2), (va (cTup cInt) r3.1), (va (cOrd C) r4), (va (cLst cInt) r5), un, un, un] (.keep (.keep (.keep (.keep (.keep (.keep (.drop (.drop (.drop .nil))))))))) ?_
  refine sb_cons (s1_forI (js := [6]) (cd := cInt) O ?_)
  refine it_range E.f_range ?_
  refine Ok.xv O (xm_var 1) ?_
  obtain ⟨xs6, hx, g⟩ := good_lift (good_bind g)
  refine ⟨_, rfl, xs6, hx, ?_⟩
  refine fb_forC (fun (s7 : Unit) => ([(ow (oLst cInt) r3.2), (va cInt r2.1.1), (va (cLst (cPr cInt cInt)) r2.1.2), (va (cTup cInt) r3.1), (va (cOrd C) r4), (va (cLst cInt) r5), un, un, un] : List Bd)) (fun r Γ b => b = (s__law_case C).ret (a_source, ()) r ∧ OutOk [0] 0 Γ ((s__law_case C).outs (a_source, ()) r)) (good_bind g) (.keep (.keep (.keep (.keep (.keep (.keep (.drop (.drop (.drop .nil))))))))) (fun x8 s7 Pb hx g => ?_) (fun s7 g => ?_) (fun r g Γ b h => ⟨r, g, h⟩)
  · refine eg_name 6 O ?_
    refine @sb_wk _ _ _ _ _ [(ow (oLst cInt) r3.2), (va cInt r2.1.1), (va (cLst (cPr cInt cInt)) r2.1.2), (va (cTup cInt) r3.1), (va (cOrd C) r4), (va (cLst cInt) r5), (va cInt x8), un, un] (.keep (.keep (.keep (.keep (.keep (.keep (.keep (.drop (.drop .nil))))))))) ?_
    refine sb_cons (s1_asg 7 O ?_)
    refine Ok.x O (xp_call (x := (r4, r3.1, x8, ())) O H__law_told (ap_cons (xm_var 4) (ap_cons (xm_var 3) (ap_cons (xm_var 6) am_nil))) (fun _ _ => rfl)) _ (good_imp (good_bind g) fun r9 g => ?_)
    refine @sb_wk _ _ _ _ _ [(ow (oLst cInt) r3.2), (va cInt r2.1.1), (va (cLst (cPr cInt cInt)) r2.1.2), (va (cTup cInt) r3.1), (va (cOrd C) r4), (va (cLst cInt) r5), (va cInt x8), (va (cSum (cPr (cOrd C) (cTup cInt)) (cPr cStr cD)) r9), un] (.keep (.keep (.keep (.keep (.keep (.keep (.keep (.keep (.drop .nil))))))))) ?_
    refine sb_cons (s1_if (Ok.tv O (tp_cmp (k := fun (x : Int) (y : Int) => decide (x = y)) (cmp_eq scal_int) (xm_var 1) (xm_int)) (ite_sb g (fun g => ?_) (fun g => ?_))))
    · refine @sb_wk _ _ _ _ _ [(ow (oLst cInt) r3.2), (va cInt r2.1.1), (va (cLst (cPr cInt cInt)) r2.1.2), (va (cTup cInt) r3.1), (va (cOrd C) r4), (va (cLst cInt) r5), (va cInt x8), (va (cSum (cPr (cOrd C) (cTup cInt)) (cPr cStr cD)) r9), un] (.keep (.keep (.keep (.keep (.keep (.keep (.keep (.keep (.drop .nil))))))))) ?_
      refine sb_cons (s1_if (Ok.t O (tm_cmp (k := neDO) (cmp_neDD O) ((fun P g => by (refine ev_toD (c := (cPr cStr cD)) (fun (p : (Str × PyData)) => PyData.tuple [(fun (i : Str) => PyData.str i) p.1, (fun (d : PyData) => d) p.2]) (dp_pr (f := (fun (i : Str) => PyData.str i)) (g := (fun (d : PyData) => d)) dp_str dp_id) ?_; refine Ok.x O (xm_sumR (xm_var 7)) _ (good_imp (good_bind g) fun r11 g => ?_); refine ⟨_, rfl, ?_⟩; exact g))) ((fun P g => by (refine ev_dtup ?_; refine ea_tmp ?_; refine ev_toD (c := cStr) (fun (i : Str) => PyData.str i) dp_str ?_; refine Ok.xv O (xm_str) ?_; refine ⟨_, rfl, ?_⟩; refine ea_tmp ?_; refine ev_toD (c := cInt) (fun (i : Int) => PyData.int i) dp_int ?_; refine Ok.xv O (xm_int) ?_; refine ⟨_, rfl, ?_⟩; refine ea_nil ⟨[((fun (i : Str) => PyData.str i) ("size" : Str)), ((fun (i : Int) => PyData.int i) (1 : Int))], rfl, Nat.le_of_ble_eq_true rfl, ?_⟩; exact g)))) _ (good_imp (good_bind g) fun k14 g => ite_sb g (fun g => ?_) (fun g => ?_))))
      · refine sb_cons (s1_ret ?_)
        refine Ok.xv O (xm_bool) ?_
        exact ⟨(false, r3.2), g, rfl, ⟨.inr ⟨rfl, rfl⟩, trivial⟩⟩
      · refine sb_nil ?_
        refine sb_nil ?_
        exact sb_nil ⟨(), g, (.keep (.keep (.keep (.keep (.keep (.keep (.drop (.drop (.drop .nil)))))))))⟩
    · refine @sb_wk _ _ _ _ _ [(ow (oLst cInt) r3.2), (va cInt r2.1.1), (va (cLst (cPr cInt cInt)) r2.1.2), (va (cTup cInt) r3.1), (va (cOrd C) r4), (va (cLst cInt) r5), (va cInt x8), (va (cSum (cPr (cOrd C) (cTup cInt)) (cPr cStr cD)) r9), un] (.keep (.keep (.keep (.keep (.keep (.keep (.keep (.keep (.drop .nil))))))))) ?_
      refine sb_cons (s1_if (Ok.tv O (tm_inL flat_int (xm_var 6) (xl_var 5)) (ite_sb g (fun g => ?_) (fun g => ?_))))
      · refine @sb_wk _ _ _ _ _ [(ow (oLst cInt) r3.2), (va cInt r2.1.1), (va (cLst (cPr cInt cInt)) r2.1.2), (va (cTup cInt) r3.1), (va (cOrd C) r4), (va (cLst cInt) r5), (va cInt x8), (va (cSum (cPr (cOrd C) (cTup cInt)) (cPr cStr cD)) r9), un] (.keep (.keep (.keep (.keep (.keep (.keep (.keep (.keep (.drop .nil))))))))) ?_
        refine sb_cons (s1_if (Ok.t O (tm_cmp (k := neDO) (cmp_neDD O) ((fun P g => by (refine ev_toD (c := (cPr cStr cD)) (fun (p : (Str × PyData)) => PyData.tuple [(fun (i : Str) => PyData.str i) p.1, (fun (d : PyData) => d) p.2]) (dp_pr (f := (fun (i : Str) => PyData.str i)) (g := (fun (d : PyData) => d)) dp_str dp_id) ?_; refine Ok.x O (xm_sumR (xm_var 7)) _ (good_imp (good_bind g) fun r18 g => ?_); refine ⟨_, rfl, ?_⟩; exact g))) ((fun P g => by (refine ev_dtup ?_; refine ea_tmp ?_; refine ev_toD (c := cStr) (fun (i : Str) => PyData.str i) dp_str ?_; refine Ok.xv O (xm_str) ?_; refine ⟨_, rfl, ?_⟩; refine ea_tmp ?_; refine ev_toD (c := cInt) (fun (i : Int) => PyData.int i) dp_int ?_; refine Ok.xv O (xm_var 6) ?_; refine ⟨_, rfl, ?_⟩; refine ea_nil ⟨[((fun (i : Str) => PyData.str i) ("lord" : Str)), ((fun (i : Int) => PyData.int i) x8)], rfl, Nat.le_of_ble_eq_true rfl, ?_⟩; exact g)))) _ (good_imp (good_bind g) fun k21 g => ite_sb g (fun g => ?_) (fun g => ?_))))
        · refine sb_cons (s1_ret ?_)
          refine Ok.xv O (xm_bool) ?_
          exact ⟨(false, r3.2), g, rfl, ⟨.inr ⟨rfl, rfl⟩, trivial⟩⟩
        · refine sb_nil ?_
          refine sb_nil ?_
          refine sb_nil ?_
          exact sb_nil ⟨(), g, (.keep (.keep (.keep (.keep (.keep (.keep (.drop (.drop (.drop .nil)))))))))⟩
      · refine @sb_wk _ _ _ _ _ [(ow (oLst cInt) r3.2), (va cInt r2.1.1), (va (cLst (cPr cInt cInt)) r2.1.2), (va (cTup cInt) r3.1), (va (cOrd C) r4), (va (cLst cInt) r5), (va cInt x8), (va (cSum (cPr (cOrd C) (cTup cInt)) (cPr cStr cD)) r9), un] (.keep (.keep (.keep (.keep (.keep (.keep (.keep (.keep (.drop .nil))))))))) ?_
        refine sb_cons (s1_if (Ok.t O (tm_not (tm_val (xm_call O H__law_struck_right (am_cons (xm_sumL (xm_var 7)) (ap_cons (xm_var 1) (ap_cons (xm_var 2) (ap_cons (xm_var 3) (ap_cons (xm_var 6) am_nil))))) (fun _ _ => rfl)))) _ (good_imp (good_bind g) fun k27 g => ite_sb g (fun g => ?_) (fun g => ?_))))
        · refine sb_cons (s1_ret ?_)
          refine Ok.xv O (xm_bool) ?_
          exact ⟨(false, r3.2), g, rfl, ⟨.inr ⟨rfl, rfl⟩, trivial⟩⟩
        · refine sb_nil ?_
          refine sb_nil ?_
          refine sb_nil ?_
          exact sb_nil ⟨(), g, (.keep (.keep (.keep (.keep (.keep (.keep (.drop (.drop (.drop .nil)))))))))⟩
  · refine @sb_wk _ _ _ _ _ [(ow (oLst cInt) r3.2), (va cInt r2.1.1), (va (cLst (cPr cInt cInt)) r2.1.2), (va (cTup cInt) r3.1), (va (cOrd C) r4), (va (cLst cInt) r5), un, un, un] (.keep (.keep (.keep (.keep (.keep (.keep (.drop (.drop (.drop .nil))))))))) ?_
    refine sb_cons (s1_asg 8 O ?_)
    refine ev_callH O H__law_names (fun _ _ => rfl) ?_
    refine ea_bor 0 rfl ?_
    refine ea_tmp ?_
    refine Ok.xv O (xm_var 1) ?_
    refine ea_nil ⟨(r3.2, r2.1.1, ()), rfl, nd1, good_imp (good_bind g) fun r28 g => ?_⟩
    refine @sb_wk _ _ _ _ _ [(ow (oLst cInt) r28.2), (va cInt r2.1.1), (va (cLst (cPr cInt cInt)) r2.1.2), (va (cTup cInt) r3.1), (va (cOrd C) r4), (va (cLst cInt) r5), un, un, (va cInt r28.1)] (.keep (.keep (.keep (.keep (.keep (.keep (.drop (.drop (.keep .nil))))))))) ?_
    refine sb_cons (s1_if (Ok.t O (tm_cmp (k := neDO) (cmp_neDD O) ((fun P g => by (refine ev_toD (c := (cPr cStr cD)) (fun (p : (Str × PyData)) => PyData.tuple [(fun (i : Str) => PyData.str i) p.1, (fun (d : PyData) => d) p.2]) (dp_pr (f := (fun (i : Str) => PyData.str i)) (g := (fun (d : PyData) => d)) dp_str dp_id) ?_; refine ev_sumR (c := (cPr (cOrd C) (cTup cInt))) (d := (cPr cStr cD)) ?_; refine Ok.x O (xp_call (x := (r4, r3.1, r28.1, ())) O H__law_told (ap_cons (xm_var 4) (ap_cons (xm_var 3) (ap_cons (xm_var 8) am_nil))) (fun _ _ => rfl)) _ (good_imp (good_bind g) fun r29 g => ?_); obtain ⟨z30, hz, g⟩ := good_lift (good_bind g); refine ⟨_, rfl, z30, hz, ?_⟩; refine ⟨_, rfl, ?_⟩; exact g))) ((fun P g => by (refine ev_dtup ?_; refine ea_tmp ?_; refine ev_toD (c := cStr) (fun (i : Str) => PyData.str i) dp_str ?_; refine Ok.xv O (xm_str) ?_; refine ⟨_, rfl, ?_⟩; refine ea_tmp ?_; refine ev_toD (c := cInt) (fun (i : Int) => PyData.int i) dp_int ?_; refine Ok.xv O (xm_var 8) ?_; refine ⟨_, rfl, ?_⟩; refine ea_nil ⟨[((fun (i : Str) => PyData.str i) ("place" : Str)), ((fun (i : Int) => PyData.int i) r28.1)], rfl, Nat.le_of_ble_eq_true rfl, ?_⟩; exact g)))) _ (good_imp (good_bind g) fun k39 g => ite_sb g (fun g => ?_) (fun g => ?_))))
    · refine sb_cons (s1_ret ?_)
      refine Ok.xv O (xm_bool) ?_
      exact ⟨(false, r28.2), g, rfl, ⟨.inr ⟨rfl, rfl⟩, trivial⟩⟩
    · refine sb_nil ?_
      refine sb_cons (s1_ret ?_)
      refine Ok.x O (xm_cmp (k := eqDO) (cmp_eqDD O) ((fun P g => by (refine ev_toD (c := (cPr cStr cD)) (fun (p : (Str × PyData)) => PyData.tuple [(fun (i : Str) => PyData.str i) p.1, (fun (d : PyData) => d) p.2]) (dp_pr (f := (fun (i : Str) => PyData.str i)) (g := (fun (d : PyData) => d)) dp_str dp_id) ?_; refine ev_sumR (c := (cPr (cOrd C) (cTup cInt))) (d := (cPr cStr cD)) ?_; refine ev_callH O H__law_told (fun _ _ => rfl) ?_; refine ea_tmp ?_; refine Ok.xv O (xm_var 4) ?_; refine ea_tmp ?_; refine ev_catT (c := cInt) ?_; refine Ok.xv O (xm_var 3) ?_; refine ⟨_, rfl, ?_⟩; refine ev_tup (c := cInt) ?_; refine ea_tmp ?_; refine Ok.xv O (xp_neg (xm_int)) ?_; refine ea_nil ⟨[(-(1 : Int))], rfl, Nat.le_of_ble_eq_true rfl, ?_⟩; obtain ⟨z33, hz, g⟩ := good_lift (good_bind g); refine ⟨_, rfl, z33, hz, ?_⟩; refine ea_tmp ?_; refine Ok.xv O (xm_var 8) ?_; refine ea_nil ⟨(r4, z33, r28.1, ()), rfl, nd0, good_imp (good_bind g) fun r34 g => ?_⟩; obtain ⟨z35, hz, g⟩ := good_lift (good_bind g); refine ⟨_, rfl, z35, hz, ?_⟩; refine ⟨_, rfl, ?_⟩; exact g))) ((fun P g => by (refine ev_dtup ?_; refine ea_tmp ?_; refine ev_toD (c := cStr) (fun (i : Str) => PyData.str i) dp_str ?_; refine Ok.xv O (xm_str) ?_; refine ⟨_, rfl, ?_⟩; refine ea_tmp ?_; refine ev_toD (c := cInt) (fun (i : Int) => PyData.int i) dp_int ?_; refine Ok.xv O (xp_add (xm_var 1) (xm_int)) ?_; refine ⟨_, rfl, ?_⟩; refine ea_nil ⟨[((fun (i : Str) => PyData.str i) ("unlike" : Str)), ((fun (i : Int) => PyData.int i) (r2.1.1 + (1 : Int)))], rfl, Nat.le_of_ble_eq_true rfl, ?_⟩; exact g)))) _ (good_imp (good_bind g) fun r38 g => ?_)
      exact ⟨(r38, r28.2), g, rfl, ⟨.inr ⟨rfl, rfl⟩, trivial⟩⟩
theorem ok__law_case {P : Program} {w : World} {K : Fg} {mg : Str → Option Value} {base : Heap} {C : Addr} (E : Fcts P w K mg base C) (H__law_house : Has P w K mg base 3 "_law_house" ["source", "n"] (s__law_house C)) (H__law_lords : Has P w K mg base 2 "_law_lords" ["pairs", "house"] (s__law_lords C)) (H__law_names : Has P w K mg base 3 "_law_names" ["source", "n"] (s__law_names C)) (H__law_order : Has P w K mg base 3 "_law_order" ["source", "n"] (s__law_order C)) (H__law_places : Has P w K mg base 3 "_law_places" ["source"] (s__law_places C)) (H__law_struck_right : Has P w K mg base 2 "_law_struck_right" ["told", "n", "pairs", "house", "z"] (s__law_struck_right C)) (H__law_told : Has P w K mg base 8 "_law_told" ["order", "house", "z"] (s__law_told C)) (H_made_order : Has P w K mg base 5 "made_order" ["n", "pairs"] (s_made_order C)) : Has P w K mg base 9 "_law_case" ["source"] (s__law_case C) := by
  obtain ⟨f, fd, hm, F⟩ := E.d__law_case
  refine ⟨f, fd, hm, bd__law_case E H__law_house H__law_lords H__law_names H__law_order H__law_places H__law_struck_right H__law_told H_made_order F, F.bindsN (fun _ _ _ _ _ _ us hl => match us, hl with | [_], _ => rfl), F.kp⟩
end T
set_option maxHeartbeats 400000
namespace T
open PySem PySem.Spec PyProof.Rows L2
theorem bd__law_pool {P : Program} {w : World} {K : Fg} {mg : Str → Option Value} {base : Heap} {C : Addr} (E : Fcts P w K mg base C) {f : Addr} {fd : FuncData} (F : FunD K "_law_pool" "_law_pool" (defArgs (Hd.top 35)) (defBody (Hd.top 35)) (defScope (Hd.top 35)) [] [] f fd) : FnOk P w K mg base (L2.CX P w) 1 f fd ["script", "k"] (spOf K mg (s__law_pool C)) := by
  refine fn_mk [] F sc__law_pool (fun _ => rfl) (fun _ _ => rfl) rfl ?_
  intro cdv A outer s0 H E0 F0 Sf st0 ⟨a_script, a_k, _⟩ Pr Zr O g
  change good (m__law_pool a_script a_k) Pr Zr at g
  unfold m__law_pool at g
  refine @sb_wk _ _ _ _ _ [(va (cLst cInt) a_script), (va cInt a_k), un, un, un] (Wk.refl _) ?_
  refine sb_cons (s1_asg 2 O ?_)
  refine Ok.xv O (xm_int) ?_
  refine sb_cutg (fun (s7 : Int) => ([(va (cLst cInt) a_script), (va cInt a_k), (va cInt s7), un, un] : List Bd)) g (fun g => ?_) (fun s7 g => ?_)
  · refine s1_if (Ok.tv O (tp_cmp (k := fun (x : Int) (y : Int) => decide (x < y)) cmp_lt (xm_var 1) (xm_lenL E.f_len ((xl_var 0)))) (ite_sb g (fun g => ?_) (fun g => ?_)))
    · refine sb_cons (s1_asg 2 O ?_)
      refine Ok.x O (xm_itemL (xl_var 0) (xm_var 1)) _ (good_imp (good_bind g) fun r10 g => ?_)
      exact sb_nil ⟨r10, g, (.keep (.keep (.keep (.drop (.drop .nil)))))⟩
    · refine sb_cons (s1_if (Ok.tv O ((fun P g => et_truL (Ok.lv O (xl_var 0) g))) (ite_sb g (fun g => ?_) (fun g => ?_))))
      · refine sb_cons (s1_asg 2 O ?_)
        refine Ok.x O (xm_itemL (xl_var 0) (xm_int)) _ (good_imp (good_bind g) fun r13 g => ?_)
        refine sb_nil ?_
        exact sb_nil ⟨r13, g, (.keep (.keep (.keep (.drop (.drop .nil)))))⟩
      · refine sb_nil ?_
        exact sb_nil ⟨(0 : Int), g, (.keep (.keep (.keep (.drop (.drop .nil)))))⟩
  · refine sb_cons (s1_asg 3 O ?_)
    refine Ok.xv O (xm_max2 O E.f_max (xp_intI E.f_int (xm_var 2)) (xp_intI E.f_int (xp_sub (xp_neg (xm_int)) (xm_var 2)))) ?_
    refine sb_cons (s1_asg 4 O ?_)
    refine Ok.x O (xm_mod (xm_intI E.f_int (xm_mul (xm_add (xm_add (xm_add (xp_mod (xp_intI E.f_int (xm_var 3)) (xm_int)) (xm_mul (xp_mulL (xm_int) (xm_var 1)) (xm_var 1))) (xp_mulL (xm_int) (xm_var 1))) (xm_int)) (xm_int))) (xm_int)) _ (good_imp (good_bind g) fun r29 g => ?_)
    refine sb_cons (s1_ret ?_)
    refine ev_lst (c := cInt) ?_
    refine ea_tmp ?_
    refine Ok.x O (xm_mul (xm_var 3) (xp_intB E.f_int (xp_cmp (k := fun (x : Int) (y : Int) => decide (y ≤ x)) cmp_ge (xm_var 3) (xp_pow (xm_int) (xm_int))))) _ (good_imp (good_bind g) fun r32 g => ?_)
    refine ea_tmp ?_
    refine Ok.xv O (xm_var 4) ?_
    refine ea_nil ⟨[r32, r29], rfl, Nat.le_of_ble_eq_true rfl, ?_⟩
    exact ⟨[r32, r29], g, rfl, ⟨.inl rfl, .inl rfl, trivial⟩⟩
theorem ok__law_pool {P : Program} {w : World} {K : Fg} {mg : Str → Option Value} {base : Heap} {C : Addr} (E : Fcts P w K mg base C) : Has P w K mg base 1 "_law_pool" ["script", "k"] (s__law_pool C) := by
  obtain ⟨f, fd, hm, F⟩ := E.d__law_pool
  refine ⟨f, fd, hm, bd__law_pool E F, F.bindsN (fun _ _ _ _ _ _ us hl => match us, hl with | [_, _], _ => rfl), F.kp⟩
end T
set_option maxHeartbeats 400000
namespace T
open PySem PySem.Spec PyProof.Rows L2
theorem bd_law {P : Program} {w : World} {K : Fg} {mg : Str → Option Value} {base : Heap} {C : Addr} (E : Fcts P w K mg base C) (H__law_case : Has P w K mg base 9 "_law_case" ["source"] (s__law_case C)) (H__law_pool : Has P w K mg base 1 "_law_pool" ["script", "k"] (s__law_pool C)) {f : Addr} {fd : FuncData} (F : FunD K "law" "law" (defArgs (Hd.top 50)) (defBody (Hd.top 50)) (defScope (Hd.top 50)) [] [] f fd) : FnOk P w K mg base (L2.CX P w) 10 f fd ["script"] (spOf K mg (s_law C)) := by
  refine fn_mk [] F sc_law (fun _ => rfl) (fun _ _ => rfl) rfl ?_
  intro cdv A outer s0 H E0 F0 Sf st0 ⟨a_script, _⟩ Pr Zr O g
  change good (m_law a_script) Pr Zr at g
  unfold m_law at g
  refine @sb_wk _ _ _ _ _ [(va (cLst cInt) a_script), un] (Wk.refl _) ?_
  refine sb_cons (s1_forI (js := [1]) (cd := cInt) O ?_)
  refine it_range E.f_range ?_
  refine Ok.xv O (xm_max2 O E.f_max (xm_int) (xm_min2 O E.f_min (xm_lenL E.f_len ((xl_var 0))) (xm_int))) ?_
  obtain ⟨xs1, hx, g⟩ := good_lift (good_bind g)
  refine ⟨_, rfl, xs1, hx, ?_⟩
  refine fb_forC (fun (s6 : Unit) => ([(va (cLst cInt) a_script), un] : List Bd)) (fun r Γ b => b = (s_law C).ret (a_script, ()) r ∧ OutOk [] 0 Γ ((s_law C).outs (a_script, ()) r)) (good_bind g) (.keep (.drop .nil)) (fun x7 s6 Pb hx g => ?_) (fun s6 g => ?_) (fun r g Γ b h => ⟨r, g, h⟩)
  · refine eg_name 1 O ?_
    refine sb_cons (s1_if (Ok.t O (tm_not (tm_val ((fun P g => by (refine ev_callH O H__law_case (fun _ _ => rfl) ?_; refine ea_tmp ?_; refine ev_callH O H__law_pool (fun _ _ => rfl) ?_; refine ea_tmp ?_; refine Ok.xv O (xm_var 0) ?_; refine ea_tmp ?_; refine Ok.xv O (xm_var 1) ?_; refine ea_nil ⟨(a_script, x7, ()), rfl, nd0, good_imp (good_bind g) fun r8 g => ?_⟩; refine ea_nil ⟨(r8, ()), rfl, nd0, good_imp (good_bind g) fun r9 g => ?_⟩; exact g))))) _ (good_imp (good_bind g) fun k11 g => ite_sb g (fun g => ?_) (fun g => ?_))))
    · refine sb_cons (s1_ret ?_)
      refine Ok.xv O (xm_bool) ?_
      exact ⟨false, g, rfl, ⟨.inl rfl, trivial⟩⟩
    · refine sb_nil ?_
      exact sb_nil ⟨(), g, (.keep (.drop .nil))⟩
  · refine sb_cons (s1_ret ?_)
    refine Ok.xv O (xm_bool) ?_
    exact ⟨true, g, rfl, ⟨.inl rfl, trivial⟩⟩
theorem ok_law {P : Program} {w : World} {K : Fg} {mg : Str → Option Value} {base : Heap} {C : Addr} (E : Fcts P w K mg base C) (H__law_case : Has P w K mg base 9 "_law_case" ["source"] (s__law_case C)) (H__law_pool : Has P w K mg base 1 "_law_pool" ["script", "k"] (s__law_pool C)) : Has P w K mg base 10 "law" ["script"] (s_law C) := by
  obtain ⟨f, fd, hm, F⟩ := E.d_law
  refine ⟨f, fd, hm, bd_law E H__law_case H__law_pool F, F.bindsN (fun _ _ _ _ _ _ us hl => match us, hl with | [_], _ => rfl), F.kp⟩
end T
set_option maxHeartbeats 4000000
-- PB
namespace T
open PySem PySem.Spec PyProof.Rows L2

/-! ## plain reading of mirrors -/
theorem rb_ok {α β : Type} {x : α} {k : α → Res β} : (Res.ok x >>= k) = k x := rfl
theorem rb_as {α β γ : Type} {m : Res α} {f : α → Res β} {g : β → Res γ} : ((m >>= f) >>= g) = (m >>= fun x => f x >>= g) := by
  cases m <;> rfl
def okP {α : Type} (m : Res α) (P : α → Prop) : Prop := ∃ x, m = .ok x ∧ P x
section
variable {α β S ρ : Type} {m : Res α} {P P' : α → Prop}
theorem okP.mono (h : okP m P) (q : ∀ x, P x → P' x) : okP m P' := by
  obtain ⟨x, e, p⟩ := h
  exact ⟨x, e, q x p⟩
theorem okP.bd {k : α → Res β} {Q : β → Prop} (h : okP m (fun x => okP (k x) Q)) : okP (m >>= k) Q := by
  obtain ⟨x, e, y, e2, q⟩ := h
  exact ⟨y, by rw [e]; exact e2, q⟩
theorem okP.then {k : α → Res β} {Q : β → Prop} (h : okP m P) (q : ∀ x, P x → okP (k x) Q) : okP (m >>= k) Q := (h.mono q).bd
theorem okP.ok {x : α} (h : P x) : okP (.ok x) P := ⟨x, rfl, h⟩
theorem okP.lf {o : Option α} {x : α} (h : o = some x) (p : P x) : okP (lift o) P := ⟨x, by rw [h]; rfl, p⟩
theorem okP.lift {o : Option α} (h : ∃ x, o = some x ∧ P x) : okP (T.lift o) P := by
  obtain ⟨x, e, p⟩ := h
  exact okP.lf e p
theorem okP.lb {β : Type} {o : Option α} {x : α} {k : α → Res β} {Q : β → Prop} (h : o = some x) (q : okP (k x) Q) : okP (T.lift o >>= k) Q := by
  rw [h]
  exact q
theorem okP.ite {c : Bool} {a b : Res α} (h1 : c = true → okP a P) (h2 : c = false → okP b P) : okP (if c = true then a else b) P := by
  cases c with
  | true =>
    rw [if_pos rfl]
    exact h1 rfl
  | false =>
    rw [if_neg Bool.false_ne_true]
    exact h2 rfl
theorem okP.eq {x : α} (h : okP m (fun y => y = x)) : m = .ok x := by
  obtain ⟨y, e, p⟩ := h
  rw [e, p]
theorem forS_go {f : α → S → Res S} {xs : List α} {Pk : S → Prop} (Inv : Nat → S → Prop) (hs : ∀ i x s, xs[i]? = some x → Inv i s → okP (f x s) (Inv (i + 1))) (hn : ∀ s, Inv xs.length s → Pk s) : ∀ (d i : Nat) (s : S), xs.length - i = d → i ≤ xs.length → Inv i s → okP (forS (xs.drop i) s f) Pk
  | 0, i, s, hd, hi, h => by
    have e : i = xs.length := by omega
    subst e
    rw [List.drop_length]
    exact okP.ok (hn s h)
  | d + 1, i, s, hd, hi, h => by
    have hlt : i < xs.length := by omega
    rw [drop_cons (List.getElem?_eq_getElem hlt)]
    exact (hs i _ s (List.getElem?_eq_getElem hlt) h).then fun s' h' => forS_go Inv hs hn d (i + 1) s' (by omega) hlt h'
theorem forS_ok {f : α → S → Res S} {xs : List α} {s0 : S} {Pk : S → Prop} (Inv : Nat → S → Prop) (h0 : Inv 0 s0) (hs : ∀ i x s, xs[i]? = some x → Inv i s → okP (f x s) (Inv (i + 1))) (hn : ∀ s, Inv xs.length s → Pk s) : okP (forS xs s0 f) Pk := by
  have := forS_go Inv hs hn xs.length 0 s0 rfl (Nat.zero_le _) h0
  rwa [List.drop_zero] at this
/-- a loop that may return -/
theorem forC_go {f : α → S → Res (Ctl S ρ)} {xs : List α} {Pk : Lr S ρ → Prop} (Inv : Nat → S → Prop) (hs : ∀ i x s, xs[i]? = some x → Inv i s → okP (f x s) (fun c => (∃ s', c = .nx s' ∧ Inv (i + 1) s') ∨ (∃ s', c = .bk s' ∧ Pk (.done s')) ∨ ∃ r, c = .rt r ∧ Pk (.rt r))) (hn : ∀ s, Inv xs.length s → Pk (.done s)) :
    ∀ (d i : Nat) (s : S), xs.length - i = d → i ≤ xs.length → Inv i s → okP (forC (xs.drop i) s f) Pk
  | 0, i, s, hd, hi, h => by
    have e : i = xs.length := by omega
    subst e
    rw [List.drop_length]
    exact okP.ok (hn s h)
  | d + 1, i, s, hd, hi, h => by
    have hlt : i < xs.length := by omega
    rw [drop_cons (List.getElem?_eq_getElem hlt)]
    refine (hs i _ s (List.getElem?_eq_getElem hlt) h).then fun c hc => ?_
    rcases hc with ⟨s', rfl, h'⟩ | ⟨s', rfl, h'⟩ | ⟨r, rfl, h'⟩
    · exact forC_go Inv hs hn d (i + 1) s' (by omega) hlt h'
    · exact okP.ok h'
    · exact okP.ok h'
theorem forC_ok {f : α → S → Res (Ctl S ρ)} {xs : List α} {s0 : S} {Pk : Lr S ρ → Prop} (Inv : Nat → S → Prop) (h0 : Inv 0 s0) (hs : ∀ i x s, xs[i]? = some x → Inv i s → okP (f x s) (fun c => (∃ s', c = .nx s' ∧ Inv (i + 1) s') ∨ (∃ s', c = .bk s' ∧ Pk (.done s')) ∨ ∃ r, c = .rt r ∧ Pk (.rt r))) (hn : ∀ s, Inv xs.length s → Pk (.done s)) :
    okP (forC xs s0 f) Pk := by
  have := forC_go Inv hs hn xs.length 0 s0 rfl (Nat.zero_le _) h0
  rwa [List.drop_zero] at this
theorem noX_ok {m : Res α} {P : α → Prop} (h : okP m P) : okP (noX m) P := by
  obtain ⟨x, e, p⟩ := h
  exact ⟨x, by rw [e]; rfl, p⟩
def addO (acc : List β) (o : Option β) : List β := match o with
  | some y => acc ++ [y]
  | none => acc
theorem compF_go {f : α → S → Res (Option β × S)} {xs : List α} {Pk : List β × S → Prop} (Inv : Nat → List β → S → Prop) (hx : xs.length ≤ 16777216) (hs : ∀ i x acc s, xs[i]? = some x → Inv i acc s → okP (f x s) (fun p => Inv (i + 1) (addO acc p.1) p.2)) (hn : ∀ acc s, Inv xs.length acc s → Pk (acc, s)) :
    ∀ (d i : Nat) (acc : List β) (s : S), xs.length - i = d → i ≤ xs.length → acc.length ≤ i → Inv i acc s → okP (compF (xs.drop i) s acc f) Pk
  | 0, i, acc, s, hd, hi, ha, h => by
    have e : i = xs.length := by omega
    subst e
    rw [List.drop_length]
    exact okP.ok (hn acc s h)
  | d + 1, i, acc, s, hd, hi, ha, h => by
    have hlt : i < xs.length := by omega
    rw [drop_cons (List.getElem?_eq_getElem hlt)]
    unfold compF
    rw [if_pos (by omega)]
    refine (noX_ok (hs i _ acc s (List.getElem?_eq_getElem hlt) h)).then fun p h' => ?_
    refine compF_go Inv hx hs hn d (i + 1) (addO acc p.1) p.2 (by omega) hlt ?_ h'
    unfold addO
    split
    · rw [List.length_append]
      simp
      omega
    · omega
theorem compF_ok {f : α → S → Res (Option β × S)} {xs : List α} {s0 : S} {Pk : List β × S → Prop} (Inv : Nat → List β → S → Prop) (hx : xs.length ≤ 16777216) (h0 : Inv 0 [] s0) (hs : ∀ i x acc s, xs[i]? = some x → Inv i acc s → okP (f x s) (fun p => Inv (i + 1) (addO acc p.1) p.2)) (hn : ∀ acc s, Inv xs.length acc s → Pk (acc, s)) :
    okP (compF xs s0 [] f) Pk := by
  have := compF_go Inv hx hs hn xs.length 0 [] s0 rfl (Nat.zero_le _) (Nat.zero_le _) h0
  rwa [List.drop_zero] at this
theorem compF_pg {f : α → S → Res (Option β × S)} {g : α → Option β} : ∀ (xs : List α) (s : S) (acc : List β), acc.length + xs.length ≤ 16777216 → (∀ x ∈ xs, ∀ s, f x s = .ok (g x, s)) → compF xs s acc f = .ok (acc ++ xs.filterMap g, s)
  | [], s, acc, _, _ => by
    rw [List.filterMap_nil, List.append_nil]
    rfl
  | x :: xs, s, acc, hl, h => by
    unfold compF
    rw [List.length_cons] at hl
    rw [if_pos (by omega), h x (List.mem_cons_self ..) s]
    have ih := fun a ha => compF_pg (f := f) (g := g) xs s a ha fun y hy => h y (List.mem_cons_of_mem _ hy)
    cases e : g x with
    | none =>
      rw [List.filterMap_cons, e]
      exact ih acc (by omega)
    | some y =>
      rw [List.filterMap_cons, e]
      refine (ih (acc ++ [y]) (by rw [List.length_append]; simp; omega)).trans ?_
      rw [List.append_assoc]
      rfl
/-- a comprehension without a state -/
theorem compF_p {f : α → S → Res (Option β × S)} (g : α → Option β) {xs : List α} {s : S} (hx : xs.length ≤ 16777216) (h : ∀ x ∈ xs, ∀ s, f x s = .ok (g x, s)) : compF xs s [] f = .ok (xs.filterMap g, s) := by
  have := compF_pg (f := f) (g := g) xs s [] (by simpa using hx) h
  simpa using this
/-! ### places in lists -/
theorem atI_ok {xs : List α} {i : Int} (h0 : 0 ≤ i) {x : α} (h : xs[i.toNat]? = some x) : atI xs i = some x := by
  have hl := (List.getElem?_eq_some_iff.mp h).1
  have := atI_nat h
  rwa [Int.toNat_of_nonneg h0] at this
theorem atI_n {xs : List α} {j : Nat} {v : α} (h : xs[j]? = some v) : atI xs (j : Int) = some v := atI_nat h
theorem atI_in {xs : List α} {i : Int} (h0 : 0 ≤ i) (h1 : i < xs.length) : ∃ x, atI xs i = some x ∧ xs[i.toNat]? = some x := by
  have hl : i.toNat < xs.length := by omega
  exact ⟨xs[i.toNat], atI_ok h0 (List.getElem?_eq_getElem hl), List.getElem?_eq_getElem hl⟩
theorem ixN_in {n : Nat} {i : Int} (h0 : 0 ≤ i) (h1 : i < n) : ixN n i = some i.toNat := by
  unfold ixN
  rw [if_pos h0, if_pos h1]
theorem setI_in {xs : List α} {i : Int} {y : α} (h0 : 0 ≤ i) (h1 : i < xs.length) : setI xs i y = some (xs.set i.toNat y) := by
  unfold setI
  rw [ixN_in h0 h1]
  rfl
theorem appO_in {xs : List α} {y : α} (h : xs.length < 16777216) : appO xs y = some (xs ++ [y]) := if_pos h
theorem popI_in {xs : List α} {i : Int} (h0 : 0 ≤ i) (h1 : i < xs.length) (h2 : xs.length < 16777216) : ∃ y, xs[i.toNat]? = some y ∧ popI xs i = some (y, xs.eraseIdx i.toNat) := by
  have hl : i.toNat < xs.length := by omega
  refine ⟨xs[i.toNat], List.getElem?_eq_getElem hl, ?_⟩
  unfold popI popO
  rw [if_pos (by omega), ixN_in h0 h1, Option.bind_some, List.getElem?_eq_getElem hl]
  rfl
theorem repO_one {x : α} {k : Int} (h0 : 0 ≤ k) (h1 : k ≤ 1000) : repO [x] k = some (List.replicate k.toNat x) := by
  unfold repO
  rw [if_pos (by simp; omega)]
  congr 1
  generalize k.toNat = n
  induction n with
  | zero => rfl
  | succ n ih => rw [List.replicate_succ, List.flatten_cons, ih]; rfl
theorem rngO_in {lo hi : Int} (h : -1000000 ≤ lo) (h2 : lo ≤ 1000000) (h3 : -1000000 ≤ hi) (h4 : hi ≤ 1000000) : rngO lo hi = some (rng lo hi) := by
  unfold rngO
  rw [if_pos (show rngOk lo hi = true from decide_eq_true (by omega))]
theorem rng_get {lo hi : Int} {i : Nat} {x : Int} (h : (rng lo hi)[i]? = some x) : x = lo + i ∧ x < hi := by
  have hl := (List.getElem?_eq_some_iff.mp h).1
  rw [rng_len] at hl
  rw [rng_at hl] at h
  cases h
  exact ⟨rfl, by omega⟩
theorem rng_mem {lo hi x : Int} : x ∈ rng lo hi ↔ lo ≤ x ∧ x < hi := by
  unfold rng
  rw [List.mem_map]
  constructor
  · rintro ⟨i, hi, rfl⟩
    rw [List.mem_range] at hi
    omega
  · rintro ⟨h1, h2⟩
    exact ⟨(x - lo).toNat, by rw [List.mem_range]; omega, by omega⟩
theorem rng_nodup {lo hi : Int} : (rng lo hi).Nodup := by
  unfold rng
  rw [List.nodup_iff_pairwise_ne, List.pairwise_map]
  exact (List.nodup_iff_pairwise_ne.mp List.nodup_range).imp fun {a b} h e => h (by omega)
theorem modO_in {i j : Int} (h : 0 < j) : modO i j = some (i % j) := if_pos h
theorem divO_in {i j : Int} (h : 0 < j) (h2 : j < 1000000) : divO i j = some (i / j) := by
  refine if_pos ⟨h, ?_⟩
  have : j.natAbs < 2 ^ 9000 := Nat.lt_of_lt_of_le (show j.natAbs < 1000000 by omega) (by
    have : (1000000 : Nat) ≤ 2 ^ 20 := by decide
    exact Nat.le_trans this (Nat.pow_le_pow_right (by decide) (by decide)))
  exact (Nat.log2_lt (by omega)).mpr this
theorem mulO_sr {i j : Int} (h : j.natAbs < 2 ^ 64) : mulO i j = some (i * j) := mulO_r h
theorem lift_some {x : α} : T.lift (some x) = Res.ok x := rfl
theorem memb_t [DecidableEq α] {x : α} {xs : List α} (h : x ∈ xs) : memb x xs = true := decide_eq_true h
theorem memb_of [DecidableEq α] {x : α} {xs : List α} (h : memb x xs = true) : x ∈ xs := of_decide_eq_true h
theorem memb_f [DecidableEq α] {x : α} {xs : List α} (h : x ∉ xs) : memb x xs = false := decide_eq_false h
theorem memb_no [DecidableEq α] {x : α} {xs : List α} (h : memb x xs = false) : x ∉ xs := of_decide_eq_false h
end
end T

-- P1t
namespace T
open PySem PySem.Spec PyProof.Rows L2

/-! ## the law's draws -/
theorem two_get {s : List Int} (h : s.length = 2) : ∃ a b, s = [a, b] := by
  match s, h with
  | [a, b], _ => exact ⟨a, b, rfl⟩
theorem take_ok {s : List Int} {t : Int} (hs : s.length = 2) (h0 : 0 < t) (h1 : t < 1000000) : okP (m__law_take s t) (fun r => 0 ≤ r.1 ∧ r.1 < t ∧ r.2.length = 2) := by
  obtain ⟨a, b, rfl⟩ := two_get hs
  unfold m__law_take
  simp only [rb_ok, rb_as]
  have e0 : atI [a, b] 0 = some a := atI_ok (by decide) rfl
  have e1 : atI [a, b] 1 = some b := atI_ok (by decide) rfl
  refine okP.lb e0 (okP.ite (fun hc => ?_) (fun hc => ?_))
  · refine okP.lb e0 (okP.lb (modO_in h0) (okP.lb e0 (okP.lb (divO_in h0 h1) (okP.lb (setI_in (by decide) (by simp)) (okP.ok ⟨?_, ?_, ?_⟩)))))
    · exact Int.emod_nonneg _ (by omega)
    · exact Int.emod_lt_of_pos _ h0
    · simp
  · have hb0 : 0 ≤ (b * 39373 + 7) % 2147483647 := Int.emod_nonneg _ (by decide)
    have hb1 : (b * 39373 + 7) % 2147483647 < 2147483647 := Int.emod_lt_of_pos _ (by decide)
    refine okP.lb e1 (okP.lb (mulO_sr (by decide)) (okP.lb (modO_in (by decide)) (okP.lb (setI_in (by decide) (by simp)) ?_)))
    generalize (b * 39373 + 7) % 2147483647 = c at hb0 hb1
    have e2 : atI ([a, b].set (Int.toNat 1) c) 1 = some c := atI_ok (by decide) rfl
    refine okP.lb e2 (okP.lb e2 (okP.lb (mulO_sr (by omega)) (okP.lb (modO_in (by decide)) (okP.lb (divO_in (by decide) (by decide)) (okP.lb (modO_in h0) (okP.ok ⟨?_, ?_, ?_⟩))))))
    · exact Int.emod_nonneg _ (by omega)
    · exact Int.emod_lt_of_pos _ h0
    · simp
end T

-- P1
namespace T
open PySem PySem.Spec PyProof.Rows L2
/-- all places, each once -/
def IsN (n : Int) (ns : List Int) : Prop := (ns.length : Int) = n ∧ ns.Nodup ∧ ∀ x ∈ ns, 0 ≤ x ∧ x < n
theorem perm_pop {α : Type} : ∀ {l : List α} {j : Nat} {y : α}, l[j]? = some y → l.Perm (y :: l.eraseIdx j)
  | x :: l, 0, y, h => by
    cases h
    exact List.Perm.refl _
  | x :: l, j + 1, y, h => ((perm_pop (l := l) (j := j) h).cons x).trans (List.Perm.swap y x _)
theorem shuffled_ok {s : List Int} {n : Int} (hs : s.length = 2) (h0 : 0 ≤ n) (h1 : n ≤ 1000) : okP (m__law_shuffled s n) (fun r => IsN n r.1 ∧ r.2.length = 2) := by
  unfold m__law_shuffled
  refine okP.lb (rngO_in (by decide) (by decide) (by omega) (by omega)) ?_
  have hl : (rng 0 n).length = n.toNat := by rw [rng_len]; omega
  rw [compF_p (g := some) (by omega) (fun _ _ _ => rfl), rb_ok]
  rw [show List.filterMap some (rng 0 n) = rng 0 n from List.filterMap_some]
  refine okP.lb (rngO_in (by decide) (by decide) (by omega) (by omega)) ?_
  refine (forS_ok (Pk := fun s => s.1.length = 2 ∧ (rng 0 n).Perm (s.2.2 ++ s.2.1) ∧ s.2.2.length = n.toNat) (fun i s => s.1.length = 2 ∧ (rng 0 n).Perm (s.2.2 ++ s.2.1) ∧ s.2.2.length = i ∧ s.2.1.length = n.toNat - i) ⟨hs, by simp, rfl, by simpa using hl⟩ ?hs (fun st ⟨i1, i2, i3, i4⟩ => ⟨i1, i2, by rw [i3, hl]⟩)).then fun st ⟨i1, i2, i3⟩ => ?_
  case hs =>
    intro i x st hx ⟨i1, i2, i3, i4⟩
    have hi := (List.getElem?_eq_some_iff.mp hx).1
    rw [hl] at hi
    refine (take_ok i1 (by omega) (by omega)).then fun r ⟨r1, r2, r3⟩ => ?_
    obtain ⟨y, hy, hp⟩ := popI_in r1 r2 (by omega)
    refine okP.lb hp (okP.lb (appO_in (by omega)) (okP.ok ⟨r3, ?_, ?_, ?_⟩))
    · refine i2.trans ?_
      show (st.2.2 ++ st.2.1).Perm ((st.2.2 ++ [y]) ++ st.2.1.eraseIdx r.1.toNat)
      rw [List.append_assoc]
      exact (perm_pop hy).append_left _
    · show (st.2.2 ++ [y]).length = i + 1
      rw [List.length_append, i3]
      rfl
    · show (st.2.1.eraseIdx r.1.toNat).length = n.toNat - (i + 1)
      rw [List.length_eraseIdx_of_lt (by omega)]
      omega
  · have e : st.2.1 = [] := by
      have := i2.length_eq
      rw [List.length_append, hl, i3] at this
      exact List.length_eq_zero_iff.mp (by omega)
    rw [e, List.append_nil] at i2
    refine okP.ok ⟨⟨?_, i2.nodup_iff.mp rng_nodup, fun x hx => rng_mem.mp (i2.mem_iff.mpr hx)⟩, i1⟩
    rw [i3]
    omega
end T

-- P2
namespace T
open PySem PySem.Spec PyProof.Rows L2

theorem nodup_len {α : Type} [DecidableEq α] : ∀ {l m : List α}, l.Nodup → (∀ x ∈ l, x ∈ m) → l.length ≤ m.length
  | [], _, _, _ => Nat.zero_le _
  | x :: l, m, nd, h => by
    have hx := h x (List.mem_cons_self ..)
    have nd' := List.nodup_cons.mp nd
    have ih := nodup_len (l := l) (m := m.erase x) nd'.2 fun y hy => (List.mem_erase_of_ne (fun e => nd'.1 (by rw [← e]; exact hy))).mpr (h y (List.mem_cons_of_mem _ hy))
    rw [List.length_erase_of_mem hx] at ih
    have : 0 < m.length := List.length_pos_of_mem hx
    rw [List.length_cons]
    omega
def InR (n : Int) (p : Int × Int) : Prop := (0 ≤ p.1 ∧ p.1 < n) ∧ 0 ≤ p.2 ∧ p.2 < n
theorem sq_len {n : Int} (hn : n ≤ 16) {l : List (Int × Int)} (nd : l.Nodup) (h : ∀ p ∈ l, InR n p) : l.length ≤ 256 := by
  have e : (l.map fun p => p.1 * 16 + p.2).length ≤ (rng 0 256).length := nodup_len (by
    rw [List.nodup_iff_pairwise_ne, List.pairwise_map]
    refine (List.nodup_iff_pairwise_ne.mp nd).imp_of_mem fun {a b} ha hb ne e => ne ?_
    obtain ⟨⟨a1, a2⟩, a3, a4⟩ := h a ha
    obtain ⟨⟨b1, b2⟩, b3, b4⟩ := h b hb
    exact Prod.ext (by omega) (by omega)) (fun x hx => by
    obtain ⟨p, hp, rfl⟩ := List.mem_map.mp hx
    obtain ⟨⟨a1, a2⟩, a3, a4⟩ := h p hp
    exact rng_mem.mpr (by omega))
  rw [List.length_map, rng_len] at e
  exact e
theorem take_mem {α : Type} {xs : List α} {i : Nat} {x y : α} (h : xs[i]? = some x) : y ∈ xs.take (i + 1) ↔ y ∈ xs.take i ∨ y = x := by
  rw [List.take_succ, h, List.mem_append]
  simp
/-- what the closing keeps -/
structure Cls0 (ps : List (Int × Int)) (P : Int × Int → Prop) (G : List (Int × Int)) : Prop where
  new : ∃ nw, G = ps ++ nw ∧ nw.Nodup
  all : ∀ p ∈ G, P p
theorem Cls0.len {ps G : List (Int × Int)} {P : Int × Int → Prop} {n : Int} (h : Cls0 ps P G) (hn : n ≤ 16) (hr : ∀ p, P p → InR n p) (hl : ps.length ≤ 1000) : G.length ≤ 1256 := by
  obtain ⟨nw, e, nd⟩ := h.new
  have := sq_len hn nd fun p hp => hr p (h.all p (by rw [e]; exact List.mem_append_right _ hp))
  rw [e, List.length_append]
  omega
def Trn (F : List (Int × Int)) (k : Int) : Prop := ∀ a b, (a, k) ∈ F → (k, b) ∈ F → (a, b) ∈ F
theorem lows_mem {F : List (Int × Int)} {y a : Int} : a ∈ F.filterMap (fun x => if x.2 = y then some x.1 else none) ↔ (a, y) ∈ F := by
  rw [List.mem_filterMap]
  constructor
  · rintro ⟨p, hp, e⟩
    split at e
    · rename_i q
      cases e
      rw [← q]
      exact hp
    · cases e
  · intro h
    exact ⟨_, h, if_pos rfl⟩
theorem highs_mem {F : List (Int × Int)} {y a : Int} : a ∈ F.filterMap (fun x => if x.1 = y then some x.2 else none) ↔ (y, a) ∈ F := by
  rw [List.mem_filterMap]
  constructor
  · rintro ⟨p, hp, e⟩
    split at e
    · rename_i q
      cases e
      rw [← q]
      exact hp
    · cases e
  · intro h
    exact ⟨_, h, if_pos rfl⟩
end T

-- P3b
namespace T
open PySem PySem.Spec PyProof.Rows L2
theorem nodup_len3 {α : Type} [DecidableEq α] : ∀ {l m : List α}, l.Nodup → (∀ x ∈ l, x ∈ m) → l.length ≤ m.length
  | [], _, _, _ => Nat.zero_le _
  | x :: l, m, nd, h => by
    have hx := h x (List.mem_cons_self ..)
    have nd' := List.nodup_cons.mp nd
    have ih := nodup_len3 (l := l) (m := m.erase x) nd'.2 fun y hy => (List.mem_erase_of_ne (fun e => nd'.1 (by rw [← e]; exact hy))).mpr (h y (List.mem_cons_of_mem _ hy))
    rw [List.length_erase_of_mem hx] at ih
    have : 0 < m.length := List.length_pos_of_mem hx
    rw [List.length_cons]
    omega

def Ahd (ns : List Int) (p : Int × Int) : Prop := ∃ i j : Nat, i < j ∧ ns[i]? = some p.1 ∧ ns[j]? = some p.2
theorem IsN.get {n : Int} {ns : List Int} (h : IsN n ns) {i : Nat} (hi : (i : Int) < n) : ∃ x, ns[i]? = some x ∧ 0 ≤ x ∧ x < n := by
  have hl : i < ns.length := by
    have := h.1
    omega
  exact ⟨ns[i], List.getElem?_eq_getElem hl, h.2.2 _ (List.getElem_mem hl)⟩
theorem IsN.inj {n : Int} {ns : List Int} (h : IsN n ns) {i j : Nat} {x : Int} (hi : ns[i]? = some x) (hj : ns[j]? = some x) : i = j := by
  obtain ⟨l1, e1⟩ := List.getElem?_eq_some_iff.mp hi
  obtain ⟨l2, e2⟩ := List.getElem?_eq_some_iff.mp hj
  exact (List.getElem_inj h.2.1).mp (e1.trans e2.symm)
theorem IsN.all {n : Int} {ns : List Int} (h : IsN n ns) {x : Int} (h0 : 0 ≤ x) (h1 : x < n) : ∃ i : Nat, ns[i]? = some x := by
  have hm : x ∈ ns := by
    apply Classical.byContradiction
    intro hx
    have e := nodup_len3 (l := x :: ns) (m := rng 0 n) (List.nodup_cons.mpr ⟨hx, h.2.1⟩) (fun y hy => by
      rcases List.mem_cons.mp hy with z | z
      · rw [z]
        exact rng_mem.mpr ⟨h0, h1⟩
      · exact rng_mem.mpr (h.2.2 y z))
    rw [rng_len, List.length_cons] at e
    have := h.1
    omega
  obtain ⟨i, hi, e⟩ := List.mem_iff_getElem.mp hm
  exact ⟨i, by rw [List.getElem?_eq_getElem hi, e]⟩
structure HouseP (n : Int) (h : List Int) : Prop where
  ln : (h.length : Int) = n
  up : ∃ pos : Int → Nat, ∀ (x : Nat) (p : Int), h[x]? = some p → (p = -1 ∨ (0 ≤ p ∧ p < n ∧ pos p < pos x)) ∧ (pos x : Int) < n
theorem idx_lt {ns : List Int} {n : Int} (h : IsN n ns) {x : Int} (hx : x ∈ ns) : ∃ i : Nat, ns[i]? = some x ∧ ns.idxOf x = i := by
  have hi : ns.idxOf x < ns.length := List.idxOf_lt_length_iff.mpr hx
  exact ⟨ns.idxOf x, by rw [List.getElem?_eq_getElem hi, List.getElem_idxOf hi], rfl⟩
end T

-- P3o
namespace T
open PySem PySem.Spec PyProof.Rows L2

/-- an order told by its pairs -/
structure OrdP (n : Int) (ps : List (Int × Int)) : Prop where
  rg : ∀ p ∈ ps, InR n p
  ne : ∀ p ∈ ps, p.1 ≠ p.2
  tr : ∀ a k b, (a, k) ∈ ps → (k, b) ∈ ps → (a, b) ∈ ps
  ln : ps.length ≤ 2000
end T

-- P4
namespace T
open PySem PySem.Spec PyProof.Rows L2

/-! ## grids of pairs -/
def gridR (m : Nat) (qs : List (Int × Int)) (i : Nat) : List Bool := (List.range m).map fun (j : Nat) => memb ((i : Int), (j : Int)) qs
def gridF (m : Nat) (qs : List (Int × Int)) : List (List Bool) := (List.range m).map fun (i : Nat) => gridR m qs i
theorem gridF_at {m : Nat} {qs : List (Int × Int)} {i : Nat} (h : i < m) : (gridF m qs)[i]? = some (gridR m qs i) := by
  unfold gridF
  rw [List.getElem?_map, List.getElem?_range h]
  rfl
theorem gridR_at {m : Nat} {qs : List (Int × Int)} {i j : Nat} (h : j < m) : (gridR m qs i)[j]? = some (memb ((i : Int), (j : Int)) qs) := by
  unfold gridR
  rw [List.getElem?_map, List.getElem?_range h]
  rfl
theorem gridF_len {m : Nat} {qs : List (Int × Int)} : (gridF m qs).length = m := by
  unfold gridF
  rw [List.length_map, List.length_range]
theorem gridR_len {m i : Nat} {qs : List (Int × Int)} : (gridR m qs i).length = m := by
  unfold gridR
  rw [List.length_map, List.length_range]
theorem memb_app {a : Int × Int} {qs : List (Int × Int)} {p : Int × Int} : memb a (qs ++ [p]) = (memb a qs || decide (a = p)) := by
  unfold memb
  rw [← Bool.decide_or]
  exact decide_eq_decide.mpr (by rw [List.mem_append, List.mem_singleton])
theorem gridR_app {m i : Nat} {qs : List (Int × Int)} {x y : Nat} (hy : y < m) : gridR m (qs ++ [((x : Int), (y : Int))]) i = if i = x then (gridR m qs i).set y true else gridR m qs i := by
  apply List.ext_getElem?
  intro j
  by_cases hj : j < m
  · rw [gridR_at hj, memb_app]
    by_cases hi : i = x
    · rw [if_pos hi]
      by_cases hjy : y = j
      · rw [← hjy, List.getElem?_set_self (by rw [gridR_len]; exact hy), hi]
        simp
      · rw [List.getElem?_set_ne hjy, gridR_at hj]
        congr 1
        rw [decide_eq_false (fun e => hjy (by have := (Prod.mk.inj e).2; omega)), Bool.or_false]
    · rw [if_neg hi, gridR_at hj]
      congr 1
      rw [decide_eq_false (fun e => hi (by have := (Prod.mk.inj e).1; omega)), Bool.or_false]
  · rw [List.getElem?_eq_none (by rw [gridR_len]; omega), List.getElem?_eq_none]
    split
    · rw [List.length_set, gridR_len]
      omega
    · rw [gridR_len]
      omega
theorem gridF_set {m : Nat} {qs : List (Int × Int)} {x y : Nat} (hx : x < m) (hy : y < m) : setG (gridF m qs) (x : Int) (y : Int) true = some (gridF m (qs ++ [((x : Int), (y : Int))])) := by
  unfold setG
  rw [ixN_in (by omega) (by rw [gridF_len]; omega), Option.bind_some, Int.toNat_natCast, gridF_at hx, Option.bind_some, setI_in (by omega) (by rw [gridR_len]; omega), Int.toNat_natCast]
  show some _ = some _
  congr 1
  apply List.ext_getElem?
  intro i
  by_cases hi : i < m
  · rw [gridF_at hi, gridR_app hy]
    by_cases e : x = i
    · rw [← e, List.getElem?_set_self (by rw [gridF_len]; exact hx), if_pos rfl]
    · rw [List.getElem?_set_ne e, gridF_at hi, if_neg (Ne.symm e)]
  · rw [List.getElem?_eq_none (by rw [List.length_set, gridF_len]; omega), List.getElem?_eq_none (by rw [gridF_len]; omega)]
theorem rng0 {n : Int} : rng 0 n = (List.range n.toNat).map fun (i : Nat) => (i : Int) := by
  unfold rng
  rw [Int.sub_zero]
  exact List.map_congr_left fun i _ => by omega
theorem grid0 {n : Int} : (rng 0 n).filterMap (fun _ => some (List.replicate n.toNat false)) = gridF n.toNat [] := by
  rw [show (fun _ : Int => some (List.replicate n.toNat false)) = some ∘ (fun _ => List.replicate n.toNat false) from rfl, List.filterMap_eq_map, rng0, List.map_map]
  unfold gridF
  refine List.map_congr_left fun i _ => ?_
  show List.replicate n.toNat false = _
  apply List.ext_getElem?
  intro j
  by_cases hj : j < n.toNat
  · rw [gridR_at hj, List.getElem?_replicate, if_pos hj]
    rfl
  · rw [List.getElem?_eq_none (by rw [List.length_replicate]; omega), List.getElem?_eq_none (by rw [gridR_len]; omega)]
theorem size_ok {n : Int} (h1 : 1 ≤ n) (hn : n ≤ 16) : m_check_size n = .ok () := by
  unfold m_check_size
  rw [decide_eq_true h1, decide_eq_true hn]
  rfl
theorem numb_at2 {α : Type} {xs : List α} {i : Nat} {p : Int × α} (h : (numb xs)[i]? = some p) : p = ((i : Int), p.2) ∧ xs[i]? = some p.2 := by
  obtain ⟨e1, e2⟩ := numb_at h
  exact ⟨Prod.ext e1 rfl, e2⟩
theorem take_snoc {α : Type} {xs : List α} {i : Nat} {x : α} (h : xs[i]? = some x) : xs.take (i + 1) = xs.take i ++ [x] := by
  rw [List.take_succ, h]
  rfl
theorem grid_ok {n : Int} {ps : List (Int × Int)} (h1 : 1 ≤ n) (hn : n ≤ 16) (hr : ∀ p ∈ ps, InR n p) (hne : ∀ p ∈ ps, p.1 ≠ p.2) : m_grid_of_pairs n ps = .ok (gridF n.toNat ps) := by
  apply okP.eq
  unfold m_grid_of_pairs
  rw [size_ok h1 hn, rb_ok]
  refine okP.lb (rngO_in (by decide) (by decide) (by omega) (by omega)) ?_
  rw [compF_p (g := fun _ => some (List.replicate n.toNat false)) (by rw [rng_len]; omega) (fun x _ _ => by rw [repO_one (by omega) (by omega)]; rfl), rb_ok, grid0]
  refine (forS_ok (Pk := fun g => g = gridF n.toNat ps) (fun i g => g = gridF n.toNat (ps.take i)) rfl (fun i p g hp e => ?_) (fun g e => by rw [e, numb_len, List.take_length])).then fun g e => okP.ok e
  obtain ⟨_, e2⟩ := numb_at2 hp
  obtain ⟨⟨a1, a2⟩, a3, a4⟩ := hr _ (List.mem_of_getElem? e2)
  have a5 := hne _ (List.mem_of_getElem? e2)
  subst e
  refine okP.ite (fun hc => ?_) (fun _ => ?_)
  · rw [decide_eq_true a1, decide_eq_true a2, decide_eq_true a3, decide_eq_true a4, decide_eq_false a5] at hc
    cases hc
  · have ex : p.2 = (((p.2.1.toNat : Nat) : Int), ((p.2.2.toNat : Nat) : Int)) := Prod.ext (by show p.2.1 = _; omega) (by show p.2.2 = _; omega)
    refine okP.lb (x := gridF n.toNat (ps.take (i + 1))) ?_ (okP.ok rfl)
    rw [take_snoc e2]
    have := gridF_set (qs := ps.take i) (m := n.toNat) (x := p.2.1.toNat) (y := p.2.2.toNat) (by omega) (by omega)
    rw [← ex] at this
    rw [show ((p.2.1.toNat : Nat) : Int) = p.2.1 by omega, show ((p.2.2.toNat : Nat) : Int) = p.2.2 by omega] at this
    exact this
theorem gridF_len' {n : Int} (h : 0 ≤ n) {qs : List (Int × Int)} : ((gridF n.toNat qs).length : Int) = n := by
  rw [gridF_len]
  omega
theorem gap_ok {n : Int} {ps : List (Int × Int)} (h1 : 1 ≤ n) (hn : n ≤ 16) (tr : ∀ a k b, (a, k) ∈ ps → (k, b) ∈ ps → (a, b) ∈ ps) : m_gap_of (gridF n.toNat ps) = .ok none := by
  apply okP.eq
  unfold m_gap_of
  rw [gridF_len' (by omega)]
  simp only [rb_ok, rb_as]
  refine okP.lb (rngO_in (by decide) (by decide) (by omega) (by omega)) ?_
  have at2 : ∀ {i j : Nat} {k : Bool → Res (Option Bool × Unit)}, i < n.toNat → j < n.toNat → True := fun _ _ => trivial
  have g1 : ∀ {i : Nat}, i < n.toNat → atI (gridF n.toNat ps) (i : Int) = some (gridR n.toNat ps i) := fun h => atI_n (gridF_at h)
  have g2 : ∀ {i j : Nat}, j < n.toNat → atI (gridR n.toNat ps i) (j : Int) = some (memb ((i : Int), (j : Int)) ps) := fun h => atI_n (gridR_at h)
  refine (forC_ok (Pk := fun l => l = .done ()) (fun _ _ => True) trivial (fun i x s hx _ => ?_) (fun s _ => rfl)).then fun l e => by
    rw [e]
    exact okP.ok rfl
  obtain ⟨e, hx2⟩ := rng_get hx
  rw [Int.zero_add] at e
  subst e
  refine okP.lb (rngO_in (by decide) (by decide) (by omega) (by omega)) ?_
  refine (forC_ok (Pk := fun l => l = .done ()) (fun _ _ => True) trivial (fun j z s hz _ => ?_) (fun s _ => rfl)).then fun l e => by
    rw [e]
    exact okP.ok (.inl ⟨(), rfl, trivial⟩)
  obtain ⟨e, hz2⟩ := rng_get hz
  rw [Int.zero_add] at e
  subst e
  refine okP.lb (g1 (by omega)) (okP.lb (g2 (by omega)) ?_)
  refine okP.then (P := fun b => b = false) (okP.ite (fun hc => ?_) (fun _ => okP.ok rfl)) fun b hb => by
    rw [hb]
    exact okP.ok (.inl ⟨(), rfl, trivial⟩)
  refine okP.lb (rngO_in (by decide) (by decide) (by omega) (by omega)) ?_
  rw [compF_p (g := fun y => some (memb ((i : Int), y) ps && memb (y, (j : Int)) ps)) (by rw [rng_len]; omega) (fun y hy _ => ?_), rb_ok]
  · refine okP.ok ?_
    rw [List.any_eq_false]
    intro b hb
    obtain ⟨y, _, e⟩ := List.mem_filterMap.mp hb
    cases e
    intro h
    obtain ⟨q1, q2⟩ := Bool.and_eq_true_iff.mp h
    have := tr _ _ _ (memb_of q1) (memb_of q2)
    rw [show memb ((i : Int), (j : Int)) ps = true from memb_t this] at hc
    cases hc
  · obtain ⟨y0, y1⟩ := rng_mem.mp hy
    have ey : y = ((y.toNat : Nat) : Int) := by omega
    rw [ey, g1 (by omega), lift_some, rb_ok, g2 (by omega), lift_some, rb_ok]
    cases e : memb ((i : Int), ((y.toNat : Nat) : Int)) ps with
    | false => rfl
    | true =>
      rw [if_pos rfl, g1 (by omega), lift_some, rb_ok, g2 (by omega), lift_some, rb_ok]
      rfl
/-- who is less than each place -/
def lessF (n : Int) (ps : List (Int × Int)) : List (List Int) := (rng 0 n).map fun y => (rng 0 n).filterMap fun x => if memb (x, y) ps = true then some x else none
theorem ordg_ok {n : Int} {ps : List (Int × Int)} (h1 : 1 ≤ n) (hn : n ≤ 16) : m_order_of_grid (gridF n.toNat ps) = .ok (n, lessF n ps) := by
  apply okP.eq
  unfold m_order_of_grid
  rw [gridF_len' (by omega)]
  simp only [rb_ok, rb_as]
  have g1 : ∀ {i : Nat}, i < n.toNat → atI (gridF n.toNat ps) (i : Int) = some (gridR n.toNat ps i) := fun h => atI_n (gridF_at h)
  have g2 : ∀ {i j : Nat}, j < n.toNat → atI (gridR n.toNat ps i) (j : Int) = some (memb ((i : Int), (j : Int)) ps) := fun h => atI_n (gridR_at h)
  refine okP.lb (rngO_in (by decide) (by decide) (by omega) (by omega)) ?_
  rw [compF_p (g := fun y => some ((rng 0 n).filterMap fun x => if memb (x, y) ps = true then some x else none)) (by rw [rng_len]; omega) (fun y hy s => ?_), rb_ok]
  · refine okP.ok ?_
    rw [show (fun y => some ((rng 0 n).filterMap fun x => if memb (x, y) ps = true then some x else none)) = some ∘ (fun y => (rng 0 n).filterMap fun x => if memb (x, y) ps = true then some x else none) from rfl, List.filterMap_eq_map]
    rfl
  · obtain ⟨y0, y1⟩ := rng_mem.mp hy
    rw [rngO_in (by decide) (by decide) (by omega) (by omega)]
    show (compF (rng 0 n) () [] _ >>= _) = _
    rw [compF_p (g := fun x => if memb (x, y) ps = true then some x else none) (by rw [rng_len]; omega) (fun x hx s => ?_)]
    · rfl
    · obtain ⟨x0, x1⟩ := rng_mem.mp hx
      have ey : y = ((y.toNat : Nat) : Int) := by omega
      have ex : x = ((x.toNat : Nat) : Int) := by omega
      rw [ex, ey, g1 (by omega), lift_some, rb_ok, g2 (by omega), lift_some, rb_ok]
      split <;> rfl
theorem made_ok {n : Int} {ps : List (Int × Int)} (h1 : 1 ≤ n) (hn : n ≤ 16) (o : OrdP n ps) : m_made_order n ps = .ok (n, lessF n ps) := by
  unfold m_made_order
  rw [grid_ok h1 hn o.rg o.ne, rb_ok, gap_ok h1 hn o.tr, rb_ok, if_neg (by simp), ordg_ok h1 hn, rb_ok]
theorem less_mem {n : Int} {ps : List (Int × Int)} (hr : ∀ p ∈ ps, InR n p) {x y : Int} : x ∈ (rng 0 n).filterMap (fun x => if memb (x, y) ps = true then some x else none) ↔ (x, y) ∈ ps := by
  rw [List.mem_filterMap]
  constructor
  · rintro ⟨z, _, e⟩
    split at e
    · rename_i q
      cases e
      exact memb_of q
    · cases e
  · intro h
    exact ⟨x, rng_mem.mpr (hr _ h).1, if_pos (memb_t h)⟩
theorem less_at {n : Int} {ps : List (Int × Int)} {y : Int} (h0 : 0 ≤ y) (h1 : y < n) : atI (lessF n ps) y = some ((rng 0 n).filterMap fun x => if memb (x, y) ps = true then some x else none) := by
  refine atI_ok h0 ?_
  unfold lessF
  rw [List.getElem?_map, rng_at (by omega)]
  rw [show (0 : Int) + ((y.toNat : Nat) : Int) = y by omega]
  rfl
end T

-- P5h
namespace T
open PySem PySem.Spec PyProof.Rows L2

/-! ## houses -/
/-- a house with its ranks in hand -/
structure HouseQ (n : Int) (h : List Int) (pos : Int → Nat) : Prop where
  ln : (h.length : Int) = n
  up : ∀ (x : Nat) (p : Int), h[x]? = some p → (p = -1 ∨ (0 ≤ p ∧ p < n ∧ pos p < pos x)) ∧ (pos x : Int) < n
def upF (h : List Int) (p : Int) : Int := (h[p.toNat]?).getD (-1)
section
variable {n : Int} {h : List Int} {pos : Int → Nat}
theorem HouseQ.at (q : HouseQ n h pos) {x : Int} (h0 : 0 ≤ x) (h1 : x < n) : atI h x = some (upF h x) ∧ (upF h x = -1 ∨ (0 ≤ upF h x ∧ upF h x < n ∧ pos (upF h x) < pos x)) ∧ (pos x : Int) < n := by
  have hl : x.toNat < h.length := by
    have := q.ln
    omega
  have e : h[x.toNat]? = some (upF h x) := by
    unfold upF
    rw [List.getElem?_eq_getElem hl]
    rfl
  refine ⟨atI_ok h0 e, ?_⟩
  have := q.up _ _ e
  rwa [Int.toNat_of_nonneg h0] at this
theorem size2_ok (h1 : 1 ≤ n) (hn : n ≤ 16) : m_want_size n = .ok () := by
  unfold m_want_size
  rw [decide_eq_true h1, decide_eq_true hn]
  rfl
theorem comes_ok (q : HouseQ n h pos) (hn : n ≤ 16) {x : Int} (h0 : 0 ≤ x) (h1 : x < n) : m_comes_home h x = .ok true := by
  apply okP.eq
  unfold m_comes_home
  rw [q.ln]
  refine okP.lb (rngO_in (by decide) (by decide) (by omega) (by omega)) ?_
  refine (forC_ok (Pk := fun l => l = .rt true) (fun i (p : Int) => (0 ≤ p ∧ p < n) ∧ pos p + i ≤ pos x) ⟨⟨h0, h1⟩, Nat.le_refl _⟩ (fun i z p _ ⟨⟨p0, p1⟩, p2⟩ => ?_) (fun p ⟨⟨p0, p1⟩, p2⟩ => ?_)).then fun l e => by
    rw [e]
    exact okP.ok rfl
  · obtain ⟨e1, e2, e3⟩ := q.at p0 p1
    simp only [rb_ok, rb_as]
    refine okP.lb e1 (okP.ite (fun hc => okP.ok (.inr (.inr ⟨true, rfl, rfl⟩))) (fun hc => okP.ok (.inl ⟨_, rfl, ?_⟩)))
    have hne := of_decide_eq_false hc
    rcases e2 with z | ⟨z0, z1, z2⟩
    · exact absurd z hne
    · exact ⟨⟨z0, z1⟩, by omega⟩
  · exfalso
    obtain ⟨_, _, e3⟩ := q.at h0 h1
    rw [rng_len] at p2
    omega
theorem mhouse_ok (q : HouseQ n h pos) (h1 : 1 ≤ n) (hn : n ≤ 16) : m_made_house h = .ok h := by
  apply okP.eq
  unfold m_made_house
  rw [q.ln, size2_ok h1 hn, rb_ok]
  refine (forS_ok (Pk := fun _ => True) (fun _ _ => True) trivial (fun i p s hp _ => ?_) (fun _ h => h)).then fun s _ => ?_
  · obtain ⟨e1, e2⟩ := numb_at hp
    obtain ⟨e3, e4⟩ := q.up _ _ e2
    refine okP.ite (fun hc => ?_) (fun _ => okP.ok trivial)
    exfalso
    rw [e1] at hc
    have hlt := (List.getElem?_eq_some_iff.mp e2).1
    have := q.ln
    rcases e3 with z | ⟨z0, z1, z2⟩
    · rw [z, decide_eq_false (by omega), decide_eq_true (by omega), decide_eq_true (by omega)] at hc
      cases hc
    · rw [decide_eq_false (fun z => by rw [z] at z2; omega), decide_eq_true (by omega), decide_eq_true (by omega)] at hc
      cases hc
  · refine okP.lb (rngO_in (by decide) (by decide) (by omega) (by omega)) ?_
    refine (forS_ok (Pk := fun _ => True) (fun _ _ => True) trivial (fun i x s hx _ => ?_) (fun _ h => h)).then fun s _ => okP.ok rfl
    obtain ⟨x0, x1⟩ := rng_mem.mp (List.mem_of_getElem? hx)
    rw [comes_ok q hn x0 x1]
    exact okP.ok trivial
/-- the way from p to the door, at most k steps -/
def pth (h : List Int) : Nat → Int → List Int
  | 0, p => [p]
  | k + 1, p => if 0 ≤ p then p :: pth h k (upF h p) else [p]
def Gd1 (n p : Int) : Prop := p = -1 ∨ (0 ≤ p ∧ p < n)
theorem pth_snoc (q : HouseQ n h pos) : ∀ (k : Nat) (p : Int), Gd1 n p → ∃ l z, Gd1 n z ∧ pth h k p = l ++ [z] ∧ pth h (k + 1) p = if 0 ≤ z then (l ++ [z]) ++ [upF h z] else l ++ [z]
  | 0, p, g => by
    refine ⟨[], p, g, rfl, ?_⟩
    unfold pth
    split <;> rfl
  | k + 1, p, g => by
    by_cases hp : 0 ≤ p
    · have hp1 : p < n := by
        rcases g with z | z
        · omega
        · exact z.2
      obtain ⟨_, e2, _⟩ := q.at hp hp1
      have gu : Gd1 n (upF h p) := by
        rcases e2 with z | z
        · exact .inl z
        · exact .inr ⟨z.1, z.2.1⟩
      obtain ⟨l, z, gz, e3, e4⟩ := pth_snoc q k (upF h p) gu
      refine ⟨p :: l, z, gz, ?_, ?_⟩
      · show (if 0 ≤ p then p :: pth h k (upF h p) else [p]) = _
        rw [if_pos hp, e3]
        rfl
      · show (if 0 ≤ p then p :: pth h (k + 1) (upF h p) else [p]) = _
        rw [if_pos hp, e4]
        split <;> rfl
    · refine ⟨[], p, g, ?_, ?_⟩
      · show (if 0 ≤ p then p :: pth h k (upF h p) else [p]) = _
        rw [if_neg hp]
        rfl
      · show (if 0 ≤ p then p :: pth h (k + 1) (upF h p) else [p]) = _
        rw [if_neg hp, if_neg hp]
        rfl
theorem pth_len : ∀ (k : Nat) (p : Int), (pth h k p).length ≤ k + 1
  | 0, p => Nat.le_refl _
  | k + 1, p => by
    unfold pth
    split
    · rw [List.length_cons]
      have := pth_len k (upF h p)
      omega
    · simp
theorem pth_end (q : HouseQ n h pos) : ∀ (k : Nat) (p : Int), (p = -1 ∨ (0 ≤ p ∧ p < n ∧ pos p < k)) → -1 ∈ pth h k p
  | 0, p, g => by
    rcases g with z | z
    · rw [z]
      exact List.mem_singleton.mpr rfl
    · omega
  | k + 1, p, g => by
    unfold pth
    rcases g with z | ⟨z0, z1, z2⟩
    · rw [z]
      exact List.mem_singleton.mpr rfl
    · rw [if_pos z0]
      obtain ⟨_, e2, _⟩ := q.at z0 z1
      refine List.mem_cons_of_mem _ (pth_end q k _ ?_)
      rcases e2 with y | ⟨y0, y1, y2⟩
      · exact .inl y
      · exact .inr ⟨y0, y1, by omega⟩
theorem HouseQ.g1 (q : HouseQ n h pos) {x : Int} (h0 : 0 ≤ x) (h1 : x < n) : Gd1 n (upF h x) := by
  obtain ⟨_, e2, _⟩ := q.at h0 h1
  rcases e2 with z | z
  · exact .inl z
  · exact .inr ⟨z.1, z.2.1⟩
def nls (ps : List (Int × Int)) (x y : Int) : Option Int := if (!memb (y, x) ps) = true then some y else none
def lordF (ps : List (Int × Int)) (h : List Int) (n x : Int) : Int := ((pth h n.toNat (upF h x)).filterMap (nls ps x)).headD (-1)
theorem lord_ne (q : HouseQ n h pos) {ps : List (Int × Int)} (hr : ∀ p ∈ ps, InR n p) {x : Int} (h0 : 0 ≤ x) (h1 : x < n) : ∃ l, (pth h n.toNat (upF h x)).filterMap (nls ps x) = lordF ps h n x :: l := by
  have hm : (-1 : Int) ∈ (pth h n.toNat (upF h x)).filterMap (nls ps x) := by
    rw [List.mem_filterMap]
    refine ⟨-1, pth_end q _ _ ?_, ?_⟩
    · obtain ⟨_, e2, e3⟩ := q.at h0 h1
      rcases e2 with z | ⟨z0, z1, z2⟩
      · exact .inl z
      · exact .inr ⟨z0, z1, by omega⟩
    · unfold nls
      rw [memb_f (fun z => by have := (hr _ z).1.1; omega)]
      rfl
  unfold lordF
  cases e : (pth h n.toNat (upF h x)).filterMap (nls ps x) with
  | nil =>
    rw [e] at hm
    cases hm
  | cons a l => exact ⟨l, rfl⟩
end
end T

-- P5m
namespace T
open PySem PySem.Spec PyProof.Rows L2

section
variable {n : Int} {h : List Int} {pos : Int → Nat}
theorem lord_go {ps : List (Int × Int)} {x : Int} {row : List Int} (q : HouseQ n h pos) (hrow : ∀ y, y ∈ row ↔ (y, x) ∈ ps) (hr : ∀ p ∈ ps, InR n p) : ∀ (k : Nat) (p d : Int) (l : List Int), (pth h k p).filterMap (nls ps x) = d :: l → ∀ m, k < m →
    whileF m p (fun s4 => Res.ok (memb s4 row)) (fun s4 => (lift (atI h s4)) >>= fun r11 => Res.ok r11) = .ok d
  | k, p, d, l, hd, 0, hm => absurd hm (Nat.not_lt_zero _)
  | k, p, d, l, hd, m + 1, hm => by
    unfold whileF
    rw [rb_ok]
    cases hc : memb p row with
    | false =>
      rw [if_neg Bool.false_ne_true]
      have hn : (p, x) ∉ ps := fun z => memb_no hc ((hrow p).mpr z)
      have e : nls ps x p = some p := by
        unfold nls
        rw [memb_f hn]
        rfl
      cases k with
      | zero =>
        have : (pth h 0 p).filterMap (nls ps x) = [p] := by
          show List.filterMap _ [p] = _
          rw [List.filterMap_cons, e, List.filterMap_nil]
        rw [this] at hd
        cases hd
        rfl
      | succ k =>
        unfold pth at hd
        split at hd
        · rw [List.filterMap_cons, e] at hd
          cases hd
          rfl
        · rw [List.filterMap_cons, e] at hd
          cases hd
          rfl
    | true =>
      rw [if_pos rfl]
      have hin := (hrow p).mp (memb_of hc)
      obtain ⟨⟨p0, p1⟩, _⟩ := hr _ hin
      have e : nls ps x p = none := by
        unfold nls
        rw [memb_t hin]
        rfl
      cases k with
      | zero =>
        have : (pth h 0 p).filterMap (nls ps x) = [] := by
          show List.filterMap _ [p] = _
          rw [List.filterMap_cons, e, List.filterMap_nil]
        rw [this] at hd
        cases hd
      | succ k =>
        unfold pth at hd
        rw [if_pos p0, List.filterMap_cons, e] at hd
        have p0' : 0 ≤ p := p0
        have p1' : p < n := p1
        show ((lift (atI h p) >>= fun r11 => Res.ok r11) >>= _) = _
        rw [(q.at p0' p1').1, lift_some, rb_ok, rb_ok]
        exact lord_go q hrow hr k _ d l hd m (by omega)
theorem mlord_ok (q : HouseQ n h pos) (hn : n ≤ 16) {ps : List (Int × Int)} (hr : ∀ p ∈ ps, InR n p) {x : Int} (h0 : 0 ≤ x) (h1 : x < n) : m_lord (n, lessF n ps) h x = .ok (lordF ps h n x) := by
  unfold m_lord
  simp only [rb_ok, rb_as]
  rw [(q.at h0 h1).1, lift_some, rb_ok, less_at h0 h1]
  obtain ⟨l, el⟩ := lord_ne q hr h0 h1
  have := lord_go q (fun y => less_mem hr) hr n.toNat _ _ l el fuel (by unfold fuel; omega)
  simp only [lift_some, rb_ok]
  rw [this]
  rfl
theorem mlords_ok (q : HouseQ n h pos) (h1 : 1 ≤ n) (hn : n ≤ 16) {ps : List (Int × Int)} (hr : ∀ p ∈ ps, InR n p) : m_lords (n, lessF n ps) h = .ok ((rng 0 n).map (lordF ps h n)) := by
  unfold m_lords m_want_house
  rw [mhouse_ok q h1 hn, rb_ok, if_neg (by rw [q.ln]; simp), rb_ok, rngO_in (by decide) (by decide) (by show -1000000 ≤ n; omega) (by show n ≤ 1000000; omega), lift_some, rb_ok]
  rw [compF_p (g := fun x => some (lordF ps h n x)) (by rw [rng_len]; omega) (fun x hx s => ?_), rb_ok]
  · rw [show (fun x => some (lordF ps h n x)) = some ∘ lordF ps h n from rfl, List.filterMap_eq_map]
  · obtain ⟨x0, x1⟩ := rng_mem.mp hx
    rw [mlord_ok q hn hr x0 x1]
    rfl
end
end T

-- P7a
namespace T
open PySem PySem.Spec PyProof.Rows L2

/-! ## ranks may be cut to the places -/
theorem countP_lt {α : Type} {p q : α → Bool} : ∀ {l : List α} {x : α}, x ∈ l → (∀ y, p y = true → q y = true) → p x = false → q x = true → l.countP p < l.countP q
  | a :: l, x, hx, h, h1, h2 => by
    have le : l.countP p ≤ l.countP q := List.countP_mono_left fun y _ => h y
    rw [List.countP_cons, List.countP_cons]
    rcases List.mem_cons.mp hx with e | e
    · subst e
      rw [h1, h2]
      simp
      omega
    · have ih := countP_lt e h h1 h2
      have : (if p a = true then 1 else 0) ≤ (if q a = true then (1 : Nat) else 0) := by
        cases hp : p a with
        | false => simp
        | true =>
        rw [h a hp]
        exact Nat.le_refl _
      omega
theorem countP_not {α : Type} {p : α → Bool} {l : List α} {x : α} (hx : x ∈ l) (h : p x = false) : l.countP p < l.length := by
  have := countP_lt (p := p) (q := fun _ => true) hx (fun _ _ => rfl) h rfl
  simpa using this
theorem house_rank {n : Int} {h : List Int} (ln : (h.length : Int) = n) (pos : Int → Nat) (up : ∀ (x : Nat) (p : Int), h[x]? = some p → p = -1 ∨ (0 ≤ p ∧ p < n ∧ pos p < pos x)) : HouseQ n h (fun x => (rng 0 n).countP fun z => decide (pos z < pos x)) := by
  refine ⟨ln, fun x p e => ⟨?_, ?_⟩⟩
  · rcases up x p e with z | ⟨z0, z1, z2⟩
    · exact .inl z
    · exact .inr ⟨z0, z1, countP_lt (x := p) (rng_mem.mpr ⟨z0, z1⟩) (fun y hy => decide_eq_true (Nat.lt_trans (of_decide_eq_true hy) z2)) (decide_eq_false (Nat.lt_irrefl _)) (decide_eq_true z2)⟩
  · have hx := (List.getElem?_eq_some_iff.mp e).1
    have := countP_not (p := fun z => decide (pos z < pos x)) (l := rng 0 n) (x := (x : Int)) (rng_mem.mpr (by omega)) (decide_eq_false (Nat.lt_irrefl _))
    rw [rng_len] at this
    show (((rng 0 n).countP fun z => decide (pos z < pos x) : Nat) : Int) < n
    omega
/-! ## above -/
inductive Abv (h : List Int) : Int → Int → Prop
  | base {y} : Abv h y (upF h y)
  | step {y z} : 0 ≤ upF h y → Abv h (upF h y) z → Abv h y z
section
variable {n : Int} {h : List Int} {pos : Int → Nat}
theorem abv_rank (q : HouseQ n h pos) {y z : Int} (a : Abv h y z) (h0 : 0 ≤ y) (h1 : y < n) (hz : 0 ≤ z) : z < n ∧ pos z < pos y := by
  induction a with
  | base =>
    obtain ⟨_, e2, _⟩ := q.at h0 h1
    rcases e2 with w | ⟨w0, w1, w2⟩
    · omega
    · exact ⟨w1, w2⟩
  | @step y z a1 a2 ih =>
    obtain ⟨_, e2, _⟩ := q.at h0 h1
    rcases e2 with w | ⟨w0, w1, w2⟩
    · omega
    · have := ih w0 w1 hz
      exact ⟨this.1, by omega⟩
end
end T

-- P11
namespace T
open PySem PySem.Spec PyProof.Rows L2

/-! ## a deed leaves the lords -/
theorem up_at {h : List Int} {y : Int} (h0 : 0 ≤ y) {p : Int} (e : h[y.toNat]? = some p) : upF h y = p := by
  unfold upF
  rw [e]
  rfl
theorem up_set {h : List Int} {x q p : Int} (x0 : 0 ≤ x) (x1 : x < h.length) (p0 : 0 ≤ p) : upF (h.set x.toNat q) p = if p = x then q else upF h p := by
  unfold upF
  by_cases e : p = x
  · rw [if_pos e, e, List.getElem?_set_self (by omega)]
    rfl
  · rw [if_neg e, List.getElem?_set_ne (by omega)]
/-- the way to the lord -/
inductive Ld (ps : List (Int × Int)) (h : List Int) (y : Int) : Int → Int → Prop
  | stop {p : Int} : (p, y) ∉ ps → Ld ps h y p p
  | go {p z : Int} : (p, y) ∈ ps → Ld ps h y (upF h p) z → Ld ps h y p z
theorem Ld.det {ps : List (Int × Int)} {h : List Int} {y p z : Int} (a : Ld ps h y p z) : ∀ {z'}, Ld ps h y p z' → z = z' := by
  induction a with
  | stop n =>
    intro z' b
    cases b with
    | stop => rfl
    | go m _ => exact absurd m n
  | go m _ ih =>
    intro z' b
    cases b with
    | stop n => exact absurd m n
    | go _ b => exact ih b
section
variable {n : Int} {h : List Int} {pos : Int → Nat} {ps : List (Int × Int)}
theorem ld_of (q : HouseQ n h pos) (hr : ∀ p ∈ ps, InR n p) {y : Int} : ∀ (k : Nat) (p : Int), (p = -1 ∨ (0 ≤ p ∧ p < n ∧ pos p < k)) → Ld ps h y p (((pth h k p).filterMap (nls ps y)).headD (-1)) := by
  have door : Ld ps h y (-1) ((([-1] : List Int).filterMap (nls ps y)).headD (-1)) := by
    have hn : ((-1 : Int), y) ∉ ps := fun z => by
      have := (hr _ z).1.1
      omega
    rw [List.filterMap_cons, show nls ps y (-1) = some (-1) by unfold nls; rw [memb_f hn]; rfl]
    exact .stop hn
  intro k
  induction k with
  | zero =>
    intro p g
    rcases g with e | e
    · rw [e]
      exact door
    · omega
  | succ k ih =>
    intro p g
    rcases g with e | ⟨g0, g1, g2⟩
    · rw [e]
      exact door
    · rw [show pth h (k + 1) p = p :: pth h k (upF h p) from if_pos g0, List.filterMap_cons]
      by_cases m : (p, y) ∈ ps
      · rw [show nls ps y p = none by unfold nls; rw [memb_t m]; rfl]
        refine .go m (ih _ ?_)
        rcases (q.at g0 g1).2.1 with w | ⟨w0, w1, w2⟩
        · exact .inl w
        · exact .inr ⟨w0, w1, by omega⟩
      · rw [show nls ps y p = some p by unfold nls; rw [memb_f m]; rfl]
        exact .stop m
theorem ld_lord (q : HouseQ n h pos) (hr : ∀ p ∈ ps, InR n p) {y : Int} (y0 : 0 ≤ y) (y1 : y < n) : Ld ps h y (upF h y) (lordF ps h n y) := by
  refine ld_of q hr _ _ ?_
  obtain ⟨_, e2, e3⟩ := q.at y0 y1
  rcases e2 with w | ⟨w0, w1, w2⟩
  · exact .inl w
  · exact .inr ⟨w0, w1, by omega⟩
theorem ld_down (o : OrdP n ps) (hl : (h.length : Int) = n) {x q y : Int} (hm : (q, x) ∈ ps) (hu : upF h q = upF h x) : ∀ {p z}, Ld ps h y p z → Ld ps (h.set x.toNat q) y p z := by
  obtain ⟨⟨q0, q1⟩, x0, x1⟩ := o.rg _ hm
  have hne : q ≠ x := o.ne _ hm
  intro p z a
  induction a with
  | stop n => exact .stop n
  | @go p z m a ih =>
    obtain ⟨⟨p0, p1⟩, _⟩ := o.rg _ m
    refine .go m ?_
    rw [up_set x0 (by omega) p0]
    by_cases e : p = x
    · rw [if_pos e]
      subst e
      refine .go (o.tr _ _ _ hm m) ?_
      rw [up_set x0 (by omega) q0, if_neg hne, hu]
      exact ih
    · rw [if_neg e]
      exact ih
theorem lord_down (o : OrdP n ps) {pos2 : Int → Nat} (q1 : HouseQ n h pos) {x q y : Int} (q2 : HouseQ n (h.set x.toNat q) pos2) (hm : (q, x) ∈ ps) (hu : upF h q = upF h x) (y0 : 0 ≤ y) (y1 : y < n) : lordF ps (h.set x.toNat q) n y = lordF ps h n y := by
  obtain ⟨⟨r0, r1⟩, x0, x1⟩ := o.rg _ hm
  have hne : q ≠ x := o.ne _ hm
  have a := ld_lord q1 o.rg y0 y1
  have b := ld_lord q2 o.rg y0 y1
  have hl := q1.ln
  refine b.det ?_
  have c := ld_down o hl hm hu a
  rw [up_set x0 (by omega) y0]
  by_cases e : y = x
  · rw [if_pos e]
    subst e
    refine .go hm ?_
    rw [up_set x0 (by omega) r0, if_neg hne, hu]
    exact c
  · rw [if_neg e]
    exact c
theorem house_down (o : OrdP n ps) (q1 : HouseQ n h pos) {x q : Int} (hm : (q, x) ∈ ps) (hu : upF h q = upF h x) : ∃ pos2, HouseQ n (h.set x.toNat q) pos2 := by
  obtain ⟨⟨r0, r1⟩, x0, x1⟩ : (0 ≤ q ∧ q < n) ∧ (0 ≤ x ∧ x < n) := o.rg _ hm
  have hne : q ≠ x := o.ne _ hm
  have hl := q1.ln
  have hq : ¬ (q = x ∨ Abv h q x) := fun z => by
    rcases z with e | a
    · exact hne e
    · obtain ⟨_, e2, _⟩ := q1.at x0 x1
      obtain ⟨_, e4, _⟩ := q1.at r0 r1
      have : ∀ {z}, Abv h q z → z = x → False := fun {z} a e => by
        cases a with
        | base =>
          rw [hu] at e
          rcases e2 with w | ⟨_, _, w⟩
          · omega
          · rw [e] at w
            omega
        | step a1 a2 =>
          subst e
          rcases e2 with w | ⟨w0, w1, w2⟩
          · rw [hu, w] at a1
            omega
          · rw [hu] at a2
            have := (abv_rank q1 a2 w0 w1 x0).2
            omega
      exact this a rfl
  refine ⟨_, house_rank (by rw [List.length_set]; exact hl) (fun y => @ite _ (y = x ∨ Abv h y x) (Classical.propDecidable _) (n.toNat + 1 + pos y) (pos y)) fun y p e => ?_⟩
  by_cases hy : x.toNat = y
  · rw [← hy, List.getElem?_set_self (by omega)] at e
    cases e
    refine .inr ⟨r0, r1, ?_⟩
    rw [if_neg hq, if_pos (.inl (by omega))]
    have := (q1.at (x := q) r0 r1).2.2
    omega
  · rw [List.getElem?_set_ne hy] at e
    have hyl := (List.getElem?_eq_some_iff.mp e).1
    rcases (q1.up y p e).1 with z | ⟨z0, z1, z2⟩
    · exact .inl z
    · refine .inr ⟨z0, z1, ?_⟩
      have hup : upF h (y : Int) = p := up_at (by omega) (by rw [Int.toNat_natCast]; exact e)
      by_cases c : p = x ∨ Abv h p x
      · have c2 : (y : Int) = x ∨ Abv h (y : Int) x := by
          rcases c with c | c
          · rw [← c, ← hup]
            exact .inr .base
          · exact .inr (.step (by rw [hup]; exact z0) (by rw [hup]; exact c))
        rw [if_pos c, if_pos c2]
        omega
      · rw [if_neg c]
        split <;> omega
theorem house_up (o : OrdP n ps) (q1 : HouseQ n h pos) {x : Int} (hm : (upF h x, x) ∈ ps) : HouseQ n (h.set x.toNat (upF h (upF h x))) pos := by
  obtain ⟨⟨r0, r1⟩, x0, x1⟩ := o.rg _ hm
  have hl := q1.ln
  refine ⟨by rw [List.length_set]; exact hl, fun y p e => ?_⟩
  by_cases hy : x.toNat = y
  · rw [← hy, List.getElem?_set_self (by omega)] at e
    cases e
    obtain ⟨_, e2, e3⟩ := q1.at (x := x) x0 x1
    obtain ⟨_, e4, _⟩ := q1.at (x := upF h x) r0 r1
    rw [show ((y : Nat) : Int) = x by omega]
    refine ⟨?_, e3⟩
    rcases e4 with w | ⟨w0, w1, w2⟩
    · exact .inl w
    · refine .inr ⟨w0, w1, ?_⟩
      rcases e2 with v | ⟨_, _, v⟩
      · omega
      · omega
  · rw [List.getElem?_set_ne hy] at e
    exact q1.up y p e
theorem lord_up (o : OrdP n ps) (q1 : HouseQ n h pos) {x y : Int} (hm : (upF h x, x) ∈ ps) (y0 : 0 ≤ y) (y1 : y < n) : lordF ps (h.set x.toNat (upF h (upF h x))) n y = lordF ps h n y := by
  obtain ⟨⟨r0, r1⟩, x0, x1⟩ := o.rg _ hm
  have hne : upF h x ≠ x := o.ne _ hm
  have hl := q1.ln
  have q2 := house_up o q1 hm
  have hlt : x.toNat < h.length := by omega
  have e : (h.set x.toNat (upF h (upF h x))).set x.toNat (upF h x) = h := by
    rw [List.set_set]
    apply List.ext_getElem?
    intro i
    by_cases hi : x.toNat = i
    · rw [← hi, List.getElem?_set_self hlt]
      unfold upF
      rw [List.getElem?_eq_getElem hlt]
      rfl
    · rw [List.getElem?_set_ne hi]
  have hu : upF (h.set x.toNat (upF h (upF h x))) (upF h x) = upF (h.set x.toNat (upF h (upF h x))) x := by
    rw [up_set x0 (by omega) r0, up_set x0 (by omega) x0, if_neg hne, if_pos rfl]
  have := lord_down o q2 (x := x) (q := upF h x) (pos2 := pos) (by rw [e]; exact q1) hm hu y0 y1
  rw [e] at this
  exact this.symm
end
/-- a deed that is let -/
def Let (n : Int) (ps : List (Int × Int)) (h : List Int) : Dd → Prop
  | .down x q => (0 ≤ x ∧ x < n) ∧ (0 ≤ q ∧ q < n) ∧ upF h q = upF h x ∧ (q, x) ∈ ps
  | .up x => (0 ≤ x ∧ x < n) ∧ (upF h x, x) ∈ ps
def stp (h : List Int) : Dd → List Int
  | .down x q => h.set x.toNat q
  | .up x => h.set x.toNat (upF h (upF h x))
theorem stp_house {n : Int} {h : List Int} {ps : List (Int × Int)} (o : OrdP n ps) (q : HouseP n h) {d : Dd} (l : Let n ps h d) : HouseP n (stp h d) := by
  obtain ⟨ln, pos, up⟩ := q
  cases d with
  | down x y =>
    obtain ⟨pos2, q2⟩ := house_down o ⟨ln, up⟩ l.2.2.2 l.2.2.1
    exact ⟨q2.ln, pos2, q2.up⟩
  | up x =>
    have q2 := house_up o ⟨ln, up⟩ l.2
    exact ⟨q2.ln, pos, q2.up⟩
theorem stp_lord {n : Int} {h : List Int} {ps : List (Int × Int)} (o : OrdP n ps) (q : HouseP n h) {d : Dd} (l : Let n ps h d) {y : Int} (y0 : 0 ≤ y) (y1 : y < n) : lordF ps (stp h d) n y = lordF ps h n y := by
  obtain ⟨ln, pos, up⟩ := q
  cases d with
  | down x z =>
    obtain ⟨pos2, q2⟩ := house_down o ⟨ln, up⟩ l.2.2.2 l.2.2.1
    exact lord_down o ⟨ln, up⟩ q2 l.2.2.2 l.2.2.1 y0 y1
  | up x => exact lord_up o ⟨ln, up⟩ l.2 y0 y1
/-- a run of deeds that are let, from h to e -/
def Rn (n : Int) (ps : List (Int × Int)) : List Int → List Dd → List Int → Prop
  | h, [], e => e = h
  | h, d :: ds, e => Let n ps h d ∧ Rn n ps (stp h d) ds e
theorem Rn.house {n : Int} {ps : List (Int × Int)} (o : OrdP n ps) : ∀ {ds : List Dd} {h e : List Int}, HouseP n h → Rn n ps h ds e → HouseP n e
  | [], h, e, q, r => by
    have e1 : e = h := r
    rw [e1]
    exact q
  | c :: ds, h, e, q, r => Rn.house o (stp_house o q r.1) r.2
end T

-- P21l
namespace T
open PySem PySem.Spec PyProof.Rows L2

/-! ## lords along runs -/
section
variable {n : Int} {h : List Int} {pos : Int → Nat} {ps : List (Int × Int)}
theorem Rn.lord (o : OrdP n ps) {y : Int} (y0 : 0 ≤ y) (y1 : y < n) : ∀ {ds : List Dd} {h e : List Int}, HouseP n h → Rn n ps h ds e → lordF ps e n y = lordF ps h n y
  | [], h, e, q, r => by rw [show e = h from r]
  | d :: ds, h, e, q, r => by rw [Rn.lord o y0 y1 (stp_house o q r.1) r.2, stp_lord o q r.1 y0 y1]
end
end T

-- PC
namespace T
open PySem PySem.Spec PyProof.Rows L2

theorem fm_filter {α : Type} {p : α → Bool} : ∀ xs : List α, xs.filterMap (fun d => if p d = true then some d else none) = xs.filter p
  | [] => rfl
  | x :: xs => by
    rw [List.filterMap_cons, List.filter_cons, fm_filter xs]
    cases p x <;> rfl
end T

-- P22a
namespace T
open PySem PySem.Spec PyProof.Rows L2

/-! ## who is admitted: by parents, by lords -/
end T

-- P26f
namespace T
open PySem PySem.Spec PyProof.Rows L2
def frmF (n : Int) (ps : List (Int × Int)) (h : List Int) : List Int := (rng 0 n).map (lordF ps h n)
end T

-- P27o
namespace T
open PySem PySem.Spec PyProof.Rows L2
end T

-- P16g
namespace T
open PySem PySem.Spec PyProof.Rows L2

/-! ## any numbers as parents -/
end T

-- P16h
namespace T
open PySem PySem.Spec PyProof.Rows L2

/-! ## what made_house does with any numbers -/
end T

-- P16i
namespace T
open PySem PySem.Spec PyProof.Rows L2

end T

-- P27
namespace T
open PySem PySem.Spec PyProof.Rows L2

/-! ## parents that are admitted make a house with the same lords -/
end T

-- P28r
namespace T
open PySem PySem.Spec PyProof.Rows L2
end T

-- P28m
namespace T
open PySem PySem.Spec PyProof.Rows L2
end T

-- PG
namespace T
open PySem PySem.Spec PyProof.Rows L2

/-! ## loops with an exception on the way -/
theorem fmap_congr {α β : Type} {f g : α → Option β} : ∀ {xs : List α}, (∀ x ∈ xs, f x = g x) → xs.filterMap f = xs.filterMap g
  | [], _ => rfl
  | x :: xs, h => by
    rw [List.filterMap_cons, List.filterMap_cons, h x (List.mem_cons_self ..), fmap_congr fun y hy => h y (List.mem_cons_of_mem _ hy)]
/-! ## rows and grids by functions -/
theorem rng_ix {n i : Int} (h0 : 0 ≤ i) (h1 : i < n) : (rng 0 n)[i.toNat]? = some i := by
  rw [rng_at (by omega)]
  congr 1
  omega
theorem rng_k {n : Int} {k : Nat} (h : (k : Int) < n) : (rng 0 n)[k]? = some (k : Int) := by
  rw [rng_at (by omega)]
  congr 1
  omega
theorem map_ix {α : Type} {n i : Int} {g : Int → α} (h0 : 0 ≤ i) (h1 : i < n) : atI ((rng 0 n).map g) i = some (g i) := atI_ok h0 (by
  rw [List.getElem?_map, rng_ix h0 h1]
  rfl)
theorem map_len {α : Type} {n : Int} {g : Int → α} (h : 0 ≤ n) : (((rng 0 n).map g).length : Int) = n := by
  rw [List.length_map, rng_len]
  omega
theorem map_congr {α : Type} {n : Int} {f g : Int → α} (h : ∀ i, 0 ≤ i → i < n → f i = g i) : (rng 0 n).map f = (rng 0 n).map g := List.map_congr_left fun i hi => h i (rng_mem.mp hi).1 (rng_mem.mp hi).2
def gB (n : Int) (f : Int → Int → Bool) : List (List Bool) := (rng 0 n).map fun x => (rng 0 n).map (f x)
section
variable {n x y : Int} {f g : Int → Int → Bool}
theorem gB_at (x0 : 0 ≤ x) (x1 : x < n) : atI (gB n f) x = some ((rng 0 n).map (f x)) := map_ix x0 x1
theorem gB_len (h : 0 ≤ n) : ((gB n f).length : Int) = n := map_len h
end
/-- an order's rows by a function -/
def lessB (n : Int) (f : Int → Int → Bool) : List (List Int) := (rng 0 n).map fun y => (rng 0 n).filter fun x => f x y
theorem filter_congr {n : Int} {p q : Int → Bool} (h : ∀ i, 0 ≤ i → i < n → p i = q i) : (rng 0 n).filter p = (rng 0 n).filter q := List.filter_congr fun i hi => h i (rng_mem.mp hi).1 (rng_mem.mp hi).2
theorem lessB_congr {n : Int} {f g : Int → Int → Bool} (h : ∀ i j, 0 ≤ i → i < n → 0 ≤ j → j < n → f i j = g i j) : lessB n f = lessB n g := map_congr fun j j0 j1 => filter_congr fun i i0 i1 => h i j i0 i1 j0 j1
/-! ## pairs that follow -/
inductive Tc (ps : List (Int × Int)) : Int → Int → Prop
  | one {a b : Int} : (a, b) ∈ ps → Tc ps a b
  | more {a k b : Int} : Tc ps a k → (k, b) ∈ ps → Tc ps a b
theorem Tc.trans {ps : List (Int × Int)} {a k b : Int} (h : Tc ps a k) (h2 : Tc ps k b) : Tc ps a b := by
  induction h2 with
  | one m => exact .more h m
  | more _ m ih => exact .more ih m
theorem Tc.rg {ps : List (Int × Int)} {P : Int → Prop} (hr : ∀ p ∈ ps, P p.1 ∧ P p.2) {a b : Int} (h : Tc ps a b) : P a ∧ P b := by
  induction h with
  | one m => exact hr _ m
  | more _ m ih => exact ⟨ih.1, (hr _ m).2⟩
end T

-- P40o
namespace T
open PySem PySem.Spec PyProof.Rows L2
section
variable {n : Int}
theorem ordB_ok {f : Int → Int → Bool} (h0 : 0 ≤ n) (hn : n ≤ 1000) : m_order_of_grid (gB n f) = .ok (n, lessB n f) := by
  apply okP.eq
  unfold m_order_of_grid
  rw [gB_len h0]
  refine okP.lb (rngO_in (by decide) (by decide) (by omega) (by omega)) ?_
  rw [compF_p (g := fun y => some ((rng 0 n).filter fun x => f x y)) (by rw [rng_len]; omega) (fun y hy s => ?_), rb_ok]
  · refine okP.ok ?_
    rw [show (fun y => some ((rng 0 n).filter fun x => f x y)) = some ∘ (fun y => (rng 0 n).filter fun x => f x y) from rfl, List.filterMap_eq_map]
    rfl
  · obtain ⟨y0, y1⟩ := rng_mem.mp hy
    rw [rngO_in (by decide) (by decide) (by omega) (by omega), lift_some, rb_ok]
    rw [compF_p (g := fun x => if f x y = true then some x else none) (by rw [rng_len]; omega) (fun x hx s => ?_), rb_ok, fm_filter]
    obtain ⟨x0, x1⟩ := rng_mem.mp hx
    simp only [rb_ok, rb_as]
    rw [gB_at x0 x1, lift_some, rb_ok, map_ix y0 y1, lift_some, rb_ok]
    cases f x y <;> rfl
end
end T

-- P40
namespace T
open PySem PySem.Spec PyProof.Rows L2

/-! ## orders of any pairs -/
end T

-- PT
namespace T
open PySem PySem.Spec PyProof.Rows L2

/-! ## told things, compared -/
def tgE (w : Str) (d : PyData) : PyData := .tuple [.str w, d]
theorem eq_tg {w : Str} {d : PyData} (hw : PyData.strOk w = true) (hd : d.canLay0 = true) (hk : d.depth ≤ 8) (hq : PyData.eqv d d = true) : eqDO (tgE w d) (tgE w d) = some true := by
  have sh : SeqAt.shaped (tgE w d) = true := by
    unfold SeqAt.shaped tgE
    have e : (PyData.tuple [.str w, d]).depth = max 0 (max d.depth 0) + 1 := rfl
    rw [e, Bool.and_eq_true, decide_eq_true_eq]
    refine ⟨?_, by omega⟩
    simp only [PyData.canLay0, PyData.canLayAll0, hw, hd]
    rfl
  unfold eqDO
  rw [sh]
  have : PyData.eqv (tgE w d) (tgE w d) = true := by
    show (PyData.eqv (.str w) (.str w) && (PyData.eqv d d && true)) = true
    rw [hq, show PyData.eqv (.str w) (.str w) = (w == w) from rfl, beq_self_eq_true]
    rfl
  rw [this]
  rfl
theorem eq_tgI {w : Str} {i : Int} (hw : PyData.strOk w = true) : eqDO (tgE w (.int i)) (tgE w (.int i)) = some true := eq_tg hw rfl (Nat.zero_le _) (by rw [eqv_int]; exact decide_eq_true rfl)
theorem ne_of_eq {a b : PyData} (h : eqDO a b = some true) : neDO a b = some false := by
  unfold neDO
  rw [h]
  rfl
theorem eq_I {w : Str} {i : Int} (hw : PyData.strOk w = true) : eqDO (.tuple [.str w, .int i]) (.tuple [.str w, .int i]) = some true := eq_tgI hw
theorem ne_I {w : Str} {i : Int} (hw : PyData.strOk w = true) : neDO (.tuple [.str w, .int i]) (.tuple [.str w, .int i]) = some false := ne_of_eq (eq_tgI hw)
end T

-- PD
namespace T
open PySem PySem.Spec PyProof.Rows L2
/-! ### lists of data compared -/
theorem catO_in {α : Type} {xs ys : List α} (h : xs.length + ys.length ≤ 100000) : catO xs ys = some (xs ++ ys) := if_pos (by omega)
theorem mem_row {n : Int} {f : Int → Int → Bool} {x y : Int} (x0 : 0 ≤ x) (x1 : x < n) : memb x ((rng 0 n).filter fun x => f x y) = f x y := by
  rw [Bool.eq_iff_iff]
  exact ⟨fun h => (List.mem_filter.mp (memb_of h)).2, fun h => memb_t (List.mem_filter.mpr ⟨rng_mem.mpr ⟨x0, x1⟩, h⟩)⟩
theorem row_at {n : Int} {f : Int → Int → Bool} {y : Int} (y0 : 0 ≤ y) (y1 : y < n) : atI (lessB n f) y = some ((rng 0 n).filter fun x => f x y) := map_ix y0 y1
theorem compM {α β S : Type} {f : α → S → Res (Option β × S)} (g : α → β) {xs : List α} {s : S} (hx : xs.length ≤ 16777216) (h : ∀ x ∈ xs, ∀ s, f x s = .ok (some (g x), s)) : compF xs s [] f = .ok (xs.map g, s) := by
  rw [compF_p (g := fun x => some (g x)) hx h, show (fun x => some (g x)) = some ∘ g from rfl, List.filterMap_eq_map]
theorem compB {α S : Type} {f : α → S → Res (Option α × S)} (p : α → Bool) {xs : List α} {s : S} (hx : xs.length ≤ 16777216) (h : ∀ x ∈ xs, ∀ s, f x s = .ok (if p x = true then some x else none, s)) : compF xs s [] f = .ok (xs.filter p, s) := by
  rw [compF_p (g := fun x => if p x = true then some x else none) hx h, fm_filter]
end T

-- P2n
namespace T
open PySem PySem.Spec PyProof.Rows L2
/-! ## the closing of pairs, each once -/
structure ClsN (ps : List (Int × Int)) (P : Int × Int → Prop) (G : List (Int × Int)) : Prop where
  nd : G.Nodup
  all : ∀ p ∈ G, P p
  sub : ∀ p ∈ ps, p ∈ G
theorem ClsN.len {ps G : List (Int × Int)} {P : Int × Int → Prop} {n : Int} (h : ClsN ps P G) (hn : n ≤ 16) (hr : ∀ p, P p → InR n p) : G.length ≤ 256 := sq_len hn h.nd fun p hp => hr p (h.all p hp)
theorem closed_in1 {n : Int} (hn : n ≤ 16) {ps : List (Int × Int)} {P : Int × Int → Prop} (hr : ∀ p, P p → InR n p) {lows highs : List Int} {F : List (Int × Int)} (h0 : ClsN ps P F) (hP : ∀ a ∈ lows, ∀ b ∈ highs, P (a, b)) :
    okP (forS lows F (fun x14 (s13 : (List (Int × Int))) => forS highs s13 (fun x16 (s15 : (List (Int × Int))) => if (!memb (x14, x16) s15) = true then (lift (appO s15 (x14, x16)) >>= fun ys19 => Res.ok ys19) else (Res.ok s15)) >>= fun s15 => Res.ok s15))
      (fun G => ClsN ps P G ∧ ∀ p, p ∈ G ↔ p ∈ F ∨ (p.1 ∈ lows ∧ p.2 ∈ highs)) := by
  refine forS_ok (fun i G => ClsN ps P G ∧ ∀ p, p ∈ G ↔ p ∈ F ∨ (p.1 ∈ lows.take i ∧ p.2 ∈ highs)) ⟨h0, by simp⟩ (fun i a G ha ⟨g0, g1⟩ => ?_) (fun G ⟨g0, g1⟩ => ⟨g0, by simpa using g1⟩)
  have ham := List.mem_of_getElem? ha
  refine (forS_ok (Pk := fun G' => ClsN ps P G' ∧ ∀ p, p ∈ G' ↔ p ∈ F ∨ (p.1 ∈ lows.take (i + 1) ∧ p.2 ∈ highs)) (fun j G' => ClsN ps P G' ∧ ∀ p, p ∈ G' ↔ p ∈ G ∨ (p.1 = a ∧ p.2 ∈ highs.take j)) ⟨g0, by simp⟩ (fun j b G' hb ⟨q0, q1⟩ => ?_) (fun G' ⟨q0, q1⟩ => ⟨q0, fun p => ?_⟩)).then fun G' h => okP.ok h
  · have hbm := List.mem_of_getElem? hb
    refine okP.ite (fun hc => ?_) (fun hc => ?_)
    · have hnot : (a, b) ∉ G' := by simpa using hc
      refine okP.lb (appO_in (Nat.lt_of_le_of_lt (q0.len hn hr) (by decide))) (okP.ok ⟨⟨?_, fun p hp => ?_, fun p hp => List.mem_append_left _ (q0.sub p hp)⟩, fun p => ?_⟩)
      · exact nodup_snoc q0.nd hnot
      · rcases List.mem_append.mp hp with z | z
        · exact q0.all p z
        · rw [List.mem_singleton.mp z]
          exact hP a ham b hbm
      · rw [List.mem_append, q1, take_mem hb, List.mem_singleton]
        constructor
        · rintro ((z | ⟨z1, z2⟩) | z)
          · exact .inl z
          · exact .inr ⟨z1, .inl z2⟩
          · rw [z]
            exact .inr ⟨rfl, .inr rfl⟩
        · rintro (z | ⟨z1, z2 | z2⟩)
          · exact .inl (.inl z)
          · exact .inl (.inr ⟨z1, z2⟩)
          · exact .inr (Prod.ext z1 z2)
    · have hin : (a, b) ∈ G' := by simpa using hc
      refine okP.ok ⟨q0, fun p => ?_⟩
      rw [take_mem hb]
      constructor
      · intro z
        rcases (q1 p).mp z with z | ⟨z1, z2⟩
        · exact .inl z
        · exact .inr ⟨z1, .inl z2⟩
      · rintro (z | ⟨z1, z2 | z2⟩)
        · exact (q1 p).mpr (.inl z)
        · exact (q1 p).mpr (.inr ⟨z1, z2⟩)
        · rw [show p = (a, b) from Prod.ext z1 z2]
          exact hin
  · rw [q1, g1, take_mem ha]
    simp only [List.take_length]
    constructor
    · rintro ((z | ⟨z1, z2⟩) | ⟨z1, z2⟩)
      · exact .inl z
      · exact .inr ⟨.inl z1, z2⟩
      · exact .inr ⟨.inr z1, z2⟩
    · rintro (z | ⟨z1 | z1, z2⟩)
      · exact .inl (.inl z)
      · exact .inl (.inr ⟨z1, z2⟩)
      · exact .inr ⟨z1, z2⟩
theorem closed_nd {n : Int} (h0 : 0 ≤ n) (hn : n ≤ 16) {ps : List (Int × Int)} {P : Int × Int → Prop} (hr : ∀ p, P p → InR n p) (hc : ∀ a k b, P (a, k) → P (k, b) → P (a, b)) (nd : ps.Nodup) (hp : ∀ p ∈ ps, P p) :
    okP (m__law_closed n ps) (fun c => c.Nodup ∧ (∀ p ∈ c, P p) ∧ (∀ k, Trn c k) ∧ (∀ p ∈ ps, p ∈ c) ∧ c.Pairwise (fun a b => leP a b = true)) := by
  unfold m__law_closed
  have hl : ps.length ≤ 256 := sq_len hn nd fun p h => hr p (hp p h)
  rw [compF_p (g := some) (by omega) (fun _ _ _ => rfl), rb_ok]
  rw [show List.filterMap some ps = ps from List.filterMap_some]
  refine okP.lb (rngO_in (by decide) (by decide) (by omega) (by omega)) ?_
  refine (forS_ok (Pk := fun F => ClsN ps P F ∧ ∀ k, 0 ≤ k → k < n → Trn F k) (fun i F => ClsN ps P F ∧ ∀ k : Int, 0 ≤ k → k < i → Trn F k) ⟨⟨nd, hp, fun p h => h⟩, fun k k0 k1 => by omega⟩ ?hs (fun F ⟨f0, f1⟩ => ⟨f0, fun k k0 k1 => f1 k k0 (by rw [rng_len]; omega)⟩)).then fun F ⟨f0, f1⟩ => okP.ok ⟨?_, ?_, ?_, ?_, ?_⟩
  case hs =>
    intro i y F hy ⟨f0, f1⟩
    obtain ⟨e, hy2⟩ := rng_get hy
    rw [Int.zero_add] at e
    subst e
    have hF := f0.len hn hr
    rw [compF_p (g := fun x => if x.2 = (i : Int) then some x.1 else none) (by omega) (fun x _ _ => by by_cases q : x.2 = (i : Int) <;> simp [q]), rb_ok]
    rw [compF_p (g := fun x => if x.1 = (i : Int) then some x.2 else none) (by omega) (fun x _ _ => by by_cases q : x.1 = (i : Int) <;> simp [q]), rb_ok]
    refine (closed_in1 hn hr f0 fun a ha b hb => hc a _ b (f0.all _ (lows_mem.mp ha)) (f0.all _ (highs_mem.mp hb))).then fun G ⟨g0, g1⟩ => okP.ok ⟨g0, fun k k0 k1 a b ha hb => ?_⟩
    have m : ∀ {x z}, (x, z) ∈ G ↔ (x, z) ∈ F ∨ ((x, (i : Int)) ∈ F ∧ ((i : Int), z) ∈ F) := fun {x z} => by
      rw [g1]
      show _ ∨ (x ∈ _ ∧ z ∈ _) ↔ _
      rw [lows_mem, highs_mem]
    rw [m] at ha hb ⊢
    by_cases hk : k = (i : Int)
    · subst hk
      rcases ha with ha | ⟨ha, _⟩ <;> rcases hb with hb | ⟨_, hb⟩ <;> exact .inr ⟨ha, hb⟩
    · have ih := f1 k k0 (by omega)
      rcases ha with ha | ⟨ha, ha2⟩ <;> rcases hb with hb | ⟨hb, hb2⟩
      · exact .inl (ih a b ha hb)
      · exact .inr ⟨ih a _ ha hb, hb2⟩
      · exact .inr ⟨ha, ih _ b ha2 hb⟩
      · exact .inr ⟨ha, hb2⟩
  · unfold sortP
    exact (List.mergeSort_perm _ _).nodup_iff.mpr f0.nd
  · intro p hp'
    exact f0.all p (List.mem_mergeSort.mp hp')
  · intro k a b ha hb
    have ha' := List.mem_mergeSort.mp ha
    have hk := (hr _ (f0.all _ ha')).2
    exact List.mem_mergeSort.mpr (f1 k hk.1 hk.2 a b ha' (List.mem_mergeSort.mp hb))
  · intro p hp'
    exact List.mem_mergeSort.mpr (f0.sub p hp')
  · exact List.pairwise_mergeSort leP_trans leP_total _
end T

-- P3n
namespace T
open PySem PySem.Spec PyProof.Rows L2

/-- a drawn pair, and when it was drawn -/
def AhdI (ns : List Int) (i j : Nat) (p : Int × Int) : Prop := ∃ a b : Nat, a < b ∧ ns[a]? = some p.1 ∧ ns[b]? = some p.2 ∧ (b < i ∨ (b = i ∧ a < j))
theorem order_nd {s : List Int} {n : Int} (hs : s.length = 2) (h0 : 0 ≤ n) (hn : n ≤ 16) : okP (m__law_order s n) (fun r => r.1.1 = n ∧ OrdP n r.1.2 ∧ r.1.2.Nodup ∧ r.1.2.Pairwise (fun a b => leP a b = true) ∧ r.2.length = 2) := by
  unfold m__law_order
  refine (shuffled_ok hs h0 (by omega)).then fun r1 ⟨q1, q2⟩ => ?_
  refine (take_ok q2 (by decide) (by decide)).then fun r2 ⟨q3, q4, q5⟩ => ?_
  refine okP.lb (rngO_in (by decide) (by decide) (by omega) (by omega)) ?_
  have hl : (rng 0 n).length = n.toNat := by rw [rng_len]; omega
  refine (compF_ok (Pk := fun p => p.1.length = n.toNat ∧ p.2.length = 2) (fun i acc st => acc.length = i ∧ st.length = 2) (by omega) ⟨rfl, q5⟩ (fun i x acc st hx ⟨a1, a2⟩ => (take_ok a2 (by decide) (by decide)).then fun r ⟨z1, z2, z3⟩ => okP.ok ⟨by simp [addO, a1], z3⟩) (fun acc st ⟨a1, a2⟩ => ⟨by rw [a1, hl], a2⟩)).then fun p5 ⟨p1, p2⟩ => ?_
  refine (take_ok p2 (by decide) (by decide)).then fun r8 ⟨t1, t2, t3⟩ => ?_
  refine okP.lb (rngO_in (by decide) (by decide) (by omega) (by omega)) ?_
  refine (forS_ok (Pk := fun st => st.1.length = 2 ∧ st.2.Nodup ∧ ∀ p ∈ st.2, Ahd r1.1 p) (fun i st => st.1.length = 2 ∧ (st.2.length ≤ 16 * i ∧ st.2.Nodup) ∧ ∀ p ∈ st.2, AhdI r1.1 i 0 p) ⟨t3, by simp, by simp⟩ ?hs (fun st ⟨a1, a2, a3⟩ => ⟨a1, a2.2, fun p hp => by obtain ⟨a, b, h1, h2, h3, _⟩ := a3 p hp; exact ⟨a, b, h1, h2, h3⟩⟩)).then fun st ⟨a1, a2, a3⟩ => ?_
  case hs =>
    intro i x st hx ⟨a1, a2, a3⟩
    obtain ⟨e, hx2⟩ := rng_get hx
    rw [Int.zero_add] at e
    subst e
    refine okP.lb (rngO_in (by decide) (by decide) (by omega) (by omega)) ?_
    refine (forS_ok (Pk := fun st => st.1.length = 2 ∧ (st.2.length ≤ 16 * (i + 1) ∧ st.2.Nodup) ∧ ∀ p ∈ st.2, AhdI r1.1 (i + 1) 0 p) (fun j st => st.1.length = 2 ∧ (st.2.length ≤ 16 * i + j ∧ st.2.Nodup) ∧ ∀ p ∈ st.2, AhdI r1.1 i j p) ⟨a1, a2, a3⟩ ?hi (fun st ⟨a1, a2, a3⟩ => ⟨a1, ⟨by have := a2.1; rw [rng_len] at this; omega, a2.2⟩, fun p hp => by obtain ⟨a, b, h1, h2, h3, h4⟩ := a3 p hp; exact ⟨a, b, h1, h2, h3, .inl (by omega)⟩⟩)).then fun st h => okP.ok h
    intro j y st hy ⟨b1, ⟨b2, b2n⟩, b3⟩
    have b3' : ∀ p ∈ st.2, AhdI r1.1 i (j + 1) p := fun p hp => by obtain ⟨a, b, h1, h2, h3, h4⟩ := b3 p hp; exact ⟨a, b, h1, h2, h3, by omega⟩
    obtain ⟨e, hy2⟩ := rng_get hy
    rw [Int.zero_add] at e
    subst e
    obtain ⟨na, ea, _⟩ := q1.get (i := j) (by omega)
    obtain ⟨nb, eb, _⟩ := q1.get (i := i) (by omega)
    obtain ⟨ra, era⟩ : ∃ z, p5.1[j]? = some z := ⟨_, List.getElem?_eq_getElem (by omega)⟩
    obtain ⟨rb, erb⟩ : ∃ z, p5.1[i]? = some z := ⟨_, List.getElem?_eq_getElem (by omega)⟩
    simp only [rb_ok, rb_as]
    refine okP.then (P := fun p : Bool × List Int => p.2.length = 2) ?_ fun p hp => okP.ite (fun hc => ?_) (fun hc => okP.ok ⟨hp, ⟨by show st.2.length ≤ _; omega, b2n⟩, b3'⟩)
    · refine okP.ite (fun _ => okP.ok b1) (fun _ => ?_)
      refine okP.then (P := fun p : Bool × List Int => p.2.length = 2) (okP.ite (fun _ => okP.lb (atI_n era) (okP.lb (atI_n erb) (okP.ok b1))) (fun _ => okP.ok b1)) fun p37 h37 => okP.ite (fun _ => okP.ok h37) (fun _ => okP.ite (fun _ => ?_) (fun _ => okP.ok h37))
      exact (take_ok h37 (by decide) (by decide)).then fun r ⟨z1, z2, z3⟩ => okP.ok z3
    · refine okP.lb (atI_n ea) (okP.lb (atI_n eb) (okP.lb (appO_in (by omega)) (okP.ok ⟨hp, ⟨?_, nodup_snoc b2n fun hm => ?_⟩, fun p hp => ?_⟩)))
      · show (st.2 ++ _).length ≤ _
        rw [List.length_append]
        simp
        omega
      · obtain ⟨a, b, h1, h2, h3, h4⟩ := b3 _ hm
        have := q1.inj h2 ea
        have := q1.inj h3 eb
        omega
      · rcases List.mem_append.mp hp with z | z
        · exact b3' p z
        · rw [List.mem_singleton.mp z]
          exact ⟨j, i, by omega, ea, eb, by omega⟩
  · simp only [rb_ok, rb_as]
    refine (closed_nd h0 hn (P := fun p => InR n p ∧ Ahd r1.1 p) (fun p h => h.1) (fun a k b ⟨c1, i, j, c2, c3, c4⟩ ⟨d1, i', j', d2, d3, d4⟩ => ⟨⟨c1.1, d1.2⟩, i, j', by have := q1.inj c4 d3; omega, c3, d4⟩) a2 (fun p hp => ?_)).then fun c ⟨c1, c2, c3, c4, c5⟩ => okP.ok ⟨rfl, ⟨fun p hp => (c2 p hp).1, fun p hp e => ?_, fun a k b ha hb => c3 k a b ha hb, Nat.le_trans (sq_len hn c1 fun p hp => (c2 p hp).1) (by decide)⟩, c1, c5, a1⟩
    · obtain ⟨i, j, z1, z2, z3⟩ := a3 p hp
      exact ⟨⟨q1.2.2 _ (List.mem_of_getElem? z2), q1.2.2 _ (List.mem_of_getElem? z3)⟩, i, j, z1, z2, z3⟩
    · obtain ⟨i, j, z1, z2, z3⟩ := (c2 p hp).2
      rw [e] at z2
      have := q1.inj z2 z3
      omega

end T

-- P46
namespace T
open PySem PySem.Spec PyProof.Rows L2
/-! ## gaps -/
end T

-- P5r
namespace T
open PySem PySem.Spec PyProof.Rows L2

end T

-- P45
namespace T
open PySem PySem.Spec PyProof.Rows L2
/-! ## the law's look at an order -/
end T

-- P48
namespace T
open PySem PySem.Spec PyProof.Rows L2
/-! ## orders turned, kept, side by side -/
section
variable {m n : Int} {f g : Int → Int → Bool}
def riseF (n : Int) : Int → List Int → Option Int
  | _, [] => none
  | b, x :: xs => if (!(decide (b < x) && decide (x < n))) = true then some x else riseF n x xs
theorem rise_forS : ∀ (xs : List Int) (b : Int), ∃ l, forS xs b (fun x2 (s1 : Int) => if (!(decide (s1 < x2) && decide (x2 < n))) = true then (Res.exc (⟨"BadPlace", (fun (i : Int) => PyData.int i) x2⟩ : Exn)) else (Res.ok x2)) = (match riseF n b xs with | some x => .exc ⟨"BadPlace", .int x⟩ | none => .ok l)
  | [], b => ⟨b, rfl⟩
  | x :: xs, b => by
    obtain ⟨l, h⟩ := rise_forS xs x
    refine ⟨l, ?_⟩
    unfold forS riseF
    dsimp only
    by_cases hc : (!(decide (b < x) && decide (x < n))) = true
    · rw [if_pos hc, if_pos hc]
      rfl
    · rw [if_neg hc, if_neg hc, rb_ok, h]
theorem rise_none : ∀ (xs : List Int) (b : Int), riseF n b xs = none ↔ (∀ x ∈ xs, b < x ∧ x < n) ∧ xs.Pairwise (· < ·)
  | [], b => ⟨fun _ => ⟨(fun x h => by cases h), .nil⟩, fun _ => rfl⟩
  | x :: xs, b => by
    unfold riseF
    constructor
    · intro h
      split at h
      · cases h
      · rename_i hc
        simp only [Bool.not_eq_true', Bool.and_eq_false_iff, decide_eq_false_iff_not, not_or, Classical.not_not] at hc
        obtain ⟨a, p⟩ := (rise_none xs x).mp h
        refine ⟨fun y hy => ?_, List.pairwise_cons.mpr ⟨fun y hy => (a y hy).1, p⟩⟩
        rcases List.mem_cons.mp hy with e | hy
        · rw [e]
          exact hc
        · have := a y hy
          omega
    · rintro ⟨a, p⟩
      obtain ⟨p1, p2⟩ := List.pairwise_cons.mp p
      obtain ⟨a1, a2⟩ := a x (List.mem_cons_self ..)
      rw [if_neg (by rw [decide_eq_true a1, decide_eq_true a2]; decide)]
      exact (rise_none xs x).mpr ⟨fun y hy => ⟨p1 y hy, (a y (List.mem_cons_of_mem _ hy)).2⟩, p2⟩
def nth0 (pl : List Int) (i : Int) : Int := (pl[i.toNat]?).getD 0
theorem pl_map (pl : List Int) {β : Type} (h : Int → β) : pl.map h = (rng 0 (pl.length : Int)).map fun i => h (nth0 pl i) := by
  apply List.ext_getElem?
  intro k
  rw [List.getElem?_map, List.getElem?_map]
  by_cases hk : k < pl.length
  · rw [rng_k (by omega), List.getElem?_eq_getElem hk]
    show some _ = some (h ((pl[((k : Nat) : Int).toNat]?).getD 0))
    rw [Int.toNat_natCast, List.getElem?_eq_getElem hk]
    rfl
  · rw [List.getElem?_eq_none (by omega), List.getElem?_eq_none (by rw [rng_len]; omega)]
    rfl
theorem kept_ok {pl : List Int} (hn : n ≤ 16) (hr : riseF n (-1) pl = none) (hne : pl ≠ []) : m_kept (n, lessB n f) pl = .ok ((pl.length : Int), lessB (pl.length : Int) fun i j => f (nth0 pl i) (nth0 pl j)) := by
  obtain ⟨hr1, hp⟩ := (rise_none pl (-1)).mp hr
  have hin : ∀ x ∈ pl, 0 ≤ x ∧ x < n := fun x hx => by have := hr1 x hx; omega
  have hl : pl.length ≤ 16 := by
    have := nodup_len (l := pl) (m := rng 0 n) (hp.imp fun {a b} h e => by omega) fun x hx => rng_mem.mpr (hin x hx)
    rw [rng_len] at this
    omega
  have h0 : 0 < pl.length := List.length_pos_iff.mpr hne
  unfold m_kept
  rw [if_neg (by rw [decide_eq_true_eq]; omega)]
  obtain ⟨l, e⟩ := rise_forS (n := n) pl (-1)
  rw [hr] at e
  rw [e, rb_ok, compM (fun x => pl.map fun y => f x y) (by omega) (fun x hx s => ?_), rb_ok]
  · rw [show (pl.map fun x => pl.map fun y => f x y) = gB (pl.length : Int) fun i j => f (nth0 pl i) (nth0 pl j) from ?_, ordB_ok (by omega) (by omega), rb_ok]
    rw [pl_map pl]
    exact List.map_congr_left fun i _ => pl_map pl _
  · rw [compM (fun y => f x y) (by omega) (fun y hy s => ?_), rb_ok]
    simp only [rb_ok, rb_as]
    rw [row_at (hin y hy).1 (hin y hy).2, lift_some, rb_ok, mem_row (hin x hx).1 (hin x hx).2]
end
end T

-- P42
namespace T
open PySem PySem.Spec PyProof.Rows L2
/-! ## closed_order -/
end T

-- P42l
namespace T
open PySem PySem.Spec PyProof.Rows L2
end T

-- P51
namespace T
open PySem PySem.Spec PyProof.Rows L2
/-! ## orders that change -/
structure StF (n : Int) (f : Int → Int → Bool) : Prop where
  rg : ∀ a b, f a b = true → (0 ≤ a ∧ a < n) ∧ 0 ≤ b ∧ b < n
  ir : ∀ a, f a a = false
  tr : ∀ a k b, f a k = true → f k b = true → f a b = true
def PO (n : Int) (f : Int → Int → Bool) : List (Int × Int) := (rng 0 n).flatMap fun y => ((rng 0 n).filter fun x => f x y).map fun x => (x, y)
section
variable {n x y : Int} {f g : Int → Int → Bool}
theorem StF.of {ps : List (Int × Int)} (o : OrdP n ps) : StF n fun a b => memb (a, b) ps := ⟨fun a b h => o.rg _ (memb_of h), fun a => memb_f fun h => o.ne _ h rfl, fun a k b h1 h2 => memb_t (o.tr a k b (memb_of h1) (memb_of h2))⟩
theorem mem_PO {p : Int × Int} : p ∈ PO n f ↔ ((0 ≤ p.1 ∧ p.1 < n) ∧ 0 ≤ p.2 ∧ p.2 < n) ∧ f p.1 p.2 = true := by
  unfold PO
  rw [List.mem_flatMap]
  constructor
  · rintro ⟨b, hb, h⟩
    obtain ⟨a, ha, e⟩ := List.mem_map.mp h
    obtain ⟨ha1, ha2⟩ := List.mem_filter.mp ha
    rw [← e]
    exact ⟨⟨rng_mem.mp ha1, rng_mem.mp hb⟩, ha2⟩
  · rintro ⟨⟨h1, h2⟩, h3⟩
    exact ⟨p.2, rng_mem.mpr h2, List.mem_map.mpr ⟨p.1, List.mem_filter.mpr ⟨rng_mem.mpr h1, h3⟩, rfl⟩⟩
end
end T

-- P56p
namespace T
open PySem PySem.Spec PyProof.Rows L2
/-! ## how many -/
/-! ### the program's products -/
/-! ### rows of a class -/
end T

-- P56l
namespace T
open PySem PySem.Spec PyProof.Rows L2
end T

-- P5
namespace T
open PySem PySem.Spec PyProof.Rows L2

section
variable {n : Int} {h : List Int} {pos : Int → Nat}
theorem roads_ok (q : HouseQ n h pos) (h1 : 1 ≤ n) (hn : n ≤ 16) : m__law_roads h = .ok ((rng 0 n).map fun x => pth h n.toNat (upF h x)) := by
  apply okP.eq
  unfold m__law_roads
  rw [q.ln]
  simp only [rb_ok, rb_as]
  refine okP.lb (rngO_in (by decide) (by decide) (by omega) (by omega)) ?_
  refine (forS_ok (Pk := fun t => t = (rng 0 n).map fun x => pth h n.toNat (upF h x)) (fun i t => t = ((rng 0 n).take i).map fun x => pth h n.toNat (upF h x)) rfl (fun i x t hx e => ?_) (fun t e => by rw [e, List.take_length])).then fun t e => okP.ok e
  obtain ⟨x0, x1⟩ := rng_mem.mp (List.mem_of_getElem? hx)
  have hi := (List.getElem?_eq_some_iff.mp hx).1
  rw [rng_len] at hi
  refine okP.lb (q.at x0 x1).1 (okP.lb (rngO_in (by decide) (by decide) (by omega) (by omega)) ?_)
  refine (forS_ok (Pk := fun r => r = pth h n.toNat (upF h x)) (fun j r => r = pth h j (upF h x)) rfl (fun j y r _ er => ?_) (fun r er => by rw [er, rng_len]; congr 1; omega)).then fun r er => ?_
  · obtain ⟨l, z, gz, e3, e4⟩ := pth_snoc q j _ (q.g1 x0 x1)
    rw [er, e3]
    refine okP.lb (atI_last l z) (okP.ite (fun hc => ?_) (fun hc => ?_))
    · have hz : 0 ≤ z := of_decide_eq_true hc
      have hz1 : z < n := by
        rcases gz with y | y
        · omega
        · exact y.2
      refine okP.lb (atI_last l z) (okP.lb (q.at hz hz1).1 (okP.lb (appO_in ?_) (okP.ok ?_)))
      · have := pth_len (h := h) j (upF h x)
        rw [e3] at this
        rename_i hy
        have := (List.getElem?_eq_some_iff.mp hy).1
        rw [rng_len] at this
        omega
      · rw [e4, if_pos hz]
    · have hz : ¬ 0 ≤ z := of_decide_eq_false hc
      refine okP.ok ?_
      rw [e4, if_neg hz]
  · rw [e, er]
    refine okP.lb (appO_in ?_) (okP.ok ?_)
    · rw [List.length_map, List.length_take]
      omega
    · rw [take_snoc hx, List.map_append]
      rfl
/-- the first on the way that is not less -/
theorem due_ok (q : HouseQ n h pos) (h1 : 1 ≤ n) (hn : n ≤ 16) {ps : List (Int × Int)} (hr : ∀ p ∈ ps, InR n p) : m__law_lords ps h = .ok ((rng 0 n).map (lordF ps h n)) := by
  apply okP.eq
  unfold m__law_lords
  rw [roads_ok q h1 hn, rb_ok, q.ln]
  simp only [rb_ok, rb_as]
  refine okP.lb (rngO_in (by decide) (by decide) (by omega) (by omega)) ?_
  refine (forS_ok (Pk := fun t => t = (rng 0 n).map (lordF ps h n)) (fun i t => t = ((rng 0 n).take i).map (lordF ps h n)) rfl (fun i x t hx e => ?_) (fun t e => by rw [e, List.take_length])).then fun t e => okP.ok e
  obtain ⟨x0, x1⟩ := rng_mem.mp (List.mem_of_getElem? hx)
  have hi := (List.getElem?_eq_some_iff.mp hx).1
  rw [rng_len] at hi
  have ex : x = ((x.toNat : Nat) : Int) := by omega
  have e1 : atI ((rng 0 n).map fun x => pth h n.toNat (upF h x)) x = some (pth h n.toNat (upF h x)) := by
    refine atI_ok x0 ?_
    rw [List.getElem?_map, rng_at (by omega), show (0 : Int) + ((x.toNat : Nat) : Int) = x by omega]
    rfl
  refine okP.lb e1 ?_
  rw [compF_p (g := nls ps x) (by have := pth_len (h := h) n.toNat (upF h x); omega) (fun y _ s => by unfold nls; split <;> rfl), rb_ok]
  obtain ⟨l, el⟩ := lord_ne q hr x0 x1
  rw [el]
  refine okP.lb (atI_ok (by decide) rfl) (okP.lb (appO_in ?_) (okP.ok ?_))
  · rw [e, List.length_map, List.length_take]
    omega
  · rw [e, take_snoc hx, List.map_append]
    rfl
end
end T

-- P56
namespace T
open PySem PySem.Spec PyProof.Rows L2
end T

-- P56b
namespace T
open PySem PySem.Spec PyProof.Rows L2
end T

-- P53c
namespace T
open PySem PySem.Spec PyProof.Rows L2
/-! ## chains and flat orders -/
end T

-- P1p
namespace T
open PySem PySem.Spec PyProof.Rows L2

theorem pool_ok {ns : List Int} {k : Int} (h0 : 0 ≤ k) (h1 : k ≤ 100) : okP (m__law_pool ns k) (fun r => r.length = 2) := by
  unfold m__law_pool
  refine okP.then (P := fun _ => True) ?_ fun cell _ => ?_
  · refine okP.ite (fun hc => ?_) (fun _ => okP.ite (fun hc => ?_) (fun _ => okP.ok trivial))
    · simp only [rb_ok, rb_as]
      obtain ⟨x, e, _⟩ := atI_in (xs := ns) h0 (of_decide_eq_true hc)
      exact okP.lb e (okP.ok trivial)
    · simp only [rb_ok, rb_as]
      cases ns with
      | nil => cases hc
      | cons a l => exact okP.lb (atI_ok (by decide) rfl) (okP.ok trivial)
  · simp only [rb_ok, rb_as]
    refine okP.lb (mulO_sr (by omega)) (okP.lb (mulO_sr (by decide)) (okP.lb (modO_in (by decide)) (okP.lb (mulO_sr ?_) (okP.ok rfl))))
    split <;> decide
end T

-- P3
namespace T
open PySem PySem.Spec PyProof.Rows L2

end T

-- P3h
namespace T
open PySem PySem.Spec PyProof.Rows L2

theorem house_ok {s : List Int} {n : Int} (hs : s.length = 2) (h0 : 1 ≤ n) (hn : n ≤ 16) : okP (m__law_house s n) (fun r => HouseP n r.1 ∧ r.2.length = 2) := by
  unfold m__law_house
  refine (shuffled_ok hs (by omega) (by omega)).then fun r1 ⟨q1, q2⟩ => ?_
  refine (take_ok q2 (by decide) (by decide)).then fun r2 ⟨q3, q4, q5⟩ => ?_
  refine okP.lb (repO_one (by omega) (by omega)) ?_
  refine okP.lb (rngO_in (by decide) (by decide) (by omega) (by omega)) ?_
  refine (forS_ok (Pk := fun st => st.1.length = 2 ∧ (st.2.length : Int) = n ∧ ∀ (x : Nat) (p : Int), st.2[x]? = some p → p = -1 ∨ Ahd r1.1 (p, x)) (fun i st => st.1.length = 2 ∧ (st.2.length : Int) = n ∧ ∀ (x : Nat) (p : Int), st.2[x]? = some p → p = -1 ∨ Ahd r1.1 (p, x)) ⟨q5, by rw [List.length_replicate]; omega, fun x p e => .inl (List.eq_of_mem_replicate (List.mem_of_getElem? e))⟩ ?hs (fun st h => h)).then fun st ⟨a1, a2, a3⟩ => okP.ok ⟨⟨a2, fun x => r1.1.idxOf x, fun x p e => ?_⟩, a1⟩
  case hs =>
    intro i x st hx ⟨a1, a2, a3⟩
    obtain ⟨e, hx2⟩ := rng_get hx
    subst e
    refine (take_ok a1 (by omega) (by omega)).then fun r7 ⟨t1, t2, t3⟩ => ?_
    simp only [rb_ok, rb_as]
    refine okP.then (P := fun p : Bool × List Int => p.2.length = 2) ?_ fun p37 h37 => ?_
    · exact okP.ite (fun _ => okP.ok t3) (fun _ => okP.ite (fun _ => (take_ok t3 (by decide) (by decide)).then fun r ⟨z1, z2, z3⟩ => okP.ok z3) (fun _ => okP.ok t3))
    · refine okP.then (P := fun p : List Int × Int => p.1.length = 2 ∧ p.2 ≤ 1 + i) (okP.ite (fun _ => okP.ok ⟨h37, by show (1 : Int) + i ≤ _; omega⟩) (fun _ => okP.ok ⟨h37, by show r7.1 ≤ _; omega⟩)) fun s35 ⟨u1, u2⟩ => ?_
      refine okP.ite (fun hc => ?_) (fun _ => okP.ok ⟨u1, a2, a3⟩)
      have hc' : 0 < s35.2 := of_decide_eq_true hc
      obtain ⟨na, ea, na1, na2⟩ := q1.get (i := (s35.2 - 1).toNat) (by omega)
      obtain ⟨nb, eb, nb1, nb2⟩ := q1.get (i := 1 + i) (by omega)
      refine okP.lb (atI_ok (by omega) ea) (okP.lb (x := nb) (atI_ok (by omega) (by rw [show ((1 : Int) + (i : Int)).toNat = 1 + i by omega]; exact eb)) (okP.lb (setI_in nb1 (by omega)) (okP.ok ⟨u1, ?_, fun x p e => ?_⟩)))
      · show ((st.2.set _ _).length : Int) = n
        rw [List.length_set]
        exact a2
      · have e' : (st.2.set nb.toNat na)[x]? = some p := e
        by_cases hxx : nb.toNat = x
        · rw [← hxx, List.getElem?_set_self (by omega)] at e'
          cases e'
          refine .inr ⟨(s35.2 - 1).toNat, 1 + i, by omega, ea, ?_⟩
          show r1.1[1 + i]? = some ((x : Nat) : Int)
          rw [eb, ← hxx]
          congr 1
          omega
        · rw [List.getElem?_set_ne hxx] at e'
          exact a3 x p e'
  · have hxn : (x : Int) < n := by
      have e' : st.2[x]? = some p := e
      have := (List.getElem?_eq_some_iff.mp e').1
      omega
    obtain ⟨ix, hix⟩ := q1.all (x := (x : Int)) (by omega) hxn
    obtain ⟨jx, e1, e2⟩ := idx_lt q1 (List.mem_of_getElem? hix)
    refine ⟨?_, ?_⟩
    · rcases a3 x p e with z | ⟨i, j, z1, z2, z3⟩
      · exact .inl z
      · obtain ⟨y1, y2⟩ := q1.2.2 _ (List.mem_of_getElem? z2)
        obtain ⟨jp, e3, e4⟩ := idx_lt q1 (List.mem_of_getElem? z2)
        refine .inr ⟨y1, y2, ?_⟩
        show r1.1.idxOf p < r1.1.idxOf (x : Int)
        have w1 := q1.inj e3 z2
        have w2 := q1.inj e1 z3
        rw [show r1.1.idxOf p = jp from e4, e2]
        omega
    · show ((r1.1.idxOf (x : Int) : Nat) : Int) < n
      rw [e2]
      have := (List.getElem?_eq_some_iff.mp e1).1
      have := q1.1
      omega
end T

-- P57
namespace T
open PySem PySem.Spec PyProof.Rows L2
/-! ## classes of chains -/
section
variable {n : Int} {h f : List Int} {pos : Int → Nat} {ps : List (Int × Int)}
def ChP (n : Int) (ps : List (Int × Int)) : Prop := ∀ a b : Int, (a, b) ∈ ps ↔ 0 ≤ a ∧ a < b ∧ b < n
theorem lessF_B : lessF n ps = lessB n fun x y => memb (x, y) ps := by
  unfold lessF lessB
  exact List.map_congr_left fun y _ => fm_filter (p := fun x => memb (x, y) ps) (rng 0 n)
theorem ChP.memb (c : ChP n ps) {x y : Int} (x0 : 0 ≤ x) (y1 : y < n) : memb (x, y) ps = decide (x < y) := by
  by_cases h : x < y
  · rw [decide_eq_true h]
    exact memb_t ((c x y).mpr ⟨x0, h, y1⟩)
  · rw [decide_eq_false h]
    exact memb_f fun hm => h ((c x y).mp hm).2.1
/-! ### the size of a chain's class -/
/-! ### flat orders -/
end
end T

-- P70
namespace T
open PySem PySem.Spec PyProof.Rows L2
/-! ## all rows of one entry each -/
/-! ### what the one has beyond the other -/
end T

-- P66n
namespace T
open PySem PySem.Spec PyProof.Rows L2
/-! ## boxes narrowed -/
end T

-- P13l
namespace T
open PySem PySem.Spec PyProof.Rows L2
end T

-- P22r
namespace T
open PySem PySem.Spec PyProof.Rows L2

end T

-- P28b
namespace T
open PySem PySem.Spec PyProof.Rows L2
end T

-- P22l
namespace T
open PySem PySem.Spec PyProof.Rows L2

end T

-- P1o
namespace T
open PySem PySem.Spec PyProof.Rows L2

theorem one_ok {s ts : List Int} (hs : s.length = 2) (h0 : 0 < ts.length) (h1 : ts.length < 1000) : okP (m__law_one s ts) (fun r => r.1 ∈ ts ∧ r.2.length = 2) := by
  unfold m__law_one
  refine (take_ok hs (by omega) (by omega)).then fun r ⟨r1, r2, r3⟩ => ?_
  obtain ⟨x, e, ex⟩ := atI_in (xs := ts) r1 r2
  exact okP.lb e (okP.ok ⟨List.mem_of_getElem? ex, r3⟩)
end T

-- P8
namespace T
open PySem PySem.Spec PyProof.Rows L2

end T

-- P67n
namespace T
open PySem PySem.Spec PyProof.Rows L2
/-! ## rows that are narrowed -/
def RwG (r : List Int) : Prop := r.Pairwise (· < ·) ∧ r ≠ [] ∧ r.length ≤ 100
def RwS (n : Int) (R : List (List Int)) : Prop := (R.length : Int) = n ∧ ∀ r ∈ R, RwG r
theorem RwG.sub {r p : List Int} (h : RwG r) (s : p.Sublist r) (hp : p ≠ []) : RwG p := ⟨h.1.sublist s, hp, Nat.le_trans s.length_le h.2.2⟩
end T

-- P71
namespace T
open PySem PySem.Spec PyProof.Rows L2
/-! ## the loops that list and take away -/
end T

-- P72
namespace T
open PySem PySem.Spec PyProof.Rows L2
/-! ## boxes narrowed by the law, heaps -/
end T

-- P73
namespace T
open PySem PySem.Spec PyProof.Rows L2
/-! ## the row of the listed, heaps that hold -/
end T

-- P8n
namespace T
open PySem PySem.Spec PyProof.Rows L2
end T

-- P74
namespace T
open PySem PySem.Spec PyProof.Rows L2
/-! ## boxes of other classes -/
end T

-- P75
namespace T
open PySem PySem.Spec PyProof.Rows L2
/-! ## the law about both boxes and less_box -/
end T

-- P76
namespace T
open PySem PySem.Spec PyProof.Rows L2
end T

-- P77
namespace T
open PySem PySem.Spec PyProof.Rows L2
/-! ## two houses of one class: common places stand in one row -/
inductive Rc (h : List Int) : Int → Int → Prop
  | rf {p : Int} : Rc h p p
  | st {p z : Int} : 0 ≤ p → Rc h (upF h p) z → Rc h p z
theorem Rc.tr {h : List Int} {p z u : Int} (a : Rc h p z) (b : Rc h z u) : Rc h p u := by
  induction a with
  | rf => exact b
  | st p0 _ ih => exact .st p0 (ih b)
theorem Rc.up {h : List Int} {p z : Int} (a : Rc h p z) (ne : p ≠ z) : Rc h (upF h p) z := by
  cases a with
  | rf => exact absurd rfl ne
  | st _ a => exact a
end T

-- P78
namespace T
open PySem PySem.Spec PyProof.Rows L2
/-! ## the path as far as the lord, as a list -/
end T

-- P79
namespace T
open PySem PySem.Spec PyProof.Rows L2
end T

-- P80
namespace T
open PySem PySem.Spec PyProof.Rows L2
end T

-- P81
namespace T
open PySem PySem.Spec PyProof.Rows L2
end T

-- P82
namespace T
open PySem PySem.Spec PyProof.Rows L2
end T

-- P83w
namespace T
open PySem PySem.Spec PyProof.Rows L2
end T

-- P12w
namespace T
open PySem PySem.Spec PyProof.Rows L2

end T

-- P84c
namespace T
open PySem PySem.Spec PyProof.Rows L2
/-! ## the houses of one class, their tops -/
def Cl (n : Int) (ps : List (Int × Int)) (f : Int → Int) (h : List Int) : Prop := ∃ pos, HouseQ n h pos ∧ ∀ y, 0 ≤ y → y < n → Ld ps h y (upF h y) (f y)
section
variable {n : Int} {h a b c : List Int} {ps : List (Int × Int)} {f : Int → Int}
theorem Cl.hp (k : Cl n ps f h) : HouseP n h := by obtain ⟨p, q, _⟩ := k; exact ⟨q.ln, p, q.up⟩
theorem Cl.of (o : OrdP n ps) (q : HouseP n h) (e : ∀ y, 0 ≤ y → y < n → lordF ps h n y = f y) : Cl n ps f h := by
  obtain ⟨ln, p, u⟩ := q
  have hq : HouseQ n h p := ⟨ln, u⟩
  exact ⟨p, hq, fun y y0 y1 => e y y0 y1 ▸ ld_lord hq o.rg y0 y1⟩
theorem Cl.lord (o : OrdP n ps) (k : Cl n ps f h) {y : Int} (y0 : 0 ≤ y) (y1 : y < n) : lordF ps h n y = f y := by
  obtain ⟨p, q, l⟩ := k
  exact (ld_lord q o.rg y0 y1).det (l y y0 y1)
theorem Cl.frm (o : OrdP n ps) (k : Cl n ps f h) : frmF n ps h = (rng 0 n).map f := map_congr fun y y0 y1 => k.lord o y0 y1
theorem Cl.lords (o : OrdP n ps) (h1 : 1 ≤ n) (hn : n ≤ 16) (k : Cl n ps f h) : m_lords (n, lessF n ps) h = .ok ((rng 0 n).map f) := by
  obtain ⟨p, q, l⟩ := id k
  rw [mlords_ok q h1 hn o.rg]
  exact congrArg Res.ok (k.frm o)
end
end T

-- P90
namespace T
open PySem PySem.Spec PyProof.Rows L2
/-! ## where ups lead: just the houses whose parents stand on the ways to the lords -/
inductive Up (n : Int) (ps : List (Int × Int)) : List Int → List Int → Prop
  | rf {h : List Int} : Up n ps h h
  | st {h e : List Int} {x : Int} : 0 ≤ x → x < n → (upF h x, x) ∈ ps → Up n ps (stp h (.up x)) e → Up n ps h e
section
variable {n : Int} {h g : List Int} {pos : Int → Nat} {ps : List (Int × Int)} {f : Int → Int}
/-- the up of x, seen with the same ranks -/
theorem up_fl (q : HouseQ n h pos) (o : OrdP n ps) (fl : ∀ y, 0 ≤ y → y < n → Ld ps h y (upF h y) (f y)) {x : Int} (hm : (upF h x, x) ∈ ps) :
    HouseQ n (stp h (.up x)) pos ∧ ∀ y, 0 ≤ y → y < n → Ld ps (stp h (.up x)) y (upF (stp h (.up x)) y) (f y) := by
  have q2 : HouseQ n (stp h (.up x)) pos := house_up o q hm
  refine ⟨q2, fun y y0 y1 => ?_⟩
  have e : lordF ps (stp h (.up x)) n y = f y := (lord_up o q hm y0 y1).trans ((ld_lord q o.rg y0 y1).det (fl y y0 y1))
  exact e ▸ ld_lord q2 o.rg y0 y1
theorem Up.cl (o : OrdP n ps) {h g : List Int} (u : Up n ps h g) : Cl n ps f h → Cl n ps f g := by
  induction u with
  | rf => exact id
  | st x0 x1 hm _ ih =>
    intro k
    obtain ⟨p, q, fl⟩ := k
    obtain ⟨q2, fl2⟩ := up_fl q o fl hm
    exact ih ⟨p, q2, fl2⟩
/-! ### the product of the rows -/
end
end T

-- P1q
namespace T
open PySem PySem.Spec PyProof.Rows L2
end T

-- P13a
namespace T
open PySem PySem.Spec PyProof.Rows L2

/-! ## what is offered, by the law's own looks -/
end T

-- P13d
namespace T
open PySem PySem.Spec PyProof.Rows L2

end T

-- P13b
namespace T
open PySem PySem.Spec PyProof.Rows L2

end T

-- P13r
namespace T
open PySem PySem.Spec PyProof.Rows L2

/-! ## a drawn run of at most m deeds -/
end T

-- P85l
namespace T
open PySem PySem.Spec PyProof.Rows L2
section
variable {n : Int} {h a b c : List Int} {ps : List (Int × Int)} {f : Int → Int}
/-! ## the drawn houses -/
theorem Cl.stp (o : OrdP n ps) (ka : Cl n ps f a) {d : Dd} (l : Let n ps a d) : Cl n ps f (stp a d) :=
  Cl.of o (stp_house o ka.hp l) fun y y0 y1 => (stp_lord o ka.hp l y0 y1).trans (ka.lord o y0 y1)
end
end T

-- P91
namespace T
open PySem PySem.Spec PyProof.Rows L2
/-! ## the law's own search by ups -/
end T

-- P19a
namespace T
open PySem PySem.Spec PyProof.Rows L2

/-! ## climbing -/
end T

-- P24
namespace T
open PySem PySem.Spec PyProof.Rows L2

/-! ## houses with the same lords come of one another -/
end T

-- P13o
namespace T
open PySem PySem.Spec PyProof.Rows L2

end T

-- P25g
namespace T
open PySem PySem.Spec PyProof.Rows L2
section
variable {n : Int} {h : List Int} {ps : List (Int × Int)}
structure Bfs (n : Int) (ps : List (Int × Int)) (h : List Int) (i : Nat) (F : List (List Int)) : Prop where
  nd : F.Nodup
  hd : h ∈ F
  re : ∀ g ∈ F, ∃ ds, Rn n ps h ds g
  cl : ∀ (j : Nat) (g : List Int), j < i → F[j]? = some g → ∀ d, Let n ps g d → stp g d ∈ F
end
end T

-- P25
namespace T
open PySem PySem.Spec PyProof.Rows L2

/-! ## the law's search: all houses that come of one -/
def allT : Nat → List (List Int)
  | 0 => [[]]
  | k + 1 => (allT k).flatMap fun g => (rng (-1) 4).map fun v => v :: g
theorem allT_len : ∀ k, (allT k).length = 5 ^ k
  | 0 => rfl
  | k + 1 => by
    show ((allT k).flatMap fun g => (rng (-1) 4).map fun v => v :: g).length = _
    rw [List.length_flatMap]
    have : ∀ l : List (List Int), (l.map fun g => ((rng (-1) 4).map fun v => v :: g).length).sum = l.length * 5 := by
      intro l
      induction l with
      | nil => rfl
      | cons a l ih =>
        rw [List.map_cons, List.sum_cons, ih, List.length_map, rng_len, List.length_cons]
        show 5 + l.length * 5 = _
        omega
    rw [this, allT_len k, Nat.pow_succ]
theorem allT_mem : ∀ (g : List Int), (∀ v ∈ g, -1 ≤ v ∧ v < 4) → g ∈ allT g.length
  | [], _ => List.mem_singleton.mpr rfl
  | v :: g, h => by
    show v :: g ∈ (allT g.length).flatMap fun g => (rng (-1) 4).map fun v => v :: g
    refine List.mem_flatMap.mpr ⟨g, allT_mem g fun w hw => h w (List.mem_cons_of_mem _ hw), List.mem_map.mpr ⟨v, rng_mem.mpr (h v (List.mem_cons_self ..)), rfl⟩⟩
section
variable {n : Int} {h : List Int} {ps : List (Int × Int)}
theorem house_small (q : HouseP n h) (hn : n ≤ 4) : h ∈ allT h.length := allT_mem h fun v hv => by
  obtain ⟨i, hi⟩ := List.getElem?_of_mem hv
  obtain ⟨hl, pos, up⟩ := q
  rcases (up i v hi).1 with e | ⟨a, b, _⟩ <;> omega
theorem Bfs.len (o : OrdP n ps) (hq : HouseP n h) (hn : n ≤ 4) {F : List (List Int)} (nd : F.Nodup) (re : ∀ g ∈ F, ∃ ds, Rn n ps h ds g) : F.length ≤ 625 := by
  have hl : ((h.length : Nat) : Int) = n := hq.1
  have := nodup_len nd (m := allT h.length) fun g hg => by
    obtain ⟨ds, r⟩ := re g hg
    have gq := r.house o hq
    have gl : ((g.length : Nat) : Int) = n := gq.1
    have := house_small gq hn
    rwa [show g.length = h.length by omega] at this
  rw [allT_len] at this
  have h2 : 5 ^ h.length ≤ 5 ^ 4 := Nat.pow_le_pow_right (by decide) (by omega)
  exact Nat.le_trans this h2
end
end T

-- P61
namespace T
open PySem PySem.Spec PyProof.Rows L2
/-! ## a class within its box -/
end T

-- P14
namespace T
open PySem PySem.Spec PyProof.Rows L2

/-! ## steps and places between -/
/-- from p by lords to z -/
inductive Chn (n : Int) (L : Int → Int) (z : Int) : Int → Nat → Prop
  | stop : Chn n L z z 0
  | go {p : Int} {k : Nat} : 0 ≤ p → p < n → p ≠ z → Chn n L z (L p) k → Chn n L z p (k + 1)
theorem Chn.det {n : Int} {L : Int → Int} {z p : Int} {k : Nat} (a : Chn n L z p k) : ∀ {k'}, Chn n L z p k' → k = k' := by
  induction a with
  | stop =>
    intro k' b
    cases b with
    | stop => rfl
    | go _ _ e _ => exact absurd rfl e
  | go _ _ e _ ih =>
    intro k' b
    cases b with
    | stop => exact absurd rfl e
    | go _ _ _ b => rw [ih b]
theorem Chn.congr {n : Int} {L L' : Int → Int} {z p : Int} {k : Nat} (e : ∀ y, 0 ≤ y → y < n → L y = L' y) (a : Chn n L z p k) : Chn n L' z p k := by
  induction a with
  | stop => exact .stop
  | go p0 p1 ne _ ih =>
    refine .go p0 p1 ne ?_
    rw [← e _ p0 p1]
    exact ih
/-- the way up to the lord, counted -/
inductive LdN (ps : List (Int × Int)) (h : List Int) (y : Int) : Int → Int → Nat → Prop
  | stop {p : Int} : (p, y) ∉ ps → LdN ps h y p p 0
  | go {p z : Int} {k : Nat} : (p, y) ∈ ps → LdN ps h y (upF h p) z k → LdN ps h y p z (k + 1)
theorem LdN.det {ps : List (Int × Int)} {h : List Int} {y p z : Int} {k : Nat} (a : LdN ps h y p z k) : ∀ {z' k'}, LdN ps h y p z' k' → k = k' := by
  induction a with
  | stop n =>
    intro z' k' b
    cases b with
    | stop => rfl
    | go m _ => exact absurd m n
  | go m _ ih =>
    intro z' k' b
    cases b with
    | stop n => exact absurd m n
    | go _ b => rw [ih b]
theorem LdN.not {ps : List (Int × Int)} {h : List Int} {y p z : Int} {k : Nat} (a : LdN ps h y p z k) : (z, y) ∉ ps := by
  induction a with
  | stop n => exact n
  | go _ _ ih => exact ih
theorem Ld.not {ps : List (Int × Int)} {h : List Int} {y p z : Int} (a : Ld ps h y p z) : (z, y) ∉ ps := by
  induction a with
  | stop n => exact n
  | go _ _ ih => exact ih
end T

-- P12
namespace T
open PySem PySem.Spec PyProof.Rows L2

end T

-- P97
namespace T
open PySem PySem.Spec PyProof.Rows L2
theorem rng_pw {lo hi : Int} : (rng lo hi).Pairwise (· < ·) := by
  unfold rng
  rw [List.pairwise_map]
  exact List.pairwise_lt_range.imp fun h => by omega
end T

-- P106
namespace T
open PySem PySem.Spec PyProof.Rows L2
/-! ## a house without one of its places, no lord -/
def phi (z x : Int) : Int := if z < x then x - 1 else x
def psi (z i : Int) : Int := if z ≤ i then i + 1 else i
theorem psi_phi {z x : Int} (h : x ≠ z) : psi z (phi z x) = x := by
  unfold psi phi
  split <;> split <;> omega
theorem phi_psi {z i : Int} : phi z (psi z i) = i := by
  unfold psi phi
  split <;> split <;> omega
theorem psi_ne {z i : Int} : psi z i ≠ z := by
  unfold psi
  split <;> omega
theorem phi_in {n z x : Int} (z0 : 0 ≤ z) (z1 : z < n) (hx : x ≠ z) (x0 : 0 ≤ x) (x1 : x < n) : 0 ≤ phi z x ∧ phi z x < n - 1 := by
  unfold phi
  split <;> omega
theorem psi_in {n z i : Int} (z0 : 0 ≤ z) (z1 : z < n) (i0 : 0 ≤ i) (i1 : i < n - 1) : 0 ≤ psi z i ∧ psi z i < n := by
  unfold psi
  split <;> omega
theorem phi_m {z : Int} (z0 : 0 ≤ z) : phi z (-1) = -1 := by
  unfold phi
  rw [if_neg (by omega)]
theorem pw_eq : ∀ {l m : List Int}, l.Pairwise (· < ·) → m.Pairwise (· < ·) → (∀ v, v ∈ l ↔ v ∈ m) → l = m
  | [], [], _, _, _ => rfl
  | [], b :: m, _, _, h => absurd ((h b).mpr (List.mem_cons_self ..)) (by simp)
  | a :: l, [], _, _, h => absurd ((h a).mp (List.mem_cons_self ..)) (by simp)
  | a :: l, b :: m, h1, h2, h => by
    obtain ⟨a1, a2⟩ := List.pairwise_cons.mp h1
    obtain ⟨b1, b2⟩ := List.pairwise_cons.mp h2
    have e : a = b := by
      rcases List.mem_cons.mp ((h a).mp (List.mem_cons_self ..)) with e | ha
      · exact e
      · rcases List.mem_cons.mp ((h b).mpr (List.mem_cons_self ..)) with e | hb
        · exact e.symm
        · have := a1 b hb
          have := b1 a ha
          omega
    subst e
    congr 1
    refine pw_eq a2 b2 fun v => ⟨fun hv => ?_, fun hv => ?_⟩
    · rcases List.mem_cons.mp ((h v).mp (List.mem_cons_of_mem _ hv)) with e | w
      · have := a1 v hv
        omega
      · exact w
    · rcases List.mem_cons.mp ((h v).mpr (List.mem_cons_of_mem _ hv)) with e | w
      · have := b1 v hv
        omega
      · exact w
def plc (n z : Int) : List Int := (rng 0 n).filter fun x => !decide (x = z)
theorem plc_mem {n z v : Int} : v ∈ plc n z ↔ (0 ≤ v ∧ v < n) ∧ v ≠ z := by
  unfold plc
  rw [List.mem_filter, rng_mem]
  constructor
  · rintro ⟨a, b⟩
    exact ⟨a, fun e => by rw [decide_eq_true e] at b; cases b⟩
  · rintro ⟨a, b⟩
    exact ⟨a, by rw [decide_eq_false b]; rfl⟩
theorem plc_eq {n z : Int} (z0 : 0 ≤ z) (z1 : z < n) : plc n z = (rng 0 (n - 1)).map (psi z) := by
  refine pw_eq (rng_pw.filter _) ?_ fun v => ?_
  · rw [List.pairwise_map]
    exact rng_pw.imp fun {a b} h => by
      unfold psi
      split <;> split <;> omega
  · rw [plc_mem, List.mem_map]
    constructor
    · rintro ⟨⟨a, b⟩, c⟩
      exact ⟨phi z v, rng_mem.mpr (phi_in z0 z1 c a b), psi_phi c⟩
    · rintro ⟨i, hi, e⟩
      obtain ⟨i0, i1⟩ := rng_mem.mp hi
      rw [← e]
      exact ⟨psi_in z0 z1 i0 i1, psi_ne⟩
theorem plc_len {n z : Int} (z0 : 0 ≤ z) (z1 : z < n) : (plc n z).length = (n - 1).toNat := by
  rw [plc_eq z0 z1, List.length_map, rng_len]
  omega
theorem plc_at {n z i : Int} (z0 : 0 ≤ z) (z1 : z < n) (i0 : 0 ≤ i) (i1 : i < n - 1) : (plc n z)[i.toNat]? = some (psi z i) := by
  rw [plc_eq z0 z1, List.getElem?_map, rng_k (by omega), show ((i.toNat : Nat) : Int) = i from by omega]
  rfl
theorem plc_ix {n z v : Int} (z0 : 0 ≤ z) (z1 : z < n) (v0 : 0 ≤ v) (v1 : v < n) (ne : v ≠ z) : (((plc n z).idxOf v : Nat) : Int) = phi z v := by
  obtain ⟨p0, p1⟩ := phi_in z0 z1 ne v0 v1
  have e := plc_at z0 z1 p0 p1
  rw [psi_phi ne] at e
  obtain ⟨hl, he⟩ := List.getElem?_eq_some_iff.mp e
  have nd : (plc n z).Nodup := rng_nodup.filter _
  have := List.Nodup.idxOf_getElem nd _ hl
  rw [he] at this
  omega
def psN (n z : Int) (ps : List (Int × Int)) : List (Int × Int) := PO (n - 1) fun i j => memb (psi z i, psi z j) ps
section
variable {n z : Int} {h h' : List Int} {pos : Int → Nat} {ps : List (Int × Int)}
theorem psN_mem {i j : Int} : (i, j) ∈ psN n z ps ↔ ((0 ≤ i ∧ i < n - 1) ∧ 0 ≤ j ∧ j < n - 1) ∧ (psi z i, psi z j) ∈ ps := by
  unfold psN
  rw [mem_PO]
  exact ⟨fun ⟨a, b⟩ => ⟨a, memb_of b⟩, fun ⟨a, b⟩ => ⟨a, memb_t b⟩⟩
def skp (h : List Int) (z p : Int) : Int := if p = z then upF h z else p
theorem up_ne (q : HouseQ n h pos) (z0 : 0 ≤ z) (z1 : z < n) : upF h z ≠ z := fun e => by
  rcases (q.at z0 z1).2.1 with w | ⟨_, _, w⟩
  · omega
  · rw [e] at w
    omega
theorem skp_gd (q : HouseQ n h pos) (z0 : 0 ≤ z) (z1 : z < n) {x : Int} (x0 : 0 ≤ x) (x1 : x < n) : skp h z (upF h x) ≠ z ∧ (skp h z (upF h x) = -1 ∨ (0 ≤ skp h z (upF h x) ∧ skp h z (upF h x) < n ∧ pos (skp h z (upF h x)) < pos x)) := by
  have ez := (q.at z0 z1).2.1
  have ex := (q.at x0 x1).2.1
  unfold skp
  by_cases c : upF h x = z
  · rw [if_pos c]
    refine ⟨up_ne q z0 z1, ?_⟩
    rcases ez with w | ⟨w0, w1, w2⟩
    · exact .inl w
    · rcases ex with v | ⟨v0, v1, v2⟩
      · omega
      · rw [c] at v2
        exact .inr ⟨w0, w1, by omega⟩
  · rw [if_neg c]
    exact ⟨c, ex⟩
/-! ### the house -/
def hsN (n z : Int) (h : List Int) : List Int := (plc n z).map fun x => phi z (skp h z (upF h x))
end
end T

-- P100
namespace T
open PySem PySem.Spec PyProof.Rows L2
/-! ## the houses of a box by their numbers: the product's row -/
end T

-- P98
namespace T
open PySem PySem.Spec PyProof.Rows L2
/-! ## rows of a class, cut; the box narrowed to them -/
section
variable {n : Int} {h : List Int} {ps : List (Int × Int)}
/-- rows that are parts of rows -/
def CutR (n : Int) (R0 R : List (List Int)) : Prop := (R.length : Int) = n ∧ ∀ (i : Nat) (a b : List Int), R[i]? = some a → R0[i]? = some b → a.Sublist b ∧ a ≠ []
theorem CutR.rw {R0 R : List (List Int)} (h0 : RwS n R0) (h : CutR n R0 R) : RwS n R := by
  refine ⟨h.1, fun r hr => ?_⟩
  obtain ⟨i, hi⟩ := List.getElem?_of_mem hr
  have hl := (List.getElem?_eq_some_iff.mp hi).1
  have h1 := h.1
  have h2 := h0.1
  have hi0 : i < R0.length := by omega
  obtain ⟨s1, s2⟩ := h.2 i r _ hi (List.getElem?_eq_getElem hi0)
  exact (h0.2 _ (List.getElem_mem hi0)).sub s1 s2
theorem CutR.set {R0 R : List (List Int)} (h : CutR n R0 R) {i : Nat} {a b : List Int} (hb : R0[i]? = some b) (s : a.Sublist b) (ne : a ≠ []) : CutR n R0 (R.set i a) := by
  refine ⟨by rw [List.length_set]; exact h.1, fun j c d hc hd => ?_⟩
  by_cases e : i = j
  · subst e
    have hl := (List.getElem?_eq_some_iff.mp hc).1
    rw [List.length_set] at hl
    rw [List.getElem?_set_self hl] at hc
    cases hc
    rw [hb] at hd
    cases hd
    exact ⟨s, ne⟩
  · rw [List.getElem?_set_ne e] at hc
    exact h.2 j c d hc hd
end
end T

-- P18
namespace T
open PySem PySem.Spec PyProof.Rows L2

/-! ## the row, always the least place that may come -/
end T

-- P19
namespace T
open PySem PySem.Spec PyProof.Rows L2

end T

-- P21b
namespace T
open PySem PySem.Spec PyProof.Rows L2

/-! ## climbing leads to the lords; high houses -/
end T

-- P99
namespace T
open PySem PySem.Spec PyProof.Rows L2
section
variable {n : Int} {h g : List Int} {ps qs : List (Int × Int)} {f : Int → Int}
theorem Up.sub {a b : List Int} (sub : ∀ p ∈ qs, p ∈ ps) (u : Up n qs a b) : Up n ps a b := by
  induction u with
  | rf => exact .rf
  | st x0 x1 m _ ih => exact .st x0 x1 (sub _ m) ih
end
end T

-- P58
namespace T
open PySem PySem.Spec PyProof.Rows L2
end T

-- P101
namespace T
open PySem PySem.Spec PyProof.Rows L2
/-! ## an order grown by a pair, as pairs -/
end T

-- P16r
namespace T
open PySem PySem.Spec PyProof.Rows L2

/-! ## houses that are refused -/
section
variable {n : Int} {h : List Int} {pos : Int → Nat} {L : List (List Int)}
theorem want_unlike (hm : m_made_house h = .ok h) (hl : (h.length : Int) ≠ n) : m_want_house (n, L) h = .exc ⟨"Unlike", .int (h.length : Int)⟩ := by
  unfold m_want_house
  rw [hm, rb_ok]
  dsimp only
  rw [if_pos (by rw [decide_eq_false hl]; rfl)]
theorem made_snoc (q : HouseQ n h pos) (h1 : 1 ≤ n) (hn : n < 16) : m_made_house (h ++ [-1]) = .ok (h ++ [-1]) := by
  have hl := q.ln
  have q2 := house_rank (n := n + 1) (h := h ++ [-1]) (by rw [List.length_append, List.length_singleton]; omega) pos fun x p e => by
    by_cases hx : x < h.length
    · rw [List.getElem?_append_left hx] at e
      rcases (q.up x p e).1 with z | ⟨z0, z1, z2⟩
      · exact .inl z
      · exact .inr ⟨z0, by omega, z2⟩
    · rw [List.getElem?_append_right (by omega)] at e
      have := List.mem_of_getElem? e
      exact .inl (List.mem_singleton.mp this)
  exact mhouse_ok q2 (by omega) (by omega)
end
end T

-- P102
namespace T
open PySem PySem.Spec PyProof.Rows L2
/-! ## big draws -/
/-! ## numbers of houses of a box -/
section
variable {n : Int} {R : List (List Int)}
/-! ### the number of a house -/
theorem idxO_in {r : List Int} {v : Int} (h : v ∈ r) : idxO r v = some ((r.idxOf v : Nat) : Int) := by
  unfold idxO
  rw [memb_t h, if_pos rfl]
/-! ### a greater number, a greater house -/
end
end T

-- P66o
namespace T
open PySem PySem.Spec PyProof.Rows L2
end T

-- P26j
namespace T
open PySem PySem.Spec PyProof.Rows L2

end T

-- P7
namespace T
open PySem PySem.Spec PyProof.Rows L2

section
variable {n : Int} {h : List Int} {pos : Int → Nat}
theorem place_ok {x : Int} (h0 : 0 ≤ x) (h1 : x < n) : m_want_place n x = .ok () := by
  unfold m_want_place
  rw [decide_eq_true h0, decide_eq_true h1]
  rfl
end
end T

-- P107
namespace T
open PySem PySem.Spec PyProof.Rows L2
section
variable {n z : Int} {h g : List Int} {pos : Int → Nat} {ps : List (Int × Int)}
theorem kept_plc (o : OrdP n ps) (h1 : 1 < n) (hn : n ≤ 16) (z0 : 0 ≤ z) (z1 : z < n) : m_kept (n, lessF n ps) (plc n z) = .ok (n - 1, lessF (n - 1) (psN n z ps)) := by
  have hl := plc_len z0 z1
  have hne : plc n z ≠ [] := fun e => by
    rw [e] at hl
    simp at hl
    omega
  have hr : riseF n (-1) (plc n z) = none := (rise_none _ _).mpr ⟨fun x hx => by
    have := (plc_mem.mp hx).1
    omega, rng_pw.filter _⟩
  rw [lessF_B, kept_ok hn hr hne, lessF_B]
  have e : ((plc n z).length : Int) = n - 1 := by omega
  rw [e]
  congr 2
  refine lessB_congr fun i j i0 i1 j0 j1 => ?_
  have a : nth0 (plc n z) i = psi z i := by unfold nth0; rw [plc_at z0 z1 i0 i1]; rfl
  have b : nth0 (plc n z) j = psi z j := by unfold nth0; rw [plc_at z0 z1 j0 j1]; rfl
  rw [a, b]
  by_cases c : (psi z i, psi z j) ∈ ps
  · rw [memb_t c, memb_t (psN_mem.mpr ⟨⟨⟨i0, i1⟩, j0, j1⟩, c⟩)]
  · rw [memb_f c, memb_f fun m => c (psN_mem.mp m).2]
theorem thin_ok (o : OrdP n ps) (q : HouseQ n h pos) (h1 : 1 < n) (hn : n ≤ 16) (z0 : 0 ≤ z) (z1 : z < n) : m_thinned (n, lessF n ps) (h.map (skp h z)) (plc n z) = .ok ((n - 1, lessF (n - 1) (psN n z ps)), hsN n z h) := by
  have hl := plc_len z0 z1
  apply okP.eq
  unfold m_thinned
  refine (forS_ok (S := List Int) (Pk := fun st => st = hsN n z h) (fun i st => st = ((plc n z).take i).map fun x => phi z (skp h z (upF h x))) rfl (fun i x st hx e => ?_) (fun st e => by rw [List.take_length] at e; exact e)).then fun st e => ?_
  · obtain ⟨⟨x0, x1⟩, xz⟩ := plc_mem.mp (List.mem_of_getElem? hx)
    have ea : atI (h.map (skp h z)) x = some (skp h z (upF h x)) := by
      have hi : x.toNat < h.length := by have := q.ln; omega
      refine atI_ok x0 ?_
      rw [List.getElem?_map, List.getElem?_eq_getElem hi]
      show some (skp h z h[x.toNat]) = some (skp h z ((h[x.toNat]?).getD (-1)))
      rw [List.getElem?_eq_getElem hi]
      rfl
    have hi := (List.getElem?_eq_some_iff.mp hx).1
    obtain ⟨s1, s2⟩ := skp_gd q z0 z1 x0 x1
    have tk : (plc n z).take (i + 1) = (plc n z).take i ++ [x] := by rw [List.take_add_one, hx]; rfl
    simp only [rb_ok, rb_as, ea, lift_some]
    refine okP.then (P := fun r => r = phi z (skp h z (upF h x))) ?_ fun r er => ?_
    · rcases s2 with w | ⟨w0, w1, _⟩
      · rw [w, phi_m z0, if_pos (by decide)]
        exact okP.ok rfl
      · rw [if_neg (by rw [decide_eq_false (by omega)]; exact Bool.false_ne_true), idxO_in (plc_mem.mpr ⟨⟨w0, w1⟩, s1⟩), plc_ix z0 z1 w0 w1 s1]
        exact okP.ok rfl
    · rw [er]
      refine okP.lb (appO_in (by rw [e, List.length_map, List.length_take]; omega)) (okP.ok ?_)
      rw [e, tk, List.map_append]
      rfl
  · rw [kept_plc o h1 hn z0 z1, rb_ok, e]
    exact okP.ok rfl
theorem strike_ok (o : OrdP n ps) (q : HouseQ n h pos) (h1 : 1 < n) (hn : n ≤ 16) (z0 : 0 ≤ z) (z1 : z < n) (hz : ∀ y, 0 ≤ y → y < n → lordF ps h n y ≠ z) : m_strike (n, lessF n ps) h z = .ok ((n - 1, lessF (n - 1) (psN n z ps)), hsN n z h) := by
  have nm : z ∉ (rng 0 n).map (lordF ps h n) := fun m => by
    obtain ⟨y, hy, e⟩ := List.mem_map.mp m
    exact hz y (rng_mem.mp hy).1 (rng_mem.mp hy).2 e
  unfold m_strike
  rw [mlords_ok q (by omega) hn o.rg, rb_ok]
  dsimp only
  rw [place_ok z0 z1, rb_ok, if_neg (by rw [decide_eq_false (by omega)]; exact Bool.false_ne_true), memb_f nm, if_neg Bool.false_ne_true]
  rw [compM (g := skp h z) (by have := q.ln; omega) (fun p hp s => by
    rw [rb_ok]
    unfold skp
    by_cases c : p = z
    · rw [decide_eq_true c, if_pos rfl, if_pos c, rb_ok, rb_ok, (q.at z0 z1).1]
      rfl
    · rw [decide_eq_false c, if_neg Bool.false_ne_true, if_neg c, rb_ok]), rb_ok, rngO_in (by decide) (by decide) (by omega) (by omega), lift_some, rb_ok]
  rw [compB (fun x => !decide (x = z)) (by rw [rng_len]; omega) (fun x hx s => by split <;> rfl), rb_ok]
  rw [show (rng 0 n).filter (fun x => !decide (x = z)) = plc n z from rfl]
  dsimp only
  rw [thin_ok o q h1 hn z0 z1, rb_ok]
end
end T
set_option maxHeartbeats 4000000
namespace T
open PySem PySem.Spec PyProof.Rows L2
section
variable {n z : Int} {h g : List Int} {pos : Int → Nat} {ps : List (Int × Int)} {O : Int × List (List Int)}
theorem ts_ok {r : (Int × List (List Int)) × List Int} (e : m_strike O h z = .ok r) : m__law_told O h z = .ok (.inl r) := by
  unfold m__law_told
  rw [e]
  rfl
theorem ts_p {i : Int} (e : m_strike O h z = .exc ⟨"BadPlace", .int i⟩) : m__law_told O h z = .ok (.inr ("place", .int i)) := by
  unfold m__law_told
  rw [e]
  rfl
theorem ts_s {i : Int} (e : m_strike O h z = .exc ⟨"BadSize", .int i⟩) : m__law_told O h z = .ok (.inr ("size", .int i)) := by
  unfold m__law_told
  rw [e]
  rfl
theorem ts_l {i : Int} (e : m_strike O h z = .exc ⟨"IsLord", .int i⟩) : m__law_told O h z = .ok (.inr ("lord", .int i)) := by
  unfold m__law_told
  rw [e]
  rfl
theorem ts_u {i : Int} (e : m_strike O h z = .exc ⟨"Unlike", .int i⟩) : m__law_told O h z = .ok (.inr ("unlike", .int i)) := by
  unfold m__law_told
  rw [e]
  rfl
theorem plo (hz : ¬ (0 ≤ z ∧ z < n)) : m_want_place n z = .exc ⟨"BadPlace", .int z⟩ := by
  unfold m_want_place
  rw [if_pos]
  rw [Bool.not_eq_true', Bool.and_eq_false_iff]
  by_cases c : 0 ≤ z
  · exact .inr (decide_eq_false fun w => hz ⟨c, w⟩)
  · exact .inl (decide_eq_false c)
theorem stk_place (o : OrdP n ps) (q : HouseQ n h pos) (h1 : 1 ≤ n) (hn : n ≤ 16) (hz : ¬ (0 ≤ z ∧ z < n)) : m_strike (n, lessF n ps) h z = .exc ⟨"BadPlace", .int z⟩ := by
  unfold m_strike
  rw [mlords_ok q h1 hn o.rg, rb_ok]
  dsimp only
  rw [plo hz]
  rfl
theorem stk_size (o : OrdP 1 ps) (q : HouseQ 1 h pos) (z0 : 0 ≤ z) (z1 : z < 1) : m_strike (1, lessF 1 ps) h z = .exc ⟨"BadSize", .int 1⟩ := by
  unfold m_strike
  rw [mlords_ok q (by decide) (by decide) o.rg, rb_ok]
  dsimp only
  rw [place_ok z0 z1, rb_ok]
  rfl
theorem stk_lord (o : OrdP n ps) (q : HouseQ n h pos) (h1 : 1 < n) (hn : n ≤ 16) (z0 : 0 ≤ z) (z1 : z < n) (hz : z ∈ frmF n ps h) : m_strike (n, lessF n ps) h z = .exc ⟨"IsLord", .int z⟩ := by
  unfold m_strike
  rw [mlords_ok q (by omega) hn o.rg, rb_ok]
  dsimp only
  rw [place_ok z0 z1, rb_ok, if_neg (by rw [decide_eq_false (by omega)]; exact Bool.false_ne_true), show memb z ((rng 0 n).map (lordF ps h n)) = true from memb_t hz]
  rfl
theorem stk_unlike (q : HouseQ n h pos) (h1 : 1 ≤ n) (hn : n < 16) {x : List (List Int)} : m_strike (n, x) (h ++ [-1]) z = .exc ⟨"Unlike", .int (n + 1)⟩ := by
  have hl := q.ln
  have e := want_unlike (n := n) (L := x) (made_snoc q h1 hn) (by rw [List.length_append, List.length_singleton]; omega)
  rw [List.length_append, List.length_singleton, show ((h.length + 1 : Nat) : Int) = n + 1 from by omega] at e
  unfold m_strike m_lords
  rw [e]
  rfl
theorem lkept_ok (o : OrdP n ps) (q : HouseQ n h pos) (h1 : 1 < n) (hn : n ≤ 16) (z0 : 0 ≤ z) (z1 : z < n) : m__law_kept ps ((rng 0 n).map fun x => skp h z (upF h x)) (plc n z) = .ok (lessF (n - 1) (psN n z ps), hsN n z h) := by
  have hl := plc_len z0 z1
  have lt : ∀ v : Int, 0 ≤ v → v < n → v ≠ z → idxO (plc n z) v = some (phi z v) := fun v v0 v1 ne => by rw [idxO_in (plc_mem.mpr ⟨⟨v0, v1⟩, ne⟩), plc_ix z0 z1 v0 v1 ne]
  apply okP.eq
  unfold m__law_kept
  refine (forS_ok (S := List (List Int)) (Pk := fun st => st = lessF (n - 1) (psN n z ps)) (fun i st => st = ((plc n z).take i).map fun y => (plc n z).filterMap fun x => if memb (x, y) ps = true then some (phi z x) else none) rfl (fun i x st hx e => ?_) (fun st e => ?_)).then fun st e => ?_
  · have hi := (List.getElem?_eq_some_iff.mp hx).1
    have tk : (plc n z).take (i + 1) = (plc n z).take i ++ [x] := by rw [List.take_add_one, hx]; rfl
    rw [compF_p (g := fun u => if memb (u, x) ps = true then some (phi z u) else none) (by omega) (fun u hu s => by
      obtain ⟨⟨u0, u1⟩, uz⟩ := plc_mem.mp hu
      rw [rb_ok, rb_ok, lt u u0 u1 uz, lift_some, rb_ok]
      split <;> rfl), rb_ok]
    refine okP.lb (appO_in (by rw [e, List.length_map, List.length_take]; omega)) (okP.ok ?_)
    rw [e, tk, List.map_append]
    rfl
  · rw [List.take_length] at e
    rw [e, plc_eq z0 z1, List.map_map]
    refine map_congr fun j j0 j1 => ?_
    show ((rng 0 (n - 1)).map (psi z)).filterMap (fun x => if memb (x, psi z j) ps = true then some (phi z x) else none) = _
    rw [List.filterMap_map]
    refine fmap_congr fun i hi => ?_
    obtain ⟨i0, i1⟩ := rng_mem.mp hi
    show (if memb (psi z i, psi z j) ps = true then some (phi z (psi z i)) else none) = _
    rw [phi_psi]
    by_cases c : (psi z i, psi z j) ∈ ps
    · rw [memb_t c, memb_t (psN_mem.mpr ⟨⟨⟨i0, i1⟩, j0, j1⟩, c⟩)]
    · rw [memb_f c, memb_f fun m => c (psN_mem.mp m).2]
  · rw [compM (g := fun x => phi z (skp h z (upF h x))) (by omega) (fun x hx s => by
      obtain ⟨⟨x0, x1⟩, xz⟩ := plc_mem.mp hx
      obtain ⟨s1, s2⟩ := skp_gd q z0 z1 x0 x1
      have ea : atI ((rng 0 n).map fun x => skp h z (upF h x)) x = some (skp h z (upF h x)) := by
        refine atI_ok x0 ?_
        rw [List.getElem?_map, rng_k (by omega), show ((x.toNat : Nat) : Int) = x from by omega]
        rfl
      simp only [rb_ok, rb_as, ea, lift_some]
      rcases s2 with w | ⟨w0, w1, _⟩
      · rw [w, memb_f (fun m => by have := (plc_mem.mp m).1; omega), if_neg Bool.false_ne_true, phi_m z0, rb_ok]
      · rw [memb_t (plc_mem.mpr ⟨⟨w0, w1⟩, s1⟩), if_pos rfl, lt _ w0 w1 s1, lift_some, rb_ok]), rb_ok, e]
    exact okP.ok rfl
theorem lstruck_ok (o : OrdP n ps) (q : HouseQ n h pos) (h1 : 1 < n) (hn : n ≤ 16) (z0 : 0 ≤ z) (z1 : z < n) : m__law_struck_right ((n - 1, lessF (n - 1) (psN n z ps)), hsN n z h) n ps h z = .ok true := by
  unfold m__law_struck_right
  rw [rngO_in (by decide) (by decide) (by omega) (by omega), lift_some, rb_ok]
  rw [compB (fun x => !decide (x = z)) (by rw [rng_len]; omega) (fun x hx s => by split <;> rfl), rb_ok]
  rw [show (rng 0 n).filter (fun x => !decide (x = z)) = plc n z from rfl]
  rw [rb_ok]
  rw [compM (g := fun x => skp h z (upF h x)) (by rw [rng_len]; omega) (fun x hx s => by
    obtain ⟨x0, x1⟩ := rng_mem.mp hx
    simp only [rb_ok, rb_as, (q.at x0 x1).1, (q.at z0 z1).1, lift_some]
    unfold skp
    by_cases c : upF h x = z
    · rw [decide_eq_true c, if_pos rfl, if_pos c, rb_ok]
    · rw [decide_eq_false c, if_neg Bool.false_ne_true, if_neg c, rb_ok]), rb_ok]
  dsimp only
  rw [lkept_ok o q h1 hn z0 z1, rb_ok]
  simp [rb_ok]
theorem skz : PyData.strOk "size" = true := by decide +kernel
theorem skl : PyData.strOk "lord" = true := by decide +kernel
theorem skpp : PyData.strOk "place" = true := by decide +kernel
theorem skuu : PyData.strOk "unlike" = true := by decide +kernel
theorem case45 {s : List Int} (hs : s.length = 2) : okP (m__law_case s) (fun r => r.1 = true) := by
  unfold m__law_case
  refine okP.then (P := fun r => 1 ≤ r.1 ∧ r.1 ≤ 6 ∧ r.2.length = 2) ?_ fun r1 ⟨z1, z2, z3⟩ => ?_
  · unfold m__law_places
    refine (one_ok hs (by simp) (by simp)).then fun r ⟨o1, o2⟩ => okP.ok ⟨?_, ?_, o2⟩
    all_goals
      simp only [List.mem_cons, List.not_mem_nil, or_false] at o1
      show _ ≤ _
      omega
  refine (order_nd z3 (by omega) (by omega)).then fun r2 ⟨e1, o, nd3, _, w3⟩ => ?_
  obtain ⟨⟨n, ps⟩, s3⟩ := r2
  have e1' : n = r1.1 := e1
  have n1 : 1 ≤ n := by omega
  have n2 : n ≤ 16 := by omega
  have n6 : n < 16 := by omega
  have o' : OrdP n ps := by rw [e1']; exact o
  dsimp only
  refine (house_ok w3 n1 n2).then fun r3 ⟨hq, w4⟩ => ?_
  obtain ⟨h, s4⟩ := r3
  have hq' : HouseP n h := hq
  have w4' : s4.length = 2 := w4
  obtain ⟨ln, p, u⟩ := id hq'
  have q : HouseQ n h p := ⟨ln, u⟩
  dsimp only
  rw [made_ok n1 n2 o', rb_ok, show m__law_lords ps h = .ok (frmF n ps h) from due_ok q n1 n2 o'.rg, rb_ok]
  refine okP.lb (rngO_in (by decide) (by decide) (by omega) (by omega)) ?_
  refine okP.then (P := fun w => w = Lr.done ()) ?_ fun w ew => ?_
  · refine forC_ok (S := Unit) (Pk := fun w => w = Lr.done ()) (fun _ _ => True) trivial (fun i x st hx _ => ?_) (fun s _ => rfl)
    obtain ⟨x0, x1⟩ := rng_mem.mp (List.mem_of_getElem? hx)
    by_cases c1 : n = 1
    · subst c1
      rw [ts_s (stk_size o' q x0 x1), rb_ok, if_pos (decide_eq_true rfl)]
      simp only [rb_ok, rb_as, sumR, lift_some]
      rw [ne_I skz, lift_some, rb_ok, if_neg Bool.false_ne_true]
      exact okP.ok (.inl ⟨(), rfl, trivial⟩)
    · have h1 : 1 < n := by omega
      by_cases m : x ∈ frmF n ps h
      · rw [ts_l (stk_lord o' q h1 n2 x0 x1 m), rb_ok, decide_eq_false c1, if_neg Bool.false_ne_true, memb_t m, if_pos rfl]
        simp only [rb_ok, rb_as, sumR, lift_some]
        rw [ne_I skl, lift_some, rb_ok, if_neg Bool.false_ne_true]
        exact okP.ok (.inl ⟨(), rfl, trivial⟩)
      · have hz : ∀ y, 0 ≤ y → y < n → lordF ps h n y ≠ x := fun y y0 y1 ey => m (List.mem_map.mpr ⟨y, rng_mem.mpr ⟨y0, y1⟩, ey⟩)
        rw [ts_ok (strike_ok o' q h1 n2 x0 x1 hz), rb_ok, decide_eq_false c1, if_neg Bool.false_ne_true, memb_f m, if_neg Bool.false_ne_true]
        simp only [rb_ok, rb_as, sumL, lift_some]
        rw [lstruck_ok o' q h1 n2 x0 x1, rb_ok, if_neg (by decide)]
        exact okP.ok (.inl ⟨(), rfl, trivial⟩)
  subst ew
  dsimp only
  refine okP.then (P := fun r => ¬ (0 ≤ r.1 ∧ r.1 < n)) ?_ fun r28 hf => ?_
  · unfold m__law_names
    refine (one_ok w4' (by simp) (by simp)).then fun r ⟨o1, o2⟩ => okP.ok ?_
    simp only [List.mem_cons, List.not_mem_nil, or_false] at o1
    show ¬ (0 ≤ r.1 ∧ r.1 < n)
    have : (10 : Int) ^ ((9 : Int)).toNat = 1000000000 := by decide
    omega
  rw [ts_p (stk_place o' q n1 n2 hf)]
  simp only [rb_ok, rb_as, sumR, lift_some]
  rw [ne_I skpp, lift_some, rb_ok, if_neg Bool.false_ne_true]
  refine okP.lb (catO_in (by rw [List.length_singleton]; omega)) ?_
  rw [ts_u (stk_unlike q n1 n6), rb_ok]
  simp only [rb_ok, rb_as, sumR, lift_some]
  rw [eq_I skuu]
  exact okP.ok rfl
end
theorem law_true (ns : List Int) (hl : ns.length ≤ 63) : m_law ns = .ok true := by
  apply okP.eq
  unfold m_law
  have hb : max (1 : Int) (min (ns.length : Int) 8) ≤ 8 := by omega
  refine okP.lb (rngO_in (by decide) (by decide) (by omega) (by omega)) ?_
  refine (forC_ok (Pk := fun l => ∃ s, l = .done s) (fun _ _ => True) trivial (fun i x s hx _ => ?_) (fun s _ => ⟨s, rfl⟩)).then fun l ⟨s1, e⟩ => by
    rw [e]
    exact okP.ok rfl
  obtain ⟨x0, x1⟩ := rng_mem.mp (List.mem_of_getElem? hx)
  simp only [rb_ok, rb_as]
  refine (pool_ok x0 (by omega)).then fun r8 h8 => ?_
  refine (case45 h8).then fun r9 e => ?_
  rw [e]
  exact okP.ok (.inl ⟨_, rfl, trivial⟩)
end T
set_option maxHeartbeats 4000000
namespace T
open PySem PySem.Spec PyProof.Rows L2
theorem rx {w : World} {K : Fg} {mg : Str → Option Value} {base : Heap} (hms : mg "super" = none) (c : SaysE Hd.fa Hd.fn "Refused" Hd.rv Hd.ex K) : RefOk (PySem.Challenge.rw_nearlords_k45_houses_struck).prog w K mg base (He.ga K "Refused") (He.ma K (He.ga K "Refused") "__init__") :=
  ⟨refI_ok (c.rf.trans rfl) (He.ba (Hd.exE c.ex)).1 rfl ⟨rfl, rfl, rfl, by decide +kernel, rfl, by decide +kernel, by decide +kernel, by decide +kernel, by decide +kernel⟩ rfl rfl rfl hms rfl rfl (fun cc doc pm an cdv ct us hl => match us, hl with | [_, _], _ => rfl)⟩
theorem fcts {w : World} {K : Fg} {mg : Str → Option Value} {h base : Heap} (X : K.In h) (G : h.Ns mainGlobals mg) (cE : SaysE Hd.fa Hd.fn "Refused" Hd.rv Hd.ex K) : Fcts (PySem.Challenge.rw_nearlords_k45_houses_struck).prog w K mg base (He.ga K "Order") where
  f_any := He.free_ok X G (cE.d.fact 32 (f := .free "any") rfl)
  f_enumerate := He.free_ok X G (cE.d.fact 33 (f := .free "enumerate") rfl)
  f_int := He.free_ok X G (cE.d.fact 34 (f := .free "int") rfl)
  f_isinstance := He.free_ok X G (cE.d.fact 35 (f := .free "isinstance") rfl)
  f_len := He.free_ok X G (cE.d.fact 36 (f := .free "len") rfl)
  f_max := He.free_ok X G (cE.d.fact 37 (f := .free "max") rfl)
  f_min := He.free_ok X G (cE.d.fact 38 (f := .free "min") rfl)
  f_range := He.free_ok X G (cE.d.fact 39 (f := .free "range") rfl)
  f_sorted := He.free_ok X G (cE.d.fact 40 (f := .free "sorted") rfl)
  f_str := He.free_ok X G (cE.d.fact 41 (f := .free "str") rfl)
  f_tuple := He.free_ok X G (cE.d.fact 42 (f := .free "tuple") rfl)
  i_DOOR := He.int_ok X G (cE.d.fact 43 (f := .int "DOOR" (-1)) rfl)
  i_MOST := He.int_ok X G (cE.d.fact 44 (f := .int "MOST" (16)) rfl)
  i_MOST_PLACES := He.int_ok X G (cE.d.fact 45 (f := .int "MOST_PLACES" (16)) rfl)
  x_BadPair := raiseC_of (He.glo_ok X G (cE.d.fact 52 (f := .glo "BadPair") rfl)) (errsB_at (Hd.exE cE.ex) (by decide)) (rx (He.free_ok X G (cE.d.fact 100 (f := .free "super") rfl)) cE)
  x_BadParent := raiseC_of (He.glo_ok X G (cE.d.fact 54 (f := .glo "BadParent") rfl)) (errsB_at (Hd.exE cE.ex) (by decide)) (rx (He.free_ok X G (cE.d.fact 100 (f := .free "super") rfl)) cE)
  x_BadPlace := raiseC_of (He.glo_ok X G (cE.d.fact 57 (f := .glo "BadPlace") rfl)) (errsB_at (Hd.exE cE.ex) (by decide)) (rx (He.free_ok X G (cE.d.fact 100 (f := .free "super") rfl)) cE)
  x_BadSize := raiseC_of (He.glo_ok X G (cE.d.fact 51 (f := .glo "BadSize") rfl)) (errsB_at (Hd.exE cE.ex) (by decide)) (rx (He.free_ok X G (cE.d.fact 100 (f := .free "super") rfl)) cE)
  x_IsLord := raiseC_of (He.glo_ok X G (cE.d.fact 58 (f := .glo "IsLord") rfl)) (errsB_at (Hd.exE cE.ex) (by decide)) (rx (He.free_ok X G (cE.d.fact 100 (f := .free "super") rfl)) cE)
  x_NotOrder := raiseC_of (He.glo_ok X G (cE.d.fact 53 (f := .glo "NotOrder") rfl)) (errsB_at (Hd.exE cE.ex) (by decide)) (rx (He.free_ok X G (cE.d.fact 100 (f := .free "super") rfl)) cE)
  x_Round := raiseC_of (He.glo_ok X G (cE.d.fact 55 (f := .glo "Round") rfl)) (errsB_at (Hd.exE cE.ex) (by decide)) (rx (He.free_ok X G (cE.d.fact 100 (f := .free "super") rfl)) cE)
  x_Unlike := raiseC_of (He.glo_ok X G (cE.d.fact 56 (f := .glo "Unlike") rfl)) (errsB_at (Hd.exE cE.ex) (by decide)) (rx (He.free_ok X G (cE.d.fact 100 (f := .free "super") rfl)) cE)
  em_BadPlace := ⟨_, He.glo_ok X G (cE.d.fact 57 (f := .glo "BadPlace") rfl), fun x hx => by
    simp only [List.mem_cons, List.not_mem_nil, or_false] at hx
    rcases hx with rfl | rfl | rfl | rfl | rfl | rfl | rfl | rfl
    · exact ⟨_, He.glo_ok X G (cE.d.fact 51 (f := .glo "BadSize") rfl), He.exm_ok (cE.d.fact 60 (f := .exm "BadSize" "BadPlace" false) rfl), (errsB_at (Hd.exE cE.ex) (by decide)).wh⟩
    · exact ⟨_, He.glo_ok X G (cE.d.fact 52 (f := .glo "BadPair") rfl), He.exm_ok (cE.d.fact 61 (f := .exm "BadPair" "BadPlace" false) rfl), (errsB_at (Hd.exE cE.ex) (by decide)).wh⟩
    · exact ⟨_, He.glo_ok X G (cE.d.fact 53 (f := .glo "NotOrder") rfl), He.exm_ok (cE.d.fact 62 (f := .exm "NotOrder" "BadPlace" false) rfl), (errsB_at (Hd.exE cE.ex) (by decide)).wh⟩
    · exact ⟨_, He.glo_ok X G (cE.d.fact 54 (f := .glo "BadParent") rfl), He.exm_ok (cE.d.fact 63 (f := .exm "BadParent" "BadPlace" false) rfl), (errsB_at (Hd.exE cE.ex) (by decide)).wh⟩
    · exact ⟨_, He.glo_ok X G (cE.d.fact 55 (f := .glo "Round") rfl), He.exm_ok (cE.d.fact 64 (f := .exm "Round" "BadPlace" false) rfl), (errsB_at (Hd.exE cE.ex) (by decide)).wh⟩
    · exact ⟨_, He.glo_ok X G (cE.d.fact 56 (f := .glo "Unlike") rfl), He.exm_ok (cE.d.fact 65 (f := .exm "Unlike" "BadPlace" false) rfl), (errsB_at (Hd.exE cE.ex) (by decide)).wh⟩
    · exact ⟨_, He.glo_ok X G (cE.d.fact 57 (f := .glo "BadPlace") rfl), He.exm_ok (cE.d.fact 66 (f := .exm "BadPlace" "BadPlace" true) rfl), (errsB_at (Hd.exE cE.ex) (by decide)).wh⟩
    · exact ⟨_, He.glo_ok X G (cE.d.fact 58 (f := .glo "IsLord") rfl), He.exm_ok (cE.d.fact 67 (f := .exm "IsLord" "BadPlace" false) rfl), (errsB_at (Hd.exE cE.ex) (by decide)).wh⟩⟩
  em_BadSize := ⟨_, He.glo_ok X G (cE.d.fact 51 (f := .glo "BadSize") rfl), fun x hx => by
    simp only [List.mem_cons, List.not_mem_nil, or_false] at hx
    rcases hx with rfl | rfl | rfl | rfl | rfl | rfl | rfl | rfl
    · exact ⟨_, He.glo_ok X G (cE.d.fact 51 (f := .glo "BadSize") rfl), He.exm_ok (cE.d.fact 68 (f := .exm "BadSize" "BadSize" true) rfl), (errsB_at (Hd.exE cE.ex) (by decide)).wh⟩
    · exact ⟨_, He.glo_ok X G (cE.d.fact 52 (f := .glo "BadPair") rfl), He.exm_ok (cE.d.fact 69 (f := .exm "BadPair" "BadSize" false) rfl), (errsB_at (Hd.exE cE.ex) (by decide)).wh⟩
    · exact ⟨_, He.glo_ok X G (cE.d.fact 53 (f := .glo "NotOrder") rfl), He.exm_ok (cE.d.fact 70 (f := .exm "NotOrder" "BadSize" false) rfl), (errsB_at (Hd.exE cE.ex) (by decide)).wh⟩
    · exact ⟨_, He.glo_ok X G (cE.d.fact 54 (f := .glo "BadParent") rfl), He.exm_ok (cE.d.fact 71 (f := .exm "BadParent" "BadSize" false) rfl), (errsB_at (Hd.exE cE.ex) (by decide)).wh⟩
    · exact ⟨_, He.glo_ok X G (cE.d.fact 55 (f := .glo "Round") rfl), He.exm_ok (cE.d.fact 72 (f := .exm "Round" "BadSize" false) rfl), (errsB_at (Hd.exE cE.ex) (by decide)).wh⟩
    · exact ⟨_, He.glo_ok X G (cE.d.fact 56 (f := .glo "Unlike") rfl), He.exm_ok (cE.d.fact 73 (f := .exm "Unlike" "BadSize" false) rfl), (errsB_at (Hd.exE cE.ex) (by decide)).wh⟩
    · exact ⟨_, He.glo_ok X G (cE.d.fact 57 (f := .glo "BadPlace") rfl), He.exm_ok (cE.d.fact 74 (f := .exm "BadPlace" "BadSize" false) rfl), (errsB_at (Hd.exE cE.ex) (by decide)).wh⟩
    · exact ⟨_, He.glo_ok X G (cE.d.fact 58 (f := .glo "IsLord") rfl), He.exm_ok (cE.d.fact 75 (f := .exm "IsLord" "BadSize" false) rfl), (errsB_at (Hd.exE cE.ex) (by decide)).wh⟩⟩
  em_IsLord := ⟨_, He.glo_ok X G (cE.d.fact 58 (f := .glo "IsLord") rfl), fun x hx => by
    simp only [List.mem_cons, List.not_mem_nil, or_false] at hx
    rcases hx with rfl | rfl | rfl | rfl | rfl | rfl | rfl | rfl
    · exact ⟨_, He.glo_ok X G (cE.d.fact 51 (f := .glo "BadSize") rfl), He.exm_ok (cE.d.fact 76 (f := .exm "BadSize" "IsLord" false) rfl), (errsB_at (Hd.exE cE.ex) (by decide)).wh⟩
    · exact ⟨_, He.glo_ok X G (cE.d.fact 52 (f := .glo "BadPair") rfl), He.exm_ok (cE.d.fact 77 (f := .exm "BadPair" "IsLord" false) rfl), (errsB_at (Hd.exE cE.ex) (by decide)).wh⟩
    · exact ⟨_, He.glo_ok X G (cE.d.fact 53 (f := .glo "NotOrder") rfl), He.exm_ok (cE.d.fact 78 (f := .exm "NotOrder" "IsLord" false) rfl), (errsB_at (Hd.exE cE.ex) (by decide)).wh⟩
    · exact ⟨_, He.glo_ok X G (cE.d.fact 54 (f := .glo "BadParent") rfl), He.exm_ok (cE.d.fact 79 (f := .exm "BadParent" "IsLord" false) rfl), (errsB_at (Hd.exE cE.ex) (by decide)).wh⟩
    · exact ⟨_, He.glo_ok X G (cE.d.fact 55 (f := .glo "Round") rfl), He.exm_ok (cE.d.fact 80 (f := .exm "Round" "IsLord" false) rfl), (errsB_at (Hd.exE cE.ex) (by decide)).wh⟩
    · exact ⟨_, He.glo_ok X G (cE.d.fact 56 (f := .glo "Unlike") rfl), He.exm_ok (cE.d.fact 81 (f := .exm "Unlike" "IsLord" false) rfl), (errsB_at (Hd.exE cE.ex) (by decide)).wh⟩
    · exact ⟨_, He.glo_ok X G (cE.d.fact 57 (f := .glo "BadPlace") rfl), He.exm_ok (cE.d.fact 82 (f := .exm "BadPlace" "IsLord" false) rfl), (errsB_at (Hd.exE cE.ex) (by decide)).wh⟩
    · exact ⟨_, He.glo_ok X G (cE.d.fact 58 (f := .glo "IsLord") rfl), He.exm_ok (cE.d.fact 83 (f := .exm "IsLord" "IsLord" true) rfl), (errsB_at (Hd.exE cE.ex) (by decide)).wh⟩⟩
  em_Refused := ⟨_, He.glo_ok X G (cE.d.fact 59 (f := .glo "Refused") rfl), fun x hx => by
    simp only [List.mem_cons, List.not_mem_nil, or_false] at hx
    rcases hx with rfl | rfl | rfl | rfl | rfl | rfl | rfl | rfl
    · exact ⟨_, He.glo_ok X G (cE.d.fact 51 (f := .glo "BadSize") rfl), He.exm_ok (cE.d.fact 84 (f := .exm "BadSize" "Refused" true) rfl), (errsB_at (Hd.exE cE.ex) (by decide)).wh⟩
    · exact ⟨_, He.glo_ok X G (cE.d.fact 52 (f := .glo "BadPair") rfl), He.exm_ok (cE.d.fact 85 (f := .exm "BadPair" "Refused" true) rfl), (errsB_at (Hd.exE cE.ex) (by decide)).wh⟩
    · exact ⟨_, He.glo_ok X G (cE.d.fact 53 (f := .glo "NotOrder") rfl), He.exm_ok (cE.d.fact 86 (f := .exm "NotOrder" "Refused" true) rfl), (errsB_at (Hd.exE cE.ex) (by decide)).wh⟩
    · exact ⟨_, He.glo_ok X G (cE.d.fact 54 (f := .glo "BadParent") rfl), He.exm_ok (cE.d.fact 87 (f := .exm "BadParent" "Refused" true) rfl), (errsB_at (Hd.exE cE.ex) (by decide)).wh⟩
    · exact ⟨_, He.glo_ok X G (cE.d.fact 55 (f := .glo "Round") rfl), He.exm_ok (cE.d.fact 88 (f := .exm "Round" "Refused" true) rfl), (errsB_at (Hd.exE cE.ex) (by decide)).wh⟩
    · exact ⟨_, He.glo_ok X G (cE.d.fact 56 (f := .glo "Unlike") rfl), He.exm_ok (cE.d.fact 89 (f := .exm "Unlike" "Refused" true) rfl), (errsB_at (Hd.exE cE.ex) (by decide)).wh⟩
    · exact ⟨_, He.glo_ok X G (cE.d.fact 57 (f := .glo "BadPlace") rfl), He.exm_ok (cE.d.fact 90 (f := .exm "BadPlace" "Refused" true) rfl), (errsB_at (Hd.exE cE.ex) (by decide)).wh⟩
    · exact ⟨_, He.glo_ok X G (cE.d.fact 58 (f := .glo "IsLord") rfl), He.exm_ok (cE.d.fact 91 (f := .exm "IsLord" "Refused" true) rfl), (errsB_at (Hd.exE cE.ex) (by decide)).wh⟩⟩
  em_Unlike := ⟨_, He.glo_ok X G (cE.d.fact 56 (f := .glo "Unlike") rfl), fun x hx => by
    simp only [List.mem_cons, List.not_mem_nil, or_false] at hx
    rcases hx with rfl | rfl | rfl | rfl | rfl | rfl | rfl | rfl
    · exact ⟨_, He.glo_ok X G (cE.d.fact 51 (f := .glo "BadSize") rfl), He.exm_ok (cE.d.fact 92 (f := .exm "BadSize" "Unlike" false) rfl), (errsB_at (Hd.exE cE.ex) (by decide)).wh⟩
    · exact ⟨_, He.glo_ok X G (cE.d.fact 52 (f := .glo "BadPair") rfl), He.exm_ok (cE.d.fact 93 (f := .exm "BadPair" "Unlike" false) rfl), (errsB_at (Hd.exE cE.ex) (by decide)).wh⟩
    · exact ⟨_, He.glo_ok X G (cE.d.fact 53 (f := .glo "NotOrder") rfl), He.exm_ok (cE.d.fact 94 (f := .exm "NotOrder" "Unlike" false) rfl), (errsB_at (Hd.exE cE.ex) (by decide)).wh⟩
    · exact ⟨_, He.glo_ok X G (cE.d.fact 54 (f := .glo "BadParent") rfl), He.exm_ok (cE.d.fact 95 (f := .exm "BadParent" "Unlike" false) rfl), (errsB_at (Hd.exE cE.ex) (by decide)).wh⟩
    · exact ⟨_, He.glo_ok X G (cE.d.fact 55 (f := .glo "Round") rfl), He.exm_ok (cE.d.fact 96 (f := .exm "Round" "Unlike" false) rfl), (errsB_at (Hd.exE cE.ex) (by decide)).wh⟩
    · exact ⟨_, He.glo_ok X G (cE.d.fact 56 (f := .glo "Unlike") rfl), He.exm_ok (cE.d.fact 97 (f := .exm "Unlike" "Unlike" true) rfl), (errsB_at (Hd.exE cE.ex) (by decide)).wh⟩
    · exact ⟨_, He.glo_ok X G (cE.d.fact 57 (f := .glo "BadPlace") rfl), He.exm_ok (cE.d.fact 98 (f := .exm "BadPlace" "Unlike" false) rfl), (errsB_at (Hd.exE cE.ex) (by decide)).wh⟩
    · exact ⟨_, He.glo_ok X G (cE.d.fact 58 (f := .glo "IsLord") rfl), He.exm_ok (cE.d.fact 99 (f := .exm "IsLord" "Unlike" false) rfl), (errsB_at (Hd.exE cE.ex) (by decide)).wh⟩⟩
  ord := by
    have q0 := He.glo_ok X G (cE.d.fact 46 (f := .glo "Order") rfl)
    have q1 := He.cls_ok (cE.d.fact 47 (f := .cls "Order") rfl)
    have q2 := He.noat_ok (cE.d.fact 48 (f := .noat "Order" "n") rfl)
    have q3 := He.noat_ok (cE.d.fact 49 (f := .noat "Order" "lesser") rfl)
    have q4 := He.mkr_ok (cE.d.fact 50 (f := .mkr "Order") rfl)
    obtain ⟨fd, F⟩ := cE.d.def_ 32 (d := ⟨("Order", some "__init__"), "__init__", "Order.__init__", defArgs Hd.mOrd, defBody Hd.mOrd, defScope Hd.mOrd, [], []⟩) rfl
    exact ⟨q1, q2, q3, q0, _, fd, ["self", "n", "lesser"], q4, ok_ordI q1 q2 q3 F ⟨rfl, rfl, rfl, by decide +kernel, rfl, by decide +kernel, by decide +kernel⟩ rfl rfl rfl, F.bindsN (fun _ _ _ _ _ _ us hl => match us, hl with | [_, _, _], _ => rfl)⟩
  d_Order__eq := by
    have q := He.meth_ok (cE.d.fact 0 (f := .meth "Order" "__eq__") rfl)
    obtain ⟨fd, F⟩ := cE.d.def_ 0 (d := ⟨("Order", some "__eq__"), "__eq__", "Order.__eq__", defArgs Hd.mEqOrder, defBody Hd.mEqOrder, defScope Hd.mEqOrder, [], []⟩) rfl
    exact ⟨_, fd, q.at_, q.fn, F⟩
  d__law_take := by
    obtain ⟨fd, F⟩ := cE.d.def_ 1 (d := ⟨("_law_take", none), "_law_take", "_law_take", defArgs (Hd.top 36), defBody (Hd.top 36), defScope (Hd.top 36), [], []⟩) rfl
    exact ⟨_, fd, He.glo_ok X G (cE.d.fact 1 (f := .glo "_law_take") rfl), F⟩
  d__law_shuffled := by
    obtain ⟨fd, F⟩ := cE.d.def_ 2 (d := ⟨("_law_shuffled", none), "_law_shuffled", "_law_shuffled", defArgs (Hd.top 38), defBody (Hd.top 38), defScope (Hd.top 38), [], []⟩) rfl
    exact ⟨_, fd, He.glo_ok X G (cE.d.fact 2 (f := .glo "_law_shuffled") rfl), F⟩
  d__law_closed := by
    obtain ⟨fd, F⟩ := cE.d.def_ 3 (d := ⟨("_law_closed", none), "_law_closed", "_law_closed", defArgs (Hd.top 39), defBody (Hd.top 39), defScope (Hd.top 39), [], []⟩) rfl
    exact ⟨_, fd, He.glo_ok X G (cE.d.fact 3 (f := .glo "_law_closed") rfl), F⟩
  d__law_order := by
    obtain ⟨fd, F⟩ := cE.d.def_ 4 (d := ⟨("_law_order", none), "_law_order", "_law_order", defArgs (Hd.top 40), defBody (Hd.top 40), defScope (Hd.top 40), [], []⟩) rfl
    exact ⟨_, fd, He.glo_ok X G (cE.d.fact 4 (f := .glo "_law_order") rfl), F⟩
  d__law_roads := by
    obtain ⟨fd, F⟩ := cE.d.def_ 5 (d := ⟨("_law_roads", none), "_law_roads", "_law_roads", defArgs (Hd.top 41), defBody (Hd.top 41), defScope (Hd.top 41), [], []⟩) rfl
    exact ⟨_, fd, He.glo_ok X G (cE.d.fact 5 (f := .glo "_law_roads") rfl), F⟩
  d__law_lords := by
    obtain ⟨fd, F⟩ := cE.d.def_ 6 (d := ⟨("_law_lords", none), "_law_lords", "_law_lords", defArgs (Hd.top 43), defBody (Hd.top 43), defScope (Hd.top 43), [], []⟩) rfl
    exact ⟨_, fd, He.glo_ok X G (cE.d.fact 6 (f := .glo "_law_lords") rfl), F⟩
  d__law_one := by
    obtain ⟨fd, F⟩ := cE.d.def_ 7 (d := ⟨("_law_one", none), "_law_one", "_law_one", defArgs (Hd.top 37), defBody (Hd.top 37), defScope (Hd.top 37), [], []⟩) rfl
    exact ⟨_, fd, He.glo_ok X G (cE.d.fact 7 (f := .glo "_law_one") rfl), F⟩
  d__law_names := by
    obtain ⟨fd, F⟩ := cE.d.def_ 8 (d := ⟨("_law_names", none), "_law_names", "_law_names", defArgs (Hd.top 46), defBody (Hd.top 46), defScope (Hd.top 46), [], []⟩) rfl
    exact ⟨_, fd, He.glo_ok X G (cE.d.fact 8 (f := .glo "_law_names") rfl), F⟩
  d__law_places := by
    obtain ⟨fd, F⟩ := cE.d.def_ 9 (d := ⟨("_law_places", none), "_law_places", "_law_places", defArgs (Hd.top 44), defBody (Hd.top 44), defScope (Hd.top 44), [], []⟩) rfl
    exact ⟨_, fd, He.glo_ok X G (cE.d.fact 9 (f := .glo "_law_places") rfl), F⟩
  d__law_house := by
    obtain ⟨fd, F⟩ := cE.d.def_ 10 (d := ⟨("_law_house", none), "_law_house", "_law_house", defArgs (Hd.top 42), defBody (Hd.top 42), defScope (Hd.top 42), [], []⟩) rfl
    exact ⟨_, fd, He.glo_ok X G (cE.d.fact 10 (f := .glo "_law_house") rfl), F⟩
  d_check_size := by
    obtain ⟨fd, F⟩ := cE.d.def_ 11 (d := ⟨("check_size", none), "check_size", "check_size", defArgs (Hd.top 24), defBody (Hd.top 24), defScope (Hd.top 24), [], []⟩) rfl
    exact ⟨_, fd, He.glo_ok X G (cE.d.fact 11 (f := .glo "check_size") rfl), F⟩
  d_grid_of_pairs := by
    obtain ⟨fd, F⟩ := cE.d.def_ 12 (d := ⟨("grid_of_pairs", none), "grid_of_pairs", "grid_of_pairs", defArgs (Hd.top 26), defBody (Hd.top 26), defScope (Hd.top 26), [], []⟩) rfl
    exact ⟨_, fd, He.glo_ok X G (cE.d.fact 12 (f := .glo "grid_of_pairs") rfl), F⟩
  d_gap_of := by
    obtain ⟨fd, F⟩ := cE.d.def_ 13 (d := ⟨("gap_of", none), "gap_of", "gap_of", defArgs (Hd.top 27), defBody (Hd.top 27), defScope (Hd.top 27), [], []⟩) rfl
    exact ⟨_, fd, He.glo_ok X G (cE.d.fact 13 (f := .glo "gap_of") rfl), F⟩
  d_order_of_grid := by
    obtain ⟨fd, F⟩ := cE.d.def_ 14 (d := ⟨("order_of_grid", none), "order_of_grid", "order_of_grid", defArgs (Hd.top 25), defBody (Hd.top 25), defScope (Hd.top 25), [], []⟩) rfl
    exact ⟨_, fd, He.glo_ok X G (cE.d.fact 14 (f := .glo "order_of_grid") rfl), F⟩
  d_made_order := by
    obtain ⟨fd, F⟩ := cE.d.def_ 15 (d := ⟨("made_order", none), "made_order", "made_order", defArgs (Hd.top 28), defBody (Hd.top 28), defScope (Hd.top 28), [], []⟩) rfl
    exact ⟨_, fd, He.glo_ok X G (cE.d.fact 15 (f := .glo "made_order") rfl), F⟩
  d_want_size := by
    obtain ⟨fd, F⟩ := cE.d.def_ 16 (d := ⟨("want_size", none), "want_size", "want_size", defArgs (Hd.top 13), defBody (Hd.top 13), defScope (Hd.top 13), [], []⟩) rfl
    exact ⟨_, fd, He.glo_ok X G (cE.d.fact 16 (f := .glo "want_size") rfl), F⟩
  d_comes_home := by
    obtain ⟨fd, F⟩ := cE.d.def_ 17 (d := ⟨("comes_home", none), "comes_home", "comes_home", defArgs (Hd.top 15), defBody (Hd.top 15), defScope (Hd.top 15), [], []⟩) rfl
    exact ⟨_, fd, He.glo_ok X G (cE.d.fact 17 (f := .glo "comes_home") rfl), F⟩
  d_made_house := by
    obtain ⟨fd, F⟩ := cE.d.def_ 18 (d := ⟨("made_house", none), "made_house", "made_house", defArgs (Hd.top 16), defBody (Hd.top 16), defScope (Hd.top 16), [], []⟩) rfl
    exact ⟨_, fd, He.glo_ok X G (cE.d.fact 18 (f := .glo "made_house") rfl), F⟩
  d_want_house := by
    obtain ⟨fd, F⟩ := cE.d.def_ 19 (d := ⟨("want_house", none), "want_house", "want_house", defArgs (Hd.top 17), defBody (Hd.top 17), defScope (Hd.top 17), [], []⟩) rfl
    exact ⟨_, fd, He.glo_ok X G (cE.d.fact 19 (f := .glo "want_house") rfl), F⟩
  d_lord := by
    obtain ⟨fd, F⟩ := cE.d.def_ 20 (d := ⟨("lord", none), "lord", "lord", defArgs (Hd.top 19), defBody (Hd.top 19), defScope (Hd.top 19), [], []⟩) rfl
    exact ⟨_, fd, He.glo_ok X G (cE.d.fact 20 (f := .glo "lord") rfl), F⟩
  d_lords := by
    obtain ⟨fd, F⟩ := cE.d.def_ 21 (d := ⟨("lords", none), "lords", "lords", defArgs (Hd.top 20), defBody (Hd.top 20), defScope (Hd.top 20), [], []⟩) rfl
    exact ⟨_, fd, He.glo_ok X G (cE.d.fact 21 (f := .glo "lords") rfl), F⟩
  d_want_place := by
    obtain ⟨fd, F⟩ := cE.d.def_ 22 (d := ⟨("want_place", none), "want_place", "want_place", defArgs (Hd.top 14), defBody (Hd.top 14), defScope (Hd.top 14), [], []⟩) rfl
    exact ⟨_, fd, He.glo_ok X G (cE.d.fact 22 (f := .glo "want_place") rfl), F⟩
  d_kept := by
    obtain ⟨fd, F⟩ := cE.d.def_ 23 (d := ⟨("kept", none), "kept", "kept", defArgs (Hd.top 30), defBody (Hd.top 30), defScope (Hd.top 30), [], []⟩) rfl
    exact ⟨_, fd, He.glo_ok X G (cE.d.fact 23 (f := .glo "kept") rfl), F⟩
  d_thinned := by
    obtain ⟨fd, F⟩ := cE.d.def_ 24 (d := ⟨("thinned", none), "thinned", "thinned", defArgs (Hd.top 32), defBody (Hd.top 32), defScope (Hd.top 32), [], []⟩) rfl
    exact ⟨_, fd, He.glo_ok X G (cE.d.fact 24 (f := .glo "thinned") rfl), F⟩
  d_strike := by
    obtain ⟨fd, F⟩ := cE.d.def_ 25 (d := ⟨("strike", none), "strike", "strike", defArgs (Hd.top 33), defBody (Hd.top 33), defScope (Hd.top 33), [], []⟩) rfl
    exact ⟨_, fd, He.glo_ok X G (cE.d.fact 25 (f := .glo "strike") rfl), F⟩
  d__law_told := by
    obtain ⟨fd, F⟩ := cE.d.def_ 26 (d := ⟨("_law_told", none), "_law_told", "_law_told", defArgs (Hd.top 47), defBody (Hd.top 47), defScope (Hd.top 47), [], []⟩) rfl
    exact ⟨_, fd, He.glo_ok X G (cE.d.fact 26 (f := .glo "_law_told") rfl), F⟩
  d__law_kept := by
    obtain ⟨fd, F⟩ := cE.d.def_ 27 (d := ⟨("_law_kept", none), "_law_kept", "_law_kept", defArgs (Hd.top 45), defBody (Hd.top 45), defScope (Hd.top 45), [], []⟩) rfl
    exact ⟨_, fd, He.glo_ok X G (cE.d.fact 27 (f := .glo "_law_kept") rfl), F⟩
  d__law_struck_right := by
    obtain ⟨fd, F⟩ := cE.d.def_ 28 (d := ⟨("_law_struck_right", none), "_law_struck_right", "_law_struck_right", defArgs (Hd.top 48), defBody (Hd.top 48), defScope (Hd.top 48), [], []⟩) rfl
    exact ⟨_, fd, He.glo_ok X G (cE.d.fact 28 (f := .glo "_law_struck_right") rfl), F⟩
  d__law_case := by
    obtain ⟨fd, F⟩ := cE.d.def_ 29 (d := ⟨("_law_case", none), "_law_case", "_law_case", defArgs (Hd.top 49), defBody (Hd.top 49), defScope (Hd.top 49), [], []⟩) rfl
    exact ⟨_, fd, He.glo_ok X G (cE.d.fact 29 (f := .glo "_law_case") rfl), F⟩
  d__law_pool := by
    obtain ⟨fd, F⟩ := cE.d.def_ 30 (d := ⟨("_law_pool", none), "_law_pool", "_law_pool", defArgs (Hd.top 35), defBody (Hd.top 35), defScope (Hd.top 35), [], []⟩) rfl
    exact ⟨_, fd, He.glo_ok X G (cE.d.fact 30 (f := .glo "_law_pool") rfl), F⟩
  d_law := by
    obtain ⟨fd, F⟩ := cE.d.def_ 31 (d := ⟨("law", none), "law", "law", defArgs (Hd.top 50), defBody (Hd.top 50), defScope (Hd.top 50), [], []⟩) rfl
    exact ⟨_, fd, He.glo_ok X G (cE.d.fact 31 (f := .glo "law") rfl), F⟩
  isa_Order := isaB_ok (Hd.exIOrder cE.ex)
theorem law_fn {P : Program} {w : World} {K : Fg} {mg : Str → Option Value} {base : Heap} {C : Addr} (E : Fcts P w K mg base C) {f : Addr} {fd : FuncData} (F : FunD K "law" "law" (defArgs (Hd.top 50)) (defBody (Hd.top 50)) (defScope (Hd.top 50)) [] [] f fd) : FnOk P w K mg base (L2.CX P w) 10 f fd ["script"] (spOf K mg (s_law C)) := by
  have h_Order__eq := ok_Order__eq E
  have h__law_take := ok__law_take E
  have h__law_shuffled := ok__law_shuffled E h__law_take
  have h__law_closed := ok__law_closed E
  have h__law_order := ok__law_order E h__law_closed h__law_shuffled h__law_take
  have h__law_roads := ok__law_roads E
  have h__law_lords := ok__law_lords E h__law_roads
  have h__law_one := ok__law_one E h__law_take
  have h__law_names := ok__law_names E h__law_one
  have h__law_places := ok__law_places E h__law_one
  have h__law_house := ok__law_house E h__law_shuffled h__law_take
  have h_check_size := ok_check_size E
  have h_grid_of_pairs := ok_grid_of_pairs E h_check_size
  have h_gap_of := ok_gap_of E
  have h_order_of_grid := ok_order_of_grid E
  have h_made_order := ok_made_order E h_gap_of h_grid_of_pairs h_order_of_grid
  have h_want_size := ok_want_size E
  have h_comes_home := ok_comes_home E
  have h_made_house := ok_made_house E h_comes_home h_want_size
  have h_want_house := ok_want_house E h_made_house
  have h_lord := ok_lord E
  have h_lords := ok_lords E h_lord h_want_house
  have h_want_place := ok_want_place E
  have h_kept := ok_kept E h_order_of_grid
  have h_thinned := ok_thinned E h_kept
  have h_strike := ok_strike E h_lords h_thinned h_want_place
  have h__law_told := ok__law_told E h_strike
  have h__law_kept := ok__law_kept E
  have h__law_struck_right := ok__law_struck_right E h__law_kept
  have h__law_case := ok__law_case E h__law_house h__law_lords h__law_names h__law_order h__law_places h__law_struck_right h__law_told h_made_order
  have h__law_pool := ok__law_pool E
  exact bd_law E h__law_case h__law_pool F
end T
open PySem PySem.W PySem.Calls PyProof.Rows
theorem PySem.Challenge.cw_nearlords_k45_houses_struck_holds : PySem.Challenge.rw_nearlords_k45_houses_struck.Holds := by
  w_on; o_law
  refine HandSHeadRun.head_any (r := OpenLaw.row PySem.Challenge.rw_nearlords_k45_houses_struck) (q := view (OpenLaw.row PySem.Challenge.rw_nearlords_k45_houses_struck).prog [50]) (H := Hd.hk) (ob := Hd.ob) (M := 4000) (loose := Hd.loose) (d := HandSHeadRun.topDef (OpenLaw.row PySem.Challenge.rw_nearlords_k45_houses_struck).prog 50) (kwd := []) Hd.ob_eq
    (by kernel_rfl) (fun s => by kernel_rfl) Hd.run (by kernel_rfl) (by kernel_rfl) (by kernel_rfl) (by rfl) (by first | assumption | decide +kernel) (by decide +kernel) ⟨rfl, rfl, rfl, rfl, rfl, by decide +kernel⟩ ?hw ?hc
  case hw => w_witness2
  case hc =>
    refine L2.walk_ofE (l := PySem.Challenge.rw_nearlords_k45_houses_struck) (n := 63) (k := 10) (x := "script") (CX := T.cxAny (PySem.Challenge.rw_nearlords_k45_houses_struck).prog) rfl (by decide) (by kernel_rfl) ⟨rfl, by decide, by decide⟩ ?F (fun H s e s' z => T.cx_no H s e s' z)
    intro w mg fa h Y G hmg0
    obtain ⟨K, KX, c⟩ := Y
    have hmg : mg ("law" : PySem.Str) = some (.ref fa) := by
      have e : (HandSHeadRun.topDef (OpenLaw.row PySem.Challenge.rw_nearlords_k45_houses_struck).prog 50).name = ("law" : PySem.Str) := by kernel_rfl
      rw [← e]
      exact hmg0
    obtain ⟨fd, FD⟩ := c.d.def_ 31 (d := ⟨("law", none), "law", "law", L2.defArgs (Hd.top 50), L2.defBody (Hd.top 50), L2.defScope (Hd.top 50), [], []⟩) rfl
    have e := hmg.symm.trans (He.glo_ok KX G (c.d.fact 31 (f := .glo "law") rfl))
    cases e
    have bb := L2.FunD.bindsA (ps := ["script"]) FD fun _ _ _ _ _ _ us hl => match us, hl with | [_], _ => rfl
    refine ⟨K, fd, T.spOf K mg (T.s_law (He.ga K "Order")), KX, fun s v => bb s [v] rfl, fun H a ns hl _ hS => T.law_end (fun _ => rfl) (fun _ _ => rfl) (T.law_true ns hl) hS, fun base kb gb => ?_⟩
    exact T.cxw (T.law_fn (T.fcts kb gb c) FD)

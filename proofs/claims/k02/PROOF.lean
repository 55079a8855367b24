import PyProof.Rows.All
import Wide.All
import OpenK.AllK
import Wide.FinOn
import HandS.ForMost
import HandS.ForExc
import HandS.Deep
import HandS.Property
import HandS.Comp
import HandS.Conv
import HandS.Defaults
import HandS.Iter
import HandS.ExcIs
import HandS.TryMany
import HandS.DictComp
import HandS.TupLen
import KE.SortData
import HandS.Sort
import HandS.SortRule
import HandS.IsInst
import HandS.TupLe
import KE.KStateDown
import Lean
import HandS.Base
import HandS.Call
import HandS.Ends
import HandS.Head0
import HandS.Head1
import HandS.Head2
import HandS.HeadEnd
import HandS.HeadHook1
import HandS.HeadHook2
import PySem.Challenge.RW_pickaisle_k02_places_and_links
set_option Elab.async false
set_option linter.all false
set_option maxRecDepth 100000
set_option maxHeartbeats 4000000
set_option autoImplicit false
/-! L3, part a: worlds, typed readings of values, expressions by what they represent. -/
namespace L3
open PySem PySem.Spec PyProof.Rows L2
/-! ### the greatest readings -/
section
variable {X : Cx}
structure EW (X : Cx) (e : Expr) (σ : L2.St) (H : Hp) (Q : VK) : Prop where
  go : ∀ (pins : List (Addr × Obj)) (s : Shared), Inv X pins σ H s → wpAny (model X.prog X.w) X.A (eval e X.env) (EP X pins σ Q) X.xe s
structure TW (X : Cx) (e : Expr) (σ : L2.St) (H : Hp) (Q : Bool → Hp → Prop) : Prop where
  go : ∀ (pins : List (Addr × Obj)) (s : Shared), Inv X pins σ H s → wpAny (model X.prog X.w) X.A (isTrue e X.env (eval e X.env)) (TP X pins σ Q) X.xe s
structure WW (X : Cx) (e : Expr) (σ : L2.St) (H : Hp) (Q : Bool → Hp → Prop) : Prop where
  go : ∀ (whole : Sem Value) (pins : List (Addr × Obj)) (s : Shared), Inv X pins σ H s → wpAny (model X.prog X.w) X.A (isTrue e X.env whole) (TP X pins σ Q) X.xe s
structure AW (X : Cx) (es : List Expr) (σ : L2.St) (H : Hp) (Q : List V → Hp → Prop) : Prop where
  go : ∀ (pos : Pos) (pins : List (Addr × Obj)) (s : Shared), Inv X pins σ H s → wpAny (model X.prog X.w) X.A (spliced (backTo pos (starEach es X.env))) (AP X pins σ Q) X.xe s
structure SW (X : Cx) (st : Stmt) (D : Ends) (σ : L2.St) (H : Hp) : Prop where
  go : ∀ (pins : List (Addr × Obj)) (s : Shared), Inv X pins σ H s → wpAny (model X.prog X.w) X.A (exec st X.env) (SP X pins D) X.xe s
structure BW (X : Cx) (ss : List Stmt) (D : Ends) (σ : L2.St) (H : Hp) : Prop where
  go : ∀ (pins : List (Addr × Obj)) (s : Shared), Inv X pins σ H s → wpAny (model X.prog X.w) X.A (execs ss X.env) (SP X pins D) X.xe s
theorem pe_w {e : Expr} : PE X e (EW X e) := ⟨fun pins s _ _ _ I h => h.go pins s I⟩
theorem pt_w {e : Expr} : PT X e (TW X e) := ⟨fun pins s _ _ _ I h => h.go pins s I⟩
theorem pw_w {e : Expr} : PW X e (WW X e) := ⟨fun w pins s _ _ _ I h => h.go w pins s I⟩
theorem pa_w {es : List Expr} : PA X es (AW X es) := ⟨fun pos pins s _ _ _ I h => h.go pos pins s I⟩
theorem ps_w {st : Stmt} : PS X st (SW X st) := ⟨fun pins s _ _ _ I h => h.go pins s I⟩
theorem pss_w {ss : List Stmt} : PSs X ss (BW X ss) := ⟨fun pins s _ _ _ I h => h.go pins s I⟩
theorem EW.of {e : Expr} {t : TE} {σ : L2.St} {H : Hp} {Q : VK} (h : PE X e t) (q : t σ H Q) : EW X e σ H Q := ⟨fun pins s I => h.run pins s σ H Q I q⟩
theorem TW.of {e : Expr} {t : TT} {σ : L2.St} {H : Hp} {Q : Bool → Hp → Prop} (h : PT X e t) (q : t σ H Q) : TW X e σ H Q := ⟨fun pins s I => h.run pins s σ H Q I q⟩
theorem WW.of {e : Expr} {t : TT} {σ : L2.St} {H : Hp} {Q : Bool → Hp → Prop} (h : PW X e t) (q : t σ H Q) : WW X e σ H Q := ⟨fun w pins s I => h.run w pins s σ H Q I q⟩
theorem AW.of {es : List Expr} {t : TA} {σ : L2.St} {H : Hp} {Q : List V → Hp → Prop} (h : PA X es t) (q : t σ H Q) : AW X es σ H Q := ⟨fun pos pins s I => h.run pos pins s σ H Q I q⟩
theorem SW.of {st : Stmt} {t : TS} {σ : L2.St} {H : Hp} {D : Ends} (h : PS X st t) (q : t D σ H) : SW X st D σ H := ⟨fun pins s I => h.run pins s σ H D I q⟩
theorem BW.of {ss : List Stmt} {t : TS} {σ : L2.St} {H : Hp} {D : Ends} (h : PSs X ss t) (q : t D σ H) : BW X ss D σ H := ⟨fun pins s I => h.run pins s σ H D I q⟩
theorem EW.mono {e : Expr} {σ : L2.St} {H : Hp} {Q Q' : VK} (h : EW X e σ H Q) (k : ∀ v H', Q v H' → Q' v H') : EW X e σ H Q' := ⟨fun pins s I =>
  thn (h.go pins s I) fun _ _ ⟨v, H', I', r, q⟩ => ⟨v, H', I', r, k v H' q⟩⟩
theorem AW.mono {es : List Expr} {σ : L2.St} {H : Hp} {Q Q' : List V → Hp → Prop} (h : AW X es σ H Q) (k : ∀ v H', Q v H' → Q' v H') : AW X es σ H Q' := ⟨fun pos pins s I =>
  thn (h.go pos pins s I) fun _ _ ⟨v, H', I', r, q⟩ => ⟨v, H', I', r, k v H' q⟩⟩
end
/-! ### what a value stands for: F is kept by the results, G stands still while the def runs, H is the heap -/
structure Rp where
  P : V → Hp → Hp → Hp → Prop
  mono : ∀ {v : V} {F G H F' G' H' : Hp}, Same F F' → Same G G' → Same H H' → P v F G H → P v F' G' H'
/-- it does not hang on the heap but for what stands still -/
class Sta (R : Rp) : Prop where
  st : ∀ {v : V} {F G H H' : Hp}, R.P v F G H → R.P v F G H'
/-- it hangs on F alone -/
class Fz (R : Rp) : Prop where
  fz : ∀ {v : V} {F G H G' H' : Hp}, R.P v F G H → R.P v F G' H'
instance (priority := low) Fz.toSta {R : Rp} [h : Fz R] : Sta R := ⟨fun p => h.fz p⟩
/-- no tuple -/
def NT (o : HO) : Prop := ∀ xs, o ≠ .tup xs
/-- what an own object holds: its root, all its own objects, the heap -/
structure Cp where
  C : Addr → List Addr → Hp → Hp → Hp → Prop
  mono : ∀ {l : Addr} {fp : List Addr} {F G H F' G' H' : Hp}, Same F F' → Same G G' → (∀ a ∈ fp, H' a = H a) → C l fp H F G → C l fp H' F' G'
  there : ∀ {l : Addr} {fp : List Addr} {F G H : Hp}, C l fp H F G → ∀ a ∈ fp, ∃ o, H a = some o ∧ NT o
  det : ∀ {l : Addr} {fp fp' : List Addr} {F G H F' G' H' : Hp}, Same H H' → C l fp H F G → C l fp' H' F' G' → fp' = fp
inductive Sl where
  | no
  | vl (R : Rp) (h : Sta R)
  | ow (C : Cp)
abbrev vl (R : Rp) [h : Sta R] : Sl := .vl R h
/-- something that stays true as the frozen parts grow -/
structure Gh where
  g : Hp → Hp → Prop
  mono : ∀ {F G F' G' : Hp}, Same F F' → Same G G' → g F G → g F' G'
def Gh.tt : Gh := ⟨fun _ _ => True, fun _ _ _ => trivial⟩
def Gh.and (a b : Gh) : Gh := ⟨fun F G => a.g F G ∧ b.g F G, fun f g ⟨x, y⟩ => ⟨a.mono f g x, b.mono f g y⟩⟩
structure Wd where
  F0 : Hp
  H0 : Hp
/-- the state: slots by what they stand for -/
structure En (W : Wd) (gh : Gh) (Γ : List Sl) (σ : L2.St) (F G H : Hp) : Prop where
  len : σ.length = Γ.length
  f0 : Same W.F0 F
  h0 : Same W.H0 G
  fg : Same F G
  gH : Same G H
  gr : ∀ a o, F a = some o → W.F0 a = some o ∨ W.H0 a = none ∨ ∃ xs, W.H0 a = some (.tup xs)
  g : gh.g F G
  vl : ∀ (i : Nat) (R : Rp) (h : Sta R), Γ[i]? = some (.vl R h) → ∃ v : V, σ[i]? = some (some v) ∧ R.P v F G H
  ow : ∃ fp : Nat → List Addr, (∀ (i : Nat) (C : Cp), Γ[i]? = some (.ow C) → ∃ l : Addr, σ[i]? = some (some (V.ref l)) ∧ (∀ a ∈ fp i, G a = none) ∧ C.C l (fp i) H F G) ∧
    ∀ (i j : Nat) (C C' : Cp) (a : Addr), i ≠ j → Γ[i]? = some (.ow C) → Γ[j]? = some (.ow C') → a ∈ fp i → a ∈ fp j → False
section
variable {W : Wd} {gh : Gh} {Γ : List Sl} {σ : L2.St} {F G H : Hp}
theorem same_upd {A : Hp} {p : Addr} {o : HO} (h : A p = none) : Same A (upd A p o) := fun b u e => by
  rw [upd_ne (ne_of_none e h)]
  exact e
theorem same_updR {A B : Hp} {p : Addr} {o : HO} (s : Same A B) (h : A p = none) : Same A (upd B p o) := fun b u e => by
  rw [upd_ne (ne_of_none e h)]
  exact s b u e
theorem same_upd2 {A B : Hp} {p : Addr} {o : HO} (s : Same A B) : Same (upd A p o) (upd B p o) := fun b u e => by
  by_cases h : b = p
  · subst h
    rw [upd_same] at e ⊢
    exact e
  · rw [upd_ne h] at e ⊢
    exact s b u e
/-- the own parts of the slots, by their addresses -/
def Owns (Γ : List Sl) (σ : L2.St) (F G H : Hp) (fp : Nat → List Addr) : Prop := (∀ (i : Nat) (C : Cp), Γ[i]? = some (.ow C) → ∃ l : Addr, σ[i]? = some (some (V.ref l)) ∧ (∀ a ∈ fp i, G a = none) ∧ C.C l (fp i) H F G) ∧
    ∀ (i j : Nat) (C C' : Cp) (a : Addr), i ≠ j → Γ[i]? = some (.ow C) → Γ[j]? = some (.ow C') → a ∈ fp i → a ∈ fp j → False
/-- what is tracked stays, the frozen parts grow beside the own ones -/
theorem Owns.mono {F' G' H' : Hp} {fp : Nat → List Addr} (o : Owns Γ σ F G H fp) (sF : Same F F') (sG : Same G G') (k : ∀ (i : Nat) (C : Cp), Γ[i]? = some (.ow C) → ∀ a ∈ fp i, G' a = none ∧ H' a = H a) : Owns Γ σ F' G' H' fp :=
  ⟨fun i C e => by
    obtain ⟨l, e1, e2, q⟩ := o.1 i C e
    exact ⟨l, e1, fun a ha => (k i C e a ha).1, C.mono sF sG (fun a ha => (k i C e a ha).2) q⟩, o.2⟩
/-- a new object in the heap, not frozen -/
theorem En.new (E : En W gh Γ σ F G H) {p : Addr} {o : HO} (hp : H p = none) : En W gh Γ σ F G (upd H p o) := by
  obtain ⟨fp, ow⟩ := E.ow
  have ow : Owns Γ σ F G H fp := ow
  refine ⟨E.len, E.f0, E.h0, E.fg, same_updR E.gH (E.gH.free hp), E.gr, E.g, fun i R h e => ?_, fp, ow.mono (Same.refl _) (Same.refl _) fun i C e a ha => ?_⟩
  · obtain ⟨v, e1, q⟩ := E.vl i R h e
    exact ⟨v, e1, h.st q⟩
  · obtain ⟨l, e1, e2, q⟩ := ow.1 i C e
    obtain ⟨u, hu, nu⟩ := C.there q a ha
    exact ⟨e2 a ha, upd_ne (ne_of_none hu hp)⟩
/-- a new object, frozen -/
theorem En.newF (E : En W gh Γ σ F G H) {p : Addr} {o : HO} (hp : H p = none) : En W gh Γ σ (upd F p o) (upd G p o) (upd H p o) := by
  have gp := E.gH.free hp
  have fp := E.fg.free gp
  have sF : Same F (upd F p o) := same_upd fp
  have sG : Same G (upd G p o) := same_upd gp
  obtain ⟨ff, ow⟩ := E.ow
  have ow : Owns Γ σ F G H ff := ow
  refine ⟨E.len, E.f0.trans sF, E.h0.trans sG, same_upd2 E.fg, same_upd2 E.gH, fun a u e => ?_, gh.mono sF sG E.g, fun i R h e => ?_, ff, ow.mono sF sG fun i C e a ha => ?_⟩
  · by_cases h : a = p
    · subst h
      exact .inr (.inl (E.h0.free gp))
    · rw [upd_ne h] at e
      exact E.gr a u e
  · obtain ⟨v, e1, q⟩ := E.vl i R h e
    exact ⟨v, e1, R.mono sF sG (same_upd hp) q⟩
  · obtain ⟨l, e1, e2, q⟩ := ow.1 i C e
    obtain ⟨u, hu, nu⟩ := C.there q a ha
    have n := ne_of_none hu hp
    exact ⟨by rw [upd_ne n]; exact e2 a ha, upd_ne n⟩
/-- what stands in the heap unfrozen, and is no slot's own, is frozen -/
theorem En.freeze (E : En W gh Γ σ F G H) {p : Addr} {o : HO} (hp : H p = some o) (gp : G p = none) (hn : ∀ (i : Nat) (C : Cp) (m : Addr) (fo : List Addr), Γ[i]? = some (.ow C) → σ[i]? = some (some (V.ref m)) → C.C m fo H F G → p ∉ fo) : En W gh Γ σ (upd F p o) (upd G p o) H := by
  have fp := E.fg.free gp
  have sF : Same F (upd F p o) := same_upd fp
  have sG : Same G (upd G p o) := same_upd gp
  obtain ⟨ff, ow⟩ := E.ow
  have ow : Owns Γ σ F G H ff := ow
  refine ⟨E.len, E.f0.trans sF, E.h0.trans sG, same_upd2 E.fg, fun b u e => ?_, fun a u e => ?_, gh.mono sF sG E.g, fun i R h e => ?_, ff, ow.mono sF sG fun i C e a ha => ?_⟩
  · by_cases h : b = p
    · subst h
      rw [upd_same] at e
      rw [hp]
      exact e
    · rw [upd_ne h] at e
      exact E.gH b u e
  · by_cases h : a = p
    · subst h
      exact .inr (.inl (E.h0.free gp))
    · rw [upd_ne h] at e
      exact E.gr a u e
  · obtain ⟨v, e1, q⟩ := E.vl i R h e
    exact ⟨v, e1, R.mono sF sG (Same.refl H) q⟩
  · obtain ⟨l, e1, e2, q⟩ := ow.1 i C e
    have n : a ≠ p := fun z => hn i C l _ e e1 q (z ▸ ha)
    exact ⟨by rw [upd_ne n]; exact e2 a ha, rfl⟩
/-- what was nobody's ahead is no slot's own behind -/
theorem En.notOwn {F0 G0 H0 : Hp} (E0 : En W gh Γ σ F0 G0 H0) (hs : Same H0 H) {p : Addr} (h0 : H0 p = none) (i : Nat) (C : Cp) (m : Addr) (fo : List Addr) (e : Γ[i]? = some (.ow C)) (e1 : σ[i]? = some (some (V.ref m))) (q : C.C m fo H F G) : p ∉ fo := fun hp => by
  obtain ⟨fp, ow⟩ := E0.ow
  obtain ⟨l, e2, _, q0⟩ := ow.1 i C e
  rw [e1] at e2
  cases e2
  rw [C.det hs q0 q] at hp
  obtain ⟨u, hu, nu⟩ := C.there q0 p hp
  rw [h0] at hu
  cases hu
theorem En.setV (E : En W gh Γ σ F G H) {i : Nat} {R : Rp} {h : Sta R} {v : V} (q : R.P v F G H) : En W gh (Γ.set i (.vl R h)) (σ.set i (some v)) F G H := by
  have hl : ∀ {j : Nat} {C : Cp}, (Γ.set i (.vl R h))[j]? = some (.ow C) → i ≠ j ∧ Γ[j]? = some (.ow C) := fun {j C} e => by
    by_cases z : i = j
    · subst z
      rw [List.getElem?_set] at e
      simp at e
    · rw [List.getElem?_set_ne z] at e
      exact ⟨z, e⟩
  obtain ⟨fp, ow⟩ := E.ow
  refine ⟨by rw [List.length_set, List.length_set]; exact E.len, E.f0, E.h0, E.fg, E.gH, E.gr, E.g, fun j R' h' e => ?_, fp, fun j C e => ?_, fun j k C C' a n e e' u u' => ow.2 j k C C' a n (hl e).2 (hl e').2 u u'⟩
  · by_cases z : i = j
    · subst z
      rw [List.getElem?_set] at e
      simp only [if_true] at e
      split at e
      · rename_i hlt
        injection e with e
        injection e with e
        subst e
        exact ⟨v, by rw [List.getElem?_set_self (by rw [E.len]; exact hlt)], q⟩
      · cases e
    · rw [List.getElem?_set_ne z] at e
      obtain ⟨v', e1, q'⟩ := E.vl j R' h' e
      exact ⟨v', by rw [List.getElem?_set_ne z]; exact e1, q'⟩
  · obtain ⟨z, e⟩ := hl e
    obtain ⟨l, e1, e2⟩ := ow.1 j C e
    exact ⟨l, by rw [List.getElem?_set_ne z]; exact e1, e2⟩
/-- a slot gets an own object, apart from the others' -/
theorem En.setO (E : En W gh Γ σ F G H) {i : Nat} {C : Cp} {l : Addr} {fo : List Addr} (gl : ∀ a ∈ fo, G a = none) (q : C.C l fo H F G) (hn : ∀ (j : Nat) (C' : Cp) (m : Addr) (fo' : List Addr), i ≠ j → Γ[j]? = some (.ow C') → σ[j]? = some (some (V.ref m)) → C'.C m fo' H F G → ∀ a ∈ fo, a ∉ fo') :
    En W gh (Γ.set i (.ow C)) (σ.set i (some (.ref l))) F G H := by
  have hs : ∀ {j : Nat} {C' : Cp}, (Γ.set i (.ow C))[j]? = some (.ow C') → (i = j ∧ i < Γ.length ∧ C = C') ∨ (i ≠ j ∧ Γ[j]? = some (.ow C')) := fun {j C'} e => by
    by_cases z : i = j
    · subst z
      rw [List.getElem?_set] at e
      simp only [if_true] at e
      split at e
      · rename_i hlt
        injection e with e
        injection e with e
        exact .inl ⟨rfl, hlt, e⟩
      · cases e
    · rw [List.getElem?_set_ne z] at e
      exact .inr ⟨z, e⟩
  obtain ⟨fp, ow⟩ := E.ow
  have ow : Owns Γ σ F G H fp := ow
  have hn : ∀ (j : Nat) (C' : Cp), i ≠ j → Γ[j]? = some (.ow C') → ∀ a ∈ fo, a ∉ fp j := fun j C' n e => by
    obtain ⟨m, e1, _, q'⟩ := ow.1 j C' e
    exact hn j C' m _ n e e1 q'
  refine ⟨by rw [List.length_set, List.length_set]; exact E.len, E.f0, E.h0, E.fg, E.gH, E.gr, E.g, fun j R' h' e => ?_, fun j => if i = j then fo else fp j, fun j C' e => ?_, fun j k C' C'' a n e e' u u' => ?_⟩
  · by_cases z : i = j
    · subst z
      rw [List.getElem?_set] at e
      simp at e
    · rw [List.getElem?_set_ne z] at e
      obtain ⟨v', e1, q'⟩ := E.vl j R' h' e
      exact ⟨v', by rw [List.getElem?_set_ne z]; exact e1, q'⟩
  · rcases hs e with ⟨rfl, hlt, rfl⟩ | ⟨z, e⟩
    · refine ⟨l, by rw [List.getElem?_set_self (by rw [E.len]; exact hlt)], ?_⟩
      dsimp only
      rw [if_pos rfl]
      exact ⟨gl, q⟩
    · obtain ⟨m, e1, e2⟩ := ow.1 j C' e
      refine ⟨m, by rw [List.getElem?_set_ne z]; exact e1, ?_⟩
      dsimp only
      rw [if_neg z]
      exact e2
  · rcases hs e with ⟨rfl, hlt, rfl⟩ | ⟨z, e⟩
    · rcases hs e' with ⟨rfl, _, rfl⟩ | ⟨z', e'⟩
      · exact n rfl
      · dsimp only at u u'
        rw [if_pos rfl] at u
        rw [if_neg z'] at u'
        exact hn k C'' z' e' a u u'
    · rcases hs e' with ⟨rfl, hlt, rfl⟩ | ⟨z', e'⟩
      · dsimp only at u u'
        rw [if_pos rfl] at u'
        rw [if_neg z] at u
        exact hn j C' z e a u' u
      · dsimp only at u u'
        rw [if_neg z] at u
        rw [if_neg z'] at u'
        exact ow.2 j k C' C'' a n e e' u u'
/-- an own object of slot i is changed -/
theorem En.mut (E : En W gh Γ σ F G H) {i : Nat} {C C' : Cp} {p : Addr} {o : HO} (hi : Γ[i]? = some (.ow C)) (k : ∀ l fo, σ[i]? = some (some (V.ref l)) → C.C l fo H F G → (∀ a ∈ fo, G a = none) → p ∈ fo ∧ C'.C l fo (upd H p o) F G) : En W gh (Γ.set i (.ow C')) σ F G (upd H p o) := by
  obtain ⟨fp, ow⟩ := E.ow
  obtain ⟨l, e1, gl, q⟩ := ow.1 i C hi
  obtain ⟨hp, q'⟩ := k l (fp i) e1 q gl
  have hlt : i < Γ.length := (List.getElem?_eq_some_iff.mp hi).1
  have hs : ∀ {j : Nat} {C'' : Cp}, (Γ.set i (.ow C'))[j]? = some (.ow C'') → (i = j ∧ C' = C'') ∨ (i ≠ j ∧ Γ[j]? = some (.ow C'')) := fun {j C''} e => by
    by_cases z : i = j
    · subst z
      rw [List.getElem?_set_self hlt] at e
      injection e with e
      injection e with e
      exact .inl ⟨rfl, e⟩
    · rw [List.getElem?_set_ne z] at e
      exact .inr ⟨z, e⟩
  have old : ∀ {j : Nat} {C'' : Cp}, (Γ.set i (.ow C'))[j]? = some (.ow C'') → ∃ C0, Γ[j]? = some (.ow C0) := fun {j C''} e => by
    rcases hs e with ⟨rfl, _⟩ | ⟨_, e⟩
    · exact ⟨_, hi⟩
    · exact ⟨_, e⟩
  refine ⟨by rw [List.length_set]; exact E.len, E.f0, E.h0, E.fg, same_updR E.gH (gl p hp), E.gr, E.g, fun j R' h' e => ?_, fp, fun j C'' e => ?_, fun j k C1 C2 a n e e' u u' => ?_⟩
  · by_cases z : i = j
    · subst z
      rw [List.getElem?_set_self hlt] at e
      cases e
    · rw [List.getElem?_set_ne z] at e
      obtain ⟨v', e1, q'⟩ := E.vl j R' h' e
      exact ⟨v', e1, h'.st q'⟩
  · rcases hs e with ⟨rfl, rfl⟩ | ⟨z, e⟩
    · exact ⟨l, e1, gl, q'⟩
    · obtain ⟨m, e1, e2, e3⟩ := ow.1 j C'' e
      refine ⟨m, e1, e2, C''.mono (Same.refl _) (Same.refl _) (fun a ha => upd_ne fun y => ?_) e3⟩
      subst y
      exact ow.2 i j C C'' a z hi e hp ha
  · obtain ⟨_, e⟩ := old e
    obtain ⟨_, e'⟩ := old e'
    exact ow.2 j k _ _ a n e e' u u'
/-- one slot's word is weakened to another -/
inductive SlLe : Sl → Sl → Prop
  | refl (a : Sl) : SlLe a a
  | no (a : Sl) : SlLe a .no
  | vl {R R' : Rp} {h : Sta R} {h' : Sta R'} (k : ∀ v F G H, Same F G → Same G H → R.P v F G H → R'.P v F G H) : SlLe (.vl R h) (.vl R' h')
  | ow {C C' : Cp} (k : ∀ l fp H F G, Same F G → C.C l fp H F G → C'.C l fp H F G) : SlLe (.ow C) (.ow C')
theorem En.imp {Γ' : List Sl} (E : En W gh Γ σ F G H) (hl : Γ'.length = Γ.length) (k : ∀ (i : Nat) (a b : Sl), Γ[i]? = some a → Γ'[i]? = some b → SlLe a b) : En W gh Γ' σ F G H := by
  have at_ : ∀ {i : Nat} {b : Sl}, Γ'[i]? = some b → ∃ a, Γ[i]? = some a ∧ SlLe a b := fun {i b} e => by
    have hi : i < Γ.length := by rw [← hl]; exact (List.getElem?_eq_some_iff.mp e).1
    exact ⟨Γ[i], List.getElem?_eq_getElem hi, k i _ b (List.getElem?_eq_getElem hi) e⟩
  obtain ⟨fp, ow⟩ := E.ow
  have ow_ : ∀ {i : Nat} {C' : Cp}, Γ'[i]? = some (.ow C') → ∃ C, Γ[i]? = some (.ow C) ∧ ∀ l fo, C.C l fo H F G → C'.C l fo H F G := fun {i C'} e => by
    obtain ⟨a, e1, le⟩ := at_ e
    cases le with
    | refl => exact ⟨C', e1, fun _ _ z => z⟩
    | ow kk => exact ⟨_, e1, fun l fo z => kk l fo H F G E.fg z⟩
  refine ⟨by rw [hl]; exact E.len, E.f0, E.h0, E.fg, E.gH, E.gr, E.g, fun i R h e => ?_, fp, fun i C e => ?_, fun i j C C' a n e e' => ?_⟩
  · obtain ⟨a, e1, le⟩ := at_ e
    cases le with
    | refl => exact E.vl i R h e1
    | vl kk =>
      obtain ⟨v, e2, q⟩ := E.vl i _ _ e1
      exact ⟨v, e2, kk v F G H E.fg E.gH q⟩
  · obtain ⟨C0, e1, kk⟩ := ow_ e
    obtain ⟨l, e2, e3, q⟩ := ow.1 i C0 e1
    exact ⟨l, e2, e3, kk l _ q⟩
  · obtain ⟨C1, e1, _⟩ := ow_ e
    obtain ⟨C2, e2, _⟩ := ow_ e'
    exact ow.2 i j C1 C2 a n e1 e2
/-- how the worlds grow while an expression is reckoned: nothing that was there is changed, or frozen -/
structure Gr (F G H F' G' H' : Hp) : Prop where
  f : Same F F'
  g : Same G G'
  s : Same H H'
  n : ∀ a o, H a = some o → NT o → G a = none → G' a = none
theorem Gr.refl (F G H : Hp) : Gr F G H F G H := ⟨Same.refl _, Same.refl _, Same.refl _, fun _ _ _ _ h => h⟩
theorem Gr.trans {F G H F1 G1 H1 F2 G2 H2 : Hp} (a : Gr F G H F1 G1 H1) (b : Gr F1 G1 H1 F2 G2 H2) : Gr F G H F2 G2 H2 := ⟨a.f.trans b.f, a.g.trans b.g, a.s.trans b.s, fun c o h t e => b.n c o (a.s c o h) t (a.n c o h t e)⟩
theorem Gr.new {F0 G0 H0 : Hp} (a : Gr F0 G0 H0 F G H) {p : Addr} {o : HO} (hp : H p = none) : Gr F0 G0 H0 F G (upd H p o) := ⟨a.f, a.g, a.s.trans (same_upd hp), a.n⟩
theorem Gr.newF {F0 G0 H0 : Hp} (a : Gr F0 G0 H0 F G H) {p : Addr} {o : HO} (hp : H p = none) (fp : F p = none) (gp : G p = none) : Gr F0 G0 H0 (upd F p o) (upd G p o) (upd H p o) := ⟨a.f.trans (same_upd fp), a.g.trans (same_upd gp), a.s.trans (same_upd hp), fun c u h t e => by
  rw [upd_ne (ne_of_none (a.s c u h) hp)]
  exact a.n c u h t e⟩
theorem Gr.frz {F0 G0 H0 : Hp} (a : Gr F0 G0 H0 F G H) {p : Addr} {o : HO} (h0 : H0 p = none) (fp : F p = none) (gp : G p = none) : Gr F0 G0 H0 (upd F p o) (upd G p o) H := ⟨a.f.trans (same_upd fp), a.g.trans (same_upd gp), a.s, fun c u h t e => by
  rw [upd_ne (ne_of_none h h0)]
  exact a.n c u h t e⟩
/-- what stands in the heap, is not still and no slot's own, stands still from now on -/
theorem En.still (E : En W gh Γ σ F G H) {p : Addr} {o : HO} (gp : G p = none) (hp : H p = some o) (hn : ∀ (i : Nat) (C : Cp) (m : Addr) (fo : List Addr), Γ[i]? = some (.ow C) → σ[i]? = some (some (V.ref m)) → C.C m fo H F G → p ∉ fo) : En W gh Γ σ F (upd G p o) H := by
  obtain ⟨ff, ow⟩ := E.ow
  have ow : Owns Γ σ F G H ff := ow
  have sG : Same G (upd G p o) := same_upd gp
  refine ⟨E.len, E.f0, E.h0.trans sG, E.fg.trans sG, fun b u e => ?_, E.gr, gh.mono (Same.refl _) sG E.g, fun i R h e => ?_, ff, ow.mono (Same.refl _) sG fun i C e a ha => ?_⟩
  · by_cases h : b = p
    · subst h
      rw [upd_same] at e
      rw [hp]
      exact e
    · rw [upd_ne h] at e
      exact E.gH b u e
  · obtain ⟨v, e1, q⟩ := E.vl i R h e
    exact ⟨v, e1, R.mono (Same.refl _) sG (Same.refl _) q⟩
  · obtain ⟨l, e1, e2, q⟩ := ow.1 i C e
    have n : a ≠ p := fun z => hn i C l _ e e1 q (z ▸ ha)
    exact ⟨by rw [upd_ne n]; exact e2 a ha, rfl⟩
/-- a callee has run: F1, H1 behind it -/
structure Ext (F H F1 H1 : Hp) : Prop where
  f : Same F F1
  h : Same H H1
  fh : Same F1 H1
  gr : ∀ a o, F1 a = some o → F a = some o ∨ H a = none ∨ ∃ xs, H a = some (.tup xs)
theorem En.ext (E : En W gh Γ σ F G H) {F1 H1 : Hp} (x : Ext F H F1 H1) : ∃ G1, Gr F G H F1 G1 H1 ∧ Same F1 G1 ∧ (∀ a, F1 a = none → G a = none → G1 a = none) ∧ En W gh Γ σ F1 G1 H1 := by
  have gG1 : Same G (fun a => match F1 a with | some o => some o | none => G a) := fun a o e => by
    show (match F1 a with | some o => some o | none => G a) = some o
    cases q : F1 a with
    | none => exact e
    | some u =>
      have z := x.fh a u q
      rw [x.h a o (E.gH a o e)] at z
      exact z.symm
  have fG1 : Same F1 (fun a => match F1 a with | some o => some o | none => G a) := fun a o e => by
    show (match F1 a with | some o => some o | none => G a) = some o
    rw [e]
  refine ⟨fun a => match F1 a with | some o => some o | none => G a, ⟨x.f, gG1, x.h, fun a o h t e => by
    show (match F1 a with | some o => some o | none => G a) = none
    cases q : F1 a with
    | none => exact e
    | some u =>
      rcases x.gr a u q with z | z | ⟨xs, z⟩
      · have z2 := E.fg a u z
        rw [e] at z2
        cases z2
      · rw [h] at z
        cases z
      · rw [h] at z
        cases z
        exact absurd rfl (t xs)⟩, fG1, fun a z1 z2 => by
    show (match F1 a with | some o => some o | none => G a) = none
    rw [z1]
    exact z2, E.len, E.f0.trans x.f, E.h0.trans gG1, fG1, fun a o e => ?_, fun a o e => ?_, gh.mono x.f gG1 E.g, fun i R h e => ?_, ?_⟩
  · have e : (match F1 a with | some o => some o | none => G a) = some o := e
    cases q : F1 a with
    | none =>
      rw [q] at e
      exact x.h a o (E.gH a o e)
    | some u =>
      rw [q] at e
      rw [← e]
      exact x.fh a u q
  · rcases x.gr a o e with z | z | ⟨xs, z⟩
    · exact E.gr a o z
    · exact .inr (.inl (E.h0.free (E.gH.free z)))
    · cases y : W.H0 a with
      | none => exact .inr (.inl rfl)
      | some u =>
        have y2 := E.gH a u (E.h0 a u y)
        rw [z] at y2
        cases y2
        exact .inr (.inr ⟨xs, rfl⟩)
  · obtain ⟨v, e1, q⟩ := E.vl i R h e
    exact ⟨v, e1, R.mono x.f gG1 x.h q⟩
  · obtain ⟨fp, ow⟩ := E.ow
    have ow : Owns Γ σ F G H fp := ow
    refine ⟨fp, ow.mono x.f gG1 fun i C e a ha => ?_⟩
    obtain ⟨l, e1, e2, q⟩ := ow.1 i C e
    obtain ⟨u, hu, nu⟩ := C.there q a ha
    refine ⟨?_, (x.h a u hu).trans hu.symm⟩
    show (match F1 a with | some o => some o | none => G a) = none
    cases z : F1 a with
    | none => exact e2 a ha
    | some y =>
      rcases x.gr a y z with z | z | ⟨xs, z⟩
      · have := E.fg a y z
        rw [e2 a ha] at this
        cases this
      · rw [hu] at z
        cases z
      · rw [hu] at z
        cases z
        exact absurd rfl (nu xs)
/-- a tuple that stands in the heap is frozen -/
theorem En.tupF (E : En W gh Γ σ F G H) {p : Addr} {xs : List V} (hp : H p = some (.tup xs)) : En W gh Γ σ (upd F p (.tup xs)) (upd G p (.tup xs)) H ∧ Gr F G H (upd F p (.tup xs)) (upd G p (.tup xs)) H := by
  have sG : Same G (upd G p (.tup xs)) := fun b u e => by
    by_cases h : b = p
    · subst h
      have := E.gH b u e
      rw [hp] at this
      rw [upd_same]
      exact this
    · rw [upd_ne h]
      exact e
  have sF : Same F (upd F p (.tup xs)) := fun b u e => by
    by_cases h : b = p
    · subst h
      have := E.gH b u (E.fg b u e)
      rw [hp] at this
      rw [upd_same]
      exact this
    · rw [upd_ne h]
      exact e
  obtain ⟨ff, ow⟩ := E.ow
  have ow : Owns Γ σ F G H ff := ow
  refine ⟨⟨E.len, E.f0.trans sF, E.h0.trans sG, same_upd2 E.fg, fun b u e => ?_, fun a u e => ?_, gh.mono sF sG E.g, fun i R h e => ?_, ff, ow.mono sF sG fun i C e a ha => ?_⟩, sF, sG, Same.refl _, fun a o h t e => ?_⟩
  · by_cases h : b = p
    · subst h
      rw [upd_same] at e
      rw [hp]
      exact e
    · rw [upd_ne h] at e
      exact E.gH b u e
  · by_cases h : a = p
    · subst h
      cases y : W.H0 a with
      | none => exact .inr (.inl rfl)
      | some u =>
        have y2 := E.gH a u (E.h0 a u y)
        rw [hp] at y2
        cases y2
        exact .inr (.inr ⟨xs, rfl⟩)
    · rw [upd_ne h] at e
      exact E.gr a u e
  · obtain ⟨v, e1, q⟩ := E.vl i R h e
    exact ⟨v, e1, R.mono sF sG (Same.refl H) q⟩
  · obtain ⟨l, e1, e2, q⟩ := ow.1 i C e
    obtain ⟨u, hu, nu⟩ := C.there q a ha
    have n : a ≠ p := fun z => by
      subst z
      rw [hp] at hu
      cases hu
      exact nu xs rfl
    exact ⟨by rw [upd_ne n]; exact e2 a ha, rfl⟩
  · rw [upd_ne fun z => by subst z; rw [hp] at h; cases h; exact t xs rfl]
    exact e
theorem En.toExt (E : En W gh Γ σ F G H) : Ext W.F0 W.H0 F H := ⟨E.f0, E.h0.trans E.gH, E.fg.trans E.gH, E.gr⟩
end
end L3
/-! L3, part b: data, expressions. -/
namespace L3
open PySem PySem.Spec PyProof.Rows L2
/-! ### plain data -/
mutual
/-- v is the data d: all its lists and tuples are tracked -/
inductive Dt (H : Hp) : V → PyData → Prop
  | non : Dt H .non .none
  | bl (b : Bool) : Dt H (.bl b) (.bool b)
  | int (i : Int) : Dt H (.int i) (.int i)
  | str (x : Str) : Dt H (.str x) (.str x)
  | lst {a : Addr} {xs : List V} {ds : List PyData} : H a = some (.lst xs) → DtAll H xs ds → Dt H (.ref a) (.list ds)
  | tup {a : Addr} {xs : List V} {ds : List PyData} : H a = some (.tup xs) → DtAll H xs ds → Dt H (.ref a) (.tuple ds)
inductive DtAll (H : Hp) : List V → List PyData → Prop
  | nil : DtAll H [] []
  | cons {v : V} {vs : List V} {d : PyData} {ds : List PyData} : Dt H v d → DtAll H vs ds → DtAll H (v :: vs) (d :: ds)
end
mutual
theorem dt_same {H H' : Hp} (e : Same H H') : ∀ (d : PyData) (v : V), Dt H v d → Dt H' v d
  | .none, _, h => by cases h; exact .non
  | .bool b, _, h => by cases h; exact .bl b
  | .int i, _, h => by cases h; exact .int i
  | .str x, _, h => by cases h; exact .str x
  | .list ds, _, h => by
    cases h with
    | lst hs ha => exact .lst (e _ _ hs) (dtAll_same e ds _ ha)
  | .tuple ds, _, h => by
    cases h with
    | tup hs ha => exact .tup (e _ _ hs) (dtAll_same e ds _ ha)
  | .dict _, _, h => by cases h
theorem dtAll_same {H H' : Hp} (e : Same H H') : ∀ (ds : List PyData) (vs : List V), DtAll H vs ds → DtAll H' vs ds
  | [], _, h => by cases h; exact .nil
  | d :: ds, _, h => by
    cases h with
    | cons h1 h2 => exact .cons (dt_same e d _ h1) (dtAll_same e ds _ h2)
end
mutual
theorem dt_dp (K : PySem.W.Frag) {H : Hp} : ∀ (d : PyData) (v : V), Dt H v d → Dp K H v d
  | .none, _, h => by cases h; exact .non
  | .bool b, _, h => by cases h; exact .bl b
  | .int i, _, h => by cases h; exact .int i
  | .str x, _, h => by cases h; exact .str x
  | .list ds, _, h => by
    cases h with
    | lst hs ha => exact .lst (.inl (.inl hs)) (dtAll_dp K ds _ ha)
  | .tuple ds, _, h => by
    cases h with
    | tup hs ha => exact .tup (.inl (.inl hs)) (dtAll_dp K ds _ ha)
  | .dict _, _, h => by cases h
theorem dtAll_dp (K : PySem.W.Frag) {H : Hp} : ∀ (ds : List PyData) (vs : List V), DtAll H vs ds → DpAll K H vs ds
  | [], _, h => by cases h; exact .nil
  | d :: ds, _, h => by
    cases h with
    | cons h1 h2 => exact .cons (dt_dp K d _ h1) (dtAll_dp K ds _ h2)
end
section
theorem DtAll.length {H : Hp} : ∀ {vs : List V} {ds : List PyData}, DtAll H vs ds → vs.length = ds.length
  | [], [], _ => rfl
  | _ :: _, [], h => by cases h
  | [], _ :: _, h => by cases h
  | _ :: vs, _ :: ds, h => by
    cases h with
    | cons _ h2 => simp [DtAll.length h2]
theorem DtAll.get {H : Hp} : ∀ {vs : List V} {ds : List PyData} {i : Nat} {d : PyData}, DtAll H vs ds → ds[i]? = some d → ∃ v, vs[i]? = some v ∧ Dt H v d
  | _, [], _, _, _, e => by simp at e
  | [], _ :: _, _, _, h, _ => by cases h
  | _ :: vs, _ :: ds, 0, d, h, e => by
    cases h with
    | cons h1 _ =>
      have e' : _ = d := Option.some.inj (by simpa using e)
      subst e'
      exact ⟨_, rfl, h1⟩
  | _ :: vs, _ :: ds, i + 1, d, h, e => by
    cases h with
    | cons _ h2 =>
      obtain ⟨v, e1, q⟩ := DtAll.get (i := i) h2 (by simpa using e)
      exact ⟨v, by simpa using e1, q⟩
theorem DtAll.getV {H : Hp} {vs : List V} {ds : List PyData} {i : Nat} {v : V} (h : DtAll H vs ds) (e : vs[i]? = some v) : ∃ d, ds[i]? = some d ∧ Dt H v d := by
  have hi : i < vs.length := (List.getElem?_eq_some_iff.mp e).1
  rw [h.length] at hi
  obtain ⟨v', e1, q⟩ := h.get (List.getElem?_eq_getElem hi)
  rw [e] at e1
  cases e1
  exact ⟨_, List.getElem?_eq_getElem hi, q⟩
theorem DtAll.append {H : Hp} : ∀ {vs ws : List V} {ds es : List PyData}, DtAll H vs ds → DtAll H ws es → DtAll H (vs ++ ws) (ds ++ es)
  | [], _, [], _, _, h => h
  | _ :: _, _, [], _, h, _ => by cases h
  | [], _, _ :: _, _, h, _ => by cases h
  | _ :: vs, _, _ :: ds, _, h, g => by
    cases h with
    | cons h1 h2 => exact .cons h1 (DtAll.append h2 g)
theorem DtAll.take {H : Hp} : ∀ (n : Nat) {vs : List V} {ds : List PyData}, DtAll H vs ds → DtAll H (vs.take n) (ds.take n)
  | 0, _, _, _ => by simpa using DtAll.nil
  | n + 1, [], [], _ => .nil
  | n + 1, _ :: _, [], h => by cases h
  | n + 1, [], _ :: _, h => by cases h
  | n + 1, _ :: vs, _ :: ds, h => by
    cases h with
    | cons h1 h2 => exact .cons h1 (DtAll.take n h2)
theorem DtAll.drop {H : Hp} : ∀ (n : Nat) {vs : List V} {ds : List PyData}, DtAll H vs ds → DtAll H (vs.drop n) (ds.drop n)
  | 0, _, _, h => h
  | n + 1, [], [], _ => .nil
  | n + 1, _ :: _, [], h => by cases h
  | n + 1, [], _ :: _, h => by cases h
  | n + 1, _ :: vs, _ :: ds, h => by
    cases h with
    | cons h1 h2 => exact DtAll.drop n h2
theorem DtAll.snoc {H : Hp} {vs : List V} {ds : List PyData} {v : V} {d : PyData} (h : DtAll H vs ds) (g : Dt H v d) : DtAll H (vs ++ [v]) (ds ++ [d]) := h.append (.cons g .nil)
theorem DtAll.reverse {H : Hp} : ∀ {vs : List V} {ds : List PyData}, DtAll H vs ds → DtAll H vs.reverse ds.reverse
  | [], [], _ => .nil
  | _ :: _, [], h => by cases h
  | [], _ :: _, h => by cases h
  | _ :: vs, _ :: ds, h => by
    cases h with
    | cons h1 h2 =>
      rw [List.reverse_cons, List.reverse_cons]
      exact (DtAll.reverse h2).snoc h1
theorem DtAll.ints {H : Hp} : ∀ {vs : List V} {ns : List Int}, DtAll H vs (ns.map .int) → vs = ns.map V.int
  | [], [], _ => rfl
  | _ :: _, [], h => by cases h
  | [], _ :: _, h => by cases h
  | _ :: vs, n :: ns, h => by
    cases h with
    | cons h1 h2 =>
      cases h1
      rw [DtAll.ints h2]
      rfl
theorem DtAll.ofInts {H : Hp} : ∀ (ns : List Int), DtAll H (ns.map V.int) (ns.map .int)
  | [] => .nil
  | n :: ns => .cons (.int n) (DtAll.ofInts ns)
theorem DtAll.bools {H : Hp} : ∀ {vs : List V} {ns : List Bool}, DtAll H vs (ns.map .bool) → vs = ns.map V.bl
  | [], [], _ => rfl
  | _ :: _, [], h => by cases h
  | [], _ :: _, h => by cases h
  | _ :: vs, n :: ns, h => by
    cases h with
    | cons h1 h2 =>
      cases h1
      rw [DtAll.bools h2]
      rfl
theorem DtAll.strs {H : Hp} : ∀ {vs : List V} {ns : List Str}, DtAll H vs (ns.map .str) → vs = ns.map V.str
  | [], [], _ => rfl
  | _ :: _, [], h => by cases h
  | [], _ :: _, h => by cases h
  | _ :: vs, n :: ns, h => by
    cases h with
    | cons h1 h2 =>
      cases h1
      rw [DtAll.strs h2]
      rfl
theorem DtAll.ofStrs {H : Hp} : ∀ (ns : List Str), DtAll H (ns.map V.str) (ns.map .str)
  | [] => .nil
  | n :: ns => .cons (.str n) (DtAll.ofStrs ns)
/-- data, frozen -/
def rD (d : PyData) : Rp := ⟨fun v F _ _ => Dt F v d, fun f _ _ h => dt_same f _ _ h⟩
instance {d : PyData} : Fz (rD d) := ⟨fun h => h⟩
/-- a list of data that stands still -/
def bD (ds : List PyData) : Rp := ⟨fun v F G _ => ∃ a vs, v = .ref a ∧ G a = some (.lst vs) ∧ DtAll F vs ds, fun f g _ ⟨a, vs, e, s, h⟩ => ⟨a, vs, e, g _ _ s, dtAll_same f _ _ h⟩⟩
instance {ds : List PyData} : Sta (bD ds) := ⟨fun h => h⟩
/-- a list of data as it stands now -/
def hD (ds : List PyData) : Rp := ⟨fun v F _ H => ∃ a vs, v = .ref a ∧ H a = some (.lst vs) ∧ DtAll F vs ds, fun f _ s ⟨a, vs, e, q, h⟩ => ⟨a, vs, e, s _ _ q, dtAll_same f _ _ h⟩⟩
/-- an own list of data -/
def cD (ds : List PyData) : Cp where
  C := fun l fp H F _ => fp = [l] ∧ ∃ vs, H l = some (.lst vs) ∧ DtAll F vs ds
  mono := fun f _ k ⟨e, vs, h, q⟩ => ⟨e, vs, by subst e; rw [k _ List.mem_cons_self]; exact h, dtAll_same f _ _ q⟩
  there := fun ⟨e, vs, h, _⟩ a ha => by
    subst e
    rw [List.mem_singleton] at ha
    subst ha
    exact ⟨_, h, fun _ z => nomatch z⟩
  det := fun _ ⟨e, _⟩ ⟨e', _⟩ => e'.trans e.symm
theorem int_inv {H : Hp} {v : V} {i : Int} (h : Dt H v (.int i)) : v = .int i := by cases h; rfl
theorem bool_inv {H : Hp} {v : V} {i : Bool} (h : Dt H v (.bool i)) : v = .bl i := by cases h; rfl
theorem str_inv {H : Hp} {v : V} {i : Str} (h : Dt H v (.str i)) : v = .str i := by cases h; rfl
theorem non_inv {H : Hp} {v : V} (h : Dt H v .none) : v = .non := by cases h; rfl
theorem tup_inv {H : Hp} {v : V} {ds : List PyData} (h : Dt H v (.tuple ds)) : ∃ a vs, v = .ref a ∧ H a = some (.tup vs) ∧ DtAll H vs ds := by
  cases h with
  | tup s q => exact ⟨_, _, rfl, s, q⟩
theorem lst_inv {H : Hp} {v : V} {ds : List PyData} (h : Dt H v (.list ds)) : ∃ a vs, v = .ref a ∧ H a = some (.lst vs) ∧ DtAll H vs ds := by
  cases h with
  | lst s q => exact ⟨_, _, rfl, s, q⟩
end
/-! ### the judgements -/
section
variable {X : Cx} {Γ : List Sl} 
/-- e gives something that stands for R; nothing that was tracked changes -/
def Ev (X : Cx) (Γ : List Sl) (e : Expr) (R : Rp) : Prop := ∀ (W : Wd) (gh : Gh) (σ : L2.St) (F G H : Hp), En W gh Γ σ F G H → ∀ Q : VK,
  (∀ v F' G' H', En W gh Γ σ F' G' H' → Gr F G H F' G' H' → R.P v F' G' H' → Q v H') → EW X e σ H Q
/-- e gives a new object, nobody else's -/
def EvO (X : Cx) (Γ : List Sl) (e : Expr) (C : Cp) : Prop := ∀ (W : Wd) (gh : Gh) (σ : L2.St) (F G H : Hp), En W gh Γ σ F G H → ∀ Q : VK,
  (∀ l fo F' G' H', En W gh Γ σ F' G' H' → Gr F G H F' G' H' → (∀ a ∈ fo, H a = none ∧ G' a = none) → C.C l fo H' F' G' → Q (.ref l) H') → EW X e σ H Q
def Tv (X : Cx) (Γ : List Sl) (e : Expr) (b : Bool) : Prop := ∀ (W : Wd) (gh : Gh) (σ : L2.St) (F G H : Hp), En W gh Γ σ F G H → ∀ Q : Bool → Hp → Prop,
  (∀ F' G' H', En W gh Γ σ F' G' H' → Gr F G H F' G' H' → Q b H') → TW X e σ H Q
def Wv (X : Cx) (Γ : List Sl) (e : Expr) (b : Bool) : Prop := ∀ (W : Wd) (gh : Gh) (σ : L2.St) (F G H : Hp), En W gh Γ σ F G H → ∀ Q : Bool → Hp → Prop,
  (∀ F' G' H', En W gh Γ σ F' G' H' → Gr F G H F' G' H' → Q b H') → WW X e σ H Q
def EvA (X : Cx) (Γ : List Sl) (es : List Expr) (Rs : List Rp) : Prop := ∀ (W : Wd) (gh : Gh) (σ : L2.St) (F G H : Hp), En W gh Γ σ F G H → ∀ Q : List V → Hp → Prop,
  (∀ vs F' G' H', En W gh Γ σ F' G' H' → Gr F G H F' G' H' → Paired (fun v (R : Rp) => R.P v F' G' H') vs Rs → Q vs H') → AW X es σ H Q
theorem ev_imp {e : Expr} {R R' : Rp} (h : Ev X Γ e R) (k : ∀ v F G H, Same F G → Same G H → R.P v F G H → R'.P v F G H) : Ev X Γ e R' := fun W gh σ F G H E Q q =>
  h W gh σ F G H E Q fun v F' G' H' E' x0 p => q v F' G' H' E' x0 (k v F' G' H' E'.fg E'.gH p)
theorem ev_conv {e : Expr} {R R' : Rp} (h : Ev X Γ e R) (k : R = R') : Ev X Γ e R' := k ▸ h
theorem ev_d {e : Expr} {d d' : PyData} (h : Ev X Γ e (rD d)) (k : d = d') : Ev X Γ e (rD d') := k ▸ h
theorem tv_b {e : Expr} {d d' : Bool} (h : Tv X Γ e d) (k : d = d') : Tv X Γ e d' := k ▸ h
theorem tv_b' {e : Expr} {d d' : Bool} (h : Wv X Γ e d) (k : d = d') : Wv X Γ e d' := k ▸ h
/-- a frozen list, one that stands still, an own one, as they stand now -/
theorem ev_h {e : Expr} {ds : List PyData} (h : Ev X Γ e (rD (.list ds))) : Ev X Γ e (hD ds) := ev_imp h fun v F G H f g p => by
  obtain ⟨a, vs, e1, s, q⟩ := lst_inv p
  exact ⟨a, vs, e1, (f.trans g) _ _ s, q⟩
theorem ev_hb {e : Expr} {ds : List PyData} (h : Ev X Γ e (bD ds)) : Ev X Γ e (hD ds) := ev_imp h fun v F G H f g ⟨a, vs, e1, s, q⟩ => ⟨a, vs, e1, g _ _ s, q⟩
theorem ev_b {e : Expr} {ds : List PyData} (h : Ev X Γ e (rD (.list ds))) : Ev X Γ e (bD ds) := ev_imp h fun v F G H f g p => by
  obtain ⟨a, vs, e1, s, q⟩ := lst_inv p
  exact ⟨a, vs, e1, f _ _ s, q⟩
theorem ev_ho {e : Expr} {ds : List PyData} (h : EvO X Γ e (cD ds)) : Ev X Γ e (hD ds) := fun W gh σ F G H E Q q =>
  h W gh σ F G H E Q fun l fo F' G' H' E' x0 hn ⟨_, vs, eo, p⟩ => q _ F' G' H' E' x0 ⟨l, vs, rfl, eo, p⟩
/-- a new object is frozen -/
theorem ev_fr {e : Expr} {ds : List PyData} (h : EvO X Γ e (cD ds)) : Ev X Γ e (rD (.list ds)) := fun W gh σ F G H E Q q =>
  h W gh σ F G H E Q fun l fo F' G' H' E' x0 hn ⟨ef, vs, eo, p⟩ => by
    subst ef
    obtain ⟨hl, gl⟩ := hn l List.mem_cons_self
    have fl := E'.fg.free gl
    exact q (.ref l) _ _ H' (E'.freeze eo gl (E.notOwn x0.s hl)) (x0.frz hl fl gl) (.lst upd_same (dtAll_same (same_upd fl) _ _ p))
/-! names, constants -/
theorem ev_var {x : Str} {pos : Pos} (i : Nat) {R : Rp} {h : Sta R} (hi : Γ[i]? = some (.vl R h)) (hN : X.N[i]? = some x) (hv : Vis X.env.scope x) (hd : (x == ("__debug__" : Str)) = false := by decide)
    (hcd : (x == ("__classdict__" : Str)) = false := by decide) : Ev X Γ (.Name x pos) R := fun W gh σ F G H E Q q => by
  obtain ⟨v, e, p⟩ := E.vl i R h hi
  exact EW.of (pe_var hN hv hd hcd) ⟨v, e, q v F G H E (Gr.refl _ _ _) p⟩
/-- an own list's name, as it stands now -/
theorem ev_varO {x : Str} {pos : Pos} (i : Nat) {ds : List PyData} (hi : Γ[i]? = some (.ow (cD ds))) (hN : X.N[i]? = some x) (hv : Vis X.env.scope x) (hd : (x == ("__debug__" : Str)) = false := by decide)
    (hcd : (x == ("__classdict__" : Str)) = false := by decide) : Ev X Γ (.Name x pos) (hD ds) := fun W gh σ F G H E Q q => by
  obtain ⟨fp, ow, _⟩ := E.ow
  obtain ⟨l, e, gl, _, vs, eo, p⟩ := ow i _ hi
  exact EW.of (pe_var hN hv hd hcd) ⟨_, e, q _ F G H E (Gr.refl _ _ _) ⟨l, vs, rfl, eo, p⟩⟩
theorem ev_int {i : Int} {j : Nat} {pos : Pos} : Ev X Γ (.Constant (.int i) j pos) (rD (.int i)) := fun W gh σ F G H E Q q => EW.of pe_int (q _ F G H E (Gr.refl _ _ _) (.int i))
theorem ev_bl {b : Bool} {j : Nat} {pos : Pos} : Ev X Γ (.Constant (.bool b) j pos) (rD (.bool b)) := fun W gh σ F G H E Q q => EW.of pe_bl (q _ F G H E (Gr.refl _ _ _) (.bl b))
theorem ev_str {x : Str} {j : Nat} {pos : Pos} : Ev X Γ (.Constant (.str x) j pos) (rD (.str x)) := fun W gh σ F G H E Q q => EW.of pe_str (q _ F G H E (Gr.refl _ _ _) (.str x))
theorem ev_non {j : Nat} {pos : Pos} : Ev X Γ (.Constant .none j pos) (rD .none) := fun W gh σ F G H E Q q => EW.of pe_non (q _ F G H E (Gr.refl _ _ _) .non)
theorem ev_gint {x : Str} {i : Int} {t : Tok} {pos : Pos} (hm : X.mg x = some (.int i t)) (hg : Gl X x) (hd : (x == ("__debug__" : Str)) = false := by decide) : Ev X Γ (.Name x pos) (rD (.int i)) := fun W gh σ F G H E Q q =>
  EW.of (pe_glob (v := .int i) hg hm ⟨t, rfl⟩ hd) (q _ F G H E (Gr.refl _ _ _) (.int i))
theorem ev_gstr {x z : Str} {t : Tok} {pos : Pos} (hm : X.mg x = some (.str z t)) (hg : Gl X x) (hd : (x == ("__debug__" : Str)) = false := by decide) : Ev X Γ (.Name x pos) (rD (.str z)) := fun W gh σ F G H E Q q =>
  EW.of (pe_glob (v := .str z) hg hm ⟨t, rfl⟩ hd) (q _ F G H E (Gr.refl _ _ _) (.str z))
/-! two operands, a value that makes nothing -/
section
variable {a b c : Expr} {pos : Pos}
theorem ev_seq {Ra Rb : Rp} (ha : Ev X Γ a Ra) (hb : Ev X Γ b Rb) {W : Wd} {gh : Gh} {σ : L2.St} {F G H : Hp} (E : En W gh Γ σ F G H) {R : V → V → Hp → Prop}
    (q : ∀ x y F' G' H', En W gh Γ σ F' G' H' → Gr F G H F' G' H' → Ra.P x F' G' H' → Rb.P y F' G' H' → R x y H') : EW X a σ H fun x H1 => EW X b σ H1 fun y H2 => R x y H2 :=
  ha W gh σ F G H E _ fun x F1 G1 H1 E1 x1 p1 => hb W gh σ F1 G1 H1 E1 _ fun y F2 G2 H2 E2 x2 p2 =>
    q x y F2 G2 H2 E2 (x1.trans x2) (Ra.mono x2.f x2.g x2.s p1) p2
theorem ev_op0 {op : Operator} {r : R2} {Ra Rb R : Rp} (ho : OpR X (binaryOp op) r) (ha : Ev X Γ a Ra) (hb : Ev X Γ b Rb)
    (k : ∀ x y F G H, Same F G → Same G H → Ra.P x F G H → Rb.P y F G H → ∃ v, R.P v F G H ∧ ∀ Q : VK, Q v H → r x y H Q) : Ev X Γ (.BinOp a op b pos) R := fun W gh σ F G H E Q q =>
  EW.of (pe_op ho pe_w pe_w) (ev_seq ha hb E fun x y F' G' H' E' x0 p1 p2 => by
    obtain ⟨v, p, z⟩ := k x y F' G' H' E'.fg E'.gH p1 p2
    exact z Q (q v F' G' H' E' x0 p))
theorem ev_cmp0 {op : CmpOp} {r : R2} {Ra Rb R : Rp} (ho : OpR X (compareOp op) r) (ha : Ev X Γ a Ra) (hb : Ev X Γ b Rb)
    (k : ∀ x y F G H, Same F G → Same G H → Ra.P x F G H → Rb.P y F G H → ∃ v, R.P v F G H ∧ ∀ Q : VK, Q v H → r x y H Q) (hm : behindInMarks op b = false) : Ev X Γ (.Compare a [op] [b] pos) R := fun W gh σ F G H E Q q =>
  EW.of (pe_cmpR ho pe_w pe_w hm) (ev_seq ha hb E fun x y F' G' H' E' x0 p1 p2 => by
    obtain ⟨v, p, z⟩ := k x y F' G' H' E'.fg E'.gH p1 p2
    exact z Q (q v F' G' H' E' x0 p))
theorem tv_cmp0 {op : CmpOp} {r : R2} {Ra Rb : Rp} {d : Bool} (ho : OpR X (compareOp op) r) (ha : Ev X Γ a Ra) (hb : Ev X Γ b Rb)
    (k : ∀ x y F G H, Same F G → Same G H → Ra.P x F G H → Rb.P y F G H → ∀ Q : VK, Q (.bl d) H → r x y H Q) (hm : behindInMarks op b = false) : Tv X Γ (.Compare a [op] [b] pos) d := fun W gh σ F G H E Q q =>
  TW.of (pt_cmpR ho pe_w pe_w hm) (ev_seq ha hb E fun x y F' G' H' E' x0 p1 p2 => k x y F' G' H' E'.fg E'.gH p1 p2 _ ⟨d, rfl, q F' G' H' E' x0⟩)
theorem ev_un0 {op : UnaryOp} {r : V → Hp → VK → Prop} {Ra R : Rp} (ho : UnR X (unaryOp op) r) (ha : Ev X Γ a Ra)
    (k : ∀ x F G H, Same F G → Same G H → Ra.P x F G H → ∃ v, R.P v F G H ∧ ∀ Q : VK, Q v H → r x H Q) : Ev X Γ (.UnaryOp op a pos) R := fun W gh σ F G H E Q q =>
  EW.of (pe_un ho pe_w) (ha W gh σ F G H E _ fun x F' G' H' E' x0 p1 => by
    obtain ⟨v, p, z⟩ := k x F' G' H' E'.fg E'.gH p1
    exact z Q (q v F' G' H' E' x0 p))
theorem ii {x y : V} {F H : Hp} {i j : Int} {f : Int → Int → V} {d : PyData} {R : Rp} (p1 : Dt F x (.int i)) (p2 : Dt F y (.int j)) {r : VK → Prop} (z : ∀ Q : VK, Q (f i j) H → (∃ i' j', x = .int i' ∧ y = .int j' ∧ Q (f i' j') H) → r Q) : ∀ Q : VK, Q (f i j) H → r Q := fun Q q => by
  cases int_inv p1
  cases int_inv p2
  exact z Q q ⟨_, _, rfl, rfl, q⟩
theorem ev_add {i j : Int} (ha : Ev X Γ a (rD (.int i))) (hb : Ev X Γ b (rD (.int j))) : Ev X Γ (.BinOp a .Add b pos) (rD (.int (i + j))) := ev_op0 op_add ha hb fun x y F G H f g p1 p2 => by
  cases int_inv p1
  cases int_inv p2
  exact ⟨_, .int _, fun Q q => ⟨_, _, rfl, rfl, q⟩⟩
theorem ev_sub {i j : Int} (ha : Ev X Γ a (rD (.int i))) (hb : Ev X Γ b (rD (.int j))) : Ev X Γ (.BinOp a .Sub b pos) (rD (.int (i - j))) := ev_op0 op_sub ha hb fun x y F G H f g p1 p2 => by
  cases int_inv p1
  cases int_inv p2
  exact ⟨_, .int _, fun Q q => ⟨_, _, rfl, rfl, q⟩⟩
theorem ev_mul {i j : Int} (ha : Ev X Γ a (rD (.int i))) (hb : Ev X Γ b (rD (.int j))) (h : (-(2 ^ 64) < i ∧ i < 2 ^ 64) ∨ (-(2 ^ 64) < j ∧ j < 2 ^ 64)) : Ev X Γ (.BinOp a .Mult b pos) (rD (.int (i * j))) := ev_op0 op_mul ha hb fun x y F G H f g p1 p2 => by
  cases int_inv p1
  cases int_inv p2
  exact ⟨_, .int _, fun Q q => ⟨_, _, rfl, rfl, h, q⟩⟩
theorem ev_mod {i j : Int} (ha : Ev X Γ a (rD (.int i))) (hb : Ev X Γ b (rD (.int j))) (h : 0 < j) : Ev X Γ (.BinOp a .Mod b pos) (rD (.int (i % j))) := ev_op0 op_mod ha hb fun x y F G H f g p1 p2 => by
  cases int_inv p1
  cases int_inv p2
  exact ⟨_, .int _, fun Q q => ⟨_, _, rfl, rfl, h, q⟩⟩
theorem ev_fdiv {i j : Int} (ha : Ev X Γ a (rD (.int i))) (hb : Ev X Γ b (rD (.int j))) (h : 0 < j ∧ j < 1073741824) : Ev X Γ (.BinOp a .FloorDiv b pos) (rD (.int (i / j))) := ev_op0 op_fdiv ha hb fun x y F G H f g p1 p2 => by
  cases int_inv p1
  cases int_inv p2
  exact ⟨_, .int _, fun Q q => ⟨_, _, rfl, rfl, h, q⟩⟩
theorem ev_pow {i j : Int} (ha : Ev X Γ a (rD (.int i))) (hb : Ev X Γ b (rD (.int j))) (h : 0 ≤ j ∧ j ≤ 1000000 ∧ i.natAbs < 2 ^ 64) : Ev X Γ (.BinOp a .Pow b pos) (rD (.int (i ^ j.toNat))) := ev_op0 op_pow ha hb fun x y F G H f g p1 p2 => by
  cases int_inv p1
  cases int_inv p2
  exact ⟨_, .int _, fun Q q => ⟨_, _, rfl, rfl, h, q⟩⟩
theorem ev_neg {i : Int} (ha : Ev X Γ a (rD (.int i))) : Ev X Γ (.UnaryOp .USub a pos) (rD (.int (-i))) := ev_un0 un_neg ha fun x F G H f g p1 => by
  cases int_inv p1
  exact ⟨_, .int _, fun Q q => ⟨_, rfl, q⟩⟩
theorem ev_addS {i j : Str} (ha : Ev X Γ a (rD (.str i))) (hb : Ev X Γ b (rD (.str j))) (h : i.length + j.length ≤ sizeLine) : Ev X Γ (.BinOp a .Add b pos) (rD (.str (i ++ j))) := ev_op0 op_add_str ha hb fun x y F G H f g p1 p2 => by
  cases str_inv p1
  cases str_inv p2
  exact ⟨_, .str _, fun Q q => ⟨_, _, rfl, rfl, h, q⟩⟩
/-! comparisons of ints -/
theorem rII {x y : V} {F H : Hp} {i j : Int} {p : Int → Int → Bool} (p1 : Dt F x (.int i)) (p2 : Dt F y (.int j)) : ∀ Q : VK, Q (.bl (p i j)) H → rI0 (fun i j => .bl (p i j)) x y H Q := fun Q q => by
  cases int_inv p1
  cases int_inv p2
  exact ⟨_, _, rfl, rfl, q⟩
theorem ev_lt {i j : Int} (ha : Ev X Γ a (rD (.int i))) (hb : Ev X Γ b (rD (.int j))) : Ev X Γ (.Compare a [.Lt] [b] pos) (rD (.bool (decide (i < j)))) := ev_cmp0 op_lt ha hb (fun x y F G H f g p1 p2 => ⟨_, .bl _, rII (p := fun i j => decide (i < j)) p1 p2⟩) (nomark _)
theorem ev_le {i j : Int} (ha : Ev X Γ a (rD (.int i))) (hb : Ev X Γ b (rD (.int j))) : Ev X Γ (.Compare a [.LtE] [b] pos) (rD (.bool (decide (i ≤ j)))) := ev_cmp0 op_le ha hb (fun x y F G H f g p1 p2 => ⟨_, .bl _, rII (p := fun i j => decide (i ≤ j)) p1 p2⟩) (nomark _)
theorem ev_gt {i j : Int} (ha : Ev X Γ a (rD (.int i))) (hb : Ev X Γ b (rD (.int j))) : Ev X Γ (.Compare a [.Gt] [b] pos) (rD (.bool (decide (j < i)))) := ev_cmp0 op_gt ha hb (fun x y F G H f g p1 p2 => ⟨_, .bl _, rII (p := fun i j => decide (j < i)) p1 p2⟩) (nomark _)
theorem ev_ge {i j : Int} (ha : Ev X Γ a (rD (.int i))) (hb : Ev X Γ b (rD (.int j))) : Ev X Γ (.Compare a [.GtE] [b] pos) (rD (.bool (decide (j ≤ i)))) := ev_cmp0 op_ge ha hb (fun x y F G H f g p1 p2 => ⟨_, .bl _, rII (p := fun i j => decide (j ≤ i)) p1 p2⟩) (nomark _)
theorem tv_lt {i j : Int} (ha : Ev X Γ a (rD (.int i))) (hb : Ev X Γ b (rD (.int j))) : Tv X Γ (.Compare a [.Lt] [b] pos) (decide (i < j)) := tv_cmp0 op_lt ha hb (fun x y F G H f g p1 p2 => rII (p := fun i j => decide (i < j)) p1 p2) (nomark _)
theorem tv_le {i j : Int} (ha : Ev X Γ a (rD (.int i))) (hb : Ev X Γ b (rD (.int j))) : Tv X Γ (.Compare a [.LtE] [b] pos) (decide (i ≤ j)) := tv_cmp0 op_le ha hb (fun x y F G H f g p1 p2 => rII (p := fun i j => decide (i ≤ j)) p1 p2) (nomark _)
theorem tv_gt {i j : Int} (ha : Ev X Γ a (rD (.int i))) (hb : Ev X Γ b (rD (.int j))) : Tv X Γ (.Compare a [.Gt] [b] pos) (decide (j < i)) := tv_cmp0 op_gt ha hb (fun x y F G H f g p1 p2 => rII (p := fun i j => decide (j < i)) p1 p2) (nomark _)
theorem tv_ge {i j : Int} (ha : Ev X Γ a (rD (.int i))) (hb : Ev X Γ b (rD (.int j))) : Tv X Γ (.Compare a [.GtE] [b] pos) (decide (j ≤ i)) := tv_cmp0 op_ge ha hb (fun x y F G H f g p1 p2 => rII (p := fun i j => decide (j ≤ i)) p1 p2) (nomark _)
/-! == and != of scalars: ints, texts, bools, None -/
def scalD : PyData → PyData → Option Bool
  | .int i, .int j => some (decide (i = j))
  | .str i, .str j => some (decide (i = j))
  | _, _ => none
theorem eqI {x y : V} {F H : Hp} {i j : Int} (p1 : Dt F x (.int i)) (p2 : Dt F y (.int j)) : ∀ Q : VK, Q (.bl (decide (i = j))) H → rEq x y H Q := fun Q q => by
  cases int_inv p1
  cases int_inv p2
  refine ⟨rfl, ?_⟩
  by_cases h : i = j
  · subst h
    simpa using q
  · have n : ¬ (V.int i = V.int j) := fun z => h (V.int.inj z)
    rw [decide_eq_false n]
    rwa [decide_eq_false h] at q
theorem neI {x y : V} {F H : Hp} {i j : Int} (p1 : Dt F x (.int i)) (p2 : Dt F y (.int j)) : ∀ Q : VK, Q (.bl (!decide (i = j))) H → rNe x y H Q := fun Q q => by
  cases int_inv p1
  cases int_inv p2
  refine ⟨rfl, ?_⟩
  by_cases h : i = j
  · subst h
    simpa using q
  · have n : ¬ (V.int i = V.int j) := fun z => h (V.int.inj z)
    rw [decide_eq_false n]
    rwa [decide_eq_false h] at q
theorem eqS {x y : V} {F H : Hp} {i j : Str} (p1 : Dt F x (.str i)) (p2 : Dt F y (.str j)) : ∀ Q : VK, Q (.bl (decide (i = j))) H → rEq x y H Q := fun Q q => by
  cases str_inv p1
  cases str_inv p2
  refine ⟨rfl, ?_⟩
  by_cases h : i = j
  · subst h
    simpa using q
  · have n : ¬ (V.str i = V.str j) := fun z => h (V.str.inj z)
    rw [decide_eq_false n]
    rwa [decide_eq_false h] at q
theorem neS {x y : V} {F H : Hp} {i j : Str} (p1 : Dt F x (.str i)) (p2 : Dt F y (.str j)) : ∀ Q : VK, Q (.bl (!decide (i = j))) H → rNe x y H Q := fun Q q => by
  cases str_inv p1
  cases str_inv p2
  refine ⟨rfl, ?_⟩
  by_cases h : i = j
  · subst h
    simpa using q
  · have n : ¬ (V.str i = V.str j) := fun z => h (V.str.inj z)
    rw [decide_eq_false n]
    rwa [decide_eq_false h] at q
theorem ev_eqI {i j : Int} (ha : Ev X Γ a (rD (.int i))) (hb : Ev X Γ b (rD (.int j))) : Ev X Γ (.Compare a [.Eq] [b] pos) (rD (.bool (decide (i = j)))) := ev_cmp0 op_eq ha hb (fun x y F G H f g p1 p2 => ⟨_, .bl _, eqI p1 p2⟩) (nomark _)
theorem ev_neI {i j : Int} (ha : Ev X Γ a (rD (.int i))) (hb : Ev X Γ b (rD (.int j))) : Ev X Γ (.Compare a [.NotEq] [b] pos) (rD (.bool (!decide (i = j)))) := ev_cmp0 op_ne ha hb (fun x y F G H f g p1 p2 => ⟨_, .bl _, neI p1 p2⟩) (nomark _)
theorem ev_eqS {i j : Str} (ha : Ev X Γ a (rD (.str i))) (hb : Ev X Γ b (rD (.str j))) : Ev X Γ (.Compare a [.Eq] [b] pos) (rD (.bool (decide (i = j)))) := ev_cmp0 op_eq ha hb (fun x y F G H f g p1 p2 => ⟨_, .bl _, eqS p1 p2⟩) (nomark _)
theorem ev_neS {i j : Str} (ha : Ev X Γ a (rD (.str i))) (hb : Ev X Γ b (rD (.str j))) : Ev X Γ (.Compare a [.NotEq] [b] pos) (rD (.bool (!decide (i = j)))) := ev_cmp0 op_ne ha hb (fun x y F G H f g p1 p2 => ⟨_, .bl _, neS p1 p2⟩) (nomark _)
theorem tv_eqI {i j : Int} (ha : Ev X Γ a (rD (.int i))) (hb : Ev X Γ b (rD (.int j))) : Tv X Γ (.Compare a [.Eq] [b] pos) (decide (i = j)) := tv_cmp0 op_eq ha hb (fun x y F G H f g p1 p2 => eqI p1 p2) (nomark _)
theorem tv_neI {i j : Int} (ha : Ev X Γ a (rD (.int i))) (hb : Ev X Γ b (rD (.int j))) : Tv X Γ (.Compare a [.NotEq] [b] pos) (!decide (i = j)) := tv_cmp0 op_ne ha hb (fun x y F G H f g p1 p2 => neI p1 p2) (nomark _)
theorem tv_eqS {i j : Str} (ha : Ev X Γ a (rD (.str i))) (hb : Ev X Γ b (rD (.str j))) : Tv X Γ (.Compare a [.Eq] [b] pos) (decide (i = j)) := tv_cmp0 op_eq ha hb (fun x y F G H f g p1 p2 => eqS p1 p2) (nomark _)
theorem tv_neS {i j : Str} (ha : Ev X Γ a (rD (.str i))) (hb : Ev X Γ b (rD (.str j))) : Tv X Γ (.Compare a [.NotEq] [b] pos) (!decide (i = j)) := tv_cmp0 op_ne ha hb (fun x y F G H f g p1 p2 => neS p1 p2) (nomark _)
/-! == and != of data at any depth -/
theorem dp_up {F G H : Hp} (f : Same F G) (g : Same G H) {v : V} {d : PyData} (p : Dt F v d) : Dt H v d := dt_same (f.trans g) _ _ p
/-- what can be compared as data: a frozen one, a list as it stands -/
class AsD (R : Rp) (d : outParam PyData) : Prop where
  as : ∀ (v : V) (F G H : Hp), Same F G → Same G H → R.P v F G H → Dt H v d
instance {d : PyData} : AsD (rD d) d := ⟨fun v F G H f g p => dp_up f g p⟩
instance {ds : List PyData} : AsD (bD ds) (.list ds) := ⟨fun v F G H f g ⟨a, vs, e, s, q⟩ => by rw [e]; exact .lst (g _ _ s) (dtAll_same (f.trans g) _ _ q)⟩
instance {ds : List PyData} : AsD (hD ds) (.list ds) := ⟨fun v F G H f g ⟨a, vs, e, s, q⟩ => by rw [e]; exact .lst s (dtAll_same (f.trans g) _ _ q)⟩
theorem ev_eqD {Ra Rb : Rp} {d e : PyData} [h1 : AsD Ra d] [h2 : AsD Rb e] (ha : Ev X Γ a Ra) (hb : Ev X Γ b Rb) (sd : SeqAt.shaped d = true) (se : SeqAt.shaped e = true) (hu : X.A.units + 64 < cLine) :
    Ev X Γ (.Compare a [.Eq] [b] pos) (rD (.bool (PyData.eqv d e))) := ev_cmp0 (op_eqD hu) ha hb (fun x y F G H f g p1 p2 => ⟨_, .bl _, fun Q q => ⟨d, e, dt_dp _ _ _ (h1.as _ F G H f g p1), dt_dp _ _ _ (h2.as _ F G H f g p2), sd, se, q⟩⟩) (nomark _)
theorem ev_neD {Ra Rb : Rp} {d e : PyData} [h1 : AsD Ra d] [h2 : AsD Rb e] (ha : Ev X Γ a Ra) (hb : Ev X Γ b Rb) (sd : SeqAt.shaped d = true) (se : SeqAt.shaped e = true) (hu : X.A.units + 64 < cLine) :
    Ev X Γ (.Compare a [.NotEq] [b] pos) (rD (.bool (!PyData.eqv d e))) := ev_cmp0 (op_neD hu) ha hb (fun x y F G H f g p1 p2 => ⟨_, .bl _, fun Q q => ⟨d, e, dt_dp _ _ _ (h1.as _ F G H f g p1), dt_dp _ _ _ (h2.as _ F G H f g p2), sd, se, q⟩⟩) (nomark _)
theorem tv_eqD {Ra Rb : Rp} {d e : PyData} [h1 : AsD Ra d] [h2 : AsD Rb e] (ha : Ev X Γ a Ra) (hb : Ev X Γ b Rb) (sd : SeqAt.shaped d = true) (se : SeqAt.shaped e = true) (hu : X.A.units + 64 < cLine) :
    Tv X Γ (.Compare a [.Eq] [b] pos) (PyData.eqv d e) := tv_cmp0 (op_eqD hu) ha hb (fun x y F G H f g p1 p2 Q q => ⟨d, e, dt_dp _ _ _ (h1.as _ F G H f g p1), dt_dp _ _ _ (h2.as _ F G H f g p2), sd, se, q⟩) (nomark _)
theorem tv_neD {Ra Rb : Rp} {d e : PyData} [h1 : AsD Ra d] [h2 : AsD Rb e] (ha : Ev X Γ a Ra) (hb : Ev X Γ b Rb) (sd : SeqAt.shaped d = true) (se : SeqAt.shaped e = true) (hu : X.A.units + 64 < cLine) :
    Tv X Γ (.Compare a [.NotEq] [b] pos) (!PyData.eqv d e) := tv_cmp0 (op_neD hu) ha hb (fun x y F G H f g p1 p2 Q q => ⟨d, e, dt_dp _ _ _ (h1.as _ F G H f g p1), dt_dp _ _ _ (h2.as _ F G H f g p2), sd, se, q⟩) (nomark _)
/-! in, not in a list of data -/
theorem ev_inD {Ra Rb : Rp} {d : PyData} {ds : List PyData} [h1 : AsD Ra d] [h2 : AsD Rb (.list ds)] (ha : Ev X Γ a Ra) (hb : Ev X Γ b Rb) (sd : SeqAt.shaped d = true) (se : SeqAt.shaped (.list ds) = true) (hu : X.A.units + 65 < cLine)
    (hm : behindInMarks .In b = false := by rfl) : Ev X Γ (.Compare a [.In] [b] pos) (rD (.bool (ds.any fun z => PyData.eqv z d))) := ev_cmp0 (op_inD hu) ha hb (fun x y F G H f g p1 p2 => ⟨_, .bl _, fun Q q => ⟨d, ds, dt_dp _ _ _ (h1.as _ F G H f g p1), dt_dp _ _ _ (h2.as _ F G H f g p2), sd, se, q⟩⟩) hm
theorem ev_niD {Ra Rb : Rp} {d : PyData} {ds : List PyData} [h1 : AsD Ra d] [h2 : AsD Rb (.list ds)] (ha : Ev X Γ a Ra) (hb : Ev X Γ b Rb) (sd : SeqAt.shaped d = true) (se : SeqAt.shaped (.list ds) = true) (hu : X.A.units + 65 < cLine)
    (hm : behindInMarks .NotIn b = false := by rfl) : Ev X Γ (.Compare a [.NotIn] [b] pos) (rD (.bool (!ds.any fun z => PyData.eqv z d))) := ev_cmp0 (op_notInD hu) ha hb (fun x y F G H f g p1 p2 => ⟨_, .bl _, fun Q q => ⟨d, ds, dt_dp _ _ _ (h1.as _ F G H f g p1), dt_dp _ _ _ (h2.as _ F G H f g p2), sd, se, q⟩⟩) hm
theorem tv_inD {Ra Rb : Rp} {d : PyData} {ds : List PyData} [h1 : AsD Ra d] [h2 : AsD Rb (.list ds)] (ha : Ev X Γ a Ra) (hb : Ev X Γ b Rb) (sd : SeqAt.shaped d = true) (se : SeqAt.shaped (.list ds) = true) (hu : X.A.units + 65 < cLine)
    (hm : behindInMarks .In b = false := by rfl) : Tv X Γ (.Compare a [.In] [b] pos) (ds.any fun z => PyData.eqv z d) := tv_cmp0 (op_inD hu) ha hb (fun x y F G H f g p1 p2 Q q => ⟨d, ds, dt_dp _ _ _ (h1.as _ F G H f g p1), dt_dp _ _ _ (h2.as _ F G H f g p2), sd, se, q⟩) hm
theorem tv_niD {Ra Rb : Rp} {d : PyData} {ds : List PyData} [h1 : AsD Ra d] [h2 : AsD Rb (.list ds)] (ha : Ev X Γ a Ra) (hb : Ev X Γ b Rb) (sd : SeqAt.shaped d = true) (se : SeqAt.shaped (.list ds) = true) (hu : X.A.units + 65 < cLine)
    (hm : behindInMarks .NotIn b = false := by rfl) : Tv X Γ (.Compare a [.NotIn] [b] pos) (!ds.any fun z => PyData.eqv z d) := tv_cmp0 (op_notInD hu) ha hb (fun x y F G H f g p1 p2 Q q => ⟨d, ds, dt_dp _ _ _ (h1.as _ F G H f g p1), dt_dp _ _ _ (h2.as _ F G H f g p2), sd, se, q⟩) hm
/-! is None -/
theorem isN {x : V} {F G H : Hp} (f : Same F G) (g : Same G H) {d : PyData} (p : Dt F x d) : decide (x = .non) = (match d with | .none => true | _ => false) := by
  cases p <;> rfl
def isNone : PyData → Bool
  | .none => true
  | _ => false
theorem isN' {x : V} {F : Hp} {d : PyData} (p : Dt F x d) : decide (x = .non) = isNone d := by
  cases p <;> rfl
theorem ev_isN {d : PyData} {j : Nat} {pos' : Pos} (ha : Ev X Γ a (rD d)) : Ev X Γ (.Compare a [.Is] [.Constant .none j pos'] pos) (rD (.bool (isNone d))) := ev_cmp0 op_isN ha ev_non (fun x y F G H f g p1 p2 => ⟨_, .bl _, fun Q q => ⟨non_inv p2, by rw [isN' p1]; exact q⟩⟩) (nomark _)
theorem ev_noN {d : PyData} {j : Nat} {pos' : Pos} (ha : Ev X Γ a (rD d)) : Ev X Γ (.Compare a [.IsNot] [.Constant .none j pos'] pos) (rD (.bool (!isNone d))) := ev_cmp0 op_notN ha ev_non (fun x y F G H f g p1 p2 => ⟨_, .bl _, fun Q q => ⟨non_inv p2, by rw [isN' p1]; exact q⟩⟩) (nomark _)
theorem tv_isN {d : PyData} {j : Nat} {pos' : Pos} (ha : Ev X Γ a (rD d)) : Tv X Γ (.Compare a [.Is] [.Constant .none j pos'] pos) (isNone d) := tv_cmp0 op_isN ha ev_non (fun x y F G H f g p1 p2 Q q => ⟨non_inv p2, by rw [isN' p1]; exact q⟩) (nomark _)
theorem tv_noN {d : PyData} {j : Nat} {pos' : Pos} (ha : Ev X Γ a (rD d)) : Tv X Γ (.Compare a [.IsNot] [.Constant .none j pos'] pos) (!isNone d) := tv_cmp0 op_notN ha ev_non (fun x y F G H f g p1 p2 Q q => ⟨non_inv p2, by rw [isN' p1]; exact q⟩) (nomark _)
/-! truth, and, or, not -/
theorem tv_val {d : Bool} (ha : Ev X Γ a (rD (.bool d))) (he : ∀ whole, isTrue a X.env whole = (do let v ← whole; standAt a.pos; holding [v] (truthy v)) := by intro _; rfl) : Tv X Γ a d := fun W gh σ F G H E Q q =>
  TW.of (pt_val pe_w he) (ha W gh σ F G H E _ fun v F' G' H' E' x0 p => ⟨d, bool_inv p, q F' G' H' E' x0⟩)
theorem tv_list {ds : List PyData} (ha : Ev X Γ a (hD ds)) (he : ∀ whole, isTrue a X.env whole = (do let v ← whole; standAt a.pos; holding [v] (truthy v)) := by intro _; rfl) : Tv X Γ a (!ds.isEmpty) := fun W gh σ F G H E Q q =>
  TW.of (pt_truth pe_w he) (ha W gh σ F G H E _ fun v F' G' H' E' x0 ⟨l, vs, e, sq, p⟩ => by
    subst e
    refine ⟨!vs.isEmpty, .inl ⟨vs, .inl (.inl sq), rfl⟩, ?_⟩
    have z : vs.isEmpty = ds.isEmpty := by
      have := p.length
      cases vs <;> cases ds <;> simp_all
    rw [z]
    exact q F' G' H' E' x0)
theorem tv_not {d : Bool} (ha : Tv X Γ a d) : Tv X Γ (.UnaryOp .Not a pos) (!d) := fun W gh σ F G H E Q q =>
  TW.of (pt_not pt_w) (ha W gh σ F G H E _ fun F' G' H' E' x0 => q F' G' H' E' x0)
theorem tv_wv {d : Bool} (h : Wv X Γ a d) : Tv X Γ a d := fun W gh σ F G H E Q q => TW.of (PW.pt pw_w) (h W gh σ F G H E Q q)
theorem wv_and1 {d : Bool} (h : Tv X Γ a d) : Wv X Γ (.BoolOp .And [a] pos) d := fun W gh σ F G H E Q q => WW.of (pw_and1 pt_w) (h W gh σ F G H E Q q)
theorem wv_or1 {d : Bool} (h : Tv X Γ a d) : Wv X Γ (.BoolOp .Or [a] pos) d := fun W gh σ F G H E Q q => WW.of (pw_or1 pt_w) (h W gh σ F G H E Q q)
theorem wv_and {d d' : Bool} {rest : List Expr} (h : Tv X Γ a d) (k : d = true → Wv X Γ (.BoolOp .And (b :: rest) pos) d') : Wv X Γ (.BoolOp .And (a :: b :: rest) pos) (d && d') := fun W gh σ F G H E Q q =>
  WW.of (pw_and pt_w pw_w) (h W gh σ F G H E _ fun F' G' H' E' x0 => by
    cases d with
    | true => exact iteT (k rfl W gh σ F' G' H' E' _ fun F2 G2 H2 E2 x2 => q F2 G2 H2 E2 (x0.trans x2))
    | false => exact iteF (q F' G' H' E' x0))
theorem wv_or {d d' : Bool} {rest : List Expr} (h : Tv X Γ a d) (k : d = false → Wv X Γ (.BoolOp .Or (b :: rest) pos) d') : Wv X Γ (.BoolOp .Or (a :: b :: rest) pos) (d || d') := fun W gh σ F G H E Q q =>
  WW.of (pw_or pt_w pw_w) (h W gh σ F G H E _ fun F' G' H' E' x0 => by
    cases d with
    | true => exact iteT (q F' G' H' E' x0)
    | false => exact iteF (k rfl W gh σ F' G' H' E' _ fun F2 G2 H2 E2 x2 => q F2 G2 H2 E2 (x0.trans x2)))
theorem ev_one {op : BoolOp} {R : Rp} (h : Ev X Γ a R) : Ev X Γ (.BoolOp op [a] pos) R := fun W gh σ F G H E Q q => EW.of (pe_one pe_w) (h W gh σ F G H E Q q)
theorem ev_and {d d' : Bool} {rest : List Expr} (h : Ev X Γ a (rD (.bool d))) (k : d = true → Ev X Γ (.BoolOp .And (b :: rest) pos) (rD (.bool d'))) : Ev X Γ (.BoolOp .And (a :: b :: rest) pos) (rD (.bool (d && d'))) := fun W gh σ F G H E Q q =>
  EW.of (pe_and pe_w pe_w) (h W gh σ F G H E _ fun v F' G' H' E' x0 p => by
    refine ⟨d, bool_inv p, ?_⟩
    cases d with
    | true => exact iteT (k rfl W gh σ F' G' H' E' _ fun v2 F2 G2 H2 E2 x2 p2 => q v2 F2 G2 H2 E2 (x0.trans x2) p2)
    | false => exact iteF (q _ F' G' H' E' x0 (.bl _)))
theorem ev_or {d d' : Bool} {rest : List Expr} (h : Ev X Γ a (rD (.bool d))) (k : d = false → Ev X Γ (.BoolOp .Or (b :: rest) pos) (rD (.bool d'))) : Ev X Γ (.BoolOp .Or (a :: b :: rest) pos) (rD (.bool (d || d'))) := fun W gh σ F G H E Q q =>
  EW.of (pe_or pe_w pe_w) (h W gh σ F G H E _ fun v F' G' H' E' x0 p => by
    refine ⟨d, bool_inv p, ?_⟩
    cases d with
    | true => exact iteT (q _ F' G' H' E' x0 (.bl _))
    | false => exact iteF (k rfl W gh σ F' G' H' E' _ fun v2 F2 G2 H2 E2 x2 p2 => q v2 F2 G2 H2 E2 (x0.trans x2) p2))
theorem ev_not {d : Bool} (h : Ev X Γ a (rD (.bool d))) : Ev X Γ (.UnaryOp .Not a pos) (rD (.bool (!d))) := fun W gh σ F G H E Q q =>
  EW.of (pe_not pe_w) (h W gh σ F G H E _ fun v F' G' H' E' x0 p => ⟨d, bool_inv p, q _ F' G' H' E' x0 (.bl _)⟩)
theorem ev_ife {d : Bool} {u v : PyData} (h : Tv X Γ c d) (ha : d = true → Ev X Γ a (rD u)) (hb : d = false → Ev X Γ b (rD v)) : Ev X Γ (.IfExp c a b pos) (rD (if d = true then u else v)) := fun W gh σ F G H E Q q =>
  EW.of (pe_ifExp pt_w pe_w pe_w) (h W gh σ F G H E _ fun F' G' H' E' x0 => by
    cases d with
    | true => exact iteT (ha rfl W gh σ F' G' H' E' _ fun v2 F2 G2 H2 E2 x2 p2 => q v2 F2 G2 H2 E2 (x0.trans x2) p2)
    | false => exact iteF (hb rfl W gh σ F' G' H' E' _ fun v2 F2 G2 H2 E2 x2 p2 => q v2 F2 G2 H2 E2 (x0.trans x2) p2))
/-! chains of ints -/
theorem ev_chain {op op' : CmpOp} {p p' : Int → Int → Bool} {i j k : Int} (ho : OpR X (compareOp op) (rI0 fun i j => .bl (p i j))) (ho' : OpR X (compareOp op') (rI0 fun i j => .bl (p' i j))) (ha : Ev X Γ a (rD (.int i))) (hb : Ev X Γ b (rD (.int j)))
    (hc : p i j = true → Ev X Γ c (rD (.int k))) (hm : lastMarks [op, op'] [b, c] = false := by with_unfolding_all rfl) : Ev X Γ (.Compare a [op, op'] [b, c] pos) (rD (.bool (p i j && p' j k))) := fun W gh σ F G H E Q q =>
  EW.of (pe_chain ho ho' pe_w pe_w pe_w hm) (ev_seq ha hb E fun x y F' G' H' E' x0 p1 p2 => by
    cases int_inv p1
    cases int_inv p2
    refine ⟨_, _, rfl, rfl, _, rfl, ?_⟩
    cases z : p i j with
    | true => exact iteT (hc z W gh σ F' G' H' E' _ fun v2 F2 G2 H2 E2 x2 p2 => by
        cases int_inv p2
        refine ⟨_, _, rfl, rfl, ?_⟩
        have w := q (.bl (p i j && p' j k)) F2 G2 H2 E2 (x0.trans x2) (.bl _)
        rw [z] at w
        exact w)
    | false => exact iteF (by
        have w := q (.bl (p i j && p' j k)) F' G' H' E' x0 (.bl _)
        rw [z] at w
        exact w))
theorem tv_chain {op op' : CmpOp} {p p' : Int → Int → Bool} {i j k : Int} (ho : OpR X (compareOp op) (rI0 fun i j => .bl (p i j))) (ho' : OpR X (compareOp op') (rI0 fun i j => .bl (p' i j))) (ha : Ev X Γ a (rD (.int i))) (hb : Ev X Γ b (rD (.int j)))
    (hc : p i j = true → Ev X Γ c (rD (.int k))) (hm : lastMarks [op, op'] [b, c] = false := by with_unfolding_all rfl) : Tv X Γ (.Compare a [op, op'] [b, c] pos) (p i j && p' j k) := fun W gh σ F G H E Q q =>
  TW.of (pt_chain ho ho' pe_w pe_w pe_w hm) (ev_seq ha hb E fun x y F' G' H' E' x0 p1 p2 => by
    cases int_inv p1
    cases int_inv p2
    refine ⟨_, _, rfl, rfl, _, rfl, ?_⟩
    cases z : p i j with
    | true => exact iteT (hc z W gh σ F' G' H' E' _ fun v2 F2 G2 H2 E2 x2 p2 => by
        cases int_inv p2
        refine ⟨_, _, rfl, rfl, _, rfl, ?_⟩
        have w := q F2 G2 H2 E2 (x0.trans x2)
        rw [z] at w
        exact w)
    | false => exact iteF (by
        refine ⟨_, rfl, ?_⟩
        have w := q F' G' H' E' x0
        rw [z] at w
        exact w))
end
end
end L3
/-! L3, part c: displays, subscripts, slices, built-ins, calls of defs. -/
namespace L3
open PySem PySem.Spec PyProof.Rows L2
section
variable {X : Cx} {Γ : List Sl} {a b c e : Expr} {es : List Expr} {pos : Pos}
/-! ### lists of expressions -/
theorem eva_nil : EvA X Γ [] [] := fun W gh σ F G H E Q q => AW.of pa_nil (q [] F G H E (Gr.refl _ _ _) .nil)
theorem paired_mono {F G H F' G' H' : Hp} (f : Same F F') (g : Same G G') (s : Same H H') : ∀ {vs : List V} {Rs : List Rp}, Paired (fun v (R : Rp) => R.P v F G H) vs Rs → Paired (fun v (R : Rp) => R.P v F' G' H') vs Rs
  | _, _, .nil => .nil
  | _, _, .cons (b := R) r t => .cons (R.mono f g s r) (paired_mono f g s t)
theorem eva_cons {R : Rp} {Rs : List Rp} (h : Ev X Γ e R) (t : EvA X Γ es Rs) (hs : starEach (e :: es) X.env = (false, eval e X.env) :: starEach es X.env := by rfl) : EvA X Γ (e :: es) (R :: Rs) := fun W gh σ F G H E Q q =>
  AW.of (pa_cons pe_w pa_w hs) (h W gh σ F G H E _ fun v F1 G1 H1 E1 x1 p1 => t W gh σ F1 G1 H1 E1 _ fun vs F2 G2 H2 E2 x2 p2 =>
    q (v :: vs) F2 G2 H2 E2 (x1.trans x2) (.cons (R.mono x2.f x2.g x2.s p1) p2))
def EvD (X : Cx) (Γ : List Sl) (es : List Expr) (ds : List PyData) : Prop := ∀ (W : Wd) (gh : Gh) (σ : L2.St) (F G H : Hp), En W gh Γ σ F G H → ∀ Q : List V → Hp → Prop,
  (∀ vs F' G' H', En W gh Γ σ F' G' H' → Gr F G H F' G' H' → DtAll F' vs ds → Q vs H') → AW X es σ H Q
theorem evd_nil : EvD X Γ [] [] := fun W gh σ F G H E Q q => AW.of pa_nil (q [] F G H E (Gr.refl _ _ _) .nil)
theorem evd_cons {d : PyData} {ds : List PyData} (h : Ev X Γ e (rD d)) (t : EvD X Γ es ds) (hs : starEach (e :: es) X.env = (false, eval e X.env) :: starEach es X.env := by rfl) : EvD X Γ (e :: es) (d :: ds) := fun W gh σ F G H E Q q =>
  AW.of (pa_cons pe_w pa_w hs) (h W gh σ F G H E _ fun v F1 G1 H1 E1 x1 p1 => t W gh σ F1 G1 H1 E1 _ fun vs F2 G2 H2 E2 x2 p2 =>
    q (v :: vs) F2 G2 H2 E2 (x1.trans x2) (.cons (dt_same x2.f _ _ p1) p2))
theorem one_new {H G : Hp} {p : Addr} (h : H p = none) (g : G p = none) : ∀ a ∈ [p], H a = none ∧ G a = none := fun a ha => by
  rw [List.mem_singleton] at ha
  subst ha
  exact ⟨h, g⟩
/-! ### displays -/
theorem ev_tup {ds : List PyData} {k : Nat} (h : EvD X Γ es ds) (hl : ds.length ≤ sizeLine := by (first | (show _ ≤ 16777216; decide) | exact Nat.le_of_ble_eq_true rfl)) : Ev X Γ (.Tuple es k pos) (rD (.tuple ds)) := fun W gh σ F G H E Q q =>
  EW.of (pe_tup pa_w) (h W gh σ F G H E _ fun vs F1 G1 H1 E1 x1 p1 => ⟨by rw [p1.length]; exact hl, fun p hp => by
    have fp := E1.fg.free (E1.gH.free hp)
    exact q (.ref p) _ _ _ (E1.newF hp) (x1.newF hp fp (E1.gH.free hp)) (.tup upd_same (dtAll_same (same_upd fp) _ _ p1))⟩)
theorem evo_lst {ds : List PyData} (h : EvD X Γ es ds) (hl : ds.length ≤ sizeLine := by (first | (show _ ≤ 16777216; decide) | exact Nat.le_of_ble_eq_true rfl)) : EvO X Γ (.List es pos) (cD ds) := fun W gh σ F G H E Q q =>
  EW.of (pe_lst pa_w) (h W gh σ F G H E _ fun vs F1 G1 H1 E1 x1 p1 => ⟨by rw [p1.length]; exact hl, fun p hp =>
    q p [p] F1 G1 _ (E1.new hp) (x1.new hp) (one_new (x1.s.free hp) (E1.gH.free hp)) ⟨rfl, vs, upd_same, p1⟩⟩)
/-! ### subscripts -/
theorem atI_map {α β : Type} (f : α → β) (xs : List α) (i : Int) : atI (xs.map f) i = (atI xs i).map f := by
  unfold atI
  rw [List.length_map]
  cases ixN xs.length i with
  | none => rfl
  | some j => simp
theorem atI_dt {H : Hp} {vs : List V} {ds : List PyData} {i : Int} {d : PyData} (h : DtAll H vs ds) (e : atI ds i = some d) : ∃ v, atI vs i = some v ∧ Dt H v d := by
  unfold atI at e ⊢
  rw [h.length]
  cases q : ixN ds.length i with
  | none => rw [q] at e; cases e
  | some j =>
    rw [q] at e
    exact h.get e
theorem ev_ixT {ds : List PyData} {i : Int} {d : PyData} (ha : Ev X Γ a (rD (.tuple ds))) (hb : Ev X Γ b (rD (.int i))) (hi : atI ds i = some d) (hs : PlainIx b := by exact fun _ _ => rfl) : Ev X Γ (.Subscript a b pos) (rD d) := fun W gh σ F G H E Q q =>
  EW.of (pe_ix ix_tup pe_w pe_w hs) (ev_seq ha hb E fun x y F' G' H' E' x0 p1 p2 => by
    obtain ⟨p, vs, rfl, hp, pv⟩ := tup_inv p1
    cases int_inv p2
    obtain ⟨v, ev, dv⟩ := atI_dt pv hi
    exact ⟨p, vs, i, v, rfl, rfl, .inl (.inl (E'.gH _ _ (E'.fg _ _ hp))), ev, q v F' G' H' E' x0 dv⟩)
theorem ev_ixL {ds : List PyData} {i : Int} {d : PyData} (ha : Ev X Γ a (hD ds)) (hb : Ev X Γ b (rD (.int i))) (hi : atI ds i = some d) (hs : PlainIx b := by exact fun _ _ => rfl) : Ev X Γ (.Subscript a b pos) (rD d) := fun W gh σ F G H E Q q =>
  EW.of (pe_ix ix_list pe_w pe_w hs) (ev_seq ha hb E fun x y F' G' H' E' x0 p1 p2 => by
    obtain ⟨p, vs, rfl, hp, pv⟩ := p1
    cases int_inv p2
    obtain ⟨v, ev, dv⟩ := atI_dt pv hi
    exact ⟨p, vs, i, v, rfl, rfl, .inl (.inl hp), ev, q v F' G' H' E' x0 dv⟩)
theorem ev_ixS {z : Str} {i : Int} {c : Nat} (ha : Ev X Γ a (rD (.str z))) (hb : Ev X Γ b (rD (.int i))) (hz : z.length ≤ sizeLine) (hi : atI z.cps.toList i = some c) (hs : PlainIx b := by exact fun _ _ => rfl) : Ev X Γ (.Subscript a b pos) (rD (.str ⟨#[c]⟩)) := fun W gh σ F G H E Q q =>
  EW.of (pe_ix ix_str pe_w pe_w hs) (ev_seq ha hb E fun x y F' G' H' E' x0 p1 p2 => by
    cases str_inv p1
    cases int_inv p2
    exact ⟨z, i, c, rfl, rfl, hz, hi, q _ F' G' H' E' x0 (.str _)⟩)
/-! ### slices -/
structure OW (X : Cx) (e : Option Expr) (σ : L2.St) (H : Hp) (Q : Option Int → Hp → Prop) : Prop where
  go : ∀ (pins : List (Addr × Obj)) (s : Shared), Inv X pins σ H s → wpAny (model X.prog X.w) X.A (evalPart e X.env) (fun u s' => ∃ o H', Inv X pins σ H' s' ∧ IsPart u o ∧ Q o H') X.xe s
theorem po_w {e : Option Expr} : PO X e (OW X e) := ⟨fun pins s _ _ _ I h => h.go pins s I⟩
theorem OW.of {e : Option Expr} {t : TO} {σ : L2.St} {H : Hp} {Q : Option Int → Hp → Prop} (h : PO X e t) (q : t σ H Q) : OW X e σ H Q := ⟨fun pins s I => h.run pins s σ H Q I q⟩
def EvP (X : Cx) (Γ : List Sl) (e : Option Expr) (o : Option Int) : Prop := ∀ (W : Wd) (gh : Gh) (σ : L2.St) (F G H : Hp), En W gh Γ σ F G H → ∀ Q : Option Int → Hp → Prop,
  (∀ F' G' H', En W gh Γ σ F' G' H' → Gr F G H F' G' H' → Q o H') → OW X e σ H Q
theorem evp_no : EvP X Γ none none := fun W gh σ F G H E Q q => OW.of po_none (q F G H E (Gr.refl _ _ _))
theorem evp_so {i : Int} (h : Ev X Γ e (rD (.int i))) : EvP X Γ (some e) (some i) := fun W gh σ F G H E Q q => OW.of (po_some pe_w) (h W gh σ F G H E _ fun v F' G' H' E' x0 p => ⟨i, int_inv p, q F' G' H' E' x0⟩)
def cut {α : Type} (xs : List α) (lo hi : Option Int) : List α := (xs.drop (HT.sIx xs.length 0 lo)).take (HT.sIx xs.length xs.length hi - HT.sIx xs.length 0 lo)
theorem cut_map {α β : Type} (f : α → β) (xs : List α) (lo hi : Option Int) : cut (xs.map f) lo hi = (cut xs lo hi).map f := by
  unfold cut
  rw [List.length_map, List.map_take, List.map_drop]
theorem cut_dt {H : Hp} {vs : List V} {ds : List PyData} (h : DtAll H vs ds) (lo hi : Option Int) : DtAll H (cutV vs lo hi) (cut ds lo hi) := by
  unfold cutV cut
  rw [h.length]
  exact (h.drop _).take _
theorem evo_sl {ds : List PyData} {lo hi : Option Expr} {l u : Option Int} {p2 : Pos} (ha : Ev X Γ a (hD ds)) (hl : EvP X Γ lo l) (hu : EvP X Γ hi u) : EvO X Γ (.Subscript a (.Slice lo hi none p2) pos) (cD (cut ds l u)) := fun W gh σ F G H E Q q =>
  EW.of (pe_slice sl_list pe_w po_w po_w) (ha W gh σ F G H E _ fun v F1 G1 H1 E1 x1 ⟨p, vs, ev, hp, pv⟩ => hl W gh σ F1 G1 H1 E1 _ fun F2 G2 H2 E2 x2 => hu W gh σ F2 G2 H2 E2 _ fun F3 G3 H3 E3 x3 =>
    ⟨p, vs, ev, .inl (.inl (x3.s _ _ (x2.s _ _ hp))), fun n hn => q n [n] F3 G3 _ (E3.new hn) ((x1.trans (x2.trans x3)).new hn) (one_new ((x1.trans (x2.trans x3)).s.free hn) (E3.gH.free hn)) ⟨rfl, _, upd_same, cut_dt (dtAll_same (x2.f.trans x3.f) _ _ pv) l u⟩⟩)
/-! ### lists put together, repeated; tuples put together -/
theorem evo_cat {ds es : List PyData} (ha : Ev X Γ a (hD ds)) (hb : Ev X Γ b (hD es)) (hz : ds.length + es.length ≤ sizeLine) : EvO X Γ (.BinOp a .Add b pos) (cD (ds ++ es)) := fun W gh σ F G H E Q q =>
  EW.of (pe_op op_cat pe_w pe_w) (ev_seq ha hb E fun x y F' G' H' E' x0 ⟨p, vs, ev, hp, pv⟩ ⟨p', vs', ev', hp', pv'⟩ =>
    ⟨p, p', vs, vs', ev, ev', hp, hp', by rw [pv.length, pv'.length]; exact hz, fun n hn => q n [n] F' G' _ (E'.new hn) (x0.new hn) (one_new (x0.s.free hn) (E'.gH.free hn)) ⟨rfl, _, upd_same, pv.append pv'⟩⟩)
theorem dtAll_rep {H : Hp} {vs : List V} {ds : List PyData} (h : DtAll H vs ds) : ∀ n : Nat, DtAll H (List.replicate n vs).flatten (List.replicate n ds).flatten
  | 0 => .nil
  | n + 1 => by
    rw [List.replicate_succ, List.replicate_succ, List.flatten_cons, List.flatten_cons]
    exact h.append (dtAll_rep h n)
theorem evo_rep {ds : List PyData} {k : Int} (ha : Ev X Γ a (hD ds)) (hb : Ev X Γ b (rD (.int k))) (hk : -(2 ^ 63) ≤ k ∧ k < 2 ^ 63) (hz : ds.length * k.toNat ≤ sizeLine) : EvO X Γ (.BinOp a .Mult b pos) (cD (List.replicate k.toNat ds).flatten) := fun W gh σ F G H E Q q =>
  EW.of (pe_op op_rep pe_w pe_w) (ev_seq ha hb E fun x y F' G' H' E' x0 ⟨p, vs, ev, hp, pv⟩ p2 =>
    ⟨p, k, vs, ev, int_inv p2, hp, hk.1, hk.2, by rw [pv.length]; exact hz, fun n hn => q n [n] F' G' _ (E'.new hn) (x0.new hn) (one_new (x0.s.free hn) (E'.gH.free hn)) ⟨rfl, _, upd_same, dtAll_rep pv _⟩⟩)
theorem ev_catT {ds es : List PyData} (ha : Ev X Γ a (rD (.tuple ds))) (hb : Ev X Γ b (rD (.tuple es))) (h0 : ds ≠ []) (hz : ds.length + es.length ≤ sizeLine) : Ev X Γ (.BinOp a .Add b pos) (rD (.tuple (ds ++ es))) := fun W gh σ F G H E Q q =>
  EW.of (pe_op op_catT pe_w pe_w) (ev_seq ha hb E fun x y F' G' H' E' x0 p1 p2 => by
    obtain ⟨p, vs, rfl, hp, pv⟩ := tup_inv p1
    obtain ⟨p', vs', rfl, hp', pv'⟩ := tup_inv p2
    refine ⟨p, p', vs, vs', rfl, rfl, .inl (.inl (E'.gH _ _ (E'.fg _ _ hp))), .inl (.inl (E'.gH _ _ (E'.fg _ _ hp'))), fun z => ?_, by rw [pv.length, pv'.length]; exact hz, fun z => ?_, fun _ n hn => ?_⟩
    · subst z
      cases pv
      exact h0 rfl
    · subst z
      cases pv'
      rw [List.append_nil] at q
      exact q _ F' G' H' E' x0 (.tup hp pv)
    · have fp := E'.fg.free (E'.gH.free hn)
      exact q (.ref n) _ _ _ (E'.newF hn) (x0.newF hn fp (E'.gH.free hn)) (.tup upd_same (dtAll_same (same_upd fp) _ _ (pv.append pv'))))
/-! ### built-ins -/
/-- the name is a built-in's -/
structure Bl (X : Cx) (x : Str) : Prop where
  hg : Gl X x
  hm : X.mg x = none
section
variable {x : Str} {p : Pos} {id T : String} {r : List V → Hp → VK → Prop}
theorem ev_cb1 {Ra R : Rp} (hc : CallR X (.builtin id) r) (h : Bl X x) (hv : bootBuiltins x = some (.builtin id)) (ha : Ev X Γ a Ra) (k : ∀ v F G H, Same F G → Same G H → Ra.P v F G H → ∃ u, R.P u F G H ∧ ∀ Q : VK, Q u H → r [v] H Q)
    (hn : x ≠ "__name__" := by decide) (hdb : (x == ("__debug__" : Str)) = false := by decide) (he : starEach [a] X.env = (false, eval a X.env) :: starEach [] X.env := by rfl) : Ev X Γ (.Call (.Name x p) [a] [] pos) R := fun W gh σ F G H E Q q =>
  EW.of (pe_callB hc h.hg h.hm hv (pa_cons pe_w pa_nil he) hn hdb he) (ha W gh σ F G H E _ fun v F' G' H' E' x0 p1 => by
    obtain ⟨u, pu, z⟩ := k v F' G' H' E'.fg E'.gH p1
    exact z Q (q u F' G' H' E' x0 pu))
theorem ev_ct1 {Ra R : Rp} (hc : CallR X (.type T) r) (h : Bl X x) (hv : bootBuiltins x = some (.type T)) (ha : Ev X Γ a Ra) (k : ∀ v F G H, Same F G → Same G H → Ra.P v F G H → ∃ u, R.P u F G H ∧ ∀ Q : VK, Q u H → r [v] H Q)
    (hn : x ≠ "__name__" := by decide) (hdb : (x == ("__debug__" : Str)) = false := by decide) (he : starEach [a] X.env = (false, eval a X.env) :: starEach [] X.env := by rfl) : Ev X Γ (.Call (.Name x p) [a] [] pos) R := fun W gh σ F G H E Q q =>
  EW.of (pe_callTy hc h.hg h.hm hv (pa_cons pe_w pa_nil he) hn hdb he) (ha W gh σ F G H E _ fun v F' G' H' E' x0 p1 => by
    obtain ⟨u, pu, z⟩ := k v F' G' H' E'.fg E'.gH p1
    exact z Q (q u F' G' H' E' x0 pu))
theorem ev_cb2 {Ra Rb R : Rp} (hc : CallR X (.builtin id) r) (h : Bl X x) (hv : bootBuiltins x = some (.builtin id)) (ha : Ev X Γ a Ra) (hb : Ev X Γ b Rb) (k : ∀ v w F G H, Same F G → Same G H → Ra.P v F G H → Rb.P w F G H → ∃ u, R.P u F G H ∧ ∀ Q : VK, Q u H → r [v, w] H Q)
    (hn : x ≠ "__name__" := by decide) (hdb : (x == ("__debug__" : Str)) = false := by decide) (he : starEach [a, b] X.env = (false, eval a X.env) :: starEach [b] X.env := by rfl) (he2 : starEach [b] X.env = (false, eval b X.env) :: starEach [] X.env := by rfl) (hpl : (backTo pos (starEach [b] X.env)).any (·.1) = false := by rfl) : Ev X Γ (.Call (.Name x p) [a, b] [] pos) R := fun W gh σ F G H E Q q =>
  EW.of (pe_callB hc h.hg h.hm hv (pa_cons pe_w (pa_cons pe_w pa_nil he2) he) hn hdb he hpl) (ev_seq ha hb E fun v w F' G' H' E' x0 p1 p2 => by
    obtain ⟨u, pu, z⟩ := k v w F' G' H' E'.fg E'.gH p1 p2
    exact z Q (q u F' G' H' E' x0 pu))
theorem evo_ct1 {Ra : Rp} {C : Cp} (hc : CallR X (.type T) r) (h : Bl X x) (hv : bootBuiltins x = some (.type T)) (ha : Ev X Γ a Ra) (k : ∀ v F G H, Same F G → Same G H → Ra.P v F G H → ∃ o, (∀ l H1, H1 l = some o → C.C l [l] H1 F G) ∧ ∀ Q : VK, (∀ l, H l = none → Q (.ref l) (upd H l o)) → r [v] H Q)
    (hn : x ≠ "__name__" := by decide) (hdb : (x == ("__debug__" : Str)) = false := by decide) (he : starEach [a] X.env = (false, eval a X.env) :: starEach [] X.env := by rfl) : EvO X Γ (.Call (.Name x p) [a] [] pos) C := fun W gh σ F G H E Q q =>
  EW.of (pe_callTy hc h.hg h.hm hv (pa_cons pe_w pa_nil he) hn hdb he) (ha W gh σ F G H E _ fun v F' G' H' E' x0 p1 => by
    obtain ⟨o, po, z⟩ := k v F' G' H' E'.fg E'.gH p1
    exact z Q fun l hl => q l [l] F' G' _ (E'.new hl) (x0.new hl) (one_new (x0.s.free hl) (E'.gH.free hl)) (po l _ upd_same))
theorem evo_cb1 {Ra : Rp} {C : Cp} (hc : CallR X (.builtin id) r) (h : Bl X x) (hv : bootBuiltins x = some (.builtin id)) (ha : Ev X Γ a Ra) (k : ∀ v F G H, Same F G → Same G H → Ra.P v F G H → ∃ o, (∀ l H1, H1 l = some o → C.C l [l] H1 F G) ∧ ∀ Q : VK, (∀ l, H l = none → Q (.ref l) (upd H l o)) → r [v] H Q)
    (hn : x ≠ "__name__" := by decide) (hdb : (x == ("__debug__" : Str)) = false := by decide) (he : starEach [a] X.env = (false, eval a X.env) :: starEach [] X.env := by rfl) : EvO X Γ (.Call (.Name x p) [a] [] pos) C := fun W gh σ F G H E Q q =>
  EW.of (pe_callB hc h.hg h.hm hv (pa_cons pe_w pa_nil he) hn hdb he) (ha W gh σ F G H E _ fun v F' G' H' E' x0 p1 => by
    obtain ⟨o, po, z⟩ := k v F' G' H' E'.fg E'.gH p1
    exact z Q fun l hl => q l [l] F' G' _ (E'.new hl) (x0.new hl) (one_new (x0.s.free hl) (E'.gH.free hl)) (po l _ upd_same))
end
section
variable {p : Pos}
theorem ev_len {ds : List PyData} (h : Bl X "len") (ha : Ev X Γ a (hD ds)) (he : starEach [a] X.env = (false, eval a X.env) :: starEach [] X.env := by rfl) : Ev X Γ (.Call (.Name "len" p) [a] [] pos) (rD (.int ds.length)) :=
  ev_cb1 call_len_seq h PySem.boot_len ha (fun v F G H f g ⟨l, vs, ev, hl, pv⟩ => ⟨_, .int _, fun Q q => ⟨l, vs, by rw [ev], .inl (.inl (.inl hl)), by rw [pv.length]; exact q⟩⟩) (he := he)
theorem ev_lenT {ds : List PyData} (h : Bl X "len") (ha : Ev X Γ a (rD (.tuple ds))) (he : starEach [a] X.env = (false, eval a X.env) :: starEach [] X.env := by rfl) : Ev X Γ (.Call (.Name "len" p) [a] [] pos) (rD (.int ds.length)) :=
  ev_cb1 call_len_seq h PySem.boot_len ha (fun v F G H f g p1 => by
    obtain ⟨l, vs, ev, hl, pv⟩ := tup_inv p1
    exact ⟨_, .int _, fun Q q => ⟨l, vs, by rw [ev], .inr (.inl (.inl (g _ _ (f _ _ hl)))), by rw [pv.length]; exact q⟩⟩) (he := he)
theorem ev_lenS {z : Str} (h : Bl X "len") (ha : Ev X Γ a (rD (.str z))) (hz : z.length ≤ sizeLine) (he : starEach [a] X.env = (false, eval a X.env) :: starEach [] X.env := by rfl) : Ev X Γ (.Call (.Name "len" p) [a] [] pos) (rD (.int z.length)) :=
  ev_cb1 call_len_str h PySem.boot_len ha (fun v F G H f g p1 => ⟨_, .int _, fun Q q => ⟨z, by rw [str_inv p1], hz, q⟩⟩) (he := he)
theorem ev_abs {i : Int} (h : Bl X "abs") (ha : Ev X Γ a (rD (.int i))) (he : starEach [a] X.env = (false, eval a X.env) :: starEach [] X.env := by rfl) : Ev X Γ (.Call (.Name "abs" p) [a] [] pos) (rD (.int i.natAbs)) :=
  ev_cb1 call_abs h (by decide +kernel) ha (fun v F G H f g p1 => ⟨_, .int _, fun Q q => ⟨i, by rw [int_inv p1], by
    have z : (if i < 0 then -i else i) = (i.natAbs : Int) := by
      split <;> omega
    rw [z]
    exact q⟩⟩) (he := he)
theorem ev_intI {i : Int} (h : Bl X "int") (ha : Ev X Γ a (rD (.int i))) (he : starEach [a] X.env = (false, eval a X.env) :: starEach [] X.env := by rfl) : Ev X Γ (.Call (.Name "int" p) [a] [] pos) (rD (.int i)) :=
  ev_ct1 call_int1 h (by decide +kernel) ha (fun v F G H f g p1 => ⟨_, .int _, fun Q q => .inl ⟨i, by rw [int_inv p1], q⟩⟩) (he := he)
theorem ev_intB {b : Bool} (h : Bl X "int") (ha : Ev X Γ a (rD (.bool b))) (he : starEach [a] X.env = (false, eval a X.env) :: starEach [] X.env := by rfl) : Ev X Γ (.Call (.Name "int" p) [a] [] pos) (rD (.int (if b = true then 1 else 0))) :=
  ev_ct1 call_int1 h (by decide +kernel) ha (fun v F G H f g p1 => ⟨_, .int _, fun Q q => .inr ⟨b, by rw [bool_inv p1], q⟩⟩) (he := he)
theorem ev_max2 {i j : Int} (hc : X.calm = true) (h : Bl X "max") (ha : Ev X Γ a (rD (.int i))) (hb : Ev X Γ b (rD (.int j))) (he : starEach [a, b] X.env = (false, eval a X.env) :: starEach [b] X.env := by rfl) (he2 : starEach [b] X.env = (false, eval b X.env) :: starEach [] X.env := by rfl) (hpl : (backTo pos (starEach [b] X.env)).any (·.1) = false := by rfl) : Ev X Γ (.Call (.Name "max" p) [a, b] [] pos) (rD (.int (max i j))) :=
  ev_cb2 (call_max2 hc) h (by decide +kernel) ha hb (fun v w F G H f g p1 p2 => ⟨_, .int _, fun Q q => ⟨i, j, by rw [int_inv p1, int_inv p2], by
    have z : (if j > i then j else i) = max i j := by split <;> omega
    rw [z]
    exact q⟩⟩) (he := he) (he2 := he2) (hpl := hpl)
theorem ev_min2 {i j : Int} (hc : X.calm = true) (h : Bl X "min") (ha : Ev X Γ a (rD (.int i))) (hb : Ev X Γ b (rD (.int j))) (he : starEach [a, b] X.env = (false, eval a X.env) :: starEach [b] X.env := by rfl) (he2 : starEach [b] X.env = (false, eval b X.env) :: starEach [] X.env := by rfl) (hpl : (backTo pos (starEach [b] X.env)).any (·.1) = false := by rfl) : Ev X Γ (.Call (.Name "min" p) [a, b] [] pos) (rD (.int (min i j))) :=
  ev_cb2 (call_min2 hc) h (by decide +kernel) ha hb (fun v w F G H f g p1 p2 => ⟨_, .int _, fun Q q => ⟨i, j, by rw [int_inv p1, int_inv p2], by
    have z : (if j < i then j else i) = min i j := by split <;> omega
    rw [z]
    exact q⟩⟩) (he := he) (he2 := he2) (hpl := hpl)
theorem ev_sum {ns : List Int} (hc : X.calm = true) (h : Bl X "sum") (ha : Ev X Γ a (hD (ns.map .int))) (he : starEach [a] X.env = (false, eval a X.env) :: starEach [] X.env := by rfl) : Ev X Γ (.Call (.Name "sum" p) [a] [] pos) (rD (.int ns.sum)) :=
  ev_cb1 (cr_sum hc) h (by decide +kernel) ha (fun v F G H f g ⟨l, vs, ev, hl, pv⟩ => ⟨_, .int _, fun Q q => ⟨l, ns, by rw [ev], .inl (.inl (by rw [hl, pv.ints])), q⟩⟩) (he := he)
theorem ev_all {bs : List Bool} (hc : X.calm = true) (h : Bl X "all") (ha : Ev X Γ a (hD (bs.map .bool))) (he : starEach [a] X.env = (false, eval a X.env) :: starEach [] X.env := by rfl) : Ev X Γ (.Call (.Name "all" p) [a] [] pos) (rD (.bool (bs.all id))) :=
  ev_cb1 (cr_all hc) h (by decide +kernel) ha (fun v F G H f g ⟨l, vs, ev, hl, pv⟩ => ⟨_, .bl _, fun Q q => ⟨l, bs, by rw [ev], .inl (.inl (by rw [hl, pv.bools])), q⟩⟩) (he := he)
theorem ev_any {bs : List Bool} (hc : X.calm = true) (h : Bl X "any") (ha : Ev X Γ a (hD (bs.map .bool))) (he : starEach [a] X.env = (false, eval a X.env) :: starEach [] X.env := by rfl) : Ev X Γ (.Call (.Name "any" p) [a] [] pos) (rD (.bool (bs.any id))) :=
  ev_cb1 (cr_any hc) h (by decide +kernel) ha (fun v F G H f g ⟨l, vs, ev, hl, pv⟩ => ⟨_, .bl _, fun Q q => ⟨l, bs, by rw [ev], .inl (.inl (by rw [hl, pv.bools])), q⟩⟩) (he := he)
theorem evo_list {ds : List PyData} (h : Bl X "list") (ha : Ev X Γ a (hD ds)) (he : starEach [a] X.env = (false, eval a X.env) :: starEach [] X.env := by rfl) : EvO X Γ (.Call (.Name "list" p) [a] [] pos) (cD ds) :=
  evo_ct1 call_list_of h (by decide +kernel) ha (fun v F G H f g ⟨l, vs, ev, hl, pv⟩ => ⟨.lst vs, fun l H1 h1 => ⟨rfl, vs, h1, pv⟩, fun Q q => ⟨l, vs, by rw [ev], .inl (.inl (.inl hl)), q⟩⟩) (he := he)
theorem evo_listT {ds : List PyData} (h : Bl X "list") (ha : Ev X Γ a (rD (.tuple ds))) (he : starEach [a] X.env = (false, eval a X.env) :: starEach [] X.env := by rfl) : EvO X Γ (.Call (.Name "list" p) [a] [] pos) (cD ds) :=
  evo_ct1 call_list_of h (by decide +kernel) ha (fun v F G H f g p1 => by
    obtain ⟨l, vs, ev, hl, pv⟩ := tup_inv p1
    exact ⟨.lst vs, fun l H1 h1 => ⟨rfl, vs, h1, pv⟩, fun Q q => ⟨l, vs, by rw [ev], .inr (.inl (.inl (g _ _ (f _ _ hl)))), q⟩⟩) (he := he)
theorem ev_tuple {ds : List PyData} (h : Bl X "tuple") (ha : Ev X Γ a (hD ds)) (he : starEach [a] X.env = (false, eval a X.env) :: starEach [] X.env := by rfl) : Ev X Γ (.Call (.Name "tuple" p) [a] [] pos) (rD (.tuple ds)) := fun W gh σ F G H E Q q =>
  EW.of (pe_callTy call_tuple_of h.hg h.hm (by decide +kernel) (pa_cons pe_w pa_nil he) (he := he)) (ha W gh σ F G H E _ fun v F' G' H' E' x0 ⟨l, vs, ev, hl, pv⟩ =>
    ⟨l, vs, by rw [ev], .inl ⟨.inl (.inl hl), fun n hn => by
      have fp := E'.fg.free (E'.gH.free hn)
      exact q (.ref n) _ _ _ (E'.newF hn) (x0.newF hn fp (E'.gH.free hn)) (.tup upd_same (dtAll_same (same_upd fp) _ _ pv))⟩⟩)
end
/-! ### defs -/
/-- arguments by what they stand for -/
def argsP (Rs : List Rp) : List V → Hp → Hp → Prop := fun vs F H => Paired (fun v (R : Rp) => R.P v F H H) vs Rs
/-- hands back a value -/
def spV (Rs : List Rp) (R : Rp) : Sp := fun vs H Q _ => ∃ F, Same F H ∧ argsP Rs vs F H ∧ ∀ v F1 H1, Ext F H F1 H1 → R.P v F1 F1 F1 → Q v H1
/-- hands back a new object -/
def spO (Rs : List Rp) (C : Cp) : Sp := fun vs H Q _ => ∃ F, Same F H ∧ argsP Rs vs F H ∧ ∀ l fo F1 H1, Ext F H F1 H1 → (∀ a ∈ fo, H a = none ∧ F1 a = none) → C.C l fo H1 F1 F1 → Q (.ref l) H1
abbrev CL (X : Cx) : CXT := L2.CX X.prog X.w
section
variable {k : Nat} {f C : Addr} {fd : FuncData} {ps : List Str} {x m : Str} {p apos : Pos} {o : Expr} {Rs : List Rp} {R : Rp} {Cc : Cp} {Q : VK} {vs : List V}
theorem spV_of {W : Wd} {gh : Gh} {σ : L2.St} {F G H : Hp} (E : En W gh Γ σ F G H) (ha : Paired (fun v (R : Rp) => R.P v F G H) vs Rs) {E' : XK} (q : ∀ v F' G' H', En W gh Γ σ F' G' H' → Gr F G H F' G' H' → R.P v F' G' H' → Q v H') : spV Rs R vs H Q E' :=
  ⟨F, E.fg.trans E.gH, paired_mono (Same.refl _) E.gH (Same.refl _) ha, fun v F1 H1 x pv => by
    obtain ⟨G1, gg, fg, _, E1⟩ := E.ext x
    exact q v F1 G1 H1 E1 gg (R.mono (Same.refl _) fg x.fh pv)⟩
theorem spO_of {W : Wd} {gh : Gh} {σ : L2.St} {F G H : Hp} (E : En W gh Γ σ F G H) (ha : Paired (fun v (R : Rp) => R.P v F G H) vs Rs) {E' : XK} (q : ∀ l fo F' G' H', En W gh Γ σ F' G' H' → Gr F G H F' G' H' → (∀ a ∈ fo, H a = none ∧ G' a = none) → Cc.C l fo H' F' G' → Q (.ref l) H') : spO Rs Cc vs H Q E' :=
  ⟨F, E.fg.trans E.gH, paired_mono (Same.refl _) E.gH (Same.refl _) ha, fun l fo F1 H1 x hn pv => by
    obtain ⟨G1, gg, fg, gn, E1⟩ := E.ext x
    exact q l fo F1 G1 H1 E1 gg (fun a ha => ⟨(hn a ha).1, gn a (hn a ha).2 (E.gH.free (hn a ha).1)⟩) (Cc.mono (Same.refl _) fg (fun _ _ => rfl) pv)⟩
variable {ds : List Value}
theorem ev_call (F : FnOk X.prog X.w X.K X.mg X.base (CL X) k f fd ps (spV Rs R)) (hr : Room k X.A) (hg : Gl X x) (hm : X.mg x = some (.ref f)) (hk : PySem.W.keepIn X.K (.ref f) = true) (hb : Binds X.K fd ps []) (ha : EvA X Γ (e :: es) Rs)
    (hdb : (x == ("__debug__" : Str)) = false := by decide) (he : starEach (e :: es) X.env = (false, eval e X.env) :: starEach es X.env := by rfl) (hpl : (backTo pos (starEach es X.env)).any (·.1) = false := by rfl) : Ev X Γ (.Call (.Name x p) (e :: es) [] pos) R := fun W gh σ F0 G H E Q q =>
  EW.of (pe_call F hr hg hm hk hb .nil passL pa_w hdb he hpl) (ha W gh σ F0 G H E _ fun vs F' G' H' E' x' pa => by
    rw [List.append_nil]
    exact spV_of E' pa fun v F2 G2 H2 E2 x2 => q v F2 G2 H2 E2 (x'.trans x2))
theorem evo_call (F : FnOk X.prog X.w X.K X.mg X.base (CL X) k f fd ps (spO Rs Cc)) (hr : Room k X.A) (hg : Gl X x) (hm : X.mg x = some (.ref f)) (hk : PySem.W.keepIn X.K (.ref f) = true) (hb : Binds X.K fd ps []) (ha : EvA X Γ (e :: es) Rs)
    (hdb : (x == ("__debug__" : Str)) = false := by decide) (he : starEach (e :: es) X.env = (false, eval e X.env) :: starEach es X.env := by rfl) (hpl : (backTo pos (starEach es X.env)).any (·.1) = false := by rfl) : EvO X Γ (.Call (.Name x p) (e :: es) [] pos) Cc := fun W gh σ F0 G H E Q q =>
  EW.of (pe_call F hr hg hm hk hb .nil passL pa_w hdb he hpl) (ha W gh σ F0 G H E _ fun vs F' G' H' E' x' pa => by
    rw [List.append_nil]
    exact spO_of E' pa fun l fo F2 G2 H2 E2 x2 hn => q l fo F2 G2 H2 E2 (x'.trans x2) fun a ha => ⟨x'.s.free (hn a ha).1, (hn a ha).2⟩)
/-- an instance of the class at C, m no field of it -/
def InsOf (R : Rp) (C : Addr) (m : Str) : Prop := ∀ v F G H, Same F G → Same G H → R.P v F G H → ∃ a dx fs, v = .ref a ∧ H a = some (.ins C dx fs) ∧ fs.lookup m = none
theorem ev_meth {pl : Sem Bool} {Ro : Rp} (ho : Ev X Γ o Ro) (hi : InsOf Ro C m) (c : Cls X.K C) (hm : Meth X.K C m f) (F : FnOk X.prog X.w X.K X.mg X.base (CL X) k f fd ps (spV (Ro :: Rs) R)) (hr : Room k X.A) (hb : Binds X.K fd ps []) (ha : EvA X Γ (e :: es) Rs)
    (hst : starEach (e :: es) X.env = (false, eval e X.env) :: starEach es X.env := by rfl) (hpl : (backTo pos (starEach es X.env)).any (·.1) = false := by rfl)
    (ht : eval (.Call (.Attribute o m apos) (e :: es) [] pos) X.env = (do
      let ov ← eval o X.env
      standAt apos.atName
      let (f, first) ← holding [ov] (getMethod ov m pl)
      callWith pos f first (backTo pos (starEach (e :: es) X.env)) (backToKw pos (keywordEach [] X.env))) := by rfl) : Ev X Γ (.Call (.Attribute o m apos) (e :: es) [] pos) R := fun W gh σ F0 G H E Q q =>
  EW.of (pe_meth pe_w c hm F hr hb .nil passL pa_w hst hpl ht) (ho W gh σ F0 G H E _ fun v F1 G1 H1 E1 x1 p1 => by
    obtain ⟨a, dx, fs, ev, hH, hl⟩ := hi v F1 G1 H1 E1.fg E1.gH p1
    refine ⟨a, dx, fs, ev, hH, hl, ha W gh σ F1 G1 H1 E1 _ fun vs F' G' H' E' x' pa => ?_⟩
    rw [List.append_nil]
    exact spV_of E' (.cons (Ro.mono x'.f x'.g x'.s p1) pa) fun v F2 G2 H2 E2 x2 => q v F2 G2 H2 E2 (x1.trans (x'.trans x2)))
theorem evo_meth {pl : Sem Bool} {Ro : Rp} (ho : Ev X Γ o Ro) (hi : InsOf Ro C m) (c : Cls X.K C) (hm : Meth X.K C m f) (F : FnOk X.prog X.w X.K X.mg X.base (CL X) k f fd ps (spO (Ro :: Rs) Cc)) (hr : Room k X.A) (hb : Binds X.K fd ps []) (ha : EvA X Γ (e :: es) Rs)
    (hst : starEach (e :: es) X.env = (false, eval e X.env) :: starEach es X.env := by rfl) (hpl : (backTo pos (starEach es X.env)).any (·.1) = false := by rfl)
    (ht : eval (.Call (.Attribute o m apos) (e :: es) [] pos) X.env = (do
      let ov ← eval o X.env
      standAt apos.atName
      let (f, first) ← holding [ov] (getMethod ov m pl)
      callWith pos f first (backTo pos (starEach (e :: es) X.env)) (backToKw pos (keywordEach [] X.env))) := by rfl) : EvO X Γ (.Call (.Attribute o m apos) (e :: es) [] pos) Cc := fun W gh σ F0 G H E Q q =>
  EW.of (pe_meth pe_w c hm F hr hb .nil passL pa_w hst hpl ht) (ho W gh σ F0 G H E _ fun v F1 G1 H1 E1 x1 p1 => by
    obtain ⟨a, dx, fs, ev, hH, hl⟩ := hi v F1 G1 H1 E1.fg E1.gH p1
    refine ⟨a, dx, fs, ev, hH, hl, ha W gh σ F1 G1 H1 E1 _ fun vs F' G' H' E' x' pa => ?_⟩
    rw [List.append_nil]
    exact spO_of E' (.cons (Ro.mono x'.f x'.g x'.s p1) pa) fun l fo F2 G2 H2 E2 x2 hn => q l fo F2 G2 H2 E2 (x1.trans (x'.trans x2)) fun a ha => ⟨(x1.trans x').s.free (hn a ha).1, (hn a ha).2⟩)
theorem ev_meth0 {pl : Sem Bool} {Ro : Rp} (ho : Ev X Γ o Ro) (hi : InsOf Ro C m) (c : Cls X.K C) (hm : Meth X.K C m f) (F : FnOk X.prog X.w X.K X.mg X.base (CL X) k f fd ps (spV [Ro] R)) (hr : Room k X.A) (hb : Binds X.K fd ps [])
    (ht : eval (.Call (.Attribute o m apos) [] [] pos) X.env = (do
      let ov ← eval o X.env
      standAt apos.atName
      let (f, first) ← holding [ov] (getMethod ov m pl)
      callWith pos f first (backTo pos (starEach [] X.env)) (backToKw pos (keywordEach [] X.env))) := by rfl) : Ev X Γ (.Call (.Attribute o m apos) [] [] pos) R := fun W gh σ F0 G H E Q q =>
  EW.of (pe_meth0 pe_w c hm F hr hb .nil passL ht) (ho W gh σ F0 G H E _ fun v F1 G1 H1 E1 x1 p1 => by
    obtain ⟨a, dx, fs, ev, hH, hl⟩ := hi v F1 G1 H1 E1.fg E1.gH p1
    refine ⟨a, dx, fs, ev, hH, hl, ?_⟩
    show spV [Ro] R [v] H1 Q E0
    exact spV_of E1 (.cons p1 .nil) fun v F2 G2 H2 E2 x2 => q v F2 G2 H2 E2 (x1.trans x2))
theorem evo_meth0 {pl : Sem Bool} {Ro : Rp} (ho : Ev X Γ o Ro) (hi : InsOf Ro C m) (c : Cls X.K C) (hm : Meth X.K C m f) (F : FnOk X.prog X.w X.K X.mg X.base (CL X) k f fd ps (spO [Ro] Cc)) (hr : Room k X.A) (hb : Binds X.K fd ps [])
    (ht : eval (.Call (.Attribute o m apos) [] [] pos) X.env = (do
      let ov ← eval o X.env
      standAt apos.atName
      let (f, first) ← holding [ov] (getMethod ov m pl)
      callWith pos f first (backTo pos (starEach [] X.env)) (backToKw pos (keywordEach [] X.env))) := by rfl) : EvO X Γ (.Call (.Attribute o m apos) [] [] pos) Cc := fun W gh σ F0 G H E Q q =>
  EW.of (pe_meth0 pe_w c hm F hr hb .nil passL ht) (ho W gh σ F0 G H E _ fun v F1 G1 H1 E1 x1 p1 => by
    obtain ⟨a, dx, fs, ev, hH, hl⟩ := hi v F1 G1 H1 E1.fg E1.gH p1
    refine ⟨a, dx, fs, ev, hH, hl, ?_⟩
    show spO [Ro] Cc [v] H1 Q E0
    exact spO_of E1 (.cons p1 .nil) fun l fo F2 G2 H2 E2 x2 hn => q l fo F2 G2 H2 E2 (x1.trans x2) fun a ha => ⟨x1.s.free (hn a ha).1, (hn a ha).2⟩)
/-! properties, fields -/
theorem ev_prop {g pa : Addr} {Ro : Rp} {at_ : Str} (ho : Ev X Γ o Ro) (hi : InsOf Ro C "") (c : Cls X.K C) (hp : PropOf X.K C at_ pa g) (F : FnOk X.prog X.w X.K X.mg X.base (CL X) k g fd ps (spV [Ro] R)) (hr : Room (k + 1) X.A) (hb : Binds X.K fd ps [])
    (hab : attributeBase o at_ X.env (eval o X.env) = eval o X.env := by rfl) : Ev X Γ (.Attribute o at_ pos) R := fun W gh σ F0 G H E Q q =>
  EW.of (pe_prop pe_w c hp F hr hb .nil passL hab) (ho W gh σ F0 G H E _ fun v F1 G1 H1 E1 x1 p1 => by
    obtain ⟨a, dx, fs, ev, hH, hl⟩ := hi v F1 G1 H1 E1.fg E1.gH p1
    refine ⟨a, dx, fs, ev, hH, ?_⟩
    rw [ev] at p1
    exact spV_of E1 (.cons p1 .nil) fun v F2 G2 H2 E2 x2 => q v F2 G2 H2 E2 (x1.trans x2))
theorem evo_prop {g pa : Addr} {Ro : Rp} {at_ : Str} (ho : Ev X Γ o Ro) (hi : InsOf Ro C "") (c : Cls X.K C) (hp : PropOf X.K C at_ pa g) (F : FnOk X.prog X.w X.K X.mg X.base (CL X) k g fd ps (spO [Ro] Cc)) (hr : Room (k + 1) X.A) (hb : Binds X.K fd ps [])
    (hab : attributeBase o at_ X.env (eval o X.env) = eval o X.env := by rfl) : EvO X Γ (.Attribute o at_ pos) Cc := fun W gh σ F0 G H E Q q =>
  EW.of (pe_prop pe_w c hp F hr hb .nil passL hab) (ho W gh σ F0 G H E _ fun v F1 G1 H1 E1 x1 p1 => by
    obtain ⟨a, dx, fs, ev, hH, hl⟩ := hi v F1 G1 H1 E1.fg E1.gH p1
    refine ⟨a, dx, fs, ev, hH, ?_⟩
    rw [ev] at p1
    exact spO_of E1 (.cons p1 .nil) fun l fo F2 G2 H2 E2 x2 hn => q l fo F2 G2 H2 E2 (x1.trans x2) fun a ha => ⟨x1.s.free (hn a ha).1, (hn a ha).2⟩)
/-- a field of an instance: k says where it stands and what it stands for -/
theorem ev_fld {Ro R : Rp} {at_ : Str} (ho : Ev X Γ o Ro) (c : Cls X.K C) (n : NoAttr X.K C at_) (k : ∀ v F G H, Same F G → Same G H → Ro.P v F G H → ∃ a dx fs u, v = .ref a ∧ H a = some (.ins C dx fs) ∧ fs.lookup at_ = some u ∧ R.P u F G H)
    (hb : attributeBase o at_ X.env (eval o X.env) = eval o X.env := by rfl) : Ev X Γ (.Attribute o at_ pos) R := fun W gh σ F0 G H E Q q =>
  EW.of (pe_fld pe_w hb) (ho W gh σ F0 G H E _ fun v F1 G1 H1 E1 x1 p1 => by
    obtain ⟨a, dx, fs, u, ev, hH, hl, pu⟩ := k v F1 G1 H1 E1.fg E1.gH p1
    exact ⟨a, C, dx, fs, u, ev, hH, c, n, hl, q u F1 G1 H1 E1 x1 pu⟩)
end
end
end L3
/-! L3, part d: contexts, statements, loops, a def's body. -/
namespace L3
open PySem PySem.Spec PyProof.Rows L2
/-! ### contexts -/
def visB (nm : List (Str × NameKind)) (x : Str) : Bool := match nm.lookup x with
  | some .local => true
  | some .cell => true
  | some .free => true
  | _ => false
def locB (nm : List (Str × NameKind)) (x : Str) : Bool := match nm.lookup x with
  | some .local => true
  | some .cell => true
  | _ => false
def gloB (nm : List (Str × NameKind)) (x : Str) : Bool := match nm.lookup x with
  | some .globalImplicit => true
  | _ => false
def onlyB (nm : List (Str × NameKind)) (x : Str) : Bool := match nm.lookup x with
  | some .local => true
  | _ => false
/-- what the rules want of a context: N its slots, nm its names, room for k calls -/
structure XV (X : Cx) (N : List Str) (nm : List (Str × NameKind)) : Prop where
  hN : X.N = N
  nd : X.N.Nodup
  nm : X.env.scope.names = nm
  kd : X.env.scope.kind = .function
structure XC (X : Cx) (N : List Str) (nm : List (Str × NameKind)) (k : Nat) : Prop extends XV X N nm where
  calm : X.calm = true
  room : Room k X.A
structure XB (X : Cx) (N : List Str) (nm : List (Str × NameKind)) (k : Nat) : Prop extends XC X N nm k where
  fnn : ∀ x, X.fn x = true
  pass : PassesOwn (model X.prog X.w) X.A X.env X.xe
  stk : X.stack = X.env :: X.outer
  frm : X.env.frame = some X.env.locals
  ex : X.ex = []
section
variable {X : Cx} {N : List Str} {nm : List (Str × NameKind)} {k : Nat} {Γ : List Sl}
theorem XV.vis (xf : XV X N nm) {x : Str} (h : visB nm x = true) : Vis X.env.scope x := by
  unfold Vis
  rw [xf.nm]
  unfold visB at h
  split at h <;> rename_i e
  · exact .inl e
  · exact .inr (.inl e)
  · exact .inr (.inr e)
  · cases h
theorem XV.loc (xf : XV X N nm) {x : Str} (h : locB nm x = true) : L2.Loc X.env.scope x := by
  unfold L2.Loc
  rw [xf.nm]
  unfold locB at h
  split at h <;> rename_i e
  · exact .inl e
  · exact .inr e
  · cases h
theorem XV.only (xf : XV X N nm) {x : Str} (h : onlyB nm x = true) : X.env.scope.names.lookup x = some .local := by
  rw [xf.nm]
  unfold onlyB at h
  split at h <;> rename_i e
  · exact e
  · cases h
theorem XV.gl (xf : XV X N nm) {x : Str} (h : gloB nm x = true) : Gl X x := by
  unfold Gl Env.kindOf
  show X.env.scope.names.lookup x = _
  rw [xf.nm]
  unfold gloB at h
  split at h <;> rename_i e
  · exact e
  · cases h
theorem XV.bl (xf : XV X N nm) {x : Str} (hm : X.mg x = none) (h : gloB nm x = true := by decide +kernel) : Bl X x := ⟨xf.gl h, hm⟩
theorem XV.at_ (xf : XV X N nm) {x : Str} {i : Nat} (h : N[i]? = some x) : X.N[i]? = some x := by rw [xf.hN]; exact h
theorem XC.ls (xf : XC X N nm k) : X.A.units + 65 < cLine := Nat.lt_of_le_of_lt (by omega) xf.room.un
theorem XC.ls0 (xf : XC X N nm k) : X.A.units + 64 < cLine := Nat.lt_of_le_of_lt (by omega) xf.room.un
theorem XB.v (xb : XB X N nm k) : XV X N nm := xb.toXC.toXV
/-- a name -/
theorem v_ (xf : XV X N nm) (i : Nat) {x : Str} {pos : Pos} {R : Rp} {h : Sta R} (hi : Γ[i]? = some (.vl R h) := by rfl) (hN : N[i]? = some x := by rfl) (hv : visB nm x = true := by decide +kernel) (hd : (x == ("__debug__" : Str)) = false := by decide +kernel)
    (hcd : (x == ("__classdict__" : Str)) = false := by decide +kernel) : Ev X Γ (.Name x pos) R := ev_var i hi (xf.at_ hN) (xf.vis hv) hd hcd
/-- an own list's name, read -/
theorem o_ (xf : XV X N nm) (i : Nat) {x : Str} {pos : Pos} {ds : List PyData} (hi : Γ[i]? = some (.ow (cD ds)) := by rfl) (hN : N[i]? = some x := by rfl) (hv : visB nm x = true := by decide +kernel) (hd : (x == ("__debug__" : Str)) = false := by decide +kernel)
    (hcd : (x == ("__classdict__" : Str)) = false := by decide +kernel) : Ev X Γ (.Name x pos) (hD ds) := ev_varO i hi (xf.at_ hN) (xf.vis hv) hd hcd
end
/-! ### blocks -/
def Blk (X : Cx) (W : Wd) (D : Ends) (gh : Gh) (Γ : List Sl) (ss : List Stmt) : Prop := ∀ (σ : L2.St) (F G H : Hp), En W gh Γ σ F G H → BW X ss D σ H
/-- reached with Γ -/
def EnN (W : Wd) (gh : Gh) (Γ : List Sl) : L2.St → Hp → Prop := fun σ H => ∃ F G, En W gh Γ σ F G H
/-- what is handed back stands for R -/
def RetV (W : Wd) (D : Ends) (R : Rp) : Prop := ∀ v F1 H1, Ext W.F0 W.H0 F1 H1 → R.P v F1 F1 F1 → D.rt v H1
def RetO (W : Wd) (D : Ends) (C : Cp) : Prop := ∀ l fo F1 H1, Ext W.F0 W.H0 F1 H1 → (∀ a ∈ fo, W.H0 a = none ∧ F1 a = none) → C.C l fo H1 F1 F1 → D.rt (.ref l) H1
class FzC (C : Cp) : Prop where
  fz : ∀ {l : Addr} {fo : List Addr} {F G G' H : Hp}, C.C l fo H F G → C.C l fo H F G'
instance {ds : List PyData} : FzC (cD ds) := ⟨fun h => h⟩
/-- slots weakened one by one -/
inductive SlAll : List Sl → List Sl → Prop
  | nil : SlAll [] []
  | cons {a b : Sl} {l m : List Sl} (h : SlLe a b) (t : SlAll l m) : SlAll (a :: l) (b :: m)
theorem SlAll.len : ∀ {l m : List Sl}, SlAll l m → m.length = l.length
  | _, _, .nil => rfl
  | _, _, .cons _ t => by simp [SlAll.len t]
theorem SlAll.get : ∀ {l m : List Sl}, SlAll l m → ∀ (i : Nat) (a b : Sl), l[i]? = some a → m[i]? = some b → SlLe a b
  | _, _, .nil, _, _, _, e, _ => by simp at e
  | _, _, .cons h t, 0, a, b, e1, e2 => by
    simp at e1 e2
    rw [← e1, ← e2]
    exact h
  | _, _, .cons h t, i + 1, a, b, e1, e2 => SlAll.get t i a b (by simpa using e1) (by simpa using e2)
theorem SlAll.rfl : ∀ (l : List Sl), SlAll l l
  | [] => .nil
  | a :: l => .cons (.refl a) (SlAll.rfl l)
section
variable {W : Wd} {gh : Gh} {Γ Γ' : List Sl} {σ : L2.St} {F G H : Hp}
theorem En.le (E : En W gh Γ σ F G H) (h : SlAll Γ Γ') : En W gh Γ' σ F G H := E.imp h.len h.get
theorem En.gw {gh' : Gh} (E : En W gh Γ σ F G H) (h : gh'.g F G) : En W gh' Γ σ F G H := ⟨E.len, E.f0, E.h0, E.fg, E.gH, E.gr, h, E.vl, E.ow⟩
end
section
variable {X : Cx} {N : List Str} {nm : List (Str × NameKind)} {k : Nat} {W : Wd} {D : Ends} {gh : Gh} {Γ Γ' : List Sl} {ss a b : List Stmt} {st : Stmt} {e c tg : Expr} {pos p : Pos}
theorem blk_le (h : SlAll Γ Γ') (t : Blk X W D gh Γ' ss) : Blk X W D gh Γ ss := fun σ F G H E => t σ F G H (E.le h)
theorem blk_ps {t : TS} (h : PS X st t) (q : ∀ σ F G H, En W gh Γ σ F G H → t { D with nx := BW X ss D } σ H) : Blk X W D gh Γ (st :: ss) := fun σ F G H E => BW.of (pss_cons h pss_w) (q σ F G H E)
theorem blk_nil (q : ∀ σ F G H, En W gh Γ σ F G H → D.nx σ H) : Blk X W D gh Γ [] := fun σ F G H E => BW.of pss_nil (q σ F G H E)
/-- the end of a loop's body, of a branch that goes on -/
theorem blk_end {rt : VK} {bk ct : L2.St → Hp → Prop} (h : SlAll Γ Γ') : Blk X W { nx := EnN W gh Γ', rt := rt, bk := bk, ct := ct } gh Γ [] := blk_nil fun σ F G H E => ⟨F, G, E.le h⟩
/-- the end of a branch, the rest follows -/
theorem blk_go {rt : VK} {bk ct : L2.St → Hp → Prop} (h : Blk X W D gh Γ ss) : Blk X W { nx := BW X ss D, rt := rt, bk := bk, ct := ct } gh Γ [] := blk_nil fun σ F G H E => h σ F G H E
theorem blk_pass (t : Blk X W D gh Γ ss) : Blk X W D gh Γ (.Pass pos :: ss) := blk_ps ps_pass fun σ F G H E => t σ F G H E
theorem blk_cont {nx : L2.St → Hp → Prop} {rt : VK} {bk : L2.St → Hp → Prop} (h : SlAll Γ Γ') : Blk X W { nx := nx, rt := rt, bk := bk, ct := EnN W gh Γ' } gh Γ (.Continue pos :: ss) := blk_ps ps_continue fun σ F G H E => ⟨F, G, E.le h⟩
theorem blk_break {nx : L2.St → Hp → Prop} {rt : VK} {ct : L2.St → Hp → Prop} {rest : List Stmt} (h : Blk X W D gh Γ rest) : Blk X W { nx := nx, rt := rt, bk := BW X rest D, ct := ct } gh Γ (.Break pos :: ss) := blk_ps ps_break fun σ F G H E => h σ F G H E
theorem blk_doc {x : Str} {j : Nat} (t : Blk X W D gh Γ ss) : Blk X W D gh Γ (.Expr (.Constant (.str x) j p) pos :: ss) := blk_ps ps_doc fun σ F G H E => t σ F G H E
/-! assignments -/
theorem blk_set (xb : XB X N nm k) (i : Nat) {x : Str} {R : Rp} [hR : Sta R] (h : Ev X Γ e R) (t : Blk X W D gh (Γ.set i (.vl R hR)) ss) (hN : N[i]? = some x := by rfl) (hl : locB nm x = true := by decide +kernel)
    (hs : swapsWith e (some (.Name x p)) pos.line X.env = pure false := by rfl) : Blk X W D gh Γ (.Assign [.Name x p] e pos :: ss) :=
  blk_ps (ps_set xb.nd (xb.at_ hN) (xb.loc hl) pe_w hs (.inl (xb.fnn x))) fun σ F G H E => h W gh σ F G H E _ fun v F' G' H' E' x0 pv => t _ F' G' H' (E'.setV pv)
theorem blk_setO (xb : XB X N nm k) (i : Nat) {x : Str} {C : Cp} (h : EvO X Γ e C) (t : Blk X W D gh (Γ.set i (.ow C)) ss) (hN : N[i]? = some x := by rfl) (hl : locB nm x = true := by decide +kernel)
    (hs : swapsWith e (some (.Name x p)) pos.line X.env = pure false := by rfl) : Blk X W D gh Γ (.Assign [.Name x p] e pos :: ss) :=
  blk_ps (ps_set xb.nd (xb.at_ hN) (xb.loc hl) pe_w hs (.inl (xb.fnn x))) fun σ F G H E => h W gh σ F G H E _ fun l fo F' G' H' E' x0 hn pc => t _ F' G' H' (E'.setO (fun a ha => (hn a ha).2) pc fun j C' m fo' _ e e1 q a ha => E.notOwn x0.s (hn a ha).1 j C' m fo' e e1 q)
/-- the own list of a slot is frozen (no statement) -/
theorem blk_frz (i : Nat) {ds : List PyData} (hi : Γ[i]? = some (.ow (cD ds))) (t : Blk X W D gh (Γ.set i (vl (rD (.list ds)))) ss) : Blk X W D gh Γ ss := fun σ F G H E => by
  obtain ⟨fp, ow, hd⟩ := E.ow
  obtain ⟨l, e1, gn, ef, vs, eo, pv⟩ := ow i _ hi
  have gl : G l = none := gn l (by rw [ef]; exact List.mem_cons_self)
  have fl := E.fg.free gl
  have E1 : En W gh (Γ.set i .no) σ F G H := E.imp (by rw [List.length_set]) fun j a b ea eb => by
    by_cases z : i = j
    · subst z
      rw [List.getElem?_set] at eb
      simp only [if_true] at eb
      split at eb
      · injection eb with eb
        subst eb
        exact .no a
      · cases eb
    · rw [List.getElem?_set_ne z, ea] at eb
      injection eb with eb
      subst eb
      exact .refl a
  have E2 := E1.freeze eo gl fun j C m fo ej e2 q hp => by
    by_cases z : i = j
    · subst z
      rw [List.getElem?_set] at ej
      simp at ej
    · rw [List.getElem?_set_ne z] at ej
      obtain ⟨m', e3, _, q'⟩ := ow j C ej
      rw [e2] at e3
      cases e3
      rw [C.det (Same.refl _) q' q] at hp
      exact hd i j _ C l z hi ej (by rw [ef]; exact List.mem_cons_self) hp
  have E3 := E2.setV (i := i) (R := rD (.list ds)) (h := inferInstance) (v := .ref l) (.lst upd_same (dtAll_same (same_upd fl) _ _ pv))
  rw [List.set_set] at E3
  have es : σ.set i (some (V.ref l)) = σ := by
    refine List.ext_getElem? fun j => ?_
    by_cases z : i = j
    · subst z
      rw [e1, List.getElem?_set_self (List.getElem?_eq_some_iff.mp e1).1]
    · rw [List.getElem?_set_ne z]
  rw [es] at E3
  exact t σ _ _ H E3
/-! targets -/
structure GW (X : Cx) (tg : Expr) (v : V) (σ : L2.St) (H : Hp) (Q : L2.St → Hp → Prop) : Prop where
  go : ∀ (pins : List (Addr × Obj)) (s : Shared) (u : Value), Inv X pins σ H s → RelV v u → wpAny (model X.prog X.w) X.A (assign tg X.env u) (fun _ s' => ∃ σ' H', Inv X pins σ' H' s' ∧ Q σ' H') X.xe s
theorem pg_w : PG X tg (GW X tg) := ⟨fun pins s σ H v u Q I r h => h.go pins s u I r⟩
theorem GW.of {t : TG} {v : V} {σ : L2.St} {H : Hp} {Q : L2.St → Hp → Prop} (h : PG X tg t) (q : t v σ H Q) : GW X tg v σ H Q := ⟨fun pins s u I r => h.run pins s σ H v u Q I r q⟩
structure GWs (X : Cx) (ts : List Expr) (vs : List V) (σ : L2.St) (H : Hp) (Q : L2.St → Hp → Prop) : Prop where
  go : ∀ (pins : List (Addr × Obj)) (s : Shared) (us : List Value), Inv X pins σ H s → Vals vs us → wpAny (model X.prog X.w) X.A (assignInOrder ((assignEach ts X.env).map (·.2)) us) (fun _ s' => ∃ σ' H', Inv X pins σ' H' s' ∧ Q σ' H') X.xe s
theorem pgs_w {ts : List Expr} : PGs X ts (GWs X ts) := ⟨fun pins s σ H vs us Q I r h => h.go pins s us I r⟩
theorem GWs.of {ts : List Expr} {t : TGs} {vs : List V} {σ : L2.St} {H : Hp} {Q : L2.St → Hp → Prop} (h : PGs X ts t) (q : t vs σ H Q) : GWs X ts vs σ H Q := ⟨fun pins s us I r => h.run pins s σ H vs us Q I r q⟩
/-- a value that stands for R is stored -/
def Tg (X : Cx) (Γ : List Sl) (R : Rp) (tg : Expr) (Γ' : List Sl) (ts : List Nat) : Prop := ∀ (W : Wd) (gh : Gh) (σ : L2.St) (F G H : Hp) (v : V), En W gh Γ σ F G H → R.P v F G H → ∀ Q : L2.St → Hp → Prop, (∀ σ', En W gh Γ' σ' F G H → (∀ vs : List Nat, (∀ j ∈ ts, j ∈ vs) → wipe σ' vs = wipe σ vs) → Q σ' H) → GW X tg v σ H Q
def Tgs (X : Cx) (Γ : List Sl) (ds : List PyData) (ts : List Expr) (Γ' : List Sl) (is : List Nat) : Prop := ∀ (W : Wd) (gh : Gh) (σ : L2.St) (F G H : Hp) (vs : List V), En W gh Γ σ F G H → DtAll F vs ds → ∀ Q : L2.St → Hp → Prop, (∀ σ', En W gh Γ' σ' F G H → (∀ vs : List Nat, (∀ j ∈ is, j ∈ vs) → wipe σ' vs = wipe σ vs) → Q σ' H) → GWs X ts vs σ H Q
theorem wipe_get : ∀ {σ : L2.St} {vs : List Nat} {j : Nat}, (wipe σ vs)[j]? = if j ∈ vs ∧ j < σ.length then some none else σ[j]?
  | σ, [], j => by simp [wipe]
  | σ, v :: vs, j => by
    unfold wipe
    rw [List.getElem?_set, wipe_length, wipe_get]
    by_cases h : v = j
    · subst h
      by_cases hl : v < σ.length
      · simp [hl]
      · simp [hl]
    · have h' : ¬ j = v := fun z => h z.symm
      simp [h, h']
theorem wipe_set {σ : L2.St} {vs : List Nat} {i : Nat} {v : Option V} (h : i ∈ vs) : wipe (σ.set i v) vs = wipe σ vs := by
  refine List.ext_getElem? fun j => ?_
  rw [wipe_get, wipe_get, List.length_set, List.getElem?_set]
  by_cases hj : i = j
  · subst hj
    by_cases hl : i < σ.length
    · simp [h, hl]
    · simp [hl]
  · simp [hj]
theorem tg_name (xf : XV X N nm) (i : Nat) {x : Str} {R : Rp} [hR : Sta R] (hN : N[i]? = some x := by rfl) (hl : locB nm x = true := by decide +kernel) (hf : X.fn x = true ∨ X.env.scope.names.lookup x = some .local) : Tg X Γ R (.Name x pos) (Γ.set i (.vl R hR)) [i] := fun W gh σ F G H v E pv Q q =>
  GW.of (pg_name xf.nd (xf.at_ hN) (xf.loc hl) hf) (q _ (E.setV pv) fun vs h => wipe_set (h i List.mem_cons_self))
theorem tgs_nil : Tgs X Γ [] [] Γ [] := fun W gh σ F G H vs E pv Q q => by
  cases pv
  exact GWs.of pgs_nil ⟨rfl, q σ E fun _ _ => rfl⟩
theorem tgs_cons {d : PyData} {ds : List PyData} {ts : List Expr} {Γ1 : List Sl} {is js : List Nat} (h : Tg X Γ (rD d) tg Γ1 is) (t : Tgs X Γ1 ds ts Γ' js) (hs : (assignEach (tg :: ts) X.env).map (·.2) = assign tg X.env :: (assignEach ts X.env).map (·.2) := by rfl) : Tgs X Γ (d :: ds) (tg :: ts) Γ' (is ++ js) := fun W gh σ F G H vs E pv Q q => by
  cases pv with
  | cons p1 p2 => exact GWs.of (pgs_cons pg_w pgs_w hs) ⟨_, _, rfl, h W gh σ F G H _ E p1 _ fun σ1 E1 w1 => t W gh σ1 F G H _ E1 p2 _ fun σ2 E2 w2 => q σ2 E2 fun vs hv => (w2 vs fun j hj => hv j (List.mem_append_right _ hj)).trans (w1 vs fun j hj => hv j (List.mem_append_left _ hj))⟩
theorem tg_tup {ds : List PyData} {ts : List Expr} {j n : Nat} {is : List Nat} (hc : X.calm = true) (h : Tgs X Γ ds ts Γ' is) (hn : (assignEach ts X.env).length = n := by rfl) (hd : ds.length = n := by rfl) (hst : (assignEach ts X.env).findIdx? (·.1) = none := by rfl) : Tg X Γ (rD (.tuple ds)) (.Tuple ts j pos) Γ' is := fun W gh σ F G H v E pv Q q => by
  obtain ⟨a, vs, ev, hH, pvs⟩ := tup_inv pv
  exact GW.of (pg_tup hc pgs_w hn hst) ⟨a, vs, ev, .inl (.inl (E.gH _ _ (E.fg _ _ hH))), by rw [pvs.length]; exact hd, h W gh σ F G H vs E pvs Q q⟩
theorem blk_asg {R : Rp} {ts : List Nat} (h : Ev X Γ e R) (g : Tg X Γ R tg Γ' ts) (t : Blk X W D gh Γ' ss) (hs : swapsWithSole [tg] e pos.line X.env = pure false := by rfl) (hw : swappedStores [tg] e X.env = pure none := by rfl)
    (h1 : (assignEach [tg] X.env).map (·.2) = [assign tg X.env] := by rfl) : Blk X W D gh Γ (.Assign [tg] e pos :: ss) :=
  blk_ps (ps_asg pe_w pg_w hs hw h1) fun σ F G H E => h W gh σ F G H E _ fun v F' G' H' E' x0 pv => g W gh σ F' G' H' v E' pv _ fun σ' E2 _ => t σ' F' G' H' E2
/-- a, b = x, y -/
theorem blk_par (xb : XB X N nm k) (i j : Nat) {x y : Str} {e1 e2 : Expr} {px py pt : Pos} {kt k2 : Nat} {pt2 : Pos} {d d' : PyData} (h1 : Ev X Γ e1 (rD d)) (h2 : Ev X Γ e2 (rD d')) (t : Blk X W D gh ((Γ.set i (vl (rD d))).set j (vl (rD d'))) ss)
    (hij : i ≠ j := by decide) (hi : N[i]? = some x := by rfl) (hj : N[j]? = some y := by rfl) (hx : onlyB nm x = true := by decide +kernel) (hy : onlyB nm y = true := by decide +kernel)
    (hw : swappedStores [.Tuple [.Name x px, .Name y py] kt pt] (.Tuple [e1, e2] k2 pt2) X.env = pure (some [x, y]))
    (he : starEach [e1, e2] X.env = (false, eval e1 X.env) :: starEach [e2] X.env := by rfl) (he2 : starEach [e2] X.env = (false, eval e2 X.env) :: starEach [] X.env := by rfl)
    (hs : swapsWithSole [.Tuple [.Name x px, .Name y py] kt pt] (.Tuple [e1, e2] k2 pt2) pos.line X.env = pure false := by rfl) : Blk X W D gh Γ (.Assign [.Tuple [.Name x px, .Name y py] kt pt] (.Tuple [e1, e2] k2 pt2) pos :: ss) :=
  blk_ps (ps_par xb.calm xb.nd (xb.at_ hi) (xb.at_ hj) hij (xb.only hx) (xb.only hy) (pa_cons pe_w (pa_cons pe_w pa_nil he2) he) hw hs) fun σ F G H E => ev_seq h1 h2 E fun v w F' G' H' E' x0 p1 p2 => ⟨v, w, rfl, t _ F' G' H' ((E'.setV p1).setV (R := rD d') p2)⟩
/-! tests, returns -/
theorem blk_if {d : Bool} (h : Tv X Γ c d) (ht : d = true → Blk X W { D with nx := BW X ss D } gh Γ a) (hf : d = false → Blk X W { D with nx := BW X ss D } gh Γ b) : Blk X W D gh Γ (.If c a b pos :: ss) :=
  blk_ps (ps_if pt_w pss_w pss_w) fun σ F G H E => h W gh σ F G H E _ fun F' G' H' E' x0 => by
    cases d with
    | true => exact iteT (ht rfl σ F' G' H' E')
    | false => exact iteF (hf rfl σ F' G' H' E')
/-- both branches come to Γ' -/
theorem blk_ifm {d : Bool} (Γ' : List Sl) (h : Tv X Γ c d) (ht : d = true → Blk X W { D with nx := EnN W gh Γ' } gh Γ a) (hf : d = false → Blk X W { D with nx := EnN W gh Γ' } gh Γ b) (t : Blk X W D gh Γ' ss) : Blk X W D gh Γ (.If c a b pos :: ss) :=
  blk_if h (fun z σ F G H E => ⟨fun pins s I => by
    have q := (ht z σ F G H E).go pins s I
    refine thn q fun fl s' hs => ?_
    cases fl with
    | next => obtain ⟨σ', H', I', F', G', E'⟩ := hs; exact ⟨σ', H', I', t σ' F' G' H' E'⟩
    | ret u => exact hs
    | brk => exact hs
    | cont => exact hs⟩) fun z σ F G H E => ⟨fun pins s I => by
    have q := (hf z σ F G H E).go pins s I
    refine thn q fun fl s' hs => ?_
    cases fl with
    | next => obtain ⟨σ', H', I', F', G', E'⟩ := hs; exact ⟨σ', H', I', t σ' F' G' H' E'⟩
    | ret u => exact hs
    | brk => exact hs
    | cont => exact hs⟩
theorem blk_ret {R : Rp} [hR : Fz R] (h : Ev X Γ e R) (r : RetV W D R) : Blk X W D gh Γ (.Return (some e) pos :: ss) :=
  blk_ps (ps_ret pe_w) fun σ F G H E => h W gh σ F G H E _ fun v F' G' H' E' x0 pv => r v F' H' E'.toExt (hR.fz pv)
theorem blk_retO {C : Cp} [hC : FzC C] (h : EvO X Γ e C) (r : RetO W D C) : Blk X W D gh Γ (.Return (some e) pos :: ss) :=
  blk_ps (ps_ret pe_w) fun σ F G H E => h W gh σ F G H E _ fun l fo F' G' H' E' x0 hn pc => r l fo F' H' E'.toExt (fun a ha => ⟨E.h0.free (E.gH.free (hn a ha).1), E'.fg.free (hn a ha).2⟩) (hC.fz pc)
/-- return x, x an own list -/
theorem blk_retV {C : Cp} [hC : FzC C] (xf : XV X N nm) (i : Nat) {x : Str} (hi : Γ[i]? = some (.ow C)) (r : RetO W D C) (hN : N[i]? = some x := by rfl) (hv : visB nm x = true := by decide +kernel) (hd : (x == ("__debug__" : Str)) = false := by decide +kernel)
    (hcd : (x == ("__classdict__" : Str)) = false := by decide +kernel) : Blk X W D gh Γ (.Return (some (.Name x p)) pos :: ss) :=
  blk_ps (ps_ret (pe_var (xf.at_ hN) (xf.vis hv) hd hcd)) fun σ F G H E => by
    obtain ⟨fp, ow, _⟩ := E.ow
    obtain ⟨l, e1, gn, pc⟩ := ow i C hi
    exact ⟨_, e1, r l _ F H E.toExt (fun a ha => ⟨E.h0.free (gn a ha), E.fg.free (gn a ha)⟩) (hC.fz pc)⟩
theorem blk_retN (r : RetV W D (rD .none)) : Blk X W D gh Γ (.Return none pos :: ss) := blk_ps ps_retN fun σ F G H E => r .non F H E.toExt .non
/-! an own list grows -/
theorem blk_app (xb : XB X N nm k) (i : Nat) {x : Str} {ds : List PyData} {d : PyData} {apos cpos np : Pos} (hi : Γ[i]? = some (.ow (cD ds))) (h : Ev X Γ e (rD d)) (hz : ds.length < sizeLine) (t : Blk X W D gh (Γ.set i (.ow (cD (ds ++ [d])))) ss)
    (hN : N[i]? = some x := by rfl) (hv : visB nm x = true := by decide +kernel) (hd : (x == ("__debug__" : Str)) = false := by decide +kernel) (hcd : (x == ("__classdict__" : Str)) = false := by decide +kernel)
    (hbase : attributeBase (.Name x np) ("append" : Str) X.env (eval (.Name x np) X.env) = eval (.Name x np) X.env := by rfl)
    (hfew : ((backTo cpos (starEach [e] X.env)).all (fun x => !x.1) && (backToKw cpos (keywordEach [] X.env)).all (fun x => x.1.isSome)
      && decide ([e].length + ([] : List Keyword).length + (if ([] : List Keyword).isEmpty then 0 else 1) < 30)) = true := by rfl)
    (hline : (apos.endLine == cpos.line) = true := by rfl) (he : starEach [e] X.env = (false, eval e X.env) :: starEach [] X.env := by rfl)
    (hsw : swapsWith (.Call (.Attribute (.Name x np) "append" apos) [e] [] cpos) none pos.line X.env = pure false := by rfl) :
    Blk X W D gh Γ (.Expr (.Call (.Attribute (.Name x np) "append" apos) [e] [] cpos) pos :: ss) :=
  blk_ps (ps_expr (pe_bm PySem.F.plainAttrs_list PySem.F.slot_list_append PySem.F.type_list_append mt_append (pe_var (xb.at_ hN) (xb.vis hv) hd hcd) (pa_cons pe_w pa_nil he) hbase hfew hline he) hsw) fun σ F G H E => by
    obtain ⟨fp, ow, _⟩ := E.ow
    obtain ⟨l, e1, gn, ef, vs, eo, pv⟩ := ow i _ hi
    refine ⟨_, e1, .inl ⟨rfl, _, .inl (.inl eo)⟩, h W gh σ F G H E _ fun v F' G' H' E' x0 p1 => ?_⟩
    refine ⟨l, vs, v, rfl, rfl, x0.s _ _ eo, by rw [pv.length]; exact hz, ?_⟩
    exact t σ F' G' _ (E'.mut hi fun l' fo e2 q gq => by
      rw [e1] at e2
      cases e2
      obtain ⟨ef', _⟩ := q
      subst ef'
      exact ⟨List.mem_cons_self, rfl, _, upd_same, (dtAll_same x0.f _ _ pv).snoc p1⟩)
/-! ### loops -/
/-- what J yields, under g -/
structure ItOk (J : It) (Rs : List Rp) (g : Gh) : Prop where
  stop : ∀ F G H, Same F G → Same G H → g.g F G → J.stop Rs.length H
  go : ∀ i F G H, i < Rs.length → Same F G → Same G H → g.g F G → J.go i H
  yld : ∀ (i : Nat) (R : Rp) (F G H : Hp) (x : V) (H' : Hp), Rs[i]? = some R → Same F G → Same G H → g.g F G → J.yld i H x H' → (H' = H ∧ R.P x F G H) ∨ ∃ T o, H T = none ∧ H' = upd H T o ∧ R.P x (upd F T o) (upd G T o) (upd H T o)
/-- what is walked yields things that stand for Rs, one after another -/
def EvI (X : Cx) (Γ : List Sl) (tg it : Expr) (Rs : List Rp) : Prop := ∀ (W : Wd) (gh : Gh) (σ : L2.St) (F G H : Hp), En W gh Γ σ F G H → ∃ wi, PI X tg it wi ∧ ∀ R : It → Hp → Prop,
  (∀ (J : It) (g : Gh) F' G' H', En W (gh.and g) Γ σ F' G' H' → Gr F G H F' G' H' → ItOk J Rs g → R J H') → wi σ H R
theorem En.step {gh' : Gh} {σ : L2.St} {F G H : Hp} (E : En W gh Γ σ F G H) {J : It} {Rs : List Rp} {g : Gh} (ok : ItOk J Rs g) (hg : g.g F G) {i : Nat} {R : Rp} {x : V} {H' : Hp} (hi : Rs[i]? = some R) (y : J.yld i H x H') : ∃ F' G', En W gh Γ σ F' G' H' ∧ Gr F G H F' G' H' ∧ R.P x F' G' H' := by
  rcases ok.yld i R F G H x H' hi E.fg E.gH hg y with ⟨e, p⟩ | ⟨T, o, hT, e, p⟩
  · subst e
    exact ⟨F, G, E, .refl _ _ _, p⟩
  · subst e
    exact ⟨_, _, E.newF hT, (Gr.refl _ _ _).newF hT (E.fg.free (E.gH.free hT)) (E.gH.free hT), p⟩
theorem blk_forR {it : Expr} {body : List Stmt} {Rs : List Rp} {ts : Nat → List Nat} (xb : XB X N nm k) (Γp : Nat → List Sl) (Γt : Nat → List Sl) (h : EvI X Γ tg it Rs) (h0 : SlAll Γ (Γp 0))
    (ht : ∀ i R, Rs[i]? = some R → Tg X (Γp i) R tg (Γt i) (ts i))
    (hb : ∀ gh' i R, Rs[i]? = some R → Blk X W { D with nx := EnN W gh' (Γp (i + 1)), ct := EnN W gh' (Γp (i + 1)), bk := BW X ss D } gh' (Γt i) body) (t : Blk X W D gh (Γp Rs.length) ss)
    (hs : ∀ x, foldedSetIterable it X.env x = pure x := by intro _; rfl) : Blk X W D gh Γ (.For tg it body [] pos :: ss) := fun σ F G H E => by
  obtain ⟨wi, hpi, hR⟩ := h W gh σ F G H E
  refine BW.of (pss_cons (ps_for xb.pass xb.calm hpi pg_w pss_w hs) pss_w) ?_
  refine hR _ fun J g F1 G1 H1 E1 x1 ok => ?_
  refine ⟨fun i m σ H => m = Rs.length - i ∧ i ≤ Rs.length ∧ EnN W (gh.and g) (Γp i) σ H, ⟨Rs.length, by simp, Nat.zero_le _, F1, G1, E1.le h0⟩, ?_⟩
  rintro i m σ2 H2 ⟨rfl, hi, F2, G2, E2⟩
  by_cases hlt : i < Rs.length
  · refine .inr ⟨ok.go i F2 G2 H2 hlt E2.fg E2.gH E2.g.2, EnN W (gh.and g) (Γp (i + 1)), fun σ' H' e' => ⟨Rs.length - (i + 1), by omega, rfl, hlt, e'⟩, fun x H3 y => ?_⟩
    have hR := List.getElem?_eq_getElem hlt
    obtain ⟨F3, G3, E3, _, p3⟩ := E2.step (gh' := gh) ok E2.g.2 hR y
    exact ht i _ hR W _ σ2 F3 G3 H3 x E3 p3 _ fun σ4 E4 _ => hb _ i _ hR σ4 F3 G3 H3 E4
  · have e : i = Rs.length := by omega
    subst e
    exact .inl ⟨ok.stop F2 G2 H2 E2.fg E2.gH E2.g.2, t σ2 F2 G2 H2 (E2.gw E2.g.1)⟩
theorem split_at {α : Type} {xs : List α} {i : Nat} {x : α} (q : xs[i]? = some x) : xs = xs.take i ++ x :: xs.drop (i + 1) ∧ xs.take (i + 1) = xs.take i ++ [x] := by
  obtain ⟨hi, ex⟩ := List.getElem?_eq_some_iff.mp q
  refine ⟨?_, ?_⟩
  · rw [← ex, List.getElem_cons_drop, List.take_append_drop]
  · rw [List.take_add_one, q]; rfl
/-- over things told by xs, by what has been walked -/
theorem blk_for {α : Type} {it : Expr} {body : List Stmt} {R : α → Rp} {xs : List α} {ts : List Nat} (xb : XB X N nm k) (Γp : List α → List Sl) (Γt : List α → α → List Sl) (h : EvI X Γ tg it (xs.map R)) (h0 : SlAll Γ (Γp []))
    (ht : ∀ pre x post, xs = pre ++ x :: post → Tg X (Γp pre) (R x) tg (Γt pre x) ts)
    (hb : ∀ gh' pre x post, xs = pre ++ x :: post → Blk X W { D with nx := EnN W gh' (Γp (pre ++ [x])), ct := EnN W gh' (Γp (pre ++ [x])), bk := BW X ss D } gh' (Γt pre x) body) (t : Blk X W D gh (Γp xs) ss)
    (hs : ∀ x, foldedSetIterable it X.env x = pure x := by intro _; rfl) : Blk X W D gh Γ (.For tg it body [] pos :: ss) := by
  have sp : ∀ (i : Nat) (d : Rp), (xs.map R)[i]? = some d → ∃ x, xs[i]? = some x ∧ d = R x := fun i d e => by
    rw [List.getElem?_map] at e
    cases q : xs[i]? with
    | none => rw [q] at e; cases e
    | some x =>
      rw [q] at e
      exact ⟨x, rfl, (Option.some.inj e).symm⟩
  refine blk_forR (ts := fun _ => ts) xb (fun i => Γp (xs.take i)) (fun i => match xs[i]? with | some x => Γt (xs.take i) x | none => []) h (by simpa using h0) (fun i d e => ?_) (fun gh' i d e => ?_) (by rw [List.length_map, List.take_length]; exact t) hs
  · obtain ⟨x, e4, e3⟩ := sp i d e
    rw [e4, e3]
    exact ht _ _ _ (split_at e4).1
  · obtain ⟨x, e4, e3⟩ := sp i d e
    rw [e4]
    show Blk X W { D with nx := EnN W gh' (Γp (xs.take (i + 1))), ct := EnN W gh' (Γp (xs.take (i + 1))), bk := BW X ss D } gh' _ body
    rw [(split_at e4).2]
    exact hb gh' _ _ _ (split_at e4).1
/-! what is walked -/
section
variable {it rp cp : Expr}
theorem evi_list {ds : List PyData} (h : Ev X Γ it (bD ds)) : EvI X Γ tg it (ds.map rD) := fun W gh σ F G H E =>
  ⟨_, pi_list pe_w, fun R q => h W gh σ F G H E _ fun v F1 G1 H1 E1 x1 ⟨l, vs, ev, hl, pv⟩ =>
    ⟨l, ev, ⟨vs, .inl (.inl (E1.gH _ _ hl))⟩, q (Itl X.K l) ⟨fun F G => G l = some (.lst vs) ∧ DtAll F vs ds, fun f g ⟨x, y⟩ => ⟨g _ _ x, dtAll_same f _ _ y⟩⟩ F1 G1 H1 (E1.gw ⟨E1.g, hl, pv⟩) x1
      { stop := fun F G H f g ⟨a, b⟩ => ⟨vs, .inl (.inl (g _ _ a)), by rw [List.length_map, b.length]; exact Nat.le_refl _⟩
        go := fun i F G H hi f g ⟨a, b⟩ => ⟨vs, vs[i]'(by rw [b.length]; rwa [List.length_map] at hi), .inl (.inl (g _ _ a)), List.getElem?_eq_getElem _⟩
        yld := fun i R F G H x H' hi f g ⟨a, b⟩ y => by
          obtain ⟨e, y⟩ := y
          have hx := y vs (.inl (.inl (g _ _ a)))
          rw [List.getElem?_map] at hi
          obtain ⟨d, hd, pd⟩ := b.getV hx
          rw [hd] at hi
          cases hi
          exact .inl ⟨e, pd⟩ }⟩⟩
theorem evi_lst {α : Type} {enc : α → PyData} {xs : List α} (h : Ev X Γ it (bD (xs.map enc))) : EvI X Γ tg it (xs.map fun x => rD (enc x)) := by
  have := evi_list (tg := tg) h
  rw [List.map_map] at this
  exact this
theorem evi_tup {ds : List PyData} (h : Ev X Γ it (rD (.tuple ds))) : EvI X Γ tg it (ds.map rD) := fun W gh σ F G H E =>
  ⟨_, pi_tup pe_w, fun R q => h W gh σ F G H E _ fun v F1 G1 H1 E1 x1 p => by
    obtain ⟨l, vs, ev, hl, pv⟩ := tup_inv p
    refine ⟨l, ev, ⟨vs, .inl (.inl (E1.gH _ _ (E1.fg _ _ hl)))⟩, q (Itt X.K l) ⟨fun F G => F l = some (.tup vs) ∧ DtAll F vs ds, fun f g ⟨x, y⟩ => ⟨f _ _ x, dtAll_same f _ _ y⟩⟩ F1 G1 H1 (E1.gw ⟨E1.g, hl, pv⟩) x1
      { stop := fun F G H f g ⟨a, b⟩ => ⟨vs, .inl (.inl (g _ _ (f _ _ a))), by rw [List.length_map, b.length]; exact Nat.le_refl _⟩
        go := fun i F G H hi f g ⟨a, b⟩ => ⟨vs, vs[i]'(by rw [b.length]; rwa [List.length_map] at hi), .inl (.inl (g _ _ (f _ _ a))), List.getElem?_eq_getElem _⟩
        yld := fun i R F G H x H' hi f g ⟨a, b⟩ y => by
          obtain ⟨e, y⟩ := y
          have hx := y vs (.inl (.inl (g _ _ (f _ _ a))))
          rw [List.getElem?_map] at hi
          obtain ⟨d, hd, pd⟩ := b.getV hx
          rw [hd] at hi
          cases hi
          exact .inl ⟨e, pd⟩ }⟩⟩
end
/-- over range(n), range(lo, hi): told by the turn -/
theorem blk_rng {it : Expr} {body : List Stmt} {lo : Int} {n : Nat} (xb : XB X N nm k) (Γp : Nat → List Sl) (Γt : Nat → List Sl)
    (hi : ∀ (W : Wd) (gh : Gh) (σ : L2.St) (F G H : Hp), En W gh Γ σ F G H → ∃ wi, PI X tg it wi ∧ ∀ R : It → Hp → Prop, (∀ F' G' H', En W gh Γ σ F' G' H' → R (Itr lo n) H') → wi σ H R) (h0 : SlAll Γ (Γp 0))
    {ts : Nat → List Nat} (ht : ∀ i, i < n → Tg X (Γp i) (rD (.int (lo + i))) tg (Γt i) (ts i))
    (hb : ∀ i, i < n → Blk X W { D with nx := EnN W gh (Γp (i + 1)), ct := EnN W gh (Γp (i + 1)), bk := BW X ss D } gh (Γt i) body) (t : Blk X W D gh (Γp n) ss)
    (hs : ∀ x, foldedSetIterable it X.env x = pure x := by intro _; rfl) : Blk X W D gh Γ (.For tg it body [] pos :: ss) := fun σ F G H E => by
  obtain ⟨wi, hpi, hR⟩ := hi W gh σ F G H E
  refine BW.of (pss_cons (ps_for xb.pass xb.calm hpi pg_w pss_w hs) pss_w) ?_
  refine hR _ fun F1 G1 H1 E1 => ?_
  refine for_range (lo := lo) (n := n) (fun i σ H => EnN W gh (Γp i) σ H) ⟨F1, G1, E1.le h0⟩ ?_ ?_
  · rintro i σ2 H2 hlt ⟨F2, G2, E2⟩
    exact ht i hlt W gh σ2 F2 G2 H2 _ E2 (.int _) _ fun σ3 E3 _ => hb i hlt σ3 F2 G2 H2 E3
  · rintro σ2 H2 ⟨F2, G2, E2⟩
    exact t σ2 F2 G2 H2 E2
section
variable {rp cp : Pos}
theorem rng1 {n : Int} (hb : Bl X "range") (h : Ev X Γ e (rD (.int n))) (hl : n < 2 ^ 62) (h0 : 0 ≤ n) (he : starEach [e] X.env = (false, eval e X.env) :: starEach [] X.env := by rfl) :
    ∀ (W : Wd) (gh : Gh) (σ : L2.St) (F G H : Hp), En W gh Γ σ F G H → ∃ wi, PI X tg (.Call (.Name "range" rp) [e] [] cp) wi ∧ ∀ R : It → Hp → Prop, (∀ F' G' H', En W gh Γ σ F' G' H' → R (Itr 0 n.toNat) H') → wi σ H R := fun W gh σ F G H E =>
  ⟨_, pi_range1 hb.hg hb.hm (pa_cons pe_w pa_nil he) (hs := he), fun R q => h W gh σ F G H E _ fun v F' G' H' E' x0 pv => ⟨n, by rw [int_inv pv], by omega, hl, q F' G' H' E'⟩⟩
theorem rng2 {e2 : Expr} {i j : Int} (hb : Bl X "range") (h : Ev X Γ e (rD (.int i))) (h2 : Ev X Γ e2 (rD (.int j))) (hl : -(2 ^ 62) ≤ i ∧ i < 2 ^ 62 ∧ -(2 ^ 62) ≤ j ∧ j < 2 ^ 62) (he : starEach [e, e2] X.env = (false, eval e X.env) :: starEach [e2] X.env := by rfl) (he2 : starEach [e2] X.env = (false, eval e2 X.env) :: starEach [] X.env := by rfl) :
    ∀ (W : Wd) (gh : Gh) (σ : L2.St) (F G H : Hp), En W gh Γ σ F G H → ∃ wi, PI X tg (.Call (.Name "range" rp) [e, e2] [] cp) wi ∧ ∀ R : It → Hp → Prop, (∀ F' G' H', En W gh Γ σ F' G' H' → R (Itr i (j - i).toNat) H') → wi σ H R := fun W gh σ F G H E =>
  ⟨_, pi_range2 hb.hg hb.hm (pa_cons pe_w (pa_cons pe_w pa_nil he2) he) (hs := he.trans (congrArg _ he2)) (hs2 := he2), fun R q => ev_seq h h2 E fun v w F' G' H' E' x0 p1 p2 => ⟨i, j, by rw [int_inv p1, int_inv p2], hl, q F' G' H' E'⟩⟩
end
/-- while, told by a state that falls -/
theorem blk_while {S : Type} {body : List Stmt} (xb : XB X N nm k) (Γs : S → List Sl) (ok : S → Prop) (m : S → Nat) (d : S → Bool) (s0 : S) (h0 : SlAll Γ (Γs s0)) (o0 : ok s0) (hc : ∀ s, ok s → Tv X (Γs s) c (d s))
    (hb : ∀ s N, ok s → d s = true → (∀ s' σ H, ok s' → m s' < m s → EnN W gh (Γs s') σ H → N σ H) → Blk X W { D with nx := N, ct := N, bk := BW X ss D } gh (Γs s) body) (t : ∀ s, ok s → d s = false → Blk X W D gh (Γs s) ss) : Blk X W D gh Γ (.While c body [] pos :: ss) := by
  refine blk_ps (ps_while xb.pass pt_w pss_w) fun σ F G H E => ?_
  refine ⟨fun n σ H => ∃ s, m s = n ∧ ok s ∧ EnN W gh (Γs s) σ H, ⟨m s0, s0, rfl, o0, F, G, E.le h0⟩, ?_⟩
  rintro n σ1 H1 ⟨s, rfl, os, F1, G1, E1⟩
  refine hc s os W gh σ1 F1 G1 H1 E1 _ fun F2 G2 H2 E2 x2 => ?_
  cases q : d s with
  | true =>
    rw [if_pos rfl]
    refine ⟨fun σ H => ∃ s', m s' < m s ∧ ok s' ∧ EnN W gh (Γs s') σ H, fun σ' H' ⟨s', lt, o', e'⟩ => ⟨m s', lt, s', rfl, o', e'⟩, ?_⟩
    exact hb s _ os q (fun s' σ H o' lt e' => ⟨s', lt, o', e'⟩) σ1 F2 G2 H2 E2
  | false =>
    rw [if_neg Bool.false_ne_true]
    exact t s os q σ1 F2 G2 H2 E2
theorem blk_endN {nx : L2.St → Hp → Prop} {rt : VK} {bk ct : L2.St → Hp → Prop} (h : ∀ σ H, EnN W gh Γ' σ H → nx σ H) (hl : SlAll Γ Γ') : Blk X W { nx := nx, rt := rt, bk := bk, ct := ct } gh Γ [] := blk_nil fun σ F G H E => h σ H ⟨F, G, E.le hl⟩
end
/-! ### a def -/
/-- the slots at the start -/
def slots (Rs : List Rp) (n : Nat) : List Sl := []
inductive StAll : List Rp → List Sl → Prop
  | nil : StAll [] []
  | cons {R : Rp} {Rs : List Rp} {l : List Sl} [h : Sta R] (t : StAll Rs l) : StAll (R :: Rs) (.vl R h :: l)
  | as {R R' : Rp} {Rs : List Rp} {l : List Sl} [h : Sta R'] (k : ∀ v F H, R.P v F H H → R'.P v F H H) (t : StAll Rs l) : StAll (R :: Rs) (.vl R' h :: l)
theorem StAll.len : ∀ {Rs : List Rp} {l : List Sl}, StAll Rs l → l.length = Rs.length
  | _, _, .nil => rfl
  | _, _, @StAll.cons R Rs l h t => by simp [StAll.len t]
  | _, _, @StAll.as R R' Rs l h k t => by simp [StAll.len t]
theorem StAll.get : ∀ {Rs : List Rp} {l : List Sl}, StAll Rs l → ∀ {i : Nat} {a : Sl}, l[i]? = some a → ∃ R h R', a = .vl R h ∧ Rs[i]? = some R' ∧ ∀ v F H, R'.P v F H H → R.P v F H H
  | _, _, .nil, _, _, e => by simp at e
  | _, _, @StAll.cons R Rs l h t, 0, a, e => by
    simp at e
    exact ⟨R, h, R, e.symm, rfl, fun _ _ _ p => p⟩
  | _, _, @StAll.as R R' Rs l h k t, 0, a, e => by
    simp at e
    exact ⟨R', h, R, e.symm, rfl, k⟩
  | _, _, @StAll.cons R0 Rs l h0 t, i + 1, a, e => by
    obtain ⟨R, h, R', e1, e2, k⟩ := StAll.get t (i := i) (by simpa using e)
    exact ⟨R, h, R', e1, by simpa using e2, k⟩
  | _, _, @StAll.as R0 R0' Rs l h0 k0 t, i + 1, a, e => by
    obtain ⟨R, h, R', e1, e2, k⟩ := StAll.get t (i := i) (by simpa using e)
    exact ⟨R, h, R', e1, by simpa using e2, k⟩
/-- a list handed in as it stands: it stands still -/
theorem StAll.hD {ds : List PyData} {Rs : List Rp} {l : List Sl} (t : StAll Rs l) : StAll (hD ds :: Rs) (L3.vl (bD ds) :: l) := .as (fun _ _ _ p => p) t
section
variable {P : Program} {w : World} {K : PySem.W.Frag} {mg : Str → Option Value} {base : Heap}
theorem paired_get {F G H : Hp} : ∀ {vs : List V} {Rs : List Rp}, Paired (fun v (R : Rp) => R.P v F G H) vs Rs → ∀ {i : Nat} {R : Rp}, Rs[i]? = some R → ∃ v, vs[i]? = some v ∧ R.P v F G H
  | _, _, .nil, _, _, e => by simp at e
  | _, _, .cons r t, 0, R, e => by
    simp at e
    subst e
    exact ⟨_, rfl, r⟩
  | _, _, .cons r t, i + 1, R, e => by
    obtain ⟨v, e1, q⟩ := paired_get t (i := i) (by simpa using e)
    exact ⟨v, by simpa using e1, q⟩
theorem en_start {N : List Str} {Rs : List Rp} {l : List Sl} {vs : List V} {F H : Hp} {n : Nat} (sa : StAll Rs l) (hn : N.length = l.length + n) (f : Same F H) (h : argsP Rs vs F H) : En ⟨F, H⟩ .tt (l ++ List.replicate n .no) (L2.start N vs) F H H := by
  have hl : vs.length = l.length := by rw [Paired.length h, sa.len]
  have get : ∀ {i : Nat} {a : Sl}, (l ++ List.replicate n Sl.no)[i]? = some a → (l[i]? = some a) ∨ a = .no := fun {i a} e => by
    by_cases z : i < l.length
    · rw [List.getElem?_append_left z] at e
      exact .inl e
    · rw [List.getElem?_append_right (by omega), List.getElem?_replicate] at e
      split at e
      · exact .inr (Option.some.inj e).symm
      · cases e
  have st : ∀ {i : Nat} {v : V}, vs[i]? = some v → (L2.start N vs)[i]? = some (some v) := fun {i v} e => by
    unfold L2.start
    have hi : i < vs.length := (List.getElem?_eq_some_iff.mp e).1
    rw [List.getElem?_append_left (by simpa using hi), List.getElem?_map, e]
    rfl
  refine ⟨?_, Same.refl _, Same.refl _, f, Same.refl _, fun a o e => .inl e, trivial, fun i R hR e => ?_, fun _ => [], fun i C e => ?_, fun i j C C' m n e => ?_⟩
  · unfold L2.start
    rw [List.length_append, List.length_append, List.length_map, List.length_replicate, List.length_replicate]
    omega
  · rcases get e with e | e
    · obtain ⟨R', h', R2, e1, e2, k2⟩ := sa.get e
      cases e1
      obtain ⟨v, e3, q⟩ := paired_get h e2
      exact ⟨v, st e3, k2 _ _ _ q⟩
    · cases e
  · rcases get e with e | e
    · obtain ⟨R', h', R2, e1, e2, k2⟩ := sa.get e
      cases e1
    · cases e
  · rcases get e with e | e
    · obtain ⟨R', h', R2, e1, e2, k2⟩ := sa.get e
      cases e1
    · cases e
/-- a def's own context -/
theorem xb_of {N : List Str} {ps : List Str} {qual : Str} {sc : Scope} {f : Addr} {cdv : Value} {A : Around} {outer : List Env} {s : Shared} {H : Hp} {E : XK} {k : Nat} {nm : List (Str × NameKind)} (S : FnScope N ps sc) (hn : sc.names = nm) (hr : Room k (A.deeper (envOfC qual sc s.heap.objs.size f cdv))) :
    XB (cxOf (L2.CX P w) P w K mg base N qual sc f cdv A outer s H E) N nm k :=
  { hN := rfl, nd := S.nd, nm := hn, calm := rfl, kd := S.kind, room := hr, fnn := fun _ => rfl, pass := passes_of rfl, stk := rfl, frm := rfl, ex := rfl }
theorem fn_v {x qual : Str} {st : Stmt} {f : Addr} {fd : FuncData} {N ps : List Str} {k n : Nat} {Rs : List Rp} {l : List Sl} {R : Rp} {nm : List (Str × NameKind)} (F : FunD K x qual (defArgs st) (defBody st) (defScope st) [] [] f fd) (S : FnScope N ps (defScope st)) (hnm : (defScope st).names = nm) (sa : StAll Rs l) (hp : ps.length = Rs.length)
    (hn : N.length = l.length + n)
    (hb : ∀ (X : Cx) (W : Wd) (D : Ends), X.prog = P → X.w = w → X.K = K → X.mg = mg → X.base = base → XB X N nm k → RetV W D R → (D.nx = fun _ H' => D.rt .non H') → Blk X W D .tt (l ++ List.replicate n .no) (defBody st)) : FnOk P w K mg base (L2.CX P w) (k + 1) f fd ps (spV Rs R) := by
  refine F.ok S (fun vs H Q E h => ?_) (fun cdv A outer s H vs Q E hr h => ?_)
  · obtain ⟨F0, _, ha, _⟩ := h
    rw [Paired.length ha, hp]
  · obtain ⟨F0, fh, ha, q⟩ := h
    exact ⟨_, pss_w, hb (cxOf (L2.CX P w) P w K mg base N qual (defScope st) f cdv A outer s H E) ⟨F0, H⟩ { nx := fun _ H' => Q .non H', rt := Q } rfl rfl rfl rfl rfl (xb_of S hnm hr) (fun v F1 H1 x p => q v F1 H1 x p) rfl _ F0 H H (en_start sa hn fh ha)⟩
theorem fn_o {x qual : Str} {st : Stmt} {f : Addr} {fd : FuncData} {N ps : List Str} {k n : Nat} {Rs : List Rp} {l : List Sl} {C : Cp} {nm : List (Str × NameKind)} (F : FunD K x qual (defArgs st) (defBody st) (defScope st) [] [] f fd) (S : FnScope N ps (defScope st)) (hnm : (defScope st).names = nm) (sa : StAll Rs l) (hp : ps.length = Rs.length)
    (hn : N.length = l.length + n)
    (hb : ∀ (X : Cx) (W : Wd) (D : Ends), X.prog = P → X.w = w → X.K = K → X.mg = mg → X.base = base → XB X N nm k → RetO W D C → Blk X W D .tt (l ++ List.replicate n .no) (defBody st)) : FnOk P w K mg base (L2.CX P w) (k + 1) f fd ps (spO Rs C) := by
  refine F.ok S (fun vs H Q E h => ?_) (fun cdv A outer s H vs Q E hr h => ?_)
  · obtain ⟨F0, _, ha, _⟩ := h
    rw [Paired.length ha, hp]
  · obtain ⟨F0, fh, ha, q⟩ := h
    exact ⟨_, pss_w, hb (cxOf (L2.CX P w) P w K mg base N qual (defScope st) f cdv A outer s H E) ⟨F0, H⟩ { nx := fun _ H' => Q .non H', rt := Q } rfl rfl rfl rfl rfl (xb_of S hnm hr) (fun l fo F1 H1 x h1 p => q l fo F1 H1 x h1 p) _ F0 H H (en_start sa hn fh ha)⟩
end
end L3
/-! L3, part e: comprehensions, zip, enumerate. -/
namespace L3
open PySem PySem.Spec PyProof.Rows L2
/-! ### the context of a comprehension's block -/
def relN (own nm : List (Str × NameKind)) : List (Str × NameKind) := own.map fun (n, k) => if (k == .free && ScopeKind.function == ScopeKind.function && nm.lookup n == some .cell) then (n, .cell) else (n, k)
abbrev bx (X : Cx) (s : Shared) (H : Hp) (scope : Scope) (C : Addr) (cl : List (Str × Addr)) (fp : List Addr) : Cx := X.blk s H scope (compEnvC scope cl C X.env) fp
section
variable {X : Cx} {N : List Str} {nm : List (Str × NameKind)} {k : Nat} {W : Wd} {gh : Gh} {Γ : List Sl} {σ : L2.St} {F G H : Hp}
theorem XC.blk (xf : XC X N nm k) {scope : Scope} (hk : scope.kind = .function) (s : Shared) (H : Hp) (C : Addr) (cl : List (Str × Addr)) (fp : List Addr) : XC (bx X s H scope C cl fp) N (relN scope.names nm) k where
  hN := xf.hN
  nd := xf.nd
  nm := by
    show (relS scope X.env.scope).names = _
    unfold relS relN
    rw [xf.kd, xf.nm]
  calm := xf.calm
  kd := hk
  room := xf.room
/-- back from a block: the slots as they were, the world as it is -/
theorem En.back {Γ2 : List Sl} {σ2 : L2.St} {gh2 : Gh} {F2 G2 H2 : Hp} (E1 : En W gh Γ σ F G H) (E2 : En W gh2 Γ2 σ2 F2 G2 H2) (x : Gr F G H F2 G2 H2) : En W gh Γ σ F2 G2 H2 := by
  obtain ⟨fp, ow⟩ := E1.ow
  have ow : Owns Γ σ F G H fp := ow
  refine ⟨E1.len, E2.f0, E2.h0, E2.fg, E2.gH, E2.gr, gh.mono x.f x.g E1.g, fun i R h e => ?_, fp, ow.mono x.f x.g fun i C e a ha => ?_⟩
  · obtain ⟨v, e1, q⟩ := E1.vl i R h e
    exact ⟨v, e1, R.mono x.f x.g x.s q⟩
  · obtain ⟨l, e1, e2, q⟩ := ow.1 i C e
    obtain ⟨u, hu, nu⟩ := C.there q a ha
    exact ⟨x.n a u hu nu (e2 a ha), (x.s a u hu).trans hu.symm⟩
/-- an object that is not frozen and no slot's own is stored -/
theorem En.other (E : En W gh Γ σ F G H) {D : Addr} {o : HO} (gD : G D = none) (hn : ∀ (i : Nat) (C : Cp) (m : Addr) (fo : List Addr), Γ[i]? = some (.ow C) → σ[i]? = some (some (V.ref m)) → C.C m fo H F G → D ∉ fo) : En W gh Γ σ F G (upd H D o) := by
  obtain ⟨fp, ow⟩ := E.ow
  have ow : Owns Γ σ F G H fp := ow
  refine ⟨E.len, E.f0, E.h0, E.fg, same_updR E.gH gD, E.gr, E.g, fun i R h e => ?_, fp, ow.mono (Same.refl _) (Same.refl _) fun i C e a ha => ?_⟩
  · obtain ⟨v, e1, q⟩ := E.vl i R h e
    exact ⟨v, e1, h.st q⟩
  · obtain ⟨l, e1, e2, q⟩ := ow.1 i C e
    refine ⟨e2 a ha, upd_ne fun z => ?_⟩
    subst z
    exact hn i C l _ e e1 q ha
def wipeG : List Sl → List Nat → List Sl
  | Γ, [] => Γ
  | Γ, v :: vs => (wipeG Γ vs).set v .no
theorem wipeG_get : ∀ {Γ : List Sl} {vs : List Nat} {j : Nat} {a : Sl}, (wipeG Γ vs)[j]? = some a → a = .no ∨ (j ∉ vs ∧ Γ[j]? = some a)
  | Γ, [], j, a, e => .inr ⟨by simp, e⟩
  | Γ, v :: vs, j, a, e => by
    unfold wipeG at e
    rw [List.getElem?_set] at e
    by_cases h : v = j
    · subst h
      simp only [if_true] at e
      split at e
      · exact .inl (Option.some.inj e).symm
      · cases e
    · rw [if_neg h] at e
      rcases wipeG_get e with z | ⟨z1, z2⟩
      · exact .inl z
      · exact .inr ⟨by simp only [List.mem_cons, not_or]; exact ⟨fun q => h q.symm, z1⟩, z2⟩
theorem wipeG_length : ∀ (Γ : List Sl) (vs : List Nat), (wipeG Γ vs).length = Γ.length
  | _, [] => rfl
  | Γ, v :: vs => by unfold wipeG; rw [List.length_set, wipeG_length Γ vs]
theorem En.wipe (E : En W gh Γ σ F G H) (vs : List Nat) : En W gh (wipeG Γ vs) (wipe σ vs) F G H := by
  obtain ⟨fp, ow⟩ := E.ow
  have ow : Owns Γ σ F G H fp := ow
  have at_ : ∀ {j : Nat}, j ∉ vs → (L2.wipe σ vs)[j]? = σ[j]? := fun {j} h => by rw [wipe_get, if_neg fun z => h z.1]
  refine ⟨by rw [wipeG_length, wipe_length]; exact E.len, E.f0, E.h0, E.fg, E.gH, E.gr, E.g, fun i R h e => ?_, fp, fun i C e => ?_, fun i j C C' a n e e' => ?_⟩
  · rcases wipeG_get e with z | ⟨z1, z2⟩
    · cases z
    · rw [at_ z1]
      exact E.vl i R h z2
  · rcases wipeG_get e with z | ⟨z1, z2⟩
    · cases z
    · rw [at_ z1]
      exact ow.1 i C z2
  · rcases wipeG_get e with z | ⟨z1, z2⟩
    · cases z
    · rcases wipeG_get e' with y | ⟨y1, y2⟩
      · cases y
      · exact ow.2 i j C C' a n z2 y2
theorem wipe_wipe {σ : L2.St} {vs : List Nat} : L2.wipe (L2.wipe σ vs) vs = L2.wipe σ vs := by
  refine List.ext_getElem? fun j => ?_
  rw [wipe_get, wipe_get, wipe_length]
  split <;> rfl
/-- tests of a comprehension -/
structure VW (X : Cx) (ifs : List Expr) (σ : L2.St) (H : Hp) (Q : Bool → Hp → Prop) : Prop where
  go : ∀ (pins : List (Addr × Obj)) (s : Shared), Inv X pins σ H s → wpAny (model X.prog X.w) X.A (forIn ifs true fun c r => if r = true then do let ok ← isTrue c X.env (eval c X.env); pure (ForInStep.yield ok) else pure (ForInStep.yield r)) (TP X pins σ Q) X.xe s
theorem VW.of {ifs : List Expr} {t : TT} {Q : Bool → Hp → Prop} (h : PTs X ifs t) (q : t σ H Q) : VW X ifs σ H Q := ⟨fun pins s I => h.run pins s σ H Q I q⟩
def Vv (X : Cx) (Γ : List Sl) (ifs : List Expr) (b : Bool) : Prop := ∀ (W : Wd) (gh : Gh) (σ : L2.St) (F G H : Hp), En W gh Γ σ F G H → ∀ Q : Bool → Hp → Prop,
  (∀ F' G' H', En W gh Γ σ F' G' H' → Gr F G H F' G' H' → Q b H') → VW X ifs σ H Q
theorem vv_nil : Vv X Γ [] true := fun W gh σ F G H E Q q => VW.of pts_nil (q F G H E (.refl _ _ _))
theorem vv_one {c : Expr} {b : Bool} (h : Tv X Γ c b) : Vv X Γ [c] b := fun W gh σ F G H E Q q => VW.of (pts_one pt_w) (h W gh σ F G H E Q q)
end
/-- blkC, by the names -/
def blkN (N : List Str) (nm : List (Str × NameKind)) (scope : Scope) (own : List (Str × Nat)) : Bool := blkC N { kind := .function, names := nm, isGenerator := false, isCoroutine := false } scope own
theorem blkN_ok {X : Cx} {N : List Str} {nm : List (Str × NameKind)} {scope : Scope} {own : List (Str × Nat)} (xf : XV X N nm) (h : blkN N nm scope own = true) : blkC X.N X.env.scope scope own = true := by
  unfold blkN blkC at h
  unfold blkC
  rw [xf.hN, xf.nm]
  exact h
/-- in the comprehension's block -/
abbrev Bk (X : Cx) (N : List Str) (nm : List (Str × NameKind)) (k : Nat) (scope : Scope) (f : Cx → Prop) : Prop := ∀ (s : Shared) (H : Hp) (C : Addr) (cl : List (Str × Addr)) (fp : List Addr), XC (bx X s H scope C cl fp) N (relN scope.names nm) k → f (bx X s H scope C cl fp)
section
variable {X : Cx} {N : List Str} {nm : List (Str × NameKind)} {k : Nat} {Γ : List Sl} {elt tg it : Expr} {ifs : List Expr} {scope : Scope} {pos : Pos}
/-- [elt for tg in it if ..], its steps -/
theorem lc_t {α : Type} {R : α → Rp} {f : α → PyData} {p : α → Bool} {xs : List α} {ts : List Nat} (own : List (Str × Nat)) (xf : XC X N nm k) (hi : EvI X Γ tg it (xs.map R)) (hz : xs.length ≤ sizeLine) (Γt : α → List Sl)
    (hts : ∀ j ∈ ts, j ∈ own.map (·.2))
    (hg : Bk X N nm k scope fun Y => ∀ x ∈ xs, Tg Y (wipeG Γ (own.map (·.2))) (R x) tg (Γt x) ts)
    (ht : Bk X N nm k scope fun Y => ∀ x ∈ xs, Vv Y (Γt x) ifs (p x))
    (he : Bk X N nm k scope fun Y => ∀ x ∈ xs, p x = true → Ev Y (Γt x) elt (rD (f x))) (hk : scope.kind = .function) (W : Wd) (gh : Gh) (σ : L2.St) (F0 G0 H0 : Hp) (E0 : En W gh Γ σ F0 G0 H0) :
    ∃ wi g tt te, PI X tg it wi ∧ (∀ s H C cl fp, PG (bx X s H scope C cl fp) tg g) ∧ (∀ s H C cl fp, PTs (bx X s H scope C cl fp) ifs tt) ∧ (∀ s H C cl fp, PE (bx X s H scope C cl fp) elt te) ∧
      ∀ Q : VK, (∀ l fo F' G' H', En W gh Γ σ F' G' H' → Gr F0 G0 H0 F' G' H' → (∀ a ∈ fo, H0 a = none ∧ G' a = none) → (cD ((xs.filter p).map f)).C l fo H' F' G' → Q (.ref l) H') → tLc wi g tt te (own.map (·.2)) σ H0 Q := by
  obtain ⟨wi, hpi, hR⟩ := hi W gh σ F0 G0 H0 E0
  refine ⟨wi, fun v σ H Q => ∀ s H0 C cl fp, GW (bx X s H0 scope C cl fp) tg v σ H Q, fun σ H Q => ∀ s H0 C cl fp, VW (bx X s H0 scope C cl fp) ifs σ H Q, fun σ H Q => ∀ s H0 C cl fp, EW (bx X s H0 scope C cl fp) elt σ H Q, hpi,
    fun s H C cl fp => ⟨fun pins s' σ H' v u Q I r h => (h s H C cl fp).go pins s' u I r⟩, fun s H C cl fp => ⟨fun pins s' σ H' Q I h => (h s H C cl fp).go pins s' I⟩, fun s H C cl fp => ⟨fun pins s' σ H' Q I h => (h s H C cl fp).go pins s' I⟩, fun Q q => ?_⟩
  refine hR _ fun J g F1 G1 H1 E1 x1 ok D hD => ?_
  have gD := E1.gH.free hD
  -- the state between two turns: D holds what is made
  let Pv : Nat → Hp → Prop := fun i H => ∃ F G acc, En W (gh.and g) (wipeG Γ (own.map (·.2))) (wipe σ (own.map (·.2))) F G H ∧ Gr F1 G1 H1 F G H ∧ G D = none ∧ H D = some (.lst acc) ∧ DtAll F acc (((xs.take i).filter p).map f)
  have Ew := E1.wipe (own.map (·.2))
  refine ⟨fun i m H => m = xs.length - i ∧ i ≤ xs.length ∧ Pv i H, ⟨xs.length, by simp, Nat.zero_le _, F1, G1, [], Ew.new hD, (Gr.refl _ _ _).new hD, gD, upd_same, .nil⟩, ?_⟩
  rintro i m H ⟨rfl, hi, F, G, acc, E, x, gDn, hDa, pa⟩
  have hln : (xs.map R).length = xs.length := List.length_map ..
  by_cases hlt : i < xs.length
  · refine .inr ⟨ok.go i F G H (by rw [hln]; exact hlt) E.fg E.gH E.g.2, Pv (i + 1), fun H' p' => ⟨xs.length - (i + 1), by omega, rfl, hlt, p'⟩, fun v H3 y => ?_⟩
    have hx := List.getElem?_eq_getElem hlt
    have hR : (xs.map R)[i]? = some (R xs[i]) := by rw [List.getElem?_map, hx]; rfl
    have mem : xs[i] ∈ xs := List.getElem_mem hlt
    obtain ⟨F3, G3, E3, x3, p3⟩ := E.step (gh' := gh) ok E.g.2 hR y
    intro s H0 C cl fp
    refine hg s H0 C cl fp (xf.blk hk s H0 C cl fp) _ mem W _ _ F3 G3 H3 v E3 p3 _ fun σ4 E4 w4 => ⟨(w4 _ hts).trans wipe_wipe, fun s H0 C cl fp => ?_⟩
    refine ht s H0 C cl fp (xf.blk hk s H0 C cl fp) _ mem W _ σ4 F3 G3 H3 E4 _ fun F5 G5 H5 E5 x5 => ?_
    have x35 := x3.trans x5
    cases z : p xs[i] with
    | false =>
      refine iteF ⟨F5, G5, acc, E.back E5 x35, x.trans x35, x35.n D _ hDa (fun _ z => nomatch z) gDn, x35.s _ _ hDa, ?_⟩
      rw [(split_at hx).2, List.filter_append, List.filter_cons_of_neg (by rw [z]; exact Bool.false_ne_true), List.filter_nil, List.append_nil]
      exact dtAll_same x35.f _ _ pa
    | true =>
      refine iteT fun s H0 C cl fp => he s H0 C cl fp (xf.blk hk s H0 C cl fp) _ mem z W _ σ4 F5 G5 H5 E5 _ fun u F6 G6 H6 E6 x6 p6 => ?_
      have x36 := x35.trans x6
      have hD6 := x36.s _ _ hDa
      have gD6 := x36.n D _ hDa (fun _ z => nomatch z) gDn
      have E7 := E.back E6 x36
      have la : acc.length ≤ i := by
        rw [pa.length, List.length_map]
        exact Nat.le_trans (List.length_filter_le _ _) (by rw [List.length_take]; omega)
      refine ⟨acc, hD6, by omega, F6, G6, acc ++ [u], E7.other gD6 (Ew.notOwn (x.trans x36).s hD), ?_, gD6, upd_same, ?_⟩
      · have xx := x.trans x36
        exact ⟨xx.f, xx.g, fun b o e => by rw [upd_ne (ne_of_none e hD)]; exact xx.s b o e, xx.n⟩
      · rw [(split_at hx).2, List.filter_append, List.filter_cons_of_pos z, List.filter_nil, List.map_append]
        exact (dtAll_same x36.f _ _ pa).snoc p6
  · have e : i = xs.length := by omega
    subst e
    refine .inl ⟨by rw [← hln]; exact ok.stop F G H E.fg E.gH E.g.2, ?_⟩
    have EE := E1.back E x
    rw [List.take_length] at pa
    exact q D [D] F G H (EE.gw EE.g.1) (x1.trans x) (one_new (x1.s.free hD) gDn) ⟨rfl, acc, hDa, pa⟩
/-- .. as a value -/
theorem evo_lcG {α : Type} {R : α → Rp} {f : α → PyData} {p : α → Bool} {xs : List α} {ts : List Nat} (own : List (Str × Nat)) (xf : XC X N nm k) (hi : EvI X Γ tg it (xs.map R)) (hz : xs.length ≤ sizeLine) (Γt : α → List Sl)
    (hts : ∀ j ∈ ts, j ∈ own.map (·.2))
    (hg : Bk X N nm k scope fun Y => ∀ x ∈ xs, Tg Y (wipeG Γ (own.map (·.2))) (R x) tg (Γt x) ts)
    (ht : Bk X N nm k scope fun Y => ∀ x ∈ xs, Vv Y (Γt x) ifs (p x))
    (he : Bk X N nm k scope fun Y => ∀ x ∈ xs, p x = true → Ev Y (Γt x) elt (rD (f x)))
    (hb : blkN N nm scope own = true := by decide +kernel) (hk : scope.kind = .function := by rfl)
    (hs : ∀ x, foldedSetIterable it X.env x = pure x := by intro _; rfl) : EvO X Γ (.ListComp elt [⟨tg, it, ifs, 0⟩] scope pos) (cD ((xs.filter p).map f)) := fun W gh σ F0 G0 H0 E0 Q q => by
  obtain ⟨wi, g, tt, te, h1, h2, h3, h4, h5⟩ := lc_t own xf hi hz Γt hts hg ht he hk W gh σ F0 G0 H0 E0
  exact EW.of (pe_lc xf.calm xf.nd h1 (blkOk_by (blkN_ok xf.toXV hb)) h2 h3 h4 hs) (h5 Q q)
/-- without tests -/
theorem evo_lc {α : Type} {R : α → Rp} {f : α → PyData} {xs : List α} {ts : List Nat} (own : List (Str × Nat)) (xf : XC X N nm k) (hi : EvI X Γ tg it (xs.map R)) (hz : xs.length ≤ sizeLine) (Γt : α → List Sl)
    (hts : ∀ j ∈ ts, j ∈ own.map (·.2))
    (hg : Bk X N nm k scope fun Y => ∀ x ∈ xs, Tg Y (wipeG Γ (own.map (·.2))) (R x) tg (Γt x) ts)
    (he : Bk X N nm k scope fun Y => ∀ x ∈ xs, Ev Y (Γt x) elt (rD (f x)))
    (hb : blkN N nm scope own = true := by decide +kernel) (hk : scope.kind = .function := by rfl)
    (hs : ∀ x, foldedSetIterable it X.env x = pure x := by intro _; rfl) : EvO X Γ (.ListComp elt [⟨tg, it, [], 0⟩] scope pos) (cD (xs.map f)) := by
  have := evo_lcG (pos := pos) (p := fun _ => true) own xf hi hz Γt hts hg (fun _ _ _ _ _ _ _ _ => vv_nil) (fun s H C cl fp xc x m _ => he s H C cl fp xc x m) hb hk hs
  rw [List.filter_eq_self.mpr (fun _ _ => rfl)] at this
  exact this
/-- x = [elt for tg in it if ..], on one line -/
theorem blk_setLcG {α : Type} {R : α → Rp} {f : α → PyData} {p : α → Bool} {xs : List α} {ts : List Nat} {W : Wd} {D : Ends} {gh : Gh} {ss : List Stmt} {x : Str} {py spos : Pos} (xb : XB X N nm k) (i : Nat) (own : List (Str × Nat)) (hi : EvI X Γ tg it (xs.map R)) (hz : xs.length ≤ sizeLine) (Γt : α → List Sl)
    (hts : ∀ j ∈ ts, j ∈ own.map (·.2))
    (hg : Bk X N nm k scope fun Y => ∀ x ∈ xs, Tg Y (wipeG Γ (own.map (·.2))) (R x) tg (Γt x) ts)
    (ht : Bk X N nm k scope fun Y => ∀ x ∈ xs, Vv Y (Γt x) ifs (p x))
    (he : Bk X N nm k scope fun Y => ∀ x ∈ xs, p x = true → Ev Y (Γt x) elt (rD (f x)))
    {ds : List PyData} (hds : (xs.filter p).map f = ds) (t : Blk X W D gh (Γ.set i (.ow (cD ds))) ss)
    (hb : blkN N nm scope own = true := by decide +kernel) (hk : scope.kind = .function := by rfl) (hN : N[i]? = some x := by rfl) (hl : onlyB nm x = true := by decide +kernel)
    (hline : (py.line == pos.line) = true := by decide) (ha : (scope.names.any fun (n, k) => n == x && (k == .local || k == .cell)) = false := by decide +kernel)
    (hs : ∀ x, foldedSetIterable it X.env x = pure x := by intro _; rfl) : Blk X W D gh Γ (.Assign [.Name x py] (.ListComp elt [⟨tg, it, ifs, 0⟩] scope pos) spos :: ss) := fun σ F0 G0 H0 E0 => by
  subst hds
  obtain ⟨wi, g, tt, te, h1, h2, h3, h4, h5⟩ := lc_t own xb.toXC hi hz Γt hts hg ht he hk W gh σ F0 G0 H0 E0
  refine BW.of (pss_cons (ps_setLc xb.calm xb.nd (xb.at_ hN) (xb.v.only hl) (sw_true xb.kd (xb.v.only hl) hline ha) h1 (blkOk_by (blkN_ok xb.v hb)) h2 h3 h4 hs) pss_w) ?_
  show tLc _ _ _ _ _ σ H0 (fun x H1 => BW X ss D (σ.set i (some x)) H1)
  exact h5 _ fun l fo F' G' H' E' x0 hn pc => t _ F' G' H' (E'.setO (fun a ha => (hn a ha).2) pc fun j C' m fo' _ e e1 q a ha => E0.notOwn x0.s (hn a ha).1 j C' m fo' e e1 q)
theorem blk_setLc {α : Type} {R : α → Rp} {f : α → PyData} {xs : List α} {ts : List Nat} {W : Wd} {D : Ends} {gh : Gh} {ss : List Stmt} {x : Str} {py spos : Pos} (xb : XB X N nm k) (i : Nat) (own : List (Str × Nat)) (hi : EvI X Γ tg it (xs.map R)) (hz : xs.length ≤ sizeLine) (Γt : α → List Sl)
    (hts : ∀ j ∈ ts, j ∈ own.map (·.2))
    (hg : Bk X N nm k scope fun Y => ∀ x ∈ xs, Tg Y (wipeG Γ (own.map (·.2))) (R x) tg (Γt x) ts)
    (he : Bk X N nm k scope fun Y => ∀ x ∈ xs, Ev Y (Γt x) elt (rD (f x)))
    {ds : List PyData} (hds : xs.map f = ds) (t : Blk X W D gh (Γ.set i (.ow (cD ds))) ss)
    (hb : blkN N nm scope own = true := by decide +kernel) (hk : scope.kind = .function := by rfl) (hN : N[i]? = some x := by rfl) (hl : onlyB nm x = true := by decide +kernel)
    (hline : (py.line == pos.line) = true := by decide) (ha : (scope.names.any fun (n, k) => n == x && (k == .local || k == .cell)) = false := by decide +kernel)
    (hs : ∀ x, foldedSetIterable it X.env x = pure x := by intro _; rfl) : Blk X W D gh Γ (.Assign [.Name x py] (.ListComp elt [⟨tg, it, [], 0⟩] scope pos) spos :: ss) := by
  refine blk_setLcG (p := fun _ => true) xb i own hi hz Γt hts hg (fun _ _ _ _ _ _ _ _ => vv_nil) (fun s H C cl fp xc x m _ => he s H C cl fp xc x m) ?_ t hb hk hN hl hline ha hs
  rw [List.filter_eq_self.mpr (fun _ _ => rfl)]
  exact hds
end
end L3
/-! L3, part f: exceptions, made objects. -/
namespace L3
open PySem PySem.Spec PyProof.Rows L2
/-! ### what is raised -/
/-- what an exception bears: its class; a field and what it stands for -/
inductive Xk where
  | bare (C : Addr)
  | with_ (C : Addr) (f : Str) (R : Rp)
/-- an exception of that kind is wished for, at a world that has grown from (F, H) -/
def Xk.Wish (F H : Hp) (E : XK) : Xk → Prop
  | .bare C => ∀ F1 H1, Ext F H F1 H1 → E (.ref C) none H1
  | .with_ C f R => ∀ d v F1 H1, Ext F H F1 H1 → H d = none → F1 d = none → H1 d = some (.xd [(f, v)]) → R.P v F1 F1 F1 → E (.ref C) (some d) H1
/-- the def raises -/
def spR (Rs : List Rp) (x : Xk) : Sp := fun vs H _ E => ∃ F, Same F H ∧ argsP Rs vs F H ∧ x.Wish F H E
section
variable {X : Cx} {N : List Str} {nm : List (Str × NameKind)} {k : Nat} {W : Wd} {D : Ends} {gh : Gh} {Γ Γ' : List Sl} {ss a b : List Stmt} {st : Stmt} {e c tg o : Expr} {es : List Expr} {pos p apos : Pos} {Rs : List Rp} {f C : Addr} {fd : FuncData} {ps : List Str} {x m : Str} {xk : Xk}
/-- e raises: wherever exceptions of that kind are taken, it may be reckoned -/
def EvX (X : Cx) (Γ : List Sl) (e : Expr) (xk : Xk) : Prop := ∀ (W : Wd) (gh : Gh) (σ : L2.St) (F G H : Hp), En W gh Γ σ F G H → ∀ Wx : WX, Takes X Wx → (∀ F' G' H', En W gh Γ σ F' G' H' → Gr F G H F' G' H' → xk.Wish F' H' (fun cls d H => Wx cls d σ H)) → ∀ Q : VK, EW X e σ H Q
theorem evx_call (F : FnOk X.prog X.w X.K X.mg X.base (CL X) k f fd ps (spR Rs xk)) (hr : Room k X.A) (hg : Gl X x) (hm : X.mg x = some (.ref f)) (hk : PySem.W.keepIn X.K (.ref f) = true) (hb : Binds X.K fd ps []) (ha : EvA X Γ (e :: es) Rs)
    (hdb : (x == ("__debug__" : Str)) = false := by decide) (he : starEach (e :: es) X.env = (false, eval e X.env) :: starEach es X.env := by rfl) (hpl : (backTo pos (starEach es X.env)).any (·.1) = false := by rfl) : EvX X Γ (.Call (.Name x p) (e :: es) [] pos) xk := fun W gh σ F0 G H E Wx tk q Q =>
  EW.of (pe_callS F hr hg hm hk hb (fun σ => passAt tk σ) pa_w hdb he hpl) (ha W gh σ F0 G H E _ fun vs F' G' H' E' x' pa => ⟨F', E'.fg.trans E'.gH, paired_mono (Same.refl _) E'.gH (Same.refl _) pa, q F' G' H' E' x'⟩)
/-- o.m(e, ..), what is raised wished for at the slots -/
theorem pe_methT {ta : TE} {t : TA} {sp : Sp} {CX : CXT} {E : L2.St → XK} {pl : Sem Bool} (he : PE X o ta) (c : Cls X.K C) (hm : Meth X.K C m f) (F : FnOk X.prog X.w X.K X.mg X.base CX k f fd ps sp) (hr : Room k X.A) (hb : Binds X.K fd ps []) (hx : ∀ σ, PassesAt CX X σ (E σ)) (ha : PA X (e :: es) t)
    (hst : starEach (e :: es) X.env = (false, eval e X.env) :: starEach es X.env := by rfl) (hpl : (backTo pos (starEach es X.env)).any (·.1) = false := by rfl)
    (ht : eval (.Call (.Attribute o m apos) (e :: es) [] pos) X.env = (do
      let ov ← eval o X.env
      standAt apos.atName
      let (f, first) ← holding [ov] (getMethod ov m pl)
      callWith pos f first (backTo pos (starEach (e :: es) X.env)) (backToKw pos (keywordEach [] X.env))) := by rfl) :
    PE X (.Call (.Attribute o m apos) (e :: es) [] pos) (fun σ H Q => ta σ H fun x H1 => ∃ a dx fs, x = .ref a ∧ H1 a = some (.ins C dx fs) ∧ fs.lookup m = none ∧ t σ H1 fun vs H2 => sp (x :: vs) H2 Q (E σ)) := ⟨fun pins s σ H Q I h =>
  PySem.W.methodCall_KW (pl := pl) (thn (he.run pins s σ H _ I h) fun u s1 ⟨x, H1, I1, rx, a, dx, fs, ex, ea, l, q⟩ => by
    subst ex
    obtain rfl : u = Value.ref a := rx
    exact getmeth_ok I1 ea c hm l (PySem.W.callWith_K (first := [.ref a]) (h₀ := X.base) I.ok.mod.kin hm.kp (thn (ha.run pos pins s1 σ H1 _ I1 q) fun us s2 ⟨vs, H2, I2, r, q2⟩ => ⟨I2.kIn, run_fnS (us := .ref a :: us) (vs := .ref a :: vs) F hr hb (hx σ) I2 (.cons rfl r) q2⟩) hst hpl)) ht⟩
theorem evx_meth {pl : Sem Bool} {Ro : Rp} (ho : Ev X Γ o Ro) (hi : InsOf Ro C m) (c : Cls X.K C) (hm : Meth X.K C m f) (F : FnOk X.prog X.w X.K X.mg X.base (CL X) k f fd ps (spR (Ro :: Rs) xk)) (hr : Room k X.A) (hb : Binds X.K fd ps []) (ha : EvA X Γ (e :: es) Rs)
    (hst : starEach (e :: es) X.env = (false, eval e X.env) :: starEach es X.env := by rfl) (hpl : (backTo pos (starEach es X.env)).any (·.1) = false := by rfl)
    (ht : eval (.Call (.Attribute o m apos) (e :: es) [] pos) X.env = (do
      let ov ← eval o X.env
      standAt apos.atName
      let (f, first) ← holding [ov] (getMethod ov m pl)
      callWith pos f first (backTo pos (starEach (e :: es) X.env)) (backToKw pos (keywordEach [] X.env))) := by rfl) : EvX X Γ (.Call (.Attribute o m apos) (e :: es) [] pos) xk := fun W gh σ F0 G H E Wx tk q Q =>
  EW.of (pe_methT pe_w c hm F hr hb (fun σ => passAt tk σ) pa_w hst hpl ht) (ho W gh σ F0 G H E _ fun v F1 G1 H1 E1 x1 p1 => by
    obtain ⟨a, dx, fs, ev, hH, hl⟩ := hi v F1 G1 H1 E1.fg E1.gH p1
    refine ⟨a, dx, fs, ev, hH, hl, ha W gh σ F1 G1 H1 E1 _ fun vs F' G' H' E' x' pa => ?_⟩
    exact ⟨F', E'.fg.trans E'.gH, .cons (Ro.mono x'.f (x'.g.trans E'.gH) x'.s p1) (paired_mono (Same.refl _) E'.gH (Same.refl _) pa), q F' G' H' E' (x1.trans x')⟩)
/-! statements that raise -/
/-- what the def wishes of an exception -/
abbrev Tk (X : Cx) (E : XK) : Prop := Takes X (fun cls d _ H => E cls d H)
theorem ext_trans {F H F1 H1 F2 H2 : Hp} (a : Ext F H F1 H1) (b : Ext F1 H1 F2 H2) : Ext F H F2 H2 := ⟨a.f.trans b.f, a.h.trans b.h, b.fh, fun c u q => by
  rcases b.gr c u q with z | z | ⟨xs, z⟩
  · exact a.gr c u z
  · exact .inr (.inl (a.h.free z))
  · cases y : H c with
    | none => exact .inr (.inl rfl)
    | some o =>
      have y2 := a.h c o y
      rw [z] at y2
      cases y2
      exact .inr (.inr ⟨xs, rfl⟩)⟩
theorem Xk.Wish.up {F H F1 H1 : Hp} {E : XK} (h : xk.Wish F H E) (x : Ext F H F1 H1) : xk.Wish F1 H1 E := by
  cases xk with
  | bare C => exact fun F2 H2 y => h F2 H2 (ext_trans x y)
  | with_ C f R => exact fun d v F2 H2 y hd fd hx p => h d v F2 H2 (ext_trans x y) (x.h.free hd) fd hx p
theorem blk_expX {E : XK} (h : EvX X Γ e xk) (tk : Tk X E) (q : xk.Wish W.F0 W.H0 E) (hs : swapsWith e none pos.line X.env = pure false := by rfl) : Blk X W D gh Γ (.Expr e pos :: ss) :=
  blk_ps (ps_expr pe_w hs) fun σ F G H E1 => h W gh σ F G H E1 _ tk (fun F' G' H' E' x' => q.up E'.toExt) _
theorem blk_setX {E : XK} (xb : XB X N nm k) (i : Nat) (h : EvX X Γ e xk) (tk : Tk X E) (q : xk.Wish W.F0 W.H0 E) (hN : N[i]? = some x := by rfl) (hl : locB nm x = true := by decide +kernel)
    (hs : swapsWith e (some (.Name x p)) pos.line X.env = pure false := by rfl) : Blk X W D gh Γ (.Assign [.Name x p] e pos :: ss) :=
  blk_ps (ps_set xb.nd (xb.at_ hN) (xb.loc hl) pe_w hs (.inl (xb.fnn x))) fun σ F G H E1 => h W gh σ F G H E1 _ tk (fun F' G' H' E' x' => q.up E'.toExt) _
theorem blk_retX {E : XK} (h : EvX X Γ e xk) (tk : Tk X E) (q : xk.Wish W.F0 W.H0 E) : Blk X W D gh Γ (.Return (some e) pos :: ss) :=
  blk_ps (ps_ret pe_w) fun σ F G H E1 => h W gh σ F G H E1 _ tk (fun F' G' H' E' x' => q.up E'.toExt) _
/-- raise X('..'), an own class without fields -/
theorem blk_raise {E : XK} (xb : XB X N nm k) (mk : PMk X e (fun _ H Q => Q (.ref C) none H)) (tk : Tk X E) (q : Xk.Wish W.F0 W.H0 E (.bare C)) : Blk X W D gh Γ (.Raise (some e) none pos :: ss) :=
  blk_ps (ps_raise xb.calm tk mk) fun σ F G H E1 => q F H E1.toExt
/-! ### try -/
theorem XB.try_ (xb : XB X N nm k) {pn : List (Addr × Obj)} {xe : Value → Shared → Prop} (hp : PassesOwn (model X.prog X.w) X.A X.env xe) : XB (X.tr pn xe) N nm k :=
  { hN := xb.hN, nd := xb.nd, nm := xb.nm, kd := xb.kd, calm := xb.calm, room := xb.room, fnn := xb.fnn, pass := hp, stk := xb.stk, frm := xb.frm, ex := xb.ex }
theorem XV.suite (xv : XV X N nm) {al : Addr} {pn : List (Addr × Obj)} : XV (X.suite al pn) N nm := { hN := xv.hN, nd := xv.nd, nm := xv.nm, kd := xv.kd }
/-- an exception of the kind lies there: what may be read off it -/
def Xk.Lies (H0 F H : Hp) (cls : Value) (d : Option Addr) : Xk → Prop
  | .bare C => cls = .ref C ∧ d = none
  | .with_ C f R => cls = .ref C ∧ ∃ dd v, d = some dd ∧ H0 dd = none ∧ F dd = none ∧ H dd = some (.xd [(f, v)]) ∧ R.P v F F F
/-- the name of a caught exception -/
def rRef (al : Addr) : Rp := ⟨fun w _ _ _ => w = .ref al, fun _ _ _ h => h⟩
instance {al : Addr} : Fz (rRef al) := ⟨fun h => h⟩
def rErr (al : Addr) (d : Option Addr) (f : Str) (R : Rp) : Rp := ⟨fun w F G _ => w = .ref al ∧ ∃ dd v, d = some dd ∧ G dd = some (.xd [(f, v)]) ∧ R.P v F F F, fun a b _ ⟨e, dd, v, e1, e2, p⟩ => ⟨e, dd, v, e1, b _ _ e2, R.mono a a a p⟩⟩
instance {al : Addr} {d : Option Addr} {f : Str} {R : Rp} : Sta (rErr al d f R) := ⟨fun h => h⟩
def Xk.slot (al : Addr) (d : Option Addr) : Xk → Sl
  | .bare _ => L3.vl (rRef al)
  | .with_ _ f R => L3.vl (rErr al d f R)
theorem wish_of {E : XK} {F H : Hp} (h : ∀ cls d F1 H1, Ext F H F1 H1 → xk.Lies H F1 H1 cls d → E cls d H1) : xk.Wish F H E := by
  cases xk with
  | bare C => exact fun F1 H1 x => h _ _ F1 H1 x ⟨rfl, rfl⟩
  | with_ C f R => exact fun d v F1 H1 x hd fd hx p => h _ _ F1 H1 x ⟨rfl, d, v, rfl, hd, fd, hx, p⟩
def Xk.Is (cls : Value) (d : Option Addr) : Xk → Prop
  | .bare C => cls = .ref C ∧ d = none
  | .with_ C _ _ => cls = .ref C ∧ ∃ dd, d = some dd
/-- try: body / except x: suite. Exceptions of the kind xk that leave the body at Γ' are caught -/
theorem blk_tryO {cn : Str} {cv : Value} {np hp : Pos} {body suite : List Stmt} {b0 : Stmt} (xb : XB X N nm k) (hc : Names X cn cv) (tk : ∃ Wout, Takes X Wout)
    (hb : ∀ (Wx : WX) pn xe, XB (X.tr pn xe) N nm k → Takes (X.tr pn xe) Wx → (∀ (xk : Xk) (Γ' : List Sl) (σ : L2.St) (F G H : Hp), En W gh Γ' σ F G H → (∀ cls d H0 F H, xk.Lies H0 F H cls d → PySem.W.exmOne X.K cls cv = some true) →
        (∀ al oe cls d pn, Zc cls d oe → (∃ vs, oe.data = .fields vs) → XV (X.suite al ((al, oe) :: pn)) N nm → ∀ F1 G1 H1, Gr F G H F1 G1 H1 → En W gh Γ' σ F1 G1 H1 → BW (X.suite al ((al, oe) :: pn)) (b0 :: suite) { D with nx := BW X ss D } σ H1) → xk.Wish F H (fun cls d H => Wx cls d σ H)) →
      Blk (X.tr pn xe) W { D with nx := BW X ss D } gh Γ body) : Blk X W D gh Γ (.Try body [.ExceptHandler (some (.Name cn np)) none (b0 :: suite) hp] [] [] pos :: ss) := by
  obtain ⟨Wout, tk⟩ := tk
  refine blk_ps (ps_try_only (tb := fun Wx D σ H => ∀ pn xe, Takes (X.tr pn xe) Wx → PassesOwn (model X.prog X.w) X.A X.env xe → BW (X.tr pn xe) body D σ H) (ts := fun al cls d D σ H => ∀ oe pn, Zc cls d oe → (∃ vs, oe.data = .fields vs) → BW (X.suite al ((al, oe) :: pn)) (b0 :: suite) D σ H) xb.stk xb.frm hc tk
    (fun Wx pn xe t1 t2 => ⟨fun pins s σ H D I h => (h pn xe t1 t2).go pins s I⟩) (fun al oe cls d pn z1 z2 => ⟨fun pins s σ H D I h => (h oe pn z1 z2).go pins s I⟩)) fun σ F G H E1 pn xe t1 t2 => ?_
  refine hb _ pn xe (xb.try_ t2) t1 (fun xk Γ' σ' F' G' H' E' hx hsu => wish_of fun cls d F1 H1 y lies => ?_) σ F G H E1
  obtain ⟨G1, gr, fg, _, E2⟩ := E'.ext y
  exact ⟨true, hx cls d H' F1 H1 lies, fun _ al hal oe pn' z1 z2 => hsu al oe cls d pn' z1 z2 xb.v.suite F1 G1 H1 gr E2, fun z => nomatch z⟩
/-- .. except x as n -/
theorem blk_tryA {cn n : Str} {cv : Value} {np hp : Pos} {body suite : List Stmt} {b0 : Stmt} (i : Nat) (xb : XB X N nm k) (hi : N[i]? = some n) (hn : onlyB nm n = true) (hc : Names X cn cv) (tk : ∃ Wout, Takes X Wout)
    (hb : ∀ (Wx : WX) pn xe, XB (X.tr pn xe) N nm k → Takes (X.tr pn xe) Wx → (∀ (xk : Xk) (Γ' : List Sl) (σ : L2.St) (F G H : Hp), En W gh Γ' σ F G H → (∀ cls d H0 F H, xk.Lies H0 F H cls d → PySem.W.exmOne X.K cls cv = some true) →
        (∀ al oe cls d pn, Zc cls d oe → (∃ vs, oe.data = .fields vs) → XV (X.suite al ((al, oe) :: pn)) N nm → xk.Is cls d → ∀ F1 G1 H1, En W gh (Γ'.set i (xk.slot al d)) (σ.set i (some (.ref al))) F1 G1 H1 →
          BW (X.suite al ((al, oe) :: pn)) (b0 :: suite) { nx := fun σ' H' => BW X ss D (σ'.set i none) H', rt := D.rt, bk := fun σ' H' => D.bk (σ'.set i none) H', ct := fun σ' H' => D.ct (σ'.set i none) H' } (σ.set i (some (.ref al))) H1) → xk.Wish F H (fun cls d H => Wx cls d σ H)) →
      Blk (X.tr pn xe) W { D with nx := BW X ss D } gh Γ body) : Blk X W D gh Γ (.Try body [.ExceptHandler (some (.Name cn np)) (some n) (b0 :: suite) hp] [] [] pos :: ss) := by
  obtain ⟨Wout, tk⟩ := tk
  have hi' := xb.at_ hi
  refine blk_ps (ps_try_as (tb := fun Wx D σ H => ∀ pn xe, Takes (X.tr pn xe) Wx → PassesOwn (model X.prog X.w) X.A X.env xe → BW (X.tr pn xe) body D σ H) (ts := fun al cls d D σ H => ∀ oe pn, Zc cls d oe → (∃ vs, oe.data = .fields vs) → BW (X.suite al ((al, oe) :: pn)) (b0 :: suite) D σ H) xb.stk xb.frm xb.nd hi' (xb.only hn) hc tk
    (fun Wx pn xe t1 t2 => ⟨fun pins s σ H D I h => (h pn xe t1 t2).go pins s I⟩) (fun al oe cls d pn z1 z2 => ⟨fun pins s σ H D I h => (h oe pn z1 z2).go pins s I⟩)) fun σ F G H E1 pn xe t1 t2 => ?_
  refine hb _ pn xe (xb.try_ t2) t1 (fun xk Γ' σ' F' G' H' E' hx hsu => wish_of fun cls d F1 H1 y lies => ?_) σ F G H E1
  obtain ⟨G1, gr, fg, gn, E2⟩ := E'.ext y
  refine ⟨true, hx cls d H' F1 H1 lies, fun _ al hal oe pn' z1 z2 => ?_, fun z => nomatch z⟩
  cases xk with
  | bare C => exact hsu al oe cls d pn' z1 z2 xb.v.suite lies F1 G1 H1 (E2.setV rfl)
  | with_ C f R =>
    obtain ⟨e1, dd, v, e2, h0, fd, hd, p⟩ := lies
    have E3 := E2.still (gn dd fd (E'.gH.free h0)) hd (E'.notOwn gr.s h0)
    exact hsu al oe cls d pn' z1 z2 xb.v.suite ⟨e1, dd, e2⟩ F1 _ H1 (E3.setV (R := rErr al d f R) ⟨rfl, dd, v, e2, upd_same, p⟩)
end
end L3
/-! L3, part g: made objects. -/
namespace L3
open PySem PySem.Spec PyProof.Rows L2
/-- the attributes: names, in their order, and what each stands for -/
def FsP (F : Hp) : List (Str × V) → List (Str × Rp) → Prop := Paired fun (p : Str × V) (q : Str × Rp) => p.1 = q.1 ∧ q.2.P p.2 F F F
section
variable {F F' G H : Hp} {fs : List (Str × V)} {Rs : List (Str × Rp)} {f : Str} {R : Rp}
theorem FsP.mono (f : Same F F') : ∀ {fs : List (Str × V)} {Rs : List (Str × Rp)}, FsP F fs Rs → FsP F' fs Rs
  | _, _, .nil => .nil
  | _, _, .cons (b := q) r t => .cons ⟨r.1, q.2.mono f f f r.2⟩ (FsP.mono f t)
theorem FsP.so : ∀ {fs : List (Str × V)} {Rs : List (Str × Rp)}, FsP F fs Rs → Rs.lookup f = some R → ∃ v, fs.lookup f = some v ∧ R.P v F F F
  | _, _, .nil, e => by cases e
  | (g, v) :: fs, (g', R') :: Rs, .cons r t, e => by
    obtain ⟨e1, p⟩ := r
    dsimp only at e1 p
    subst e1
    rw [List.lookup_cons] at e ⊢
    cases z : f == g with
    | true =>
      rw [z] at e
      have e : R' = R := Option.some.inj e
      subst e
      exact ⟨v, rfl, p⟩
    | false =>
      rw [z] at e
      exact FsP.so t e
theorem FsP.no : ∀ {fs : List (Str × V)} {Rs : List (Str × Rp)}, FsP F fs Rs → Rs.lookup f = none → fs.lookup f = none
  | _, _, .nil, e => rfl
  | (g, v) :: fs, (g', R') :: Rs, .cons r t, e => by
    obtain ⟨e1, p⟩ := r
    dsimp only at e1
    subst e1
    rw [List.lookup_cons] at e ⊢
    cases z : f == g with
    | true => rw [z] at e; cases e
    | false =>
      rw [z] at e
      exact FsP.no t e
theorem FsP.len (h : FsP F fs Rs) : fs.length = Rs.length := Paired.length h
theorem FsP.put {v : V} (p : R.P v F F F) : ∀ {fs : List (Str × V)} {Rs : List (Str × Rp)}, FsP F fs Rs → Rs.lookup f = none → FsP F (putF f v fs) (Rs ++ [(f, R)])
  | _, _, .nil, _ => .cons ⟨rfl, p⟩ .nil
  | (g, u) :: fs, (g', R') :: Rs, .cons r t, e => by
    obtain ⟨e1, p'⟩ := r
    dsimp only at e1
    subst e1
    rw [List.lookup_cons] at e
    have z : ¬ g = f := fun z => by
      subst z
      rw [beq_self_eq_true] at e
      cases e
    have z' : (f == g) = false := beq_eq_false_iff_ne.mpr fun y => z y.symm
    rw [z'] at e
    unfold putF
    rw [if_neg z]
    exact .cons ⟨rfl, p'⟩ (FsP.put p t e)
end
/-- an instance of the class at C, frozen, its attributes known -/
def rI (C : Addr) (Rs : List (Str × Rp)) : Rp := ⟨fun v F _ _ => ∃ a dx fs, v = .ref a ∧ F a = some (.ins C dx fs) ∧ FsP F fs Rs, fun f _ _ ⟨a, dx, fs, e, h, p⟩ => ⟨a, dx, fs, e, f _ _ h, p.mono f⟩⟩
instance {C : Addr} {Rs : List (Str × Rp)} : Fz (rI C Rs) := ⟨fun h => h⟩
/-- .. the one at z -/
def rIa (z C : Addr) (Rs : List (Str × Rp)) : Rp := ⟨fun v F G H => v = .ref z ∧ (rI C Rs).P v F G H, fun f g h ⟨e, p⟩ => ⟨e, (rI C Rs).mono f g h p⟩⟩
instance {z C : Addr} {Rs : List (Str × Rp)} : Fz (rIa z C Rs) := ⟨fun h => h⟩
/-- an own instance that is being made -/
def cI (z C : Addr) (Rs : List (Str × Rp)) : Cp where
  C := fun l fp H F _ => fp = [l] ∧ l = z ∧ ∃ dx fs, H l = some (.ins C dx fs) ∧ FsP F fs Rs
  mono := fun f _ k ⟨e, lz, dx, fs, h, q⟩ => ⟨e, lz, dx, fs, by subst e; rw [k _ List.mem_cons_self]; exact h, q.mono f⟩
  there := fun ⟨e, _, dx, fs, h, _⟩ a ha => by
    subst e
    rw [List.mem_singleton] at ha
    subst ha
    exact ⟨_, h, fun _ z => nomatch z⟩
  det := fun _ ⟨e, _⟩ ⟨e', _⟩ => e'.trans e.symm
theorem insOf_rI {C : Addr} {Rs : List (Str × Rp)} {m : Str} (h : Rs.lookup m = none) : InsOf (rI C Rs) C m := fun v F G H f g ⟨a, dx, fs, e, hF, p⟩ => ⟨a, dx, fs, e, g _ _ (f _ _ hF), p.no h⟩
section
variable {X : Cx} {N : List Str} {nm : List (Str × NameKind)} {k : Nat} {W : Wd} {D : Ends} {gh : Gh} {Γ Γ' : List Sl} {ss : List Stmt} {e o : Expr} {es : List Expr} {pos p apos np : Pos} {Rs : List Rp} {Fs : List (Str × Rp)} {R : Rp} {f C z : Addr} {fd : FuncData} {ps : List Str} {x m at_ : Str} {xk : Xk}
theorem ev_I (h : Ev X Γ e (rIa z C Fs)) : Ev X Γ e (rI C Fs) := ev_imp h fun _ _ _ _ _ _ p => p.2
/-- an attribute -/
theorem ev_f [hR : Fz R] (ho : Ev X Γ o (rI C Fs)) (c : Cls X.K C) (n : NoAttr X.K C at_) (hl : Fs.lookup at_ = some R := by rfl) (hb : attributeBase o at_ X.env (eval o X.env) = eval o X.env := by rfl) : Ev X Γ (.Attribute o at_ pos) R :=
  ev_fld ho c n (fun v F G H f g ⟨a, dx, fs, e, hF, p⟩ => by
    obtain ⟨u, hu, pu⟩ := p.so hl
    exact ⟨a, dx, fs, u, e, g _ _ (f _ _ hF), hu, hR.fz pu⟩) hb
/-- .. of the one that is being made -/
theorem ev_fO [hR : Fz R] (xv : XV X N nm) (i : Nat) (c : Cls X.K C) (n : NoAttr X.K C at_) (hi : Γ[i]? = some (.ow (cI z C Fs)) := by rfl) (hN : N[i]? = some x := by rfl) (hl : Fs.lookup at_ = some R := by rfl) (hv : visB nm x = true := by decide +kernel) (hd : (x == ("__debug__" : Str)) = false := by decide +kernel)
    (hcd : (x == ("__classdict__" : Str)) = false := by decide +kernel) (hb : attributeBase (.Name x np) at_ X.env (eval (.Name x np) X.env) = eval (.Name x np) X.env := by rfl) : Ev X Γ (.Attribute (.Name x np) at_ pos) R := fun W gh σ F G H E Q q =>
  EW.of (pe_fld (pe_var (xv.at_ hN) (xv.vis hv) hd hcd) hb) (by
    obtain ⟨fp, ow, _⟩ := E.ow
    obtain ⟨l, e1, gn, ef, lz, dx, fs, eo, pv⟩ := ow i _ hi
    obtain ⟨u, hu, pu⟩ := pv.so hl
    exact ⟨_, e1, l, C, dx, fs, u, rfl, eo, c, n, hu, q u F G H E (Gr.refl _ _ _) (hR.fz pu)⟩)
/-- self.f = e -/
theorem blk_fld [hR : Fz R] (xb : XB X N nm k) (i : Nat) (h : Ev X Γ e R) (c : Cls X.K C) (n : NoAttr X.K C at_) (t : Blk X W D gh (Γ.set i (.ow (cI z C (Fs ++ [(at_, R)])))) ss) (hi : Γ[i]? = some (.ow (cI z C Fs)) := by rfl) (hn : Fs.lookup at_ = none := by rfl) (hlt : Fs.length < 1000 := by exact Nat.le_of_ble_eq_true rfl) (hN : N[i]? = some x := by rfl)
    (hv : visB nm x = true := by decide +kernel) (hd : (x == ("__debug__" : Str)) = false := by decide +kernel) (hcd : (x == ("__classdict__" : Str)) = false := by decide +kernel)
    (hs : swapsWith e (some (.Attribute (.Name x np) at_ p)) pos.line X.env = pure false := by rfl) : Blk X W D gh Γ (.Assign [.Attribute (.Name x np) at_ p] e pos :: ss) :=
  blk_ps (ps_fld (pe_var (xb.at_ hN) (xb.v.vis hv) hd hcd) pe_w hs) fun σ F G H E => h W gh σ F G H E _ fun v F' G' H' E' x0 p1 => by
    obtain ⟨fp, ow, _⟩ := E'.ow
    obtain ⟨l, e1, gn, ef, lz, dx, fs, eo, pv⟩ := ow i _ hi
    refine ⟨_, e1, l, C, dx, fs, rfl, eo, c, n, by rw [pv.len]; exact hlt, ?_⟩
    exact t σ F' G' _ (E'.mut hi fun l' fo e2 q gq => by
      rw [e1] at e2
      cases e2
      obtain ⟨ef', _⟩ := q
      subst ef'
      exact ⟨List.mem_cons_self, rfl, lz, dx, _, upd_same, pv.put (hR.fz p1) hn⟩)
/-- the instance is made: frozen -/
theorem blk_frzI (i : Nat) (hi : Γ[i]? = some (.ow (cI z C Fs))) (t : Blk X W D gh (Γ.set i (vl (rIa z C Fs))) ss) : Blk X W D gh Γ ss := fun σ F G H E => by
  obtain ⟨fp, ow, hd⟩ := E.ow
  obtain ⟨l, e1, gn, ef, lz, dx, fs, eo, pv⟩ := ow i _ hi
  have gl : G l = none := gn l (by rw [ef]; exact List.mem_cons_self)
  have fl := E.fg.free gl
  have E1 : En W gh (Γ.set i .no) σ F G H := E.imp (by rw [List.length_set]) fun j a b ea eb => by
    by_cases z : i = j
    · subst z
      rw [List.getElem?_set] at eb
      simp only [if_true] at eb
      split at eb
      · injection eb with eb
        subst eb
        exact .no a
      · cases eb
    · rw [List.getElem?_set_ne z, ea] at eb
      injection eb with eb
      subst eb
      exact .refl a
  have E2 := E1.freeze eo gl fun j C m fo ej e2 q hp => by
    by_cases z : i = j
    · subst z
      rw [List.getElem?_set] at ej
      simp at ej
    · rw [List.getElem?_set_ne z] at ej
      obtain ⟨m', e3, _, q'⟩ := ow j C ej
      rw [e2] at e3
      cases e3
      rw [C.det (Same.refl _) q' q] at hp
      exact hd i j _ C l z hi ej (by rw [ef]; exact List.mem_cons_self) hp
  have E3 := E2.setV (i := i) (R := rIa z C Fs) (h := inferInstance) (v := .ref l) ⟨by rw [lz], l, dx, fs, rfl, upd_same, pv.mono (same_upd fl)⟩
  rw [List.set_set] at E3
  have es : σ.set i (some (V.ref l)) = σ := by
    refine List.ext_getElem? fun j => ?_
    by_cases z : i = j
    · subst z
      rw [e1, List.getElem?_set_self (List.getElem?_eq_some_iff.mp e1).1]
    · rw [List.getElem?_set_ne z]
  rw [es] at E3
  exact t σ _ _ H E3
/-! ### __init__ -/
/-- what a call C(..) lays ahead of __init__ -/
structure MkAt (C : Addr) (Rs : List Rp) (vs : List V) (H F H0 : Hp) (a dx : Addr) (ws : List V) : Prop where
  vs : vs = .ref a :: ws
  fh : Same F H0
  ha : H0 a = none
  hd : H0 dx = none
  ne : dx ≠ a
  hH : H = upd (upd H0 dx (.own a)) a (.ins C dx [])
  args : argsP Rs ws F H0
def spMk (C : Addr) (Rs : List Rp) (R : Rp) : Sp := fun vs H Q _ => ∃ F H0 a dx ws, MkAt C Rs vs H F H0 a dx ws ∧ ∀ F1 H1, Ext F H0 F1 H1 → R.P (.ref a) F1 F1 F1 → Q .non H1
def spMkX (C : Addr) (Rs : List Rp) (xk : Xk) : Sp := fun vs H _ E => ∃ F H0 a dx ws, MkAt C Rs vs H F H0 a dx ws ∧ xk.Wish F H0 E
theorem ev_make (M : Mk X.K C f) (F : FnOk X.prog X.w X.K X.mg X.base (CL X) k f fd ps (spMk C Rs R)) (hr : Room (k + 1) X.A) (hg : Gl X x) (hm : X.mg x = some (.ref C)) (hb : Binds X.K fd ps []) (ha : EvA X Γ (e :: es) Rs)
    (hdb : (x == ("__debug__" : Str)) = false := by decide +kernel) (he : starEach (e :: es) X.env = (false, eval e X.env) :: starEach es X.env := by rfl) (hpl : (backTo pos (starEach es X.env)).any (·.1) = false := by rfl) : Ev X Γ (.Call (.Name x p) (e :: es) [] pos) R := fun W gh σ F0 G H E Q q =>
  EW.of (pe_make M F hr hg hm hb .nil passL pa_w hdb he hpl) (ha W gh σ F0 G H E _ fun vs F' G' H' E' x' pa a dx ha hd ne => by
    rw [List.append_nil]
    refine ⟨F', H', a, dx, vs, ⟨rfl, E'.fg.trans E'.gH, ha, hd, ne, rfl, paired_mono (Same.refl _) E'.gH (Same.refl _) pa⟩, fun F1 H1 x1 pv => ⟨rfl, ?_⟩⟩
    obtain ⟨G1, gg, fg, _, E1⟩ := E'.ext x1
    exact q _ F1 G1 H1 E1 (x'.trans gg) (R.mono (Same.refl _) fg x1.fh pv))
/-- .. what is raised is wished for at the slots -/
theorem pe_makeT {CX : CXT} {sp : Sp} {t : TA} {E : L2.St → XK} (M : Mk X.K C f) (F : FnOk X.prog X.w X.K X.mg X.base CX k f fd ps sp) (hr : Room (k + 1) X.A) (hg : Gl X x) (hm : X.mg x = some (.ref C)) (hb : Binds X.K fd ps []) (hx : ∀ σ, PassesAt CX X σ (E σ)) (ha : PA X (e :: es) t)
    (hdb : (x == ("__debug__" : Str)) = false := by decide +kernel) (he : starEach (e :: es) X.env = (false, eval e X.env) :: starEach es X.env := by rfl) (hpl : (backTo pos (starEach es X.env)).any (·.1) = false := by rfl) :
    PE X (.Call (.Name x p) (e :: es) [] pos) (fun σ H Q => t σ H fun vs H1 => ∀ a dx, H1 a = none → H1 dx = none → dx ≠ a → sp (.ref a :: vs) (upd (upd H1 dx (.own a)) a (.ins C dx [])) (fun v H2 => v = .non ∧ Q (.ref a) H2) (E σ)) := ⟨fun pins s σ H Q I h =>
  wpAny_Call_Name_kw (ld_glob I hg hm (PySem.W.callWith_K (h₀ := X.base) I.ok.mod.kin M.kp (thn (ha.run pos pins s σ H _ I h) fun us s1 ⟨vs, H1, I1, r, q⟩ => ⟨I1.kIn, by
    have fr1 : H1 s1.heap.objs.size = none := I1.hok.fresh (Nat.le_refl _)
    have fr2 : H1 (s1.heap.objs.size + 1) = none := I1.hok.fresh (Nat.le_succ _)
    have hq := q (s1.heap.objs.size + 1) s1.heap.objs.size fr2 fr1 (Nat.ne_of_lt (Nat.lt_succ_self _))
    have J := Inv.made (C := C) I1
    have rr : Vals (V.ref (s1.heap.objs.size + 1) :: vs) (Value.ref (s1.heap.objs.size + 1) :: us) := .cons rfl r
    have hl : (Value.ref (s1.heap.objs.size + 1) :: us).length = ps.length := rr.length.symm.trans (F.len _ _ _ _ hq)
    have hb' := hb _ (Value.ref (s1.heap.objs.size + 1) :: us) J.kIn (by rw [List.append_nil]; exact hl)
    rw [List.append_nil] at hb'
    refine wpAny_call (make_map (f := f) I1.kIn M.makes M.init (beq_iff_eq.mp M.fn) (codeAny_mono (F.run _ X.stack _ _ ⟨Value.ref (s1.heap.objs.size + 1) :: us, []⟩ (Value.ref (s1.heap.objs.size + 1) :: us) _ _ (E σ) (hr.make C us []) (J.env0.make C us []) hb' rr hq) fun r s' hq' => ?_))
    cases r with
    | error u => exact hx σ pins _ _ u s' J hq'
    | ok fl =>
      cases fl with
      | ret u =>
        obtain ⟨v, H', I3, rv, ev, q3⟩ := J.after hq'
        subst ev
        exact ⟨rv, V.ref (s1.heap.objs.size + 1), H', I3, rfl, q3⟩
      | next => exact False.elim hq'
      | brk => exact False.elim hq'
      | cont => exact False.elim hq'⟩) he hpl) hdb)⟩
theorem evx_make (M : Mk X.K C f) (F : FnOk X.prog X.w X.K X.mg X.base (CL X) k f fd ps (spMkX C Rs xk)) (hr : Room (k + 1) X.A) (hg : Gl X x) (hm : X.mg x = some (.ref C)) (hb : Binds X.K fd ps []) (ha : EvA X Γ (e :: es) Rs)
    (hdb : (x == ("__debug__" : Str)) = false := by decide +kernel) (he : starEach (e :: es) X.env = (false, eval e X.env) :: starEach es X.env := by rfl) (hpl : (backTo pos (starEach es X.env)).any (·.1) = false := by rfl) : EvX X Γ (.Call (.Name x p) (e :: es) [] pos) xk := fun W gh σ F0 G H E Wx tk q Q =>
  EW.of (pe_makeT M F hr hg hm hb (fun σ => passAt tk σ) pa_w hdb he hpl) (ha W gh σ F0 G H E _ fun vs F' G' H' E' x' pa a dx ha hd ne =>
    ⟨F', H', a, dx, vs, ⟨rfl, E'.fg.trans E'.gH, ha, hd, ne, rfl, paired_mono (Same.refl _) E'.gH (Same.refl _) pa⟩, q F' G' H' E' x'⟩)
end
section
variable {P : Program} {w : World} {K : PySem.W.Frag} {mg : Str → Option Value} {base : Heap}
def rAny : Rp := ⟨fun _ _ _ _ => True, fun _ _ _ _ => trivial⟩
instance : Fz rAny := ⟨fun h => h⟩
theorem en_make {N : List Str} {C : Addr} {Rs : List Rp} {l : List Sl} {vs : List V} {F H0 H : Hp} {a dx : Addr} {ws : List V} {n : Nat} (sa : StAll Rs l) (hn : N.length = l.length + 1 + n) (h : MkAt C Rs vs H F H0 a dx ws) : En ⟨F, upd H0 dx (.own a)⟩ .tt (.ow (cI a C []) :: (l ++ List.replicate n .no)) (L2.start N vs) F (upd H0 dx (.own a)) H := by
  obtain ⟨hvs, fh, ha, hd, ne, hH, pa⟩ := h
  subst hvs hH
  have s0 : Same H0 (upd H0 dx (.own a)) := same_upd hd
  have f0 : Same F (upd H0 dx (.own a)) := fh.trans s0
  have pa' : argsP (rAny :: Rs) (.ref a :: ws) F (upd H0 dx (.own a)) := .cons trivial (paired_mono (Same.refl _) s0 s0 pa)
  have E := en_start (n := n) (StAll.cons (R := rAny) sa) (N := N) (by rw [List.length_cons]; exact hn) f0 pa'
  have hna : (upd H0 dx (.own a)) a = none := by rw [upd_ne (fun z => ne z.symm)]; exact ha
  have E1 := E.new (o := .ins C dx []) hna
  have E2 := E1.setO (i := 0) (C := cI a C []) (l := a) (fo := [a]) (fun b hb => by rw [List.mem_singleton] at hb; subst hb; exact hna) ⟨rfl, rfl, dx, [], upd_same, .nil⟩ fun j C' m fo' _ e e1 q b hb => by
    rw [List.mem_singleton] at hb
    subst hb
    exact E.notOwn (same_upd hna) hna j C' m fo' e e1 q
  exact E2
/-- the end of __init__: the instance at z stands for R -/
def RetM (W : Wd) (D : Ends) (z : Addr) (R : Rp) : Prop := ∀ σ F1 H1, Ext W.F0 W.H0 F1 H1 → R.P (.ref z) F1 F1 F1 → D.nx σ H1
theorem blk_made {X : Cx} {W : Wd} {D : Ends} {gh : Gh} {Γ : List Sl} {z C : Addr} {Fs : List (Str × Rp)} {R : Rp} (r : RetM W D z R) (hi : Γ[0]? = some (vl (rIa z C Fs))) (hk : ∀ v F G H, (rI C Fs).P v F G H → R.P v F G H) : Blk X W D gh Γ [] := blk_nil fun σ F G H E => by
  obtain ⟨v, e, p⟩ := E.vl 0 _ _ hi
  obtain ⟨ev, p⟩ := p
  subst ev
  exact r σ F H E.toExt (hk _ _ _ _ p)
theorem ext_own {F H0 F1 H1 : Hp} {a dx : Addr} (hd : H0 dx = none) (x : Ext F (upd H0 dx (.own a)) F1 H1) : Ext F H0 F1 H1 := ⟨x.f, (same_upd hd).trans x.h, x.fh, fun c o e => by
  rcases x.gr c o e with y | y | ⟨xs, y⟩
  · exact .inl y
  · exact .inr (.inl ((same_upd hd).free y))
  · by_cases z : c = dx
    · subst z
      exact .inr (.inl hd)
    · rw [upd_ne z] at y
      exact .inr (.inr ⟨xs, y⟩)⟩
theorem fn_mk {x qual : Str} {st : Stmt} {f C : Addr} {fd : FuncData} {N ps : List Str} {k n : Nat} {Rs : List Rp} {l : List Sl} {R : Rp} {nm : List (Str × NameKind)} (F : FunD K x qual (defArgs st) (defBody st) (defScope st) [] [] f fd) (S : FnScope N ps (defScope st)) (hnm : (defScope st).names = nm) (sa : StAll Rs l) (hp : ps.length = Rs.length + 1)
    (hn : N.length = l.length + 1 + n)
    (hb : ∀ (X : Cx) (W : Wd) (D : Ends) (a : Addr), X.prog = P → X.w = w → X.K = K → X.mg = mg → X.base = base → XB X N nm k → RetM W D a R → Blk X W D .tt (.ow (cI a C []) :: (l ++ List.replicate n .no)) (defBody st)) : FnOk P w K mg base (L2.CX P w) (k + 1) f fd ps (spMk C Rs R) := by
  refine F.ok S (fun vs H Q E h => ?_) (fun cdv A outer s H vs Q E hr h => ?_)
  · obtain ⟨F0, H0, a, dx, ws, m, _⟩ := h
    rw [m.vs, List.length_cons, Paired.length m.args, hp]
  · obtain ⟨F0, H0, a, dx, ws, m, q⟩ := h
    exact ⟨_, pss_w, hb (cxOf (L2.CX P w) P w K mg base N qual (defScope st) f cdv A outer s H E) ⟨F0, upd H0 dx (.own a)⟩ { nx := fun _ H' => Q .non H', rt := Q } a rfl rfl rfl rfl rfl (xb_of S hnm hr) (fun σ F1 H1 x p => q F1 H1 (ext_own m.hd x) p) _ F0 _ H (en_make sa hn m)⟩
/-- a def that raises -/
theorem fn_x {x qual : Str} {st : Stmt} {f : Addr} {fd : FuncData} {N ps : List Str} {k n : Nat} {Rs : List Rp} {l : List Sl} {xk : Xk} {nm : List (Str × NameKind)} (F : FunD K x qual (defArgs st) (defBody st) (defScope st) [] [] f fd) (S : FnScope N ps (defScope st)) (hnm : (defScope st).names = nm) (sa : StAll Rs l) (hp : ps.length = Rs.length)
    (hn : N.length = l.length + n)
    (hb : ∀ (X : Cx) (W : Wd) (D : Ends) (E : XK), X.prog = P → X.w = w → X.K = K → X.mg = mg → X.base = base → XB X N nm k → Tk X E → xk.Wish W.F0 W.H0 E → Blk X W D .tt (l ++ List.replicate n .no) (defBody st)) : FnOk P w K mg base (L2.CX P w) (k + 1) f fd ps (spR Rs xk) := by
  refine F.ok S (fun vs H Q E h => ?_) (fun cdv A outer s H vs Q E hr h => ?_)
  · obtain ⟨F0, _, ha, _⟩ := h
    rw [Paired.length ha, hp]
  · obtain ⟨F0, fh, ha, q⟩ := h
    exact ⟨_, pss_w, hb (cxOf (L2.CX P w) P w K mg base N qual (defScope st) f cdv A outer s H E) ⟨F0, H⟩ { nx := fun _ H' => Q .non H', rt := Q } E rfl rfl rfl rfl rfl (xb_of S hnm hr) (takes_of rfl rfl rfl rfl) q _ F0 H H (en_start sa hn fh ha)⟩
/-- an __init__ that raises -/
theorem fn_mkx {x qual : Str} {st : Stmt} {f C : Addr} {fd : FuncData} {N ps : List Str} {k n : Nat} {Rs : List Rp} {l : List Sl} {xk : Xk} {nm : List (Str × NameKind)} (F : FunD K x qual (defArgs st) (defBody st) (defScope st) [] [] f fd) (S : FnScope N ps (defScope st)) (hnm : (defScope st).names = nm) (sa : StAll Rs l) (hp : ps.length = Rs.length + 1)
    (hn : N.length = l.length + 1 + n)
    (hb : ∀ (X : Cx) (W : Wd) (D : Ends) (E : XK) (a : Addr), X.prog = P → X.w = w → X.K = K → X.mg = mg → X.base = base → XB X N nm k → Tk X E → xk.Wish W.F0 W.H0 E → Blk X W D .tt (.ow (cI a C []) :: (l ++ List.replicate n .no)) (defBody st)) : FnOk P w K mg base (L2.CX P w) (k + 1) f fd ps (spMkX C Rs xk) := by
  refine F.ok S (fun vs H Q E h => ?_) (fun cdv A outer s H vs Q E hr h => ?_)
  · obtain ⟨F0, H0, a, dx, ws, m, _⟩ := h
    rw [m.vs, List.length_cons, Paired.length m.args, hp]
  · obtain ⟨F0, H0, a, dx, ws, m, q⟩ := h
    refine ⟨_, pss_w, hb (cxOf (L2.CX P w) P w K mg base N qual (defScope st) f cdv A outer s H E) ⟨F0, upd H0 dx (.own a)⟩ { nx := fun _ H' => Q .non H', rt := Q } E a rfl rfl rfl rfl rfl (xb_of S hnm hr) (takes_of rfl rfl rfl rfl) ?_ _ F0 _ H (en_make sa hn m)⟩
    cases xk with
    | bare C => exact fun F1 H1 x => q F1 H1 (ext_own m.hd x)
    | with_ C f R => exact fun d v F1 H1 x hd fd hx p => q d v F1 H1 (ext_own m.hd x) ((same_upd m.hd).free hd) fd hx p
/-- with what the def lets out, for a try -/
theorem fn_vt {x qual : Str} {st : Stmt} {f : Addr} {fd : FuncData} {N ps : List Str} {k n : Nat} {Rs : List Rp} {l : List Sl} {R : Rp} {nm : List (Str × NameKind)} (F : FunD K x qual (defArgs st) (defBody st) (defScope st) [] [] f fd) (S : FnScope N ps (defScope st)) (hnm : (defScope st).names = nm) (sa : StAll Rs l) (hp : ps.length = Rs.length)
    (hn : N.length = l.length + n)
    (hb : ∀ (X : Cx) (W : Wd) (D : Ends), X.prog = P → X.w = w → X.K = K → X.mg = mg → X.base = base → XB X N nm k → RetV W D R → (∃ Wout, Takes X Wout) → Blk X W D .tt (l ++ List.replicate n .no) (defBody st)) : FnOk P w K mg base (L2.CX P w) (k + 1) f fd ps (spV Rs R) := by
  refine F.ok S (fun vs H Q E h => ?_) (fun cdv A outer s H vs Q E hr h => ?_)
  · obtain ⟨F0, _, ha, _⟩ := h
    rw [Paired.length ha, hp]
  · obtain ⟨F0, fh, ha, q⟩ := h
    exact ⟨_, pss_w, hb (cxOf (L2.CX P w) P w K mg base N qual (defScope st) f cdv A outer s H E) ⟨F0, H⟩ { nx := fun _ H' => Q .non H', rt := Q } rfl rfl rfl rfl rfl (xb_of S hnm hr) (fun v F1 H1 x p => q v F1 H1 x p) ⟨_, takes_of rfl rfl rfl rfl⟩ _ F0 H H (en_start sa hn fh ha)⟩
end
section
variable {X : Cx} {N : List Str} {nm : List (Str × NameKind)} {k : Nat} {W : Wd} {D : Ends} {gh : Gh} {Γ : List Sl} {ss : List Stmt} {e : Expr} {pos : Pos} {xk : Xk} {Wx : WX}
/-- a call that raises, in a try's body -/
theorem blk_expT (h : EvX X Γ e xk) (tk : Takes X Wx) (q : ∀ σ F G H, En W gh Γ σ F G H → xk.Wish F H (fun cls d H => Wx cls d σ H)) (hs : swapsWith e none pos.line X.env = pure false := by rfl) : Blk X W D gh Γ (.Expr e pos :: ss) :=
  blk_ps (ps_expr pe_w hs) fun σ F G H E1 => h W gh σ F G H E1 _ tk (fun F' G' H' E' x' => q σ F' G' H' E') _
theorem blk_retT (h : EvX X Γ e xk) (tk : Takes X Wx) (q : ∀ σ F G H, En W gh Γ σ F G H → xk.Wish F H (fun cls d H => Wx cls d σ H)) : Blk X W D gh Γ (.Return (some e) pos :: ss) :=
  blk_ps (ps_ret pe_w) fun σ F G H E1 => h W gh σ F G H E1 _ tk (fun F' G' H' E' x' => q σ F' G' H' E') _
/-- an expression as a statement -/
theorem blk_exp {R : Rp} (h : Ev X Γ e R) (t : Blk X W D gh Γ ss) (hs : swapsWith e none pos.line X.env = pure false := by rfl) : Blk X W D gh Γ (.Expr e pos :: ss) :=
  blk_ps (ps_expr pe_w hs) fun σ F G H E1 => h W gh σ F G H E1 _ fun v F' G' H' E' x' p => t σ F' G' H' E'
/-- isinstance(error, C) in an except's suite -/
theorem ev_isE {al : Addr} {oe : Obj} {pn : List (Addr × Obj)} {C Dc : Addr} {b : Bool} {y c : Str} {p1 p2 p3 : Pos} (xv : XV (X.suite al ((al, oe) :: pn)) N nm) (ec : ExcC X.K C) (hz : Zc (.ref C) none oe) (hf : ∃ vs, oe.data = .fields vs) (i : Nat) (bi : Bl (X.suite al ((al, oe) :: pn)) "isinstance") (hm : X.mg c = some (.ref Dc)) (hk : PySem.W.kitOne X.K (.ref C) (.ref Dc) = some b)
    (hi : Γ[i]? = some (L3.vl (rRef al)) := by rfl) (hN : N[i]? = some y := by rfl) (hg : gloB nm c = true := by decide +kernel) (hv : visB nm y = true := by decide +kernel) (hd : (y == ("__debug__" : Str)) = false := by decide +kernel) (hcd : (y == ("__classdict__" : Str)) = false := by decide +kernel) (hd2 : (c == ("__debug__" : Str)) = false := by decide +kernel) :
    Ev (X.suite al ((al, oe) :: pn)) Γ (.Call (.Name "isinstance" p1) [.Name y p2, .Name c p3] [] pos) (rD (.bool b)) := fun W gh σ F G H E Q q =>
  EW.of (pe_callB (call_isE ec hz hf) bi.hg bi.hm (by decide +kernel) (pa_cons (pe_var (xv.at_ hN) (xv.vis hv) hd hcd) (pa_cons (pe_glob (v := .ref Dc) (xv.gl hg) hm rfl hd2) pa_nil (by rfl)) (by rfl)) (by decide) (by decide) (by rfl) (by rfl)) (by
    obtain ⟨v, ev, pv⟩ := E.vl i _ _ hi
    have pv : v = .ref al := pv
    subst pv
    exact ⟨_, ev, .ref Dc, .ref Dc, b, rfl, fun u r => r, hk, q _ F G H E (Gr.refl _ _ _) (.bl b)⟩)
end
end L3
/-! L3, part h: dicts whose keys are tuples. -/
namespace L3
open PySem PySem.Spec PyProof.Rows L2
/-! ### a dict made by a comprehension, its keys tuples of ints and texts -/
section
variable {X : Cx} {pins : List (Addr × Obj)} {σ : L2.St} {H : Hp} {s : Shared} {E : Value → Shared → Prop} {D : Addr}
theorem store_tup {kvs : List (List Key × V)} {k : List Key} {b : Addr} {v : V} {u r : Value} {Q : Unit → Shared → Prop} (hu : X.A.units + 1 < cLine) (I : Inv X pins σ H s) (hD : H D = some (.dT kvs)) (hb : H b = some (.tup (k.map kV))) (hz : kvs.length < sizeLine)
    (ry : RelV (.ref b) u) (rv : RelV v r) (h : ∀ s', Inv X pins σ (upd H D (.dT (putK kvs k v))) s' → Q () s') : wpAny (model X.prog X.w) X.A (dictSet D u r) Q E s := by
  have eu : u = Value.ref b := ry
  subst eu
  obtain ⟨_, hsys, xs, rel, held⟩ := dt_of I.hok hD
  have len := Paired.length rel
  have room := length_putK kvs k v
  refine wpAny_dictSet_heap (hsz := by omega) (show X.A.units < cLine by omega) (key_of I.hok hb) held fun h' got same => h _ ?_
  obtain ⟨ob, es, ep, at_, c1, c2, c3, _, c5⟩ := got
  exact d_write I (by rw [hD]; exact True.intro) same ⟨ob, at_⟩ ⟨by omega, hsys, _, (rel.put k hb rv).keeps fun c ys ec => by
    rw [upd_ne (ne_of ec hD (fun z => nomatch z))]
    exact ec, ob, es, ep, at_, c1, c2, c3, c5⟩
/-- what the comprehension asks: Nx after each turn -/
def tDcT (wi : TI) (g : TG) (tk tv : TE) (vs : List Nat) : TE := fun σ H Q => wi σ H fun J H1 => ∀ D, H1 D = none → ∃ St : Nat → Nat → Hp → Prop, (∃ m, St 0 m (upd H1 D (.dT []))) ∧ ∀ i m H, St i m H →
  (J.stop i H ∧ Q (.ref D) H) ∨ (J.go i H ∧ ∀ x H', J.yld i H x H' → g x (wipe σ vs) H' fun σ2 H2 => wipe σ2 vs = wipe σ vs ∧
    tk σ2 H2 fun y H3 => tv σ2 H3 fun z H4 => ∃ kvs k b, y = .ref b ∧ H4 b = some (.tup (k.map kV)) ∧ H4 D = some (.dT kvs) ∧ kvs.length < sizeLine ∧ ∃ m', m' < m ∧ St (i + 1) m' (upd H4 D (.dT (putK kvs k z))))
theorem pe_dcT {kx vx tg iter : Expr} {scope : Scope} {own : List (Str × Nat)} {pos : Pos} {wi : TI} {g : TG} {tk tv : TE} (hu : X.A.units + 1 < cLine) (hc : X.calm = true) (hN : X.N.Nodup) (hi : PI X tg iter wi) (ok : BlkOk X.N X.env.scope scope own)
    (hg : ∀ s H C cl fp, PG (bx X s H scope C cl fp) tg g) (hk : ∀ s H C cl fp, PE (bx X s H scope C cl fp) kx tk) (hv : ∀ s H C cl fp, PE (bx X s H scope C cl fp) vx tv) (hs : ∀ x, foldedSetIterable iter X.env x = pure x := by intro _; rfl) :
    PE X (.DictComp kx vx [⟨tg, iter, [], 0⟩] scope pos) (tDcT wi g tk tv (own.map (·.2))) := by
  refine ⟨fun pins s σ H Q I h => ?_⟩
  rw [arm_eval_DictComp]
  have cells : ∀ y ∈ scope.names, y.2 = .free → ∃ c, X.env.cells.lookup y.1 = some c := fun y hy e => I.ok.has _ ((ok.free y hy e).imp id id)
  refine wpAny_comprehension_free rfl hs (closure_ok cells) ok.kind (fun y hy e => (ok.uniq y hy).trans (by rw [e]))
    (thn (hi.run pins s σ H _ I h) fun _ s1 hx => thn hx fun itv s2 hx2 => ?_)
  obtain ⟨it, fp, tn, J, H2, rfl, I2, T, st2, free2, ask⟩ := hx2
  refine wpAny_newObj_type (newEnv_comp ?_)
  have unD : H2 s2.heap.objs.size = none := I2.hok.fresh (Nat.le_refl _)
  obtain ⟨St, ⟨m0, start⟩, turn⟩ := ask _ unD
  generalize eD : s2.heap.objs.size = D at *
  -- the dict is laid
  generalize e3' : ({ s2 with heap := s2.heap.push { cls := .type "dict", data := .dict #[] } } : Shared) = s3
  have e3 := e3'.symm
  show codeAny _ _ (.compStart (.DictComp kx vx [⟨tg, iter, [], 0⟩] scope pos) 0 (.ref it) (.ref D) (compEnvC scope (cellsFrom (s3.heap.objs.size + 1) scope.names (cloFrom X.env.cells scope.names [])) s3.heap.objs.size X.env)) (compPost (model X.prog X.w) X.A X.xe none (EP X pins σ Q) (.ref D) s3.heap.objs.size) { s3 with heap := pushCells (s3.heap.push { cls := .type "dict", data := .dict #[] }) scope.names }
  have hp3 : s3.heap = s2.heap.push { cls := .type "dict", data := .dict #[] } := by rw [e3]
  have I3 : Inv X pins σ (upd H2 D (.dT [])) s3 := by
    subst e3 eD
    exact I2.laid (t' := s2.toks) (fun _ _ e => Heap.get?_push_of_some _ e) (Nat.le_refl _) (dt_empty s2.heap I2.big)
  have older : ∀ b ∈ fp, b < D := fun b hb => by
    obtain ⟨o, e, _⟩ := T.obj _ _ st2 b hb
    rw [← eD]
    exact Heap.lt_size e
  have free3 : ∀ b ∈ fp, FpOk X pins (upd H2 D (.dT [])) b ∧ b < s3.heap.objs.size := fun b hb => ⟨⟨(upd_ne (Nat.ne_of_lt (older b hb))).trans (free2 b hb).1, (free2 b hb).2⟩, by
    rw [hp3, Heap.size_push, eD]
    exact Nat.lt_succ_of_lt (older b hb)⟩
  have I4 := block_start I3 ok hN free3
  generalize eC : s3.heap.objs.size = C at *
  generalize ecl : cellsFrom (C + 1) scope.names (cloFrom X.env.cells scope.names []) = cl at *
  generalize eH : upd H2 D (.dT []) = H3 at *
  have pg := hg s3 H3 C cl fp
  have pk := hk s3 H3 C cl fp
  have pv := hv s3 H3 C cl fp
  obtain ⟨s4, e4⟩ : ∃ s4 : Shared, s4 = { s3 with heap := pushCells (s3.heap.push { cls := .type "dict", data := .dict #[] }) scope.names } := ⟨_, rfl⟩
  have st4 : tn 0 s4.heap := T.keep _ _ _ st2 fun b _ o e => by
    rw [e4]
    refine pushCells_keeps _ _ _ _ (Heap.get?_push_of_some _ ?_)
    rw [hp3]
    exact Heap.get?_push_of_some _ e
  have I4 : Inv (bx X s3 H3 scope C cl fp) [] (wipe σ (own.map (·.2))) H3 s4 := by rw [e4]; exact I4
  have apart : ∀ {σ' : L2.St} {H' : Hp} {s' : Shared}, Inv (bx X s3 H3 scope C cl fp) [] σ' H' s' → (∀ b ∈ fp, H' b = none) → ∀ b ∈ fp, FpOk (bx X s3 H3 scope C cl fp) [] H' b := fun I' hn b hb =>
    ⟨hn b hb, (I'.ok.exf b hb).1, I'.ok.exfs b hb, .inl hb, (I'.ok.exf b hb).2, fun p hp => nomatch hp⟩
  rw [← e4]
  have whole : codeAny (model X.prog X.w) X.A (.compLoop (.DictComp kx vx [⟨tg, iter, [], 0⟩] scope pos) 0 (.ref it) (.ref D) (compEnvC scope cl C X.env)) (compPost (model X.prog X.w) X.A X.xe none (EP X pins σ Q) (.ref D) C) s4 := by
    refine compLoop_anyD (fun n s' => ∃ i H', Inv (bx X s3 H3 scope C cl fp) [] (wipe σ (own.map (·.2))) H' s' ∧ tn i s'.heap ∧ (∀ b ∈ fp, H' b = none) ∧ St i n H') ?_ m0 ⟨0, H3, I4, st4, fun b hb => (free3 b hb).1.1, start⟩
    rintro n s5 ⟨i, H5, I5, st5, n5, w5⟩
    rcases turn i n H5 w5 with ⟨stop, done⟩ | ⟨go, step⟩
    · refine thnF (T.done (bx X s3 H3 scope C cl fp) rfl rfl rfl hc i [] s5 _ H5 (fun _ _ => False) I5 (apart I5 n5) st5 stop) fun r s6 ⟨hr, I6⟩ => ?_
      subst hr
      have I7 : Inv X pins σ H5 s6 := I3.call' (ch := fp) I6.os I6.base I6.hok I6.bare fun b hb => let z := (free3 b hb).1.2; ⟨z.2.2.1, z.1, z.2.2.2.1, z.2.2.2.2⟩
      have unC : H5 C = none := I6.free
      obtain ⟨m, hn, _⟩ := I6.loc
      have hn : s6.heap.Ns C m := hn
      obtain ⟨f0, f1, f2, f3, f4, f5⟩ := I3.fpOk (H' := H5) (b := C) (Nat.le_of_eq eC) unC
      exact ⟨m, hn, fun h'' sb => ⟨.ref D, H5, I7.turned (t' := s6.toks) (fun b o hb e => (sb.2 b hb).trans e) f0 f1 f3 f4 f5, rfl, done⟩⟩
    · refine thnF (T.item (bx X s3 H3 scope C cl fp) rfl rfl rfl hc i [] s5 _ H5 (fun _ _ => False) I5 (apart I5 n5) st5 go) fun r s6 ⟨u, hr, h6⟩ => ?_
      subst hr
      refine thnF h6 fun _ s7 ⟨x, H7, I7, r7, y7, st7, n7⟩ => ?_
      refine thnF (pg.run _ s7 _ H7 x u _ (I7.pinned (apart I7 n7) (T.obj _ _ st7)) r7 (step x H7 y7)) fun _ s8 ⟨σ8, H8, I8, w8, q8⟩ => ?_
      refine thnF ((pts_nil (X := bx X s3 H3 scope C cl fp)).run _ s8 σ8 H8 (fun b H => b = true ∧ tk σ8 H _) I8 ⟨rfl, q8⟩) fun b s9 ⟨H9, I9, eb, q9⟩ => ?_
      subst eb
      refine thnF (pk.run _ s9 σ8 H9 _ I9 q9) fun _ s10 ⟨yk, H10, I10, r10, q10⟩ => ?_
      refine thnF (pv.run _ s10 σ8 H10 _ I10 q10) fun _ s11 ⟨yv, H11, I11, r11, kvs, k, b, ek, hb, hD, hz, m', lt, nx⟩ => ?_
      subst ek
      refine store_tup (X := bx X s3 H3 scope C cl fp) hu I11 hD hb hz r10 r11 fun s12 I12 => ?_
      have pin : ∀ b ∈ fp, ∀ o, s7.heap.get? b = some o → s12.heap.get? b = some o ∧ (upd H11 D (.dT (putK kvs k yv))) b = none := fun b hb o e =>
        let z := I12.pin (b, o) (List.mem_append_right _ (List.mem_append_right _ (mem_pinsAt hb e)))
        ⟨z.1, z.2.1⟩
      refine ⟨m', lt, i + 1, _, (I12.unpinned (pins := [])).weak (by rw [← w8, wipe_length]) (fun j v e => (wipe_some (by rw [w8]; exact e)).1), T.keep _ _ _ st7 fun b hb o e => (pin b hb o e).1, fun b hb => ?_, nx⟩
      obtain ⟨o, e, _⟩ := T.obj _ _ st7 b hb
      exact (pin b hb o e).2
  exact codeAny_compStart_dict whole (T.self X.A 0 _ _ _ st4 whole)
end
end L3
/-! L3, part i: dicts with tuple keys, by what they stand for. -/
namespace L3
open PySem PySem.Spec PyProof.Rows L2
/-! ### keys -/
def kD : Key → PyData
  | .inl i => .int i
  | .inr x => .str x
abbrev kT (k : List Key) : PyData := .tuple (k.map kD)
theorem kD_inv {H : Hp} {v : V} : ∀ {k : Key}, Dt H v (kD k) → v = kV k
  | .inl i, h => int_inv h
  | .inr x, h => str_inv h
theorem kD_of {H : Hp} : ∀ (k : Key), Dt H (kV k) (kD k)
  | .inl i => .int i
  | .inr x => .str x
theorem kDs_inv {H : Hp} : ∀ {vs : List V} {ks : List Key}, DtAll H vs (ks.map kD) → vs = ks.map kV
  | [], [], _ => rfl
  | _ :: _, [], h => by cases h
  | [], _ :: _, h => by cases h
  | _ :: vs, k :: ks, h => by
    cases h with
    | cons h1 h2 =>
      rw [kD_inv h1, kDs_inv h2]
      rfl
theorem kDs_of {H : Hp} : ∀ (ks : List Key), DtAll H (ks.map kV) (ks.map kD)
  | [] => .nil
  | k :: ks => .cons (kD_of k) (kDs_of ks)
theorem kT_inv {H : Hp} {v : V} {k : List Key} (h : Dt H v (kT k)) : ∃ b, v = .ref b ∧ H b = some (.tup (k.map kV)) := by
  obtain ⟨b, vs, e, s, p⟩ := tup_inv h
  rw [kDs_inv p] at s
  exact ⟨b, e, s⟩
theorem kT_of {H : Hp} {b : Addr} {k : List Key} (h : H b = some (.tup (k.map kV))) : Dt H (.ref b) (kT k) := .tup h (kDs_of k)
/-! ### tables by keys -/
section
variable {α β : Type}
def getG (kvs : List (List Key × α)) (k : List Key) : Option α := (kvs.find? fun kv => decide (kv.1 = k)).map (·.2)
def putG (kvs : List (List Key × α)) (k : List Key) (v : α) : List (List Key × α) := if (kvs.any fun kv => decide (kv.1 = k)) = true then kvs.map (fun kv => if kv.1 = k then (kv.1, v) else kv) else kvs ++ [(k, v)]
end
def KvP (F : Hp) : List (List Key × V) → List (List Key × PyData) → Prop := Paired fun (p : List Key × V) (q : List Key × PyData) => p.1 = q.1 ∧ Dt F p.2 q.2
section
variable {F F' G H : Hp} {ks : List (List Key × V)} {kvs : List (List Key × PyData)} {k : List Key}
theorem KvP.mono (f : Same F F') : ∀ {ks : List (List Key × V)} {kvs : List (List Key × PyData)}, KvP F ks kvs → KvP F' ks kvs
  | _, _, .nil => .nil
  | _, _, .cons (b := q) r t => .cons ⟨r.1, dt_same f _ _ r.2⟩ (KvP.mono f t)
theorem KvP.len (h : KvP F ks kvs) : ks.length = kvs.length := Paired.length h
theorem KvP.get : ∀ {ks : List (List Key × V)} {kvs : List (List Key × PyData)}, KvP F ks kvs → (getG kvs k = none ∧ valV ks k = none) ∨ ∃ d v, getG kvs k = some d ∧ valV ks k = some v ∧ Dt F v d
  | _, _, .nil => .inl ⟨rfl, rfl⟩
  | (g, v) :: ks, (g', d) :: kvs, .cons r t => by
    obtain ⟨e, p⟩ := r
    dsimp only at e p
    subst e
    by_cases z : g = k
    · refine .inr ⟨d, v, ?_, ?_, p⟩
      · unfold getG
        rw [List.find?_cons, decide_eq_true z]
        rfl
      · exact valV_pos z
    · have e1 : getG ((g, d) :: kvs) k = getG kvs k := by
        unfold getG
        rw [List.find?_cons, decide_eq_false z]
      rw [e1, valV_neg z]
      exact KvP.get t
theorem KvP.any : ∀ {ks : List (List Key × V)} {kvs : List (List Key × PyData)}, KvP F ks kvs → (ks.any fun kv => decide (kv.1 = k)) = (kvs.any fun kv => decide (kv.1 = k))
  | _, _, .nil => rfl
  | (g, v) :: ks, (g', d) :: kvs, .cons r t => by
    obtain ⟨e, p⟩ := r
    dsimp only at e
    subst e
    rw [List.any_cons, List.any_cons, KvP.any t]
theorem KvP.repl {v : V} {d : PyData} (p : Dt F v d) : ∀ {ks : List (List Key × V)} {kvs : List (List Key × PyData)}, KvP F ks kvs → KvP F (ks.map fun kv => if kv.1 = k then (kv.1, v) else kv) (kvs.map fun kv => if kv.1 = k then (kv.1, d) else kv)
  | _, _, .nil => .nil
  | (g, u) :: ks, (g', e) :: kvs, .cons r t => by
    obtain ⟨e1, p'⟩ := r
    dsimp only at e1 p'
    subst e1
    rw [List.map_cons, List.map_cons]
    refine .cons ?_ (KvP.repl p t)
    dsimp only
    by_cases z : g = k
    · rw [if_pos z, if_pos z]
      exact ⟨rfl, p⟩
    · rw [if_neg z, if_neg z]
      exact ⟨rfl, p'⟩
theorem KvP.snoc {v : V} {d : PyData} (p : Dt F v d) : ∀ {ks : List (List Key × V)} {kvs : List (List Key × PyData)}, KvP F ks kvs → KvP F (ks ++ [(k, v)]) (kvs ++ [(k, d)])
  | _, _, .nil => .cons ⟨rfl, p⟩ .nil
  | _, _, .cons r t => .cons r (KvP.snoc p t)
theorem KvP.put {v : V} {d : PyData} (p : Dt F v d) (h : KvP F ks kvs) : KvP F (putK ks k v) (putG kvs k d) := by
  unfold putK putG
  rw [h.any]
  split
  · exact h.repl p
  · exact h.snoc p
theorem KvP.keys : ∀ {ks : List (List Key × V)} {kvs : List (List Key × PyData)}, KvP F ks kvs → ks.map (·.1) = kvs.map (·.1)
  | _, _, .nil => rfl
  | _, _, .cons r t => by
    rw [List.map_cons, List.map_cons, KvP.keys t, r.1]
end
/-- a dict with tuple keys: frozen; standing still; as it stands; one's own -/
def rT (kvs : List (List Key × PyData)) : Rp := ⟨fun v F _ _ => ∃ a ks, v = .ref a ∧ F a = some (.dT ks) ∧ KvP F ks kvs, fun f _ _ ⟨a, ks, e, h, p⟩ => ⟨a, ks, e, f _ _ h, p.mono f⟩⟩
instance {kvs : List (List Key × PyData)} : Fz (rT kvs) := ⟨fun h => h⟩
def bT (kvs : List (List Key × PyData)) : Rp := ⟨fun v F G _ => ∃ a ks, v = .ref a ∧ G a = some (.dT ks) ∧ KvP F ks kvs, fun f g _ ⟨a, ks, e, h, p⟩ => ⟨a, ks, e, g _ _ h, p.mono f⟩⟩
instance {kvs : List (List Key × PyData)} : Sta (bT kvs) := ⟨fun h => h⟩
def hT (kvs : List (List Key × PyData)) : Rp := ⟨fun v F _ H => ∃ a ks, v = .ref a ∧ H a = some (.dT ks) ∧ KvP F ks kvs, fun f _ s ⟨a, ks, e, h, p⟩ => ⟨a, ks, e, s _ _ h, p.mono f⟩⟩
def cT (kvs : List (List Key × PyData)) : Cp where
  C := fun l fp H F _ => fp = [l] ∧ ∃ ks, H l = some (.dT ks) ∧ KvP F ks kvs
  mono := fun f _ k ⟨e, vs, h, q⟩ => ⟨e, vs, by subst e; rw [k _ List.mem_cons_self]; exact h, q.mono f⟩
  there := fun ⟨e, vs, h, _⟩ a ha => by
    subst e
    rw [List.mem_singleton] at ha
    subst ha
    exact ⟨_, h, fun _ z => nomatch z⟩
  det := fun _ ⟨e, _⟩ ⟨e', _⟩ => e'.trans e.symm
instance {kvs : List (List Key × PyData)} : FzC (cT kvs) := ⟨fun h => h⟩
/-! ### own things of one object are frozen, read -/
/-- C holds one object; once it is frozen it stands for R; as it stands, for Rh -/
class One (C : Cp) (R : outParam Rp) (Rh : outParam Rp) : Prop where
  one : ∀ {l : Addr} {fo : List Addr} {F G H : Hp}, C.C l fo H F G → fo = [l] ∧ Rh.P (.ref l) F G H ∧ ∃ o, H l = some o ∧ ∀ F' G' H', Same F F' → F' l = some o → R.P (.ref l) F' G' H'
instance {ds : List PyData} : One (cD ds) (rD (.list ds)) (hD ds) := ⟨fun ⟨e, vs, h, p⟩ => ⟨e, ⟨_, vs, rfl, h, p⟩, _, h, fun F' G' H' s q => .lst q (dtAll_same s _ _ p)⟩⟩
instance {kvs : List (List Key × PyData)} : One (cT kvs) (rT kvs) (hT kvs) := ⟨fun ⟨e, ks, h, p⟩ => ⟨e, ⟨_, ks, rfl, h, p⟩, _, h, fun F' G' H' s q => ⟨_, ks, rfl, q, p.mono s⟩⟩⟩
section
variable {X : Cx} {N : List Str} {nm : List (Str × NameKind)} {k : Nat} {W : Wd} {D : Ends} {gh : Gh} {Γ Γ' : List Sl} {ss : List Stmt} {a b e o : Expr} {es : List Expr} {pos p apos np : Pos} {R Rh : Rp} {C : Cp} {x : Str}
theorem ev_ho1 [h1 : One C R Rh] (h : EvO X Γ e C) : Ev X Γ e Rh := fun W gh σ F G H E Q q =>
  h W gh σ F G H E Q fun l fo F' G' H' E' x0 hn p => q _ F' G' H' E' x0 (h1.one p).2.1
theorem ev_fz [h1 : One C R Rh] (h : EvO X Γ e C) : Ev X Γ e R := fun W gh σ F G H E Q q =>
  h W gh σ F G H E Q fun l fo F' G' H' E' x0 hn p => by
    obtain ⟨ef, _, o, ho, z⟩ := h1.one p
    subst ef
    obtain ⟨hl, gl⟩ := hn l List.mem_cons_self
    have fl := E'.fg.free gl
    exact q (.ref l) _ _ H' (E'.freeze ho gl (E.notOwn x0.s hl)) (x0.frz hl fl gl) (z _ _ _ (same_upd fl) upd_same)
theorem ev_varC [h1 : One C R Rh] (xf : XV X N nm) (i : Nat) (hi : Γ[i]? = some (.ow C) := by rfl) (hN : N[i]? = some x := by rfl) (hv : visB nm x = true := by decide +kernel) (hd : (x == ("__debug__" : Str)) = false := by decide +kernel)
    (hcd : (x == ("__classdict__" : Str)) = false := by decide +kernel) : Ev X Γ (.Name x pos) Rh := fun W gh σ F G H E Q q => by
  obtain ⟨fp, ow, _⟩ := E.ow
  obtain ⟨l, e, gl, p⟩ := ow i _ hi
  exact EW.of (pe_var (xf.at_ hN) (xf.vis hv) hd hcd) ⟨_, e, q _ F G H E (Gr.refl _ _ _) (h1.one p).2.1⟩
theorem blk_fz [hR : Sta R] [h1 : One C R Rh] (i : Nat) (hi : Γ[i]? = some (.ow C)) (t : Blk X W D gh (Γ.set i (.vl R hR)) ss) : Blk X W D gh Γ ss := fun σ F G H E => by
  obtain ⟨fp, ow, hd⟩ := E.ow
  obtain ⟨l, e1, gn, pc⟩ := ow i _ hi
  obtain ⟨ef, _, o, ho, z⟩ := h1.one pc
  have gl : G l = none := gn l (by rw [ef]; exact List.mem_cons_self)
  have fl := E.fg.free gl
  have E1 : En W gh (Γ.set i .no) σ F G H := E.imp (by rw [List.length_set]) fun j a b ea eb => by
    by_cases y : i = j
    · subst y
      rw [List.getElem?_set] at eb
      simp only [if_true] at eb
      split at eb
      · injection eb with eb
        subst eb
        exact .no a
      · cases eb
    · rw [List.getElem?_set_ne y, ea] at eb
      injection eb with eb
      subst eb
      exact .refl a
  have E2 := E1.freeze ho gl fun j C' m fo ej e2 q hp => by
    by_cases y : i = j
    · subst y
      rw [List.getElem?_set] at ej
      simp at ej
    · rw [List.getElem?_set_ne y] at ej
      obtain ⟨m', e3, _, q'⟩ := ow j C' ej
      rw [e2] at e3
      cases e3
      rw [C'.det (Same.refl _) q' q] at hp
      exact hd i j _ C' l y hi ej (by rw [ef]; exact List.mem_cons_self) hp
  have E3 := E2.setV (i := i) (R := R) (h := hR) (v := .ref l) (z _ _ _ (same_upd fl) upd_same)
  rw [List.set_set] at E3
  have es : σ.set i (some (V.ref l)) = σ := by
    refine List.ext_getElem? fun j => ?_
    by_cases y : i = j
    · subst y
      rw [e1, List.getElem?_set_self (List.getElem?_eq_some_iff.mp e1).1]
    · rw [List.getElem?_set_ne y]
  rw [es] at E3
  exact t σ _ _ H E3
/-! ### rules for dicts -/
variable {kvs : List (List Key × PyData)} {ky : List Key} {d : PyData}
theorem ev_hT (h : Ev X Γ e (rT kvs)) : Ev X Γ e (hT kvs) := ev_imp h fun v F G H f g ⟨a, ks, e, s, p⟩ => ⟨a, ks, e, g _ _ (f _ _ s), p⟩
theorem ev_hbT (h : Ev X Γ e (bT kvs)) : Ev X Γ e (hT kvs) := ev_imp h fun v F G H f g ⟨a, ks, e, s, p⟩ => ⟨a, ks, e, g _ _ s, p⟩
theorem ev_bT (h : Ev X Γ e (rT kvs)) : Ev X Γ e (bT kvs) := ev_imp h fun v F G H f g ⟨a, ks, e, s, p⟩ => ⟨a, ks, e, f _ _ s, p⟩
theorem dget_of {F G H : Hp} {ks : List (List Key × V)} {a : Addr} {y : V} (f : Same F G) (g : Same G H) (s : H a = some (.dT ks)) (p : KvP F ks kvs) (q : Dt F y (kT ky)) : DGet H a y (valV ks ky) := by
  obtain ⟨b, e, hb⟩ := kT_inv q
  rw [e]
  exact .t s (g _ _ (f _ _ hb))
theorem ev_inT (hu : X.A.units + 1 < cLine) (ha : Ev X Γ a (rD (kT ky))) (hb : Ev X Γ b (hT kvs)) (hm : behindInMarks .In b = false := by rfl) : Ev X Γ (.Compare a [.In] [b] pos) (rD (.bool (getG kvs ky).isSome)) := fun W gh σ F G H E Q q =>
  EW.of (pe_cmp (pc_din hu pe_w pe_w) hm) (ev_seq ha hb E fun y v F' G' H' E' x0 p1 ⟨a, ks, e, s, p⟩ => ⟨a, _, e, dget_of E'.fg E'.gH s p p1, by
    rcases p.get (k := ky) with ⟨z1, z2⟩ | ⟨d, u, z1, z2, _⟩
    · rw [z2]
      rw [z1] at q
      exact q _ F' G' H' E' x0 (.bl _)
    · rw [z2]
      rw [z1] at q
      exact q _ F' G' H' E' x0 (.bl _)⟩)
theorem ev_niT (hu : X.A.units + 1 < cLine) (ha : Ev X Γ a (rD (kT ky))) (hb : Ev X Γ b (hT kvs)) (hm : behindInMarks .NotIn b = false := by rfl) : Ev X Γ (.Compare a [.NotIn] [b] pos) (rD (.bool (!(getG kvs ky).isSome))) := fun W gh σ F G H E Q q =>
  EW.of (pe_cmp (pc_dnotin hu pe_w pe_w) hm) (ev_seq ha hb E fun y v F' G' H' E' x0 p1 ⟨a, ks, e, s, p⟩ => ⟨a, _, e, dget_of E'.fg E'.gH s p p1, by
    rcases p.get (k := ky) with ⟨z1, z2⟩ | ⟨d, u, z1, z2, _⟩
    · rw [z2]
      rw [z1] at q
      exact q _ F' G' H' E' x0 (.bl _)
    · rw [z2]
      rw [z1] at q
      exact q _ F' G' H' E' x0 (.bl _)⟩)
theorem tv_inT (hu : X.A.units + 1 < cLine) (ha : Ev X Γ a (rD (kT ky))) (hb : Ev X Γ b (hT kvs)) (hm : behindInMarks .In b = false := by rfl) : Tv X Γ (.Compare a [.In] [b] pos) (getG kvs ky).isSome := fun W gh σ F G H E Q q =>
  TW.of (pt_cmp (pc_din hu pe_w pe_w) hm) (ev_seq ha hb E fun y v F' G' H' E' x0 p1 ⟨a, ks, e, s, p⟩ => ⟨a, _, e, dget_of E'.fg E'.gH s p p1, _, rfl, by
    rcases p.get (k := ky) with ⟨z1, z2⟩ | ⟨d, u, z1, z2, _⟩
    · rw [z2]
      rw [z1] at q
      exact q F' G' H' E' x0
    · rw [z2]
      rw [z1] at q
      exact q F' G' H' E' x0⟩)
theorem tv_niT (hu : X.A.units + 1 < cLine) (ha : Ev X Γ a (rD (kT ky))) (hb : Ev X Γ b (hT kvs)) (hm : behindInMarks .NotIn b = false := by rfl) : Tv X Γ (.Compare a [.NotIn] [b] pos) (!(getG kvs ky).isSome) := fun W gh σ F G H E Q q =>
  TW.of (pt_cmp (pc_dnotin hu pe_w pe_w) hm) (ev_seq ha hb E fun y v F' G' H' E' x0 p1 ⟨a, ks, e, s, p⟩ => ⟨a, _, e, dget_of E'.fg E'.gH s p p1, _, rfl, by
    rcases p.get (k := ky) with ⟨z1, z2⟩ | ⟨d, u, z1, z2, _⟩
    · rw [z2]
      rw [z1] at q
      exact q F' G' H' E' x0
    · rw [z2]
      rw [z1] at q
      exact q F' G' H' E' x0⟩)
theorem ev_getT (hu : X.A.units + 1 < cLine) (ha : Ev X Γ a (hT kvs)) (hb : Ev X Γ b (rD (kT ky))) (hk : getG kvs ky = some d) (hs : NoSl b := by exact fun _ _ => rfl) : Ev X Γ (.Subscript a b pos) (rD d) := fun W gh σ F G H E Q q =>
  EW.of (pe_dget hu pe_w pe_w hs) (ev_seq ha hb E fun v y F' G' H' E' x0 ⟨a, ks, e, s, p⟩ p1 => by
    rcases p.get (k := ky) with ⟨z1, _⟩ | ⟨d', u, z1, z2, z3⟩
    · rw [hk] at z1
      cases z1
    · rw [hk] at z1
      cases z1
      refine ⟨a, u, e, ?_, q u F' G' H' E' x0 z3⟩
      rw [← z2]
      exact dget_of E'.fg E'.gH s p p1)
theorem ev_lenTd {p : Pos} (h : Bl X "len") (ha : Ev X Γ a (hT kvs)) (he : starEach [a] X.env = (false, eval a X.env) :: starEach [] X.env := by rfl) : Ev X Γ (.Call (.Name "len" p) [a] [] pos) (rD (.int kvs.length)) :=
  ev_cb1 call_len_dT h PySem.boot_len ha (fun v F G H f g ⟨l, ks, ev, hl, pv⟩ => ⟨_, .int _, fun Q q => ⟨l, ks, by rw [ev], hl, by rw [pv.len]; exact q⟩⟩) (he := he)
theorem isKeys_dt {H : Hp} : ∀ {ks : List (List Key × V)} {bs : List Addr}, IsKeys H ks bs → DtAll H (bs.map V.ref) ((ks.map (·.1)).map kT)
  | _, _, .nil => .nil
  | _, _, .cons r t => .cons (kT_of r) (isKeys_dt t)
theorem En.keysF {W : Wd} {gh : Gh} {σ : L2.St} {H : Hp} : ∀ {ks : List (List Key × V)} {bs : List Addr} {F G : Hp}, IsKeys H ks bs → En W gh Γ σ F G H → ∃ F' G', En W gh Γ σ F' G' H ∧ Gr F G H F' G' H ∧ DtAll F' (bs.map V.ref) ((ks.map (·.1)).map kT)
  | _, _, F, G, .nil, E => ⟨F, G, E, Gr.refl _ _ _, .nil⟩
  | _, _, F, G, .cons r t, E => by
    obtain ⟨E1, x1⟩ := E.tupF r
    obtain ⟨F', G', E2, x2, p⟩ := En.keysF t E1
    exact ⟨F', G', E2, x1.trans x2, .cons (kT_of (x2.f _ _ upd_same)) p⟩
/-- list(d), the keys' tuples made known -/
theorem evo_listTd {p : Pos} (hc : X.calm = true) (h : Bl X "list") (ha : Ev X Γ a (hT kvs)) (he : starEach [a] X.env = (false, eval a X.env) :: starEach [] X.env := by rfl) : EvO X Γ (.Call (.Name "list" p) [a] [] pos) (cD ((kvs.map (·.1)).map kT)) := fun W gh σ F G H E Q q =>
  EW.of (pe_callTy (call_list_dT hc) h.hg h.hm (by decide +kernel) (pa_cons pe_w pa_nil he) (he := he)) (ha W gh σ F G H E _ fun v F' G' H' E' x0 ⟨l, ks, ev, hl, pv⟩ =>
    ⟨l, ks, by rw [ev], .inl hl, fun n bs hn ik => by
      obtain ⟨F2, G2, E2, x2, p2⟩ := En.keysF ik E'
      rw [pv.keys] at p2
      exact q n [n] F2 G2 _ (E2.new hn) ((x0.trans x2).new hn) (one_new (x0.s.free hn) (E2.gH.free hn)) ⟨rfl, _, upd_same, p2⟩⟩)
/-- d[k] = e, an own dict -/
theorem blk_putT (xb : XB X N nm k) (i : Nat) {ix : Expr} (hi : Γ[i]? = some (.ow (cT kvs))) (h : Ev X Γ e (rD d)) (hx : Ev X Γ ix (rD (kT ky))) (hz : kvs.length < sizeLine) (t : Blk X W D gh (Γ.set i (.ow (cT (putG kvs ky d)))) ss)
    (hN : N[i]? = some x := by rfl) (hv : visB nm x = true := by decide +kernel) (hd : (x == ("__debug__" : Str)) = false := by decide +kernel) (hcd : (x == ("__classdict__" : Str)) = false := by decide +kernel)
    (hs : swapsWith e (some (.Subscript (.Name x np) ix p)) pos.line X.env = pure false := by rfl) : Blk X W D gh Γ (.Assign [.Subscript (.Name x np) ix p] e pos :: ss) :=
  blk_ps (ps_dput (Nat.lt_of_le_of_lt (by omega) xb.ls) (pe_var (xb.at_ hN) (xb.v.vis hv) hd hcd) pe_w pe_w hs) fun σ F G H E => h W gh σ F G H E _ fun v F1 G1 H1 E1 x1 p1 => by
    obtain ⟨fp, ow, _⟩ := E1.ow
    obtain ⟨l, e1, gn, ef, ks, eo, pv⟩ := ow i _ hi
    refine ⟨_, e1, hx W gh σ F1 G1 H1 E1 _ fun y F2 G2 H2 E2 x2 p2 => ?_⟩
    have eo2 := x2.s _ _ eo
    obtain ⟨b, ey, hb⟩ := kT_inv p2
    refine ⟨l, _, rfl, by rw [ey]; exact .t eo2 (E2.gH _ _ (E2.fg _ _ hb)) (by rw [pv.len]; exact hz), ?_⟩
    exact t σ F2 G2 _ (E2.mut hi fun l' fo e2 q gq => by
      rw [e1] at e2
      cases e2
      obtain ⟨ef', _⟩ := q
      subst ef'
      exact ⟨List.mem_cons_self, rfl, _, upd_same, (pv.mono x2.f).put (dt_same x2.f _ _ p1)⟩)
end
section
variable {X : Cx} {N : List Str} {nm : List (Str × NameKind)} {k : Nat} {Γ : List Sl} {kx vx tg it : Expr} {scope : Scope} {pos : Pos}
theorem putG_len {α : Type} (kvs : List (List Key × α)) (ky : List Key) (d : α) : (putG kvs ky d).length ≤ kvs.length + 1 := by
  unfold putG
  split
  · rw [List.length_map]; omega
  · rw [List.length_append]; exact Nat.le_refl _
def allG {α β : Type} (fk : α → List Key) (fv : α → β) (xs : List α) : List (List Key × β) := xs.foldl (fun acc x => putG acc (fk x) (fv x)) []
theorem allG_snoc {α β : Type} (fk : α → List Key) (fv : α → β) (xs : List α) (x : α) : allG fk fv (xs ++ [x]) = putG (allG fk fv xs) (fk x) (fv x) := by
  unfold allG
  rw [List.foldl_append]
  rfl
theorem allG_le {α β : Type} (fk : α → List Key) (fv : α → β) (xs : List α) : (allG fk fv xs).length ≤ xs.length := by
  have h : ∀ (xs : List α) (acc : List (List Key × β)), (xs.foldl (fun acc x => putG acc (fk x) (fv x)) acc).length ≤ acc.length + xs.length := fun xs => by
    induction xs with
    | nil => intro acc; exact Nat.le_refl _
    | cons x xs ih =>
      intro acc
      rw [List.foldl_cons, List.length_cons]
      have := ih (putG acc (fk x) (fv x))
      have := putG_len acc (fk x) (fv x)
      omega
  have := h xs []
  simpa [allG] using this
/-- {k: v for tg in it} -/
theorem evo_dcT {α : Type} {R : α → Rp} {fk : α → List Key} {fv : α → PyData} {xs : List α} {ts : List Nat} (own : List (Str × Nat)) (xf : XC X N nm k) (hi : EvI X Γ tg it (xs.map R)) (hz : xs.length ≤ sizeLine) (Γt : α → List Sl)
    (hts : ∀ j ∈ ts, j ∈ own.map (·.2))
    (hg : Bk X N nm k scope fun Y => ∀ x ∈ xs, Tg Y (wipeG Γ (own.map (·.2))) (R x) tg (Γt x) ts)
    (hk : Bk X N nm k scope fun Y => ∀ x ∈ xs, Ev Y (Γt x) kx (rD (kT (fk x))))
    (hv : Bk X N nm k scope fun Y => ∀ x ∈ xs, Ev Y (Γt x) vx (rD (fv x)))
    (hb : blkN N nm scope own = true := by decide +kernel) (hkd : scope.kind = .function := by rfl)
    (hs : ∀ x, foldedSetIterable it X.env x = pure x := by intro _; rfl) : EvO X Γ (.DictComp kx vx [⟨tg, it, [], 0⟩] scope pos) (cT (allG fk fv xs)) := fun W gh σ F0 G0 H0 E0 Q q => by
  obtain ⟨wi, hpi, hR⟩ := hi W gh σ F0 G0 H0 E0
  have bo := blkOk_by (blkN_ok xf.toXV hb)
  refine EW.of (pe_dcT (own := own) (g := fun v σ H Q => ∀ s H0 C cl fp, GW (bx X s H0 scope C cl fp) tg v σ H Q) (tk := fun σ H Q => ∀ s H0 C cl fp, EW (bx X s H0 scope C cl fp) kx σ H Q) (tv := fun σ H Q => ∀ s H0 C cl fp, EW (bx X s H0 scope C cl fp) vx σ H Q) (Nat.lt_of_le_of_lt (by omega) xf.ls) xf.calm xf.nd hpi bo
    (fun s H C cl fp => ⟨fun pins s' σ H' v u Q I r h => (h s H C cl fp).go pins s' u I r⟩) (fun s H C cl fp => ⟨fun pins s' σ H' Q I h => (h s H C cl fp).go pins s' I⟩) (fun s H C cl fp => ⟨fun pins s' σ H' Q I h => (h s H C cl fp).go pins s' I⟩) hs) ?_
  refine hR _ fun J g F1 G1 H1 E1 x1 ok D hD => ?_
  have gD := E1.gH.free hD
  let Pv : Nat → Hp → Prop := fun i H => ∃ F G acc, En W (gh.and g) (wipeG Γ (own.map (·.2))) (wipe σ (own.map (·.2))) F G H ∧ Gr F1 G1 H1 F G H ∧ G D = none ∧ H D = some (.dT acc) ∧ KvP F acc (allG fk fv (xs.take i))
  have Ew := E1.wipe (own.map (·.2))
  refine ⟨fun i m H => m = xs.length - i ∧ i ≤ xs.length ∧ Pv i H, ⟨xs.length, by simp, Nat.zero_le _, F1, G1, [], Ew.new hD, (Gr.refl _ _ _).new hD, gD, upd_same, .nil⟩, ?_⟩
  rintro i m H ⟨rfl, hi, F, G, acc, E, x, gDn, hDa, pa⟩
  have hln : (xs.map R).length = xs.length := List.length_map ..
  by_cases hlt : i < xs.length
  · refine .inr ⟨ok.go i F G H (by rw [hln]; exact hlt) E.fg E.gH E.g.2, fun v H3 y => ?_⟩
    have hx := List.getElem?_eq_getElem hlt
    have hR : (xs.map R)[i]? = some (R xs[i]) := by rw [List.getElem?_map, hx]; rfl
    have mem : xs[i] ∈ xs := List.getElem_mem hlt
    obtain ⟨F3, G3, E3, x3, p3⟩ := E.step (gh' := gh) ok E.g.2 hR y
    intro s H0 C cl fp
    refine hg s H0 C cl fp (xf.blk hkd s H0 C cl fp) _ mem W _ _ F3 G3 H3 v E3 p3 _ fun σ4 E4 w4 => ⟨(w4 _ hts).trans wipe_wipe, fun s H0 C cl fp => ?_⟩
    refine hk s H0 C cl fp (xf.blk hkd s H0 C cl fp) _ mem W _ σ4 F3 G3 H3 E4 _ fun u F5 G5 H5 E5 x5 p5 => fun s H0 C cl fp => ?_
    refine hv s H0 C cl fp (xf.blk hkd s H0 C cl fp) _ mem W _ σ4 F5 G5 H5 E5 _ fun z F6 G6 H6 E6 x6 p6 => ?_
    have x56 := (x3.trans x5).trans x6
    have hD6 := x56.s _ _ hDa
    have gD6 := x56.n D _ hDa (fun _ z => nomatch z) gDn
    have E7 := E.back E6 x56
    obtain ⟨b, eb, hbt⟩ := kT_inv (dt_same x6.f _ _ p5)
    have la : acc.length ≤ i := by
      rw [pa.len]
      exact Nat.le_trans (allG_le _ _ _) (by rw [List.length_take]; omega)
    refine ⟨acc, fk xs[i], b, eb, E6.gH _ _ (E6.fg _ _ hbt), hD6, by omega, xs.length - (i + 1), by omega, rfl, hlt, F6, G6, _, E7.other gD6 (Ew.notOwn (x.trans x56).s hD), ?_, gD6, upd_same, ?_⟩
    · have xx := x.trans x56
      exact ⟨xx.f, xx.g, fun b o e => by rw [upd_ne (ne_of_none e hD)]; exact xx.s b o e, xx.n⟩
    · rw [(split_at hx).2, allG_snoc]
      exact (pa.mono x56.f).put p6
  · have e : i = xs.length := by omega
    subst e
    refine .inl ⟨by rw [← hln]; exact ok.stop F G H E.fg E.gH E.g.2, ?_⟩
    have EE := E1.back E x
    rw [List.take_length] at pa
    exact q D [D] F G H (EE.gw EE.g.1) (x1.trans x) (one_new (x1.s.free hD) gDn) ⟨rfl, acc, hDa, pa⟩
end
end L3
/-! L3, part j: sorted. -/
namespace L3
open PySem PySem.Spec PyProof.Rows L2
def sortD (ds : List PyData) : List PyData := ds.mergeSort (PySem.W.dataLe false id)
theorem paired_mapR {α : Type} {R : Value → α → Prop} {f : α → V} (h : ∀ u a, R u a → RelV (f a) u) : ∀ {us : List Value} {as : List α}, PySem.W.EachIs R us as → Vals (as.map f) us
  | _, _, .nil => .nil
  | _, _, .cons r t => .cons (h _ _ r) (paired_mapR h t)
theorem eachIs_of {α : Type} {R : Value → α → Prop} {f : α → V} : ∀ {us : List Value} {as : List α}, Vals (as.map f) us → (∀ u a, a ∈ as → RelV (f a) u → R u a) → PySem.W.EachIs R us as
  | _, [], .nil, _ => .nil
  | _, a :: as, .cons r t, h => .cons (h _ _ List.mem_cons_self r) (eachIs_of t fun u b hb => h u b (List.mem_cons_of_mem _ hb))
def rSortedD (X : Cx) : List V → Hp → VK → Prop := fun xs H Q => ∃ (a : Addr) (bs : List (V × PyData)), xs = [.ref a] ∧ SqL X.K H a (bs.map (·.1)) ∧ (∀ b ∈ bs, Dp X.K H b.1 b.2) ∧ PySem.W.AllAlike (bs.map (·.2)) ∧ PySem.W.Sortable (bs.map (·.2)) ∧
  (∀ b ∈ bs, X.A.units + 2 + b.2.depth < cLine) ∧ ∀ p, H p = none → Q (.ref p) (upd H p (.lst ((bs.mergeSort (PySem.W.dataLe false (·.2))).map (·.1))))
theorem cr_sortedD {X : Cx} : CallR X (.builtin "sorted") (rSortedD X) := by
  intro pins s σ H xs us Q I r h
  obtain ⟨a, bs, rfl, hs, hd, al, so, hu, q⟩ := h
  obtain ⟨its, rv, hl, hz⟩ := I.list hs
  rw [Vals.ref1 r]
  rw [List.length_map] at hz
  refine PySem.W.sorted_data (R := fun u b => RelV b.1 u) (enc := (·.2)) (bs := bs) hl.isList (eachIs_of rv fun u b hb z => z) (eachIs_of rv fun u b hb z => Dp.reads I b.2 b.1 u (hd b hb) z) al so hz hu fun out hlen each => ?_
  obtain ⟨n, at_⟩ := sortedAll_at s.heap its (List.toArray out)
  have fr : H (s.heap.objs.size + 1) = none := I.hok.fresh (Nat.le_succ _)
  have vs := paired_mapR (f := fun b : V × PyData => b.1) (fun _ _ z => z) each
  refine ⟨.ref (s.heap.objs.size + 1), _, I.laid (t' := s.toks) (fun b o e => sortedAll_old e) (Nat.le_succ _) ?_, rfl, q _ fr⟩
  refine ⟨?_, out, n, vs, at_⟩
  rw [List.length_map, (List.mergeSort_perm _ _).length_eq]
  exact hz
theorem dtAll_zip {H : Hp} : ∀ {vs : List V} {ds : List PyData}, DtAll H vs ds → ∃ bs : List (V × PyData), bs.map (·.1) = vs ∧ bs.map (·.2) = ds ∧ ∀ b ∈ bs, Dt H b.1 b.2
  | [], [], _ => ⟨[], rfl, rfl, fun _ h => nomatch h⟩
  | _ :: _, [], h => by cases h
  | [], _ :: _, h => by cases h
  | v :: vs, d :: ds, h => by
    cases h with
    | cons h1 h2 =>
      obtain ⟨bs, e1, e2, k⟩ := dtAll_zip h2
      refine ⟨(v, d) :: bs, by rw [List.map_cons, e1], by rw [List.map_cons, e2], fun b hb => ?_⟩
      rcases List.mem_cons.mp hb with rfl | hb
      · exact h1
      · exact k b hb
theorem dtAll_unzip {H : Hp} : ∀ (bs : List (V × PyData)), (∀ b ∈ bs, Dt H b.1 b.2) → DtAll H (bs.map (·.1)) (bs.map (·.2))
  | [], _ => .nil
  | b :: bs, h => .cons (h b List.mem_cons_self) (dtAll_unzip bs fun c hc => h c (List.mem_cons_of_mem _ hc))
section
variable {X : Cx} {Γ : List Sl} {a : Expr} {pos p : Pos}
/-- sorted(l), data all of one shape -/
theorem evo_sorted {ds : List PyData} (h : Bl X "sorted") (ha : Ev X Γ a (hD ds)) (al : PySem.W.AllAlike ds) (so : PySem.W.Sortable ds) (hu : ∀ d ∈ ds, X.A.units + 2 + d.depth < cLine) (he : starEach [a] X.env = (false, eval a X.env) :: starEach [] X.env := by rfl) : EvO X Γ (.Call (.Name "sorted" p) [a] [] pos) (cD (sortD ds)) :=
  evo_cb1 cr_sortedD h (by decide +kernel) ha (fun v F G H f g ⟨l, vs, ev, hl, pv⟩ => by
    obtain ⟨bs, e1, e2, k⟩ := dtAll_zip pv
    refine ⟨.lst ((bs.mergeSort (PySem.W.dataLe false (·.2))).map (·.1)), fun l H1 h1 => ⟨rfl, _, h1, ?_⟩, fun Q q => ⟨l, bs, by rw [ev], .inl (.inl (by rw [hl, e1])), fun b hb => dt_dp _ _ _ (dp_up f g (k b hb)), by rw [e2]; exact al, by rw [e2]; exact so, fun b hb => hu _ (by rw [← e2]; exact List.mem_map.mpr ⟨b, hb, rfl⟩), q⟩⟩
    have e3 : sortD ds = (bs.mergeSort (PySem.W.dataLe false (·.2))).map (·.2) := by
      rw [← e2]
      exact (List.map_mergeSort (f := fun b : V × PyData => b.2) (r := PySem.W.dataLe false (·.2)) (s := PySem.W.dataLe false id) fun _ _ _ _ => rfl).symm
    rw [e3]
    exact dtAll_unzip _ fun b hb => k b ((List.mergeSort_perm _ _).mem_iff.mp hb)) (he := he)
end
end L3
/-! L3, part k: the script, the drawn numbers. -/
namespace L3
open PySem PySem.Spec PyProof.Rows L2
theorem sqL_same {K : PySem.W.Frag} {H H' : Hp} (s : Same H H') {a : Addr} {xs : List V} (h : SqL K H a xs) : SqL K H' a xs := by
  rcases h with h | h
  · rcases h with h | ⟨o, h⟩
    · exact .inl (.inl (s _ _ h))
    · exact .inl (.inr ⟨o, s _ _ h⟩)
  · exact .inr h
/-- the script -/
def rS (K : PySem.W.Frag) (ns : List Int) : Rp := ⟨fun v F _ _ => ∃ a, v = .ref a ∧ SqL K F a (ns.map V.int), fun f _ _ ⟨a, e, h⟩ => ⟨a, e, sqL_same f h⟩⟩
instance {K : PySem.W.Frag} {ns : List Int} : Fz (rS K ns) := ⟨fun h => h⟩
section
variable {X : Cx} {Γ : List Sl} {a : Expr} {pos p : Pos}
theorem evo_slS {ns : List Int} {lo hi : Option Expr} {l u : Option Int} {p2 : Pos} (ha : Ev X Γ a (rS X.K ns)) (hl : EvP X Γ lo l) (hu : EvP X Γ hi u) : EvO X Γ (.Subscript a (.Slice lo hi none p2) pos) (cD ((cut ns l u).map .int)) := fun W gh σ F G H E Q q =>
  EW.of (pe_slice sl_list pe_w po_w po_w) (ha W gh σ F G H E _ fun v F1 G1 H1 E1 x1 ⟨p, ev, hp⟩ => hl W gh σ F1 G1 H1 E1 _ fun F2 G2 H2 E2 x2 => hu W gh σ F2 G2 H2 E2 _ fun F3 G3 H3 E3 x3 =>
    ⟨p, _, ev, sqL_same ((E1.fg.trans E1.gH).trans (x2.s.trans x3.s)) hp, fun n hn => q n [n] F3 G3 _ (E3.new hn) ((x1.trans (x2.trans x3)).new hn) (one_new ((x1.trans (x2.trans x3)).s.free hn) (E3.gH.free hn)) ⟨rfl, _, upd_same, by
      have e : cutV (ns.map V.int) l u = (cut ns l u).map V.int := by
        unfold cutV cut
        rw [List.length_map, List.map_take, List.map_drop]
      rw [e]
      exact DtAll.ofInts _⟩⟩)
end
/-! ### what _law_row, _law_numbers draw -/
def nxt (s : Int) (k : Nat) : Int := ((s + 1) * 48271 + 69621 * (k : Int)) % 2147483647
def rowSt (cell : Int) : Nat → Int × Int × List Int
  | 0 => ((cell.natAbs : Int) % 2147483647, if (10 : Int) ^ 18 ≤ (cell.natAbs : Int) then (cell.natAbs : Int) else 0, [])
  | k + 1 => if 0 < (rowSt cell k).2.1 then (nxt (rowSt cell k).1 k, (rowSt cell k).2.1 / 1009, (rowSt cell k).2.2 ++ [(rowSt cell k).2.1 % 1009])
    else (nxt (rowSt cell k).1 k, (rowSt cell k).2.1, (rowSt cell k).2.2 ++ [nxt (rowSt cell k).1 k / 2048 % 1009])
theorem rowSt_b (c : Int) (n : Nat) : 0 ≤ (rowSt c n).1 ∧ (rowSt c n).1 < 2147483647 := by
  cases n with
  | zero => simp only [rowSt]; omega
  | succ n => simp only [rowSt]; split <;> simp only [nxt] <;> omega
theorem rowSt_l (c : Int) (n : Nat) : (rowSt c n).2.2.length = n := by
  induction n with
  | zero => rfl
  | succ n ih => simp only [rowSt]; split <;> simp [ih]
theorem rowSt_m (c : Int) (n : Nat) : ∀ x ∈ (rowSt c n).2.2, 0 ≤ x ∧ x < 1009 := by
  induction n with
  | zero => intro x h; simp [rowSt] at h
  | succ n ih =>
    intro x h
    simp only [rowSt] at h
    split at h
    · rcases List.mem_append.mp h with h | h
      · exact ih x h
      · rw [List.mem_singleton] at h; subst h; omega
    · rcases List.mem_append.mp h with h | h
      · exact ih x h
      · rw [List.mem_singleton] at h; subst h; omega
def rowOf (c : Int) (n : Nat) : List Int := (rowSt c n).2.2
/-- what is gathered ahead of the padding -/
def allOf (cells : List Int) (each : Nat) : List Int := cells.flatMap fun c => rowOf c each
def eachOf (cells : List Int) (many : Nat) : Nat := 1 + many / max 1 cells.length
def numsOf (ns : List Int) (many : Nat) : List Int :=
  let cells := cut ns none (some 63)
  let all := allOf cells (eachOf cells many)
  (all ++ List.replicate (many - all.length) 0).take many
theorem numsOf_len (ns : List Int) (many : Nat) : (numsOf ns many).length = many := by
  unfold numsOf
  simp only [List.length_take, List.length_append, List.length_replicate]
  omega
theorem numsOf_mem (ns : List Int) (many : Nat) : ∀ x ∈ numsOf ns many, 0 ≤ x ∧ x < 1009 := by
  intro x h
  unfold numsOf at h
  have h := List.mem_of_mem_take h
  rcases List.mem_append.mp h with h | h
  · unfold allOf at h
    obtain ⟨c, _, h⟩ := List.mem_flatMap.mp h
    exact rowSt_m _ _ x h
  · have := (List.mem_replicate.mp h).2
    omega
theorem numsOf_get (ns : List Int) (many i : Nat) (h : i < many) : ∃ x : Int, (numsOf ns many)[i]? = some x ∧ 0 ≤ x ∧ x < 1009 := by
  have hl : i < (numsOf ns many).length := by rw [numsOf_len]; exact h
  exact ⟨(numsOf ns many)[i], List.getElem?_eq_getElem hl, numsOf_mem ns many _ (List.getElem_mem hl)⟩
theorem cut_nat {α : Type} (xs : List α) (k : Nat) : cut xs none (some (k : Int)) = xs.take k := by
  unfold cut
  rw [HT.sIx_none, HT.sIx_nat, List.drop_zero, Nat.sub_zero]
  by_cases h : k ≤ xs.length
  · rw [Nat.min_eq_left h]
  · rw [Nat.min_eq_right (by omega), List.take_length, List.take_of_length_le (by omega)]
theorem cut_le {α : Type} (xs : List α) (lo hi : Option Int) : (cut xs lo hi).length ≤ xs.length := by
  unfold cut
  rw [List.length_take, List.length_drop]
  omega
end L3
/-! L3, part l: codings of plain things as data. -/
namespace L3
open PySem PySem.Spec PyProof.Rows L2
/-- a coding whose values are of one shape and differ where the things do; p: what can be laid -/
structure Good {α : Type} [DecidableEq α] (enc : α → PyData) (n : Nat) (p : α → Prop) : Prop where
  eq : ∀ a b, PyData.eqv (enc a) (enc b) = decide (a = b)
  lay : ∀ a, p a → (enc a).canLay0 = true
  dep : ∀ a, (enc a).depth ≤ n
  al : ∀ a b, PySem.W.alike (enc a) (enc b) = true
section
variable {α β γ : Type} [DecidableEq α] [DecidableEq β] [DecidableEq γ] {ea : α → PyData} {eb : β → PyData} {ec : γ → PyData} {n m k : Nat} {pa : α → Prop} {pb : β → Prop} {pc : γ → Prop}
theorem Good.shaped (g : Good ea n pa) (a : α) (p : pa a) (h : n ≤ 64 := by decide) : SeqAt.shaped (ea a) = true := by
  have := g.dep a
  show ((ea a).canLay0 && decide ((ea a).depth ≤ 64)) = true
  rw [g.lay a p, decide_eq_true (by omega)]
  rfl
abbrev yes {α : Type} : α → Prop := fun _ => True
theorem good_int : Good PyData.int 0 yes := ⟨fun a b => by by_cases h : a = b <;> simp [PyData.eqv, h], fun a _ => by simp [PyData.canLay0], fun a => by simp [PyData.depth], fun a b => by simp [PySem.W.alike]⟩
theorem good_str : Good PyData.str 0 (fun x => PyData.strOk x = true) := ⟨fun a b => by by_cases h : a = b <;> simp [PyData.eqv, h], fun a h => by simp [PyData.canLay0, h], fun a => by simp [PyData.depth], fun a b => by simp [PySem.W.alike]⟩
theorem good_bool : Good PyData.bool 0 yes := ⟨fun a b => by cases a <;> cases b <;> simp [PyData.eqv], fun a _ => by simp [PyData.canLay0], fun a => by simp [PyData.depth], fun a b => by simp [PySem.W.alike]⟩
theorem Good.imp {pa' : α → Prop} (g : Good ea n pa) (h : ∀ a, pa' a → pa a) : Good ea n pa' := ⟨g.eq, fun a p => g.lay a (h a p), g.dep, g.al⟩
theorem Good.pair (ga : Good ea n pa) (gb : Good eb m pb) : Good (fun p : α × β => .tuple [ea p.1, eb p.2]) (max n m + 1) (fun p => pa p.1 ∧ pb p.2) := by
  refine ⟨fun a b => ?_, fun a p => ?_, fun a => ?_, fun a b => ?_⟩
  · obtain ⟨a1, a2⟩ := a
    obtain ⟨b1, b2⟩ := b
    simp only [PyData.eqv, PyData.eqvAll, ga.eq, gb.eq, Bool.and_true, Prod.mk.injEq, Bool.decide_and]
  · simp [PyData.canLay0, PyData.canLayAll0, ga.lay _ p.1, gb.lay _ p.2]
  · have h1 := ga.dep a.1
    have h2 := gb.dep a.2
    simp only [PyData.depth, PyData.depthAll]
    omega
  · simp [PySem.W.alike, PySem.W.alikeAll, ga.al, gb.al]
theorem Good.triple (ga : Good ea n pa) (gb : Good eb m pb) (gc : Good ec k pc) : Good (fun p : α × β × γ => .tuple [ea p.1, eb p.2.1, ec p.2.2]) (max n (max m k) + 1) (fun p => pa p.1 ∧ pb p.2.1 ∧ pc p.2.2) := by
  refine ⟨fun a b => ?_, fun a p => ?_, fun a => ?_, fun a b => ?_⟩
  · obtain ⟨a1, a2, a3⟩ := a
    obtain ⟨b1, b2, b3⟩ := b
    simp only [PyData.eqv, PyData.eqvAll, ga.eq, gb.eq, gc.eq, Bool.and_true, Prod.mk.injEq, Bool.decide_and]
  · simp [PyData.canLay0, PyData.canLayAll0, ga.lay _ p.1, gb.lay _ p.2.1, gc.lay _ p.2.2]
  · have h1 := ga.dep a.1
    have h2 := gb.dep a.2.1
    have h3 := gc.dep a.2.2
    simp only [PyData.depth, PyData.depthAll]
    omega
  · simp [PySem.W.alike, PySem.W.alikeAll, ga.al, gb.al, gc.al]
theorem Good.eqAll (g : Good ea n pa) : ∀ xs ys : List α, PyData.eqvAll (xs.map ea) (ys.map ea) = decide (xs = ys)
  | [], [] => by simp [PyData.eqvAll]
  | [], _ :: _ => by simp [PyData.eqvAll]
  | _ :: _, [] => by simp [PyData.eqvAll]
  | x :: xs, y :: ys => by
    simp only [List.map_cons, PyData.eqvAll, g.eq, g.eqAll xs ys, List.cons.injEq, Bool.decide_and]
theorem Good.layAll (g : Good ea n pa) : ∀ xs : List α, (∀ x ∈ xs, pa x) → PyData.canLayAll0 (xs.map ea) = true
  | [], _ => rfl
  | x :: xs, h => by simp [PyData.canLayAll0, g.lay x (h x List.mem_cons_self), g.layAll xs fun y hy => h y (List.mem_cons_of_mem _ hy)]
theorem Good.depAll (g : Good ea n pa) : ∀ xs : List α, PyData.depthAll (xs.map ea) ≤ n
  | [] => by simp [PyData.depthAll]
  | x :: xs => by
    have h1 := g.dep x
    have h2 := g.depAll xs
    simp only [List.map_cons, PyData.depthAll]
    omega
theorem Good.alAll (g : Good ea n pa) : ∀ xs ys : List α, PySem.W.alikeAll (xs.map ea) (ys.map ea) = true
  | [], _ => by simp [PySem.W.alikeAll]
  | _ :: _, [] => by simp [PySem.W.alikeAll]
  | x :: xs, y :: ys => by
    simp only [List.map_cons, PySem.W.alikeAll, g.al, g.alAll xs ys, Bool.and_true]
theorem Good.list (g : Good ea n pa) : Good (fun xs : List α => .list (xs.map ea)) (n + 1) (fun xs => ∀ x ∈ xs, pa x) := by
  refine ⟨fun a b => ?_, fun a p => ?_, fun a => ?_, fun a b => ?_⟩
  · simp only [PyData.eqv]; exact g.eqAll a b
  · simp only [PyData.canLay0]; exact g.layAll a p
  · have h1 := g.depAll a
    simp only [PyData.depth]
    omega
  · simp only [PySem.W.alike]; exact g.alAll a b
theorem Good.tup (g : Good ea n pa) : Good (fun xs : List α => .tuple (xs.map ea)) (n + 1) (fun xs => ∀ x ∈ xs, pa x) := by
  refine ⟨fun a b => ?_, fun a p => ?_, fun a => ?_, fun a b => ?_⟩
  · simp only [PyData.eqv]; exact g.eqAll a b
  · simp only [PyData.canLay0]; exact g.layAll a p
  · have h1 := g.depAll a
    simp only [PyData.depth]
    omega
  · simp only [PySem.W.alike]; exact g.alAll a b
theorem Good.any (g : Good ea n pa) (xs : List α) (a : α) : ((xs.map ea).any fun z => PyData.eqv z (ea a)) = decide (a ∈ xs) := by
  induction xs with
  | nil => simp
  | cons x xs ih =>
    simp only [List.map_cons, List.any_cons, g.eq, ih, List.mem_cons, Bool.decide_or]
    congr 1
    by_cases h1 : x = a
    · simp [h1]
    · have h2 : ¬ a = x := fun z => h1 z.symm
      simp [h1, h2]
theorem Good.inj (g : Good ea n pa) {a b : α} (h : ea a = ea b) : a = b := by
  have h1 := g.eq a b
  have h2 := g.eq b b
  rw [h] at h1
  rw [h1] at h2
  simpa using h2
theorem Good.allAlike (g : Good ea n pa) (xs : List α) : PySem.W.AllAlike (xs.map ea) := .of g.al
end
abbrev dP (p : Int × Int) : PyData := .tuple [.int p.1, .int p.2]
abbrev dL (l : Str × Int × Int) : PyData := .tuple [.str l.1, .int l.2.1, .int l.2.2]
abbrev okL' (l : Str × Int × Int) : Prop := PyData.strOk l.1 = true
theorem good_dP : Good dP 1 yes := (good_int.pair good_int).imp fun _ _ => ⟨trivial, trivial⟩
theorem good_dL : Good dL 1 okL' := (good_str.triple good_int good_int).imp fun _ h => ⟨h, trivial, trivial⟩
theorem good_ints : Good (fun xs : List Int => .list (xs.map .int)) 1 yes := good_int.list.imp fun _ _ _ _ => trivial
theorem good_dPs : Good (fun xs : List (Int × Int) => .list (xs.map dP)) 2 yes := good_dP.list.imp fun _ _ _ _ => trivial
theorem good_dLs : Good (fun xs : List (Str × Int × Int) => .list (xs.map dL)) 2 (fun xs => ∀ x ∈ xs, okL' x) := good_dL.list
end L3
/-! L3, part m: calls by bundles, drawn numbers, ranges. -/
namespace L3
open PySem PySem.Spec PyProof.Rows L2
/-- a def of the module: how it is called, what it promises -/
structure Dfk (P : Program) (w : World) (K : PySem.W.Frag) (mg : Str → Option Value) (base : Heap) (x : Str) (j : Nat) (sp : Sp) : Prop where
  ex : ∃ f fd ps, mg x = some (.ref f) ∧ PySem.W.keepIn K (.ref f) = true ∧ Binds K fd ps [] ∧ FnOk P w K mg base (L2.CX P w) j f fd ps sp
/-- a method -/
structure Mtk (P : Program) (w : World) (K : PySem.W.Frag) (mg : Str → Option Value) (base : Heap) (C : Addr) (m : Str) (j : Nat) (sp : Sp) : Prop where
  ex : ∃ f fd ps, Cls K C ∧ Meth K C m f ∧ Binds K fd ps [] ∧ FnOk P w K mg base (L2.CX P w) j f fd ps sp
/-- a property -/
structure Prk (P : Program) (w : World) (K : PySem.W.Frag) (mg : Str → Option Value) (base : Heap) (C : Addr) (m : Str) (j : Nat) (sp : Sp) : Prop where
  ex : ∃ p f fd ps, Cls K C ∧ PropOf K C m p f ∧ Binds K fd ps [] ∧ FnOk P w K mg base (L2.CX P w) j f fd ps sp
/-- a class that is called -/
structure Mkk (P : Program) (w : World) (K : PySem.W.Frag) (mg : Str → Option Value) (base : Heap) (x : Str) (C : Addr) (j : Nat) (sp : Sp) : Prop where
  ex : ∃ f fd ps, mg x = some (.ref C) ∧ Mk K C f ∧ Binds K fd ps [] ∧ FnOk P w K mg base (L2.CX P w) j f fd ps sp
section
variable {X : Cx} {N : List Str} {nm : List (Str × NameKind)} {k j : Nat} {Γ : List Sl} {e o a : Expr} {es : List Expr} {pos p apos : Pos} {Rs : List Rp} {Ro R : Rp} {Cc : Cp} {xk : Xk} {C : Addr} {x m : Str}
theorem ev_c (xc : XC X N nm k) (d : Dfk X.prog X.w X.K X.mg X.base x j (spV Rs R)) (ha : EvA X Γ (e :: es) Rs) (hj : j ≤ k := by decide) (hg : gloB nm x = true := by decide +kernel)
    (hdb : (x == ("__debug__" : Str)) = false := by decide +kernel) (he : starEach (e :: es) X.env = (false, eval e X.env) :: starEach es X.env := by rfl) (hpl : (backTo pos (starEach es X.env)).any (·.1) = false := by rfl) : Ev X Γ (.Call (.Name x p) (e :: es) [] pos) R := by
  obtain ⟨f, fd, ps, h1, h2, h3, h4⟩ := d.ex
  exact ev_call h4 (xc.room.mono hj) (xc.toXV.gl hg) h1 h2 h3 ha hdb he hpl
theorem evo_c (xc : XC X N nm k) (d : Dfk X.prog X.w X.K X.mg X.base x j (spO Rs Cc)) (ha : EvA X Γ (e :: es) Rs) (hj : j ≤ k := by decide) (hg : gloB nm x = true := by decide +kernel)
    (hdb : (x == ("__debug__" : Str)) = false := by decide +kernel) (he : starEach (e :: es) X.env = (false, eval e X.env) :: starEach es X.env := by rfl) (hpl : (backTo pos (starEach es X.env)).any (·.1) = false := by rfl) : EvO X Γ (.Call (.Name x p) (e :: es) [] pos) Cc := by
  obtain ⟨f, fd, ps, h1, h2, h3, h4⟩ := d.ex
  exact evo_call h4 (xc.room.mono hj) (xc.toXV.gl hg) h1 h2 h3 ha hdb he hpl
theorem evx_c (xc : XC X N nm k) (d : Dfk X.prog X.w X.K X.mg X.base x j (spR Rs xk)) (ha : EvA X Γ (e :: es) Rs) (hj : j ≤ k := by decide) (hg : gloB nm x = true := by decide +kernel)
    (hdb : (x == ("__debug__" : Str)) = false := by decide +kernel) (he : starEach (e :: es) X.env = (false, eval e X.env) :: starEach es X.env := by rfl) (hpl : (backTo pos (starEach es X.env)).any (·.1) = false := by rfl) : EvX X Γ (.Call (.Name x p) (e :: es) [] pos) xk := by
  obtain ⟨f, fd, ps, h1, h2, h3, h4⟩ := d.ex
  exact evx_call h4 (xc.room.mono hj) (xc.toXV.gl hg) h1 h2 h3 ha hdb he hpl
theorem ev_m {pl : Sem Bool} (xc : XC X N nm k) (ho : Ev X Γ o Ro) (hi : InsOf Ro C m) (d : Mtk X.prog X.w X.K X.mg X.base C m j (spV (Ro :: Rs) R)) (ha : EvA X Γ (e :: es) Rs) (hj : j ≤ k := by decide)
    (hst : starEach (e :: es) X.env = (false, eval e X.env) :: starEach es X.env := by rfl) (hpl : (backTo pos (starEach es X.env)).any (·.1) = false := by rfl)
    (ht : eval (.Call (.Attribute o m apos) (e :: es) [] pos) X.env = (do
      let ov ← eval o X.env
      standAt apos.atName
      let (f, first) ← holding [ov] (getMethod ov m pl)
      callWith pos f first (backTo pos (starEach (e :: es) X.env)) (backToKw pos (keywordEach [] X.env))) := by rfl) : Ev X Γ (.Call (.Attribute o m apos) (e :: es) [] pos) R := by
  obtain ⟨f, fd, ps, h1, h2, h3, h4⟩ := d.ex
  exact ev_meth ho hi h1 h2 h4 (xc.room.mono hj) h3 ha hst hpl ht
theorem evo_m {pl : Sem Bool} (xc : XC X N nm k) (ho : Ev X Γ o Ro) (hi : InsOf Ro C m) (d : Mtk X.prog X.w X.K X.mg X.base C m j (spO (Ro :: Rs) Cc)) (ha : EvA X Γ (e :: es) Rs) (hj : j ≤ k := by decide)
    (hst : starEach (e :: es) X.env = (false, eval e X.env) :: starEach es X.env := by rfl) (hpl : (backTo pos (starEach es X.env)).any (·.1) = false := by rfl)
    (ht : eval (.Call (.Attribute o m apos) (e :: es) [] pos) X.env = (do
      let ov ← eval o X.env
      standAt apos.atName
      let (f, first) ← holding [ov] (getMethod ov m pl)
      callWith pos f first (backTo pos (starEach (e :: es) X.env)) (backToKw pos (keywordEach [] X.env))) := by rfl) : EvO X Γ (.Call (.Attribute o m apos) (e :: es) [] pos) Cc := by
  obtain ⟨f, fd, ps, h1, h2, h3, h4⟩ := d.ex
  exact evo_meth ho hi h1 h2 h4 (xc.room.mono hj) h3 ha hst hpl ht
theorem evx_m {pl : Sem Bool} (xc : XC X N nm k) (ho : Ev X Γ o Ro) (hi : InsOf Ro C m) (d : Mtk X.prog X.w X.K X.mg X.base C m j (spR (Ro :: Rs) xk)) (ha : EvA X Γ (e :: es) Rs) (hj : j ≤ k := by decide)
    (hst : starEach (e :: es) X.env = (false, eval e X.env) :: starEach es X.env := by rfl) (hpl : (backTo pos (starEach es X.env)).any (·.1) = false := by rfl)
    (ht : eval (.Call (.Attribute o m apos) (e :: es) [] pos) X.env = (do
      let ov ← eval o X.env
      standAt apos.atName
      let (f, first) ← holding [ov] (getMethod ov m pl)
      callWith pos f first (backTo pos (starEach (e :: es) X.env)) (backToKw pos (keywordEach [] X.env))) := by rfl) : EvX X Γ (.Call (.Attribute o m apos) (e :: es) [] pos) xk := by
  obtain ⟨f, fd, ps, h1, h2, h3, h4⟩ := d.ex
  exact evx_meth ho hi h1 h2 h4 (xc.room.mono hj) h3 ha hst hpl ht
theorem ev_m0 {pl : Sem Bool} (xc : XC X N nm k) (ho : Ev X Γ o Ro) (hi : InsOf Ro C m) (d : Mtk X.prog X.w X.K X.mg X.base C m j (spV [Ro] R)) (hj : j ≤ k := by decide)
    (ht : eval (.Call (.Attribute o m apos) [] [] pos) X.env = (do
      let ov ← eval o X.env
      standAt apos.atName
      let (f, first) ← holding [ov] (getMethod ov m pl)
      callWith pos f first (backTo pos (starEach [] X.env)) (backToKw pos (keywordEach [] X.env))) := by rfl) : Ev X Γ (.Call (.Attribute o m apos) [] [] pos) R := by
  obtain ⟨f, fd, ps, h1, h2, h3, h4⟩ := d.ex
  exact ev_meth0 ho hi h1 h2 h4 (xc.room.mono hj) h3 ht
theorem evo_m0 {pl : Sem Bool} (xc : XC X N nm k) (ho : Ev X Γ o Ro) (hi : InsOf Ro C m) (d : Mtk X.prog X.w X.K X.mg X.base C m j (spO [Ro] Cc)) (hj : j ≤ k := by decide)
    (ht : eval (.Call (.Attribute o m apos) [] [] pos) X.env = (do
      let ov ← eval o X.env
      standAt apos.atName
      let (f, first) ← holding [ov] (getMethod ov m pl)
      callWith pos f first (backTo pos (starEach [] X.env)) (backToKw pos (keywordEach [] X.env))) := by rfl) : EvO X Γ (.Call (.Attribute o m apos) [] [] pos) Cc := by
  obtain ⟨f, fd, ps, h1, h2, h3, h4⟩ := d.ex
  exact evo_meth0 ho hi h1 h2 h4 (xc.room.mono hj) h3 ht
theorem ev_p (xc : XC X N nm k) (ho : Ev X Γ o Ro) (hi : InsOf Ro C "") (d : Prk X.prog X.w X.K X.mg X.base C m j (spV [Ro] R)) (hj : j + 1 ≤ k := by decide) (hab : attributeBase o m X.env (eval o X.env) = eval o X.env := by rfl) : Ev X Γ (.Attribute o m pos) R := by
  obtain ⟨pa, f, fd, ps, h1, h2, h3, h4⟩ := d.ex
  exact ev_prop ho hi h1 h2 h4 (xc.room.mono hj) h3 hab
theorem evo_p (xc : XC X N nm k) (ho : Ev X Γ o Ro) (hi : InsOf Ro C "") (d : Prk X.prog X.w X.K X.mg X.base C m j (spO [Ro] Cc)) (hj : j + 1 ≤ k := by decide) (hab : attributeBase o m X.env (eval o X.env) = eval o X.env := by rfl) : EvO X Γ (.Attribute o m pos) Cc := by
  obtain ⟨pa, f, fd, ps, h1, h2, h3, h4⟩ := d.ex
  exact evo_prop ho hi h1 h2 h4 (xc.room.mono hj) h3 hab
theorem ev_mk (xc : XC X N nm k) (d : Mkk X.prog X.w X.K X.mg X.base x C j (spMk C Rs R)) (ha : EvA X Γ (e :: es) Rs) (hj : j + 1 ≤ k := by decide) (hg : gloB nm x = true := by decide +kernel)
    (hdb : (x == ("__debug__" : Str)) = false := by decide +kernel) (he : starEach (e :: es) X.env = (false, eval e X.env) :: starEach es X.env := by rfl) (hpl : (backTo pos (starEach es X.env)).any (·.1) = false := by rfl) : Ev X Γ (.Call (.Name x p) (e :: es) [] pos) R := by
  obtain ⟨f, fd, ps, h1, h2, h3, h4⟩ := d.ex
  exact ev_make h2 h4 (xc.room.mono hj) (xc.toXV.gl hg) h1 h3 ha hdb he hpl
theorem evx_mk (xc : XC X N nm k) (d : Mkk X.prog X.w X.K X.mg X.base x C j (spMkX C Rs xk)) (ha : EvA X Γ (e :: es) Rs) (hj : j + 1 ≤ k := by decide) (hg : gloB nm x = true := by decide +kernel)
    (hdb : (x == ("__debug__" : Str)) = false := by decide +kernel) (he : starEach (e :: es) X.env = (false, eval e X.env) :: starEach es X.env := by rfl) (hpl : (backTo pos (starEach es X.env)).any (·.1) = false := by rfl) : EvX X Γ (.Call (.Name x p) (e :: es) [] pos) xk := by
  obtain ⟨f, fd, ps, h1, h2, h3, h4⟩ := d.ex
  exact evx_make h2 h4 (xc.room.mono hj) (xc.toXV.gl hg) h1 h3 ha hdb he hpl
/-- the same list, told otherwise -/
theorem ev_hc {ds ds' : List PyData} (h : Ev X Γ e (hD ds)) (k : ds = ds') : Ev X Γ e (hD ds') := k ▸ h
theorem evo_cc {ds ds' : List PyData} (h : EvO X Γ e (cD ds)) (k : ds = ds') : EvO X Γ e (cD ds') := k ▸ h
end
/-! ### the drawn numbers -/
def nth (ns : List Int) (i : Int) : Int := ns.getD i.toNat 0
/-- so many numbers, each below 1009 -/
structure Nb (ns : List Int) (many : Nat) : Prop where
  len : ns.length = many
  mem : ∀ x ∈ ns, 0 ≤ x ∧ x < 1009
theorem nb_of (ns : List Int) (many : Nat) : Nb (numsOf ns many) many := ⟨numsOf_len ns many, numsOf_mem ns many⟩
theorem Nb.b {ns : List Int} {many : Nat} (h : Nb ns many) (i : Int) : 0 ≤ nth ns i ∧ nth ns i < 1009 := by
  unfold nth
  rw [List.getD_eq_getElem?_getD]
  cases e : ns[i.toNat]? with
  | none => exact ⟨Int.le_refl _, by decide⟩
  | some x => exact h.mem x (List.mem_of_getElem? e)
theorem atI_get {α : Type} {xs : List α} {i : Int} (h : 0 ≤ i ∧ i < xs.length) : atI xs i = xs[i.toNat]? := by
  unfold atI ixN
  have h1 : ¬ i < 0 := by omega
  simp [h1, h.1, h.2]
theorem atI_nth {ns : List Int} {i : Int} (h : 0 ≤ i ∧ i < ns.length) : atI (ns.map PyData.int) i = some (.int (nth ns i)) := by
  rw [atI_get (by rw [List.length_map]; exact h), List.getElem?_map]
  unfold nth
  rw [List.getD_eq_getElem?_getD, List.getElem?_eq_getElem (show i.toNat < ns.length by omega)]
  rfl
section
variable {X : Cx} {N : List Str} {nm : List (Str × NameKind)} {k : Nat} {Γ : List Sl} {e a b tg : Expr} {pos p rp cp : Pos}
theorem ev_nth {ns : List Int} {i : Int} (ha : Ev X Γ a (rD (.list (ns.map .int)))) (hb : Ev X Γ b (rD (.int i))) (h : 0 ≤ i ∧ i < ns.length) (hs : PlainIx b := by exact fun _ _ => rfl) : Ev X Γ (.Subscript a b pos) (rD (.int (nth ns i))) := ev_ixL (ev_h ha) hb (atI_nth h) hs
theorem cut_int {α : Type} (xs : List α) {i : Int} (h : 0 ≤ i) : cut xs none (some i) = xs.take i.toNat := by
  have e : i = ((i.toNat : Nat) : Int) := by omega
  rw [e, cut_nat]
  rfl
/-- range(n), range(lo, hi), walked -/
theorem itOk_r (lo : Int) (n : Nat) (g : Gh) : ItOk (Itr lo n) ((List.range n).map fun i => rD (.int (lo + (i : Nat)))) g where
  stop := fun F G H _ _ _ => by
    rw [List.length_map, List.length_range]
    exact Nat.le_refl n
  go := fun i F G H h _ _ _ => by
    rw [List.length_map, List.length_range] at h
    exact h
  yld := fun i R F G H x H' hi f g _ y => by
    obtain ⟨e1, e2⟩ := y
    rw [List.getElem?_map] at hi
    cases q : (List.range n)[i]? with
    | none => rw [q] at hi; cases hi
    | some z =>
      rw [q] at hi
      have hi : rD (.int (lo + (z : Nat))) = R := Option.some.inj hi
      obtain ⟨h1, h2⟩ := List.getElem?_eq_some_iff.mp q
      rw [List.getElem_range] at h2
      subst h2
      subst hi
      exact .inl ⟨e1, by rw [e2]; exact .int _⟩
theorem evi_rng1 {n : Int} (hb : Bl X "range") (h : Ev X Γ e (rD (.int n))) (h0 : 0 ≤ n) (hl : n < 2 ^ 62) (he : starEach [e] X.env = (false, eval e X.env) :: starEach [] X.env := by rfl) :
    EvI X Γ tg (.Call (.Name "range" rp) [e] [] cp) ((List.range n.toNat).map fun i => rD (.int (i : Nat))) := fun W gh σ F G H E =>
  ⟨_, pi_range1 hb.hg hb.hm (pa_cons pe_w pa_nil he) (hs := he), fun R q => h W gh σ F G H E _ fun v F' G' H' E' x0 pv => ⟨n, by rw [int_inv pv], by omega, hl, q (Itr 0 n.toNat) .tt F' G' H' (E'.gw ⟨E'.g, trivial⟩) x0 (by
    have := itOk_r 0 n.toNat .tt
    simp only [Int.zero_add] at this
    exact this)⟩⟩
theorem evi_rng2 {e2 : Expr} {i j : Int} (hb : Bl X "range") (h : Ev X Γ e (rD (.int i))) (h2 : Ev X Γ e2 (rD (.int j))) (hl : -(2 ^ 62) ≤ i ∧ i < 2 ^ 62 ∧ -(2 ^ 62) ≤ j ∧ j < 2 ^ 62) (he : starEach [e, e2] X.env = (false, eval e X.env) :: starEach [e2] X.env := by rfl) (he2 : starEach [e2] X.env = (false, eval e2 X.env) :: starEach [] X.env := by rfl) :
    EvI X Γ tg (.Call (.Name "range" rp) [e, e2] [] cp) ((List.range (j - i).toNat).map fun z => rD (.int (i + (z : Nat)))) := fun W gh σ F G H E =>
  ⟨_, pi_range2 hb.hg hb.hm (pa_cons pe_w (pa_cons pe_w pa_nil he2) he) (hs := he.trans (congrArg _ he2)) (hs2 := he2), fun R q => ev_seq h h2 E fun v w F' G' H' E' x0 p1 p2 => ⟨i, j, by rw [int_inv p1, int_inv p2], hl, q (Itr i (j - i).toNat) .tt F' G' H' (E'.gw ⟨E'.g, trivial⟩) x0 (itOk_r i (j - i).toNat .tt)⟩⟩
end
end L3
/-! L3, part n: own lists of own lists; isinstance. -/
namespace L3
open PySem PySem.Spec PyProof.Rows L2
def Inn (H F : Hp) : List Addr → List (List PyData) → Prop := Paired fun (a : Addr) (ds : List PyData) => ∃ vs, H a = some (.lst vs) ∧ DtAll F vs ds
theorem Inn.mono {H H' F F' : Hp} : ∀ {as : List Addr} {dss : List (List PyData)}, Inn H F as dss → Same F F' → (∀ a ∈ as, H' a = H a) → Inn H' F' as dss
  | _, _, .nil, _, _ => .nil
  | _, _, .cons (a := a) ⟨vs, h, p⟩ t, f, k => .cons ⟨vs, by rw [k _ List.mem_cons_self]; exact h, dtAll_same f _ _ p⟩ (Inn.mono t f fun b hb => k b (List.mem_cons_of_mem _ hb))
theorem Inn.at_ {H F : Hp} : ∀ {as : List Addr} {dss : List (List PyData)}, Inn H F as dss → ∀ a ∈ as, ∃ vs, H a = some (.lst vs)
  | _, _, .nil, _, h => nomatch h
  | _, _, .cons ⟨vs, h, _⟩ t, a, ha => by
    rcases List.mem_cons.mp ha with rfl | ha
    · exact ⟨vs, h⟩
    · exact Inn.at_ t a ha
theorem Inn.get {H F : Hp} : ∀ {as : List Addr} {dss : List (List PyData)}, Inn H F as dss → ∀ {i : Nat} {ds : List PyData}, dss[i]? = some ds → ∃ a vs, as[i]? = some a ∧ H a = some (.lst vs) ∧ DtAll F vs ds
  | _, _, .nil, _, _, e => by simp at e
  | _, _, .cons ⟨vs, h, p⟩ t, 0, ds, e => by
    simp at e
    subst e
    exact ⟨_, vs, rfl, h, p⟩
  | _, _, .cons r t, i + 1, ds, e => by
    obtain ⟨a, vs, e1, h⟩ := Inn.get t (i := i) (by simpa using e)
    exact ⟨a, vs, by simpa using e1, h⟩
theorem Inn.len {H F : Hp} {as : List Addr} {dss : List (List PyData)} (h : Inn H F as dss) : as.length = dss.length := Paired.length h
theorem Inn.set {H F : Hp} {vs : List V} {ds : List PyData} (p : DtAll F vs ds) : ∀ {as : List Addr} {dss : List (List PyData)}, Inn H F as dss → as.Nodup → ∀ {i : Nat} {a : Addr}, as[i]? = some a → Inn (upd H a (.lst vs)) F as (dss.set i ds)
  | _, _, .nil, _, _, _, e => by simp at e
  | b :: as, _, .cons ⟨ws, h, q⟩ t, nd, 0, a, e => by
    simp at e
    subst e
    rw [List.nodup_cons] at nd
    exact .cons ⟨vs, upd_same, p⟩ (Inn.mono t (Same.refl _) fun c hc => upd_ne fun z => nd.1 (z ▸ hc))
  | b :: as, _, .cons ⟨ws, h, q⟩ t, nd, i + 1, a, e => by
    rw [List.nodup_cons] at nd
    have e' : as[i]? = some a := by simpa using e
    refine .cons ⟨ws, ?_, q⟩ (Inn.set p t nd.2 e')
    rw [upd_ne fun z => nd.1 (by rw [z]; exact List.mem_of_getElem? e')]
    exact h
theorem Inn.dt {H F : Hp} (f : Same F H) : ∀ {as : List Addr} {dss : List (List PyData)}, Inn H F as dss → DtAll H (as.map V.ref) (dss.map .list)
  | _, _, .nil => .nil
  | _, _, .cons ⟨vs, h, p⟩ t => .cons (.lst h (dtAll_same f _ _ p)) (Inn.dt f t)
theorem refs_inj : ∀ {x y : List Addr}, x.map V.ref = y.map V.ref → x = y
  | [], [], _ => rfl
  | [], _ :: _, h => by cases h
  | _ :: _, [], h => by cases h
  | a :: x, b :: y, h => by
    simp only [List.map_cons, List.cons.injEq, V.ref.injEq] at h
    rw [h.1, refs_inj h.2]
/-- a list of lists, one's own -/
def cN (dss : List (List PyData)) : Cp where
  C := fun l fp H F _ => ∃ as, fp = l :: as ∧ (l :: as).Nodup ∧ H l = some (.lst (as.map V.ref)) ∧ Inn H F as dss
  mono := fun f _ k ⟨as, e, nd, h, q⟩ => ⟨as, e, nd, by subst e; rw [k _ List.mem_cons_self]; exact h, q.mono f fun a ha => by subst e; exact k a (List.mem_cons_of_mem _ ha)⟩
  there := fun ⟨as, e, nd, h, q⟩ a ha => by
    subst e
    rcases List.mem_cons.mp ha with rfl | ha
    · exact ⟨_, h, fun _ z => nomatch z⟩
    · obtain ⟨vs, hv⟩ := q.at_ a ha
      exact ⟨_, hv, fun _ z => nomatch z⟩
  det := by
    rintro l fp fp' F G H F' G' H' s ⟨as, e, _, h, _⟩ ⟨as', e', _, h', _⟩
    have h2 := s _ _ h
    rw [h'] at h2
    injection h2 with h2
    injection h2 with h2
    rw [e, e', refs_inj h2]
/-- .. as it stands -/
def hLL (dss : List (List PyData)) : Rp := ⟨fun v F _ H => ∃ l as, v = .ref l ∧ H l = some (.lst (as.map V.ref)) ∧ Inn H F as dss, by
  rintro v F G H F' G' H' f _ s ⟨l, as, e, h, q⟩
  exact ⟨l, as, e, s _ _ h, q.mono f fun a ha => by
    obtain ⟨vs, hv⟩ := q.at_ a ha
    rw [s _ _ hv, hv]⟩⟩
instance {dss : List (List PyData)} : AsD (hLL dss) (.list (dss.map .list)) := ⟨fun v F G H f g ⟨l, as, e, h, q⟩ => by rw [e]; exact .lst h (q.dt (f.trans g))⟩
/-- the outer list stands still at l, the inner ones at as are one's own -/
def cNs (l0 : Addr) (as : List Addr) (dss : List (List PyData)) : Cp where
  C := fun l fp H F G => l = l0 ∧ fp = as ∧ as.Nodup ∧ G l = some (.lst (as.map V.ref)) ∧ Inn H F as dss
  mono := fun f g k ⟨el, e, nd, h, q⟩ => ⟨el, e, nd, g _ _ h, q.mono f fun a ha => k a (by rw [e]; exact ha)⟩
  there := fun ⟨el, e, nd, h, q⟩ a ha => by
    rw [e] at ha
    obtain ⟨vs, hv⟩ := q.at_ a ha
    exact ⟨_, hv, fun _ z => nomatch z⟩
  det := fun _ ⟨_, e, _⟩ ⟨_, e', _⟩ => e'.trans e.symm
section
variable {X : Cx} {N : List Str} {nm : List (Str × NameKind)} {k : Nat} {W : Wd} {D : Ends} {gh : Gh} {Γ Γ' : List Sl} {ss : List Stmt} {a b e o : Expr} {es : List Expr} {pos p apos np cpos : Pos} {x : Str} {dss : List (List PyData)} {ds : List PyData} {d : PyData}
def EvN (X : Cx) (Γ : List Sl) (es : List Expr) (dss : List (List PyData)) : Prop := ∀ (W : Wd) (gh : Gh) (σ : L2.St) (F G H : Hp), En W gh Γ σ F G H → ∀ Q : List V → Hp → Prop,
  (∀ as F' G' H', En W gh Γ σ F' G' H' → Gr F G H F' G' H' → (∀ a ∈ as, H a = none ∧ G' a = none) → as.Nodup → Inn H' F' as dss → Q (as.map V.ref) H') → AW X es σ H Q
theorem evn_nil : EvN X Γ [] [] := fun W gh σ F G H E Q q => AW.of pa_nil (q [] F G H E (Gr.refl _ _ _) (fun _ h => nomatch h) List.nodup_nil .nil)
theorem evn_cons (h : EvO X Γ e (cD ds)) (t : EvN X Γ es dss) (hs : starEach (e :: es) X.env = (false, eval e X.env) :: starEach es X.env := by rfl) : EvN X Γ (e :: es) (ds :: dss) := fun W gh σ F G H E Q q =>
  AW.of (pa_cons pe_w pa_w hs) (h W gh σ F G H E _ fun l fo F1 G1 H1 E1 x1 hn ⟨ef, vs, hl, pv⟩ => t W gh σ F1 G1 H1 E1 _ fun as F2 G2 H2 E2 x2 hn2 nd inn => by
    subst ef
    obtain ⟨h0, g1⟩ := hn l List.mem_cons_self
    refine q (l :: as) F2 G2 H2 E2 (x1.trans x2) (fun a ha => ?_) (List.nodup_cons.mpr ⟨fun z => ?_, nd⟩) (.cons ⟨vs, x2.s _ _ hl, dtAll_same x2.f _ _ pv⟩ inn)
    · rcases List.mem_cons.mp ha with rfl | ha
      · exact ⟨h0, x2.n _ _ hl (fun _ z => nomatch z) g1⟩
      · exact ⟨x1.s.free (hn2 a ha).1, (hn2 a ha).2⟩
    · have := (hn2 l z).1
      rw [hl] at this
      cases this)
theorem evo_nest (h : EvN X Γ es dss) (hl : dss.length ≤ sizeLine := by exact Nat.le_of_ble_eq_true rfl) : EvO X Γ (.List es pos) (cN dss) := fun W gh σ F G H E Q q =>
  EW.of (pe_lst pa_w) (h W gh σ F G H E _ fun as F1 G1 H1 E1 x1 hn nd inn => ⟨by rw [List.length_map, inn.len]; exact hl, fun l hp => by
    have ne : ∀ a ∈ as, a ≠ l := fun a ha z => by
      subst z
      obtain ⟨vs, hv⟩ := inn.at_ a ha
      rw [hp] at hv
      cases hv
    refine q l (l :: as) F1 G1 _ (E1.new hp) (x1.new hp) (fun a ha => ?_) ⟨as, rfl, List.nodup_cons.mpr ⟨fun z => ne l z rfl, nd⟩, upd_same, inn.mono (Same.refl _) fun a ha => upd_ne (ne a ha)⟩
    rcases List.mem_cons.mp ha with rfl | ha
    · exact ⟨x1.s.free hp, E1.gH.free hp⟩
    · exact hn a ha⟩)
theorem ev_varN (xf : XV X N nm) (i : Nat) (hi : Γ[i]? = some (.ow (cN dss)) := by rfl) (hN : N[i]? = some x := by rfl) (hv : visB nm x = true := by decide +kernel) (hd : (x == ("__debug__" : Str)) = false := by decide +kernel)
    (hcd : (x == ("__classdict__" : Str)) = false := by decide +kernel) : Ev X Γ (.Name x pos) (hLL dss) := fun W gh σ F G H E Q q => by
  obtain ⟨fp, ow, _⟩ := E.ow
  obtain ⟨l, e, gl, as, _, _, h, inn⟩ := ow i _ hi
  exact EW.of (pe_var (xf.at_ hN) (xf.vis hv) hd hcd) ⟨_, e, q _ F G H E (Gr.refl _ _ _) ⟨l, as, rfl, h, inn⟩⟩
theorem ev_ixN {i : Int} {j : Nat} (ha : Ev X Γ a (hLL dss)) (hb : Ev X Γ b (rD (.int i))) (hi : ixN dss.length i = some j) (hj : dss[j]? = some ds) (hs : PlainIx b := by exact fun _ _ => rfl) : Ev X Γ (.Subscript a b pos) (hD ds) := fun W gh σ F G H E Q q =>
  EW.of (pe_ix ix_list pe_w pe_w hs) (ev_seq ha hb E fun v y F' G' H' E' x0 ⟨l, as, ev, hl, inn⟩ p2 => by
    cases int_inv p2
    obtain ⟨a, vs, ea, h, p⟩ := inn.get hj
    refine ⟨l, _, i, .ref a, ev, rfl, .inl (.inl hl), ?_, q (.ref a) F' G' H' E' x0 ⟨a, vs, rfl, h, p⟩⟩
    unfold atI
    rw [List.length_map, inn.len, hi]
    show (as.map V.ref)[j]? = _
    rw [List.getElem?_map, ea]
    rfl)
/-- x[i].append(e), x an own list of lists -/
theorem blk_appN {ix : Expr} {n : Int} {j : Nat} {sp : Pos} (xb : XB X N nm k) (i : Nat) (hi : Γ[i]? = some (.ow (cN dss))) (hx : Ev X Γ ix (rD (.int n))) (hn : ixN dss.length n = some j) (hj : dss[j]? = some ds) (h : Ev X Γ e (rD d)) (hz : ds.length < sizeLine) (t : Blk X W D gh (Γ.set i (.ow (cN (dss.set j (ds ++ [d]))))) ss)
    (hN : N[i]? = some x := by rfl) (hv : visB nm x = true := by decide +kernel) (hd : (x == ("__debug__" : Str)) = false := by decide +kernel) (hcd : (x == ("__classdict__" : Str)) = false := by decide +kernel) (hs : PlainIx ix := by exact fun _ _ => rfl)
    (hbase : attributeBase (.Subscript (.Name x np) ix sp) ("append" : Str) X.env (eval (.Subscript (.Name x np) ix sp) X.env) = eval (.Subscript (.Name x np) ix sp) X.env := by rfl)
    (hfew : ((backTo cpos (starEach [e] X.env)).all (fun x => !x.1) && (backToKw cpos (keywordEach [] X.env)).all (fun x => x.1.isSome)
      && decide ([e].length + ([] : List Keyword).length + (if ([] : List Keyword).isEmpty then 0 else 1) < 30)) = true := by rfl)
    (hline : (apos.endLine == cpos.line) = true := by rfl) (he : starEach [e] X.env = (false, eval e X.env) :: starEach [] X.env := by rfl)
    (hsw : swapsWith (.Call (.Attribute (.Subscript (.Name x np) ix sp) "append" apos) [e] [] cpos) none pos.line X.env = pure false := by rfl) :
    Blk X W D gh Γ (.Expr (.Call (.Attribute (.Subscript (.Name x np) ix sp) "append" apos) [e] [] cpos) pos :: ss) :=
  blk_ps (ps_expr (pe_bm PySem.F.plainAttrs_list PySem.F.slot_list_append PySem.F.type_list_append mt_append (pe_ix ix_list (pe_var (xb.at_ hN) (xb.vis hv) hd hcd) pe_w hs) (pa_cons pe_w pa_nil he) hbase hfew hline he) hsw) fun σ F G H E => by
    obtain ⟨fp, ow, _⟩ := E.ow
    obtain ⟨l, e1, gn, as, ef, nd, hl, inn⟩ := ow i _ hi
    refine ⟨_, e1, hx W gh σ F G H E _ fun y F1 G1 H1 E1 x1 p1 => ?_⟩
    cases int_inv p1
    have inn1 : Inn H1 F1 as dss := inn.mono x1.f fun a ha => by
      obtain ⟨vs, hv⟩ := inn.at_ a ha
      rw [x1.s _ _ hv, hv]
    obtain ⟨q, vs, ea, hq, pv⟩ := inn1.get hj
    refine ⟨l, _, n, .ref q, rfl, rfl, .inl (.inl (x1.s _ _ hl)), ?_, ?_⟩
    · unfold atI
      rw [List.length_map, inn.len, hn]
      show (as.map V.ref)[j]? = _
      rw [List.getElem?_map, ea]
      rfl
    refine .inl ⟨rfl, _, .inl (.inl hq)⟩ |> fun z => ⟨z, ?_⟩
    refine h W gh σ F1 G1 H1 E1 _ fun v F2 G2 H2 E2 x2 p2 => ?_
    refine ⟨q, vs, v, rfl, rfl, x2.s _ _ hq, by rw [pv.length]; exact hz, ?_⟩
    exact t σ F2 G2 _ (E2.mut hi fun l' fo e2 qc gq => by
      rw [e1] at e2
      cases e2
      obtain ⟨as', ef', nd', hl', inn'⟩ := qc
      have ef3 := (cN dss).det (x1.s.trans x2.s) (F := F) (G := G) (fp := fp i) ⟨as, ef, nd, hl, inn⟩ (F' := F2) (G' := G2) ⟨as', ef', nd', hl', inn'⟩
      rw [ef', ef] at ef3
      cases ef3
      subst ef'
      refine ⟨List.mem_cons_of_mem _ (List.mem_of_getElem? ea), as, rfl, nd', ?_, inn'.set ((dtAll_same x2.f _ _ pv).snoc p2) (List.nodup_cons.mp nd').2 ea⟩
      rw [upd_ne fun z => (List.nodup_cons.mp nd').1 (by rw [z]; exact List.mem_of_getElem? ea)]
      exact hl')
/-- the nested list of slot i: its outer list stands still from now on, the inner ones are own -/
theorem blk_open (i : Nat) (hi : Γ[i]? = some (.ow (cN dss))) (t : ∀ l as, as.length = dss.length → Blk X W D gh (Γ.set i (.ow (cNs l as dss))) ss) : Blk X W D gh Γ ss := fun σ F G H E => by
  obtain ⟨fp, ow, hd⟩ := E.ow
  obtain ⟨l, e1, gn, as, ef, nd, hl, inn⟩ := ow i _ hi
  have gl : G l = none := gn l (by rw [ef]; exact List.mem_cons_self)
  have E1 : En W gh (Γ.set i .no) σ F G H := E.imp (by rw [List.length_set]) fun j a b ea eb => by
    by_cases y : i = j
    · subst y
      rw [List.getElem?_set] at eb
      simp only [if_true] at eb
      split at eb
      · injection eb with eb
        subst eb
        exact .no a
      · cases eb
    · rw [List.getElem?_set_ne y, ea] at eb
      injection eb with eb
      subst eb
      exact .refl a
  have apart : ∀ (j : Nat) (C' : Cp) (m : Addr) (fo : List Addr) (F' G' : Hp), i ≠ j → Γ[j]? = some (.ow C') → σ[j]? = some (some (V.ref m)) → C'.C m fo H F' G' → ∀ a ∈ l :: as, a ∉ fo := fun j C' m fo F' G' y ej e2 q a ha hp => by
    obtain ⟨m', e3, _, q'⟩ := ow j C' ej
    rw [e2] at e3
    cases e3
    rw [C'.det (Same.refl _) q' q] at hp
    exact hd i j _ C' a y hi ej (by rw [ef]; exact ha) hp
  have sl : ∀ {j : Nat} {C' : Cp}, (Γ.set i .no)[j]? = some (.ow C') → i ≠ j ∧ Γ[j]? = some (.ow C') := fun {j C'} ej => by
    by_cases y : i = j
    · subst y
      rw [List.getElem?_set] at ej
      simp at ej
    · rw [List.getElem?_set_ne y] at ej
      exact ⟨y, ej⟩
  have E2 := E1.still gl hl fun j C' m fo ej e2 q => apart j C' m fo _ _ (sl ej).1 (sl ej).2 e2 q l List.mem_cons_self
  have nd2 := List.nodup_cons.mp nd
  have E3 := E2.setO (i := i) (C := cNs l as dss) (l := l) (fo := as) (fun a ha => by
      rw [upd_ne fun z => nd2.1 (by rw [← z]; exact ha)]
      exact gn a (by rw [ef]; exact List.mem_cons_of_mem _ ha)) ⟨rfl, rfl, nd2.2, upd_same, inn⟩ (fun j C' m fo' y ej e2 q a ha => by
      rw [List.getElem?_set_ne y] at ej
      exact apart j C' m fo' _ _ y ej e2 q a (List.mem_cons_of_mem _ ha))
  rw [List.set_set] at E3
  have es : σ.set i (some (V.ref l)) = σ := by
    refine List.ext_getElem? fun j => ?_
    by_cases y : i = j
    · subst y
      rw [e1, List.getElem?_set_self (List.getElem?_eq_some_iff.mp e1).1]
    · rw [List.getElem?_set_ne y]
  rw [es] at E3
  exact t l as inn.len σ _ _ H E3
/-- the inner lists walked -/
theorem evi_open {l : Addr} {as : List Addr} {tg : Expr} (xf : XV X N nm) (i : Nat) (hi : Γ[i]? = some (.ow (cNs l as dss)) := by rfl) (hN : N[i]? = some x := by rfl) (hv : visB nm x = true := by decide +kernel) (hd : (x == ("__debug__" : Str)) = false := by decide +kernel)
    (hcd : (x == ("__classdict__" : Str)) = false := by decide +kernel) : EvI X Γ tg (.Name x pos) (as.map rRef) := fun W gh σ F G H E =>
  ⟨_, pi_list (pe_var (xf.at_ hN) (xf.vis hv) hd hcd), fun R q => by
    obtain ⟨fp, ow, _⟩ := E.ow
    obtain ⟨l', e1, gn, el, ef, nd, gl, inn⟩ := ow i _ hi
    subst el
    refine ⟨_, e1, l', rfl, ⟨_, .inl (.inl (E.gH _ _ gl))⟩, q (Itl X.K l') ⟨fun F G => G l' = some (.lst (as.map V.ref)), fun f g z => g _ _ z⟩ F G H (E.gw ⟨E.g, gl⟩) (Gr.refl _ _ _) ?_⟩
    exact {
      stop := fun F G H f g a => ⟨_, .inl (.inl (g _ _ a)), by rw [List.length_map, List.length_map]; exact Nat.le_refl _⟩
      go := fun i F G H hi f g a => ⟨_, (as.map V.ref)[i]'(by rw [List.length_map] at hi ⊢; exact hi), .inl (.inl (g _ _ a)), List.getElem?_eq_getElem _⟩
      yld := fun i R F G H x H' hi f g a y => by
        obtain ⟨e, y⟩ := y
        have hx := y _ (.inl (.inl (g _ _ a)))
        rw [List.getElem?_map] at hi hx
        cases z : as[i]? with
        | none => rw [z] at hi; cases hi
        | some b =>
          rw [z] at hi hx
          cases hi
          cases hx
          exact .inl ⟨e, rfl⟩ }⟩
/-- y.append(e), y one of the inner lists -/
theorem blk_appA {l a : Addr} {as : List Addr} {j : Nat} {y : Str} (xb : XB X N nm k) (i m : Nat) (hi : Γ[i]? = some (.ow (cNs l as dss))) (ha : as[j]? = some a) (hj : dss[j]? = some ds) (h : Ev X Γ e (rD d)) (hz : ds.length < sizeLine) (t : Blk X W D gh (Γ.set i (.ow (cNs l as (dss.set j (ds ++ [d]))))) ss)
    (hm : Γ[m]? = some (L3.vl (rRef a)) := by rfl) (hN : N[m]? = some y := by rfl) (hv : visB nm y = true := by decide +kernel) (hd : (y == ("__debug__" : Str)) = false := by decide +kernel) (hcd : (y == ("__classdict__" : Str)) = false := by decide +kernel)
    (hbase : attributeBase (.Name y np) ("append" : Str) X.env (eval (.Name y np) X.env) = eval (.Name y np) X.env := by rfl)
    (hfew : ((backTo cpos (starEach [e] X.env)).all (fun x => !x.1) && (backToKw cpos (keywordEach [] X.env)).all (fun x => x.1.isSome)
      && decide ([e].length + ([] : List Keyword).length + (if ([] : List Keyword).isEmpty then 0 else 1) < 30)) = true := by rfl)
    (hline : (apos.endLine == cpos.line) = true := by rfl) (he : starEach [e] X.env = (false, eval e X.env) :: starEach [] X.env := by rfl)
    (hsw : swapsWith (.Call (.Attribute (.Name y np) "append" apos) [e] [] cpos) none pos.line X.env = pure false := by rfl) :
    Blk X W D gh Γ (.Expr (.Call (.Attribute (.Name y np) "append" apos) [e] [] cpos) pos :: ss) :=
  blk_ps (ps_expr (pe_bm PySem.F.plainAttrs_list PySem.F.slot_list_append PySem.F.type_list_append mt_append (pe_var (xb.at_ hN) (xb.vis hv) hd hcd) (pa_cons pe_w pa_nil he) hbase hfew hline he) hsw) fun σ F G H E => by
    obtain ⟨fp, ow, _⟩ := E.ow
    obtain ⟨l', e1, gn, el, ef, nd, gl, inn⟩ := ow i _ hi
    obtain ⟨v, ev, pv⟩ := E.vl m _ _ hm
    have pv : v = .ref a := pv
    subst pv
    obtain ⟨a', vs, ea, hq, pd⟩ := inn.get hj
    rw [ha] at ea
    cases ea
    refine ⟨_, ev, .inl ⟨rfl, _, .inl (.inl hq)⟩, h W gh σ F G H E _ fun v F' G' H' E' x0 p1 => ?_⟩
    refine ⟨a, vs, v, rfl, rfl, x0.s _ _ hq, by rw [pd.length]; exact hz, ?_⟩
    exact t σ F' G' _ (E'.mut hi fun l2 fo e2 q gq => by
      obtain ⟨el', ef', nd', gl', inn'⟩ := q
      subst ef'
      exact ⟨List.mem_of_getElem? ha, el', rfl, nd', gl', inn'.set ((dtAll_same x0.f _ _ pd).snoc p1) nd' ha⟩)
/-- isinstance(y, list), y one of the inner lists -/
theorem ev_isA {l a : Addr} {as : List Addr} {j : Nat} {y : Str} {p1 p2 p3 : Pos} (xf : XV X N nm) (bi : Bl X "isinstance") (bl : Bl X "list") (i m : Nat) (ha : as[j]? = some a) (hj : dss[j]? = some ds) (hi : Γ[i]? = some (.ow (cNs l as dss)) := by rfl) (hm : Γ[m]? = some (L3.vl (rRef a)) := by rfl) (hN : N[m]? = some y := by rfl) (hv : visB nm y = true := by decide +kernel) (hd : (y == ("__debug__" : Str)) = false := by decide +kernel) (hcd : (y == ("__classdict__" : Str)) = false := by decide +kernel) :
    Ev X Γ (.Call (.Name "isinstance" p1) [.Name y p2, .Name "list" p3] [] pos) (rD (.bool true)) := fun W gh σ F G H E Q q =>
  EW.of (pe_callB call_isi bi.hg bi.hm (by decide +kernel) (pa_cons (pe_var (xf.at_ hN) (xf.vis hv) hd hcd) (pa_cons (pe_bltn (v := .ty "list") bl.hg bl.hm (by decide +kernel) rfl) pa_nil (by rfl)) (by rfl)) (by decide) (by decide) (by rfl) (by rfl)) (by
    obtain ⟨fp, ow, _⟩ := E.ow
    obtain ⟨l', e1, gn, el, ef, nd, gl, inn⟩ := ow i _ hi
    obtain ⟨v, ev, pv⟩ := E.vl m _ _ hm
    have pv : v = .ref a := pv
    subst pv
    obtain ⟨a', vs, ea, hq, pd⟩ := inn.get hj
    rw [ha] at ea
    cases ea
    exact ⟨_, ev, _, _, _, _, true, rfl, .ty "list", .base (.lst hq), kit_ty (by decide +kernel), q _ F G H E (Gr.refl _ _ _) (.bl true)⟩)
end
end L3
/-! L3, part o: comprehensions of two clauses. -/
namespace L3
open PySem PySem.Spec PyProof.Rows L2
structure IW (X : Cx) (tg it : Expr) (σ : L2.St) (H : Hp) (R : It → Hp → Prop) : Prop where
  go : ∀ (pins : List (Addr × Obj)) (s : Shared), Inv X pins σ H s → wpAny (model X.prog X.w) X.A (eval it X.env) (fun v s1 => wpAny (model X.prog X.w) X.A (pyIter v) (PIE X pins σ tg R) X.xe s1) X.xe s
theorem pi_w {X : Cx} {tg it : Expr} : PI X tg it (IW X tg it) := ⟨fun pins s _ _ _ I h => h.go pins s I⟩
theorem IW.of {X : Cx} {tg it : Expr} {t : TI} {σ : L2.St} {H : Hp} {R : It → Hp → Prop} (h : PI X tg it t) (q : t σ H R) : IW X tg it σ H R := ⟨fun pins s I => h.run pins s σ H R I q⟩
section
variable {X : Cx} {N : List Str} {nm : List (Str × NameKind)} {k : Nat} {Γ : List Sl} {elt tg it tg1 it1 : Expr} {ifs1 : List Expr} {scope : Scope} {pos : Pos}
/-- what a two-clause comprehension makes -/
def two {α β γ : Type} (xs : List α) (ys : α → List β) (p : α → β → Bool) (f : α → β → γ) : List γ := xs.flatMap fun x => ((ys x).filter (p x)).map (f x)
theorem two_snoc {α β γ : Type} (xs : List α) (x : α) (ys : α → List β) (p : α → β → Bool) (f : α → β → γ) : two (xs ++ [x]) ys p f = two xs ys p f ++ ((ys x).filter (p x)).map (f x) := by
  unfold two
  rw [List.flatMap_append, List.flatMap_cons, List.flatMap_nil, List.append_nil]
theorem two_pre {α β γ : Type} (xs : List α) (ys : α → List β) (p : α → β → Bool) (f : α → β → γ) {i : Nat} {x : α} (h : xs[i]? = some x) (j : Nat) : (two (xs.take i) ys p f).length + (((ys x).take j).filter (p x)).length ≤ (two xs ys p f).length := by
  have e := (split_at h).1
  have e2 : two xs ys p f = two (xs.take i) ys p f ++ (((ys x).filter (p x)).map (f x) ++ two (xs.drop (i + 1)) ys p f) := by
    conv => lhs; rw [e]
    unfold two
    rw [List.flatMap_append, List.flatMap_cons]
  rw [e2, List.length_append, List.length_append, List.length_map]
  have : (((ys x).take j).filter (p x)).length ≤ ((ys x).filter (p x)).length := ((List.take_sublist j (ys x)).filter _).length_le
  omega
/-- the first's own slots are the second's -/
inductive OwAll : List Sl → List Sl → Prop
  | nil : OwAll [] []
  | same {a : Sl} {l m : List Sl} (t : OwAll l m) : OwAll (a :: l) (a :: m)
  | vl {R : Rp} {h : Sta R} {b : Sl} {l m : List Sl} (t : OwAll l m) : OwAll (.vl R h :: l) (b :: m)
theorem OwAll.get : ∀ {l m : List Sl}, OwAll l m → ∀ {i : Nat} {C : Cp}, l[i]? = some (.ow C) → m[i]? = some (.ow C)
  | _, _, .nil, _, _, e => by simp at e
  | _, _, .same t, 0, C, e => by simpa using e
  | _, _, .same t, i + 1, C, e => by simpa using OwAll.get t (i := i) (by simpa using e)
  | _, _, .vl t, 0, C, e => by simp at e
  | _, _, .vl t, i + 1, C, e => by simpa using OwAll.get t (i := i) (by simpa using e)
theorem lc2_t {α β : Type} {R : α → Rp} {R1 : α → β → Rp} {f : α → β → PyData} {p : α → β → Bool} {xs : List α} {ys : α → List β} {ts ts1 : List Nat} (own : List (Str × Nat)) (vs1 : List Nat) (xf : XC X N nm k) (hi : EvI X Γ tg it (xs.map R)) (hz : (two xs ys p f).length ≤ sizeLine) (Γt : α → List Sl) (Γt1 : α → β → List Sl)
    (hts : ∀ j ∈ ts, j ∈ own.map (·.2)) (hts1 : ∀ j ∈ ts1, j ∈ vs1) (hsub : ∀ x ∈ xs, OwAll (Γt x) (wipeG Γ (own.map (·.2))))
    (hg : Bk X N nm k scope fun Y => ∀ x ∈ xs, Tg Y (wipeG Γ (own.map (·.2))) (R x) tg (Γt x) ts)
    (hi1 : Bk X N nm k scope fun Y => ∀ x ∈ xs, EvI Y (Γt x) tg1 it1 ((ys x).map (R1 x)))
    (hg1 : Bk X N nm k scope fun Y => ∀ x ∈ xs, ∀ y ∈ ys x, Tg Y (wipeG (Γt x) vs1) (R1 x y) tg1 (Γt1 x y) ts1)
    (ht1 : Bk X N nm k scope fun Y => ∀ x ∈ xs, ∀ y ∈ ys x, Vv Y (Γt1 x y) ifs1 (p x y))
    (he : Bk X N nm k scope fun Y => ∀ x ∈ xs, ∀ y ∈ ys x, p x y = true → Ev Y (Γt1 x y) elt (rD (f x y))) (hk : scope.kind = .function) (W : Wd) (gh : Gh) (σ : L2.St) (F0 G0 H0 : Hp) (E0 : En W gh Γ σ F0 G0 H0) :
    ∃ wi g tt wi1 g1 tt1 te, PI X tg it wi ∧ (∀ s H C cl fp, PG (bx X s H scope C cl fp) tg g) ∧ (∀ s H C cl fp, PTs (bx X s H scope C cl fp) [] tt) ∧ (∀ s H C cl fp, PI (bx X s H scope C cl fp) tg1 it1 wi1) ∧ (∀ s H C cl fp, PG (bx X s H scope C cl fp) tg1 g1) ∧ (∀ s H C cl fp, PTs (bx X s H scope C cl fp) ifs1 tt1) ∧ (∀ s H C cl fp, PE (bx X s H scope C cl fp) elt te) ∧
      ∀ Q : VK, (∀ l fo F' G' H', En W gh Γ σ F' G' H' → Gr F0 G0 H0 F' G' H' → (∀ a ∈ fo, H0 a = none ∧ G' a = none) → (cD (two xs ys p f)).C l fo H' F' G' → Q (.ref l) H') → tLc2 wi g tt wi1 g1 tt1 te (own.map (·.2)) vs1 σ H0 Q := by
  obtain ⟨wi, hpi, hR⟩ := hi W gh σ F0 G0 H0 E0
  refine ⟨wi, fun v σ H Q => ∀ s H0 C cl fp, GW (bx X s H0 scope C cl fp) tg v σ H Q, tYes, fun σ H Q => ∀ s H0 C cl fp, IW (bx X s H0 scope C cl fp) tg1 it1 σ H Q, fun v σ H Q => ∀ s H0 C cl fp, GW (bx X s H0 scope C cl fp) tg1 v σ H Q, fun σ H Q => ∀ s H0 C cl fp, VW (bx X s H0 scope C cl fp) ifs1 σ H Q, fun σ H Q => ∀ s H0 C cl fp, EW (bx X s H0 scope C cl fp) elt σ H Q, hpi,
    fun s H C cl fp => ⟨fun pins s' σ H' v u Q I r h => (h s H C cl fp).go pins s' u I r⟩, fun s H C cl fp => pts_nil, fun s H C cl fp => ⟨fun pins s' σ H' Q I h => (h s H C cl fp).go pins s' I⟩, fun s H C cl fp => ⟨fun pins s' σ H' v u Q I r h => (h s H C cl fp).go pins s' u I r⟩, fun s H C cl fp => ⟨fun pins s' σ H' Q I h => (h s H C cl fp).go pins s' I⟩, fun s H C cl fp => ⟨fun pins s' σ H' Q I h => (h s H C cl fp).go pins s' I⟩, fun Q q => ?_⟩
  refine hR _ fun J g F1 G1 H1 E1 x1 ok D hD => ?_
  have gD := E1.gH.free hD
  have Ew := E1.wipe (own.map (·.2))
  have hln : (xs.map R).length = xs.length := List.length_map ..
  let Pv : Nat → Hp → Prop := fun i H => ∃ F G acc, En W (gh.and g) (wipeG Γ (own.map (·.2))) (wipe σ (own.map (·.2))) F G H ∧ Gr F1 G1 H1 F G H ∧ G D = none ∧ H D = some (.lst acc) ∧ DtAll F acc (two (xs.take i) ys p f)
  refine ⟨fun i m H => m = xs.length - i ∧ i ≤ xs.length ∧ Pv i H, ⟨xs.length, by simp, Nat.zero_le _, F1, G1, [], Ew.new hD, (Gr.refl _ _ _).new hD, gD, upd_same, .nil⟩, ?_⟩
  rintro i m H ⟨rfl, hi, F, G, acc, E, x, gDn, hDa, pa⟩
  by_cases hlt : i < xs.length
  · refine .inr ⟨ok.go i F G H (by rw [hln]; exact hlt) E.fg E.gH E.g.2, Pv (i + 1), fun H' p' => ⟨xs.length - (i + 1), by omega, rfl, hlt, p'⟩, fun v H3 y => ?_⟩
    have hx := List.getElem?_eq_getElem hlt
    have hRx : (xs.map R)[i]? = some (R xs[i]) := by rw [List.getElem?_map, hx]; rfl
    have mem : xs[i] ∈ xs := List.getElem_mem hlt
    obtain ⟨F3, G3, E3, x3, p3⟩ := E.step (gh' := gh.and g) (by exact ⟨fun F G H a b c => ok.stop F G H a b c, fun i F G H h a b c => ok.go i F G H h a b c, ok.yld⟩) E.g.2 hRx y
    intro s H0 C cl fp
    refine hg s H0 C cl fp (xf.blk hk s H0 C cl fp) _ mem W _ _ F3 G3 H3 v E3 p3 _ fun σ4 E4 w4 => ⟨(w4 _ hts).trans wipe_wipe, ?_⟩
    refine iteT (B := Pv (i + 1) H3) fun s H0 C cl fp => ?_
    obtain ⟨wi1, hpi1, hR1⟩ := hi1 s H0 C cl fp (xf.blk hk s H0 C cl fp) _ mem W _ σ4 F3 G3 H3 E4
    refine IW.of hpi1 (hR1 _ fun J1 g1 F4 G4 H4 E4' x4 ok1 => ?_)
    have Ew4 := E4'.wipe vs1
    have hln1 : ((ys xs[i]).map (R1 xs[i])).length = (ys xs[i]).length := List.length_map ..
    let Pv1 : Nat → Hp → Prop := fun j H => ∃ F G acc, En W ((gh.and g).and g1) (wipeG (Γt xs[i]) vs1) (wipe σ4 vs1) F G H ∧ En W (gh.and g) (wipeG Γ (own.map (·.2))) (wipe σ (own.map (·.2))) F G H ∧ Gr F1 G1 H1 F G H ∧ G D = none ∧ H D = some (.lst acc) ∧ DtAll F acc (two (xs.take i) ys p f ++ (((ys xs[i]).take j).filter (p xs[i])).map (f xs[i]))
    have xx4 := x3.trans x4
    refine ⟨fun j m H => m = (ys xs[i]).length - j ∧ j ≤ (ys xs[i]).length ∧ Pv1 j H, ⟨_, rfl, Nat.zero_le _, F4, G4, acc, Ew4, E.back E4' xx4, x.trans xx4, xx4.n D _ hDa (fun _ z => nomatch z) gDn, xx4.s _ _ hDa, by
      rw [List.take_zero, List.filter_nil, List.map_nil, List.append_nil]
      exact dtAll_same xx4.f _ _ pa⟩, ?_⟩
    rintro j m H ⟨rfl, hj, F, G, acc, E5, Eb, x5, gDn, hDa, pa⟩
    by_cases hlj : j < (ys xs[i]).length
    · refine .inr ⟨ok1.go j F G H (by rw [hln1]; exact hlj) E5.fg E5.gH E5.g.2, Pv1 (j + 1), fun H' p' => ⟨(ys xs[i]).length - (j + 1), by omega, rfl, hlj, p'⟩, fun v H6 y => ?_⟩
      have hy := List.getElem?_eq_getElem hlj
      have hRy : ((ys xs[i]).map (R1 xs[i]))[j]? = some (R1 xs[i] (ys xs[i])[j]) := by rw [List.getElem?_map, hy]; rfl
      have memy : (ys xs[i])[j] ∈ ys xs[i] := List.getElem_mem hlj
      obtain ⟨F6, G6, E6, x6, p6⟩ := E5.step (gh' := (gh.and g).and g1) (by exact ⟨fun F G H a b c => ok1.stop F G H a b c, fun i F G H h a b c => ok1.go i F G H h a b c, ok1.yld⟩) E5.g.2 hRy y
      intro s H0 C cl fp
      refine hg1 s H0 C cl fp (xf.blk hk s H0 C cl fp) _ mem _ memy W _ _ F6 G6 H6 v E6 p6 _ fun σ7 E7 w7 => ⟨(w7 _ hts1).trans wipe_wipe, fun s H0 C cl fp => ?_⟩
      refine ht1 s H0 C cl fp (xf.blk hk s H0 C cl fp) _ mem _ memy W _ σ7 F6 G6 H6 E7 _ fun F8 G8 H8 E8 x8 => ?_
      have x68 := x6.trans x8
      cases z : p xs[i] (ys xs[i])[j] with
      | false =>
        refine iteF ⟨F8, G8, acc, E5.back E8 x68, Eb.back E8 x68, x5.trans x68, x68.n D _ hDa (fun _ z => nomatch z) gDn, x68.s _ _ hDa, ?_⟩
        rw [(split_at hy).2, List.filter_append, List.filter_cons_of_neg (by rw [z]; exact Bool.false_ne_true), List.filter_nil, List.append_nil]
        exact dtAll_same x68.f _ _ pa
      | true =>
        refine iteT fun s H0 C cl fp => he s H0 C cl fp (xf.blk hk s H0 C cl fp) _ mem _ memy z W _ σ7 F8 G8 H8 E8 _ fun u F9 G9 H9 E9 x9 p9 => ?_
        have x69 := x68.trans x9
        have hD9 := x69.s _ _ hDa
        have gD9 := x69.n D _ hDa (fun _ z => nomatch z) gDn
        have en1 := E5.back E9 x69
        have en2 := Eb.back E9 x69
        have tot := two_pre xs ys p f hx (j + 1)
        rw [(split_at hy).2, List.filter_append, List.filter_cons_of_pos z, List.filter_nil, List.length_append, List.length_singleton] at tot
        have la : acc.length < sizeLine := by
          rw [pa.length, List.length_append, List.length_map]
          omega
        have xx := x5.trans x69
        refine ⟨acc, hD9, la, F9, G9, acc ++ [u], en1.other gD9 (fun n C' m fo e e1 q => ?_), en2.other gD9 (Ew.notOwn xx.s hD), ?_, gD9, upd_same, ?_⟩
        · rcases wipeG_get e with z1 | ⟨z1, z2⟩
          · cases z1
          · have z3 := (hsub _ mem).get z2
            rcases wipeG_get z3 with z4 | ⟨z4, _⟩
            · cases z4
            · refine Ew.notOwn xx.s hD n C' m fo z3 ?_ q
              have w5 := w4 _ hts
              have w6 : (wipe σ4 (own.map (·.2)))[n]? = σ4[n]? := by rw [wipe_get, if_neg fun z => z4 z.1]
              rw [wipe_get, if_neg fun z => z1 z.1] at e1
              rw [← e1, ← w6, w5, wipe_wipe]
        · exact ⟨xx.f, xx.g, fun b o e => by rw [upd_ne (ne_of_none e hD)]; exact xx.s b o e, xx.n⟩
        · rw [(split_at hy).2, List.filter_append, List.filter_cons_of_pos z, List.filter_nil, List.map_append, ← List.append_assoc]
          exact (dtAll_same x69.f _ _ pa).snoc p9
    · have e : j = (ys xs[i]).length := by omega
      subst e
      refine .inl ⟨by rw [← hln1]; exact ok1.stop F G H E5.fg E5.gH E5.g.2, F, G, acc, Eb, x5, gDn, hDa, ?_⟩
      rw [List.take_length] at pa
      rw [(split_at hx).2, two_snoc]
      exact pa
  · have e : i = xs.length := by omega
    subst e
    refine .inl ⟨by rw [← hln]; exact ok.stop F G H E.fg E.gH E.g.2, ?_⟩
    have EE := E1.back E x
    rw [List.take_length] at pa
    exact q D [D] F G H (EE.gw EE.g.1) (x1.trans x) (one_new (x1.s.free hD) gDn) ⟨rfl, acc, hDa, pa⟩
theorem evo_lc2 {α β : Type} {R : α → Rp} {R1 : α → β → Rp} {f : α → β → PyData} {p : α → β → Bool} {xs : List α} {ys : α → List β} {ts ts1 : List Nat} (own : List (Str × Nat)) (vs1 : List Nat) (xf : XC X N nm k) (hi : EvI X Γ tg it (xs.map R)) (hz : (two xs ys p f).length ≤ sizeLine) (Γt : α → List Sl) (Γt1 : α → β → List Sl)
    (hts : ∀ j ∈ ts, j ∈ own.map (·.2)) (hts1 : ∀ j ∈ ts1, j ∈ vs1) (hv : ∀ i ∈ vs1, i ∈ own.map (·.2)) (hsub : ∀ x ∈ xs, OwAll (Γt x) (wipeG Γ (own.map (·.2))))
    (hg : Bk X N nm k scope fun Y => ∀ x ∈ xs, Tg Y (wipeG Γ (own.map (·.2))) (R x) tg (Γt x) ts)
    (hi1 : Bk X N nm k scope fun Y => ∀ x ∈ xs, EvI Y (Γt x) tg1 it1 ((ys x).map (R1 x)))
    (hg1 : Bk X N nm k scope fun Y => ∀ x ∈ xs, ∀ y ∈ ys x, Tg Y (wipeG (Γt x) vs1) (R1 x y) tg1 (Γt1 x y) ts1)
    (ht1 : Bk X N nm k scope fun Y => ∀ x ∈ xs, ∀ y ∈ ys x, Vv Y (Γt1 x y) ifs1 (p x y))
    (he : Bk X N nm k scope fun Y => ∀ x ∈ xs, ∀ y ∈ ys x, p x y = true → Ev Y (Γt1 x y) elt (rD (f x y)))
    (hb : blkN N nm scope own = true := by decide +kernel) (hk : scope.kind = .function := by rfl) (hs : ∀ x, foldedSetIterable it X.env x = pure x := by intro _; rfl) (hs1 : ∀ env x, foldedSetIterable it1 env x = pure x := by intro _ _; rfl) :
    EvO X Γ (.ListComp elt [⟨tg, it, [], 0⟩, ⟨tg1, it1, ifs1, 0⟩] scope pos) (cD (two xs ys p f)) := fun W gh σ F0 G0 H0 E0 Q q => by
  obtain ⟨wi, g, tt, wi1, g1, tt1, te, h1, h2, h3, h4, h5, h6, h7, h8⟩ := lc2_t own vs1 xf hi hz Γt Γt1 hts hts1 hsub hg hi1 hg1 ht1 he hk W gh σ F0 G0 H0 E0
  exact EW.of (pe_lc2 xf.calm xf.nd h1 (blkOk_by (blkN_ok xf.toXV hb)) hv h2 h3 h4 h5 h6 h7 hs hs1) (h8 Q q)
theorem blk_setLc2 {α β : Type} {R : α → Rp} {R1 : α → β → Rp} {f : α → β → PyData} {p : α → β → Bool} {xs : List α} {ys : α → List β} {ts ts1 : List Nat} {W : Wd} {D : Ends} {gh : Gh} {ss : List Stmt} {z : Str} {py spos : Pos} (xb : XB X N nm k) (i : Nat) (own : List (Str × Nat)) (vs1 : List Nat) (hi : EvI X Γ tg it (xs.map R)) (hz : (two xs ys p f).length ≤ sizeLine) (Γt : α → List Sl) (Γt1 : α → β → List Sl)
    (hts : ∀ j ∈ ts, j ∈ own.map (·.2)) (hts1 : ∀ j ∈ ts1, j ∈ vs1) (hv : ∀ i ∈ vs1, i ∈ own.map (·.2)) (hsub : ∀ x ∈ xs, OwAll (Γt x) (wipeG Γ (own.map (·.2))))
    (hg : Bk X N nm k scope fun Y => ∀ x ∈ xs, Tg Y (wipeG Γ (own.map (·.2))) (R x) tg (Γt x) ts)
    (hi1 : Bk X N nm k scope fun Y => ∀ x ∈ xs, EvI Y (Γt x) tg1 it1 ((ys x).map (R1 x)))
    (hg1 : Bk X N nm k scope fun Y => ∀ x ∈ xs, ∀ y ∈ ys x, Tg Y (wipeG (Γt x) vs1) (R1 x y) tg1 (Γt1 x y) ts1)
    (ht1 : Bk X N nm k scope fun Y => ∀ x ∈ xs, ∀ y ∈ ys x, Vv Y (Γt1 x y) ifs1 (p x y))
    (he : Bk X N nm k scope fun Y => ∀ x ∈ xs, ∀ y ∈ ys x, p x y = true → Ev Y (Γt1 x y) elt (rD (f x y)))
    {ds : List PyData} (hds : two xs ys p f = ds) (t : Blk X W D gh (Γ.set i (.ow (cD ds))) ss)
    (hb : blkN N nm scope own = true := by decide +kernel) (hk : scope.kind = .function := by rfl) (hN : N[i]? = some z := by rfl) (hl : onlyB nm z = true := by decide +kernel)
    (hline : (py.line == pos.line) = true := by decide) (ha : (scope.names.any fun (n, k) => n == z && (k == .local || k == .cell)) = false := by decide +kernel)
    (hs : ∀ x, foldedSetIterable it X.env x = pure x := by intro _; rfl) (hs1 : ∀ env x, foldedSetIterable it1 env x = pure x := by intro _ _; rfl) : Blk X W D gh Γ (.Assign [.Name z py] (.ListComp elt [⟨tg, it, [], 0⟩, ⟨tg1, it1, ifs1, 0⟩] scope pos) spos :: ss) := fun σ F0 G0 H0 E0 => by
  subst hds
  obtain ⟨wi, g, tt, wi1, g1, tt1, te, h1, h2, h3, h4, h5, h6, h7, h8⟩ := lc2_t own vs1 xb.toXC hi hz Γt Γt1 hts hts1 hsub hg hi1 hg1 ht1 he hk W gh σ F0 G0 H0 E0
  refine BW.of (pss_cons (ps_setLc2 xb.calm xb.nd (xb.at_ hN) (xb.v.only hl) (sw_true xb.kd (xb.v.only hl) hline ha) h1 (blkOk_by (blkN_ok xb.v hb)) hv h2 h3 h4 h5 h6 h7 hs hs1) pss_w) ?_
  show tLc2 _ _ _ _ _ _ _ _ _ σ H0 (fun x H1 => BW X ss D (σ.set i (some x)) H1)
  exact h8 _ fun l fo F' G' H' E' x0 hn pc => t _ F' G' H' (E'.setO (fun a ha => (hn a ha).2) pc fun j C' m fo' _ e e1 q a ha => E0.notOwn x0.s (hn a ha).1 j C' m fo' e e1 q)
end
section
variable {X : Cx} {Γ : List Sl} {a b tg it : Expr} {pos : Pos}
theorem evi_cast {Rs Rs' : List Rp} (h : EvI X Γ tg it Rs) (k : Rs = Rs') : EvI X Γ tg it Rs' := k ▸ h
/-- x is True, x is False -/
theorem ev_isB {c d : Bool} (ha : Ev X Γ a (rD (.bool c))) (hb : Ev X Γ b (rD (.bool d))) : Ev X Γ (.Compare a [.Is] [b] pos) (rD (.bool (decide (c = d)))) := ev_cmp0 op_is_bl ha hb (fun x y F G H f g p1 p2 => ⟨_, .bl _, fun Q q => ⟨c, d, bool_inv p1, bool_inv p2, q⟩⟩) (nomark _)
theorem tv_isB {c d : Bool} (ha : Ev X Γ a (rD (.bool c))) (hb : Ev X Γ b (rD (.bool d))) : Tv X Γ (.Compare a [.Is] [b] pos) (decide (c = d)) := tv_cmp0 op_is_bl ha hb (fun x y F G H f g p1 p2 Q q => ⟨c, d, bool_inv p1, bool_inv p2, q⟩) (nomark _)
theorem ev_nisB {c d : Bool} (ha : Ev X Γ a (rD (.bool c))) (hb : Ev X Γ b (rD (.bool d))) : Ev X Γ (.Compare a [.IsNot] [b] pos) (rD (.bool (!decide (c = d)))) := ev_cmp0 op_isnot_bl ha hb (fun x y F G H f g p1 p2 => ⟨_, .bl _, fun Q q => ⟨c, d, bool_inv p1, bool_inv p2, q⟩⟩) (nomark _)
theorem tv_nisB {c d : Bool} (ha : Ev X Γ a (rD (.bool c))) (hb : Ev X Γ b (rD (.bool d))) : Tv X Γ (.Compare a [.IsNot] [b] pos) (!decide (c = d)) := tv_cmp0 op_isnot_bl ha hb (fun x y F G H f g p1 p2 Q q => ⟨c, d, bool_inv p1, bool_inv p2, q⟩) (nomark _)
end
section
variable {X : Cx} {N : List Str} {nm : List (Str × NameKind)} {W : Wd} {D : Ends} {gh : Gh} {Γ : List Sl} {ss : List Stmt} {e : Expr} {pos p : Pos} {x : Str} {R : Rp}
/-- x = e, where less is known of the context (an except's suite) -/
theorem blk_setV (xv : XV X N nm) (i : Nat) [hR : Sta R] (h : Ev X Γ e R) (t : Blk X W D gh (Γ.set i (.vl R hR)) ss) (hN : N[i]? = some x := by rfl) (hl : onlyB nm x = true := by decide +kernel)
    (hs : swapsWith e (some (.Name x p)) pos.line X.env = pure false := by rfl) : Blk X W D gh Γ (.Assign [.Name x p] e pos :: ss) :=
  blk_ps (ps_set xv.nd (xv.at_ hN) (.inl (xv.only hl)) pe_w hs (.inr (xv.only hl))) fun σ F G H E => h W gh σ F G H E _ fun v F' G' H' E' x0 pv => t _ F' G' H' (E'.setV pv)
/-- the end of a suite: the rest follows in the outer context -/
theorem blk_out {Y : Cx} {rt : VK} {bk ct : L2.St → Hp → Prop} {D' : Ends} (h : Blk Y W D' gh Γ ss) : Blk X W { nx := BW Y ss D', rt := rt, bk := bk, ct := ct } gh Γ [] := blk_nil fun σ F G H E => h σ F G H E
end
end L3
/-! L3, part q: what the head tells, defs found by any path. -/
namespace L3
open PySem PySem.Spec PyProof.Rows L2
/-- a property of a class, its getter -/
def prA (K : PySem.W.Frag) (C : Addr) (p : Str) : Addr := He.ma K C p
def prG (K : PySem.W.Frag) (C : Addr) (p : Str) : Addr := match PySem.W.recIn K (prA K C p) "property" with
  | some (.ref g :: _) => g
  | _ => 0
def eqT {α : Type} [DecidableEq α] (a b : Option α) : Bool := decide (a = b)
def prB (K : PySem.W.Frag) (C : Addr) (p : Str) : Bool := He.eqO (PySem.W.findIn K (.ref C) p) (some (some (.ref (prA K C p)))) && (He.eqO (PySem.W.specialIn K (.ref (prA K C p)) "__get__") (some (some (.builtin "property.__get__"))) && (decide (PySem.W.takesIn K (.ref (prA K C p)) = some true) &&
  match PySem.W.recIn K (prA K C p) "property" with
  | some (.ref _ :: _) => true
  | _ => false))
theorem prB_ok {K : PySem.W.Frag} {C : Addr} {p : Str} (h : prB K C p = true) : PropOf K C p (prA K C p) (prG K C p) := by
  obtain ⟨h1, h⟩ := He.ba h
  obtain ⟨h2, h⟩ := He.ba h
  obtain ⟨h3, h4⟩ := He.ba h
  refine ⟨He.eqO_ok h1, He.eqO_ok h2, of_decide_eq_true h3, ?_⟩
  have h4 : (match PySem.W.recIn K (prA K C p) "property" with
    | some (.ref _ :: _) => true
    | _ => false) = true := h4
  unfold prG
  cases e : PySem.W.recIn K (prA K C p) "property" with
  | none => rw [e] at h4; cases h4
  | some l =>
    rw [e] at h4
    cases l with
    | nil => cases h4
    | cons v r =>
      cases v with
      | ref g => exact ⟨r, rfl⟩
      | _ => cases h4
/-- a def, found by a path of one's own -/
structure DfQ where
  at_ : PySem.W.Frag → Addr
  name : Str
  qual : Str
  st : Stmt
def DfQ.val (d : DfQ) : He.FnW := some (d.name, d.qual, defArgs d.st, .stmts (defBody d.st), defScope d.st, mainGlobals, [], builtinsNs)
def DfQ.tells (K : PySem.W.Frag) (d : DfQ) : He.FnW := match K.lookup (d.at_ K) with
  | some ⟨_, _, .func fd, _⟩ => some (fd.name, fd.qualname, fd.params, fd.body, fd.scope, fd.globals, fd.closure, fd.builtins)
  | _ => none
def DfQ.ok (K : PySem.W.Frag) (d : DfQ) : Bool := PySem.W.keepIn K (.ref (d.at_ K)) && (match K.lookup (d.at_ K) with
  | some ⟨_, _, .func fd, _⟩ => PySem.W.codeIn K fd.code d.qual && (He.dflB K fd.defaults [] && He.kwdB K fd.kwdefaults [])
  | _ => false)
theorem DfQ.funD {K : PySem.W.Frag} {d : DfQ} (e : d.tells K = d.val) (c : d.ok K = true) : ∃ fd, FunD K d.name d.qual (defArgs d.st) (defBody d.st) (defScope d.st) [] [] (d.at_ K) fd := by
  obtain ⟨kp, c2⟩ := He.ba c
  unfold DfQ.tells at e
  cases q : K.lookup (d.at_ K) with
  | none => rw [q] at c2; cases c2
  | some o =>
    obtain ⟨oc, od, dt, osl⟩ := o
    rw [q] at c2 e
    cases dt with
    | func fd =>
      obtain ⟨m1, m2, m3, m4, m5, m6, m7, m8, m9, m10, m11, m12, m13, m14, m15⟩ := fd
      simp only [DfQ.val, Option.some.injEq, Prod.mk.injEq] at e
      obtain ⟨rfl, rfl, rfl, rfl, rfl, rfl, rfl, rfl⟩ := e
      have c3 : (PySem.W.codeIn K m13 d.qual && (He.dflB K m8 [] && He.kwdB K m9 [])) = true := c2
      obtain ⟨k1, k2⟩ := He.ba c3
      obtain ⟨k3, k4⟩ := He.ba k2
      exact ⟨_, ⟨oc, od, m8, m9, m10, m11, m12, m13, m14, osl, rfl, q, k1, He.dflB_ok k3, He.kwdB_ok k4⟩, kp⟩
    | _ => cases c2
abbrev AlQ : Type := Bool × List He.FnW
def obsQ (ok : PySem.W.Frag → Bool) (fn : List DfQ) (K : PySem.W.Frag) : AlQ := (ok K && fn.all fun d => d.ok K, fn.map fun d => d.tells K)
def valQ (fn : List DfQ) : AlQ := (true, fn.map DfQ.val)
def SaysQ (ok : PySem.W.Frag → Bool) (fn : List DfQ) (K : PySem.W.Frag) : Prop := obsQ ok fn K = valQ fn
def obsQG (n : Nat) (ok : PySem.W.Frag → Bool) (fn : List DfQ) (g : Addr → Option Obj) : AlQ := obsQ ok fn (He.frG g (He.asD g n))
def hookQ (n : Nat) (ok : PySem.W.Frag → Bool) (fn : List DfQ) : PySem.W.Hook where
  α := AlQ
  obs := fun s => obsQG n ok fn s.heap.get?
  val := fun _ => valQ fn
  says := fun _ h => ∃ K : PySem.W.Frag, K.In h ∧ SaysQ ok fn K
  of := fun _ _ e => ⟨_, He.frG_in, e⟩
  keeps := fun _ _ _ ⟨K, hK, c⟩ k => ⟨K, PySem.W.Frag.In.keeps hK k, c⟩
theorem obsQG_eq {n : Nat} {ok : PySem.W.Frag → Bool} {fn : List DfQ} {g : Addr → Option Obj} {s : Shared} (h : ∀ a, g a = s.heap.get? a) : obsQG n ok fn g = (hookQ n ok fn).obs s := by
  have e : g = s.heap.get? := funext h
  rw [e] <;> rfl
theorem SaysQ.ok {ok : PySem.W.Frag → Bool} {fn : List DfQ} {K : PySem.W.Frag} (c : SaysQ ok fn K) : ok K = true :=
  (He.ba (show (ok K && fn.all fun d => d.ok K) = true from congrArg (fun z : AlQ => z.1) c)).1
theorem SaysQ.def_ {ok : PySem.W.Frag → Bool} {fn : List DfQ} {K : PySem.W.Frag} (c : SaysQ ok fn K) (i : Nat) {d : DfQ} (h : fn[i]? = some d := by rfl) : ∃ fd, FunD K d.name d.qual (defArgs d.st) (defBody d.st) (defScope d.st) [] [] (d.at_ K) fd := by
  have c2 := (He.ba (show (ok K && fn.all fun d => d.ok K) = true from congrArg (fun z : AlQ => z.1) c)).2
  have e : fn.map (fun d => d.tells K) = fn.map DfQ.val := congrArg (fun z : AlQ => z.2) c
  have e2 : (fn.map fun d => d.tells K)[i]? = (fn.map DfQ.val)[i]? := by rw [e]
  rw [List.getElem?_map, List.getElem?_map, h] at e2
  exact DfQ.funD (Option.some.inj e2) (List.all_eq_true.mp c2 d (List.mem_of_getElem? h))
/-- isinstance of an exception -/
def excCB (K : PySem.W.Frag) (D : Addr) : Bool := He.eqO (PySem.W.findIn K (.ref D) "__getattribute__") (some (some (.builtin "BaseException.__getattribute__"))) && (He.eqO (PySem.W.findIn K (.ref D) "__getattr__") (some none) && (decide (PySem.W.subIn K (.ref D) (.type "BaseException") = some true) &&
  (PySem.W.hasDictIn K D && (He.eqO (PySem.W.findIn K (.ref D) "__class__") (some (some (.builtin "object.__class__"))) && (He.eqO (PySem.W.specialIn K (.builtin "object.__class__") "__get__") (some (some (.builtin "getset_descriptor.__get__"))) &&
  (decide (PySem.W.takesIn K (.builtin "object.__class__") = some true) && decide (PySem.W.mroIn K D (.type "object") = some true)))))))
theorem excCB_ok {K : PySem.W.Frag} {D : Addr} (h : excCB K D = true) : ExcC K D := by
  obtain ⟨h1, h⟩ := He.ba h
  obtain ⟨h2, h⟩ := He.ba h
  obtain ⟨h3, h⟩ := He.ba h
  obtain ⟨h4, h⟩ := He.ba h
  obtain ⟨h5, h⟩ := He.ba h
  obtain ⟨h6, h⟩ := He.ba h
  obtain ⟨h7, h8⟩ := He.ba h
  exact ⟨He.eqO_ok h1, He.eqO_ok h2, of_decide_eq_true h3, h4, He.eqO_ok h5, He.eqO_ok h6, of_decide_eq_true h7, of_decide_eq_true h8⟩
/-! ### the law's def -/
def spLaw (K : PySem.W.Frag) : Sp := fun vs H Q _ => ∃ ns : List Int, ns.length ≤ 63 ∧ spV [rS K ns] (rD (.bool true)) vs H Q (fun _ _ _ => False)
theorem law_fn {P : Program} {w : World} {K : PySem.W.Frag} {mg : Str → Option Value} {base : Heap} {k : Nat} {f : Addr} {fd : FuncData} {ps : List Str} (F : ∀ ns : List Int, ns.length ≤ 63 → FnOk P w K mg base (L2.CX P w) k f fd ps (spV [rS K ns] (rD (.bool true)))) : FnOk P w K mg base (fun _ _ _ _ _ _ => False) k f fd ps (spLaw K) :=
  ⟨fun vs H Q E ⟨ns, hl, h⟩ => (F ns hl).len vs H Q _ h, fun A outer s H args us vs Q E hr he hb hv ⟨ns, hl, h⟩ => codeAny_mono ((F ns hl).run A outer s H args us vs Q _ hr he hb hv h) fun r s' q => by
    cases r with
    | error e =>
      obtain ⟨_, _, _, _, _, _, _, _, _, _, _, _, z⟩ := q
      exact z
    | ok fl => cases fl <;> exact q⟩
theorem law_in {K : PySem.W.Frag} (H : Hp) (a : Addr) (ns : List Int) (hl : ns.length ≤ 63) (hS : SqL K H a (ns.map V.int)) : spLaw K [.ref a] H (fun v _ => v = .bl true) (fun _ _ _ => False) := by
  refine ⟨ns, hl, fun b => if b = a then H b else none, fun b o e => ?_, .cons ⟨a, rfl, ?_⟩ .nil, fun v F1 H1 x p => bool_inv p⟩
  · have e : (if b = a then H b else none) = some o := e
    by_cases h : b = a
    · rw [if_pos h] at e
      exact e
    · rw [if_neg h] at e
      cases e
  · rcases hS with h | h
    · rcases h with h | ⟨o, h⟩
      · exact .inl (.inl (by show (if a = a then H a else none) = _; rw [if_pos rfl]; exact h))
      · exact .inl (.inr ⟨o, by show (if a = a then H a else none) = _; rw [if_pos rfl]; exact h⟩)
    · exact .inr h
end L3
namespace T
open PySem PySem.Spec PyProof.Rows L2 L3
def top (i : Nat) : Stmt := PySem.Challenge.pw_pickaisle_k02_places_and_links.main.body.getD i (.Pass ⟨0, 0, 0, 0⟩)
abbrev s_are_lengths : Stmt := top 9
abbrev f_are_lengths (K : PySem.W.Frag) : Addr := He.ga K "are_lengths"
abbrev N_are_lengths : List Str := ["numbers", "least", "most", "number"]
abbrev P_are_lengths : List Str := ["numbers", "least", "most"]
abbrev nm_are_lengths := (defScope s_are_lengths).names
theorem sc_are_lengths : FnScope N_are_lengths P_are_lengths (defScope s_are_lengths) := ⟨rfl, rfl, rfl, by decide +kernel, rfl, by decide +kernel, by decide +kernel⟩
abbrev s_law_row : Stmt := top 12
abbrev f_law_row (K : PySem.W.Frag) : Addr := He.ga K "_law_row"
abbrev N_law_row : List Str := ["_law_cell", "_law_many", "_law_row_here", "_law_rest", "_law_state", "_law_k"]
abbrev P_law_row : List Str := ["_law_cell", "_law_many"]
abbrev nm_law_row := (defScope s_law_row).names
theorem sc_law_row : FnScope N_law_row P_law_row (defScope s_law_row) := ⟨rfl, rfl, rfl, by decide +kernel, rfl, by decide +kernel, by decide +kernel⟩
abbrev s_law_numbers : Stmt := top 13
abbrev f_law_numbers (K : PySem.W.Frag) : Addr := He.ga K "_law_numbers"
abbrev N_law_numbers : List Str := ["_law_script", "_law_many", "_law_cells", "_law_each", "_law_numbers_here", "_law_cell", "_law_number"]
abbrev P_law_numbers : List Str := ["_law_script", "_law_many"]
abbrev nm_law_numbers := (defScope s_law_numbers).names
theorem sc_law_numbers : FnScope N_law_numbers P_law_numbers (defScope s_law_numbers) := ⟨rfl, rfl, rfl, by decide +kernel, rfl, by decide +kernel, by decide +kernel⟩
abbrev s_law_parts : Stmt := top 14
abbrev f_law_parts (K : PySem.W.Frag) : Addr := He.ga K "_law_parts"
abbrev N_law_parts : List Str := ["_law_numbers_here", "_law_at", "_law_most", "_law_lengths", "_law_gaps", "_law_closed", "_law_k", "_law_aisle", "_law_spot", "_law_link"]
abbrev P_law_parts : List Str := ["_law_numbers_here", "_law_at"]
abbrev nm_law_parts := (defScope s_law_parts).names
theorem sc_law_parts : FnScope N_law_parts P_law_parts (defScope s_law_parts) := ⟨rfl, rfl, rfl, by decide +kernel, rfl, by decide +kernel, by decide +kernel⟩
abbrev s_law_crosses : Stmt := top 15
abbrev f_law_crosses (K : PySem.W.Frag) : Addr := He.ga K "_law_crosses"
abbrev N_law_crosses : List Str := ["_law_lengths", "_law_k"]
abbrev P_law_crosses : List Str := ["_law_lengths"]
abbrev nm_law_crosses := (defScope s_law_crosses).names
theorem sc_law_crosses : FnScope N_law_crosses P_law_crosses (defScope s_law_crosses) := ⟨rfl, rfl, rfl, by decide +kernel, rfl, by decide +kernel, by decide +kernel⟩
abbrev s_law_aims : Stmt := top 16
abbrev f_law_aims (K : PySem.W.Frag) : Addr := He.ga K "_law_aims"
abbrev N_law_aims : List Str := ["_law_numbers_here", "_law_at", "_law_lengths", "_law_gaps", "_law_many", "_law_crosses_here", "_law_start", "_law_end", "_law_picks", "_law_k", "_law_place"]
abbrev P_law_aims : List Str := ["_law_numbers_here", "_law_at", "_law_lengths", "_law_gaps", "_law_many"]
abbrev nm_law_aims := (defScope s_law_aims).names
theorem sc_law_aims : FnScope N_law_aims P_law_aims (defScope s_law_aims) := ⟨rfl, rfl, rfl, by decide +kernel, rfl, by decide +kernel, by decide +kernel⟩
abbrev s_law_says : Stmt := top 17
abbrev f_law_says (K : PySem.W.Frag) : Addr := He.ga K "_law_says"
abbrev N_law_says : List Str := ["_law_actual", "_law_due"]
abbrev P_law_says : List Str := ["_law_actual", "_law_due"]
abbrev nm_law_says := (defScope s_law_says).names
theorem sc_law_says : FnScope N_law_says P_law_says (defScope s_law_says) := ⟨rfl, rfl, rfl, by decide +kernel, rfl, by decide +kernel, by decide +kernel⟩
abbrev s_law_all_links : Stmt := top 18
abbrev f_law_all_links (K : PySem.W.Frag) : Addr := He.ga K "_law_all_links"
abbrev N_law_all_links : List Str := ["_law_lengths", "_law_gaps", "_law_pair"]
abbrev P_law_all_links : List Str := ["_law_lengths", "_law_gaps"]
abbrev nm_law_all_links := (defScope s_law_all_links).names
theorem sc_law_all_links : FnScope N_law_all_links P_law_all_links (defScope s_law_all_links) := ⟨rfl, rfl, rfl, by decide +kernel, rfl, by decide +kernel, by decide +kernel⟩
abbrev s_law_refused : Stmt := top 19
abbrev f_law_refused (K : PySem.W.Frag) : Addr := He.ga K "_law_refused"
abbrev N_law_refused : List Str := ["_law_house", "_law_link", "_law_many"]
abbrev P_law_refused : List Str := ["_law_house", "_law_link"]
abbrev nm_law_refused := (defScope s_law_refused).names
theorem sc_law_refused : FnScope N_law_refused P_law_refused (defScope s_law_refused) := ⟨rfl, rfl, rfl, by decide +kernel, rfl, by decide +kernel, by decide +kernel⟩
abbrev s_law_link_told : Stmt := top 20
abbrev f_law_link_told (K : PySem.W.Frag) : Addr := He.ga K "_law_link_told"
abbrev N_law_link_told : List Str := ["_law_house", "_law_gaps", "_law_link", "_law_word", "_law_aisle", "_law_height", "_law_other", "_law_length"]
abbrev P_law_link_told : List Str := ["_law_house", "_law_gaps", "_law_link"]
abbrev nm_law_link_told := (defScope s_law_link_told).names
theorem sc_law_link_told : FnScope N_law_link_told P_law_link_told (defScope s_law_link_told) := ⟨rfl, rfl, rfl, by decide +kernel, rfl, by decide +kernel, by decide +kernel⟩
abbrev s_law_grid : Stmt := top 21
abbrev f_law_grid (K : PySem.W.Frag) : Addr := He.ga K "_law_grid"
abbrev N_law_grid : List Str := ["_law_wide", "_law_high", "_law_found", "_law_one", "_law_other"]
abbrev P_law_grid : List Str := ["_law_wide", "_law_high"]
abbrev nm_law_grid := (defScope s_law_grid).names
theorem sc_law_grid : FnScope N_law_grid P_law_grid (defScope s_law_grid) := ⟨rfl, rfl, rfl, by decide +kernel, rfl, by decide +kernel, by decide +kernel⟩
abbrev s_law_overs : Stmt := top 22
abbrev f_law_overs (K : PySem.W.Frag) : Addr := He.ga K "_law_overs"
abbrev N_law_overs : List Str := ["_law_lengths", "_law_gaps", "_law_found", "_law_aisle", "_law_height"]
abbrev P_law_overs : List Str := ["_law_lengths", "_law_gaps"]
abbrev nm_law_overs := (defScope s_law_overs).names
theorem sc_law_overs : FnScope N_law_overs P_law_overs (defScope s_law_overs) := ⟨rfl, rfl, rfl, by decide +kernel, rfl, by decide +kernel, by decide +kernel⟩
abbrev s_law : Stmt := top 23
abbrev f_law (K : PySem.W.Frag) : Addr := He.ga K "law"
abbrev N_law : List Str := ["_law_script", "_law_numbers_here", "_law_lengths", "_law_gaps", "_law_closed", "_law_house", "_law_top", "_law_links", "_law_places", "_law_aisle", "_law_height", "_law_place", "_law_word", "_law_link", "_law_told"]
abbrev P_law : List Str := ["_law_script"]
abbrev nm_law := (defScope s_law).names
theorem sc_law : FnScope N_law P_law (defScope s_law) := ⟨rfl, rfl, rfl, by decide +kernel, rfl, by decide +kernel, by decide +kernel⟩
abbrev s_House_init : Stmt := inClass (top 10) 0
abbrev f_House_init (K : PySem.W.Frag) : Addr := He.ma K (He.ga K "House") "__init__"
abbrev N_House_init : List Str := ["self", "lengths", "gaps", "closed", "link"]
abbrev P_House_init : List Str := ["self", "lengths", "gaps", "closed"]
abbrev nm_House_init := (defScope s_House_init).names
theorem sc_House_init : FnScope N_House_init P_House_init (defScope s_House_init) := ⟨rfl, rfl, rfl, by decide +kernel, rfl, by decide +kernel, by decide +kernel⟩
abbrev s_House_lengths : Stmt := inClass (top 10) 1
abbrev f_House_lengths (K : PySem.W.Frag) : Addr := prG K (He.ga K "House") "lengths"
abbrev N_House_lengths : List Str := ["self"]
abbrev P_House_lengths : List Str := ["self"]
abbrev nm_House_lengths := (defScope s_House_lengths).names
theorem sc_House_lengths : FnScope N_House_lengths P_House_lengths (defScope s_House_lengths) := ⟨rfl, rfl, rfl, by decide +kernel, rfl, by decide +kernel, by decide +kernel⟩
abbrev s_House_gaps : Stmt := inClass (top 10) 2
abbrev f_House_gaps (K : PySem.W.Frag) : Addr := prG K (He.ga K "House") "gaps"
abbrev N_House_gaps : List Str := ["self"]
abbrev P_House_gaps : List Str := ["self"]
abbrev nm_House_gaps := (defScope s_House_gaps).names
theorem sc_House_gaps : FnScope N_House_gaps P_House_gaps (defScope s_House_gaps) := ⟨rfl, rfl, rfl, by decide +kernel, rfl, by decide +kernel, by decide +kernel⟩
abbrev s_House_closed : Stmt := inClass (top 10) 3
abbrev f_House_closed (K : PySem.W.Frag) : Addr := prG K (He.ga K "House") "closed"
abbrev N_House_closed : List Str := ["self"]
abbrev P_House_closed : List Str := ["self"]
abbrev nm_House_closed := (defScope s_House_closed).names
theorem sc_House_closed : FnScope N_House_closed P_House_closed (defScope s_House_closed) := ⟨rfl, rfl, rfl, by decide +kernel, rfl, by decide +kernel, by decide +kernel⟩
abbrev s_House_top : Stmt := inClass (top 10) 4
abbrev f_House_top (K : PySem.W.Frag) : Addr := prG K (He.ga K "House") "top"
abbrev N_House_top : List Str := ["self"]
abbrev P_House_top : List Str := ["self"]
abbrev nm_House_top := (defScope s_House_top).names
theorem sc_House_top : FnScope N_House_top P_House_top (defScope s_House_top) := ⟨rfl, rfl, rfl, by decide +kernel, rfl, by decide +kernel, by decide +kernel⟩
abbrev s_House_aisles : Stmt := inClass (top 10) 5
abbrev f_House_aisles (K : PySem.W.Frag) : Addr := prG K (He.ga K "House") "aisles"
abbrev N_House_aisles : List Str := ["self"]
abbrev P_House_aisles : List Str := ["self"]
abbrev nm_House_aisles := (defScope s_House_aisles).names
theorem sc_House_aisles : FnScope N_House_aisles P_House_aisles (defScope s_House_aisles) := ⟨rfl, rfl, rfl, by decide +kernel, rfl, by decide +kernel, by decide +kernel⟩
abbrev s_House_crosses : Stmt := inClass (top 10) 6
abbrev f_House_crosses (K : PySem.W.Frag) : Addr := He.ma K (He.ga K "House") "crosses"
abbrev N_House_crosses : List Str := ["self", "heights", "length"]
abbrev P_House_crosses : List Str := ["self"]
abbrev nm_House_crosses := (defScope s_House_crosses).names
theorem sc_House_crosses : FnScope N_House_crosses P_House_crosses (defScope s_House_crosses) := ⟨rfl, rfl, rfl, by decide +kernel, rfl, by decide +kernel, by decide +kernel⟩
abbrev s_House_is_place : Stmt := inClass (top 10) 7
abbrev f_House_is_place (K : PySem.W.Frag) : Addr := He.ma K (He.ga K "House") "is_place"
abbrev N_House_is_place : List Str := ["self", "place"]
abbrev P_House_is_place : List Str := ["self", "place"]
abbrev nm_House_is_place := (defScope s_House_is_place).names
theorem sc_House_is_place : FnScope N_House_is_place P_House_is_place (defScope s_House_is_place) := ⟨rfl, rfl, rfl, by decide +kernel, rfl, by decide +kernel, by decide +kernel⟩
abbrev s_House_is_cross : Stmt := inClass (top 10) 8
abbrev f_House_is_cross (K : PySem.W.Frag) : Addr := He.ma K (He.ga K "House") "is_cross"
abbrev N_House_is_cross : List Str := ["self", "place"]
abbrev P_House_is_cross : List Str := ["self", "place"]
abbrev nm_House_is_cross := (defScope s_House_is_cross).names
theorem sc_House_is_cross : FnScope N_House_is_cross P_House_is_cross (defScope s_House_is_cross) := ⟨rfl, rfl, rfl, by decide +kernel, rfl, by decide +kernel, by decide +kernel⟩
abbrev s_House_is_link : Stmt := inClass (top 10) 9
abbrev f_House_is_link (K : PySem.W.Frag) : Addr := He.ma K (He.ga K "House") "is_link"
abbrev N_House_is_link : List Str := ["self", "link", "word", "aisle", "height"]
abbrev P_House_is_link : List Str := ["self", "link"]
abbrev nm_House_is_link := (defScope s_House_is_link).names
theorem sc_House_is_link : FnScope N_House_is_link P_House_is_link (defScope s_House_is_link) := ⟨rfl, rfl, rfl, by decide +kernel, rfl, by decide +kernel, by decide +kernel⟩
abbrev s_House_is_closed : Stmt := inClass (top 10) 10
abbrev f_House_is_closed (K : PySem.W.Frag) : Addr := He.ma K (He.ga K "House") "is_closed"
abbrev N_House_is_closed : List Str := ["self", "link"]
abbrev P_House_is_closed : List Str := ["self", "link"]
abbrev nm_House_is_closed := (defScope s_House_is_closed).names
theorem sc_House_is_closed : FnScope N_House_is_closed P_House_is_closed (defScope s_House_is_closed) := ⟨rfl, rfl, rfl, by decide +kernel, rfl, by decide +kernel, by decide +kernel⟩
abbrev s_House_places : Stmt := inClass (top 10) 11
abbrev f_House_places (K : PySem.W.Frag) : Addr := He.ma K (He.ga K "House") "places"
abbrev N_House_places : List Str := ["self", "aisle", "height"]
abbrev P_House_places : List Str := ["self"]
abbrev nm_House_places := (defScope s_House_places).names
theorem sc_House_places : FnScope N_House_places P_House_places (defScope s_House_places) := ⟨rfl, rfl, rfl, by decide +kernel, rfl, by decide +kernel, by decide +kernel⟩
abbrev s_House_walked_links : Stmt := inClass (top 10) 12
abbrev f_House_walked_links (K : PySem.W.Frag) : Addr := He.ma K (He.ga K "House") "walked_links"
abbrev N_House_walked_links : List Str := ["self", "overs", "ups", "aisle", "height", "link"]
abbrev P_House_walked_links : List Str := ["self"]
abbrev nm_House_walked_links := (defScope s_House_walked_links).names
theorem sc_House_walked_links : FnScope N_House_walked_links P_House_walked_links (defScope s_House_walked_links) := ⟨rfl, rfl, rfl, by decide +kernel, rfl, by decide +kernel, by decide +kernel⟩
abbrev s_House_check_link : Stmt := inClass (top 10) 13
abbrev f_House_check_link (K : PySem.W.Frag) : Addr := He.ma K (He.ga K "House") "check_link"
abbrev N_House_check_link : List Str := ["self", "link"]
abbrev P_House_check_link : List Str := ["self", "link"]
abbrev nm_House_check_link := (defScope s_House_check_link).names
theorem sc_House_check_link : FnScope N_House_check_link P_House_check_link (defScope s_House_check_link) := ⟨rfl, rfl, rfl, by decide +kernel, rfl, by decide +kernel, by decide +kernel⟩
abbrev s_House_ends_of : Stmt := inClass (top 10) 14
abbrev f_House_ends_of (K : PySem.W.Frag) : Addr := He.ma K (He.ga K "House") "ends_of"
abbrev N_House_ends_of : List Str := ["self", "link", "word", "aisle", "height"]
abbrev P_House_ends_of : List Str := ["self", "link"]
abbrev nm_House_ends_of := (defScope s_House_ends_of).names
theorem sc_House_ends_of : FnScope N_House_ends_of P_House_ends_of (defScope s_House_ends_of) := ⟨rfl, rfl, rfl, by decide +kernel, rfl, by decide +kernel, by decide +kernel⟩
abbrev s_House_length_of : Stmt := inClass (top 10) 15
abbrev f_House_length_of (K : PySem.W.Frag) : Addr := He.ma K (He.ga K "House") "length_of"
abbrev N_House_length_of : List Str := ["self", "link"]
abbrev P_House_length_of : List Str := ["self", "link"]
abbrev nm_House_length_of := (defScope s_House_length_of).names
theorem sc_House_length_of : FnScope N_House_length_of P_House_length_of (defScope s_House_length_of) := ⟨rfl, rfl, rfl, by decide +kernel, rfl, by decide +kernel, by decide +kernel⟩
/-- what the head tells -/
structure Fs (K : PySem.W.Frag) (mg : Str → Option Value) where
  d_are_lengths : FuncData
  F_are_lengths : FunD K "are_lengths" "are_lengths" (defArgs s_are_lengths) (defBody s_are_lengths) (defScope s_are_lengths) [] [] (He.ga K "are_lengths") d_are_lengths
  d_law_row : FuncData
  F_law_row : FunD K "_law_row" "_law_row" (defArgs s_law_row) (defBody s_law_row) (defScope s_law_row) [] [] (He.ga K "_law_row") d_law_row
  d_law_numbers : FuncData
  F_law_numbers : FunD K "_law_numbers" "_law_numbers" (defArgs s_law_numbers) (defBody s_law_numbers) (defScope s_law_numbers) [] [] (He.ga K "_law_numbers") d_law_numbers
  d_law_parts : FuncData
  F_law_parts : FunD K "_law_parts" "_law_parts" (defArgs s_law_parts) (defBody s_law_parts) (defScope s_law_parts) [] [] (He.ga K "_law_parts") d_law_parts
  d_law_crosses : FuncData
  F_law_crosses : FunD K "_law_crosses" "_law_crosses" (defArgs s_law_crosses) (defBody s_law_crosses) (defScope s_law_crosses) [] [] (He.ga K "_law_crosses") d_law_crosses
  d_law_aims : FuncData
  F_law_aims : FunD K "_law_aims" "_law_aims" (defArgs s_law_aims) (defBody s_law_aims) (defScope s_law_aims) [] [] (He.ga K "_law_aims") d_law_aims
  d_law_says : FuncData
  F_law_says : FunD K "_law_says" "_law_says" (defArgs s_law_says) (defBody s_law_says) (defScope s_law_says) [] [] (He.ga K "_law_says") d_law_says
  d_law_all_links : FuncData
  F_law_all_links : FunD K "_law_all_links" "_law_all_links" (defArgs s_law_all_links) (defBody s_law_all_links) (defScope s_law_all_links) [] [] (He.ga K "_law_all_links") d_law_all_links
  d_law_refused : FuncData
  F_law_refused : FunD K "_law_refused" "_law_refused" (defArgs s_law_refused) (defBody s_law_refused) (defScope s_law_refused) [] [] (He.ga K "_law_refused") d_law_refused
  d_law_link_told : FuncData
  F_law_link_told : FunD K "_law_link_told" "_law_link_told" (defArgs s_law_link_told) (defBody s_law_link_told) (defScope s_law_link_told) [] [] (He.ga K "_law_link_told") d_law_link_told
  d_law_grid : FuncData
  F_law_grid : FunD K "_law_grid" "_law_grid" (defArgs s_law_grid) (defBody s_law_grid) (defScope s_law_grid) [] [] (He.ga K "_law_grid") d_law_grid
  d_law_overs : FuncData
  F_law_overs : FunD K "_law_overs" "_law_overs" (defArgs s_law_overs) (defBody s_law_overs) (defScope s_law_overs) [] [] (He.ga K "_law_overs") d_law_overs
  d_law : FuncData
  F_law : FunD K "law" "law" (defArgs s_law) (defBody s_law) (defScope s_law) [] [] (He.ga K "law") d_law
  d_House_init : FuncData
  F_House_init : FunD K "__init__" "House.__init__" (defArgs s_House_init) (defBody s_House_init) (defScope s_House_init) [] [] (He.ma K (He.ga K "House") "__init__") d_House_init
  d_House_lengths : FuncData
  F_House_lengths : FunD K "lengths" "House.lengths" (defArgs s_House_lengths) (defBody s_House_lengths) (defScope s_House_lengths) [] [] (prG K (He.ga K "House") "lengths") d_House_lengths
  d_House_gaps : FuncData
  F_House_gaps : FunD K "gaps" "House.gaps" (defArgs s_House_gaps) (defBody s_House_gaps) (defScope s_House_gaps) [] [] (prG K (He.ga K "House") "gaps") d_House_gaps
  d_House_closed : FuncData
  F_House_closed : FunD K "closed" "House.closed" (defArgs s_House_closed) (defBody s_House_closed) (defScope s_House_closed) [] [] (prG K (He.ga K "House") "closed") d_House_closed
  d_House_top : FuncData
  F_House_top : FunD K "top" "House.top" (defArgs s_House_top) (defBody s_House_top) (defScope s_House_top) [] [] (prG K (He.ga K "House") "top") d_House_top
  d_House_aisles : FuncData
  F_House_aisles : FunD K "aisles" "House.aisles" (defArgs s_House_aisles) (defBody s_House_aisles) (defScope s_House_aisles) [] [] (prG K (He.ga K "House") "aisles") d_House_aisles
  d_House_crosses : FuncData
  F_House_crosses : FunD K "crosses" "House.crosses" (defArgs s_House_crosses) (defBody s_House_crosses) (defScope s_House_crosses) [] [] (He.ma K (He.ga K "House") "crosses") d_House_crosses
  d_House_is_place : FuncData
  F_House_is_place : FunD K "is_place" "House.is_place" (defArgs s_House_is_place) (defBody s_House_is_place) (defScope s_House_is_place) [] [] (He.ma K (He.ga K "House") "is_place") d_House_is_place
  d_House_is_cross : FuncData
  F_House_is_cross : FunD K "is_cross" "House.is_cross" (defArgs s_House_is_cross) (defBody s_House_is_cross) (defScope s_House_is_cross) [] [] (He.ma K (He.ga K "House") "is_cross") d_House_is_cross
  d_House_is_link : FuncData
  F_House_is_link : FunD K "is_link" "House.is_link" (defArgs s_House_is_link) (defBody s_House_is_link) (defScope s_House_is_link) [] [] (He.ma K (He.ga K "House") "is_link") d_House_is_link
  d_House_is_closed : FuncData
  F_House_is_closed : FunD K "is_closed" "House.is_closed" (defArgs s_House_is_closed) (defBody s_House_is_closed) (defScope s_House_is_closed) [] [] (He.ma K (He.ga K "House") "is_closed") d_House_is_closed
  d_House_places : FuncData
  F_House_places : FunD K "places" "House.places" (defArgs s_House_places) (defBody s_House_places) (defScope s_House_places) [] [] (He.ma K (He.ga K "House") "places") d_House_places
  d_House_walked_links : FuncData
  F_House_walked_links : FunD K "walked_links" "House.walked_links" (defArgs s_House_walked_links) (defBody s_House_walked_links) (defScope s_House_walked_links) [] [] (He.ma K (He.ga K "House") "walked_links") d_House_walked_links
  d_House_check_link : FuncData
  F_House_check_link : FunD K "check_link" "House.check_link" (defArgs s_House_check_link) (defBody s_House_check_link) (defScope s_House_check_link) [] [] (He.ma K (He.ga K "House") "check_link") d_House_check_link
  d_House_ends_of : FuncData
  F_House_ends_of : FunD K "ends_of" "House.ends_of" (defArgs s_House_ends_of) (defBody s_House_ends_of) (defScope s_House_ends_of) [] [] (He.ma K (He.ga K "House") "ends_of") d_House_ends_of
  d_House_length_of : FuncData
  F_House_length_of : FunD K "length_of" "House.length_of" (defArgs s_House_length_of) (defBody s_House_length_of) (defScope s_House_length_of) [] [] (He.ma K (He.ga K "House") "length_of") d_House_length_of
  g_are_lengths : mg "are_lengths" = some (.ref (He.ga K "are_lengths"))
  g_law_row : mg "_law_row" = some (.ref (He.ga K "_law_row"))
  g_law_numbers : mg "_law_numbers" = some (.ref (He.ga K "_law_numbers"))
  g_law_parts : mg "_law_parts" = some (.ref (He.ga K "_law_parts"))
  g_law_crosses : mg "_law_crosses" = some (.ref (He.ga K "_law_crosses"))
  g_law_aims : mg "_law_aims" = some (.ref (He.ga K "_law_aims"))
  g_law_says : mg "_law_says" = some (.ref (He.ga K "_law_says"))
  g_law_all_links : mg "_law_all_links" = some (.ref (He.ga K "_law_all_links"))
  g_law_refused : mg "_law_refused" = some (.ref (He.ga K "_law_refused"))
  g_law_link_told : mg "_law_link_told" = some (.ref (He.ga K "_law_link_told"))
  g_law_grid : mg "_law_grid" = some (.ref (He.ga K "_law_grid"))
  g_law_overs : mg "_law_overs" = some (.ref (He.ga K "_law_overs"))
  g_law : mg "law" = some (.ref (He.ga K "law"))
  fr_ValueError : mg "ValueError" = none
  fr_abs : mg "abs" = none
  fr_all : mg "all" = none
  fr_int : mg "int" = none
  fr_len : mg "len" = none
  fr_list : mg "list" = none
  fr_max : mg "max" = none
  fr_property : mg "property" = none
  fr_range : mg "range" = none
  fr_sorted : mg "sorted" = none
  fr_sum : mg "sum" = none
  i_MOST_LENGTH : ∃ t, mg "MOST_LENGTH" = some (.int 40 t)
  i_MOST_GAPS : ∃ t, mg "MOST_GAPS" = some (.int 11 t)
  i_MOST_CLOSED : ∃ t, mg "MOST_CLOSED" = some (.int 200 t)
  g_PickError : mg "PickError" = some (.ref (He.ga K "PickError"))
  e_PickError : PySem.W.excIn K (He.ga K "PickError") He.veBase "ValueError.__new__" = true ∧ PySem.W.keepIn K (.ref (He.ga K "PickError")) = true ∧ PySem.W.subIn K (.ref (He.ga K "PickError")) (.type "BaseException") = some true ∧ PySem.W.typeIn K (.ref (He.ga K "PickError")) = some (.type "type")
  g_InvalidHouse : mg "InvalidHouse" = some (.ref (He.ga K "InvalidHouse"))
  e_InvalidHouse : PySem.W.excIn K (He.ga K "InvalidHouse") He.veBase "ValueError.__new__" = true ∧ PySem.W.keepIn K (.ref (He.ga K "InvalidHouse")) = true ∧ PySem.W.subIn K (.ref (He.ga K "InvalidHouse")) (.type "BaseException") = some true ∧ PySem.W.typeIn K (.ref (He.ga K "InvalidHouse")) = some (.type "type")
  x_InvalidHouse_InvalidLink : PySem.W.exmOne K (.ref (He.ga K "InvalidHouse")) (.ref (He.ga K "InvalidLink")) = some false
  g_InvalidLink : mg "InvalidLink" = some (.ref (He.ga K "InvalidLink"))
  e_InvalidLink : PySem.W.excIn K (He.ga K "InvalidLink") He.veBase "ValueError.__new__" = true ∧ PySem.W.keepIn K (.ref (He.ga K "InvalidLink")) = true ∧ PySem.W.subIn K (.ref (He.ga K "InvalidLink")) (.type "BaseException") = some true ∧ PySem.W.typeIn K (.ref (He.ga K "InvalidLink")) = some (.type "type")
  x_InvalidLink_InvalidLink : PySem.W.exmOne K (.ref (He.ga K "InvalidLink")) (.ref (He.ga K "InvalidLink")) = some true
  g_House : mg "House" = some (.ref (He.ga K "House"))
  c_House : Cls K (He.ga K "House")
  a_House_lengths : NoAttr K (He.ga K "House") "_lengths"
  a_House_gaps : NoAttr K (He.ga K "House") "_gaps"
  a_House_closed : NoAttr K (He.ga K "House") "_closed"
  mk_House : Mk K (He.ga K "House") (He.ma K (He.ga K "House") "__init__")
  p_House_lengths : PropOf K (He.ga K "House") "lengths" (prA K (He.ga K "House") "lengths") (prG K (He.ga K "House") "lengths")
  p_House_gaps : PropOf K (He.ga K "House") "gaps" (prA K (He.ga K "House") "gaps") (prG K (He.ga K "House") "gaps")
  p_House_closed : PropOf K (He.ga K "House") "closed" (prA K (He.ga K "House") "closed") (prG K (He.ga K "House") "closed")
  p_House_top : PropOf K (He.ga K "House") "top" (prA K (He.ga K "House") "top") (prG K (He.ga K "House") "top")
  p_House_aisles : PropOf K (He.ga K "House") "aisles" (prA K (He.ga K "House") "aisles") (prG K (He.ga K "House") "aisles")
  m_House_crosses : Meth K (He.ga K "House") "crosses" (He.ma K (He.ga K "House") "crosses")
  m_House_is_place : Meth K (He.ga K "House") "is_place" (He.ma K (He.ga K "House") "is_place")
  m_House_is_cross : Meth K (He.ga K "House") "is_cross" (He.ma K (He.ga K "House") "is_cross")
  m_House_is_link : Meth K (He.ga K "House") "is_link" (He.ma K (He.ga K "House") "is_link")
  m_House_is_closed : Meth K (He.ga K "House") "is_closed" (He.ma K (He.ga K "House") "is_closed")
  m_House_places : Meth K (He.ga K "House") "places" (He.ma K (He.ga K "House") "places")
  m_House_walked_links : Meth K (He.ga K "House") "walked_links" (He.ma K (He.ga K "House") "walked_links")
  m_House_check_link : Meth K (He.ga K "House") "check_link" (He.ma K (He.ga K "House") "check_link")
  m_House_ends_of : Meth K (He.ga K "House") "ends_of" (He.ma K (He.ga K "House") "ends_of")
  m_House_length_of : Meth K (He.ga K "House") "length_of" (He.ma K (He.ga K "House") "length_of")
section
variable {K : PySem.W.Frag} {mg : Str → Option Value}
theorem Fs.b_are_lengths (S : Fs K mg) : Binds K S.d_are_lengths P_are_lengths [] := S.F_are_lengths.bindsN fun _ _ _ _ _ _ us hl => match us, hl with | [_, _, _], _ => rfl
theorem Fs.b_law_row (S : Fs K mg) : Binds K S.d_law_row P_law_row [] := S.F_law_row.bindsN fun _ _ _ _ _ _ us hl => match us, hl with | [_, _], _ => rfl
theorem Fs.b_law_numbers (S : Fs K mg) : Binds K S.d_law_numbers P_law_numbers [] := S.F_law_numbers.bindsN fun _ _ _ _ _ _ us hl => match us, hl with | [_, _], _ => rfl
theorem Fs.b_law_parts (S : Fs K mg) : Binds K S.d_law_parts P_law_parts [] := S.F_law_parts.bindsN fun _ _ _ _ _ _ us hl => match us, hl with | [_, _], _ => rfl
theorem Fs.b_law_crosses (S : Fs K mg) : Binds K S.d_law_crosses P_law_crosses [] := S.F_law_crosses.bindsN fun _ _ _ _ _ _ us hl => match us, hl with | [_], _ => rfl
theorem Fs.b_law_aims (S : Fs K mg) : Binds K S.d_law_aims P_law_aims [] := S.F_law_aims.bindsN fun _ _ _ _ _ _ us hl => match us, hl with | [_, _, _, _, _], _ => rfl
theorem Fs.b_law_says (S : Fs K mg) : Binds K S.d_law_says P_law_says [] := S.F_law_says.bindsN fun _ _ _ _ _ _ us hl => match us, hl with | [_, _], _ => rfl
theorem Fs.b_law_all_links (S : Fs K mg) : Binds K S.d_law_all_links P_law_all_links [] := S.F_law_all_links.bindsN fun _ _ _ _ _ _ us hl => match us, hl with | [_, _], _ => rfl
theorem Fs.b_law_refused (S : Fs K mg) : Binds K S.d_law_refused P_law_refused [] := S.F_law_refused.bindsN fun _ _ _ _ _ _ us hl => match us, hl with | [_, _], _ => rfl
theorem Fs.b_law_link_told (S : Fs K mg) : Binds K S.d_law_link_told P_law_link_told [] := S.F_law_link_told.bindsN fun _ _ _ _ _ _ us hl => match us, hl with | [_, _, _], _ => rfl
theorem Fs.b_law_grid (S : Fs K mg) : Binds K S.d_law_grid P_law_grid [] := S.F_law_grid.bindsN fun _ _ _ _ _ _ us hl => match us, hl with | [_, _], _ => rfl
theorem Fs.b_law_overs (S : Fs K mg) : Binds K S.d_law_overs P_law_overs [] := S.F_law_overs.bindsN fun _ _ _ _ _ _ us hl => match us, hl with | [_, _], _ => rfl
theorem Fs.b_law (S : Fs K mg) : Binds K S.d_law P_law [] := S.F_law.bindsN fun _ _ _ _ _ _ us hl => match us, hl with | [_], _ => rfl
theorem Fs.b_House_init (S : Fs K mg) : Binds K S.d_House_init P_House_init [] := S.F_House_init.bindsN fun _ _ _ _ _ _ us hl => match us, hl with | [_, _, _, _], _ => rfl
theorem Fs.b_House_lengths (S : Fs K mg) : Binds K S.d_House_lengths P_House_lengths [] := S.F_House_lengths.bindsN fun _ _ _ _ _ _ us hl => match us, hl with | [_], _ => rfl
theorem Fs.b_House_gaps (S : Fs K mg) : Binds K S.d_House_gaps P_House_gaps [] := S.F_House_gaps.bindsN fun _ _ _ _ _ _ us hl => match us, hl with | [_], _ => rfl
theorem Fs.b_House_closed (S : Fs K mg) : Binds K S.d_House_closed P_House_closed [] := S.F_House_closed.bindsN fun _ _ _ _ _ _ us hl => match us, hl with | [_], _ => rfl
theorem Fs.b_House_top (S : Fs K mg) : Binds K S.d_House_top P_House_top [] := S.F_House_top.bindsN fun _ _ _ _ _ _ us hl => match us, hl with | [_], _ => rfl
theorem Fs.b_House_aisles (S : Fs K mg) : Binds K S.d_House_aisles P_House_aisles [] := S.F_House_aisles.bindsN fun _ _ _ _ _ _ us hl => match us, hl with | [_], _ => rfl
theorem Fs.b_House_crosses (S : Fs K mg) : Binds K S.d_House_crosses P_House_crosses [] := S.F_House_crosses.bindsN fun _ _ _ _ _ _ us hl => match us, hl with | [_], _ => rfl
theorem Fs.b_House_is_place (S : Fs K mg) : Binds K S.d_House_is_place P_House_is_place [] := S.F_House_is_place.bindsN fun _ _ _ _ _ _ us hl => match us, hl with | [_, _], _ => rfl
theorem Fs.b_House_is_cross (S : Fs K mg) : Binds K S.d_House_is_cross P_House_is_cross [] := S.F_House_is_cross.bindsN fun _ _ _ _ _ _ us hl => match us, hl with | [_, _], _ => rfl
theorem Fs.b_House_is_link (S : Fs K mg) : Binds K S.d_House_is_link P_House_is_link [] := S.F_House_is_link.bindsN fun _ _ _ _ _ _ us hl => match us, hl with | [_, _], _ => rfl
theorem Fs.b_House_is_closed (S : Fs K mg) : Binds K S.d_House_is_closed P_House_is_closed [] := S.F_House_is_closed.bindsN fun _ _ _ _ _ _ us hl => match us, hl with | [_, _], _ => rfl
theorem Fs.b_House_places (S : Fs K mg) : Binds K S.d_House_places P_House_places [] := S.F_House_places.bindsN fun _ _ _ _ _ _ us hl => match us, hl with | [_], _ => rfl
theorem Fs.b_House_walked_links (S : Fs K mg) : Binds K S.d_House_walked_links P_House_walked_links [] := S.F_House_walked_links.bindsN fun _ _ _ _ _ _ us hl => match us, hl with | [_], _ => rfl
theorem Fs.b_House_check_link (S : Fs K mg) : Binds K S.d_House_check_link P_House_check_link [] := S.F_House_check_link.bindsN fun _ _ _ _ _ _ us hl => match us, hl with | [_, _], _ => rfl
theorem Fs.b_House_ends_of (S : Fs K mg) : Binds K S.d_House_ends_of P_House_ends_of [] := S.F_House_ends_of.bindsN fun _ _ _ _ _ _ us hl => match us, hl with | [_, _], _ => rfl
theorem Fs.b_House_length_of (S : Fs K mg) : Binds K S.d_House_length_of P_House_length_of [] := S.F_House_length_of.bindsN fun _ _ _ _ _ _ us hl => match us, hl with | [_, _], _ => rfl
variable {P : Program} {w : World} {base : Heap} {j : Nat} {sp : Sp}
theorem Fs.df_are_lengths (S : Fs K mg) (F : FnOk P w K mg base (L2.CX P w) j (f_are_lengths K) S.d_are_lengths P_are_lengths sp) : Dfk P w K mg base "are_lengths" j sp := ⟨⟨_, _, _, S.g_are_lengths, S.F_are_lengths.kp, S.b_are_lengths, F⟩⟩
theorem Fs.df_law_row (S : Fs K mg) (F : FnOk P w K mg base (L2.CX P w) j (f_law_row K) S.d_law_row P_law_row sp) : Dfk P w K mg base "_law_row" j sp := ⟨⟨_, _, _, S.g_law_row, S.F_law_row.kp, S.b_law_row, F⟩⟩
theorem Fs.df_law_numbers (S : Fs K mg) (F : FnOk P w K mg base (L2.CX P w) j (f_law_numbers K) S.d_law_numbers P_law_numbers sp) : Dfk P w K mg base "_law_numbers" j sp := ⟨⟨_, _, _, S.g_law_numbers, S.F_law_numbers.kp, S.b_law_numbers, F⟩⟩
theorem Fs.df_law_parts (S : Fs K mg) (F : FnOk P w K mg base (L2.CX P w) j (f_law_parts K) S.d_law_parts P_law_parts sp) : Dfk P w K mg base "_law_parts" j sp := ⟨⟨_, _, _, S.g_law_parts, S.F_law_parts.kp, S.b_law_parts, F⟩⟩
theorem Fs.df_law_crosses (S : Fs K mg) (F : FnOk P w K mg base (L2.CX P w) j (f_law_crosses K) S.d_law_crosses P_law_crosses sp) : Dfk P w K mg base "_law_crosses" j sp := ⟨⟨_, _, _, S.g_law_crosses, S.F_law_crosses.kp, S.b_law_crosses, F⟩⟩
theorem Fs.df_law_aims (S : Fs K mg) (F : FnOk P w K mg base (L2.CX P w) j (f_law_aims K) S.d_law_aims P_law_aims sp) : Dfk P w K mg base "_law_aims" j sp := ⟨⟨_, _, _, S.g_law_aims, S.F_law_aims.kp, S.b_law_aims, F⟩⟩
theorem Fs.df_law_says (S : Fs K mg) (F : FnOk P w K mg base (L2.CX P w) j (f_law_says K) S.d_law_says P_law_says sp) : Dfk P w K mg base "_law_says" j sp := ⟨⟨_, _, _, S.g_law_says, S.F_law_says.kp, S.b_law_says, F⟩⟩
theorem Fs.df_law_all_links (S : Fs K mg) (F : FnOk P w K mg base (L2.CX P w) j (f_law_all_links K) S.d_law_all_links P_law_all_links sp) : Dfk P w K mg base "_law_all_links" j sp := ⟨⟨_, _, _, S.g_law_all_links, S.F_law_all_links.kp, S.b_law_all_links, F⟩⟩
theorem Fs.df_law_refused (S : Fs K mg) (F : FnOk P w K mg base (L2.CX P w) j (f_law_refused K) S.d_law_refused P_law_refused sp) : Dfk P w K mg base "_law_refused" j sp := ⟨⟨_, _, _, S.g_law_refused, S.F_law_refused.kp, S.b_law_refused, F⟩⟩
theorem Fs.df_law_link_told (S : Fs K mg) (F : FnOk P w K mg base (L2.CX P w) j (f_law_link_told K) S.d_law_link_told P_law_link_told sp) : Dfk P w K mg base "_law_link_told" j sp := ⟨⟨_, _, _, S.g_law_link_told, S.F_law_link_told.kp, S.b_law_link_told, F⟩⟩
theorem Fs.df_law_grid (S : Fs K mg) (F : FnOk P w K mg base (L2.CX P w) j (f_law_grid K) S.d_law_grid P_law_grid sp) : Dfk P w K mg base "_law_grid" j sp := ⟨⟨_, _, _, S.g_law_grid, S.F_law_grid.kp, S.b_law_grid, F⟩⟩
theorem Fs.df_law_overs (S : Fs K mg) (F : FnOk P w K mg base (L2.CX P w) j (f_law_overs K) S.d_law_overs P_law_overs sp) : Dfk P w K mg base "_law_overs" j sp := ⟨⟨_, _, _, S.g_law_overs, S.F_law_overs.kp, S.b_law_overs, F⟩⟩
theorem Fs.df_law (S : Fs K mg) (F : FnOk P w K mg base (L2.CX P w) j (f_law K) S.d_law P_law sp) : Dfk P w K mg base "law" j sp := ⟨⟨_, _, _, S.g_law, S.F_law.kp, S.b_law, F⟩⟩
theorem Fs.mkk_House (S : Fs K mg) (F : FnOk P w K mg base (L2.CX P w) j (f_House_init K) S.d_House_init P_House_init sp) : Mkk P w K mg base "House" (He.ga K "House") j sp := ⟨⟨_, _, _, S.g_House, S.mk_House, S.b_House_init, F⟩⟩
theorem Fs.pr_House_lengths (S : Fs K mg) (F : FnOk P w K mg base (L2.CX P w) j (f_House_lengths K) S.d_House_lengths P_House_lengths sp) : Prk P w K mg base (He.ga K "House") "lengths" j sp := ⟨⟨_, _, _, _, S.c_House, S.p_House_lengths, S.b_House_lengths, F⟩⟩
theorem Fs.pr_House_gaps (S : Fs K mg) (F : FnOk P w K mg base (L2.CX P w) j (f_House_gaps K) S.d_House_gaps P_House_gaps sp) : Prk P w K mg base (He.ga K "House") "gaps" j sp := ⟨⟨_, _, _, _, S.c_House, S.p_House_gaps, S.b_House_gaps, F⟩⟩
theorem Fs.pr_House_closed (S : Fs K mg) (F : FnOk P w K mg base (L2.CX P w) j (f_House_closed K) S.d_House_closed P_House_closed sp) : Prk P w K mg base (He.ga K "House") "closed" j sp := ⟨⟨_, _, _, _, S.c_House, S.p_House_closed, S.b_House_closed, F⟩⟩
theorem Fs.pr_House_top (S : Fs K mg) (F : FnOk P w K mg base (L2.CX P w) j (f_House_top K) S.d_House_top P_House_top sp) : Prk P w K mg base (He.ga K "House") "top" j sp := ⟨⟨_, _, _, _, S.c_House, S.p_House_top, S.b_House_top, F⟩⟩
theorem Fs.pr_House_aisles (S : Fs K mg) (F : FnOk P w K mg base (L2.CX P w) j (f_House_aisles K) S.d_House_aisles P_House_aisles sp) : Prk P w K mg base (He.ga K "House") "aisles" j sp := ⟨⟨_, _, _, _, S.c_House, S.p_House_aisles, S.b_House_aisles, F⟩⟩
theorem Fs.mt_House_crosses (S : Fs K mg) (F : FnOk P w K mg base (L2.CX P w) j (f_House_crosses K) S.d_House_crosses P_House_crosses sp) : Mtk P w K mg base (He.ga K "House") "crosses" j sp := ⟨⟨_, _, _, S.c_House, S.m_House_crosses, S.b_House_crosses, F⟩⟩
theorem Fs.mt_House_is_place (S : Fs K mg) (F : FnOk P w K mg base (L2.CX P w) j (f_House_is_place K) S.d_House_is_place P_House_is_place sp) : Mtk P w K mg base (He.ga K "House") "is_place" j sp := ⟨⟨_, _, _, S.c_House, S.m_House_is_place, S.b_House_is_place, F⟩⟩
theorem Fs.mt_House_is_cross (S : Fs K mg) (F : FnOk P w K mg base (L2.CX P w) j (f_House_is_cross K) S.d_House_is_cross P_House_is_cross sp) : Mtk P w K mg base (He.ga K "House") "is_cross" j sp := ⟨⟨_, _, _, S.c_House, S.m_House_is_cross, S.b_House_is_cross, F⟩⟩
theorem Fs.mt_House_is_link (S : Fs K mg) (F : FnOk P w K mg base (L2.CX P w) j (f_House_is_link K) S.d_House_is_link P_House_is_link sp) : Mtk P w K mg base (He.ga K "House") "is_link" j sp := ⟨⟨_, _, _, S.c_House, S.m_House_is_link, S.b_House_is_link, F⟩⟩
theorem Fs.mt_House_is_closed (S : Fs K mg) (F : FnOk P w K mg base (L2.CX P w) j (f_House_is_closed K) S.d_House_is_closed P_House_is_closed sp) : Mtk P w K mg base (He.ga K "House") "is_closed" j sp := ⟨⟨_, _, _, S.c_House, S.m_House_is_closed, S.b_House_is_closed, F⟩⟩
theorem Fs.mt_House_places (S : Fs K mg) (F : FnOk P w K mg base (L2.CX P w) j (f_House_places K) S.d_House_places P_House_places sp) : Mtk P w K mg base (He.ga K "House") "places" j sp := ⟨⟨_, _, _, S.c_House, S.m_House_places, S.b_House_places, F⟩⟩
theorem Fs.mt_House_walked_links (S : Fs K mg) (F : FnOk P w K mg base (L2.CX P w) j (f_House_walked_links K) S.d_House_walked_links P_House_walked_links sp) : Mtk P w K mg base (He.ga K "House") "walked_links" j sp := ⟨⟨_, _, _, S.c_House, S.m_House_walked_links, S.b_House_walked_links, F⟩⟩
theorem Fs.mt_House_check_link (S : Fs K mg) (F : FnOk P w K mg base (L2.CX P w) j (f_House_check_link K) S.d_House_check_link P_House_check_link sp) : Mtk P w K mg base (He.ga K "House") "check_link" j sp := ⟨⟨_, _, _, S.c_House, S.m_House_check_link, S.b_House_check_link, F⟩⟩
theorem Fs.mt_House_ends_of (S : Fs K mg) (F : FnOk P w K mg base (L2.CX P w) j (f_House_ends_of K) S.d_House_ends_of P_House_ends_of sp) : Mtk P w K mg base (He.ga K "House") "ends_of" j sp := ⟨⟨_, _, _, S.c_House, S.m_House_ends_of, S.b_House_ends_of, F⟩⟩
theorem Fs.mt_House_length_of (S : Fs K mg) (F : FnOk P w K mg base (L2.CX P w) j (f_House_length_of K) S.d_House_length_of P_House_length_of sp) : Mtk P w K mg base (He.ga K "House") "length_of" j sp := ⟨⟨_, _, _, S.c_House, S.m_House_length_of, S.b_House_length_of, F⟩⟩
end
def fn : List DfQ := [⟨fun K => He.ga K "are_lengths", "are_lengths", "are_lengths", s_are_lengths⟩, ⟨fun K => He.ga K "_law_row", "_law_row", "_law_row", s_law_row⟩, ⟨fun K => He.ga K "_law_numbers", "_law_numbers", "_law_numbers", s_law_numbers⟩, ⟨fun K => He.ga K "_law_parts", "_law_parts", "_law_parts", s_law_parts⟩, ⟨fun K => He.ga K "_law_crosses", "_law_crosses", "_law_crosses", s_law_crosses⟩, ⟨fun K => He.ga K "_law_aims", "_law_aims", "_law_aims", s_law_aims⟩, ⟨fun K => He.ga K "_law_says", "_law_says", "_law_says", s_law_says⟩, ⟨fun K => He.ga K "_law_all_links", "_law_all_links", "_law_all_links", s_law_all_links⟩, ⟨fun K => He.ga K "_law_refused", "_law_refused", "_law_refused", s_law_refused⟩, ⟨fun K => He.ga K "_law_link_told", "_law_link_told", "_law_link_told", s_law_link_told⟩, ⟨fun K => He.ga K "_law_grid", "_law_grid", "_law_grid", s_law_grid⟩, ⟨fun K => He.ga K "_law_overs", "_law_overs", "_law_overs", s_law_overs⟩, ⟨fun K => He.ga K "law", "law", "law", s_law⟩, ⟨fun K => He.ma K (He.ga K "House") "__init__", "__init__", "House.__init__", s_House_init⟩, ⟨fun K => prG K (He.ga K "House") "lengths", "lengths", "House.lengths", s_House_lengths⟩, ⟨fun K => prG K (He.ga K "House") "gaps", "gaps", "House.gaps", s_House_gaps⟩, ⟨fun K => prG K (He.ga K "House") "closed", "closed", "House.closed", s_House_closed⟩, ⟨fun K => prG K (He.ga K "House") "top", "top", "House.top", s_House_top⟩, ⟨fun K => prG K (He.ga K "House") "aisles", "aisles", "House.aisles", s_House_aisles⟩, ⟨fun K => He.ma K (He.ga K "House") "crosses", "crosses", "House.crosses", s_House_crosses⟩, ⟨fun K => He.ma K (He.ga K "House") "is_place", "is_place", "House.is_place", s_House_is_place⟩, ⟨fun K => He.ma K (He.ga K "House") "is_cross", "is_cross", "House.is_cross", s_House_is_cross⟩, ⟨fun K => He.ma K (He.ga K "House") "is_link", "is_link", "House.is_link", s_House_is_link⟩, ⟨fun K => He.ma K (He.ga K "House") "is_closed", "is_closed", "House.is_closed", s_House_is_closed⟩, ⟨fun K => He.ma K (He.ga K "House") "places", "places", "House.places", s_House_places⟩, ⟨fun K => He.ma K (He.ga K "House") "walked_links", "walked_links", "House.walked_links", s_House_walked_links⟩, ⟨fun K => He.ma K (He.ga K "House") "check_link", "check_link", "House.check_link", s_House_check_link⟩, ⟨fun K => He.ma K (He.ga K "House") "ends_of", "ends_of", "House.ends_of", s_House_ends_of⟩, ⟨fun K => He.ma K (He.ga K "House") "length_of", "length_of", "House.length_of", s_House_length_of⟩]
def okL (K : PySem.W.Frag) : List Bool := [(He.Fa.glo "are_lengths").ok K, (He.Fa.glo "_law_row").ok K, (He.Fa.glo "_law_numbers").ok K, (He.Fa.glo "_law_parts").ok K, (He.Fa.glo "_law_crosses").ok K, (He.Fa.glo "_law_aims").ok K, (He.Fa.glo "_law_says").ok K, (He.Fa.glo "_law_all_links").ok K, (He.Fa.glo "_law_refused").ok K, (He.Fa.glo "_law_link_told").ok K, (He.Fa.glo "_law_grid").ok K, (He.Fa.glo "_law_overs").ok K, (He.Fa.glo "law").ok K, (He.Fa.free "ValueError").ok K, (He.Fa.free "abs").ok K, (He.Fa.free "all").ok K, (He.Fa.free "int").ok K, (He.Fa.free "len").ok K, (He.Fa.free "list").ok K, (He.Fa.free "max").ok K, (He.Fa.free "property").ok K, (He.Fa.free "range").ok K, (He.Fa.free "sorted").ok K, (He.Fa.free "sum").ok K, (He.Fa.int "MOST_LENGTH" 40).ok K, (He.Fa.int "MOST_GAPS" 11).ok K, (He.Fa.int "MOST_CLOSED" 200).ok K, (He.Fa.glo "PickError").ok K, (He.Fa.exc "PickError").ok K, (He.Fa.glo "InvalidHouse").ok K] ++ [(He.Fa.exc "InvalidHouse").ok K, (He.Fa.exm "InvalidHouse" "InvalidLink" false).ok K, (He.Fa.glo "InvalidLink").ok K, (He.Fa.exc "InvalidLink").ok K, (He.Fa.exm "InvalidLink" "InvalidLink" true).ok K, (He.Fa.glo "House").ok K, (He.Fa.cls "House").ok K, (He.Fa.noat "House" "_lengths").ok K, (He.Fa.noat "House" "_gaps").ok K, (He.Fa.noat "House" "_closed").ok K, (He.Fa.mkr "House").ok K, prB K (He.ga K "House") "lengths", prB K (He.ga K "House") "gaps", prB K (He.ga K "House") "closed", prB K (He.ga K "House") "top", prB K (He.ga K "House") "aisles", (He.Fa.meth "House" "crosses").ok K, (He.Fa.meth "House" "is_place").ok K, (He.Fa.meth "House" "is_cross").ok K, (He.Fa.meth "House" "is_link").ok K, (He.Fa.meth "House" "is_closed").ok K, (He.Fa.meth "House" "places").ok K, (He.Fa.meth "House" "walked_links").ok K, (He.Fa.meth "House" "check_link").ok K, (He.Fa.meth "House" "ends_of").ok K, (He.Fa.meth "House" "length_of").ok K]
def ok (K : PySem.W.Frag) : Bool := (okL K).all id
theorem okAt {K : PySem.W.Frag} (h : ok K = true) (i : Nat) {b : Bool} (e : (okL K)[i]? = some b) : b = true := List.all_eq_true.mp h b (List.mem_of_getElem? e)
theorem facts {K : PySem.W.Frag} {h : Heap} {mg : Str → Option Value} (X : K.In h) (G : h.Ns mainGlobals mg) (c : SaysQ ok fn K) : Nonempty (Fs K mg) := by
  obtain ⟨d_are_lengths, F_are_lengths⟩ := c.def_ 0 rfl
  obtain ⟨d_law_row, F_law_row⟩ := c.def_ 1 rfl
  obtain ⟨d_law_numbers, F_law_numbers⟩ := c.def_ 2 rfl
  obtain ⟨d_law_parts, F_law_parts⟩ := c.def_ 3 rfl
  obtain ⟨d_law_crosses, F_law_crosses⟩ := c.def_ 4 rfl
  obtain ⟨d_law_aims, F_law_aims⟩ := c.def_ 5 rfl
  obtain ⟨d_law_says, F_law_says⟩ := c.def_ 6 rfl
  obtain ⟨d_law_all_links, F_law_all_links⟩ := c.def_ 7 rfl
  obtain ⟨d_law_refused, F_law_refused⟩ := c.def_ 8 rfl
  obtain ⟨d_law_link_told, F_law_link_told⟩ := c.def_ 9 rfl
  obtain ⟨d_law_grid, F_law_grid⟩ := c.def_ 10 rfl
  obtain ⟨d_law_overs, F_law_overs⟩ := c.def_ 11 rfl
  obtain ⟨d_law, F_law⟩ := c.def_ 12 rfl
  obtain ⟨d_House_init, F_House_init⟩ := c.def_ 13 rfl
  obtain ⟨d_House_lengths, F_House_lengths⟩ := c.def_ 14 rfl
  obtain ⟨d_House_gaps, F_House_gaps⟩ := c.def_ 15 rfl
  obtain ⟨d_House_closed, F_House_closed⟩ := c.def_ 16 rfl
  obtain ⟨d_House_top, F_House_top⟩ := c.def_ 17 rfl
  obtain ⟨d_House_aisles, F_House_aisles⟩ := c.def_ 18 rfl
  obtain ⟨d_House_crosses, F_House_crosses⟩ := c.def_ 19 rfl
  obtain ⟨d_House_is_place, F_House_is_place⟩ := c.def_ 20 rfl
  obtain ⟨d_House_is_cross, F_House_is_cross⟩ := c.def_ 21 rfl
  obtain ⟨d_House_is_link, F_House_is_link⟩ := c.def_ 22 rfl
  obtain ⟨d_House_is_closed, F_House_is_closed⟩ := c.def_ 23 rfl
  obtain ⟨d_House_places, F_House_places⟩ := c.def_ 24 rfl
  obtain ⟨d_House_walked_links, F_House_walked_links⟩ := c.def_ 25 rfl
  obtain ⟨d_House_check_link, F_House_check_link⟩ := c.def_ 26 rfl
  obtain ⟨d_House_ends_of, F_House_ends_of⟩ := c.def_ 27 rfl
  obtain ⟨d_House_length_of, F_House_length_of⟩ := c.def_ 28 rfl
  have z := c.ok
  exact ⟨{
    d_are_lengths := d_are_lengths, F_are_lengths := F_are_lengths,
    d_law_row := d_law_row, F_law_row := F_law_row,
    d_law_numbers := d_law_numbers, F_law_numbers := F_law_numbers,
    d_law_parts := d_law_parts, F_law_parts := F_law_parts,
    d_law_crosses := d_law_crosses, F_law_crosses := F_law_crosses,
    d_law_aims := d_law_aims, F_law_aims := F_law_aims,
    d_law_says := d_law_says, F_law_says := F_law_says,
    d_law_all_links := d_law_all_links, F_law_all_links := F_law_all_links,
    d_law_refused := d_law_refused, F_law_refused := F_law_refused,
    d_law_link_told := d_law_link_told, F_law_link_told := F_law_link_told,
    d_law_grid := d_law_grid, F_law_grid := F_law_grid,
    d_law_overs := d_law_overs, F_law_overs := F_law_overs,
    d_law := d_law, F_law := F_law,
    d_House_init := d_House_init, F_House_init := F_House_init,
    d_House_lengths := d_House_lengths, F_House_lengths := F_House_lengths,
    d_House_gaps := d_House_gaps, F_House_gaps := F_House_gaps,
    d_House_closed := d_House_closed, F_House_closed := F_House_closed,
    d_House_top := d_House_top, F_House_top := F_House_top,
    d_House_aisles := d_House_aisles, F_House_aisles := F_House_aisles,
    d_House_crosses := d_House_crosses, F_House_crosses := F_House_crosses,
    d_House_is_place := d_House_is_place, F_House_is_place := F_House_is_place,
    d_House_is_cross := d_House_is_cross, F_House_is_cross := F_House_is_cross,
    d_House_is_link := d_House_is_link, F_House_is_link := F_House_is_link,
    d_House_is_closed := d_House_is_closed, F_House_is_closed := F_House_is_closed,
    d_House_places := d_House_places, F_House_places := F_House_places,
    d_House_walked_links := d_House_walked_links, F_House_walked_links := F_House_walked_links,
    d_House_check_link := d_House_check_link, F_House_check_link := F_House_check_link,
    d_House_ends_of := d_House_ends_of, F_House_ends_of := F_House_ends_of,
    d_House_length_of := d_House_length_of, F_House_length_of := F_House_length_of,
    g_are_lengths := (fun h => He.glo_ok X G h) (okAt z 0 (b := (He.Fa.glo "are_lengths").ok K) rfl),
    g_law_row := (fun h => He.glo_ok X G h) (okAt z 1 (b := (He.Fa.glo "_law_row").ok K) rfl),
    g_law_numbers := (fun h => He.glo_ok X G h) (okAt z 2 (b := (He.Fa.glo "_law_numbers").ok K) rfl),
    g_law_parts := (fun h => He.glo_ok X G h) (okAt z 3 (b := (He.Fa.glo "_law_parts").ok K) rfl),
    g_law_crosses := (fun h => He.glo_ok X G h) (okAt z 4 (b := (He.Fa.glo "_law_crosses").ok K) rfl),
    g_law_aims := (fun h => He.glo_ok X G h) (okAt z 5 (b := (He.Fa.glo "_law_aims").ok K) rfl),
    g_law_says := (fun h => He.glo_ok X G h) (okAt z 6 (b := (He.Fa.glo "_law_says").ok K) rfl),
    g_law_all_links := (fun h => He.glo_ok X G h) (okAt z 7 (b := (He.Fa.glo "_law_all_links").ok K) rfl),
    g_law_refused := (fun h => He.glo_ok X G h) (okAt z 8 (b := (He.Fa.glo "_law_refused").ok K) rfl),
    g_law_link_told := (fun h => He.glo_ok X G h) (okAt z 9 (b := (He.Fa.glo "_law_link_told").ok K) rfl),
    g_law_grid := (fun h => He.glo_ok X G h) (okAt z 10 (b := (He.Fa.glo "_law_grid").ok K) rfl),
    g_law_overs := (fun h => He.glo_ok X G h) (okAt z 11 (b := (He.Fa.glo "_law_overs").ok K) rfl),
    g_law := (fun h => He.glo_ok X G h) (okAt z 12 (b := (He.Fa.glo "law").ok K) rfl),
    fr_ValueError := (fun h => He.free_ok X G h) (okAt z 13 (b := (He.Fa.free "ValueError").ok K) rfl),
    fr_abs := (fun h => He.free_ok X G h) (okAt z 14 (b := (He.Fa.free "abs").ok K) rfl),
    fr_all := (fun h => He.free_ok X G h) (okAt z 15 (b := (He.Fa.free "all").ok K) rfl),
    fr_int := (fun h => He.free_ok X G h) (okAt z 16 (b := (He.Fa.free "int").ok K) rfl),
    fr_len := (fun h => He.free_ok X G h) (okAt z 17 (b := (He.Fa.free "len").ok K) rfl),
    fr_list := (fun h => He.free_ok X G h) (okAt z 18 (b := (He.Fa.free "list").ok K) rfl),
    fr_max := (fun h => He.free_ok X G h) (okAt z 19 (b := (He.Fa.free "max").ok K) rfl),
    fr_property := (fun h => He.free_ok X G h) (okAt z 20 (b := (He.Fa.free "property").ok K) rfl),
    fr_range := (fun h => He.free_ok X G h) (okAt z 21 (b := (He.Fa.free "range").ok K) rfl),
    fr_sorted := (fun h => He.free_ok X G h) (okAt z 22 (b := (He.Fa.free "sorted").ok K) rfl),
    fr_sum := (fun h => He.free_ok X G h) (okAt z 23 (b := (He.Fa.free "sum").ok K) rfl),
    i_MOST_LENGTH := (fun h => He.int_ok X G h) (okAt z 24 (b := (He.Fa.int "MOST_LENGTH" 40).ok K) rfl),
    i_MOST_GAPS := (fun h => He.int_ok X G h) (okAt z 25 (b := (He.Fa.int "MOST_GAPS" 11).ok K) rfl),
    i_MOST_CLOSED := (fun h => He.int_ok X G h) (okAt z 26 (b := (He.Fa.int "MOST_CLOSED" 200).ok K) rfl),
    g_PickError := (fun h => He.glo_ok X G h) (okAt z 27 (b := (He.Fa.glo "PickError").ok K) rfl),
    e_PickError := (fun h => He.exc_ok h) (okAt z 28 (b := (He.Fa.exc "PickError").ok K) rfl),
    g_InvalidHouse := (fun h => He.glo_ok X G h) (okAt z 29 (b := (He.Fa.glo "InvalidHouse").ok K) rfl),
    e_InvalidHouse := (fun h => He.exc_ok h) (okAt z 30 (b := (He.Fa.exc "InvalidHouse").ok K) rfl),
    x_InvalidHouse_InvalidLink := (fun h => He.exm_ok h) (okAt z 31 (b := (He.Fa.exm "InvalidHouse" "InvalidLink" false).ok K) rfl),
    g_InvalidLink := (fun h => He.glo_ok X G h) (okAt z 32 (b := (He.Fa.glo "InvalidLink").ok K) rfl),
    e_InvalidLink := (fun h => He.exc_ok h) (okAt z 33 (b := (He.Fa.exc "InvalidLink").ok K) rfl),
    x_InvalidLink_InvalidLink := (fun h => He.exm_ok h) (okAt z 34 (b := (He.Fa.exm "InvalidLink" "InvalidLink" true).ok K) rfl),
    g_House := (fun h => He.glo_ok X G h) (okAt z 35 (b := (He.Fa.glo "House").ok K) rfl),
    c_House := (fun h => He.cls_ok h) (okAt z 36 (b := (He.Fa.cls "House").ok K) rfl),
    a_House_lengths := (fun h => He.noat_ok h) (okAt z 37 (b := (He.Fa.noat "House" "_lengths").ok K) rfl),
    a_House_gaps := (fun h => He.noat_ok h) (okAt z 38 (b := (He.Fa.noat "House" "_gaps").ok K) rfl),
    a_House_closed := (fun h => He.noat_ok h) (okAt z 39 (b := (He.Fa.noat "House" "_closed").ok K) rfl),
    mk_House := (fun h => He.mkr_ok h) (okAt z 40 (b := (He.Fa.mkr "House").ok K) rfl),
    p_House_lengths := (fun h => prB_ok h) (okAt z 41 (b := prB K (He.ga K "House") "lengths") rfl),
    p_House_gaps := (fun h => prB_ok h) (okAt z 42 (b := prB K (He.ga K "House") "gaps") rfl),
    p_House_closed := (fun h => prB_ok h) (okAt z 43 (b := prB K (He.ga K "House") "closed") rfl),
    p_House_top := (fun h => prB_ok h) (okAt z 44 (b := prB K (He.ga K "House") "top") rfl),
    p_House_aisles := (fun h => prB_ok h) (okAt z 45 (b := prB K (He.ga K "House") "aisles") rfl),
    m_House_crosses := (fun h => He.meth_ok h) (okAt z 46 (b := (He.Fa.meth "House" "crosses").ok K) rfl),
    m_House_is_place := (fun h => He.meth_ok h) (okAt z 47 (b := (He.Fa.meth "House" "is_place").ok K) rfl),
    m_House_is_cross := (fun h => He.meth_ok h) (okAt z 48 (b := (He.Fa.meth "House" "is_cross").ok K) rfl),
    m_House_is_link := (fun h => He.meth_ok h) (okAt z 49 (b := (He.Fa.meth "House" "is_link").ok K) rfl),
    m_House_is_closed := (fun h => He.meth_ok h) (okAt z 50 (b := (He.Fa.meth "House" "is_closed").ok K) rfl),
    m_House_places := (fun h => He.meth_ok h) (okAt z 51 (b := (He.Fa.meth "House" "places").ok K) rfl),
    m_House_walked_links := (fun h => He.meth_ok h) (okAt z 52 (b := (He.Fa.meth "House" "walked_links").ok K) rfl),
    m_House_check_link := (fun h => He.meth_ok h) (okAt z 53 (b := (He.Fa.meth "House" "check_link").ok K) rfl),
    m_House_ends_of := (fun h => He.meth_ok h) (okAt z 54 (b := (He.Fa.meth "House" "ends_of").ok K) rfl),
    m_House_length_of := (fun h => He.meth_ok h) (okAt z 55 (b := (He.Fa.meth "House" "length_of").ok K) rfl) }⟩
/-! ### the drawn numbers -/
section
variable {P : Program} {w : World} {K : PySem.W.Frag} {mg : Str → Option Value} {base : Heap}
theorem fn_row (S : Fs K mg) (cell many : Int) (hm : 0 ≤ many ∧ many ≤ 10000) :
    FnOk P w K mg base (L2.CX P w) 1 (f_law_row K) S.d_law_row P_law_row (spO [rD (.int cell), rD (.int many)] (cD ((rowOf cell many.toNat).map .int))) := by
  refine fn_o (nm := nm_law_row) (n := 4) S.F_law_row sc_law_row rfl (.cons (.cons .nil)) rfl rfl (fun X W D hP hw hK hmg hbase xb ro => ?_)
  subst hP hw hK hmg hbase
  have bAbs : Bl X "abs" := xb.v.bl S.fr_abs
  have bInt : Bl X "int" := xb.v.bl S.fr_int
  have bRange : Bl X "range" := xb.v.bl S.fr_range
  refine blk_setO xb 2 (evo_lst evd_nil) ?_
  refine blk_set xb 3 (R := rD (.int 0)) ev_int ?_
  refine blk_ifm ([vl (rD (.int cell)), vl (rD (.int many)), .ow (cD []), vl (rD (.int (if (10 : Int) ^ 18 ≤ (cell.natAbs : Int) then (cell.natAbs : Int) else 0))), .no, .no]) (tv_ge (ev_abs bAbs (v_ xb.v 0)) (ev_pow ev_int ev_int (by decide))) (fun h => ?_) (fun h => ?_) ?_
  · refine blk_set xb 3 (ev_abs bAbs (v_ xb.v 0)) ?_
    have h : (10 : Int) ^ 18 ≤ (cell.natAbs : Int) := of_decide_eq_true h
    refine blk_end ?_
    rw [if_pos h]
    exact SlAll.rfl _
  · have h : ¬ (10 : Int) ^ 18 ≤ (cell.natAbs : Int) := of_decide_eq_false h
    refine blk_end ?_
    rw [if_neg h]
    exact SlAll.rfl _
  · refine blk_set xb 4 (ev_mod (ev_intI bInt (ev_abs bAbs (v_ xb.v 0))) ev_int (by decide)) ?_
    refine blk_rng (lo := 0) (n := many.toNat) xb (fun i => [vl (rD (.int cell)), vl (rD (.int many)), .ow (cD ((rowSt cell i).2.2.map .int)), vl (rD (.int (rowSt cell i).2.1)), vl (rD (.int (rowSt cell i).1)), .no]) _ (rng1 bRange (v_ xb.v 1) (by omega) hm.1) ?_ (fun i hi => tg_name xb.v 5 (hf := .inl (xb.fnn _))) (fun i hi => ?_) ?_
    · exact SlAll.rfl _
    · have hs := rowSt_b cell i
      refine blk_set xb 4 (ev_mod (ev_intI bInt (ev_add (ev_mul (ev_add (v_ xb.v 4) ev_int) ev_int (.inr (by decide))) (ev_mul ev_int (v_ xb.v 5) (.inl (by decide))))) ev_int (by decide)) ?_
      refine blk_if (tv_gt (v_ xb.v 3) ev_int) (fun h => ?_) (fun h => ?_)
      · rw [decide_eq_true_eq] at h
        refine blk_app xb 2 rfl (ev_mod (ev_intI bInt (v_ xb.v 3)) ev_int (by decide)) ?_ ?_
        · rw [List.length_map, rowSt_l]; show i < 16777216; omega
        refine blk_set xb 3 (ev_fdiv (v_ xb.v 3) ev_int (by decide)) ?_
        refine blk_go (blk_end ?_)
        have e : rowSt cell (i + 1) = (nxt (rowSt cell i).1 i, (rowSt cell i).2.1 / 1009, (rowSt cell i).2.2 ++ [(rowSt cell i).2.1 % 1009]) := by
          simp only [rowSt, if_pos h]
        rw [e]
        simp only [List.map_append, List.map_cons, List.map_nil, Int.zero_add, nxt]
        exact .cons (.refl _) (.cons (.refl _) (.cons (.refl _) (.cons (.refl _) (.cons (.refl _) (.cons (.no _) .nil)))))
      · rw [decide_eq_false_iff_not] at h
        refine blk_app xb 2 rfl (ev_mod (ev_intI bInt (ev_fdiv (v_ xb.v 4) ev_int (by decide))) ev_int (by decide)) ?_ ?_
        · rw [List.length_map, rowSt_l]; show i < 16777216; omega
        refine blk_go (blk_end ?_)
        have e : rowSt cell (i + 1) = (nxt (rowSt cell i).1 i, (rowSt cell i).2.1, (rowSt cell i).2.2 ++ [nxt (rowSt cell i).1 i / 2048 % 1009]) := by
          simp only [rowSt, if_neg h]
        rw [e]
        simp only [List.map_append, List.map_cons, List.map_nil, Int.zero_add, nxt]
        exact .cons (.refl _) (.cons (.refl _) (.cons (.refl _) (.cons (.refl _) (.cons (.refl _) (.cons (.no _) .nil)))))
    · exact blk_retV xb.v 2 rfl ro
theorem rowOf_len (c : Int) (n : Nat) : (rowOf c n).length = n := rowSt_l c n
theorem allOf_snoc (cs : List Int) (c : Int) (n : Nat) : allOf (cs ++ [c]) n = allOf cs n ++ rowOf c n := by
  unfold allOf
  rw [List.flatMap_append, List.flatMap_cons, List.flatMap_nil, List.append_nil]
theorem allOf_len (cs : List Int) (n : Nat) : (allOf cs n).length = cs.length * n := by
  induction cs with
  | nil => simp [allOf]
  | cons c cs ih =>
    have : allOf (c :: cs) n = rowOf c n ++ allOf cs n := rfl
    rw [this, List.length_append, ih, rowOf_len, List.length_cons]
    rw [Nat.add_mul]
    omega
theorem mul63 {a b : Nat} (ha : a ≤ 63) (hb : b ≤ 2000) : a * b ≤ 126000 := Nat.le_trans (Nat.mul_le_mul ha hb) (by decide)
theorem fn_numbers (S : Fs K mg) (ns : List Int) (many : Nat) (hl : ns.length ≤ 63) (hm : many ≤ 1000) :
    FnOk P w K mg base (L2.CX P w) 2 (f_law_numbers K) S.d_law_numbers P_law_numbers (spO [rS K ns, rD (.int many)] (cD ((numsOf ns many).map .int))) := by
  refine fn_o (nm := nm_law_numbers) (n := 5) S.F_law_numbers sc_law_numbers rfl (.cons (.cons .nil)) rfl rfl (fun X W D hP hw hK hmg hbase xb ro => ?_)
  subst hP hw hK hmg hbase
  have bMax : Bl X "max" := xb.v.bl S.fr_max
  have bLen : Bl X "len" := xb.v.bl S.fr_len
  have lc : (cut ns none (some 63)).length ≤ 63 := Nat.le_trans (cut_le _ _ _) hl
  have le2 : eachOf (cut ns none (some 63)) many ≤ 1001 := by
    unfold eachOf
    have := Nat.div_le_self many (max 1 (cut ns none (some 63)).length)
    omega
  refine blk_setO xb 2 (evo_slS (v_ xb.v 0) evp_no (evp_so ev_int)) ?_
  have hmax : (max 1 (((cut ns none (some 63)).map PyData.int).length : Int)) = ((max 1 (cut ns none (some 63)).length : Nat) : Int) := by
    rw [List.length_map]; omega
  refine blk_set xb 3 (ev_d (d' := .int (eachOf (cut ns none (some 63)) many : Nat)) (ev_add ev_int (ev_fdiv (v_ xb.v 1) (ev_max2 xb.calm bMax ev_int (ev_len bLen (o_ xb.v 2))) (by rw [hmax]; omega))) (by rw [hmax]; congr 1)) ?_
  refine blk_setO xb 4 (evo_lst evd_nil) ?_
  refine blk_frz 2 rfl ?_
  refine blk_for (R := fun c => rD (.int c)) (xs := cut ns none (some 63)) xb (fun pre => [vl (rS X.K ns), vl (rD (.int many)), vl (rD (.list ((cut ns none (some 63)).map .int))), vl (rD (.int (eachOf (cut ns none (some 63)) many : Nat))), .ow (cD ((allOf pre (eachOf (cut ns none (some 63)) many)).map .int)), .no, .no])
    (fun pre c => [vl (rS X.K ns), vl (rD (.int many)), vl (rD (.list ((cut ns none (some 63)).map .int))), vl (rD (.int (eachOf (cut ns none (some 63)) many : Nat))), .ow (cD ((allOf pre (eachOf (cut ns none (some 63)) many)).map .int)), vl (rD (.int c)), .no]) (evi_lst (ev_b (v_ xb.v 2))) (SlAll.rfl _) (fun pre c post hs => tg_name xb.v 5 (hf := .inl (xb.fnn _))) (fun gh' pre c post hs => ?_) ?_
  · have hpre : pre.length ≤ 63 := by
      have := congrArg List.length hs
      rw [List.length_append, List.length_cons] at this
      omega
    refine blk_for (R := fun c => rD (.int c)) (xs := rowOf c (eachOf (cut ns none (some 63)) many)) xb (fun q => [vl (rS X.K ns), vl (rD (.int many)), vl (rD (.list ((cut ns none (some 63)).map .int))), vl (rD (.int (eachOf (cut ns none (some 63)) many : Nat))), .ow (cD ((allOf pre (eachOf (cut ns none (some 63)) many) ++ q).map .int)), vl (rD (.int c)), .no])
      (fun q x => [vl (rS X.K ns), vl (rD (.int many)), vl (rD (.list ((cut ns none (some 63)).map .int))), vl (rD (.int (eachOf (cut ns none (some 63)) many : Nat))), .ow (cD ((allOf pre (eachOf (cut ns none (some 63)) many) ++ q).map .int)), vl (rD (.int c)), vl (rD (.int x))]) (evi_lst (ev_b (ev_fz (evo_call (fn_row S c (eachOf (cut ns none (some 63)) many : Nat) (by omega)) (xb.room.mono (by decide)) (xb.v.gl (by decide +kernel)) S.g_law_row S.F_law_row.kp S.b_law_row (eva_cons (v_ xb.v 5) (eva_cons (v_ xb.v 3) eva_nil)) (by decide +kernel))))) ?_ (fun q x post hq => tg_name xb.v 6 (hf := .inl (xb.fnn _))) (fun gh2 q x post hq => ?_) ?_
    · rw [List.append_nil]
      exact SlAll.rfl _
    · have lq := congrArg List.length hq
      rw [rowOf_len, List.length_append, List.length_cons] at lq
      refine blk_app xb 4 rfl (v_ xb.v 6) ?_ ?_
      · rw [List.length_map, List.length_append, allOf_len]
        have := mul63 hpre (Nat.le_trans le2 (by decide))
        show _ < 16777216
        omega
      · refine blk_end ?_
        rw [← List.append_assoc, List.map_append (l₂ := [x])]
        exact .cons (.refl _) (.cons (.refl _) (.cons (.refl _) (.cons (.refl _) (.cons (.refl _) (.cons (.refl _) (.cons (.no _) .nil))))))
    · refine blk_end ?_
      rw [allOf_snoc]
      exact .cons (.refl _) (.cons (.refl _) (.cons (.refl _) (.cons (.refl _) (.cons (.refl _) (.cons (.no _) (.cons (.refl _) .nil))))))
  · have lAll : (allOf (cut ns none (some 63)) (eachOf (cut ns none (some 63)) many)).length ≤ 126000 := by
      rw [allOf_len]
      exact mul63 lc (Nat.le_trans le2 (by decide))
    have hnum : numsOf ns many = (allOf (cut ns none (some 63)) (eachOf (cut ns none (some 63)) many) ++ List.replicate (many - (allOf (cut ns none (some 63)) (eachOf (cut ns none (some 63)) many)).length) 0).take many := rfl
    generalize allOf (cut ns none (some 63)) (eachOf (cut ns none (some 63)) many) = al at *
    refine blk_while (S := Nat) xb (fun i => [vl (rS X.K ns), vl (rD (.int many)), vl (rD (.list ((cut ns none (some 63)).map .int))), vl (rD (.int (eachOf (cut ns none (some 63)) many : Nat))), .ow (cD ((al ++ List.replicate i 0).map .int)), .no, .no]) (fun i => i ≤ many - al.length) (fun i => many - al.length - i) (fun i => decide (((al.length + i : Nat) : Int) < (many : Int))) 0 ?_ (Nat.zero_le _) (fun i hi => ?_) (fun i N hi hd hN => ?_) (fun i hi hd => ?_)
    · rw [List.replicate_zero, List.append_nil]
      exact SlAll.rfl _
    · refine tv_b (tv_lt (ev_len bLen (o_ xb.v 4)) (v_ xb.v 1)) ?_
      rw [List.length_map, List.length_append, List.length_replicate]
    · have hd := of_decide_eq_true hd
      refine blk_app xb 4 rfl ev_int ?_ ?_
      · rw [List.length_map, List.length_append, List.length_replicate]
        show _ < 16777216
        omega
      · refine blk_endN (hN (i + 1) · · (by omega) (by omega)) ?_
        rw [List.replicate_succ', ← List.append_assoc, List.map_append (l₂ := [0])]
        exact SlAll.rfl _
    · have hd := of_decide_eq_false hd
      have ei : i = many - al.length := by omega
      subst ei
      refine blk_retO (evo_sl (o_ xb.v 4) evp_no (evp_so (v_ xb.v 1))) ?_
      rw [cut_nat, ← List.map_take, ← hnum]
      exact ro
end
/-! ### houses -/
structure Hs where
  ls : List Int
  gs : List Int
  cl : List (Str × Int × Int)
abbrev Lk : Type := Str × Int × Int
def kL (l : Lk) : List Key := [.inr l.1, .inl l.2.1, .inl l.2.2]
def topOf (ls : List Int) : Int := ls.sum
def aislesOf (gs : List Int) : Int := gs.length + 1
def crossesOf (ls : List Int) : List Int := (List.range (ls.length + 1)).map fun k => (ls.take k).sum
def inP (ls gs : List Int) (a b : Int) : Bool := (decide (0 ≤ a) && decide (a < aislesOf gs)) && (decide (0 ≤ b) && decide (b ≤ topOf ls))
def inC (ls gs : List Int) (a b : Int) : Bool := inP ls gs a b && decide (b ∈ crossesOf ls)
def inL (ls gs : List Int) (l : Lk) : Bool := if l.1 = ("up" : Str) then inP ls gs l.2.1 l.2.2 && decide (l.2.2 < topOf ls) else decide (l.1 = ("over" : Str)) && (inC ls gs l.2.1 l.2.2 && decide (l.2.1 < aislesOf gs - 1))
theorem crossesOf_snoc (ls : List Int) (x : Int) : crossesOf (ls ++ [x]) = crossesOf ls ++ [ls.sum + x] := by
  unfold crossesOf
  rw [List.length_append, List.length_singleton, List.range_succ, List.map_append, List.map_singleton]
  congr 1
  · refine List.map_congr_left fun k hk => ?_
    rw [List.mem_range] at hk
    rw [List.take_append_of_le_length (by omega)]
  · rw [List.take_of_length_le (by rw [List.length_append, List.length_singleton]; exact Nat.le_refl _), List.sum_append, List.sum_singleton]
theorem crossesOf_last (ls : List Int) : ∃ ys, crossesOf ls = ys ++ [ls.sum] := by
  unfold crossesOf
  rw [List.range_succ, List.map_append, List.map_singleton, List.take_length]
  exact ⟨_, rfl⟩
theorem crossesOf_len (ls : List Int) : (crossesOf ls).length = ls.length + 1 := by
  unfold crossesOf
  rw [List.length_map, List.length_range]
theorem atI_last {α : Type} (ys : List α) (x : α) : atI (ys ++ [x]) (-1) = some x := by
  unfold atI ixN
  rw [List.length_append, List.length_singleton]
  have h1 : (1 : Int) ≤ (ys.length : Int) + 1 := by omega
  have h2 : (-1 + ((ys.length : Int) + 1)).toNat = ys.length := by omega
  simp [h1, h2]
/-- a house, made -/
def rH (K : PySem.W.Frag) (h : Hs) : Rp := rI (He.ga K "House") [("_lengths", rD (.list (h.ls.map .int))), ("_gaps", rD (.list (h.gs.map .int))), ("_closed", rT (h.cl.map fun l => (kL l, .bool true)))]
instance {K : PySem.W.Frag} {h : Hs} : Fz (rH K h) := inferInstanceAs (Fz (rI _ _))
theorem insH {K : PySem.W.Frag} {h : Hs} {m : Str} (hm : (m == ("_lengths" : Str) || m == ("_gaps" : Str) || m == ("_closed" : Str)) = false) : InsOf (rH K h) (He.ga K "House") m := by
  refine insOf_rI ?_
  simp only [Bool.or_eq_false_iff] at hm
  obtain ⟨⟨h1, h2⟩, h3⟩ := hm
  rw [List.lookup_cons, h1, List.lookup_cons, h2, List.lookup_cons, h3]
  rfl
section
variable {P : Program} {w : World} {K : PySem.W.Frag} {mg : Str → Option Value} {base : Heap}
theorem fn_lengths (S : Fs K mg) (h : Hs) : FnOk P w K mg base (L2.CX P w) 1 (f_House_lengths K) S.d_House_lengths P_House_lengths (spO [rH K h] (cD (h.ls.map .int))) := by
  refine fn_o (nm := nm_House_lengths) (n := 0) S.F_House_lengths sc_House_lengths rfl (.cons .nil) rfl rfl (fun X W D hP hw hK hmg hbase xb ro => ?_)
  subst hP hw hK hmg hbase
  exact blk_retO (evo_list (xb.v.bl S.fr_list) (ev_h (ev_f (v_ xb.v 0) S.c_House S.a_House_lengths))) ro
theorem fn_gaps (S : Fs K mg) (h : Hs) : FnOk P w K mg base (L2.CX P w) 1 (f_House_gaps K) S.d_House_gaps P_House_gaps (spO [rH K h] (cD (h.gs.map .int))) := by
  refine fn_o (nm := nm_House_gaps) (n := 0) S.F_House_gaps sc_House_gaps rfl (.cons .nil) rfl rfl (fun X W D hP hw hK hmg hbase xb ro => ?_)
  subst hP hw hK hmg hbase
  exact blk_retO (evo_list (xb.v.bl S.fr_list) (ev_h (ev_f (v_ xb.v 0) S.c_House S.a_House_gaps))) ro
theorem fn_closed (S : Fs K mg) (h : Hs) : FnOk P w K mg base (L2.CX P w) 1 (f_House_closed K) S.d_House_closed P_House_closed (spO [rH K h] (cD (h.cl.map dL))) := by
  refine fn_o (nm := nm_House_closed) (n := 0) S.F_House_closed sc_House_closed rfl (.cons .nil) rfl rfl (fun X W D hP hw hK hmg hbase xb ro => ?_)
  subst hP hw hK hmg hbase
  refine blk_retO (evo_listTd xb.calm (xb.v.bl S.fr_list) (ev_hT (ev_f (v_ xb.v 0) S.c_House S.a_House_closed))) ?_
  rw [List.map_map, List.map_map]
  exact ro
theorem fn_top (S : Fs K mg) (h : Hs) : FnOk P w K mg base (L2.CX P w) 1 (f_House_top K) S.d_House_top P_House_top (spV [rH K h] (rD (.int (topOf h.ls)))) := by
  refine fn_v (nm := nm_House_top) (n := 0) S.F_House_top sc_House_top rfl (.cons .nil) rfl rfl (fun X W D hP hw hK hmg hbase xb rv _ => ?_)
  subst hP hw hK hmg hbase
  exact blk_ret (ev_sum xb.calm (xb.v.bl S.fr_sum) (ev_h (ev_f (v_ xb.v 0) S.c_House S.a_House_lengths))) rv
theorem fn_aisles (S : Fs K mg) (h : Hs) : FnOk P w K mg base (L2.CX P w) 1 (f_House_aisles K) S.d_House_aisles P_House_aisles (spV [rH K h] (rD (.int (aislesOf h.gs)))) := by
  refine fn_v (nm := nm_House_aisles) (n := 0) S.F_House_aisles sc_House_aisles rfl (.cons .nil) rfl rfl (fun X W D hP hw hK hmg hbase xb rv _ => ?_)
  subst hP hw hK hmg hbase
  refine blk_ret (ev_d (ev_add (ev_len (xb.v.bl S.fr_len) (ev_h (ev_f (v_ xb.v 0) S.c_House S.a_House_gaps))) ev_int) ?_) rv
  rw [List.length_map]
  rfl
theorem fn_crosses (S : Fs K mg) (h : Hs) (hl : h.ls.length ≤ 1000) : FnOk P w K mg base (L2.CX P w) 1 (f_House_crosses K) S.d_House_crosses P_House_crosses (spO [rH K h] (cD ((crossesOf h.ls).map .int))) := by
  refine fn_o (nm := nm_House_crosses) (n := 2) S.F_House_crosses sc_House_crosses rfl (.cons .nil) rfl rfl (fun X W D hP hw hK hmg hbase xb ro => ?_)
  subst hP hw hK hmg hbase
  refine blk_setO xb 1 (evo_lst (evd_cons ev_int evd_nil)) ?_
  refine blk_for (R := fun c => rD (.int c)) (xs := h.ls) xb (fun pre => [vl (rH X.K h), .ow (cD ((crossesOf pre).map .int)), .no]) (fun pre c => [vl (rH X.K h), .ow (cD ((crossesOf pre).map .int)), vl (rD (.int c))]) (evi_lst (ev_b (ev_f (v_ xb.v 0) S.c_House S.a_House_lengths))) (SlAll.rfl _) (fun pre c post hs => tg_name xb.v 2 (hf := .inl (xb.fnn _))) (fun gh' pre c post hs => ?_) ?_
  · have hpre : pre.length ≤ 1000 := by
      have := congrArg List.length hs
      rw [List.length_append, List.length_cons] at this
      omega
    obtain ⟨ys, hy⟩ := crossesOf_last pre
    refine blk_app xb 1 rfl (ev_add (ev_ixL (d := .int pre.sum) (o_ xb.v 1) (ev_neg ev_int) (by rw [hy, List.map_append]; exact atI_last _ _)) (v_ xb.v 2)) ?_ ?_
    · rw [List.length_map, crossesOf_len]; show _ < 16777216; omega
    · refine blk_end ?_
      rw [crossesOf_snoc, List.map_append]
      exact .cons (.refl _) (.cons (.refl _) (.cons (.no _) .nil))
  · exact blk_retV xb.v 1 rfl ro
theorem fn_is_place (S : Fs K mg) (h : Hs) (a b : Int) : FnOk P w K mg base (L2.CX P w) 3 (f_House_is_place K) S.d_House_is_place P_House_is_place (spV [rH K h, rD (dP (a, b))] (rD (.bool (inP h.ls h.gs a b)))) := by
  refine fn_v (nm := nm_House_is_place) (n := 0) S.F_House_is_place sc_House_is_place rfl (.cons (.cons .nil)) rfl rfl (fun X W D hP hw hK hmg hbase xb rv _ => ?_)
  subst hP hw hK hmg hbase
  exact blk_ret (ev_and (ev_chain op_le op_lt ev_int (ev_ixT (v_ xb.v 1) ev_int rfl) (fun _ => ev_prop (v_ xb.v 0) (insH (by decide +kernel)) S.c_House S.p_House_aisles (fn_aisles S h) (xb.room.mono (by decide)) S.b_House_aisles))
    (fun _ => ev_one (ev_chain op_le op_le ev_int (ev_ixT (v_ xb.v 1) ev_int rfl) (fun _ => ev_prop (v_ xb.v 0) (insH (by decide +kernel)) S.c_House S.p_House_top (fn_top S h) (xb.room.mono (by decide)) S.b_House_top)))) rv
theorem fn_is_cross (S : Fs K mg) (h : Hs) (hl : h.ls.length ≤ 1000) (a b : Int) : FnOk P w K mg base (L2.CX P w) 4 (f_House_is_cross K) S.d_House_is_cross P_House_is_cross (spV [rH K h, rD (dP (a, b))] (rD (.bool (inC h.ls h.gs a b)))) := by
  refine fn_v (nm := nm_House_is_cross) (n := 0) S.F_House_is_cross sc_House_is_cross rfl (.cons (.cons .nil)) rfl rfl (fun X W D hP hw hK hmg hbase xb rv _ => ?_)
  subst hP hw hK hmg hbase
  refine blk_ret (ev_d (ev_and (ev_meth (v_ xb.v 0) (insH (by decide +kernel)) S.c_House S.m_House_is_place (fn_is_place S h a b) (xb.room.mono (by decide)) S.b_House_is_place (eva_cons (v_ xb.v 1) eva_nil))
    (fun _ => ev_one (ev_inD (ev_ixT (d := .int b) (v_ xb.v 1) ev_int rfl) (ev_fz (evo_meth0 (v_ xb.v 0) (insH (by decide +kernel)) S.c_House S.m_House_crosses (fn_crosses S h hl) (xb.room.mono (by decide)) S.b_House_crosses)) rfl (good_ints.shaped _ trivial) xb.ls))) ?_) rv
  rw [good_int.any]
  rfl
theorem fn_is_link (S : Fs K mg) (h : Hs) (hl : h.ls.length ≤ 1000) (l : Lk) : FnOk P w K mg base (L2.CX P w) 5 (f_House_is_link K) S.d_House_is_link P_House_is_link (spV [rH K h, rD (dL l)] (rD (.bool (inL h.ls h.gs l)))) := by
  refine fn_v (nm := nm_House_is_link) (n := 3) S.F_House_is_link sc_House_is_link rfl (.cons (.cons .nil)) rfl rfl (fun X W D hP hw hK hmg hbase xb rv _ => ?_)
  subst hP hw hK hmg hbase
  refine blk_asg (v_ xb.v 1) (tg_tup xb.calm (tgs_cons (tg_name xb.v 2 (hf := .inl (xb.fnn _))) (tgs_cons (tg_name xb.v 3 (hf := .inl (xb.fnn _))) (tgs_cons (tg_name xb.v 4 (hf := .inl (xb.fnn _))) tgs_nil)))) ?_
  refine blk_if (tv_eqS (v_ xb.v 2) ev_str) (fun hc => ?_) (fun hc => ?_)
  · have hc := of_decide_eq_true hc
    refine blk_ret (ev_d (ev_and (ev_meth (v_ xb.v 0) (insH (by decide +kernel)) S.c_House S.m_House_is_place (fn_is_place S h l.2.1 l.2.2) (xb.room.mono (by decide)) S.b_House_is_place (eva_cons (ev_tup (evd_cons (v_ xb.v 3) (evd_cons (v_ xb.v 4) evd_nil))) eva_nil))
      (fun _ => ev_one (ev_lt (v_ xb.v 4) (ev_prop (v_ xb.v 0) (insH (by decide +kernel)) S.c_House S.p_House_top (fn_top S h) (xb.room.mono (by decide)) S.b_House_top)))) ?_) rv
    unfold inL
    rw [if_pos hc]
  · have hc := of_decide_eq_false hc
    refine blk_go (blk_ret (ev_d (ev_and (ev_eqS (v_ xb.v 2) ev_str) (fun _ => ev_and (ev_meth (v_ xb.v 0) (insH (by decide +kernel)) S.c_House S.m_House_is_cross (fn_is_cross S h hl l.2.1 l.2.2) (xb.room.mono (by decide)) S.b_House_is_cross (eva_cons (ev_tup (evd_cons (v_ xb.v 3) (evd_cons (v_ xb.v 4) evd_nil))) eva_nil))
      (fun _ => ev_one (ev_lt (v_ xb.v 3) (ev_sub (ev_prop (v_ xb.v 0) (insH (by decide +kernel)) S.c_House S.p_House_aisles (fn_aisles S h) (xb.room.mono (by decide)) S.b_House_aisles) ev_int))))) ?_) rv)
    unfold inL
    rw [if_neg hc]
end
/-! ### which houses are made -/
def arB (ns : List Int) (lo hi : Int) : Bool := (decide (lo ≤ (ns.length : Int)) && decide ((ns.length : Int) ≤ hi)) && (ns.map fun x => decide (1 ≤ x) && decide (x ≤ 40)).all id
def sortL (cl : List Lk) : List Lk := cl.mergeSort (PySem.W.dataLe false dL)
theorem sortL_data (cl : List Lk) : sortD (cl.map dL) = (sortL cl).map dL := (List.map_mergeSort (f := dL) (r := PySem.W.dataLe false dL) (s := PySem.W.dataLe false id) fun _ _ _ _ => rfl).symm
theorem sortL_perm (cl : List Lk) : (sortL cl).Perm cl := List.mergeSort_perm _ _
theorem kL_inj {a b : Lk} (h : kL a = kL b) : a = b := by
  obtain ⟨a1, a2, a3⟩ := a
  obtain ⟨b1, b2, b3⟩ := b
  simp only [kL, List.cons.injEq, Sum.inl.injEq, Sum.inr.injEq, and_true] at h
  obtain ⟨h1, h2, h3⟩ := h
  rw [h1, h2, h3]
section
variable {α β : Type} {fk : α → List Key} {fv : α → β}
theorem putG_new {kvs : List (List Key × β)} {k : List Key} {v : β} (h : ∀ p ∈ kvs, p.1 ≠ k) : putG kvs k v = kvs ++ [(k, v)] := by
  unfold putG
  rw [if_neg]
  intro z
  obtain ⟨p, hp, e⟩ := List.any_eq_true.mp z
  exact h p hp (of_decide_eq_true e)
theorem putG_old {kvs : List (List Key × β)} {k : List Key} {v : β} {p : List Key × β} (hp : p ∈ kvs) (h : p.1 = k) : (putG kvs k v).length = kvs.length := by
  unfold putG
  rw [if_pos (List.any_eq_true.mpr ⟨p, hp, decide_eq_true h⟩), List.length_map]
theorem putG_keys (kvs : List (List Key × β)) (k : List Key) (v : β) : ∀ k', (∃ p ∈ putG kvs k v, p.1 = k') ↔ (∃ p ∈ kvs, p.1 = k') ∨ k' = k := by
  intro k'
  by_cases z : ∃ p ∈ kvs, p.1 = k
  · obtain ⟨p, hp, e⟩ := z
    unfold putG
    rw [if_pos (List.any_eq_true.mpr ⟨p, hp, decide_eq_true e⟩)]
    constructor
    · rintro ⟨q, hq, e2⟩
      obtain ⟨r, hr, e3⟩ := List.mem_map.mp hq
      refine .inl ⟨r, hr, ?_⟩
      rw [← e2, ← e3]
      split <;> rfl
    · rintro (⟨q, hq, e2⟩ | e2)
      · refine ⟨_, List.mem_map.mpr ⟨q, hq, rfl⟩, ?_⟩
        rw [← e2]
        split <;> rfl
      · refine ⟨_, List.mem_map.mpr ⟨p, hp, rfl⟩, ?_⟩
        rw [if_pos e, e2, ← e]
  · rw [putG_new fun p hp e => z ⟨p, hp, e⟩]
    constructor
    · rintro ⟨q, hq, e2⟩
      rcases List.mem_append.mp hq with hq | hq
      · exact .inl ⟨q, hq, e2⟩
      · rw [List.mem_singleton] at hq
        subst hq
        exact .inr e2.symm
    · rintro (⟨q, hq, e2⟩ | e2)
      · exact ⟨q, List.mem_append_left _ hq, e2⟩
      · exact ⟨(k, v), List.mem_append_right _ List.mem_cons_self, e2.symm⟩
theorem allG_gen (inj : ∀ a b, fk a = fk b → a = b) : ∀ (xs : List α) (acc : List (List Key × β)), (∀ x ∈ xs, ∀ p ∈ acc, p.1 ≠ fk x) → xs.Nodup → xs.foldl (fun acc x => putG acc (fk x) (fv x)) acc = acc ++ xs.map fun x => (fk x, fv x)
  | [], acc, _, _ => by simp
  | x :: xs, acc, h, nd => by
    rw [List.nodup_cons] at nd
    rw [List.foldl_cons, putG_new (fun p hp => h x List.mem_cons_self p hp), allG_gen inj xs _ (fun y hy p hp => ?_) nd.2]
    · simp
    · rcases List.mem_append.mp hp with hp | hp
      · exact h y (List.mem_cons_of_mem _ hy) p hp
      · rw [List.mem_singleton] at hp
        subst hp
        intro e
        have := inj _ _ e
        subst this
        exact nd.1 hy
theorem allG_nodup (inj : ∀ a b, fk a = fk b → a = b) {xs : List α} (nd : xs.Nodup) : allG fk fv xs = xs.map fun x => (fk x, fv x) := by
  unfold allG
  rw [allG_gen inj xs [] (fun _ _ _ hp => nomatch hp) nd]
  rfl
theorem allG_fold_lt (inj : ∀ a b, fk a = fk b → a = b) : ∀ (xs : List α) (acc : List (List Key × β)), ((∃ x ∈ xs, ∃ p ∈ acc, p.1 = fk x) ∨ ¬ xs.Nodup) → (xs.foldl (fun acc x => putG acc (fk x) (fv x)) acc).length < acc.length + xs.length
  | [], acc, h => by
    rcases h with ⟨x, hx, _⟩ | h
    · cases hx
    · exact absurd List.nodup_nil h
  | x :: xs, acc, h => by
    rw [List.foldl_cons, List.length_cons]
    have le : ∀ (ys : List α) (acc : List (List Key × β)), (ys.foldl (fun acc x => putG acc (fk x) (fv x)) acc).length ≤ acc.length + ys.length := fun ys => by
      induction ys with
      | nil => intro acc; exact Nat.le_refl _
      | cons y ys ih =>
        intro acc
        rw [List.foldl_cons, List.length_cons]
        have := ih (putG acc (fk y) (fv y))
        have := putG_len acc (fk y) (fv y)
        omega
    by_cases z : ∃ p ∈ acc, p.1 = fk x
    · obtain ⟨p, hp, e⟩ := z
      have h1 := le xs (putG acc (fk x) (fv x))
      rw [putG_old hp e] at h1
      omega
    · have h1 := allG_fold_lt inj xs (putG acc (fk x) (fv x)) (by
        rcases h with ⟨y, hy, p, hp, e⟩ | h
        · rcases List.mem_cons.mp hy with rfl | hy
          · exact absurd ⟨p, hp, e⟩ z
          · obtain ⟨q, hq, e2⟩ := (putG_keys acc (fk x) (fv x) (fk y)).mpr (.inl ⟨p, hp, e⟩)
            exact .inl ⟨y, hy, q, hq, e2⟩
        · by_cases hx : x ∈ xs
          · obtain ⟨q, hq, e2⟩ := (putG_keys acc (fk x) (fv x) (fk x)).mpr (.inr rfl)
            exact .inl ⟨x, hx, q, hq, e2⟩
          · exact .inr fun nd => h (List.nodup_cons.mpr ⟨hx, nd⟩))
      have h2 := putG_len acc (fk x) (fv x)
      omega
theorem allG_lt (inj : ∀ a b, fk a = fk b → a = b) {xs : List α} (nd : ¬ xs.Nodup) : (allG fk fv xs).length < xs.length := by
  have := allG_fold_lt (fv := fv) inj xs [] (.inr nd)
  simpa [allG] using this
end
def goodH (ls gs : List Int) (cl : List Lk) : Bool := (arB ls 1 2 && arB gs 0 11) && ((decide (cl.length ≤ 200) && decide cl.Nodup) && (cl.map (inL ls gs)).all id)
theorem goodH_len {ls gs : List Int} {cl : List Lk} (h : arB ls 1 2 = true) : ls.length ≤ 2 := by
  unfold arB at h
  simp only [Bool.and_eq_true, decide_eq_true_eq] at h
  omega
section
variable {P : Program} {w : World} {K : PySem.W.Frag} {mg : Str → Option Value} {base : Heap}
theorem fn_are_lengths (S : Fs K mg) (ns : List Int) (lo hi : Int) (hl : ns.length ≤ 10000) : FnOk P w K mg base (L2.CX P w) 1 (f_are_lengths K) S.d_are_lengths P_are_lengths (spV [hD (ns.map .int), rD (.int lo), rD (.int hi)] (rD (.bool (arB ns lo hi)))) := by
  refine fn_v (nm := nm_are_lengths) (n := 1) S.F_are_lengths sc_are_lengths rfl (.hD (.cons (.cons .nil))) rfl rfl (fun X W D hP hw hK hmg hbase xb rv _ => ?_)
  subst hP hw hK hmg hbase
  obtain ⟨t, hmost⟩ := S.i_MOST_LENGTH
  refine blk_ret (ev_d (ev_and (ev_chain op_le op_le (v_ xb.v 1) (ev_len (xb.v.bl S.fr_len) (ev_hb (v_ xb.v 0))) (fun _ => v_ xb.v 2)) (fun _ => ev_one (ev_all xb.calm (xb.v.bl S.fr_all) (bs := ns.map fun x => decide (1 ≤ x) && decide (x ≤ 40)) (ev_ho ?_)))) ?_) rv
  · rw [List.map_map]
    exact evo_lc (R := fun x : Int => rD (.int x)) [("number", 3)] xb.toXC (evi_lst (v_ xb.v 0)) (Nat.le_trans hl (by decide)) (fun x => [vl (bD (ns.map .int)), vl (rD (.int lo)), vl (rD (.int hi)), vl (rD (.int x))]) (ts := [3]) (by decide) (fun s H C cl fp xc x hx => tg_name xc.toXV 3 (hf := .inr (xc.toXV.only (by decide +kernel))))
      (fun s H C cl fp xc x hx => ev_chain op_le op_le ev_int (v_ xc.toXV 3) (fun _ => ev_gint (hm := hmost) (hg := xc.toXV.gl (by decide +kernel))))
  · rw [List.length_map]
    rfl
/-- made, or refused -/
theorem blk_House_init {X : Cx} {W : Wd} {D : Ends} {a : Addr} {E : XK} (S : Fs X.K X.mg) (xb : XB X N_House_init nm_House_init 5) (ls gs : List Int) (cl : List Lk) (l1 : ls.length ≤ 10000) (l2 : gs.length ≤ 10000) (l3 : cl.length ≤ 10000)
    (yes : goodH ls gs cl = true → RetM W D a (rH X.K ⟨ls, gs, sortL cl⟩)) (no : goodH ls gs cl = false → Tk X E ∧ (Xk.bare (He.ga X.K "InvalidHouse")).Wish W.F0 W.H0 E) :
    Blk X W D .tt [.ow (cI a (He.ga X.K "House") []), vl (bD (ls.map .int)), vl (bD (gs.map .int)), vl (bD (cl.map dL)), .no] (defBody s_House_init) := by
  obtain ⟨tg, hgaps⟩ := S.i_MOST_GAPS
  obtain ⟨tc, hclosed⟩ := S.i_MOST_CLOSED
  have rs : ∀ {Γ : List Sl} {ss : List Stmt} {m : Str} {j : Nat} {p p2 p3 p4 : Pos} {D : Ends}, goodH ls gs cl = false → Blk X W D .tt Γ (.Raise (some (.Call (.Name "InvalidHouse" p) [.Constant (.str m) j p2] [] p3)) none p4 :: ss) := fun h =>
    blk_raise xb (pmk_own PySem.F.excBase_ValueError S.e_InvalidHouse.1 S.g_InvalidHouse S.e_InvalidHouse.2.1 (raises_own S.e_InvalidHouse.2.2.1 S.e_InvalidHouse.2.2.2) (xb.v.gl (by decide +kernel))) (no h).1 (no h).2
  have hr1 : Room 1 X.A := xb.room.mono (by decide)
  refine blk_if (tv_wv (wv_or (tv_not (tv_val (ev_call (fn_are_lengths S ls 1 2 l1) hr1 (xb.v.gl (by decide +kernel)) S.g_are_lengths S.F_are_lengths.kp S.b_are_lengths (eva_cons (ev_hb (v_ xb.v 1)) (eva_cons ev_int (eva_cons ev_int eva_nil))) (by decide +kernel))))
    (fun _ => wv_or1 (tv_not (tv_val (ev_call (fn_are_lengths S gs 0 11 l2) hr1 (xb.v.gl (by decide +kernel)) S.g_are_lengths S.F_are_lengths.kp S.b_are_lengths (eva_cons (ev_hb (v_ xb.v 2)) (eva_cons ev_int (eva_cons (ev_gint (hm := hgaps) (hg := xb.v.gl (by decide +kernel))) eva_nil))) (by decide +kernel))))))) (fun hb => ?_) (fun hb => ?_)
  · refine rs ?_
    unfold goodH
    cases h1 : arB ls 1 2 <;> cases h2 : arB gs 0 11 <;> simp_all
  have ha : arB ls 1 2 = true ∧ arB gs 0 11 = true := by
    cases h1 : arB ls 1 2 <;> cases h2 : arB gs 0 11 <;> simp_all
  refine blk_go ?_
  have bList : Bl X "list" := xb.v.bl S.fr_list
  have bLen : Bl X "len" := xb.v.bl S.fr_len
  refine blk_fld xb 0 (ev_fz (evo_list bList (ev_hb (v_ xb.v 1)))) S.c_House S.a_House_lengths ?_
  refine blk_fld xb 0 (ev_fz (evo_list bList (ev_hb (v_ xb.v 2)))) S.c_House S.a_House_gaps ?_
  have hsort : ∀ {p p1 p2 : Pos}, EvO X [.ow (cI a (He.ga X.K "House") [("_lengths", rD (.list (ls.map .int))), ("_gaps", rD (.list (gs.map .int)))]), vl (bD (ls.map .int)), vl (bD (gs.map .int)), vl (bD (cl.map dL)), .no] (.Call (.Name "sorted" p) [.Name "closed" p1] [] p2) (cD ((sortL cl).map dL)) := fun {p p1 p2} => by
    rw [← sortL_data]
    refine evo_sorted (xb.v.bl S.fr_sorted) (ev_hb (v_ xb.v 3)) (good_dL.allAlike cl) (.tuples fun b => ⟨_, _, rfl⟩) (fun d hd => ?_)
    obtain ⟨b, _, rfl⟩ := List.mem_map.mp hd
    have := good_dL.dep b
    have := xb.ls
    omega
  refine blk_fld xb 0 (ev_fz (evo_dcT (R := fun l => rD (dL l)) (fk := kL) (fv := fun _ => .bool true) (xs := sortL cl) [("link", 4)] xb.toXC (evi_lst (ev_b (ev_fz hsort))) (by rw [(sortL_perm cl).length_eq]; exact Nat.le_trans l3 (by decide))
    (fun l => [.ow (cI a (He.ga X.K "House") [("_lengths", rD (.list (ls.map .int))), ("_gaps", rD (.list (gs.map .int)))]), vl (bD (ls.map .int)), vl (bD (gs.map .int)), vl (bD (cl.map dL)), vl (rD (dL l))]) (ts := [4]) (by decide) (fun s H C cl fp xc x hx => tg_name xc.toXV 4 (hf := .inr (xc.toXV.only (by decide +kernel))))
    (fun s H C cl fp xc x hx => v_ xc.toXV 4) (fun s H C cl fp xc x hx => ev_bl))) S.c_House S.a_House_closed ?_
  refine blk_if (d := decide (200 < (cl.length : Int)) || !decide (((allG kL (fun _ => PyData.bool true) (sortL cl)).length : Int) = (cl.length : Int))) (tv_wv (tv_b' (wv_or (tv_gt (ev_len bLen (ev_hb (v_ xb.v 3))) (ev_gint (hm := hclosed) (hg := xb.v.gl (by decide +kernel)))) (fun _ => wv_or1 (tv_neI (ev_lenTd bLen (ev_hT (ev_fO xb.v 0 S.c_House S.a_House_closed))) (ev_len bLen (ev_hb (v_ xb.v 3)))))) ?_)) (fun hb => ?_) (fun hb => ?_)
  · rw [List.length_map]
  · refine rs ?_
    unfold goodH
    rw [Bool.or_eq_true] at hb
    rcases hb with hb | hb
    · have : ¬ cl.length ≤ 200 := by
        have := of_decide_eq_true hb
        omega
      simp [this]
    · have : ¬ cl.Nodup := fun nd => by
        rw [allG_nodup (fun _ _ => kL_inj) ((sortL_perm cl).nodup_iff.mpr nd), List.length_map, (sortL_perm cl).length_eq] at hb
        simp at hb
      simp [this]
  rw [Bool.or_eq_false_iff] at hb
  have h200 : cl.length ≤ 200 := by
    have := of_decide_eq_false hb.1
    omega
  have hnd : cl.Nodup := by
    by_cases nd : cl.Nodup
    · exact nd
    · have h1 := allG_lt (fv := fun _ => PyData.bool true) (fk := kL) (fun _ _ => kL_inj) (xs := sortL cl) (fun z => nd ((sortL_perm cl).nodup_iff.mp z))
      rw [(sortL_perm cl).length_eq] at h1
      have h2 := hb.2
      simp only [Bool.not_eq_false', decide_eq_true_eq] at h2
      omega
  refine blk_go ?_
  rw [allG_nodup (fun _ _ => kL_inj) ((sortL_perm cl).nodup_iff.mpr hnd)]
  refine blk_frzI 0 rfl ?_
  have hls := goodH_len (gs := gs) (cl := cl) ha.1
  have hself : ∀ {Y : Cx} (nm) (xc : XV Y N_House_init nm) (hv : visB nm "self" = true) (l : Lk) (sl : Sl) (p : Pos), Y.K = X.K → Ev Y [vl (rIa a (He.ga X.K "House") [("_lengths", rD (.list (ls.map .int))), ("_gaps", rD (.list (gs.map .int))), ("_closed", rT ((sortL cl).map fun l => (kL l, .bool true)))]), vl (bD (ls.map .int)), vl (bD (gs.map .int)), vl (bD (cl.map dL)), sl] (.Name "self" p) (rH Y.K ⟨ls, gs, sortL cl⟩) := fun nm xc hv l sl p e => by
    rw [e]
    exact ev_I (v_ xc 0 (hv := hv))
  refine blk_if (tv_not (tv_val (ev_all xb.calm (xb.v.bl S.fr_all) (bs := cl.map (inL ls gs)) (ev_ho ?_)))) (fun hb => ?_) (fun hb => ?_)
  · rw [List.map_map]
    refine evo_lc (R := fun l => rD (dL l)) [("link", 4)] xb.toXC (evi_lst (v_ xb.v 3)) (Nat.le_trans l3 (by decide)) (fun l => [vl (rIa a (He.ga X.K "House") [("_lengths", rD (.list (ls.map .int))), ("_gaps", rD (.list (gs.map .int))), ("_closed", rT ((sortL cl).map fun l => (kL l, .bool true)))]), vl (bD (ls.map .int)), vl (bD (gs.map .int)), vl (bD (cl.map dL)), vl (rD (dL l))]) (ts := [4]) (by decide)
      (fun s H C cl fp xc x hx => tg_name xc.toXV 4 (hf := .inr (xc.toXV.only (by decide +kernel)))) (fun s H C cl fp xc x hx => ?_)
    exact ev_meth (X := bx X s H _ C cl fp) (hself _ xc.toXV (by decide +kernel) x _ _ rfl) (insH (by decide +kernel)) S.c_House S.m_House_is_link (fn_is_link S ⟨ls, gs, sortL _⟩ (by show ls.length ≤ 1000; omega) x) (xb.room.mono (by decide)) S.b_House_is_link (eva_cons (v_ xc.toXV 4) eva_nil)
  · refine rs ?_
    unfold goodH
    rw [Bool.not_eq_true'] at hb
    rw [hb]
    simp
  · refine blk_go ?_
    have hg : goodH ls gs cl = true := by
      unfold goodH
      rw [Bool.not_eq_false'] at hb
      rw [hb, ha.1, ha.2, decide_eq_true h200, decide_eq_true hnd]
      rfl
    exact blk_made (yes hg) rfl (fun _ _ _ _ p => p)
theorem fn_House_init (S : Fs K mg) (ls gs : List Int) (cl : List Lk) (hg : goodH ls gs cl = true) : FnOk P w K mg base (L2.CX P w) 6 (f_House_init K) S.d_House_init P_House_init (spMk (He.ga K "House") [hD (ls.map .int), hD (gs.map .int), hD (cl.map dL)] (rH K ⟨ls, gs, sortL cl⟩)) := by
  refine fn_mk (nm := nm_House_init) (n := 1) S.F_House_init sc_House_init rfl (.hD (.hD (.hD .nil))) rfl rfl (fun X W D a hP hw hK hmg hbase xb rm => ?_)
  subst hP hw hK hmg hbase
  have h := hg
  unfold goodH arB at h
  simp only [Bool.and_eq_true, decide_eq_true_eq] at h
  exact blk_House_init (E := fun _ _ _ => False) S xb ls gs cl (by omega) (by omega) (by omega) (fun _ => rm) (fun z => by rw [hg] at z; cases z)
theorem fn_House_initX (S : Fs K mg) (ls gs : List Int) (cl : List Lk) (l1 : ls.length ≤ 10000) (l2 : gs.length ≤ 10000) (l3 : cl.length ≤ 10000) (hg : goodH ls gs cl = false) : FnOk P w K mg base (L2.CX P w) 6 (f_House_init K) S.d_House_init P_House_init (spMkX (He.ga K "House") [hD (ls.map .int), hD (gs.map .int), hD (cl.map dL)] (.bare (He.ga K "InvalidHouse"))) := by
  refine fn_mkx (nm := nm_House_init) (n := 1) S.F_House_init sc_House_init rfl (.hD (.hD (.hD .nil))) rfl rfl (fun X W D E a hP hw hK hmg hbase xb tk q => ?_)
  subst hP hw hK hmg hbase
  exact blk_House_init S xb ls gs cl l1 l2 l3 (fun z => by rw [hg] at z; cases z) (fun _ => ⟨tk, q⟩)
end
def gridOf (w h : Nat) : List (Int × Int) := (List.range w).flatMap fun a => (List.range h).map fun b => (((a : Nat) : Int), ((b : Nat) : Int))
/-! ### more of a house -/
def placesOf (ls gs : List Int) : List (Int × Int) := gridOf (aislesOf gs).toNat (topOf ls + 1).toNat
def oversOf (ls gs : List Int) : List Lk := (List.range gs.length).flatMap fun a => (crossesOf ls).map fun h => (("over", ((a : Nat) : Int), h) : Lk)
def upsOf (ls gs : List Int) : List Lk := (gridOf (gs.length + 1) (topOf ls).toNat).map fun p => (("up", p.1, p.2) : Lk)
def linksOf (ls gs : List Int) : List Lk := oversOf ls gs ++ upsOf ls gs
def endsOf (l : Lk) : (Int × Int) × (Int × Int) := ((l.2.1, l.2.2), if l.1 = ("up" : Str) then (l.2.1, l.2.2 + 1) else (l.2.1 + 1, l.2.2))
def lenOf (gs : List Int) (l : Lk) : Int := if l.1 = ("up" : Str) then 1 else nth gs l.2.1
theorem getG_map (cl : List Lk) (d : PyData) (l : Lk) : (getG (cl.map fun l => (kL l, d)) (kL l)).isSome = decide (l ∈ cl) := by
  unfold getG
  rw [Option.isSome_map]
  by_cases hm : l ∈ cl
  · rw [decide_eq_true hm, List.find?_isSome]
    exact ⟨_, List.mem_map.mpr ⟨l, hm, rfl⟩, decide_eq_true rfl⟩
  · rw [decide_eq_false hm, Bool.eq_false_iff]
    intro z
    obtain ⟨x, hx, e⟩ := List.find?_isSome.mp z
    obtain ⟨m, hm2, rfl⟩ := List.mem_map.mp hx
    exact hm (kL_inj (of_decide_eq_true e) ▸ hm2)
section
variable {P : Program} {w : World} {K : PySem.W.Frag} {mg : Str → Option Value} {base : Heap}
theorem blk_none {X : Cx} {W : Wd} {D : Ends} {gh : Gh} {Γ : List Sl} (rv : RetV W D (rD .none)) (hn : D.nx = fun _ H' => D.rt .non H') : Blk X W D gh Γ [] := blk_nil fun σ F G H E => by
  rw [hn]
  exact rv .non F H E.toExt .non
theorem fn_is_closed (S : Fs K mg) (h : Hs) (l : Lk) : FnOk P w K mg base (L2.CX P w) 1 (f_House_is_closed K) S.d_House_is_closed P_House_is_closed (spV [rH K h, rD (dL l)] (rD (.bool (decide (l ∈ h.cl))))) := by
  refine fn_v (nm := nm_House_is_closed) (n := 0) S.F_House_is_closed sc_House_is_closed rfl (.cons (.cons .nil)) rfl rfl (fun X W D hP hw hK hmg hbase xb rv _ => ?_)
  subst hP hw hK hmg hbase
  refine blk_ret (ev_d (ev_inT (ky := kL l) (by have := xb.ls; omega) (v_ xb.v 1) (ev_hT (ev_f (v_ xb.v 0) S.c_House S.a_House_closed))) ?_) rv
  rw [getG_map]
theorem two_grid (a b : Nat) : two (List.range a) (fun _ => List.range b) (fun _ _ => true) (fun x y => dP (((x : Nat) : Int), ((y : Nat) : Int))) = (gridOf a b).map dP := by
  unfold two gridOf
  rw [List.map_flatMap]
  congr 1
  funext x
  rw [List.filter_eq_self.mpr (fun _ _ => rfl), List.map_map]
  rfl
theorem fn_places (S : Fs K mg) (h : Hs) (hl : (placesOf h.ls h.gs).length ≤ 16000000) (h0 : 0 ≤ topOf h.ls ∧ topOf h.ls ≤ 100000) (h1 : h.gs.length ≤ 100000) : FnOk P w K mg base (L2.CX P w) 3 (f_House_places K) S.d_House_places P_House_places (spO [rH K h] (cD ((placesOf h.ls h.gs).map dP))) := by
  refine fn_o (nm := nm_House_places) (n := 2) S.F_House_places sc_House_places rfl (.cons .nil) rfl rfl (fun X W D hP hw hK hmg hbase xb ro => ?_)
  subst hP hw hK hmg hbase
  have ha : 0 ≤ aislesOf h.gs ∧ aislesOf h.gs ≤ 100001 := by unfold aislesOf; omega
  refine blk_retO (evo_cc (evo_lc2 (R := fun k : Nat => rD (.int (k : Nat))) (R1 := fun _ (k : Nat) => rD (.int (k : Nat))) (xs := List.range (aislesOf h.gs).toNat) (ys := fun _ => List.range (topOf h.ls + 1).toNat) (p := fun _ _ => true) (f := fun x y => dP (((x : Nat) : Int), ((y : Nat) : Int))) [("aisle", 1), ("height", 2)] [2] xb.toXC
    (evi_rng1 (xb.v.bl S.fr_range) (ev_p xb.toXC (v_ xb.v 0) (insH (by decide +kernel)) (S.pr_House_aisles (fn_aisles S h))) ha.1 (by omega)) (by rw [two_grid, List.length_map]; exact Nat.le_trans hl (by decide)) (fun a => [vl (rH X.K h), vl (rD (.int (a : Nat))), .no]) (fun a b => [vl (rH X.K h), vl (rD (.int (a : Nat))), vl (rD (.int (b : Nat)))]) (ts := [1]) (ts1 := [2]) (by decide) (by decide) (by decide)
    (fun x _ => .same (.vl (.same .nil))) (fun s H C cl fp xc x hx => tg_name xc.toXV 1 (hf := .inr (xc.toXV.only (by decide +kernel))))
    (fun s H C cl fp xc x hx => evi_rng1 (xc.toXV.bl S.fr_range) (ev_add (ev_p xc (v_ xc.toXV 0) (insH (by decide +kernel)) (S.pr_House_top (fn_top S h))) ev_int) (by omega) (by omega))
    (fun s H C cl fp xc x hx y hy => tg_name xc.toXV 2 (hf := .inr (xc.toXV.only (by decide +kernel)))) (fun s H C cl fp xc x hx y hy => vv_nil) (fun s H C cl fp xc x hx y hy _ => ev_tup (evd_cons (v_ xc.toXV 1) (evd_cons (v_ xc.toXV 2) evd_nil)))) (two_grid _ _)) ro
theorem fn_check_link (S : Fs K mg) (h : Hs) (hl : h.ls.length ≤ 1000) (l : Lk) (hi : inL h.ls h.gs l = true) : FnOk P w K mg base (L2.CX P w) 6 (f_House_check_link K) S.d_House_check_link P_House_check_link (spV [rH K h, rD (dL l)] (rD .none)) := by
  refine fn_v (nm := nm_House_check_link) (n := 0) S.F_House_check_link sc_House_check_link rfl (.cons (.cons .nil)) rfl rfl (fun X W D hP hw hK hmg hbase xb rv hn => ?_)
  subst hP hw hK hmg hbase
  refine blk_if (d := false) (tv_b (tv_not (tv_val (ev_m xb.toXC (v_ xb.v 0) (insH (by decide +kernel)) (S.mt_House_is_link (fn_is_link S h hl l)) (eva_cons (v_ xb.v 1) eva_nil)))) (by rw [hi]; rfl)) (fun h => nomatch h) (fun _ => ?_)
  exact blk_go (blk_none rv hn)
theorem fn_check_linkX (S : Fs K mg) (h : Hs) (hl : h.ls.length ≤ 1000) (l : Lk) (hi : inL h.ls h.gs l = false) : FnOk P w K mg base (L2.CX P w) 6 (f_House_check_link K) S.d_House_check_link P_House_check_link (spR [rH K h, rD (dL l)] (.bare (He.ga K "InvalidLink"))) := by
  refine fn_x (nm := nm_House_check_link) (n := 0) S.F_House_check_link sc_House_check_link rfl (.cons (.cons .nil)) rfl rfl (fun X W D E hP hw hK hmg hbase xb tk q => ?_)
  subst hP hw hK hmg hbase
  refine blk_if (d := true) (tv_b (tv_not (tv_val (ev_m xb.toXC (v_ xb.v 0) (insH (by decide +kernel)) (S.mt_House_is_link (fn_is_link S h hl l)) (eva_cons (v_ xb.v 1) eva_nil)))) (by rw [hi]; rfl)) (fun _ => ?_) (fun h => nomatch h)
  exact blk_raise xb (pmk_own PySem.F.excBase_ValueError S.e_InvalidLink.1 S.g_InvalidLink S.e_InvalidLink.2.1 (raises_own S.e_InvalidLink.2.2.1 S.e_InvalidLink.2.2.2) (xb.v.gl (by decide +kernel))) tk q
abbrev dEnds (e : (Int × Int) × (Int × Int)) : PyData := .tuple [dP e.1, dP e.2]
theorem fn_ends_of (S : Fs K mg) (h : Hs) (hl : h.ls.length ≤ 1000) (l : Lk) (hi : inL h.ls h.gs l = true) : FnOk P w K mg base (L2.CX P w) 7 (f_House_ends_of K) S.d_House_ends_of P_House_ends_of (spV [rH K h, rD (dL l)] (rD (dEnds (endsOf l)))) := by
  refine fn_v (nm := nm_House_ends_of) (n := 3) S.F_House_ends_of sc_House_ends_of rfl (.cons (.cons .nil)) rfl rfl (fun X W D hP hw hK hmg hbase xb rv _ => ?_)
  subst hP hw hK hmg hbase
  refine blk_exp (ev_m xb.toXC (v_ xb.v 0) (insH (by decide +kernel)) (S.mt_House_check_link (fn_check_link S h hl l hi)) (eva_cons (v_ xb.v 1) eva_nil)) ?_
  refine blk_asg (v_ xb.v 1) (tg_tup xb.calm (tgs_cons (tg_name xb.v 2 (hf := .inl (xb.fnn _))) (tgs_cons (tg_name xb.v 3 (hf := .inl (xb.fnn _))) (tgs_cons (tg_name xb.v 4 (hf := .inl (xb.fnn _))) tgs_nil)))) ?_
  refine blk_if (tv_eqS (v_ xb.v 2) ev_str) (fun hc => ?_) (fun hc => ?_)
  · have hc := of_decide_eq_true hc
    refine blk_ret (ev_d (ev_tup (evd_cons (ev_tup (evd_cons (v_ xb.v 3) (evd_cons (v_ xb.v 4) evd_nil))) (evd_cons (ev_tup (evd_cons (v_ xb.v 3) (evd_cons (ev_add (v_ xb.v 4) ev_int) evd_nil))) evd_nil))) ?_) rv
    unfold dEnds endsOf
    rw [if_pos hc]
  · have hc := of_decide_eq_false hc
    refine blk_go (blk_ret (ev_d (ev_tup (evd_cons (ev_tup (evd_cons (v_ xb.v 3) (evd_cons (v_ xb.v 4) evd_nil))) (evd_cons (ev_tup (evd_cons (ev_add (v_ xb.v 3) ev_int) (evd_cons (v_ xb.v 4) evd_nil))) evd_nil))) ?_) rv)
    unfold dEnds endsOf
    rw [if_neg hc]
theorem fn_ends_ofX (S : Fs K mg) (h : Hs) (hl : h.ls.length ≤ 1000) (l : Lk) (hi : inL h.ls h.gs l = false) : FnOk P w K mg base (L2.CX P w) 7 (f_House_ends_of K) S.d_House_ends_of P_House_ends_of (spR [rH K h, rD (dL l)] (.bare (He.ga K "InvalidLink"))) := by
  refine fn_x (nm := nm_House_ends_of) (n := 3) S.F_House_ends_of sc_House_ends_of rfl (.cons (.cons .nil)) rfl rfl (fun X W D E hP hw hK hmg hbase xb tk q => ?_)
  subst hP hw hK hmg hbase
  exact blk_expX (evx_m xb.toXC (v_ xb.v 0) (insH (by decide +kernel)) (S.mt_House_check_link (fn_check_linkX S h hl l hi)) (eva_cons (v_ xb.v 1) eva_nil)) tk q
theorem inL_over {ls gs : List Int} {l : Lk} (h : inL ls gs l = true) (hu : ¬ l.1 = ("up" : Str)) : 0 ≤ l.2.1 ∧ l.2.1 < gs.length := by
  unfold inL at h
  rw [if_neg hu] at h
  unfold inC inP aislesOf at h
  simp only [Bool.and_eq_true, decide_eq_true_eq] at h
  omega
theorem fn_length_of (S : Fs K mg) (h : Hs) (hl : h.ls.length ≤ 1000) (l : Lk) (hi : inL h.ls h.gs l = true) : FnOk P w K mg base (L2.CX P w) 7 (f_House_length_of K) S.d_House_length_of P_House_length_of (spV [rH K h, rD (dL l)] (rD (.int (lenOf h.gs l)))) := by
  refine fn_v (nm := nm_House_length_of) (n := 0) S.F_House_length_of sc_House_length_of rfl (.cons (.cons .nil)) rfl rfl (fun X W D hP hw hK hmg hbase xb rv _ => ?_)
  subst hP hw hK hmg hbase
  refine blk_exp (ev_m xb.toXC (v_ xb.v 0) (insH (by decide +kernel)) (S.mt_House_check_link (fn_check_link S h hl l hi)) (eva_cons (v_ xb.v 1) eva_nil)) ?_
  refine blk_if (tv_eqS (ev_ixT (d := .str l.1) (v_ xb.v 1) ev_int rfl) ev_str) (fun hc => ?_) (fun hc => ?_)
  · have hc := of_decide_eq_true hc
    refine blk_ret (ev_d ev_int ?_) rv
    unfold lenOf
    rw [if_pos hc]
  · have hc := of_decide_eq_false hc
    refine blk_go (blk_ret (ev_d (ev_nth (ev_f (v_ xb.v 0) S.c_House S.a_House_gaps) (ev_ixT (d := .int l.2.1) (v_ xb.v 1) ev_int rfl) (inL_over hi hc)) ?_) rv)
    unfold lenOf
    rw [if_neg hc]
theorem fn_length_ofX (S : Fs K mg) (h : Hs) (hl : h.ls.length ≤ 1000) (l : Lk) (hi : inL h.ls h.gs l = false) : FnOk P w K mg base (L2.CX P w) 7 (f_House_length_of K) S.d_House_length_of P_House_length_of (spR [rH K h, rD (dL l)] (.bare (He.ga K "InvalidLink"))) := by
  refine fn_x (nm := nm_House_length_of) (n := 0) S.F_House_length_of sc_House_length_of rfl (.cons (.cons .nil)) rfl rfl (fun X W D E hP hw hK hmg hbase xb tk q => ?_)
  subst hP hw hK hmg hbase
  exact blk_expX (evx_m xb.toXC (v_ xb.v 0) (insH (by decide +kernel)) (S.mt_House_check_link (fn_check_linkX S h hl l hi)) (eva_cons (v_ xb.v 1) eva_nil)) tk q
end
section
variable {P : Program} {w : World} {K : PySem.W.Frag} {mg : Str → Option Value} {base : Heap}
theorem two_overs (ls gs : List Int) : two (List.range gs.length) (fun _ => crossesOf ls) (fun _ _ => true) (fun x y => dL ("over", ((x : Nat) : Int), y)) = (oversOf ls gs).map dL := by
  unfold two oversOf
  rw [List.map_flatMap]
  congr 1
  funext x
  rw [List.filter_eq_self.mpr (fun _ _ => rfl), List.map_map]
  rfl
theorem two_ups (ls gs : List Int) : two (List.range (gs.length + 1)) (fun _ => List.range (topOf ls).toNat) (fun _ _ => true) (fun x y => dL ("up", ((x : Nat) : Int), ((y : Nat) : Int))) = (upsOf ls gs).map dL := by
  unfold two upsOf gridOf
  rw [List.map_map, List.map_flatMap]
  congr 1
  funext x
  rw [List.filter_eq_self.mpr (fun _ _ => rfl), List.map_map]
  rfl
theorem linksOf_ok (ls gs : List Int) : ∀ l ∈ linksOf ls gs, okL' l := fun l hl => by
  rcases List.mem_append.mp hl with hl | hl
  · obtain ⟨a, _, hl⟩ := List.mem_flatMap.mp hl
    obtain ⟨h, _, rfl⟩ := List.mem_map.mp hl
    exact (by decide +kernel : PyData.strOk "over" = true)
  · obtain ⟨p, _, rfl⟩ := List.mem_map.mp hl
    exact (by decide +kernel : PyData.strOk "up" = true)
theorem fn_walked_links (S : Fs K mg) (h : Hs) (h3 : h.ls.length ≤ 1000) (h2 : (linksOf h.ls h.gs).length ≤ 1000000) (h0 : 0 ≤ topOf h.ls ∧ topOf h.ls ≤ 100000) (h1 : h.gs.length ≤ 100000) : FnOk P w K mg base (L2.CX P w) 3 (f_House_walked_links K) S.d_House_walked_links P_House_walked_links (spO [rH K h] (cD (((linksOf h.ls h.gs).filter fun l => !decide (l ∈ h.cl)).map dL))) := by
  refine fn_o (nm := nm_House_walked_links) (n := 5) S.F_House_walked_links sc_House_walked_links rfl (.cons .nil) rfl rfl (fun X W D hP hw hK hmg hbase xb ro => ?_)
  subst hP hw hK hmg hbase
  have hlen : (oversOf h.ls h.gs).length + (upsOf h.ls h.gs).length ≤ 1000000 := by
    unfold linksOf at h2
    rw [List.length_append] at h2
    exact h2
  have bR : Bl X "range" := xb.v.bl S.fr_range
  have ea : (aislesOf h.gs - 1).toNat = h.gs.length := by unfold aislesOf; omega
  have eb : (aislesOf h.gs).toNat = h.gs.length + 1 := by unfold aislesOf; omega
  have bnd : 0 ≤ aislesOf h.gs ∧ aislesOf h.gs ≤ 100001 ∧ 0 ≤ aislesOf h.gs - 1 := by unfold aislesOf; omega
  refine blk_setLc2 (R := fun k : Nat => rD (.int (k : Nat))) (R1 := fun _ (k : Int) => rD (.int k)) (xs := List.range h.gs.length) (ys := fun _ => crossesOf h.ls) (p := fun _ _ => true) (f := fun x y => dL ("over", ((x : Nat) : Int), y)) xb 1 [("aisle", 3), ("height", 4)] [4]
    (evi_cast (evi_rng1 bR (ev_sub (ev_p xb.toXC (v_ (Γ := [vl (rH X.K h), .no, .no, .no, .no, .no]) xb.v 0) (insH (by decide +kernel)) (S.pr_House_aisles (fn_aisles S h))) ev_int) bnd.2.2 (by omega)) (by rw [ea])) (by rw [two_overs, List.length_map]; show _ ≤ 16777216; omega) (fun a => [vl (rH X.K h), .no, .no, vl (rD (.int (a : Nat))), .no, .no]) (fun a b => [vl (rH X.K h), .no, .no, vl (rD (.int (a : Nat))), vl (rD (.int b)), .no]) (ts := [3]) (ts1 := [4]) (by decide) (by decide) (by decide)
    (fun x _ => .same (.same (.same (.vl (.same (.same .nil)))))) (fun s H C cl fp xc x hx => tg_name xc.toXV 3 (hf := .inr (xc.toXV.only (by decide +kernel))))
    (fun s H C cl fp xc x hx => evi_lst (ev_b (ev_fz (evo_m0 xc (v_ xc.toXV 0) (insH (by decide +kernel)) (S.mt_House_crosses (fn_crosses S h h3))))))
    (fun s H C cl fp xc x hx y hy => tg_name xc.toXV 4 (hf := .inr (xc.toXV.only (by decide +kernel)))) (fun s H C cl fp xc x hx y hy => vv_nil) (fun s H C cl fp xc x hx y hy _ => ev_tup (evd_cons ev_str (evd_cons (v_ xc.toXV 3) (evd_cons (v_ xc.toXV 4) evd_nil)))) (two_overs _ _) ?_
  refine blk_setLc2 (R := fun k : Nat => rD (.int (k : Nat))) (R1 := fun _ (k : Nat) => rD (.int (k : Nat))) (xs := List.range (h.gs.length + 1)) (ys := fun _ => List.range (topOf h.ls).toNat) (p := fun _ _ => true) (f := fun x y => dL ("up", ((x : Nat) : Int), ((y : Nat) : Int))) xb 2 [("aisle", 3), ("height", 4)] [4]
    (evi_cast (evi_rng1 bR (ev_p xb.toXC (v_ (Γ := [vl (rH X.K h), .ow (cD ((oversOf h.ls h.gs).map dL)), .no, .no, .no, .no]) xb.v 0) (insH (by decide +kernel)) (S.pr_House_aisles (fn_aisles S h))) bnd.1 (by omega)) (by rw [eb])) (by rw [two_ups, List.length_map]; show _ ≤ 16777216; omega) (fun a => [vl (rH X.K h), .ow (cD ((oversOf h.ls h.gs).map dL)), .no, vl (rD (.int (a : Nat))), .no, .no]) (fun a b => [vl (rH X.K h), .ow (cD ((oversOf h.ls h.gs).map dL)), .no, vl (rD (.int (a : Nat))), vl (rD (.int (b : Nat))), .no]) (ts := [3]) (ts1 := [4]) (by decide) (by decide) (by decide)
    (fun x _ => .same (.same (.same (.vl (.same (.same .nil)))))) (fun s H C cl fp xc x hx => tg_name xc.toXV 3 (hf := .inr (xc.toXV.only (by decide +kernel))))
    (fun s H C cl fp xc x hx => evi_rng1 (xc.toXV.bl S.fr_range) (ev_p xc (v_ xc.toXV 0) (insH (by decide +kernel)) (S.pr_House_top (fn_top S h))) h0.1 (by omega))
    (fun s H C cl fp xc x hx y hy => tg_name xc.toXV 4 (hf := .inr (xc.toXV.only (by decide +kernel)))) (fun s H C cl fp xc x hx y hy => vv_nil) (fun s H C cl fp xc x hx y hy _ => ev_tup (evd_cons ev_str (evd_cons (v_ xc.toXV 3) (evd_cons (v_ xc.toXV 4) evd_nil)))) (two_ups _ _) ?_
  show Blk X W D .tt [vl (rH X.K h), .ow (cD ((oversOf h.ls h.gs).map dL)), .ow (cD ((upsOf h.ls h.gs).map dL)), .no, .no, .no] _
  refine blk_retO (evo_lcG (R := fun l => rD (dL l)) (xs := linksOf h.ls h.gs) (p := fun l => !decide (l ∈ h.cl)) (f := dL) [("link", 5)] xb.toXC (evi_lst (enc := dL) (ev_b (ev_fz (evo_cc (evo_cat (ev_varC xb.v 1) (ev_varC xb.v 2) (by rw [List.length_map, List.length_map]; show _ ≤ 16777216; omega)) (by unfold linksOf; rw [List.map_append]))))) (by show _ ≤ 16777216; omega)
    (fun l => [vl (rH X.K h), .ow (cD ((oversOf h.ls h.gs).map dL)), .ow (cD ((upsOf h.ls h.gs).map dL)), .no, .no, vl (rD (dL l))]) (ts := [5]) (by decide) (fun s H C cl fp xc x hx => tg_name xc.toXV 5 (hf := .inr (xc.toXV.only (by decide +kernel))))
    (fun s H C cl fp xc x hx => vv_one (tv_b (tv_niT (ky := kL x) (by have := xc.ls; omega) (v_ xc.toXV 5) (ev_hT (ev_f (v_ xc.toXV 0) S.c_House S.a_House_closed))) (by rw [getG_map]))) (fun s H C cl fp xc x hx _ => v_ xc.toXV 5)) ro
end
/-! ### the drawn parts of a house -/
def mostOf (m : Int) : Int := if m % 4 = 0 then 4 else if m % 4 = 1 then 9 else if m % 4 = 2 then 12 else 40
theorem mostOf_at (m : Int) : atI [PyData.int 4, .int 9, .int 12, .int 40] (m % 4) = some (.int (mostOf m)) := by
  have h : m % 4 = 0 ∨ m % 4 = 1 ∨ m % 4 = 2 ∨ m % 4 = 3 := by omega
  unfold mostOf
  rcases h with h | h | h | h <;> rw [h] <;> rfl
theorem mostOf_b (m : Int) : 4 ≤ mostOf m ∧ mostOf m ≤ 40 := by
  unfold mostOf
  split
  · omega
  · split
    · omega
    · split <;> omega
section
variable (ns : List Int) (at_ : Int)
def lsOf : List Int := (List.range (1 + nth ns at_ / 4 % 2).toNat).map fun k => 1 + nth ns (at_ + 1 + (k : Nat)) % mostOf (nth ns at_)
def gsOf : List Int := (List.range (nth ns at_ / 8 % 5).toNat).map fun k => 1 + nth ns (at_ + 3 + (k : Nat)) % mostOf (nth ns at_)
def aisleOf (k : Nat) : Int := nth ns (at_ + 8 + 2 * (k : Nat)) % ((gsOf ns at_).length + 1)
def spotOf (k : Nat) : Int := nth ns (at_ + 9 + 2 * (k : Nat))
def overB (k : Nat) : Bool := decide (spotOf ns at_ k % 3 = 0) && decide (aisleOf ns at_ k < (gsOf ns at_).length)
def linkOf (k : Nat) : Lk := if overB ns at_ k = true then ("over", aisleOf ns at_ k, ((lsOf ns at_).take (spotOf ns at_ k / 3 % ((lsOf ns at_).length + 1)).toNat).sum) else ("up", aisleOf ns at_ k, spotOf ns at_ k / 3 % (lsOf ns at_).sum)
def clOf : Nat → List Lk
  | 0 => []
  | k + 1 => if linkOf ns at_ k ∈ clOf k then clOf k else clOf k ++ [linkOf ns at_ k]
def closedOf : List Lk := clOf ns at_ (max 0 (nth ns (at_ + 7) % 10 - 3)).toNat
theorem lsOf_len : 1 ≤ (lsOf ns at_).length ∧ (lsOf ns at_).length ≤ 2 := by
  unfold lsOf
  rw [List.length_map, List.length_range]
  omega
theorem gsOf_len : (gsOf ns at_).length ≤ 4 := by
  unfold gsOf
  rw [List.length_map, List.length_range]
  omega
theorem lsOf_mem : ∀ x ∈ lsOf ns at_, 1 ≤ x ∧ x ≤ 40 := fun x h => by
  obtain ⟨k, _, rfl⟩ := List.mem_map.mp h
  have := mostOf_b (nth ns at_)
  have h1 := Int.emod_nonneg (nth ns (at_ + 1 + (k : Nat))) (show mostOf (nth ns at_) ≠ 0 by omega)
  have h2 := Int.emod_lt_of_pos (nth ns (at_ + 1 + (k : Nat))) (show 0 < mostOf (nth ns at_) by omega)
  omega
theorem gsOf_mem : ∀ x ∈ gsOf ns at_, 1 ≤ x ∧ x ≤ 40 := fun x h => by
  obtain ⟨k, _, rfl⟩ := List.mem_map.mp h
  have := mostOf_b (nth ns at_)
  have h1 := Int.emod_nonneg (nth ns (at_ + 3 + (k : Nat))) (show mostOf (nth ns at_) ≠ 0 by omega)
  have h2 := Int.emod_lt_of_pos (nth ns (at_ + 3 + (k : Nat))) (show 0 < mostOf (nth ns at_) by omega)
  omega
theorem sum_pos : ∀ {xs : List Int}, (∀ x ∈ xs, 1 ≤ x ∧ x ≤ 40) → (xs.length : Int) ≤ xs.sum ∧ xs.sum ≤ 40 * xs.length
  | [], _ => by simp
  | x :: xs, h => by
    have h1 := h x List.mem_cons_self
    have h2 := sum_pos fun y hy => h y (List.mem_cons_of_mem _ hy)
    rw [List.sum_cons, List.length_cons]
    omega
theorem lsOf_sum : 1 ≤ (lsOf ns at_).sum ∧ (lsOf ns at_).sum ≤ 80 := by
  have h1 := sum_pos (lsOf_mem ns at_)
  have h2 := lsOf_len ns at_
  omega
theorem linkOf_ok (k : Nat) : okL' (linkOf ns at_ k) := by
  unfold linkOf
  split
  · exact (by decide +kernel : PyData.strOk "over" = true)
  · exact (by decide +kernel : PyData.strOk "up" = true)
theorem clOf_ok : ∀ k, (∀ l ∈ clOf ns at_ k, okL' l) ∧ (clOf ns at_ k).length ≤ k ∧ (clOf ns at_ k).Nodup
  | 0 => ⟨fun _ h => (nomatch h), Nat.le_refl _, List.nodup_nil⟩
  | k + 1 => by
    obtain ⟨h1, h2, h3⟩ := clOf_ok k
    unfold clOf
    split
    · exact ⟨h1, by omega, h3⟩
    · rename_i hn
      refine ⟨fun l hl => ?_, by rw [List.length_append, List.length_singleton]; omega, ?_⟩
      · rcases List.mem_append.mp hl with hl | hl
        · exact h1 l hl
        · rw [List.mem_singleton] at hl
          subst hl
          exact linkOf_ok ns at_ k
      · rw [List.nodup_append]
        refine ⟨h3, by simp, fun a ha b hb => ?_⟩
        rw [List.mem_singleton] at hb
        subst hb
        intro e
        subst e
        exact hn ha
theorem clOf_mem : ∀ k, ∀ l ∈ clOf ns at_ k, ∃ j, l = linkOf ns at_ j
  | 0, _, h => nomatch h
  | k + 1, l, h => by
    unfold clOf at h
    split at h
    · exact clOf_mem k l h
    · rcases List.mem_append.mp h with h | h
      · exact clOf_mem k l h
      · rw [List.mem_singleton] at h
        exact ⟨k, h⟩
end
/-- the parts handed back -/
abbrev dParts (ls gs : List Int) (cl : List Lk) : PyData := .tuple [.list (ls.map .int), .list (gs.map .int), .list (cl.map dL)]
section
variable {P : Program} {w : World} {K : PySem.W.Frag} {mg : Str → Option Value} {base : Heap}
theorem fn_parts (S : Fs K mg) (ns : List Int) (many : Nat) (at_ : Int) (nb : Nb ns many) (ha : 0 ≤ at_ ∧ at_ + 24 ≤ many) :
    FnOk P w K mg base (L2.CX P w) 1 (f_law_parts K) S.d_law_parts P_law_parts (spV [rD (.list (ns.map .int)), rD (.int at_)] (rD (dParts (lsOf ns at_) (gsOf ns at_) (closedOf ns at_)))) := by
  refine fn_v (nm := nm_law_parts) (n := 8) S.F_law_parts sc_law_parts rfl (.cons (.cons .nil)) rfl rfl (fun X W D hP hw hK hmg hbase xb rv _ => ?_)
  subst hP hw hK hmg hbase
  have bInt : Bl X "int" := xb.v.bl S.fr_int
  have bRange : Bl X "range" := xb.v.bl S.fr_range
  have bLen : Bl X "len" := xb.v.bl S.fr_len
  have bMax : Bl X "max" := xb.v.bl S.fr_max
  have bSum : Bl X "sum" := xb.v.bl S.fr_sum
  have hl := nb.len
  have hm := mostOf_b (nth ns at_)
  have n0 := nb.b at_
  refine blk_set xb 2 (ev_ixL (ev_ho (evo_lst (evd_cons ev_int (evd_cons ev_int (evd_cons ev_int (evd_cons ev_int evd_nil)))))) (ev_mod (ev_intI bInt (ev_nth (v_ xb.v 0) (v_ xb.v 1) (by omega))) ev_int (by decide)) (mostOf_at _)) ?_
  refine blk_setLc (R := fun k : Nat => rD (.int (k : Nat))) xb 3 [("_law_k", 6)] (evi_rng1 bRange (ev_add ev_int (ev_mod (ev_fdiv (ev_intI bInt (ev_nth (v_ xb.v 0) (v_ xb.v 1) (by omega))) ev_int (by decide)) ev_int (by decide))) (by omega) (by omega)) (by rw [List.length_range]; show _ ≤ 16777216; omega)
    (fun k => [vl (rD (.list (ns.map .int))), vl (rD (.int at_)), vl (rD (.int (mostOf (nth ns at_)))), .no, .no, .no, vl (rD (.int (k : Nat))), .no, .no, .no]) (ts := [6]) (by decide) (fun s H C cl fp xc x hx => tg_name xc.toXV 6 (hf := .inr (xc.toXV.only (by decide +kernel))))
    (fun s H C cl fp xc x hx => ev_add ev_int (ev_mod (ev_intI (xc.toXV.bl S.fr_int) (ev_nth (v_ xc.toXV 0) (ev_add (ev_add (v_ xc.toXV 1) ev_int) (v_ xc.toXV 6)) (by rw [List.mem_range] at hx; omega))) (v_ xc.toXV 2) (by omega))) (ds := (lsOf ns at_).map .int) (by unfold lsOf; rw [List.map_map]; rfl) ?_
  refine blk_fz 3 rfl ?_
  refine blk_setLc (R := fun k : Nat => rD (.int (k : Nat))) xb 4 [("_law_k", 6)] (evi_rng1 bRange (ev_mod (ev_fdiv (ev_intI bInt (ev_nth (v_ xb.v 0) (v_ xb.v 1) (by omega))) ev_int (by decide)) ev_int (by decide)) (by omega) (by omega)) (by rw [List.length_range]; show _ ≤ 16777216; omega)
    (fun k => [vl (rD (.list (ns.map .int))), vl (rD (.int at_)), vl (rD (.int (mostOf (nth ns at_)))), vl (rD (.list ((lsOf ns at_).map .int))), .no, .no, vl (rD (.int (k : Nat))), .no, .no, .no]) (ts := [6]) (by decide) (fun s H C cl fp xc x hx => tg_name xc.toXV 6 (hf := .inr (xc.toXV.only (by decide +kernel))))
    (fun s H C cl fp xc x hx => ev_add ev_int (ev_mod (ev_intI (xc.toXV.bl S.fr_int) (ev_nth (v_ xc.toXV 0) (ev_add (ev_add (v_ xc.toXV 1) ev_int) (v_ xc.toXV 6)) (by rw [List.mem_range] at hx; omega))) (v_ xc.toXV 2) (by omega))) (ds := (gsOf ns at_).map .int) (by unfold gsOf; rw [List.map_map]; rfl) ?_
  refine blk_fz 4 rfl ?_
  refine blk_setO xb 5 (evo_lst evd_nil) ?_
  have n7 := nb.b (at_ + 7)
  have hls := lsOf_len ns at_
  have hgs := gsOf_len ns at_
  have hsum := lsOf_sum ns at_
  have hmax : max 0 (nth ns (at_ + 7) % 10 - 3) ≤ 6 := by omega
  refine blk_rng (lo := 0) (n := (max 0 (nth ns (at_ + 7) % 10 - 3)).toNat) xb (fun i => [vl (rD (.list (ns.map .int))), vl (rD (.int at_)), vl (rD (.int (mostOf (nth ns at_)))), vl (rD (.list ((lsOf ns at_).map .int))), vl (rD (.list ((gsOf ns at_).map .int))), .ow (cD ((clOf ns at_ i).map dL)), .no, .no, .no, .no]) _
    (rng1 bRange (ev_max2 xb.calm bMax ev_int (ev_sub (ev_mod (ev_intI bInt (ev_nth (v_ xb.v 0) (ev_add (v_ xb.v 1) ev_int) (by omega))) ev_int (by decide)) ev_int)) (by omega) (by omega)) (SlAll.rfl _) (fun i hi => tg_name xb.v 6 (hf := .inl (xb.fnn _))) (fun i hi => ?_) ?_
  · have hi' : i < 6 := by omega
    have hk : (0 : Int) + (i : Nat) = (i : Nat) := by omega
    rw [hk]
    have bnd8 : 0 ≤ at_ + 8 + 2 * ((i : Nat) : Int) ∧ at_ + 8 + 2 * ((i : Nat) : Int) < ns.length := by omega
    have bnd9 : 0 ≤ at_ + 9 + 2 * ((i : Nat) : Int) ∧ at_ + 9 + 2 * ((i : Nat) : Int) < ns.length := by omega
    have lg : ((gsOf ns at_).map PyData.int).length = (gsOf ns at_).length := List.length_map ..
    have ll : ((lsOf ns at_).map PyData.int).length = (lsOf ns at_).length := List.length_map ..
    refine blk_set xb 7 (R := rD (.int (aisleOf ns at_ i))) (ev_d (ev_mod (ev_intI bInt (ev_nth (v_ xb.v 0) (ev_add (ev_add (v_ xb.v 1) ev_int) (ev_mul ev_int (v_ xb.v 6) (.inl (by decide)))) bnd8)) (ev_add (ev_len bLen (ev_h (v_ xb.v 4))) ev_int) (by omega)) (by rw [lg]; rfl)) ?_
    refine blk_set xb 8 (R := rD (.int (spotOf ns at_ i))) (ev_intI bInt (ev_nth (v_ xb.v 0) (ev_add (ev_add (v_ xb.v 1) ev_int) (ev_mul ev_int (v_ xb.v 6) (.inl (by decide)))) bnd9)) ?_
    have n9 : 0 ≤ spotOf ns at_ i ∧ spotOf ns at_ i < 1009 := nb.b _
    have hq := Int.emod_nonneg (spotOf ns at_ i / 3) (show ((lsOf ns at_).length : Int) + 1 ≠ 0 by omega)
    refine blk_set xb 9 (R := rD (dL ("up", aisleOf ns at_ i, spotOf ns at_ i / 3 % (lsOf ns at_).sum))) (ev_tup (evd_cons ev_str (evd_cons (v_ xb.v 7) (evd_cons (ev_mod (ev_fdiv (v_ xb.v 8) ev_int (by decide)) (ev_sum xb.calm bSum (ev_h (v_ xb.v 3))) (by omega)) evd_nil)))) ?_
    refine blk_ifm (d := overB ns at_ i) [vl (rD (.list (ns.map .int))), vl (rD (.int at_)), vl (rD (.int (mostOf (nth ns at_)))), vl (rD (.list ((lsOf ns at_).map .int))), vl (rD (.list ((gsOf ns at_).map .int))), .ow (cD ((clOf ns at_ i).map dL)), .no, .no, .no, vl (rD (dL (linkOf ns at_ i)))]
      (tv_wv (wv_and (tv_eqI (ev_mod (ev_intI bInt (v_ xb.v 8)) ev_int (by decide)) ev_int) (fun _ => wv_and1 (tv_b (tv_lt (v_ xb.v 7) (ev_len bLen (ev_h (v_ xb.v 4)))) (by rw [lg]))))) (fun h => ?_) (fun h => ?_) ?_
    · refine blk_set xb 9 (R := rD (dL (linkOf ns at_ i))) (ev_d (ev_tup (evd_cons ev_str (evd_cons (v_ xb.v 7) (evd_cons (ev_sum xb.calm bSum (ns := (lsOf ns at_).take (spotOf ns at_ i / 3 % ((lsOf ns at_).length + 1)).toNat) (ev_hc (ev_ho (evo_sl (ev_h (v_ xb.v 3)) evp_no (evp_so (ev_mod (ev_fdiv (v_ xb.v 8) ev_int (by decide)) (ev_add (ev_len bLen (ev_h (v_ xb.v 3))) ev_int) (by omega))))) (by rw [ll, cut_int _ hq, List.map_take]))) evd_nil)))) (by unfold linkOf; rw [if_pos h])) ?_
      exact blk_end (.cons (.refl _) (.cons (.refl _) (.cons (.refl _) (.cons (.refl _) (.cons (.refl _) (.cons (.refl _) (.cons (.no _) (.cons (.no _) (.cons (.no _) (.cons (.refl _) .nil))))))))))
    · refine blk_end ?_
      have e : linkOf ns at_ i = (("up", aisleOf ns at_ i, spotOf ns at_ i / 3 % (lsOf ns at_).sum) : Lk) := by
        unfold linkOf
        rw [if_neg (by rw [h]; exact Bool.false_ne_true)]
      rw [e]
      exact .cons (.refl _) (.cons (.refl _) (.cons (.refl _) (.cons (.refl _) (.cons (.refl _) (.cons (.refl _) (.cons (.no _) (.cons (.no _) (.cons (.no _) (.cons (.refl _) .nil)))))))))
    · obtain ⟨c1, c2, c3⟩ := clOf_ok ns at_ i
      refine blk_if (d := !decide (linkOf ns at_ i ∈ clOf ns at_ i)) (tv_b (tv_niD (v_ xb.v 9) (ev_varC xb.v 5) (good_dL.shaped _ (linkOf_ok ns at_ i)) (good_dLs.shaped _ c1) xb.ls) (by rw [good_dL.any]; exact congrArg _ (decide_eq_decide.mpr Iff.rfl))) (fun h => ?_) (fun h => ?_)
      · have h : ¬ linkOf ns at_ i ∈ clOf ns at_ i := by simpa using h
        refine blk_app xb 5 rfl (v_ xb.v 9) (by rw [List.length_map]; show _ < 16777216; omega) ?_
        refine blk_go (blk_end ?_)
        have e : clOf ns at_ (i + 1) = clOf ns at_ i ++ [linkOf ns at_ i] := by
          show (if linkOf ns at_ i ∈ clOf ns at_ i then clOf ns at_ i else clOf ns at_ i ++ [linkOf ns at_ i]) = _
          rw [if_neg h]
        rw [e, List.map_append]
        exact .cons (.refl _) (.cons (.refl _) (.cons (.refl _) (.cons (.refl _) (.cons (.refl _) (.cons (.refl _) (.cons (.no _) (.cons (.no _) (.cons (.no _) (.cons (.no _) .nil)))))))))
      · have h : linkOf ns at_ i ∈ clOf ns at_ i := by simpa using h
        refine blk_go (blk_end ?_)
        have e : clOf ns at_ (i + 1) = clOf ns at_ i := by
          show (if linkOf ns at_ i ∈ clOf ns at_ i then clOf ns at_ i else clOf ns at_ i ++ [linkOf ns at_ i]) = _
          rw [if_pos h]
        rw [e]
        exact .cons (.refl _) (.cons (.refl _) (.cons (.refl _) (.cons (.refl _) (.cons (.refl _) (.cons (.refl _) (.cons (.no _) (.cons (.no _) (.cons (.no _) (.cons (.no _) .nil)))))))))
  · refine blk_fz 5 rfl ?_
    exact blk_ret (ev_tup (evd_cons (v_ xb.v 3) (evd_cons (v_ xb.v 4) (evd_cons (v_ xb.v 5) evd_nil)))) rv
end
section
variable {P : Program} {w : World} {K : PySem.W.Frag} {mg : Str → Option Value} {base : Heap}
theorem fn_law_crosses (S : Fs K mg) (ls : List Int) (hl : ls.length ≤ 1000) : FnOk P w K mg base (L2.CX P w) 1 (f_law_crosses K) S.d_law_crosses P_law_crosses (spO [rD (.list (ls.map .int))] (cD ((crossesOf ls).map .int))) := by
  refine fn_o (nm := nm_law_crosses) (n := 1) S.F_law_crosses sc_law_crosses rfl (.cons .nil) rfl rfl (fun X W D hP hw hK hmg hbase xb ro => ?_)
  subst hP hw hK hmg hbase
  have ll : (ls.map PyData.int).length = ls.length := List.length_map ..
  refine blk_retO (evo_cc (evo_lc (R := fun k : Nat => rD (.int (k : Nat))) [("_law_k", 1)] xb.toXC (evi_rng1 (xb.v.bl S.fr_range) (ev_add (ev_len (xb.v.bl S.fr_len) (ev_h (v_ xb.v 0))) ev_int) (by omega) (by omega)) (by rw [List.length_range]; show _ ≤ 16777216; omega)
    (fun k => [vl (rD (.list (ls.map .int))), vl (rD (.int (k : Nat)))]) (ts := [1]) (by decide) (fun s H C cl fp xc x hx => tg_name xc.toXV 1 (hf := .inr (xc.toXV.only (by decide +kernel))))
    (fun s H C cl fp xc x hx => ev_sum xc.calm (xc.toXV.bl S.fr_sum) (ns := ls.take x) (ev_hc (ev_ho (evo_sl (ev_h (v_ xc.toXV 0)) evp_no (evp_so (v_ xc.toXV 1)))) (by rw [cut_nat, List.map_take])))) ?_) ro
  unfold crossesOf
  rw [ll, List.map_map]
  have e : ((ls.length : Int) + 1).toNat = ls.length + 1 := by omega
  rw [e]
  rfl
end
section
variable {P : Program} {w : World} {K : PySem.W.Frag} {mg : Str → Option Value} {base : Heap}
def rowOfG (a h : Nat) : List (Int × Int) := (List.range h).map fun b => (((a : Nat) : Int), ((b : Nat) : Int))
theorem gridOf_succ (w h : Nat) : gridOf (w + 1) h = gridOf w h ++ rowOfG w h := by
  unfold gridOf rowOfG
  rw [List.range_succ, List.flatMap_append, List.flatMap_cons, List.flatMap_nil, List.append_nil]
theorem gridOf_len (w h : Nat) : (gridOf w h).length = w * h := by
  induction w with
  | zero => simp [gridOf]
  | succ w ih =>
    rw [gridOf_succ, List.length_append, ih, Nat.add_mul, Nat.one_mul]
    unfold rowOfG
    rw [List.length_map, List.length_range]
theorem fn_grid (S : Fs K mg) (wd hi : Nat) (h1 : wd ≤ 100) (h2 : hi ≤ 200) : FnOk P w K mg base (L2.CX P w) 1 (f_law_grid K) S.d_law_grid P_law_grid (spO [rD (.int wd), rD (.int hi)] (cD ((gridOf wd hi).map dP))) := by
  refine fn_o (nm := nm_law_grid) (n := 3) S.F_law_grid sc_law_grid rfl (.cons (.cons .nil)) rfl rfl (fun X W D hP hw hK hmg hbase xb ro => ?_)
  subst hP hw hK hmg hbase
  have bR : Bl X "range" := xb.v.bl S.fr_range
  have pr : ∀ i, i ≤ wd → i * hi ≤ 20000 := fun i h => Nat.le_trans (Nat.mul_le_mul (Nat.le_trans h h1) h2) (by decide)
  refine blk_setO xb 2 (evo_lst evd_nil) ?_
  refine blk_rng (lo := 0) (n := (wd : Int).toNat) xb (fun i => [vl (rD (.int wd)), vl (rD (.int hi)), .ow (cD ((gridOf i hi).map dP)), .no, .no]) _ (rng1 bR (v_ xb.v 0) (by omega) (by omega)) (SlAll.rfl _) (fun i h => tg_name xb.v 3 (hf := .inl (xb.fnn _))) (fun i h => ?_) ?_
  · have hk : (0 : Int) + (i : Nat) = (i : Nat) := by omega
    rw [hk]
    refine blk_rng (lo := 0) (n := (hi : Int).toNat) xb (fun j => [vl (rD (.int wd)), vl (rD (.int hi)), .ow (cD ((gridOf i hi ++ rowOfG i j).map dP)), vl (rD (.int i)), .no]) _ (rng1 bR (v_ xb.v 1) (by omega) (by omega)) (by
      show SlAll _ [_, _, .ow (cD ((gridOf i hi ++ rowOfG i 0).map dP)), _, _]
      have e : gridOf i hi ++ rowOfG i 0 = gridOf i hi := List.append_nil _
      rw [e]
      exact SlAll.rfl _) (fun j h => tg_name xb.v 4 (hf := .inl (xb.fnn _))) (fun j hj => ?_) ?_
    · have hk2 : (0 : Int) + (j : Nat) = (j : Nat) := by omega
      rw [hk2]
      refine blk_app xb 2 rfl (ev_tup (evd_cons (v_ xb.v 3) (evd_cons (v_ xb.v 4) evd_nil))) ?_ ?_
      · have := pr i (by omega)
        rw [List.length_map, List.length_append, gridOf_len]
        unfold rowOfG
        rw [List.length_map, List.length_range]
        show _ < 16777216
        omega
      · refine blk_end ?_
        have e : rowOfG i (j + 1) = rowOfG i j ++ [(((i : Nat) : Int), ((j : Nat) : Int))] := by
          unfold rowOfG
          rw [List.range_succ, List.map_append, List.map_singleton]
        rw [e, ← List.append_assoc, List.map_append (l₂ := [_])]
        repeat first | exact .nil | refine .cons (.refl _) ?_ | refine .cons (.no _) ?_
    · refine blk_end ?_
      rw [gridOf_succ, Int.toNat_natCast]
      repeat first | exact .nil | refine .cons (.refl _) ?_ | refine .cons (.no _) ?_
  · rw [Int.toNat_natCast]
    exact blk_retV xb.v 2 rfl ro
end
section
variable {P : Program} {w : World} {K : PySem.W.Frag} {mg : Str → Option Value} {base : Heap}
theorem fn_says (S : Fs K mg) (c d : Bool) : FnOk P w K mg base (L2.CX P w) 1 (f_law_says K) S.d_law_says P_law_says (spV [rD (.bool c), rD (.bool d)] (rD (.bool (decide (c = d))))) := by
  refine fn_v (nm := nm_law_says) (n := 0) S.F_law_says sc_law_says rfl (.cons (.cons .nil)) rfl rfl (fun X W D hP hw hK hmg hbase xb rv _ => ?_)
  subst hP hw hK hmg hbase
  refine blk_if (tv_val (v_ xb.v 1)) (fun h => ?_) (fun h => ?_)
  · subst h
    exact blk_ret (ev_isB (v_ xb.v 0) ev_bl) rv
  · subst h
    exact blk_go (blk_ret (ev_isB (v_ xb.v 0) ev_bl) rv)
def oversTo (ls : List Int) (n : Nat) : List Lk := (List.range n).flatMap fun a => (crossesOf ls).map fun h => (("over", ((a : Nat) : Int), h) : Lk)
theorem oversTo_succ (ls : List Int) (n : Nat) : oversTo ls (n + 1) = oversTo ls n ++ (crossesOf ls).map fun h => (("over", ((n : Nat) : Int), h) : Lk) := by
  unfold oversTo
  rw [List.range_succ, List.flatMap_append, List.flatMap_cons, List.flatMap_nil, List.append_nil]
theorem oversTo_len (ls : List Int) (n : Nat) : (oversTo ls n).length = n * (ls.length + 1) := by
  induction n with
  | zero => simp [oversTo]
  | succ n ih => rw [oversTo_succ, List.length_append, ih, List.length_map, crossesOf_len, Nat.add_mul, Nat.one_mul]
theorem fn_overs (S : Fs K mg) (ls gs : List Int) (h1 : ls.length ≤ 100) (h2 : gs.length ≤ 100) : FnOk P w K mg base (L2.CX P w) 2 (f_law_overs K) S.d_law_overs P_law_overs (spO [rD (.list (ls.map .int)), rD (.list (gs.map .int))] (cD ((oversOf ls gs).map dL))) := by
  refine fn_o (nm := nm_law_overs) (n := 3) S.F_law_overs sc_law_overs rfl (.cons (.cons .nil)) rfl rfl (fun X W D hP hw hK hmg hbase xb ro => ?_)
  subst hP hw hK hmg hbase
  have lg : (gs.map PyData.int).length = gs.length := List.length_map ..
  have pr : ∀ i, i ≤ 100 → i * (ls.length + 1) ≤ 10100 := fun i h => Nat.le_trans (Nat.mul_le_mul h (show ls.length + 1 ≤ 101 by omega)) (by decide)
  refine blk_setO xb 2 (evo_lst evd_nil) ?_
  refine blk_rng (lo := 0) (n := (gs.length : Int).toNat) xb (fun i => [vl (rD (.list (ls.map .int))), vl (rD (.list (gs.map .int))), .ow (cD ((oversTo ls i).map dL)), .no, .no]) _ (rng1 (xb.v.bl S.fr_range) (ev_d (ev_len (xb.v.bl S.fr_len) (ev_h (v_ xb.v 1))) (by rw [lg])) (by omega) (by omega)) (SlAll.rfl _) (fun i h => tg_name xb.v 3 (hf := .inl (xb.fnn _))) (fun i h => ?_) ?_
  · have hk : (0 : Int) + (i : Nat) = (i : Nat) := by omega
    rw [hk]
    refine blk_for (R := fun c => rD (.int c)) (xs := crossesOf ls) xb (fun q => [vl (rD (.list (ls.map .int))), vl (rD (.list (gs.map .int))), .ow (cD ((oversTo ls i ++ q.map fun h => (("over", ((i : Nat) : Int), h) : Lk)).map dL)), vl (rD (.int (i : Nat))), .no]) (fun q x => [vl (rD (.list (ls.map .int))), vl (rD (.list (gs.map .int))), .ow (cD ((oversTo ls i ++ q.map fun h => (("over", ((i : Nat) : Int), h) : Lk)).map dL)), vl (rD (.int (i : Nat))), vl (rD (.int x))])
      (evi_lst (ev_b (ev_fz (evo_c xb.toXC (S.df_law_crosses (fn_law_crosses S ls (by omega))) (eva_cons (v_ xb.v 0) eva_nil))))) (by
        show SlAll _ [_, _, .ow (cD ((oversTo ls i ++ []).map dL)), _, _]
        rw [List.append_nil]
        exact SlAll.rfl _) (fun q x post hq => tg_name xb.v 4 (hf := .inl (xb.fnn _))) (fun gh2 q x post hq => ?_) ?_
    · have lq := congrArg List.length hq
      rw [crossesOf_len, List.length_append, List.length_cons] at lq
      refine blk_app xb 2 rfl (ev_tup (evd_cons ev_str (evd_cons (v_ xb.v 3) (evd_cons (v_ xb.v 4) evd_nil)))) ?_ ?_
      · have := pr i (by omega)
        rw [List.length_map, List.length_append, oversTo_len, List.length_map]
        show _ < 16777216
        omega
      · refine blk_end ?_
        rw [List.map_append (l₁ := q), ← List.append_assoc, List.map_append (l₂ := List.map _ [x])]
        repeat first | exact .nil | refine .cons (.refl _) ?_ | refine .cons (.no _) ?_
    · refine blk_end ?_
      rw [oversTo_succ]
      repeat first | exact .nil | refine .cons (.refl _) ?_ | refine .cons (.no _) ?_
  · rw [Int.toNat_natCast]
    exact blk_retV xb.v 2 rfl ro
end
section
variable {P : Program} {w : World} {K : PySem.W.Frag} {mg : Str → Option Value} {base : Heap}
theorem fn_all_links (S : Fs K mg) (ls gs : List Int) (h1 : ls.length ≤ 2) (h2 : gs.length ≤ 11) (h3 : 0 ≤ topOf ls ∧ topOf ls ≤ 80) : FnOk P w K mg base (L2.CX P w) 3 (f_law_all_links K) S.d_law_all_links P_law_all_links (spO [rD (.list (ls.map .int)), rD (.list (gs.map .int))] (cD ((linksOf ls gs).map dL))) := by
  refine fn_o (nm := nm_law_all_links) (n := 1) S.F_law_all_links sc_law_all_links rfl (.cons (.cons .nil)) rfl rfl (fun X W D hP hw hK hmg hbase xb ro => ?_)
  subst hP hw hK hmg hbase
  have lg : (gs.map PyData.int).length = gs.length := List.length_map ..
  have lo : (oversOf ls gs).length ≤ 33 := by
    have e : oversOf ls gs = oversTo ls gs.length := rfl
    rw [e, oversTo_len]
    exact Nat.le_trans (Nat.mul_le_mul h2 (show ls.length + 1 ≤ 3 by omega)) (by decide)
  have lgr : (gridOf (gs.length + 1) (topOf ls).toNat).length ≤ 960 := by
    rw [gridOf_len]
    exact Nat.le_trans (Nat.mul_le_mul (show gs.length + 1 ≤ 12 by omega) (show (topOf ls).toNat ≤ 80 by omega)) (by decide)
  refine blk_retO (evo_cc (evo_cat (ev_ho (evo_c xb.toXC (S.df_law_overs (fn_overs S ls gs (by omega) (by omega))) (eva_cons (v_ xb.v 0) (eva_cons (v_ xb.v 1) eva_nil)))) (ev_ho (evo_lc (R := fun p : Int × Int => rD (dP p)) (xs := gridOf (gs.length + 1) (topOf ls).toNat) (f := fun p => dL ("up", p.1, p.2)) [("_law_pair", 2)] xb.toXC (evi_lst (enc := dP) (ev_b (ev_fz (evo_c xb.toXC (S.df_law_grid (fn_grid S (gs.length + 1) (topOf ls).toNat (by omega) (by omega))) (eva_cons (ev_d (ev_add (ev_len (xb.v.bl S.fr_len) (ev_h (v_ xb.v 1))) ev_int) (by rw [lg]; rfl)) (eva_cons (ev_d (ev_sum xb.calm (xb.v.bl S.fr_sum) (ev_h (v_ xb.v 0))) (by rw [Int.toNat_of_nonneg h3.1]; rfl)) eva_nil)))))) (by show _ ≤ 16777216; omega)
    (fun p => [vl (rD (.list (ls.map .int))), vl (rD (.list (gs.map .int))), vl (rD (dP p))]) (ts := [2]) (by decide) (fun s H C cl fp xc x hx => tg_name xc.toXV 2 (hf := .inr (xc.toXV.only (by decide +kernel))))
    (fun s H C cl fp xc x hx => ev_catT (ev_tup (evd_cons ev_str evd_nil)) (v_ xc.toXV 2) (by simp) (by show _ ≤ 16777216; exact Nat.le_of_ble_eq_true rfl)))) (by rw [List.length_map, List.length_map]; show _ ≤ 16777216; omega)) ?_) ro
  unfold linksOf upsOf
  rw [List.map_append, List.map_map]
  rfl
theorem fn_refused (S : Fs K mg) (h : Hs) (hl : h.ls.length ≤ 1000) (l : Lk) (hi : inL h.ls h.gs l = false) : FnOk P w K mg base (L2.CX P w) 8 (f_law_refused K) S.d_law_refused P_law_refused (spV [rH K h, rD (dL l)] (rD (.bool true))) := by
  refine fn_vt (nm := nm_law_refused) (n := 1) S.F_law_refused sc_law_refused rfl (.cons (.cons .nil)) rfl rfl (fun X W D hP hw hK hmg hbase xb rv tko => ?_)
  subst hP hw hK hmg hbase
  refine blk_set xb 2 (R := rD (.int 0)) ev_int ?_
  refine blk_tryO xb ⟨xb.v.gl (by decide +kernel), by decide +kernel, .inl S.g_InvalidLink⟩ tko (fun Wx pn xe xt tk hc => ?_)
  refine blk_expT (evx_m xt.toXC (v_ xt.v 0) (insH (by decide +kernel)) (S.mt_House_ends_of (fn_ends_ofX S h hl l hi)) (eva_cons (v_ xt.v 1) eva_nil)) tk (fun σ F G H E => hc _ _ σ F G H E (fun cls d H0 F H lies => ?_) (fun al oe cls d pn hz hf xv F1 G1 H1 gr E2 => ?_))
  · obtain ⟨e1, e2⟩ := lies
    rw [e1]
    exact S.x_InvalidLink_InvalidLink
  refine (?_ : Blk (X.suite al ((al, oe) :: pn)) W _ .tt _ _) _ F1 G1 H1 E2
  refine blk_setV xv 2 (R := rD (.int (0 + 1))) (ev_add (v_ xv 2) ev_int) ?_
  refine blk_out ?_
  refine blk_tryO xb ⟨xb.v.gl (by decide +kernel), by decide +kernel, .inl S.g_InvalidLink⟩ tko (fun Wx pn xe xt tk hc => ?_)
  refine blk_expT (evx_m xt.toXC (v_ xt.v 0) (insH (by decide +kernel)) (S.mt_House_length_of (fn_length_ofX S h hl l hi)) (eva_cons (v_ xt.v 1) eva_nil)) tk (fun σ F G H E => hc _ _ σ F G H E (fun cls d H0 F H lies => ?_) (fun al oe cls d pn hz hf xv F1 G1 H1 gr E2 => ?_))
  · obtain ⟨e1, e2⟩ := lies
    rw [e1]
    exact S.x_InvalidLink_InvalidLink
  refine (?_ : Blk (X.suite al ((al, oe) :: pn)) W _ .tt _ _) _ F1 G1 H1 E2
  refine blk_setV xv 2 (R := rD (.int (0 + 1 + 1))) (ev_add (v_ xv 2) ev_int) ?_
  refine blk_out ?_
  exact blk_ret (R := rD (.bool true)) (ev_d (d := .bool (decide ((0 : Int) + 1 + 1 = 2))) (ev_eqI (v_ xb.v 2) ev_int) (by rfl)) rv
end
section
variable {P : Program} {w : World} {K : PySem.W.Frag} {mg : Str → Option Value} {base : Heap}
theorem good_dEnds : Good dEnds 2 yes := (good_dP.pair good_dP).imp fun _ _ => ⟨trivial, trivial⟩
theorem fn_link_told (S : Fs K mg) (h : Hs) (hl : h.ls.length ≤ 1000) (l : Lk) (hi : inL h.ls h.gs l = true) : FnOk P w K mg base (L2.CX P w) 8 (f_law_link_told K) S.d_law_link_told P_law_link_told (spV [rH K h, rD (.list (h.gs.map .int)), rD (dL l)] (rD (.bool true))) := by
  refine fn_v (nm := nm_law_link_told) (n := 5) S.F_law_link_told sc_law_link_told rfl (.cons (.cons (.cons .nil))) rfl rfl (fun X W D hP hw hK hmg hbase xb rv _ => ?_)
  subst hP hw hK hmg hbase
  refine blk_asg (v_ xb.v 2) (tg_tup xb.calm (tgs_cons (tg_name xb.v 3 (hf := .inl (xb.fnn _))) (tgs_cons (tg_name xb.v 4 (hf := .inl (xb.fnn _))) (tgs_cons (tg_name xb.v 5 (hf := .inl (xb.fnn _))) tgs_nil)))) ?_
  refine blk_set xb 6 (R := rD (dP (l.2.1, l.2.2 + 1))) (ev_tup (evd_cons (v_ xb.v 4) (evd_cons (ev_add (v_ xb.v 5) ev_int) evd_nil))) ?_
  refine blk_set xb 7 (R := rD (.int 1)) ev_int ?_
  refine blk_ifm [vl (rH X.K h), vl (rD (.list (h.gs.map .int))), vl (rD (dL l)), .no, vl (rD (.int l.2.1)), vl (rD (.int l.2.2)), vl (rD (dP (endsOf l).2)), vl (rD (.int (lenOf h.gs l)))] (tv_eqS (v_ xb.v 3) ev_str) (fun hc => ?_) (fun hc => ?_) ?_
  · have hc := of_decide_eq_true hc
    have nu : ¬ l.1 = ("up" : Str) := by rw [hc]; decide +kernel
    refine blk_set xb 6 (R := rD (dP (endsOf l).2)) (ev_d (ev_tup (evd_cons (ev_add (v_ xb.v 4) ev_int) (evd_cons (v_ xb.v 5) evd_nil))) (by unfold endsOf; rw [if_neg nu])) ?_
    refine blk_set xb 7 (R := rD (.int (lenOf h.gs l))) (ev_d (ev_nth (v_ xb.v 1) (v_ xb.v 4) (inL_over hi nu)) (by unfold lenOf; rw [if_neg nu])) ?_
    refine blk_end ?_
    repeat first | exact .nil | refine .cons (.refl _) ?_ | refine .cons (.no _) ?_
  · have hc := of_decide_eq_false hc
    have nu : l.1 = ("up" : Str) := by
      unfold inL at hi
      split at hi
      · assumption
      · rw [decide_eq_false hc] at hi
        simp at hi
    have e1 : (endsOf l).2 = (l.2.1, l.2.2 + 1) := by unfold endsOf; rw [if_pos nu]
    have e2 : lenOf h.gs l = 1 := by unfold lenOf; rw [if_pos nu]
    refine blk_end ?_
    rw [e1, e2]
    repeat first | exact .nil | refine .cons (.refl _) ?_ | refine .cons (.no _) ?_
  · refine blk_ret (R := rD (.bool true)) (ev_d (ev_and (ev_eqD (ev_m xb.toXC (v_ xb.v 0) (insH (by decide +kernel)) (S.mt_House_ends_of (fn_ends_of S h hl l hi)) (eva_cons (v_ xb.v 2) eva_nil)) (ev_tup (ds := [dP (endsOf l).1, dP (endsOf l).2]) (evd_cons (ev_tup (evd_cons (v_ xb.v 4) (evd_cons (v_ xb.v 5) evd_nil))) (evd_cons (v_ xb.v 6) evd_nil))) (good_dEnds.shaped _ trivial) (good_dEnds.shaped (endsOf l) trivial) xb.ls0) (fun _ => ev_one (ev_eqI (ev_m xb.toXC (v_ xb.v 0) (insH (by decide +kernel)) (S.mt_House_length_of (fn_length_of S h hl l hi)) (eva_cons (v_ xb.v 2) eva_nil)) (v_ xb.v 7)))) ?_) rv
    have e := good_dEnds.eq (endsOf l) (endsOf l)
    show PyData.bool (PyData.eqv (dEnds (endsOf l)) (dEnds (endsOf l)) && decide (lenOf h.gs l = lenOf h.gs l)) = _
    rw [e]
    simp
end
/-! ### links and places, plain -/
theorem mem_grid (w h : Nat) (a b : Int) : (a, b) ∈ gridOf w h ↔ (0 ≤ a ∧ a < w) ∧ (0 ≤ b ∧ b < h) := by
  unfold gridOf
  rw [List.mem_flatMap]
  constructor
  · rintro ⟨x, hx, hm⟩
    obtain ⟨y, hy, e⟩ := List.mem_map.mp hm
    rw [List.mem_range] at hx hy
    simp only [Prod.mk.injEq] at e
    omega
  · rintro ⟨⟨h1, h2⟩, h3, h4⟩
    refine ⟨a.toNat, List.mem_range.mpr (by omega), List.mem_map.mpr ⟨b.toNat, List.mem_range.mpr (by omega), ?_⟩⟩
    rw [Int.toNat_of_nonneg h1, Int.toNat_of_nonneg h3]
theorem mem_places (ls gs : List Int) (h0 : 0 ≤ topOf ls) (a b : Int) : decide ((a, b) ∈ gridOf (gs.length + 1) (topOf ls + 1).toNat) = inP ls gs a b := by
  unfold inP aislesOf
  rw [← Bool.decide_and, ← Bool.decide_and, ← Bool.decide_and]
  refine decide_eq_decide.mpr ?_
  rw [mem_grid]
  omega
theorem up_over : ¬ (("over" : Str) = ("up" : Str)) := by decide +kernel
theorem mem_links (ls gs : List Int) (h0 : 0 ≤ topOf ls) (hc : ∀ z ∈ crossesOf ls, 0 ≤ z ∧ z ≤ topOf ls) (l : Lk) : decide (l ∈ linksOf ls gs) = inL ls gs l := by
  obtain ⟨x, a, b⟩ := l
  unfold inL
  dsimp only
  by_cases hu : x = ("up" : Str)
  · subst hu
    rw [if_pos rfl]
    unfold inP aislesOf
    rw [← Bool.decide_and, ← Bool.decide_and, ← Bool.decide_and, ← Bool.decide_and]
    refine decide_eq_decide.mpr ?_
    unfold linksOf
    rw [List.mem_append]
    constructor
    · rintro (h | h)
      · obtain ⟨i, _, h⟩ := List.mem_flatMap.mp h
        obtain ⟨y, _, e⟩ := List.mem_map.mp h
        simp only [Prod.mk.injEq] at e
        exact absurd e.1 up_over
      · obtain ⟨p, hp, e⟩ := List.mem_map.mp h
        simp only [Prod.mk.injEq] at e
        obtain ⟨p1, p2⟩ := p
        rw [mem_grid] at hp
        simp only at e
        omega
    · intro h
      refine .inr (List.mem_map.mpr ⟨(a, b), (mem_grid _ _ a b).mpr (by omega), rfl⟩)
  · rw [if_neg hu]
    by_cases ho : x = ("over" : Str)
    · subst ho
      rw [decide_eq_true rfl, Bool.true_and]
      unfold inC inP aislesOf
      rw [← Bool.decide_and, ← Bool.decide_and, ← Bool.decide_and, ← Bool.decide_and, ← Bool.decide_and]
      refine decide_eq_decide.mpr ?_
      unfold linksOf
      rw [List.mem_append]
      constructor
      · rintro (h | h)
        · obtain ⟨i, hi, h⟩ := List.mem_flatMap.mp h
          obtain ⟨y, hy, e⟩ := List.mem_map.mp h
          rw [List.mem_range] at hi
          simp only [Prod.mk.injEq] at e
          obtain ⟨_, e1, e2⟩ := e
          subst e1 e2
          have := hc y hy
          exact ⟨⟨⟨by omega, by omega⟩, hy⟩, by omega⟩
        · obtain ⟨p, hp, e⟩ := List.mem_map.mp h
          simp only [Prod.mk.injEq] at e
          exact absurd e.1 (fun z => up_over z.symm)
      · rintro ⟨⟨⟨h1, h2⟩, h3⟩, h4⟩
        refine .inl (List.mem_flatMap.mpr ⟨a.toNat, List.mem_range.mpr (by omega), List.mem_map.mpr ⟨b, h3, ?_⟩⟩)
        rw [Int.toNat_of_nonneg (by omega)]
    · rw [decide_eq_false ho, Bool.false_and, decide_eq_false]
      intro h
      unfold linksOf at h
      rcases List.mem_append.mp h with h | h
      · obtain ⟨i, _, h⟩ := List.mem_flatMap.mp h
        obtain ⟨y, _, e⟩ := List.mem_map.mp h
        simp only [Prod.mk.injEq] at e
        exact ho e.1.symm
      · obtain ⟨p, hp, e⟩ := List.mem_map.mp h
        simp only [Prod.mk.injEq] at e
        exact hu e.1.symm
/-! ### the drawn parts are good -/
theorem goodH_ls {ls gs : List Int} {cl : List Lk} (h : arB ls 1 2 = false) : goodH ls gs cl = false := by
  unfold goodH; rw [h]; rfl
theorem goodH_gs {ls gs : List Int} {cl : List Lk} (h : arB gs 0 11 = false) : goodH ls gs cl = false := by
  unfold goodH; rw [h, Bool.and_false]; rfl
theorem goodH_cl {ls gs : List Int} {cl : List Lk} {l : Lk} (hl : l ∈ cl) (h : inL ls gs l = false) : goodH ls gs cl = false := by
  have e : (cl.map (inL ls gs)).all id = false := by
    rw [List.all_eq_false]
    exact ⟨_, List.mem_map.mpr ⟨l, hl, rfl⟩, by rw [h]; exact Bool.false_ne_true⟩
  unfold goodH
  rw [e, Bool.and_false, Bool.and_false]
theorem goodH_many {ls gs : List Int} {cl : List Lk} (h : 200 < cl.length) : goodH ls gs cl = false := by
  unfold goodH
  rw [decide_eq_false (show ¬ cl.length ≤ 200 by omega)]
  simp
theorem goodH_dup {ls gs : List Int} {cl : List Lk} (h : ¬ cl.Nodup) : goodH ls gs cl = false := by
  unfold goodH
  rw [decide_eq_false h]
  simp
theorem arB_mem {ns : List Int} {lo hi x : Int} (hx : x ∈ ns) (h : (decide (1 ≤ x) && decide (x ≤ 40)) = false) : arB ns lo hi = false := by
  have e : (ns.map fun x => decide (1 ≤ x) && decide (x ≤ 40)).all id = false := by
    rw [List.all_eq_false]
    exact ⟨_, List.mem_map.mpr ⟨x, hx, rfl⟩, by rw [h]; exact Bool.false_ne_true⟩
  unfold arB
  rw [e, Bool.and_false]
theorem arB_ok {ns : List Int} {lo hi : Int} (h1 : lo ≤ (ns.length : Int)) (h2 : (ns.length : Int) ≤ hi) (h : ∀ x ∈ ns, 1 ≤ x ∧ x ≤ 40) : arB ns lo hi = true := by
  unfold arB
  rw [decide_eq_true h1, decide_eq_true h2]
  simp only [Bool.true_and, Bool.and_true, List.all_map, List.all_eq_true, Function.comp, id, Bool.and_eq_true, decide_eq_true_eq]
  exact h
theorem sum_take : ∀ {xs : List Int}, (∀ x ∈ xs, 1 ≤ x ∧ x ≤ 40) → ∀ k, 0 ≤ (xs.take k).sum ∧ (xs.take k).sum ≤ xs.sum
  | [], _, k => by simp
  | x :: xs, h, 0 => by
    have := sum_pos h
    simp only [List.take_zero, List.sum_nil]
    have h2 : (0 : Int) ≤ ((x :: xs).length : Int) := by omega
    omega
  | x :: xs, h, k + 1 => by
    have h1 := h x List.mem_cons_self
    have h2 := sum_take (fun y hy => h y (List.mem_cons_of_mem _ hy)) k
    rw [List.take_succ_cons, List.sum_cons, List.sum_cons]
    omega
theorem crosses_take (ls : List Int) (k : Nat) (h : k ≤ ls.length) : (ls.take k).sum ∈ crossesOf ls := List.mem_map.mpr ⟨k, List.mem_range.mpr (by omega), rfl⟩
section
variable {ns : List Int} {many : Nat} (nb : Nb ns many) (at_ : Int)
include nb
theorem aisleOf_b (k : Nat) : 0 ≤ aisleOf ns at_ k ∧ aisleOf ns at_ k < (gsOf ns at_).length + 1 := by
  unfold aisleOf
  exact ⟨Int.emod_nonneg _ (by omega), Int.emod_lt_of_pos _ (by omega)⟩
theorem linkOf_in (k : Nat) : inL (lsOf ns at_) (gsOf ns at_) (linkOf ns at_ k) = true := by
  have ha := aisleOf_b nb at_ k
  have hs := lsOf_sum ns at_
  have hsp : 0 ≤ spotOf ns at_ k := (nb.b _).1
  unfold linkOf
  split
  · rename_i ho
    unfold overB at ho
    rw [Bool.and_eq_true, decide_eq_true_eq, decide_eq_true_eq] at ho
    have hq1 := Int.emod_nonneg (spotOf ns at_ k / 3) (show ((lsOf ns at_).length : Int) + 1 ≠ 0 by omega)
    have hq2 := Int.emod_lt_of_pos (spotOf ns at_ k / 3) (show (0 : Int) < ((lsOf ns at_).length : Int) + 1 by omega)
    have ht := sum_take (lsOf_mem ns at_) (spotOf ns at_ k / 3 % ((lsOf ns at_).length + 1)).toNat
    have hc := crosses_take (lsOf ns at_) (spotOf ns at_ k / 3 % ((lsOf ns at_).length + 1)).toNat (by omega)
    have n1 : ¬ (("over" : Str) = ("up" : Str)) := by decide +kernel
    unfold inL inC inP topOf aislesOf
    simp only [if_neg n1, hc]
    have a1 : aisleOf ns at_ k < (gsOf ns at_).length + 1 - 1 := by omega
    simp [ha.1, ha.2, ht.1, ht.2]
    omega
  · have h1 := Int.emod_nonneg (spotOf ns at_ k / 3) (show (lsOf ns at_).sum ≠ 0 by omega)
    have h2 := Int.emod_lt_of_pos (spotOf ns at_ k / 3) (show 0 < (lsOf ns at_).sum by omega)
    unfold inL inP topOf aislesOf
    simp only [if_true]
    simp [ha.1, ha.2, h1, h2]
    omega
theorem parts_good : goodH (lsOf ns at_) (gsOf ns at_) (closedOf ns at_) = true := by
  have h1 := lsOf_len ns at_
  have h2 := gsOf_len ns at_
  have hm : (max 0 (nth ns (at_ + 7) % 10 - 3)).toNat ≤ 6 := by omega
  obtain ⟨c1, c2, c3⟩ := clOf_ok ns at_ (max 0 (nth ns (at_ + 7) % 10 - 3)).toNat
  unfold goodH
  rw [arB_ok (by omega) (by omega) (lsOf_mem ns at_), arB_ok (by omega) (by omega) (gsOf_mem ns at_)]
  have e1 : (closedOf ns at_).length ≤ 200 := by unfold closedOf; omega
  have e2 : (closedOf ns at_).Nodup := c3
  rw [decide_eq_true e1, decide_eq_true e2]
  simp only [Bool.true_and, List.all_map, List.all_eq_true, Function.comp, id]
  intro l hl
  obtain ⟨j, rfl⟩ := clOf_mem ns at_ _ l hl
  exact linkOf_in nb at_ j
end
mutual
theorem eqv_self : ∀ d : PyData, d.canLay0 = true → PyData.eqv d d = true
  | .none, _ => rfl
  | .bool b, _ => by simp [PyData.eqv]
  | .int i, _ => by simp [PyData.eqv]
  | .str x, _ => by simp [PyData.eqv]
  | .list xs, h => by
    simp only [PyData.eqv]
    exact eqvAll_self xs (by simpa [PyData.canLay0] using h)
  | .tuple xs, h => by
    simp only [PyData.eqv]
    exact eqvAll_self xs (by simpa [PyData.canLay0] using h)
  | .dict _, h => by simp [PyData.canLay0] at h
theorem eqvAll_self : ∀ ds : List PyData, PyData.canLayAll0 ds = true → PyData.eqvAll ds ds = true
  | [], _ => rfl
  | d :: ds, h => by
    simp only [PyData.canLayAll0, Bool.and_eq_true] at h
    simp only [PyData.eqvAll, eqv_self d h.1, eqvAll_self ds h.2, Bool.and_true]
end
theorem shaped_and {ds : List PyData} {n : Nat} (h : ∀ d ∈ ds, d.canLay0 = true ∧ d.depth ≤ n) (hn : n ≤ 63 := by decide) : SeqAt.shaped (.list ds) = true := by
  have h1 : PyData.canLayAll0 ds = true ∧ PyData.depthAll ds ≤ n := by
    induction ds with
    | nil => exact ⟨rfl, by simp [PyData.depthAll]⟩
    | cons d ds ih =>
      obtain ⟨h2, h3⟩ := ih fun e he => h e (List.mem_cons_of_mem _ he)
      obtain ⟨h4, h5⟩ := h d List.mem_cons_self
      refine ⟨by simp [PyData.canLayAll0, h4, h2], ?_⟩
      simp only [PyData.depthAll]
      omega
  show (PyData.canLay0 (.list ds) && decide (PyData.depth (.list ds) ≤ 64)) = true
  rw [Bool.and_eq_true]
  refine ⟨by simp only [PyData.canLay0]; exact h1.1, decide_eq_true ?_⟩
  simp only [PyData.depth]
  omega
set_option maxHeartbeats 1000000
section
variable {P : Program} {w : World} {K : PySem.W.Frag} {mg : Str → Option Value} {base : Heap}
theorem crosses_b {ls : List Int} (h : ∀ x ∈ ls, 1 ≤ x ∧ x ≤ 40) : ∀ z ∈ crossesOf ls, 0 ≤ z ∧ z ≤ topOf ls := fun z hz => by
  obtain ⟨k, _, rfl⟩ := List.mem_map.mp hz
  exact sum_take h k
theorem words_ok : ∀ x ∈ (["up", "over", "in"] : List Str), PyData.strOk x = true := by decide +kernel
theorem heights_ok {ls : List Int} {n : Int} : True := trivial
theorem filter_sort (L : List Lk) (cl : List Lk) : (L.filter fun l => !decide (l ∈ sortL cl)) = L.filter fun l => !decide (l ∈ cl) := by
  congr 1
  funext l
  rw [decide_eq_decide.mpr (sortL_perm cl).mem_iff]
theorem fn_law (S : Fs K mg) (ns : List Int) (hl : ns.length ≤ 63) : FnOk P w K mg base (L2.CX P w) 9 (f_law K) S.d_law P_law (spV [rS K ns] (rD (.bool true))) := by
  refine fn_v (nm := nm_law) (n := 14) S.F_law sc_law rfl (.cons .nil) rfl rfl (fun X W D hP hw hK hmg hbase xb rv _ => ?_)
  subst hP hw hK hmg hbase
  have bInt : Bl X "int" := xb.v.bl S.fr_int
  have bLen : Bl X "len" := xb.v.bl S.fr_len
  have nb := nb_of ns 30
  generalize hnu : numsOf ns 30 = nu at nb
  have hlen := nb.len
  refine blk_set xb 1 (R := rD (.list (nu.map .int))) (by rw [← hnu]; exact ev_fz (evo_c xb.toXC (S.df_law_numbers (fn_numbers S ns 30 hl (by decide))) (eva_cons (v_ xb.v 0) (eva_cons ev_int eva_nil)))) ?_
  have g1 := lsOf_len nu 0
  have g2 := gsOf_len nu 0
  have g3 := lsOf_sum nu 0
  have gC := crosses_b (lsOf_mem nu 0)
  have gL := lsOf_mem nu 0
  have gG := parts_good nb 0
  obtain ⟨c1, c2, c3⟩ := clOf_ok nu 0 (max 0 (nth nu (0 + 7) % 10 - 3)).toNat
  have c2' : (closedOf nu 0).length ≤ 6 := by unfold closedOf; omega
  have c1' : ∀ l ∈ closedOf nu 0, okL' l := c1
  refine blk_asg (ev_c xb.toXC (S.df_law_parts (fn_parts S nu 30 0 nb (by decide))) (eva_cons (v_ xb.v 1) (eva_cons ev_int eva_nil))) (tg_tup xb.calm (tgs_cons (tg_name xb.v 2 (hf := .inl (xb.fnn _))) (tgs_cons (tg_name xb.v 3 (hf := .inl (xb.fnn _))) (tgs_cons (tg_name xb.v 4 (hf := .inl (xb.fnn _))) tgs_nil)))) ?_
  generalize lsOf nu 0 = ls at *
  generalize gsOf nu 0 = gs at *
  generalize closedOf nu 0 = cl at *
  show Blk X W D .tt [vl (rS X.K ns), vl (rD (.list (nu.map .int))), vl (rD (.list (ls.map .int))), vl (rD (.list (gs.map .int))), vl (rD (.list (cl.map dL))), .no, .no, .no, .no, .no, .no, .no, .no, .no, .no] _
  have hls : ls.length ≤ 1000 := by omega
  have ht : 1 ≤ topOf ls ∧ topOf ls ≤ 80 := g3
  have lg : (gs.map PyData.int).length = gs.length := List.length_map ..
  refine blk_set xb 5 (R := rH X.K ⟨ls, gs, sortL cl⟩) (ev_mk xb.toXC (S.mkk_House (fn_House_init S ls gs cl gG)) (eva_cons (ev_h (v_ xb.v 2)) (eva_cons (ev_h (v_ xb.v 3)) (eva_cons (ev_h (v_ xb.v 4)) eva_nil)))) ?_
  refine blk_set xb 6 (R := rD (.int (topOf ls))) (ev_sum xb.calm (xb.v.bl S.fr_sum) (ev_h (v_ xb.v 2))) ?_
  refine blk_set xb 7 (R := rD (.list ((linksOf ls gs).map dL))) (ev_fz (evo_c xb.toXC (S.df_law_all_links (fn_all_links S ls gs (by omega) (by omega) (by omega))) (eva_cons (v_ xb.v 2) (eva_cons (v_ xb.v 3) eva_nil)))) ?_
  refine blk_set xb 8 (R := rD (.list ((gridOf (gs.length + 1) (topOf ls + 1).toNat).map dP))) (ev_fz (evo_c xb.toXC (S.df_law_grid (fn_grid S (gs.length + 1) (topOf ls + 1).toNat (by omega) (by omega))) (eva_cons (ev_d (ev_add (ev_len bLen (ev_h (v_ xb.v 3))) ev_int) (by rw [lg]; rfl)) (eva_cons (ev_d (ev_add (v_ xb.v 6) ev_int) (by rw [Int.toNat_of_nonneg (by omega)])) eva_nil)))) ?_
  show Blk X W D .tt [vl (rS X.K ns), vl (rD (.list (nu.map .int))), vl (rD (.list (ls.map .int))), vl (rD (.list (gs.map .int))), vl (rD (.list (cl.map dL))), vl (rH X.K ⟨ls, gs, sortL cl⟩), vl (rD (.int (topOf ls))), vl (rD (.list ((linksOf ls gs).map dL))), vl (rD (.list ((gridOf (gs.length + 1) (topOf ls + 1).toNat).map dP))), .no, .no, .no, .no, .no, .no] _
  have pl : placesOf ls gs = gridOf (gs.length + 1) (topOf ls + 1).toNat := by
    have e : (aislesOf gs).toNat = gs.length + 1 := by unfold aislesOf; omega
    unfold placesOf
    rw [e]
  have plen : (placesOf ls gs).length ≤ 1000 := by
    rw [pl, gridOf_len]
    exact Nat.le_trans (Nat.mul_le_mul (show gs.length + 1 ≤ 5 by omega) (show (topOf ls + 1).toNat ≤ 81 by omega)) (by decide)
  have llen : (linksOf ls gs).length ≤ 1000 := by
    have e1 : (oversOf ls gs).length ≤ 12 := by
      have e : oversOf ls gs = oversTo ls gs.length := rfl
      rw [e, oversTo_len]
      exact Nat.le_trans (Nat.mul_le_mul g2 (show ls.length + 1 ≤ 3 by omega)) (by decide)
    have e2 : (upsOf ls gs).length ≤ 400 := by
      unfold upsOf
      rw [List.length_map, gridOf_len]
      exact Nat.le_trans (Nat.mul_le_mul (show gs.length + 1 ≤ 5 by omega) (show (topOf ls).toNat ≤ 80 by omega)) (by decide)
    unfold linksOf
    rw [List.length_append]
    omega
  have lok := linksOf_ok ls gs
  have flok : ∀ l ∈ (linksOf ls gs).filter fun l => !decide (l ∈ cl), okL' l := fun l hl => lok l (List.mem_filter.mp hl).1
  refine blk_if (d := false) (tv_b (tv_wv (wv_or (tv_neD (ev_ho (evo_m0 xb.toXC (v_ xb.v 5) (insH (by decide +kernel)) (S.mt_House_places (fn_places S ⟨ls, gs, sortL cl⟩ (by show (placesOf ls gs).length ≤ _; omega) (by show 0 ≤ topOf ls ∧ topOf ls ≤ _; omega) (by show gs.length ≤ _; omega))))) (v_ xb.v 8) (good_dPs.shaped (placesOf ls gs) trivial) (good_dPs.shaped _ trivial) xb.ls0)
    (fun _ => wv_or1 (tv_neD (ev_ho (evo_m0 xb.toXC (v_ xb.v 5) (insH (by decide +kernel)) (S.mt_House_walked_links (fn_walked_links S ⟨ls, gs, sortL cl⟩ hls (by show (linksOf ls gs).length ≤ _; omega) (by show 0 ≤ topOf ls ∧ topOf ls ≤ _; omega) (by show gs.length ≤ _; omega))))) (ev_ho (evo_lcG (R := fun l => rD (dL l)) (xs := linksOf ls gs) (p := fun l => !decide (l ∈ cl)) (f := dL) [("_law_link", 13)] xb.toXC (evi_lst (ev_b (v_ xb.v 7))) (by show _ ≤ 16777216; omega)
      (fun l => [vl (rS X.K ns), vl (rD (.list (nu.map .int))), vl (rD (.list (ls.map .int))), vl (rD (.list (gs.map .int))), vl (rD (.list (cl.map dL))), vl (rH X.K ⟨ls, gs, sortL cl⟩), vl (rD (.int (topOf ls))), vl (rD (.list ((linksOf ls gs).map dL))), vl (rD (.list ((gridOf (gs.length + 1) (topOf ls + 1).toNat).map dP))), .no, .no, .no, .no, vl (rD (dL l)), .no]) (ts := [13]) (by decide) (fun s H C cl' fp xc x hx => tg_name xc.toXV 13 (hf := .inr (xc.toXV.only (by decide +kernel))))
      (fun s H C cl' fp xc x hx => vv_one (tv_b (tv_niD (v_ xc.toXV 13) (ev_h (v_ xc.toXV 4)) (good_dL.shaped _ (lok x hx)) (good_dLs.shaped _ c1') xc.ls) (by rw [good_dL.any]; exact congrArg _ (decide_eq_decide.mpr Iff.rfl)))) (fun s H C cl' fp xc x hx _ => v_ xc.toXV 13))) (by rw [filter_sort]; exact good_dLs.shaped _ flok) (good_dLs.shaped _ flok) xb.ls0)))) (by
      rw [filter_sort, eqv_self _ (good_dLs.lay _ flok)]
      have e := good_dPs.eq (placesOf ls gs) (gridOf (gs.length + 1) (topOf ls + 1).toNat)
      rw [e, decide_eq_true pl]
      rfl)) (fun h => nomatch h) (fun _ => ?_)
  refine blk_go ?_
  have mp : ∀ a b : Int, decide ((a, b) ∈ gridOf (gs.length + 1) (topOf ls + 1).toNat) = inP ls gs a b := mem_places ls gs (by omega)
  have ml : ∀ l : Lk, decide (l ∈ linksOf ls gs) = inL ls gs l := mem_links ls gs (by omega) gC
  have h24 := nb.b 24
  refine blk_for (R := fun a : Int => rD (.int a)) (xs := [-1, 0, (gs.length : Int), (gs.length : Int) + 1]) xb (fun _ => [vl (rS X.K ns), vl (rD (.list (nu.map .int))), vl (rD (.list (ls.map .int))), vl (rD (.list (gs.map .int))), vl (rD (.list (cl.map dL))), vl (rH X.K ⟨ls, gs, sortL cl⟩), vl (rD (.int (topOf ls))), vl (rD (.list ((linksOf ls gs).map dL))), vl (rD (.list ((gridOf (gs.length + 1) (topOf ls + 1).toNat).map dP))), .no, .no, .no, .no, .no, .no]) (fun _ a => [vl (rS X.K ns), vl (rD (.list (nu.map .int))), vl (rD (.list (ls.map .int))), vl (rD (.list (gs.map .int))), vl (rD (.list (cl.map dL))), vl (rH X.K ⟨ls, gs, sortL cl⟩), vl (rD (.int (topOf ls))), vl (rD (.list ((linksOf ls gs).map dL))), vl (rD (.list ((gridOf (gs.length + 1) (topOf ls + 1).toNat).map dP))), vl (rD (.int a)), .no, .no, .no, .no, .no])
    (evi_lst (enc := PyData.int) (ev_b (ev_fz (evo_lst (ds := [-1, 0, (gs.length : Int), (gs.length : Int) + 1].map PyData.int) (evd_cons (ev_neg ev_int) (evd_cons ev_int (evd_cons (ev_d (ev_len bLen (ev_h (v_ xb.v 3))) (by rw [lg])) (evd_cons (ev_d (ev_add (ev_len bLen (ev_h (v_ xb.v 3))) ev_int) (by rw [lg])) evd_nil)))))))) (SlAll.rfl _) (fun pre a post hs => tg_name xb.v 9 (hf := .inl (xb.fnn _))) (fun gh1 pre a post hs => ?_) ?_
  · refine blk_for (R := fun b : Int => rD (.int b)) (xs := [-1, 0, topOf ls, topOf ls + 1, nth ls 0, nth nu 24 % (topOf ls + 2)]) xb (fun _ => [vl (rS X.K ns), vl (rD (.list (nu.map .int))), vl (rD (.list (ls.map .int))), vl (rD (.list (gs.map .int))), vl (rD (.list (cl.map dL))), vl (rH X.K ⟨ls, gs, sortL cl⟩), vl (rD (.int (topOf ls))), vl (rD (.list ((linksOf ls gs).map dL))), vl (rD (.list ((gridOf (gs.length + 1) (topOf ls + 1).toNat).map dP))), vl (rD (.int a)), .no, .no, .no, .no, .no]) (fun _ b => [vl (rS X.K ns), vl (rD (.list (nu.map .int))), vl (rD (.list (ls.map .int))), vl (rD (.list (gs.map .int))), vl (rD (.list (cl.map dL))), vl (rH X.K ⟨ls, gs, sortL cl⟩), vl (rD (.int (topOf ls))), vl (rD (.list ((linksOf ls gs).map dL))), vl (rD (.list ((gridOf (gs.length + 1) (topOf ls + 1).toNat).map dP))), vl (rD (.int a)), vl (rD (.int b)), .no, .no, .no, .no])
      (evi_lst (enc := PyData.int) (ev_b (ev_fz (evo_lst (ds := [-1, 0, topOf ls, topOf ls + 1, nth ls 0, nth nu 24 % (topOf ls + 2)].map PyData.int) (evd_cons (ev_neg ev_int) (evd_cons ev_int (evd_cons (v_ xb.v 6) (evd_cons (ev_add (v_ xb.v 6) ev_int) (evd_cons (ev_nth (v_ xb.v 2) ev_int (by omega)) (evd_cons (ev_mod (ev_intI bInt (ev_nth (v_ xb.v 1) ev_int (by omega))) (ev_add (v_ xb.v 6) ev_int) (by omega)) evd_nil)))))))))) (SlAll.rfl _) (fun pre b post hs => tg_name xb.v 10 (hf := .inl (xb.fnn _))) (fun gh2 pre b post hs => ?_) ?_
    · refine blk_set xb 11 (R := rD (dP (a, b))) (ev_tup (evd_cons (v_ xb.v 9) (evd_cons (v_ xb.v 10) evd_nil))) ?_
      refine blk_if (d := false) (tv_b (tv_not (tv_val (ev_c xb.toXC (S.df_law_says (fn_says S (inP ls gs a b) (decide ((a, b) ∈ gridOf (gs.length + 1) (topOf ls + 1).toNat)))) (eva_cons (ev_m xb.toXC (v_ xb.v 5) (insH (by decide +kernel)) (S.mt_House_is_place (fn_is_place S ⟨ls, gs, sortL cl⟩ a b)) (eva_cons (v_ xb.v 11) eva_nil)) (eva_cons (ev_d (ev_inD (v_ xb.v 11) (ev_h (v_ xb.v 8)) (good_dP.shaped _ trivial) (good_dPs.shaped _ trivial) xb.ls) (by rw [good_dP.any]; exact congrArg _ (decide_eq_decide.mpr Iff.rfl))) eva_nil))))) (by rw [mp]; simp)) (fun h => nomatch h) (fun _ => ?_)
      refine blk_go ?_
      refine blk_if (d := false) (tv_b (tv_not (tv_val (ev_c xb.toXC (S.df_law_says (fn_says S (inC ls gs a b) (decide ((a, b) ∈ gridOf (gs.length + 1) (topOf ls + 1).toNat) && decide (b ∈ crossesOf ls)))) (eva_cons (ev_m xb.toXC (v_ xb.v 5) (insH (by decide +kernel)) (S.mt_House_is_cross (fn_is_cross S ⟨ls, gs, sortL cl⟩ hls a b)) (eva_cons (v_ xb.v 11) eva_nil)) (eva_cons (ev_and (ev_d (ev_inD (v_ xb.v 11) (ev_h (v_ xb.v 8)) (good_dP.shaped _ trivial) (good_dPs.shaped _ trivial) xb.ls) (by rw [good_dP.any]; exact congrArg _ (decide_eq_decide.mpr Iff.rfl))) (fun _ => ev_one (ev_d (ev_inD (v_ xb.v 10) (ev_fz (evo_c xb.toXC (S.df_law_crosses (fn_law_crosses S ls hls)) (eva_cons (v_ xb.v 2) eva_nil))) (good_int.shaped _ trivial) (good_ints.shaped _ trivial) xb.ls) (by rw [good_int.any])))) eva_nil))))) (by rw [mp]; simp [inC])) (fun h => nomatch h) (fun _ => ?_)
      refine blk_go ?_
      refine blk_for (R := fun x : Str => rD (.str x)) (xs := ["up", "over", "in"]) xb (fun _ => [vl (rS X.K ns), vl (rD (.list (nu.map .int))), vl (rD (.list (ls.map .int))), vl (rD (.list (gs.map .int))), vl (rD (.list (cl.map dL))), vl (rH X.K ⟨ls, gs, sortL cl⟩), vl (rD (.int (topOf ls))), vl (rD (.list ((linksOf ls gs).map dL))), vl (rD (.list ((gridOf (gs.length + 1) (topOf ls + 1).toNat).map dP))), vl (rD (.int a)), vl (rD (.int b)), vl (rD (dP (a, b))), .no, .no, .no]) (fun _ x => [vl (rS X.K ns), vl (rD (.list (nu.map .int))), vl (rD (.list (ls.map .int))), vl (rD (.list (gs.map .int))), vl (rD (.list (cl.map dL))), vl (rH X.K ⟨ls, gs, sortL cl⟩), vl (rD (.int (topOf ls))), vl (rD (.list ((linksOf ls gs).map dL))), vl (rD (.list ((gridOf (gs.length + 1) (topOf ls + 1).toNat).map dP))), vl (rD (.int a)), vl (rD (.int b)), vl (rD (dP (a, b))), vl (rD (.str x)), .no, .no])
        (evi_lst (enc := PyData.str) (ev_b (ev_fz (evo_lst (ds := (["up", "over", "in"] : List Str).map PyData.str) (evd_cons ev_str (evd_cons ev_str (evd_cons ev_str evd_nil))))))) (SlAll.rfl _) (fun pre x post hs => tg_name xb.v 12 (hf := .inl (xb.fnn _))) (fun gh3 pre x post hs => ?_) ?_
      · have xok : PyData.strOk x = true := words_ok x (by rw [hs]; simp)
        refine blk_set xb 13 (R := rD (dL (x, a, b))) (ev_tup (evd_cons (v_ xb.v 12) (evd_cons (v_ xb.v 9) (evd_cons (v_ xb.v 10) evd_nil)))) ?_
        refine blk_if (d := false) (tv_b (tv_wv (wv_or (tv_not (tv_val (ev_c xb.toXC (S.df_law_says (fn_says S (inL ls gs (x, a, b)) (decide ((x, a, b) ∈ linksOf ls gs)))) (eva_cons (ev_m xb.toXC (v_ xb.v 5) (insH (by decide +kernel)) (S.mt_House_is_link (fn_is_link S ⟨ls, gs, sortL cl⟩ hls (x, a, b))) (eva_cons (v_ xb.v 13) eva_nil)) (eva_cons (ev_d (ev_inD (v_ xb.v 13) (ev_h (v_ xb.v 7)) (good_dL.shaped (x, a, b) xok) (good_dLs.shaped _ lok) xb.ls) (by rw [good_dL.any]; exact congrArg _ (decide_eq_decide.mpr Iff.rfl))) eva_nil)))))
          (fun _ => wv_or1 (tv_not (tv_val (ev_c xb.toXC (S.df_law_says (fn_says S (decide ((x, a, b) ∈ sortL cl)) (decide ((x, a, b) ∈ cl)))) (eva_cons (ev_m xb.toXC (v_ xb.v 5) (insH (by decide +kernel)) (S.mt_House_is_closed (fn_is_closed S ⟨ls, gs, sortL cl⟩ (x, a, b))) (eva_cons (v_ xb.v 13) eva_nil)) (eva_cons (ev_d (ev_inD (v_ xb.v 13) (ev_h (v_ xb.v 4)) (good_dL.shaped (x, a, b) xok) (good_dLs.shaped _ c1') xb.ls) (by rw [good_dL.any]; exact congrArg _ (decide_eq_decide.mpr Iff.rfl))) eva_nil)))))))) (by
          have e : decide ((x, a, b) ∈ sortL cl) = decide ((x, a, b) ∈ cl) := decide_eq_decide.mpr (sortL_perm cl).mem_iff
          rw [ml, e]
          simp)) (fun h => nomatch h) (fun _ => ?_)
        refine blk_go ?_
        refine blk_if (d := false) (tv_b (d := !decide ((x, a, b) ∈ linksOf ls gs) && (if inL ls gs (x, a, b) = false then false else true)) (tv_wv (wv_and (tv_b (tv_niD (v_ xb.v 13) (ev_h (v_ xb.v 7)) (good_dL.shaped (x, a, b) xok) (good_dLs.shaped _ lok) xb.ls) (by rw [good_dL.any]; exact congrArg _ (decide_eq_decide.mpr Iff.rfl))) (fun hn => wv_and1 (by
          rw [ml] at hn
          have hn : inL ls gs (x, a, b) = false := by simpa using hn
          rw [if_pos hn]
          exact tv_b (tv_not (tv_val (ev_c xb.toXC (S.df_law_refused (fn_refused S ⟨ls, gs, sortL cl⟩ hls (x, a, b) hn)) (eva_cons (v_ xb.v 5) (eva_cons (v_ xb.v 13) eva_nil))))) rfl)))) (by
          rw [ml]
          cases inL ls gs (x, a, b) <;> rfl)) (fun h => nomatch h) (fun _ => ?_)
        refine blk_go (blk_end ?_)
        repeat first | exact .nil | refine .cons (.refl _) ?_ | refine .cons (.no _) ?_
      · refine blk_end ?_
        repeat first | exact .nil | refine .cons (.refl _) ?_ | refine .cons (.no _) ?_
    · refine blk_end ?_
      repeat first | exact .nil | refine .cons (.refl _) ?_ | refine .cons (.no _) ?_
  have clin : ∀ l ∈ cl, inL ls gs l = true := fun l hl => by
    have h := gG
    unfold goodH at h
    simp only [Bool.and_eq_true, List.all_map, List.all_eq_true, Function.comp, id] at h
    exact h.2.2 l hl
  have cm : ∀ (lo hi : Option Int), ∀ l ∈ cut (linksOf ls gs) lo hi, inL ls gs l = true := fun lo hi l hl => by
    have := List.mem_of_mem_drop (List.mem_of_mem_take hl)
    rw [← ml]
    exact decide_eq_true this
  have k1 := cut_le ((linksOf ls gs).map dL) none (some 6)
  have k2 := cut_le ((linksOf ls gs).map dL) (some (-6)) none
  rw [List.length_map] at k1 k2
  refine blk_for (R := fun l => rD (dL l)) (xs := cut (linksOf ls gs) none (some 6) ++ cut (linksOf ls gs) (some (-6)) none ++ cl) xb (fun _ => [vl (rS X.K ns), vl (rD (.list (nu.map .int))), vl (rD (.list (ls.map .int))), vl (rD (.list (gs.map .int))), vl (rD (.list (cl.map dL))), vl (rH X.K ⟨ls, gs, sortL cl⟩), vl (rD (.int (topOf ls))), vl (rD (.list ((linksOf ls gs).map dL))), vl (rD (.list ((gridOf (gs.length + 1) (topOf ls + 1).toNat).map dP))), .no, .no, .no, .no, .no, .no]) (fun _ l => [vl (rS X.K ns), vl (rD (.list (nu.map .int))), vl (rD (.list (ls.map .int))), vl (rD (.list (gs.map .int))), vl (rD (.list (cl.map dL))), vl (rH X.K ⟨ls, gs, sortL cl⟩), vl (rD (.int (topOf ls))), vl (rD (.list ((linksOf ls gs).map dL))), vl (rD (.list ((gridOf (gs.length + 1) (topOf ls + 1).toNat).map dP))), .no, .no, .no, .no, vl (rD (dL l)), .no])
    (evi_lst (ev_b (ev_fz (evo_cc (evo_cat (ev_ho (evo_cat (ev_ho (evo_sl (ev_h (v_ xb.v 7)) evp_no (evp_so ev_int))) (ev_ho (evo_sl (ev_h (v_ xb.v 7)) (evp_so (ev_neg ev_int)) evp_no)) (by show _ ≤ 16777216; omega))) (ev_h (v_ xb.v 4)) (by rw [List.length_append, List.length_map]; show _ ≤ 16777216; omega)) (by rw [cut_map, cut_map, List.map_append, List.map_append]))))) (SlAll.rfl _) (fun pre l post hs => tg_name xb.v 13 (hf := .inl (xb.fnn _))) (fun gh1 pre l post hs => ?_) ?_
  · have hin : inL ls gs l = true := by
      have hm : l ∈ cut (linksOf ls gs) none (some 6) ++ cut (linksOf ls gs) (some (-6)) none ++ cl := by rw [hs]; simp
      rcases List.mem_append.mp hm with hm | hm
      · rcases List.mem_append.mp hm with hm | hm
        · exact cm _ _ l hm
        · exact cm _ _ l hm
      · exact clin l hm
    refine blk_if (d := false) (tv_b (tv_wv (wv_or (tv_nisB (ev_m xb.toXC (v_ xb.v 5) (insH (by decide +kernel)) (S.mt_House_is_link (fn_is_link S ⟨ls, gs, sortL cl⟩ hls l)) (eva_cons (v_ xb.v 13) eva_nil)) ev_bl) (fun _ => wv_or1 (tv_not (tv_val (ev_c xb.toXC (S.df_law_link_told (fn_link_told S ⟨ls, gs, sortL cl⟩ hls l hin)) (eva_cons (v_ xb.v 5) (eva_cons (v_ xb.v 3) (eva_cons (v_ xb.v 13) eva_nil))))))))) (by
      show (!decide (inL ls gs l = true) || !true) = false
      rw [hin]
      rfl)) (fun h => nomatch h) (fun _ => ?_)
    refine blk_go (blk_end ?_)
    repeat first | exact .nil | refine .cons (.refl _) ?_ | refine .cons (.no _) ?_
  refine blk_setO xb 14 (evo_m0 xb.toXC (v_ xb.v 5) (insH (by decide +kernel)) (S.mt_House_places (fn_places S ⟨ls, gs, sortL cl⟩ (by show (placesOf ls gs).length ≤ _; omega) (by show 0 ≤ topOf ls ∧ topOf ls ≤ _; omega) (by show gs.length ≤ _; omega)))) ?_
  refine blk_app xb 14 rfl ev_int (by rw [List.length_map]; show (placesOf ls gs).length < 16777216; omega) ?_
  refine blk_ret (R := rD (.bool true)) (ev_d (ev_eqD (ev_ho (evo_m0 xb.toXC (v_ xb.v 5) (insH (by decide +kernel)) (S.mt_House_places (fn_places S ⟨ls, gs, sortL cl⟩ (by show (placesOf ls gs).length ≤ _; omega) (by show 0 ≤ topOf ls ∧ topOf ls ≤ _; omega) (by show gs.length ≤ _; omega))))) (v_ xb.v 8) (good_dPs.shaped (placesOf ls gs) trivial) (good_dPs.shaped _ trivial) xb.ls0) ?_) rv
  have e := good_dPs.eq (placesOf ls gs) (gridOf (gs.length + 1) (topOf ls + 1).toNat)
  rw [e, decide_eq_true pl]
end
set_option maxHeartbeats 0
abbrev R : PySem.W.OpenRow := PySem.W.OpenLaw.row PySem.Challenge.rw_pickaisle_k02_places_and_links
abbrev hk : PySem.W.Hook := hookQ 5 ok fn
def ob (s : PySem.W.SharedT) : AlQ := obsQG 5 ok fn (HandSHeadRun.getT s)
theorem ob_eq (s : PySem.W.SharedT) : ob s = hk.obs s.abs := obsQG_eq (HandSHeadRun.getT_eq s)
def loose : List PySem.Str := ["_wall", "__name__", "PickError", "InvalidHouse", "InvalidLink", "MOST_LENGTH", "MOST_GAPS", "MOST_CLOSED", "are_lengths", "House", "_law_row", "_law_numbers", "_law_parts", "_law_crosses", "_law_aims", "_law_says", "_law_all_links", "_law_refused", "_law_link_told", "_law_grid", "_law_overs"]
theorem run (w : World) : HandSHeadRun.RunEq R (PySem.W.view R.prog [23]) hk ob 30000 loose w := by
  intro os
  kernel_rfl
end T
open PySem PySem.W PySem.Calls PyProof.Rows
set_option maxHeartbeats 0
theorem PySem.Challenge.cw_pickaisle_k02_places_and_links_holds : PySem.Challenge.rw_pickaisle_k02_places_and_links.Holds := by
  w_on; o_law
  refine HandSHeadRun.head_any (r := OpenLaw.row PySem.Challenge.rw_pickaisle_k02_places_and_links) (q := view (OpenLaw.row PySem.Challenge.rw_pickaisle_k02_places_and_links).prog [23]) (H := T.hk) (ob := T.ob) (M := 30000) (loose := T.loose) (d := HandSHeadRun.topDef (OpenLaw.row PySem.Challenge.rw_pickaisle_k02_places_and_links).prog 23) (kwd := []) T.ob_eq
    (by kernel_rfl) (fun s => by kernel_rfl) T.run (by kernel_rfl) (by kernel_rfl) (by kernel_rfl) (by rfl) (by first | assumption | decide +kernel) (by decide +kernel) ⟨rfl, rfl, rfl, rfl, rfl, by decide +kernel⟩ ?hw ?hc
  case hw => w_witness2
  case hc =>
    refine L2.walk_ofE (l := PySem.Challenge.rw_pickaisle_k02_places_and_links) (n := 63) (k := 9) (x := "_law_script") (CX := fun _ _ _ _ _ _ => False) rfl (by decide) (by kernel_rfl) ⟨rfl, by decide, by decide⟩ ?F (fun _ _ _ _ z => z)
    intro w mg fa h Y G hmg0
    obtain ⟨K, KX, c⟩ := Y
    have hmg : mg ("law" : PySem.Str) = some (.ref fa) := by
      have e : (HandSHeadRun.topDef (OpenLaw.row PySem.Challenge.rw_pickaisle_k02_places_and_links).prog 23).name = ("law" : PySem.Str) := by kernel_rfl
      rw [← e]
      exact hmg0
    obtain ⟨S⟩ := T.facts KX G c
    have e : fa = T.f_law K := Value.ref.inj (Option.some.inj (hmg.symm.trans S.g_law))
    subst e
    exact ⟨K, S.d_law, L3.spLaw K, KX, fun s u => L2.FunD.bindsA (ps := T.P_law) S.F_law (fun _ _ _ _ _ _ us hl => match us, hl with | [_], _ => rfl) s [u] rfl, fun H a ns hl _ hS => L3.law_in H a ns hl hS, fun base _ _ => L3.law_fn fun ns hl => T.fn_law S ns hl⟩


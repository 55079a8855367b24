import PyProof.Rows.All
import Wide.All
import OpenK.AllK
import Wide.FinOn
import HandS.ForMost
import HandS.ForExc
import PySem.PyData
import PyProof.EqLayable
import KE.KeyNested
import KE.SortData
import KE.KDictWalk
import HandS.Deep
import HandS.HeadHook1
import HandS.Property
import HandS.TryOnly
import HandS.Comp
import HandS.Conv
import HandS.Defaults
import HandS.Iter
import HandS.TupLe
import HandS.ExcIs
import HandS.TryMany
import KE.KDictCopyH
import HandS.DictComp
import HandS.Sort
import HandS.SortRule
import HandS.DictSub
import HandS.TupSets
import HandS.IsInst
import HandS.Style
import KE.KStateDown
import Lean
import HandS.Base
import HandS.Call
import HandS.Ends
import HandS.Head0
import HandS.Head1
import HandS.Head2
import HandS.HeadEnd
import HandS.HeadHook2
import KE.KExcSuper
import HandS.ExcInit
import HandS.ExcField
import HandS.Nested
import HandS.ExcSuper
import PySem.Challenge.RW_pickaisle_k03_places_beside_one_another
set_option Elab.async false
set_option linter.all false
set_option maxRecDepth 100000
set_option maxHeartbeats 4000000
set_option autoImplicit false
/-! L3, part a: worlds, typed readings of values, expressions by what they represent. -/
namespace L3
open PySem PySem.Spec PyProof.Rows L2
/-! ### the greatest readings -/
section
variable {X : Cx}
structure EW (X : Cx) (e : Expr) (σ : L2.St) (H : Hp) (Q : VK) : Prop where
  go : ∀ (pins : List (Addr × Obj)) (s : Shared), Inv X pins σ H s → wpAny (model X.prog X.w) X.A (eval e X.env) (EP X pins σ Q) X.xe s
structure TW (X : Cx) (e : Expr) (σ : L2.St) (H : Hp) (Q : Bool → Hp → Prop) : Prop where
  go : ∀ (pins : List (Addr × Obj)) (s : Shared), Inv X pins σ H s → wpAny (model X.prog X.w) X.A (isTrue e X.env (eval e X.env)) (TP X pins σ Q) X.xe s
structure WW (X : Cx) (e : Expr) (σ : L2.St) (H : Hp) (Q : Bool → Hp → Prop) : Prop where
  go : ∀ (whole : Sem Value) (pins : List (Addr × Obj)) (s : Shared), Inv X pins σ H s → wpAny (model X.prog X.w) X.A (isTrue e X.env whole) (TP X pins σ Q) X.xe s
structure AW (X : Cx) (es : List Expr) (σ : L2.St) (H : Hp) (Q : List V → Hp → Prop) : Prop where
  go : ∀ (pos : Pos) (pins : List (Addr × Obj)) (s : Shared), Inv X pins σ H s → wpAny (model X.prog X.w) X.A (spliced (backTo pos (starEach es X.env))) (AP X pins σ Q) X.xe s
structure SW (X : Cx) (st : Stmt) (D : Ends) (σ : L2.St) (H : Hp) : Prop where
  go : ∀ (pins : List (Addr × Obj)) (s : Shared), Inv X pins σ H s → wpAny (model X.prog X.w) X.A (exec st X.env) (SP X pins D) X.xe s
structure BW (X : Cx) (ss : List Stmt) (D : Ends) (σ : L2.St) (H : Hp) : Prop where
  go : ∀ (pins : List (Addr × Obj)) (s : Shared), Inv X pins σ H s → wpAny (model X.prog X.w) X.A (execs ss X.env) (SP X pins D) X.xe s
theorem pe_w {e : Expr} : PE X e (EW X e) := ⟨fun pins s _ _ _ I h => h.go pins s I⟩
theorem pt_w {e : Expr} : PT X e (TW X e) := ⟨fun pins s _ _ _ I h => h.go pins s I⟩
theorem pw_w {e : Expr} : PW X e (WW X e) := ⟨fun w pins s _ _ _ I h => h.go w pins s I⟩
theorem pa_w {es : List Expr} : PA X es (AW X es) := ⟨fun pos pins s _ _ _ I h => h.go pos pins s I⟩
theorem ps_w {st : Stmt} : PS X st (SW X st) := ⟨fun pins s _ _ _ I h => h.go pins s I⟩
theorem pss_w {ss : List Stmt} : PSs X ss (BW X ss) := ⟨fun pins s _ _ _ I h => h.go pins s I⟩
theorem EW.of {e : Expr} {t : TE} {σ : L2.St} {H : Hp} {Q : VK} (h : PE X e t) (q : t σ H Q) : EW X e σ H Q := ⟨fun pins s I => h.run pins s σ H Q I q⟩
theorem TW.of {e : Expr} {t : TT} {σ : L2.St} {H : Hp} {Q : Bool → Hp → Prop} (h : PT X e t) (q : t σ H Q) : TW X e σ H Q := ⟨fun pins s I => h.run pins s σ H Q I q⟩
theorem WW.of {e : Expr} {t : TT} {σ : L2.St} {H : Hp} {Q : Bool → Hp → Prop} (h : PW X e t) (q : t σ H Q) : WW X e σ H Q := ⟨fun w pins s I => h.run w pins s σ H Q I q⟩
theorem AW.of {es : List Expr} {t : TA} {σ : L2.St} {H : Hp} {Q : List V → Hp → Prop} (h : PA X es t) (q : t σ H Q) : AW X es σ H Q := ⟨fun pos pins s I => h.run pos pins s σ H Q I q⟩
theorem SW.of {st : Stmt} {t : TS} {σ : L2.St} {H : Hp} {D : Ends} (h : PS X st t) (q : t D σ H) : SW X st D σ H := ⟨fun pins s I => h.run pins s σ H D I q⟩
theorem BW.of {ss : List Stmt} {t : TS} {σ : L2.St} {H : Hp} {D : Ends} (h : PSs X ss t) (q : t D σ H) : BW X ss D σ H := ⟨fun pins s I => h.run pins s σ H D I q⟩
theorem EW.mono {e : Expr} {σ : L2.St} {H : Hp} {Q Q' : VK} (h : EW X e σ H Q) (k : ∀ v H', Q v H' → Q' v H') : EW X e σ H Q' := ⟨fun pins s I =>
  thn (h.go pins s I) fun _ _ ⟨v, H', I', r, q⟩ => ⟨v, H', I', r, k v H' q⟩⟩
theorem AW.mono {es : List Expr} {σ : L2.St} {H : Hp} {Q Q' : List V → Hp → Prop} (h : AW X es σ H Q) (k : ∀ v H', Q v H' → Q' v H') : AW X es σ H Q' := ⟨fun pos pins s I =>
  thn (h.go pos pins s I) fun _ _ ⟨v, H', I', r, q⟩ => ⟨v, H', I', r, k v H' q⟩⟩
end
/-! ### what a value stands for: F is kept by the results, G stands still while the def runs, H is the heap -/
structure Rp where
  P : V → Hp → Hp → Hp → Prop
  mono : ∀ {v : V} {F G H F' G' H' : Hp}, Same F F' → Same G G' → Same H H' → P v F G H → P v F' G' H'
/-- it does not hang on the heap but for what stands still -/
class Sta (R : Rp) : Prop where
  st : ∀ {v : V} {F G H H' : Hp}, R.P v F G H → R.P v F G H'
/-- it hangs on F alone -/
class Fz (R : Rp) : Prop where
  fz : ∀ {v : V} {F G H G' H' : Hp}, R.P v F G H → R.P v F G' H'
instance (priority := low) Fz.toSta {R : Rp} [h : Fz R] : Sta R := ⟨fun p => h.fz p⟩
/-- no tuple -/
def NT (o : HO) : Prop := ∀ xs, o ≠ .tup xs
/-- what an own object holds: its root, all its own objects, the heap -/
structure Cp where
  C : Addr → List Addr → Hp → Hp → Hp → Prop
  mono : ∀ {l : Addr} {fp : List Addr} {F G H F' G' H' : Hp}, Same F F' → Same G G' → (∀ a ∈ fp, H' a = H a) → C l fp H F G → C l fp H' F' G'
  there : ∀ {l : Addr} {fp : List Addr} {F G H : Hp}, C l fp H F G → ∀ a ∈ fp, ∃ o, H a = some o ∧ NT o
  det : ∀ {l : Addr} {fp fp' : List Addr} {F G H F' G' H' : Hp}, Same H H' → C l fp H F G → C l fp' H' F' G' → fp' = fp
inductive Sl where
  | no
  | vl (R : Rp) (h : Sta R)
  | ow (C : Cp)
abbrev vl (R : Rp) [h : Sta R] : Sl := .vl R h
/-- something that stays true as the frozen parts grow -/
structure Gh where
  g : Hp → Hp → Prop
  mono : ∀ {F G F' G' : Hp}, Same F F' → Same G G' → g F G → g F' G'
def Gh.tt : Gh := ⟨fun _ _ => True, fun _ _ _ => trivial⟩
def Gh.and (a b : Gh) : Gh := ⟨fun F G => a.g F G ∧ b.g F G, fun f g ⟨x, y⟩ => ⟨a.mono f g x, b.mono f g y⟩⟩
structure Wd where
  F0 : Hp
  H0 : Hp
/-- the state: slots by what they stand for -/
structure En (W : Wd) (gh : Gh) (Γ : List Sl) (σ : L2.St) (F G H : Hp) : Prop where
  len : σ.length = Γ.length
  f0 : Same W.F0 F
  h0 : Same W.H0 G
  fg : Same F G
  gH : Same G H
  gr : ∀ a o, F a = some o → W.F0 a = some o ∨ W.H0 a = none ∨ ∃ xs, W.H0 a = some (.tup xs)
  g : gh.g F G
  vl : ∀ (i : Nat) (R : Rp) (h : Sta R), Γ[i]? = some (.vl R h) → ∃ v : V, σ[i]? = some (some v) ∧ R.P v F G H
  ow : ∃ fp : Nat → List Addr, (∀ (i : Nat) (C : Cp), Γ[i]? = some (.ow C) → ∃ l : Addr, σ[i]? = some (some (V.ref l)) ∧ (∀ a ∈ fp i, G a = none) ∧ C.C l (fp i) H F G) ∧
    ∀ (i j : Nat) (C C' : Cp) (a : Addr), i ≠ j → Γ[i]? = some (.ow C) → Γ[j]? = some (.ow C') → a ∈ fp i → a ∈ fp j → False
section
variable {W : Wd} {gh : Gh} {Γ : List Sl} {σ : L2.St} {F G H : Hp}
theorem same_upd {A : Hp} {p : Addr} {o : HO} (h : A p = none) : Same A (upd A p o) := fun b u e => by
  rw [upd_ne (ne_of_none e h)]
  exact e
theorem same_updR {A B : Hp} {p : Addr} {o : HO} (s : Same A B) (h : A p = none) : Same A (upd B p o) := fun b u e => by
  rw [upd_ne (ne_of_none e h)]
  exact s b u e
theorem same_upd2 {A B : Hp} {p : Addr} {o : HO} (s : Same A B) : Same (upd A p o) (upd B p o) := fun b u e => by
  by_cases h : b = p
  · subst h
    rw [upd_same] at e ⊢
    exact e
  · rw [upd_ne h] at e ⊢
    exact s b u e
/-- the own parts of the slots, by their addresses -/
def Owns (Γ : List Sl) (σ : L2.St) (F G H : Hp) (fp : Nat → List Addr) : Prop := (∀ (i : Nat) (C : Cp), Γ[i]? = some (.ow C) → ∃ l : Addr, σ[i]? = some (some (V.ref l)) ∧ (∀ a ∈ fp i, G a = none) ∧ C.C l (fp i) H F G) ∧
    ∀ (i j : Nat) (C C' : Cp) (a : Addr), i ≠ j → Γ[i]? = some (.ow C) → Γ[j]? = some (.ow C') → a ∈ fp i → a ∈ fp j → False
/-- what is tracked stays, the frozen parts grow beside the own ones -/
theorem Owns.mono {F' G' H' : Hp} {fp : Nat → List Addr} (o : Owns Γ σ F G H fp) (sF : Same F F') (sG : Same G G') (k : ∀ (i : Nat) (C : Cp), Γ[i]? = some (.ow C) → ∀ a ∈ fp i, G' a = none ∧ H' a = H a) : Owns Γ σ F' G' H' fp :=
  ⟨fun i C e => by
    obtain ⟨l, e1, e2, q⟩ := o.1 i C e
    exact ⟨l, e1, fun a ha => (k i C e a ha).1, C.mono sF sG (fun a ha => (k i C e a ha).2) q⟩, o.2⟩
/-- a new object in the heap, not frozen -/
theorem En.new (E : En W gh Γ σ F G H) {p : Addr} {o : HO} (hp : H p = none) : En W gh Γ σ F G (upd H p o) := by
  obtain ⟨fp, ow⟩ := E.ow
  have ow : Owns Γ σ F G H fp := ow
  refine ⟨E.len, E.f0, E.h0, E.fg, same_updR E.gH (E.gH.free hp), E.gr, E.g, fun i R h e => ?_, fp, ow.mono (Same.refl _) (Same.refl _) fun i C e a ha => ?_⟩
  · obtain ⟨v, e1, q⟩ := E.vl i R h e
    exact ⟨v, e1, h.st q⟩
  · obtain ⟨l, e1, e2, q⟩ := ow.1 i C e
    obtain ⟨u, hu, nu⟩ := C.there q a ha
    exact ⟨e2 a ha, upd_ne (ne_of_none hu hp)⟩
/-- a new object, frozen -/
theorem En.newF (E : En W gh Γ σ F G H) {p : Addr} {o : HO} (hp : H p = none) : En W gh Γ σ (upd F p o) (upd G p o) (upd H p o) := by
  have gp := E.gH.free hp
  have fp := E.fg.free gp
  have sF : Same F (upd F p o) := same_upd fp
  have sG : Same G (upd G p o) := same_upd gp
  obtain ⟨ff, ow⟩ := E.ow
  have ow : Owns Γ σ F G H ff := ow
  refine ⟨E.len, E.f0.trans sF, E.h0.trans sG, same_upd2 E.fg, same_upd2 E.gH, fun a u e => ?_, gh.mono sF sG E.g, fun i R h e => ?_, ff, ow.mono sF sG fun i C e a ha => ?_⟩
  · by_cases h : a = p
    · subst h
      exact .inr (.inl (E.h0.free gp))
    · rw [upd_ne h] at e
      exact E.gr a u e
  · obtain ⟨v, e1, q⟩ := E.vl i R h e
    exact ⟨v, e1, R.mono sF sG (same_upd hp) q⟩
  · obtain ⟨l, e1, e2, q⟩ := ow.1 i C e
    obtain ⟨u, hu, nu⟩ := C.there q a ha
    have n := ne_of_none hu hp
    exact ⟨by rw [upd_ne n]; exact e2 a ha, upd_ne n⟩
/-- what stands in the heap unfrozen, and is no slot's own, is frozen -/
theorem En.freeze (E : En W gh Γ σ F G H) {p : Addr} {o : HO} (hp : H p = some o) (gp : G p = none) (hn : ∀ (i : Nat) (C : Cp) (m : Addr) (fo : List Addr), Γ[i]? = some (.ow C) → σ[i]? = some (some (V.ref m)) → C.C m fo H F G → p ∉ fo) : En W gh Γ σ (upd F p o) (upd G p o) H := by
  have fp := E.fg.free gp
  have sF : Same F (upd F p o) := same_upd fp
  have sG : Same G (upd G p o) := same_upd gp
  obtain ⟨ff, ow⟩ := E.ow
  have ow : Owns Γ σ F G H ff := ow
  refine ⟨E.len, E.f0.trans sF, E.h0.trans sG, same_upd2 E.fg, fun b u e => ?_, fun a u e => ?_, gh.mono sF sG E.g, fun i R h e => ?_, ff, ow.mono sF sG fun i C e a ha => ?_⟩
  · by_cases h : b = p
    · subst h
      rw [upd_same] at e
      rw [hp]
      exact e
    · rw [upd_ne h] at e
      exact E.gH b u e
  · by_cases h : a = p
    · subst h
      exact .inr (.inl (E.h0.free gp))
    · rw [upd_ne h] at e
      exact E.gr a u e
  · obtain ⟨v, e1, q⟩ := E.vl i R h e
    exact ⟨v, e1, R.mono sF sG (Same.refl H) q⟩
  · obtain ⟨l, e1, e2, q⟩ := ow.1 i C e
    have n : a ≠ p := fun z => hn i C l _ e e1 q (z ▸ ha)
    exact ⟨by rw [upd_ne n]; exact e2 a ha, rfl⟩
/-- what was nobody's ahead is no slot's own behind -/
theorem En.notOwn {F0 G0 H0 : Hp} (E0 : En W gh Γ σ F0 G0 H0) (hs : Same H0 H) {p : Addr} (h0 : H0 p = none) (i : Nat) (C : Cp) (m : Addr) (fo : List Addr) (e : Γ[i]? = some (.ow C)) (e1 : σ[i]? = some (some (V.ref m))) (q : C.C m fo H F G) : p ∉ fo := fun hp => by
  obtain ⟨fp, ow⟩ := E0.ow
  obtain ⟨l, e2, _, q0⟩ := ow.1 i C e
  rw [e1] at e2
  cases e2
  rw [C.det hs q0 q] at hp
  obtain ⟨u, hu, nu⟩ := C.there q0 p hp
  rw [h0] at hu
  cases hu
theorem En.setV (E : En W gh Γ σ F G H) {i : Nat} {R : Rp} {h : Sta R} {v : V} (q : R.P v F G H) : En W gh (Γ.set i (.vl R h)) (σ.set i (some v)) F G H := by
  have hl : ∀ {j : Nat} {C : Cp}, (Γ.set i (.vl R h))[j]? = some (.ow C) → i ≠ j ∧ Γ[j]? = some (.ow C) := fun {j C} e => by
    by_cases z : i = j
    · subst z
      rw [List.getElem?_set] at e
      simp at e
    · rw [List.getElem?_set_ne z] at e
      exact ⟨z, e⟩
  obtain ⟨fp, ow⟩ := E.ow
  refine ⟨by rw [List.length_set, List.length_set]; exact E.len, E.f0, E.h0, E.fg, E.gH, E.gr, E.g, fun j R' h' e => ?_, fp, fun j C e => ?_, fun j k C C' a n e e' u u' => ow.2 j k C C' a n (hl e).2 (hl e').2 u u'⟩
  · by_cases z : i = j
    · subst z
      rw [List.getElem?_set] at e
      simp only [if_true] at e
      split at e
      · rename_i hlt
        injection e with e
        injection e with e
        subst e
        exact ⟨v, by rw [List.getElem?_set_self (by rw [E.len]; exact hlt)], q⟩
      · cases e
    · rw [List.getElem?_set_ne z] at e
      obtain ⟨v', e1, q'⟩ := E.vl j R' h' e
      exact ⟨v', by rw [List.getElem?_set_ne z]; exact e1, q'⟩
  · obtain ⟨z, e⟩ := hl e
    obtain ⟨l, e1, e2⟩ := ow.1 j C e
    exact ⟨l, by rw [List.getElem?_set_ne z]; exact e1, e2⟩
/-- a slot gets an own object, apart from the others' -/
theorem En.setO (E : En W gh Γ σ F G H) {i : Nat} {C : Cp} {l : Addr} {fo : List Addr} (gl : ∀ a ∈ fo, G a = none) (q : C.C l fo H F G) (hn : ∀ (j : Nat) (C' : Cp) (m : Addr) (fo' : List Addr), i ≠ j → Γ[j]? = some (.ow C') → σ[j]? = some (some (V.ref m)) → C'.C m fo' H F G → ∀ a ∈ fo, a ∉ fo') :
    En W gh (Γ.set i (.ow C)) (σ.set i (some (.ref l))) F G H := by
  have hs : ∀ {j : Nat} {C' : Cp}, (Γ.set i (.ow C))[j]? = some (.ow C') → (i = j ∧ i < Γ.length ∧ C = C') ∨ (i ≠ j ∧ Γ[j]? = some (.ow C')) := fun {j C'} e => by
    by_cases z : i = j
    · subst z
      rw [List.getElem?_set] at e
      simp only [if_true] at e
      split at e
      · rename_i hlt
        injection e with e
        injection e with e
        exact .inl ⟨rfl, hlt, e⟩
      · cases e
    · rw [List.getElem?_set_ne z] at e
      exact .inr ⟨z, e⟩
  obtain ⟨fp, ow⟩ := E.ow
  have ow : Owns Γ σ F G H fp := ow
  have hn : ∀ (j : Nat) (C' : Cp), i ≠ j → Γ[j]? = some (.ow C') → ∀ a ∈ fo, a ∉ fp j := fun j C' n e => by
    obtain ⟨m, e1, _, q'⟩ := ow.1 j C' e
    exact hn j C' m _ n e e1 q'
  refine ⟨by rw [List.length_set, List.length_set]; exact E.len, E.f0, E.h0, E.fg, E.gH, E.gr, E.g, fun j R' h' e => ?_, fun j => if i = j then fo else fp j, fun j C' e => ?_, fun j k C' C'' a n e e' u u' => ?_⟩
  · by_cases z : i = j
    · subst z
      rw [List.getElem?_set] at e
      simp at e
    · rw [List.getElem?_set_ne z] at e
      obtain ⟨v', e1, q'⟩ := E.vl j R' h' e
      exact ⟨v', by rw [List.getElem?_set_ne z]; exact e1, q'⟩
  · rcases hs e with ⟨rfl, hlt, rfl⟩ | ⟨z, e⟩
    · refine ⟨l, by rw [List.getElem?_set_self (by rw [E.len]; exact hlt)], ?_⟩
      dsimp only
      rw [if_pos rfl]
      exact ⟨gl, q⟩
    · obtain ⟨m, e1, e2⟩ := ow.1 j C' e
      refine ⟨m, by rw [List.getElem?_set_ne z]; exact e1, ?_⟩
      dsimp only
      rw [if_neg z]
      exact e2
  · rcases hs e with ⟨rfl, hlt, rfl⟩ | ⟨z, e⟩
    · rcases hs e' with ⟨rfl, _, rfl⟩ | ⟨z', e'⟩
      · exact n rfl
      · dsimp only at u u'
        rw [if_pos rfl] at u
        rw [if_neg z'] at u'
        exact hn k C'' z' e' a u u'
    · rcases hs e' with ⟨rfl, hlt, rfl⟩ | ⟨z', e'⟩
      · dsimp only at u u'
        rw [if_pos rfl] at u'
        rw [if_neg z] at u
        exact hn j C' z e a u' u
      · dsimp only at u u'
        rw [if_neg z] at u
        rw [if_neg z'] at u'
        exact ow.2 j k C' C'' a n e e' u u'
/-- an own object of slot i is changed -/
theorem En.mut (E : En W gh Γ σ F G H) {i : Nat} {C C' : Cp} {p : Addr} {o : HO} (hi : Γ[i]? = some (.ow C)) (k : ∀ l fo, σ[i]? = some (some (V.ref l)) → C.C l fo H F G → (∀ a ∈ fo, G a = none) → p ∈ fo ∧ C'.C l fo (upd H p o) F G) : En W gh (Γ.set i (.ow C')) σ F G (upd H p o) := by
  obtain ⟨fp, ow⟩ := E.ow
  obtain ⟨l, e1, gl, q⟩ := ow.1 i C hi
  obtain ⟨hp, q'⟩ := k l (fp i) e1 q gl
  have hlt : i < Γ.length := (List.getElem?_eq_some_iff.mp hi).1
  have hs : ∀ {j : Nat} {C'' : Cp}, (Γ.set i (.ow C'))[j]? = some (.ow C'') → (i = j ∧ C' = C'') ∨ (i ≠ j ∧ Γ[j]? = some (.ow C'')) := fun {j C''} e => by
    by_cases z : i = j
    · subst z
      rw [List.getElem?_set_self hlt] at e
      injection e with e
      injection e with e
      exact .inl ⟨rfl, e⟩
    · rw [List.getElem?_set_ne z] at e
      exact .inr ⟨z, e⟩
  have old : ∀ {j : Nat} {C'' : Cp}, (Γ.set i (.ow C'))[j]? = some (.ow C'') → ∃ C0, Γ[j]? = some (.ow C0) := fun {j C''} e => by
    rcases hs e with ⟨rfl, _⟩ | ⟨_, e⟩
    · exact ⟨_, hi⟩
    · exact ⟨_, e⟩
  refine ⟨by rw [List.length_set]; exact E.len, E.f0, E.h0, E.fg, same_updR E.gH (gl p hp), E.gr, E.g, fun j R' h' e => ?_, fp, fun j C'' e => ?_, fun j k C1 C2 a n e e' u u' => ?_⟩
  · by_cases z : i = j
    · subst z
      rw [List.getElem?_set_self hlt] at e
      cases e
    · rw [List.getElem?_set_ne z] at e
      obtain ⟨v', e1, q'⟩ := E.vl j R' h' e
      exact ⟨v', e1, h'.st q'⟩
  · rcases hs e with ⟨rfl, rfl⟩ | ⟨z, e⟩
    · exact ⟨l, e1, gl, q'⟩
    · obtain ⟨m, e1, e2, e3⟩ := ow.1 j C'' e
      refine ⟨m, e1, e2, C''.mono (Same.refl _) (Same.refl _) (fun a ha => upd_ne fun y => ?_) e3⟩
      subst y
      exact ow.2 i j C C'' a z hi e hp ha
  · obtain ⟨_, e⟩ := old e
    obtain ⟨_, e'⟩ := old e'
    exact ow.2 j k _ _ a n e e' u u'
/-- one slot's word is weakened to another -/
inductive SlLe : Sl → Sl → Prop
  | refl (a : Sl) : SlLe a a
  | no (a : Sl) : SlLe a .no
  | vl {R R' : Rp} {h : Sta R} {h' : Sta R'} (k : ∀ v F G H, Same F G → Same G H → R.P v F G H → R'.P v F G H) : SlLe (.vl R h) (.vl R' h')
  | ow {C C' : Cp} (k : ∀ l fp H F G, Same F G → C.C l fp H F G → C'.C l fp H F G) : SlLe (.ow C) (.ow C')
theorem En.imp {Γ' : List Sl} (E : En W gh Γ σ F G H) (hl : Γ'.length = Γ.length) (k : ∀ (i : Nat) (a b : Sl), Γ[i]? = some a → Γ'[i]? = some b → SlLe a b) : En W gh Γ' σ F G H := by
  have at_ : ∀ {i : Nat} {b : Sl}, Γ'[i]? = some b → ∃ a, Γ[i]? = some a ∧ SlLe a b := fun {i b} e => by
    have hi : i < Γ.length := by rw [← hl]; exact (List.getElem?_eq_some_iff.mp e).1
    exact ⟨Γ[i], List.getElem?_eq_getElem hi, k i _ b (List.getElem?_eq_getElem hi) e⟩
  obtain ⟨fp, ow⟩ := E.ow
  have ow_ : ∀ {i : Nat} {C' : Cp}, Γ'[i]? = some (.ow C') → ∃ C, Γ[i]? = some (.ow C) ∧ ∀ l fo, C.C l fo H F G → C'.C l fo H F G := fun {i C'} e => by
    obtain ⟨a, e1, le⟩ := at_ e
    cases le with
    | refl => exact ⟨C', e1, fun _ _ z => z⟩
    | ow kk => exact ⟨_, e1, fun l fo z => kk l fo H F G E.fg z⟩
  refine ⟨by rw [hl]; exact E.len, E.f0, E.h0, E.fg, E.gH, E.gr, E.g, fun i R h e => ?_, fp, fun i C e => ?_, fun i j C C' a n e e' => ?_⟩
  · obtain ⟨a, e1, le⟩ := at_ e
    cases le with
    | refl => exact E.vl i R h e1
    | vl kk =>
      obtain ⟨v, e2, q⟩ := E.vl i _ _ e1
      exact ⟨v, e2, kk v F G H E.fg E.gH q⟩
  · obtain ⟨C0, e1, kk⟩ := ow_ e
    obtain ⟨l, e2, e3, q⟩ := ow.1 i C0 e1
    exact ⟨l, e2, e3, kk l _ q⟩
  · obtain ⟨C1, e1, _⟩ := ow_ e
    obtain ⟨C2, e2, _⟩ := ow_ e'
    exact ow.2 i j C1 C2 a n e1 e2
/-- how the worlds grow while an expression is reckoned: nothing that was there is changed, or frozen -/
structure Gr (F G H F' G' H' : Hp) : Prop where
  f : Same F F'
  g : Same G G'
  s : Same H H'
  n : ∀ a o, H a = some o → NT o → G a = none → G' a = none
theorem Gr.refl (F G H : Hp) : Gr F G H F G H := ⟨Same.refl _, Same.refl _, Same.refl _, fun _ _ _ _ h => h⟩
theorem Gr.trans {F G H F1 G1 H1 F2 G2 H2 : Hp} (a : Gr F G H F1 G1 H1) (b : Gr F1 G1 H1 F2 G2 H2) : Gr F G H F2 G2 H2 := ⟨a.f.trans b.f, a.g.trans b.g, a.s.trans b.s, fun c o h t e => b.n c o (a.s c o h) t (a.n c o h t e)⟩
theorem Gr.new {F0 G0 H0 : Hp} (a : Gr F0 G0 H0 F G H) {p : Addr} {o : HO} (hp : H p = none) : Gr F0 G0 H0 F G (upd H p o) := ⟨a.f, a.g, a.s.trans (same_upd hp), a.n⟩
theorem Gr.newF {F0 G0 H0 : Hp} (a : Gr F0 G0 H0 F G H) {p : Addr} {o : HO} (hp : H p = none) (fp : F p = none) (gp : G p = none) : Gr F0 G0 H0 (upd F p o) (upd G p o) (upd H p o) := ⟨a.f.trans (same_upd fp), a.g.trans (same_upd gp), a.s.trans (same_upd hp), fun c u h t e => by
  rw [upd_ne (ne_of_none (a.s c u h) hp)]
  exact a.n c u h t e⟩
theorem Gr.frz {F0 G0 H0 : Hp} (a : Gr F0 G0 H0 F G H) {p : Addr} {o : HO} (h0 : H0 p = none) (fp : F p = none) (gp : G p = none) : Gr F0 G0 H0 (upd F p o) (upd G p o) H := ⟨a.f.trans (same_upd fp), a.g.trans (same_upd gp), a.s, fun c u h t e => by
  rw [upd_ne (ne_of_none h h0)]
  exact a.n c u h t e⟩
/-- what stands in the heap, is not still and no slot's own, stands still from now on -/
theorem En.still (E : En W gh Γ σ F G H) {p : Addr} {o : HO} (gp : G p = none) (hp : H p = some o) (hn : ∀ (i : Nat) (C : Cp) (m : Addr) (fo : List Addr), Γ[i]? = some (.ow C) → σ[i]? = some (some (V.ref m)) → C.C m fo H F G → p ∉ fo) : En W gh Γ σ F (upd G p o) H := by
  obtain ⟨ff, ow⟩ := E.ow
  have ow : Owns Γ σ F G H ff := ow
  have sG : Same G (upd G p o) := same_upd gp
  refine ⟨E.len, E.f0, E.h0.trans sG, E.fg.trans sG, fun b u e => ?_, E.gr, gh.mono (Same.refl _) sG E.g, fun i R h e => ?_, ff, ow.mono (Same.refl _) sG fun i C e a ha => ?_⟩
  · by_cases h : b = p
    · subst h
      rw [upd_same] at e
      rw [hp]
      exact e
    · rw [upd_ne h] at e
      exact E.gH b u e
  · obtain ⟨v, e1, q⟩ := E.vl i R h e
    exact ⟨v, e1, R.mono (Same.refl _) sG (Same.refl _) q⟩
  · obtain ⟨l, e1, e2, q⟩ := ow.1 i C e
    have n : a ≠ p := fun z => hn i C l _ e e1 q (z ▸ ha)
    exact ⟨by rw [upd_ne n]; exact e2 a ha, rfl⟩
/-- a callee has run: F1, H1 behind it -/
structure Ext (F H F1 H1 : Hp) : Prop where
  f : Same F F1
  h : Same H H1
  fh : Same F1 H1
  gr : ∀ a o, F1 a = some o → F a = some o ∨ H a = none ∨ ∃ xs, H a = some (.tup xs)
theorem En.ext (E : En W gh Γ σ F G H) {F1 H1 : Hp} (x : Ext F H F1 H1) : ∃ G1, Gr F G H F1 G1 H1 ∧ Same F1 G1 ∧ (∀ a, F1 a = none → G a = none → G1 a = none) ∧ En W gh Γ σ F1 G1 H1 := by
  have gG1 : Same G (fun a => match F1 a with | some o => some o | none => G a) := fun a o e => by
    show (match F1 a with | some o => some o | none => G a) = some o
    cases q : F1 a with
    | none => exact e
    | some u =>
      have z := x.fh a u q
      rw [x.h a o (E.gH a o e)] at z
      exact z.symm
  have fG1 : Same F1 (fun a => match F1 a with | some o => some o | none => G a) := fun a o e => by
    show (match F1 a with | some o => some o | none => G a) = some o
    rw [e]
  refine ⟨fun a => match F1 a with | some o => some o | none => G a, ⟨x.f, gG1, x.h, fun a o h t e => by
    show (match F1 a with | some o => some o | none => G a) = none
    cases q : F1 a with
    | none => exact e
    | some u =>
      rcases x.gr a u q with z | z | ⟨xs, z⟩
      · have z2 := E.fg a u z
        rw [e] at z2
        cases z2
      · rw [h] at z
        cases z
      · rw [h] at z
        cases z
        exact absurd rfl (t xs)⟩, fG1, fun a z1 z2 => by
    show (match F1 a with | some o => some o | none => G a) = none
    rw [z1]
    exact z2, E.len, E.f0.trans x.f, E.h0.trans gG1, fG1, fun a o e => ?_, fun a o e => ?_, gh.mono x.f gG1 E.g, fun i R h e => ?_, ?_⟩
  · have e : (match F1 a with | some o => some o | none => G a) = some o := e
    cases q : F1 a with
    | none =>
      rw [q] at e
      exact x.h a o (E.gH a o e)
    | some u =>
      rw [q] at e
      rw [← e]
      exact x.fh a u q
  · rcases x.gr a o e with z | z | ⟨xs, z⟩
    · exact E.gr a o z
    · exact .inr (.inl (E.h0.free (E.gH.free z)))
    · cases y : W.H0 a with
      | none => exact .inr (.inl rfl)
      | some u =>
        have y2 := E.gH a u (E.h0 a u y)
        rw [z] at y2
        cases y2
        exact .inr (.inr ⟨xs, rfl⟩)
  · obtain ⟨v, e1, q⟩ := E.vl i R h e
    exact ⟨v, e1, R.mono x.f gG1 x.h q⟩
  · obtain ⟨fp, ow⟩ := E.ow
    have ow : Owns Γ σ F G H fp := ow
    refine ⟨fp, ow.mono x.f gG1 fun i C e a ha => ?_⟩
    obtain ⟨l, e1, e2, q⟩ := ow.1 i C e
    obtain ⟨u, hu, nu⟩ := C.there q a ha
    refine ⟨?_, (x.h a u hu).trans hu.symm⟩
    show (match F1 a with | some o => some o | none => G a) = none
    cases z : F1 a with
    | none => exact e2 a ha
    | some y =>
      rcases x.gr a y z with z | z | ⟨xs, z⟩
      · have := E.fg a y z
        rw [e2 a ha] at this
        cases this
      · rw [hu] at z
        cases z
      · rw [hu] at z
        cases z
        exact absurd rfl (nu xs)
/-- a tuple that stands in the heap is frozen -/
theorem En.tupF (E : En W gh Γ σ F G H) {p : Addr} {xs : List V} (hp : H p = some (.tup xs)) : En W gh Γ σ (upd F p (.tup xs)) (upd G p (.tup xs)) H ∧ Gr F G H (upd F p (.tup xs)) (upd G p (.tup xs)) H := by
  have sG : Same G (upd G p (.tup xs)) := fun b u e => by
    by_cases h : b = p
    · subst h
      have := E.gH b u e
      rw [hp] at this
      rw [upd_same]
      exact this
    · rw [upd_ne h]
      exact e
  have sF : Same F (upd F p (.tup xs)) := fun b u e => by
    by_cases h : b = p
    · subst h
      have := E.gH b u (E.fg b u e)
      rw [hp] at this
      rw [upd_same]
      exact this
    · rw [upd_ne h]
      exact e
  obtain ⟨ff, ow⟩ := E.ow
  have ow : Owns Γ σ F G H ff := ow
  refine ⟨⟨E.len, E.f0.trans sF, E.h0.trans sG, same_upd2 E.fg, fun b u e => ?_, fun a u e => ?_, gh.mono sF sG E.g, fun i R h e => ?_, ff, ow.mono sF sG fun i C e a ha => ?_⟩, sF, sG, Same.refl _, fun a o h t e => ?_⟩
  · by_cases h : b = p
    · subst h
      rw [upd_same] at e
      rw [hp]
      exact e
    · rw [upd_ne h] at e
      exact E.gH b u e
  · by_cases h : a = p
    · subst h
      cases y : W.H0 a with
      | none => exact .inr (.inl rfl)
      | some u =>
        have y2 := E.gH a u (E.h0 a u y)
        rw [hp] at y2
        cases y2
        exact .inr (.inr ⟨xs, rfl⟩)
    · rw [upd_ne h] at e
      exact E.gr a u e
  · obtain ⟨v, e1, q⟩ := E.vl i R h e
    exact ⟨v, e1, R.mono sF sG (Same.refl H) q⟩
  · obtain ⟨l, e1, e2, q⟩ := ow.1 i C e
    obtain ⟨u, hu, nu⟩ := C.there q a ha
    have n : a ≠ p := fun z => by
      subst z
      rw [hp] at hu
      cases hu
      exact nu xs rfl
    exact ⟨by rw [upd_ne n]; exact e2 a ha, rfl⟩
  · rw [upd_ne fun z => by subst z; rw [hp] at h; cases h; exact t xs rfl]
    exact e
theorem En.toExt (E : En W gh Γ σ F G H) : Ext W.F0 W.H0 F H := ⟨E.f0, E.h0.trans E.gH, E.fg.trans E.gH, E.gr⟩
end
end L3
/-! U, part v: values without a heap, outcomes, the operations on values. No program in sight. -/
namespace L3
open PySem
/-- a value as the program sees it, all of it -/
inductive Val where
  | none
  | bool (b : Bool)
  | int (i : Int)
  | str (s : Str)
  | list (xs : List Val)
  | tuple (xs : List Val)
  | dict (kvs : List (Val × Val))
  | obj (C : Str) (fs : List (Str × Val))
  deriving Inhabited
/-- what is raised: its class, the field that it bears -/
structure Xv where
  cls : Str
  fld : Option (Str × Val)
/-- how a run ends; stuck: nothing is said -/
inductive Rs (α : Type) where
  | ok (a : α)
  | err (x : Xv)
  | stuck
namespace Rs
variable {α β : Type}
def bnd (m : Rs α) (k : α → Rs β) : Rs β := match m with
  | .ok a => k a
  | .err x => .err x
  | .stuck => .stuck
instance : Monad Rs where
  pure := .ok
  bind := bnd
@[simp] theorem bind_ok (a : α) (k : α → Rs β) : (Rs.ok a >>= k) = k a := rfl
@[simp] theorem bind_err (x : Xv) (k : α → Rs β) : ((Rs.err x : Rs α) >>= k) = .err x := rfl
@[simp] theorem bind_stuck (k : α → Rs β) : ((Rs.stuck : Rs α) >>= k) = .stuck := rfl
@[simp] theorem pure_ok (a : α) : (pure a : Rs α) = .ok a := rfl
/-- no error goes through -/
def ne (m : Rs α) : Rs α := match m with
  | .ok a => .ok a
  | _ => .stuck
@[simp] theorem ne_ok (a : α) : (Rs.ok a).ne = .ok a := rfl
@[simp] theorem ne_stuck : (Rs.stuck : Rs α).ne = .stuck := rfl
@[simp] theorem ne_err (x : Xv) : (Rs.err x : Rs α).ne = .stuck := rfl
theorem of_ne {m : Rs α} {a : α} (h : m.ne = .ok a) : m = .ok a := by
  cases m <;> simp_all [ne]
theorem of_bind {m : Rs α} {k : α → Rs β} {b : β} (h : (m >>= k) = .ok b) : ∃ a, m = .ok a ∧ k a = .ok b := by
  cases m with
  | ok a => exact ⟨a, rfl, h⟩
  | err x => cases h
  | stuck => cases h
/-- p of what is handed back, e of what is raised -/
def ho (m : Rs α) (p : α → Prop) (e : Xv → Prop) : Prop := match m with
  | .ok a => p a
  | .err x => e x
  | .stuck => False
theorem ho_bind {m : Rs α} {k : α → Rs β} {p : β → Prop} {e : Xv → Prop} (h : (m >>= k).ho p e) : m.ho (fun a => (k a).ho p e) e := by
  cases m <;> exact h
theorem ho_ne {m : Rs α} {p : α → Prop} {e : Xv → Prop} (h : m.ne.ho p e) : ∃ a, m = .ok a ∧ p a := by
  cases m with
  | ok a => exact ⟨a, rfl, h⟩
  | err x => exact h.elim
  | stuck => exact h.elim
theorem ho_mono {m : Rs α} {p q : α → Prop} {e f : Xv → Prop} (h : m.ho p e) (k : ∀ a, p a → q a) (ke : ∀ x, e x → f x) : m.ho q f := by
  cases m with
  | ok a => exact k a h
  | err x => exact ke x h
  | stuck => exact h
end Rs
/-- how a block ends: it goes on, leaves the loop, hands back -/
inductive Fl (σ : Type) where
  | go (s : σ)
  | brk (s : σ)
  | ret (v : Val)
/-- for: over the items, with what the turns carry -/
def forL {σ : Type} (f : σ → Val → Rs (Fl σ)) : List Val → σ → Rs (Fl σ)
  | [], s => .ok (.go s)
  | x :: xs, s => f s x >>= fun r => match r with
    | .go t => forL f xs t
    | .brk t => .ok (.go t)
    | .ret v => .ok (.ret v)
/-- while, at most so many turns -/
def whl {σ : Type} (c : σ → Rs Bool) (f : σ → Rs (Fl σ)) : Nat → σ → Rs (Fl σ)
  | 0, _ => .stuck
  | n + 1, s => c s >>= fun b => if b then f s >>= fun r => match r with
      | .go t => whl c f n t
      | .brk t => .ok (.go t)
      | .ret v => .ok (.ret v)
    else .ok (.go s)
/-- what follows a block that may hand back -/
def thenF {σ α : Type} (r : Fl σ) (k : σ → Rs α) (h : Val → Rs α) : Rs α := match r with
  | .go s => k s
  | .brk s => .stuck
  | .ret v => h v
@[simp] theorem thenF_go {σ α : Type} (s : σ) (k : σ → Rs α) (h : Val → Rs α) : thenF (.go s) k h = k s := rfl
@[simp] theorem thenF_ret {σ α : Type} (v : Val) (k : σ → Rs α) (h : Val → Rs α) : thenF (.ret v) k h = h v := rfl
/-! ### as data -/
mutual
def Val.py : Val → Option PyData
  | .none => some .none
  | .bool b => some (.bool b)
  | .int i => some (.int i)
  | .str s => some (.str s)
  | .list xs => (Val.pys xs).map .list
  | .tuple xs => (Val.pys xs).map .tuple
  | .dict _ => Option.none
  | .obj _ _ => Option.none
def Val.pys : List Val → Option (List PyData)
  | [] => some []
  | x :: xs => match Val.py x, Val.pys xs with
    | some y, some ys => some (y :: ys)
    | _, _ => Option.none
end
/-! ### operations -/
def BIG : Nat := 16777216
def FU : Nat := 1000000000000
def truB : Val → Rs Bool
  | .none => .ok false
  | .bool b => .ok b
  | .int i => .ok (!decide (i = 0))
  | .str s => .ok (!decide (s.length = 0))
  | .list xs => .ok (!xs.isEmpty)
  | .tuple xs => .ok (!xs.isEmpty)
  | .dict xs => .ok (!xs.isEmpty)
  | _ => .stuck
def asInt : Val → Rs Int
  | .int i => .ok i
  | _ => .stuck
def asBool : Val → Rs Bool
  | .bool b => .ok b
  | _ => .stuck
def asStr : Val → Rs Str
  | .str s => .ok s
  | _ => .stuck
def asList : Val → Rs (List Val)
  | .list xs => .ok xs
  | _ => .stuck
def asTup : Val → Rs (List Val)
  | .tuple xs => .ok xs
  | _ => .stuck
def asDict : Val → Rs (List (Val × Val))
  | .dict xs => .ok xs
  | _ => .stuck
def chk (b : Bool) : Rs Unit := if b then .ok () else .stuck
@[simp] theorem chk_true : chk true = .ok () := rfl
/-- == of data -/
def eqV (a b : Val) : Rs Bool := match a.py, b.py with
  | some x, some y => if SeqAt.shaped x && SeqAt.shaped y then .ok (PyData.eqv x y) else .stuck
  | _, _ => .stuck
/-- in a list of data -/
def inL (a : Val) (xs : List Val) : Rs Bool := match a.py, Val.pys xs with
  | some d, some ds => if SeqAt.shaped d && SeqAt.shaped (.list ds) then .ok (ds.any fun z => PyData.eqv z d) else .stuck
  | _, _ => .stuck
theorem eqV_ok {a b : Val} {r : Bool} (h : eqV a b = .ok r) : ∃ x y, a.py = some x ∧ b.py = some y ∧ SeqAt.shaped x = true ∧ SeqAt.shaped y = true ∧ r = PyData.eqv x y := by
  unfold eqV at h
  split at h
  · split at h
    · rename_i x y h1 h2 hs
      cases h
      rw [Bool.and_eq_true] at hs
      exact ⟨x, y, h1, h2, hs.1, hs.2, rfl⟩
    · cases h
  · cases h
theorem inL_ok {a : Val} {xs : List Val} {r : Bool} (h : inL a xs = .ok r) : ∃ d ds, a.py = some d ∧ Val.pys xs = some ds ∧ SeqAt.shaped d = true ∧ SeqAt.shaped (.list ds) = true ∧ r = ds.any fun z => PyData.eqv z d := by
  unfold inL at h
  split at h
  · split at h
    · rename_i x y h1 h2 hs
      cases h
      rw [Bool.and_eq_true] at hs
      exact ⟨x, y, h1, h2, hs.1, hs.2, rfl⟩
    · cases h
  · cases h
/-! numbers -/
def mulI (i j : Int) : Rs Int := if (-(2 ^ 64) < i ∧ i < 2 ^ 64) ∨ (-(2 ^ 64) < j ∧ j < 2 ^ 64) then .ok (i * j) else .stuck
def modI (i j : Int) : Rs Int := if 0 < j then .ok (i % j) else .stuck
def fdivI (i j : Int) : Rs Int := if 0 < j ∧ j < 1073741824 then .ok (i / j) else .stuck
def powI (i j : Int) : Rs Int := if 0 ≤ j ∧ j ≤ 1000000 ∧ i.natAbs < 2 ^ 64 then .ok (i ^ j.toNat) else .stuck
/-! sequences -/
/-- a place from the front or the back -/
def ixAt (n : Nat) (i : Int) : Option Nat := if 0 ≤ i ∧ i < n then some i.toNat else if i < 0 ∧ -(n : Int) ≤ i then some (i + n).toNat else Option.none
def idxL (xs : List Val) (i : Int) : Rs Val := match (ixAt xs.length i).bind fun j => xs[j]? with
  | some v => .ok v
  | none => .stuck
def un2 : Val → Rs (Val × Val)
  | .tuple [a, b] => .ok (a, b)
  | .list [a, b] => .ok (a, b)
  | _ => .stuck
def un3 : Val → Rs (Val × Val × Val)
  | .tuple [a, b, c] => .ok (a, b, c)
  | .list [a, b, c] => .ok (a, b, c)
  | _ => .stuck
def un4 : Val → Rs (Val × Val × Val × Val)
  | .tuple [a, b, c, d] => .ok (a, b, c, d)
  | .list [a, b, c, d] => .ok (a, b, c, d)
  | _ => .stuck
def catL (xs ys : List Val) : Rs (List Val) := if xs.length + ys.length ≤ BIG then .ok (xs ++ ys) else .stuck
def catT (xs ys : List Val) : Rs (List Val) := if xs ≠ [] ∧ xs.length + ys.length ≤ BIG then .ok (xs ++ ys) else .stuck
def repL (xs : List Val) (k : Int) : Rs (List Val) := if (-(2 ^ 63) ≤ k ∧ k < 2 ^ 63) ∧ xs.length * k.toNat ≤ BIG then .ok (List.replicate k.toNat xs).flatten else .stuck
def appL (xs : List Val) (v : Val) : Rs (List Val) := if xs.length < BIG then .ok (xs ++ [v]) else .stuck
def catS (x y : Str) : Rs Str := if x.length + y.length ≤ BIG then .ok (x ++ y) else .stuck
def asInts : List Val → Rs (List Int)
  | [] => .ok []
  | .int i :: xs => asInts xs >>= fun is => .ok (i :: is)
  | _ :: _ => .stuck
def asBools : List Val → Rs (List Bool)
  | [] => .ok []
  | .bool i :: xs => asBools xs >>= fun is => .ok (i :: is)
  | _ :: _ => .stuck
def asStrs : List Val → Rs (List Str)
  | [] => .ok []
  | .str i :: xs => asStrs xs >>= fun is => .ok (i :: is)
  | _ :: _ => .stuck
theorem asInts_ok : ∀ {xs : List Val} {is : List Int}, asInts xs = .ok is → xs = is.map .int
  | [], is, h => by cases h; rfl
  | x :: xs, is, h => by
    cases x <;> simp only [asInts] at h <;> try cases h
    obtain ⟨js, h1, h2⟩ := Rs.of_bind h
    cases h2
    rw [asInts_ok h1]
    rfl
theorem asBools_ok : ∀ {xs : List Val} {is : List Bool}, asBools xs = .ok is → xs = is.map .bool
  | [], is, h => by cases h; rfl
  | x :: xs, is, h => by
    cases x <;> simp only [asBools] at h <;> try cases h
    obtain ⟨js, h1, h2⟩ := Rs.of_bind h
    cases h2
    rw [asBools_ok h1]
    rfl
theorem asStrs_ok : ∀ {xs : List Val} {is : List Str}, asStrs xs = .ok is → xs = is.map .str
  | [], is, h => by cases h; rfl
  | x :: xs, is, h => by
    cases x <;> simp only [asStrs] at h <;> try cases h
    obtain ⟨js, h1, h2⟩ := Rs.of_bind h
    cases h2
    rw [asStrs_ok h1]
    rfl
@[simp] theorem asInts_map (is : List Int) : asInts (is.map .int) = .ok is := by
  induction is with
  | nil => rfl
  | cons i is ih => rw [List.map_cons, asInts, ih]; rfl
@[simp] theorem asBools_map (is : List Bool) : asBools (is.map .bool) = .ok is := by
  induction is with
  | nil => rfl
  | cons i is ih => rw [List.map_cons, asBools, ih]; rfl
@[simp] theorem asStrs_map (is : List Str) : asStrs (is.map .str) = .ok is := by
  induction is with
  | nil => rfl
  | cons i is ih => rw [List.map_cons, asStrs, ih]; rfl
/-- a comprehension: taken apart, tested, reckoned -/
def lcM {υ : Type} (up : Val → Rs υ) (c : υ → Rs Bool) (f : υ → Rs Val) : List Val → Rs (List Val)
  | [] => .ok []
  | x :: xs => up x >>= fun y => c y >>= fun b => if b then f y >>= fun v => lcM up c f xs >>= fun vs => .ok (v :: vs) else lcM up c f xs
/-- .. its tests and elements as functions -/
def lcP {υ : Type} (up : Val → Rs υ) (c : υ → Rs Bool) (x : Val) : Bool := match up x with
  | .ok y => match c y with
    | .ok b => b
    | _ => false
  | _ => false
def lcF {υ : Type} (up : Val → Rs υ) (f : υ → Rs Val) (x : Val) : Val := match up x with
  | .ok y => match f y with
    | .ok v => v
    | _ => .none
  | _ => .none
theorem lcM_ok {υ : Type} {up : Val → Rs υ} {c : υ → Rs Bool} {f : υ → Rs Val} : ∀ {xs ys : List Val}, lcM up c f xs = .ok ys → ys = (xs.filter (lcP up c)).map (lcF up f) ∧ ∀ x ∈ xs, ∃ y, up x = .ok y ∧ c y = .ok (lcP up c x) ∧ (lcP up c x = true → f y = .ok (lcF up f x))
  | [], ys, h => by
    cases h
    exact ⟨rfl, fun _ h => nomatch h⟩
  | x :: xs, ys, h => by
    obtain ⟨y, hy, h⟩ := Rs.of_bind h
    obtain ⟨b, hb, h⟩ := Rs.of_bind h
    have e1 : lcP up c x = b := by unfold lcP; rw [hy]; dsimp only; rw [hb]
    cases b with
    | false =>
      obtain ⟨e2, k⟩ := lcM_ok h
      refine ⟨by rw [List.filter_cons_of_neg (by rw [e1]; exact Bool.false_ne_true), e2], fun z hz => ?_⟩
      rcases List.mem_cons.mp hz with rfl | hz
      · exact ⟨y, hy, by rw [e1]; exact hb, fun q => by rw [e1] at q; cases q⟩
      · exact k z hz
    | true =>
      obtain ⟨v, hv, h⟩ := Rs.of_bind h
      obtain ⟨vs, hvs, h⟩ := Rs.of_bind h
      cases h
      obtain ⟨e2, k⟩ := lcM_ok hvs
      have e3 : lcF up f x = v := by unfold lcF; rw [hy]; dsimp only; rw [hv]
      refine ⟨by rw [List.filter_cons_of_pos e1, List.map_cons, e2, e3], fun z hz => ?_⟩
      rcases List.mem_cons.mp hz with rfl | hz
      · exact ⟨y, hy, by rw [e1]; exact hb, fun _ => by rw [e3]; exact hv⟩
      · exact k z hz
/-- range -/
def rngL (lo hi : Int) : List Val := (List.range (hi - lo).toNat).map fun (k : Nat) => .int (lo + (k : Int))
def rngM (lo hi : Int) : Rs (List Val) := if -(2 ^ 62) ≤ lo ∧ lo < 2 ^ 62 ∧ -(2 ^ 62) ≤ hi ∧ hi < 2 ^ 62 then .ok (rngL lo hi) else .stuck
end L3
/-! U, part g: dicts whose keys are ints, texts, None and tuples of such, in any mix: looking up, storing. -/
namespace L3
open PySem PySem.Spec PyProof.Rows SeqAt
/-- an entry: its key as a key, as it stands there, its value -/
abbrev Ent : Type := NestedKey × Value × Value
def entG (w : World) (x : Ent) : DictEntry := { hash := x.1.hash w, key := x.2.1, val := x.2.2 }
def KIs (h : Heap) (k : NestedKey) (v : Value) : Prop := NestedIs h k v ∧ k.depth ≤ 8
theorem KIs.inj {h : Heap} {x y : NestedKey} {v : Value} (a : KIs h x v) (b : KIs h y v) : x = y := NestedIs.inj _ _ _ a.1 b.1
theorem KIs.keep {h h' : Heap} {k : NestedKey} {v : Value} (a : KIs h k v) (f : ∀ b o vs n, h.get? b = some o → o.data = .seq vs n → h'.get? b = some o) : KIs h' k v := ⟨NestedIs.at f k v a.1, a.2⟩
theorem KIs.same {h h' : Heap} {k : NestedKey} {v : Value} {d : Addr} {o : Obj} {es : Array DictEntry} {ep : Nat} (a : KIs h k v) (ho : h.get? d = some o) (hd : o.data = .dict es ep) (hs : Heap.SameBut d h h') : KIs h' k v := a.keep fun b ob vs n hb hc => by
  have hne : b ≠ d := fun z => by
    subst z
    rw [ho] at hb
    cases hb
    rw [hd] at hc
    cases hc
  exact (hs.2 b hne).trans hb
/-- the place of a key -/
def placeG (xs : List Ent) (k : NestedKey) : Option Nat := xs.findIdx? fun x => decide (x.1 = k)
def valG (xs : List Ent) (k : NestedKey) : Option Value := (xs.find? fun x => decide (x.1 = k)).map (·.2.2)
def putV (k : NestedKey) (v : Value) (x : Ent) : Ent := if x.1 = k then (x.1, x.2.1, v) else x
def storeG (xs : List Ent) (k : NestedKey) (u v : Value) : List Ent := if (valG xs k).isSome then xs.map (putV k v) else xs ++ [(k, u, v)]
theorem placeG_some {xs : List Ent} {k : NestedKey} {i : Nat} (h : placeG xs k = some i) : ∃ x, xs[i]? = some x ∧ x.1 = k ∧ valG xs k = some x.2.2 := by
  induction xs generalizing i with
  | nil => cases h
  | cons y ys ih =>
    unfold placeG at h
    rw [List.findIdx?_cons] at h
    by_cases e : y.1 = k
    · rw [decide_eq_true e] at h
      cases h
      refine ⟨y, rfl, e, ?_⟩
      unfold valG
      rw [List.find?_cons, decide_eq_true e]
      rfl
    · rw [decide_eq_false e] at h
      cases q : List.findIdx? (fun x => decide (x.1 = k)) ys with
      | none => rw [q] at h; cases h
      | some j =>
        rw [q] at h
        cases h
        obtain ⟨x, h1, h2, h3⟩ := ih q
        refine ⟨x, h1, h2, ?_⟩
        unfold valG at h3 ⊢
        rw [List.find?_cons, decide_eq_false e]
        exact h3
theorem placeG_none {xs : List Ent} {k : NestedKey} (h : placeG xs k = none) : valG xs k = none ∧ k ∉ xs.map (·.1) := by
  unfold placeG at h
  rw [List.findIdx?_eq_none_iff] at h
  refine ⟨?_, fun hm => ?_⟩
  · unfold valG
    rw [List.find?_eq_none.mpr fun x hx => by simpa using h x hx]
    rfl
  · obtain ⟨x, hx, rfl⟩ := List.mem_map.mp hm
    have := h x hx
    simp at this
theorem valG_eq {xs : List Ent} {k : NestedKey} : valG xs k = (placeG xs k).bind fun i => (xs[i]?).map (·.2.2) := by
  cases q : placeG xs k with
  | none => rw [(placeG_none q).1]; rfl
  | some i =>
    obtain ⟨x, h1, h2, h3⟩ := placeG_some q
    rw [h3]
    simp [h1]
theorem storeG_length (xs : List Ent) (k : NestedKey) (u v : Value) : (storeG xs k u v).length ≤ xs.length + 1 := by
  unfold storeG
  split <;> simp
theorem keys_putV (xs : List Ent) (k : NestedKey) (v : Value) : (xs.map (putV k v)).map (·.1) = xs.map (·.1) := by
  rw [List.map_map]
  refine List.map_congr_left fun x _ => ?_
  show (putV k v x).1 = x.1
  unfold putV
  split <;> rfl
theorem modify_putV (w : World) {k : NestedKey} {v : Value} : ∀ {xs : List Ent} {j : Nat}, (xs.map (·.1)).Nodup → placeG xs k = some j → (xs.map (entG w)).modify j (fun e => { e with val := v }) = (xs.map (putV k v)).map (entG w) := by
  intro xs
  induction xs with
  | nil => intro j _ h; cases h
  | cons y ys ih =>
    intro j hn h
    rw [List.map_cons, List.nodup_cons] at hn
    unfold placeG at h
    rw [List.findIdx?_cons] at h
    by_cases e : y.1 = k
    · rw [decide_eq_true e] at h
      cases h
      have hrest : ys.map (putV k v) = ys := by
        conv => rhs; rw [← List.map_id ys]
        refine List.map_congr_left fun x hx => ?_
        unfold putV
        rw [if_neg fun z => hn.1 (List.mem_map.mpr ⟨x, hx, z.trans e.symm⟩)]
        rfl
      rw [List.map_cons, List.map_cons, hrest, List.map_cons]
      show _ :: _ = _
      congr 1
      unfold putV
      rw [if_pos e]
      rfl
    · rw [decide_eq_false e] at h
      cases q : List.findIdx? (fun x => decide (x.1 = k)) ys with
      | none => rw [q] at h; cases h
      | some i =>
        rw [q] at h
        cases h
        rw [List.map_cons, List.map_cons, List.map_cons]
        show entG w y :: (ys.map (entG w)).modify i _ = _
        rw [ih hn.2 q]
        congr 1
        unfold putV
        rw [if_neg e]
section
variable {prog : Program} {w : World} {A : Around} {E : Value → Shared → Prop} {s : Shared}
/-- at d stands such a dict -/
def DicG (w : World) (h : Heap) (d : Addr) (xs : List Ent) : Prop := ∃ o es ep, h.get? d = some o ∧ o.ExactDict ∧ o.data = .dict es ep ∧ es.toList = xs.map (entG w) ∧ (∀ x ∈ xs, KIs h x.1 x.2.1) ∧ (xs.map (·.1)).Nodup
theorem DicG.ty {d : Addr} {xs : List Ent} (m : DicG w s.heap d xs) : s.TypeIs (.ref d) "dict" := let ⟨o, _, _, h1, h2, _⟩ := m; ⟨o, h1, h2.1⟩
theorem entG_at {es : Array DictEntry} {xs : List Ent} (he : es.toList = xs.map (entG w)) (j : Nat) : es[j]? = (xs[j]?).map (entG w) := by
  rw [← Array.getElem?_toList, he, List.getElem?_map]
theorem entG_size {es : Array DictEntry} {xs : List Ent} (he : es.toList = xs.map (entG w)) : es.size = xs.length := by
  rw [← Array.length_toList, he, List.length_map]
theorem tellsG {k : NestedKey} {u : Value} {stored : List Value} {Q : Bool → Shared → Prop} (hu : KIs s.heap k u) (hst : ∀ v ∈ stored, ∃ k', KIs s.heap k' v) (h : Q false s) : wpAny (model prog w) A (tableMayTell u stored) Q E s := by
  unfold tableMayTell
  split
  · exact wpAny_pure h
  · refine wpAny_bind (quiet_key _ _ 8 s hu.1 hu.2 _ _ _ ?_)
    simp only [Bool.not_true, Bool.false_eq_true, if_false]
    refine wpAny_bind ?_
    refine wpAny_forIn_list _ (fun l b t => t = s ∧ b = (none, ()) ∧ ∀ v ∈ l, ∃ k', KIs s.heap k' v) _ ?_ ?_ _ _ ⟨rfl, rfl, hst⟩
    · rintro x l b t ⟨rfl, rfl, hr⟩
      obtain ⟨k', hb⟩ := hr x List.mem_cons_self
      refine wpAny_bind (quiet_key _ _ 8 t hb.1 hb.2 _ _ _ ?_)
      simp only [Bool.not_true, Bool.false_eq_true, if_false]
      exact wpAny_pure ⟨rfl, rfl, fun v hv => hr v (List.mem_cons_of_mem _ hv)⟩
    · rintro b t ⟨rfl, rfl, _⟩
      exact wpAny_pure h
theorem eqG {x y : NestedKey} {u v : Value} {Q : Bool → Shared → Prop} (hu : A.units + 8 < cLine) (hx : KIs s.heap x u) (hy : KIs s.heap y v) (h : Q (decide (x = y)) s) : wpAny (model prog w) A (eqBool u v) Q E s := by
  have z := eqAt_key x y A s u v hx.1 hy.1 (by
    have := hx.2
    omega)
  rw [NestedKey.decide_eq] at h
  exact z _ _ _ _ h
theorem str_key {h : Heap} {k : NestedKey} {x : Str} {t : Tok} (a : KIs h k (.str x t)) : k = .text x := by
  obtain ⟨a, _⟩ := a
  cases a
  rfl
theorem iteG {α : Type} {b : Bool} {f g : Sem α} {Q : α → Shared → Prop} (h1 : b = true → wpAny (model prog w) A f Q E s) (h2 : b = false → wpAny (model prog w) A g Q E s) : wpAny (model prog w) A (if b = true then f else g) Q E s := by
  cases b with
  | true => exact h1 rfl
  | false => exact h2 rfl
theorem isStr_key {h : Heap} {k : NestedKey} {v : Value} {x : Str} (a : KIs h k v) : v.isStr x = decide (k = .text x) := by
  obtain ⟨a, _⟩ := a
  cases a with
  | text y t => by_cases e : y = x <;> simp [Value.isStr, e]
  | none => simp [Value.isStr]
  | bool e => simp [Value.isStr]
  | int i t => simp [Value.isStr]
  | tup => simp [Value.isStr]
theorem findG {d : Addr} {o : Obj} {es : Array DictEntry} {ep : Nat} {xs : List Ent} {k : NestedKey} {u : Value} {Q : Option Nat → Shared → Prop} (hu : A.units + 8 < cLine) (hkey : KIs s.heap k u)
    (ho : s.heap.get? d = some o) (hd : o.data = .dict es ep) (he : es.toList = xs.map (entG w)) (his : ∀ x ∈ xs, KIs s.heap x.1 x.2.1) (hn : (xs.map (·.1)).Nodup) (h : Q (placeG xs k) s) : wpAny (model prog w) A (dictFind d u (k.hash w)) Q E s := by
  have hsz : es.size = xs.length := entG_size he
  have uniq : ∀ {i j : Nat} {x y : Ent}, xs[i]? = some x → xs[j]? = some y → x.1 = y.1 → i = j := fun {i j x y} hi hj e => by
    have hi' : (xs.map (·.1))[i]? = some x.1 := by rw [List.getElem?_map, hi]; rfl
    have hj' : (xs.map (·.1))[j]? = some x.1 := by rw [List.getElem?_map, hj, e]; rfl
    exact (List.getElem?_inj (List.getElem?_eq_some_iff.mp hi').1 hn).mp (hi'.trans hj'.symm)
  have hsome : ∀ {j : Nat} {x : Ent}, xs[j]? = some x → x.1 = k → placeG xs k = some j := fun {j x} hj e => by
    cases q : placeG xs k with
    | none =>
      refine absurd ?_ (placeG_none q).2
      rw [← e]
      exact List.mem_map.mpr ⟨x, List.mem_of_getElem? hj, rfl⟩
    | some i =>
      obtain ⟨y, h1, h2, _⟩ := placeG_some q
      rw [uniq h1 hj (h2.trans e.symm)]
  have hnone : (∀ (j : Nat) (x : Ent), xs[j]? = some x → x.1 ≠ k) → placeG xs k = none := fun f => by
    cases q : placeG xs k with
    | none => rfl
    | some i =>
      obtain ⟨y, h1, h2, _⟩ := placeG_some q
      exact absurd h2 (f i y h1)
  have haskey : ∀ {j : Nat} {x : Ent}, xs[j]? = some x → x.1 = k → ((es[j]?.map (·.hash)) == some (k.hash w)) = true := fun {j x} hj e => by
    rw [entG_at he j, hj]
    simp [entG, e]
  have hmem : ∀ e ∈ es, ∃ x ∈ xs, e = entG w x := fun e hin => by
    have z : e ∈ xs.map (entG w) := he ▸ Array.mem_toList_iff.mpr hin
    obtain ⟨x, hx, rfl⟩ := List.mem_map.mp z
    exact ⟨x, hx, rfl⟩
  have hany : ∀ a, u = .ref a → ¬ (es.any fun e => e.key == u && e.hash != k.hash w) = true := fun a _ => by
    rw [← Array.any_toList, List.any_eq_true]
    rintro ⟨e, hin, hc⟩
    obtain ⟨x, hx, rfl⟩ := hmem e (Array.mem_toList_iff.mp hin)
    simp only [entG, Bool.and_eq_true, beq_iff_eq, bne_iff_ne, ne_eq] at hc
    obtain ⟨hxa, hne⟩ := hc
    have y := his x hx
    rw [hxa] at y
    exact hne (by rw [y.inj hkey])
  have hst : ∀ v ∈ (placesWithHash es.size (fun i => es[i]?.map (·.hash)) (k.hash w)).filterMap (fun i => es[i]?.map (·.key)), ∃ k', KIs s.heap k' v := fun v hv => by
    obtain ⟨i, _, hi⟩ := List.mem_filterMap.mp hv
    cases hei : es[i]? with
    | none => rw [hei] at hi; cases hi
    | some e =>
      rw [hei] at hi
      obtain rfl : e.key = v := by simpa using hi
      obtain ⟨x, hx, rfl⟩ := hmem e (Array.mem_of_getElem? hei)
      exact ⟨x.1, his x hx⟩
  -- the walk over the places of the hash, asked the plain way
  have plain : wpAny (model prog w) A (dictWalkPlain d u (k.hash w) es (placesWithHash es.size (fun i => es[i]?.map (·.hash)) (k.hash w))) Q E s := by
    refine wpAny_bind ?_
    refine wpAny_forIn_list _ (fun l b t => t = s ∧ b = (none, ()) ∧ ∃ i, l = (List.range' i (es.size - i)).filter (fun i => (es[i]?.map (·.hash)) == some (k.hash w)) ∧ i ≤ es.size ∧ ∀ j x, j < i → xs[j]? = some x → x.1 ≠ k) _ ?_ ?_ _ _
      ⟨rfl, rfl, 0, by rw [placesWithHash, List.range_eq_range', Nat.sub_zero], Nat.zero_le _, fun _ _ h => absurd h (Nat.not_lt_zero _)⟩
    · rintro x l b t ⟨rfl, rfl, i, hr, hi, hno⟩
      obtain ⟨hix, hxn, hpx, hskip, hrest⟩ := filter_range'_cons _ _ _ _ _ hr.symm
      have hlt : x < es.size := by omega
      obtain ⟨y, hy⟩ : ∃ y, xs[x]? = some y := ⟨xs[x]'(by rw [← hsz]; exact hlt), List.getElem?_eq_getElem _⟩
      have hib := his y (List.mem_of_getElem? hy)
      have hex : es[x]? = some (entG w y) := by rw [entG_at he x, hy]; rfl
      have next : y.1 ≠ k → ∃ i, l = (List.range' i (es.size - i)).filter (fun i => (es[i]?.map (·.hash)) == some (k.hash w)) ∧ i ≤ es.size ∧ ∀ j x, j < i → xs[j]? = some x → x.1 ≠ k := fun ne =>
        ⟨x + 1, by rw [hrest]; congr 2; omega, hlt, fun j z hj hz e => by
          rcases Nat.lt_or_ge j i with h | h
          · exact hno j z h hz e
          · rcases Nat.lt_or_ge j x with h' | h'
            · have q := hskip j h h'
              rw [haskey hz e] at q
              cases q
            · have q : j = x := by omega
              subst q
              rw [hy] at hz
              cases hz
              exact ne e⟩
      simp only [hex]
      by_cases hh : ((entG w y).hash == k.hash w) = true
      · rw [if_pos hh]
        refine wpAny_bind (wpAny_dictEpoch ho hd (wpAny_bind (eqG hu hib hkey (wpAny_bind (wpAny_dictEpoch ho hd ?_)))))
        show wpAny _ _ (if (ep != ep) = true then _ else _) _ E _
        rw [if_neg (by simp)]
        by_cases e : y.1 = k
        · rw [decide_eq_true e]
          rw [hsome hy e] at h
          exact wpAny_bind (wpAny_rule (wpAny_pure (wpAny_pure h)))
        · rw [decide_eq_false e]
          exact wpAny_bind (wpAny_rule (wpAny_pure ⟨rfl, rfl, next e⟩))
      · rw [if_neg hh]
        refine wpAny_pure ⟨rfl, rfl, next fun e => ?_⟩
        apply hh
        simp [entG, e]
    · rintro b t ⟨rfl, rfl, i, hr, hi, hno⟩
      have hall : ∀ j, i ≤ j → j < es.size → ((es[j]?.map (·.hash)) == some (k.hash w)) = false := fun j h1 h2 => by
        have z := List.filter_eq_nil_iff.mp hr.symm j (List.mem_range'_1.mpr ⟨h1, by omega⟩)
        simpa using z
      refine wpAny_pure ?_
      rw [hnone fun j x hj e => ?_] at h
      · exact h
      · rcases Nat.lt_or_ge j i with z | z
        · exact hno j x z hj e
        · have q := hall j z (by rw [hsz]; exact (List.getElem?_eq_some_iff.mp hj).1)
          rw [haskey hj e] at q
          cases q
  have texts : ∀ (x : Str) (t : Tok), u = .str x t → wpAny (model prog w) A (foundByValue d u es x) Q E s := fun x t eu => by
    subst eu
    have ek := str_key hkey
    subst ek
    have same : es.findIdx? (fun e => e.key.isStr x) = placeG xs (.text x) := by
      have ea : es = (xs.map (entG w)).toArray := by rw [← he]
      rw [ea, List.findIdx?_toArray, List.findIdx?_map]
      unfold placeG
      have all : ∀ y ∈ xs, (Value.isStr (entG w y).key x) = decide (y.1 = .text x) := fun y hy => isStr_key (his y hy)
      clear ea he hsz uniq hsome hnone haskey hmem hany hst plain hn his h hd ho hkey
      induction xs with
      | nil => rfl
      | cons y ys ih =>
        rw [List.findIdx?_cons, List.findIdx?_cons, ih fun z hz => all z (List.mem_cons_of_mem _ hz)]
        have z := all y List.mem_cons_self
        show (if Value.isStr (entG w y).key x = true then _ else _) = _
        rw [z]
    unfold foundByValue
    rw [same]
    cases hf : placeG xs (.text x) with
    | none =>
      rw [hf] at h
      exact wpAny_pure h
    | some i =>
      rw [hf] at h
      obtain ⟨y, h1, h2, _⟩ := placeG_some hf
      have hex : es[i]? = some (entG w y) := by rw [entG_at he i, h1]; rfl
      have hib := his y (List.mem_of_getElem? h1)
      simp only [hex]
      refine wpAny_bind (wpAny_dictEpoch ho hd (wpAny_bind (eqG hu hib hkey (wpAny_bind (wpAny_dictEpoch ho hd ?_)))))
      show wpAny _ _ (if (ep != ep) = true then _ else _) _ E _
      rw [if_neg (by simp), decide_eq_true h2]
      exact wpAny_bind (wpAny_rule (wpAny_pure h))
  unfold dictFind
  try with_reducible refine wpAny_holding ?_
  refine wpAny_bind (wpAny_dictEntries ho hd ?_)
  obtain ⟨nk, hnk⟩ : ∃ nk : Ent → Prop, ∀ x, nk x ↔ x.1 ≠ k := ⟨_, fun _ => Iff.rfl⟩
  obtain ⟨pl, hpl⟩ : ∃ pl, placeG xs k = pl := ⟨_, rfl⟩
  have key := hkey.1
  cases key
  case' text x t =>
    dsimp only
    by_cases hs : (es.all fun e => isExactStrKey e.key) = true
    · rw [if_pos hs]
      exact texts x t rfl
    rw [if_neg hs]
  all_goals try dsimp only
  all_goals refine iteG (fun _ => plain) fun _ => ?_
  all_goals (first | rw [if_neg (hany _ rfl)] | skip)
  all_goals refine iteG (fun _ => ?_) fun _ => ?_
  all_goals (first | refine wpAny_bind (wpAny_pure ?_) | refine wpAny_bind (tellsG hkey hst ?_))
  all_goals
    rw [if_neg (by simp)]
    refine wpAny_bind ?_
    refine wpAny_forIn_list _
      (fun l b t => t = s ∧ ∃ i hit, b = (none, hit) ∧ l = (List.range' i (es.size - i)).filter (fun i => (es[i]?.map (·.hash)) == some (_root_.PySem.NestedKey.hash w _)) ∧ i ≤ es.size ∧
        ((hit = none ∧ ∀ j x, j < i → xs[j]? = some x → nk x) ∨ ∃ j, hit = some j ∧ j < i ∧ pl = some j)) _ ?_ ?_ _ _
      ⟨rfl, 0, none, rfl, by rw [placesWithHash, List.range_eq_range', Nat.sub_zero], Nat.zero_le _, .inl ⟨rfl, fun _ _ h => absurd h (Nat.not_lt_zero _)⟩⟩
    · rintro x l b t ⟨rfl, i, hit, rfl, hr, hi, hH⟩
      obtain ⟨hix, hxn, hpx, hskip, hrest⟩ := filter_range'_cons _ _ _ _ _ hr.symm
      have hlt : x < es.size := by omega
      obtain ⟨y, hy⟩ : ∃ y, xs[x]? = some y := ⟨xs[x]'(by rw [← hsz]; exact hlt), List.getElem?_eq_getElem _⟩
      have hib := his y (List.mem_of_getElem? hy)
      have hex : es[x]? = some (entG w y) := by rw [entG_at he x, hy]; rfl
      have upto : (hit = none ∧ ∀ j z, j < x → xs[j]? = some z → nk z) ∨ ∃ j, hit = some j ∧ j < x ∧ pl = some j := by
        rcases hH with ⟨h0, hno⟩ | ⟨j, h1, hji, hj⟩
        · refine .inl ⟨h0, fun j z hjx hz => ?_⟩
          rcases Nat.lt_or_ge j i with g | g
          · exact hno j z g hz
          · refine (hnk z).mpr fun e => ?_
            have q := hskip j g hjx
            rw [haskey hz e] at q
            cases q
        · exact .inr ⟨j, h1, by omega, hj⟩
      have stays : nk y → ((hit = none ∧ ∀ j z, j < x + 1 → xs[j]? = some z → nk z) ∨ ∃ j, hit = some j ∧ j < x + 1 ∧ pl = some j) := fun ny => by
        rcases upto with ⟨h0, hno⟩ | ⟨j, h1, hji, hj⟩
        · refine .inl ⟨h0, fun j z hjx hz => ?_⟩
          rcases Nat.lt_or_ge j x with g | g
          · exact hno j z g hz
          · have q : j = x := by omega
            subst q
            rw [hy] at hz
            cases hz
            exact ny
        · exact .inr ⟨j, h1, by omega, hj⟩
      have hrest' := hrest
      rw [show i + (es.size - i) - (x + 1) = es.size - (x + 1) by omega] at hrest'
      rw [hex]
      dsimp only
      refine iteG (fun hh => ?_) fun hh => ?_
      · refine wpAny_bind (wpAny_dictEpoch ho hd (wpAny_bind (eqG hu hib hkey (wpAny_bind (wpAny_dictEpoch ho hd ?_)))))
        show wpAny _ _ (if (ep != ep) = true then _ else _) _ E _
        rw [if_neg (by simp)]
        by_cases e : nk y
        · rw [decide_eq_false ((hnk y).mp e)]
          simp only [Bool.false_eq_true, if_false]
          refine wpAny_bind (wpAny_rule ?_)
          first | rw [if_neg (by simp)] | skip
          first
            | exact wpAny_pure ⟨rfl, x + 1, hit, rfl, hrest', hlt, stays e⟩
            | exact wpAny_bind (wpAny_pure (wpAny_pure ⟨rfl, x + 1, hit, rfl, hrest', hlt, stays e⟩))
        · have ey : y.1 = _ := Classical.byContradiction fun z => e ((hnk y).mpr z)
          have here : pl = some x := hpl.symm.trans (hsome hy ey)
          rw [decide_eq_true ey]
          rcases upto with ⟨rfl, _⟩ | ⟨j, _, hjx, hj⟩
          · simp only [Option.isSome_none, Bool.false_eq_true, if_false, if_true]
            refine wpAny_bind (wpAny_rule ?_)
            split
            · refine wpAny_pure (wpAny_pure ?_)
              rw [hpl, here] at h
              exact h
            · exact wpAny_pure ⟨rfl, x + 1, some x, rfl, hrest', hlt, .inr ⟨x, rfl, Nat.lt_succ_self x, here⟩⟩
          · rw [hj] at here
            cases here
            exact absurd hjx (Nat.lt_irrefl _)
      · refine wpAny_pure ⟨rfl, x + 1, hit, rfl, hrest', hlt, stays ((hnk y).mpr fun e => ?_)⟩
        rw [show (entG w y).hash = NestedKey.hash w y.1 from rfl, e] at hh
        simp at hh
    · rintro b t ⟨rfl, i, hit, rfl, hr, hi, hH⟩
      have hall := fun j (h1 : i ≤ j) (h2 : j < es.size) => List.filter_eq_nil_iff.mp hr.symm j (List.mem_range'_1.mpr ⟨h1, by omega⟩)
      rw [hpl] at h
      rcases hH with ⟨rfl, hno⟩ | ⟨j, rfl, _, hj⟩
      · refine wpAny_pure ?_
        have z : pl = none := hpl.symm.trans (hnone fun j x hj e => ?_)
        · rw [z] at h
          exact h
        · rcases Nat.lt_or_ge j i with g | g
          · exact (hnk x).mp (hno j x g hj) e
          · exact absurd (haskey hj e) (hall j g (by rw [hsz]; exact (List.getElem?_eq_some_iff.mp hj).1))
      · rw [hj] at h
        exact wpAny_pure h
end
end L3
/-! L3, part b: data, expressions. -/
namespace L3
open PySem PySem.Spec PyProof.Rows L2
/-! ### values in the heap -/
/-- the world's hashes, the classes' places -/
structure Tx where
  w : World
  K : PySem.W.Frag
/-- a dict's record: its entries in their order -/
def RawD (w : World) (a : Addr) (es : List Ent) (ep : Nat) (h : Heap) : Prop := ((a == sysModules) = false ∧ es.length ≤ sizeLine) ∧ ∃ o xs, h.get? a = some o ∧ o.ExactDict ∧ o.data = .dict xs ep ∧ xs.toList = es.map (entG w)
mutual
/-- what v is as a key, where it may be one -/
def keyN : Val → Option NestedKey
  | .none => some .none
  | .int i => some (.num i)
  | .str x => some (.text x)
  | .tuple xs => (keyNs xs).map .tup
  | .bool _ => Option.none
  | .list _ => Option.none
  | .dict _ => Option.none
  | .obj _ _ => Option.none
def keyNs : List Val → Option (List NestedKey)
  | [] => some []
  | x :: xs => match keyN x, keyNs xs with
    | some y, some ys => some (y :: ys)
    | _, _ => Option.none
end
variable {T : Tx}
mutual
/-- x stands for the value v: all that it leads to is tracked in H -/
inductive Dt (T : Tx) (H : Hp) : V → Val → Prop
  | non : Dt T H .non .none
  | bl (b : Bool) : Dt T H (.bl b) (.bool b)
  | int (i : Int) : Dt T H (.int i) (.int i)
  | str (x : Str) : Dt T H (.str x) (.str x)
  | lst {a : Addr} {xs : List V} {ds : List Val} : H a = some (.lst xs) → DtAll T H xs ds → Dt T H (.ref a) (.list ds)
  | tup {a : Addr} {xs : List V} {ds : List Val} : H a = some (.tup xs) → DtAll T H xs ds → Dt T H (.ref a) (.tuple ds)
  | dic {a : Addr} {es : List Ent} {ep : Nat} {kvs : List (Val × Val)} : H a = some (.ext (RawD T.w a es ep)) → (es.map (·.1)).Nodup → DtEnt T H es kvs → Dt T H (.ref a) (.dict kvs)
  | obj {a dx : Addr} {C : Str} {xs : List (Str × V)} {fs : List (Str × Val)} : H a = some (.ins (He.ga T.K C) dx xs) → DtFld T H xs fs → Dt T H (.ref a) (.obj C fs)
inductive DtAll (T : Tx) (H : Hp) : List V → List Val → Prop
  | nil : DtAll T H [] []
  | cons {v : V} {vs : List V} {d : Val} {ds : List Val} : Dt T H v d → DtAll T H vs ds → DtAll T H (v :: vs) (d :: ds)
inductive DtEnt (T : Tx) (H : Hp) : List Ent → List (Val × Val) → Prop
  | nil : DtEnt T H [] []
  | cons {n : NestedKey} {ku vu : Value} {kx vx : V} {k v : Val} {es : List Ent} {kvs : List (Val × Val)} : RelV kx ku → RelV vx vu → Dt T H kx k → Dt T H vx v → keyN k = some n → n.depth ≤ 8 → DtEnt T H es kvs → DtEnt T H ((n, ku, vu) :: es) ((k, v) :: kvs)
inductive DtFld (T : Tx) (H : Hp) : List (Str × V) → List (Str × Val) → Prop
  | nil : DtFld T H [] []
  | cons {f : Str} {x : V} {v : Val} {xs : List (Str × V)} {fs : List (Str × Val)} : Dt T H x v → DtFld T H xs fs → DtFld T H ((f, x) :: xs) ((f, v) :: fs)
end
mutual
theorem dt_same {H H' : Hp} (e : Same H H') : ∀ (d : Val) (v : V), Dt T H v d → Dt T H' v d
  | .none, _, h => by cases h; exact .non
  | .bool b, _, h => by cases h; exact .bl b
  | .int i, _, h => by cases h; exact .int i
  | .str x, _, h => by cases h; exact .str x
  | .list ds, _, h => by
    cases h with
    | lst hs ha => exact .lst (e _ _ hs) (dtAll_same e ds _ ha)
  | .tuple ds, _, h => by
    cases h with
    | tup hs ha => exact .tup (e _ _ hs) (dtAll_same e ds _ ha)
  | .dict kvs, _, h => by
    cases h with
    | dic hs hn ha => exact .dic (e _ _ hs) hn (dtEnt_same e kvs _ ha)
  | .obj C fs, _, h => by
    cases h with
    | obj hs ha => exact .obj (e _ _ hs) (dtFld_same e fs _ ha)
theorem dtAll_same {H H' : Hp} (e : Same H H') : ∀ (ds : List Val) (vs : List V), DtAll T H vs ds → DtAll T H' vs ds
  | [], _, h => by cases h; exact .nil
  | d :: ds, _, h => by
    cases h with
    | cons h1 h2 => exact .cons (dt_same e d _ h1) (dtAll_same e ds _ h2)
theorem dtEnt_same {H H' : Hp} (e : Same H H') : ∀ (ds : List (Val × Val)) (es : List Ent), DtEnt T H es ds → DtEnt T H' es ds
  | [], _, h => by cases h; exact .nil
  | (k, v) :: ds, _, h => by
    cases h with
    | cons r1 r2 h1 h2 kn kd h3 => exact .cons r1 r2 (dt_same e k _ h1) (dt_same e v _ h2) kn kd (dtEnt_same e ds _ h3)
theorem dtFld_same {H H' : Hp} (e : Same H H') : ∀ (ds : List (Str × Val)) (xs : List (Str × V)), DtFld T H xs ds → DtFld T H' xs ds
  | [], _, h => by cases h; exact .nil
  | (k, v) :: ds, _, h => by
    cases h with
    | cons h1 h3 => exact .cons (dt_same e v _ h1) (dtFld_same e ds _ h3)
end
theorem pys_cons {d : Val} {ds : List Val} {ps : List PyData} (h : Val.pys (d :: ds) = some ps) : ∃ p qs, ps = p :: qs ∧ d.py = some p ∧ Val.pys ds = some qs := by
  unfold Val.pys at h
  cases h1 : d.py with
  | none => rw [h1] at h; cases h
  | some p =>
    cases h2 : Val.pys ds with
    | none => rw [h1, h2] at h; cases h
    | some qs =>
      rw [h1, h2] at h
      cases h
      exact ⟨p, qs, rfl, rfl, rfl⟩
mutual
theorem dt_dp (K : PySem.W.Frag) {H : Hp} : ∀ (d : Val) (v : V) (p : PyData), Dt T H v d → d.py = some p → Dp K H v p
  | .none, _, p, h, e => by cases h; cases e; exact .non
  | .bool b, _, p, h, e => by cases h; cases e; exact .bl b
  | .int i, _, p, h, e => by cases h; cases e; exact .int i
  | .str x, _, p, h, e => by cases h; cases e; exact .str x
  | .list ds, _, p, h, e => by
    cases h with
    | lst hs ha =>
      unfold Val.py at e
      cases q : Val.pys ds with
      | none => rw [q] at e; cases e
      | some ps =>
        rw [q] at e
        cases e
        exact .lst (.inl (.inl hs)) (dtAll_dp K ds _ ps ha q)
  | .tuple ds, _, p, h, e => by
    cases h with
    | tup hs ha =>
      unfold Val.py at e
      cases q : Val.pys ds with
      | none => rw [q] at e; cases e
      | some ps =>
        rw [q] at e
        cases e
        exact .tup (.inl (.inl hs)) (dtAll_dp K ds _ ps ha q)
  | .dict _, _, p, h, e => by cases e
  | .obj _ _, _, p, h, e => by cases e
theorem dtAll_dp (K : PySem.W.Frag) {H : Hp} : ∀ (ds : List Val) (vs : List V) (ps : List PyData), DtAll T H vs ds → Val.pys ds = some ps → DpAll K H vs ps
  | [], _, ps, h, e => by
    cases h
    cases e
    exact .nil
  | d :: ds, _, ps, h, e => by
    cases h with
    | cons h1 h2 =>
      obtain ⟨p, qs, rfl, e1, e2⟩ := pys_cons e
      exact .cons (dt_dp K d _ p h1 e1) (dtAll_dp K ds _ qs h2 e2)
end
section
theorem DtAll.length {H : Hp} : ∀ {vs : List V} {ds : List Val}, DtAll T H vs ds → vs.length = ds.length
  | [], [], _ => rfl
  | _ :: _, [], h => by cases h
  | [], _ :: _, h => by cases h
  | _ :: vs, _ :: ds, h => by
    cases h with
    | cons _ h2 => simp [DtAll.length h2]
theorem DtAll.get {H : Hp} : ∀ {vs : List V} {ds : List Val} {i : Nat} {d : Val}, DtAll T H vs ds → ds[i]? = some d → ∃ v, vs[i]? = some v ∧ Dt T H v d
  | _, [], _, _, _, e => by simp at e
  | [], _ :: _, _, _, h, _ => by cases h
  | _ :: vs, _ :: ds, 0, d, h, e => by
    cases h with
    | cons h1 _ =>
      have e' : _ = d := Option.some.inj (by simpa using e)
      subst e'
      exact ⟨_, rfl, h1⟩
  | _ :: vs, _ :: ds, i + 1, d, h, e => by
    cases h with
    | cons _ h2 =>
      obtain ⟨v, e1, q⟩ := DtAll.get (i := i) h2 (by simpa using e)
      exact ⟨v, by simpa using e1, q⟩
theorem DtAll.getV {H : Hp} {vs : List V} {ds : List Val} {i : Nat} {v : V} (h : DtAll T H vs ds) (e : vs[i]? = some v) : ∃ d, ds[i]? = some d ∧ Dt T H v d := by
  have hi : i < vs.length := (List.getElem?_eq_some_iff.mp e).1
  rw [h.length] at hi
  obtain ⟨v', e1, q⟩ := h.get (List.getElem?_eq_getElem hi)
  rw [e] at e1
  cases e1
  exact ⟨_, List.getElem?_eq_getElem hi, q⟩
theorem DtAll.append {H : Hp} : ∀ {vs ws : List V} {ds es : List Val}, DtAll T H vs ds → DtAll T H ws es → DtAll T H (vs ++ ws) (ds ++ es)
  | [], _, [], _, _, h => h
  | _ :: _, _, [], _, h, _ => by cases h
  | [], _, _ :: _, _, h, _ => by cases h
  | _ :: vs, _, _ :: ds, _, h, g => by
    cases h with
    | cons h1 h2 => exact .cons h1 (DtAll.append h2 g)
theorem DtAll.take {H : Hp} : ∀ (n : Nat) {vs : List V} {ds : List Val}, DtAll T H vs ds → DtAll T H (vs.take n) (ds.take n)
  | 0, _, _, _ => by simpa using DtAll.nil
  | n + 1, [], [], _ => .nil
  | n + 1, _ :: _, [], h => by cases h
  | n + 1, [], _ :: _, h => by cases h
  | n + 1, _ :: vs, _ :: ds, h => by
    cases h with
    | cons h1 h2 => exact .cons h1 (DtAll.take n h2)
theorem DtAll.drop {H : Hp} : ∀ (n : Nat) {vs : List V} {ds : List Val}, DtAll T H vs ds → DtAll T H (vs.drop n) (ds.drop n)
  | 0, _, _, h => h
  | n + 1, [], [], _ => .nil
  | n + 1, _ :: _, [], h => by cases h
  | n + 1, [], _ :: _, h => by cases h
  | n + 1, _ :: vs, _ :: ds, h => by
    cases h with
    | cons h1 h2 => exact DtAll.drop n h2
theorem DtAll.snoc {H : Hp} {vs : List V} {ds : List Val} {v : V} {d : Val} (h : DtAll T H vs ds) (g : Dt T H v d) : DtAll T H (vs ++ [v]) (ds ++ [d]) := h.append (.cons g .nil)
theorem DtAll.reverse {H : Hp} : ∀ {vs : List V} {ds : List Val}, DtAll T H vs ds → DtAll T H vs.reverse ds.reverse
  | [], [], _ => .nil
  | _ :: _, [], h => by cases h
  | [], _ :: _, h => by cases h
  | _ :: vs, _ :: ds, h => by
    cases h with
    | cons h1 h2 =>
      rw [List.reverse_cons, List.reverse_cons]
      exact (DtAll.reverse h2).snoc h1
theorem DtAll.ints {H : Hp} : ∀ {vs : List V} {ns : List Int}, DtAll T H vs (ns.map .int) → vs = ns.map V.int
  | [], [], _ => rfl
  | _ :: _, [], h => by cases h
  | [], _ :: _, h => by cases h
  | _ :: vs, n :: ns, h => by
    cases h with
    | cons h1 h2 =>
      cases h1
      rw [DtAll.ints h2]
      rfl
theorem DtAll.ofInts {H : Hp} : ∀ (ns : List Int), DtAll T H (ns.map V.int) (ns.map .int)
  | [] => .nil
  | n :: ns => .cons (.int n) (DtAll.ofInts ns)
theorem DtAll.bools {H : Hp} : ∀ {vs : List V} {ns : List Bool}, DtAll T H vs (ns.map .bool) → vs = ns.map V.bl
  | [], [], _ => rfl
  | _ :: _, [], h => by cases h
  | [], _ :: _, h => by cases h
  | _ :: vs, n :: ns, h => by
    cases h with
    | cons h1 h2 =>
      cases h1
      rw [DtAll.bools h2]
      rfl
theorem DtAll.strs {H : Hp} : ∀ {vs : List V} {ns : List Str}, DtAll T H vs (ns.map .str) → vs = ns.map V.str
  | [], [], _ => rfl
  | _ :: _, [], h => by cases h
  | [], _ :: _, h => by cases h
  | _ :: vs, n :: ns, h => by
    cases h with
    | cons h1 h2 =>
      cases h1
      rw [DtAll.strs h2]
      rfl
theorem DtAll.ofStrs {H : Hp} : ∀ (ns : List Str), DtAll T H (ns.map V.str) (ns.map .str)
  | [] => .nil
  | n :: ns => .cons (.str n) (DtAll.ofStrs ns)
/-- v, all frozen beneath its top, which stands in H -/
def D1 (T : Tx) (F H : Hp) (x : V) : Val → Prop
  | .list ds => ∃ a vs, x = .ref a ∧ H a = some (.lst vs) ∧ DtAll T F vs ds
  | .dict kvs => ∃ a es ep, x = .ref a ∧ H a = some (.ext (RawD T.w a es ep)) ∧ (es.map (·.1)).Nodup ∧ DtEnt T F es kvs
  | .obj C fs => ∃ a dx xs, x = .ref a ∧ H a = some (.ins (He.ga T.K C) dx xs) ∧ DtFld T F xs fs
  | v => Dt T F x v
theorem D1.mono {F H F' H' : Hp} {x : V} (f : Same F F') (s : Same H H') : ∀ {v : Val}, D1 T F H x v → D1 T F' H' x v
  | .list ds, ⟨a, vs, e, q, h⟩ => ⟨a, vs, e, s _ _ q, dtAll_same f _ _ h⟩
  | .dict kvs, ⟨a, es, ep, e, q, n, h⟩ => ⟨a, es, ep, e, s _ _ q, n, dtEnt_same f _ _ h⟩
  | .obj C fs, ⟨a, dx, xs, e, q, h⟩ => ⟨a, dx, xs, e, s _ _ q, dtFld_same f _ _ h⟩
  | .none, h => dt_same f _ _ h
  | .bool _, h => dt_same f _ _ h
  | .int _, h => dt_same f _ _ h
  | .str _, h => dt_same f _ _ h
  | .tuple _, h => dt_same f _ _ h
theorem D1.of {F H : Hp} {x : V} (f : Same F H) : ∀ {v : Val}, Dt T F x v → D1 T F H x v
  | .list ds, h => by cases h with | lst a b => exact ⟨_, _, rfl, f _ _ a, b⟩
  | .dict kvs, h => by cases h with | dic a n b => exact ⟨_, _, _, rfl, f _ _ a, n, b⟩
  | .obj C fs, h => by cases h with | obj a b => exact ⟨_, _, _, rfl, f _ _ a, b⟩
  | .none, h => h
  | .bool _, h => h
  | .int _, h => h
  | .str _, h => h
  | .tuple _, h => h
/-- as a whole -/
theorem D1.dt {F H : Hp} {x : V} (f : Same F H) : ∀ {v : Val}, D1 T F H x v → Dt T H x v
  | .list ds, ⟨a, vs, e, q, h⟩ => by rw [e]; exact .lst q (dtAll_same f _ _ h)
  | .dict kvs, ⟨a, es, ep, e, q, n, h⟩ => by rw [e]; exact .dic q n (dtEnt_same f _ _ h)
  | .obj C fs, ⟨a, dx, xs, e, q, h⟩ => by rw [e]; exact .obj q (dtFld_same f _ _ h)
  | .none, h => dt_same f _ _ h
  | .bool _, h => dt_same f _ _ h
  | .int _, h => dt_same f _ _ h
  | .str _, h => dt_same f _ _ h
  | .tuple _, h => dt_same f _ _ h
/-- frozen -/
def rD (T : Tx) (d : Val) : Rp := ⟨fun v F _ _ => Dt T F v d, fun f _ _ h => dt_same f _ _ h⟩
instance {d : Val} : Fz (rD T d) := ⟨fun h => h⟩
/-- its top stands still -/
def bV (T : Tx) (d : Val) : Rp := ⟨fun v F G _ => D1 T F G v d, fun f g _ h => h.mono f g⟩
instance {d : Val} : Sta (bV T d) := ⟨fun h => h⟩
/-- as it stands now -/
def hV (T : Tx) (d : Val) : Rp := ⟨fun v F _ H => D1 T F H v d, fun f _ s h => h.mono f s⟩
abbrev bD (T : Tx) (ds : List Val) : Rp := bV T (.list ds)
abbrev hD (T : Tx) (ds : List Val) : Rp := hV T (.list ds)
/-- what has a top of its own -/
def Val.own : Val → Bool
  | .list _ => true
  | .dict _ => true
  | .obj _ _ => true
  | _ => false
theorem D1.ref {F H : Hp} {x : V} : ∀ {v : Val}, v.own = true → D1 T F H x v → ∃ a o, x = .ref a ∧ H a = some o ∧ NT o ∧ ∀ F' H', Same F F' → H' a = some o → D1 T F' H' x v
  | .list ds, _, ⟨a, vs, e, q, h⟩ => ⟨a, _, e, q, (fun _ z => HO.noConfusion z), fun F' H' f s => ⟨a, vs, e, s, dtAll_same f _ _ h⟩⟩
  | .dict kvs, _, ⟨a, es, ep, e, q, n, h⟩ => ⟨a, _, e, q, (fun _ z => HO.noConfusion z), fun F' H' f s => ⟨a, es, ep, e, s, n, dtEnt_same f _ _ h⟩⟩
  | .obj C fs, _, ⟨a, dx, xs, e, q, h⟩ => ⟨a, _, e, q, (fun _ z => HO.noConfusion z), fun F' H' f s => ⟨a, dx, xs, e, s, dtFld_same f _ _ h⟩⟩
/-- an own thing -/
def cV (T : Tx) (d : Val) : Cp where
  C := fun l fp H F _ => fp = [l] ∧ d.own = true ∧ D1 T F H (.ref l) d
  mono := fun {l fp F G H F' G' H'} f _ k ⟨e, w, h⟩ => ⟨e, w, by
    subst e
    obtain ⟨a, o, ea, q, _, z⟩ := h.ref w
    cases ea
    exact z F' H' f ((k _ List.mem_cons_self).trans q)⟩
  there := fun {l fp F G H} ⟨e, w, h⟩ a ha => by
    subst e
    rw [List.mem_singleton] at ha
    subst ha
    obtain ⟨b, o, eb, q, n, _⟩ := h.ref w
    cases eb
    exact ⟨o, q, n⟩
  det := fun _ ⟨e, _⟩ ⟨e', _⟩ => e'.trans e.symm
abbrev cD (T : Tx) (ds : List Val) : Cp := cV T (.list ds)
theorem int_inv {H : Hp} {v : V} {i : Int} (h : Dt T H v (.int i)) : v = .int i := by cases h; rfl
theorem bool_inv {H : Hp} {v : V} {i : Bool} (h : Dt T H v (.bool i)) : v = .bl i := by cases h; rfl
theorem str_inv {H : Hp} {v : V} {i : Str} (h : Dt T H v (.str i)) : v = .str i := by cases h; rfl
theorem non_inv {H : Hp} {v : V} (h : Dt T H v .none) : v = .non := by cases h; rfl
theorem tup_inv {H : Hp} {v : V} {ds : List Val} (h : Dt T H v (.tuple ds)) : ∃ a vs, v = .ref a ∧ H a = some (.tup vs) ∧ DtAll T H vs ds := by
  cases h with
  | tup s q => exact ⟨_, _, rfl, s, q⟩
theorem lst_inv {H : Hp} {v : V} {ds : List Val} (h : Dt T H v (.list ds)) : ∃ a vs, v = .ref a ∧ H a = some (.lst vs) ∧ DtAll T H vs ds := by
  cases h with
  | lst s q => exact ⟨_, _, rfl, s, q⟩
end
/-! ### the judgements -/
section
variable {X : Cx} {Γ : List Sl} 
/-- e gives something that stands for R; nothing that was tracked changes -/
def Ev (X : Cx) (Γ : List Sl) (e : Expr) (R : Rp) : Prop := ∀ (W : Wd) (gh : Gh) (σ : L2.St) (F G H : Hp), En W gh Γ σ F G H → ∀ Q : VK,
  (∀ v F' G' H', En W gh Γ σ F' G' H' → Gr F G H F' G' H' → R.P v F' G' H' → Q v H') → EW X e σ H Q
/-- e gives a new object, nobody else's -/
def EvO (X : Cx) (Γ : List Sl) (e : Expr) (C : Cp) : Prop := ∀ (W : Wd) (gh : Gh) (σ : L2.St) (F G H : Hp), En W gh Γ σ F G H → ∀ Q : VK,
  (∀ l fo F' G' H', En W gh Γ σ F' G' H' → Gr F G H F' G' H' → (∀ a ∈ fo, H a = none ∧ G' a = none) → C.C l fo H' F' G' → Q (.ref l) H') → EW X e σ H Q
def Tv (X : Cx) (Γ : List Sl) (e : Expr) (b : Bool) : Prop := ∀ (W : Wd) (gh : Gh) (σ : L2.St) (F G H : Hp), En W gh Γ σ F G H → ∀ Q : Bool → Hp → Prop,
  (∀ F' G' H', En W gh Γ σ F' G' H' → Gr F G H F' G' H' → Q b H') → TW X e σ H Q
def Wv (X : Cx) (Γ : List Sl) (e : Expr) (b : Bool) : Prop := ∀ (W : Wd) (gh : Gh) (σ : L2.St) (F G H : Hp), En W gh Γ σ F G H → ∀ Q : Bool → Hp → Prop,
  (∀ F' G' H', En W gh Γ σ F' G' H' → Gr F G H F' G' H' → Q b H') → WW X e σ H Q
def EvA (X : Cx) (Γ : List Sl) (es : List Expr) (Rs : List Rp) : Prop := ∀ (W : Wd) (gh : Gh) (σ : L2.St) (F G H : Hp), En W gh Γ σ F G H → ∀ Q : List V → Hp → Prop,
  (∀ vs F' G' H', En W gh Γ σ F' G' H' → Gr F G H F' G' H' → Paired (fun v (R : Rp) => R.P v F' G' H') vs Rs → Q vs H') → AW X es σ H Q
theorem ev_imp {e : Expr} {R R' : Rp} (h : Ev X Γ e R) (k : ∀ v F G H, Same F G → Same G H → R.P v F G H → R'.P v F G H) : Ev X Γ e R' := fun W gh σ F G H E Q q =>
  h W gh σ F G H E Q fun v F' G' H' E' x0 p => q v F' G' H' E' x0 (k v F' G' H' E'.fg E'.gH p)
theorem ev_conv {e : Expr} {R R' : Rp} (h : Ev X Γ e R) (k : R = R') : Ev X Γ e R' := k ▸ h
theorem ev_d {e : Expr} {d d' : Val} (h : Ev X Γ e (rD T d)) (k : d = d') : Ev X Γ e (rD T d') := k ▸ h
theorem tv_b {e : Expr} {d d' : Bool} (h : Tv X Γ e d) (k : d = d') : Tv X Γ e d' := k ▸ h
theorem tv_b' {e : Expr} {d d' : Bool} (h : Wv X Γ e d) (k : d = d') : Wv X Γ e d' := k ▸ h
/-- a frozen list, one that stands still, an own one, as they stand now -/
theorem ev_h {e : Expr} {ds : List Val} (h : Ev X Γ e (rD T (.list ds))) : Ev X Γ e (hD T ds) := ev_imp h fun v F G H f g p => by
  obtain ⟨a, vs, e1, s, q⟩ := lst_inv p
  exact ⟨a, vs, e1, (f.trans g) _ _ s, q⟩
theorem ev_hb {e : Expr} {ds : List Val} (h : Ev X Γ e (bD T ds)) : Ev X Γ e (hD T ds) := ev_imp h fun v F G H f g ⟨a, vs, e1, s, q⟩ => ⟨a, vs, e1, g _ _ s, q⟩
theorem ev_b {e : Expr} {ds : List Val} (h : Ev X Γ e (rD T (.list ds))) : Ev X Γ e (bD T ds) := ev_imp h fun v F G H f g p => by
  obtain ⟨a, vs, e1, s, q⟩ := lst_inv p
  exact ⟨a, vs, e1, f _ _ s, q⟩
theorem ev_hv {e : Expr} {d : Val} (h : Ev X Γ e (rD T d)) : Ev X Γ e (hV T d) := ev_imp h fun v F G H f g p => D1.of (f.trans g) p
theorem ev_hbv {e : Expr} {d : Val} (h : Ev X Γ e (bV T d)) : Ev X Γ e (hV T d) := ev_imp h fun v F G H f g p => D1.mono (Same.refl _) g p
theorem ev_bv {e : Expr} {d : Val} (h : Ev X Γ e (rD T d)) : Ev X Γ e (bV T d) := ev_imp h fun v F G H f g p => D1.of f p
/-- an own thing is told by its one object -/
theorem own_one {d : Val} {l : Addr} {fo : List Addr} {F G H : Hp} (h : (cV T d).C l fo H F G) : fo = [l] ∧ (hV T d).P (.ref l) F G H ∧ ∃ o, H l = some o ∧ ∀ F' G' H', Same F F' → F' l = some o → (rD T d).P (.ref l) F' G' H' := by
  obtain ⟨e, w, p⟩ := h
  obtain ⟨a, o, ea, q, _, z⟩ := p.ref w
  cases ea
  exact ⟨e, p, o, q, fun F' G' H' f s => (z F' F' f s).dt (Same.refl _)⟩
theorem ev_ho {e : Expr} {d : Val} (h : EvO X Γ e (cV T d)) : Ev X Γ e (hV T d) := fun W gh σ F G H E Q q =>
  h W gh σ F G H E Q fun l fo F' G' H' E' x0 hn p => q _ F' G' H' E' x0 (own_one p).2.1
/-- a new object is frozen -/
theorem ev_fz {e : Expr} {d : Val} (h : EvO X Γ e (cV T d)) : Ev X Γ e (rD T d) := fun W gh σ F G H E Q q =>
  h W gh σ F G H E Q fun l fo F' G' H' E' x0 hn p => by
    obtain ⟨ef, _, o, ho, z⟩ := own_one p
    subst ef
    obtain ⟨hl, gl⟩ := hn l List.mem_cons_self
    have fl := E'.fg.free gl
    exact q (.ref l) _ _ H' (E'.freeze ho gl (E.notOwn x0.s hl)) (x0.frz hl fl gl) (z _ _ _ (same_upd fl) upd_same)
/-! names, constants -/
theorem ev_var {x : Str} {pos : Pos} (i : Nat) {R : Rp} {h : Sta R} (hi : Γ[i]? = some (.vl R h)) (hN : X.N[i]? = some x) (hv : Vis X.env.scope x) (hd : (x == ("__debug__" : Str)) = false := by decide)
    (hcd : (x == ("__classdict__" : Str)) = false := by decide) : Ev X Γ (.Name x pos) R := fun W gh σ F G H E Q q => by
  obtain ⟨v, e, p⟩ := E.vl i R h hi
  exact EW.of (pe_var hN hv hd hcd) ⟨v, e, q v F G H E (Gr.refl _ _ _) p⟩
/-- an own thing's name, as it stands now -/
theorem ev_varO {x : Str} {pos : Pos} (i : Nat) {d : Val} (hi : Γ[i]? = some (.ow (cV T d))) (hN : X.N[i]? = some x) (hv : Vis X.env.scope x) (hd : (x == ("__debug__" : Str)) = false := by decide)
    (hcd : (x == ("__classdict__" : Str)) = false := by decide) : Ev X Γ (.Name x pos) (hV T d) := fun W gh σ F G H E Q q => by
  obtain ⟨fp, ow, _⟩ := E.ow
  obtain ⟨l, e, gl, p⟩ := ow i _ hi
  exact EW.of (pe_var hN hv hd hcd) ⟨_, e, q _ F G H E (Gr.refl _ _ _) (own_one p).2.1⟩
theorem ev_int {i : Int} {j : Nat} {pos : Pos} : Ev X Γ (.Constant (.int i) j pos) (rD T (.int i)) := fun W gh σ F G H E Q q => EW.of pe_int (q _ F G H E (Gr.refl _ _ _) (.int i))
theorem ev_bl {b : Bool} {j : Nat} {pos : Pos} : Ev X Γ (.Constant (.bool b) j pos) (rD T (.bool b)) := fun W gh σ F G H E Q q => EW.of pe_bl (q _ F G H E (Gr.refl _ _ _) (.bl b))
theorem ev_str {x : Str} {j : Nat} {pos : Pos} : Ev X Γ (.Constant (.str x) j pos) (rD T (.str x)) := fun W gh σ F G H E Q q => EW.of pe_str (q _ F G H E (Gr.refl _ _ _) (.str x))
theorem ev_non {j : Nat} {pos : Pos} : Ev X Γ (.Constant .none j pos) (rD T .none) := fun W gh σ F G H E Q q => EW.of pe_non (q _ F G H E (Gr.refl _ _ _) .non)
theorem ev_gint {x : Str} {i : Int} {t : Tok} {pos : Pos} (hm : X.mg x = some (.int i t)) (hg : Gl X x) (hd : (x == ("__debug__" : Str)) = false := by decide) : Ev X Γ (.Name x pos) (rD T (.int i)) := fun W gh σ F G H E Q q =>
  EW.of (pe_glob (v := .int i) hg hm ⟨t, rfl⟩ hd) (q _ F G H E (Gr.refl _ _ _) (.int i))
theorem ev_gstr {x z : Str} {t : Tok} {pos : Pos} (hm : X.mg x = some (.str z t)) (hg : Gl X x) (hd : (x == ("__debug__" : Str)) = false := by decide) : Ev X Γ (.Name x pos) (rD T (.str z)) := fun W gh σ F G H E Q q =>
  EW.of (pe_glob (v := .str z) hg hm ⟨t, rfl⟩ hd) (q _ F G H E (Gr.refl _ _ _) (.str z))
/-! two operands, a value that makes nothing -/
section
variable {a b c : Expr} {pos : Pos}
theorem ev_seq {Ra Rb : Rp} (ha : Ev X Γ a Ra) (hb : Ev X Γ b Rb) {W : Wd} {gh : Gh} {σ : L2.St} {F G H : Hp} (E : En W gh Γ σ F G H) {R : V → V → Hp → Prop}
    (q : ∀ x y F' G' H', En W gh Γ σ F' G' H' → Gr F G H F' G' H' → Ra.P x F' G' H' → Rb.P y F' G' H' → R x y H') : EW X a σ H fun x H1 => EW X b σ H1 fun y H2 => R x y H2 :=
  ha W gh σ F G H E _ fun x F1 G1 H1 E1 x1 p1 => hb W gh σ F1 G1 H1 E1 _ fun y F2 G2 H2 E2 x2 p2 =>
    q x y F2 G2 H2 E2 (x1.trans x2) (Ra.mono x2.f x2.g x2.s p1) p2
theorem ev_op0 {op : Operator} {r : R2} {Ra Rb R : Rp} (ho : OpR X (binaryOp op) r) (ha : Ev X Γ a Ra) (hb : Ev X Γ b Rb)
    (k : ∀ x y F G H, Same F G → Same G H → Ra.P x F G H → Rb.P y F G H → ∃ v, R.P v F G H ∧ ∀ Q : VK, Q v H → r x y H Q) : Ev X Γ (.BinOp a op b pos) R := fun W gh σ F G H E Q q =>
  EW.of (pe_op ho pe_w pe_w) (ev_seq ha hb E fun x y F' G' H' E' x0 p1 p2 => by
    obtain ⟨v, p, z⟩ := k x y F' G' H' E'.fg E'.gH p1 p2
    exact z Q (q v F' G' H' E' x0 p))
theorem ev_cmp0 {op : CmpOp} {r : R2} {Ra Rb R : Rp} (ho : OpR X (compareOp op) r) (ha : Ev X Γ a Ra) (hb : Ev X Γ b Rb)
    (k : ∀ x y F G H, Same F G → Same G H → Ra.P x F G H → Rb.P y F G H → ∃ v, R.P v F G H ∧ ∀ Q : VK, Q v H → r x y H Q) (hm : behindInMarks op b = false) : Ev X Γ (.Compare a [op] [b] pos) R := fun W gh σ F G H E Q q =>
  EW.of (pe_cmpR ho pe_w pe_w hm) (ev_seq ha hb E fun x y F' G' H' E' x0 p1 p2 => by
    obtain ⟨v, p, z⟩ := k x y F' G' H' E'.fg E'.gH p1 p2
    exact z Q (q v F' G' H' E' x0 p))
theorem tv_cmp0 {op : CmpOp} {r : R2} {Ra Rb : Rp} {d : Bool} (ho : OpR X (compareOp op) r) (ha : Ev X Γ a Ra) (hb : Ev X Γ b Rb)
    (k : ∀ x y F G H, Same F G → Same G H → Ra.P x F G H → Rb.P y F G H → ∀ Q : VK, Q (.bl d) H → r x y H Q) (hm : behindInMarks op b = false) : Tv X Γ (.Compare a [op] [b] pos) d := fun W gh σ F G H E Q q =>
  TW.of (pt_cmpR ho pe_w pe_w hm) (ev_seq ha hb E fun x y F' G' H' E' x0 p1 p2 => k x y F' G' H' E'.fg E'.gH p1 p2 _ ⟨d, rfl, q F' G' H' E' x0⟩)
theorem ev_un0 {op : UnaryOp} {r : V → Hp → VK → Prop} {Ra R : Rp} (ho : UnR X (unaryOp op) r) (ha : Ev X Γ a Ra)
    (k : ∀ x F G H, Same F G → Same G H → Ra.P x F G H → ∃ v, R.P v F G H ∧ ∀ Q : VK, Q v H → r x H Q) : Ev X Γ (.UnaryOp op a pos) R := fun W gh σ F G H E Q q =>
  EW.of (pe_un ho pe_w) (ha W gh σ F G H E _ fun x F' G' H' E' x0 p1 => by
    obtain ⟨v, p, z⟩ := k x F' G' H' E'.fg E'.gH p1
    exact z Q (q v F' G' H' E' x0 p))
theorem ii {x y : V} {F H : Hp} {i j : Int} {f : Int → Int → V} {d : Val} {R : Rp} (p1 : Dt T F x (.int i)) (p2 : Dt T F y (.int j)) {r : VK → Prop} (z : ∀ Q : VK, Q (f i j) H → (∃ i' j', x = .int i' ∧ y = .int j' ∧ Q (f i' j') H) → r Q) : ∀ Q : VK, Q (f i j) H → r Q := fun Q q => by
  cases int_inv p1
  cases int_inv p2
  exact z Q q ⟨_, _, rfl, rfl, q⟩
theorem ev_add {i j : Int} (ha : Ev X Γ a (rD T (.int i))) (hb : Ev X Γ b (rD T (.int j))) : Ev X Γ (.BinOp a .Add b pos) (rD T (.int (i + j))) := ev_op0 op_add ha hb fun x y F G H f g p1 p2 => by
  cases int_inv p1
  cases int_inv p2
  exact ⟨_, .int _, fun Q q => ⟨_, _, rfl, rfl, q⟩⟩
theorem ev_sub {i j : Int} (ha : Ev X Γ a (rD T (.int i))) (hb : Ev X Γ b (rD T (.int j))) : Ev X Γ (.BinOp a .Sub b pos) (rD T (.int (i - j))) := ev_op0 op_sub ha hb fun x y F G H f g p1 p2 => by
  cases int_inv p1
  cases int_inv p2
  exact ⟨_, .int _, fun Q q => ⟨_, _, rfl, rfl, q⟩⟩
theorem ev_mul {i j : Int} (ha : Ev X Γ a (rD T (.int i))) (hb : Ev X Γ b (rD T (.int j))) (h : (-(2 ^ 64) < i ∧ i < 2 ^ 64) ∨ (-(2 ^ 64) < j ∧ j < 2 ^ 64)) : Ev X Γ (.BinOp a .Mult b pos) (rD T (.int (i * j))) := ev_op0 op_mul ha hb fun x y F G H f g p1 p2 => by
  cases int_inv p1
  cases int_inv p2
  exact ⟨_, .int _, fun Q q => ⟨_, _, rfl, rfl, h, q⟩⟩
theorem ev_mod {i j : Int} (ha : Ev X Γ a (rD T (.int i))) (hb : Ev X Γ b (rD T (.int j))) (h : 0 < j) : Ev X Γ (.BinOp a .Mod b pos) (rD T (.int (i % j))) := ev_op0 op_mod ha hb fun x y F G H f g p1 p2 => by
  cases int_inv p1
  cases int_inv p2
  exact ⟨_, .int _, fun Q q => ⟨_, _, rfl, rfl, h, q⟩⟩
theorem ev_fdiv {i j : Int} (ha : Ev X Γ a (rD T (.int i))) (hb : Ev X Γ b (rD T (.int j))) (h : 0 < j ∧ j < 1073741824) : Ev X Γ (.BinOp a .FloorDiv b pos) (rD T (.int (i / j))) := ev_op0 op_fdiv ha hb fun x y F G H f g p1 p2 => by
  cases int_inv p1
  cases int_inv p2
  exact ⟨_, .int _, fun Q q => ⟨_, _, rfl, rfl, h, q⟩⟩
theorem ev_pow {i j : Int} (ha : Ev X Γ a (rD T (.int i))) (hb : Ev X Γ b (rD T (.int j))) (h : 0 ≤ j ∧ j ≤ 1000000 ∧ i.natAbs < 2 ^ 64) : Ev X Γ (.BinOp a .Pow b pos) (rD T (.int (i ^ j.toNat))) := ev_op0 op_pow ha hb fun x y F G H f g p1 p2 => by
  cases int_inv p1
  cases int_inv p2
  exact ⟨_, .int _, fun Q q => ⟨_, _, rfl, rfl, h, q⟩⟩
theorem ev_neg {i : Int} (ha : Ev X Γ a (rD T (.int i))) : Ev X Γ (.UnaryOp .USub a pos) (rD T (.int (-i))) := ev_un0 un_neg ha fun x F G H f g p1 => by
  cases int_inv p1
  exact ⟨_, .int _, fun Q q => ⟨_, rfl, q⟩⟩
theorem ev_addS {i j : Str} (ha : Ev X Γ a (rD T (.str i))) (hb : Ev X Γ b (rD T (.str j))) (h : i.length + j.length ≤ sizeLine) : Ev X Γ (.BinOp a .Add b pos) (rD T (.str (i ++ j))) := ev_op0 op_add_str ha hb fun x y F G H f g p1 p2 => by
  cases str_inv p1
  cases str_inv p2
  exact ⟨_, .str _, fun Q q => ⟨_, _, rfl, rfl, h, q⟩⟩
/-! comparisons of ints -/
theorem rII {x y : V} {F H : Hp} {i j : Int} {p : Int → Int → Bool} (p1 : Dt T F x (.int i)) (p2 : Dt T F y (.int j)) : ∀ Q : VK, Q (.bl (p i j)) H → rI0 (fun i j => .bl (p i j)) x y H Q := fun Q q => by
  cases int_inv p1
  cases int_inv p2
  exact ⟨_, _, rfl, rfl, q⟩
theorem ev_lt {i j : Int} (ha : Ev X Γ a (rD T (.int i))) (hb : Ev X Γ b (rD T (.int j))) : Ev X Γ (.Compare a [.Lt] [b] pos) (rD T (.bool (decide (i < j)))) := ev_cmp0 op_lt ha hb (fun x y F G H f g p1 p2 => ⟨_, .bl _, rII (p := fun i j => decide (i < j)) p1 p2⟩) (nomark _)
theorem ev_le {i j : Int} (ha : Ev X Γ a (rD T (.int i))) (hb : Ev X Γ b (rD T (.int j))) : Ev X Γ (.Compare a [.LtE] [b] pos) (rD T (.bool (decide (i ≤ j)))) := ev_cmp0 op_le ha hb (fun x y F G H f g p1 p2 => ⟨_, .bl _, rII (p := fun i j => decide (i ≤ j)) p1 p2⟩) (nomark _)
theorem ev_gt {i j : Int} (ha : Ev X Γ a (rD T (.int i))) (hb : Ev X Γ b (rD T (.int j))) : Ev X Γ (.Compare a [.Gt] [b] pos) (rD T (.bool (decide (j < i)))) := ev_cmp0 op_gt ha hb (fun x y F G H f g p1 p2 => ⟨_, .bl _, rII (p := fun i j => decide (j < i)) p1 p2⟩) (nomark _)
theorem ev_ge {i j : Int} (ha : Ev X Γ a (rD T (.int i))) (hb : Ev X Γ b (rD T (.int j))) : Ev X Γ (.Compare a [.GtE] [b] pos) (rD T (.bool (decide (j ≤ i)))) := ev_cmp0 op_ge ha hb (fun x y F G H f g p1 p2 => ⟨_, .bl _, rII (p := fun i j => decide (j ≤ i)) p1 p2⟩) (nomark _)
theorem tv_lt {i j : Int} (ha : Ev X Γ a (rD T (.int i))) (hb : Ev X Γ b (rD T (.int j))) : Tv X Γ (.Compare a [.Lt] [b] pos) (decide (i < j)) := tv_cmp0 op_lt ha hb (fun x y F G H f g p1 p2 => rII (p := fun i j => decide (i < j)) p1 p2) (nomark _)
theorem tv_le {i j : Int} (ha : Ev X Γ a (rD T (.int i))) (hb : Ev X Γ b (rD T (.int j))) : Tv X Γ (.Compare a [.LtE] [b] pos) (decide (i ≤ j)) := tv_cmp0 op_le ha hb (fun x y F G H f g p1 p2 => rII (p := fun i j => decide (i ≤ j)) p1 p2) (nomark _)
theorem tv_gt {i j : Int} (ha : Ev X Γ a (rD T (.int i))) (hb : Ev X Γ b (rD T (.int j))) : Tv X Γ (.Compare a [.Gt] [b] pos) (decide (j < i)) := tv_cmp0 op_gt ha hb (fun x y F G H f g p1 p2 => rII (p := fun i j => decide (j < i)) p1 p2) (nomark _)
theorem tv_ge {i j : Int} (ha : Ev X Γ a (rD T (.int i))) (hb : Ev X Γ b (rD T (.int j))) : Tv X Γ (.Compare a [.GtE] [b] pos) (decide (j ≤ i)) := tv_cmp0 op_ge ha hb (fun x y F G H f g p1 p2 => rII (p := fun i j => decide (j ≤ i)) p1 p2) (nomark _)
/-! == and != of scalars: ints, texts, bools, None -/
def scalD : Val → Val → Option Bool
  | .int i, .int j => some (decide (i = j))
  | .str i, .str j => some (decide (i = j))
  | _, _ => none
theorem eqI {x y : V} {F H : Hp} {i j : Int} (p1 : Dt T F x (.int i)) (p2 : Dt T F y (.int j)) : ∀ Q : VK, Q (.bl (decide (i = j))) H → rEq x y H Q := fun Q q => by
  cases int_inv p1
  cases int_inv p2
  refine ⟨rfl, ?_⟩
  by_cases h : i = j
  · subst h
    simpa using q
  · have n : ¬ (V.int i = V.int j) := fun z => h (V.int.inj z)
    rw [decide_eq_false n]
    rwa [decide_eq_false h] at q
theorem neI {x y : V} {F H : Hp} {i j : Int} (p1 : Dt T F x (.int i)) (p2 : Dt T F y (.int j)) : ∀ Q : VK, Q (.bl (!decide (i = j))) H → rNe x y H Q := fun Q q => by
  cases int_inv p1
  cases int_inv p2
  refine ⟨rfl, ?_⟩
  by_cases h : i = j
  · subst h
    simpa using q
  · have n : ¬ (V.int i = V.int j) := fun z => h (V.int.inj z)
    rw [decide_eq_false n]
    rwa [decide_eq_false h] at q
theorem eqS {x y : V} {F H : Hp} {i j : Str} (p1 : Dt T F x (.str i)) (p2 : Dt T F y (.str j)) : ∀ Q : VK, Q (.bl (decide (i = j))) H → rEq x y H Q := fun Q q => by
  cases str_inv p1
  cases str_inv p2
  refine ⟨rfl, ?_⟩
  by_cases h : i = j
  · subst h
    simpa using q
  · have n : ¬ (V.str i = V.str j) := fun z => h (V.str.inj z)
    rw [decide_eq_false n]
    rwa [decide_eq_false h] at q
theorem neS {x y : V} {F H : Hp} {i j : Str} (p1 : Dt T F x (.str i)) (p2 : Dt T F y (.str j)) : ∀ Q : VK, Q (.bl (!decide (i = j))) H → rNe x y H Q := fun Q q => by
  cases str_inv p1
  cases str_inv p2
  refine ⟨rfl, ?_⟩
  by_cases h : i = j
  · subst h
    simpa using q
  · have n : ¬ (V.str i = V.str j) := fun z => h (V.str.inj z)
    rw [decide_eq_false n]
    rwa [decide_eq_false h] at q
theorem ev_eqI {i j : Int} (ha : Ev X Γ a (rD T (.int i))) (hb : Ev X Γ b (rD T (.int j))) : Ev X Γ (.Compare a [.Eq] [b] pos) (rD T (.bool (decide (i = j)))) := ev_cmp0 op_eq ha hb (fun x y F G H f g p1 p2 => ⟨_, .bl _, eqI p1 p2⟩) (nomark _)
theorem ev_neI {i j : Int} (ha : Ev X Γ a (rD T (.int i))) (hb : Ev X Γ b (rD T (.int j))) : Ev X Γ (.Compare a [.NotEq] [b] pos) (rD T (.bool (!decide (i = j)))) := ev_cmp0 op_ne ha hb (fun x y F G H f g p1 p2 => ⟨_, .bl _, neI p1 p2⟩) (nomark _)
theorem ev_eqS {i j : Str} (ha : Ev X Γ a (rD T (.str i))) (hb : Ev X Γ b (rD T (.str j))) : Ev X Γ (.Compare a [.Eq] [b] pos) (rD T (.bool (decide (i = j)))) := ev_cmp0 op_eq ha hb (fun x y F G H f g p1 p2 => ⟨_, .bl _, eqS p1 p2⟩) (nomark _)
theorem ev_neS {i j : Str} (ha : Ev X Γ a (rD T (.str i))) (hb : Ev X Γ b (rD T (.str j))) : Ev X Γ (.Compare a [.NotEq] [b] pos) (rD T (.bool (!decide (i = j)))) := ev_cmp0 op_ne ha hb (fun x y F G H f g p1 p2 => ⟨_, .bl _, neS p1 p2⟩) (nomark _)
theorem tv_eqI {i j : Int} (ha : Ev X Γ a (rD T (.int i))) (hb : Ev X Γ b (rD T (.int j))) : Tv X Γ (.Compare a [.Eq] [b] pos) (decide (i = j)) := tv_cmp0 op_eq ha hb (fun x y F G H f g p1 p2 => eqI p1 p2) (nomark _)
theorem tv_neI {i j : Int} (ha : Ev X Γ a (rD T (.int i))) (hb : Ev X Γ b (rD T (.int j))) : Tv X Γ (.Compare a [.NotEq] [b] pos) (!decide (i = j)) := tv_cmp0 op_ne ha hb (fun x y F G H f g p1 p2 => neI p1 p2) (nomark _)
theorem tv_eqS {i j : Str} (ha : Ev X Γ a (rD T (.str i))) (hb : Ev X Γ b (rD T (.str j))) : Tv X Γ (.Compare a [.Eq] [b] pos) (decide (i = j)) := tv_cmp0 op_eq ha hb (fun x y F G H f g p1 p2 => eqS p1 p2) (nomark _)
theorem tv_neS {i j : Str} (ha : Ev X Γ a (rD T (.str i))) (hb : Ev X Γ b (rD T (.str j))) : Tv X Γ (.Compare a [.NotEq] [b] pos) (!decide (i = j)) := tv_cmp0 op_ne ha hb (fun x y F G H f g p1 p2 => neS p1 p2) (nomark _)
/-! == and != of data at any depth -/
theorem dp_up {F G H : Hp} (f : Same F G) (g : Same G H) {v : V} {d : Val} (p : Dt T F v d) : Dt T H v d := dt_same (f.trans g) _ _ p
/-- what may be read as a value -/
class AsV (R : Rp) (T : outParam Tx) (d : outParam Val) : Prop where
  as : ∀ (v : V) (F G H : Hp), Same F G → Same G H → R.P v F G H → Dt T H v d
instance {d : Val} : AsV (rD T d) T d := ⟨fun v F G H f g p => dt_same (f.trans g) _ _ p⟩
instance {d : Val} : AsV (bV T d) T d := ⟨fun v F G H f g p => dt_same g _ _ (D1.dt f p)⟩
instance {d : Val} : AsV (hV T d) T d := ⟨fun v F G H f g p => D1.dt (f.trans g) p⟩
theorem ev_eqV {Ra Rb : Rp} {d e : Val} {r : Bool} [h1 : AsV Ra T d] [h2 : AsV Rb T e] (ha : Ev X Γ a Ra) (hb : Ev X Γ b Rb) (h : eqV d e = .ok r) (hu : X.A.units + 64 < cLine) :
    Ev X Γ (.Compare a [.Eq] [b] pos) (rD T (.bool r)) := ev_cmp0 (op_eqD hu) ha hb (fun x y F G H f g p1 p2 => ⟨_, .bl _, fun Q q => by
      obtain ⟨m, n, e1, e2, s1, s2, rfl⟩ := eqV_ok h
      exact ⟨m, n, dt_dp _ _ _ _ (h1.as _ F G H f g p1) e1, dt_dp _ _ _ _ (h2.as _ F G H f g p2) e2, s1, s2, q⟩⟩) (nomark _)
theorem ev_neV {Ra Rb : Rp} {d e : Val} {r : Bool} [h1 : AsV Ra T d] [h2 : AsV Rb T e] (ha : Ev X Γ a Ra) (hb : Ev X Γ b Rb) (h : eqV d e = .ok r) (hu : X.A.units + 64 < cLine) :
    Ev X Γ (.Compare a [.NotEq] [b] pos) (rD T (.bool (!r))) := ev_cmp0 (op_neD hu) ha hb (fun x y F G H f g p1 p2 => ⟨_, .bl _, fun Q q => by
      obtain ⟨m, n, e1, e2, s1, s2, rfl⟩ := eqV_ok h
      exact ⟨m, n, dt_dp _ _ _ _ (h1.as _ F G H f g p1) e1, dt_dp _ _ _ _ (h2.as _ F G H f g p2) e2, s1, s2, q⟩⟩) (nomark _)
theorem tv_eqV {Ra Rb : Rp} {d e : Val} {r : Bool} [h1 : AsV Ra T d] [h2 : AsV Rb T e] (ha : Ev X Γ a Ra) (hb : Ev X Γ b Rb) (h : eqV d e = .ok r) (hu : X.A.units + 64 < cLine) :
    Tv X Γ (.Compare a [.Eq] [b] pos) r := tv_cmp0 (op_eqD hu) ha hb (fun x y F G H f g p1 p2 Q q => by
      obtain ⟨m, n, e1, e2, s1, s2, rfl⟩ := eqV_ok h
      exact ⟨m, n, dt_dp _ _ _ _ (h1.as _ F G H f g p1) e1, dt_dp _ _ _ _ (h2.as _ F G H f g p2) e2, s1, s2, q⟩) (nomark _)
theorem tv_neV {Ra Rb : Rp} {d e : Val} {r : Bool} [h1 : AsV Ra T d] [h2 : AsV Rb T e] (ha : Ev X Γ a Ra) (hb : Ev X Γ b Rb) (h : eqV d e = .ok r) (hu : X.A.units + 64 < cLine) :
    Tv X Γ (.Compare a [.NotEq] [b] pos) (!r) := tv_cmp0 (op_neD hu) ha hb (fun x y F G H f g p1 p2 Q q => by
      obtain ⟨m, n, e1, e2, s1, s2, rfl⟩ := eqV_ok h
      exact ⟨m, n, dt_dp _ _ _ _ (h1.as _ F G H f g p1) e1, dt_dp _ _ _ _ (h2.as _ F G H f g p2) e2, s1, s2, q⟩) (nomark _)
/-! in, not in a list of data -/
theorem pys_list {ds : List Val} {ps : List PyData} (h : Val.pys ds = some ps) : (Val.list ds).py = some (.list ps) := by
  unfold Val.py
  rw [h]
  rfl
theorem ev_inL {Ra Rb : Rp} {d : Val} {ds : List Val} {r : Bool} [h1 : AsV Ra T d] [h2 : AsV Rb T (.list ds)] (ha : Ev X Γ a Ra) (hb : Ev X Γ b Rb) (h : inL d ds = .ok r) (hu : X.A.units + 65 < cLine)
    (hm : behindInMarks .In b = false := by rfl) : Ev X Γ (.Compare a [.In] [b] pos) (rD T (.bool r)) := ev_cmp0 (op_inD hu) ha hb (fun x y F G H f g p1 p2 => ⟨_, .bl _, fun Q q => by
      obtain ⟨m, n, e1, e2, s1, s2, rfl⟩ := inL_ok h
      exact ⟨m, n, dt_dp _ _ _ _ (h1.as _ F G H f g p1) e1, dt_dp _ _ _ _ (h2.as _ F G H f g p2) (pys_list e2), s1, s2, q⟩⟩) hm
theorem ev_niL {Ra Rb : Rp} {d : Val} {ds : List Val} {r : Bool} [h1 : AsV Ra T d] [h2 : AsV Rb T (.list ds)] (ha : Ev X Γ a Ra) (hb : Ev X Γ b Rb) (h : inL d ds = .ok r) (hu : X.A.units + 65 < cLine)
    (hm : behindInMarks .NotIn b = false := by rfl) : Ev X Γ (.Compare a [.NotIn] [b] pos) (rD T (.bool (!r))) := ev_cmp0 (op_notInD hu) ha hb (fun x y F G H f g p1 p2 => ⟨_, .bl _, fun Q q => by
      obtain ⟨m, n, e1, e2, s1, s2, rfl⟩ := inL_ok h
      exact ⟨m, n, dt_dp _ _ _ _ (h1.as _ F G H f g p1) e1, dt_dp _ _ _ _ (h2.as _ F G H f g p2) (pys_list e2), s1, s2, q⟩⟩) hm
theorem tv_inL {Ra Rb : Rp} {d : Val} {ds : List Val} {r : Bool} [h1 : AsV Ra T d] [h2 : AsV Rb T (.list ds)] (ha : Ev X Γ a Ra) (hb : Ev X Γ b Rb) (h : inL d ds = .ok r) (hu : X.A.units + 65 < cLine)
    (hm : behindInMarks .In b = false := by rfl) : Tv X Γ (.Compare a [.In] [b] pos) r := tv_cmp0 (op_inD hu) ha hb (fun x y F G H f g p1 p2 Q q => by
      obtain ⟨m, n, e1, e2, s1, s2, rfl⟩ := inL_ok h
      exact ⟨m, n, dt_dp _ _ _ _ (h1.as _ F G H f g p1) e1, dt_dp _ _ _ _ (h2.as _ F G H f g p2) (pys_list e2), s1, s2, q⟩) hm
theorem tv_niL {Ra Rb : Rp} {d : Val} {ds : List Val} {r : Bool} [h1 : AsV Ra T d] [h2 : AsV Rb T (.list ds)] (ha : Ev X Γ a Ra) (hb : Ev X Γ b Rb) (h : inL d ds = .ok r) (hu : X.A.units + 65 < cLine)
    (hm : behindInMarks .NotIn b = false := by rfl) : Tv X Γ (.Compare a [.NotIn] [b] pos) (!r) := tv_cmp0 (op_notInD hu) ha hb (fun x y F G H f g p1 p2 Q q => by
      obtain ⟨m, n, e1, e2, s1, s2, rfl⟩ := inL_ok h
      exact ⟨m, n, dt_dp _ _ _ _ (h1.as _ F G H f g p1) e1, dt_dp _ _ _ _ (h2.as _ F G H f g p2) (pys_list e2), s1, s2, q⟩) hm
/-! is None -/
theorem isN {x : V} {F G H : Hp} (f : Same F G) (g : Same G H) {d : Val} (p : Dt T F x d) : decide (x = .non) = (match d with | .none => true | _ => false) := by
  cases p <;> rfl
def isNone : Val → Bool
  | .none => true
  | _ => false
theorem isN' {x : V} {F : Hp} {d : Val} (p : Dt T F x d) : decide (x = .non) = isNone d := by
  cases p <;> rfl
theorem ev_isN {d : Val} {j : Nat} {pos' : Pos} (ha : Ev X Γ a (rD T d)) : Ev X Γ (.Compare a [.Is] [.Constant .none j pos'] pos) (rD T (.bool (isNone d))) := ev_cmp0 op_isN ha (ev_non (T := T)) (fun x y F G H f g p1 p2 => ⟨_, .bl _, fun Q q => ⟨non_inv p2, by rw [isN' p1]; exact q⟩⟩) (nomark _)
theorem ev_noN {d : Val} {j : Nat} {pos' : Pos} (ha : Ev X Γ a (rD T d)) : Ev X Γ (.Compare a [.IsNot] [.Constant .none j pos'] pos) (rD T (.bool (!isNone d))) := ev_cmp0 op_notN ha (ev_non (T := T)) (fun x y F G H f g p1 p2 => ⟨_, .bl _, fun Q q => ⟨non_inv p2, by rw [isN' p1]; exact q⟩⟩) (nomark _)
theorem tv_isN {d : Val} {j : Nat} {pos' : Pos} (ha : Ev X Γ a (rD T d)) : Tv X Γ (.Compare a [.Is] [.Constant .none j pos'] pos) (isNone d) := tv_cmp0 op_isN ha (ev_non (T := T)) (fun x y F G H f g p1 p2 Q q => ⟨non_inv p2, by rw [isN' p1]; exact q⟩) (nomark _)
theorem tv_noN {d : Val} {j : Nat} {pos' : Pos} (ha : Ev X Γ a (rD T d)) : Tv X Γ (.Compare a [.IsNot] [.Constant .none j pos'] pos) (!isNone d) := tv_cmp0 op_notN ha (ev_non (T := T)) (fun x y F G H f g p1 p2 Q q => ⟨non_inv p2, by rw [isN' p1]; exact q⟩) (nomark _)
/-! truth, and, or, not -/
theorem tv_val {d : Bool} (ha : Ev X Γ a (rD T (.bool d))) (he : ∀ whole, isTrue a X.env whole = (do let v ← whole; standAt a.pos; holding [v] (truthy v)) := by intro _; rfl) : Tv X Γ a d := fun W gh σ F G H E Q q =>
  TW.of (pt_val pe_w he) (ha W gh σ F G H E _ fun v F' G' H' E' x0 p => ⟨d, bool_inv p, q F' G' H' E' x0⟩)
theorem tv_list {ds : List Val} (ha : Ev X Γ a (hD T ds)) (he : ∀ whole, isTrue a X.env whole = (do let v ← whole; standAt a.pos; holding [v] (truthy v)) := by intro _; rfl) : Tv X Γ a (!ds.isEmpty) := fun W gh σ F G H E Q q =>
  TW.of (pt_truth pe_w he) (ha W gh σ F G H E _ fun v F' G' H' E' x0 ⟨l, vs, e, sq, p⟩ => by
    subst e
    refine ⟨!vs.isEmpty, .inl ⟨vs, .inl (.inl sq), rfl⟩, ?_⟩
    have z : vs.isEmpty = ds.isEmpty := by
      have := p.length
      cases vs <;> cases ds <;> simp_all
    rw [z]
    exact q F' G' H' E' x0)
theorem tv_not {d : Bool} (ha : Tv X Γ a d) : Tv X Γ (.UnaryOp .Not a pos) (!d) := fun W gh σ F G H E Q q =>
  TW.of (pt_not pt_w) (ha W gh σ F G H E _ fun F' G' H' E' x0 => q F' G' H' E' x0)
theorem tv_wv {d : Bool} (h : Wv X Γ a d) : Tv X Γ a d := fun W gh σ F G H E Q q => TW.of (PW.pt pw_w) (h W gh σ F G H E Q q)
theorem wv_and1 {d : Bool} (h : Tv X Γ a d) : Wv X Γ (.BoolOp .And [a] pos) d := fun W gh σ F G H E Q q => WW.of (pw_and1 pt_w) (h W gh σ F G H E Q q)
theorem wv_or1 {d : Bool} (h : Tv X Γ a d) : Wv X Γ (.BoolOp .Or [a] pos) d := fun W gh σ F G H E Q q => WW.of (pw_or1 pt_w) (h W gh σ F G H E Q q)
theorem wv_and {d d' : Bool} {rest : List Expr} (h : Tv X Γ a d) (k : d = true → Wv X Γ (.BoolOp .And (b :: rest) pos) d') : Wv X Γ (.BoolOp .And (a :: b :: rest) pos) (d && d') := fun W gh σ F G H E Q q =>
  WW.of (pw_and pt_w pw_w) (h W gh σ F G H E _ fun F' G' H' E' x0 => by
    cases d with
    | true => exact iteT (k rfl W gh σ F' G' H' E' _ fun F2 G2 H2 E2 x2 => q F2 G2 H2 E2 (x0.trans x2))
    | false => exact iteF (q F' G' H' E' x0))
theorem wv_or {d d' : Bool} {rest : List Expr} (h : Tv X Γ a d) (k : d = false → Wv X Γ (.BoolOp .Or (b :: rest) pos) d') : Wv X Γ (.BoolOp .Or (a :: b :: rest) pos) (d || d') := fun W gh σ F G H E Q q =>
  WW.of (pw_or pt_w pw_w) (h W gh σ F G H E _ fun F' G' H' E' x0 => by
    cases d with
    | true => exact iteT (q F' G' H' E' x0)
    | false => exact iteF (k rfl W gh σ F' G' H' E' _ fun F2 G2 H2 E2 x2 => q F2 G2 H2 E2 (x0.trans x2)))
theorem ev_one {op : BoolOp} {R : Rp} (h : Ev X Γ a R) : Ev X Γ (.BoolOp op [a] pos) R := fun W gh σ F G H E Q q => EW.of (pe_one pe_w) (h W gh σ F G H E Q q)
theorem ev_and {d d' : Bool} {rest : List Expr} (h : Ev X Γ a (rD T (.bool d))) (k : d = true → Ev X Γ (.BoolOp .And (b :: rest) pos) (rD T (.bool d'))) : Ev X Γ (.BoolOp .And (a :: b :: rest) pos) (rD T (.bool (d && d'))) := fun W gh σ F G H E Q q =>
  EW.of (pe_and pe_w pe_w) (h W gh σ F G H E _ fun v F' G' H' E' x0 p => by
    refine ⟨d, bool_inv p, ?_⟩
    cases d with
    | true => exact iteT (k rfl W gh σ F' G' H' E' _ fun v2 F2 G2 H2 E2 x2 p2 => q v2 F2 G2 H2 E2 (x0.trans x2) p2)
    | false => exact iteF (q _ F' G' H' E' x0 (.bl _)))
theorem ev_or {d d' : Bool} {rest : List Expr} (h : Ev X Γ a (rD T (.bool d))) (k : d = false → Ev X Γ (.BoolOp .Or (b :: rest) pos) (rD T (.bool d'))) : Ev X Γ (.BoolOp .Or (a :: b :: rest) pos) (rD T (.bool (d || d'))) := fun W gh σ F G H E Q q =>
  EW.of (pe_or pe_w pe_w) (h W gh σ F G H E _ fun v F' G' H' E' x0 p => by
    refine ⟨d, bool_inv p, ?_⟩
    cases d with
    | true => exact iteT (q _ F' G' H' E' x0 (.bl _))
    | false => exact iteF (k rfl W gh σ F' G' H' E' _ fun v2 F2 G2 H2 E2 x2 p2 => q v2 F2 G2 H2 E2 (x0.trans x2) p2))
theorem ev_not {d : Bool} (h : Ev X Γ a (rD T (.bool d))) : Ev X Γ (.UnaryOp .Not a pos) (rD T (.bool (!d))) := fun W gh σ F G H E Q q =>
  EW.of (pe_not pe_w) (h W gh σ F G H E _ fun v F' G' H' E' x0 p => ⟨d, bool_inv p, q _ F' G' H' E' x0 (.bl _)⟩)
theorem ev_ife {d : Bool} {u v : Val} (h : Tv X Γ c d) (ha : d = true → Ev X Γ a (rD T u)) (hb : d = false → Ev X Γ b (rD T v)) : Ev X Γ (.IfExp c a b pos) (rD T (if d = true then u else v)) := fun W gh σ F G H E Q q =>
  EW.of (pe_ifExp pt_w pe_w pe_w) (h W gh σ F G H E _ fun F' G' H' E' x0 => by
    cases d with
    | true => exact iteT (ha rfl W gh σ F' G' H' E' _ fun v2 F2 G2 H2 E2 x2 p2 => q v2 F2 G2 H2 E2 (x0.trans x2) p2)
    | false => exact iteF (hb rfl W gh σ F' G' H' E' _ fun v2 F2 G2 H2 E2 x2 p2 => q v2 F2 G2 H2 E2 (x0.trans x2) p2))
/-! chains of ints -/
theorem ev_chain {op op' : CmpOp} {p p' : Int → Int → Bool} {i j k : Int} (ho : OpR X (compareOp op) (rI0 fun i j => .bl (p i j))) (ho' : OpR X (compareOp op') (rI0 fun i j => .bl (p' i j))) (ha : Ev X Γ a (rD T (.int i))) (hb : Ev X Γ b (rD T (.int j)))
    (hc : p i j = true → Ev X Γ c (rD T (.int k))) (hm : lastMarks [op, op'] [b, c] = false := by with_unfolding_all rfl) : Ev X Γ (.Compare a [op, op'] [b, c] pos) (rD T (.bool (p i j && p' j k))) := fun W gh σ F G H E Q q =>
  EW.of (pe_chain ho ho' pe_w pe_w pe_w hm) (ev_seq ha hb E fun x y F' G' H' E' x0 p1 p2 => by
    cases int_inv p1
    cases int_inv p2
    refine ⟨_, _, rfl, rfl, _, rfl, ?_⟩
    cases z : p i j with
    | true => exact iteT (hc z W gh σ F' G' H' E' _ fun v2 F2 G2 H2 E2 x2 p2 => by
        cases int_inv p2
        refine ⟨_, _, rfl, rfl, ?_⟩
        have w := q (.bl (p i j && p' j k)) F2 G2 H2 E2 (x0.trans x2) (.bl _)
        rw [z] at w
        exact w)
    | false => exact iteF (by
        have w := q (.bl (p i j && p' j k)) F' G' H' E' x0 (.bl _)
        rw [z] at w
        exact w))
theorem tv_chain {op op' : CmpOp} {p p' : Int → Int → Bool} {i j k : Int} (ho : OpR X (compareOp op) (rI0 fun i j => .bl (p i j))) (ho' : OpR X (compareOp op') (rI0 fun i j => .bl (p' i j))) (ha : Ev X Γ a (rD T (.int i))) (hb : Ev X Γ b (rD T (.int j)))
    (hc : p i j = true → Ev X Γ c (rD T (.int k))) (hm : lastMarks [op, op'] [b, c] = false := by with_unfolding_all rfl) : Tv X Γ (.Compare a [op, op'] [b, c] pos) (p i j && p' j k) := fun W gh σ F G H E Q q =>
  TW.of (pt_chain ho ho' pe_w pe_w pe_w hm) (ev_seq ha hb E fun x y F' G' H' E' x0 p1 p2 => by
    cases int_inv p1
    cases int_inv p2
    refine ⟨_, _, rfl, rfl, _, rfl, ?_⟩
    cases z : p i j with
    | true => exact iteT (hc z W gh σ F' G' H' E' _ fun v2 F2 G2 H2 E2 x2 p2 => by
        cases int_inv p2
        refine ⟨_, _, rfl, rfl, _, rfl, ?_⟩
        have w := q F2 G2 H2 E2 (x0.trans x2)
        rw [z] at w
        exact w)
    | false => exact iteF (by
        refine ⟨_, rfl, ?_⟩
        have w := q F' G' H' E' x0
        rw [z] at w
        exact w))
end
end
end L3
/-! L3, part c: displays, subscripts, slices, built-ins, calls of defs. -/
namespace L3
open PySem PySem.Spec PyProof.Rows L2
section
variable {T : Tx} {X : Cx} {Γ : List Sl} {a b c e : Expr} {es : List Expr} {pos : Pos}
/-! ### lists of expressions -/
theorem eva_nil : EvA X Γ [] [] := fun W gh σ F G H E Q q => AW.of pa_nil (q [] F G H E (Gr.refl _ _ _) .nil)
theorem paired_mono {F G H F' G' H' : Hp} (f : Same F F') (g : Same G G') (s : Same H H') : ∀ {vs : List V} {Rs : List Rp}, Paired (fun v (R : Rp) => R.P v F G H) vs Rs → Paired (fun v (R : Rp) => R.P v F' G' H') vs Rs
  | _, _, .nil => .nil
  | _, _, .cons (b := R) r t => .cons (R.mono f g s r) (paired_mono f g s t)
theorem eva_cons {R : Rp} {Rs : List Rp} (h : Ev X Γ e R) (t : EvA X Γ es Rs) (hs : starEach (e :: es) X.env = (false, eval e X.env) :: starEach es X.env := by rfl) : EvA X Γ (e :: es) (R :: Rs) := fun W gh σ F G H E Q q =>
  AW.of (pa_cons pe_w pa_w hs) (h W gh σ F G H E _ fun v F1 G1 H1 E1 x1 p1 => t W gh σ F1 G1 H1 E1 _ fun vs F2 G2 H2 E2 x2 p2 =>
    q (v :: vs) F2 G2 H2 E2 (x1.trans x2) (.cons (R.mono x2.f x2.g x2.s p1) p2))
def EvD (T : Tx) (X : Cx) (Γ : List Sl) (es : List Expr) (ds : List Val) : Prop := ∀ (W : Wd) (gh : Gh) (σ : L2.St) (F G H : Hp), En W gh Γ σ F G H → ∀ Q : List V → Hp → Prop,
  (∀ vs F' G' H', En W gh Γ σ F' G' H' → Gr F G H F' G' H' → DtAll T F' vs ds → Q vs H') → AW X es σ H Q
theorem evd_nil : EvD T X Γ [] [] := fun W gh σ F G H E Q q => AW.of pa_nil (q [] F G H E (Gr.refl _ _ _) .nil)
theorem evd_cons {d : Val} {ds : List Val} (h : Ev X Γ e (rD T d)) (t : EvD T X Γ es ds) (hs : starEach (e :: es) X.env = (false, eval e X.env) :: starEach es X.env := by rfl) : EvD T X Γ (e :: es) (d :: ds) := fun W gh σ F G H E Q q =>
  AW.of (pa_cons pe_w pa_w hs) (h W gh σ F G H E _ fun v F1 G1 H1 E1 x1 p1 => t W gh σ F1 G1 H1 E1 _ fun vs F2 G2 H2 E2 x2 p2 =>
    q (v :: vs) F2 G2 H2 E2 (x1.trans x2) (.cons (dt_same x2.f _ _ p1) p2))
theorem one_new {H G : Hp} {p : Addr} (h : H p = none) (g : G p = none) : ∀ a ∈ [p], H a = none ∧ G a = none := fun a ha => by
  rw [List.mem_singleton] at ha
  subst ha
  exact ⟨h, g⟩
theorem own_list {l : Addr} {vs : List V} {ds : List Val} {F G H : Hp} (h : H l = some (.lst vs) ∧ DtAll T F vs ds) : (cD T ds).C l [l] H F G := ⟨rfl, rfl, l, vs, rfl, h.1, h.2⟩
/-! ### displays -/
theorem ev_tup {ds : List Val} {k : Nat} (h : EvD T X Γ es ds) (hl : ds.length ≤ sizeLine := by (first | (show _ ≤ 16777216; decide) | exact Nat.le_of_ble_eq_true rfl)) : Ev X Γ (.Tuple es k pos) (rD T (.tuple ds)) := fun W gh σ F G H E Q q =>
  EW.of (pe_tup pa_w) (h W gh σ F G H E _ fun vs F1 G1 H1 E1 x1 p1 => ⟨by rw [p1.length]; exact hl, fun p hp => by
    have fp := E1.fg.free (E1.gH.free hp)
    exact q (.ref p) _ _ _ (E1.newF hp) (x1.newF hp fp (E1.gH.free hp)) (.tup upd_same (dtAll_same (same_upd fp) _ _ p1))⟩)
theorem evo_lst {ds : List Val} (h : EvD T X Γ es ds) (hl : ds.length ≤ sizeLine := by (first | (show _ ≤ 16777216; decide) | exact Nat.le_of_ble_eq_true rfl)) : EvO X Γ (.List es pos) (cD T ds) := fun W gh σ F G H E Q q =>
  EW.of (pe_lst pa_w) (h W gh σ F G H E _ fun vs F1 G1 H1 E1 x1 p1 => ⟨by rw [p1.length]; exact hl, fun p hp =>
    q p [p] F1 G1 _ (E1.new hp) (x1.new hp) (one_new (x1.s.free hp) (E1.gH.free hp)) (own_list ⟨upd_same, p1⟩)⟩)
/-! ### subscripts -/
theorem atI_map {α β : Type} (f : α → β) (xs : List α) (i : Int) : atI (xs.map f) i = (atI xs i).map f := by
  unfold atI
  rw [List.length_map]
  cases ixN xs.length i with
  | none => rfl
  | some j => simp
theorem atI_dt {H : Hp} {vs : List V} {ds : List Val} {i : Int} {d : Val} (h : DtAll T H vs ds) (e : atI ds i = some d) : ∃ v, atI vs i = some v ∧ Dt T H v d := by
  unfold atI at e ⊢
  rw [h.length]
  cases q : ixN ds.length i with
  | none => rw [q] at e; cases e
  | some j =>
    rw [q] at e
    exact h.get e
theorem ev_ixT {ds : List Val} {i : Int} {d : Val} (ha : Ev X Γ a (rD T (.tuple ds))) (hb : Ev X Γ b (rD T (.int i))) (hi : atI ds i = some d) (hs : PlainIx b := by exact fun _ _ => rfl) : Ev X Γ (.Subscript a b pos) (rD T d) := fun W gh σ F G H E Q q =>
  EW.of (pe_ix ix_tup pe_w pe_w hs) (ev_seq ha hb E fun x y F' G' H' E' x0 p1 p2 => by
    obtain ⟨p, vs, rfl, hp, pv⟩ := tup_inv p1
    cases int_inv p2
    obtain ⟨v, ev, dv⟩ := atI_dt pv hi
    exact ⟨p, vs, i, v, rfl, rfl, .inl (.inl (E'.gH _ _ (E'.fg _ _ hp))), ev, q v F' G' H' E' x0 dv⟩)
theorem ev_ixL {ds : List Val} {i : Int} {d : Val} (ha : Ev X Γ a (hD T ds)) (hb : Ev X Γ b (rD T (.int i))) (hi : atI ds i = some d) (hs : PlainIx b := by exact fun _ _ => rfl) : Ev X Γ (.Subscript a b pos) (rD T d) := fun W gh σ F G H E Q q =>
  EW.of (pe_ix ix_list pe_w pe_w hs) (ev_seq ha hb E fun x y F' G' H' E' x0 p1 p2 => by
    obtain ⟨p, vs, rfl, hp, pv⟩ := p1
    cases int_inv p2
    obtain ⟨v, ev, dv⟩ := atI_dt pv hi
    exact ⟨p, vs, i, v, rfl, rfl, .inl (.inl hp), ev, q v F' G' H' E' x0 dv⟩)
theorem ev_ixS {z : Str} {i : Int} {c : Nat} (ha : Ev X Γ a (rD T (.str z))) (hb : Ev X Γ b (rD T (.int i))) (hz : z.length ≤ sizeLine) (hi : atI z.cps.toList i = some c) (hs : PlainIx b := by exact fun _ _ => rfl) : Ev X Γ (.Subscript a b pos) (rD T (.str ⟨#[c]⟩)) := fun W gh σ F G H E Q q =>
  EW.of (pe_ix ix_str pe_w pe_w hs) (ev_seq ha hb E fun x y F' G' H' E' x0 p1 p2 => by
    cases str_inv p1
    cases int_inv p2
    exact ⟨z, i, c, rfl, rfl, hz, hi, q _ F' G' H' E' x0 (.str _)⟩)
/-! ### slices -/
structure OW (X : Cx) (e : Option Expr) (σ : L2.St) (H : Hp) (Q : Option Int → Hp → Prop) : Prop where
  go : ∀ (pins : List (Addr × Obj)) (s : Shared), Inv X pins σ H s → wpAny (model X.prog X.w) X.A (evalPart e X.env) (fun u s' => ∃ o H', Inv X pins σ H' s' ∧ IsPart u o ∧ Q o H') X.xe s
theorem po_w {e : Option Expr} : PO X e (OW X e) := ⟨fun pins s _ _ _ I h => h.go pins s I⟩
theorem OW.of {e : Option Expr} {t : TO} {σ : L2.St} {H : Hp} {Q : Option Int → Hp → Prop} (h : PO X e t) (q : t σ H Q) : OW X e σ H Q := ⟨fun pins s I => h.run pins s σ H Q I q⟩
def EvP (X : Cx) (Γ : List Sl) (e : Option Expr) (o : Option Int) : Prop := ∀ (W : Wd) (gh : Gh) (σ : L2.St) (F G H : Hp), En W gh Γ σ F G H → ∀ Q : Option Int → Hp → Prop,
  (∀ F' G' H', En W gh Γ σ F' G' H' → Gr F G H F' G' H' → Q o H') → OW X e σ H Q
theorem evp_no : EvP X Γ none none := fun W gh σ F G H E Q q => OW.of po_none (q F G H E (Gr.refl _ _ _))
theorem evp_so {i : Int} (h : Ev X Γ e (rD T (.int i))) : EvP X Γ (some e) (some i) := fun W gh σ F G H E Q q => OW.of (po_some pe_w) (h W gh σ F G H E _ fun v F' G' H' E' x0 p => ⟨i, int_inv p, q F' G' H' E' x0⟩)
def cut {α : Type} (xs : List α) (lo hi : Option Int) : List α := (xs.drop (HT.sIx xs.length 0 lo)).take (HT.sIx xs.length xs.length hi - HT.sIx xs.length 0 lo)
theorem cut_map {α β : Type} (f : α → β) (xs : List α) (lo hi : Option Int) : cut (xs.map f) lo hi = (cut xs lo hi).map f := by
  unfold cut
  rw [List.length_map, List.map_take, List.map_drop]
theorem cut_dt {H : Hp} {vs : List V} {ds : List Val} (h : DtAll T H vs ds) (lo hi : Option Int) : DtAll T H (cutV vs lo hi) (cut ds lo hi) := by
  unfold cutV cut
  rw [h.length]
  exact (h.drop _).take _
theorem evo_sl {ds : List Val} {lo hi : Option Expr} {l u : Option Int} {p2 : Pos} (ha : Ev X Γ a (hD T ds)) (hl : EvP X Γ lo l) (hu : EvP X Γ hi u) : EvO X Γ (.Subscript a (.Slice lo hi none p2) pos) (cD T (cut ds l u)) := fun W gh σ F G H E Q q =>
  EW.of (pe_slice sl_list pe_w po_w po_w) (ha W gh σ F G H E _ fun v F1 G1 H1 E1 x1 ⟨p, vs, ev, hp, pv⟩ => hl W gh σ F1 G1 H1 E1 _ fun F2 G2 H2 E2 x2 => hu W gh σ F2 G2 H2 E2 _ fun F3 G3 H3 E3 x3 =>
    ⟨p, vs, ev, .inl (.inl (x3.s _ _ (x2.s _ _ hp))), fun n hn => q n [n] F3 G3 _ (E3.new hn) ((x1.trans (x2.trans x3)).new hn) (one_new ((x1.trans (x2.trans x3)).s.free hn) (E3.gH.free hn)) (own_list ⟨upd_same, cut_dt (dtAll_same (x2.f.trans x3.f) _ _ pv) l u⟩)⟩)
/-! ### lists put together, repeated; tuples put together -/
theorem evo_cat {ds es : List Val} (ha : Ev X Γ a (hD T ds)) (hb : Ev X Γ b (hD T es)) (hz : ds.length + es.length ≤ sizeLine) : EvO X Γ (.BinOp a .Add b pos) (cD T (ds ++ es)) := fun W gh σ F G H E Q q =>
  EW.of (pe_op op_cat pe_w pe_w) (ev_seq ha hb E fun x y F' G' H' E' x0 ⟨p, vs, ev, hp, pv⟩ ⟨p', vs', ev', hp', pv'⟩ =>
    ⟨p, p', vs, vs', ev, ev', hp, hp', by rw [pv.length, pv'.length]; exact hz, fun n hn => q n [n] F' G' _ (E'.new hn) (x0.new hn) (one_new (x0.s.free hn) (E'.gH.free hn)) (own_list ⟨upd_same, pv.append pv'⟩)⟩)
theorem dtAll_rep {H : Hp} {vs : List V} {ds : List Val} (h : DtAll T H vs ds) : ∀ n : Nat, DtAll T H (List.replicate n vs).flatten (List.replicate n ds).flatten
  | 0 => .nil
  | n + 1 => by
    rw [List.replicate_succ, List.replicate_succ, List.flatten_cons, List.flatten_cons]
    exact h.append (dtAll_rep h n)
theorem evo_rep {ds : List Val} {k : Int} (ha : Ev X Γ a (hD T ds)) (hb : Ev X Γ b (rD T (.int k))) (hk : -(2 ^ 63) ≤ k ∧ k < 2 ^ 63) (hz : ds.length * k.toNat ≤ sizeLine) : EvO X Γ (.BinOp a .Mult b pos) (cD T (List.replicate k.toNat ds).flatten) := fun W gh σ F G H E Q q =>
  EW.of (pe_op op_rep pe_w pe_w) (ev_seq ha hb E fun x y F' G' H' E' x0 ⟨p, vs, ev, hp, pv⟩ p2 =>
    ⟨p, k, vs, ev, int_inv p2, hp, hk.1, hk.2, by rw [pv.length]; exact hz, fun n hn => q n [n] F' G' _ (E'.new hn) (x0.new hn) (one_new (x0.s.free hn) (E'.gH.free hn)) (own_list ⟨upd_same, dtAll_rep pv _⟩)⟩)
theorem ev_catT {ds es : List Val} (ha : Ev X Γ a (rD T (.tuple ds))) (hb : Ev X Γ b (rD T (.tuple es))) (h0 : ds ≠ []) (hz : ds.length + es.length ≤ sizeLine) : Ev X Γ (.BinOp a .Add b pos) (rD T (.tuple (ds ++ es))) := fun W gh σ F G H E Q q =>
  EW.of (pe_op op_catT pe_w pe_w) (ev_seq ha hb E fun x y F' G' H' E' x0 p1 p2 => by
    obtain ⟨p, vs, rfl, hp, pv⟩ := tup_inv p1
    obtain ⟨p', vs', rfl, hp', pv'⟩ := tup_inv p2
    refine ⟨p, p', vs, vs', rfl, rfl, .inl (.inl (E'.gH _ _ (E'.fg _ _ hp))), .inl (.inl (E'.gH _ _ (E'.fg _ _ hp'))), fun z => ?_, by rw [pv.length, pv'.length]; exact hz, fun z => ?_, fun _ n hn => ?_⟩
    · subst z
      cases pv
      exact h0 rfl
    · subst z
      cases pv'
      rw [List.append_nil] at q
      exact q _ F' G' H' E' x0 (.tup hp pv)
    · have fp := E'.fg.free (E'.gH.free hn)
      exact q (.ref n) _ _ _ (E'.newF hn) (x0.newF hn fp (E'.gH.free hn)) (.tup upd_same (dtAll_same (same_upd fp) _ _ (pv.append pv'))))
/-! ### built-ins -/
/-- the name is a built-in's -/
structure Bl (X : Cx) (x : Str) : Prop where
  hg : Gl X x
  hm : X.mg x = none
section
variable {x : Str} {p : Pos} {id TY : String} {r : List V → Hp → VK → Prop}
theorem ev_cb1 {Ra R : Rp} (hc : CallR X (.builtin id) r) (h : Bl X x) (hv : bootBuiltins x = some (.builtin id)) (ha : Ev X Γ a Ra) (k : ∀ v F G H, Same F G → Same G H → Ra.P v F G H → ∃ u, R.P u F G H ∧ ∀ Q : VK, Q u H → r [v] H Q)
    (hn : x ≠ "__name__" := by decide) (hdb : (x == ("__debug__" : Str)) = false := by decide) (he : starEach [a] X.env = (false, eval a X.env) :: starEach [] X.env := by rfl) : Ev X Γ (.Call (.Name x p) [a] [] pos) R := fun W gh σ F G H E Q q =>
  EW.of (pe_callB hc h.hg h.hm hv (pa_cons pe_w pa_nil he) hn hdb he) (ha W gh σ F G H E _ fun v F' G' H' E' x0 p1 => by
    obtain ⟨u, pu, z⟩ := k v F' G' H' E'.fg E'.gH p1
    exact z Q (q u F' G' H' E' x0 pu))
theorem ev_ct1 {Ra R : Rp} (hc : CallR X (.type TY) r) (h : Bl X x) (hv : bootBuiltins x = some (.type TY)) (ha : Ev X Γ a Ra) (k : ∀ v F G H, Same F G → Same G H → Ra.P v F G H → ∃ u, R.P u F G H ∧ ∀ Q : VK, Q u H → r [v] H Q)
    (hn : x ≠ "__name__" := by decide) (hdb : (x == ("__debug__" : Str)) = false := by decide) (he : starEach [a] X.env = (false, eval a X.env) :: starEach [] X.env := by rfl) : Ev X Γ (.Call (.Name x p) [a] [] pos) R := fun W gh σ F G H E Q q =>
  EW.of (pe_callTy hc h.hg h.hm hv (pa_cons pe_w pa_nil he) hn hdb he) (ha W gh σ F G H E _ fun v F' G' H' E' x0 p1 => by
    obtain ⟨u, pu, z⟩ := k v F' G' H' E'.fg E'.gH p1
    exact z Q (q u F' G' H' E' x0 pu))
theorem ev_cb2 {Ra Rb R : Rp} (hc : CallR X (.builtin id) r) (h : Bl X x) (hv : bootBuiltins x = some (.builtin id)) (ha : Ev X Γ a Ra) (hb : Ev X Γ b Rb) (k : ∀ v w F G H, Same F G → Same G H → Ra.P v F G H → Rb.P w F G H → ∃ u, R.P u F G H ∧ ∀ Q : VK, Q u H → r [v, w] H Q)
    (hn : x ≠ "__name__" := by decide) (hdb : (x == ("__debug__" : Str)) = false := by decide) (he : starEach [a, b] X.env = (false, eval a X.env) :: starEach [b] X.env := by rfl) (he2 : starEach [b] X.env = (false, eval b X.env) :: starEach [] X.env := by rfl) (hpl : (backTo pos (starEach [b] X.env)).any (·.1) = false := by rfl) : Ev X Γ (.Call (.Name x p) [a, b] [] pos) R := fun W gh σ F G H E Q q =>
  EW.of (pe_callB hc h.hg h.hm hv (pa_cons pe_w (pa_cons pe_w pa_nil he2) he) hn hdb he hpl) (ev_seq ha hb E fun v w F' G' H' E' x0 p1 p2 => by
    obtain ⟨u, pu, z⟩ := k v w F' G' H' E'.fg E'.gH p1 p2
    exact z Q (q u F' G' H' E' x0 pu))
theorem evo_ct1 {Ra : Rp} {C : Cp} (hc : CallR X (.type TY) r) (h : Bl X x) (hv : bootBuiltins x = some (.type TY)) (ha : Ev X Γ a Ra) (k : ∀ v F G H, Same F G → Same G H → Ra.P v F G H → ∃ o, (∀ l H1, H1 l = some o → C.C l [l] H1 F G) ∧ ∀ Q : VK, (∀ l, H l = none → Q (.ref l) (upd H l o)) → r [v] H Q)
    (hn : x ≠ "__name__" := by decide) (hdb : (x == ("__debug__" : Str)) = false := by decide) (he : starEach [a] X.env = (false, eval a X.env) :: starEach [] X.env := by rfl) : EvO X Γ (.Call (.Name x p) [a] [] pos) C := fun W gh σ F G H E Q q =>
  EW.of (pe_callTy hc h.hg h.hm hv (pa_cons pe_w pa_nil he) hn hdb he) (ha W gh σ F G H E _ fun v F' G' H' E' x0 p1 => by
    obtain ⟨o, po, z⟩ := k v F' G' H' E'.fg E'.gH p1
    exact z Q fun l hl => q l [l] F' G' _ (E'.new hl) (x0.new hl) (one_new (x0.s.free hl) (E'.gH.free hl)) (po l _ upd_same))
theorem evo_cb1 {Ra : Rp} {C : Cp} (hc : CallR X (.builtin id) r) (h : Bl X x) (hv : bootBuiltins x = some (.builtin id)) (ha : Ev X Γ a Ra) (k : ∀ v F G H, Same F G → Same G H → Ra.P v F G H → ∃ o, (∀ l H1, H1 l = some o → C.C l [l] H1 F G) ∧ ∀ Q : VK, (∀ l, H l = none → Q (.ref l) (upd H l o)) → r [v] H Q)
    (hn : x ≠ "__name__" := by decide) (hdb : (x == ("__debug__" : Str)) = false := by decide) (he : starEach [a] X.env = (false, eval a X.env) :: starEach [] X.env := by rfl) : EvO X Γ (.Call (.Name x p) [a] [] pos) C := fun W gh σ F G H E Q q =>
  EW.of (pe_callB hc h.hg h.hm hv (pa_cons pe_w pa_nil he) hn hdb he) (ha W gh σ F G H E _ fun v F' G' H' E' x0 p1 => by
    obtain ⟨o, po, z⟩ := k v F' G' H' E'.fg E'.gH p1
    exact z Q fun l hl => q l [l] F' G' _ (E'.new hl) (x0.new hl) (one_new (x0.s.free hl) (E'.gH.free hl)) (po l _ upd_same))
end
section
variable {p : Pos}
theorem ev_len {ds : List Val} (h : Bl X "len") (ha : Ev X Γ a (hD T ds)) (he : starEach [a] X.env = (false, eval a X.env) :: starEach [] X.env := by rfl) : Ev X Γ (.Call (.Name "len" p) [a] [] pos) (rD T (.int ds.length)) :=
  ev_cb1 call_len_seq h PySem.boot_len ha (fun v F G H f g ⟨l, vs, ev, hl, pv⟩ => ⟨_, .int _, fun Q q => ⟨l, vs, by rw [ev], .inl (.inl (.inl hl)), by rw [pv.length]; exact q⟩⟩) (he := he)
theorem ev_lenT {ds : List Val} (h : Bl X "len") (ha : Ev X Γ a (rD T (.tuple ds))) (he : starEach [a] X.env = (false, eval a X.env) :: starEach [] X.env := by rfl) : Ev X Γ (.Call (.Name "len" p) [a] [] pos) (rD T (.int ds.length)) :=
  ev_cb1 call_len_seq h PySem.boot_len ha (fun v F G H f g p1 => by
    obtain ⟨l, vs, ev, hl, pv⟩ := tup_inv p1
    exact ⟨_, .int _, fun Q q => ⟨l, vs, by rw [ev], .inr (.inl (.inl (g _ _ (f _ _ hl)))), by rw [pv.length]; exact q⟩⟩) (he := he)
theorem ev_lenS {z : Str} (h : Bl X "len") (ha : Ev X Γ a (rD T (.str z))) (hz : z.length ≤ sizeLine) (he : starEach [a] X.env = (false, eval a X.env) :: starEach [] X.env := by rfl) : Ev X Γ (.Call (.Name "len" p) [a] [] pos) (rD T (.int z.length)) :=
  ev_cb1 call_len_str h PySem.boot_len ha (fun v F G H f g p1 => ⟨_, .int _, fun Q q => ⟨z, by rw [str_inv p1], hz, q⟩⟩) (he := he)
theorem ev_abs {i : Int} (h : Bl X "abs") (ha : Ev X Γ a (rD T (.int i))) (he : starEach [a] X.env = (false, eval a X.env) :: starEach [] X.env := by rfl) : Ev X Γ (.Call (.Name "abs" p) [a] [] pos) (rD T (.int i.natAbs)) :=
  ev_cb1 call_abs h (by decide +kernel) ha (fun v F G H f g p1 => ⟨_, .int _, fun Q q => ⟨i, by rw [int_inv p1], by
    have z : (if i < 0 then -i else i) = (i.natAbs : Int) := by
      split <;> omega
    rw [z]
    exact q⟩⟩) (he := he)
theorem ev_intI {i : Int} (h : Bl X "int") (ha : Ev X Γ a (rD T (.int i))) (he : starEach [a] X.env = (false, eval a X.env) :: starEach [] X.env := by rfl) : Ev X Γ (.Call (.Name "int" p) [a] [] pos) (rD T (.int i)) :=
  ev_ct1 call_int1 h (by decide +kernel) ha (fun v F G H f g p1 => ⟨_, .int _, fun Q q => .inl ⟨i, by rw [int_inv p1], q⟩⟩) (he := he)
theorem ev_intB {b : Bool} (h : Bl X "int") (ha : Ev X Γ a (rD T (.bool b))) (he : starEach [a] X.env = (false, eval a X.env) :: starEach [] X.env := by rfl) : Ev X Γ (.Call (.Name "int" p) [a] [] pos) (rD T (.int (if b = true then 1 else 0))) :=
  ev_ct1 call_int1 h (by decide +kernel) ha (fun v F G H f g p1 => ⟨_, .int _, fun Q q => .inr ⟨b, by rw [bool_inv p1], q⟩⟩) (he := he)
theorem ev_max2 {i j : Int} (hc : X.calm = true) (h : Bl X "max") (ha : Ev X Γ a (rD T (.int i))) (hb : Ev X Γ b (rD T (.int j))) (he : starEach [a, b] X.env = (false, eval a X.env) :: starEach [b] X.env := by rfl) (he2 : starEach [b] X.env = (false, eval b X.env) :: starEach [] X.env := by rfl) (hpl : (backTo pos (starEach [b] X.env)).any (·.1) = false := by rfl) : Ev X Γ (.Call (.Name "max" p) [a, b] [] pos) (rD T (.int (max i j))) :=
  ev_cb2 (call_max2 hc) h (by decide +kernel) ha hb (fun v w F G H f g p1 p2 => ⟨_, .int _, fun Q q => ⟨i, j, by rw [int_inv p1, int_inv p2], by
    have z : (if j > i then j else i) = max i j := by split <;> omega
    rw [z]
    exact q⟩⟩) (he := he) (he2 := he2) (hpl := hpl)
theorem ev_min2 {i j : Int} (hc : X.calm = true) (h : Bl X "min") (ha : Ev X Γ a (rD T (.int i))) (hb : Ev X Γ b (rD T (.int j))) (he : starEach [a, b] X.env = (false, eval a X.env) :: starEach [b] X.env := by rfl) (he2 : starEach [b] X.env = (false, eval b X.env) :: starEach [] X.env := by rfl) (hpl : (backTo pos (starEach [b] X.env)).any (·.1) = false := by rfl) : Ev X Γ (.Call (.Name "min" p) [a, b] [] pos) (rD T (.int (min i j))) :=
  ev_cb2 (call_min2 hc) h (by decide +kernel) ha hb (fun v w F G H f g p1 p2 => ⟨_, .int _, fun Q q => ⟨i, j, by rw [int_inv p1, int_inv p2], by
    have z : (if j < i then j else i) = min i j := by split <;> omega
    rw [z]
    exact q⟩⟩) (he := he) (he2 := he2) (hpl := hpl)
theorem ev_sum {ns : List Int} (hc : X.calm = true) (h : Bl X "sum") (ha : Ev X Γ a (hD T (ns.map .int))) (he : starEach [a] X.env = (false, eval a X.env) :: starEach [] X.env := by rfl) : Ev X Γ (.Call (.Name "sum" p) [a] [] pos) (rD T (.int ns.sum)) :=
  ev_cb1 (cr_sum hc) h (by decide +kernel) ha (fun v F G H f g ⟨l, vs, ev, hl, pv⟩ => ⟨_, .int _, fun Q q => ⟨l, ns, by rw [ev], .inl (.inl (by rw [hl, pv.ints])), q⟩⟩) (he := he)
theorem ev_all {bs : List Bool} (hc : X.calm = true) (h : Bl X "all") (ha : Ev X Γ a (hD T (bs.map .bool))) (he : starEach [a] X.env = (false, eval a X.env) :: starEach [] X.env := by rfl) : Ev X Γ (.Call (.Name "all" p) [a] [] pos) (rD T (.bool (bs.all id))) :=
  ev_cb1 (cr_all hc) h (by decide +kernel) ha (fun v F G H f g ⟨l, vs, ev, hl, pv⟩ => ⟨_, .bl _, fun Q q => ⟨l, bs, by rw [ev], .inl (.inl (by rw [hl, pv.bools])), q⟩⟩) (he := he)
theorem ev_any {bs : List Bool} (hc : X.calm = true) (h : Bl X "any") (ha : Ev X Γ a (hD T (bs.map .bool))) (he : starEach [a] X.env = (false, eval a X.env) :: starEach [] X.env := by rfl) : Ev X Γ (.Call (.Name "any" p) [a] [] pos) (rD T (.bool (bs.any id))) :=
  ev_cb1 (cr_any hc) h (by decide +kernel) ha (fun v F G H f g ⟨l, vs, ev, hl, pv⟩ => ⟨_, .bl _, fun Q q => ⟨l, bs, by rw [ev], .inl (.inl (by rw [hl, pv.bools])), q⟩⟩) (he := he)
theorem evo_list {ds : List Val} (h : Bl X "list") (ha : Ev X Γ a (hD T ds)) (he : starEach [a] X.env = (false, eval a X.env) :: starEach [] X.env := by rfl) : EvO X Γ (.Call (.Name "list" p) [a] [] pos) (cD T ds) :=
  evo_ct1 call_list_of h (by decide +kernel) ha (fun v F G H f g ⟨l, vs, ev, hl, pv⟩ => ⟨.lst vs, fun l H1 h1 => (own_list ⟨h1, pv⟩), fun Q q => ⟨l, vs, by rw [ev], .inl (.inl (.inl hl)), q⟩⟩) (he := he)
theorem evo_listT {ds : List Val} (h : Bl X "list") (ha : Ev X Γ a (rD T (.tuple ds))) (he : starEach [a] X.env = (false, eval a X.env) :: starEach [] X.env := by rfl) : EvO X Γ (.Call (.Name "list" p) [a] [] pos) (cD T ds) :=
  evo_ct1 call_list_of h (by decide +kernel) ha (fun v F G H f g p1 => by
    obtain ⟨l, vs, ev, hl, pv⟩ := tup_inv p1
    exact ⟨.lst vs, fun l H1 h1 => (own_list ⟨h1, pv⟩), fun Q q => ⟨l, vs, by rw [ev], .inr (.inl (.inl (g _ _ (f _ _ hl)))), q⟩⟩) (he := he)
theorem ev_tuple {ds : List Val} (h : Bl X "tuple") (ha : Ev X Γ a (hD T ds)) (he : starEach [a] X.env = (false, eval a X.env) :: starEach [] X.env := by rfl) : Ev X Γ (.Call (.Name "tuple" p) [a] [] pos) (rD T (.tuple ds)) := fun W gh σ F G H E Q q =>
  EW.of (pe_callTy call_tuple_of h.hg h.hm (by decide +kernel) (pa_cons pe_w pa_nil he) (he := he)) (ha W gh σ F G H E _ fun v F' G' H' E' x0 ⟨l, vs, ev, hl, pv⟩ =>
    ⟨l, vs, by rw [ev], .inl ⟨.inl (.inl hl), fun n hn => by
      have fp := E'.fg.free (E'.gH.free hn)
      exact q (.ref n) _ _ _ (E'.newF hn) (x0.newF hn fp (E'.gH.free hn)) (.tup upd_same (dtAll_same (same_upd fp) _ _ pv))⟩⟩)
end
/-! ### defs -/
/-- arguments by what they stand for -/
def argsP (Rs : List Rp) : List V → Hp → Hp → Prop := fun vs F H => Paired (fun v (R : Rp) => R.P v F H H) vs Rs
/-- hands back a value -/
def spV (Rs : List Rp) (R : Rp) : Sp := fun vs H Q _ => ∃ F, Same F H ∧ argsP Rs vs F H ∧ ∀ v F1 H1, Ext F H F1 H1 → R.P v F1 F1 F1 → Q v H1
/-- hands back a new object -/
def spO (Rs : List Rp) (C : Cp) : Sp := fun vs H Q _ => ∃ F, Same F H ∧ argsP Rs vs F H ∧ ∀ l fo F1 H1, Ext F H F1 H1 → (∀ a ∈ fo, H a = none ∧ F1 a = none) → C.C l fo H1 F1 F1 → Q (.ref l) H1
abbrev CL (X : Cx) : CXT := L2.CX X.prog X.w
section
variable {k : Nat} {f C : Addr} {fd : FuncData} {ps : List Str} {x m : Str} {p apos : Pos} {o : Expr} {Rs : List Rp} {R : Rp} {Cc : Cp} {Q : VK} {vs : List V}
theorem spV_of {W : Wd} {gh : Gh} {σ : L2.St} {F G H : Hp} (E : En W gh Γ σ F G H) (ha : Paired (fun v (R : Rp) => R.P v F G H) vs Rs) {E' : XK} (q : ∀ v F' G' H', En W gh Γ σ F' G' H' → Gr F G H F' G' H' → R.P v F' G' H' → Q v H') : spV Rs R vs H Q E' :=
  ⟨F, E.fg.trans E.gH, paired_mono (Same.refl _) E.gH (Same.refl _) ha, fun v F1 H1 x pv => by
    obtain ⟨G1, gg, fg, _, E1⟩ := E.ext x
    exact q v F1 G1 H1 E1 gg (R.mono (Same.refl _) fg x.fh pv)⟩
theorem spO_of {W : Wd} {gh : Gh} {σ : L2.St} {F G H : Hp} (E : En W gh Γ σ F G H) (ha : Paired (fun v (R : Rp) => R.P v F G H) vs Rs) {E' : XK} (q : ∀ l fo F' G' H', En W gh Γ σ F' G' H' → Gr F G H F' G' H' → (∀ a ∈ fo, H a = none ∧ G' a = none) → Cc.C l fo H' F' G' → Q (.ref l) H') : spO Rs Cc vs H Q E' :=
  ⟨F, E.fg.trans E.gH, paired_mono (Same.refl _) E.gH (Same.refl _) ha, fun l fo F1 H1 x hn pv => by
    obtain ⟨G1, gg, fg, gn, E1⟩ := E.ext x
    exact q l fo F1 G1 H1 E1 gg (fun a ha => ⟨(hn a ha).1, gn a (hn a ha).2 (E.gH.free (hn a ha).1)⟩) (Cc.mono (Same.refl _) fg (fun _ _ => rfl) pv)⟩
variable {ds : List Value}
theorem ev_call (F : FnOk X.prog X.w X.K X.mg X.base (CL X) k f fd ps (spV Rs R)) (hr : Room k X.A) (hg : Gl X x) (hm : X.mg x = some (.ref f)) (hk : PySem.W.keepIn X.K (.ref f) = true) (hb : Binds X.K fd ps []) (ha : EvA X Γ (e :: es) Rs)
    (hdb : (x == ("__debug__" : Str)) = false := by decide) (he : starEach (e :: es) X.env = (false, eval e X.env) :: starEach es X.env := by rfl) (hpl : (backTo pos (starEach es X.env)).any (·.1) = false := by rfl) : Ev X Γ (.Call (.Name x p) (e :: es) [] pos) R := fun W gh σ F0 G H E Q q =>
  EW.of (pe_call F hr hg hm hk hb .nil passL pa_w hdb he hpl) (ha W gh σ F0 G H E _ fun vs F' G' H' E' x' pa => by
    rw [List.append_nil]
    exact spV_of E' pa fun v F2 G2 H2 E2 x2 => q v F2 G2 H2 E2 (x'.trans x2))
theorem evo_call (F : FnOk X.prog X.w X.K X.mg X.base (CL X) k f fd ps (spO Rs Cc)) (hr : Room k X.A) (hg : Gl X x) (hm : X.mg x = some (.ref f)) (hk : PySem.W.keepIn X.K (.ref f) = true) (hb : Binds X.K fd ps []) (ha : EvA X Γ (e :: es) Rs)
    (hdb : (x == ("__debug__" : Str)) = false := by decide) (he : starEach (e :: es) X.env = (false, eval e X.env) :: starEach es X.env := by rfl) (hpl : (backTo pos (starEach es X.env)).any (·.1) = false := by rfl) : EvO X Γ (.Call (.Name x p) (e :: es) [] pos) Cc := fun W gh σ F0 G H E Q q =>
  EW.of (pe_call F hr hg hm hk hb .nil passL pa_w hdb he hpl) (ha W gh σ F0 G H E _ fun vs F' G' H' E' x' pa => by
    rw [List.append_nil]
    exact spO_of E' pa fun l fo F2 G2 H2 E2 x2 hn => q l fo F2 G2 H2 E2 (x'.trans x2) fun a ha => ⟨x'.s.free (hn a ha).1, (hn a ha).2⟩)
/-- an instance of the class at C, m no field of it -/
def InsOf (R : Rp) (C : Addr) (m : Str) : Prop := ∀ v F G H, Same F G → Same G H → R.P v F G H → ∃ a dx fs, v = .ref a ∧ H a = some (.ins C dx fs) ∧ fs.lookup m = none
theorem ev_meth {pl : Sem Bool} {Ro : Rp} (ho : Ev X Γ o Ro) (hi : InsOf Ro C m) (c : Cls X.K C) (hm : Meth X.K C m f) (F : FnOk X.prog X.w X.K X.mg X.base (CL X) k f fd ps (spV (Ro :: Rs) R)) (hr : Room k X.A) (hb : Binds X.K fd ps []) (ha : EvA X Γ (e :: es) Rs)
    (hst : starEach (e :: es) X.env = (false, eval e X.env) :: starEach es X.env := by rfl) (hpl : (backTo pos (starEach es X.env)).any (·.1) = false := by rfl)
    (ht : eval (.Call (.Attribute o m apos) (e :: es) [] pos) X.env = (do
      let ov ← eval o X.env
      standAt apos.atName
      let (f, first) ← holding [ov] (getMethod ov m pl)
      callWith pos f first (backTo pos (starEach (e :: es) X.env)) (backToKw pos (keywordEach [] X.env))) := by rfl) : Ev X Γ (.Call (.Attribute o m apos) (e :: es) [] pos) R := fun W gh σ F0 G H E Q q =>
  EW.of (pe_meth pe_w c hm F hr hb .nil passL pa_w hst hpl ht) (ho W gh σ F0 G H E _ fun v F1 G1 H1 E1 x1 p1 => by
    obtain ⟨a, dx, fs, ev, hH, hl⟩ := hi v F1 G1 H1 E1.fg E1.gH p1
    refine ⟨a, dx, fs, ev, hH, hl, ha W gh σ F1 G1 H1 E1 _ fun vs F' G' H' E' x' pa => ?_⟩
    rw [List.append_nil]
    exact spV_of E' (.cons (Ro.mono x'.f x'.g x'.s p1) pa) fun v F2 G2 H2 E2 x2 => q v F2 G2 H2 E2 (x1.trans (x'.trans x2)))
theorem evo_meth {pl : Sem Bool} {Ro : Rp} (ho : Ev X Γ o Ro) (hi : InsOf Ro C m) (c : Cls X.K C) (hm : Meth X.K C m f) (F : FnOk X.prog X.w X.K X.mg X.base (CL X) k f fd ps (spO (Ro :: Rs) Cc)) (hr : Room k X.A) (hb : Binds X.K fd ps []) (ha : EvA X Γ (e :: es) Rs)
    (hst : starEach (e :: es) X.env = (false, eval e X.env) :: starEach es X.env := by rfl) (hpl : (backTo pos (starEach es X.env)).any (·.1) = false := by rfl)
    (ht : eval (.Call (.Attribute o m apos) (e :: es) [] pos) X.env = (do
      let ov ← eval o X.env
      standAt apos.atName
      let (f, first) ← holding [ov] (getMethod ov m pl)
      callWith pos f first (backTo pos (starEach (e :: es) X.env)) (backToKw pos (keywordEach [] X.env))) := by rfl) : EvO X Γ (.Call (.Attribute o m apos) (e :: es) [] pos) Cc := fun W gh σ F0 G H E Q q =>
  EW.of (pe_meth pe_w c hm F hr hb .nil passL pa_w hst hpl ht) (ho W gh σ F0 G H E _ fun v F1 G1 H1 E1 x1 p1 => by
    obtain ⟨a, dx, fs, ev, hH, hl⟩ := hi v F1 G1 H1 E1.fg E1.gH p1
    refine ⟨a, dx, fs, ev, hH, hl, ha W gh σ F1 G1 H1 E1 _ fun vs F' G' H' E' x' pa => ?_⟩
    rw [List.append_nil]
    exact spO_of E' (.cons (Ro.mono x'.f x'.g x'.s p1) pa) fun l fo F2 G2 H2 E2 x2 hn => q l fo F2 G2 H2 E2 (x1.trans (x'.trans x2)) fun a ha => ⟨(x1.trans x').s.free (hn a ha).1, (hn a ha).2⟩)
theorem ev_meth0 {pl : Sem Bool} {Ro : Rp} (ho : Ev X Γ o Ro) (hi : InsOf Ro C m) (c : Cls X.K C) (hm : Meth X.K C m f) (F : FnOk X.prog X.w X.K X.mg X.base (CL X) k f fd ps (spV [Ro] R)) (hr : Room k X.A) (hb : Binds X.K fd ps [])
    (ht : eval (.Call (.Attribute o m apos) [] [] pos) X.env = (do
      let ov ← eval o X.env
      standAt apos.atName
      let (f, first) ← holding [ov] (getMethod ov m pl)
      callWith pos f first (backTo pos (starEach [] X.env)) (backToKw pos (keywordEach [] X.env))) := by rfl) : Ev X Γ (.Call (.Attribute o m apos) [] [] pos) R := fun W gh σ F0 G H E Q q =>
  EW.of (pe_meth0 pe_w c hm F hr hb .nil passL ht) (ho W gh σ F0 G H E _ fun v F1 G1 H1 E1 x1 p1 => by
    obtain ⟨a, dx, fs, ev, hH, hl⟩ := hi v F1 G1 H1 E1.fg E1.gH p1
    refine ⟨a, dx, fs, ev, hH, hl, ?_⟩
    show spV [Ro] R [v] H1 Q E0
    exact spV_of E1 (.cons p1 .nil) fun v F2 G2 H2 E2 x2 => q v F2 G2 H2 E2 (x1.trans x2))
theorem evo_meth0 {pl : Sem Bool} {Ro : Rp} (ho : Ev X Γ o Ro) (hi : InsOf Ro C m) (c : Cls X.K C) (hm : Meth X.K C m f) (F : FnOk X.prog X.w X.K X.mg X.base (CL X) k f fd ps (spO [Ro] Cc)) (hr : Room k X.A) (hb : Binds X.K fd ps [])
    (ht : eval (.Call (.Attribute o m apos) [] [] pos) X.env = (do
      let ov ← eval o X.env
      standAt apos.atName
      let (f, first) ← holding [ov] (getMethod ov m pl)
      callWith pos f first (backTo pos (starEach [] X.env)) (backToKw pos (keywordEach [] X.env))) := by rfl) : EvO X Γ (.Call (.Attribute o m apos) [] [] pos) Cc := fun W gh σ F0 G H E Q q =>
  EW.of (pe_meth0 pe_w c hm F hr hb .nil passL ht) (ho W gh σ F0 G H E _ fun v F1 G1 H1 E1 x1 p1 => by
    obtain ⟨a, dx, fs, ev, hH, hl⟩ := hi v F1 G1 H1 E1.fg E1.gH p1
    refine ⟨a, dx, fs, ev, hH, hl, ?_⟩
    show spO [Ro] Cc [v] H1 Q E0
    exact spO_of E1 (.cons p1 .nil) fun l fo F2 G2 H2 E2 x2 hn => q l fo F2 G2 H2 E2 (x1.trans x2) fun a ha => ⟨x1.s.free (hn a ha).1, (hn a ha).2⟩)
/-! properties, fields -/
theorem ev_prop {g pa : Addr} {Ro : Rp} {at_ : Str} (ho : Ev X Γ o Ro) (hi : InsOf Ro C "") (c : Cls X.K C) (hp : PropOf X.K C at_ pa g) (F : FnOk X.prog X.w X.K X.mg X.base (CL X) k g fd ps (spV [Ro] R)) (hr : Room (k + 1) X.A) (hb : Binds X.K fd ps [])
    (hab : attributeBase o at_ X.env (eval o X.env) = eval o X.env := by rfl) : Ev X Γ (.Attribute o at_ pos) R := fun W gh σ F0 G H E Q q =>
  EW.of (pe_prop pe_w c hp F hr hb .nil passL hab) (ho W gh σ F0 G H E _ fun v F1 G1 H1 E1 x1 p1 => by
    obtain ⟨a, dx, fs, ev, hH, hl⟩ := hi v F1 G1 H1 E1.fg E1.gH p1
    refine ⟨a, dx, fs, ev, hH, ?_⟩
    rw [ev] at p1
    exact spV_of E1 (.cons p1 .nil) fun v F2 G2 H2 E2 x2 => q v F2 G2 H2 E2 (x1.trans x2))
theorem evo_prop {g pa : Addr} {Ro : Rp} {at_ : Str} (ho : Ev X Γ o Ro) (hi : InsOf Ro C "") (c : Cls X.K C) (hp : PropOf X.K C at_ pa g) (F : FnOk X.prog X.w X.K X.mg X.base (CL X) k g fd ps (spO [Ro] Cc)) (hr : Room (k + 1) X.A) (hb : Binds X.K fd ps [])
    (hab : attributeBase o at_ X.env (eval o X.env) = eval o X.env := by rfl) : EvO X Γ (.Attribute o at_ pos) Cc := fun W gh σ F0 G H E Q q =>
  EW.of (pe_prop pe_w c hp F hr hb .nil passL hab) (ho W gh σ F0 G H E _ fun v F1 G1 H1 E1 x1 p1 => by
    obtain ⟨a, dx, fs, ev, hH, hl⟩ := hi v F1 G1 H1 E1.fg E1.gH p1
    refine ⟨a, dx, fs, ev, hH, ?_⟩
    rw [ev] at p1
    exact spO_of E1 (.cons p1 .nil) fun l fo F2 G2 H2 E2 x2 hn => q l fo F2 G2 H2 E2 (x1.trans x2) fun a ha => ⟨x1.s.free (hn a ha).1, (hn a ha).2⟩)
/-- a field of an instance: k says where it stands and what it stands for -/
theorem ev_fld {Ro R : Rp} {at_ : Str} (ho : Ev X Γ o Ro) (c : Cls X.K C) (n : NoAttr X.K C at_) (k : ∀ v F G H, Same F G → Same G H → Ro.P v F G H → ∃ a dx fs u, v = .ref a ∧ H a = some (.ins C dx fs) ∧ fs.lookup at_ = some u ∧ R.P u F G H)
    (hb : attributeBase o at_ X.env (eval o X.env) = eval o X.env := by rfl) : Ev X Γ (.Attribute o at_ pos) R := fun W gh σ F0 G H E Q q =>
  EW.of (pe_fld pe_w hb) (ho W gh σ F0 G H E _ fun v F1 G1 H1 E1 x1 p1 => by
    obtain ⟨a, dx, fs, u, ev, hH, hl, pu⟩ := k v F1 G1 H1 E1.fg E1.gH p1
    exact ⟨a, C, dx, fs, u, ev, hH, c, n, hl, q u F1 G1 H1 E1 x1 pu⟩)
end
end
end L3
/-! L3, part d: contexts, statements, loops, a def's body. -/
namespace L3
open PySem PySem.Spec PyProof.Rows L2
/-! ### contexts -/
def visB (nm : List (Str × NameKind)) (x : Str) : Bool := match nm.lookup x with
  | some .local => true
  | some .cell => true
  | some .free => true
  | _ => false
def locB (nm : List (Str × NameKind)) (x : Str) : Bool := match nm.lookup x with
  | some .local => true
  | some .cell => true
  | _ => false
def gloB (nm : List (Str × NameKind)) (x : Str) : Bool := match nm.lookup x with
  | some .globalImplicit => true
  | _ => false
def onlyB (nm : List (Str × NameKind)) (x : Str) : Bool := match nm.lookup x with
  | some .local => true
  | _ => false
/-- what the rules want of a context: N its slots, nm its names, room for k calls -/
structure XV (X : Cx) (N : List Str) (nm : List (Str × NameKind)) : Prop where
  hN : X.N = N
  nd : X.N.Nodup
  nm : X.env.scope.names = nm
  kd : X.env.scope.kind = .function
structure XC (X : Cx) (N : List Str) (nm : List (Str × NameKind)) (k : Nat) : Prop extends XV X N nm where
  calm : X.calm = true
  room : Room k X.A
structure XB (X : Cx) (N : List Str) (nm : List (Str × NameKind)) (k : Nat) : Prop extends XC X N nm k where
  fnn : ∀ x, X.fn x = true
  pass : PassesOwn (model X.prog X.w) X.A X.env X.xe
  stk : X.stack = X.env :: X.outer
  frm : X.env.frame = some X.env.locals
  ex : X.ex = []
section
variable {T : Tx} {X : Cx} {N : List Str} {nm : List (Str × NameKind)} {k : Nat} {Γ : List Sl}
theorem XV.vis (xf : XV X N nm) {x : Str} (h : visB nm x = true) : Vis X.env.scope x := by
  unfold Vis
  rw [xf.nm]
  unfold visB at h
  split at h <;> rename_i e
  · exact .inl e
  · exact .inr (.inl e)
  · exact .inr (.inr e)
  · cases h
theorem XV.loc (xf : XV X N nm) {x : Str} (h : locB nm x = true) : L2.Loc X.env.scope x := by
  unfold L2.Loc
  rw [xf.nm]
  unfold locB at h
  split at h <;> rename_i e
  · exact .inl e
  · exact .inr e
  · cases h
theorem XV.only (xf : XV X N nm) {x : Str} (h : onlyB nm x = true) : X.env.scope.names.lookup x = some .local := by
  rw [xf.nm]
  unfold onlyB at h
  split at h <;> rename_i e
  · exact e
  · cases h
theorem XV.gl (xf : XV X N nm) {x : Str} (h : gloB nm x = true) : Gl X x := by
  unfold Gl Env.kindOf
  show X.env.scope.names.lookup x = _
  rw [xf.nm]
  unfold gloB at h
  split at h <;> rename_i e
  · exact e
  · cases h
theorem XV.bl (xf : XV X N nm) {x : Str} (hm : X.mg x = none) (h : gloB nm x = true := by decide +kernel) : Bl X x := ⟨xf.gl h, hm⟩
theorem XV.at_ (xf : XV X N nm) {x : Str} {i : Nat} (h : N[i]? = some x) : X.N[i]? = some x := by rw [xf.hN]; exact h
theorem XC.ls (xf : XC X N nm k) : X.A.units + 65 < cLine := Nat.lt_of_le_of_lt (by omega) xf.room.un
theorem XC.ls0 (xf : XC X N nm k) : X.A.units + 64 < cLine := Nat.lt_of_le_of_lt (by omega) xf.room.un
theorem XB.v (xb : XB X N nm k) : XV X N nm := xb.toXC.toXV
/-- a name -/
theorem v_ (xf : XV X N nm) (i : Nat) {x : Str} {pos : Pos} {R : Rp} {h : Sta R} (hi : Γ[i]? = some (.vl R h) := by rfl) (hN : N[i]? = some x := by rfl) (hv : visB nm x = true := by decide +kernel) (hd : (x == ("__debug__" : Str)) = false := by decide +kernel)
    (hcd : (x == ("__classdict__" : Str)) = false := by decide +kernel) : Ev X Γ (.Name x pos) R := ev_var i hi (xf.at_ hN) (xf.vis hv) hd hcd
/-- an own thing's name, read -/
theorem o_ (xf : XV X N nm) (i : Nat) {x : Str} {pos : Pos} {d : Val} (hi : Γ[i]? = some (.ow (cV T d)) := by rfl) (hN : N[i]? = some x := by rfl) (hv : visB nm x = true := by decide +kernel) (hd : (x == ("__debug__" : Str)) = false := by decide +kernel)
    (hcd : (x == ("__classdict__" : Str)) = false := by decide +kernel) : Ev X Γ (.Name x pos) (hV T d) := ev_varO i hi (xf.at_ hN) (xf.vis hv) hd hcd
end
/-! ### blocks -/
def Blk (X : Cx) (W : Wd) (D : Ends) (gh : Gh) (Γ : List Sl) (ss : List Stmt) : Prop := ∀ (σ : L2.St) (F G H : Hp), En W gh Γ σ F G H → BW X ss D σ H
/-- reached with Γ -/
def EnN (W : Wd) (gh : Gh) (Γ : List Sl) : L2.St → Hp → Prop := fun σ H => ∃ F G, En W gh Γ σ F G H
/-- what is handed back stands for R -/
def RetV (W : Wd) (D : Ends) (R : Rp) : Prop := ∀ v F1 H1, Ext W.F0 W.H0 F1 H1 → R.P v F1 F1 F1 → D.rt v H1
def RetO (W : Wd) (D : Ends) (C : Cp) : Prop := ∀ l fo F1 H1, Ext W.F0 W.H0 F1 H1 → (∀ a ∈ fo, W.H0 a = none ∧ F1 a = none) → C.C l fo H1 F1 F1 → D.rt (.ref l) H1
class FzC (C : Cp) : Prop where
  fz : ∀ {l : Addr} {fo : List Addr} {F G G' H : Hp}, C.C l fo H F G → C.C l fo H F G'
instance {T : Tx} {d : Val} : FzC (cV T d) := ⟨fun h => h⟩
/-- slots weakened one by one -/
inductive SlAll : List Sl → List Sl → Prop
  | nil : SlAll [] []
  | cons {a b : Sl} {l m : List Sl} (h : SlLe a b) (t : SlAll l m) : SlAll (a :: l) (b :: m)
theorem SlAll.len : ∀ {l m : List Sl}, SlAll l m → m.length = l.length
  | _, _, .nil => rfl
  | _, _, .cons _ t => by simp [SlAll.len t]
theorem SlAll.get : ∀ {l m : List Sl}, SlAll l m → ∀ (i : Nat) (a b : Sl), l[i]? = some a → m[i]? = some b → SlLe a b
  | _, _, .nil, _, _, _, e, _ => by simp at e
  | _, _, .cons h t, 0, a, b, e1, e2 => by
    simp at e1 e2
    rw [← e1, ← e2]
    exact h
  | _, _, .cons h t, i + 1, a, b, e1, e2 => SlAll.get t i a b (by simpa using e1) (by simpa using e2)
theorem SlAll.rfl : ∀ (l : List Sl), SlAll l l
  | [] => .nil
  | a :: l => .cons (.refl a) (SlAll.rfl l)
section
variable {W : Wd} {gh : Gh} {Γ Γ' : List Sl} {σ : L2.St} {F G H : Hp}
theorem En.le (E : En W gh Γ σ F G H) (h : SlAll Γ Γ') : En W gh Γ' σ F G H := E.imp h.len h.get
theorem En.gw {gh' : Gh} (E : En W gh Γ σ F G H) (h : gh'.g F G) : En W gh' Γ σ F G H := ⟨E.len, E.f0, E.h0, E.fg, E.gH, E.gr, h, E.vl, E.ow⟩
end
section
variable {T : Tx} {X : Cx} {N : List Str} {nm : List (Str × NameKind)} {k : Nat} {W : Wd} {D : Ends} {gh : Gh} {Γ Γ' : List Sl} {ss a b : List Stmt} {st : Stmt} {e c tg : Expr} {pos p : Pos}
theorem blk_le (h : SlAll Γ Γ') (t : Blk X W D gh Γ' ss) : Blk X W D gh Γ ss := fun σ F G H E => t σ F G H (E.le h)
theorem blk_ps {t : TS} (h : PS X st t) (q : ∀ σ F G H, En W gh Γ σ F G H → t { D with nx := BW X ss D } σ H) : Blk X W D gh Γ (st :: ss) := fun σ F G H E => BW.of (pss_cons h pss_w) (q σ F G H E)
theorem blk_nil (q : ∀ σ F G H, En W gh Γ σ F G H → D.nx σ H) : Blk X W D gh Γ [] := fun σ F G H E => BW.of pss_nil (q σ F G H E)
/-- the end of a loop's body, of a branch that goes on -/
theorem blk_end {rt : VK} {bk ct : L2.St → Hp → Prop} (h : SlAll Γ Γ') : Blk X W { nx := EnN W gh Γ', rt := rt, bk := bk, ct := ct } gh Γ [] := blk_nil fun σ F G H E => ⟨F, G, E.le h⟩
/-- the end of a branch, the rest follows -/
theorem blk_go {rt : VK} {bk ct : L2.St → Hp → Prop} (h : Blk X W D gh Γ ss) : Blk X W { nx := BW X ss D, rt := rt, bk := bk, ct := ct } gh Γ [] := blk_nil fun σ F G H E => h σ F G H E
theorem blk_pass (t : Blk X W D gh Γ ss) : Blk X W D gh Γ (.Pass pos :: ss) := blk_ps ps_pass fun σ F G H E => t σ F G H E
theorem blk_cont {nx : L2.St → Hp → Prop} {rt : VK} {bk : L2.St → Hp → Prop} (h : SlAll Γ Γ') : Blk X W { nx := nx, rt := rt, bk := bk, ct := EnN W gh Γ' } gh Γ (.Continue pos :: ss) := blk_ps ps_continue fun σ F G H E => ⟨F, G, E.le h⟩
theorem blk_break {nx : L2.St → Hp → Prop} {rt : VK} {ct : L2.St → Hp → Prop} {rest : List Stmt} (h : Blk X W D gh Γ rest) : Blk X W { nx := nx, rt := rt, bk := BW X rest D, ct := ct } gh Γ (.Break pos :: ss) := blk_ps ps_break fun σ F G H E => h σ F G H E
theorem blk_doc {x : Str} {j : Nat} (t : Blk X W D gh Γ ss) : Blk X W D gh Γ (.Expr (.Constant (.str x) j p) pos :: ss) := blk_ps ps_doc fun σ F G H E => t σ F G H E
/-! assignments -/
theorem blk_set (xb : XB X N nm k) (i : Nat) {x : Str} {R : Rp} [hR : Sta R] (h : Ev X Γ e R) (t : Blk X W D gh (Γ.set i (.vl R hR)) ss) (hN : N[i]? = some x := by rfl) (hl : locB nm x = true := by decide +kernel)
    (hs : swapsWith e (some (.Name x p)) pos.line X.env = pure false := by rfl) : Blk X W D gh Γ (.Assign [.Name x p] e pos :: ss) :=
  blk_ps (ps_set xb.nd (xb.at_ hN) (xb.loc hl) pe_w hs (.inl (xb.fnn x))) fun σ F G H E => h W gh σ F G H E _ fun v F' G' H' E' x0 pv => t _ F' G' H' (E'.setV pv)
theorem blk_setO (xb : XB X N nm k) (i : Nat) {x : Str} {C : Cp} (h : EvO X Γ e C) (t : Blk X W D gh (Γ.set i (.ow C)) ss) (hN : N[i]? = some x := by rfl) (hl : locB nm x = true := by decide +kernel)
    (hs : swapsWith e (some (.Name x p)) pos.line X.env = pure false := by rfl) : Blk X W D gh Γ (.Assign [.Name x p] e pos :: ss) :=
  blk_ps (ps_set xb.nd (xb.at_ hN) (xb.loc hl) pe_w hs (.inl (xb.fnn x))) fun σ F G H E => h W gh σ F G H E _ fun l fo F' G' H' E' x0 hn pc => t _ F' G' H' (E'.setO (fun a ha => (hn a ha).2) pc fun j C' m fo' _ e e1 q a ha => E.notOwn x0.s (hn a ha).1 j C' m fo' e e1 q)
/-- the own thing of a slot is frozen (no statement) -/
theorem blk_frz (i : Nat) {d : Val} (hi : Γ[i]? = some (.ow (cV T d))) (t : Blk X W D gh (Γ.set i (vl (rD T d))) ss) : Blk X W D gh Γ ss := fun σ F G H E => by
  obtain ⟨fp, ow, hd⟩ := E.ow
  obtain ⟨l, e1, gn, pc⟩ := ow i _ hi
  obtain ⟨ef, _, o, eo, zz⟩ := own_one pc
  have gl : G l = none := gn l (by rw [ef]; exact List.mem_cons_self)
  have fl := E.fg.free gl
  have E1 : En W gh (Γ.set i .no) σ F G H := E.imp (by rw [List.length_set]) fun j a b ea eb => by
    by_cases z : i = j
    · subst z
      rw [List.getElem?_set] at eb
      simp only [if_true] at eb
      split at eb
      · injection eb with eb
        subst eb
        exact .no a
      · cases eb
    · rw [List.getElem?_set_ne z, ea] at eb
      injection eb with eb
      subst eb
      exact .refl a
  have E2 := E1.freeze eo gl fun j C m fo ej e2 q hp => by
    by_cases z : i = j
    · subst z
      rw [List.getElem?_set] at ej
      simp at ej
    · rw [List.getElem?_set_ne z] at ej
      obtain ⟨m', e3, _, q'⟩ := ow j C ej
      rw [e2] at e3
      cases e3
      rw [C.det (Same.refl _) q' q] at hp
      exact hd i j _ C l z hi ej (by rw [ef]; exact List.mem_cons_self) hp
  have E3 := E2.setV (i := i) (R := rD T d) (h := inferInstance) (v := .ref l) (zz _ _ _ (same_upd fl) upd_same)
  rw [List.set_set] at E3
  have es : σ.set i (some (V.ref l)) = σ := by
    refine List.ext_getElem? fun j => ?_
    by_cases z : i = j
    · subst z
      rw [e1, List.getElem?_set_self (List.getElem?_eq_some_iff.mp e1).1]
    · rw [List.getElem?_set_ne z]
  rw [es] at E3
  exact t σ _ _ H E3
/-! targets -/
structure GW (X : Cx) (tg : Expr) (v : V) (σ : L2.St) (H : Hp) (Q : L2.St → Hp → Prop) : Prop where
  go : ∀ (pins : List (Addr × Obj)) (s : Shared) (u : Value), Inv X pins σ H s → RelV v u → wpAny (model X.prog X.w) X.A (assign tg X.env u) (fun _ s' => ∃ σ' H', Inv X pins σ' H' s' ∧ Q σ' H') X.xe s
theorem pg_w : PG X tg (GW X tg) := ⟨fun pins s σ H v u Q I r h => h.go pins s u I r⟩
theorem GW.of {t : TG} {v : V} {σ : L2.St} {H : Hp} {Q : L2.St → Hp → Prop} (h : PG X tg t) (q : t v σ H Q) : GW X tg v σ H Q := ⟨fun pins s u I r => h.run pins s σ H v u Q I r q⟩
structure GWs (X : Cx) (ts : List Expr) (vs : List V) (σ : L2.St) (H : Hp) (Q : L2.St → Hp → Prop) : Prop where
  go : ∀ (pins : List (Addr × Obj)) (s : Shared) (us : List Value), Inv X pins σ H s → Vals vs us → wpAny (model X.prog X.w) X.A (assignInOrder ((assignEach ts X.env).map (·.2)) us) (fun _ s' => ∃ σ' H', Inv X pins σ' H' s' ∧ Q σ' H') X.xe s
theorem pgs_w {ts : List Expr} : PGs X ts (GWs X ts) := ⟨fun pins s σ H vs us Q I r h => h.go pins s us I r⟩
theorem GWs.of {ts : List Expr} {t : TGs} {vs : List V} {σ : L2.St} {H : Hp} {Q : L2.St → Hp → Prop} (h : PGs X ts t) (q : t vs σ H Q) : GWs X ts vs σ H Q := ⟨fun pins s us I r => h.run pins s σ H vs us Q I r q⟩
/-- a value that stands for R is stored -/
def Tg (X : Cx) (Γ : List Sl) (R : Rp) (tg : Expr) (Γ' : List Sl) (ts : List Nat) : Prop := ∀ (W : Wd) (gh : Gh) (σ : L2.St) (F G H : Hp) (v : V), En W gh Γ σ F G H → R.P v F G H → ∀ Q : L2.St → Hp → Prop, (∀ σ', En W gh Γ' σ' F G H → (∀ vs : List Nat, (∀ j ∈ ts, j ∈ vs) → wipe σ' vs = wipe σ vs) → Q σ' H) → GW X tg v σ H Q
def Tgs (T : Tx) (X : Cx) (Γ : List Sl) (ds : List Val) (ts : List Expr) (Γ' : List Sl) (is : List Nat) : Prop := ∀ (W : Wd) (gh : Gh) (σ : L2.St) (F G H : Hp) (vs : List V), En W gh Γ σ F G H → DtAll T F vs ds → ∀ Q : L2.St → Hp → Prop, (∀ σ', En W gh Γ' σ' F G H → (∀ vs : List Nat, (∀ j ∈ is, j ∈ vs) → wipe σ' vs = wipe σ vs) → Q σ' H) → GWs X ts vs σ H Q
theorem wipe_get : ∀ {σ : L2.St} {vs : List Nat} {j : Nat}, (wipe σ vs)[j]? = if j ∈ vs ∧ j < σ.length then some none else σ[j]?
  | σ, [], j => by simp [wipe]
  | σ, v :: vs, j => by
    unfold wipe
    rw [List.getElem?_set, wipe_length, wipe_get]
    by_cases h : v = j
    · subst h
      by_cases hl : v < σ.length
      · simp [hl]
      · simp [hl]
    · have h' : ¬ j = v := fun z => h z.symm
      simp [h, h']
theorem wipe_set {σ : L2.St} {vs : List Nat} {i : Nat} {v : Option V} (h : i ∈ vs) : wipe (σ.set i v) vs = wipe σ vs := by
  refine List.ext_getElem? fun j => ?_
  rw [wipe_get, wipe_get, List.length_set, List.getElem?_set]
  by_cases hj : i = j
  · subst hj
    by_cases hl : i < σ.length
    · simp [h, hl]
    · simp [hl]
  · simp [hj]
theorem tg_name (xf : XV X N nm) (i : Nat) {x : Str} {R : Rp} [hR : Sta R] (hN : N[i]? = some x := by rfl) (hl : locB nm x = true := by decide +kernel) (hf : X.fn x = true ∨ X.env.scope.names.lookup x = some .local) : Tg X Γ R (.Name x pos) (Γ.set i (.vl R hR)) [i] := fun W gh σ F G H v E pv Q q =>
  GW.of (pg_name xf.nd (xf.at_ hN) (xf.loc hl) hf) (q _ (E.setV pv) fun vs h => wipe_set (h i List.mem_cons_self))
theorem tgs_nil : Tgs T X Γ [] [] Γ [] := fun W gh σ F G H vs E pv Q q => by
  cases pv
  exact GWs.of pgs_nil ⟨rfl, q σ E fun _ _ => rfl⟩
theorem tgs_cons {d : Val} {ds : List Val} {ts : List Expr} {Γ1 : List Sl} {is js : List Nat} (h : Tg X Γ (rD T d) tg Γ1 is) (t : Tgs T X Γ1 ds ts Γ' js) (hs : (assignEach (tg :: ts) X.env).map (·.2) = assign tg X.env :: (assignEach ts X.env).map (·.2) := by rfl) : Tgs T X Γ (d :: ds) (tg :: ts) Γ' (is ++ js) := fun W gh σ F G H vs E pv Q q => by
  cases pv with
  | cons p1 p2 => exact GWs.of (pgs_cons pg_w pgs_w hs) ⟨_, _, rfl, h W gh σ F G H _ E p1 _ fun σ1 E1 w1 => t W gh σ1 F G H _ E1 p2 _ fun σ2 E2 w2 => q σ2 E2 fun vs hv => (w2 vs fun j hj => hv j (List.mem_append_right _ hj)).trans (w1 vs fun j hj => hv j (List.mem_append_left _ hj))⟩
theorem tg_tup {ds : List Val} {ts : List Expr} {j n : Nat} {is : List Nat} (hc : X.calm = true) (h : Tgs T X Γ ds ts Γ' is) (hn : (assignEach ts X.env).length = n := by rfl) (hd : ds.length = n := by rfl) (hst : (assignEach ts X.env).findIdx? (·.1) = none := by rfl) : Tg X Γ (rD T (.tuple ds)) (.Tuple ts j pos) Γ' is := fun W gh σ F G H v E pv Q q => by
  obtain ⟨a, vs, ev, hH, pvs⟩ := tup_inv pv
  exact GW.of (pg_tup hc pgs_w hn hst) ⟨a, vs, ev, .inl (.inl (E.gH _ _ (E.fg _ _ hH))), by rw [pvs.length]; exact hd, h W gh σ F G H vs E pvs Q q⟩
/-- a, b, .. = a list of that length -/
theorem tg_lst {ds : List Val} {ts : List Expr} {j n : Nat} {is : List Nat} (hc : X.calm = true) (h : Tgs T X Γ ds ts Γ' is) (hn : (assignEach ts X.env).length = n := by rfl) (hd : ds.length = n := by rfl) (hst : (assignEach ts X.env).findIdx? (·.1) = none := by rfl) : Tg X Γ (rD T (.list ds)) (.Tuple ts j pos) Γ' is := fun W gh σ F G H v E pv Q q => by
  obtain ⟨a, vs, ev, hH, pvs⟩ := lst_inv pv
  exact GW.of (pg_lst hc pgs_w hn hst) ⟨a, vs, ev, .inl (.inl (E.gH _ _ (E.fg _ _ hH))), by rw [pvs.length]; exact hd, h W gh σ F G H vs E pvs Q q⟩
theorem blk_asg {R : Rp} {ts : List Nat} (h : Ev X Γ e R) (g : Tg X Γ R tg Γ' ts) (t : Blk X W D gh Γ' ss) (hs : swapsWithSole [tg] e pos.line X.env = pure false := by rfl) (hw : swappedStores [tg] e X.env = pure none := by rfl)
    (h1 : (assignEach [tg] X.env).map (·.2) = [assign tg X.env] := by rfl) : Blk X W D gh Γ (.Assign [tg] e pos :: ss) :=
  blk_ps (ps_asg pe_w pg_w hs hw h1) fun σ F G H E => h W gh σ F G H E _ fun v F' G' H' E' x0 pv => g W gh σ F' G' H' v E' pv _ fun σ' E2 _ => t σ' F' G' H' E2
/-- a, b = x, y -/
theorem blk_par (xb : XB X N nm k) (i j : Nat) {x y : Str} {e1 e2 : Expr} {px py pt : Pos} {kt k2 : Nat} {pt2 : Pos} {d d' : Val} (h1 : Ev X Γ e1 (rD T d)) (h2 : Ev X Γ e2 (rD T d')) (t : Blk X W D gh ((Γ.set i (vl (rD T d))).set j (vl (rD T d'))) ss)
    (hij : i ≠ j := by decide) (hi : N[i]? = some x := by rfl) (hj : N[j]? = some y := by rfl) (hx : onlyB nm x = true := by decide +kernel) (hy : onlyB nm y = true := by decide +kernel)
    (hw : swappedStores [.Tuple [.Name x px, .Name y py] kt pt] (.Tuple [e1, e2] k2 pt2) X.env = pure (some [x, y]))
    (he : starEach [e1, e2] X.env = (false, eval e1 X.env) :: starEach [e2] X.env := by rfl) (he2 : starEach [e2] X.env = (false, eval e2 X.env) :: starEach [] X.env := by rfl)
    (hs : swapsWithSole [.Tuple [.Name x px, .Name y py] kt pt] (.Tuple [e1, e2] k2 pt2) pos.line X.env = pure false := by rfl) : Blk X W D gh Γ (.Assign [.Tuple [.Name x px, .Name y py] kt pt] (.Tuple [e1, e2] k2 pt2) pos :: ss) :=
  blk_ps (ps_par xb.calm xb.nd (xb.at_ hi) (xb.at_ hj) hij (xb.only hx) (xb.only hy) (pa_cons pe_w (pa_cons pe_w pa_nil he2) he) hw hs) fun σ F G H E => ev_seq h1 h2 E fun v w F' G' H' E' x0 p1 p2 => ⟨v, w, rfl, t _ F' G' H' ((E'.setV p1).setV (R := rD T d') p2)⟩
/-! tests, returns -/
theorem blk_if {d : Bool} (h : Tv X Γ c d) (ht : d = true → Blk X W { D with nx := BW X ss D } gh Γ a) (hf : d = false → Blk X W { D with nx := BW X ss D } gh Γ b) : Blk X W D gh Γ (.If c a b pos :: ss) :=
  blk_ps (ps_if pt_w pss_w pss_w) fun σ F G H E => h W gh σ F G H E _ fun F' G' H' E' x0 => by
    cases d with
    | true => exact iteT (ht rfl σ F' G' H' E')
    | false => exact iteF (hf rfl σ F' G' H' E')
/-- both branches come to Γ' -/
theorem blk_ifm {d : Bool} (Γ' : List Sl) (h : Tv X Γ c d) (ht : d = true → Blk X W { D with nx := EnN W gh Γ' } gh Γ a) (hf : d = false → Blk X W { D with nx := EnN W gh Γ' } gh Γ b) (t : Blk X W D gh Γ' ss) : Blk X W D gh Γ (.If c a b pos :: ss) :=
  blk_if h (fun z σ F G H E => ⟨fun pins s I => by
    have q := (ht z σ F G H E).go pins s I
    refine thn q fun fl s' hs => ?_
    cases fl with
    | next => obtain ⟨σ', H', I', F', G', E'⟩ := hs; exact ⟨σ', H', I', t σ' F' G' H' E'⟩
    | ret u => exact hs
    | brk => exact hs
    | cont => exact hs⟩) fun z σ F G H E => ⟨fun pins s I => by
    have q := (hf z σ F G H E).go pins s I
    refine thn q fun fl s' hs => ?_
    cases fl with
    | next => obtain ⟨σ', H', I', F', G', E'⟩ := hs; exact ⟨σ', H', I', t σ' F' G' H' E'⟩
    | ret u => exact hs
    | brk => exact hs
    | cont => exact hs⟩
theorem blk_ret {R : Rp} [hR : Fz R] (h : Ev X Γ e R) (r : RetV W D R) : Blk X W D gh Γ (.Return (some e) pos :: ss) :=
  blk_ps (ps_ret pe_w) fun σ F G H E => h W gh σ F G H E _ fun v F' G' H' E' x0 pv => r v F' H' E'.toExt (hR.fz pv)
theorem blk_retO {C : Cp} [hC : FzC C] (h : EvO X Γ e C) (r : RetO W D C) : Blk X W D gh Γ (.Return (some e) pos :: ss) :=
  blk_ps (ps_ret pe_w) fun σ F G H E => h W gh σ F G H E _ fun l fo F' G' H' E' x0 hn pc => r l fo F' H' E'.toExt (fun a ha => ⟨E.h0.free (E.gH.free (hn a ha).1), E'.fg.free (hn a ha).2⟩) (hC.fz pc)
/-- return x, x an own list -/
theorem blk_retV {C : Cp} [hC : FzC C] (xf : XV X N nm) (i : Nat) {x : Str} (hi : Γ[i]? = some (.ow C)) (r : RetO W D C) (hN : N[i]? = some x := by rfl) (hv : visB nm x = true := by decide +kernel) (hd : (x == ("__debug__" : Str)) = false := by decide +kernel)
    (hcd : (x == ("__classdict__" : Str)) = false := by decide +kernel) : Blk X W D gh Γ (.Return (some (.Name x p)) pos :: ss) :=
  blk_ps (ps_ret (pe_var (xf.at_ hN) (xf.vis hv) hd hcd)) fun σ F G H E => by
    obtain ⟨fp, ow, _⟩ := E.ow
    obtain ⟨l, e1, gn, pc⟩ := ow i C hi
    exact ⟨_, e1, r l _ F H E.toExt (fun a ha => ⟨E.h0.free (gn a ha), E.fg.free (gn a ha)⟩) (hC.fz pc)⟩
theorem blk_retN (r : RetV W D (rD T .none)) : Blk X W D gh Γ (.Return none pos :: ss) := blk_ps ps_retN fun σ F G H E => r .non F H E.toExt .non
/-! an own list grows -/
theorem blk_app (xb : XB X N nm k) (i : Nat) {x : Str} {ds : List Val} {d : Val} {apos cpos np : Pos} (hi : Γ[i]? = some (.ow (cD T ds))) (h : Ev X Γ e (rD T d)) (hz : ds.length < sizeLine) (t : Blk X W D gh (Γ.set i (.ow (cD T (ds ++ [d])))) ss)
    (hN : N[i]? = some x := by rfl) (hv : visB nm x = true := by decide +kernel) (hd : (x == ("__debug__" : Str)) = false := by decide +kernel) (hcd : (x == ("__classdict__" : Str)) = false := by decide +kernel)
    (hbase : attributeBase (.Name x np) ("append" : Str) X.env (eval (.Name x np) X.env) = eval (.Name x np) X.env := by rfl)
    (hfew : ((backTo cpos (starEach [e] X.env)).all (fun x => !x.1) && (backToKw cpos (keywordEach [] X.env)).all (fun x => x.1.isSome)
      && decide ([e].length + ([] : List Keyword).length + (if ([] : List Keyword).isEmpty then 0 else 1) < 30)) = true := by rfl)
    (hline : (apos.endLine == cpos.line) = true := by rfl) (he : starEach [e] X.env = (false, eval e X.env) :: starEach [] X.env := by rfl)
    (hsw : swapsWith (.Call (.Attribute (.Name x np) "append" apos) [e] [] cpos) none pos.line X.env = pure false := by rfl) :
    Blk X W D gh Γ (.Expr (.Call (.Attribute (.Name x np) "append" apos) [e] [] cpos) pos :: ss) :=
  blk_ps (ps_expr (pe_bm PySem.F.plainAttrs_list PySem.F.slot_list_append PySem.F.type_list_append mt_append (pe_var (xb.at_ hN) (xb.vis hv) hd hcd) (pa_cons pe_w pa_nil he) hbase hfew hline he) hsw) fun σ F G H E => by
    obtain ⟨fp, ow, _⟩ := E.ow
    obtain ⟨l, e1, gn, ef, _, l2, vs, el, eo, pv⟩ := ow i _ hi
    cases el
    refine ⟨_, e1, .inl ⟨rfl, _, .inl (.inl eo)⟩, h W gh σ F G H E _ fun v F' G' H' E' x0 p1 => ?_⟩
    refine ⟨l, vs, v, rfl, rfl, x0.s _ _ eo, by rw [pv.length]; exact hz, ?_⟩
    exact t σ F' G' _ (E'.mut hi fun l' fo e2 q gq => by
      rw [e1] at e2
      cases e2
      obtain ⟨ef', _⟩ := q
      subst ef'
      exact ⟨List.mem_cons_self, own_list ⟨upd_same, (dtAll_same x0.f _ _ pv).snoc p1⟩⟩)
/-! ### loops -/
/-- what J yields, under g -/
structure ItOk (J : It) (Rs : List Rp) (g : Gh) : Prop where
  stop : ∀ F G H, Same F G → Same G H → g.g F G → J.stop Rs.length H
  go : ∀ i F G H, i < Rs.length → Same F G → Same G H → g.g F G → J.go i H
  yld : ∀ (i : Nat) (R : Rp) (F G H : Hp) (x : V) (H' : Hp), Rs[i]? = some R → Same F G → Same G H → g.g F G → J.yld i H x H' → (H' = H ∧ R.P x F G H) ∨ ∃ T o, H T = none ∧ H' = upd H T o ∧ R.P x (upd F T o) (upd G T o) (upd H T o)
/-- what is walked yields things that stand for Rs, one after another -/
def EvI (X : Cx) (Γ : List Sl) (tg it : Expr) (Rs : List Rp) : Prop := ∀ (W : Wd) (gh : Gh) (σ : L2.St) (F G H : Hp), En W gh Γ σ F G H → ∃ wi, PI X tg it wi ∧ ∀ R : It → Hp → Prop,
  (∀ (J : It) (g : Gh) F' G' H', En W (gh.and g) Γ σ F' G' H' → Gr F G H F' G' H' → ItOk J Rs g → R J H') → wi σ H R
theorem En.step {gh' : Gh} {σ : L2.St} {F G H : Hp} (E : En W gh Γ σ F G H) {J : It} {Rs : List Rp} {g : Gh} (ok : ItOk J Rs g) (hg : g.g F G) {i : Nat} {R : Rp} {x : V} {H' : Hp} (hi : Rs[i]? = some R) (y : J.yld i H x H') : ∃ F' G', En W gh Γ σ F' G' H' ∧ Gr F G H F' G' H' ∧ R.P x F' G' H' := by
  rcases ok.yld i R F G H x H' hi E.fg E.gH hg y with ⟨e, p⟩ | ⟨T, o, hT, e, p⟩
  · subst e
    exact ⟨F, G, E, .refl _ _ _, p⟩
  · subst e
    exact ⟨_, _, E.newF hT, (Gr.refl _ _ _).newF hT (E.fg.free (E.gH.free hT)) (E.gH.free hT), p⟩
theorem blk_forR {it : Expr} {body : List Stmt} {Rs : List Rp} {ts : Nat → List Nat} (xb : XB X N nm k) (Γp : Nat → List Sl) (Γt : Nat → List Sl) (h : EvI X Γ tg it Rs) (h0 : SlAll Γ (Γp 0))
    (ht : ∀ i R, Rs[i]? = some R → Tg X (Γp i) R tg (Γt i) (ts i))
    (hb : ∀ gh' i R, Rs[i]? = some R → Blk X W { D with nx := EnN W gh' (Γp (i + 1)), ct := EnN W gh' (Γp (i + 1)), bk := BW X ss D } gh' (Γt i) body) (t : Blk X W D gh (Γp Rs.length) ss)
    (hs : ∀ x, foldedSetIterable it X.env x = pure x := by intro _; rfl) : Blk X W D gh Γ (.For tg it body [] pos :: ss) := fun σ F G H E => by
  obtain ⟨wi, hpi, hR⟩ := h W gh σ F G H E
  refine BW.of (pss_cons (ps_for xb.pass xb.calm hpi pg_w pss_w hs) pss_w) ?_
  refine hR _ fun J g F1 G1 H1 E1 x1 ok => ?_
  refine ⟨fun i m σ H => m = Rs.length - i ∧ i ≤ Rs.length ∧ EnN W (gh.and g) (Γp i) σ H, ⟨Rs.length, by simp, Nat.zero_le _, F1, G1, E1.le h0⟩, ?_⟩
  rintro i m σ2 H2 ⟨rfl, hi, F2, G2, E2⟩
  by_cases hlt : i < Rs.length
  · refine .inr ⟨ok.go i F2 G2 H2 hlt E2.fg E2.gH E2.g.2, EnN W (gh.and g) (Γp (i + 1)), fun σ' H' e' => ⟨Rs.length - (i + 1), by omega, rfl, hlt, e'⟩, fun x H3 y => ?_⟩
    have hR := List.getElem?_eq_getElem hlt
    obtain ⟨F3, G3, E3, _, p3⟩ := E2.step (gh' := gh) ok E2.g.2 hR y
    exact ht i _ hR W _ σ2 F3 G3 H3 x E3 p3 _ fun σ4 E4 _ => hb _ i _ hR σ4 F3 G3 H3 E4
  · have e : i = Rs.length := by omega
    subst e
    exact .inl ⟨ok.stop F2 G2 H2 E2.fg E2.gH E2.g.2, t σ2 F2 G2 H2 (E2.gw E2.g.1)⟩
theorem split_at {α : Type} {xs : List α} {i : Nat} {x : α} (q : xs[i]? = some x) : xs = xs.take i ++ x :: xs.drop (i + 1) ∧ xs.take (i + 1) = xs.take i ++ [x] := by
  obtain ⟨hi, ex⟩ := List.getElem?_eq_some_iff.mp q
  refine ⟨?_, ?_⟩
  · rw [← ex, List.getElem_cons_drop, List.take_append_drop]
  · rw [List.take_add_one, q]; rfl
/-- over things told by xs, by what has been walked -/
theorem blk_for {α : Type} {it : Expr} {body : List Stmt} {R : α → Rp} {xs : List α} {ts : List Nat} (xb : XB X N nm k) (Γp : List α → List Sl) (Γt : List α → α → List Sl) (h : EvI X Γ tg it (xs.map R)) (h0 : SlAll Γ (Γp []))
    (ht : ∀ pre x post, xs = pre ++ x :: post → Tg X (Γp pre) (R x) tg (Γt pre x) ts)
    (hb : ∀ gh' pre x post, xs = pre ++ x :: post → Blk X W { D with nx := EnN W gh' (Γp (pre ++ [x])), ct := EnN W gh' (Γp (pre ++ [x])), bk := BW X ss D } gh' (Γt pre x) body) (t : Blk X W D gh (Γp xs) ss)
    (hs : ∀ x, foldedSetIterable it X.env x = pure x := by intro _; rfl) : Blk X W D gh Γ (.For tg it body [] pos :: ss) := by
  have sp : ∀ (i : Nat) (d : Rp), (xs.map R)[i]? = some d → ∃ x, xs[i]? = some x ∧ d = R x := fun i d e => by
    rw [List.getElem?_map] at e
    cases q : xs[i]? with
    | none => rw [q] at e; cases e
    | some x =>
      rw [q] at e
      exact ⟨x, rfl, (Option.some.inj e).symm⟩
  refine blk_forR (ts := fun _ => ts) xb (fun i => Γp (xs.take i)) (fun i => match xs[i]? with | some x => Γt (xs.take i) x | none => []) h (by simpa using h0) (fun i d e => ?_) (fun gh' i d e => ?_) (by rw [List.length_map, List.take_length]; exact t) hs
  · obtain ⟨x, e4, e3⟩ := sp i d e
    rw [e4, e3]
    exact ht _ _ _ (split_at e4).1
  · obtain ⟨x, e4, e3⟩ := sp i d e
    rw [e4]
    show Blk X W { D with nx := EnN W gh' (Γp (xs.take (i + 1))), ct := EnN W gh' (Γp (xs.take (i + 1))), bk := BW X ss D } gh' _ body
    rw [(split_at e4).2]
    exact hb gh' _ _ _ (split_at e4).1
/-! what is walked -/
section
variable {it rp cp : Expr}
theorem evi_list {ds : List Val} (h : Ev X Γ it (bD T ds)) : EvI X Γ tg it (ds.map (rD T)) := fun W gh σ F G H E =>
  ⟨_, pi_list pe_w, fun R q => h W gh σ F G H E _ fun v F1 G1 H1 E1 x1 ⟨l, vs, ev, hl, pv⟩ =>
    ⟨l, ev, ⟨vs, .inl (.inl (E1.gH _ _ hl))⟩, q (Itl X.K l) ⟨fun F G => G l = some (.lst vs) ∧ DtAll T F vs ds, fun f g ⟨x, y⟩ => ⟨g _ _ x, dtAll_same f _ _ y⟩⟩ F1 G1 H1 (E1.gw ⟨E1.g, hl, pv⟩) x1
      { stop := fun F G H f g ⟨a, b⟩ => ⟨vs, .inl (.inl (g _ _ a)), by rw [List.length_map, b.length]; exact Nat.le_refl _⟩
        go := fun i F G H hi f g ⟨a, b⟩ => ⟨vs, vs[i]'(by rw [b.length]; rwa [List.length_map] at hi), .inl (.inl (g _ _ a)), List.getElem?_eq_getElem _⟩
        yld := fun i R F G H x H' hi f g ⟨a, b⟩ y => by
          obtain ⟨e, y⟩ := y
          have hx := y vs (.inl (.inl (g _ _ a)))
          rw [List.getElem?_map] at hi
          obtain ⟨d, hd, pd⟩ := b.getV hx
          rw [hd] at hi
          cases hi
          exact .inl ⟨e, pd⟩ }⟩⟩
theorem evi_lst {α : Type} {enc : α → Val} {xs : List α} (h : Ev X Γ it (bD T (xs.map enc))) : EvI X Γ tg it (xs.map fun x => rD T (enc x)) := by
  have := evi_list (tg := tg) h
  rw [List.map_map] at this
  exact this
theorem evi_tup {ds : List Val} (h : Ev X Γ it (rD T (.tuple ds))) : EvI X Γ tg it (ds.map (rD T)) := fun W gh σ F G H E =>
  ⟨_, pi_tup pe_w, fun R q => h W gh σ F G H E _ fun v F1 G1 H1 E1 x1 p => by
    obtain ⟨l, vs, ev, hl, pv⟩ := tup_inv p
    refine ⟨l, ev, ⟨vs, .inl (.inl (E1.gH _ _ (E1.fg _ _ hl)))⟩, q (Itt X.K l) ⟨fun F G => F l = some (.tup vs) ∧ DtAll T F vs ds, fun f g ⟨x, y⟩ => ⟨f _ _ x, dtAll_same f _ _ y⟩⟩ F1 G1 H1 (E1.gw ⟨E1.g, hl, pv⟩) x1
      { stop := fun F G H f g ⟨a, b⟩ => ⟨vs, .inl (.inl (g _ _ (f _ _ a))), by rw [List.length_map, b.length]; exact Nat.le_refl _⟩
        go := fun i F G H hi f g ⟨a, b⟩ => ⟨vs, vs[i]'(by rw [b.length]; rwa [List.length_map] at hi), .inl (.inl (g _ _ (f _ _ a))), List.getElem?_eq_getElem _⟩
        yld := fun i R F G H x H' hi f g ⟨a, b⟩ y => by
          obtain ⟨e, y⟩ := y
          have hx := y vs (.inl (.inl (g _ _ (f _ _ a))))
          rw [List.getElem?_map] at hi
          obtain ⟨d, hd, pd⟩ := b.getV hx
          rw [hd] at hi
          cases hi
          exact .inl ⟨e, pd⟩ }⟩⟩
end
/-- over range(n), range(lo, hi): told by the turn -/
theorem blk_rng {it : Expr} {body : List Stmt} {lo : Int} {n : Nat} (xb : XB X N nm k) (Γp : Nat → List Sl) (Γt : Nat → List Sl)
    (hi : ∀ (W : Wd) (gh : Gh) (σ : L2.St) (F G H : Hp), En W gh Γ σ F G H → ∃ wi, PI X tg it wi ∧ ∀ R : It → Hp → Prop, (∀ F' G' H', En W gh Γ σ F' G' H' → R (Itr lo n) H') → wi σ H R) (h0 : SlAll Γ (Γp 0))
    {ts : Nat → List Nat} (ht : ∀ i, i < n → Tg X (Γp i) (rD T (.int (lo + i))) tg (Γt i) (ts i))
    (hb : ∀ i, i < n → Blk X W { D with nx := EnN W gh (Γp (i + 1)), ct := EnN W gh (Γp (i + 1)), bk := BW X ss D } gh (Γt i) body) (t : Blk X W D gh (Γp n) ss)
    (hs : ∀ x, foldedSetIterable it X.env x = pure x := by intro _; rfl) : Blk X W D gh Γ (.For tg it body [] pos :: ss) := fun σ F G H E => by
  obtain ⟨wi, hpi, hR⟩ := hi W gh σ F G H E
  refine BW.of (pss_cons (ps_for xb.pass xb.calm hpi pg_w pss_w hs) pss_w) ?_
  refine hR _ fun F1 G1 H1 E1 => ?_
  refine for_range (lo := lo) (n := n) (fun i σ H => EnN W gh (Γp i) σ H) ⟨F1, G1, E1.le h0⟩ ?_ ?_
  · rintro i σ2 H2 hlt ⟨F2, G2, E2⟩
    exact ht i hlt W gh σ2 F2 G2 H2 _ E2 (.int _) _ fun σ3 E3 _ => hb i hlt σ3 F2 G2 H2 E3
  · rintro σ2 H2 ⟨F2, G2, E2⟩
    exact t σ2 F2 G2 H2 E2
section
variable {rp cp : Pos}
theorem rng1 {n : Int} (hb : Bl X "range") (h : Ev X Γ e (rD T (.int n))) (hl : n < 2 ^ 62) (h0 : 0 ≤ n) (he : starEach [e] X.env = (false, eval e X.env) :: starEach [] X.env := by rfl) :
    ∀ (W : Wd) (gh : Gh) (σ : L2.St) (F G H : Hp), En W gh Γ σ F G H → ∃ wi, PI X tg (.Call (.Name "range" rp) [e] [] cp) wi ∧ ∀ R : It → Hp → Prop, (∀ F' G' H', En W gh Γ σ F' G' H' → R (Itr 0 n.toNat) H') → wi σ H R := fun W gh σ F G H E =>
  ⟨_, pi_range1 hb.hg hb.hm (pa_cons pe_w pa_nil he) (hs := he), fun R q => h W gh σ F G H E _ fun v F' G' H' E' x0 pv => ⟨n, by rw [int_inv pv], by omega, hl, q F' G' H' E'⟩⟩
theorem rng2 {e2 : Expr} {i j : Int} (hb : Bl X "range") (h : Ev X Γ e (rD T (.int i))) (h2 : Ev X Γ e2 (rD T (.int j))) (hl : -(2 ^ 62) ≤ i ∧ i < 2 ^ 62 ∧ -(2 ^ 62) ≤ j ∧ j < 2 ^ 62) (he : starEach [e, e2] X.env = (false, eval e X.env) :: starEach [e2] X.env := by rfl) (he2 : starEach [e2] X.env = (false, eval e2 X.env) :: starEach [] X.env := by rfl) :
    ∀ (W : Wd) (gh : Gh) (σ : L2.St) (F G H : Hp), En W gh Γ σ F G H → ∃ wi, PI X tg (.Call (.Name "range" rp) [e, e2] [] cp) wi ∧ ∀ R : It → Hp → Prop, (∀ F' G' H', En W gh Γ σ F' G' H' → R (Itr i (j - i).toNat) H') → wi σ H R := fun W gh σ F G H E =>
  ⟨_, pi_range2 hb.hg hb.hm (pa_cons pe_w (pa_cons pe_w pa_nil he2) he) (hs := he.trans (congrArg _ he2)) (hs2 := he2), fun R q => ev_seq h h2 E fun v w F' G' H' E' x0 p1 p2 => ⟨i, j, by rw [int_inv p1, int_inv p2], hl, q F' G' H' E'⟩⟩
end
/-- while, told by a state that falls -/
theorem blk_while {S : Type} {body : List Stmt} (xb : XB X N nm k) (Γs : S → List Sl) (ok : S → Prop) (m : S → Nat) (d : S → Bool) (s0 : S) (h0 : SlAll Γ (Γs s0)) (o0 : ok s0) (hc : ∀ s, ok s → Tv X (Γs s) c (d s))
    (hb : ∀ s N, ok s → d s = true → (∀ s' σ H, ok s' → m s' < m s → EnN W gh (Γs s') σ H → N σ H) → Blk X W { D with nx := N, ct := N, bk := BW X ss D } gh (Γs s) body) (t : ∀ s, ok s → d s = false → Blk X W D gh (Γs s) ss) : Blk X W D gh Γ (.While c body [] pos :: ss) := by
  refine blk_ps (ps_while xb.pass pt_w pss_w) fun σ F G H E => ?_
  refine ⟨fun n σ H => ∃ s, m s = n ∧ ok s ∧ EnN W gh (Γs s) σ H, ⟨m s0, s0, rfl, o0, F, G, E.le h0⟩, ?_⟩
  rintro n σ1 H1 ⟨s, rfl, os, F1, G1, E1⟩
  refine hc s os W gh σ1 F1 G1 H1 E1 _ fun F2 G2 H2 E2 x2 => ?_
  cases q : d s with
  | true =>
    rw [if_pos rfl]
    refine ⟨fun σ H => ∃ s', m s' < m s ∧ ok s' ∧ EnN W gh (Γs s') σ H, fun σ' H' ⟨s', lt, o', e'⟩ => ⟨m s', lt, s', rfl, o', e'⟩, ?_⟩
    exact hb s _ os q (fun s' σ H o' lt e' => ⟨s', lt, o', e'⟩) σ1 F2 G2 H2 E2
  | false =>
    rw [if_neg Bool.false_ne_true]
    exact t s os q σ1 F2 G2 H2 E2
theorem blk_endN {nx : L2.St → Hp → Prop} {rt : VK} {bk ct : L2.St → Hp → Prop} (h : ∀ σ H, EnN W gh Γ' σ H → nx σ H) (hl : SlAll Γ Γ') : Blk X W { nx := nx, rt := rt, bk := bk, ct := ct } gh Γ [] := blk_nil fun σ F G H E => h σ H ⟨F, G, E.le hl⟩
end
/-! ### a def -/
/-- the slots at the start -/
def slots (Rs : List Rp) (n : Nat) : List Sl := []
inductive StAll : List Rp → List Sl → Prop
  | nil : StAll [] []
  | cons {R : Rp} {Rs : List Rp} {l : List Sl} [h : Sta R] (t : StAll Rs l) : StAll (R :: Rs) (.vl R h :: l)
  | as {R R' : Rp} {Rs : List Rp} {l : List Sl} [h : Sta R'] (k : ∀ v F H, R.P v F H H → R'.P v F H H) (t : StAll Rs l) : StAll (R :: Rs) (.vl R' h :: l)
theorem StAll.len : ∀ {Rs : List Rp} {l : List Sl}, StAll Rs l → l.length = Rs.length
  | _, _, .nil => rfl
  | _, _, @StAll.cons R Rs l h t => by simp [StAll.len t]
  | _, _, @StAll.as R R' Rs l h k t => by simp [StAll.len t]
theorem StAll.get : ∀ {Rs : List Rp} {l : List Sl}, StAll Rs l → ∀ {i : Nat} {a : Sl}, l[i]? = some a → ∃ R h R', a = .vl R h ∧ Rs[i]? = some R' ∧ ∀ v F H, R'.P v F H H → R.P v F H H
  | _, _, .nil, _, _, e => by simp at e
  | _, _, @StAll.cons R Rs l h t, 0, a, e => by
    simp at e
    exact ⟨R, h, R, e.symm, rfl, fun _ _ _ p => p⟩
  | _, _, @StAll.as R R' Rs l h k t, 0, a, e => by
    simp at e
    exact ⟨R', h, R, e.symm, rfl, k⟩
  | _, _, @StAll.cons R0 Rs l h0 t, i + 1, a, e => by
    obtain ⟨R, h, R', e1, e2, k⟩ := StAll.get t (i := i) (by simpa using e)
    exact ⟨R, h, R', e1, by simpa using e2, k⟩
  | _, _, @StAll.as R0 R0' Rs l h0 k0 t, i + 1, a, e => by
    obtain ⟨R, h, R', e1, e2, k⟩ := StAll.get t (i := i) (by simpa using e)
    exact ⟨R, h, R', e1, by simpa using e2, k⟩
/-- a list handed in as it stands: it stands still -/
theorem StAll.hD T {ds : List Val} {Rs : List Rp} {l : List Sl} (t : StAll Rs l) : StAll (hD T ds :: Rs) (L3.vl (bD T ds) :: l) := .as (fun _ _ _ p => p) t
section
variable {P : Program} {w : World} {K : PySem.W.Frag} {mg : Str → Option Value} {base : Heap}
theorem paired_get {F G H : Hp} : ∀ {vs : List V} {Rs : List Rp}, Paired (fun v (R : Rp) => R.P v F G H) vs Rs → ∀ {i : Nat} {R : Rp}, Rs[i]? = some R → ∃ v, vs[i]? = some v ∧ R.P v F G H
  | _, _, .nil, _, _, e => by simp at e
  | _, _, .cons r t, 0, R, e => by
    simp at e
    subst e
    exact ⟨_, rfl, r⟩
  | _, _, .cons r t, i + 1, R, e => by
    obtain ⟨v, e1, q⟩ := paired_get t (i := i) (by simpa using e)
    exact ⟨v, by simpa using e1, q⟩
theorem en_start {N : List Str} {Rs : List Rp} {l : List Sl} {vs : List V} {F H : Hp} {n : Nat} (sa : StAll Rs l) (hn : N.length = l.length + n) (f : Same F H) (h : argsP Rs vs F H) : En ⟨F, H⟩ .tt (l ++ List.replicate n .no) (L2.start N vs) F H H := by
  have hl : vs.length = l.length := by rw [Paired.length h, sa.len]
  have get : ∀ {i : Nat} {a : Sl}, (l ++ List.replicate n Sl.no)[i]? = some a → (l[i]? = some a) ∨ a = .no := fun {i a} e => by
    by_cases z : i < l.length
    · rw [List.getElem?_append_left z] at e
      exact .inl e
    · rw [List.getElem?_append_right (by omega), List.getElem?_replicate] at e
      split at e
      · exact .inr (Option.some.inj e).symm
      · cases e
  have st : ∀ {i : Nat} {v : V}, vs[i]? = some v → (L2.start N vs)[i]? = some (some v) := fun {i v} e => by
    unfold L2.start
    have hi : i < vs.length := (List.getElem?_eq_some_iff.mp e).1
    rw [List.getElem?_append_left (by simpa using hi), List.getElem?_map, e]
    rfl
  refine ⟨?_, Same.refl _, Same.refl _, f, Same.refl _, fun a o e => .inl e, trivial, fun i R hR e => ?_, fun _ => [], fun i C e => ?_, fun i j C C' m n e => ?_⟩
  · unfold L2.start
    rw [List.length_append, List.length_append, List.length_map, List.length_replicate, List.length_replicate]
    omega
  · rcases get e with e | e
    · obtain ⟨R', h', R2, e1, e2, k2⟩ := sa.get e
      cases e1
      obtain ⟨v, e3, q⟩ := paired_get h e2
      exact ⟨v, st e3, k2 _ _ _ q⟩
    · cases e
  · rcases get e with e | e
    · obtain ⟨R', h', R2, e1, e2, k2⟩ := sa.get e
      cases e1
    · cases e
  · rcases get e with e | e
    · obtain ⟨R', h', R2, e1, e2, k2⟩ := sa.get e
      cases e1
    · cases e
/-- a def's own context -/
theorem xb_of {N : List Str} {ps : List Str} {qual : Str} {sc : Scope} {f : Addr} {cdv : Value} {A : Around} {outer : List Env} {s : Shared} {H : Hp} {E : XK} {k : Nat} {nm : List (Str × NameKind)} (S : FnScope N ps sc) (hn : sc.names = nm) (hr : Room k (A.deeper (envOfC qual sc s.heap.objs.size f cdv))) :
    XB (cxOf (L2.CX P w) P w K mg base N qual sc f cdv A outer s H E) N nm k :=
  { hN := rfl, nd := S.nd, nm := hn, calm := rfl, kd := S.kind, room := hr, fnn := fun _ => rfl, pass := passes_of rfl, stk := rfl, frm := rfl, ex := rfl }
theorem fn_v {x qual : Str} {st : Stmt} {f : Addr} {fd : FuncData} {N ps : List Str} {k n : Nat} {Rs : List Rp} {l : List Sl} {R : Rp} {nm : List (Str × NameKind)} (F : FunD K x qual (defArgs st) (defBody st) (defScope st) [] [] f fd) (S : FnScope N ps (defScope st)) (hnm : (defScope st).names = nm) (sa : StAll Rs l) (hp : ps.length = Rs.length)
    (hn : N.length = l.length + n)
    (hb : ∀ (X : Cx) (W : Wd) (D : Ends), X.prog = P → X.w = w → X.K = K → X.mg = mg → X.base = base → XB X N nm k → RetV W D R → (D.nx = fun _ H' => D.rt .non H') → Blk X W D .tt (l ++ List.replicate n .no) (defBody st)) : FnOk P w K mg base (L2.CX P w) (k + 1) f fd ps (spV Rs R) := by
  refine F.ok S (fun vs H Q E h => ?_) (fun cdv A outer s H vs Q E hr h => ?_)
  · obtain ⟨F0, _, ha, _⟩ := h
    rw [Paired.length ha, hp]
  · obtain ⟨F0, fh, ha, q⟩ := h
    exact ⟨_, pss_w, hb (cxOf (L2.CX P w) P w K mg base N qual (defScope st) f cdv A outer s H E) ⟨F0, H⟩ { nx := fun _ H' => Q .non H', rt := Q } rfl rfl rfl rfl rfl (xb_of S hnm hr) (fun v F1 H1 x p => q v F1 H1 x p) rfl _ F0 H H (en_start sa hn fh ha)⟩
theorem fn_o {x qual : Str} {st : Stmt} {f : Addr} {fd : FuncData} {N ps : List Str} {k n : Nat} {Rs : List Rp} {l : List Sl} {C : Cp} {nm : List (Str × NameKind)} (F : FunD K x qual (defArgs st) (defBody st) (defScope st) [] [] f fd) (S : FnScope N ps (defScope st)) (hnm : (defScope st).names = nm) (sa : StAll Rs l) (hp : ps.length = Rs.length)
    (hn : N.length = l.length + n)
    (hb : ∀ (X : Cx) (W : Wd) (D : Ends), X.prog = P → X.w = w → X.K = K → X.mg = mg → X.base = base → XB X N nm k → RetO W D C → Blk X W D .tt (l ++ List.replicate n .no) (defBody st)) : FnOk P w K mg base (L2.CX P w) (k + 1) f fd ps (spO Rs C) := by
  refine F.ok S (fun vs H Q E h => ?_) (fun cdv A outer s H vs Q E hr h => ?_)
  · obtain ⟨F0, _, ha, _⟩ := h
    rw [Paired.length ha, hp]
  · obtain ⟨F0, fh, ha, q⟩ := h
    exact ⟨_, pss_w, hb (cxOf (L2.CX P w) P w K mg base N qual (defScope st) f cdv A outer s H E) ⟨F0, H⟩ { nx := fun _ H' => Q .non H', rt := Q } rfl rfl rfl rfl rfl (xb_of S hnm hr) (fun l fo F1 H1 x h1 p => q l fo F1 H1 x h1 p) _ F0 H H (en_start sa hn fh ha)⟩
end
end L3
/-! L3, part e: comprehensions, zip, enumerate. -/
namespace L3
open PySem PySem.Spec PyProof.Rows L2
/-! ### the context of a comprehension's block -/
def relN (own nm : List (Str × NameKind)) : List (Str × NameKind) := own.map fun (n, k) => if (k == .free && ScopeKind.function == ScopeKind.function && nm.lookup n == some .cell) then (n, .cell) else (n, k)
abbrev bx (X : Cx) (s : Shared) (H : Hp) (scope : Scope) (C : Addr) (cl : List (Str × Addr)) (fp : List Addr) : Cx := X.blk s H scope (compEnvC scope cl C X.env) fp
section
variable {T : Tx} {X : Cx} {N : List Str} {nm : List (Str × NameKind)} {k : Nat} {W : Wd} {gh : Gh} {Γ : List Sl} {σ : L2.St} {F G H : Hp}
theorem XC.blk (xf : XC X N nm k) {scope : Scope} (hk : scope.kind = .function) (s : Shared) (H : Hp) (C : Addr) (cl : List (Str × Addr)) (fp : List Addr) : XC (bx X s H scope C cl fp) N (relN scope.names nm) k where
  hN := xf.hN
  nd := xf.nd
  nm := by
    show (relS scope X.env.scope).names = _
    unfold relS relN
    rw [xf.kd, xf.nm]
  calm := xf.calm
  kd := hk
  room := xf.room
/-- back from a block: the slots as they were, the world as it is -/
theorem En.back {Γ2 : List Sl} {σ2 : L2.St} {gh2 : Gh} {F2 G2 H2 : Hp} (E1 : En W gh Γ σ F G H) (E2 : En W gh2 Γ2 σ2 F2 G2 H2) (x : Gr F G H F2 G2 H2) : En W gh Γ σ F2 G2 H2 := by
  obtain ⟨fp, ow⟩ := E1.ow
  have ow : Owns Γ σ F G H fp := ow
  refine ⟨E1.len, E2.f0, E2.h0, E2.fg, E2.gH, E2.gr, gh.mono x.f x.g E1.g, fun i R h e => ?_, fp, ow.mono x.f x.g fun i C e a ha => ?_⟩
  · obtain ⟨v, e1, q⟩ := E1.vl i R h e
    exact ⟨v, e1, R.mono x.f x.g x.s q⟩
  · obtain ⟨l, e1, e2, q⟩ := ow.1 i C e
    obtain ⟨u, hu, nu⟩ := C.there q a ha
    exact ⟨x.n a u hu nu (e2 a ha), (x.s a u hu).trans hu.symm⟩
/-- an object that is not frozen and no slot's own is stored -/
theorem En.other (E : En W gh Γ σ F G H) {D : Addr} {o : HO} (gD : G D = none) (hn : ∀ (i : Nat) (C : Cp) (m : Addr) (fo : List Addr), Γ[i]? = some (.ow C) → σ[i]? = some (some (V.ref m)) → C.C m fo H F G → D ∉ fo) : En W gh Γ σ F G (upd H D o) := by
  obtain ⟨fp, ow⟩ := E.ow
  have ow : Owns Γ σ F G H fp := ow
  refine ⟨E.len, E.f0, E.h0, E.fg, same_updR E.gH gD, E.gr, E.g, fun i R h e => ?_, fp, ow.mono (Same.refl _) (Same.refl _) fun i C e a ha => ?_⟩
  · obtain ⟨v, e1, q⟩ := E.vl i R h e
    exact ⟨v, e1, h.st q⟩
  · obtain ⟨l, e1, e2, q⟩ := ow.1 i C e
    refine ⟨e2 a ha, upd_ne fun z => ?_⟩
    subst z
    exact hn i C l _ e e1 q ha
def wipeG : List Sl → List Nat → List Sl
  | Γ, [] => Γ
  | Γ, v :: vs => (wipeG Γ vs).set v .no
theorem wipeG_get : ∀ {Γ : List Sl} {vs : List Nat} {j : Nat} {a : Sl}, (wipeG Γ vs)[j]? = some a → a = .no ∨ (j ∉ vs ∧ Γ[j]? = some a)
  | Γ, [], j, a, e => .inr ⟨by simp, e⟩
  | Γ, v :: vs, j, a, e => by
    unfold wipeG at e
    rw [List.getElem?_set] at e
    by_cases h : v = j
    · subst h
      simp only [if_true] at e
      split at e
      · exact .inl (Option.some.inj e).symm
      · cases e
    · rw [if_neg h] at e
      rcases wipeG_get e with z | ⟨z1, z2⟩
      · exact .inl z
      · exact .inr ⟨by simp only [List.mem_cons, not_or]; exact ⟨fun q => h q.symm, z1⟩, z2⟩
theorem wipeG_length : ∀ (Γ : List Sl) (vs : List Nat), (wipeG Γ vs).length = Γ.length
  | _, [] => rfl
  | Γ, v :: vs => by unfold wipeG; rw [List.length_set, wipeG_length Γ vs]
theorem En.wipe (E : En W gh Γ σ F G H) (vs : List Nat) : En W gh (wipeG Γ vs) (wipe σ vs) F G H := by
  obtain ⟨fp, ow⟩ := E.ow
  have ow : Owns Γ σ F G H fp := ow
  have at_ : ∀ {j : Nat}, j ∉ vs → (L2.wipe σ vs)[j]? = σ[j]? := fun {j} h => by rw [wipe_get, if_neg fun z => h z.1]
  refine ⟨by rw [wipeG_length, wipe_length]; exact E.len, E.f0, E.h0, E.fg, E.gH, E.gr, E.g, fun i R h e => ?_, fp, fun i C e => ?_, fun i j C C' a n e e' => ?_⟩
  · rcases wipeG_get e with z | ⟨z1, z2⟩
    · cases z
    · rw [at_ z1]
      exact E.vl i R h z2
  · rcases wipeG_get e with z | ⟨z1, z2⟩
    · cases z
    · rw [at_ z1]
      exact ow.1 i C z2
  · rcases wipeG_get e with z | ⟨z1, z2⟩
    · cases z
    · rcases wipeG_get e' with y | ⟨y1, y2⟩
      · cases y
      · exact ow.2 i j C C' a n z2 y2
theorem wipe_wipe {σ : L2.St} {vs : List Nat} : L2.wipe (L2.wipe σ vs) vs = L2.wipe σ vs := by
  refine List.ext_getElem? fun j => ?_
  rw [wipe_get, wipe_get, wipe_length]
  split <;> rfl
/-- tests of a comprehension -/
structure VW (X : Cx) (ifs : List Expr) (σ : L2.St) (H : Hp) (Q : Bool → Hp → Prop) : Prop where
  go : ∀ (pins : List (Addr × Obj)) (s : Shared), Inv X pins σ H s → wpAny (model X.prog X.w) X.A (forIn ifs true fun c r => if r = true then do let ok ← isTrue c X.env (eval c X.env); pure (ForInStep.yield ok) else pure (ForInStep.yield r)) (TP X pins σ Q) X.xe s
theorem VW.of {ifs : List Expr} {t : TT} {Q : Bool → Hp → Prop} (h : PTs X ifs t) (q : t σ H Q) : VW X ifs σ H Q := ⟨fun pins s I => h.run pins s σ H Q I q⟩
def Vv (X : Cx) (Γ : List Sl) (ifs : List Expr) (b : Bool) : Prop := ∀ (W : Wd) (gh : Gh) (σ : L2.St) (F G H : Hp), En W gh Γ σ F G H → ∀ Q : Bool → Hp → Prop,
  (∀ F' G' H', En W gh Γ σ F' G' H' → Gr F G H F' G' H' → Q b H') → VW X ifs σ H Q
theorem vv_nil : Vv X Γ [] true := fun W gh σ F G H E Q q => VW.of pts_nil (q F G H E (.refl _ _ _))
theorem vv_one {c : Expr} {b : Bool} (h : Tv X Γ c b) : Vv X Γ [c] b := fun W gh σ F G H E Q q => VW.of (pts_one pt_w) (h W gh σ F G H E Q q)
end
/-- blkC, by the names -/
def blkN (N : List Str) (nm : List (Str × NameKind)) (scope : Scope) (own : List (Str × Nat)) : Bool := blkC N { kind := .function, names := nm, isGenerator := false, isCoroutine := false } scope own
theorem blkN_ok {X : Cx} {N : List Str} {nm : List (Str × NameKind)} {scope : Scope} {own : List (Str × Nat)} (xf : XV X N nm) (h : blkN N nm scope own = true) : blkC X.N X.env.scope scope own = true := by
  unfold blkN blkC at h
  unfold blkC
  rw [xf.hN, xf.nm]
  exact h
/-- in the comprehension's block -/
abbrev Bk (X : Cx) (N : List Str) (nm : List (Str × NameKind)) (k : Nat) (scope : Scope) (f : Cx → Prop) : Prop := ∀ (s : Shared) (H : Hp) (C : Addr) (cl : List (Str × Addr)) (fp : List Addr), XC (bx X s H scope C cl fp) N (relN scope.names nm) k → f (bx X s H scope C cl fp)
section
variable {T : Tx} {X : Cx} {N : List Str} {nm : List (Str × NameKind)} {k : Nat} {Γ : List Sl} {elt tg it : Expr} {ifs : List Expr} {scope : Scope} {pos : Pos}
/-- [elt for tg in it if ..], its steps -/
theorem lc_t {α : Type} {R : α → Rp} {f : α → Val} {p : α → Bool} {xs : List α} {ts : List Nat} (own : List (Str × Nat)) (xf : XC X N nm k) (hi : EvI X Γ tg it (xs.map R)) (hz : xs.length ≤ sizeLine) (Γt : α → List Sl)
    (hts : ∀ j ∈ ts, j ∈ own.map (·.2))
    (hg : Bk X N nm k scope fun Y => ∀ x ∈ xs, Tg Y (wipeG Γ (own.map (·.2))) (R x) tg (Γt x) ts)
    (ht : Bk X N nm k scope fun Y => ∀ x ∈ xs, Vv Y (Γt x) ifs (p x))
    (he : Bk X N nm k scope fun Y => ∀ x ∈ xs, p x = true → Ev Y (Γt x) elt (rD T (f x))) (hk : scope.kind = .function) (W : Wd) (gh : Gh) (σ : L2.St) (F0 G0 H0 : Hp) (E0 : En W gh Γ σ F0 G0 H0) :
    ∃ wi g tt te, PI X tg it wi ∧ (∀ s H C cl fp, PG (bx X s H scope C cl fp) tg g) ∧ (∀ s H C cl fp, PTs (bx X s H scope C cl fp) ifs tt) ∧ (∀ s H C cl fp, PE (bx X s H scope C cl fp) elt te) ∧
      ∀ Q : VK, (∀ l fo F' G' H', En W gh Γ σ F' G' H' → Gr F0 G0 H0 F' G' H' → (∀ a ∈ fo, H0 a = none ∧ G' a = none) → (cD T ((xs.filter p).map f)).C l fo H' F' G' → Q (.ref l) H') → tLc wi g tt te (own.map (·.2)) σ H0 Q := by
  obtain ⟨wi, hpi, hR⟩ := hi W gh σ F0 G0 H0 E0
  refine ⟨wi, fun v σ H Q => ∀ s H0 C cl fp, GW (bx X s H0 scope C cl fp) tg v σ H Q, fun σ H Q => ∀ s H0 C cl fp, VW (bx X s H0 scope C cl fp) ifs σ H Q, fun σ H Q => ∀ s H0 C cl fp, EW (bx X s H0 scope C cl fp) elt σ H Q, hpi,
    fun s H C cl fp => ⟨fun pins s' σ H' v u Q I r h => (h s H C cl fp).go pins s' u I r⟩, fun s H C cl fp => ⟨fun pins s' σ H' Q I h => (h s H C cl fp).go pins s' I⟩, fun s H C cl fp => ⟨fun pins s' σ H' Q I h => (h s H C cl fp).go pins s' I⟩, fun Q q => ?_⟩
  refine hR _ fun J g F1 G1 H1 E1 x1 ok D hD => ?_
  have gD := E1.gH.free hD
  -- the state between two turns: D holds what is made
  let Pv : Nat → Hp → Prop := fun i H => ∃ F G acc, En W (gh.and g) (wipeG Γ (own.map (·.2))) (wipe σ (own.map (·.2))) F G H ∧ Gr F1 G1 H1 F G H ∧ G D = none ∧ H D = some (.lst acc) ∧ DtAll T F acc (((xs.take i).filter p).map f)
  have Ew := E1.wipe (own.map (·.2))
  refine ⟨fun i m H => m = xs.length - i ∧ i ≤ xs.length ∧ Pv i H, ⟨xs.length, by simp, Nat.zero_le _, F1, G1, [], Ew.new hD, (Gr.refl _ _ _).new hD, gD, upd_same, .nil⟩, ?_⟩
  rintro i m H ⟨rfl, hi, F, G, acc, E, x, gDn, hDa, pa⟩
  have hln : (xs.map R).length = xs.length := List.length_map ..
  by_cases hlt : i < xs.length
  · refine .inr ⟨ok.go i F G H (by rw [hln]; exact hlt) E.fg E.gH E.g.2, Pv (i + 1), fun H' p' => ⟨xs.length - (i + 1), by omega, rfl, hlt, p'⟩, fun v H3 y => ?_⟩
    have hx := List.getElem?_eq_getElem hlt
    have hR : (xs.map R)[i]? = some (R xs[i]) := by rw [List.getElem?_map, hx]; rfl
    have mem : xs[i] ∈ xs := List.getElem_mem hlt
    obtain ⟨F3, G3, E3, x3, p3⟩ := E.step (gh' := gh) ok E.g.2 hR y
    intro s H0 C cl fp
    refine hg s H0 C cl fp (xf.blk hk s H0 C cl fp) _ mem W _ _ F3 G3 H3 v E3 p3 _ fun σ4 E4 w4 => ⟨(w4 _ hts).trans wipe_wipe, fun s H0 C cl fp => ?_⟩
    refine ht s H0 C cl fp (xf.blk hk s H0 C cl fp) _ mem W _ σ4 F3 G3 H3 E4 _ fun F5 G5 H5 E5 x5 => ?_
    have x35 := x3.trans x5
    cases z : p xs[i] with
    | false =>
      refine iteF ⟨F5, G5, acc, E.back E5 x35, x.trans x35, x35.n D _ hDa (fun _ z => nomatch z) gDn, x35.s _ _ hDa, ?_⟩
      rw [(split_at hx).2, List.filter_append, List.filter_cons_of_neg (by rw [z]; exact Bool.false_ne_true), List.filter_nil, List.append_nil]
      exact dtAll_same x35.f _ _ pa
    | true =>
      refine iteT fun s H0 C cl fp => he s H0 C cl fp (xf.blk hk s H0 C cl fp) _ mem z W _ σ4 F5 G5 H5 E5 _ fun u F6 G6 H6 E6 x6 p6 => ?_
      have x36 := x35.trans x6
      have hD6 := x36.s _ _ hDa
      have gD6 := x36.n D _ hDa (fun _ z => nomatch z) gDn
      have E7 := E.back E6 x36
      have la : acc.length ≤ i := by
        rw [pa.length, List.length_map]
        exact Nat.le_trans (List.length_filter_le _ _) (by rw [List.length_take]; omega)
      refine ⟨acc, hD6, by omega, F6, G6, acc ++ [u], E7.other gD6 (Ew.notOwn (x.trans x36).s hD), ?_, gD6, upd_same, ?_⟩
      · have xx := x.trans x36
        exact ⟨xx.f, xx.g, fun b o e => by rw [upd_ne (ne_of_none e hD)]; exact xx.s b o e, xx.n⟩
      · rw [(split_at hx).2, List.filter_append, List.filter_cons_of_pos z, List.filter_nil, List.map_append]
        exact (dtAll_same x36.f _ _ pa).snoc p6
  · have e : i = xs.length := by omega
    subst e
    refine .inl ⟨by rw [← hln]; exact ok.stop F G H E.fg E.gH E.g.2, ?_⟩
    have EE := E1.back E x
    rw [List.take_length] at pa
    exact q D [D] F G H (EE.gw EE.g.1) (x1.trans x) (one_new (x1.s.free hD) gDn) (own_list ⟨hDa, pa⟩)
/-- .. as a value -/
theorem evo_lcG {α : Type} {R : α → Rp} {f : α → Val} {p : α → Bool} {xs : List α} {ts : List Nat} (own : List (Str × Nat)) (xf : XC X N nm k) (hi : EvI X Γ tg it (xs.map R)) (hz : xs.length ≤ sizeLine) (Γt : α → List Sl)
    (hts : ∀ j ∈ ts, j ∈ own.map (·.2))
    (hg : Bk X N nm k scope fun Y => ∀ x ∈ xs, Tg Y (wipeG Γ (own.map (·.2))) (R x) tg (Γt x) ts)
    (ht : Bk X N nm k scope fun Y => ∀ x ∈ xs, Vv Y (Γt x) ifs (p x))
    (he : Bk X N nm k scope fun Y => ∀ x ∈ xs, p x = true → Ev Y (Γt x) elt (rD T (f x)))
    (hb : blkN N nm scope own = true := by decide +kernel) (hk : scope.kind = .function := by rfl)
    (hs : ∀ x, foldedSetIterable it X.env x = pure x := by intro _; rfl) : EvO X Γ (.ListComp elt [⟨tg, it, ifs, 0⟩] scope pos) (cD T ((xs.filter p).map f)) := fun W gh σ F0 G0 H0 E0 Q q => by
  obtain ⟨wi, g, tt, te, h1, h2, h3, h4, h5⟩ := lc_t own xf hi hz Γt hts hg ht he hk W gh σ F0 G0 H0 E0
  exact EW.of (pe_lc xf.calm xf.nd h1 (blkOk_by (blkN_ok xf.toXV hb)) h2 h3 h4 hs) (h5 Q q)
/-- without tests -/
theorem evo_lc {α : Type} {R : α → Rp} {f : α → Val} {xs : List α} {ts : List Nat} (own : List (Str × Nat)) (xf : XC X N nm k) (hi : EvI X Γ tg it (xs.map R)) (hz : xs.length ≤ sizeLine) (Γt : α → List Sl)
    (hts : ∀ j ∈ ts, j ∈ own.map (·.2))
    (hg : Bk X N nm k scope fun Y => ∀ x ∈ xs, Tg Y (wipeG Γ (own.map (·.2))) (R x) tg (Γt x) ts)
    (he : Bk X N nm k scope fun Y => ∀ x ∈ xs, Ev Y (Γt x) elt (rD T (f x)))
    (hb : blkN N nm scope own = true := by decide +kernel) (hk : scope.kind = .function := by rfl)
    (hs : ∀ x, foldedSetIterable it X.env x = pure x := by intro _; rfl) : EvO X Γ (.ListComp elt [⟨tg, it, [], 0⟩] scope pos) (cD T (xs.map f)) := by
  have := evo_lcG (pos := pos) (p := fun _ => true) own xf hi hz Γt hts hg (fun _ _ _ _ _ _ _ _ => vv_nil) (fun s H C cl fp xc x m _ => he s H C cl fp xc x m) hb hk hs
  rw [List.filter_eq_self.mpr (fun _ _ => rfl)] at this
  exact this
/-- x = [elt for tg in it if ..], on one line -/
theorem blk_setLcG {α : Type} {R : α → Rp} {f : α → Val} {p : α → Bool} {xs : List α} {ts : List Nat} {W : Wd} {D : Ends} {gh : Gh} {ss : List Stmt} {x : Str} {py spos : Pos} (xb : XB X N nm k) (i : Nat) (own : List (Str × Nat)) (hi : EvI X Γ tg it (xs.map R)) (hz : xs.length ≤ sizeLine) (Γt : α → List Sl)
    (hts : ∀ j ∈ ts, j ∈ own.map (·.2))
    (hg : Bk X N nm k scope fun Y => ∀ x ∈ xs, Tg Y (wipeG Γ (own.map (·.2))) (R x) tg (Γt x) ts)
    (ht : Bk X N nm k scope fun Y => ∀ x ∈ xs, Vv Y (Γt x) ifs (p x))
    (he : Bk X N nm k scope fun Y => ∀ x ∈ xs, p x = true → Ev Y (Γt x) elt (rD T (f x)))
    {ds : List Val} (hds : (xs.filter p).map f = ds) (t : Blk X W D gh (Γ.set i (.ow (cD T ds))) ss)
    (hb : blkN N nm scope own = true := by decide +kernel) (hk : scope.kind = .function := by rfl) (hN : N[i]? = some x := by rfl) (hl : onlyB nm x = true := by decide +kernel)
    (hline : (py.line == pos.line) = true := by decide) (ha : (scope.names.any fun (n, k) => n == x && (k == .local || k == .cell)) = false := by decide +kernel)
    (hs : ∀ x, foldedSetIterable it X.env x = pure x := by intro _; rfl) : Blk X W D gh Γ (.Assign [.Name x py] (.ListComp elt [⟨tg, it, ifs, 0⟩] scope pos) spos :: ss) := fun σ F0 G0 H0 E0 => by
  subst hds
  obtain ⟨wi, g, tt, te, h1, h2, h3, h4, h5⟩ := lc_t own xb.toXC hi hz Γt hts hg ht he hk W gh σ F0 G0 H0 E0
  refine BW.of (pss_cons (ps_setLc xb.calm xb.nd (xb.at_ hN) (xb.v.only hl) (sw_true xb.kd (xb.v.only hl) hline ha) h1 (blkOk_by (blkN_ok xb.v hb)) h2 h3 h4 hs) pss_w) ?_
  show tLc _ _ _ _ _ σ H0 (fun x H1 => BW X ss D (σ.set i (some x)) H1)
  exact h5 _ fun l fo F' G' H' E' x0 hn pc => t _ F' G' H' (E'.setO (fun a ha => (hn a ha).2) pc fun j C' m fo' _ e e1 q a ha => E0.notOwn x0.s (hn a ha).1 j C' m fo' e e1 q)
theorem blk_setLc {α : Type} {R : α → Rp} {f : α → Val} {xs : List α} {ts : List Nat} {W : Wd} {D : Ends} {gh : Gh} {ss : List Stmt} {x : Str} {py spos : Pos} (xb : XB X N nm k) (i : Nat) (own : List (Str × Nat)) (hi : EvI X Γ tg it (xs.map R)) (hz : xs.length ≤ sizeLine) (Γt : α → List Sl)
    (hts : ∀ j ∈ ts, j ∈ own.map (·.2))
    (hg : Bk X N nm k scope fun Y => ∀ x ∈ xs, Tg Y (wipeG Γ (own.map (·.2))) (R x) tg (Γt x) ts)
    (he : Bk X N nm k scope fun Y => ∀ x ∈ xs, Ev Y (Γt x) elt (rD T (f x)))
    {ds : List Val} (hds : xs.map f = ds) (t : Blk X W D gh (Γ.set i (.ow (cD T ds))) ss)
    (hb : blkN N nm scope own = true := by decide +kernel) (hk : scope.kind = .function := by rfl) (hN : N[i]? = some x := by rfl) (hl : onlyB nm x = true := by decide +kernel)
    (hline : (py.line == pos.line) = true := by decide) (ha : (scope.names.any fun (n, k) => n == x && (k == .local || k == .cell)) = false := by decide +kernel)
    (hs : ∀ x, foldedSetIterable it X.env x = pure x := by intro _; rfl) : Blk X W D gh Γ (.Assign [.Name x py] (.ListComp elt [⟨tg, it, [], 0⟩] scope pos) spos :: ss) := by
  refine blk_setLcG (p := fun _ => true) xb i own hi hz Γt hts hg (fun _ _ _ _ _ _ _ _ => vv_nil) (fun s H C cl fp xc x m _ => he s H C cl fp xc x m) ?_ t hb hk hN hl hline ha hs
  rw [List.filter_eq_self.mpr (fun _ _ => rfl)]
  exact hds
end
end L3
/-! L3, part o: comprehensions of two clauses. -/
namespace L3
open PySem PySem.Spec PyProof.Rows L2
structure IW (X : Cx) (tg it : Expr) (σ : L2.St) (H : Hp) (R : It → Hp → Prop) : Prop where
  go : ∀ (pins : List (Addr × Obj)) (s : Shared), Inv X pins σ H s → wpAny (model X.prog X.w) X.A (eval it X.env) (fun v s1 => wpAny (model X.prog X.w) X.A (pyIter v) (PIE X pins σ tg R) X.xe s1) X.xe s
theorem pi_w {X : Cx} {tg it : Expr} : PI X tg it (IW X tg it) := ⟨fun pins s _ _ _ I h => h.go pins s I⟩
theorem IW.of {X : Cx} {tg it : Expr} {t : TI} {σ : L2.St} {H : Hp} {R : It → Hp → Prop} (h : PI X tg it t) (q : t σ H R) : IW X tg it σ H R := ⟨fun pins s I => h.run pins s σ H R I q⟩
section
variable {T : Tx} {X : Cx} {N : List Str} {nm : List (Str × NameKind)} {k : Nat} {Γ : List Sl} {elt tg it tg1 it1 : Expr} {ifs1 : List Expr} {scope : Scope} {pos : Pos}
/-- what a two-clause comprehension makes -/
def two {α β γ : Type} (xs : List α) (ys : α → List β) (p : α → β → Bool) (f : α → β → γ) : List γ := xs.flatMap fun x => ((ys x).filter (p x)).map (f x)
theorem two_snoc {α β γ : Type} (xs : List α) (x : α) (ys : α → List β) (p : α → β → Bool) (f : α → β → γ) : two (xs ++ [x]) ys p f = two xs ys p f ++ ((ys x).filter (p x)).map (f x) := by
  unfold two
  rw [List.flatMap_append, List.flatMap_cons, List.flatMap_nil, List.append_nil]
theorem two_pre {α β γ : Type} (xs : List α) (ys : α → List β) (p : α → β → Bool) (f : α → β → γ) {i : Nat} {x : α} (h : xs[i]? = some x) (j : Nat) : (two (xs.take i) ys p f).length + (((ys x).take j).filter (p x)).length ≤ (two xs ys p f).length := by
  have e := (split_at h).1
  have e2 : two xs ys p f = two (xs.take i) ys p f ++ (((ys x).filter (p x)).map (f x) ++ two (xs.drop (i + 1)) ys p f) := by
    conv => lhs; rw [e]
    unfold two
    rw [List.flatMap_append, List.flatMap_cons]
  rw [e2, List.length_append, List.length_append, List.length_map]
  have : (((ys x).take j).filter (p x)).length ≤ ((ys x).filter (p x)).length := ((List.take_sublist j (ys x)).filter _).length_le
  omega
/-- the first's own slots are the second's -/
inductive OwAll : List Sl → List Sl → Prop
  | nil : OwAll [] []
  | same {a : Sl} {l m : List Sl} (t : OwAll l m) : OwAll (a :: l) (a :: m)
  | vl {R : Rp} {h : Sta R} {b : Sl} {l m : List Sl} (t : OwAll l m) : OwAll (.vl R h :: l) (b :: m)
theorem OwAll.get : ∀ {l m : List Sl}, OwAll l m → ∀ {i : Nat} {C : Cp}, l[i]? = some (.ow C) → m[i]? = some (.ow C)
  | _, _, .nil, _, _, e => by simp at e
  | _, _, .same t, 0, C, e => by simpa using e
  | _, _, .same t, i + 1, C, e => by simpa using OwAll.get t (i := i) (by simpa using e)
  | _, _, .vl t, 0, C, e => by simp at e
  | _, _, .vl t, i + 1, C, e => by simpa using OwAll.get t (i := i) (by simpa using e)
theorem lc2_t {α β : Type} {R : α → Rp} {R1 : α → β → Rp} {f : α → β → Val} {p : α → β → Bool} {xs : List α} {ys : α → List β} {ts ts1 : List Nat} (own : List (Str × Nat)) (vs1 : List Nat) (xf : XC X N nm k) (hi : EvI X Γ tg it (xs.map R)) (hz : (two xs ys p f).length ≤ sizeLine) (Γt : α → List Sl) (Γt1 : α → β → List Sl)
    (hts : ∀ j ∈ ts, j ∈ own.map (·.2)) (hts1 : ∀ j ∈ ts1, j ∈ vs1) (hsub : ∀ x ∈ xs, OwAll (Γt x) (wipeG Γ (own.map (·.2))))
    (hg : Bk X N nm k scope fun Y => ∀ x ∈ xs, Tg Y (wipeG Γ (own.map (·.2))) (R x) tg (Γt x) ts)
    (hi1 : Bk X N nm k scope fun Y => ∀ x ∈ xs, EvI Y (Γt x) tg1 it1 ((ys x).map (R1 x)))
    (hg1 : Bk X N nm k scope fun Y => ∀ x ∈ xs, ∀ y ∈ ys x, Tg Y (wipeG (Γt x) vs1) (R1 x y) tg1 (Γt1 x y) ts1)
    (ht1 : Bk X N nm k scope fun Y => ∀ x ∈ xs, ∀ y ∈ ys x, Vv Y (Γt1 x y) ifs1 (p x y))
    (he : Bk X N nm k scope fun Y => ∀ x ∈ xs, ∀ y ∈ ys x, p x y = true → Ev Y (Γt1 x y) elt (rD T (f x y))) (hk : scope.kind = .function) (W : Wd) (gh : Gh) (σ : L2.St) (F0 G0 H0 : Hp) (E0 : En W gh Γ σ F0 G0 H0) :
    ∃ wi g tt wi1 g1 tt1 te, PI X tg it wi ∧ (∀ s H C cl fp, PG (bx X s H scope C cl fp) tg g) ∧ (∀ s H C cl fp, PTs (bx X s H scope C cl fp) [] tt) ∧ (∀ s H C cl fp, PI (bx X s H scope C cl fp) tg1 it1 wi1) ∧ (∀ s H C cl fp, PG (bx X s H scope C cl fp) tg1 g1) ∧ (∀ s H C cl fp, PTs (bx X s H scope C cl fp) ifs1 tt1) ∧ (∀ s H C cl fp, PE (bx X s H scope C cl fp) elt te) ∧
      ∀ Q : VK, (∀ l fo F' G' H', En W gh Γ σ F' G' H' → Gr F0 G0 H0 F' G' H' → (∀ a ∈ fo, H0 a = none ∧ G' a = none) → (cD T (two xs ys p f)).C l fo H' F' G' → Q (.ref l) H') → tLc2 wi g tt wi1 g1 tt1 te (own.map (·.2)) vs1 σ H0 Q := by
  obtain ⟨wi, hpi, hR⟩ := hi W gh σ F0 G0 H0 E0
  refine ⟨wi, fun v σ H Q => ∀ s H0 C cl fp, GW (bx X s H0 scope C cl fp) tg v σ H Q, tYes, fun σ H Q => ∀ s H0 C cl fp, IW (bx X s H0 scope C cl fp) tg1 it1 σ H Q, fun v σ H Q => ∀ s H0 C cl fp, GW (bx X s H0 scope C cl fp) tg1 v σ H Q, fun σ H Q => ∀ s H0 C cl fp, VW (bx X s H0 scope C cl fp) ifs1 σ H Q, fun σ H Q => ∀ s H0 C cl fp, EW (bx X s H0 scope C cl fp) elt σ H Q, hpi,
    fun s H C cl fp => ⟨fun pins s' σ H' v u Q I r h => (h s H C cl fp).go pins s' u I r⟩, fun s H C cl fp => pts_nil, fun s H C cl fp => ⟨fun pins s' σ H' Q I h => (h s H C cl fp).go pins s' I⟩, fun s H C cl fp => ⟨fun pins s' σ H' v u Q I r h => (h s H C cl fp).go pins s' u I r⟩, fun s H C cl fp => ⟨fun pins s' σ H' Q I h => (h s H C cl fp).go pins s' I⟩, fun s H C cl fp => ⟨fun pins s' σ H' Q I h => (h s H C cl fp).go pins s' I⟩, fun Q q => ?_⟩
  refine hR _ fun J g F1 G1 H1 E1 x1 ok D hD => ?_
  have gD := E1.gH.free hD
  have Ew := E1.wipe (own.map (·.2))
  have hln : (xs.map R).length = xs.length := List.length_map ..
  let Pv : Nat → Hp → Prop := fun i H => ∃ F G acc, En W (gh.and g) (wipeG Γ (own.map (·.2))) (wipe σ (own.map (·.2))) F G H ∧ Gr F1 G1 H1 F G H ∧ G D = none ∧ H D = some (.lst acc) ∧ DtAll T F acc (two (xs.take i) ys p f)
  refine ⟨fun i m H => m = xs.length - i ∧ i ≤ xs.length ∧ Pv i H, ⟨xs.length, by simp, Nat.zero_le _, F1, G1, [], Ew.new hD, (Gr.refl _ _ _).new hD, gD, upd_same, .nil⟩, ?_⟩
  rintro i m H ⟨rfl, hi, F, G, acc, E, x, gDn, hDa, pa⟩
  by_cases hlt : i < xs.length
  · refine .inr ⟨ok.go i F G H (by rw [hln]; exact hlt) E.fg E.gH E.g.2, Pv (i + 1), fun H' p' => ⟨xs.length - (i + 1), by omega, rfl, hlt, p'⟩, fun v H3 y => ?_⟩
    have hx := List.getElem?_eq_getElem hlt
    have hRx : (xs.map R)[i]? = some (R xs[i]) := by rw [List.getElem?_map, hx]; rfl
    have mem : xs[i] ∈ xs := List.getElem_mem hlt
    obtain ⟨F3, G3, E3, x3, p3⟩ := E.step (gh' := gh.and g) (by exact ⟨fun F G H a b c => ok.stop F G H a b c, fun i F G H h a b c => ok.go i F G H h a b c, ok.yld⟩) E.g.2 hRx y
    intro s H0 C cl fp
    refine hg s H0 C cl fp (xf.blk hk s H0 C cl fp) _ mem W _ _ F3 G3 H3 v E3 p3 _ fun σ4 E4 w4 => ⟨(w4 _ hts).trans wipe_wipe, ?_⟩
    refine iteT (B := Pv (i + 1) H3) fun s H0 C cl fp => ?_
    obtain ⟨wi1, hpi1, hR1⟩ := hi1 s H0 C cl fp (xf.blk hk s H0 C cl fp) _ mem W _ σ4 F3 G3 H3 E4
    refine IW.of hpi1 (hR1 _ fun J1 g1 F4 G4 H4 E4' x4 ok1 => ?_)
    have Ew4 := E4'.wipe vs1
    have hln1 : ((ys xs[i]).map (R1 xs[i])).length = (ys xs[i]).length := List.length_map ..
    let Pv1 : Nat → Hp → Prop := fun j H => ∃ F G acc, En W ((gh.and g).and g1) (wipeG (Γt xs[i]) vs1) (wipe σ4 vs1) F G H ∧ En W (gh.and g) (wipeG Γ (own.map (·.2))) (wipe σ (own.map (·.2))) F G H ∧ Gr F1 G1 H1 F G H ∧ G D = none ∧ H D = some (.lst acc) ∧ DtAll T F acc (two (xs.take i) ys p f ++ (((ys xs[i]).take j).filter (p xs[i])).map (f xs[i]))
    have xx4 := x3.trans x4
    refine ⟨fun j m H => m = (ys xs[i]).length - j ∧ j ≤ (ys xs[i]).length ∧ Pv1 j H, ⟨_, rfl, Nat.zero_le _, F4, G4, acc, Ew4, E.back E4' xx4, x.trans xx4, xx4.n D _ hDa (fun _ z => nomatch z) gDn, xx4.s _ _ hDa, by
      rw [List.take_zero, List.filter_nil, List.map_nil, List.append_nil]
      exact dtAll_same xx4.f _ _ pa⟩, ?_⟩
    rintro j m H ⟨rfl, hj, F, G, acc, E5, Eb, x5, gDn, hDa, pa⟩
    by_cases hlj : j < (ys xs[i]).length
    · refine .inr ⟨ok1.go j F G H (by rw [hln1]; exact hlj) E5.fg E5.gH E5.g.2, Pv1 (j + 1), fun H' p' => ⟨(ys xs[i]).length - (j + 1), by omega, rfl, hlj, p'⟩, fun v H6 y => ?_⟩
      have hy := List.getElem?_eq_getElem hlj
      have hRy : ((ys xs[i]).map (R1 xs[i]))[j]? = some (R1 xs[i] (ys xs[i])[j]) := by rw [List.getElem?_map, hy]; rfl
      have memy : (ys xs[i])[j] ∈ ys xs[i] := List.getElem_mem hlj
      obtain ⟨F6, G6, E6, x6, p6⟩ := E5.step (gh' := (gh.and g).and g1) (by exact ⟨fun F G H a b c => ok1.stop F G H a b c, fun i F G H h a b c => ok1.go i F G H h a b c, ok1.yld⟩) E5.g.2 hRy y
      intro s H0 C cl fp
      refine hg1 s H0 C cl fp (xf.blk hk s H0 C cl fp) _ mem _ memy W _ _ F6 G6 H6 v E6 p6 _ fun σ7 E7 w7 => ⟨(w7 _ hts1).trans wipe_wipe, fun s H0 C cl fp => ?_⟩
      refine ht1 s H0 C cl fp (xf.blk hk s H0 C cl fp) _ mem _ memy W _ σ7 F6 G6 H6 E7 _ fun F8 G8 H8 E8 x8 => ?_
      have x68 := x6.trans x8
      cases z : p xs[i] (ys xs[i])[j] with
      | false =>
        refine iteF ⟨F8, G8, acc, E5.back E8 x68, Eb.back E8 x68, x5.trans x68, x68.n D _ hDa (fun _ z => nomatch z) gDn, x68.s _ _ hDa, ?_⟩
        rw [(split_at hy).2, List.filter_append, List.filter_cons_of_neg (by rw [z]; exact Bool.false_ne_true), List.filter_nil, List.append_nil]
        exact dtAll_same x68.f _ _ pa
      | true =>
        refine iteT fun s H0 C cl fp => he s H0 C cl fp (xf.blk hk s H0 C cl fp) _ mem _ memy z W _ σ7 F8 G8 H8 E8 _ fun u F9 G9 H9 E9 x9 p9 => ?_
        have x69 := x68.trans x9
        have hD9 := x69.s _ _ hDa
        have gD9 := x69.n D _ hDa (fun _ z => nomatch z) gDn
        have en1 := E5.back E9 x69
        have en2 := Eb.back E9 x69
        have tot := two_pre xs ys p f hx (j + 1)
        rw [(split_at hy).2, List.filter_append, List.filter_cons_of_pos z, List.filter_nil, List.length_append, List.length_singleton] at tot
        have la : acc.length < sizeLine := by
          rw [pa.length, List.length_append, List.length_map]
          omega
        have xx := x5.trans x69
        refine ⟨acc, hD9, la, F9, G9, acc ++ [u], en1.other gD9 (fun n C' m fo e e1 q => ?_), en2.other gD9 (Ew.notOwn xx.s hD), ?_, gD9, upd_same, ?_⟩
        · rcases wipeG_get e with z1 | ⟨z1, z2⟩
          · cases z1
          · have z3 := (hsub _ mem).get z2
            rcases wipeG_get z3 with z4 | ⟨z4, _⟩
            · cases z4
            · refine Ew.notOwn xx.s hD n C' m fo z3 ?_ q
              have w5 := w4 _ hts
              have w6 : (wipe σ4 (own.map (·.2)))[n]? = σ4[n]? := by rw [wipe_get, if_neg fun z => z4 z.1]
              rw [wipe_get, if_neg fun z => z1 z.1] at e1
              rw [← e1, ← w6, w5, wipe_wipe]
        · exact ⟨xx.f, xx.g, fun b o e => by rw [upd_ne (ne_of_none e hD)]; exact xx.s b o e, xx.n⟩
        · rw [(split_at hy).2, List.filter_append, List.filter_cons_of_pos z, List.filter_nil, List.map_append, ← List.append_assoc]
          exact (dtAll_same x69.f _ _ pa).snoc p9
    · have e : j = (ys xs[i]).length := by omega
      subst e
      refine .inl ⟨by rw [← hln1]; exact ok1.stop F G H E5.fg E5.gH E5.g.2, F, G, acc, Eb, x5, gDn, hDa, ?_⟩
      rw [List.take_length] at pa
      rw [(split_at hx).2, two_snoc]
      exact pa
  · have e : i = xs.length := by omega
    subst e
    refine .inl ⟨by rw [← hln]; exact ok.stop F G H E.fg E.gH E.g.2, ?_⟩
    have EE := E1.back E x
    rw [List.take_length] at pa
    exact q D [D] F G H (EE.gw EE.g.1) (x1.trans x) (one_new (x1.s.free hD) gDn) (own_list ⟨hDa, pa⟩)
theorem evo_lc2 {α β : Type} {R : α → Rp} {R1 : α → β → Rp} {f : α → β → Val} {p : α → β → Bool} {xs : List α} {ys : α → List β} {ts ts1 : List Nat} (own : List (Str × Nat)) (vs1 : List Nat) (xf : XC X N nm k) (hi : EvI X Γ tg it (xs.map R)) (hz : (two xs ys p f).length ≤ sizeLine) (Γt : α → List Sl) (Γt1 : α → β → List Sl)
    (hts : ∀ j ∈ ts, j ∈ own.map (·.2)) (hts1 : ∀ j ∈ ts1, j ∈ vs1) (hv : ∀ i ∈ vs1, i ∈ own.map (·.2)) (hsub : ∀ x ∈ xs, OwAll (Γt x) (wipeG Γ (own.map (·.2))))
    (hg : Bk X N nm k scope fun Y => ∀ x ∈ xs, Tg Y (wipeG Γ (own.map (·.2))) (R x) tg (Γt x) ts)
    (hi1 : Bk X N nm k scope fun Y => ∀ x ∈ xs, EvI Y (Γt x) tg1 it1 ((ys x).map (R1 x)))
    (hg1 : Bk X N nm k scope fun Y => ∀ x ∈ xs, ∀ y ∈ ys x, Tg Y (wipeG (Γt x) vs1) (R1 x y) tg1 (Γt1 x y) ts1)
    (ht1 : Bk X N nm k scope fun Y => ∀ x ∈ xs, ∀ y ∈ ys x, Vv Y (Γt1 x y) ifs1 (p x y))
    (he : Bk X N nm k scope fun Y => ∀ x ∈ xs, ∀ y ∈ ys x, p x y = true → Ev Y (Γt1 x y) elt (rD T (f x y)))
    (hb : blkN N nm scope own = true := by decide +kernel) (hk : scope.kind = .function := by rfl) (hs : ∀ x, foldedSetIterable it X.env x = pure x := by intro _; rfl) (hs1 : ∀ env x, foldedSetIterable it1 env x = pure x := by intro _ _; rfl) :
    EvO X Γ (.ListComp elt [⟨tg, it, [], 0⟩, ⟨tg1, it1, ifs1, 0⟩] scope pos) (cD T (two xs ys p f)) := fun W gh σ F0 G0 H0 E0 Q q => by
  obtain ⟨wi, g, tt, wi1, g1, tt1, te, h1, h2, h3, h4, h5, h6, h7, h8⟩ := lc2_t own vs1 xf hi hz Γt Γt1 hts hts1 hsub hg hi1 hg1 ht1 he hk W gh σ F0 G0 H0 E0
  exact EW.of (pe_lc2 xf.calm xf.nd h1 (blkOk_by (blkN_ok xf.toXV hb)) hv h2 h3 h4 h5 h6 h7 hs hs1) (h8 Q q)
theorem blk_setLc2 {α β : Type} {R : α → Rp} {R1 : α → β → Rp} {f : α → β → Val} {p : α → β → Bool} {xs : List α} {ys : α → List β} {ts ts1 : List Nat} {W : Wd} {D : Ends} {gh : Gh} {ss : List Stmt} {z : Str} {py spos : Pos} (xb : XB X N nm k) (i : Nat) (own : List (Str × Nat)) (vs1 : List Nat) (hi : EvI X Γ tg it (xs.map R)) (hz : (two xs ys p f).length ≤ sizeLine) (Γt : α → List Sl) (Γt1 : α → β → List Sl)
    (hts : ∀ j ∈ ts, j ∈ own.map (·.2)) (hts1 : ∀ j ∈ ts1, j ∈ vs1) (hv : ∀ i ∈ vs1, i ∈ own.map (·.2)) (hsub : ∀ x ∈ xs, OwAll (Γt x) (wipeG Γ (own.map (·.2))))
    (hg : Bk X N nm k scope fun Y => ∀ x ∈ xs, Tg Y (wipeG Γ (own.map (·.2))) (R x) tg (Γt x) ts)
    (hi1 : Bk X N nm k scope fun Y => ∀ x ∈ xs, EvI Y (Γt x) tg1 it1 ((ys x).map (R1 x)))
    (hg1 : Bk X N nm k scope fun Y => ∀ x ∈ xs, ∀ y ∈ ys x, Tg Y (wipeG (Γt x) vs1) (R1 x y) tg1 (Γt1 x y) ts1)
    (ht1 : Bk X N nm k scope fun Y => ∀ x ∈ xs, ∀ y ∈ ys x, Vv Y (Γt1 x y) ifs1 (p x y))
    (he : Bk X N nm k scope fun Y => ∀ x ∈ xs, ∀ y ∈ ys x, p x y = true → Ev Y (Γt1 x y) elt (rD T (f x y)))
    {ds : List Val} (hds : two xs ys p f = ds) (t : Blk X W D gh (Γ.set i (.ow (cD T ds))) ss)
    (hb : blkN N nm scope own = true := by decide +kernel) (hk : scope.kind = .function := by rfl) (hN : N[i]? = some z := by rfl) (hl : onlyB nm z = true := by decide +kernel)
    (hline : (py.line == pos.line) = true := by decide) (ha : (scope.names.any fun (n, k) => n == z && (k == .local || k == .cell)) = false := by decide +kernel)
    (hs : ∀ x, foldedSetIterable it X.env x = pure x := by intro _; rfl) (hs1 : ∀ env x, foldedSetIterable it1 env x = pure x := by intro _ _; rfl) : Blk X W D gh Γ (.Assign [.Name z py] (.ListComp elt [⟨tg, it, [], 0⟩, ⟨tg1, it1, ifs1, 0⟩] scope pos) spos :: ss) := fun σ F0 G0 H0 E0 => by
  subst hds
  obtain ⟨wi, g, tt, wi1, g1, tt1, te, h1, h2, h3, h4, h5, h6, h7, h8⟩ := lc2_t own vs1 xb.toXC hi hz Γt Γt1 hts hts1 hsub hg hi1 hg1 ht1 he hk W gh σ F0 G0 H0 E0
  refine BW.of (pss_cons (ps_setLc2 xb.calm xb.nd (xb.at_ hN) (xb.v.only hl) (sw_true xb.kd (xb.v.only hl) hline ha) h1 (blkOk_by (blkN_ok xb.v hb)) hv h2 h3 h4 h5 h6 h7 hs hs1) pss_w) ?_
  show tLc2 _ _ _ _ _ _ _ _ _ σ H0 (fun x H1 => BW X ss D (σ.set i (some x)) H1)
  exact h8 _ fun l fo F' G' H' E' x0 hn pc => t _ F' G' H' (E'.setO (fun a ha => (hn a ha).2) pc fun j C' m fo' _ e e1 q a ha => E0.notOwn x0.s (hn a ha).1 j C' m fo' e e1 q)
end
section
variable {T : Tx} {X : Cx} {Γ : List Sl} {a b tg it : Expr} {pos : Pos}
theorem evi_cast {Rs Rs' : List Rp} (h : EvI X Γ tg it Rs) (k : Rs = Rs') : EvI X Γ tg it Rs' := k ▸ h
/-- x is True, x is False -/
theorem ev_isB {c d : Bool} (ha : Ev X Γ a (rD T (.bool c))) (hb : Ev X Γ b (rD T (.bool d))) : Ev X Γ (.Compare a [.Is] [b] pos) (rD T (.bool (decide (c = d)))) := ev_cmp0 op_is_bl ha hb (fun x y F G H f g p1 p2 => ⟨_, .bl _, fun Q q => ⟨c, d, bool_inv p1, bool_inv p2, q⟩⟩) (nomark _)
theorem tv_isB {c d : Bool} (ha : Ev X Γ a (rD T (.bool c))) (hb : Ev X Γ b (rD T (.bool d))) : Tv X Γ (.Compare a [.Is] [b] pos) (decide (c = d)) := tv_cmp0 op_is_bl ha hb (fun x y F G H f g p1 p2 Q q => ⟨c, d, bool_inv p1, bool_inv p2, q⟩) (nomark _)
theorem ev_nisB {c d : Bool} (ha : Ev X Γ a (rD T (.bool c))) (hb : Ev X Γ b (rD T (.bool d))) : Ev X Γ (.Compare a [.IsNot] [b] pos) (rD T (.bool (!decide (c = d)))) := ev_cmp0 op_isnot_bl ha hb (fun x y F G H f g p1 p2 => ⟨_, .bl _, fun Q q => ⟨c, d, bool_inv p1, bool_inv p2, q⟩⟩) (nomark _)
theorem tv_nisB {c d : Bool} (ha : Ev X Γ a (rD T (.bool c))) (hb : Ev X Γ b (rD T (.bool d))) : Tv X Γ (.Compare a [.IsNot] [b] pos) (!decide (c = d)) := tv_cmp0 op_isnot_bl ha hb (fun x y F G H f g p1 p2 Q q => ⟨c, d, bool_inv p1, bool_inv p2, q⟩) (nomark _)
end
section
variable {T : Tx} {X : Cx} {N : List Str} {nm : List (Str × NameKind)} {W : Wd} {D : Ends} {gh : Gh} {Γ : List Sl} {ss : List Stmt} {e : Expr} {pos p : Pos} {x : Str} {R : Rp}
/-- x = e, where less is known of the context (an except's suite) -/
theorem blk_setV (xv : XV X N nm) (i : Nat) [hR : Sta R] (h : Ev X Γ e R) (t : Blk X W D gh (Γ.set i (.vl R hR)) ss) (hN : N[i]? = some x := by rfl) (hl : onlyB nm x = true := by decide +kernel)
    (hs : swapsWith e (some (.Name x p)) pos.line X.env = pure false := by rfl) : Blk X W D gh Γ (.Assign [.Name x p] e pos :: ss) :=
  blk_ps (ps_set xv.nd (xv.at_ hN) (.inl (xv.only hl)) pe_w hs (.inr (xv.only hl))) fun σ F G H E => h W gh σ F G H E _ fun v F' G' H' E' x0 pv => t _ F' G' H' (E'.setV pv)
/-- the end of a suite: the rest follows in the outer context -/
theorem blk_out {Y : Cx} {rt : VK} {bk ct : L2.St → Hp → Prop} {D' : Ends} (h : Blk Y W D' gh Γ ss) : Blk X W { nx := BW Y ss D', rt := rt, bk := bk, ct := ct } gh Γ [] := blk_nil fun σ F G H E => h σ F G H E
end
end L3
/-! L3, part f: exceptions, made objects. -/
namespace L3
open PySem PySem.Spec PyProof.Rows L2
/-! ### what is raised -/
/-- what an exception bears: its class; a field and what it stands for -/
inductive Xk where
  | bare (C : Addr)
  | with_ (C : Addr) (f : Str) (R : Rp)
/-- an exception of that kind is wished for, at a world that has grown from (F, H) -/
def Xk.Wish (F H : Hp) (E : XK) : Xk → Prop
  | .bare C => ∀ F1 H1, Ext F H F1 H1 → E (.ref C) none H1
  | .with_ C f R => ∀ d v F1 H1, Ext F H F1 H1 → H d = none → F1 d = none → H1 d = some (.xd [(f, v)]) → R.P v F1 F1 F1 → E (.ref C) (some d) H1
/-- the def raises -/
def spR (Rs : List Rp) (x : Xk) : Sp := fun vs H _ E => ∃ F, Same F H ∧ argsP Rs vs F H ∧ x.Wish F H E
section
variable {X : Cx} {N : List Str} {nm : List (Str × NameKind)} {k : Nat} {W : Wd} {D : Ends} {gh : Gh} {Γ Γ' : List Sl} {ss a b : List Stmt} {st : Stmt} {e c tg o : Expr} {es : List Expr} {pos p apos : Pos} {Rs : List Rp} {f C : Addr} {fd : FuncData} {ps : List Str} {x m : Str} {xk : Xk}
/-- e raises: wherever exceptions of that kind are taken, it may be reckoned -/
def EvX (X : Cx) (Γ : List Sl) (e : Expr) (xk : Xk) : Prop := ∀ (W : Wd) (gh : Gh) (σ : L2.St) (F G H : Hp), En W gh Γ σ F G H → ∀ Wx : WX, Takes X Wx → (∀ F' G' H', En W gh Γ σ F' G' H' → Gr F G H F' G' H' → xk.Wish F' H' (fun cls d H => Wx cls d σ H)) → ∀ Q : VK, EW X e σ H Q
theorem evx_call (F : FnOk X.prog X.w X.K X.mg X.base (CL X) k f fd ps (spR Rs xk)) (hr : Room k X.A) (hg : Gl X x) (hm : X.mg x = some (.ref f)) (hk : PySem.W.keepIn X.K (.ref f) = true) (hb : Binds X.K fd ps []) (ha : EvA X Γ (e :: es) Rs)
    (hdb : (x == ("__debug__" : Str)) = false := by decide) (he : starEach (e :: es) X.env = (false, eval e X.env) :: starEach es X.env := by rfl) (hpl : (backTo pos (starEach es X.env)).any (·.1) = false := by rfl) : EvX X Γ (.Call (.Name x p) (e :: es) [] pos) xk := fun W gh σ F0 G H E Wx tk q Q =>
  EW.of (pe_callS F hr hg hm hk hb (fun σ => passAt tk σ) pa_w hdb he hpl) (ha W gh σ F0 G H E _ fun vs F' G' H' E' x' pa => ⟨F', E'.fg.trans E'.gH, paired_mono (Same.refl _) E'.gH (Same.refl _) pa, q F' G' H' E' x'⟩)
/-- o.m(e, ..), what is raised wished for at the slots -/
theorem pe_methT {ta : TE} {t : TA} {sp : Sp} {CX : CXT} {E : L2.St → XK} {pl : Sem Bool} (he : PE X o ta) (c : Cls X.K C) (hm : Meth X.K C m f) (F : FnOk X.prog X.w X.K X.mg X.base CX k f fd ps sp) (hr : Room k X.A) (hb : Binds X.K fd ps []) (hx : ∀ σ, PassesAt CX X σ (E σ)) (ha : PA X (e :: es) t)
    (hst : starEach (e :: es) X.env = (false, eval e X.env) :: starEach es X.env := by rfl) (hpl : (backTo pos (starEach es X.env)).any (·.1) = false := by rfl)
    (ht : eval (.Call (.Attribute o m apos) (e :: es) [] pos) X.env = (do
      let ov ← eval o X.env
      standAt apos.atName
      let (f, first) ← holding [ov] (getMethod ov m pl)
      callWith pos f first (backTo pos (starEach (e :: es) X.env)) (backToKw pos (keywordEach [] X.env))) := by rfl) :
    PE X (.Call (.Attribute o m apos) (e :: es) [] pos) (fun σ H Q => ta σ H fun x H1 => ∃ a dx fs, x = .ref a ∧ H1 a = some (.ins C dx fs) ∧ fs.lookup m = none ∧ t σ H1 fun vs H2 => sp (x :: vs) H2 Q (E σ)) := ⟨fun pins s σ H Q I h =>
  PySem.W.methodCall_KW (pl := pl) (thn (he.run pins s σ H _ I h) fun u s1 ⟨x, H1, I1, rx, a, dx, fs, ex, ea, l, q⟩ => by
    subst ex
    obtain rfl : u = Value.ref a := rx
    exact getmeth_ok I1 ea c hm l (PySem.W.callWith_K (first := [.ref a]) (h₀ := X.base) I.ok.mod.kin hm.kp (thn (ha.run pos pins s1 σ H1 _ I1 q) fun us s2 ⟨vs, H2, I2, r, q2⟩ => ⟨I2.kIn, run_fnS (us := .ref a :: us) (vs := .ref a :: vs) F hr hb (hx σ) I2 (.cons rfl r) q2⟩) hst hpl)) ht⟩
theorem evx_meth {pl : Sem Bool} {Ro : Rp} (ho : Ev X Γ o Ro) (hi : InsOf Ro C m) (c : Cls X.K C) (hm : Meth X.K C m f) (F : FnOk X.prog X.w X.K X.mg X.base (CL X) k f fd ps (spR (Ro :: Rs) xk)) (hr : Room k X.A) (hb : Binds X.K fd ps []) (ha : EvA X Γ (e :: es) Rs)
    (hst : starEach (e :: es) X.env = (false, eval e X.env) :: starEach es X.env := by rfl) (hpl : (backTo pos (starEach es X.env)).any (·.1) = false := by rfl)
    (ht : eval (.Call (.Attribute o m apos) (e :: es) [] pos) X.env = (do
      let ov ← eval o X.env
      standAt apos.atName
      let (f, first) ← holding [ov] (getMethod ov m pl)
      callWith pos f first (backTo pos (starEach (e :: es) X.env)) (backToKw pos (keywordEach [] X.env))) := by rfl) : EvX X Γ (.Call (.Attribute o m apos) (e :: es) [] pos) xk := fun W gh σ F0 G H E Wx tk q Q =>
  EW.of (pe_methT pe_w c hm F hr hb (fun σ => passAt tk σ) pa_w hst hpl ht) (ho W gh σ F0 G H E _ fun v F1 G1 H1 E1 x1 p1 => by
    obtain ⟨a, dx, fs, ev, hH, hl⟩ := hi v F1 G1 H1 E1.fg E1.gH p1
    refine ⟨a, dx, fs, ev, hH, hl, ha W gh σ F1 G1 H1 E1 _ fun vs F' G' H' E' x' pa => ?_⟩
    exact ⟨F', E'.fg.trans E'.gH, .cons (Ro.mono x'.f (x'.g.trans E'.gH) x'.s p1) (paired_mono (Same.refl _) E'.gH (Same.refl _) pa), q F' G' H' E' (x1.trans x')⟩)
/-! statements that raise -/
/-- what the def wishes of an exception -/
abbrev Tk (X : Cx) (E : XK) : Prop := Takes X (fun cls d _ H => E cls d H)
theorem ext_trans {F H F1 H1 F2 H2 : Hp} (a : Ext F H F1 H1) (b : Ext F1 H1 F2 H2) : Ext F H F2 H2 := ⟨a.f.trans b.f, a.h.trans b.h, b.fh, fun c u q => by
  rcases b.gr c u q with z | z | ⟨xs, z⟩
  · exact a.gr c u z
  · exact .inr (.inl (a.h.free z))
  · cases y : H c with
    | none => exact .inr (.inl rfl)
    | some o =>
      have y2 := a.h c o y
      rw [z] at y2
      cases y2
      exact .inr (.inr ⟨xs, rfl⟩)⟩
theorem Xk.Wish.up {F H F1 H1 : Hp} {E : XK} (h : xk.Wish F H E) (x : Ext F H F1 H1) : xk.Wish F1 H1 E := by
  cases xk with
  | bare C => exact fun F2 H2 y => h F2 H2 (ext_trans x y)
  | with_ C f R => exact fun d v F2 H2 y hd fd hx p => h d v F2 H2 (ext_trans x y) (x.h.free hd) fd hx p
theorem blk_expX {E : XK} (h : EvX X Γ e xk) (tk : Tk X E) (q : xk.Wish W.F0 W.H0 E) (hs : swapsWith e none pos.line X.env = pure false := by rfl) : Blk X W D gh Γ (.Expr e pos :: ss) :=
  blk_ps (ps_expr pe_w hs) fun σ F G H E1 => h W gh σ F G H E1 _ tk (fun F' G' H' E' x' => q.up E'.toExt) _
theorem blk_setX {E : XK} (xb : XB X N nm k) (i : Nat) (h : EvX X Γ e xk) (tk : Tk X E) (q : xk.Wish W.F0 W.H0 E) (hN : N[i]? = some x := by rfl) (hl : locB nm x = true := by decide +kernel)
    (hs : swapsWith e (some (.Name x p)) pos.line X.env = pure false := by rfl) : Blk X W D gh Γ (.Assign [.Name x p] e pos :: ss) :=
  blk_ps (ps_set xb.nd (xb.at_ hN) (xb.loc hl) pe_w hs (.inl (xb.fnn x))) fun σ F G H E1 => h W gh σ F G H E1 _ tk (fun F' G' H' E' x' => q.up E'.toExt) _
theorem blk_retX {E : XK} (h : EvX X Γ e xk) (tk : Tk X E) (q : xk.Wish W.F0 W.H0 E) : Blk X W D gh Γ (.Return (some e) pos :: ss) :=
  blk_ps (ps_ret pe_w) fun σ F G H E1 => h W gh σ F G H E1 _ tk (fun F' G' H' E' x' => q.up E'.toExt) _
/-- raise X('..'), an own class without fields -/
theorem blk_raise {E : XK} (xb : XB X N nm k) (mk : PMk X e (fun _ H Q => Q (.ref C) none H)) (tk : Tk X E) (q : Xk.Wish W.F0 W.H0 E (.bare C)) : Blk X W D gh Γ (.Raise (some e) none pos :: ss) :=
  blk_ps (ps_raise xb.calm tk mk) fun σ F G H E1 => q F H E1.toExt
/-! ### try -/
theorem XB.try_ (xb : XB X N nm k) {pn : List (Addr × Obj)} {xe : Value → Shared → Prop} (hp : PassesOwn (model X.prog X.w) X.A X.env xe) : XB (X.tr pn xe) N nm k :=
  { hN := xb.hN, nd := xb.nd, nm := xb.nm, kd := xb.kd, calm := xb.calm, room := xb.room, fnn := xb.fnn, pass := hp, stk := xb.stk, frm := xb.frm, ex := xb.ex }
theorem XV.suite (xv : XV X N nm) {al : Addr} {pn : List (Addr × Obj)} : XV (X.suite al pn) N nm := { hN := xv.hN, nd := xv.nd, nm := xv.nm, kd := xv.kd }
/-- an exception of the kind lies there: what may be read off it -/
def Xk.Lies (H0 F H : Hp) (cls : Value) (d : Option Addr) : Xk → Prop
  | .bare C => cls = .ref C ∧ d = none
  | .with_ C f R => cls = .ref C ∧ ∃ dd v, d = some dd ∧ H0 dd = none ∧ F dd = none ∧ H dd = some (.xd [(f, v)]) ∧ R.P v F F F
/-- the name of a caught exception -/
def rRef (al : Addr) : Rp := ⟨fun w _ _ _ => w = .ref al, fun _ _ _ h => h⟩
instance {al : Addr} : Fz (rRef al) := ⟨fun h => h⟩
def rErr (al : Addr) (d : Option Addr) (f : Str) (R : Rp) : Rp := ⟨fun w F G _ => w = .ref al ∧ ∃ dd v, d = some dd ∧ G dd = some (.xd [(f, v)]) ∧ R.P v F F F, fun a b _ ⟨e, dd, v, e1, e2, p⟩ => ⟨e, dd, v, e1, b _ _ e2, R.mono a a a p⟩⟩
instance {al : Addr} {d : Option Addr} {f : Str} {R : Rp} : Sta (rErr al d f R) := ⟨fun h => h⟩
def Xk.slot (al : Addr) (d : Option Addr) : Xk → Sl
  | .bare _ => L3.vl (rRef al)
  | .with_ _ f R => L3.vl (rErr al d f R)
theorem wish_of {E : XK} {F H : Hp} (h : ∀ cls d F1 H1, Ext F H F1 H1 → xk.Lies H F1 H1 cls d → E cls d H1) : xk.Wish F H E := by
  cases xk with
  | bare C => exact fun F1 H1 x => h _ _ F1 H1 x ⟨rfl, rfl⟩
  | with_ C f R => exact fun d v F1 H1 x hd fd hx p => h _ _ F1 H1 x ⟨rfl, d, v, rfl, hd, fd, hx, p⟩
def Xk.Is (cls : Value) (d : Option Addr) : Xk → Prop
  | .bare C => cls = .ref C ∧ d = none
  | .with_ C _ _ => cls = .ref C ∧ ∃ dd, d = some dd
/-- try: body / except x: suite. Exceptions of the kind xk that leave the body at Γ' are caught -/
theorem blk_tryO {cn : Str} {cv : Value} {np hp : Pos} {body suite : List Stmt} {b0 : Stmt} (xb : XB X N nm k) (hc : Names X cn cv) (tk : ∃ Wout, Takes X Wout)
    (hb : ∀ (Wx : WX) pn xe, XB (X.tr pn xe) N nm k → Takes (X.tr pn xe) Wx → (∀ (xk : Xk) (Γ' : List Sl) (σ : L2.St) (F G H : Hp), En W gh Γ' σ F G H → (∀ cls d H0 F H, xk.Lies H0 F H cls d → PySem.W.exmOne X.K cls cv = some true) →
        (∀ al oe cls d pn, Zc cls d oe → (∃ vs, oe.data = .fields vs) → XV (X.suite al ((al, oe) :: pn)) N nm → ∀ F1 G1 H1, Gr F G H F1 G1 H1 → En W gh Γ' σ F1 G1 H1 → BW (X.suite al ((al, oe) :: pn)) (b0 :: suite) { D with nx := BW X ss D } σ H1) → xk.Wish F H (fun cls d H => Wx cls d σ H)) →
      Blk (X.tr pn xe) W { D with nx := BW X ss D } gh Γ body) : Blk X W D gh Γ (.Try body [.ExceptHandler (some (.Name cn np)) none (b0 :: suite) hp] [] [] pos :: ss) := by
  obtain ⟨Wout, tk⟩ := tk
  refine blk_ps (ps_try_only (tb := fun Wx D σ H => ∀ pn xe, Takes (X.tr pn xe) Wx → PassesOwn (model X.prog X.w) X.A X.env xe → BW (X.tr pn xe) body D σ H) (ts := fun al cls d D σ H => ∀ oe pn, Zc cls d oe → (∃ vs, oe.data = .fields vs) → BW (X.suite al ((al, oe) :: pn)) (b0 :: suite) D σ H) xb.stk xb.frm hc tk
    (fun Wx pn xe t1 t2 => ⟨fun pins s σ H D I h => (h pn xe t1 t2).go pins s I⟩) (fun al oe cls d pn z1 z2 => ⟨fun pins s σ H D I h => (h oe pn z1 z2).go pins s I⟩)) fun σ F G H E1 pn xe t1 t2 => ?_
  refine hb _ pn xe (xb.try_ t2) t1 (fun xk Γ' σ' F' G' H' E' hx hsu => wish_of fun cls d F1 H1 y lies => ?_) σ F G H E1
  obtain ⟨G1, gr, fg, _, E2⟩ := E'.ext y
  exact ⟨true, hx cls d H' F1 H1 lies, fun _ al hal oe pn' z1 z2 => hsu al oe cls d pn' z1 z2 xb.v.suite F1 G1 H1 gr E2, fun z => nomatch z⟩
/-- .. except x as n -/
theorem blk_tryA {cn n : Str} {cv : Value} {np hp : Pos} {body suite : List Stmt} {b0 : Stmt} (i : Nat) (xb : XB X N nm k) (hi : N[i]? = some n) (hn : onlyB nm n = true) (hc : Names X cn cv) (tk : ∃ Wout, Takes X Wout)
    (hb : ∀ (Wx : WX) pn xe, XB (X.tr pn xe) N nm k → Takes (X.tr pn xe) Wx → (∀ (xk : Xk) (Γ' : List Sl) (σ : L2.St) (F G H : Hp), En W gh Γ' σ F G H → (∀ cls d H0 F H, xk.Lies H0 F H cls d → PySem.W.exmOne X.K cls cv = some true) →
        (∀ al oe cls d pn, Zc cls d oe → (∃ vs, oe.data = .fields vs) → XV (X.suite al ((al, oe) :: pn)) N nm → xk.Is cls d → ∀ F1 G1 H1, En W gh (Γ'.set i (xk.slot al d)) (σ.set i (some (.ref al))) F1 G1 H1 →
          BW (X.suite al ((al, oe) :: pn)) (b0 :: suite) { nx := fun σ' H' => BW X ss D (σ'.set i none) H', rt := D.rt, bk := fun σ' H' => D.bk (σ'.set i none) H', ct := fun σ' H' => D.ct (σ'.set i none) H' } (σ.set i (some (.ref al))) H1) → xk.Wish F H (fun cls d H => Wx cls d σ H)) →
      Blk (X.tr pn xe) W { D with nx := BW X ss D } gh Γ body) : Blk X W D gh Γ (.Try body [.ExceptHandler (some (.Name cn np)) (some n) (b0 :: suite) hp] [] [] pos :: ss) := by
  obtain ⟨Wout, tk⟩ := tk
  have hi' := xb.at_ hi
  refine blk_ps (ps_try_as (tb := fun Wx D σ H => ∀ pn xe, Takes (X.tr pn xe) Wx → PassesOwn (model X.prog X.w) X.A X.env xe → BW (X.tr pn xe) body D σ H) (ts := fun al cls d D σ H => ∀ oe pn, Zc cls d oe → (∃ vs, oe.data = .fields vs) → BW (X.suite al ((al, oe) :: pn)) (b0 :: suite) D σ H) xb.stk xb.frm xb.nd hi' (xb.only hn) hc tk
    (fun Wx pn xe t1 t2 => ⟨fun pins s σ H D I h => (h pn xe t1 t2).go pins s I⟩) (fun al oe cls d pn z1 z2 => ⟨fun pins s σ H D I h => (h oe pn z1 z2).go pins s I⟩)) fun σ F G H E1 pn xe t1 t2 => ?_
  refine hb _ pn xe (xb.try_ t2) t1 (fun xk Γ' σ' F' G' H' E' hx hsu => wish_of fun cls d F1 H1 y lies => ?_) σ F G H E1
  obtain ⟨G1, gr, fg, gn, E2⟩ := E'.ext y
  refine ⟨true, hx cls d H' F1 H1 lies, fun _ al hal oe pn' z1 z2 => ?_, fun z => nomatch z⟩
  cases xk with
  | bare C => exact hsu al oe cls d pn' z1 z2 xb.v.suite lies F1 G1 H1 (E2.setV rfl)
  | with_ C f R =>
    obtain ⟨e1, dd, v, e2, h0, fd, hd, p⟩ := lies
    have E3 := E2.still (gn dd fd (E'.gH.free h0)) hd (E'.notOwn gr.s h0)
    exact hsu al oe cls d pn' z1 z2 xb.v.suite ⟨e1, dd, e2⟩ F1 _ H1 (E3.setV (R := rErr al d f R) ⟨rfl, dd, v, e2, upd_same, p⟩)
end
end L3
/-! U, part j: instances, what defs promise, calls. -/
namespace L3
open PySem PySem.Spec PyProof.Rows L2
variable {T : Tx}
/-! ### instances -/
theorem fld_so {F : Hp} {f : Str} {v : Val} : ∀ {xs : List (Str × V)} {fs : List (Str × Val)}, DtFld T F xs fs → fs.lookup f = some v → ∃ x, xs.lookup f = some x ∧ Dt T F x v
  | [], [], .nil, e => by cases e
  | (g, x) :: xs, _ :: fs, .cons h t, e => by
    rw [List.lookup_cons] at e ⊢
    by_cases z : f = g
    · have : (f == g) = true := by simp [z]
      rw [this] at e ⊢
      cases e
      exact ⟨x, rfl, h⟩
    · have : (f == g) = false := by simpa using z
      rw [this] at e ⊢
      exact fld_so t e
theorem fld_no {F : Hp} {f : Str} : ∀ {xs : List (Str × V)} {fs : List (Str × Val)}, DtFld T F xs fs → fs.lookup f = none → xs.lookup f = none
  | [], [], .nil, e => rfl
  | (g, x) :: xs, _ :: fs, .cons h t, e => by
    rw [List.lookup_cons] at e ⊢
    by_cases z : f = g
    · have : (f == g) = true := by simp [z]
      rw [this] at e
      cases e
    · have : (f == g) = false := by simpa using z
      rw [this] at e ⊢
      exact fld_no t e
theorem fld_len {F : Hp} : ∀ {xs : List (Str × V)} {fs : List (Str × Val)}, DtFld T F xs fs → xs.length = fs.length
  | [], [], .nil => rfl
  | _ :: xs, _ :: fs, .cons h t => by rw [List.length_cons, List.length_cons, fld_len t]
/-- o.f = v: the last value stands in the place of the first -/
def setF (f : Str) (v : Val) : List (Str × Val) → List (Str × Val)
  | [] => [(f, v)]
  | (g, u) :: fs => if f = g then (g, v) :: fs else (g, u) :: setF f v fs
theorem fld_put {F : Hp} {f : Str} {x : V} {v : Val} (p : Dt T F x v) : ∀ {xs : List (Str × V)} {fs : List (Str × Val)}, DtFld T F xs fs → DtFld T F (putF f x xs) (setF f v fs)
  | [], [], .nil => .cons p .nil
  | (g, y) :: xs, _ :: fs, .cons h t => by
    unfold putF setF
    by_cases z : f = g
    · subst z
      simp
      exact .cons p t
    · have z' : ¬ g = f := fun e => z e.symm
      simp [z, z']
      exact .cons h (fld_put p t)
/-- the instance at z that is being made -/
def cZ (T : Tx) (z : Addr) (C : Str) (fs : List (Str × Val)) : Cp where
  C := fun l fp H F _ => fp = [l] ∧ l = z ∧ ∃ dx xs, H l = some (.ins (He.ga T.K C) dx xs) ∧ DtFld T F xs fs
  mono := fun f _ k ⟨e, lz, dx, xs, h, q⟩ => ⟨e, lz, dx, xs, by subst e; rw [k _ List.mem_cons_self]; exact h, dtFld_same f _ _ q⟩
  there := fun ⟨e, _, dx, xs, h, _⟩ a ha => by
    subst e
    rw [List.mem_singleton] at ha
    subst ha
    exact ⟨_, h, fun _ z => nomatch z⟩
  det := fun _ ⟨e, _⟩ ⟨e', _⟩ => e'.trans e.symm
/-- .. frozen -/
def rZ (T : Tx) (z : Addr) (v : Val) : Rp := ⟨fun x F _ _ => x = .ref z ∧ Dt T F x v, fun f _ _ ⟨e, h⟩ => ⟨e, dt_same f _ _ h⟩⟩
instance {z : Addr} {v : Val} : Fz (rZ T z v) := ⟨fun h => h⟩
section
variable {X : Cx} {N : List Str} {nm : List (Str × NameKind)} {k : Nat} {W : Wd} {D : Ends} {gh : Gh} {Γ Γ' : List Sl} {ss : List Stmt} {e o : Expr} {es : List Expr} {pos p apos np : Pos} {Rs : List Rp} {R : Rp} {C : Str} {fs : List (Str × Val)} {z : Addr} {x m at_ : Str} {xk : Xk} {u v : Val}
theorem ev_zd (h : Ev X Γ e (rZ T z v)) : Ev X Γ e (rD T v) := ev_imp h fun _ _ _ _ _ _ p => p.2
theorem insOf (h : fs.lookup m = none) (hK : X.K = T.K := by rfl) : InsOf (hV T (.obj C fs)) (He.ga X.K C) m := fun v F G H f g ⟨a, dx, xs, e, q, p⟩ => ⟨a, dx, xs, e, by rw [hK]; exact q, fld_no p h⟩
/-- an attribute -/
theorem ev_at (ho : Ev X Γ o (hV T (.obj C fs))) (c : Cls X.K (He.ga X.K C)) (n : NoAttr X.K (He.ga X.K C) at_) (hl : fs.lookup at_ = some u) (hK : X.K = T.K := by rfl) (hb : attributeBase o at_ X.env (eval o X.env) = eval o X.env := by rfl) : Ev X Γ (.Attribute o at_ pos) (rD T u) :=
  ev_fld ho c n (fun v F G H f g ⟨a, dx, xs, e, q, p⟩ => by
    obtain ⟨y, hy, py⟩ := fld_so p hl
    exact ⟨a, dx, xs, y, e, by rw [hK]; exact q, hy, py⟩) hb
/-- .. of the one that is being made -/
theorem ev_atZ (xv : XV X N nm) (i : Nat) (c : Cls X.K (He.ga X.K C)) (n : NoAttr X.K (He.ga X.K C) at_) (hl : fs.lookup at_ = some u) (hi : Γ[i]? = some (.ow (cZ T z C fs)) := by rfl) (hN : N[i]? = some x := by rfl) (hK : X.K = T.K := by rfl) (hv : visB nm x = true := by decide +kernel) (hd : (x == ("__debug__" : Str)) = false := by decide +kernel)
    (hcd : (x == ("__classdict__" : Str)) = false := by decide +kernel) (hb : attributeBase (.Name x np) at_ X.env (eval (.Name x np) X.env) = eval (.Name x np) X.env := by rfl) : Ev X Γ (.Attribute (.Name x np) at_ pos) (rD T u) := fun W gh σ F G H E Q q =>
  EW.of (pe_fld (pe_var (xv.at_ hN) (xv.vis hv) hd hcd) hb) (by
    obtain ⟨fp, ow, _⟩ := E.ow
    obtain ⟨l, e1, gn, ef, lz, dx, xs, eo, pv⟩ := ow i _ hi
    obtain ⟨y, hy, py⟩ := fld_so pv hl
    exact ⟨_, e1, l, He.ga X.K C, dx, xs, y, rfl, by rw [hK]; exact eo, c, n, hy, q y F G H E (Gr.refl _ _ _) py⟩)
/-- self.f = e -/
theorem blk_fld (xb : XB X N nm k) (i : Nat) (h : Ev X Γ e (rD T v)) (c : Cls X.K (He.ga X.K C)) (n : NoAttr X.K (He.ga X.K C) at_) (t : Blk X W D gh (Γ.set i (.ow (cZ T z C (setF at_ v fs)))) ss) (hi : Γ[i]? = some (.ow (cZ T z C fs)) := by rfl) (hlt : fs.length < 1000 := by exact Nat.le_of_ble_eq_true rfl) (hN : N[i]? = some x := by rfl) (hK : X.K = T.K := by rfl)
    (hv : visB nm x = true := by decide +kernel) (hd : (x == ("__debug__" : Str)) = false := by decide +kernel) (hcd : (x == ("__classdict__" : Str)) = false := by decide +kernel)
    (hs : swapsWith e (some (.Attribute (.Name x np) at_ p)) pos.line X.env = pure false := by rfl) : Blk X W D gh Γ (.Assign [.Attribute (.Name x np) at_ p] e pos :: ss) :=
  blk_ps (ps_fld (pe_var (xb.at_ hN) (xb.v.vis hv) hd hcd) pe_w hs) fun σ F G H E => h W gh σ F G H E _ fun v F' G' H' E' x0 p1 => by
    obtain ⟨fp, ow, _⟩ := E'.ow
    obtain ⟨l, e1, gn, ef, lz, dx, xs, eo, pv⟩ := ow i _ hi
    refine ⟨_, e1, l, He.ga X.K C, dx, xs, rfl, by rw [hK]; exact eo, c, n, by rw [fld_len pv]; exact hlt, ?_⟩
    exact t σ F' G' _ (E'.mut hi fun l' fo e2 q gq => by
      rw [e1] at e2
      cases e2
      obtain ⟨ef', _⟩ := q
      subst ef'
      exact ⟨List.mem_cons_self, rfl, lz, dx, _, by rw [hK]; exact upd_same, fld_put p1 pv⟩)
/-- the instance that is being made is frozen (no statement) -/
theorem blk_frzZ (i : Nat) (hi : Γ[i]? = some (.ow (cZ T z C fs))) (t : Blk X W D gh (Γ.set i (vl (rZ T z (.obj C fs)))) ss) : Blk X W D gh Γ ss := fun σ F G H E => by
  obtain ⟨fp, ow, hd⟩ := E.ow
  obtain ⟨l, e1, gn, ef, lz, dx, xs, eo, pv⟩ := ow i _ hi
  subst lz
  have gl : G l = none := gn l (by rw [ef]; exact List.mem_cons_self)
  have fl := E.fg.free gl
  have E1 : En W gh (Γ.set i .no) σ F G H := E.imp (by rw [List.length_set]) fun j a b ea eb => by
    by_cases y : i = j
    · subst y
      rw [List.getElem?_set] at eb
      simp only [if_true] at eb
      split at eb
      · injection eb with eb
        subst eb
        exact .no a
      · cases eb
    · rw [List.getElem?_set_ne y, ea] at eb
      injection eb with eb
      subst eb
      exact .refl a
  have E2 := E1.freeze eo gl fun j C' m fo ej e2 q hp => by
    by_cases y : i = j
    · subst y
      rw [List.getElem?_set] at ej
      simp at ej
    · rw [List.getElem?_set_ne y] at ej
      obtain ⟨m', e3, _, q'⟩ := ow j C' ej
      rw [e2] at e3
      cases e3
      rw [C'.det (Same.refl _) q' q] at hp
      exact hd i j _ C' l y hi ej (by rw [ef]; exact List.mem_cons_self) hp
  have E3 := E2.setV (i := i) (R := rZ T l (.obj C fs)) (h := inferInstance) (v := .ref l) ⟨rfl, .obj upd_same (dtFld_same (same_upd fl) _ _ pv)⟩
  rw [List.set_set] at E3
  have es : σ.set i (some (V.ref l)) = σ := by
    refine List.ext_getElem? fun j => ?_
    by_cases y : i = j
    · subst y
      rw [e1, List.getElem?_set_self (List.getElem?_eq_some_iff.mp e1).1]
    · rw [List.getElem?_set_ne y]
  rw [es] at E3
  exact t σ _ _ H E3
end
end L3
/-! U, part m: what defs promise; calls; the bodies' starts. -/
namespace L3
open PySem PySem.Spec PyProof.Rows L2
variable {T : Tx}
/-! ### __init__ -/
/-- what a call C(..) lays ahead of __init__ -/
structure MkAt (C : Addr) (Rs : List Rp) (vs : List V) (H F H0 : Hp) (a dx : Addr) (ws : List V) : Prop where
  vs : vs = .ref a :: ws
  fh : Same F H0
  ha : H0 a = none
  hd : H0 dx = none
  ne : dx ≠ a
  hH : H = upd (upd H0 dx (.own a)) a (.ins C dx [])
  args : argsP Rs ws F H0
/-- what is raised, in the heap -/
def xkOf (T : Tx) (x : Xv) : Xk := match x.fld with
  | none => .bare (He.ga T.K x.cls)
  | some (f, v) => .with_ (He.ga T.K x.cls) f (rD T v)
/-- hands back a value, or raises, as m says -/
def spU (T : Tx) (As : List Rp) (m : Rs Val) : Sp := fun vs H Q E => ∃ F, Same F H ∧ argsP As vs F H ∧ m.ho (fun v => ∀ x F1 H1, Ext F H F1 H1 → Dt T F1 x v → Q x H1) (fun x => (xkOf T x).Wish F H E)
/-- .. a new thing -/
def spW (T : Tx) (As : List Rp) (m : Rs Val) : Sp := fun vs H Q E => ∃ F, Same F H ∧ argsP As vs F H ∧ m.ho (fun v => ∀ l fo F1 H1, Ext F H F1 H1 → (∀ a ∈ fo, H a = none ∧ F1 a = none) → (cV T v).C l fo H1 F1 F1 → Q (.ref l) H1) (fun x => (xkOf T x).Wish F H E)
/-- __init__: makes the instance v -/
def spI (T : Tx) (C : Str) (As : List Rp) (m : Rs Val) : Sp := fun vs H Q E => ∃ F H0 a dx ws, MkAt (He.ga T.K C) As vs H F H0 a dx ws ∧ m.ho (fun v => ∀ F1 H1, Ext F H0 F1 H1 → Dt T F1 (.ref a) v → Q .non H1) (fun x => (xkOf T x).Wish F H0 E)
def spMkX (C : Addr) (Rs : List Rp) (xk : Xk) : Sp := fun vs H _ E => ∃ F H0 a dx ws, MkAt C Rs vs H F H0 a dx ws ∧ xk.Wish F H0 E
def spMk (C : Addr) (Rs : List Rp) (R : Rp) : Sp := fun vs H Q _ => ∃ F H0 a dx ws, MkAt C Rs vs H F H0 a dx ws ∧ ∀ F1 H1, Ext F H0 F1 H1 → R.P (.ref a) F1 F1 F1 → Q .non H1
section
variable {X : Cx} {N : List Str} {nm : List (Str × NameKind)} {k : Nat} {W : Wd} {D : Ends} {gh : Gh} {Γ Γ' : List Sl} {ss : List Stmt} {e o : Expr} {es : List Expr} {pos p apos np : Pos} {Rs : List Rp} {R : Rp} {f C z : Addr} {fd : FuncData} {ps : List Str} {x m at_ : Str} {xk : Xk}
theorem ev_make (M : Mk X.K C f) (F : FnOk X.prog X.w X.K X.mg X.base (CL X) k f fd ps (spMk C Rs R)) (hr : Room (k + 1) X.A) (hg : Gl X x) (hm : X.mg x = some (.ref C)) (hb : Binds X.K fd ps []) (ha : EvA X Γ (e :: es) Rs)
    (hdb : (x == ("__debug__" : Str)) = false := by decide +kernel) (he : starEach (e :: es) X.env = (false, eval e X.env) :: starEach es X.env := by rfl) (hpl : (backTo pos (starEach es X.env)).any (·.1) = false := by rfl) : Ev X Γ (.Call (.Name x p) (e :: es) [] pos) R := fun W gh σ F0 G H E Q q =>
  EW.of (pe_make M F hr hg hm hb .nil passL pa_w hdb he hpl) (ha W gh σ F0 G H E _ fun vs F' G' H' E' x' pa a dx ha hd ne => by
    rw [List.append_nil]
    refine ⟨F', H', a, dx, vs, ⟨rfl, E'.fg.trans E'.gH, ha, hd, ne, rfl, paired_mono (Same.refl _) E'.gH (Same.refl _) pa⟩, fun F1 H1 x1 pv => ⟨rfl, ?_⟩⟩
    obtain ⟨G1, gg, fg, _, E1⟩ := E'.ext x1
    exact q _ F1 G1 H1 E1 (x'.trans gg) (R.mono (Same.refl _) fg x1.fh pv))
/-- .. what is raised is wished for at the slots -/
theorem pe_makeT {CX : CXT} {sp : Sp} {t : TA} {E : L2.St → XK} (M : Mk X.K C f) (F : FnOk X.prog X.w X.K X.mg X.base CX k f fd ps sp) (hr : Room (k + 1) X.A) (hg : Gl X x) (hm : X.mg x = some (.ref C)) (hb : Binds X.K fd ps []) (hx : ∀ σ, PassesAt CX X σ (E σ)) (ha : PA X (e :: es) t)
    (hdb : (x == ("__debug__" : Str)) = false := by decide +kernel) (he : starEach (e :: es) X.env = (false, eval e X.env) :: starEach es X.env := by rfl) (hpl : (backTo pos (starEach es X.env)).any (·.1) = false := by rfl) :
    PE X (.Call (.Name x p) (e :: es) [] pos) (fun σ H Q => t σ H fun vs H1 => ∀ a dx, H1 a = none → H1 dx = none → dx ≠ a → sp (.ref a :: vs) (upd (upd H1 dx (.own a)) a (.ins C dx [])) (fun v H2 => v = .non ∧ Q (.ref a) H2) (E σ)) := ⟨fun pins s σ H Q I h =>
  wpAny_Call_Name_kw (ld_glob I hg hm (PySem.W.callWith_K (h₀ := X.base) I.ok.mod.kin M.kp (thn (ha.run pos pins s σ H _ I h) fun us s1 ⟨vs, H1, I1, r, q⟩ => ⟨I1.kIn, by
    have fr1 : H1 s1.heap.objs.size = none := I1.hok.fresh (Nat.le_refl _)
    have fr2 : H1 (s1.heap.objs.size + 1) = none := I1.hok.fresh (Nat.le_succ _)
    have hq := q (s1.heap.objs.size + 1) s1.heap.objs.size fr2 fr1 (Nat.ne_of_lt (Nat.lt_succ_self _))
    have J := Inv.made (C := C) I1
    have rr : Vals (V.ref (s1.heap.objs.size + 1) :: vs) (Value.ref (s1.heap.objs.size + 1) :: us) := .cons rfl r
    have hl : (Value.ref (s1.heap.objs.size + 1) :: us).length = ps.length := rr.length.symm.trans (F.len _ _ _ _ hq)
    have hb' := hb _ (Value.ref (s1.heap.objs.size + 1) :: us) J.kIn (by rw [List.append_nil]; exact hl)
    rw [List.append_nil] at hb'
    refine wpAny_call (make_map (f := f) I1.kIn M.makes M.init (beq_iff_eq.mp M.fn) (codeAny_mono (F.run _ X.stack _ _ ⟨Value.ref (s1.heap.objs.size + 1) :: us, []⟩ (Value.ref (s1.heap.objs.size + 1) :: us) _ _ (E σ) (hr.make C us []) (J.env0.make C us []) hb' rr hq) fun r s' hq' => ?_))
    cases r with
    | error u => exact hx σ pins _ _ u s' J hq'
    | ok fl =>
      cases fl with
      | ret u =>
        obtain ⟨v, H', I3, rv, ev, q3⟩ := J.after hq'
        subst ev
        exact ⟨rv, V.ref (s1.heap.objs.size + 1), H', I3, rfl, q3⟩
      | next => exact False.elim hq'
      | brk => exact False.elim hq'
      | cont => exact False.elim hq'⟩) he hpl) hdb)⟩
theorem evx_make (M : Mk X.K C f) (F : FnOk X.prog X.w X.K X.mg X.base (CL X) k f fd ps (spMkX C Rs xk)) (hr : Room (k + 1) X.A) (hg : Gl X x) (hm : X.mg x = some (.ref C)) (hb : Binds X.K fd ps []) (ha : EvA X Γ (e :: es) Rs)
    (hdb : (x == ("__debug__" : Str)) = false := by decide +kernel) (he : starEach (e :: es) X.env = (false, eval e X.env) :: starEach es X.env := by rfl) (hpl : (backTo pos (starEach es X.env)).any (·.1) = false := by rfl) : EvX X Γ (.Call (.Name x p) (e :: es) [] pos) xk := fun W gh σ F0 G H E Wx tk q Q =>
  EW.of (pe_makeT M F hr hg hm hb (fun σ => passAt tk σ) pa_w hdb he hpl) (ha W gh σ F0 G H E _ fun vs F' G' H' E' x' pa a dx ha hd ne =>
    ⟨F', H', a, dx, vs, ⟨rfl, E'.fg.trans E'.gH, ha, hd, ne, rfl, paired_mono (Same.refl _) E'.gH (Same.refl _) pa⟩, q F' G' H' E' x'⟩)
end
section
variable {P : Program} {w : World} {K : PySem.W.Frag} {mg : Str → Option Value} {base : Heap}
def rAny : Rp := ⟨fun _ _ _ _ => True, fun _ _ _ _ => trivial⟩
instance : Fz rAny := ⟨fun h => h⟩
theorem en_make {N : List Str} {C : Str} {Rs : List Rp} {l : List Sl} {vs : List V} {F H0 H : Hp} {a dx : Addr} {ws : List V} {n : Nat} (sa : StAll Rs l) (hn : N.length = l.length + 1 + n) (h : MkAt (He.ga T.K C) Rs vs H F H0 a dx ws) : En ⟨F, upd H0 dx (.own a)⟩ .tt (.ow (cZ T a C []) :: (l ++ List.replicate n .no)) (L2.start N vs) F (upd H0 dx (.own a)) H := by
  obtain ⟨hvs, fh, ha, hd, ne, hH, pa⟩ := h
  subst hvs hH
  have s0 : Same H0 (upd H0 dx (.own a)) := same_upd hd
  have f0 : Same F (upd H0 dx (.own a)) := fh.trans s0
  have pa' : argsP (rAny :: Rs) (.ref a :: ws) F (upd H0 dx (.own a)) := .cons trivial (paired_mono (Same.refl _) s0 s0 pa)
  have E := en_start (n := n) (StAll.cons (R := rAny) sa) (N := N) (by rw [List.length_cons]; exact hn) f0 pa'
  have hna : (upd H0 dx (.own a)) a = none := by rw [upd_ne (fun z => ne z.symm)]; exact ha
  have E1 := E.new (o := .ins (He.ga T.K C) dx []) hna
  have E2 := E1.setO (i := 0) (C := cZ T a C []) (l := a) (fo := [a]) (fun b hb => by rw [List.mem_singleton] at hb; subst hb; exact hna) ⟨rfl, rfl, dx, [], upd_same, .nil⟩ fun j C' m fo' _ e e1 q b hb => by
    rw [List.mem_singleton] at hb
    subst hb
    exact E.notOwn (same_upd hna) hna j C' m fo' e e1 q
  exact E2
theorem ext_own {F H0 F1 H1 : Hp} {a dx : Addr} (hd : H0 dx = none) (x : Ext F (upd H0 dx (.own a)) F1 H1) : Ext F H0 F1 H1 := ⟨x.f, (same_upd hd).trans x.h, x.fh, fun c o e => by
  rcases x.gr c o e with y | y | ⟨xs, y⟩
  · exact .inl y
  · exact .inr (.inl ((same_upd hd).free y))
  · by_cases z : c = dx
    · subst z
      exact .inr (.inl hd)
    · rw [upd_ne z] at y
      exact .inr (.inr ⟨xs, y⟩)⟩
end
/-- a def of the module: how it is called, what it promises -/
structure Dfk (P : Program) (w : World) (K : PySem.W.Frag) (mg : Str → Option Value) (base : Heap) (x : Str) (j : Nat) (sp : Sp) : Prop where
  ex : ∃ f fd ps, mg x = some (.ref f) ∧ PySem.W.keepIn K (.ref f) = true ∧ Binds K fd ps [] ∧ FnOk P w K mg base (L2.CX P w) j f fd ps sp
/-- a method -/
structure Mtk (P : Program) (w : World) (K : PySem.W.Frag) (mg : Str → Option Value) (base : Heap) (C : Addr) (m : Str) (j : Nat) (sp : Sp) : Prop where
  ex : ∃ f fd ps, Cls K C ∧ Meth K C m f ∧ Binds K fd ps [] ∧ FnOk P w K mg base (L2.CX P w) j f fd ps sp
/-- a property -/
structure Prk (P : Program) (w : World) (K : PySem.W.Frag) (mg : Str → Option Value) (base : Heap) (C : Addr) (m : Str) (j : Nat) (sp : Sp) : Prop where
  ex : ∃ p f fd ps, Cls K C ∧ PropOf K C m p f ∧ Binds K fd ps [] ∧ FnOk P w K mg base (L2.CX P w) j f fd ps sp
/-- a class that is called -/
structure Mkk (P : Program) (w : World) (K : PySem.W.Frag) (mg : Str → Option Value) (base : Heap) (x : Str) (C : Addr) (j : Nat) (sp : Sp) : Prop where
  ex : ∃ f fd ps, mg x = some (.ref C) ∧ Mk K C f ∧ Binds K fd ps [] ∧ FnOk P w K mg base (L2.CX P w) j f fd ps sp
section
variable {X : Cx} {N : List Str} {nm : List (Str × NameKind)} {k j : Nat} {Γ : List Sl} {e o a : Expr} {es : List Expr} {pos p apos : Pos} {Rs : List Rp} {Ro R : Rp} {Cc : Cp} {xk : Xk} {C : Addr} {x m : Str}
theorem ev_c (xc : XC X N nm k) (d : Dfk X.prog X.w X.K X.mg X.base x j (spV Rs R)) (ha : EvA X Γ (e :: es) Rs) (hj : j ≤ k := by decide) (hg : gloB nm x = true := by decide +kernel)
    (hdb : (x == ("__debug__" : Str)) = false := by decide +kernel) (he : starEach (e :: es) X.env = (false, eval e X.env) :: starEach es X.env := by rfl) (hpl : (backTo pos (starEach es X.env)).any (·.1) = false := by rfl) : Ev X Γ (.Call (.Name x p) (e :: es) [] pos) R := by
  obtain ⟨f, fd, ps, h1, h2, h3, h4⟩ := d.ex
  exact ev_call h4 (xc.room.mono hj) (xc.toXV.gl hg) h1 h2 h3 ha hdb he hpl
theorem evo_c (xc : XC X N nm k) (d : Dfk X.prog X.w X.K X.mg X.base x j (spO Rs Cc)) (ha : EvA X Γ (e :: es) Rs) (hj : j ≤ k := by decide) (hg : gloB nm x = true := by decide +kernel)
    (hdb : (x == ("__debug__" : Str)) = false := by decide +kernel) (he : starEach (e :: es) X.env = (false, eval e X.env) :: starEach es X.env := by rfl) (hpl : (backTo pos (starEach es X.env)).any (·.1) = false := by rfl) : EvO X Γ (.Call (.Name x p) (e :: es) [] pos) Cc := by
  obtain ⟨f, fd, ps, h1, h2, h3, h4⟩ := d.ex
  exact evo_call h4 (xc.room.mono hj) (xc.toXV.gl hg) h1 h2 h3 ha hdb he hpl
theorem evx_c (xc : XC X N nm k) (d : Dfk X.prog X.w X.K X.mg X.base x j (spR Rs xk)) (ha : EvA X Γ (e :: es) Rs) (hj : j ≤ k := by decide) (hg : gloB nm x = true := by decide +kernel)
    (hdb : (x == ("__debug__" : Str)) = false := by decide +kernel) (he : starEach (e :: es) X.env = (false, eval e X.env) :: starEach es X.env := by rfl) (hpl : (backTo pos (starEach es X.env)).any (·.1) = false := by rfl) : EvX X Γ (.Call (.Name x p) (e :: es) [] pos) xk := by
  obtain ⟨f, fd, ps, h1, h2, h3, h4⟩ := d.ex
  exact evx_call h4 (xc.room.mono hj) (xc.toXV.gl hg) h1 h2 h3 ha hdb he hpl
theorem ev_m {pl : Sem Bool} (xc : XC X N nm k) (ho : Ev X Γ o Ro) (hi : InsOf Ro C m) (d : Mtk X.prog X.w X.K X.mg X.base C m j (spV (Ro :: Rs) R)) (ha : EvA X Γ (e :: es) Rs) (hj : j ≤ k := by decide)
    (hst : starEach (e :: es) X.env = (false, eval e X.env) :: starEach es X.env := by rfl) (hpl : (backTo pos (starEach es X.env)).any (·.1) = false := by rfl)
    (ht : eval (.Call (.Attribute o m apos) (e :: es) [] pos) X.env = (do
      let ov ← eval o X.env
      standAt apos.atName
      let (f, first) ← holding [ov] (getMethod ov m pl)
      callWith pos f first (backTo pos (starEach (e :: es) X.env)) (backToKw pos (keywordEach [] X.env))) := by rfl) : Ev X Γ (.Call (.Attribute o m apos) (e :: es) [] pos) R := by
  obtain ⟨f, fd, ps, h1, h2, h3, h4⟩ := d.ex
  exact ev_meth ho hi h1 h2 h4 (xc.room.mono hj) h3 ha hst hpl ht
theorem evo_m {pl : Sem Bool} (xc : XC X N nm k) (ho : Ev X Γ o Ro) (hi : InsOf Ro C m) (d : Mtk X.prog X.w X.K X.mg X.base C m j (spO (Ro :: Rs) Cc)) (ha : EvA X Γ (e :: es) Rs) (hj : j ≤ k := by decide)
    (hst : starEach (e :: es) X.env = (false, eval e X.env) :: starEach es X.env := by rfl) (hpl : (backTo pos (starEach es X.env)).any (·.1) = false := by rfl)
    (ht : eval (.Call (.Attribute o m apos) (e :: es) [] pos) X.env = (do
      let ov ← eval o X.env
      standAt apos.atName
      let (f, first) ← holding [ov] (getMethod ov m pl)
      callWith pos f first (backTo pos (starEach (e :: es) X.env)) (backToKw pos (keywordEach [] X.env))) := by rfl) : EvO X Γ (.Call (.Attribute o m apos) (e :: es) [] pos) Cc := by
  obtain ⟨f, fd, ps, h1, h2, h3, h4⟩ := d.ex
  exact evo_meth ho hi h1 h2 h4 (xc.room.mono hj) h3 ha hst hpl ht
theorem evx_m {pl : Sem Bool} (xc : XC X N nm k) (ho : Ev X Γ o Ro) (hi : InsOf Ro C m) (d : Mtk X.prog X.w X.K X.mg X.base C m j (spR (Ro :: Rs) xk)) (ha : EvA X Γ (e :: es) Rs) (hj : j ≤ k := by decide)
    (hst : starEach (e :: es) X.env = (false, eval e X.env) :: starEach es X.env := by rfl) (hpl : (backTo pos (starEach es X.env)).any (·.1) = false := by rfl)
    (ht : eval (.Call (.Attribute o m apos) (e :: es) [] pos) X.env = (do
      let ov ← eval o X.env
      standAt apos.atName
      let (f, first) ← holding [ov] (getMethod ov m pl)
      callWith pos f first (backTo pos (starEach (e :: es) X.env)) (backToKw pos (keywordEach [] X.env))) := by rfl) : EvX X Γ (.Call (.Attribute o m apos) (e :: es) [] pos) xk := by
  obtain ⟨f, fd, ps, h1, h2, h3, h4⟩ := d.ex
  exact evx_meth ho hi h1 h2 h4 (xc.room.mono hj) h3 ha hst hpl ht
theorem ev_m0 {pl : Sem Bool} (xc : XC X N nm k) (ho : Ev X Γ o Ro) (hi : InsOf Ro C m) (d : Mtk X.prog X.w X.K X.mg X.base C m j (spV [Ro] R)) (hj : j ≤ k := by decide)
    (ht : eval (.Call (.Attribute o m apos) [] [] pos) X.env = (do
      let ov ← eval o X.env
      standAt apos.atName
      let (f, first) ← holding [ov] (getMethod ov m pl)
      callWith pos f first (backTo pos (starEach [] X.env)) (backToKw pos (keywordEach [] X.env))) := by rfl) : Ev X Γ (.Call (.Attribute o m apos) [] [] pos) R := by
  obtain ⟨f, fd, ps, h1, h2, h3, h4⟩ := d.ex
  exact ev_meth0 ho hi h1 h2 h4 (xc.room.mono hj) h3 ht
theorem evo_m0 {pl : Sem Bool} (xc : XC X N nm k) (ho : Ev X Γ o Ro) (hi : InsOf Ro C m) (d : Mtk X.prog X.w X.K X.mg X.base C m j (spO [Ro] Cc)) (hj : j ≤ k := by decide)
    (ht : eval (.Call (.Attribute o m apos) [] [] pos) X.env = (do
      let ov ← eval o X.env
      standAt apos.atName
      let (f, first) ← holding [ov] (getMethod ov m pl)
      callWith pos f first (backTo pos (starEach [] X.env)) (backToKw pos (keywordEach [] X.env))) := by rfl) : EvO X Γ (.Call (.Attribute o m apos) [] [] pos) Cc := by
  obtain ⟨f, fd, ps, h1, h2, h3, h4⟩ := d.ex
  exact evo_meth0 ho hi h1 h2 h4 (xc.room.mono hj) h3 ht
theorem ev_p (xc : XC X N nm k) (ho : Ev X Γ o Ro) (hi : InsOf Ro C "") (d : Prk X.prog X.w X.K X.mg X.base C m j (spV [Ro] R)) (hj : j + 1 ≤ k := by decide) (hab : attributeBase o m X.env (eval o X.env) = eval o X.env := by rfl) : Ev X Γ (.Attribute o m pos) R := by
  obtain ⟨pa, f, fd, ps, h1, h2, h3, h4⟩ := d.ex
  exact ev_prop ho hi h1 h2 h4 (xc.room.mono hj) h3 hab
theorem evo_p (xc : XC X N nm k) (ho : Ev X Γ o Ro) (hi : InsOf Ro C "") (d : Prk X.prog X.w X.K X.mg X.base C m j (spO [Ro] Cc)) (hj : j + 1 ≤ k := by decide) (hab : attributeBase o m X.env (eval o X.env) = eval o X.env := by rfl) : EvO X Γ (.Attribute o m pos) Cc := by
  obtain ⟨pa, f, fd, ps, h1, h2, h3, h4⟩ := d.ex
  exact evo_prop ho hi h1 h2 h4 (xc.room.mono hj) h3 hab
theorem ev_mk (xc : XC X N nm k) (d : Mkk X.prog X.w X.K X.mg X.base x C j (spMk C Rs R)) (ha : EvA X Γ (e :: es) Rs) (hj : j + 1 ≤ k := by decide) (hg : gloB nm x = true := by decide +kernel)
    (hdb : (x == ("__debug__" : Str)) = false := by decide +kernel) (he : starEach (e :: es) X.env = (false, eval e X.env) :: starEach es X.env := by rfl) (hpl : (backTo pos (starEach es X.env)).any (·.1) = false := by rfl) : Ev X Γ (.Call (.Name x p) (e :: es) [] pos) R := by
  obtain ⟨f, fd, ps, h1, h2, h3, h4⟩ := d.ex
  exact ev_make h2 h4 (xc.room.mono hj) (xc.toXV.gl hg) h1 h3 ha hdb he hpl
theorem evx_mk (xc : XC X N nm k) (d : Mkk X.prog X.w X.K X.mg X.base x C j (spMkX C Rs xk)) (ha : EvA X Γ (e :: es) Rs) (hj : j + 1 ≤ k := by decide) (hg : gloB nm x = true := by decide +kernel)
    (hdb : (x == ("__debug__" : Str)) = false := by decide +kernel) (he : starEach (e :: es) X.env = (false, eval e X.env) :: starEach es X.env := by rfl) (hpl : (backTo pos (starEach es X.env)).any (·.1) = false := by rfl) : EvX X Γ (.Call (.Name x p) (e :: es) [] pos) xk := by
  obtain ⟨f, fd, ps, h1, h2, h3, h4⟩ := d.ex
  exact evx_make h2 h4 (xc.room.mono hj) (xc.toXV.gl hg) h1 h3 ha hdb he hpl
end
/-! ### promises by outcomes -/
section
variable {P : Program} {w : World} {K : PySem.W.Frag} {mg : Str → Option Value} {base : Heap} {x : Str} {j : Nat} {C : Addr} {As : List Rp} {m : Rs Val} {v : Val} {xv : Xv}
theorem sp_ok (h : m = .ok v) : ∀ vs H Q E, spV As (rD T v) vs H Q E → spU T As m vs H Q E := fun vs H Q E ⟨F, f, a, q⟩ => ⟨F, f, a, by subst h; exact q⟩
theorem sp_err (h : m = .err xv) : ∀ vs H Q E, spR As (xkOf T xv) vs H Q E → spU T As m vs H Q E := fun vs H Q E ⟨F, f, a, q⟩ => ⟨F, f, a, by subst h; exact q⟩
theorem sp_okW (h : m = .ok v) : ∀ vs H Q E, spO As (cV T v) vs H Q E → spW T As m vs H Q E := fun vs H Q E ⟨F, f, a, q⟩ => ⟨F, f, a, by subst h; exact q⟩
theorem sp_errW (h : m = .err xv) : ∀ vs H Q E, spR As (xkOf T xv) vs H Q E → spW T As m vs H Q E := fun vs H Q E ⟨F, f, a, q⟩ => ⟨F, f, a, by subst h; exact q⟩
theorem sp_okI {C : Str} (h : m = .ok v) : ∀ vs H Q E, spMk (He.ga T.K C) As (rD T v) vs H Q E → spI T C As m vs H Q E := fun vs H Q E ⟨F, H0, a, dx, ws, k, q⟩ => ⟨F, H0, a, dx, ws, k, by subst h; exact q⟩
theorem sp_errI {C : Str} (h : m = .err xv) : ∀ vs H Q E, spMkX (He.ga T.K C) As (xkOf T xv) vs H Q E → spI T C As m vs H Q E := fun vs H Q E ⟨F, H0, a, dx, ws, k, q⟩ => ⟨F, H0, a, dx, ws, k, by subst h; exact q⟩
theorem Dfk.imp {sp sp' : Sp} (d : Dfk P w K mg base x j sp) (h : ∀ vs H Q E, sp' vs H Q E → sp vs H Q E) : Dfk P w K mg base x j sp' := let ⟨f, fd, ps, a, b, c, F⟩ := d.ex; ⟨⟨f, fd, ps, a, b, c, F.imp h⟩⟩
theorem Mtk.imp {sp sp' : Sp} (d : Mtk P w K mg base C x j sp) (h : ∀ vs H Q E, sp' vs H Q E → sp vs H Q E) : Mtk P w K mg base C x j sp' := let ⟨f, fd, ps, a, b, c, F⟩ := d.ex; ⟨⟨f, fd, ps, a, b, c, F.imp h⟩⟩
theorem Prk.imp {sp sp' : Sp} (d : Prk P w K mg base C x j sp) (h : ∀ vs H Q E, sp' vs H Q E → sp vs H Q E) : Prk P w K mg base C x j sp' := let ⟨p, f, fd, ps, a, b, c, F⟩ := d.ex; ⟨⟨p, f, fd, ps, a, b, c, F.imp h⟩⟩
theorem Mkk.imp {sp sp' : Sp} (d : Mkk P w K mg base x C j sp) (h : ∀ vs H Q E, sp' vs H Q E → sp vs H Q E) : Mkk P w K mg base x C j sp' := let ⟨f, fd, ps, a, b, c, F⟩ := d.ex; ⟨⟨f, fd, ps, a, b, c, F.imp h⟩⟩
end
/-! ### bodies -/
section
variable {P : Program} {w : World} {K : PySem.W.Frag} {mg : Str → Option Value} {base : Heap} {x qual : Str} {st : Stmt} {f : Addr} {fd : FuncData} {N ps : List Str} {k n : Nat} {As : List Rp} {l : List Sl} {m : Rs Val} {nm : List (Str × NameKind)}
/-- an error of that kind is wished for, wherever the worlds have grown to -/
def Zx (T : Tx) (X : Cx) (W : Wd) (x : Xv) : Prop := ∃ E, Tk X E ∧ (xkOf T x).Wish W.F0 W.H0 E
theorem fn_u (F : FunD K x qual (defArgs st) (defBody st) (defScope st) [] [] f fd) (S : FnScope N ps (defScope st)) (hnm : (defScope st).names = nm) (sa : StAll As l) (hp : ps.length = As.length) (hn : N.length = l.length + n)
    (hb : ∀ (X : Cx) (W : Wd) (D : Ends), X.prog = P → X.w = w → X.K = K → X.mg = mg → X.base = base → XB X N nm k → (D.nx = fun _ H' => D.rt .non H') → m.ho (fun v => RetV W D (rD T v)) (Zx T X W) → Blk X W D .tt (l ++ List.replicate n .no) (defBody st)) : FnOk P w K mg base (L2.CX P w) (k + 1) f fd ps (spU T As m) := by
  refine F.ok S (fun vs H Q E h => ?_) (fun cdv A outer s H vs Q E hr h => ?_)
  · obtain ⟨F0, _, ha, _⟩ := h
    rw [Paired.length ha, hp]
  · obtain ⟨F0, fh, ha, q⟩ := h
    exact ⟨_, pss_w, hb (cxOf (L2.CX P w) P w K mg base N qual (defScope st) f cdv A outer s H E) ⟨F0, H⟩ { nx := fun _ H' => Q .non H', rt := Q } rfl rfl rfl rfl rfl (xb_of S hnm hr) rfl (Rs.ho_mono q (fun v z => fun y F1 H1 x p => z y F1 H1 x p) fun x z => ⟨E, takes_of rfl rfl rfl rfl, z⟩) _ F0 H H (en_start sa hn fh ha)⟩
theorem fn_w (F : FunD K x qual (defArgs st) (defBody st) (defScope st) [] [] f fd) (S : FnScope N ps (defScope st)) (hnm : (defScope st).names = nm) (sa : StAll As l) (hp : ps.length = As.length) (hn : N.length = l.length + n)
    (hb : ∀ (X : Cx) (W : Wd) (D : Ends), X.prog = P → X.w = w → X.K = K → X.mg = mg → X.base = base → XB X N nm k → m.ho (fun v => RetO W D (cV T v)) (Zx T X W) → Blk X W D .tt (l ++ List.replicate n .no) (defBody st)) : FnOk P w K mg base (L2.CX P w) (k + 1) f fd ps (spW T As m) := by
  refine F.ok S (fun vs H Q E h => ?_) (fun cdv A outer s H vs Q E hr h => ?_)
  · obtain ⟨F0, _, ha, _⟩ := h
    rw [Paired.length ha, hp]
  · obtain ⟨F0, fh, ha, q⟩ := h
    exact ⟨_, pss_w, hb (cxOf (L2.CX P w) P w K mg base N qual (defScope st) f cdv A outer s H E) ⟨F0, H⟩ { nx := fun _ H' => Q .non H', rt := Q } rfl rfl rfl rfl rfl (xb_of S hnm hr) (Rs.ho_mono q (fun v z => fun l fo F1 H1 x h1 p => z l fo F1 H1 x h1 p) fun x z => ⟨E, takes_of rfl rfl rfl rfl, z⟩) _ F0 H H (en_start sa hn fh ha)⟩
/-- what the end of an __init__ must show -/
def RetI (T : Tx) (W : Wd) (D : Ends) (z : Addr) (v : Val) : Prop := ∀ σ F1 H1, Ext W.F0 W.H0 F1 H1 → Dt T F1 (.ref z) v → D.nx σ H1
theorem xk_own {F H0 : Hp} {a dx : Addr} {E : XK} {xk : Xk} (hd : H0 dx = none) (q : xk.Wish F H0 E) : xk.Wish F (upd H0 dx (.own a)) E := by
  cases xk with
  | bare C => exact fun F1 H1 x => q F1 H1 (ext_own hd x)
  | with_ C f R => exact fun d v F1 H1 x hd' fd hx p => q d v F1 H1 (ext_own hd x) ((same_upd hd).free hd') fd hx p
theorem fn_i {C : Str} (F : FunD K x qual (defArgs st) (defBody st) (defScope st) [] [] f fd) (S : FnScope N ps (defScope st)) (hnm : (defScope st).names = nm) (sa : StAll As l) (hp : ps.length = As.length + 1) (hn : N.length = l.length + 1 + n)
    (hb : ∀ (X : Cx) (W : Wd) (D : Ends) (a : Addr), X.prog = P → X.w = w → X.K = K → X.mg = mg → X.base = base → XB X N nm k → m.ho (RetI T W D a) (Zx T X W) → Blk X W D .tt (.ow (cZ T a C []) :: (l ++ List.replicate n .no)) (defBody st)) : FnOk P w K mg base (L2.CX P w) (k + 1) f fd ps (spI T C As m) := by
  refine F.ok S (fun vs H Q E h => ?_) (fun cdv A outer s H vs Q E hr h => ?_)
  · obtain ⟨F0, H0, a, dx, ws, mk, _⟩ := h
    rw [mk.vs, List.length_cons, Paired.length mk.args, hp]
  · obtain ⟨F0, H0, a, dx, ws, mk, q⟩ := h
    exact ⟨_, pss_w, hb (cxOf (L2.CX P w) P w K mg base N qual (defScope st) f cdv A outer s H E) ⟨F0, upd H0 dx (.own a)⟩ { nx := fun _ H' => Q .non H', rt := Q } a rfl rfl rfl rfl rfl (xb_of S hnm hr) (Rs.ho_mono q (fun v z => fun σ F1 H1 x p => z F1 H1 (ext_own mk.hd x) p) fun x z => ⟨E, takes_of rfl rfl rfl rfl, xk_own mk.hd z⟩) _ F0 _ H (en_make sa hn mk)⟩
end
end L3
/-! U, part p: expressions and blocks by outcomes. -/
namespace L3
open PySem PySem.Spec PyProof.Rows L2
variable {T : Tx} {X : Cx} {N : List Str} {nm : List (Str × NameKind)} {k j : Nat} {W : Wd} {D : Ends} {gh : Gh} {Γ Γ' : List Sl} {ss sa sb : List Stmt} {a b c e o tg it : Expr} {es : List Expr} {pos p apos np rp cp : Pos}
variable {α β υ τ : Type}
/-! ### the judgements -/
/-- where m hands back v, e stands for R v -/
def EvM (X : Cx) (Γ : List Sl) (e : Expr) (R : α → Rp) (m : Rs α) : Prop := ∀ v, m = .ok v → Ev X Γ e (R v)
def EoM (X : Cx) (Γ : List Sl) (e : Expr) (C : α → Cp) (m : Rs α) : Prop := ∀ v, m = .ok v → EvO X Γ e (C v)
def TvM (X : Cx) (Γ : List Sl) (e : Expr) (m : Rs Bool) : Prop := ∀ v, m = .ok v → Tv X Γ e v
def WvM (X : Cx) (Γ : List Sl) (e : Expr) (m : Rs Bool) : Prop := ∀ v, m = .ok v → Wv X Γ e v
/-- where m raises, e raises -/
def EvQ (T : Tx) (X : Cx) (Γ : List Sl) (e : Expr) (m : Rs α) : Prop := ∀ x, m = .err x → EvX X Γ e (xkOf T x)
theorem evp_ok {v : α} {R : α → Rp} (h : Ev X Γ e (R v)) : EvM X Γ e R (.ok v) := fun u q => by cases q; exact h
theorem evp_bind {Ra : α → Rp} {R : β → Rp} {ma : Rs α} {mk : α → Rs β} (h : EvM X Γ a Ra ma) (k : ∀ x, Ev X Γ a (Ra x) → EvM X Γ e R (mk x)) : EvM X Γ e R (ma >>= mk) := fun v q => by
  obtain ⟨x, h1, h2⟩ := Rs.of_bind q
  exact k x (h x h1) v h2
theorem evp_bindT {R : β → Rp} {ma : Rs Bool} {mk : Bool → Rs β} (h : TvM X Γ a ma) (k : ∀ x, Tv X Γ a x → EvM X Γ e R (mk x)) : EvM X Γ e R (ma >>= mk) := fun v q => by
  obtain ⟨x, h1, h2⟩ := Rs.of_bind q
  exact k x (h x h1) v h2
theorem evp_bindO {Ca : α → Cp} {R : β → Rp} {ma : Rs α} {mk : α → Rs β} (h : EoM X Γ a Ca ma) (k : ∀ x, EvO X Γ a (Ca x) → EvM X Γ e R (mk x)) : EvM X Γ e R (ma >>= mk) := fun v q => by
  obtain ⟨x, h1, h2⟩ := Rs.of_bind q
  exact k x (h x h1) v h2
theorem eop_ok {v : α} {C : α → Cp} (h : EvO X Γ e (C v)) : EoM X Γ e C (.ok v) := fun u q => by cases q; exact h
theorem eop_bind {Ra : α → Rp} {C : β → Cp} {ma : Rs α} {mk : α → Rs β} (h : EvM X Γ a Ra ma) (k : ∀ x, Ev X Γ a (Ra x) → EoM X Γ e C (mk x)) : EoM X Γ e C (ma >>= mk) := fun v q => by
  obtain ⟨x, h1, h2⟩ := Rs.of_bind q
  exact k x (h x h1) v h2
theorem eop_bindO {Ca : α → Cp} {C : β → Cp} {ma : Rs α} {mk : α → Rs β} (h : EoM X Γ a Ca ma) (k : ∀ x, EvO X Γ a (Ca x) → EoM X Γ e C (mk x)) : EoM X Γ e C (ma >>= mk) := fun v q => by
  obtain ⟨x, h1, h2⟩ := Rs.of_bind q
  exact k x (h x h1) v h2
theorem tvp_ok {v : Bool} (h : Tv X Γ e v) : TvM X Γ e (.ok v) := fun u q => by cases q; exact h
theorem tvp_bind {Ra : α → Rp} {ma : Rs α} {mk : α → Rs Bool} (h : EvM X Γ a Ra ma) (k : ∀ x, Ev X Γ a (Ra x) → TvM X Γ e (mk x)) : TvM X Γ e (ma >>= mk) := fun v q => by
  obtain ⟨x, h1, h2⟩ := Rs.of_bind q
  exact k x (h x h1) v h2
theorem tvp_bindT {ma : Rs Bool} {mk : Bool → Rs Bool} (h : TvM X Γ a ma) (k : ∀ x, Tv X Γ a x → TvM X Γ e (mk x)) : TvM X Γ e (ma >>= mk) := fun v q => by
  obtain ⟨x, h1, h2⟩ := Rs.of_bind q
  exact k x (h x h1) v h2
/-- a new thing, frozen at once; as it stands -/
theorem evp_fz {f : α → Val} {m : Rs α} (h : EoM X Γ e (fun v => cV T (f v)) m) : EvM X Γ e (fun v => rD T (f v)) m := fun v q => ev_fz (h v q)
theorem evp_ho {f : α → Val} {m : Rs α} (h : EoM X Γ e (fun v => cV T (f v)) m) : EvM X Γ e (fun v => hV T (f v)) m := fun v q => ev_ho (h v q)
theorem evp_map {f : α → Val} {m : Rs α} (h : EvM X Γ e (fun v => rD T (f v)) m) : EvM X Γ e (fun v => rD T v) (m >>= fun v => .ok (f v)) := fun v q => by
  obtain ⟨x, h1, h2⟩ := Rs.of_bind q
  cases h2
  exact h x h1
theorem eop_map {f : α → Val} {m : Rs α} (h : EoM X Γ e (fun v => cV T (f v)) m) : EoM X Γ e (fun v => cV T v) (m >>= fun v => .ok (f v)) := fun v q => by
  obtain ⟨x, h1, h2⟩ := Rs.of_bind q
  cases h2
  exact h x h1
theorem evp_h {f : α → Val} {m : Rs α} (h : EvM X Γ e (fun v => rD T (f v)) m) : EvM X Γ e (fun v => hV T (f v)) m := fun v q => ev_hv (h v q)
/-! ### taken for what they are -/
theorem h_of {d : Val} (hd : d.own = false) {x : V} {F G H : Hp} (p : (hV T d).P x F G H) : (rD T d).P x F G H := by
  cases d <;> first | exact p | cases hd
theorem evp_int {v : Val} (h : Ev X Γ e (hV T v)) : EvM X Γ e (fun i : Int => rD T (.int i)) (asInt v) := fun i q => by
  cases v <;> cases q
  exact ev_imp h fun _ _ _ _ _ _ p => h_of rfl p
theorem evp_bool {v : Val} (h : Ev X Γ e (hV T v)) : EvM X Γ e (fun i : Bool => rD T (.bool i)) (asBool v) := fun i q => by
  cases v <;> cases q
  exact ev_imp h fun _ _ _ _ _ _ p => h_of rfl p
theorem evp_str {v : Val} (h : Ev X Γ e (hV T v)) : EvM X Γ e (fun i : Str => rD T (.str i)) (asStr v) := fun i q => by
  cases v <;> cases q
  exact ev_imp h fun _ _ _ _ _ _ p => h_of rfl p
theorem evp_tup {v : Val} (h : Ev X Γ e (hV T v)) : EvM X Γ e (fun i : List Val => rD T (.tuple i)) (asTup v) := fun i q => by
  cases v <;> cases q
  exact ev_imp h fun _ _ _ _ _ _ p => h_of rfl p
theorem evp_list {v : Val} (h : Ev X Γ e (hV T v)) : EvM X Γ e (fun i : List Val => hV T (.list i)) (asList v) := fun i q => by
  cases v <;> cases q
  exact h
theorem evp_listF {v : Val} (h : Ev X Γ e (rD T v)) : EvM X Γ e (fun i : List Val => rD T (.list i)) (asList v) := fun i q => by
  cases v <;> cases q
  exact h
theorem evp_listB {v : Val} (h : Ev X Γ e (bV T v)) : EvM X Γ e (fun i : List Val => bV T (.list i)) (asList v) := fun i q => by
  cases v <;> cases q
  exact h
theorem evp_dict {v : Val} (h : Ev X Γ e (hV T v)) : EvM X Γ e (fun i : List (Val × Val) => hV T (.dict i)) (asDict v) := fun i q => by
  cases v <;> cases q
  exact h
theorem evp_ints {v : List Val} (h : Ev X Γ e (hV T (.list v))) : EvM X Γ e (fun i : List Int => hV T (.list (i.map .int))) (asInts v) := fun i q => by
  show Ev X Γ e (hV T (.list (i.map .int)))
  rw [← asInts_ok q]
  exact h
theorem evp_bools {v : List Val} (h : Ev X Γ e (hV T (.list v))) : EvM X Γ e (fun i : List Bool => hV T (.list (i.map .bool))) (asBools v) := fun i q => by
  show Ev X Γ e (hV T (.list (i.map .bool)))
  rw [← asBools_ok q]
  exact h
/-! ### numbers -/
section
variable {i l : Int}
theorem evp_mul (ha : Ev X Γ a (rD T (.int i))) (hb : Ev X Γ b (rD T (.int l))) : EvM X Γ (.BinOp a .Mult b pos) (fun i : Int => rD T (.int i)) (mulI i l) := fun v q => by
  unfold mulI at q
  split at q
  · rename_i h
    cases q
    exact ev_mul ha hb h
  · cases q
theorem evp_mod (ha : Ev X Γ a (rD T (.int i))) (hb : Ev X Γ b (rD T (.int l))) : EvM X Γ (.BinOp a .Mod b pos) (fun i : Int => rD T (.int i)) (modI i l) := fun v q => by
  unfold modI at q
  split at q
  · rename_i h
    cases q
    exact ev_mod ha hb h
  · cases q
theorem evp_fdiv (ha : Ev X Γ a (rD T (.int i))) (hb : Ev X Γ b (rD T (.int l))) : EvM X Γ (.BinOp a .FloorDiv b pos) (fun i : Int => rD T (.int i)) (fdivI i l) := fun v q => by
  unfold fdivI at q
  split at q
  · rename_i h
    cases q
    exact ev_fdiv ha hb h
  · cases q
theorem evp_pow (ha : Ev X Γ a (rD T (.int i))) (hb : Ev X Γ b (rD T (.int l))) : EvM X Γ (.BinOp a .Pow b pos) (fun i : Int => rD T (.int i)) (powI i l) := fun v q => by
  unfold powI at q
  split at q
  · rename_i h
    cases q
    exact ev_pow ha hb h
  · cases q
end
/-! ### sequences -/
theorem ixN_eq (n : Nat) (i : Int) : ixN n i = ixAt n i := by
  unfold ixN ixAt
  by_cases h : 0 ≤ i
  · simp [h, show ¬ i < 0 by omega]
  · simp [h, show i < 0 by omega]
theorem atI_eq {xs : List Val} {i : Int} {v : Val} (h : idxL xs i = .ok v) : atI xs i = some v := by
  unfold idxL at h
  unfold atI
  rw [ixN_eq]
  split at h
  · rename_i u e
    cases h
    exact e
  · cases h
theorem evp_ixL {ds : List Val} {i : Int} (ha : Ev X Γ a (hV T (.list ds))) (hb : Ev X Γ b (rD T (.int i))) (hs : PlainIx b := by exact fun _ _ => rfl) : EvM X Γ (.Subscript a b pos) (fun v => rD T v) (idxL ds i) := fun v q => ev_ixL ha hb (atI_eq q) hs
theorem evp_ixT {ds : List Val} {i : Int} (ha : Ev X Γ a (rD T (.tuple ds))) (hb : Ev X Γ b (rD T (.int i))) (hs : PlainIx b := by exact fun _ _ => rfl) : EvM X Γ (.Subscript a b pos) (fun v => rD T v) (idxL ds i) := fun v q => ev_ixT ha hb (atI_eq q) hs
theorem eop_cat {ds es : List Val} (ha : Ev X Γ a (hV T (.list ds))) (hb : Ev X Γ b (hV T (.list es))) : EoM X Γ (.BinOp a .Add b pos) (fun l => cV T (.list l)) (catL ds es) := fun v q => by
  unfold catL at q
  split at q
  · rename_i h
    cases q
    exact evo_cat ha hb h
  · cases q
theorem eop_rep {ds : List Val} {i : Int} (ha : Ev X Γ a (hV T (.list ds))) (hb : Ev X Γ b (rD T (.int i))) : EoM X Γ (.BinOp a .Mult b pos) (fun l => cV T (.list l)) (repL ds i) := fun v q => by
  unfold repL at q
  split at q
  · rename_i h
    cases q
    exact evo_rep ha hb h.1 h.2
  · cases q
theorem evp_catT {ds es : List Val} (ha : Ev X Γ a (rD T (.tuple ds))) (hb : Ev X Γ b (rD T (.tuple es))) : EvM X Γ (.BinOp a .Add b pos) (fun l => rD T (.tuple l)) (catT ds es) := fun v q => by
  unfold catT at q
  split at q
  · rename_i h
    cases q
    exact ev_catT ha hb h.1 h.2
  · cases q
theorem evp_catS {x y : Str} (ha : Ev X Γ a (rD T (.str x))) (hb : Ev X Γ b (rD T (.str y))) : EvM X Γ (.BinOp a .Add b pos) (fun l => rD T (.str l)) (catS x y) := fun v q => by
  unfold catS at q
  split at q
  · rename_i h
    cases q
    exact ev_addS ha hb h
  · cases q
/-! ### comparisons -/
theorem evp_eq {Ra Rb : Rp} {d e : Val} [AsV Ra T d] [AsV Rb T e] (ha : Ev X Γ a Ra) (hb : Ev X Γ b Rb) (xc : XC X N nm k) : EvM X Γ (.Compare a [.Eq] [b] pos) (fun r : Bool => rD T (.bool r)) (eqV d e) := fun v q => ev_eqV ha hb q xc.ls0
theorem evp_ne {Ra Rb : Rp} {d e : Val} [AsV Ra T d] [AsV Rb T e] (ha : Ev X Γ a Ra) (hb : Ev X Γ b Rb) (xc : XC X N nm k) : EvM X Γ (.Compare a [.NotEq] [b] pos) (fun r : Bool => rD T (.bool r)) (eqV d e >>= fun r => .ok (!r)) := fun v q => by
  obtain ⟨r, h1, h2⟩ := Rs.of_bind q
  cases h2
  exact ev_neV ha hb h1 xc.ls0
theorem evp_inL {Ra Rb : Rp} {d : Val} {ds : List Val} [AsV Ra T d] [AsV Rb T (.list ds)] (ha : Ev X Γ a Ra) (hb : Ev X Γ b Rb) (xc : XC X N nm k) (hm : behindInMarks .In b = false := by rfl) : EvM X Γ (.Compare a [.In] [b] pos) (fun r : Bool => rD T (.bool r)) (inL d ds) := fun v q => ev_inL ha hb q xc.ls hm
theorem evp_niL {Ra Rb : Rp} {d : Val} {ds : List Val} [AsV Ra T d] [AsV Rb T (.list ds)] (ha : Ev X Γ a Ra) (hb : Ev X Γ b Rb) (xc : XC X N nm k) (hm : behindInMarks .NotIn b = false := by rfl) : EvM X Γ (.Compare a [.NotIn] [b] pos) (fun r : Bool => rD T (.bool r)) (inL d ds >>= fun r => .ok (!r)) := fun v q => by
  obtain ⟨r, h1, h2⟩ := Rs.of_bind q
  cases h2
  exact ev_niL ha hb h1 xc.ls hm
/-! ### tests -/
theorem tvp_val {m : Rs Bool} (h : EvM X Γ a (fun r : Bool => rD T (.bool r)) m) (he : ∀ whole, isTrue a X.env whole = (do let v ← whole; standAt a.pos; holding [v] (truthy v)) := by intro _; rfl) : TvM X Γ a m := fun v q => tv_val (h v q) he
theorem tvp_list {ds : List Val} (h : Ev X Γ a (hV T (.list ds))) (he : ∀ whole, isTrue a X.env whole = (do let v ← whole; standAt a.pos; holding [v] (truthy v)) := by intro _; rfl) : TvM X Γ a (truB (.list ds)) := fun v q => by
  cases q
  exact tv_list h he
theorem tvp_not {m : Rs Bool} (h : TvM X Γ a m) : TvM X Γ (.UnaryOp .Not a pos) (m >>= fun r => .ok (!r)) := fun v q => by
  obtain ⟨r, h1, h2⟩ := Rs.of_bind q
  cases h2
  exact tv_not (h r h1)
theorem tvp_wv {m : Rs Bool} (h : WvM X Γ a m) : TvM X Γ a m := fun v q => tv_wv (h v q)
theorem wvp_and1 {m : Rs Bool} (h : TvM X Γ a m) : WvM X Γ (.BoolOp .And [a] pos) m := fun v q => wv_and1 (h v q)
theorem wvp_or1 {m : Rs Bool} (h : TvM X Γ a m) : WvM X Γ (.BoolOp .Or [a] pos) m := fun v q => wv_or1 (h v q)
theorem wvp_and {ma mb : Rs Bool} {rest : List Expr} (ha : TvM X Γ a ma) (hb : WvM X Γ (.BoolOp .And (b :: rest) pos) mb) : WvM X Γ (.BoolOp .And (a :: b :: rest) pos) (ma >>= fun x => if x then mb else .ok false) := fun v q => by
  obtain ⟨x, h1, h2⟩ := Rs.of_bind q
  cases x with
  | true =>
    have z := wv_and (ha true h1) fun _ => hb v h2
    simpa using z
  | false =>
    cases h2
    exact wv_and (d' := true) (ha false h1) fun q => by cases q
theorem wvp_or {ma mb : Rs Bool} {rest : List Expr} (ha : TvM X Γ a ma) (hb : WvM X Γ (.BoolOp .Or (b :: rest) pos) mb) : WvM X Γ (.BoolOp .Or (a :: b :: rest) pos) (ma >>= fun x => if x then .ok true else mb) := fun v q => by
  obtain ⟨x, h1, h2⟩ := Rs.of_bind q
  cases x with
  | false =>
    have z := wv_or (ha false h1) fun _ => hb v h2
    simpa using z
  | true =>
    cases h2
    exact wv_or (d' := true) (ha true h1) fun q => by cases q
theorem evp_one {op : BoolOp} {R : α → Rp} {m : Rs α} (h : EvM X Γ a R m) : EvM X Γ (.BoolOp op [a] pos) R m := fun v q => ev_one (h v q)
theorem evp_and {ma mb : Rs Bool} {rest : List Expr} (ha : EvM X Γ a (fun r : Bool => rD T (.bool r)) ma) (hb : EvM X Γ (.BoolOp .And (b :: rest) pos) (fun r : Bool => rD T (.bool r)) mb) : EvM X Γ (.BoolOp .And (a :: b :: rest) pos) (fun r : Bool => rD T (.bool r)) (ma >>= fun x => if x then mb else .ok false) := fun v q => by
  obtain ⟨x, h1, h2⟩ := Rs.of_bind q
  cases x with
  | true =>
    have z := ev_and (ha true h1) fun _ => hb v h2
    simpa using z
  | false =>
    cases h2
    exact ev_and (d' := true) (ha false h1) fun q => by cases q
theorem evp_or {ma mb : Rs Bool} {rest : List Expr} (ha : EvM X Γ a (fun r : Bool => rD T (.bool r)) ma) (hb : EvM X Γ (.BoolOp .Or (b :: rest) pos) (fun r : Bool => rD T (.bool r)) mb) : EvM X Γ (.BoolOp .Or (a :: b :: rest) pos) (fun r : Bool => rD T (.bool r)) (ma >>= fun x => if x then .ok true else mb) := fun v q => by
  obtain ⟨x, h1, h2⟩ := Rs.of_bind q
  cases x with
  | false =>
    have z := ev_or (ha false h1) fun _ => hb v h2
    simpa using z
  | true =>
    cases h2
    exact ev_or (d' := true) (ha true h1) fun q => by cases q
theorem evp_not {m : Rs Bool} (h : EvM X Γ a (fun r : Bool => rD T (.bool r)) m) : EvM X Γ (.UnaryOp .Not a pos) (fun r : Bool => rD T (.bool r)) (m >>= fun r => .ok (!r)) := fun v q => by
  obtain ⟨r, h1, h2⟩ := Rs.of_bind q
  cases h2
  exact ev_not (h r h1)
theorem evp_ife {mc : Rs Bool} {f : α → Val} {ma mb : Rs α} (hc : TvM X Γ c mc) (ha : EvM X Γ a (fun v => rD T (f v)) ma) (hb : EvM X Γ b (fun v => rD T (f v)) mb) : EvM X Γ (.IfExp c a b pos) (fun v => rD T (f v)) (mc >>= fun x => if x then ma else mb) := fun v q => by
  obtain ⟨x, h1, h2⟩ := Rs.of_bind q
  cases x with
  | true => exact ev_ife (v := f v) (hc true h1) (fun _ => ha v h2) fun q => by cases q
  | false => exact ev_ife (u := f v) (hc false h1) (fun q => by cases q) fun _ => hb v h2
/-! ### calls -/
section
variable {As : List Rp} {Ro : Rp} {m : Rs Val} {x : Str} {C : Str} {f : Str}
theorem evp_c (xc : XC X N nm k) (d : Dfk X.prog X.w X.K X.mg X.base x j (spU T As m)) (ha : EvA X Γ (e :: es) As) (hj : j ≤ k := by decide) (hg : gloB nm x = true := by decide +kernel)
    (hdb : (x == ("__debug__" : Str)) = false := by decide +kernel) (he : starEach (e :: es) X.env = (false, eval e X.env) :: starEach es X.env := by rfl) (hpl : (backTo pos (starEach es X.env)).any (·.1) = false := by rfl) : EvM X Γ (.Call (.Name x p) (e :: es) [] pos) (fun v => rD T v) m := fun v q => ev_c xc (d.imp (sp_ok q)) ha hj hg hdb he hpl
theorem evq_c (xc : XC X N nm k) (d : Dfk X.prog X.w X.K X.mg X.base x j (spU T As m)) (ha : EvA X Γ (e :: es) As) (hj : j ≤ k := by decide) (hg : gloB nm x = true := by decide +kernel)
    (hdb : (x == ("__debug__" : Str)) = false := by decide +kernel) (he : starEach (e :: es) X.env = (false, eval e X.env) :: starEach es X.env := by rfl) (hpl : (backTo pos (starEach es X.env)).any (·.1) = false := by rfl) : EvQ T X Γ (.Call (.Name x p) (e :: es) [] pos) m := fun v q => evx_c xc (d.imp (sp_err q)) ha hj hg hdb he hpl
theorem eop_c (xc : XC X N nm k) (d : Dfk X.prog X.w X.K X.mg X.base x j (spW T As m)) (ha : EvA X Γ (e :: es) As) (hj : j ≤ k := by decide) (hg : gloB nm x = true := by decide +kernel)
    (hdb : (x == ("__debug__" : Str)) = false := by decide +kernel) (he : starEach (e :: es) X.env = (false, eval e X.env) :: starEach es X.env := by rfl) (hpl : (backTo pos (starEach es X.env)).any (·.1) = false := by rfl) : EoM X Γ (.Call (.Name x p) (e :: es) [] pos) (fun v => cV T v) m := fun v q => evo_c xc (d.imp (sp_okW q)) ha hj hg hdb he hpl
theorem evqW_c (xc : XC X N nm k) (d : Dfk X.prog X.w X.K X.mg X.base x j (spW T As m)) (ha : EvA X Γ (e :: es) As) (hj : j ≤ k := by decide) (hg : gloB nm x = true := by decide +kernel)
    (hdb : (x == ("__debug__" : Str)) = false := by decide +kernel) (he : starEach (e :: es) X.env = (false, eval e X.env) :: starEach es X.env := by rfl) (hpl : (backTo pos (starEach es X.env)).any (·.1) = false := by rfl) : EvQ T X Γ (.Call (.Name x p) (e :: es) [] pos) m := fun v q => evx_c xc (d.imp (sp_errW q)) ha hj hg hdb he hpl
/-- C(e, ..) -/
theorem evp_mk (xc : XC X N nm k) (d : Mkk X.prog X.w X.K X.mg X.base x (He.ga X.K C) j (spI T C As m)) (ha : EvA X Γ (e :: es) As) (hK : X.K = T.K := by rfl) (hj : j + 1 ≤ k := by decide) (hg : gloB nm x = true := by decide +kernel)
    (hdb : (x == ("__debug__" : Str)) = false := by decide +kernel) (he : starEach (e :: es) X.env = (false, eval e X.env) :: starEach es X.env := by rfl) (hpl : (backTo pos (starEach es X.env)).any (·.1) = false := by rfl) : EvM X Γ (.Call (.Name x p) (e :: es) [] pos) (fun v => rD T v) m := fun v q => by
  rw [hK] at d
  exact ev_mk xc (by rw [hK]; exact d.imp (sp_okI q)) ha hj hg hdb he hpl
theorem evq_mk (xc : XC X N nm k) (d : Mkk X.prog X.w X.K X.mg X.base x (He.ga X.K C) j (spI T C As m)) (ha : EvA X Γ (e :: es) As) (hK : X.K = T.K := by rfl) (hj : j + 1 ≤ k := by decide) (hg : gloB nm x = true := by decide +kernel)
    (hdb : (x == ("__debug__" : Str)) = false := by decide +kernel) (he : starEach (e :: es) X.env = (false, eval e X.env) :: starEach es X.env := by rfl) (hpl : (backTo pos (starEach es X.env)).any (·.1) = false := by rfl) : EvQ T X Γ (.Call (.Name x p) (e :: es) [] pos) m := fun v q => by
  rw [hK] at d
  exact evx_mk xc (by rw [hK]; exact d.imp (sp_errI q)) ha hj hg hdb he hpl
end
end L3
/-! U, part q: targets, what is walked, comprehensions, blocks by outcomes. -/
namespace L3
open PySem PySem.Spec PyProof.Rows L2
variable {T : Tx} {X : Cx} {N : List Str} {nm : List (Str × NameKind)} {k j : Nat} {W : Wd} {D : Ends} {gh : Gh} {Γ Γ' : List Sl} {ss sa sb : List Stmt} {a b c e o tg it : Expr} {es : List Expr} {pos p apos np rp cp : Pos}
variable {α β υ υ' τ : Type}
/-! ### targets -/
/-- a value that is taken apart as up says is stored -/
def TgM (T : Tx) (X : Cx) (Γ : List Sl) (tg : Expr) (up : Val → Rs υ) (Γt : υ → List Sl) (ts : List Nat) : Prop := ∀ x y, up x = .ok y → Tg X Γ (rD T x) tg (Γt y) ts
theorem tgm_name (xf : XV X N nm) (i : Nat) {x : Str} (hN : N[i]? = some x := by rfl) (hl : locB nm x = true := by decide +kernel) (hf : X.fn x = true ∨ X.env.scope.names.lookup x = some .local) : TgM T X Γ (.Name x pos) Rs.ok (fun v => Γ.set i (vl (rD T v))) [i] := fun v y q => by
  cases q
  exact tg_name xf i hN hl hf
def up2 (u1 : Val → Rs υ) (u2 : Val → Rs υ') (x : Val) : Rs (υ × υ') := un2 x >>= fun p => u1 p.1 >>= fun a => u2 p.2 >>= fun b => .ok (a, b)
def up3 {υ'' : Type} (u1 : Val → Rs υ) (u2 : Val → Rs υ') (u3 : Val → Rs υ'') (x : Val) : Rs (υ × υ' × υ'') := un3 x >>= fun p => u1 p.1 >>= fun a => u2 p.2.1 >>= fun b => u3 p.2.2 >>= fun c => .ok (a, b, c)
def up4 {υ'' υ3 : Type} (u1 : Val → Rs υ) (u2 : Val → Rs υ') (u3 : Val → Rs υ'') (u4 : Val → Rs υ3) (x : Val) : Rs (υ × υ' × υ'' × υ3) := un4 x >>= fun p => u1 p.1 >>= fun a => u2 p.2.1 >>= fun b => u3 p.2.2.1 >>= fun c => u4 p.2.2.2 >>= fun d => .ok (a, b, c, d)
theorem un2_ok {x : Val} {p : Val × Val} (h : un2 x = .ok p) : x = .tuple [p.1, p.2] ∨ x = .list [p.1, p.2] := by
  unfold un2 at h
  split at h
  · cases h; exact .inl rfl
  · cases h; exact .inr rfl
  · cases h
theorem un3_ok {x : Val} {p : Val × Val × Val} (h : un3 x = .ok p) : x = .tuple [p.1, p.2.1, p.2.2] ∨ x = .list [p.1, p.2.1, p.2.2] := by
  unfold un3 at h
  split at h
  · cases h; exact .inl rfl
  · cases h; exact .inr rfl
  · cases h
theorem un4_ok {x : Val} {p : Val × Val × Val × Val} (h : un4 x = .ok p) : x = .tuple [p.1, p.2.1, p.2.2.1, p.2.2.2] ∨ x = .list [p.1, p.2.1, p.2.2.1, p.2.2.2] := by
  unfold un4 at h
  split at h
  · cases h; exact .inl rfl
  · cases h; exact .inr rfl
  · cases h
section
variable {t1 t2 t3 t4 : Expr} {s1 s2 s3 s4 : List Nat} {l : Nat} {υ1 υ2 υ3 υ4 : Type} {u1 : Val → Rs υ1} {u2 : Val → Rs υ2} {u3 : Val → Rs υ3} {u4 : Val → Rs υ4}
theorem tgm_2 {Γ1 : υ1 → List Sl} {Γ2 : υ1 → υ2 → List Sl} (hc : X.calm = true) (h1 : TgM T X Γ t1 u1 Γ1 s1) (h2 : ∀ y, TgM T X (Γ1 y) t2 u2 (Γ2 y) s2)
    (e1 : (assignEach [t1, t2] X.env).map (·.2) = assign t1 X.env :: (assignEach [t2] X.env).map (·.2) := by rfl) (e2 : (assignEach [t2] X.env).map (·.2) = assign t2 X.env :: (assignEach [] X.env).map (·.2) := by rfl)
    (hn : (assignEach [t1, t2] X.env).length = 2 := by rfl) (hst : (assignEach [t1, t2] X.env).findIdx? (·.1) = none := by rfl) : TgM T X Γ (.Tuple [t1, t2] l pos) (up2 u1 u2) (fun y => Γ2 y.1 y.2) (s1 ++ (s2 ++ [])) := fun x y q => by
  obtain ⟨p, hp, q⟩ := Rs.of_bind q
  obtain ⟨y1, q1, q⟩ := Rs.of_bind q
  obtain ⟨y2, q2, q⟩ := Rs.of_bind q
  cases q
  rcases un2_ok hp with e | e <;> rw [e]
  · exact tg_tup hc (tgs_cons (h1 _ _ q1) (tgs_cons (h2 _ _ _ q2) tgs_nil e2) e1) hn rfl hst
  · exact tg_lst hc (tgs_cons (h1 _ _ q1) (tgs_cons (h2 _ _ _ q2) tgs_nil e2) e1) hn rfl hst
theorem tgm_3 {Γ1 : υ1 → List Sl} {Γ2 : υ1 → υ2 → List Sl} {Γ3 : υ1 → υ2 → υ3 → List Sl} (hc : X.calm = true) (h1 : TgM T X Γ t1 u1 Γ1 s1) (h2 : ∀ y, TgM T X (Γ1 y) t2 u2 (Γ2 y) s2) (h3 : ∀ y z, TgM T X (Γ2 y z) t3 u3 (Γ3 y z) s3)
    (e1 : (assignEach [t1, t2, t3] X.env).map (·.2) = assign t1 X.env :: (assignEach [t2, t3] X.env).map (·.2) := by rfl) (e2 : (assignEach [t2, t3] X.env).map (·.2) = assign t2 X.env :: (assignEach [t3] X.env).map (·.2) := by rfl) (e3 : (assignEach [t3] X.env).map (·.2) = assign t3 X.env :: (assignEach [] X.env).map (·.2) := by rfl)
    (hn : (assignEach [t1, t2, t3] X.env).length = 3 := by rfl) (hst : (assignEach [t1, t2, t3] X.env).findIdx? (·.1) = none := by rfl) : TgM T X Γ (.Tuple [t1, t2, t3] l pos) (up3 u1 u2 u3) (fun y => Γ3 y.1 y.2.1 y.2.2) (s1 ++ (s2 ++ (s3 ++ []))) := fun x y q => by
  obtain ⟨p, hp, q⟩ := Rs.of_bind q
  obtain ⟨y1, q1, q⟩ := Rs.of_bind q
  obtain ⟨y2, q2, q⟩ := Rs.of_bind q
  obtain ⟨y3, q3, q⟩ := Rs.of_bind q
  cases q
  rcases un3_ok hp with e | e <;> rw [e]
  · exact tg_tup hc (tgs_cons (h1 _ _ q1) (tgs_cons (h2 _ _ _ q2) (tgs_cons (h3 _ _ _ _ q3) tgs_nil e3) e2) e1) hn rfl hst
  · exact tg_lst hc (tgs_cons (h1 _ _ q1) (tgs_cons (h2 _ _ _ q2) (tgs_cons (h3 _ _ _ _ q3) tgs_nil e3) e2) e1) hn rfl hst
theorem tgm_4 {Γ1 : υ1 → List Sl} {Γ2 : υ1 → υ2 → List Sl} {Γ3 : υ1 → υ2 → υ3 → List Sl} {Γ4 : υ1 → υ2 → υ3 → υ4 → List Sl} (hc : X.calm = true) (h1 : TgM T X Γ t1 u1 Γ1 s1) (h2 : ∀ y, TgM T X (Γ1 y) t2 u2 (Γ2 y) s2) (h3 : ∀ y z, TgM T X (Γ2 y z) t3 u3 (Γ3 y z) s3) (h4 : ∀ y z w, TgM T X (Γ3 y z w) t4 u4 (Γ4 y z w) s4)
    (e1 : (assignEach [t1, t2, t3, t4] X.env).map (·.2) = assign t1 X.env :: (assignEach [t2, t3, t4] X.env).map (·.2) := by rfl) (e2 : (assignEach [t2, t3, t4] X.env).map (·.2) = assign t2 X.env :: (assignEach [t3, t4] X.env).map (·.2) := by rfl) (e3 : (assignEach [t3, t4] X.env).map (·.2) = assign t3 X.env :: (assignEach [t4] X.env).map (·.2) := by rfl) (e4 : (assignEach [t4] X.env).map (·.2) = assign t4 X.env :: (assignEach [] X.env).map (·.2) := by rfl)
    (hn : (assignEach [t1, t2, t3, t4] X.env).length = 4 := by rfl) (hst : (assignEach [t1, t2, t3, t4] X.env).findIdx? (·.1) = none := by rfl) : TgM T X Γ (.Tuple [t1, t2, t3, t4] l pos) (up4 u1 u2 u3 u4) (fun y => Γ4 y.1 y.2.1 y.2.2.1 y.2.2.2) (s1 ++ (s2 ++ (s3 ++ (s4 ++ [])))) := fun x y q => by
  obtain ⟨p, hp, q⟩ := Rs.of_bind q
  obtain ⟨y1, q1, q⟩ := Rs.of_bind q
  obtain ⟨y2, q2, q⟩ := Rs.of_bind q
  obtain ⟨y3, q3, q⟩ := Rs.of_bind q
  obtain ⟨y4, q4, q⟩ := Rs.of_bind q
  cases q
  rcases un4_ok hp with e | e <;> rw [e]
  · exact tg_tup hc (tgs_cons (h1 _ _ q1) (tgs_cons (h2 _ _ _ q2) (tgs_cons (h3 _ _ _ _ q3) (tgs_cons (h4 _ _ _ _ _ q4) tgs_nil e4) e3) e2) e1) hn rfl hst
  · exact tg_lst hc (tgs_cons (h1 _ _ q1) (tgs_cons (h2 _ _ _ q2) (tgs_cons (h3 _ _ _ _ q3) (tgs_cons (h4 _ _ _ _ _ q4) tgs_nil e4) e3) e2) e1) hn rfl hst
end
/-! ### what is walked -/
/-- e walks the values that m tells -/
def EvW (T : Tx) (X : Cx) (Γ : List Sl) (tg it : Expr) (m : Rs (List Val)) : Prop := ∀ xs, m = .ok xs → EvI X Γ tg it (xs.map (rD T))
theorem evw_bind {Ra : α → Rp} {ma : Rs α} {mk : α → Rs (List Val)} (h : EvM X Γ a Ra ma) (q : ∀ x, Ev X Γ a (Ra x) → EvW T X Γ tg it (mk x)) : EvW T X Γ tg it (ma >>= mk) := fun v z => by
  obtain ⟨x, h1, h2⟩ := Rs.of_bind z
  exact q x (h x h1) v h2
theorem evw_listB {ds : List Val} (h : Ev X Γ it (bV T (.list ds))) : EvW T X Γ tg it (.ok ds) := fun v q => by
  cases q
  exact evi_list h
theorem evw_list {ds : List Val} (h : Ev X Γ it (rD T (.list ds))) : EvW T X Γ tg it (.ok ds) := evw_listB (ev_bv h)
theorem evw_tup {ds : List Val} (h : Ev X Γ it (rD T (.tuple ds))) : EvW T X Γ tg it (.ok ds) := fun v q => by
  cases q
  exact evi_tup h
theorem itOk_r (lo : Int) (n : Nat) (g : Gh) : ItOk (Itr lo n) ((List.range n).map fun i => rD T (.int (lo + (i : Nat)))) g where
  stop := fun F G H _ _ _ => by
    rw [List.length_map, List.length_range]
    exact Nat.le_refl n
  go := fun i F G H h _ _ _ => by
    rw [List.length_map, List.length_range] at h
    exact h
  yld := fun i R F G H x H' hi f g _ y => by
    obtain ⟨e1, e2⟩ := y
    rw [List.getElem?_map] at hi
    cases q : (List.range n)[i]? with
    | none => rw [q] at hi; cases hi
    | some z =>
      rw [q] at hi
      have hi : rD T (.int (lo + (z : Nat))) = R := Option.some.inj hi
      obtain ⟨h1, h2⟩ := List.getElem?_eq_some_iff.mp q
      rw [List.getElem_range] at h2
      subst h2
      subst hi
      exact .inl ⟨e1, by rw [e2]; exact .int _⟩
theorem rngL_map {lo hi : Int} : (rngL lo hi).map (rD T) = (List.range (hi - lo).toNat).map fun i => rD T (.int (lo + (i : Nat))) := by
  unfold rngL
  rw [List.map_map]
  rfl
theorem evw_rng1 {n : Int} (hb : Bl X "range") (h : Ev X Γ e (rD T (.int n))) (he : starEach [e] X.env = (false, eval e X.env) :: starEach [] X.env := by rfl) :
    EvW T X Γ tg (.Call (.Name "range" rp) [e] [] cp) (rngM 0 n) := fun xs q W gh σ F G H E => by
  unfold rngM at q
  split at q
  · rename_i hl
    cases q
    rw [rngL_map, Int.sub_zero]
    exact ⟨_, pi_range1 hb.hg hb.hm (pa_cons pe_w pa_nil he) (hs := he), fun R q => h W gh σ F G H E _ fun v F' G' H' E' x0 pv => ⟨n, by rw [int_inv pv], by omega, hl.2.2.2, q (Itr 0 n.toNat) .tt F' G' H' (E'.gw ⟨E'.g, trivial⟩) x0 (itOk_r 0 n.toNat .tt)⟩⟩
  · cases q
theorem evw_rng2 {e2 : Expr} {i l : Int} (hb : Bl X "range") (h : Ev X Γ e (rD T (.int i))) (h2 : Ev X Γ e2 (rD T (.int l))) (he : starEach [e, e2] X.env = (false, eval e X.env) :: starEach [e2] X.env := by rfl) (he2 : starEach [e2] X.env = (false, eval e2 X.env) :: starEach [] X.env := by rfl) :
    EvW T X Γ tg (.Call (.Name "range" rp) [e, e2] [] cp) (rngM i l) := fun xs q W gh σ F G H E => by
  unfold rngM at q
  split at q
  · rename_i hl
    cases q
    rw [rngL_map]
    exact ⟨_, pi_range2 hb.hg hb.hm (pa_cons pe_w (pa_cons pe_w pa_nil he2) he) (hs := he.trans (congrArg _ he2)) (hs2 := he2), fun R q => ev_seq h h2 E fun v w F' G' H' E' x0 p1 p2 => ⟨i, l, by rw [int_inv p1, int_inv p2], hl, q (Itr i (l - i).toNat) .tt F' G' H' (E'.gw ⟨E'.g, trivial⟩) x0 (itOk_r i (l - i).toNat .tt)⟩⟩
  · cases q
/-! ### comprehensions -/
section
variable {elt : Expr} {ifs : List Expr} {scope : Scope}
/-- the tests -/
def VvM (X : Cx) (Γ : List Sl) (ifs : List Expr) (m : Rs Bool) : Prop := ∀ v, m = .ok v → Vv X Γ ifs v
theorem vvm_nil : VvM X Γ [] (.ok true) := fun v q => by cases q; exact vv_nil
theorem vvm_one {m : Rs Bool} (h : TvM X Γ c m) : VvM X Γ [c] m := fun v q => vv_one (h v q)
theorem eom_lc {up : Val → Rs υ} {mc : υ → Rs Bool} {mf : υ → Rs Val} {mx : Rs (List Val)} {ts : List Nat} (own : List (Str × Nat)) (xf : XC X N nm k) (hi : EvW T X Γ tg it mx) (Γt : υ → List Sl)
    (hg : Bk X N nm k scope fun Y => TgM T Y (wipeG Γ (own.map (·.2))) tg up Γt ts)
    (ht : Bk X N nm k scope fun Y => ∀ y, VvM Y (Γt y) ifs (mc y))
    (he : Bk X N nm k scope fun Y => ∀ y, EvM Y (Γt y) elt (fun v => rD T v) (mf y))
    (hts : ∀ j ∈ ts, j ∈ own.map (·.2) := by decide) (hb : blkN N nm scope own = true := by decide +kernel) (hk : scope.kind = .function := by rfl)
    (hs : ∀ x, foldedSetIterable it X.env x = pure x := by intro _; rfl) : EoM X Γ (.ListComp elt [⟨tg, it, ifs, 0⟩] scope pos) (fun l => cV T (.list l)) (mx >>= fun xs => chk (decide (xs.length ≤ BIG)) >>= fun _ => lcM up mc mf xs) := fun v q => by
  obtain ⟨xs, h1, q⟩ := Rs.of_bind q
  obtain ⟨_, h2, q⟩ := Rs.of_bind q
  have hz : xs.length ≤ sizeLine := by
    unfold chk at h2
    split at h2
    · rename_i z
      exact of_decide_eq_true z
    · cases h2
  obtain ⟨e1, al⟩ := lcM_ok q
  subst e1
  have hi := hi xs h1
  -- what each item is taken apart to
  have get : ∀ x ∈ xs, ∃ y, up x = .ok y ∧ mc y = .ok (lcP up mc x) ∧ (lcP up mc x = true → mf y = .ok (lcF up mf x)) := al
  refine evo_lcG (R := fun x => rD T x) (xs := xs) (p := lcP up mc) (f := lcF up mf) own xf hi hz (fun x => match up x with | .ok y => Γt y | _ => []) hts (fun s H C cl fp xc x hx => ?_) (fun s H C cl fp xc x hx => ?_) (fun s H C cl fp xc x hx hp => ?_) hb hk hs
  · obtain ⟨y, hy, _⟩ := get x hx
    rw [hy]
    exact hg s H C cl fp xc x y hy
  · obtain ⟨y, hy, hc, _⟩ := get x hx
    rw [hy]
    exact ht s H C cl fp xc y _ hc
  · obtain ⟨y, hy, _, hf⟩ := get x hx
    rw [hy]
    exact he s H C cl fp xc y _ (hf hp)
/-- x = [elt for tg in it if ..] on one line -/
theorem blk_lc {P : List Val → Prop} {up : Val → Rs υ} {mc : υ → Rs Bool} {mf : υ → Rs Val} {mx : Rs (List Val)} {ts : List Nat} {x : Str} {py spos : Pos} (xb : XB X N nm k) (i : Nat) (own : List (Str × Nat)) (hi : EvW T X Γ tg it mx) (Γt : υ → List Sl)
    (hg : Bk X N nm k scope fun Y => TgM T Y (wipeG Γ (own.map (·.2))) tg up Γt ts)
    (ht : Bk X N nm k scope fun Y => ∀ y, VvM Y (Γt y) ifs (mc y))
    (he : Bk X N nm k scope fun Y => ∀ y, EvM Y (Γt y) elt (fun v => rD T v) (mf y)) {ds : List Val} (q : (mx >>= fun xs => chk (decide (xs.length ≤ BIG)) >>= fun _ => lcM up mc mf xs) = .ok ds) (t : Blk X W D gh (Γ.set i (.ow (cV T (.list ds)))) ss)
    (hts : ∀ j ∈ ts, j ∈ own.map (·.2) := by decide) (hb : blkN N nm scope own = true := by decide +kernel) (hk : scope.kind = .function := by rfl) (hN : N[i]? = some x := by rfl) (hl : onlyB nm x = true := by decide +kernel)
    (hline : (py.line == pos.line) = true := by decide) (ha : (scope.names.any fun (n, k) => n == x && (k == .local || k == .cell)) = false := by decide +kernel)
    (hs : ∀ x, foldedSetIterable it X.env x = pure x := by intro _; rfl) : Blk X W D gh Γ (.Assign [.Name x py] (.ListComp elt [⟨tg, it, ifs, 0⟩] scope pos) spos :: ss) := by
  obtain ⟨xs, h1, q⟩ := Rs.of_bind q
  obtain ⟨_, h2, q⟩ := Rs.of_bind q
  have hz : xs.length ≤ sizeLine := by
    unfold chk at h2
    split at h2
    · rename_i z
      exact of_decide_eq_true z
    · cases h2
  obtain ⟨e1, al⟩ := lcM_ok q
  have hi := hi xs h1
  refine blk_setLcG (R := fun x => rD T x) (xs := xs) (p := lcP up mc) (f := lcF up mf) xb i own hi hz (fun x => match up x with | .ok y => Γt y | _ => []) hts (fun s H C cl fp xc x hx => ?_) (fun s H C cl fp xc x hx => ?_) (fun s H C cl fp xc x hx hp => ?_) e1.symm t hb hk hN hl hline ha hs
  · obtain ⟨y, hy, _⟩ := al x hx
    rw [hy]
    exact hg s H C cl fp xc x y hy
  · obtain ⟨y, hy, hc, _⟩ := al x hx
    rw [hy]
    exact ht s H C cl fp xc y _ hc
  · obtain ⟨y, hy, _, hf⟩ := al x hx
    rw [hy]
    exact he s H C cl fp xc y _ (hf hp)
end
/-! ### blocks -/
/-- the block keeps what m says: p of where it ends, z of what it raises -/
def BlM (X : Cx) (W : Wd) (D : Ends) (gh : Gh) (Γ : List Sl) (ss : List Stmt) (m : Rs α) (P : α → Prop) (Z : Xv → Prop) : Prop := m.ho P Z → Blk X W D gh Γ ss
section
variable {m : Rs α} {P' : Val → Prop} {P : α → Prop} {Z : Xv → Prop} {x : Str}
/-- what leaves here is wished for -/
def ZG (T : Tx) (X : Cx) (W : Wd) (gh : Gh) (Γ : List Sl) (x : Xv) : Prop := ∃ Wx : WX, Takes X Wx ∧ ∀ σ F G H, En W gh Γ σ F G H → (xkOf T x).Wish F H (fun cls d H => Wx cls d σ H)
theorem zx_g {x : Xv} (h : Zx T X W x) : ZG T X W gh Γ x := by
  obtain ⟨E, tk, q⟩ := h
  exact ⟨_, tk, fun σ F G H E1 => q.up E1.toExt⟩
theorem blm_bind {me : Rs β} {R : β → Rp} {mk : β → Rs α} (h : EvM X Γ e R me) (t : ∀ v, Ev X Γ e (R v) → BlM X W D gh Γ ss (mk v) P Z) : BlM X W D gh Γ ss (me.ne >>= mk) P Z := fun q => by
  obtain ⟨v, hv, q⟩ := Rs.ho_ne (Rs.ho_bind q)
  exact t v (h v hv) q
theorem blm_set {me : Rs β} {R : β → Rp} [hR : ∀ v, Sta (R v)] {mk : β → Rs α} (xb : XB X N nm k) (i : Nat) (h : EvM X Γ e R me) (t : ∀ v, BlM X W D gh (Γ.set i (.vl (R v) (hR v))) ss (mk v) P Z) (hN : N[i]? = some x := by rfl) (hl : locB nm x = true := by decide +kernel)
    (hs : swapsWith e (some (.Name x p)) pos.line X.env = pure false := by rfl) : BlM X W D gh Γ (.Assign [.Name x p] e pos :: ss) (me.ne >>= mk) P Z := fun q => by
  obtain ⟨v, hv, q⟩ := Rs.ho_ne (Rs.ho_bind q)
  exact blk_set xb i (h v hv) (t v q) hN hl hs
theorem blm_setO {me : Rs β} {C : β → Cp} {mk : β → Rs α} (xb : XB X N nm k) (i : Nat) (h : EoM X Γ e C me) (t : ∀ v, BlM X W D gh (Γ.set i (.ow (C v))) ss (mk v) P Z) (hN : N[i]? = some x := by rfl) (hl : locB nm x = true := by decide +kernel)
    (hs : swapsWith e (some (.Name x p)) pos.line X.env = pure false := by rfl) : BlM X W D gh Γ (.Assign [.Name x p] e pos :: ss) (me.ne >>= mk) P Z := fun q => by
  obtain ⟨v, hv, q⟩ := Rs.ho_ne (Rs.ho_bind q)
  exact blk_setO xb i (h v hv) (t v q) hN hl hs
/-- x = f(..), which may raise -/
theorem blm_setC {me : Rs β} {R : β → Rp} [hR : ∀ v, Sta (R v)] {mk : β → Rs α} (xb : XB X N nm k) (i : Nat) (h : EvM X Γ e R me) (hx : EvQ T X Γ e me) (z : ∀ x, Z x → ZG T X W gh Γ x) (t : ∀ v, BlM X W D gh (Γ.set i (.vl (R v) (hR v))) ss (mk v) P Z) (hN : N[i]? = some x := by rfl) (hl : locB nm x = true := by decide +kernel)
    (hs : swapsWith e (some (.Name x p)) pos.line X.env = pure false := by rfl) : BlM X W D gh Γ (.Assign [.Name x p] e pos :: ss) (me >>= mk) P Z := fun q => by
  have q := Rs.ho_bind q
  cases hm : me with
  | ok v => rw [hm] at q; exact blk_set xb i (h v hm) (t v q) hN hl hs
  | stuck => rw [hm] at q; exact q.elim
  | err xv =>
    rw [hm] at q
    obtain ⟨Wx, tk, wi⟩ := z xv q
    exact blk_ps (ps_set xb.nd (xb.at_ hN) (xb.loc hl) pe_w hs (.inl (xb.fnn x))) fun σ F G H E1 => hx xv hm W gh σ F G H E1 Wx tk (fun F' G' H' E' x' => wi σ F' G' H' E') _
theorem blm_setCO {me : Rs β} {C : β → Cp} {mk : β → Rs α} (xb : XB X N nm k) (i : Nat) (h : EoM X Γ e C me) (hx : EvQ T X Γ e me) (z : ∀ x, Z x → ZG T X W gh Γ x) (t : ∀ v, BlM X W D gh (Γ.set i (.ow (C v))) ss (mk v) P Z) (hN : N[i]? = some x := by rfl) (hl : locB nm x = true := by decide +kernel)
    (hs : swapsWith e (some (.Name x p)) pos.line X.env = pure false := by rfl) : BlM X W D gh Γ (.Assign [.Name x p] e pos :: ss) (me >>= mk) P Z := fun q => by
  have q := Rs.ho_bind q
  cases hm : me with
  | ok v => rw [hm] at q; exact blk_setO xb i (h v hm) (t v q) hN hl hs
  | stuck => rw [hm] at q; exact q.elim
  | err xv =>
    rw [hm] at q
    obtain ⟨Wx, tk, wi⟩ := z xv q
    exact blk_ps (ps_set xb.nd (xb.at_ hN) (xb.loc hl) pe_w hs (.inl (xb.fnn x))) fun σ F G H E1 => hx xv hm W gh σ F G H E1 Wx tk (fun F' G' H' E' x' => wi σ F' G' H' E') _
/-- f(..) as a statement -/
theorem blm_expC {me : Rs β} {R : β → Rp} {mk : β → Rs α} (h : EvM X Γ e R me) (hx : EvQ T X Γ e me) (z : ∀ x, Z x → ZG T X W gh Γ x) (t : ∀ v, BlM X W D gh Γ ss (mk v) P Z) (hs : swapsWith e none pos.line X.env = pure false := by rfl) : BlM X W D gh Γ (.Expr e pos :: ss) (me >>= mk) P Z := fun q => by
  have q := Rs.ho_bind q
  cases hm : me with
  | ok v => rw [hm] at q; exact blk_ps (ps_expr pe_w hs) fun σ F G H E1 => h v hm W gh σ F G H E1 _ fun u F' G' H' E' _ _ => t v q σ F' G' H' E'
  | stuck => rw [hm] at q; exact q.elim
  | err xv =>
    rw [hm] at q
    obtain ⟨Wx, tk, wi⟩ := z xv q
    exact blk_ps (ps_expr pe_w hs) fun σ F G H E1 => hx xv hm W gh σ F G H E1 Wx tk (fun F' G' H' E' x' => wi σ F' G' H' E') _
/-- targets taken apart -/
theorem blm_asg {me : Rs Val} {up : Val → Rs υ} {Γt : υ → List Sl} {mk : υ → Rs α} {ts : List Nat} (h : EvM X Γ e (fun v => rD T v) me) (g : TgM T X Γ tg up Γt ts) (t : ∀ y, BlM X W D gh (Γt y) ss (mk y) P Z) (hs : swapsWithSole [tg] e pos.line X.env = pure false := by rfl) (hw : swappedStores [tg] e X.env = pure none := by rfl)
    (h1 : (assignEach [tg] X.env).map (·.2) = [assign tg X.env] := by rfl) : BlM X W D gh Γ (.Assign [tg] e pos :: ss) ((me >>= up).ne >>= mk) P Z := fun q => by
  obtain ⟨y, hy, q⟩ := Rs.ho_ne (Rs.ho_bind q)
  obtain ⟨v, hv, hu⟩ := Rs.of_bind hy
  exact blk_asg (h v hv) (g v y hu) (t y q) hs hw h1
/-- hands back -/
theorem blm_ret {me : Rs Val} (h : EvM X Γ e (fun v => rD T v) me) (hp : ∀ v, P' v → RetV W D (rD T v)) : BlM X W D gh Γ (.Return (some e) pos :: ss) me.ne P' Z := fun q => by
  obtain ⟨v, hv, q⟩ := Rs.ho_ne q
  exact blk_ret (h v hv) (hp v q)
theorem blm_retO {me : Rs Val} (h : EoM X Γ e (fun v => cV T v) me) (hp : ∀ v, P' v → RetO W D (cV T v)) : BlM X W D gh Γ (.Return (some e) pos :: ss) me.ne P' Z := fun q => by
  obtain ⟨v, hv, q⟩ := Rs.ho_ne q
  exact blk_retO (h v hv) (hp v q)
/-- an own slot's thing -/
theorem blm_retV {v : Val} (xf : XV X N nm) (i : Nat) (hp : ∀ v, P' v → RetO W D (cV T v)) (hi : Γ[i]? = some (.ow (cV T v)) := by rfl) (hN : N[i]? = some x := by rfl) (hv : visB nm x = true := by decide +kernel) (hd : (x == ("__debug__" : Str)) = false := by decide +kernel)
    (hcd : (x == ("__classdict__" : Str)) = false := by decide +kernel) : BlM X W D gh Γ (.Return (some (.Name x p)) pos :: ss) (.ok v) P' Z := fun q => blk_retV xf i hi (hp v q) hN hv hd hcd
/-- hands back what a call hands back, or raises what it raises -/
theorem blm_retC {me : Rs Val} (h : EvM X Γ e (fun v => rD T v) me) (hx : EvQ T X Γ e me) (z : ∀ x, Z x → ZG T X W gh Γ x) (hp : ∀ v, P' v → RetV W D (rD T v)) : BlM X W D gh Γ (.Return (some e) pos :: ss) me P' Z := fun q => by
  cases hm : me with
  | ok v => rw [hm] at q; exact blk_ret (h v hm) (hp v q)
  | stuck => rw [hm] at q; exact q.elim
  | err xv =>
    rw [hm] at q
    obtain ⟨Wx, tk, wi⟩ := z xv q
    exact blk_ps (ps_ret pe_w) fun σ F G H E1 => hx xv hm W gh σ F G H E1 Wx tk (fun F' G' H' E' x' => wi σ F' G' H' E') _
theorem blm_retCO {me : Rs Val} (h : EoM X Γ e (fun v => cV T v) me) (hx : EvQ T X Γ e me) (z : ∀ x, Z x → ZG T X W gh Γ x) (hp : ∀ v, P' v → RetO W D (cV T v)) : BlM X W D gh Γ (.Return (some e) pos :: ss) me P' Z := fun q => by
  cases hm : me with
  | ok v => rw [hm] at q; exact blk_retO (h v hm) (hp v q)
  | stuck => rw [hm] at q; exact q.elim
  | err xv =>
    rw [hm] at q
    obtain ⟨Wx, tk, wi⟩ := z xv q
    exact blk_ps (ps_ret pe_w) fun σ F G H E1 => hx xv hm W gh σ F G H E1 Wx tk (fun F' G' H' E' x' => wi σ F' G' H' E') _
theorem blm_retN (hp : P' .none → RetV W D (rD T .none)) : BlM X W D gh Γ (.Return none pos :: ss) (.ok .none) P' Z := fun q => blk_retN (hp q)
/-- the end of a def that hands back nothing -/
theorem blm_fall (hn : ∀ σ H, D.nx σ H = D.rt .non H) (hp : P' .none → RetV W D (rD T .none)) : BlM X W D gh Γ [] (.ok .none) P' Z := fun q => blk_nil fun σ F G H E => by
  rw [hn]
  exact hp q _ _ _ E.toExt .non
/-- raise C(..), a class without an __init__ -/
theorem blm_raise {C : Str} (xb : XB X N nm k) (mk : PMk X e (fun _ H Q => Q (.ref (He.ga X.K C)) none H)) (z : ∀ x, Z x → ZG T X W gh Γ x) (hK : X.K = T.K := by rfl) : BlM X W D gh Γ (.Raise (some e) none pos :: ss) (.err ⟨C, none⟩ : Rs α) P Z := fun q => by
  obtain ⟨Wx, tk, wi⟩ := z _ q
  refine blk_ps (ps_raise xb.calm tk mk) fun σ F G H E1 => ?_
  rw [hK]
  exact wi σ F G H E1 F H ⟨Same.refl _, Same.refl _, E1.fg.trans E1.gH, fun a o e => .inl e⟩
/-! branches -/
/-- where a branch ends: what follows holds there -/
def PN (W : Wd) (gh : Gh) (Γs : τ → List Sl) (N : L2.St → Hp → Prop) (t : τ) : Prop := ∀ σ H, EnN W gh (Γs t) σ H → N σ H
theorem blm_if {mc : Rs Bool} {ma mb : Rs α} (hc : TvM X Γ c mc) (ha : BlM X W { D with nx := BW X ss D } gh Γ sa ma P Z) (hb : BlM X W { D with nx := BW X ss D } gh Γ sb mb P Z) : BlM X W D gh Γ (.If c sa sb pos :: ss) (mc.ne >>= fun x => if x then ma else mb) P Z := fun q => by
  obtain ⟨d, hd, q⟩ := Rs.ho_ne (Rs.ho_bind q)
  refine blk_if (hc d hd) (fun h => ?_) fun h => ?_
  · subst h; exact ha q
  · subst h; exact hb q
theorem blm_go {rt : VK} {bk ct : L2.St → Hp → Prop} (h : BlM X W D gh Γ ss m P Z) : BlM X W { nx := BW X ss D, rt := rt, bk := bk, ct := ct } gh Γ [] m P Z := fun q => blk_go (h q)
/-- both branches go on to the rest -/
theorem blm_ifj {mc : Rs Bool} {ma mb : Rs τ} {mk : τ → Rs α} (Γs : τ → List Sl) (hc : TvM X Γ c mc) (ha : BlM X W { D with nx := BW X ss D } gh Γ sa ma (PN W gh Γs (BW X ss D)) Z) (hb : BlM X W { D with nx := BW X ss D } gh Γ sb mb (PN W gh Γs (BW X ss D)) Z) (t : ∀ t, BlM X W D gh (Γs t) ss (mk t) P Z) :
    BlM X W D gh Γ (.If c sa sb pos :: ss) (mc.ne >>= fun x => (if x then ma else mb) >>= mk) P Z := fun q => by
  obtain ⟨d, hd, q⟩ := Rs.ho_ne (Rs.ho_bind q)
  have q := Rs.ho_bind q
  refine blk_if (hc d hd) (fun h => ?_) fun h => ?_
  · subst h
    exact ha (Rs.ho_mono q (fun u z σ H ⟨F, G, E⟩ => t u z σ F G H E) fun _ z => z)
  · subst h
    exact hb (Rs.ho_mono q (fun u z σ H ⟨F, G, E⟩ => t u z σ F G H E) fun _ z => z)
theorem blm_end {Γs : τ → List Sl} {rt : VK} {nx bk ct : L2.St → Hp → Prop} (u : τ) (h : SlAll Γ (Γs u)) : BlM X W { nx := nx, rt := rt, bk := bk, ct := ct } gh Γ [] (.ok u) (PN W gh Γs nx) Z := fun q => blk_nil fun σ F G H E => q σ H ⟨F, G, E.le h⟩
/-! loops -/
/-- where a turn ends -/
def PF (T : Tx) (W : Wd) (gh : Gh) (Γs : τ → List Sl) (D : Ends) : Fl τ → Prop
  | .go t => ∀ σ H, EnN W gh (Γs t) σ H → D.nx σ H ∧ D.ct σ H
  | .brk t => ∀ σ H, EnN W gh (Γs t) σ H → D.bk σ H
  | .ret v => RetV W D (rD T v)
theorem blm_next {Γs : τ → List Sl} {rt : VK} {nx bk ct : L2.St → Hp → Prop} (u : τ) (h : SlAll Γ (Γs u)) : BlM X W { nx := nx, rt := rt, bk := bk, ct := ct } gh Γ [] (.ok (.go u)) (PF T W gh Γs { nx := nx, rt := rt, bk := bk, ct := ct }) Z := fun q => blk_nil fun σ F G H E => (q σ H ⟨F, G, E.le h⟩).1
theorem blm_for {xs : List Val} {up : Val → Rs υ} {f : τ → υ → Rs (Fl τ)} {ts : List Nat} {body : List Stmt} {mk : τ → Rs α} {kr : Val → Rs α} (xb : XB X N nm k) (Γs : τ → List Sl) (Γt : τ → υ → List Sl) (s0 : τ) (hi : EvI X Γ tg it (xs.map (rD T))) (h0 : SlAll Γ (Γs s0))
    (ht : ∀ s, TgM T X (Γs s) tg up (Γt s) ts)
    (hb : ∀ gh' (D' : Ends) s y, (∀ x, Z x → ∀ Γ', ZG T X W gh' Γ' x) → D'.rt = D.rt → BlM X W D' gh' (Γt s y) body (f s y) (PF T W gh' Γs D') Z)
    (z : ∀ x, Z x → ∀ gh' Γ', ZG T X W gh' Γ' x)
    (t : ∀ s, BlM X W D gh (Γs s) ss (mk s) P Z) (kr' : ∀ v, (kr v).ho P Z → RetV W D (rD T v))
    (hs : ∀ x, foldedSetIterable it X.env x = pure x := by intro _; rfl) : BlM X W D gh Γ (.For tg it body [] pos :: ss) (forL (fun s x => (up x).ne >>= f s) xs s0 >>= fun r => thenF r mk kr) P Z := fun q σ F G H E => by
  obtain ⟨wi, hpi, hR⟩ := hi W gh σ F G H E
  refine BW.of (pss_cons (ps_for xb.pass xb.calm hpi pg_w pss_w hs) pss_w) ?_
  refine hR _ fun J g F1 G1 H1 E1 x1 ok => ?_
  -- what is left: the items from i on, from the state s
  have len : (xs.map (rD T)).length = xs.length := List.length_map ..
  refine ⟨fun i m σ H => m = xs.length - i ∧ i ≤ xs.length ∧ ∃ s, EnN W (gh.and g) (Γs s) σ H ∧ (forL (fun s x => (up x).ne >>= f s) (xs.drop i) s).ho (fun r => (thenF r mk kr).ho P Z) Z, ⟨xs.length, by simp, Nat.zero_le _, s0, ⟨F1, G1, E1.le h0⟩, Rs.ho_bind q⟩, ?_⟩
  rintro i m σ2 H2 ⟨rfl, hi, s, ⟨F2, G2, E2⟩, left⟩
  by_cases hlt : i < xs.length
  · have hx := List.getElem?_eq_getElem hlt
    have hR2 : (xs.map (rD T))[i]? = some (rD T xs[i]) := by rw [List.getElem?_map, hx]; rfl
    rw [List.drop_eq_getElem_cons hlt] at left
    have left := Rs.ho_bind left
    obtain ⟨y, hy, left⟩ := Rs.ho_ne (Rs.ho_bind left)
    refine .inr ⟨ok.go i F2 G2 H2 (by rw [len]; exact hlt) E2.fg E2.gH E2.g.2, fun σ' H' => ∃ s', EnN W (gh.and g) (Γs s') σ' H' ∧ (forL (fun s x => (up x).ne >>= f s) (xs.drop (i + 1)) s').ho (fun r => (thenF r mk kr).ho P Z) Z, fun σ' H' ⟨s', e1, e2⟩ => ⟨xs.length - (i + 1), by omega, rfl, hlt, s', e1, e2⟩, fun x H3 yl => ?_⟩
    obtain ⟨F3, G3, E3, _, p3⟩ := E2.step (gh' := gh) ok E2.g.2 hR2 yl
    refine ht s _ _ hy W _ σ2 F3 G3 H3 x E3 p3 _ fun σ4 E4 _ => ?_
    refine hb _ _ s y (fun x hx Γ' => z x hx _ Γ') ?_ (Rs.ho_mono left (fun r hr => ?_) fun _ z => z) σ4 F3 G3 H3 E4
    · rfl
    · cases r with
      | go u => exact fun σ' H' e' => ⟨⟨u, e', hr⟩, ⟨u, e', hr⟩⟩
      | brk u =>
        intro σ' H' ⟨F', G', E'⟩
        exact t u hr σ' F' G' H' (E'.gw E'.g.1)
      | ret v => exact kr' v hr
  · have e : i = xs.length := by omega
    subst e
    refine .inl ⟨by rw [← len]; exact ok.stop F2 G2 H2 E2.fg E2.gH E2.g.2, ?_⟩
    rw [List.drop_length] at left
    exact t s left σ2 F2 G2 H2 (E2.gw E2.g.1)
end
end L3
/-! U, part r: while, append, built-ins. -/
namespace L3
open PySem PySem.Spec PyProof.Rows L2
variable {T : Tx} {X : Cx} {N : List Str} {nm : List (Str × NameKind)} {k j : Nat} {W : Wd} {D : Ends} {gh : Gh} {Γ Γ' : List Sl} {ss sa sb : List Stmt} {a b c e o tg it : Expr} {es : List Expr} {pos p apos np rp cp : Pos}
variable {α β υ υ' τ : Type} {m : Rs α} {P' : Val → Prop} {P : α → Prop} {Z : Xv → Prop} {x : Str}
theorem blm_while {f : τ → Rs (Fl τ)} {mc : τ → Rs Bool} {body : List Stmt} {mk : τ → Rs α} {kr : Val → Rs α} {n : Nat} (xb : XB X N nm k) (Γs : τ → List Sl) (s0 : τ) (h0 : SlAll Γ (Γs s0)) (hc : ∀ s, TvM X (Γs s) c (mc s))
    (hb : ∀ (D' : Ends) s, D'.rt = D.rt → BlM X W D' gh (Γs s) body (f s) (PF T W gh Γs D') Z)
    (t : ∀ s, BlM X W D gh (Γs s) ss (mk s) P Z) (kr' : ∀ v, (kr v).ho P Z → RetV W D (rD T v)) : BlM X W D gh Γ (.While c body [] pos :: ss) (whl (fun s => (mc s).ne) f n s0 >>= fun r => thenF r mk kr) P Z := fun q => by
  refine blk_ps (ps_while xb.pass pt_w pss_w) fun σ F G H E => ?_
  refine ⟨fun n σ H => ∃ s, EnN W gh (Γs s) σ H ∧ (whl (fun s => (mc s).ne) f n s).ho (fun r => (thenF r mk kr).ho P Z) Z, ⟨n, s0, ⟨F, G, E.le h0⟩, Rs.ho_bind q⟩, ?_⟩
  rintro n σ1 H1 ⟨s, ⟨F1, G1, E1⟩, left⟩
  cases n with
  | zero => exact left.elim
  | succ n =>
    obtain ⟨d, hd, left⟩ := Rs.ho_ne (Rs.ho_bind left)
    refine hc s d hd W gh σ1 F1 G1 H1 E1 _ fun F2 G2 H2 E2 x2 => ?_
    cases d with
    | true =>
      rw [if_pos rfl]
      refine ⟨fun σ H => ∃ s', EnN W gh (Γs s') σ H ∧ (whl (fun s => (mc s).ne) f n s').ho (fun r => (thenF r mk kr).ho P Z) Z, fun σ' H' ⟨s', e', l'⟩ => ⟨n, Nat.lt_succ_self n, s', e', l'⟩, ?_⟩
      refine hb _ s ?_ (Rs.ho_mono (Rs.ho_bind left) (fun r hr => ?_) fun _ z => z) σ1 F2 G2 H2 E2
      · rfl
      · cases r with
        | go u => exact fun σ' H' e' => ⟨⟨u, e', hr⟩, ⟨u, e', hr⟩⟩
        | brk u => exact fun σ' H' ⟨F', G', E'⟩ => t u hr σ' F' G' H' E'
        | ret v => exact kr' v hr
    | false =>
      rw [if_neg Bool.false_ne_true]
      exact t s left σ1 F2 G2 H2 E2
/-- x.append(e) -/
theorem blm_app {me : Rs Val} {ds : List Val} {mk : List Val → Rs α} (xb : XB X N nm k) (i : Nat) (h : EvM X Γ e (fun v => rD T v) me) (t : ∀ ds', BlM X W D gh (Γ.set i (.ow (cV T (.list ds')))) ss (mk ds') P Z) (hi : Γ[i]? = some (.ow (cV T (.list ds))) := by rfl)
    (hN : N[i]? = some x := by rfl) (hv : visB nm x = true := by decide +kernel) (hd : (x == ("__debug__" : Str)) = false := by decide +kernel) (hcd : (x == ("__classdict__" : Str)) = false := by decide +kernel)
    (hbase : attributeBase (.Name x np) ("append" : Str) X.env (eval (.Name x np) X.env) = eval (.Name x np) X.env := by rfl)
    (hfew : ((backTo cp (starEach [e] X.env)).all (fun x => !x.1) && (backToKw cp (keywordEach [] X.env)).all (fun x => x.1.isSome)
      && decide ([e].length + ([] : List Keyword).length + (if ([] : List Keyword).isEmpty then 0 else 1) < 30)) = true := by rfl)
    (hline : (apos.endLine == cp.line) = true := by rfl) (he : starEach [e] X.env = (false, eval e X.env) :: starEach [] X.env := by rfl)
    (hsw : swapsWith (.Call (.Attribute (.Name x np) "append" apos) [e] [] cp) none pos.line X.env = pure false := by rfl) :
    BlM X W D gh Γ (.Expr (.Call (.Attribute (.Name x np) "append" apos) [e] [] cp) pos :: ss) (me.ne >>= fun v => appL ds v >>= mk) P Z := fun q => by
  obtain ⟨v, hv', q⟩ := Rs.ho_ne (Rs.ho_bind q)
  unfold appL at q
  split at q
  · rename_i hz
    exact blk_app xb i hi (h v hv') hz (t _ q) hN hv hd hcd hbase hfew hline he hsw
  · exact q.elim
/-- own things frozen between statements -/
theorem blm_frz (i : Nat) {d : Val} (t : BlM X W D gh (Γ.set i (vl (rD T d))) ss m P Z) (hi : Γ[i]? = some (.ow (cV T d)) := by rfl) : BlM X W D gh Γ ss m P Z := fun q => blk_frz i hi (t q)
theorem blm_le (h : SlAll Γ Γ') (t : BlM X W D gh Γ' ss m P Z) : BlM X W D gh Γ ss m P Z := fun q => blk_le h (t q)
theorem blm_doc {x : Str} {j : Nat} (t : BlM X W D gh Γ ss m P Z) : BlM X W D gh Γ (.Expr (.Constant (.str x) j p) pos :: ss) m P Z := fun q => blk_doc (t q)
theorem blm_pass (t : BlM X W D gh Γ ss m P Z) : BlM X W D gh Γ (.Pass pos :: ss) m P Z := fun q => blk_pass (t q)
/-! the script -/
theorem sqL_same {K : PySem.W.Frag} {H H' : Hp} (s : Same H H') {a : Addr} {xs : List V} (h : SqL K H a xs) : SqL K H' a xs := by
  rcases h with h | h
  · rcases h with h | ⟨o, h⟩
    · exact .inl (.inl (s _ _ h))
    · exact .inl (.inr ⟨o, s _ _ h⟩)
  · exact .inr h
def rS (T : Tx) (ns : List Int) : Rp := ⟨fun v F _ _ => ∃ a, v = .ref a ∧ SqL T.K F a (ns.map V.int), fun f _ _ ⟨a, e, h⟩ => ⟨a, e, sqL_same f h⟩⟩
instance {ns : List Int} : Fz (rS T ns) := ⟨fun h => h⟩
theorem evo_slS {ns : List Int} {lo hi : Option Expr} {l u : Option Int} {p2 : Pos} (ha : Ev X Γ a (rS T ns)) (hl : EvP X Γ lo l) (hu : EvP X Γ hi u) (hK : X.K = T.K := by rfl) : EvO X Γ (.Subscript a (.Slice lo hi none p2) pos) (cV T (.list ((cut ns l u).map .int))) := fun W gh σ F G H E Q q =>
  EW.of (pe_slice sl_list pe_w po_w po_w) (ha W gh σ F G H E _ fun v F1 G1 H1 E1 x1 ⟨p, ev, hp⟩ => hl W gh σ F1 G1 H1 E1 _ fun F2 G2 H2 E2 x2 => hu W gh σ F2 G2 H2 E2 _ fun F3 G3 H3 E3 x3 =>
    ⟨p, _, ev, by rw [hK]; exact sqL_same ((E1.fg.trans E1.gH).trans (x2.s.trans x3.s)) hp, fun n hn => q n [n] F3 G3 _ (E3.new hn) ((x1.trans (x2.trans x3)).new hn) (one_new ((x1.trans (x2.trans x3)).s.free hn) (E3.gH.free hn)) (own_list ⟨upd_same, by
      have e : cutV (ns.map V.int) l u = (cut ns l u).map V.int := by
        unfold cutV cut
        rw [List.length_map, List.map_take, List.map_drop]
      rw [e]
      exact DtAll.ofInts _⟩)⟩)
/-! the rest of the built-ins -/
theorem evm_sum {ds : List Val} (xc : XC X N nm k) (h : Bl X "sum") (ha : Ev X Γ a (hV T (.list ds))) (he : starEach [a] X.env = (false, eval a X.env) :: starEach [] X.env := by rfl) : EvM X Γ (.Call (.Name "sum" p) [a] [] pos) (fun i : Int => rD T (.int i)) (asInts ds >>= fun is => .ok is.sum) := fun v q => by
  obtain ⟨is, h1, h2⟩ := Rs.of_bind q
  cases h2
  rw [asInts_ok h1] at ha
  exact ev_sum xc.calm h ha he
theorem evm_all {ds : List Val} (xc : XC X N nm k) (h : Bl X "all") (ha : Ev X Γ a (hV T (.list ds))) (he : starEach [a] X.env = (false, eval a X.env) :: starEach [] X.env := by rfl) : EvM X Γ (.Call (.Name "all" p) [a] [] pos) (fun i : Bool => rD T (.bool i)) (asBools ds >>= fun bs => .ok (bs.all id)) := fun v q => by
  obtain ⟨is, h1, h2⟩ := Rs.of_bind q
  cases h2
  rw [asBools_ok h1] at ha
  exact ev_all xc.calm h ha he
theorem evm_any {ds : List Val} (xc : XC X N nm k) (h : Bl X "any") (ha : Ev X Γ a (hV T (.list ds))) (he : starEach [a] X.env = (false, eval a X.env) :: starEach [] X.env := by rfl) : EvM X Γ (.Call (.Name "any" p) [a] [] pos) (fun i : Bool => rD T (.bool i)) (asBools ds >>= fun bs => .ok (bs.any id)) := fun v q => by
  obtain ⟨is, h1, h2⟩ := Rs.of_bind q
  cases h2
  rw [asBools_ok h1] at ha
  exact ev_any xc.calm h ha he
end L3
/-! U, part s: instances taken apart; slots told better. -/
namespace L3
open PySem PySem.Spec PyProof.Rows L2
variable {T : Tx} {X : Cx} {N : List Str} {nm : List (Str × NameKind)} {k j : Nat} {W : Wd} {D : Ends} {gh : Gh} {Γ Γ' : List Sl} {ss sa sb : List Stmt} {a b c e o tg it : Expr} {es : List Expr} {pos p apos np rp cp : Pos}
variable {α β υ υ' τ : Type} {m : Rs α} {P' : Val → Prop} {P : α → Prop} {Z : Xv → Prop} {x : Str}
def ob1 (C f0 : Str) : Val → Rs (Val)
  | .obj C' [(g0, a0)] => if C' = C ∧ g0 = f0 then .ok a0 else .stuck
  | _ => .stuck
theorem ob1_ok {C f0 : Str} {v : Val} {p : Val} (h : ob1 C f0 v = .ok p) : v = .obj C [(f0, p)] := by
  unfold ob1 at h
  split at h
  · split at h
    · rename_i z
      obtain ⟨rfl, rfl⟩ := z
      cases h
      rfl
    · cases h
  · cases h
@[simp] theorem ob1_obj (C f0 : Str) (a0 : Val) : ob1 C f0 (.obj C [(f0, a0)]) = .ok a0 := by simp [ob1]
theorem evm_ob1 {C f0 : Str} {v : Val} (h : Ev X Γ e (hV T v)) : EvM X Γ e (fun p : Val => hV T (.obj C [(f0, p)])) (ob1 C f0 v) := fun p q => by
  have z := ob1_ok q
  subst z
  exact h
def ob2 (C f0 f1 : Str) : Val → Rs (Val × Val)
  | .obj C' [(g0, a0), (g1, a1)] => if C' = C ∧ g0 = f0 ∧ g1 = f1 then .ok (a0, a1) else .stuck
  | _ => .stuck
theorem ob2_ok {C f0 f1 : Str} {v : Val} {p : Val × Val} (h : ob2 C f0 f1 v = .ok p) : v = .obj C [(f0, p.1), (f1, p.2)] := by
  unfold ob2 at h
  split at h
  · split at h
    · rename_i z
      obtain ⟨rfl, rfl, rfl⟩ := z
      cases h
      rfl
    · cases h
  · cases h
@[simp] theorem ob2_obj (C f0 f1 : Str) (a0 a1 : Val) : ob2 C f0 f1 (.obj C [(f0, a0), (f1, a1)]) = .ok (a0, a1) := by simp [ob2]
theorem evm_ob2 {C f0 f1 : Str} {v : Val} (h : Ev X Γ e (hV T v)) : EvM X Γ e (fun p : Val × Val => hV T (.obj C [(f0, p.1), (f1, p.2)])) (ob2 C f0 f1 v) := fun p q => by
  have z := ob2_ok q
  subst z
  exact h
def ob3 (C f0 f1 f2 : Str) : Val → Rs (Val × Val × Val)
  | .obj C' [(g0, a0), (g1, a1), (g2, a2)] => if C' = C ∧ g0 = f0 ∧ g1 = f1 ∧ g2 = f2 then .ok (a0, a1, a2) else .stuck
  | _ => .stuck
theorem ob3_ok {C f0 f1 f2 : Str} {v : Val} {p : Val × Val × Val} (h : ob3 C f0 f1 f2 v = .ok p) : v = .obj C [(f0, p.1), (f1, p.2.1), (f2, p.2.2)] := by
  unfold ob3 at h
  split at h
  · split at h
    · rename_i z
      obtain ⟨rfl, rfl, rfl, rfl⟩ := z
      cases h
      rfl
    · cases h
  · cases h
@[simp] theorem ob3_obj (C f0 f1 f2 : Str) (a0 a1 a2 : Val) : ob3 C f0 f1 f2 (.obj C [(f0, a0), (f1, a1), (f2, a2)]) = .ok (a0, a1, a2) := by simp [ob3]
theorem evm_ob3 {C f0 f1 f2 : Str} {v : Val} (h : Ev X Γ e (hV T v)) : EvM X Γ e (fun p : Val × Val × Val => hV T (.obj C [(f0, p.1), (f1, p.2.1), (f2, p.2.2)])) (ob3 C f0 f1 f2 v) := fun p q => by
  have z := ob3_ok q
  subst z
  exact h
def ob4 (C f0 f1 f2 f3 : Str) : Val → Rs (Val × Val × Val × Val)
  | .obj C' [(g0, a0), (g1, a1), (g2, a2), (g3, a3)] => if C' = C ∧ g0 = f0 ∧ g1 = f1 ∧ g2 = f2 ∧ g3 = f3 then .ok (a0, a1, a2, a3) else .stuck
  | _ => .stuck
theorem ob4_ok {C f0 f1 f2 f3 : Str} {v : Val} {p : Val × Val × Val × Val} (h : ob4 C f0 f1 f2 f3 v = .ok p) : v = .obj C [(f0, p.1), (f1, p.2.1), (f2, p.2.2.1), (f3, p.2.2.2)] := by
  unfold ob4 at h
  split at h
  · split at h
    · rename_i z
      obtain ⟨rfl, rfl, rfl, rfl, rfl⟩ := z
      cases h
      rfl
    · cases h
  · cases h
@[simp] theorem ob4_obj (C f0 f1 f2 f3 : Str) (a0 a1 a2 a3 : Val) : ob4 C f0 f1 f2 f3 (.obj C [(f0, a0), (f1, a1), (f2, a2), (f3, a3)]) = .ok (a0, a1, a2, a3) := by simp [ob4]
theorem evm_ob4 {C f0 f1 f2 f3 : Str} {v : Val} (h : Ev X Γ e (hV T v)) : EvM X Γ e (fun p : Val × Val × Val × Val => hV T (.obj C [(f0, p.1), (f1, p.2.1), (f2, p.2.2.1), (f3, p.2.2.2)])) (ob4 C f0 f1 f2 f3 v) := fun p q => by
  have z := ob4_ok q
  subst z
  exact h
def ob5 (C f0 f1 f2 f3 f4 : Str) : Val → Rs (Val × Val × Val × Val × Val)
  | .obj C' [(g0, a0), (g1, a1), (g2, a2), (g3, a3), (g4, a4)] => if C' = C ∧ g0 = f0 ∧ g1 = f1 ∧ g2 = f2 ∧ g3 = f3 ∧ g4 = f4 then .ok (a0, a1, a2, a3, a4) else .stuck
  | _ => .stuck
theorem ob5_ok {C f0 f1 f2 f3 f4 : Str} {v : Val} {p : Val × Val × Val × Val × Val} (h : ob5 C f0 f1 f2 f3 f4 v = .ok p) : v = .obj C [(f0, p.1), (f1, p.2.1), (f2, p.2.2.1), (f3, p.2.2.2.1), (f4, p.2.2.2.2)] := by
  unfold ob5 at h
  split at h
  · split at h
    · rename_i z
      obtain ⟨rfl, rfl, rfl, rfl, rfl, rfl⟩ := z
      cases h
      rfl
    · cases h
  · cases h
@[simp] theorem ob5_obj (C f0 f1 f2 f3 f4 : Str) (a0 a1 a2 a3 a4 : Val) : ob5 C f0 f1 f2 f3 f4 (.obj C [(f0, a0), (f1, a1), (f2, a2), (f3, a3), (f4, a4)]) = .ok (a0, a1, a2, a3, a4) := by simp [ob5]
theorem evm_ob5 {C f0 f1 f2 f3 f4 : Str} {v : Val} (h : Ev X Γ e (hV T v)) : EvM X Γ e (fun p : Val × Val × Val × Val × Val => hV T (.obj C [(f0, p.1), (f1, p.2.1), (f2, p.2.2.1), (f3, p.2.2.2.1), (f4, p.2.2.2.2)])) (ob5 C f0 f1 f2 f3 f4 v) := fun p q => by
  have z := ob5_ok q
  subst z
  exact h
def ob6 (C f0 f1 f2 f3 f4 f5 : Str) : Val → Rs (Val × Val × Val × Val × Val × Val)
  | .obj C' [(g0, a0), (g1, a1), (g2, a2), (g3, a3), (g4, a4), (g5, a5)] => if C' = C ∧ g0 = f0 ∧ g1 = f1 ∧ g2 = f2 ∧ g3 = f3 ∧ g4 = f4 ∧ g5 = f5 then .ok (a0, a1, a2, a3, a4, a5) else .stuck
  | _ => .stuck
theorem ob6_ok {C f0 f1 f2 f3 f4 f5 : Str} {v : Val} {p : Val × Val × Val × Val × Val × Val} (h : ob6 C f0 f1 f2 f3 f4 f5 v = .ok p) : v = .obj C [(f0, p.1), (f1, p.2.1), (f2, p.2.2.1), (f3, p.2.2.2.1), (f4, p.2.2.2.2.1), (f5, p.2.2.2.2.2)] := by
  unfold ob6 at h
  split at h
  · split at h
    · rename_i z
      obtain ⟨rfl, rfl, rfl, rfl, rfl, rfl, rfl⟩ := z
      cases h
      rfl
    · cases h
  · cases h
@[simp] theorem ob6_obj (C f0 f1 f2 f3 f4 f5 : Str) (a0 a1 a2 a3 a4 a5 : Val) : ob6 C f0 f1 f2 f3 f4 f5 (.obj C [(f0, a0), (f1, a1), (f2, a2), (f3, a3), (f4, a4), (f5, a5)]) = .ok (a0, a1, a2, a3, a4, a5) := by simp [ob6]
theorem evm_ob6 {C f0 f1 f2 f3 f4 f5 : Str} {v : Val} (h : Ev X Γ e (hV T v)) : EvM X Γ e (fun p : Val × Val × Val × Val × Val × Val => hV T (.obj C [(f0, p.1), (f1, p.2.1), (f2, p.2.2.1), (f3, p.2.2.2.1), (f4, p.2.2.2.2.1), (f5, p.2.2.2.2.2)])) (ob6 C f0 f1 f2 f3 f4 f5 v) := fun p q => by
  have z := ob6_ok q
  subst z
  exact h
def ob7 (C f0 f1 f2 f3 f4 f5 f6 : Str) : Val → Rs (Val × Val × Val × Val × Val × Val × Val)
  | .obj C' [(g0, a0), (g1, a1), (g2, a2), (g3, a3), (g4, a4), (g5, a5), (g6, a6)] => if C' = C ∧ g0 = f0 ∧ g1 = f1 ∧ g2 = f2 ∧ g3 = f3 ∧ g4 = f4 ∧ g5 = f5 ∧ g6 = f6 then .ok (a0, a1, a2, a3, a4, a5, a6) else .stuck
  | _ => .stuck
theorem ob7_ok {C f0 f1 f2 f3 f4 f5 f6 : Str} {v : Val} {p : Val × Val × Val × Val × Val × Val × Val} (h : ob7 C f0 f1 f2 f3 f4 f5 f6 v = .ok p) : v = .obj C [(f0, p.1), (f1, p.2.1), (f2, p.2.2.1), (f3, p.2.2.2.1), (f4, p.2.2.2.2.1), (f5, p.2.2.2.2.2.1), (f6, p.2.2.2.2.2.2)] := by
  unfold ob7 at h
  split at h
  · split at h
    · rename_i z
      obtain ⟨rfl, rfl, rfl, rfl, rfl, rfl, rfl, rfl⟩ := z
      cases h
      rfl
    · cases h
  · cases h
@[simp] theorem ob7_obj (C f0 f1 f2 f3 f4 f5 f6 : Str) (a0 a1 a2 a3 a4 a5 a6 : Val) : ob7 C f0 f1 f2 f3 f4 f5 f6 (.obj C [(f0, a0), (f1, a1), (f2, a2), (f3, a3), (f4, a4), (f5, a5), (f6, a6)]) = .ok (a0, a1, a2, a3, a4, a5, a6) := by simp [ob7]
theorem evm_ob7 {C f0 f1 f2 f3 f4 f5 f6 : Str} {v : Val} (h : Ev X Γ e (hV T v)) : EvM X Γ e (fun p : Val × Val × Val × Val × Val × Val × Val => hV T (.obj C [(f0, p.1), (f1, p.2.1), (f2, p.2.2.1), (f3, p.2.2.2.1), (f4, p.2.2.2.2.1), (f5, p.2.2.2.2.2.1), (f6, p.2.2.2.2.2.2)])) (ob7 C f0 f1 f2 f3 f4 f5 f6 v) := fun p q => by
  have z := ob7_ok q
  subst z
  exact h
def ob8 (C f0 f1 f2 f3 f4 f5 f6 f7 : Str) : Val → Rs (Val × Val × Val × Val × Val × Val × Val × Val)
  | .obj C' [(g0, a0), (g1, a1), (g2, a2), (g3, a3), (g4, a4), (g5, a5), (g6, a6), (g7, a7)] => if C' = C ∧ g0 = f0 ∧ g1 = f1 ∧ g2 = f2 ∧ g3 = f3 ∧ g4 = f4 ∧ g5 = f5 ∧ g6 = f6 ∧ g7 = f7 then .ok (a0, a1, a2, a3, a4, a5, a6, a7) else .stuck
  | _ => .stuck
theorem ob8_ok {C f0 f1 f2 f3 f4 f5 f6 f7 : Str} {v : Val} {p : Val × Val × Val × Val × Val × Val × Val × Val} (h : ob8 C f0 f1 f2 f3 f4 f5 f6 f7 v = .ok p) : v = .obj C [(f0, p.1), (f1, p.2.1), (f2, p.2.2.1), (f3, p.2.2.2.1), (f4, p.2.2.2.2.1), (f5, p.2.2.2.2.2.1), (f6, p.2.2.2.2.2.2.1), (f7, p.2.2.2.2.2.2.2)] := by
  unfold ob8 at h
  split at h
  · split at h
    · rename_i z
      obtain ⟨rfl, rfl, rfl, rfl, rfl, rfl, rfl, rfl, rfl⟩ := z
      cases h
      rfl
    · cases h
  · cases h
@[simp] theorem ob8_obj (C f0 f1 f2 f3 f4 f5 f6 f7 : Str) (a0 a1 a2 a3 a4 a5 a6 a7 : Val) : ob8 C f0 f1 f2 f3 f4 f5 f6 f7 (.obj C [(f0, a0), (f1, a1), (f2, a2), (f3, a3), (f4, a4), (f5, a5), (f6, a6), (f7, a7)]) = .ok (a0, a1, a2, a3, a4, a5, a6, a7) := by simp [ob8]
theorem evm_ob8 {C f0 f1 f2 f3 f4 f5 f6 f7 : Str} {v : Val} (h : Ev X Γ e (hV T v)) : EvM X Γ e (fun p : Val × Val × Val × Val × Val × Val × Val × Val => hV T (.obj C [(f0, p.1), (f1, p.2.1), (f2, p.2.2.1), (f3, p.2.2.2.1), (f4, p.2.2.2.2.1), (f5, p.2.2.2.2.2.1), (f6, p.2.2.2.2.2.2.1), (f7, p.2.2.2.2.2.2.2)])) (ob8 C f0 f1 f2 f3 f4 f5 f6 f7 v) := fun p q => by
  have z := ob8_ok q
  subst z
  exact h
def ob9 (C f0 f1 f2 f3 f4 f5 f6 f7 f8 : Str) : Val → Rs (Val × Val × Val × Val × Val × Val × Val × Val × Val)
  | .obj C' [(g0, a0), (g1, a1), (g2, a2), (g3, a3), (g4, a4), (g5, a5), (g6, a6), (g7, a7), (g8, a8)] => if C' = C ∧ g0 = f0 ∧ g1 = f1 ∧ g2 = f2 ∧ g3 = f3 ∧ g4 = f4 ∧ g5 = f5 ∧ g6 = f6 ∧ g7 = f7 ∧ g8 = f8 then .ok (a0, a1, a2, a3, a4, a5, a6, a7, a8) else .stuck
  | _ => .stuck
theorem ob9_ok {C f0 f1 f2 f3 f4 f5 f6 f7 f8 : Str} {v : Val} {p : Val × Val × Val × Val × Val × Val × Val × Val × Val} (h : ob9 C f0 f1 f2 f3 f4 f5 f6 f7 f8 v = .ok p) : v = .obj C [(f0, p.1), (f1, p.2.1), (f2, p.2.2.1), (f3, p.2.2.2.1), (f4, p.2.2.2.2.1), (f5, p.2.2.2.2.2.1), (f6, p.2.2.2.2.2.2.1), (f7, p.2.2.2.2.2.2.2.1), (f8, p.2.2.2.2.2.2.2.2)] := by
  unfold ob9 at h
  split at h
  · split at h
    · rename_i z
      obtain ⟨rfl, rfl, rfl, rfl, rfl, rfl, rfl, rfl, rfl, rfl⟩ := z
      cases h
      rfl
    · cases h
  · cases h
@[simp] theorem ob9_obj (C f0 f1 f2 f3 f4 f5 f6 f7 f8 : Str) (a0 a1 a2 a3 a4 a5 a6 a7 a8 : Val) : ob9 C f0 f1 f2 f3 f4 f5 f6 f7 f8 (.obj C [(f0, a0), (f1, a1), (f2, a2), (f3, a3), (f4, a4), (f5, a5), (f6, a6), (f7, a7), (f8, a8)]) = .ok (a0, a1, a2, a3, a4, a5, a6, a7, a8) := by simp [ob9]
theorem evm_ob9 {C f0 f1 f2 f3 f4 f5 f6 f7 f8 : Str} {v : Val} (h : Ev X Γ e (hV T v)) : EvM X Γ e (fun p : Val × Val × Val × Val × Val × Val × Val × Val × Val => hV T (.obj C [(f0, p.1), (f1, p.2.1), (f2, p.2.2.1), (f3, p.2.2.2.1), (f4, p.2.2.2.2.1), (f5, p.2.2.2.2.2.1), (f6, p.2.2.2.2.2.2.1), (f7, p.2.2.2.2.2.2.2.1), (f8, p.2.2.2.2.2.2.2.2)])) (ob9 C f0 f1 f2 f3 f4 f5 f6 f7 f8 v) := fun p q => by
  have z := ob9_ok q
  subst z
  exact h
/-- what a test of its make told of a value: f of what it handed on -/
class Cast (g : Val → Rs α) (f : outParam (α → Val)) : Prop where
  back : ∀ v x, g v = .ok x → v = f x
  pure : ∀ v x, g v ≠ .err x
instance : Cast asInt .int := ⟨fun v x h => by cases v <;> cases h; rfl, fun v x h => by cases v <;> cases h⟩
instance : Cast asBool .bool := ⟨fun v x h => by cases v <;> cases h; rfl, fun v x h => by cases v <;> cases h⟩
instance : Cast asStr .str := ⟨fun v x h => by cases v <;> cases h; rfl, fun v x h => by cases v <;> cases h⟩
instance : Cast asList .list := ⟨fun v x h => by cases v <;> cases h; rfl, fun v x h => by cases v <;> cases h⟩
instance : Cast asTup .tuple := ⟨fun v x h => by cases v <;> cases h; rfl, fun v x h => by cases v <;> cases h⟩
instance : Cast asDict .dict := ⟨fun v x h => by cases v <;> cases h; rfl, fun v x h => by cases v <;> cases h⟩
instance {C f0 : Str} : Cast (ob1 C f0) (fun p => .obj C [(f0, p)]) := ⟨fun v x h => ob1_ok h, fun v x h => by
  unfold ob1 at h
  split at h
  · split at h <;> cases h
  · cases h⟩
instance {C f0 f1 : Str} : Cast (ob2 C f0 f1) (fun p => .obj C [(f0, p.1), (f1, p.2)]) := ⟨fun v x h => ob2_ok h, fun v x h => by
  unfold ob2 at h
  split at h
  · split at h <;> cases h
  · cases h⟩
instance {C f0 f1 f2 : Str} : Cast (ob3 C f0 f1 f2) (fun p => .obj C [(f0, p.1), (f1, p.2.1), (f2, p.2.2)]) := ⟨fun v x h => ob3_ok h, fun v x h => by
  unfold ob3 at h
  split at h
  · split at h <;> cases h
  · cases h⟩
instance {C f0 f1 f2 f3 : Str} : Cast (ob4 C f0 f1 f2 f3) (fun p => .obj C [(f0, p.1), (f1, p.2.1), (f2, p.2.2.1), (f3, p.2.2.2)]) := ⟨fun v x h => ob4_ok h, fun v x h => by
  unfold ob4 at h
  split at h
  · split at h <;> cases h
  · cases h⟩
instance {C f0 f1 f2 f3 f4 : Str} : Cast (ob5 C f0 f1 f2 f3 f4) (fun p => .obj C [(f0, p.1), (f1, p.2.1), (f2, p.2.2.1), (f3, p.2.2.2.1), (f4, p.2.2.2.2)]) := ⟨fun v x h => ob5_ok h, fun v x h => by
  unfold ob5 at h
  split at h
  · split at h <;> cases h
  · cases h⟩
instance {C f0 f1 f2 f3 f4 f5 : Str} : Cast (ob6 C f0 f1 f2 f3 f4 f5) (fun p => .obj C [(f0, p.1), (f1, p.2.1), (f2, p.2.2.1), (f3, p.2.2.2.1), (f4, p.2.2.2.2.1), (f5, p.2.2.2.2.2)]) := ⟨fun v x h => ob6_ok h, fun v x h => by
  unfold ob6 at h
  split at h
  · split at h <;> cases h
  · cases h⟩
instance {C f0 f1 f2 f3 f4 f5 f6 : Str} : Cast (ob7 C f0 f1 f2 f3 f4 f5 f6) (fun p => .obj C [(f0, p.1), (f1, p.2.1), (f2, p.2.2.1), (f3, p.2.2.2.1), (f4, p.2.2.2.2.1), (f5, p.2.2.2.2.2.1), (f6, p.2.2.2.2.2.2)]) := ⟨fun v x h => ob7_ok h, fun v x h => by
  unfold ob7 at h
  split at h
  · split at h <;> cases h
  · cases h⟩
instance {C f0 f1 f2 f3 f4 f5 f6 f7 : Str} : Cast (ob8 C f0 f1 f2 f3 f4 f5 f6 f7) (fun p => .obj C [(f0, p.1), (f1, p.2.1), (f2, p.2.2.1), (f3, p.2.2.2.1), (f4, p.2.2.2.2.1), (f5, p.2.2.2.2.2.1), (f6, p.2.2.2.2.2.2.1), (f7, p.2.2.2.2.2.2.2)]) := ⟨fun v x h => ob8_ok h, fun v x h => by
  unfold ob8 at h
  split at h
  · split at h <;> cases h
  · cases h⟩
instance {C f0 f1 f2 f3 f4 f5 f6 f7 f8 : Str} : Cast (ob9 C f0 f1 f2 f3 f4 f5 f6 f7 f8) (fun p => .obj C [(f0, p.1), (f1, p.2.1), (f2, p.2.2.1), (f3, p.2.2.2.1), (f4, p.2.2.2.2.1), (f5, p.2.2.2.2.2.1), (f6, p.2.2.2.2.2.2.1), (f7, p.2.2.2.2.2.2.2.1), (f8, p.2.2.2.2.2.2.2.2)]) := ⟨fun v x h => ob9_ok h, fun v x h => by
  unfold ob9 at h
  split at h
  · split at h <;> cases h
  · cases h⟩
theorem set_self {l : List Sl} {i : Nat} {a : Sl} (h : l[i]? = some a) : l.set i a = l := by
  refine List.ext_getElem? fun j => ?_
  by_cases z : i = j
  · subst z
    rw [h, List.getElem?_set_self (List.getElem?_eq_some_iff.mp h).1]
  · rw [List.getElem?_set_ne z]
/-- a slot is told better -/
theorem blm_cast {g : Val → Rs β} {f : β → Val} [hc : Cast g f] {v : Val} {mk : β → Rs α} (i : Nat) (t : ∀ x, BlM X W D gh (Γ.set i (vl (rD T (f x)))) ss (mk x) P Z) (hi : Γ[i]? = some (vl (rD T v)) := by rfl) : BlM X W D gh Γ ss (g v >>= mk) P Z := fun q => by
  cases e : g v with
  | ok x =>
    rw [e] at q
    have z := t x q
    rw [← hc.back v x e, set_self hi] at z
    exact z
  | err x => exact (hc.pure v x e).elim
  | stuck => rw [e] at q; exact q.elim
theorem blm_castB {g : Val → Rs β} {f : β → Val} [hc : Cast g f] {v : Val} {mk : β → Rs α} (i : Nat) (t : ∀ x, BlM X W D gh (Γ.set i (vl (bV T (f x)))) ss (mk x) P Z) (hi : Γ[i]? = some (vl (bV T v)) := by rfl) : BlM X W D gh Γ ss (g v >>= mk) P Z := fun q => by
  cases e : g v with
  | ok x =>
    rw [e] at q
    have z := t x q
    rw [← hc.back v x e, set_self hi] at z
    exact z
  | err x => exact (hc.pure v x e).elim
  | stuck => rw [e] at q; exact q.elim
theorem blm_castO {g : Val → Rs β} {f : β → Val} [hc : Cast g f] {v : Val} {mk : β → Rs α} (i : Nat) (t : ∀ x, BlM X W D gh (Γ.set i (.ow (cV T (f x)))) ss (mk x) P Z) (hi : Γ[i]? = some (.ow (cV T v)) := by rfl) : BlM X W D gh Γ ss (g v >>= mk) P Z := fun q => by
  cases e : g v with
  | ok x =>
    rw [e] at q
    have z := t x q
    rw [← hc.back v x e, set_self hi] at z
    exact z
  | err x => exact (hc.pure v x e).elim
  | stuck => rw [e] at q; exact q.elim
/-- what is reckoned is told better -/
theorem evm_as {g : Val → Rs β} {f : β → Val} [hc : Cast g f] {me : Rs Val} (h : EvM X Γ e (fun v => rD T v) me) : EvM X Γ e (fun x => rD T (f x)) (me >>= g) := fun x q => by
  obtain ⟨v, h1, h2⟩ := Rs.of_bind q
  show Ev X Γ e (rD T (f x))
  rw [← hc.back v x h2]
  exact h v h1
theorem eom_as {g : Val → Rs β} {f : β → Val} [hc : Cast g f] {me : Rs Val} (h : EoM X Γ e (fun v => cV T v) me) : EoM X Γ e (fun x => cV T (f x)) (me >>= g) := fun x q => by
  obtain ⟨v, h1, h2⟩ := Rs.of_bind q
  show EvO X Γ e (cV T (f x))
  rw [← hc.back v x h2]
  exact h v h1
/-- one value, told better, as it stands (r), still (b), now (h) -/
theorem evm_cast {g : Val → Rs β} {f : β → Val} [hc : Cast g f] {v : Val} (h : Ev X Γ e (rD T v)) : EvM X Γ e (fun x => rD T (f x)) (g v) := fun x q => by
  show Ev X Γ e (rD T (f x))
  rw [← hc.back v x q]
  exact h
theorem evm_castB {g : Val → Rs β} {f : β → Val} [hc : Cast g f] {v : Val} (h : Ev X Γ e (bV T v)) : EvM X Γ e (fun x => bV T (f x)) (g v) := fun x q => by
  show Ev X Γ e (bV T (f x))
  rw [← hc.back v x q]
  exact h
theorem evm_castH {g : Val → Rs β} {f : β → Val} [hc : Cast g f] {v : Val} (h : Ev X Γ e (hV T v)) : EvM X Γ e (fun x => hV T (f x)) (g v) := fun x q => by
  show Ev X Γ e (hV T (f x))
  rw [← hc.back v x q]
  exact h
/-- ints and their like are the same frozen or not -/
theorem ev_hr {v : Val} (h : Ev X Γ e (hV T v)) (hv : v.own = false := by rfl) : Ev X Γ e (rD T v) := ev_imp h fun _ _ _ _ _ _ p => h_of hv p
/-- a target that is an int -/
theorem tgm_as {g : Val → Rs β} {f : β → Val} [hc : Cast g f] (xf : XV X N nm) (i : Nat) (hN : N[i]? = some x := by rfl) (hl : locB nm x = true := by decide +kernel) (hf : X.fn x = true ∨ X.env.scope.names.lookup x = some .local) : TgM T X Γ (.Name x pos) g (fun v => Γ.set i (vl (rD T (f v)))) [i] := fun v y q => by
  rw [hc.back v y q]
  exact tg_name xf i hN hl hf
/-- a return within a loop -/
theorem blm_retF {Γs : τ → List Sl} {D' : Ends} {me : Rs Val} (h : EvM X Γ e (fun v => rD T v) me) (hr : D.rt = D'.rt := by rfl) : BlM X W D gh Γ (.Return (some e) pos :: ss) (me.ne >>= fun v => .ok (.ret v)) (PF T W gh Γs D') Z := fun q => by
  obtain ⟨v, hv, q⟩ := Rs.ho_ne (Rs.ho_bind q)
  exact blk_ret (h v hv) fun x F1 H1 y z => by rw [hr]; exact q x F1 H1 y z
theorem blm_cont {Γs : τ → List Sl} {D' : Ends} (u : τ) (h : SlAll Γ (Γs u)) (hr : D.ct = D'.ct := by rfl) : BlM X W D gh Γ (.Continue pos :: ss) (.ok (.go u)) (PF T W gh Γs D') Z := fun q => blk_ps ps_continue fun σ F G H E => by
  show D.ct σ H
  rw [hr]
  exact (q σ H ⟨F, G, E.le h⟩).2
theorem blm_brk {Γs : τ → List Sl} {D' : Ends} (u : τ) (h : SlAll Γ (Γs u)) (hr : D.bk = D'.bk := by rfl) : BlM X W D gh Γ (.Break pos :: ss) (.ok (.brk u)) (PF T W gh Γs D') Z := fun q => blk_ps ps_break fun σ F G H E => by
  show D.bk σ H
  rw [hr]
  exact q σ H ⟨F, G, E.le h⟩
/-- the end of a branch in a loop's body -/
theorem blm_nextG {Γs : τ → List Sl} {D' : Ends} (u : τ) (h : SlAll Γ (Γs u)) (hn : ∀ σ H, D'.nx σ H → D.nx σ H := by exact fun _ _ z => z) : BlM X W D gh Γ [] (.ok (.go u)) (PF T W gh Γs D') Z := fun q => blk_nil fun σ F G H E => hn σ H (q σ H ⟨F, G, E.le h⟩).1
theorem StAll.hV {d : Val} {As : List Rp} {l : List Sl} (t : StAll As l) : StAll (L3.hV T d :: As) (L3.vl (bV T d) :: l) := .as (fun _ _ _ p => p) t
abbrev tx (w : World) (K : PySem.W.Frag) : Tx := ⟨w, K⟩
/-- the made instance, at the end of __init__ -/
theorem blm_made {z : Addr} {C : Str} {fs : List (Str × Val)} (hi : Γ[0]? = some (.ow (cZ T z C fs)) := by rfl) : BlM X W D gh Γ [] (.ok (.obj C fs) : Rs Val) (RetI T W D z) Z := fun q => blk_frzZ 0 hi (blk_nil fun σ F G H E => by
  have hlt := (List.getElem?_eq_some_iff.mp hi).1
  obtain ⟨v, e, p⟩ := E.vl 0 (rZ T z (.obj C fs)) inferInstance (by rw [List.getElem?_set_self hlt])
  obtain ⟨ev, p⟩ := p
  subst ev
  exact q σ F H E.toExt p)
theorem blm_madeF {z : Addr} {v : Val} (hi : Γ[0]? = some (vl (rZ T z v)) := by rfl) : BlM X W D gh Γ [] (.ok v : Rs Val) (RetI T W D z) Z := fun q => blk_nil fun σ F G H E => by
  obtain ⟨u, e, p⟩ := E.vl 0 _ _ hi
  obtain ⟨ev, p⟩ := p
  subst ev
  exact q σ F H E.toExt p
theorem blm_fld {me : Rs Val} {mk : Val → Rs α} {z : Addr} {C at_ : Str} {fs : List (Str × Val)} (xb : XB X N nm k) (i : Nat) (h : EvM X Γ e (fun v => rD T v) me) (c : Cls X.K (He.ga X.K C)) (n : NoAttr X.K (He.ga X.K C) at_) (t : ∀ v, BlM X W D gh (Γ.set i (.ow (cZ T z C (setF at_ v fs)))) ss (mk v) P Z) (hi : Γ[i]? = some (.ow (cZ T z C fs)) := by rfl) (hlt : fs.length < 1000 := by exact Nat.le_of_ble_eq_true rfl) (hN : N[i]? = some x := by rfl) (hK : X.K = T.K := by rfl)
    (hv : visB nm x = true := by decide +kernel) (hd : (x == ("__debug__" : Str)) = false := by decide +kernel) (hcd : (x == ("__classdict__" : Str)) = false := by decide +kernel)
    (hs : swapsWith e (some (.Attribute (.Name x np) at_ p)) pos.line X.env = pure false := by rfl) : BlM X W D gh Γ (.Assign [.Attribute (.Name x np) at_ p] e pos :: ss) (me.ne >>= mk) P Z := fun q => by
  obtain ⟨v, hv', q⟩ := Rs.ho_ne (Rs.ho_bind q)
  exact blk_fld xb i (h v hv') c n (t v q) hi hlt hN hK hv hd hcd hs
theorem blm_frzZ {z : Addr} {C : Str} {fs : List (Str × Val)} (i : Nat) (t : BlM X W D gh (Γ.set i (vl (rZ T z (.obj C fs)))) ss m P Z) (hi : Γ[i]? = some (.ow (cZ T z C fs)) := by rfl) : BlM X W D gh Γ ss m P Z := fun q => blk_frzZ i hi (t q)
end L3
/-! U, part t: dicts of any keys: the steps of the machine, the readings. -/
namespace L3
open PySem PySem.Spec PyProof.Rows L2
section
variable {prog : Program} {w : World} {A : Around} {E : Value → Shared → Prop} {s : Shared} {d : Addr} {xs : List Ent} {k : NestedKey} {u v : Value}
theorem hashG {Q : Int → Shared → Prop} (hu : A.units + 8 < cLine) (hk : KIs s.heap k u) (h : Q (k.hash w) { s with toks := s.toks + k.draws }) : wpAny (model prog w) A (pyHash u) Q E s :=
  pyHash_key k u A s Q hk.1 (by
    have := hk.2
    omega) h
theorem getG {Q : Option Value → Shared → Prop} (hu : A.units + 8 < cLine) (hk : KIs s.heap k u) (hm : DicG w s.heap d xs) (h : Q (valG xs k) { s with toks := s.toks + k.draws }) : wpAny (model prog w) A (dictGet d u) Q E s := by
  obtain ⟨o, es, ep, ho, _, hd, he, his, hn⟩ := hm
  unfold dictGet
  try with_reducible refine wpAny_holding ?_
  refine wpAny_bind (hashG hu hk (wpAny_bind (findG (s := { s with toks := s.toks + k.draws }) hu hk ho hd he his hn ?_)))
  cases e : placeG xs k with
  | none =>
    rw [(placeG_none e).1] at h
    exact wpAny_pure h
  | some j =>
    obtain ⟨x, h1, _, h3⟩ := placeG_some e
    rw [h3] at h
    refine wpAny_bind (wpAny_dictEntries (s := { s with toks := s.toks + k.draws }) ho hd ?_)
    rw [entG_at he j, h1]
    exact wpAny_pure h
theorem setG {Q : Unit → Shared → Prop} (hu : A.units + 8 < cLine) (hk : KIs s.heap k u) (hm : DicG w s.heap d xs) (hz : xs.length ≤ sizeLine)
    (hQ : ∀ h', DicG w h' d (storeG xs k u v) → Heap.SameBut d s.heap h' → Q () { s with heap := h', toks := s.toks + k.draws }) : wpAny (model prog w) A (dictSet d u v) Q E s := by
  obtain ⟨o, es, ep, ho, hc, hd, he, his, hn⟩ := hm
  unfold dictSet
  try with_reducible refine wpAny_holding ?_
  refine wpAny_bind (hashG hu hk ?_)
  unfold dictSetHashed
  try with_reducible refine wpAny_holding ?_
  refine wpAny_bind (findG (s := { s with toks := s.toks + k.draws }) hu hk ho hd he his hn ?_)
  cases e : placeG xs k with
  | none =>
    obtain ⟨hv, hno⟩ := placeG_none e
    have es' : storeG xs k u v = xs ++ [(k, u, v)] := by
      unfold storeG
      rw [hv]
      rfl
    rw [es'] at hQ
    refine wpAny_bind (wpAny_rule (wpAny_updateDictKeys (hz := by have q := entG_size he; omega) (s := { s with toks := s.toks + k.draws }) ho hd (hQ _ ⟨_, _, ep + 1, Heap.get?_update_self _ ho (Obj.isFreed_of_dict (Obj.data_mapDictKeys hd _)), hc.mapDictKeys _, Obj.data_mapDictKeys hd _, ?_, fun x hx => ?_, ?_⟩ (Heap.SameBut.update ..))))
    · simp [he, entG]
    · rcases List.mem_append.mp hx with hx | hx
      · exact (his x hx).same ho hd (Heap.SameBut.update ..)
      · rw [List.mem_singleton] at hx
        subst hx
        exact hk.same ho hd (Heap.SameBut.update ..)
    · rw [List.map_append, List.nodup_append]
      refine ⟨hn, by simp, fun x hx y hy => ?_⟩
      simp only [List.map_cons, List.map_nil, List.mem_singleton] at hy
      subst hy
      exact fun z => hno (z ▸ hx)
  | some j =>
    obtain ⟨x0, h1, _, h3⟩ := placeG_some e
    have es' : storeG xs k u v = xs.map (putV k v) := by
      unfold storeG
      rw [h3]
      rfl
    rw [es'] at hQ
    refine wpAny_bind (wpAny_rule (wpAny_bind (wpAny_updateDict (s := { s with toks := s.toks + k.draws }) ho hd (wpAny_point (hQ _ ⟨_, _, ep, Heap.get?_update_self _ ho (Obj.isFreed_of_dict (Obj.data_mapDict hd _)), hc.mapDict _, Obj.data_mapDict hd _, ?_, fun x hx => ?_, ?_⟩ (Heap.SameBut.update ..))))))
    · have z := modify_putV w (v := v) hn e
      rw [← he] at z
      obtain ⟨l⟩ := es
      simpa using z
    · obtain ⟨y, hy, rfl⟩ := List.mem_map.mp hx
      unfold putV
      split <;> exact (his y hy).same ho hd (Heap.SameBut.update ..)
    · rw [keys_putV]
      exact hn
theorem inG {Q : Value → Shared → Prop} (hu : A.in1.units + 8 < cLine) (hk : KIs s.heap k u) (hS : (d == sysModules) = false) (hm : DicG w s.heap d xs) (h : Q (.bool (valG xs k).isSome) { s with toks := s.toks + k.draws }) : wpAny (model prog w) A (compareOp .In u (.ref d)) Q E s := by
  show wpAny _ _ (contains (.ref d) u >>= fun r => pure (.bool r)) Q E s
  refine wpAny_bind ?_
  unfold contains
  try with_reducible refine wpAny_holding ?_
  refine wpAny_bind (wpAny_specialOf hm.ty slot_dict_contains.lookup ?_)
  show wpAny _ _ (if (some (Value.builtin "dict.__contains__") == some Value.none) = true then _ else _) _ E s
  rw [if_neg (by rw [beq_builtin_none]; exact Bool.false_ne_true)]
  refine wpAny_bind (wpAny_callSpecialUnlessNone?_slot (name := Str.ofString "__contains__") hm.ty slot_dict_contains (wpAny_call_entry slot_dict_contains hm.ty entry_dict_contains ?_ (args_dict_contains _ _)))
  show wpAny _ _ (dictGet d u >>= _) _ _ s
  refine wpAny_bind (getG hu hk hm ?_)
  cases e : valG xs k with
  | some p =>
    rw [e] at h
    show wpAny _ _ (ret (.bool true)) _ _ _
    exact wpAny_pure ⟨_, rfl, wpAny_truthy_bool (wpAny_pure h)⟩
  | none =>
    rw [e] at h
    show wpAny _ _ (Builtin.Dict.pendingKey? d u >>= _) _ _ _
    exact wpAny_bind (wpAny_pendingKey_other hS (wpAny_pure ⟨_, rfl, wpAny_truthy_bool (wpAny_pure h)⟩))
theorem notInG {Q : Value → Shared → Prop} (hu : A.in1.units + 8 < cLine) (hk : KIs s.heap k u) (hS : (d == sysModules) = false) (hm : DicG w s.heap d xs) (h : Q (.bool (!(valG xs k).isSome)) { s with toks := s.toks + k.draws }) : wpAny (model prog w) A (compareOp .NotIn u (.ref d)) Q E s := by
  show wpAny _ _ (contains (.ref d) u >>= fun r => pure (.bool (!r))) Q E s
  refine wpAny_bind ?_
  unfold contains
  try with_reducible refine wpAny_holding ?_
  refine wpAny_bind (wpAny_specialOf hm.ty slot_dict_contains.lookup ?_)
  show wpAny _ _ (if (some (Value.builtin "dict.__contains__") == some Value.none) = true then _ else _) _ E s
  rw [if_neg (by rw [beq_builtin_none]; exact Bool.false_ne_true)]
  refine wpAny_bind (wpAny_callSpecialUnlessNone?_slot (name := Str.ofString "__contains__") hm.ty slot_dict_contains (wpAny_call_entry slot_dict_contains hm.ty entry_dict_contains ?_ (args_dict_contains _ _)))
  show wpAny _ _ (dictGet d u >>= _) _ _ s
  refine wpAny_bind (getG hu hk hm ?_)
  cases e : valG xs k with
  | some p =>
    rw [e] at h
    show wpAny _ _ (ret (.bool true)) _ _ _
    exact wpAny_pure ⟨_, rfl, wpAny_truthy_bool (wpAny_pure h)⟩
  | none =>
    rw [e] at h
    show wpAny _ _ (Builtin.Dict.pendingKey? d u >>= _) _ _ _
    exact wpAny_bind (wpAny_pendingKey_other hS (wpAny_pure ⟨_, rfl, wpAny_truthy_bool (wpAny_pure h)⟩))
theorem itemG {Q : Value → Shared → Prop} (hu : A.in1.units + 8 < cLine) (hk : KIs s.heap k u) (hm : DicG w s.heap d xs) (hv : valG xs k = some v) (h : Q v { s with toks := s.toks + k.draws }) : wpAny (model prog w) A (getItem (.ref d) u) Q E s := by
  unfold getItem
  try with_reducible refine wpAny_holding ?_
  refine wpAny_bind (wpAny_sequenceKey hm.ty (by decide) ?_)
  refine wpAny_bind (wpAny_callSpecial?_slot (name := Str.ofString "__getitem__") hm.ty slot_dict_getitem (wpAny_call_entry slot_dict_getitem hm.ty entry_dict_getitem ?_ (args_dict_getitem _ _)))
  show wpAny _ _ (dictGet d u >>= _) _ _ s
  refine wpAny_bind (getG hu hk hm ?_)
  rw [hv]
  exact wpAny_pure ⟨v, rfl, wpAny_pure h⟩
theorem setItemG {Q : Unit → Shared → Prop} (hu : A.in1.units + 8 < cLine) (hk : KIs s.heap k u) (hm : DicG w s.heap d xs) (hz : xs.length ≤ sizeLine)
    (hQ : ∀ h', DicG w h' d (storeG xs k u v) → Heap.SameBut d s.heap h' → Q () { s with heap := h', toks := s.toks + k.draws }) : wpAny (model prog w) A (setItem (.ref d) u v) Q E s := by
  unfold setItem
  try with_reducible refine wpAny_holding ?_
  refine wpAny_bind (wpAny_sequenceKey hm.ty (by decide) ?_)
  refine wpAny_bind (wpAny_callSpecial?_slot (name := Str.ofString "__setitem__") hm.ty slot_dict_setitem (wpAny_call_entry slot_dict_setitem hm.ty entry_dict_setitem ?_ (args_dict_setitem _ _ _)))
  show wpAny _ _ (Builtin.Dict.notOrdered "__setitem__" ⟨[.ref d, u, v], []⟩ >>= _) _ _ s
  refine wpAny_bind (wpAny_notOrdered_dict hm.ty ?_)
  show wpAny _ _ (dictSet d u v >>= _) _ _ s
  exact wpAny_bind (setG hu hk hm hz fun h' hm' hs' => wpAny_pure ⟨.none, rfl, wpAny_pure (hQ h' hm' hs')⟩)
theorem meetsG_get (hS : (d == sysModules) = false) : MeetsIn prog w (Builtin.«dict.get» ⟨[.ref d, u], []⟩) (fun A R s => A.in1.units + 8 < cLine ∧ ∃ k xs, KIs s.heap k u ∧ DicG w s.heap d xs ∧ R (.ok (.ret ((valG xs k).getD .none))) { s with toks := s.toks + k.draws }) :=
  .of_wp fun A R s ⟨hu, k, xs, hk, hm, h⟩ => by
    show wpAny _ _ (dictGet d u >>= _) _ _ s
    refine wpAny_bind (getG hu hk hm ?_)
    cases e : valG xs k with
    | some v =>
      rw [e] at h
      exact wpAny_pure ⟨v, rfl, h⟩
    | none =>
      rw [e] at h
      show wpAny _ _ (Builtin.Dict.missed d u >>= _) _ _ _
      exact wpAny_bind (wpAny_missed_other hS (wpAny_pure ⟨.none, rfl, h⟩))
theorem meetsG_get2 (hS : (d == sysModules) = false) (dflt : Value) : MeetsIn prog w (Builtin.«dict.get» ⟨[.ref d, u, dflt], []⟩) (fun A R s => A.in1.units + 8 < cLine ∧ ∃ k xs, KIs s.heap k u ∧ DicG w s.heap d xs ∧ R (.ok (.ret ((valG xs k).getD dflt))) { s with toks := s.toks + k.draws }) :=
  .of_wp fun A R s ⟨hu, k, xs, hk, hm, h⟩ => by
    show wpAny _ _ (dictGet d u >>= _) _ _ s
    refine wpAny_bind (getG hu hk hm ?_)
    cases e : valG xs k with
    | some v =>
      rw [e] at h
      exact wpAny_pure ⟨v, rfl, h⟩
    | none =>
      rw [e] at h
      show wpAny _ _ (Builtin.Dict.missed d u >>= _) _ _ _
      exact wpAny_bind (wpAny_missed_other hS (wpAny_pure ⟨dflt, rfl, h⟩))
end
end L3
/-! U, part u: dicts by the values that they stand for. -/
namespace L3
open PySem PySem.Spec PyProof.Rows L2
/-! ### plain -/
def dlook (kvs : List (Val × Val)) (k : Val) : Option Val := (kvs.find? fun e => decide (keyN e.1 = keyN k)).map (·.2)
def dput (kvs : List (Val × Val)) (k v : Val) : List (Val × Val) := if (dlook kvs k).isSome then kvs.map fun e => if keyN e.1 = keyN k then (e.1, v) else e else kvs ++ [(k, v)]
def keyC (k : Val) : Rs Unit := match keyN k with
  | some n => if n.depth ≤ 8 then .ok () else .stuck
  | none => .stuck
def dhasM (kvs : List (Val × Val)) (k : Val) : Rs Bool := keyC k >>= fun _ => .ok (dlook kvs k).isSome
def dgetM (kvs : List (Val × Val)) (k : Val) : Rs Val := keyC k >>= fun _ => match dlook kvs k with
  | some v => .ok v
  | none => .stuck
def dgetD (kvs : List (Val × Val)) (k d : Val) : Rs Val := keyC k >>= fun _ => .ok ((dlook kvs k).getD d)
def dputM (kvs : List (Val × Val)) (k v : Val) : Rs (List (Val × Val)) := keyC k >>= fun _ => if kvs.length < BIG then .ok (dput kvs k v) else .stuck
theorem keyC_ok {k : Val} {u : Unit} (h : keyC k = .ok u) : ∃ n, keyN k = some n ∧ n.depth ≤ 8 := by
  unfold keyC at h
  split at h
  · rename_i n e
    split at h
    · exact ⟨n, e, by assumption⟩
    · cases h
  · cases h
theorem keyNs_some {x : Val} {xs : List Val} {ns : List NestedKey} (h : keyNs (x :: xs) = some ns) : ∃ n m, ns = n :: m ∧ keyN x = some n ∧ keyNs xs = some m := by
  unfold keyNs at h
  cases h1 : keyN x with
  | none => rw [h1] at h; cases h
  | some n =>
    cases h2 : keyNs xs with
    | none => rw [h1, h2] at h; cases h
    | some m =>
      rw [h1, h2] at h
      cases h
      exact ⟨n, m, rfl, rfl, rfl⟩
variable {T : Tx}
/-! ### the heap -/
section
variable {P : Program} {w : World} {H : Hp} {h : Heap}
mutual
theorem key_is (ok : HOk P w H h) : ∀ (k : Val) (n : NestedKey) (x : V) (u : Value), Dt T H x k → keyN k = some n → RelV x u → NestedIs h n u
  | .none, n, x, u, d, e, r => by cases d; cases e; cases r; exact .none
  | .int i, n, x, u, d, e, r => by cases d; cases e; obtain ⟨t, rfl⟩ := r; exact .int i t
  | .str i, n, x, u, d, e, r => by cases d; cases e; obtain ⟨t, rfl⟩ := r; exact .text i t
  | .tuple ks, n, x, u, d, e, r => by
    cases d with
    | tup ha hs =>
      unfold keyN at e
      cases q : keyNs ks with
      | none => rw [q] at e; cases e
      | some ns =>
        rw [q] at e
        cases e
        cases r
        obtain ⟨_, its, rv, o, ho, hc, hd⟩ := ok _ _ ha
        obtain ⟨m, hd⟩ : ∃ m, o.data = .seq its.toArray m := by first | exact ⟨_, hd⟩ | exact hd | exact ⟨_, hd.2⟩ | exact hd.2
        exact .tup ho hc hd (by simpa using keys_is ok ks ns _ its hs q rv)
  | .bool _, _, _, _, _, e, _ => by cases e
  | .list _, _, _, _, _, e, _ => by cases e
  | .dict _, _, _, _, _, e, _ => by cases e
  | .obj _ _, _, _, _, _, e, _ => by cases e
theorem keys_is (ok : HOk P w H h) : ∀ (ks : List Val) (ns : List NestedKey) (xs : List V) (us : List Value), DtAll T H xs ks → keyNs ks = some ns → Vals xs us → NestedAll h ns us
  | [], ns, xs, us, d, e, r => by cases d; cases e; cases r; exact .nil
  | k :: ks, ns, xs, us, d, e, r => by
    cases d with
    | cons d1 d2 =>
      obtain ⟨n, m, rfl, e1, e2⟩ := keyNs_some e
      cases r with
      | cons r1 r2 => exact .cons (key_is ok k n _ _ d1 e1 r1) (keys_is ok ks m _ _ d2 e2 r2)
end
theorem key_kis (ok : HOk P w H h) {k : Val} {n : NestedKey} {x : V} {u : Value} (d : Dt T H x k) (e : keyN k = some n) (l : n.depth ≤ 8) (r : RelV x u) : KIs h n u := ⟨key_is ok k n x u d e r, l⟩
theorem ent_kis (ok : HOk P w H h) : ∀ {es : List Ent} {kvs : List (Val × Val)}, DtEnt T H es kvs → ∀ x ∈ es, KIs h x.1 x.2.1
  | _, _, .nil, _, hx => nomatch hx
  | _, _, .cons r1 r2 h1 h2 kn kd t, x, hx => by
    rcases List.mem_cons.mp hx with rfl | hx
    · exact key_kis ok h1 kn kd r1
    · exact ent_kis ok t x hx
theorem raw_dic (ok : HOk P w H h) {a : Addr} {es : List Ent} {ep : Nat} {kvs : List (Val × Val)} (ha : H a = some (.ext (RawD w a es ep))) (hn : (es.map (·.1)).Nodup) (d : DtEnt T H es kvs) : DicG w h a es ∧ (a == sysModules) = false ∧ es.length ≤ sizeLine := by
  obtain ⟨⟨⟨z1, z2⟩, o, xs, h1, h2, h3, h4⟩, _⟩ := ok _ _ ha
  exact ⟨⟨o, xs, ep, h1, h2, h3, h4, ent_kis ok d, hn⟩, z1, z2⟩
theorem raw_raw (ok : HOk P w H h) {a : Addr} {es : List Ent} {ep : Nat} (ha : H a = some (.ext (RawD w a es ep))) : (a == sysModules) = false ∧ es.length ≤ sizeLine ∧ ∃ xs, h.DictRaw a xs ep ∧ xs.toList = es.map (entG w) := by
  obtain ⟨⟨⟨z1, z2⟩, o, xs, h1, h2, h3, h4⟩, _⟩ := ok _ _ ha
  exact ⟨z1, z2, xs, ⟨o, h1, h2, h3⟩, h4⟩
theorem ent_len {F : Hp} : ∀ {es : List Ent} {kvs : List (Val × Val)}, DtEnt T F es kvs → es.length = kvs.length
  | _, _, .nil => rfl
  | _, _, .cons _ _ _ _ _ _ t => by rw [List.length_cons, List.length_cons, ent_len t]
/-- what stands at a key -/
theorem ent_val {F : Hp} {k : Val} {n : NestedKey} (e : keyN k = some n) : ∀ {es : List Ent} {kvs : List (Val × Val)}, DtEnt T F es kvs → (valG es n = none ∧ dlook kvs k = none) ∨ ∃ u v y, valG es n = some u ∧ dlook kvs k = some v ∧ RelV y u ∧ Dt T F y v
  | _, _, .nil => .inl ⟨rfl, rfl⟩
  | (n', ku, vu) :: es, (k', v') :: kvs, .cons r1 r2 h1 h2 kn kd t => by
    by_cases z : n' = n
    · refine .inr ⟨vu, v', _, ?_, ?_, r2, h2⟩
      · unfold valG
        rw [List.find?_cons, decide_eq_true z]
        rfl
      · unfold dlook
        rw [List.find?_cons, decide_eq_true (by rw [kn, e, z])]
        rfl
    · have e1 : valG ((n', ku, vu) :: es) n = valG es n := by
        unfold valG
        rw [List.find?_cons, decide_eq_false z]
      have e2 : dlook ((k', v') :: kvs) k = dlook kvs k := by
        unfold dlook
        rw [List.find?_cons, decide_eq_false (by rw [kn, e]; exact fun q => z (Option.some.inj q))]
      rw [e1, e2]
      exact ent_val e t
theorem ent_map {F : Hp} {k v : Val} {n : NestedKey} {y : V} {u : Value} (e : keyN k = some n) (r : RelV y u) (p : Dt T F y v) : ∀ {es : List Ent} {kvs : List (Val × Val)}, DtEnt T F es kvs → DtEnt T F (es.map (putV n u)) (kvs.map fun e => if keyN e.1 = keyN k then (e.1, v) else e)
  | _, _, .nil => .nil
  | (n', ku, vu) :: es, (k', v') :: kvs, .cons r1 r2 h1 h2 kn kd t => by
    rw [List.map_cons, List.map_cons]
    by_cases z : n' = n
    · rw [show putV n u (n', ku, vu) = (n', ku, u) by unfold putV; rw [if_pos z], if_pos (by rw [kn, e, z])]
      exact .cons r1 r h1 p kn kd (ent_map e r p t)
    · rw [show putV n u (n', ku, vu) = (n', ku, vu) by unfold putV; rw [if_neg z], if_neg (by rw [kn, e]; exact fun q => z (Option.some.inj q))]
      exact .cons r1 r2 h1 h2 kn kd (ent_map e r p t)
theorem ent_snoc {F : Hp} {k v : Val} {n : NestedKey} {x y : V} {ku u : Value} (e : keyN k = some n) (l : n.depth ≤ 8) (rk : RelV x ku) (pk : Dt T F x k) (r : RelV y u) (p : Dt T F y v) : ∀ {es : List Ent} {kvs : List (Val × Val)}, DtEnt T F es kvs → DtEnt T F (es ++ [(n, ku, u)]) (kvs ++ [(k, v)])
  | _, _, .nil => .cons rk r pk p e l .nil
  | _, _, .cons r1 r2 h1 h2 kn kd t => .cons r1 r2 h1 h2 kn kd (ent_snoc e l rk pk r p t)
theorem ent_put {F : Hp} {k v : Val} {n : NestedKey} {x y : V} {ku u : Value} (e : keyN k = some n) (l : n.depth ≤ 8) (rk : RelV x ku) (pk : Dt T F x k) (r : RelV y u) (p : Dt T F y v) {es : List Ent} {kvs : List (Val × Val)} (d : DtEnt T F es kvs) : DtEnt T F (storeG es n ku u) (dput kvs k v) := by
  unfold storeG dput
  rcases ent_val e d with ⟨e1, e2⟩ | ⟨_, _, _, e1, e2, _⟩
  · rw [e1, e2]
    exact ent_snoc e l rk pk r p d
  · rw [e1, e2]
    exact ent_map e r p d
theorem nodup_store {es : List Ent} {n : NestedKey} {ku u : Value} (h : (es.map (·.1)).Nodup) : ((storeG es n ku u).map (·.1)).Nodup := by
  unfold storeG
  cases q : placeG es n with
  | none =>
    rw [(placeG_none q).1]
    rw [show (if (none : Option Value).isSome = true then es.map (putV n u) else es ++ [(n, ku, u)]) = es ++ [(n, ku, u)] from rfl, List.map_append, List.nodup_append]
    refine ⟨h, by simp, fun x hx y hy => ?_⟩
    simp only [List.map_cons, List.map_nil, List.mem_singleton] at hy
    subst hy
    exact fun z => (placeG_none q).2 (z ▸ hx)
  | some i =>
    obtain ⟨x, _, _, e⟩ := placeG_some q
    rw [e]
    rw [show (if (some x.2.2).isSome = true then es.map (putV n u) else es ++ [(n, ku, u)]) = es.map (putV n u) from rfl, keys_putV]
    exact h
end
end L3
/-! U, part w: dicts: tests, look-ups, walks. -/
namespace L3
open PySem PySem.Spec PyProof.Rows L2
variable {T : Tx}
/-! ### readings -/
/-- a dict stands at x -/
def DAt (X : Cx) (H : Hp) (x : V) (es : List Ent) : Prop := ∃ a ep, x = .ref a ∧ H a = some (.ext (RawD X.w a es ep)) ∧ ∀ h, HOk X.prog X.w H h → DicG X.w h a es
def KAt (X : Cx) (H : Hp) (y : V) (n : NestedKey) : Prop := ∀ h u, HOk X.prog X.w H h → RelV y u → KIs h n u
theorem dat_of {X : Cx} {F H : Hp} {x : V} {kvs : List (Val × Val)} (f : Same F H) (hT : T.w = X.w) (p : D1 T F H x (.dict kvs)) : ∃ es, DAt X H x es ∧ DtEnt T F es kvs ∧ (es.map (·.1)).Nodup := by
  obtain ⟨a, es, ep, e, q, n, h⟩ := p
  rw [hT] at q
  exact ⟨es, ⟨a, ep, e, q, fun h' ok => (raw_dic ok q n (dtEnt_same f _ _ h)).1⟩, h, n⟩
theorem kat_of {X : Cx} {H : Hp} {y : V} {k : Val} {n : NestedKey} (d : Dt T H y k) (e : keyN k = some n) (l : n.depth ≤ 8) : KAt X H y n := fun h u ok r => key_kis ok d e l r
section
variable {X : Cx} {pins : List (Addr × Obj)} {σ : L2.St} {H : Hp} {s : Shared}
theorem dat_sys (I : Inv X pins σ H s) {a : Addr} {es : List Ent} {ep : Nat} (h : H a = some (.ext (RawD X.w a es ep))) : (a == sysModules) = false ∧ es.length ≤ sizeLine := by
  have z := raw_raw I.hok h
  exact ⟨z.1, z.2.1⟩
def rInG (X : Cx) : R2 := fun x y H Q => ∃ es n, DAt X H y es ∧ KAt X H x n ∧ Q (.bl (valG es n).isSome) H
def rNinG (X : Cx) : R2 := fun x y H Q => ∃ es n, DAt X H y es ∧ KAt X H x n ∧ Q (.bl (!(valG es n).isSome)) H
theorem op_inG (hu : X.A.units + 65 < cLine) : OpR X (compareOp .In) (rInG X) := by
  intro pins s σ H x y v u Q I rx ry h
  obtain ⟨es, n, ⟨a, ep, ea, ha, dic⟩, ka, q⟩ := h
  subst ea
  obtain rfl : u = Value.ref a := ry
  exact inG (by rw [Around.in1_units]; omega) (ka _ _ I.hok rx) (dat_sys I ha).1 (dic _ I.hok) ⟨.bl _, H, I.tok _, rfl, q⟩
theorem op_ninG (hu : X.A.units + 65 < cLine) : OpR X (compareOp .NotIn) (rNinG X) := by
  intro pins s σ H x y v u Q I rx ry h
  obtain ⟨es, n, ⟨a, ep, ea, ha, dic⟩, ka, q⟩ := h
  subst ea
  obtain rfl : u = Value.ref a := ry
  exact notInG (by rw [Around.in1_units]; omega) (ka _ _ I.hok rx) (dat_sys I ha).1 (dic _ I.hok) ⟨.bl _, H, I.tok _, rfl, q⟩
end
section
variable {X : Cx} {N : List Str} {nm : List (Str × NameKind)} {k j : Nat} {Γ : List Sl} {a b e f o i : Expr} {pos p apos cpos : Pos} {td ty tx : TE}
theorem pe_dgetG (hu : X.A.units + 65 < cLine) (ho : PE X o td) (hi : PE X i ty) (hs : NoSl i) : PE X (.Subscript o i pos) (fun σ H Q => td σ H fun x H1 => ty σ H1 fun y H2 => ∃ es n u z, DAt X H2 x es ∧ KAt X H2 y n ∧ valG es n = some u ∧ RelV z u ∧ Q z H2) := by
  refine ⟨fun pins s σ H Q I h => ?_⟩
  refine subD_of PySem.F.slot_dict_getitem.lookup hs (thn (ho.run pins s σ H _ I h) fun u s1 ⟨x, H1, I1, rx, q1⟩ => thn (hi.run pins s1 σ H1 _ I1 q1) fun iv s2 ⟨y, H2, I2, ry, es, n, uv, z, ⟨a, ep, ea, ha, dic⟩, ka, l, rz, q2⟩ => ?_)
  subst ea
  obtain rfl : u = Value.ref a := rx
  have dg := dic _ I2.hok
  exact ⟨dg.ty, itemG (by rw [Around.in1_units]; omega) (ka _ _ I2.hok ry) dg l ⟨z, H2, I2.tok _, rz, q2⟩⟩
/-- d.get(k) -/
theorem pe_dgetG1 (hu : X.A.units + 65 < cLine) (ho : PE X o td) (he : PE X e ty) (m : M1 X o "get" apos e cpos) : PE X (.Call (.Attribute o "get" apos) [e] [] cpos) (fun σ H Q => td σ H fun x H1 => ∃ es, DAt X H1 x es ∧ ty σ H1 fun y H2 => ∃ n z, DAt X H2 x es ∧ KAt X H2 y n ∧ RelV z ((valG es n).getD .none) ∧ Q z H2) := by
  refine ⟨fun pins s σ H Q I h => ?_⟩
  refine wpAny_Call_method m.base m.few m.line PySem.F.plainAttrs_dict PySem.F.slot_dict_get PySem.F.type_dict_get (thn (ho.run pins s σ H _ I h) fun u s1 ⟨x, H1, I1, rx, es, ⟨a, ep, ea, ha, dic⟩, q1⟩ => ?_)
  subst ea
  obtain rfl : u = Value.ref a := rx
  have d1 := dic _ I1.hok
  refine ⟨d1.ty, fun b q => ?_, ?_⟩
  · cases q
    obtain ⟨ob, _, _, h1, h2, _⟩ := d1
    exact ⟨ob, h1, h2.2.1⟩
  rw [m.trees]
  refine Calls.callWith_builtin rfl (Calls.evalArgs_plain (Calls.spliced_cons (thn (he.run pins s1 σ H1 _ I1 q1) fun iv s2 ⟨y, H2, I2, ry, n, z, ⟨a', ep', ea', ha', dic'⟩, ka, rz, q2⟩ => Calls.spliced_nil ?_)))
  cases ea'
  have d2 := dic' _ I2.hok
  exact call_meetsIn PySem.F.slot_dict_get d2.ty PySem.F.entry_dict_get (PySem.F.args_dict_get_2 _ _) (meetsG_get (dat_sys I2 ha').1) ⟨by rw [Around.in1_units]; omega, n, es, ka _ _ I2.hok ry, d2, z, H2, I2.tok _, rz, q2⟩
/-- d.get(k, x) -/
theorem pe_dgetG2 (hu : X.A.units + 65 < cLine) (ho : PE X o td) (he : PE X e ty) (hf : PE X f tx) (m : M2 X o "get" apos e f cpos) : PE X (.Call (.Attribute o "get" apos) [e, f] [] cpos) (fun σ H Q => td σ H fun x H1 => ∃ es, DAt X H1 x es ∧ ty σ H1 fun y H2 => tx σ H2 fun d H3 => ∃ n, DAt X H3 x es ∧ KAt X H3 y n ∧ (∀ u, valG es n = some u → ∃ z, RelV z u ∧ Q z H3) ∧ (valG es n = none → Q d H3)) := by
  refine ⟨fun pins s σ H Q I h => ?_⟩
  refine wpAny_Call_method m.base m.few m.line PySem.F.plainAttrs_dict PySem.F.slot_dict_get PySem.F.type_dict_get (thn (ho.run pins s σ H _ I h) fun u s1 ⟨x, H1, I1, rx, es, ⟨a, ep, ea, ha, dic⟩, q1⟩ => ?_)
  subst ea
  obtain rfl : u = Value.ref a := rx
  have d1 := dic _ I1.hok
  refine ⟨d1.ty, fun b q => ?_, ?_⟩
  · cases q
    obtain ⟨ob, _, _, h1, h2, _⟩ := d1
    exact ⟨ob, h1, h2.2.1⟩
  rw [m.trees]
  refine Calls.callWith_builtin rfl (Calls.evalArgs_plain (Calls.spliced_cons (thn (he.run pins s1 σ H1 _ I1 q1) fun iv s2 ⟨y, H2, I2, ry, q2⟩ =>
    Calls.spliced_cons (thn (hf.run pins s2 σ H2 _ I2 q2) fun fv s3 ⟨d, H3, I3, rd, n, ⟨a', ep', ea', ha', dic'⟩, ka, q3, q4⟩ => Calls.spliced_nil ?_))))
  cases ea'
  have d2 := dic' _ I3.hok
  refine call_meetsIn PySem.F.slot_dict_get d2.ty PySem.F.entry_dict_get (PySem.F.args_dict_get_3 _ _ _) (meetsG_get2 (dat_sys I3 ha').1 fv) ⟨by rw [Around.in1_units]; omega, n, es, ka _ _ I3.hok ry, d2, ?_⟩
  cases z : valG es n with
  | some u =>
    obtain ⟨y', r', q'⟩ := q3 u z
    exact ⟨y', H3, I3.tok _, r', q'⟩
  | none => exact ⟨d, H3, I3.tok _, rd, q4 z⟩
/-- len(d) -/
theorem call_lenG : CallR X (.builtin "len") (fun xs H Q => ∃ x es, xs = [x] ∧ DAt X H x es ∧ Q (.int es.length) H) := by
  intro pins s σ H xs us Q I r h
  obtain ⟨x, es, rfl, ⟨a, ep, ea, ha, dic⟩, q⟩ := h
  subst ea
  rw [Vals.ref1 r]
  obtain ⟨hS, hz, ds, raw, hl⟩ := raw_raw I.hok ha
  have el : (ds.size : Int) = es.length := by
    have := entG_size hl
    omega
  refine PyProof.Rows.call_len_slot (n := (es.length : Int)) raw.typeIs PySem.F.slot_dict_len (fun Q' hq => call_len_raw hS raw (by rw [el]; exact hq)) (by omega) (by have := sizeLine_eq; omega) ?_
  exact ⟨.int es.length, H, I.tok _, ⟨_, rfl⟩, q⟩
end
end L3
/-! U, part x: dicts: expressions by outcomes; walks. -/
namespace L3
open PySem PySem.Spec PyProof.Rows L2
variable {T : Tx} {X : Cx} {N : List Str} {nm : List (Str × NameKind)} {k j : Nat} {W : Wd} {D : Ends} {gh : Gh} {Γ Γ' : List Sl} {ss : List Stmt} {a b c e f o tg it : Expr} {es : List Expr} {pos p apos np rp cp cpos : Pos}
variable {α β υ τ : Type}
def dkeys (kvs : List (Val × Val)) : List Val := kvs.map (·.1)
def dvals (kvs : List (Val × Val)) : List Val := kvs.map (·.2)
theorem dhas_eq {F : Hp} {kvs : List (Val × Val)} {es : List Ent} {k : Val} {n : NestedKey} (d : DtEnt T F es kvs) (e : keyN k = some n) : (valG es n).isSome = (dlook kvs k).isSome := by
  rcases ent_val e d with ⟨h1, h2⟩ | ⟨_, _, _, h1, h2, _⟩ <;> rw [h1, h2] <;> rfl
theorem evm_inD {kvs : List (Val × Val)} {u : Val} (xc : XC X N nm k) (ha : Ev X Γ a (hV T u)) (hb : Ev X Γ b (hV T (.dict kvs))) (hT : T.w = X.w := by rfl) (hm : behindInMarks .In b = false := by rfl) : EvM X Γ (.Compare a [.In] [b] pos) (fun r : Bool => rD T (.bool r)) (dhasM kvs u) := fun v q => by
  obtain ⟨_, h1, h2⟩ := Rs.of_bind q
  cases h2
  obtain ⟨n, e, l⟩ := keyC_ok h1
  exact ev_cmp0 (op_inG xc.ls) ha hb (fun x y F G H f g p1 p2 => ⟨_, .bl _, fun Q q => by
    obtain ⟨es, da, de, _⟩ := dat_of (f.trans g) hT p2
    refine ⟨es, n, da, kat_of (D1.dt (f.trans g) p1) e l, ?_⟩
    rw [dhas_eq de e]
    exact q⟩) hm
theorem evm_niD {kvs : List (Val × Val)} {u : Val} (xc : XC X N nm k) (ha : Ev X Γ a (hV T u)) (hb : Ev X Γ b (hV T (.dict kvs))) (hT : T.w = X.w := by rfl) (hm : behindInMarks .NotIn b = false := by rfl) : EvM X Γ (.Compare a [.NotIn] [b] pos) (fun r : Bool => rD T (.bool r)) (dhasM kvs u >>= fun r => .ok (!r)) := fun v q => by
  obtain ⟨r, q1, h3⟩ := Rs.of_bind q
  have h3 := Rs.ok.inj h3
  subst h3
  obtain ⟨_, h1, h2⟩ := Rs.of_bind q1
  cases h2
  obtain ⟨n, e, l⟩ := keyC_ok h1
  exact ev_cmp0 (op_ninG xc.ls) ha hb (fun x y F G H f g p1 p2 => ⟨_, .bl _, fun Q q => by
    obtain ⟨es, da, de, _⟩ := dat_of (f.trans g) hT p2
    refine ⟨es, n, da, kat_of (D1.dt (f.trans g) p1) e l, ?_⟩
    rw [dhas_eq de e]
    exact q⟩) hm
/-- d[k] -/
theorem evm_dget {kvs : List (Val × Val)} {u : Val} (xc : XC X N nm k) (ha : Ev X Γ a (hV T (.dict kvs))) (hb : Ev X Γ b (rD T u)) (hT : T.w = X.w := by rfl) (hs : NoSl b := by exact fun _ _ => rfl) : EvM X Γ (.Subscript a b pos) (fun v => rD T v) (dgetM kvs u) := fun v q => by
  obtain ⟨_, h1, h2⟩ := Rs.of_bind q
  obtain ⟨n, e, l⟩ := keyC_ok h1
  intro W gh σ F0 G0 H0 E Q q
  exact EW.of (pe_dgetG xc.ls pe_w pe_w hs) (ev_seq ha hb E fun x y F G H E' x0 p1 p2 => by
    obtain ⟨es, da, de, _⟩ := dat_of (E'.fg.trans E'.gH) hT p1
    rcases ent_val e de with ⟨_, z2⟩ | ⟨u', v', y', z1, z2, ry, dy⟩
    · rw [z2] at h2
      cases h2
    · rw [z2] at h2
      cases h2
      exact ⟨es, n, u', y', da, kat_of (dt_same (E'.fg.trans E'.gH) _ _ p2) e l, z1, ry, q y' F G H E' x0 dy⟩)
/-- d.get(k) -/
theorem evm_dget1 {kvs : List (Val × Val)} {u : Val} (xc : XC X N nm k) (ha : Ev X Γ a (hV T (.dict kvs))) (hb : Ev X Γ b (rD T u)) (hT : T.w = X.w := by rfl) (m : M1 X a "get" apos b cpos := by exact ⟨rfl, rfl, rfl, rfl⟩) : EvM X Γ (.Call (.Attribute a "get" apos) [b] [] cpos) (fun v => rD T v) (dgetD kvs u .none) := fun v q => by
  obtain ⟨_, h1, h2⟩ := Rs.of_bind q
  cases h2
  obtain ⟨n, e, l⟩ := keyC_ok h1
  intro W gh σ F0 G0 H0 E Q q
  exact EW.of (pe_dgetG1 xc.ls pe_w pe_w m) (ha W gh σ F0 G0 H0 E _ fun x F G H E1 x1 p1 => by
    obtain ⟨es, da, de, nd⟩ := dat_of (E1.fg.trans E1.gH) hT p1
    refine ⟨es, da, hb W gh σ F G H E1 _ fun y F2 G2 H2 E2 x2 p2 => ?_⟩
    have da2 : DAt X H2 x es := by
      obtain ⟨a', ep, ea, ha', _⟩ := da
      subst ea
      have h2 := x2.s _ _ ha'
      refine ⟨a', ep, rfl, h2, fun h ok => ?_⟩
      rw [← hT] at h2
      have := (raw_dic (T := T) (w := T.w) (P := X.prog) (by rw [hT]; exact ok) h2 nd (dtEnt_same (x2.f.trans (E2.fg.trans E2.gH)) _ _ de)).1
      rw [hT] at this
      exact this
    have ka := kat_of (X := X) (dt_same (E2.fg.trans E2.gH) _ _ p2) e l
    rcases ent_val e de with ⟨z1, z2⟩ | ⟨u', v', y', z1, z2, ry, dy⟩
    · refine ⟨n, .non, da2, ka, by rw [z1]; rfl, ?_⟩
      rw [z2] at q
      exact q .non F2 G2 H2 E2 (x1.trans x2) .non
    · refine ⟨n, y', da2, ka, by rw [z1]; exact ry, ?_⟩
      rw [z2] at q
      exact q y' F2 G2 H2 E2 (x1.trans x2) (dt_same x2.f _ _ dy))
/-- d.get(k, x) -/
theorem evm_dget2 {kvs : List (Val × Val)} {u d : Val} (xc : XC X N nm k) (ha : Ev X Γ a (hV T (.dict kvs))) (hb : Ev X Γ b (rD T u)) (hf : Ev X Γ f (rD T d)) (hT : T.w = X.w := by rfl) (m : M2 X a "get" apos b f cpos := by exact ⟨rfl, rfl, rfl, rfl⟩) : EvM X Γ (.Call (.Attribute a "get" apos) [b, f] [] cpos) (fun v => rD T v) (dgetD kvs u d) := fun v q => by
  obtain ⟨_, h1, h2⟩ := Rs.of_bind q
  cases h2
  obtain ⟨n, e, l⟩ := keyC_ok h1
  intro W gh σ F0 G0 H0 E Q q
  exact EW.of (pe_dgetG2 xc.ls pe_w pe_w pe_w m) (ha W gh σ F0 G0 H0 E _ fun x F G H E1 x1 p1 => by
    obtain ⟨es, da, de, nd⟩ := dat_of (E1.fg.trans E1.gH) hT p1
    refine ⟨es, da, hb W gh σ F G H E1 _ fun y F2 G2 H2 E2 x2 p2 => hf W gh σ F2 G2 H2 E2 _ fun z F3 G3 H3 E3 x3 p3 => ?_⟩
    have x23 := x2.trans x3
    have da2 : DAt X H3 x es := by
      obtain ⟨a', ep, ea, ha', _⟩ := da
      subst ea
      have h2 := x23.s _ _ ha'
      refine ⟨a', ep, rfl, h2, fun h ok => ?_⟩
      rw [← hT] at h2
      have := (raw_dic (T := T) (w := T.w) (P := X.prog) (by rw [hT]; exact ok) h2 nd (dtEnt_same (x23.f.trans (E3.fg.trans E3.gH)) _ _ de)).1
      rw [hT] at this
      exact this
    have ka := kat_of (X := X) (dt_same (x3.f.trans (E3.fg.trans E3.gH)) _ _ p2) e l
    refine ⟨n, da2, ka, fun u' hu' => ?_, fun hn => ?_⟩
    · rcases ent_val e de with ⟨z1, z2⟩ | ⟨u2, v', y', z1, z2, ry, dy⟩
      · rw [z1] at hu'
        cases hu'
      · rw [z1] at hu'
        cases hu'
        rw [z2] at q
        exact ⟨y', ry, q y' F3 G3 H3 E3 (x1.trans x23) (dt_same x23.f _ _ dy)⟩
    · rcases ent_val e de with ⟨z1, z2⟩ | ⟨u2, v', y', z1, z2, ry, dy⟩
      · rw [z2] at q
        exact q z F3 G3 H3 E3 (x1.trans x23) p3
      · rw [z1] at hn
        cases hn)
theorem ev_lenD {kvs : List (Val × Val)} (h : Bl X "len") (ha : Ev X Γ a (hV T (.dict kvs))) (hT : T.w = X.w := by rfl) (he : starEach [a] X.env = (false, eval a X.env) :: starEach [] X.env := by rfl) : Ev X Γ (.Call (.Name "len" p) [a] [] pos) (rD T (.int kvs.length)) :=
  ev_cb1 call_lenG h PySem.boot_len ha (fun v F G H f g p1 => ⟨_, .int _, fun Q q => by
    obtain ⟨es, da, de, _⟩ := dat_of (f.trans g) hT p1
    refine ⟨v, es, rfl, da, ?_⟩
    rw [ent_len de]
    exact q⟩) (he := he)
/-! ### walks -/
theorem ent_split {F : Hp} : ∀ {es : List Ent} {kvs : List (Val × Val)}, DtEnt T F es kvs → ∃ ks vs : List V, Vals ks (es.map (·.2.1)) ∧ Vals vs (es.map (·.2.2)) ∧ DtAll T F ks (dkeys kvs) ∧ DtAll T F vs (dvals kvs)
  | _, _, .nil => ⟨[], [], .nil, .nil, .nil, .nil⟩
  | _, _, .cons r1 r2 h1 h2 _ _ t => by
    obtain ⟨ks, vs, a1, a2, a3, a4⟩ := ent_split t
    exact ⟨_ :: ks, _ :: vs, .cons r1 a1, .cons r2 a2, .cons h1 a3, .cons h2 a4⟩
/-- what stands at d yields xs, one after another -/
def ItD (d : Addr) (φ : Heap → Prop) (xs : List V) : It where
  go := fun i H => H d = some (.ext φ) ∧ i < xs.length
  yld := fun i H x H' => H' = H ∧ xs[i]? = some x
  stop := fun i H => H d = some (.ext φ) ∧ xs.length ≤ i
theorem vals_at {xs : List V} {us : List Value} (r : Vals xs us) {i : Nat} (h : i < xs.length) : ∃ x u, xs[i]? = some x ∧ us[i]? = some u ∧ RelV x u := by
  have hx := List.getElem?_eq_getElem h
  obtain ⟨u, h1, h2⟩ := r.get hx
  exact ⟨_, u, hx, h1, h2⟩
theorem turn_keysG {P : Program} {w : World} {K : PySem.W.Frag} {d it : Addr} {es : List Ent} {ep : Nat} {ks : List V} (r : Vals ks (es.map (·.2.1))) : Turn P w K tg (ItD d (RawD w d es ep) ks) [it] it (fun i h => h.IsKeyIter it d i es.length ep) where
  mem := by simp
  obj := fun i h st b hb => by
    have e : b = it := by simpa using hb
    subst e
    obtain ⟨oi, e, c, dd⟩ := st
    exact ⟨oi, e, fun v z => by rw [dd] at z; cases z⟩
  keep := fun i h h' st k => st.at fun oi e => k it (by simp) oi e
  item := by
    intro X hP hw hK hc i pins s σ H E I hf st hg
    subst hP hw hK
    obtain ⟨hd, hi⟩ := hg
    obtain ⟨f0, f1, f2, f3, f4, f5⟩ := hf it (by simp)
    obtain ⟨hS, hz, ds, ⟨od, hod, hex, hdd⟩, hl⟩ := raw_raw I.hok hd
    obtain ⟨x, u, hx, hu, rx⟩ := vals_at r hi
    rw [List.getElem?_map] at hu
    obtain ⟨en, hen, rfl⟩ := Option.map_eq_some_iff.mp hu
    have hsz : ds.size = es.length := entG_size hl
    have hx' : ds[i]? = some (entG X.w en) := by rw [entG_at hl i, hen]; rfl
    refine next_key_item st hod hdd hsz hx' fun h' st' sb => ?_
    have I1 : Inv X pins σ H { s with heap := h' } := I.turned (t' := s.toks) (fun b ob hb e => (sb.2 b hb).trans e) f0 f1 f3 f4 f5
    obtain ⟨oi, e, c, dd⟩ := id st'
    exact ⟨_, rfl, go_of (s := { s with heap := h' }) e c dd (by decide) ⟨x, H, I1, rx, ⟨rfl, hx⟩, st', fun b hb => (hf b hb).1⟩⟩
  done := by
    intro X hP hw hK hc i pins s σ H E I hf st hg
    subst hP hw hK
    obtain ⟨hd, hi⟩ := hg
    obtain ⟨f0, f1, f2, f3, f4, f5⟩ := hf it (by simp)
    obtain ⟨hS, hz, ds, ⟨od, hod, hex, hdd⟩, hl⟩ := raw_raw I.hok hd
    have hr := Paired.length r
    rw [List.length_map] at hr
    exact next_key_end (I.ok.hd hc) st hod hdd (entG_size hl) (by omega) fun h' eb => ⟨rfl, I.turned (t' := s.toks) (fun b ob hb e => eb b ob hb e) f0 f1 f3 f4 f5⟩
  self := fun A i s Q E st h => by
    refine wpAny_pyIter_slot st.typeIs PySem.F.slot_dict_keyiterator_iter (wpAny_call_entry PySem.F.slot_dict_keyiterator_iter st.typeIs PySem.F.entry_dict_keyiterator_iter ?_ (PySem.F.args_dict_keyiterator_iter_1 _))
    show wpAny _ _ (ret (.ref it)) _ _ s
    exact wpAny_pure ⟨_, rfl, "dict_keyiterator", _, st.typeIs, PySem.F.slot_dict_keyiterator_next.lookup, h⟩
theorem itOk_d {d : Addr} {φ : Heap → Prop} {xs : List V} {vs : List Val} {F : Hp} (g : Gh) (hg : ∀ F G, g.g F G → G d = some (.ext φ) ∧ DtAll T F xs vs) : ItOk (ItD d φ xs) (vs.map (rD T)) g where
  stop := fun F G H f s h => by
    obtain ⟨h1, h2⟩ := hg F G h
    exact ⟨s _ _ h1, by rw [List.length_map, h2.length]; exact Nat.le_refl _⟩
  go := fun i F G H hi f s h => by
    obtain ⟨h1, h2⟩ := hg F G h
    rw [List.length_map, ← h2.length] at hi
    exact ⟨s _ _ h1, hi⟩
  yld := fun i R F G H x H' hi f s h y => by
    obtain ⟨e1, hx⟩ := y
    obtain ⟨h1, h2⟩ := hg F G h
    obtain ⟨dv, hd, pd⟩ := h2.getV hx
    rw [List.getElem?_map, hd] at hi
    cases hi
    exact .inl ⟨e1, pd⟩
def ghD (T : Tx) (d : Addr) (φ : Heap → Prop) (ks : List V) (vs : List Val) : Gh := ⟨fun F G => G d = some (.ext φ) ∧ DtAll T F ks vs, fun f g y => ⟨g _ _ y.1, dtAll_same f _ _ y.2⟩⟩
/-- for k in d -/
theorem evw_keys {kvs : List (Val × Val)} (h : Ev X Γ it (bV T (.dict kvs))) (hT : T.w = X.w := by rfl) : EvW T X Γ tg it (.ok (dkeys kvs)) := fun xs q => by
  cases q
  intro W gh σ F G H E
  refine ⟨fun σ H R => EW X it σ H fun x H1 => ∃ d es ep ks, x = .ref d ∧ H1 d = some (.ext (RawD X.w d es ep)) ∧ Vals ks (es.map (·.2.1)) ∧ R (ItD d (RawD X.w d es ep) ks) H1, ⟨fun pins s σ H R I h => ?_⟩, fun R q => ?_⟩
  · refine thn (h.go pins s I) fun u s1 ⟨x, H1, I1, rx, d, es, ep, ks, ex, hd, rk, q⟩ => ?_
    subst ex
    obtain rfl : u = Value.ref d := rx
    obtain ⟨hS, hz, ds, ⟨od, hod, hex, hdd⟩, hl⟩ := raw_raw I1.hok hd
    refine iter_keys hS hod hex hdd (pi_one (tk := s1.toks) I1 _ (turn_keysG rk) ⟨_, Heap.get?_push_size _ rfl, rfl, ?_⟩ q)
    rw [entG_size hl]
    rfl
  · refine h W gh σ F G H E _ fun x F1 G1 H1 E1 x1 ⟨d, es, ep, ed, hd, nd, de⟩ => ?_
    obtain ⟨ks, vs, r1, r2, a1, a2⟩ := ent_split de
    have hd' := E1.gH _ _ hd
    refine ⟨d, es, ep, ks, ed, by rw [← hT]; exact hd', r1, q _ (ghD T d (RawD X.w d es ep) ks (dkeys kvs)) F1 G1 H1 (E1.gw ⟨E1.g, by rw [← hT]; exact hd, a1⟩) x1 (itOk_d (F := F1) _ fun _ _ z => z)⟩
theorem turn_valsG {P : Program} {w : World} {K : PySem.W.Frag} {d it : Addr} {es : List Ent} {ep : Nat} {ks : List V} (r : Vals ks (es.map (·.2.2))) : Turn P w K tg (ItD d (RawD w d es ep) ks) [it] it (fun i h => h.IsValIter it d i es.length ep) where
  mem := by simp
  obj := fun i h st b hb => by
    have e : b = it := by simpa using hb
    subst e
    obtain ⟨oi, e, c, dd⟩ := st
    exact ⟨oi, e, fun v z => by rw [dd] at z; cases z⟩
  keep := fun i h h' st k => st.at fun oi e => k it (by simp) oi e
  item := by
    intro X hP hw hK hc i pins s σ H E I hf st hg
    subst hP hw hK
    obtain ⟨hd, hi⟩ := hg
    obtain ⟨f0, f1, f2, f3, f4, f5⟩ := hf it (by simp)
    obtain ⟨hS, hz, ds, raw, hl⟩ := raw_raw I.hok hd
    obtain ⟨x, u, hx, hu, rx⟩ := vals_at r hi
    rw [List.getElem?_map] at hu
    obtain ⟨en, hen, rfl⟩ := Option.map_eq_some_iff.mp hu
    have hsz : ds.size = es.length := entG_size hl
    have hlt : i < ds.size := by
      rw [hsz]
      exact (List.getElem?_eq_some_iff.mp hen).1
    have hx' : ds[i] = entG X.w en := by
      have z := entG_at hl i
      rw [hen, Array.getElem?_eq_getElem hlt] at z
      exact Option.some.inj z
    rw [← hsz] at st
    refine wpAny_pyNext_values_item_raw st raw hlt fun h' st' sb => ?_
    have I1 : Inv X pins σ H { s with heap := h' } := I.turned (t' := s.toks) (fun b ob hb e => (sb.2 b hb).trans e) f0 f1 f3 f4 f5
    obtain ⟨oi, e, c, dd⟩ := id st'
    rw [hsz] at st'
    rw [hx']
    exact ⟨_, rfl, go_of (s := { s with heap := h' }) e c dd (by decide) ⟨x, H, I1, rx, ⟨rfl, hx⟩, st', fun b hb => (hf b hb).1⟩⟩
  done := by
    intro X hP hw hK hc i pins s σ H E I hf st hg
    subst hP hw hK
    obtain ⟨hd, hi⟩ := hg
    obtain ⟨f0, f1, f2, f3, f4, f5⟩ := hf it (by simp)
    obtain ⟨hS, hz, ds, raw, hl⟩ := raw_raw I.hok hd
    have hr := Paired.length r
    rw [List.length_map] at hr
    have hsz : ds.size = es.length := entG_size hl
    rw [← hsz] at st
    exact wpAny_pyNext_values_end_raw (I.ok.hd hc) st raw (by omega) fun h' eb => ⟨rfl, I.turned (t' := s.toks) (fun b ob hb e => eb b ob hb e) f0 f1 f3 f4 f5⟩
  self := fun A i s Q E st h => wpAny_pyIter_valiter st h
/-- for v in d.values() -/
theorem evw_values {kvs : List (Val × Val)} (h : Ev X Γ o (bV T (.dict kvs))) (hT : T.w = X.w := by rfl) (hbase : attributeBase o "values" X.env (eval o X.env) = eval o X.env := by rfl) (hline : (apos.endLine == cpos.line) = true := by rfl) : EvW T X Γ tg (.Call (.Attribute o "values" apos) [] [] cpos) (.ok (dvals kvs)) := fun xs q => by
  cases q
  intro W gh σ F G H E
  refine ⟨fun σ H R => EW X o σ H fun x H1 => ∃ d es ep ks, x = .ref d ∧ H1 d = some (.ext (RawD X.w d es ep)) ∧ Vals ks (es.map (·.2.2)) ∧ R (ItD d (RawD X.w d es ep) ks) H1, ⟨fun pins s σ H R I h => ?_⟩, fun R q => ?_⟩
  · refine wpAny_Call_method (T := "dict") (id := "dict.values") hbase rfl hline PySem.F.plainAttrs_dict PySem.F.slot_dict_values PySem.F.type_dict_values (thn (h.go pins s I) fun u s1 ⟨x, H1, I1, rx, d, es, ep, ks, ex, hd, rk, q⟩ => ?_)
    subst ex
    obtain rfl : u = Value.ref d := rx
    obtain ⟨hS, hz, ds, raw, hl⟩ := raw_raw I1.hok hd
    refine ⟨raw.typeIs, fun b q => ?_, ?_⟩
    · cases q
      obtain ⟨ob, h1, h2, _⟩ := id raw
      exact ⟨ob, h1, h2.2.1⟩
    have I2 : Inv X pins σ H1 { s1 with heap := s1.heap.push { cls := .type "dict_values", data := .fields #[.ref d] } } := I1.kept (t' := s1.toks) fun b ob q => Heap.get?_push_of_some _ q
    have fin : wpAny (model X.prog X.w) X.A (pyIter (.ref s1.heap.objs.size)) (PIE X pins σ tg R) X.xe { s1 with heap := s1.heap.push { cls := .type "dict_values", data := .fields #[.ref d] } } := by
      refine wpAny_pyIter_values_raw (d := d) ⟨_, Heap.get?_push_size _ rfl, rfl, rfl⟩ (raw.push _) (pi_one (tk := s1.toks) I2 _ (turn_valsG rk) ⟨_, Heap.get?_push_size _ rfl, rfl, ?_⟩ q)
      rw [entG_size hl]
      rfl
    show wpAny _ _ (callWith cpos (.builtin "dict.values") [.ref d] [] []) _ X.xe s1
    exact method_meetsIn PySem.F.slot_dict_values PySem.F.entry_dict_values rfl (PySem.evalArgs_none ⟨rfl, raw.typeIs, PySem.F.args_dict_values_1 _, _, meets_dict_values_raw d hS, ⟨_, _, raw⟩, fin⟩)
  · refine h W gh σ F G H E _ fun x F1 G1 H1 E1 x1 ⟨d, es, ep, ed, hd, nd, de⟩ => ?_
    obtain ⟨ks, vs, r1, r2, a1, a2⟩ := ent_split de
    have hd' := E1.gH _ _ hd
    refine ⟨d, es, ep, vs, ed, by rw [← hT]; exact hd', r2, q _ (ghD T d (RawD X.w d es ep) vs (dvals kvs)) F1 G1 H1 (E1.gw ⟨E1.g, by rw [← hT]; exact hd, a2⟩) x1 (itOk_d (F := F1) _ fun _ _ z => z)⟩
/-- what stands at d yields new pairs -/
def ItP (d : Addr) (φ : Heap → Prop) (xs : List (V × V)) : It where
  go := fun i H => H d = some (.ext φ) ∧ i < xs.length
  yld := fun i H x H' => ∃ t p, xs[i]? = some p ∧ x = .ref t ∧ H t = none ∧ H' = upd H t (.tup [p.1, p.2])
  stop := fun i H => H d = some (.ext φ) ∧ xs.length ≤ i
/-- pairs of what stands there -/
theorem ent_pairs {F : Hp} : ∀ {es : List Ent} {kvs : List (Val × Val)}, DtEnt T F es kvs → ∃ ps : List (V × V), Paired (fun (p : V × V) (e : Ent) => RelV p.1 e.2.1 ∧ RelV p.2 e.2.2) ps es ∧ Paired (fun (p : V × V) (q : Val × Val) => Dt T F p.1 q.1 ∧ Dt T F p.2 q.2) ps kvs
  | _, _, .nil => ⟨[], .nil, .nil⟩
  | _, _, .cons (kx := kx) (vx := vx) r1 r2 h1 h2 _ _ t => by
    obtain ⟨ps, a, b⟩ := ent_pairs t
    exact ⟨(kx, vx) :: ps, .cons ⟨r1, r2⟩ a, .cons ⟨h1, h2⟩ b⟩
theorem paired_at {α β : Type} {R : α → β → Prop} : ∀ {xs : List α} {ys : List β} {i : Nat}, Paired R xs ys → i < xs.length → ∃ x y, xs[i]? = some x ∧ ys[i]? = some y ∧ R x y
  | _, _, _, .nil, h => absurd h (Nat.not_lt_zero _)
  | _, _, 0, .cons r _, _ => ⟨_, _, rfl, rfl, r⟩
  | _, _, i + 1, .cons _ t, h => by
    obtain ⟨x, y, a, b, c⟩ := paired_at (i := i) t (by simpa using h)
    exact ⟨x, y, by simpa using a, by simpa using b, c⟩
theorem turn_itemsG {P : Program} {w : World} {K : PySem.W.Frag} {d it : Addr} {es : List Ent} {ep : Nat} {ps : List (V × V)} {elts : List Expr} {kk : Nat} {tpos : Pos} (r : Paired (fun (p : V × V) (e : Ent) => RelV p.1 e.2.1 ∧ RelV p.2 e.2.2) ps es) :
    Turn P w K (.Tuple elts kk tpos) (ItP d (RawD w d es ep) ps) [it] it (fun i h => ∃ ok ov, IsItemIter h it d i es.length ep ok ov) where
  mem := by simp
  obj := fun i h st b hb => by
    have e : b = it := by simpa using hb
    subst e
    obtain ⟨ok, ov, e⟩ := st
    exact ⟨_, e, fun v z => nomatch z⟩
  keep := fun i h h' st k => let ⟨ok, ov, e⟩ := st; ⟨ok, ov, k it (by simp) _ e⟩
  item := by
    intro X hP hw hK hc i pins s σ H E I hf st hg
    subst hP hw hK
    obtain ⟨hd, hi⟩ := hg
    obtain ⟨hS, hz, ds, raw, hl⟩ := raw_raw I.hok hd
    obtain ⟨x, en, hx, hen, r1, r2⟩ := paired_at r hi
    have hsz : ds.size = es.length := entG_size hl
    have hlt' : i < ds.size := by
      rw [hsz]
      exact (List.getElem?_eq_some_iff.mp hen).1
    have hx' : ds[i] = entG X.w en := by
      have z := entG_at hl i
      rw [hen, Array.getElem?_eq_getElem hlt'] at z
      exact Option.some.inj z
    obtain ⟨ok, ov, he⟩ := st
    rw [← hsz] at he
    have hlt : it < s.heap.objs.size := Heap.lt_size he
    refine wpAny_pyNext_items_item_raw he raw hlt' fun h' ho hT hz' hk => ?_
    rw [hx'] at ho hT
    refine ⟨_, rfl, wpAny_letOwnedTupleGo_items (s := { s with heap := h' }) ho fun h'' he' sb => ?_⟩
    have hT2 : h''.get? s.heap.objs.size = some { cls := .type "tuple", data := .seq #[en.2.1, en.2.2] } := (sb.2 _ (Nat.ne_of_gt hlt)).trans hT
    have new : ObjOk X.prog X.w (upd H s.heap.objs.size (.tup [x.1, x.2])) h'' s.heap.objs.size (.tup [x.1, x.2]) :=
      ⟨by show 2 ≤ sizeLine; decide, [en.2.1, en.2.2], .cons r1 (.cons r2 .nil), ⟨_, hT2, rfl, _, rfl⟩⟩
    have I1 : Inv X pins σ (upd H s.heap.objs.size (.tup [x.1, x.2])) { s with heap := h'' } :=
      I.turnedNew (t' := s.toks) (ch := [it]) (fun b ob hb e => (sb.2 b (by simpa using hb)).trans (hk b ob (by simpa using hb) e)) hf (Nat.le_refl _) new
    refine ⟨.ref s.heap.objs.size, _, I1, rfl, ⟨_, x, hx, rfl, I.hok.fresh (Nat.le_refl _), rfl⟩, ⟨en.2.1, en.2.2, ?_⟩, fun b hb => ?_⟩
    · rw [← hsz]
      exact he'
    · have e : b = it := by simpa using hb
      rw [e, upd_ne (Nat.ne_of_lt hlt)]
      exact (hf it (by simp)).1
  done := by
    intro X hP hw hK hc i pins s σ H E I hf st hg
    subst hP hw hK
    obtain ⟨hd, hi⟩ := hg
    obtain ⟨f0, f1, f2, f3, f4, f5⟩ := hf it (by simp)
    obtain ⟨hS, hz, ds, raw, hl⟩ := raw_raw I.hok hd
    have hr := Paired.length r
    have hsz : ds.size = es.length := entG_size hl
    obtain ⟨ok, ov, he⟩ := st
    rw [← hsz] at he
    exact wpAny_pyNext_items_end_raw (I.ok.hd hc) he raw (by omega) fun h' eb => ⟨rfl, I.turned (t' := s.toks) (fun b ob hb e => eb b ob hb e) f0 f1 f3 f4 f5⟩
  self := fun A i s Q E st h => let ⟨_, _, e⟩ := st; PySem.W.kcp_self e h
/-- for k, v in d.items() -/
theorem evw_items {kvs : List (Val × Val)} {elts : List Expr} {kk : Nat} {tpos : Pos} (h : Ev X Γ o (bV T (.dict kvs))) (hT : T.w = X.w := by rfl) (hbase : attributeBase o "items" X.env (eval o X.env) = eval o X.env := by rfl) (hline : (apos.endLine == cpos.line) = true := by rfl) : EvW T X Γ (.Tuple elts kk tpos) (.Call (.Attribute o "items" apos) [] [] cpos) (.ok (kvs.map fun e => .tuple [e.1, e.2])) := fun xs q => by
  cases q
  intro W gh σ F G H E
  refine ⟨fun σ H R => EW X o σ H fun x H1 => ∃ d es ep ps, x = .ref d ∧ H1 d = some (.ext (RawD X.w d es ep)) ∧ Paired (fun (p : V × V) (e : Ent) => RelV p.1 e.2.1 ∧ RelV p.2 e.2.2) ps es ∧ R (ItP d (RawD X.w d es ep) ps) H1, ⟨fun pins s σ H R I h => ?_⟩, fun R q => ?_⟩
  · refine wpAny_Call_method (T := "dict") (id := "dict.items") hbase rfl hline PySem.F.plainAttrs_dict PySem.F.slot_dict_items PySem.F.type_dict_items (thn (h.go pins s I) fun u s1 ⟨x, H1, I1, rx, d, es, ep, ks, ex, hd, rk, q⟩ => ?_)
    subst ex
    obtain rfl : u = Value.ref d := rx
    obtain ⟨hS, hz, ds, raw, hl⟩ := raw_raw I1.hok hd
    refine ⟨raw.typeIs, fun b q => ?_, ?_⟩
    · cases q
      obtain ⟨ob, h1, h2, _⟩ := id raw
      exact ⟨ob, h1, h2.2.1⟩
    have I2 : Inv X pins σ H1 { s1 with heap := s1.heap.push { cls := .type "dict_items", data := .fields #[.ref d] } } := I1.kept (t' := s1.toks) fun b ob q => Heap.get?_push_of_some _ q
    have fin : wpAny (model X.prog X.w) X.A (pyIter (.ref s1.heap.objs.size)) (PIE X pins σ (.Tuple elts kk tpos) R) X.xe { s1 with heap := s1.heap.push { cls := .type "dict_items", data := .fields #[.ref d] } } := by
      refine wpAny_pyIter_items_raw (d := d) ⟨_, Heap.get?_push_size _ rfl, rfl, rfl⟩ (raw.push _) (pi_one (tk := s1.toks) I2 _ (turn_itemsG rk) ⟨.none, .none, ?_⟩ q)
      rw [entG_size hl]
      exact Heap.get?_push_size _ rfl
    show wpAny _ _ (callWith cpos (.builtin "dict.items") [.ref d] [] []) _ X.xe s1
    exact method_meetsIn PySem.F.slot_dict_items PySem.F.entry_dict_items rfl (PySem.evalArgs_none ⟨rfl, raw.typeIs, PySem.F.args_dict_items_1 _, _, meets_dict_items_raw d hS, ⟨_, _, raw⟩, fin⟩)
  · refine h W gh σ F G H E _ fun x F1 G1 H1 E1 x1 ⟨d, es, ep, ed, hd, nd, de⟩ => ?_
    obtain ⟨ps, r1, r2⟩ := ent_pairs de
    have hd' := E1.gH _ _ hd
    refine ⟨d, es, ep, ps, ed, by rw [← hT]; exact hd', r1, q _ ⟨fun F G => G d = some (.ext (RawD X.w d es ep)) ∧ Paired (fun (p : V × V) (q : Val × Val) => Dt T F p.1 q.1 ∧ Dt T F p.2 q.2) ps kvs, fun {_ _ _ _} f g y => ⟨g _ _ y.1, Paired.mapP y.2 fun a b z => ⟨dt_same f _ _ z.1, dt_same f _ _ z.2⟩⟩⟩ F1 G1 H1 (E1.gw ⟨E1.g, by rw [← hT]; exact hd, r2⟩) x1 ⟨fun F G H f s h => ?_, fun i F G H hi f s h => ?_, fun i R F G H x H' hi f s h y => ?_⟩⟩
    · exact ⟨s _ _ h.1, by rw [List.length_map, List.length_map, Paired.length h.2]; exact Nat.le_refl _⟩
    · rw [List.length_map, List.length_map, ← Paired.length h.2] at hi
      exact ⟨s _ _ h.1, hi⟩
    · obtain ⟨t, p, hp, ex, ht, eH⟩ := y
      obtain ⟨p', q', h1, h2, d1, d2⟩ := paired_at h.2 (List.getElem?_eq_some_iff.mp hp).1
      rw [hp] at h1
      cases h1
      rw [List.getElem?_map, List.getElem?_map, h2] at hi
      cases hi
      have ft := f.free (s.free ht)
      refine .inr ⟨t, _, ht, eH, ?_⟩
      subst ex
      exact .tup upd_same (.cons (dt_same (same_upd ft) _ _ d1) (.cons (dt_same (same_upd ft) _ _ d2) .nil))
end L3
/-! U, part y: dicts made, stored to, listed. -/
namespace L3
open PySem PySem.Spec PyProof.Rows L2
section
variable {X : Cx} {pins : List (Addr × Obj)} {σ : L2.St} {H : Hp} {s : Shared} {E : Value → Shared → Prop} {D : Addr}
theorem raw_empty {P : Program} {w : World} {H : Hp} (h : Heap) (hb : sysModules < h.objs.size) : ObjOk P w H (h.push { cls := .type "dict", data := .dict #[] }) h.objs.size (.ext (RawD w h.objs.size [] 0)) := by
  have raw : RawD w h.objs.size [] 0 (h.push { cls := .type "dict", data := .dict #[] }) := ⟨⟨beq_eq_false_iff_ne.mpr (Ne.symm (Nat.ne_of_lt hb)), Nat.zero_le _⟩, _, #[], Heap.get?_push_size _ rfl, ⟨rfl, rfl, rfl⟩, rfl, rfl⟩
  exact ⟨raw, ⟨_, Heap.get?_push_size _ rfl⟩, fun h1 h2 ⟨z, o, xs, g, r⟩ k => ⟨z, o, xs, k o g, r⟩⟩
/-- a record as a thing that is tracked -/
theorem raw_obj {P : Program} {w : World} {H : Hp} {h : Heap} {d : Addr} {es : List Ent} {o : Obj} {xs : Array DictEntry} {ep : Nat} (hS : (d == sysModules) = false) (hz : es.length ≤ sizeLine) (h1 : h.get? d = some o) (h2 : o.ExactDict) (h3 : o.data = .dict xs ep) (h4 : xs.toList = es.map (entG w)) : ObjOk P w H h d (.ext (RawD w d es ep)) :=
  ⟨⟨⟨hS, hz⟩, o, xs, h1, h2, h3, h4⟩, ⟨o, h1⟩, fun a b ⟨z, o, xs, g, r⟩ k => ⟨z, o, xs, k o g, r⟩⟩
theorem store_G {es : List Ent} {ep : Nat} {n : NestedKey} {y v : V} {u r : Value} {Q : Unit → Shared → Prop} (hu : X.A.units + 65 < cLine) (I : Inv X pins σ H s) (hD : H D = some (.ext (RawD X.w D es ep))) (ka : KAt X H y n) (dic : ∀ h, HOk X.prog X.w H h → DicG X.w h D es) (hz : es.length < sizeLine)
    (ry : RelV y u) (rv : RelV v r) (h : ∀ ep' s', Inv X pins σ (upd H D (.ext (RawD X.w D (storeG es n u r) ep'))) s' → Q () s') : wpAny (model X.prog X.w) X.A (dictSet D u r) Q E s := by
  refine setG (by omega) (ka _ _ I.hok ry) (dic _ I.hok) (by omega) fun h' got same => ?_
  obtain ⟨ob, xs, ep', at_, c1, c2, c3, _, _⟩ := got
  have room := storeG_length es n u r
  exact h ep' _ (d_write I (by rw [hD]; exact True.intro) same ⟨ob, at_⟩ (raw_obj (dat_sys I hD).1 (by omega) at_ c1 c2 c3))
/-- what the comprehension asks -/
def tDcG (X : Cx) (wi : TI) (g : TG) (tt : TT) (tk tv : TE) (vs : List Nat) : TE := fun σ H Q => wi σ H fun J H1 => ∀ D, H1 D = none → ∃ St : Nat → Nat → Hp → Prop, (∃ m, St 0 m (upd H1 D (.ext (RawD X.w D [] 0)))) ∧ ∀ i m H, St i m H →
  (J.stop i H ∧ Q (.ref D) H) ∨ (J.go i H ∧ ∀ x H', J.yld i H x H' → g x (wipe σ vs) H' fun σ2 H2 => wipe σ2 vs = wipe σ vs ∧ tt σ2 H2 fun b H3 =>
    if b = true then tk σ2 H3 fun y H4 => tv σ2 H4 fun z H5 => ∃ es ep n, H5 D = some (.ext (RawD X.w D es ep)) ∧ KAt X H5 y n ∧ (∀ h, HOk X.prog X.w H5 h → DicG X.w h D es) ∧ es.length < sizeLine ∧
      ∀ u r ep', RelV y u → RelV z r → ∃ m', m' < m ∧ St (i + 1) m' (upd H5 D (.ext (RawD X.w D (storeG es n u r) ep')))
    else ∃ m', m' < m ∧ St (i + 1) m' H3)
theorem pe_dcG {kx vx tg iter : Expr} {scope : Scope} {own : List (Str × Nat)} {pos : Pos} {wi : TI} {g : TG} {tt : TT} {tk tv : TE} {ifs : List Expr} (hu : X.A.units + 65 < cLine) (hc : X.calm = true) (hN : X.N.Nodup) (hi : PI X tg iter wi) (ok : BlkOk X.N X.env.scope scope own)
    (hg : ∀ s H C cl fp, PG (bx X s H scope C cl fp) tg g) (ht : ∀ s H C cl fp, PTs (bx X s H scope C cl fp) ifs tt) (hk : ∀ s H C cl fp, PE (bx X s H scope C cl fp) kx tk) (hv : ∀ s H C cl fp, PE (bx X s H scope C cl fp) vx tv) (hs : ∀ x, foldedSetIterable iter X.env x = pure x := by intro _; rfl) :
    PE X (.DictComp kx vx [⟨tg, iter, ifs, 0⟩] scope pos) (tDcG X wi g tt tk tv (own.map (·.2))) := by
  refine ⟨fun pins s σ H Q I h => ?_⟩
  rw [arm_eval_DictComp]
  have cells : ∀ y ∈ scope.names, y.2 = .free → ∃ c, X.env.cells.lookup y.1 = some c := fun y hy e => I.ok.has _ ((ok.free y hy e).imp id id)
  refine wpAny_comprehension_free rfl hs (closure_ok cells) ok.kind (fun y hy e => (ok.uniq y hy).trans (by rw [e]))
    (thn (hi.run pins s σ H _ I h) fun _ s1 hx => thn hx fun itv s2 hx2 => ?_)
  obtain ⟨it, fp, tn, J, H2, rfl, I2, T, st2, free2, ask⟩ := hx2
  refine wpAny_newObj_type (newEnv_comp ?_)
  have unD : H2 s2.heap.objs.size = none := I2.hok.fresh (Nat.le_refl _)
  obtain ⟨St, ⟨m0, start⟩, turn⟩ := ask _ unD
  generalize eD : s2.heap.objs.size = D at *
  -- the dict is laid
  generalize e3' : ({ s2 with heap := s2.heap.push { cls := .type "dict", data := .dict #[] } } : Shared) = s3
  have e3 := e3'.symm
  show codeAny _ _ (.compStart (.DictComp kx vx [⟨tg, iter, ifs, 0⟩] scope pos) 0 (.ref it) (.ref D) (compEnvC scope (cellsFrom (s3.heap.objs.size + 1) scope.names (cloFrom X.env.cells scope.names [])) s3.heap.objs.size X.env)) (compPost (model X.prog X.w) X.A X.xe none (EP X pins σ Q) (.ref D) s3.heap.objs.size) { s3 with heap := pushCells (s3.heap.push { cls := .type "dict", data := .dict #[] }) scope.names }
  have hp3 : s3.heap = s2.heap.push { cls := .type "dict", data := .dict #[] } := by rw [e3]
  have I3 : Inv X pins σ (upd H2 D (.ext (RawD X.w D [] 0))) s3 := by
    subst e3 eD
    exact I2.laid (t' := s2.toks) (fun _ _ e => Heap.get?_push_of_some _ e) (Nat.le_refl _) (raw_empty s2.heap I2.big)
  have older : ∀ b ∈ fp, b < D := fun b hb => by
    obtain ⟨o, e, _⟩ := T.obj _ _ st2 b hb
    rw [← eD]
    exact Heap.lt_size e
  have free3 : ∀ b ∈ fp, FpOk X pins (upd H2 D (.ext (RawD X.w D [] 0))) b ∧ b < s3.heap.objs.size := fun b hb => ⟨⟨(upd_ne (Nat.ne_of_lt (older b hb))).trans (free2 b hb).1, (free2 b hb).2⟩, by
    rw [hp3, Heap.size_push, eD]
    exact Nat.lt_succ_of_lt (older b hb)⟩
  have I4 := block_start I3 ok hN free3
  generalize eC : s3.heap.objs.size = C at *
  generalize ecl : cellsFrom (C + 1) scope.names (cloFrom X.env.cells scope.names []) = cl at *
  generalize eH : upd H2 D (.ext (RawD X.w D [] 0)) = H3 at *
  have pg := hg s3 H3 C cl fp
  have pk := hk s3 H3 C cl fp
  have pv := hv s3 H3 C cl fp
  obtain ⟨s4, e4⟩ : ∃ s4 : Shared, s4 = { s3 with heap := pushCells (s3.heap.push { cls := .type "dict", data := .dict #[] }) scope.names } := ⟨_, rfl⟩
  have st4 : tn 0 s4.heap := T.keep _ _ _ st2 fun b _ o e => by
    rw [e4]
    refine pushCells_keeps _ _ _ _ (Heap.get?_push_of_some _ ?_)
    rw [hp3]
    exact Heap.get?_push_of_some _ e
  have I4 : Inv (bx X s3 H3 scope C cl fp) [] (wipe σ (own.map (·.2))) H3 s4 := by rw [e4]; exact I4
  have apart : ∀ {σ' : L2.St} {H' : Hp} {s' : Shared}, Inv (bx X s3 H3 scope C cl fp) [] σ' H' s' → (∀ b ∈ fp, H' b = none) → ∀ b ∈ fp, FpOk (bx X s3 H3 scope C cl fp) [] H' b := fun I' hn b hb =>
    ⟨hn b hb, (I'.ok.exf b hb).1, I'.ok.exfs b hb, .inl hb, (I'.ok.exf b hb).2, fun p hp => nomatch hp⟩
  rw [← e4]
  have whole : codeAny (model X.prog X.w) X.A (.compLoop (.DictComp kx vx [⟨tg, iter, ifs, 0⟩] scope pos) 0 (.ref it) (.ref D) (compEnvC scope cl C X.env)) (compPost (model X.prog X.w) X.A X.xe none (EP X pins σ Q) (.ref D) C) s4 := by
    refine compLoop_anyD (fun n s' => ∃ i H', Inv (bx X s3 H3 scope C cl fp) [] (wipe σ (own.map (·.2))) H' s' ∧ tn i s'.heap ∧ (∀ b ∈ fp, H' b = none) ∧ St i n H') ?_ m0 ⟨0, H3, I4, st4, fun b hb => (free3 b hb).1.1, start⟩
    rintro n s5 ⟨i, H5, I5, st5, n5, w5⟩
    rcases turn i n H5 w5 with ⟨stop, done⟩ | ⟨go, step⟩
    · refine thnF (T.done (bx X s3 H3 scope C cl fp) rfl rfl rfl hc i [] s5 _ H5 (fun _ _ => False) I5 (apart I5 n5) st5 stop) fun r s6 ⟨hr, I6⟩ => ?_
      subst hr
      have I7 : Inv X pins σ H5 s6 := I3.call' (ch := fp) I6.os I6.base I6.hok I6.bare fun b hb => let z := (free3 b hb).1.2; ⟨z.2.2.1, z.1, z.2.2.2.1, z.2.2.2.2⟩
      have unC : H5 C = none := I6.free
      obtain ⟨m, hn, _⟩ := I6.loc
      have hn : s6.heap.Ns C m := hn
      obtain ⟨f0, f1, f2, f3, f4, f5⟩ := I3.fpOk (H' := H5) (b := C) (Nat.le_of_eq eC) unC
      exact ⟨m, hn, fun h'' sb => ⟨.ref D, H5, I7.turned (t' := s6.toks) (fun b o hb e => (sb.2 b hb).trans e) f0 f1 f3 f4 f5, rfl, done⟩⟩
    · refine thnF (T.item (bx X s3 H3 scope C cl fp) rfl rfl rfl hc i [] s5 _ H5 (fun _ _ => False) I5 (apart I5 n5) st5 go) fun r s6 ⟨u, hr, h6⟩ => ?_
      subst hr
      refine thnF h6 fun _ s7 ⟨x, H7, I7, r7, y7, st7, n7⟩ => ?_
      refine thnF (pg.run _ s7 _ H7 x u _ (I7.pinned (apart I7 n7) (T.obj _ _ st7)) r7 (step x H7 y7)) fun _ s8 ⟨σ8, H8, I8, w8, q8⟩ => ?_
      refine thnF ((ht s3 H3 C cl fp).run _ s8 σ8 H8 _ I8 q8) fun b s9 ⟨H9, I9, q9⟩ => ?_
      cases b with
      | true =>
        rw [if_pos rfl] at q9
        refine thnF (pk.run _ s9 σ8 H9 _ I9 q9) fun _ s10 ⟨yk, H10, I10, r10, q10⟩ => ?_
        refine thnF (pv.run _ s10 σ8 H10 _ I10 q10) fun _ s11 ⟨yv, H11, I11, r11, es, ep, n', hD, ka, dic, hz, nx⟩ => ?_
        refine store_G (X := bx X s3 H3 scope C cl fp) hu I11 hD ka dic hz r10 r11 fun ep' s12 I12 => ?_
        obtain ⟨m', lt, nx⟩ := nx _ _ ep' r10 r11
        have pin : ∀ b ∈ fp, ∀ o, s7.heap.get? b = some o → s12.heap.get? b = some o ∧ (upd H11 D (.ext (RawD X.w D (storeG es n' _ _) ep'))) b = none := fun b hb o e =>
          let z := I12.pin (b, o) (List.mem_append_right _ (List.mem_append_right _ (mem_pinsAt hb e)))
          ⟨z.1, z.2.1⟩
        refine ⟨m', lt, i + 1, _, (I12.unpinned (pins := [])).weak (by rw [← w8, wipe_length]) (fun j v e => (wipe_some (by rw [w8]; exact e)).1), T.keep _ _ _ st7 fun b hb o e => (pin b hb o e).1, fun b hb => ?_, nx⟩
        obtain ⟨o, e, _⟩ := T.obj _ _ st7 b hb
        exact (pin b hb o e).2
      | false =>
        rw [if_neg Bool.false_ne_true] at q9
        obtain ⟨m', lt, nx⟩ := q9
        have pin : ∀ b ∈ fp, ∀ o, s7.heap.get? b = some o → s9.heap.get? b = some o ∧ H9 b = none := fun b hb o e =>
          let z := I9.pin (b, o) (List.mem_append_right _ (List.mem_append_right _ (mem_pinsAt hb e)))
          ⟨z.1, z.2.1⟩
        refine ⟨m', lt, i + 1, H9, (I9.unpinned (pins := [])).weak (by rw [← w8, wipe_length]) (fun j v e => (wipe_some (by rw [w8]; exact e)).1), T.keep _ _ _ st7 fun b hb o e => (pin b hb o e).1, fun b hb => ?_, nx⟩
        obtain ⟨o, e, _⟩ := T.obj _ _ st7 b hb
        exact (pin b hb o e).2
  exact codeAny_compStart_dict whole (T.self X.A 0 _ _ _ st4 whole)
end
end L3
/-! V, part a: operations on values of any make. -/
namespace L3
open PySem PySem.Spec PyProof.Rows L2
/-! ### plain -/
def addV : Val → Val → Rs Val
  | .int i, .int j => .ok (.int (i + j))
  | .list a, .list b => catL a b >>= fun l => .ok (.list l)
  | .tuple a, .tuple b => catT a b >>= fun l => .ok (.tuple l)
  | .str a, .str b => catS a b >>= fun l => .ok (.str l)
  | _, _ => .stuck
def subV : Val → Val → Rs Val
  | .int i, .int j => .ok (.int (i - j))
  | _, _ => .stuck
def mulV : Val → Val → Rs Val
  | .int i, .int j => mulI i j >>= fun r => .ok (.int r)
  | .list a, .int j => repL a j >>= fun r => .ok (.list r)
  | _, _ => .stuck
def modV : Val → Val → Rs Val
  | .int i, .int j => modI i j >>= fun r => .ok (.int r)
  | _, _ => .stuck
def fdivV : Val → Val → Rs Val
  | .int i, .int j => fdivI i j >>= fun r => .ok (.int r)
  | _, _ => .stuck
def powV : Val → Val → Rs Val
  | .int i, .int j => powI i j >>= fun r => .ok (.int r)
  | _, _ => .stuck
def negV : Val → Rs Val
  | .int i => .ok (.int (-i))
  | _ => .stuck
def absV : Val → Rs Val
  | .int i => .ok (.int i.natAbs)
  | _ => .stuck
def intV : Val → Rs Val
  | .int i => .ok (.int i)
  | .bool b => .ok (.int (if b = true then 1 else 0))
  | _ => .stuck
def lenV : Val → Rs Val
  | .list xs => .ok (.int xs.length)
  | .tuple xs => .ok (.int xs.length)
  | .dict xs => .ok (.int xs.length)
  | .str s => if s.length ≤ BIG then .ok (.int s.length) else .stuck
  | _ => .stuck
def cmpI (p : Int → Int → Bool) : Val → Val → Rs Bool
  | .int i, .int j => .ok (p i j)
  | _, _ => .stuck
abbrev ltI (i j : Int) : Bool := decide (i < j)
abbrev leI (i j : Int) : Bool := decide (i ≤ j)
abbrev gtI (i j : Int) : Bool := decide (j < i)
abbrev geI (i j : Int) : Bool := decide (j ≤ i)
def inV (u : Val) : Val → Rs Bool
  | .list xs => inL u xs
  | .dict kvs => dhasM kvs u
  | _ => .stuck
def isBV : Val → Val → Rs Bool
  | .bool a, .bool b => .ok (decide (a = b))
  | _, _ => .stuck
def boolV : Val → Rs Bool
  | .bool b => .ok b
  | _ => .stuck
/-- what may be asked for its truth -/
def tstV : Val → Rs Bool
  | .bool b => .ok b
  | .list xs => .ok (!xs.isEmpty)
  | _ => .stuck
def ixV (u : Val) (k : Val) : Rs Val := match u with
  | .list xs => (match k with | .int i => idxL xs i | _ => .stuck)
  | .tuple xs => (match k with | .int i => idxL xs i | _ => .stuck)
  | .dict kvs => dgetM kvs k
  | _ => .stuck
def slV : Val → Option Int → Option Int → Rs Val
  | .list xs, l, h => .ok (.list (cut xs l h))
  | _, _, _ => .stuck
def sumV : Val → Rs Val
  | .list xs => asInts xs >>= fun is => .ok (.int is.sum)
  | _ => .stuck
def allV : Val → Rs Bool
  | .list xs => asBools xs >>= fun is => .ok (is.all id)
  | _ => .stuck
def anyV : Val → Rs Bool
  | .list xs => asBools xs >>= fun is => .ok (is.any id)
  | _ => .stuck
def maxV : Val → Val → Rs Val
  | .int i, .int j => .ok (.int (max i j))
  | _, _ => .stuck
def minV : Val → Val → Rs Val
  | .int i, .int j => .ok (.int (min i j))
  | _, _ => .stuck
def listV : Val → Rs Val
  | .list xs => .ok (.list xs)
  | .tuple xs => .ok (.list xs)
  | .dict kvs => .ok (.list (dkeys kvs))
  | _ => .stuck
def tupV : Val → Rs Val
  | .list xs => .ok (.tuple xs)
  | _ => .stuck
def walkV : Val → Rs (List Val)
  | .list xs => .ok xs
  | .tuple xs => .ok xs
  | .dict kvs => .ok (dkeys kvs)
  | _ => .stuck
def valsV : Val → Rs (List Val)
  | .dict kvs => .ok (dvals kvs)
  | _ => .stuck
def rng1V : Val → Rs (List Val)
  | .int n => rngM 0 n
  | _ => .stuck
def rng2V : Val → Val → Rs (List Val)
  | .int l, .int h => rngM l h
  | _, _ => .stuck
def getV1 (d k : Val) : Rs Val := match d with
  | .dict kvs => dgetD kvs k .none
  | _ => .stuck
def getV2 (d k z : Val) : Rs Val := match d with
  | .dict kvs => dgetD kvs k z
  | _ => .stuck
def fldV (C f : Str) : Val → Rs Val
  | .obj C' fs => if C' = C then (match fs.lookup f with | some v => .ok v | none => .stuck) else .stuck
  | _ => .stuck
/-- an instance of C, without the name m among its fields -/
def insC (C m : Str) : Val → Rs Unit
  | .obj C' fs => if C' = C ∧ fs.lookup m = none then .ok () else .stuck
  | _ => .stuck
def appV (d v : Val) : Rs Val := match d with
  | .list ds => appL ds v >>= fun l => .ok (.list l)
  | _ => .stuck
/-! ### the rules -/
section
variable {T : Tx} {X : Cx} {N : List Str} {nm : List (Str × NameKind)} {k j : Nat} {W : Wd} {D : Ends} {gh : Gh} {Γ Γ' : List Sl} {ss : List Stmt} {a b c e f o tg it : Expr} {es : List Expr} {pos p apos np rp cp cpos : Pos} {u v z : Val} {x : Str}
variable {α β υ τ : Type}
theorem evd_add (ha : Ev X Γ a (hV T u)) (hb : Ev X Γ b (hV T v)) : EvM X Γ (.BinOp a .Add b pos) (fun r => rD T r) (addV u v) := fun r q => by
  unfold addV at q
  split at q
  · cases q; exact ev_add (ev_hr ha) (ev_hr hb)
  · obtain ⟨l, h1, h2⟩ := Rs.of_bind q; cases h2; exact ev_fz (eop_cat ha hb l h1)
  · obtain ⟨l, h1, h2⟩ := Rs.of_bind q; cases h2; exact evp_catT (ev_hr ha) (ev_hr hb) l h1
  · obtain ⟨l, h1, h2⟩ := Rs.of_bind q; cases h2; exact evp_catS (ev_hr ha) (ev_hr hb) l h1
  · cases q
def addLV : Val → Val → Rs Val
  | .list a, .list b => catL a b >>= fun l => .ok (.list l)
  | _, _ => .stuck
theorem eod_add (ha : Ev X Γ a (hV T u)) (hb : Ev X Γ b (hV T v)) : EoM X Γ (.BinOp a .Add b pos) (fun r => cV T r) (addLV u v) := fun r q => by
  unfold addLV at q
  split at q
  · obtain ⟨l, h1, h2⟩ := Rs.of_bind q; cases h2; exact eop_cat ha hb l h1
  · cases q
theorem evd_sub (ha : Ev X Γ a (hV T u)) (hb : Ev X Γ b (hV T v)) : EvM X Γ (.BinOp a .Sub b pos) (fun r => rD T r) (subV u v) := fun r q => by
  unfold subV at q
  split at q
  · cases q; exact ev_sub (ev_hr ha) (ev_hr hb)
  · cases q
theorem evd_mul (ha : Ev X Γ a (hV T u)) (hb : Ev X Γ b (hV T v)) : EvM X Γ (.BinOp a .Mult b pos) (fun r => rD T r) (mulV u v) := fun r q => by
  unfold mulV at q
  split at q
  · obtain ⟨l, h1, h2⟩ := Rs.of_bind q; cases h2; exact evp_mul (ev_hr ha) (ev_hr hb) l h1
  · obtain ⟨l, h1, h2⟩ := Rs.of_bind q; cases h2; exact ev_fz (eop_rep ha (ev_hr hb) l h1)
  · cases q
def mulLV : Val → Val → Rs Val
  | .list a, .int j => repL a j >>= fun r => .ok (.list r)
  | _, _ => .stuck
theorem eod_mul (ha : Ev X Γ a (hV T u)) (hb : Ev X Γ b (hV T v)) : EoM X Γ (.BinOp a .Mult b pos) (fun r => cV T r) (mulLV u v) := fun r q => by
  unfold mulLV at q
  split at q
  · obtain ⟨l, h1, h2⟩ := Rs.of_bind q; cases h2; exact eop_rep ha (ev_hr hb) l h1
  · cases q
theorem evd_mod (ha : Ev X Γ a (hV T u)) (hb : Ev X Γ b (hV T v)) : EvM X Γ (.BinOp a .Mod b pos) (fun r => rD T r) (modV u v) := fun r q => by
  unfold modV at q
  split at q
  · obtain ⟨l, h1, h2⟩ := Rs.of_bind q; cases h2; exact evp_mod (ev_hr ha) (ev_hr hb) l h1
  · cases q
theorem evd_fdiv (ha : Ev X Γ a (hV T u)) (hb : Ev X Γ b (hV T v)) : EvM X Γ (.BinOp a .FloorDiv b pos) (fun r => rD T r) (fdivV u v) := fun r q => by
  unfold fdivV at q
  split at q
  · obtain ⟨l, h1, h2⟩ := Rs.of_bind q; cases h2; exact evp_fdiv (ev_hr ha) (ev_hr hb) l h1
  · cases q
theorem evd_pow (ha : Ev X Γ a (hV T u)) (hb : Ev X Γ b (hV T v)) : EvM X Γ (.BinOp a .Pow b pos) (fun r => rD T r) (powV u v) := fun r q => by
  unfold powV at q
  split at q
  · obtain ⟨l, h1, h2⟩ := Rs.of_bind q; cases h2; exact evp_pow (ev_hr ha) (ev_hr hb) l h1
  · cases q
theorem evd_neg (ha : Ev X Γ a (hV T u)) : EvM X Γ (.UnaryOp .USub a pos) (fun r => rD T r) (negV u) := fun r q => by
  unfold negV at q
  split at q
  · cases q; exact ev_neg (ev_hr ha)
  · cases q
/-! comparisons -/
theorem evd_lt (ha : Ev X Γ a (hV T u)) (hb : Ev X Γ b (hV T v)) : EvM X Γ (.Compare a [.Lt] [b] pos) (fun r : Bool => rD T (.bool r)) (cmpI ltI u v) := fun r q => by
  unfold cmpI at q
  split at q
  · cases q; exact ev_lt (ev_hr ha) (ev_hr hb)
  · cases q
theorem evd_le (ha : Ev X Γ a (hV T u)) (hb : Ev X Γ b (hV T v)) : EvM X Γ (.Compare a [.LtE] [b] pos) (fun r : Bool => rD T (.bool r)) (cmpI leI u v) := fun r q => by
  unfold cmpI at q
  split at q
  · cases q; exact ev_le (ev_hr ha) (ev_hr hb)
  · cases q
theorem evd_gt (ha : Ev X Γ a (hV T u)) (hb : Ev X Γ b (hV T v)) : EvM X Γ (.Compare a [.Gt] [b] pos) (fun r : Bool => rD T (.bool r)) (cmpI gtI u v) := fun r q => by
  unfold cmpI at q
  split at q
  · cases q; exact ev_gt (ev_hr ha) (ev_hr hb)
  · cases q
theorem evd_ge (ha : Ev X Γ a (hV T u)) (hb : Ev X Γ b (hV T v)) : EvM X Γ (.Compare a [.GtE] [b] pos) (fun r : Bool => rD T (.bool r)) (cmpI geI u v) := fun r q => by
  unfold cmpI at q
  split at q
  · cases q; exact ev_ge (ev_hr ha) (ev_hr hb)
  · cases q
theorem tvd_lt (ha : Ev X Γ a (hV T u)) (hb : Ev X Γ b (hV T v)) : TvM X Γ (.Compare a [.Lt] [b] pos) (cmpI ltI u v) := fun r q => by
  unfold cmpI at q
  split at q
  · cases q; exact tv_lt (ev_hr ha) (ev_hr hb)
  · cases q
theorem tvd_le (ha : Ev X Γ a (hV T u)) (hb : Ev X Γ b (hV T v)) : TvM X Γ (.Compare a [.LtE] [b] pos) (cmpI leI u v) := fun r q => by
  unfold cmpI at q
  split at q
  · cases q; exact tv_le (ev_hr ha) (ev_hr hb)
  · cases q
theorem tvd_gt (ha : Ev X Γ a (hV T u)) (hb : Ev X Γ b (hV T v)) : TvM X Γ (.Compare a [.Gt] [b] pos) (cmpI gtI u v) := fun r q => by
  unfold cmpI at q
  split at q
  · cases q; exact tv_gt (ev_hr ha) (ev_hr hb)
  · cases q
theorem tvd_ge (ha : Ev X Γ a (hV T u)) (hb : Ev X Γ b (hV T v)) : TvM X Γ (.Compare a [.GtE] [b] pos) (cmpI geI u v) := fun r q => by
  unfold cmpI at q
  split at q
  · cases q; exact tv_ge (ev_hr ha) (ev_hr hb)
  · cases q
theorem evd_eq (xc : XC X N nm k) (ha : Ev X Γ a (hV T u)) (hb : Ev X Γ b (hV T v)) : EvM X Γ (.Compare a [.Eq] [b] pos) (fun r : Bool => rD T (.bool r)) (eqV u v) := fun r q => ev_eqV ha hb q xc.ls0
theorem tvd_eq (xc : XC X N nm k) (ha : Ev X Γ a (hV T u)) (hb : Ev X Γ b (hV T v)) : TvM X Γ (.Compare a [.Eq] [b] pos) (eqV u v) := fun r q => tv_eqV ha hb q xc.ls0
def neV (u v : Val) : Rs Bool := eqV u v >>= fun r => .ok (!r)
theorem evd_ne (xc : XC X N nm k) (ha : Ev X Γ a (hV T u)) (hb : Ev X Γ b (hV T v)) : EvM X Γ (.Compare a [.NotEq] [b] pos) (fun r : Bool => rD T (.bool r)) (neV u v) := fun r q => by
  obtain ⟨_, h1, h2⟩ := Rs.of_bind q; cases h2; exact ev_neV ha hb h1 xc.ls0
theorem tvd_ne (xc : XC X N nm k) (ha : Ev X Γ a (hV T u)) (hb : Ev X Γ b (hV T v)) : TvM X Γ (.Compare a [.NotEq] [b] pos) (neV u v) := fun r q => by
  obtain ⟨_, h1, h2⟩ := Rs.of_bind q; cases h2; exact tv_neV ha hb h1 xc.ls0
theorem evd_isN {j : Nat} {pos' : Pos} (ha : Ev X Γ a (rD T u)) : EvM X Γ (.Compare a [.Is] [.Constant .none j pos'] pos) (fun r : Bool => rD T (.bool r)) (.ok (isNone u)) := fun r q => by cases q; exact ev_isN ha
theorem evd_noN {j : Nat} {pos' : Pos} (ha : Ev X Γ a (rD T u)) : EvM X Γ (.Compare a [.IsNot] [.Constant .none j pos'] pos) (fun r : Bool => rD T (.bool r)) (.ok (!isNone u)) := fun r q => by cases q; exact ev_noN ha
theorem tvd_isN {j : Nat} {pos' : Pos} (ha : Ev X Γ a (rD T u)) : TvM X Γ (.Compare a [.Is] [.Constant .none j pos'] pos) (.ok (isNone u)) := fun r q => by cases q; exact tv_isN ha
theorem tvd_noN {j : Nat} {pos' : Pos} (ha : Ev X Γ a (rD T u)) : TvM X Γ (.Compare a [.IsNot] [.Constant .none j pos'] pos) (.ok (!isNone u)) := fun r q => by cases q; exact tv_noN ha
theorem evd_isB (ha : Ev X Γ a (rD T u)) (hb : Ev X Γ b (rD T v)) : EvM X Γ (.Compare a [.Is] [b] pos) (fun r : Bool => rD T (.bool r)) (isBV u v) := fun r q => by
  unfold isBV at q
  split at q
  · cases q; exact ev_isB ha hb
  · cases q
theorem tvd_isB (ha : Ev X Γ a (rD T u)) (hb : Ev X Γ b (rD T v)) : TvM X Γ (.Compare a [.Is] [b] pos) (isBV u v) := fun r q => by
  unfold isBV at q
  split at q
  · cases q; exact tv_isB ha hb
  · cases q
def nisBV (u v : Val) : Rs Bool := isBV u v >>= fun r => .ok (!r)
theorem evd_nisB (ha : Ev X Γ a (rD T u)) (hb : Ev X Γ b (rD T v)) : EvM X Γ (.Compare a [.IsNot] [b] pos) (fun r : Bool => rD T (.bool r)) (nisBV u v) := fun r q => by
  obtain ⟨_, h1, h2⟩ := Rs.of_bind q
  cases h2
  unfold isBV at h1
  split at h1
  · cases h1; exact ev_nisB ha hb
  · cases h1
theorem tvd_nisB (ha : Ev X Γ a (rD T u)) (hb : Ev X Γ b (rD T v)) : TvM X Γ (.Compare a [.IsNot] [b] pos) (nisBV u v) := fun r q => by
  obtain ⟨_, h1, h2⟩ := Rs.of_bind q
  cases h2
  unfold isBV at h1
  split at h1
  · cases h1; exact tv_nisB ha hb
  · cases h1
theorem evd_in (xc : XC X N nm k) (ha : Ev X Γ a (hV T u)) (hb : Ev X Γ b (hV T v)) (hT : T.w = X.w := by rfl) (hm : behindInMarks .In b = false := by rfl) : EvM X Γ (.Compare a [.In] [b] pos) (fun r : Bool => rD T (.bool r)) (inV u v) := fun r q => by
  unfold inV at q
  split at q
  · exact ev_inL ha hb q xc.ls hm
  · exact evm_inD xc ha hb hT hm r q
  · cases q
def ninV (u v : Val) : Rs Bool := inV u v >>= fun r => .ok (!r)
theorem evd_nin (xc : XC X N nm k) (ha : Ev X Γ a (hV T u)) (hb : Ev X Γ b (hV T v)) (hT : T.w = X.w := by rfl) (hm : behindInMarks .NotIn b = false := by rfl) : EvM X Γ (.Compare a [.NotIn] [b] pos) (fun r : Bool => rD T (.bool r)) (ninV u v) := fun r q => by
  obtain ⟨r', h1, h2⟩ := Rs.of_bind q
  cases h2
  unfold inV at h1
  split at h1
  · exact ev_niL ha hb h1 xc.ls hm
  · exact evm_niD xc ha hb hT hm (!r') (by rw [h1]; rfl)
  · cases h1
theorem tvd_in (xc : XC X N nm k) (ha : Ev X Γ a (hV T u)) (hb : Ev X Γ b (hV T v)) (hT : T.w = X.w := by rfl) (hm : behindInMarks .In b = false := by rfl) : TvM X Γ (.Compare a [.In] [b] pos) (inV u v) := fun r q => by
  unfold inV at q
  split at q
  · exact tv_inL ha hb q xc.ls hm
  · obtain ⟨_, h1, h2⟩ := Rs.of_bind q
    cases h2
    obtain ⟨n, e, l⟩ := keyC_ok h1
    exact tv_cmp0 (op_inG xc.ls) ha hb (fun x y F G H f g p1 p2 Q q => by
      obtain ⟨es, da, de, _⟩ := dat_of (f.trans g) hT p2
      refine ⟨es, n, da, kat_of (D1.dt (f.trans g) p1) e l, ?_⟩
      rw [dhas_eq de e]
      exact q) hm
  · cases q
theorem tvd_nin (xc : XC X N nm k) (ha : Ev X Γ a (hV T u)) (hb : Ev X Γ b (hV T v)) (hT : T.w = X.w := by rfl) (hm : behindInMarks .NotIn b = false := by rfl) : TvM X Γ (.Compare a [.NotIn] [b] pos) (ninV u v) := fun r q => by
  obtain ⟨r', q1, h3⟩ := Rs.of_bind q
  have h3 := Rs.ok.inj h3
  subst h3
  unfold inV at q1
  split at q1
  · exact tv_niL ha hb q1 xc.ls hm
  · obtain ⟨_, h1, h2⟩ := Rs.of_bind q1
    cases h2
    obtain ⟨n, e, l⟩ := keyC_ok h1
    exact tv_cmp0 (op_ninG xc.ls) ha hb (fun x y F G H f g p1 p2 Q q => by
      obtain ⟨es, da, de, _⟩ := dat_of (f.trans g) hT p2
      refine ⟨es, n, da, kat_of (D1.dt (f.trans g) p1) e l, ?_⟩
      rw [dhas_eq de e]
      exact q) hm
  · cases q1
/-! tests -/
theorem tvd_val {m : Rs Bool} (h : EvM X Γ a (fun r : Bool => rD T (.bool r)) m) (he : ∀ whole, isTrue a X.env whole = (do let v ← whole; standAt a.pos; holding [v] (truthy v)) := by intro _; rfl) : TvM X Γ a m := tvp_val h he
theorem tvd_tst (h : Ev X Γ a (hV T u)) (he : ∀ whole, isTrue a X.env whole = (do let v ← whole; standAt a.pos; holding [v] (truthy v)) := by intro _; rfl) : TvM X Γ a (tstV u) := fun r q => by
  unfold tstV at q
  split at q
  · cases q; exact tv_val (ev_hr h) he
  · cases q; exact tv_list h he
  · cases q
/-- a value that must be a bool -/
theorem evd_bool (h : Ev X Γ a (hV T u)) : EvM X Γ a (fun r : Bool => rD T (.bool r)) (boolV u) := fun r q => by
  unfold boolV at q
  split at q
  · cases q; exact ev_hr h
  · cases q
theorem evp_tobool {m : Rs Val} (h : EvM X Γ a (fun r => rD T r) m) : EvM X Γ a (fun r : Bool => rD T (.bool r)) (m >>= boolV) := fun r q => by
  obtain ⟨v, h1, h2⟩ := Rs.of_bind q
  exact evd_bool (ev_hv (h v h1)) r h2
/-! subscripts, slices -/
theorem evd_ix (xc : XC X N nm k) (ha : Ev X Γ a (hV T u)) (hb : Ev X Γ b (rD T v)) (hT : T.w = X.w := by rfl) (hs : PlainIx b := by exact fun _ _ => rfl) (hs2 : NoSl b := by exact fun _ _ => rfl) : EvM X Γ (.Subscript a b pos) (fun r => rD T r) (ixV u v) := fun r q => by
  unfold ixV at q
  split at q
  · split at q
    · exact evp_ixL ha hb hs r q
    · cases q
  · split at q
    · exact evp_ixT (ev_hr ha) hb hs r q
    · cases q
  · exact evm_dget xc ha hb hT hs2 r q
  · cases q
theorem eod_sl {lo hi : Option Expr} {l h : Option Int} {p2 : Pos} (ha : Ev X Γ a (hV T u)) (hl : EvP X Γ lo l) (hu : EvP X Γ hi h) : EoM X Γ (.Subscript a (.Slice lo hi none p2) pos) (fun r => cV T r) (slV u l h) := fun r q => by
  unfold slV at q
  split at q
  · cases q; exact evo_sl ha hl hu
  · cases q
/-! built-ins -/
theorem evd_abs (h : Bl X "abs") (ha : Ev X Γ a (hV T u)) (he : starEach [a] X.env = (false, eval a X.env) :: starEach [] X.env := by rfl) : EvM X Γ (.Call (.Name "abs" p) [a] [] pos) (fun r => rD T r) (absV u) := fun r q => by
  unfold absV at q
  split at q
  · cases q; exact ev_abs h (ev_hr ha) he
  · cases q
theorem evd_int (h : Bl X "int") (ha : Ev X Γ a (hV T u)) (he : starEach [a] X.env = (false, eval a X.env) :: starEach [] X.env := by rfl) : EvM X Γ (.Call (.Name "int" p) [a] [] pos) (fun r => rD T r) (intV u) := fun r q => by
  unfold intV at q
  split at q
  · cases q; exact ev_intI h (ev_hr ha) he
  · cases q; exact ev_intB h (ev_hr ha) he
  · cases q
theorem evd_len (h : Bl X "len") (ha : Ev X Γ a (hV T u)) (hT : T.w = X.w := by rfl) (he : starEach [a] X.env = (false, eval a X.env) :: starEach [] X.env := by rfl) : EvM X Γ (.Call (.Name "len" p) [a] [] pos) (fun r => rD T r) (lenV u) := fun r q => by
  unfold lenV at q
  split at q
  · cases q; exact ev_len h ha he
  · cases q; exact ev_lenT h (ev_hr ha) he
  · cases q; exact ev_lenD h ha hT he
  · split at q
    · rename_i z
      cases q; exact ev_lenS h (ev_hr ha) z he
    · cases q
  · cases q
theorem evd_sum (xc : XC X N nm k) (h : Bl X "sum") (ha : Ev X Γ a (hV T u)) (he : starEach [a] X.env = (false, eval a X.env) :: starEach [] X.env := by rfl) : EvM X Γ (.Call (.Name "sum" p) [a] [] pos) (fun r => rD T r) (sumV u) := fun r q => by
  unfold sumV at q
  split at q
  · obtain ⟨l, h1, h2⟩ := Rs.of_bind q; cases h2
    rw [asInts_ok h1] at ha
    exact ev_sum xc.calm h ha he
  · cases q
theorem evd_all (xc : XC X N nm k) (h : Bl X "all") (ha : Ev X Γ a (hV T u)) (he : starEach [a] X.env = (false, eval a X.env) :: starEach [] X.env := by rfl) : EvM X Γ (.Call (.Name "all" p) [a] [] pos) (fun r : Bool => rD T (.bool r)) (allV u) := fun r q => by
  unfold allV at q
  split at q
  · obtain ⟨l, h1, h2⟩ := Rs.of_bind q; cases h2
    rw [asBools_ok h1] at ha
    exact ev_all xc.calm h ha he
  · cases q
theorem evd_any (xc : XC X N nm k) (h : Bl X "any") (ha : Ev X Γ a (hV T u)) (he : starEach [a] X.env = (false, eval a X.env) :: starEach [] X.env := by rfl) : EvM X Γ (.Call (.Name "any" p) [a] [] pos) (fun r : Bool => rD T (.bool r)) (anyV u) := fun r q => by
  unfold anyV at q
  split at q
  · obtain ⟨l, h1, h2⟩ := Rs.of_bind q; cases h2
    rw [asBools_ok h1] at ha
    exact ev_any xc.calm h ha he
  · cases q
/-- list(d) -/
def rListR (w : World) : List V → Hp → VK → Prop := fun xs H Q => ∃ (a : Addr) (es : List Ent) (ep : Nat) (ks : List V), xs = [.ref a] ∧ H a = some (.ext (RawD w a es ep)) ∧ Vals ks (es.map (·.2.1)) ∧ ∀ p, H p = none → Q (.ref p) (upd H p (.lst ks))
theorem cr_listR (hc : X.calm = true) : CallR X (.type "list") (rListR X.w) := by
  intro pins s σ H xs us Q I r h
  obtain ⟨a, es, ep, ks, rfl, ha, rk, q⟩ := h
  rw [Vals.ref1 r]
  obtain ⟨hS, hz, ds, raw, hl⟩ := raw_raw I.hok ha
  have hsz : ds.size = es.length := entG_size hl
  refine PySem.W.kdl_call (KdlSrc.rawDict (es := ds) (ep := ep) hS) (I.ok.hd hc) raw (by omega) fun h' tk acc' c' old new it => ?_
  have hn : H s.heap.objs.size = none := I.hok.fresh (Nat.le_refl _)
  have hr := Paired.length rk
  rw [List.length_map] at hr
  have el : acc'.toList = es.map (·.2.1) := by
    refine List.ext_getElem? fun i => ?_
    by_cases hi : i < es.length
    · have h1 : i < acc'.size := by rw [it.1, hsz]; exact hi
      obtain ⟨hi2, e⟩ := it.2 i _ (Array.getElem?_eq_getElem h1)
      rw [Array.getElem?_toList, Array.getElem?_eq_getElem h1, e, List.getElem?_map, List.getElem?_eq_getElem hi]
      have z := entG_at hl i
      rw [List.getElem?_eq_getElem hi, Array.getElem?_eq_getElem hi2] at z
      rw [Option.some.inj z]
      rfl
    · rw [List.getElem?_eq_none (by rw [Array.length_toList, it.1, hsz]; omega), List.getElem?_eq_none (by rw [List.length_map]; omega)]
  have J : Inv X pins σ (upd H s.heap.objs.size (.lst ks)) { s with heap := h', toks := tk } := I.laid (t' := tk) old (Nat.le_refl _) ⟨by omega, es.map (·.2.1), c', rk, by rw [← el]; exact new⟩
  exact ⟨.ref s.heap.objs.size, _, J, rfl, q _ hn⟩
theorem eod_list (xc : XC X N nm k) (h : Bl X "list") (ha : Ev X Γ a (hV T u)) (hT : T.w = X.w := by rfl) (he : starEach [a] X.env = (false, eval a X.env) :: starEach [] X.env := by rfl) : EoM X Γ (.Call (.Name "list" p) [a] [] pos) (fun r => cV T r) (listV u) := fun r q => by
  unfold listV at q
  split at q
  · cases q; exact evo_list h ha he
  · cases q; exact evo_listT h (ev_hr ha) he
  · cases q
    exact fun W gh σ F G H E Q q => EW.of (pe_callTy (cr_listR xc.calm) h.hg h.hm (by decide +kernel) (pa_cons pe_w pa_nil he) (he := he)) (ha W gh σ F G H E _ fun v F1 G1 H1 E1 x1 ⟨d, es, ep, ed, hd, nd, de⟩ => by
      obtain ⟨ks, vs, r1, r2, a1, a2⟩ := ent_split de
      exact ⟨d, es, ep, ks, by rw [ed], by rw [← hT]; exact hd, r1, fun n hn => q n [n] F1 G1 _ (E1.new hn) (x1.new hn) (one_new (x1.s.free hn) (E1.gH.free hn)) (own_list ⟨upd_same, a1⟩)⟩)
  · cases q
theorem evd_tuple (h : Bl X "tuple") (ha : Ev X Γ a (hV T u)) (he : starEach [a] X.env = (false, eval a X.env) :: starEach [] X.env := by rfl) : EvM X Γ (.Call (.Name "tuple" p) [a] [] pos) (fun r => rD T r) (tupV u) := fun r q => by
  unfold tupV at q
  split at q
  · cases q; exact ev_tuple h ha he
  · cases q
/-! walks -/
theorem evwd (h : Ev X Γ it (bV T u)) (hT : T.w = X.w := by rfl) : EvW T X Γ tg it (walkV u) := fun xs q => by
  unfold walkV at q
  split at q
  · exact evw_listB h xs q
  · exact evw_tup (ev_hr (ev_hbv h)) xs q
  · exact evw_keys h hT xs q
  · cases q
theorem evwd_vals (h : Ev X Γ o (bV T u)) (hT : T.w = X.w := by rfl) (hbase : attributeBase o "values" X.env (eval o X.env) = eval o X.env := by rfl) (hline : (apos.endLine == cpos.line) = true := by rfl) : EvW T X Γ tg (.Call (.Attribute o "values" apos) [] [] cpos) (valsV u) := fun xs q => by
  unfold valsV at q
  split at q
  · exact evw_values h hT hbase hline xs q
  · cases q
theorem evwd_rng1 (hb : Bl X "range") (h : Ev X Γ e (hV T u)) (he : starEach [e] X.env = (false, eval e X.env) :: starEach [] X.env := by rfl) : EvW T X Γ tg (.Call (.Name "range" rp) [e] [] cp) (rng1V u) := fun xs q => by
  unfold rng1V at q
  split at q
  · exact evw_rng1 hb (ev_hr h) he xs q
  · cases q
theorem evwd_rng2 {e2 : Expr} (hb : Bl X "range") (h : Ev X Γ e (hV T u)) (h2 : Ev X Γ e2 (hV T v)) (he : starEach [e, e2] X.env = (false, eval e X.env) :: starEach [e2] X.env := by rfl) (he2 : starEach [e2] X.env = (false, eval e2 X.env) :: starEach [] X.env := by rfl) :
    EvW T X Γ tg (.Call (.Name "range" rp) [e, e2] [] cp) (rng2V u v) := fun xs q => by
  unfold rng2V at q
  split at q
  · exact evw_rng2 hb (ev_hr h) (ev_hr h2) he he2 xs q
  · cases q
/-! fields, methods, properties -/
theorem fldV_ok {C g : Str} {u r : Val} (h : fldV C g u = .ok r) : ∃ fs, u = .obj C fs ∧ fs.lookup g = some r := by
  unfold fldV at h
  split at h
  · split at h
    · rename_i z
      subst z
      split at h
      · cases h; exact ⟨_, rfl, by assumption⟩
      · cases h
    · cases h
  · cases h
theorem evd_fld {C g : Str} (ho : Ev X Γ o (hV T u)) (c : Cls X.K (He.ga X.K C)) (n : NoAttr X.K (He.ga X.K C) g) (hK : X.K = T.K := by rfl) (hb : attributeBase o g X.env (eval o X.env) = eval o X.env := by rfl) : EvM X Γ (.Attribute o g pos) (fun r => rD T r) (fldV C g u) := fun r q => by
  obtain ⟨fs, h1, h2⟩ := fldV_ok q
  subst h1
  exact ev_at ho c n h2 hK hb
theorem insC_ok {C g : Str} {u : Val} {r : Unit} (h : insC C g u = .ok r) : ∃ fs, u = .obj C fs ∧ fs.lookup g = none := by
  unfold insC at h
  split at h
  · split at h
    · rename_i z
      obtain ⟨rfl, z⟩ := z
      exact ⟨_, rfl, z⟩
    · cases h
  · cases h
section
variable {As : List Rp} {m : Rs Val} {C g : Str}
theorem of_ins {α : Type} {m : Rs α} {r : α} (q : (insC C g u >>= fun _ => m) = .ok r) (hK : X.K = T.K) : InsOf (hV T u) (He.ga X.K C) g ∧ m = .ok r := by
  obtain ⟨_, h1, h2⟩ := Rs.of_bind q
  obtain ⟨fs, h3, h4⟩ := insC_ok h1
  subst h3
  exact ⟨insOf h4 hK, h2⟩
theorem of_insX {α : Type} {m : Rs α} {r : Xv} (q : (insC C g u >>= fun _ => m) = .err r) (hK : X.K = T.K) : InsOf (hV T u) (He.ga X.K C) g ∧ m = .err r := by
  cases h1 : insC C g u with
  | ok _ =>
    rw [h1] at q
    obtain ⟨fs, h3, h4⟩ := insC_ok h1
    subst h3
    exact ⟨insOf h4 hK, q⟩
  | err x =>
    exfalso
    unfold insC at h1
    split at h1
    · split at h1 <;> cases h1
    · cases h1
  | stuck => rw [h1] at q; cases q
theorem evd_m {pl : Sem Bool} (xc : XC X N nm k) (ho : Ev X Γ o (hV T u)) (d : Mtk X.prog X.w X.K X.mg X.base (He.ga X.K C) g j (spU T (hV T u :: As) m)) (ha : EvA X Γ (e :: es) As) (hK : X.K = T.K := by rfl) (hj : j ≤ k := by decide)
    (hst : starEach (e :: es) X.env = (false, eval e X.env) :: starEach es X.env := by rfl) (hpl : (backTo pos (starEach es X.env)).any (·.1) = false := by rfl)
    (ht : eval (.Call (.Attribute o g apos) (e :: es) [] pos) X.env = (do
      let ov ← eval o X.env
      standAt apos.atName
      let (f, first) ← holding [ov] (getMethod ov g pl)
      callWith pos f first (backTo pos (starEach (e :: es) X.env)) (backToKw pos (keywordEach [] X.env))) := by rfl) : EvM X Γ (.Call (.Attribute o g apos) (e :: es) [] pos) (fun r => rD T r) (insC C g u >>= fun _ => m) := fun r q =>
  let z := of_ins (X := X) (T := T) q hK
  ev_m xc ho z.1 (d.imp (sp_ok z.2)) ha hj hst hpl ht
theorem evqd_m {pl : Sem Bool} (xc : XC X N nm k) (ho : Ev X Γ o (hV T u)) (d : Mtk X.prog X.w X.K X.mg X.base (He.ga X.K C) g j (spU T (hV T u :: As) m)) (ha : EvA X Γ (e :: es) As) (hK : X.K = T.K := by rfl) (hj : j ≤ k := by decide)
    (hst : starEach (e :: es) X.env = (false, eval e X.env) :: starEach es X.env := by rfl) (hpl : (backTo pos (starEach es X.env)).any (·.1) = false := by rfl)
    (ht : eval (.Call (.Attribute o g apos) (e :: es) [] pos) X.env = (do
      let ov ← eval o X.env
      standAt apos.atName
      let (f, first) ← holding [ov] (getMethod ov g pl)
      callWith pos f first (backTo pos (starEach (e :: es) X.env)) (backToKw pos (keywordEach [] X.env))) := by rfl) : EvQ T X Γ (.Call (.Attribute o g apos) (e :: es) [] pos) (insC C g u >>= fun _ => m) := fun r q =>
  let z := of_insX (X := X) (T := T) q hK
  evx_m xc ho z.1 (d.imp (sp_err z.2)) ha hj hst hpl ht
theorem eod_m {pl : Sem Bool} (xc : XC X N nm k) (ho : Ev X Γ o (hV T u)) (d : Mtk X.prog X.w X.K X.mg X.base (He.ga X.K C) g j (spW T (hV T u :: As) m)) (ha : EvA X Γ (e :: es) As) (hK : X.K = T.K := by rfl) (hj : j ≤ k := by decide)
    (hst : starEach (e :: es) X.env = (false, eval e X.env) :: starEach es X.env := by rfl) (hpl : (backTo pos (starEach es X.env)).any (·.1) = false := by rfl)
    (ht : eval (.Call (.Attribute o g apos) (e :: es) [] pos) X.env = (do
      let ov ← eval o X.env
      standAt apos.atName
      let (f, first) ← holding [ov] (getMethod ov g pl)
      callWith pos f first (backTo pos (starEach (e :: es) X.env)) (backToKw pos (keywordEach [] X.env))) := by rfl) : EoM X Γ (.Call (.Attribute o g apos) (e :: es) [] pos) (fun r => cV T r) (insC C g u >>= fun _ => m) := fun r q =>
  let z := of_ins (X := X) (T := T) q hK
  evo_m xc ho z.1 (d.imp (sp_okW z.2)) ha hj hst hpl ht
theorem evqdW_m {pl : Sem Bool} (xc : XC X N nm k) (ho : Ev X Γ o (hV T u)) (d : Mtk X.prog X.w X.K X.mg X.base (He.ga X.K C) g j (spW T (hV T u :: As) m)) (ha : EvA X Γ (e :: es) As) (hK : X.K = T.K := by rfl) (hj : j ≤ k := by decide)
    (hst : starEach (e :: es) X.env = (false, eval e X.env) :: starEach es X.env := by rfl) (hpl : (backTo pos (starEach es X.env)).any (·.1) = false := by rfl)
    (ht : eval (.Call (.Attribute o g apos) (e :: es) [] pos) X.env = (do
      let ov ← eval o X.env
      standAt apos.atName
      let (f, first) ← holding [ov] (getMethod ov g pl)
      callWith pos f first (backTo pos (starEach (e :: es) X.env)) (backToKw pos (keywordEach [] X.env))) := by rfl) : EvQ T X Γ (.Call (.Attribute o g apos) (e :: es) [] pos) (insC C g u >>= fun _ => m) := fun r q =>
  let z := of_insX (X := X) (T := T) q hK
  evx_m xc ho z.1 (d.imp (sp_errW z.2)) ha hj hst hpl ht
theorem evd_m0 {pl : Sem Bool} (xc : XC X N nm k) (ho : Ev X Γ o (hV T u)) (d : Mtk X.prog X.w X.K X.mg X.base (He.ga X.K C) g j (spU T [hV T u] m)) (hK : X.K = T.K := by rfl) (hj : j ≤ k := by decide)
    (ht : eval (.Call (.Attribute o g apos) [] [] pos) X.env = (do
      let ov ← eval o X.env
      standAt apos.atName
      let (f, first) ← holding [ov] (getMethod ov g pl)
      callWith pos f first (backTo pos (starEach [] X.env)) (backToKw pos (keywordEach [] X.env))) := by rfl) : EvM X Γ (.Call (.Attribute o g apos) [] [] pos) (fun r => rD T r) (insC C g u >>= fun _ => m) := fun r q =>
  let z := of_ins (X := X) (T := T) q hK
  ev_m0 xc ho z.1 (d.imp (sp_ok z.2)) hj ht
theorem eod_m0 {pl : Sem Bool} (xc : XC X N nm k) (ho : Ev X Γ o (hV T u)) (d : Mtk X.prog X.w X.K X.mg X.base (He.ga X.K C) g j (spW T [hV T u] m)) (hK : X.K = T.K := by rfl) (hj : j ≤ k := by decide)
    (ht : eval (.Call (.Attribute o g apos) [] [] pos) X.env = (do
      let ov ← eval o X.env
      standAt apos.atName
      let (f, first) ← holding [ov] (getMethod ov g pl)
      callWith pos f first (backTo pos (starEach [] X.env)) (backToKw pos (keywordEach [] X.env))) := by rfl) : EoM X Γ (.Call (.Attribute o g apos) [] [] pos) (fun r => cV T r) (insC C g u >>= fun _ => m) := fun r q =>
  let z := of_ins (X := X) (T := T) q hK
  evo_m0 xc ho z.1 (d.imp (sp_okW z.2)) hj ht
theorem evd_p {at_ : Str} (xc : XC X N nm k) (ho : Ev X Γ o (hV T u)) (d : Prk X.prog X.w X.K X.mg X.base (He.ga X.K C) at_ j (spU T [hV T u] m)) (hK : X.K = T.K := by rfl) (hj : j + 1 ≤ k := by decide) (hab : attributeBase o at_ X.env (eval o X.env) = eval o X.env := by rfl) : EvM X Γ (.Attribute o at_ pos) (fun r => rD T r) (insC C "" u >>= fun _ => m) := fun r q =>
  let z := of_ins (X := X) (T := T) q hK
  ev_p xc ho z.1 (d.imp (sp_ok z.2)) hj hab
theorem eod_p {at_ : Str} (xc : XC X N nm k) (ho : Ev X Γ o (hV T u)) (d : Prk X.prog X.w X.K X.mg X.base (He.ga X.K C) at_ j (spW T [hV T u] m)) (hK : X.K = T.K := by rfl) (hj : j + 1 ≤ k := by decide) (hab : attributeBase o at_ X.env (eval o X.env) = eval o X.env := by rfl) : EoM X Γ (.Attribute o at_ pos) (fun r => cV T r) (insC C "" u >>= fun _ => m) := fun r q =>
  let z := of_ins (X := X) (T := T) q hK
  evo_p xc ho z.1 (d.imp (sp_okW z.2)) hj hab
end
/-! the own slot's append -/
theorem blm_appV {P : α → Prop} {Z : Xv → Prop} {me : Rs Val} {d : Val} {mk : Val → Rs α} (xb : XB X N nm k) (i : Nat) (h : EvM X Γ e (fun v => rD T v) me) (t : ∀ ds', BlM X W D gh (Γ.set i (.ow (cV T ds'))) ss (mk ds') P Z) (hi : Γ[i]? = some (.ow (cV T d)) := by rfl)
    (hN : N[i]? = some x := by rfl) (hv : visB nm x = true := by decide +kernel) (hd : (x == ("__debug__" : Str)) = false := by decide +kernel) (hcd : (x == ("__classdict__" : Str)) = false := by decide +kernel)
    (hbase : attributeBase (.Name x np) ("append" : Str) X.env (eval (.Name x np) X.env) = eval (.Name x np) X.env := by rfl)
    (hfew : ((backTo cp (starEach [e] X.env)).all (fun x => !x.1) && (backToKw cp (keywordEach [] X.env)).all (fun x => x.1.isSome)
      && decide ([e].length + ([] : List Keyword).length + (if ([] : List Keyword).isEmpty then 0 else 1) < 30)) = true := by rfl)
    (hline : (apos.endLine == cp.line) = true := by rfl) (he : starEach [e] X.env = (false, eval e X.env) :: starEach [] X.env := by rfl)
    (hsw : swapsWith (.Call (.Attribute (.Name x np) "append" apos) [e] [] cp) none pos.line X.env = pure false := by rfl) :
    BlM X W D gh Γ (.Expr (.Call (.Attribute (.Name x np) "append" apos) [e] [] cp) pos :: ss) ((me >>= fun v => appV d v).ne >>= mk) P Z := fun q => by
  obtain ⟨r, hr, q⟩ := Rs.ho_ne (Rs.ho_bind q)
  obtain ⟨v, hv', hr⟩ := Rs.of_bind hr
  unfold appV at hr
  split at hr
  · obtain ⟨l, h1, h2⟩ := Rs.of_bind hr
    cases h2
    unfold appL at h1
    split at h1
    · rename_i hz
      cases h1
      exact blk_app xb i hi (h v hv') hz (t _ q) hN hv hd hcd hbase hfew hline he hsw
    · cases h1
  · cases hr
/-! chains of two -/
def chV (p p' : Int → Int → Bool) (u v : Val) (mw : Rs Val) : Rs Bool := match u, v with
  | .int i, .int j => if p i j = true then mw >>= fun w => cmpI p' (.int j) w else .ok false
  | _, _ => .stuck
theorem chV_ok {p p' : Int → Int → Bool} {u v : Val} {mw : Rs Val} {r : Bool} (h : chV p p' u v mw = .ok r) : ∃ i j, u = .int i ∧ v = .int j ∧ ((p i j = true ∧ ∃ l, mw = .ok (.int l) ∧ r = p' j l) ∨ (p i j = false ∧ r = false)) := by
  unfold chV at h
  split at h
  · rename_i i j
    refine ⟨i, j, rfl, rfl, ?_⟩
    split at h
    · obtain ⟨w, h1, h2⟩ := Rs.of_bind h
      unfold cmpI at h2
      split at h2
      · rename_i i2 j2 e1
        cases e1
        cases h2
        exact .inl ⟨by assumption, _, h1, rfl⟩
      · cases h2
    · rename_i z
      cases h
      exact .inr ⟨by simpa using z, rfl⟩
  · cases h
theorem evd_ch {op op' : CmpOp} {p p' : Int → Int → Bool} {mw : Rs Val} (ho : OpR X (compareOp op) (rI0 fun i j => .bl (p i j))) (ho' : OpR X (compareOp op') (rI0 fun i j => .bl (p' i j))) (ha : Ev X Γ a (hV T u)) (hb : Ev X Γ b (hV T v))
    (hc : EvM X Γ c (fun r => rD T r) mw) (hm : lastMarks [op, op'] [b, c] = false := by with_unfolding_all rfl) : EvM X Γ (.Compare a [op, op'] [b, c] pos) (fun r : Bool => rD T (.bool r)) (chV p p' u v mw) := fun r q => by
  obtain ⟨i, j, rfl, rfl, z⟩ := chV_ok q
  rcases z with ⟨z1, l, z2, rfl⟩ | ⟨z1, rfl⟩
  · have := ev_chain ho ho' (ev_hr ha) (ev_hr hb) (fun _ => hc _ z2) hm (pos := pos)
    rw [z1, Bool.true_and] at this
    exact this
  · have := ev_chain ho ho' (k := 0) (ev_hr ha) (ev_hr hb) (fun z => by rw [z1] at z; cases z) hm (pos := pos)
    rw [z1, Bool.false_and] at this
    exact this
theorem tvd_ch {op op' : CmpOp} {p p' : Int → Int → Bool} {mw : Rs Val} (ho : OpR X (compareOp op) (rI0 fun i j => .bl (p i j))) (ho' : OpR X (compareOp op') (rI0 fun i j => .bl (p' i j))) (ha : Ev X Γ a (hV T u)) (hb : Ev X Γ b (hV T v))
    (hc : EvM X Γ c (fun r => rD T r) mw) (hm : lastMarks [op, op'] [b, c] = false := by with_unfolding_all rfl) : TvM X Γ (.Compare a [op, op'] [b, c] pos) (chV p p' u v mw) := fun r q => by
  obtain ⟨i, j, rfl, rfl, z⟩ := chV_ok q
  rcases z with ⟨z1, l, z2, rfl⟩ | ⟨z1, rfl⟩
  · have := tv_chain ho ho' (ev_hr ha) (ev_hr hb) (fun _ => hc _ z2) hm (pos := pos)
    rw [z1, Bool.true_and] at this
    exact this
  · have := tv_chain ho ho' (k := 0) (ev_hr ha) (ev_hr hb) (fun z => by rw [z1] at z; cases z) hm (pos := pos)
    rw [z1, Bool.false_and] at this
    exact this
theorem evd_max (xc : XC X N nm k) (h : Bl X "max") (ha : Ev X Γ a (hV T u)) (hb : Ev X Γ b (hV T v)) (he : starEach [a, b] X.env = (false, eval a X.env) :: starEach [b] X.env := by rfl) (he2 : starEach [b] X.env = (false, eval b X.env) :: starEach [] X.env := by rfl) (hpl : (backTo pos (starEach [b] X.env)).any (·.1) = false := by rfl) : EvM X Γ (.Call (.Name "max" p) [a, b] [] pos) (fun r => rD T r) (maxV u v) := fun r q => by
  unfold maxV at q
  split at q
  · cases q; exact ev_max2 xc.calm h (ev_hr ha) (ev_hr hb) he he2 hpl
  · cases q
theorem evd_min (xc : XC X N nm k) (h : Bl X "min") (ha : Ev X Γ a (hV T u)) (hb : Ev X Γ b (hV T v)) (he : starEach [a, b] X.env = (false, eval a X.env) :: starEach [b] X.env := by rfl) (he2 : starEach [b] X.env = (false, eval b X.env) :: starEach [] X.env := by rfl) (hpl : (backTo pos (starEach [b] X.env)).any (·.1) = false := by rfl) : EvM X Γ (.Call (.Name "min" p) [a, b] [] pos) (fun r => rD T r) (minV u v) := fun r q => by
  unfold minV at q
  split at q
  · cases q; exact ev_min2 xc.calm h (ev_hr ha) (ev_hr hb) he he2 hpl
  · cases q
/-- x = [elt for tg in it if ..] on one line -/
theorem blm_lc {υ : Type} {P : α → Prop} {Z : Xv → Prop} {elt : Expr} {ifs : List Expr} {scope : Scope} {up : Val → Rs υ} {mc : υ → Rs Bool} {mf : υ → Rs Val} {mx : Rs (List Val)} {ts : List Nat} {py spos : Pos} {mk : Val → Rs α} (xb : XB X N nm k) (i : Nat) (own : List (Str × Nat)) (hi : EvW T X Γ tg it mx) (Γt : υ → List Sl)
    (hg : Bk X N nm k scope fun Y => TgM T Y (wipeG Γ (own.map (·.2))) tg up Γt ts)
    (ht : Bk X N nm k scope fun Y => ∀ y, VvM Y (Γt y) ifs (mc y))
    (he : Bk X N nm k scope fun Y => ∀ y, EvM Y (Γt y) elt (fun v => rD T v) (mf y)) (t : ∀ d, BlM X W D gh (Γ.set i (.ow (cV T d))) ss (mk d) P Z)
    (hts : ∀ j ∈ ts, j ∈ own.map (·.2) := by decide) (hb : blkN N nm scope own = true := by decide +kernel) (hk : scope.kind = .function := by rfl) (hN : N[i]? = some x := by rfl) (hl : onlyB nm x = true := by decide +kernel)
    (hline : (py.line == pos.line) = true := by decide) (ha : (scope.names.any fun (n, k) => n == x && (k == .local || k == .cell)) = false := by decide +kernel)
    (hs : ∀ x, foldedSetIterable it X.env x = pure x := by intro _; rfl) : BlM X W D gh Γ (.Assign [.Name x py] (.ListComp elt [⟨tg, it, ifs, 0⟩] scope pos) spos :: ss) ((((mx >>= fun xs => chk (decide (xs.length ≤ BIG)) >>= fun _ => lcM up mc mf xs) >>= fun l => .ok (.list l)).ne) >>= mk) P Z := fun q => by
  obtain ⟨r, hr, q⟩ := Rs.ho_ne (Rs.ho_bind q)
  obtain ⟨ds, hd, h2⟩ := Rs.of_bind hr
  cases h2
  exact blk_lc (P := fun _ => True) xb i own hi Γt hg ht he hd (t _ q) hts hb hk hN hl hline ha hs
end
end L3
/-! V, part b: blocks over values of any make; calls without arguments; sorted. -/
namespace L3
open PySem PySem.Spec PyProof.Rows L2
section
variable {T : Tx} {X : Cx} {N : List Str} {nm : List (Str × NameKind)} {k j : Nat} {W : Wd} {D : Ends} {gh : Gh} {Γ Γ' : List Sl} {ss : List Stmt} {a b c e f o tg it : Expr} {es : List Expr} {pos p apos np rp cp cpos : Pos} {u v z : Val} {x : Str}
variable {α β υ τ : Type} {P : α → Prop} {Z : Xv → Prop}
theorem evq_bind {Ra : α → Rp} {ma : Rs α} {mk : α → Rs β} (h : EvM X Γ a Ra ma) (hn : ∀ x, ma ≠ .err x) (q : ∀ x, Ev X Γ a (Ra x) → EvQ T X Γ e (mk x)) : EvQ T X Γ e (ma >>= mk) := fun xv z => by
  cases hm : ma with
  | ok x => rw [hm] at z; exact q x (h x hm) xv z
  | err x => exact (hn x hm).elim
  | stuck => rw [hm] at z; cases z
/-- a part that raises nothing -/
theorem evp_bindN {Ra : α → Rp} {R : β → Rp} {ma : Rs α} {mk : α → Rs β} (h : EvM X Γ a Ra ma) (q : ∀ x, Ev X Γ a (Ra x) → EvM X Γ e R (mk x)) : EvM X Γ e R (ma.ne >>= mk) := fun v z => by
  obtain ⟨x, h1, h2⟩ := Rs.of_bind z
  exact q x (h x (Rs.of_ne h1)) v h2
theorem eop_bindN {Ra : α → Rp} {C : β → Cp} {ma : Rs α} {mk : α → Rs β} (h : EvM X Γ a Ra ma) (q : ∀ x, Ev X Γ a (Ra x) → EoM X Γ e C (mk x)) : EoM X Γ e C (ma.ne >>= mk) := fun v z => by
  obtain ⟨x, h1, h2⟩ := Rs.of_bind z
  exact q x (h x (Rs.of_ne h1)) v h2
theorem evq_bindN {Ra : α → Rp} {ma : Rs α} {mk : α → Rs β} (h : EvM X Γ a Ra ma) (q : ∀ x, Ev X Γ a (Ra x) → EvQ T X Γ e (mk x)) : EvQ T X Γ e (ma.ne >>= mk) := fun xv z => by
  cases hm : ma with
  | ok x => rw [hm] at z; exact q x (h x hm) xv z
  | err x => rw [hm] at z; cases z
  | stuck => rw [hm] at z; cases z
theorem evd_ok (h : Ev X Γ e (rD T v)) : EvM X Γ e (fun r => rD T r) (.ok v) := evp_ok (R := fun r => rD T r) h
theorem eod_ok (h : EvO X Γ e (cV T v)) : EoM X Γ e (fun r => cV T r) (.ok v) := eop_ok (C := fun r => cV T r) h
theorem evd_okB {b : Bool} (h : Ev X Γ e (rD T (.bool b))) : EvM X Γ e (fun r : Bool => rD T (.bool r)) (.ok b) := evp_ok (R := fun r : Bool => rD T (.bool r)) h
theorem evd_fz {m : Rs Val} (h : EoM X Γ e (fun v => cV T v) m) : EvM X Γ e (fun v => rD T v) m := evp_fz (f := fun v => v) h
theorem evd_ife {mc : Rs Bool} {ma mb : Rs Val} (hc : TvM X Γ c mc) (ha : EvM X Γ a (fun v => rD T v) ma) (hb : EvM X Γ b (fun v => rD T v) mb) : EvM X Γ (.IfExp c a b pos) (fun v => rD T v) (mc >>= fun x => if x then ma else mb) := evp_ife (f := fun v => v) hc ha hb
theorem evd_ofB {m : Rs Bool} (h : EvM X Γ e (fun r : Bool => rD T (.bool r)) m) : EvM X Γ e (fun v => rD T v) (m >>= fun b => .ok (.bool b)) := evp_map (f := Val.bool) h
theorem blm_set1 {me : Rs Val} {mk : Val → Rs α} (xb : XB X N nm k) (i : Nat) (h : EvM X Γ e (fun v => rD T v) me) (t : ∀ v, BlM X W D gh (Γ.set i (vl (rD T v))) ss (mk v) P Z) (hN : N[i]? = some x := by rfl) (hl : locB nm x = true := by decide +kernel)
    (hs : swapsWith e (some (.Name x p)) pos.line X.env = pure false := by rfl) : BlM X W D gh Γ (.Assign [.Name x p] e pos :: ss) (me.ne >>= mk) P Z := blm_set xb i h t hN hl hs
theorem blm_setO1 {me : Rs Val} {mk : Val → Rs α} (xb : XB X N nm k) (i : Nat) (h : EoM X Γ e (fun v => cV T v) me) (t : ∀ v, BlM X W D gh (Γ.set i (.ow (cV T v))) ss (mk v) P Z) (hN : N[i]? = some x := by rfl) (hl : locB nm x = true := by decide +kernel)
    (hs : swapsWith e (some (.Name x p)) pos.line X.env = pure false := by rfl) : BlM X W D gh Γ (.Assign [.Name x p] e pos :: ss) (me.ne >>= mk) P Z := blm_setO xb i h t hN hl hs
theorem blm_setC1 {me : Rs Val} {mk : Val → Rs α} (xb : XB X N nm k) (i : Nat) (h : EvM X Γ e (fun v => rD T v) me) (hx : EvQ T X Γ e me) (z : ∀ x, Z x → ZG T X W gh Γ x) (t : ∀ v, BlM X W D gh (Γ.set i (vl (rD T v))) ss (mk v) P Z) (hN : N[i]? = some x := by rfl) (hl : locB nm x = true := by decide +kernel)
    (hs : swapsWith e (some (.Name x p)) pos.line X.env = pure false := by rfl) : BlM X W D gh Γ (.Assign [.Name x p] e pos :: ss) (me >>= mk) P Z := blm_setC xb i h hx z t hN hl hs
theorem blm_setCO1 {me : Rs Val} {mk : Val → Rs α} (xb : XB X N nm k) (i : Nat) (h : EoM X Γ e (fun v => cV T v) me) (hx : EvQ T X Γ e me) (z : ∀ x, Z x → ZG T X W gh Γ x) (t : ∀ v, BlM X W D gh (Γ.set i (.ow (cV T v))) ss (mk v) P Z) (hN : N[i]? = some x := by rfl) (hl : locB nm x = true := by decide +kernel)
    (hs : swapsWith e (some (.Name x p)) pos.line X.env = pure false := by rfl) : BlM X W D gh Γ (.Assign [.Name x p] e pos :: ss) (me >>= mk) P Z := blm_setCO xb i h hx z t hN hl hs
theorem blm_expC1 {me : Rs Val} {mk : Val → Rs α} (h : EvM X Γ e (fun v => rD T v) me) (hx : EvQ T X Γ e me) (z : ∀ x, Z x → ZG T X W gh Γ x) (t : ∀ v, BlM X W D gh Γ ss (mk v) P Z) (hs : swapsWith e none pos.line X.env = pure false := by rfl) : BlM X W D gh Γ (.Expr e pos :: ss) (me >>= mk) P Z := blm_expC h hx z t hs
theorem evd_as {g : Val → Rs β} {f : β → Val} [hc : Cast g f] (h : Ev X Γ e (rD T v)) : EvM X Γ e (fun x => rD T (f x)) (g v) := evm_cast h
/-! for, over what m tells -/
theorem blm_forW {mi : Rs (List Val)} {up : Val → Rs υ} {f : τ → υ → Rs (Fl τ)} {ts : List Nat} {body : List Stmt} {mk : τ → Rs α} {kr : Val → Rs α} {Γs : τ → List Sl} {Γt : τ → υ → List Sl} (xb : XB X N nm k) (s0 : τ) (hi : EvW T X Γ tg it mi) (h0 : SlAll Γ (Γs s0))
    (ht : ∀ s, TgM T X (Γs s) tg up (Γt s) ts)
    (hb : ∀ gh' (D' : Ends) s y, (∀ x, Z x → ∀ Γ', ZG T X W gh' Γ' x) → D'.rt = D.rt → BlM X W D' gh' (Γt s y) body (f s y) (PF T W gh' Γs D') Z)
    (z : ∀ x, Z x → ∀ gh' Γ', ZG T X W gh' Γ' x)
    (t : ∀ s, BlM X W D gh (Γs s) ss (mk s) P Z) (kr' : ∀ v, (kr v).ho P Z → RetV W D (rD T v))
    (hs : ∀ x, foldedSetIterable it X.env x = pure x := by intro _; rfl) : BlM X W D gh Γ (.For tg it body [] pos :: ss) (mi.ne >>= fun ws => forL (fun s x => (up x).ne >>= f s) ws s0 >>= fun r => thenF r mk kr) P Z := fun q => by
  obtain ⟨ws, hw, q⟩ := Rs.ho_ne (Rs.ho_bind q)
  exact blm_for xb Γs Γt s0 (hi ws hw) h0 ht hb z t kr' hs q
theorem blm_par {m1 m2 : Rs Val} {mk : Val → Val → Rs α} (xb : XB X N nm k) (i j : Nat) {x y : Str} {e1 e2 : Expr} {px py pt : Pos} {kt k2 : Nat} {pt2 : Pos} (h1 : EvM X Γ e1 (fun v => rD T v) m1) (h2 : EvM X Γ e2 (fun v => rD T v) m2) (t : ∀ d d', BlM X W D gh ((Γ.set i (vl (rD T d))).set j (vl (rD T d'))) ss (mk d d') P Z)
    (hij : i ≠ j := by decide) (hi : N[i]? = some x := by rfl) (hj : N[j]? = some y := by rfl) (hx : onlyB nm x = true := by decide +kernel) (hy : onlyB nm y = true := by decide +kernel)
    (hw : swappedStores [.Tuple [.Name x px, .Name y py] kt pt] (.Tuple [e1, e2] k2 pt2) X.env = pure (some [x, y]) := by rfl)
    (he : starEach [e1, e2] X.env = (false, eval e1 X.env) :: starEach [e2] X.env := by rfl) (he2 : starEach [e2] X.env = (false, eval e2 X.env) :: starEach [] X.env := by rfl)
    (hs : swapsWithSole [.Tuple [.Name x px, .Name y py] kt pt] (.Tuple [e1, e2] k2 pt2) pos.line X.env = pure false := by rfl) : BlM X W D gh Γ (.Assign [.Tuple [.Name x px, .Name y py] kt pt] (.Tuple [e1, e2] k2 pt2) pos :: ss) (m1.ne >>= fun d => m2.ne >>= fun d' => mk d d') P Z := fun q => by
  obtain ⟨d, hd, q⟩ := Rs.ho_ne (Rs.ho_bind q)
  obtain ⟨d', hd', q⟩ := Rs.ho_ne (Rs.ho_bind q)
  exact blk_par xb i j (h1 d hd) (h2 d' hd') (t d d' q) hij hi hj hx hy hw he he2 hs
/-! calls without arguments -/
section
variable {C : Str} {m : Rs Val} {x : Str} {R : Rp} {Cc : Cp}
theorem ev_c0 (xc : XC X N nm k) (d : Dfk X.prog X.w X.K X.mg X.base x j (spV [] R)) (hj : j ≤ k := by decide) (hg : gloB nm x = true := by decide +kernel)
    (hdb : (x == ("__debug__" : Str)) = false := by decide +kernel) : Ev X Γ (.Call (.Name x p) [] [] pos) R := by
  obtain ⟨f, fd, ps, h1, h2, h3, h4⟩ := d.ex
  exact fun W gh σ F0 G H E Q q => EW.of (pe_call0 h4 (xc.room.mono hj) (xc.toXV.gl hg) h1 h2 h3 .nil passL hdb) (by
    show spV [] R [] H Q E0
    exact spV_of E .nil fun v F2 G2 H2 E2 x2 => q v F2 G2 H2 E2 x2)
theorem evo_c0 (xc : XC X N nm k) (d : Dfk X.prog X.w X.K X.mg X.base x j (spO [] Cc)) (hj : j ≤ k := by decide) (hg : gloB nm x = true := by decide +kernel)
    (hdb : (x == ("__debug__" : Str)) = false := by decide +kernel) : EvO X Γ (.Call (.Name x p) [] [] pos) Cc := by
  obtain ⟨f, fd, ps, h1, h2, h3, h4⟩ := d.ex
  exact fun W gh σ F0 G H E Q q => EW.of (pe_call0 h4 (xc.room.mono hj) (xc.toXV.gl hg) h1 h2 h3 .nil passL hdb) (by
    show spO [] Cc [] H Q E0
    exact spO_of E .nil fun l fo F2 G2 H2 E2 x2 hn => q l fo F2 G2 H2 E2 x2 hn)
theorem evd_c0 (xc : XC X N nm k) (d : Dfk X.prog X.w X.K X.mg X.base x j (spU T [] m)) (es : EvA X Γ [] []) (hj : j ≤ k := by decide) (hg : gloB nm x = true := by decide +kernel)
    (hdb : (x == ("__debug__" : Str)) = false := by decide +kernel) : EvM X Γ (.Call (.Name x p) [] [] pos) (fun v => rD T v) m := fun v q => ev_c0 xc (d.imp (sp_ok q)) hj hg hdb
theorem eod_c0 (xc : XC X N nm k) (d : Dfk X.prog X.w X.K X.mg X.base x j (spW T [] m)) (es : EvA X Γ [] []) (hj : j ≤ k := by decide) (hg : gloB nm x = true := by decide +kernel)
    (hdb : (x == ("__debug__" : Str)) = false := by decide +kernel) : EoM X Γ (.Call (.Name x p) [] [] pos) (fun v => cV T v) m := fun v q => evo_c0 xc (d.imp (sp_okW q)) hj hg hdb
end
/-! d.get -/
theorem evd_get1 (xc : XC X N nm k) (ha : Ev X Γ a (hV T u)) (hb : Ev X Γ b (rD T v)) (hT : T.w = X.w := by rfl) (m : M1 X a "get" apos b cpos := by exact ⟨rfl, rfl, rfl, rfl⟩) : EvM X Γ (.Call (.Attribute a "get" apos) [b] [] cpos) (fun v => rD T v) (getV1 u v) := fun r q => by
  unfold getV1 at q
  split at q
  · exact evm_dget1 xc ha hb hT m r q
  · cases q
theorem evd_get2 (xc : XC X N nm k) (ha : Ev X Γ a (hV T u)) (hb : Ev X Γ b (rD T v)) (hf : Ev X Γ f (rD T z)) (hT : T.w = X.w := by rfl) (m : M2 X a "get" apos b f cpos := by exact ⟨rfl, rfl, rfl, rfl⟩) : EvM X Γ (.Call (.Attribute a "get" apos) [b, f] [] cpos) (fun v => rD T v) (getV2 u v z) := fun r q => by
  unfold getV2 at q
  split at q
  · exact evm_dget2 xc ha hb hf hT m r q
  · cases q
/-! the script, handed on -/
theorem StAll.cS {ns : List Int} {As : List Rp} {l : List Sl} (t : StAll As l) : StAll (rS T ns :: As) (L3.vl (rS T ns) :: l) := .cons t
end
end L3
/-! V, part c: dicts made. -/
namespace L3
open PySem PySem.Spec PyProof.Rows L2
/-- a dict comprehension -/
def dcM {υ : Type} (up : Val → Rs υ) (c : υ → Rs Bool) (fk fv : υ → Rs Val) : List Val → List (Val × Val) → Rs (List (Val × Val))
  | [], acc => .ok acc
  | x :: xs, acc => up x >>= fun y => c y >>= fun b => if b then fk y >>= fun k => fv y >>= fun v => dputM acc k v >>= fun a => dcM up c fk fv xs a else dcM up c fk fv xs acc
theorem dputM_ok {acc a : List (Val × Val)} {k v : Val} (h : dputM acc k v = .ok a) : ∃ n, keyN k = some n ∧ n.depth ≤ 8 ∧ acc.length < BIG ∧ a = dput acc k v := by
  obtain ⟨_, h1, h2⟩ := Rs.of_bind h
  obtain ⟨n, e, l⟩ := keyC_ok h1
  split at h2
  · cases h2
    exact ⟨n, e, l, by assumption, rfl⟩
  · cases h2
section
variable {T : Tx} {X : Cx} {N : List Str} {nm : List (Str × NameKind)} {k : Nat} {Γ : List Sl} {kx vx elt tg it : Expr} {ifs : List Expr} {scope : Scope} {pos : Pos} {υ : Type}
theorem own_dict {D : Addr} {es : List Ent} {ep : Nat} {kvs : List (Val × Val)} {F G H : Hp} (h : H D = some (.ext (RawD T.w D es ep))) (nd : (es.map (·.1)).Nodup) (d : DtEnt T F es kvs) : (cV T (.dict kvs)).C D [D] H F G := ⟨rfl, rfl, D, es, ep, rfl, h, nd, d⟩
/-- {kx: vx for tg in it if ..}, its steps -/
theorem dc_t {up : Val → Rs υ} {mc : υ → Rs Bool} {mk mv : υ → Rs Val} {ts : List Nat} {xs : List Val} {kvs : List (Val × Val)} (own : List (Str × Nat)) (xf : XC X N nm k) (hi : EvI X Γ tg it (xs.map (rD T))) (Γt : υ → List Sl) (q0 : dcM up mc mk mv xs [] = .ok kvs)
    (hts : ∀ j ∈ ts, j ∈ own.map (·.2))
    (hg : Bk X N nm k scope fun Y => TgM T Y (wipeG Γ (own.map (·.2))) tg up Γt ts)
    (ht : Bk X N nm k scope fun Y => ∀ y, VvM Y (Γt y) ifs (mc y))
    (hek : Bk X N nm k scope fun Y => ∀ y, EvM Y (Γt y) kx (fun v => rD T v) (mk y))
    (hev : Bk X N nm k scope fun Y => ∀ y, EvM Y (Γt y) vx (fun v => rD T v) (mv y)) (hk : scope.kind = .function) (hT : T.w = X.w) (W : Wd) (gh : Gh) (σ : L2.St) (F0 G0 H0 : Hp) (E0 : En W gh Γ σ F0 G0 H0) :
    ∃ wi g tt tk tv, PI X tg it wi ∧ (∀ s H C cl fp, PG (bx X s H scope C cl fp) tg g) ∧ (∀ s H C cl fp, PTs (bx X s H scope C cl fp) ifs tt) ∧ (∀ s H C cl fp, PE (bx X s H scope C cl fp) kx tk) ∧ (∀ s H C cl fp, PE (bx X s H scope C cl fp) vx tv) ∧
      ∀ Q : VK, (∀ l fo F' G' H', En W gh Γ σ F' G' H' → Gr F0 G0 H0 F' G' H' → (∀ a ∈ fo, H0 a = none ∧ G' a = none) → (cV T (.dict kvs)).C l fo H' F' G' → Q (.ref l) H') → tDcG X wi g tt tk tv (own.map (·.2)) σ H0 Q := by
  obtain ⟨wi, hpi, hR⟩ := hi W gh σ F0 G0 H0 E0
  refine ⟨wi, fun v σ H Q => ∀ s H0 C cl fp, GW (bx X s H0 scope C cl fp) tg v σ H Q, fun σ H Q => ∀ s H0 C cl fp, VW (bx X s H0 scope C cl fp) ifs σ H Q, fun σ H Q => ∀ s H0 C cl fp, EW (bx X s H0 scope C cl fp) kx σ H Q, fun σ H Q => ∀ s H0 C cl fp, EW (bx X s H0 scope C cl fp) vx σ H Q, hpi,
    fun s H C cl fp => ⟨fun pins s' σ H' v u Q I r h => (h s H C cl fp).go pins s' u I r⟩, fun s H C cl fp => ⟨fun pins s' σ H' Q I h => (h s H C cl fp).go pins s' I⟩, fun s H C cl fp => ⟨fun pins s' σ H' Q I h => (h s H C cl fp).go pins s' I⟩, fun s H C cl fp => ⟨fun pins s' σ H' Q I h => (h s H C cl fp).go pins s' I⟩, fun Q q => ?_⟩
  refine hR _ fun J g F1 G1 H1 E1 x1 ok D hD => ?_
  have gD := E1.gH.free hD
  let Pv : Nat → Hp → Prop := fun i H => ∃ F G es ep acc, En W (gh.and g) (wipeG Γ (own.map (·.2))) (wipe σ (own.map (·.2))) F G H ∧ Gr F1 G1 H1 F G H ∧ G D = none ∧ H D = some (.ext (RawD X.w D es ep)) ∧ (es.map (·.1)).Nodup ∧ DtEnt T F es acc ∧ dcM up mc mk mv (xs.drop i) acc = .ok kvs
  have Ew := E1.wipe (own.map (·.2))
  refine ⟨fun i m H => m = xs.length - i ∧ i ≤ xs.length ∧ Pv i H, ⟨xs.length, by simp, Nat.zero_le _, F1, G1, [], 0, [], Ew.new hD, (Gr.refl _ _ _).new hD, gD, upd_same, .nil, .nil, q0⟩, ?_⟩
  rintro i m H ⟨rfl, hi, F, G, es, ep, acc, E, x, gDn, hDa, nd, pa, left⟩
  have hln : (xs.map (rD T)).length = xs.length := List.length_map ..
  by_cases hlt : i < xs.length
  · refine .inr ⟨ok.go i F G H (by rw [hln]; exact hlt) E.fg E.gH E.g.2, fun v H3 y => ?_⟩
    have hx := List.getElem?_eq_getElem hlt
    have hR : (xs.map (rD T))[i]? = some (rD T xs[i]) := by rw [List.getElem?_map, hx]; rfl
    rw [List.drop_eq_getElem_cons hlt] at left
    obtain ⟨y0, hy, left⟩ := Rs.of_bind left
    obtain ⟨b0, hc, left⟩ := Rs.of_bind left
    obtain ⟨F3, G3, E3, x3, p3⟩ := E.step (gh' := gh) ok E.g.2 hR y
    intro s H0 C cl fp
    refine hg s H0 C cl fp (xf.blk hk s H0 C cl fp) _ _ hy W _ _ F3 G3 H3 v E3 p3 _ fun σ4 E4 w4 => ⟨(w4 _ hts).trans wipe_wipe, fun s H0 C cl fp => ?_⟩
    refine ht s H0 C cl fp (xf.blk hk s H0 C cl fp) _ _ hc W _ σ4 F3 G3 H3 E4 _ fun F5 G5 H5 E5 x5 => ?_
    have x35 := x3.trans x5
    cases b0 with
    | false =>
      refine iteF ⟨xs.length - (i + 1), by omega, rfl, hlt, F5, G5, es, ep, acc, E.back E5 x35, x.trans x35, x35.n D _ hDa (fun _ z => nomatch z) gDn, x35.s _ _ hDa, nd, dtEnt_same x35.f _ _ pa, left⟩
    | true =>
      obtain ⟨k0, hk0, left⟩ := Rs.of_bind left
      obtain ⟨v0, hv0, left⟩ := Rs.of_bind left
      obtain ⟨a0, ha0, left⟩ := Rs.of_bind left
      obtain ⟨n, en, ln, lacc, rfl⟩ := dputM_ok ha0
      refine iteT fun s H0 C cl fp => hek s H0 C cl fp (xf.blk hk s H0 C cl fp) _ _ hk0 W _ σ4 F5 G5 H5 E5 _ fun u F6 G6 H6 E6 x6 p6 => fun s H0 C cl fp => hev s H0 C cl fp (xf.blk hk s H0 C cl fp) _ _ hv0 W _ σ4 F6 G6 H6 E6 _ fun r F7 G7 H7 E7 x7 p7 => ?_
      have x37 := (x35.trans x6).trans x7
      have hD7 := x37.s _ _ hDa
      have gD7 := x37.n D _ hDa (fun _ z => nomatch z) gDn
      have E8 := E.back E7 x37
      have de7 := dtEnt_same x37.f _ _ pa
      have p6' := dt_same x7.f _ _ p6
      refine ⟨es, ep, n, hD7, kat_of (X := X) (dt_same (E7.fg.trans E7.gH) _ _ p6') en ln, fun h okh => (raw_dic (T := T) (w := X.w) (P := X.prog) okh hD7 nd (dtEnt_same (E7.fg.trans E7.gH) _ _ de7)).1, by rw [ent_len pa]; exact lacc, fun ku kr ep' ru rr => ?_⟩
      have xx := x.trans x37
      exact ⟨xs.length - (i + 1), by omega, rfl, hlt, F7, G7, _, ep', _, E8.other gD7 (Ew.notOwn xx.s hD), ⟨xx.f, xx.g, fun b o e => by rw [upd_ne (ne_of_none e hD)]; exact xx.s b o e, xx.n⟩, gD7, upd_same, nodup_store nd, ent_put en ln ru p6' rr p7 de7, left⟩
  · have e : i = xs.length := by omega
    subst e
    refine .inl ⟨by rw [← hln]; exact ok.stop F G H E.fg E.gH E.g.2, ?_⟩
    have EE := E1.back E x
    rw [List.drop_length] at left
    cases left
    exact q D [D] F G H (EE.gw EE.g.1) (x1.trans x) (one_new (x1.s.free hD) gDn) (own_dict (by rw [hT]; exact hDa) nd pa)
theorem eom_dc {up : Val → Rs υ} {mc : υ → Rs Bool} {mk mv : υ → Rs Val} {mx : Rs (List Val)} {ts : List Nat} (own : List (Str × Nat)) (xf : XC X N nm k) (hi : EvW T X Γ tg it mx) (Γt : υ → List Sl)
    (hg : Bk X N nm k scope fun Y => TgM T Y (wipeG Γ (own.map (·.2))) tg up Γt ts)
    (ht : Bk X N nm k scope fun Y => ∀ y, VvM Y (Γt y) ifs (mc y))
    (hek : Bk X N nm k scope fun Y => ∀ y, EvM Y (Γt y) kx (fun v => rD T v) (mk y))
    (hev : Bk X N nm k scope fun Y => ∀ y, EvM Y (Γt y) vx (fun v => rD T v) (mv y)) (hT : T.w = X.w := by rfl)
    (hts : ∀ j ∈ ts, j ∈ own.map (·.2) := by decide) (hb : blkN N nm scope own = true := by decide +kernel) (hk : scope.kind = .function := by rfl)
    (hs : ∀ x, foldedSetIterable it X.env x = pure x := by intro _; rfl) : EoM X Γ (.DictComp kx vx [⟨tg, it, ifs, 0⟩] scope pos) (fun l => cV T (.dict l)) (mx >>= fun xs => dcM up mc mk mv xs []) := fun kvs q => by
  obtain ⟨xs, h1, q⟩ := Rs.of_bind q
  intro W gh σ F0 G0 H0 E0 Q qq
  obtain ⟨wi, g, tt, tk, tv, z1, z2, z3, z4, z5, z6⟩ := dc_t own xf (hi xs h1) Γt q hts hg ht hek hev hk hT W gh σ F0 G0 H0 E0
  exact EW.of (pe_dcG xf.ls xf.calm xf.nd z1 (blkOk_by (blkN_ok xf.toXV hb)) z2 z3 z4 z5 hs) (z6 Q qq)
end
end L3
/-! V, part d: sorted. -/
namespace L3
open PySem PySem.Spec PyProof.Rows L2
def pyD (v : Val) : PyData := v.py.getD .none
def sortVs (xs : List Val) : List Val := xs.mergeSort (PySem.W.dataLe false pyD)
def sortable (ds : List PyData) : Prop := PySem.W.AllAlike ds ∧ PySem.W.Sortable ds ∧ ∀ d ∈ ds, d.depth ≤ 8
open Classical in
noncomputable def sortL (xs : List Val) : Rs Val := match Val.pys xs with
  | some ds => if sortable ds then .ok (.list (sortVs xs)) else .stuck
  | none => .stuck
noncomputable def sortV : Val → Rs Val
  | .list xs => sortL xs
  | _ => .stuck
theorem pys_map : ∀ {xs : List Val} {ds : List PyData}, Val.pys xs = some ds → ds = xs.map pyD
  | [], ds, h => by cases h; rfl
  | x :: xs, ds, h => by
    obtain ⟨p, qs, rfl, h1, h2⟩ := pys_cons h
    rw [List.map_cons, ← pys_map h2]
    unfold pyD
    rw [h1]
    rfl
theorem pys_all : ∀ {xs : List Val} {ds : List PyData}, Val.pys xs = some ds → ∀ x ∈ xs, x.py = some (pyD x)
  | [], ds, h, x, hx => nomatch hx
  | x :: xs, ds, h, y, hy => by
    obtain ⟨p, qs, rfl, h1, h2⟩ := pys_cons h
    rcases List.mem_cons.mp hy with rfl | hy
    · unfold pyD
      rw [h1]
      rfl
    · exact pys_all h2 y hy
theorem sortL_ok {xs : List Val} {r : Val} (h : sortL xs = .ok r) : ∃ ds, Val.pys xs = some ds ∧ sortable ds ∧ r = .list (sortVs xs) := by
  unfold sortL at h
  split at h
  · split at h
    · cases h; exact ⟨_, by assumption, by assumption, rfl⟩
    · cases h
  · cases h
theorem paired_mapR {α : Type} {R : Value → α → Prop} {f : α → V} (h : ∀ u a, R u a → RelV (f a) u) : ∀ {us : List Value} {as : List α}, PySem.W.EachIs R us as → Vals (as.map f) us
  | _, _, .nil => .nil
  | _, _, .cons r t => .cons (h _ _ r) (paired_mapR h t)
theorem eachIs_of {α : Type} {R : Value → α → Prop} {f : α → V} : ∀ {us : List Value} {as : List α}, Vals (as.map f) us → (∀ u a, a ∈ as → RelV (f a) u → R u a) → PySem.W.EachIs R us as
  | _, [], .nil, _ => .nil
  | _, a :: as, .cons r t, h => .cons (h _ _ List.mem_cons_self r) (eachIs_of t fun u b hb => h u b (List.mem_cons_of_mem _ hb))
def rSortedD (X : Cx) : List V → Hp → VK → Prop := fun xs H Q => ∃ (a : Addr) (bs : List (V × PyData)), xs = [.ref a] ∧ SqL X.K H a (bs.map (·.1)) ∧ (∀ b ∈ bs, Dp X.K H b.1 b.2) ∧ PySem.W.AllAlike (bs.map (·.2)) ∧ PySem.W.Sortable (bs.map (·.2)) ∧
  (∀ b ∈ bs, X.A.units + 2 + b.2.depth < cLine) ∧ ∀ p, H p = none → Q (.ref p) (upd H p (.lst ((bs.mergeSort (PySem.W.dataLe false (·.2))).map (·.1))))
theorem cr_sortedD {X : Cx} : CallR X (.builtin "sorted") (rSortedD X) := by
  intro pins s σ H xs us Q I r h
  obtain ⟨a, bs, rfl, hs, hd, al, so, hu, q⟩ := h
  obtain ⟨its, rv, hl, hz⟩ := I.list hs
  rw [Vals.ref1 r]
  rw [List.length_map] at hz
  refine PySem.W.sorted_data (R := fun u b => RelV b.1 u) (enc := (·.2)) (bs := bs) hl.isList (eachIs_of rv fun u b hb z => z) (eachIs_of rv fun u b hb z => Dp.reads I b.2 b.1 u (hd b hb) z) al so hz hu fun out hlen each => ?_
  obtain ⟨n, at_⟩ := sortedAll_at s.heap its (List.toArray out)
  have fr : H (s.heap.objs.size + 1) = none := I.hok.fresh (Nat.le_succ _)
  have vs := paired_mapR (f := fun b : V × PyData => b.1) (fun _ _ z => z) each
  refine ⟨.ref (s.heap.objs.size + 1), _, I.laid (t' := s.toks) (fun b o e => sortedAll_old e) (Nat.le_succ _) ?_, rfl, q _ fr⟩
  refine ⟨?_, out, n, vs, at_⟩
  rw [List.length_map, (List.mergeSort_perm _ _).length_eq]
  exact hz
theorem dtAll_zip {T : Tx} {H : Hp} : ∀ {vs : List V} {ds : List Val}, DtAll T H vs ds → ∃ bs : List (V × Val), bs.map (·.1) = vs ∧ bs.map (·.2) = ds ∧ ∀ b ∈ bs, Dt T H b.1 b.2
  | [], [], _ => ⟨[], rfl, rfl, fun _ h => nomatch h⟩
  | _ :: _, [], h => by cases h
  | [], _ :: _, h => by cases h
  | v :: vs, d :: ds, h => by
    cases h with
    | cons h1 h2 =>
      obtain ⟨bs, e1, e2, k⟩ := dtAll_zip h2
      refine ⟨(v, d) :: bs, by rw [List.map_cons, e1], by rw [List.map_cons, e2], fun b hb => ?_⟩
      rcases List.mem_cons.mp hb with rfl | hb
      · exact h1
      · exact k b hb
theorem dtAll_unzip {T : Tx} {H : Hp} : ∀ (bs : List (V × Val)), (∀ b ∈ bs, Dt T H b.1 b.2) → DtAll T H (bs.map (·.1)) (bs.map (·.2))
  | [], _ => .nil
  | b :: bs, h => .cons (h b List.mem_cons_self) (dtAll_unzip bs fun c hc => h c (List.mem_cons_of_mem _ hc))
section
variable {T : Tx} {X : Cx} {N : List Str} {nm : List (Str × NameKind)} {k : Nat} {Γ : List Sl} {a : Expr} {pos p : Pos} {u : Val}
theorem eod_sorted (xc : XC X N nm k) (h : Bl X "sorted") (ha : Ev X Γ a (hV T u)) (he : starEach [a] X.env = (false, eval a X.env) :: starEach [] X.env := by rfl) : EoM X Γ (.Call (.Name "sorted" p) [a] [] pos) (fun v => cV T v) (sortV u) := fun r q => by
  unfold sortV at q
  split at q
  · rename_i xs
    obtain ⟨ds, hp, ⟨al, so, dep⟩, rfl⟩ := sortL_ok q
    have eds := pys_map hp
    have hall := pys_all hp
    refine evo_cb1 cr_sortedD h (by decide +kernel) ha (fun v F G H f g ⟨l, vs, ev, hl, pv⟩ => ?_) (he := he)
    obtain ⟨zs, e1, e2, kz⟩ := dtAll_zip pv
    have e3 : (zs.map fun z => (z.1, pyD z.2)).map (·.2) = ds := by
      rw [List.map_map, eds, ← e2, List.map_map]
      rfl
    have e4 : (zs.map fun z => (z.1, pyD z.2)).map (·.1) = vs := by
      rw [List.map_map, ← e1]
      rfl
    have e5 : ((zs.map fun z => (z.1, pyD z.2)).mergeSort (PySem.W.dataLe false (·.2))).map (·.1) = (zs.mergeSort (PySem.W.dataLe false fun z => pyD z.2)).map (·.1) := by
      rw [← List.map_mergeSort (r := PySem.W.dataLe false fun z : V × Val => pyD z.2) (s := PySem.W.dataLe false (·.2)) (f := fun z : V × Val => (z.1, pyD z.2)) fun _ _ _ _ => rfl, List.map_map]
      rfl
    have e6 : sortVs xs = (zs.mergeSort (PySem.W.dataLe false fun z => pyD z.2)).map (·.2) := by
      rw [List.map_mergeSort (r := PySem.W.dataLe false fun z : V × Val => pyD z.2) (s := PySem.W.dataLe false pyD) (f := (·.2)) fun _ _ _ _ => rfl, e2]
      rfl
    refine ⟨.lst ((zs.mergeSort (PySem.W.dataLe false fun z => pyD z.2)).map (·.1)), fun l H1 h1 => ⟨rfl, rfl, l, _, rfl, h1, ?_⟩, fun Q q => ⟨l, zs.map fun z => (z.1, pyD z.2), by rw [ev], .inl (.inl (by rw [hl, e4])), fun b hb => ?_, by rw [e3]; exact al, by rw [e3]; exact so, fun b hb => ?_, fun p hp => by rw [e5]; exact q p hp⟩⟩
    · rw [e6]
      exact dtAll_unzip _ fun b hb => kz b ((List.mergeSort_perm _ _).mem_iff.mp hb)
    · obtain ⟨z, hz, rfl⟩ := List.mem_map.mp hb
      exact dt_dp _ _ _ _ (dt_same (f.trans g) _ _ (kz z hz)) (hall _ (by rw [← e2]; exact List.mem_map_of_mem hz))
    · have := dep b.2 (by rw [← e3]; exact List.mem_map_of_mem hb)
      have := xc.ls
      omega
  · cases q
end
end L3
/-! V, part e: try, comprehensions of two. -/
namespace L3
open PySem PySem.Spec PyProof.Rows L2
/-- try: what follows, what is caught -/
def tryM {τ α : Type} (cat : Str → Option Bool) (mb : Rs (Fl τ)) (mk : τ → Rs α) (kr : Val → Rs α) (hx : Xv → Rs α) : Rs α := match mb with
  | .ok r => thenF r mk kr
  | .err x => (match cat x.cls with
    | some true => hx x
    | some false => .err x
    | none => .stuck)
  | .stuck => .stuck
/-- what a caught error tells under a name -/
def xfld (f : Str) (x : Xv) : Rs Val := match x.fld with
  | some (g, v) => if g = f then .ok v else .stuck
  | none => .stuck
section
variable {T : Tx} {X : Cx} {N : List Str} {nm : List (Str × NameKind)} {k j : Nat} {W : Wd} {D : Ends} {gh : Gh} {Γ Γ' : List Sl} {ss : List Stmt} {a b c e f o tg it : Expr} {es : List Expr} {pos p apos np rp cp cpos : Pos} {u v z : Val} {x : Str}
variable {α β υ τ : Type} {P : α → Prop} {Z : Xv → Prop}
theorem takes_any : Takes X (fun cls d σ H => ∃ Wx, Takes X Wx ∧ Wx cls d σ H) := fun u s' ⟨a, B, sI, pins, σ, H, cls, d, e, I, nb, up, sky, na, os, ag, Wx, tk, w⟩ => tk u s' ⟨a, B, sI, pins, σ, H, cls, d, e, I, nb, up, sky, na, os, ag, w⟩
theorem wish_lies {xk : Xk} {F H F1 H1 : Hp} {E : XK} {cls : Value} {d : Option Addr} (h : xk.Wish F H E) (y : Ext F H F1 H1) (l : xk.Lies H F1 H1 cls d) : E cls d H1 := by
  cases xk with
  | bare C =>
    obtain ⟨rfl, rfl⟩ := l
    exact h F1 H1 y
  | with_ C f R =>
    obtain ⟨rfl, dd, v, rfl, h0, fd, hd, p⟩ := l
    exact h dd v F1 H1 y h0 fd hd p
theorem lies_cls {x : Xv} {H0 F H : Hp} {cls : Value} {d : Option Addr} (l : (xkOf T x).Lies H0 F H cls d) : cls = .ref (He.ga T.K x.cls) := by
  unfold xkOf at l
  split at l
  · exact l.1
  · exact l.1
/-- where the body of a try ends -/
def PB (T : Tx) (W : Wd) (gh : Gh) (Γs : τ → List Sl) (D : Ends) : Fl τ → Prop
  | .go t => ∀ σ H, EnN W gh (Γs t) σ H → D.nx σ H
  | .brk _ => False
  | .ret v => RetV W D (rD T v)
theorem blm_nextB {Γs : τ → List Sl} {D' : Ends} (u : τ) (h : SlAll Γ (Γs u)) (hn : ∀ σ H, D'.nx σ H → D.nx σ H := by exact fun _ _ z => z) : BlM X W D gh Γ [] (.ok (.go u)) (PB T W gh Γs D') Z := fun q => blk_nil fun σ F G H E => hn σ H (q σ H ⟨F, G, E.le h⟩)
theorem blm_retB {Γs : τ → List Sl} {D' : Ends} {me : Rs Val} (h : EvM X Γ e (fun v => rD T v) me) (hr : D.rt = D'.rt := by rfl) : BlM X W D gh Γ (.Return (some e) pos :: ss) (me.ne >>= fun v => .ok (.ret v)) (PB T W gh Γs D') Z := fun q => by
  obtain ⟨v, hv, q⟩ := Rs.ho_ne (Rs.ho_bind q)
  exact blk_ret (h v hv) fun x F1 H1 y z => by rw [hr]; exact q x F1 H1 y z
/-- .. of a call that may raise -/
theorem blm_retBC {Γs : τ → List Sl} {D' : Ends} {me : Rs Val} (h : EvM X Γ e (fun v => rD T v) me) (hx : EvQ T X Γ e me) (zz : ∀ x, Z x → ZG T X W gh Γ x) (hr : D.rt = D'.rt := by rfl) : BlM X W D gh Γ (.Return (some e) pos :: ss) (me >>= fun v => .ok (.ret v)) (PB T W gh Γs D') Z := fun q => by
  have q := Rs.ho_bind q
  cases hm : me with
  | ok v => rw [hm] at q; exact blk_ret (h v hm) fun x F1 H1 y z => by rw [hr]; exact q x F1 H1 y z
  | stuck => rw [hm] at q; exact q.elim
  | err xv =>
    rw [hm] at q
    obtain ⟨Wx, tk, wi⟩ := zz xv q
    exact blk_ps (ps_ret pe_w) fun σ F G H E1 => hx xv hm W gh σ F G H E1 Wx tk (fun F' G' H' E' x' => wi σ F' G' H' E') _
/-- .. in a loop -/
theorem blm_retFC {Γs : τ → List Sl} {D' : Ends} {me : Rs Val} (h : EvM X Γ e (fun v => rD T v) me) (hx : EvQ T X Γ e me) (zz : ∀ x, Z x → ZG T X W gh Γ x) (hr : D.rt = D'.rt := by rfl) : BlM X W D gh Γ (.Return (some e) pos :: ss) (me >>= fun v => .ok (.ret v)) (PF T W gh Γs D') Z := fun q => by
  have q := Rs.ho_bind q
  cases hm : me with
  | ok v => rw [hm] at q; exact blk_ret (h v hm) fun x F1 H1 y z => by rw [hr]; exact q x F1 H1 y z
  | stuck => rw [hm] at q; exact q.elim
  | err xv =>
    rw [hm] at q
    obtain ⟨Wx, tk, wi⟩ := zz xv q
    exact blk_ps (ps_ret pe_w) fun σ F G H E1 => hx xv hm W gh σ F G H E1 Wx tk (fun F' G' H' E' x' => wi σ F' G' H' E') _
/-- try: body / except C: suite -/
theorem blm_tryO {mb : Rs (Fl τ)} {mk : τ → Rs α} {kr : Val → Rs α} {hx : Xv → Rs α} {cat : Str → Option Bool} {cn : Str} {cv : Value} {hp : Pos} {body suite : List Stmt} {b0 : Stmt} (Γs : τ → List Sl) (Γh : List Sl) (xb : XB X N nm k) (hc : Names X cn cv)
    (hcat : ∀ C b, cat C = some b → PySem.W.exmOne X.K (.ref (He.ga T.K C)) cv = some b)
    (hb : ∀ pn xe (Z' : Xv → Prop), XB (X.tr pn xe) N nm k → (∀ x, Z' x → ∀ Γ', SlAll Γ' Γh → ZG T (X.tr pn xe) W gh Γ' x) → BlM (X.tr pn xe) W { D with nx := BW X ss D } gh Γ body mb (PB T W gh Γs { D with nx := BW X ss D }) Z')
    (hh : ∀ x al oe pn, XV (X.suite al ((al, oe) :: pn)) N nm → (X.suite al ((al, oe) :: pn)).A.units + 65 < cLine → BlM (X.suite al ((al, oe) :: pn)) W { D with nx := BW X ss D } gh Γh (b0 :: suite) (hx x) P Z)
    (z : ∀ x, Z x → ∀ gh' Γ', ZG T X W gh' Γ' x)
    (t : ∀ s, BlM X W D gh (Γs s) ss (mk s) P Z) (kr' : ∀ v, (kr v).ho P Z → RetV W D (rD T v)) : BlM X W D gh Γ (.Try body [.ExceptHandler (some (.Name cn np)) none (b0 :: suite) hp] [] [] pos :: ss) (tryM cat mb mk kr hx) P Z := fun q => by
  refine blk_ps (ps_try_only (tb := fun Wx D σ H => ∀ pn xe, Takes (X.tr pn xe) Wx → PassesOwn (model X.prog X.w) X.A X.env xe → BW (X.tr pn xe) body D σ H) (ts := fun al cls d D σ H => ∀ oe pn, Zc cls d oe → (∃ vs, oe.data = .fields vs) → BW (X.suite al ((al, oe) :: pn)) (b0 :: suite) D σ H) xb.stk xb.frm hc takes_any
    (fun Wx pn xe t1 t2 => ⟨fun pins s σ H D I h => (h pn xe t1 t2).go pins s I⟩) (fun al oe cls d pn z1 z2 => ⟨fun pins s σ H D I h => (h oe pn z1 z2).go pins s I⟩)) fun σ F G H E1 pn xe t1 t2 => ?_
  refine hb pn xe (fun x => (tryM cat (.err x : Rs (Fl τ)) mk kr hx).ho P Z) (xb.try_ t2) (fun x zx Γ' hl => ⟨_, t1, fun σ' F' G' H' E' => wish_of fun cls d F1 H1 y lies => ?_⟩) ?_ σ F G H E1
  · obtain ⟨G1, gr, fg, _, E2⟩ := E'.ext y
    have ec := lies_cls lies
    unfold tryM at zx
    cases hcx : cat x.cls with
    | none => simp only [hcx] at zx; exact zx.elim
    | some b =>
      refine ⟨b, by rw [ec]; exact hcat _ _ hcx, fun eb al hal oe pn' z1 z2 => ?_, fun eb => ?_⟩
      · subst eb
        simp only [hcx] at zx
        exact hh x al oe pn' xb.v.suite xb.toXC.ls zx σ' F1 G1 H1 (E2.le hl)
      · subst eb
        simp only [hcx] at zx
        obtain ⟨Wx, tk, wi⟩ := z x zx gh Γ'
        exact ⟨Wx, tk, wish_lies (wi σ' F' G' H' E') y lies⟩
  · cases hm : mb with
    | stuck => rw [hm] at q; exact q.elim
    | err xv => rw [hm] at q; exact q
    | ok r =>
      rw [hm] at q
      cases r with
      | go s => exact fun σ H ⟨F, G, E⟩ => t s q σ F G H E
      | brk s => exact q.elim
      | ret v => exact kr' v q
/-- .. except C as n -/
theorem blm_tryA {mb : Rs (Fl τ)} {mk : τ → Rs α} {kr : Val → Rs α} {hx : Xv → Rs α} {cat : Str → Option Bool} {cn n : Str} {cv : Value} {hp : Pos} {body suite : List Stmt} {b0 : Stmt} (i : Nat) (Γs : τ → List Sl) (Γh : List Sl) (xb : XB X N nm k) (hi : N[i]? = some n) (hn : onlyB nm n = true) (hc : Names X cn cv)
    (hcat : ∀ C b, cat C = some b → PySem.W.exmOne X.K (.ref (He.ga T.K C)) cv = some b)
    (hb : ∀ pn xe (Z' : Xv → Prop), XB (X.tr pn xe) N nm k → (∀ x, Z' x → ∀ Γ', SlAll Γ' Γh → ZG T (X.tr pn xe) W gh Γ' x) → BlM (X.tr pn xe) W { D with nx := BW X ss D } gh Γ body mb (PB T W gh Γs { D with nx := BW X ss D }) Z')
    (hh : ∀ x al oe cls d pn, cat x.cls = some true → Zc cls d oe → (∃ vs, oe.data = .fields vs) → (xkOf T x).Is cls d → XV (X.suite al ((al, oe) :: pn)) N nm → (X.suite al ((al, oe) :: pn)).A.units + 65 < cLine → BlM (X.suite al ((al, oe) :: pn)) W { nx := fun σ' H' => BW X ss D (σ'.set i none) H', rt := D.rt, bk := fun σ' H' => D.bk (σ'.set i none) H', ct := fun σ' H' => D.ct (σ'.set i none) H' } gh (Γh.set i ((xkOf T x).slot al d)) (b0 :: suite) (hx x) P Z)
    (z : ∀ x, Z x → ∀ gh' Γ', ZG T X W gh' Γ' x)
    (t : ∀ s, BlM X W D gh (Γs s) ss (mk s) P Z) (kr' : ∀ v, (kr v).ho P Z → RetV W D (rD T v)) : BlM X W D gh Γ (.Try body [.ExceptHandler (some (.Name cn np)) (some n) (b0 :: suite) hp] [] [] pos :: ss) (tryM cat mb mk kr hx) P Z := fun q => by
  have hi' := xb.at_ hi
  refine blk_ps (ps_try_as (tb := fun Wx D σ H => ∀ pn xe, Takes (X.tr pn xe) Wx → PassesOwn (model X.prog X.w) X.A X.env xe → BW (X.tr pn xe) body D σ H) (ts := fun al cls d D σ H => ∀ oe pn, Zc cls d oe → (∃ vs, oe.data = .fields vs) → BW (X.suite al ((al, oe) :: pn)) (b0 :: suite) D σ H) xb.stk xb.frm xb.nd hi' (xb.only hn) hc takes_any
    (fun Wx pn xe t1 t2 => ⟨fun pins s σ H D I h => (h pn xe t1 t2).go pins s I⟩) (fun al oe cls d pn z1 z2 => ⟨fun pins s σ H D I h => (h oe pn z1 z2).go pins s I⟩)) fun σ F G H E1 pn xe t1 t2 => ?_
  refine hb pn xe (fun x => (tryM cat (.err x : Rs (Fl τ)) mk kr hx).ho P Z) (xb.try_ t2) (fun x zx Γ' hl => ⟨_, t1, fun σ' F' G' H' E' => wish_of fun cls d F1 H1 y lies => ?_⟩) ?_ σ F G H E1
  · obtain ⟨G1, gr, fg, gn, E2⟩ := E'.ext y
    have ec := lies_cls lies
    unfold tryM at zx
    cases hcx : cat x.cls with
    | none => simp only [hcx] at zx; exact zx.elim
    | some b =>
      refine ⟨b, by rw [ec]; exact hcat _ _ hcx, fun eb al hal oe pn' z1 z2 => ?_, fun eb => ?_⟩
      · subst eb
        simp only [hcx] at zx
        have hh' := hh x al oe cls d pn' hcx z1 z2
        revert hh'
        cases hk : xkOf T x with
        | bare C =>
          intro hh'
          rw [hk] at lies
          exact hh' lies xb.v.suite xb.toXC.ls zx _ F1 G1 H1 ((E2.le hl).setV rfl)
        | with_ C f R =>
          intro hh'
          rw [hk] at lies
          obtain ⟨e1, dd, v, e2, h0, fd, hd, p⟩ := lies
          have E3 := (E2.still (gn dd fd (E'.gH.free h0)) hd (E'.notOwn gr.s h0)).le hl
          exact hh' ⟨e1, dd, e2⟩ xb.v.suite xb.toXC.ls zx _ F1 _ H1 (E3.setV (R := rErr al d f R) ⟨rfl, dd, v, e2, upd_same, p⟩)
      · subst eb
        simp only [hcx] at zx
        obtain ⟨Wx, tk, wi⟩ := z x zx gh Γ'
        exact ⟨Wx, tk, wish_lies (wi σ' F' G' H' E') y lies⟩
  · cases hm : mb with
    | stuck => rw [hm] at q; exact q.elim
    | err xv => rw [hm] at q; exact q
    | ok r =>
      rw [hm] at q
      cases r with
      | go s => exact fun σ H ⟨F, G, E⟩ => t s q σ F G H E
      | brk s => exact q.elim
      | ret v => exact kr' v q
theorem set_no {i j : Nat} {C : Cp} (e : (Γ.set i .no)[j]? = some (.ow C)) : i ≠ j ∧ Γ[j]? = some (.ow C) := by
  by_cases hij : i = j
  · subst hij
    rw [List.getElem?_set] at e
    simp only [if_true] at e
    split at e <;> cases e
  · rw [List.getElem?_set_ne hij] at e
    exact ⟨hij, e⟩
theorem no_ow {i : Nat} {σ : L2.St} {F G H : Hp} (h : ∃ fp : Nat → List Addr, (∀ (j : Nat) (C : Cp), Γ[j]? = some (.ow C) → ∃ l, σ[j]? = some (some (V.ref l)) ∧ (∀ a, a ∈ fp j → G a = none) ∧ C.C l (fp j) H F G) ∧ ∀ (j j' : Nat) (C C' : Cp) (a : Addr), j ≠ j' → Γ[j]? = some (.ow C) → Γ[j']? = some (.ow C') → a ∈ fp j → a ∈ fp j' → False) :
    ∃ fp : Nat → List Addr, (∀ (j : Nat) (C : Cp), (Γ.set i .no)[j]? = some (.ow C) → ∃ l, (List.set σ i none)[j]? = some (some (V.ref l)) ∧ (∀ a, a ∈ fp j → G a = none) ∧ C.C l (fp j) H F G) ∧ ∀ (j j' : Nat) (C C' : Cp) (a : Addr), j ≠ j' → (Γ.set i .no)[j]? = some (.ow C) → (Γ.set i .no)[j']? = some (.ow C') → a ∈ fp j → a ∈ fp j' → False := by
  obtain ⟨fp, h1, h2⟩ := h
  refine ⟨fp, fun j C e => ?_, fun j j' C C' a hn e1 e2 => h2 j j' C C' a hn (set_no e1).2 (set_no e2).2⟩
  obtain ⟨hij, e⟩ := set_no e
  obtain ⟨l, q1, q2⟩ := h1 j C e
  exact ⟨l, by rw [List.getElem?_set_ne hij]; exact q1, q2⟩
/-- behind a suite -/
theorem blm_out {m : Rs α} {Y : Cx} {rt : VK} {bk ct : L2.St → Hp → Prop} {D' : Ends} (h : BlM Y W D' gh Γ ss m P Z) : BlM X W { nx := BW Y ss D', rt := rt, bk := bk, ct := ct } gh Γ [] m P Z := fun q => blk_out (h q)
theorem blm_outA {m : Rs α} {Y : Cx} {rt : VK} {bk ct : L2.St → Hp → Prop} {D' : Ends} (i : Nat) (h : BlM Y W D' gh (Γ.set i .no) ss m P Z) : BlM X W { nx := fun σ' H' => BW Y ss D' (σ'.set i none) H', rt := rt, bk := bk, ct := ct } gh Γ [] m P Z := fun q => blk_nil fun σ F G H E => h q _ F G H ⟨by rw [List.length_set, List.length_set]; exact E.len, E.f0, E.h0, E.fg, E.gH, E.gr, E.g, fun j R hR e => by
    by_cases hij : i = j
    · subst hij
      rw [List.getElem?_set] at e
      simp only [if_true] at e
      split at e <;> cases e
    · rw [List.getElem?_set_ne hij] at e
      obtain ⟨v, e1, p⟩ := E.vl j R hR e
      exact ⟨v, by rw [List.getElem?_set_ne hij]; exact e1, p⟩, no_ow E.ow⟩
end
end L3
/-! V, part f: comprehensions of two, enumerate, zip. -/
namespace L3
open PySem PySem.Spec PyProof.Rows L2
def lc2M {υ υ' : Type} (up : Val → Rs υ) (ys : υ → Rs (List Val)) (up1 : Val → Rs υ') (c : υ → υ' → Rs Bool) (f : υ → υ' → Rs Val) : List Val → Rs (List Val)
  | [] => .ok []
  | x :: xs => up x >>= fun y => ys y >>= fun zs => lcM up1 (c y) (f y) zs >>= fun vs => lc2M up ys up1 c f xs >>= fun ws => .ok (vs ++ ws)
def lc2Y {υ : Type} (up : Val → Rs υ) (ys : υ → Rs (List Val)) (x : Val) : List Val := match up x with
  | .ok y => (match ys y with
    | .ok zs => zs
    | _ => [])
  | _ => []
def lc2P {υ υ' : Type} (up : Val → Rs υ) (up1 : Val → Rs υ') (c : υ → υ' → Rs Bool) (x z : Val) : Bool := match up x with
  | .ok y => lcP up1 (c y) z
  | _ => false
def lc2F {υ υ' : Type} (up : Val → Rs υ) (up1 : Val → Rs υ') (f : υ → υ' → Rs Val) (x z : Val) : Val := match up x with
  | .ok y => lcF up1 (f y) z
  | _ => .none
theorem lc2M_ok {υ υ' : Type} {up : Val → Rs υ} {ys : υ → Rs (List Val)} {up1 : Val → Rs υ'} {c : υ → υ' → Rs Bool} {f : υ → υ' → Rs Val} : ∀ {xs rs : List Val}, lc2M up ys up1 c f xs = .ok rs → rs = two xs (lc2Y up ys) (lc2P up up1 c) (lc2F up up1 f) ∧
    ∀ x ∈ xs, ∃ y zs, up x = .ok y ∧ ys y = .ok zs ∧ lc2Y up ys x = zs ∧ ∀ z ∈ zs, ∃ w, up1 z = .ok w ∧ c y w = .ok (lc2P up up1 c x z) ∧ (lc2P up up1 c x z = true → f y w = .ok (lc2F up up1 f x z))
  | [], rs, h => by
    cases h
    exact ⟨rfl, fun _ h => nomatch h⟩
  | x :: xs, rs, h => by
    obtain ⟨y, hy, h⟩ := Rs.of_bind h
    obtain ⟨zs, hz, h⟩ := Rs.of_bind h
    obtain ⟨vs, hv, h⟩ := Rs.of_bind h
    obtain ⟨ws, hw, h⟩ := Rs.of_bind h
    cases h
    obtain ⟨e1, k1⟩ := lcM_ok hv
    obtain ⟨e2, k2⟩ := lc2M_ok hw
    have eY : lc2Y up ys x = zs := by unfold lc2Y; rw [hy]; dsimp only; rw [hz]
    have eP : lc2P up up1 c x = lcP up1 (c y) := by funext z; unfold lc2P; rw [hy]
    have eF : lc2F up up1 f x = lcF up1 (f y) := by funext z; unfold lc2F; rw [hy]
    refine ⟨?_, fun x' hx' => ?_⟩
    · unfold two
      rw [List.flatMap_cons, eY, eP, eF, ← e1, e2]
      rfl
    · rcases List.mem_cons.mp hx' with rfl | hx'
      · refine ⟨y, zs, hy, hz, eY, fun z hzz => ?_⟩
        rw [eP, eF]
        exact k1 z hzz
      · exact k2 x' hx'
def enumL : Nat → List Val → List Val
  | _, [] => []
  | n, x :: xs => .tuple [.int (n : Nat), x] :: enumL (n + 1) xs
theorem enumL_get : ∀ (n : Nat) (xs : List Val) (i : Nat), (enumL n xs)[i]? = xs[i]?.map fun x => .tuple [.int ((n + i : Nat)), x]
  | _, [], _ => by simp [enumL]
  | n, x :: xs, 0 => by simp [enumL]
  | n, x :: xs, i + 1 => by
    simp only [enumL, List.getElem?_cons_succ]
    rw [enumL_get (n + 1) xs i]
    congr 1
    funext x
    rw [show n + 1 + i = n + (i + 1) by omega]
theorem enumL_len : ∀ (n : Nat) (xs : List Val), (enumL n xs).length = xs.length
  | _, [] => rfl
  | n, x :: xs => by simp [enumL, enumL_len (n + 1) xs]
def enumV : Val → Rs (List Val)
  | .list xs => .ok (enumL 0 xs)
  | _ => .stuck
def zipV : Val → Val → Rs (List Val)
  | .list xs, .list ys => .ok (List.zipWith (fun a b => .tuple [a, b]) xs ys)
  | _, _ => .stuck
def itemsV : Val → Rs (List Val)
  | .dict kvs => .ok (kvs.map fun e => .tuple [e.1, e.2])
  | _ => .stuck
section
variable {T : Tx} {X : Cx} {N : List Str} {nm : List (Str × NameKind)} {k j : Nat} {W : Wd} {D : Ends} {gh : Gh} {Γ Γ' : List Sl} {ss : List Stmt} {a b c e f o tg it tg1 it1 elt : Expr} {es : List Expr} {ifs1 : List Expr} {scope : Scope} {pos p apos np rp cp cpos : Pos} {u v z : Val} {x : Str}
variable {α β υ υ' τ : Type} {P : α → Prop} {Z : Xv → Prop}
theorem eom_lc2 {up : Val → Rs υ} {ys : υ → Rs (List Val)} {up1 : Val → Rs υ'} {mc : υ → υ' → Rs Bool} {mf : υ → υ' → Rs Val} {mx : Rs (List Val)} {ts ts1 : List Nat} (own : List (Str × Nat)) (vs1 : List Nat) (xf : XC X N nm k) (hi : EvW T X Γ tg it mx) (Γt : υ → List Sl) (Γt1 : υ → υ' → List Sl)
    (hsub : ∀ y, OwAll (Γt y) (wipeG Γ (own.map (·.2))))
    (hg : Bk X N nm k scope fun Y => TgM T Y (wipeG Γ (own.map (·.2))) tg up Γt ts)
    (hi1 : Bk X N nm k scope fun Y => ∀ y, EvW T Y (Γt y) tg1 it1 (ys y))
    (hg1 : Bk X N nm k scope fun Y => ∀ y, TgM T Y (wipeG (Γt y) vs1) tg1 up1 (Γt1 y) ts1)
    (ht1 : Bk X N nm k scope fun Y => ∀ y w, VvM Y (Γt1 y w) ifs1 (mc y w))
    (he : Bk X N nm k scope fun Y => ∀ y w, EvM Y (Γt1 y w) elt (fun v => rD T v) (mf y w))
    (hts : ∀ j ∈ ts, j ∈ own.map (·.2) := by decide) (hts1 : ∀ j ∈ ts1, j ∈ vs1 := by decide) (hv : ∀ i ∈ vs1, i ∈ own.map (·.2) := by decide) (hb : blkN N nm scope own = true := by decide +kernel) (hk : scope.kind = .function := by rfl)
    (hs : ∀ x, foldedSetIterable it X.env x = pure x := by intro _; rfl) (hs1 : ∀ env x, foldedSetIterable it1 env x = pure x := by intro _ _; rfl) :
    EoM X Γ (.ListComp elt [⟨tg, it, [], 0⟩, ⟨tg1, it1, ifs1, 0⟩] scope pos) (fun l => cV T (.list l)) (mx >>= fun xs => lc2M up ys up1 mc mf xs >>= fun l => chk (decide (l.length ≤ BIG)) >>= fun _ => .ok l) := fun r q => by
  obtain ⟨xs, h1, q⟩ := Rs.of_bind q
  obtain ⟨l, h2, q⟩ := Rs.of_bind q
  obtain ⟨_, h3, q⟩ := Rs.of_bind q
  have hz : l.length ≤ sizeLine := by
    unfold chk at h3
    split at h3
    · rename_i z
      exact of_decide_eq_true z
    · cases h3
  have q := Rs.ok.inj q
  subst q
  obtain ⟨e1, al⟩ := lc2M_ok h2
  subst e1
  refine evo_lc2 (R := fun x => rD T x) (R1 := fun _ z => rD T z) (xs := xs) (ys := lc2Y up ys) (p := lc2P up up1 mc) (f := lc2F up up1 mf) own vs1 xf (hi xs h1) hz (fun x => match up x with | .ok y => Γt y | _ => []) (fun x z => match up x, up1 z with | .ok y, .ok w => Γt1 y w | _, _ => []) hts hts1 hv (fun x hx => ?_) (fun s H C cl fp xc x hx => ?_) (fun s H C cl fp xc x hx => ?_) (fun s H C cl fp xc x hx z hz => ?_) (fun s H C cl fp xc x hx z hz => ?_) (fun s H C cl fp xc x hx z hz hp => ?_) hb hk hs hs1
  · obtain ⟨y, zs, hy, hzs, eY, kz⟩ := al x hx
    rw [hy]
    exact hsub y
  · obtain ⟨y, zs, hy, hzs, eY, kz⟩ := al x hx
    rw [hy]
    exact hg s H C cl fp xc x y hy
  · obtain ⟨y, zs, hy, hzs, eY, kz⟩ := al x hx
    rw [hy, eY]
    exact hi1 s H C cl fp xc y zs hzs
  · obtain ⟨y, zs, hy, hzs, eY, kz⟩ := al x hx
    rw [eY] at hz
    obtain ⟨w, hw, hc, hf⟩ := kz z hz
    rw [hy, hw]
    exact hg1 s H C cl fp xc y z w hw
  · obtain ⟨y, zs, hy, hzs, eY, kz⟩ := al x hx
    rw [eY] at hz
    obtain ⟨w, hw, hc, hf⟩ := kz z hz
    rw [hy, hw]
    exact ht1 s H C cl fp xc y w _ hc
  · obtain ⟨y, zs, hy, hzs, eY, kz⟩ := al x hx
    rw [eY] at hz
    obtain ⟨w, hw, hc, hf⟩ := kz z hz
    rw [hy, hw]
    exact he s H C cl fp xc y w _ (hf hp)
/-- x = [.. for .. for ..] on one line -/
theorem blm_lc2 {up : Val → Rs υ} {ys : υ → Rs (List Val)} {up1 : Val → Rs υ'} {mc : υ → υ' → Rs Bool} {mf : υ → υ' → Rs Val} {mx : Rs (List Val)} {ts ts1 : List Nat} {py spos : Pos} {mk : Val → Rs α} (xb : XB X N nm k) (i : Nat) (own : List (Str × Nat)) (vs1 : List Nat) (hi : EvW T X Γ tg it mx) (Γt : υ → List Sl) (Γt1 : υ → υ' → List Sl)
    (hsub : ∀ y, OwAll (Γt y) (wipeG Γ (own.map (·.2))))
    (hg : Bk X N nm k scope fun Y => TgM T Y (wipeG Γ (own.map (·.2))) tg up Γt ts)
    (hi1 : Bk X N nm k scope fun Y => ∀ y, EvW T Y (Γt y) tg1 it1 (ys y))
    (hg1 : Bk X N nm k scope fun Y => ∀ y, TgM T Y (wipeG (Γt y) vs1) tg1 up1 (Γt1 y) ts1)
    (ht1 : Bk X N nm k scope fun Y => ∀ y w, VvM Y (Γt1 y w) ifs1 (mc y w))
    (he : Bk X N nm k scope fun Y => ∀ y w, EvM Y (Γt1 y w) elt (fun v => rD T v) (mf y w)) (t : ∀ d, BlM X W D gh (Γ.set i (.ow (cV T d))) ss (mk d) P Z)
    (hts : ∀ j ∈ ts, j ∈ own.map (·.2) := by decide) (hts1 : ∀ j ∈ ts1, j ∈ vs1 := by decide) (hv : ∀ i ∈ vs1, i ∈ own.map (·.2) := by decide) (hb : blkN N nm scope own = true := by decide +kernel) (hk : scope.kind = .function := by rfl) (hN : N[i]? = some x := by rfl) (hl : onlyB nm x = true := by decide +kernel)
    (hline : (py.line == pos.line) = true := by decide) (ha : (scope.names.any fun (n, k) => n == x && (k == .local || k == .cell)) = false := by decide +kernel)
    (hs : ∀ x, foldedSetIterable it X.env x = pure x := by intro _; rfl) (hs1 : ∀ env x, foldedSetIterable it1 env x = pure x := by intro _ _; rfl) :
    BlM X W D gh Γ (.Assign [.Name x py] (.ListComp elt [⟨tg, it, [], 0⟩, ⟨tg1, it1, ifs1, 0⟩] scope pos) spos :: ss) ((((mx >>= fun xs => lc2M up ys up1 mc mf xs >>= fun l => chk (decide (l.length ≤ BIG)) >>= fun _ => .ok l) >>= fun l => .ok (.list l)).ne) >>= mk) P Z := fun q => by
  obtain ⟨r, hr, q⟩ := Rs.ho_ne (Rs.ho_bind q)
  obtain ⟨ds, hd, h2⟩ := Rs.of_bind hr
  cases h2
  obtain ⟨xs, h1, q1⟩ := Rs.of_bind hd
  obtain ⟨l, h2, q1⟩ := Rs.of_bind q1
  obtain ⟨_, h3, q1⟩ := Rs.of_bind q1
  have hz : l.length ≤ sizeLine := by
    unfold chk at h3
    split at h3
    · rename_i z
      exact of_decide_eq_true z
    · cases h3
  have q1 := Rs.ok.inj q1
  subst q1
  obtain ⟨e1, al⟩ := lc2M_ok h2
  refine blk_setLc2 (R := fun x => rD T x) (R1 := fun _ z => rD T z) (xs := xs) (ys := lc2Y up ys) (p := lc2P up up1 mc) (f := lc2F up up1 mf) xb i own vs1 (hi xs h1) (by rw [← e1]; exact hz) (fun x => match up x with | .ok y => Γt y | _ => []) (fun x z => match up x, up1 z with | .ok y, .ok w => Γt1 y w | _, _ => []) hts hts1 hv (fun x hx => ?_) (fun s H C cl fp xc x hx => ?_) (fun s H C cl fp xc x hx => ?_) (fun s H C cl fp xc x hx z hz => ?_) (fun s H C cl fp xc x hx z hz => ?_) (fun s H C cl fp xc x hx z hz hp => ?_) e1.symm (t _ q) hb hk hN hl hline ha hs hs1
  · obtain ⟨y, zs, hy, hzs, eY, kz⟩ := al x hx
    rw [hy]
    exact hsub y
  · obtain ⟨y, zs, hy, hzs, eY, kz⟩ := al x hx
    rw [hy]
    exact hg s H C cl fp xc x y hy
  · obtain ⟨y, zs, hy, hzs, eY, kz⟩ := al x hx
    rw [hy, eY]
    exact hi1 s H C cl fp xc y zs hzs
  · obtain ⟨y, zs, hy, hzs, eY, kz⟩ := al x hx
    rw [eY] at hz
    obtain ⟨w, hw, hc, hf⟩ := kz z hz
    rw [hy, hw]
    exact hg1 s H C cl fp xc y z w hw
  · obtain ⟨y, zs, hy, hzs, eY, kz⟩ := al x hx
    rw [eY] at hz
    obtain ⟨w, hw, hc, hf⟩ := kz z hz
    rw [hy, hw]
    exact ht1 s H C cl fp xc y w _ hc
  · obtain ⟨y, zs, hy, hzs, eY, kz⟩ := al x hx
    rw [eY] at hz
    obtain ⟨w, hw, hc, hf⟩ := kz z hz
    rw [hy, hw]
    exact he s H C cl fp xc y w _ (hf hp)
/-! enumerate, zip, items -/
def ghL (T : Tx) (a : Addr) (vs : List V) (ds : List Val) : Gh := ⟨fun F G => G a = some (.lst vs) ∧ DtAll T F vs ds, fun f g y => ⟨g _ _ y.1, dtAll_same f _ _ y.2⟩⟩
theorem sql_lst {K : PySem.W.Frag} {H : Hp} {a : Addr} {vs : List V} (h : H a = some (.lst vs)) : SqL K H a vs := .inl (.inl h)
theorem evwd_enum {elts : List Expr} {kk : Nat} {tpos : Pos} (hb : Bl X "enumerate") (h : Ev X Γ e (bV T u)) (hs : starEach [e] X.env = [(false, eval e X.env)] := by rfl) : EvW T X Γ (.Tuple elts kk tpos) (.Call (.Name "enumerate" p) [e] [] pos) (enumV u) := fun xs q => by
  unfold enumV at q
  split at q
  · rename_i ds
    cases q
    intro W gh σ F G H E
    refine ⟨_, pi_enum hb.hg hb.hm (pa_cons pe_w pa_nil hs) (hs := hs), fun R q => h W gh σ F G H E _ fun v F1 G1 H1 E1 x1 ⟨a, vs, ev, ha, pv⟩ => ⟨a, vs, by rw [ev], sql_lst (E1.gH _ _ ha), q (Ite X.K a) (ghL T a vs ds) F1 G1 H1 (E1.gw ⟨E1.g, ha, pv⟩) x1 ⟨fun F G H f s h => ?_, fun i F G H hi f s h => ?_, fun i R F G H x H' hi f s h y => ?_⟩⟩⟩
    · exact ⟨vs, sql_lst (s _ _ h.1), by rw [List.length_map, enumL_len, h.2.length]; exact Nat.le_refl _⟩
    · rw [List.length_map, enumL_len, ← h.2.length] at hi
      exact ⟨vs, vs[i], sql_lst (s _ _ h.1), List.getElem?_eq_getElem hi⟩
    · obtain ⟨t, w, ex, ht, eH, hw⟩ := y
      have hw := hw vs (sql_lst (s _ _ h.1))
      obtain ⟨d, hd, pd⟩ := h.2.getV hw
      rw [List.getElem?_map, enumL_get, hd] at hi
      cases hi
      have ft := f.free (s.free ht)
      refine .inr ⟨t, _, ht, eH, ?_⟩
      subst ex
      refine .tup upd_same (.cons ?_ (.cons (dt_same (same_upd ft) _ _ pd) .nil))
      rw [Nat.zero_add]
      exact .int _
  · cases q
theorem evwd_zip {elts : List Expr} {kk : Nat} {tpos : Pos} {e2 : Expr} (hb : Bl X "zip") (h : Ev X Γ e (bV T u)) (h2 : Ev X Γ e2 (bV T v)) (hs : starEach [e, e2] X.env = (false, eval e X.env) :: starEach [e2] X.env := by rfl) (hs2 : starEach [e2] X.env = (false, eval e2 X.env) :: starEach [] X.env := by rfl) (hpl : (backTo pos (starEach [e2] X.env)).any (·.1) = false := by rfl) :
    EvW T X Γ (.Tuple elts kk tpos) (.Call (.Name "zip" p) [e, e2] [] pos) (zipV u v) := fun xs q => by
  unfold zipV at q
  split at q
  · rename_i ds es
    cases q
    intro W gh σ F G H E
    refine ⟨_, pi_zip hb.hg hb.hm (pa_cons pe_w (pa_cons pe_w pa_nil hs2) hs) (hs := hs) (hpl := hpl), fun R q => h W gh σ F G H E _ fun v F1 G1 H1 E1 x1 ⟨a, vs, ev, ha, pv⟩ => h2 W gh σ F1 G1 H1 E1 _ fun v2 F2 G2 H2 E2 x2 ⟨b, ws, ew, hb', pw⟩ => ?_⟩
    have ha2 := x2.g _ _ ha
    have pv2 := dtAll_same x2.f _ _ pv
    refine ⟨a, b, vs, ws, by rw [ev, ew], sql_lst (E2.gH _ _ ha2), sql_lst (E2.gH _ _ hb'), q (Itz X.K a b) ⟨fun F G => (G a = some (.lst vs) ∧ DtAll T F vs ds) ∧ (G b = some (.lst ws) ∧ DtAll T F ws es), fun {_ _ _ _} f g y => ⟨⟨g _ _ y.1.1, dtAll_same f _ _ y.1.2⟩, g _ _ y.2.1, dtAll_same f _ _ y.2.2⟩⟩ F2 G2 H2 (E2.gw ⟨E2.g, ⟨ha2, pv2⟩, hb', pw⟩) (x1.trans x2) ⟨fun F G H f s h => ?_, fun i F G H hi f s h => ?_, fun i R F G H x H' hi f s h y => ?_⟩⟩
    · refine ⟨vs, ws, sql_lst (s _ _ h.1.1), sql_lst (s _ _ h.2.1), ?_⟩
      rw [List.length_map, List.length_zipWith, h.1.2.length, h.2.2.length]
      omega
    · rw [List.length_map, List.length_zipWith, ← h.1.2.length, ← h.2.2.length] at hi
      have i1 : i < vs.length := by omega
      have i2 : i < ws.length := by omega
      exact ⟨vs, ws, vs[i], ws[i], sql_lst (s _ _ h.1.1), sql_lst (s _ _ h.2.1), List.getElem?_eq_getElem i1, List.getElem?_eq_getElem i2⟩
    · obtain ⟨t, w1, w2, ex, ht, eH, hw1, hw2⟩ := y
      have hw1 := hw1 vs (sql_lst (s _ _ h.1.1))
      have hw2 := hw2 ws (sql_lst (s _ _ h.2.1))
      obtain ⟨d1, hd1, pd1⟩ := h.1.2.getV hw1
      obtain ⟨d2, hd2, pd2⟩ := h.2.2.getV hw2
      rw [List.getElem?_map, List.getElem?_zipWith, hd1, hd2] at hi
      cases hi
      have ft := f.free (s.free ht)
      refine .inr ⟨t, _, ht, eH, ?_⟩
      subst ex
      exact .tup upd_same (.cons (dt_same (same_upd ft) _ _ pd1) (.cons (dt_same (same_upd ft) _ _ pd2) .nil))
  · cases q
theorem evwd_items {elts : List Expr} {kk : Nat} {tpos : Pos} (h : Ev X Γ o (bV T u)) (hT : T.w = X.w := by rfl) (hbase : attributeBase o "items" X.env (eval o X.env) = eval o X.env := by rfl) (hline : (apos.endLine == cpos.line) = true := by rfl) : EvW T X Γ (.Tuple elts kk tpos) (.Call (.Attribute o "items" apos) [] [] cpos) (itemsV u) := fun xs q => by
  unfold itemsV at q
  split at q
  · exact evw_items h hT hbase hline xs q
  · cases q
/-! what raises within a display -/
def AvX (X : Cx) (Γ : List Sl) (es : List Expr) (xk : Xk) : Prop := ∀ (W : Wd) (gh : Gh) (σ : L2.St) (F G H : Hp), En W gh Γ σ F G H → ∀ Wx : WX, Takes X Wx → (∀ F' G' H', En W gh Γ σ F' G' H' → Gr F G H F' G' H' → xk.Wish F' H' (fun cls d H => Wx cls d σ H)) → ∀ Q : List V → Hp → Prop, AW X es σ H Q
theorem avx_here {xk : Xk} (h : EvX X Γ e xk) (hs : starEach (e :: es) X.env = (false, eval e X.env) :: starEach es X.env := by rfl) : AvX X Γ (e :: es) xk := fun W gh σ F G H E Wx tk q Q => AW.of (pa_cons pe_w pa_w hs) (h W gh σ F G H E Wx tk q _)
theorem avx_next {R : Rp} {xk : Xk} (h : Ev X Γ e R) (t : AvX X Γ es xk) (hs : starEach (e :: es) X.env = (false, eval e X.env) :: starEach es X.env := by rfl) : AvX X Γ (e :: es) xk := fun W gh σ F G H E Wx tk q Q =>
  AW.of (pa_cons pe_w pa_w hs) (h W gh σ F G H E _ fun v F1 G1 H1 E1 x1 p1 => t W gh σ F1 G1 H1 E1 Wx tk (fun F' G' H' E' x' => q F' G' H' E' (x1.trans x')) _)
theorem evx_tup {xk : Xk} {k : Nat} (h : AvX X Γ es xk) : EvX X Γ (.Tuple es k pos) xk := fun W gh σ F G H E Wx tk q Q => EW.of (pe_tup pa_w) (h W gh σ F G H E Wx tk q _)
theorem evx_lst {xk : Xk} (h : AvX X Γ es xk) : EvX X Γ (.List es pos) xk := fun W gh σ F G H E Wx tk q Q => EW.of (pe_lst pa_w) (h W gh σ F G H E Wx tk q _)
theorem evq_in {m : Rs α} {mk : α → Val} (h : EvQ T X Γ a m) (k : ∀ xk, EvX X Γ a xk → EvX X Γ e xk) : EvQ T X Γ e (m >>= fun x => .ok (mk x)) := fun xv z => by
  cases hm : m with
  | ok x => rw [hm] at z; cases z
  | err x => rw [hm] at z; cases z; exact k _ (h _ hm)
  | stuck => rw [hm] at z; cases z
/-! in a suite -/
theorem evd_heq (hu : X.A.units + 65 < cLine) (ha : Ev X Γ a (hV T u)) (hb : Ev X Γ b (hV T v)) : EvM X Γ (.Compare a [.Eq] [b] pos) (fun r : Bool => rD T (.bool r)) (eqV u v) := fun r q => ev_eqV ha hb q (by omega)
theorem tvd_heq (hu : X.A.units + 65 < cLine) (ha : Ev X Γ a (hV T u)) (hb : Ev X Γ b (hV T v)) : TvM X Γ (.Compare a [.Eq] [b] pos) (eqV u v) := fun r q => tv_eqV ha hb q (by omega)
theorem evd_hne (hu : X.A.units + 65 < cLine) (ha : Ev X Γ a (hV T u)) (hb : Ev X Γ b (hV T v)) : EvM X Γ (.Compare a [.NotEq] [b] pos) (fun r : Bool => rD T (.bool r)) (neV u v) := fun r q => by
  obtain ⟨_, h1, h2⟩ := Rs.of_bind q; cases h2; exact ev_neV ha hb h1 (by omega)
theorem tvd_hne (hu : X.A.units + 65 < cLine) (ha : Ev X Γ a (hV T u)) (hb : Ev X Γ b (hV T v)) : TvM X Γ (.Compare a [.NotEq] [b] pos) (neV u v) := fun r q => by
  obtain ⟨_, h1, h2⟩ := Rs.of_bind q; cases h2; exact tv_neV ha hb h1 (by omega)
theorem blm_setV1 {me : Rs Val} {mk : Val → Rs α} (xv : XV X N nm) (i : Nat) (h : EvM X Γ e (fun v => rD T v) me) (t : ∀ v, BlM X W D gh (Γ.set i (vl (rD T v))) ss (mk v) P Z) (hN : N[i]? = some x := by rfl) (hl : onlyB nm x = true := by decide +kernel)
    (hs : swapsWith e (some (.Name x p)) pos.line X.env = pure false := by rfl) : BlM X W D gh Γ (.Assign [.Name x p] e pos :: ss) (me.ne >>= mk) P Z := fun q => by
  obtain ⟨v, hv, q⟩ := Rs.ho_ne (Rs.ho_bind q)
  exact blk_setV xv i (h v hv) (t v q) hN hl hs
theorem blm_stuck : BlM X W D gh Γ ss (.stuck : Rs α) P Z := fun q => q.elim
end
end L3
/-! V, part g: sets of tuples of whole numbers: how many, sorted, membership. -/
namespace L3
open PySem PySem.Spec PyProof.Rows L2
/-! ### plain -/
def intsOf : List Val → Option (List Int)
  | [] => some []
  | .int i :: xs => (intsOf xs).map (i :: ·)
  | _ :: _ => none
def keyOf : Val → Option (List Int)
  | .tuple xs => intsOf xs
  | _ => none
def keysOf : List Val → Option (List (List Int))
  | [] => some []
  | x :: xs => match keyOf x, keysOf xs with
    | some k, some ks => some (k :: ks)
    | _, _ => none
def vK (k : List Int) : Val := .tuple (k.map .int)
def dedupK : List (List Int) → List (List Int)
  | [] => []
  | k :: ks => if k ∈ ks then dedupK ks else k :: dedupK ks
def lenSetV : Val → Rs Val
  | .list xs => match keysOf xs with
    | some ks => if ks.length < 64 then .ok (.int (dedupK ks).length) else .stuck
    | none => .stuck
  | _ => .stuck
noncomputable def sortSetV : Val → Rs Val
  | .list xs => match keysOf xs with
    | some ks => if ks.length < 64 then sortL ((dedupK ks).map vK) else .stuck
    | none => .stuck
  | _ => .stuck
theorem intsOf_ok : ∀ {xs : List Val} {k : List Int}, intsOf xs = some k → xs = k.map .int
  | [], k, h => by cases h; rfl
  | x :: xs, k, h => by
    cases x <;> simp only [intsOf] at h <;> try cases h
    rename_i i
    cases q : intsOf xs with
    | none => rw [q] at h; cases h
    | some l => rw [q] at h; cases h; rw [intsOf_ok q]; rfl
theorem keyOf_ok {x : Val} {k : List Int} (h : keyOf x = some k) : x = vK k := by
  unfold keyOf at h
  split at h
  · rw [intsOf_ok h]; rfl
  · cases h
theorem keysOf_ok : ∀ {xs : List Val} {ks : List (List Int)}, keysOf xs = some ks → xs = ks.map vK
  | [], ks, h => by cases h; rfl
  | x :: xs, ks, h => by
    unfold keysOf at h
    split at h
    · rename_i k l h1 h2
      cases h
      rw [List.map_cons, ← keyOf_ok h1, ← keysOf_ok h2]
    · cases h
theorem mem_dedupK : ∀ (ks : List (List Int)) (k : List Int), k ∈ dedupK ks ↔ k ∈ ks
  | [], k => Iff.rfl
  | a :: ks, k => by
    unfold dedupK
    split
    · rename_i h
      rw [mem_dedupK ks k, List.mem_cons]
      exact ⟨.inr, fun z => z.elim (fun e => e ▸ h) id⟩
    · rw [List.mem_cons, mem_dedupK ks k, List.mem_cons]
theorem nodup_dedupK : ∀ (ks : List (List Int)), (dedupK ks).Nodup
  | [] => .nil
  | a :: ks => by
    unfold dedupK
    split
    · exact nodup_dedupK ks
    · rename_i h
      exact List.nodup_cons.mpr ⟨fun z => h ((mem_dedupK ks a).mp z), nodup_dedupK ks⟩
@[simp] theorem intsOf_map (k : List Int) : intsOf (k.map .int) = some k := by
  induction k with
  | nil => rfl
  | cons i k ih => rw [List.map_cons]; unfold intsOf; rw [ih]; rfl
@[simp] theorem keyOf_vK (k : List Int) : keyOf (vK k) = some k := intsOf_map k
@[simp] theorem keysOf_map (ks : List (List Int)) : keysOf (ks.map vK) = some ks := by
  induction ks with
  | nil => rfl
  | cons k ks ih => rw [List.map_cons]; unfold keysOf; rw [keyOf_vK, ih]
/-! ### sorted of a set, at the heap -/
abbrev dK (q : Addr × List Int) : PyData := .tuple (q.2.map .int)
section
variable {P : Program} {w : World} {A : Around} {E : Value → Shared → Prop} {s : Shared}
theorem reads_ints {h : Heap} {vs : List Value} {k : List Int} (i : IntsAre vs k) : ReadsAll h vs (k.map PyData.int) [] := by
  induction i with
  | nil => exact .nil
  | cons k0 t _ ih => exact ReadsAll.cons (as := []) (.int k0 t) ih
theorem reads_key {h : Heap} {b : Addr} {k : List Int} (x : IsT P w h k b) : Reads h (.ref b) (.tuple (k.map .int)) [] := by
  obtain ⟨o, items, n, h1, h2, h3, h4⟩ := x
  exact .tuple h1 h2 h3 (reads_ints (ints_of_items h4))
theorem each_refs : ∀ {L : List (Addr × List Int)}, PySem.W.EachIs (fun v (q : Addr × List Int) => v = Value.ref q.1) (L.map fun q => Value.ref q.1) L
  | [] => .nil
  | q :: L => .cons rfl each_refs
theorem each_reads {h : Heap} {z : Addr} : ∀ {L : List (Addr × List Int)}, (∀ q ∈ L, IsT P w h q.2 q.1) → PySem.W.EachIs (fun v q => ∃ as, Reads h v (dK q) as ∧ z ∉ as) (L.map fun q => Value.ref q.1) L
  | [], _ => .nil
  | q :: L, x => .cons ⟨[], reads_key (x q List.mem_cons_self), fun m => nomatch m⟩ (each_reads fun r hr => x r (List.mem_cons_of_mem _ hr))
theorem refs_each : ∀ {us : List Value} {L : List (Addr × List Int)}, PySem.W.EachIs (fun v (q : Addr × List Int) => v = Value.ref q.1) us L → us = L.map fun q => Value.ref q.1
  | _, _, .nil => rfl
  | _, _, .cons e t => by rw [e, refs_each t]; rfl
theorem perm_rows {L : List (Addr × List Int)} (nd : (L.map (·.2)).Nodup) (one : ∀ q ∈ L, ∀ r ∈ L, q.1 = r.1 → q.2 = r.2) : ∀ {vs : List Value}, vs.Perm (L.map fun q => Value.ref q.1) → ∃ L1 : List (Addr × List Int), vs = L1.map (fun q => Value.ref q.1) ∧ L1.Perm L := by
  intro vs pm
  have nL : L.Nodup := L2.nodup_of_map nd
  let f : Value → Addr × List Int := fun v => (L.find? fun q => v == Value.ref q.1).getD (0, [])
  have fq : ∀ q ∈ L, f (Value.ref q.1) = q := fun q hq => by
    show (L.find? fun r => Value.ref q.1 == Value.ref r.1).getD (0, []) = q
    cases e : L.find? fun r => Value.ref q.1 == Value.ref r.1 with
    | none =>
      have := List.find?_eq_none.mp e q hq
      simp at this
    | some r =>
      have h1 := List.find?_some e
      have hr := List.mem_of_find?_eq_some e
      have h2 : q.1 = r.1 := by simpa using h1
      show r = q
      exact Prod.ext h2.symm (one q hq r hr h2).symm
  refine ⟨vs.map f, ?_, ?_⟩
  · rw [List.map_map]
    conv => lhs; rw [← List.map_id vs]
    refine List.map_congr_left fun v hv => ?_
    obtain ⟨q, hq, e⟩ := List.mem_map.mp (pm.mem_iff.mp hv)
    rw [← e]
    show id (Value.ref q.1) = Value.ref (f (Value.ref q.1)).1
    rw [fq q hq]
    rfl
  · have := pm.map f
    rw [List.map_map] at this
    have e : L.map (f ∘ fun q => Value.ref q.1) = L := by
      conv => rhs; rw [← List.map_id L]
      exact List.map_congr_left fun q hq => fq q hq
    rwa [e] at this
theorem sorted_setD {a : Addr} {L : List (Addr × List Int)} {es : Array (Int × Value)} {ep : Nat} {t : SetTable} {Q : Value → Shared → Prop} (R : SetTR P w s.heap a L es ep t) (hh : A.handled = none) (so : sortable (L.map dK)) (hu : A.units + 60 < cLine)
    (hQ : ∀ (s' : Shared) (p : Addr) (c : Nat) (L' : List (Addr × List Int)), (∀ b o, s.heap.get? b = some o → s'.heap.get? b = some o) → s'.gens = s.gens → s'.os = s.os → s.heap.objs.size ≤ p → L'.Perm L →
      s'.heap.get? p = some (seqObj "list" ((L'.mergeSort (PySem.W.dataLe false dK)).map fun q => Value.ref q.1).toArray c) → Q (.ref p) s') : wpAny (model P w) A (call (.builtin "sorted") [.ref a]) Q E s := by
  have ⟨ob, at_, ex, data⟩ := R.ob
  refine Calls.call_function_entry kind_sorted plain_sorted entry_sorted (args_sorted1 _) ?_
  unfold Builtin.«sorted»
  refine wpAny_bind (m := checkCount "sorted" 1 1 _) (wpAny_pure ?_)
  refine wpAny_bind (L2.collect_set (A := A.in1) hh ⟨ob, at_, ex.1, data⟩ R.fits (by rw [R.size]; have := R.few; unfold scanBound; omega) R.tab.ris R.led fun s1 vs old grow gens os pm => ?_)
  have rows : es.toList.map (·.2) = L.map fun q => Value.ref q.1 := by
    rw [R.rows]; unfold rowsOf; rw [List.map_map]; rfl
  rw [rows] at pm
  obtain ⟨L1, rfl, pL⟩ := perm_rows R.nd (fun q hq r hr e => by
    have x1 := R.tup q hq
    have x2 := R.tup r hr
    rw [e] at x1
    exact x1.inj x2) pm
  have few : L1.length < 64 := by rw [pL.length_eq]; exact R.few
  refine wpAny_bind (wpAny_newList ?_ (by rw [List.length_map, sizeLine_eq]; omega))
  generalize eh : s1.heap.push (seqObj "list" (L1.map fun q => Value.ref q.1).toArray 0) = h2
  have hoL : h2.get? s1.heap.objs.size = some (seqObj "list" (L1.map fun q => Value.ref q.1).toArray 0) := by rw [← eh]; exact Heap.get?_push_size _ rfl
  have xs : ∀ q ∈ L1, IsT P w h2 q.2 q.1 := fun q hq => isT_keep (R.tup q (pL.mem_iff.mp hq)) fun b u e => by rw [← eh]; exact Heap.get?_push_of_some _ (old b u e)
  have so1 : sortable (L1.map dK) := by
    have mm : ∀ d, d ∈ L1.map dK ↔ d ∈ L.map dK := fun d => (pL.map dK).mem_iff
    obtain ⟨s1', s2', s3'⟩ := so
    refine ⟨fun d hd d' hd' => s1' d ((mm d).mp hd) d' ((mm d').mp hd'), ?_, fun d hd => s3' d ((mm d).mp hd)⟩
    rcases s2' with z | z
    · exact .inl fun d hd => z d ((mm d).mp hd)
    · exact .inr fun d hd => z d ((mm d).mp hd)
  refine wpAny_bind (wpAny_holding (PySem.W.list_sort_data (s := { s1 with heap := h2 }) (R := fun v q => v = Value.ref q.1) (enc := dK) (bs := L1) hoL each_refs (each_reads xs) so1.1 so1.2.1 (by rw [sizeLine_eq]; omega) (fun b hb => by
    have := so1.2.2 _ (List.mem_map_of_mem hb)
    show A.in1.units + 1 + _ < _
    have : A.in1.units ≤ A.units + 1 := by first | exact Nat.le_refl _ | (show A.units + 1 ≤ A.units + 1; exact Nat.le_refl _)
    omega) fun out hlen each => ?_))
  obtain ⟨c, hc⟩ := sortedHeap_at (vs := L1.map fun q => Value.ref q.1) (out := out.toArray) hoL
  rw [refs_each each] at hc
  refine wpAny_pure ⟨_, rfl, hQ _ s1.heap.objs.size c L1 (fun b u e => ?_) gens os grow pL (by rw [refs_each each]; exact hc)⟩
  have q := old b u e
  have hlt := Heap.lt_size q
  have q2 : h2.get? b = some u := by rw [← eh]; exact Heap.get?_push_of_some _ q
  exact (sortedHeap_old (Nat.ne_of_lt hlt) (Heap.lt_size q2)).trans q2
end
/-! ### the order of such keys -/
theorem toks_ints : ∀ {k l : List Int}, PySem.W.keyToksAll (k.map .int) = PySem.W.keyToksAll (l.map .int) → k = l
  | [], [], _ => rfl
  | [], i :: l, h => by
    have h : ([.inl 0] : List (Int ⊕ List Nat)) = .inl 1 :: (PySem.W.keyToks (.int i) ++ PySem.W.keyToksAll (l.map .int)) := h
    cases h
  | i :: k, [], h => by
    have h : (.inl 1 :: (PySem.W.keyToks (.int i) ++ PySem.W.keyToksAll (k.map .int)) : List (Int ⊕ List Nat)) = [.inl 0] := h
    cases h
  | i :: k, j :: l, h => by
    have h : (.inl 1 :: .inl i :: PySem.W.keyToksAll (k.map .int) : List (Int ⊕ List Nat)) = .inl 1 :: .inl j :: PySem.W.keyToksAll (l.map .int) := h
    injection h with _ h
    injection h with h1 h2
    injection h1 with h1
    rw [h1, toks_ints h2]
theorem le_ints {k l : List Int} (h1 : PySem.W.dataLe false (fun k : List Int => PyData.tuple (k.map .int)) k l = true) (h2 : PySem.W.dataLe false (fun k : List Int => PyData.tuple (k.map .int)) l k = true) : k = l := by
  have h1 : (!(listOrd itemOrd).blt (PySem.W.keyToksAll (l.map .int)) (PySem.W.keyToksAll (k.map .int))) = true := h1
  have h2 : (!(listOrd itemOrd).blt (PySem.W.keyToksAll (k.map .int)) (PySem.W.keyToksAll (l.map .int))) = true := h2
  exact toks_ints ((listOrd itemOrd).total _ _ (by simpa using h2) (by simpa using h1))
theorem perm_sorted {α : Type} {le : α → α → Bool} : ∀ {l m : List α}, l.Perm m → l.Pairwise (fun a b => le a b = true) → m.Pairwise (fun a b => le a b = true) → (∀ a b, le a b = true → le b a = true → a = b) → l = m
  | [], m, p, _, _, _ => (List.nil_perm.mp p).symm
  | a :: l, [], p, _, _, _ => by
    have := p.length_eq
    simp at this
  | a :: l, b :: m, p, hl, hm, anti => by
    have e : a = b := by
      have ha : a ∈ b :: m := p.mem_iff.mp List.mem_cons_self
      have hb : b ∈ a :: l := p.mem_iff.mpr List.mem_cons_self
      rcases List.mem_cons.mp ha with z | z
      · exact z
      · rcases List.mem_cons.mp hb with y | y
        · exact y.symm
        · exact anti _ _ ((List.pairwise_cons.mp hl).1 b y) ((List.pairwise_cons.mp hm).1 a z)
    subst e
    rw [perm_sorted (List.Perm.cons_inv p) (List.pairwise_cons.mp hl).2 (List.pairwise_cons.mp hm).2 anti]
def sortK (ks : List (List Int)) : List (List Int) := ks.mergeSort (PySem.W.dataLe false fun k => PyData.tuple (k.map .int))
theorem sortK_sorted (ks : List (List Int)) : (sortK ks).Pairwise fun a b => PySem.W.dataLe false (fun k : List Int => PyData.tuple (k.map .int)) a b = true :=
  List.pairwise_mergeSort (fun a b c => (PySem.W.sortLe_total (listOrd itemOrd) false fun k : List Int => PySem.W.keyToks (PyData.tuple (k.map .int))).trans a b c) (fun a b => Bool.or_eq_true_iff.mpr ((PySem.W.sortLe_total (listOrd itemOrd) false fun k : List Int => PySem.W.keyToks (PyData.tuple (k.map .int))).total a b)) ks
theorem sortK_perm {ks ls : List (List Int)} (h : ks.Perm ls) : sortK ks = sortK ls :=
  perm_sorted ((List.mergeSort_perm _ _).trans (h.trans (List.mergeSort_perm _ _).symm)) (sortK_sorted _) (sortK_sorted _) fun _ _ => le_ints
theorem pyD_vK (k : List Int) : pyD (vK k) = .tuple (k.map .int) := by
  unfold pyD vK
  have : ∀ k : List Int, Val.pys (k.map .int) = some (k.map .int) := fun k => by
    induction k with
    | nil => rfl
    | cons i k ih => rw [List.map_cons]; unfold Val.pys; rw [show Val.py (.int i) = some (.int i) from rfl, ih]; rfl
  unfold Val.py
  rw [this]
  rfl
theorem sortVs_vK (ks : List (List Int)) : sortVs (ks.map vK) = (sortK ks).map vK := by
  unfold sortVs sortK
  refine (List.map_mergeSort (f := vK) fun a _ b _ => ?_).symm
  show PySem.W.dataLe false (fun k : List Int => PyData.tuple (k.map .int)) a b = PySem.W.dataLe false pyD (vK a) (vK b)
  rw [PySem.W.dataLe_eq, PySem.W.dataLe_eq]
  dsimp only [cond]
  rw [pyD_vK, pyD_vK]
/-! ### the rules -/
def rSortedS (K : PySem.W.Frag) (P : Program) (w : World) : List V → Hp → VK → Prop := fun vs H Q => ∃ (a : Addr) (L : List (Addr × List Int)), vs = [V.ref a] ∧ H a = some (SetTO P w a L) ∧ (∀ p ∈ L, SqT K H p.1 (p.2.map V.int)) ∧ sortable (L.map dK) ∧
  ∀ (L' : List (Addr × List Int)) (p : Addr), L'.Perm L → (L.map (·.2)).Nodup → H p = none → Q (.ref p) (upd H p (.lst ((L'.mergeSort (PySem.W.dataLe false dK)).map fun q => V.ref q.1)))
section
variable {X : Cx}
theorem cr_sortedS (hc : X.calm = true) (hu : X.A.units + 60 < cLine) : CallR X (.builtin "sorted") (rSortedS X.K X.prog X.w) := by
  intro pins s σ H vs us Q I r h
  obtain ⟨a, L, rfl, ha, hk, so, q⟩ := h
  have R0 : SetT0 X.prog X.w s.heap a L := (I.hok a _ ha).1
  obtain ⟨es, ep, t, R⟩ := R0.full fun p hp => I.isT (hk p hp)
  rw [Vals.ref1 r]
  refine sorted_setD R (I.ok.hd hc) so hu fun s2 p c L2 old gens os grow pm at_ => ?_
  have few : (L2.mergeSort (PySem.W.dataLe false dK)).length < 64 := by rw [(List.mergeSort_perm _ _).length_eq, pm.length_eq]; exact R.few
  have hn : H p = none := I.hok.fresh grow
  have J : Inv X pins σ (upd H p (.lst ((L2.mergeSort (PySem.W.dataLe false dK)).map fun q => V.ref q.1))) { s with heap := s2.heap, gens := s2.gens, drawn := s2.drawn, toks := s2.toks } :=
    I.call (ch := []) (Un.laid old grow hn) (I.hok.laid old grow ⟨by rw [List.length_map, sizeLine_eq]; omega, _, c, by simpa using vals_of_refs (L2.mergeSort (PySem.W.dataLe false dK)), at_⟩) (by rw [gens]; exact I.bare) (fun _ z => nomatch z)
  have e : s2 = { s with heap := s2.heap, gens := s2.gens, drawn := s2.drawn, toks := s2.toks } := by
    cases s2
    cases s
    cases os
    rfl
  rw [e]
  exact ⟨.ref p, _, J, rfl, q L2 p pm R.nd hn⟩
def rLenS (P : Program) (w : World) : List V → Hp → VK → Prop := fun vs H Q => ∃ (a : Addr) (L : List (Addr × List Int)), vs = [V.ref a] ∧ H a = some (SetTO P w a L) ∧ ((L.map (·.2)).Nodup → Q (.int L.length) H)
theorem cr_lenS : CallR X (.builtin "len") (rLenS X.prog X.w) := by
  intro pins s σ H vs us Q I r h
  obtain ⟨a, L, rfl, ha, q⟩ := h
  have ⟨es, ep, t, ⟨o, ho, hex, hd⟩, rows, tab, nd, pl, led, room, few⟩ := SetT0.ex ((I.hok a _ ha).1 : SetT0 X.prog X.w s.heap a L)
  rw [Vals.ref1 r]
  have hsz : es.size = L.length := by
    have := congrArg List.length rows
    unfold rowsOf at this
    simpa using this
  have fits : t.fits es.size = true := by
    have z := tab.sz
    rw [List.length_map] at z
    unfold SetTable.fits SetTable.fill
    rw [tab.dm, Bool.and_eq_true, beq_iff_eq, decide_eq_true_eq]
    refine ⟨by omega, ?_⟩
    show t.place.size + 0 ≤ t.mask
    omega
  refine call_len_set ho hex hd fits (by rw [hsz]; omega) ⟨.int L.length, H, I.tok _, ⟨_, by rw [hsz]⟩, q nd⟩
end
section
variable {T : Tx} {X : Cx} {N : List Str} {nm : List (Str × NameKind)} {k j : Nat} {Γ : List Sl} {a e : Expr} {pos p p2 q2 : Pos} {u v : Val}
/-- a set of such keys -/
def rSet (T : Tx) (P : Program) (w : World) (ks : List (List Int)) : Rp := ⟨fun v F _ H => ∃ (l : Addr) (L : List (Addr × List Int)), v = .ref l ∧ H l = some (SetTO P w l L) ∧ (∀ p ∈ L, F p.1 = some (.tup (p.2.map V.int))) ∧ ∀ k : List Int, k ∈ L.map (fun p : Addr × List Int => p.2) ↔ k ∈ ks,
  fun f _ s ⟨l, L, e, h, hF, m⟩ => ⟨l, L, e, s _ _ h, fun p hp => f _ _ (hF p hp), m⟩⟩
theorem dt_keys {F : Hp} : ∀ {vs : List V} {ks : List (List Int)}, DtAll T F vs (ks.map vK) → ∃ rows : List (Addr × List Int), vs = rows.map (fun p => V.ref p.1) ∧ rows.map (·.2) = ks ∧ ∀ p ∈ rows, F p.1 = some (.tup (p.2.map V.int))
  | _, [], .nil => ⟨[], rfl, rfl, fun _ h => nomatch h⟩
  | _, k :: ks, .cons h t => by
    obtain ⟨rows, e1, e2, e3⟩ := dt_keys t
    obtain ⟨b, ws, ev, hb, hw⟩ := tup_inv h
    have ew := hw.ints
    subst ew
    refine ⟨(b, k) :: rows, by rw [List.map_cons, e1, ev], by rw [List.map_cons, e2], fun p hp => ?_⟩
    rcases List.mem_cons.mp hp with rfl | hp
    · exact hb
    · exact e3 p hp
theorem ev_set {ks : List (List Int)} (xc : XC X N nm k) (h : Bl X "set") (ha : Ev X Γ a (hV T (.list (ks.map vK)))) (hf : ks.length < 64) (he : starEach [a] X.env = (false, eval a X.env) :: starEach [] X.env := by rfl) : Ev X Γ (.Call (.Name "set" p) [a] [] pos) (rSet T X.prog X.w ks) := fun W gh σ F G H E Q q =>
  EW.of (pe_callTy (cr_setOfT xc.calm (by have := xc.ls; omega)) h.hg h.hm PyProof.Rows.boot_set (pa_cons pe_w pa_nil he) (by decide) (by decide) he) (ha W gh σ F G H E _ fun v F1 G1 H1 E1 x1 ⟨l, vs, ev, hl, pv⟩ => by
    obtain ⟨rows, e1, e2, e3⟩ := dt_keys pv
    refine ⟨l, rows, by rw [ev], sql_lst (by rw [hl, e1]), fun p hp => .inl (.inl (E1.gH _ _ (E1.fg _ _ (e3 p hp)))), by rw [← List.length_map (f := (·.2)), e2]; exact hf, fun b L hn m1 m2 => ?_⟩
    refine q (.ref b) F1 G1 _ (E1.new hn) (x1.new hn) ⟨b, L, rfl, upd_same, fun p hp => e3 p (m1 p hp), fun k => ?_⟩
    rw [← e2]
    constructor
    · intro hk
      obtain ⟨p, hp, rfl⟩ := List.mem_map.mp hk
      exact List.mem_map_of_mem (m1 p hp)
    · intro hk
      obtain ⟨p, hp, rfl⟩ := List.mem_map.mp hk
      exact m2 p hp)
theorem keys_len {L : List (Addr × List Int)} {ks : List (List Int)} (nd : (L.map (·.2)).Nodup) (m : ∀ k, k ∈ L.map (·.2) ↔ k ∈ ks) : (L.map (·.2)).Perm (dedupK ks) :=
  (List.perm_ext_iff_of_nodup nd (nodup_dedupK ks)).mpr fun k => (m k).trans (mem_dedupK ks k).symm
theorem evd_lenset (xc : XC X N nm k) (h : Bl X "len") (h2 : Bl X "set") (ha : Ev X Γ a (hV T u)) (he : starEach [a] X.env = (false, eval a X.env) :: starEach [] X.env := by rfl) (he2 : starEach [.Call (.Name "set" p2) [a] [] q2] X.env = (false, eval (.Call (.Name "set" p2) [a] [] q2) X.env) :: starEach [] X.env := by rfl) :
    EvM X Γ (.Call (.Name "len" p) [.Call (.Name "set" p2) [a] [] q2] [] pos) (fun r => rD T r) (lenSetV u) := fun r q => by
  unfold lenSetV at q
  split at q
  · split at q
    · rename_i xs _ ks hk
      split at q
      · rename_i hf
        cases q
        rw [keysOf_ok hk] at ha
        exact ev_cb1 cr_lenS h PySem.boot_len (ev_set xc h2 ha hf he) (fun v F G H f g ⟨l, L, ev, hl, hF, m⟩ => ⟨_, .int _, fun Q q => ⟨l, L, by rw [ev], hl, fun nd => by
          have e := (keys_len nd m).length_eq
          rw [List.length_map] at e
          rw [e]
          exact q⟩⟩) (he := he2)
      · cases q
    · cases q
  · cases q
theorem eod_sortset (xc : XC X N nm k) (h : Bl X "sorted") (h2 : Bl X "set") (ha : Ev X Γ a (hV T u)) (he : starEach [a] X.env = (false, eval a X.env) :: starEach [] X.env := by rfl) (he2 : starEach [.Call (.Name "set" p2) [a] [] q2] X.env = (false, eval (.Call (.Name "set" p2) [a] [] q2) X.env) :: starEach [] X.env := by rfl) :
    EoM X Γ (.Call (.Name "sorted" p) [.Call (.Name "set" p2) [a] [] q2] [] pos) (fun r => cV T r) (sortSetV u) := fun r q => by
  unfold sortSetV at q
  split at q
  · split at q
    · rename_i xs _ ks hk
      split at q
      · rename_i hf
        rw [keysOf_ok hk] at ha
        obtain ⟨ds, hp, so, rfl⟩ := sortL_ok q
        have ed := pys_map hp
        intro W gh σ F0 G0 H0 E Q qq
        refine EW.of (pe_callB (cr_sortedS xc.calm (by have := xc.ls; omega)) h.hg h.hm (by decide +kernel) (pa_cons pe_w pa_nil he2) (by decide) (by decide) he2) (ev_set xc h2 ha hf he W gh σ F0 G0 H0 E _ fun v F1 G1 H1 E1 x1 ⟨l, L, ev, hl, hF, m⟩ => ?_)
        have md : ∀ d, d ∈ L.map dK ↔ d ∈ ds := fun d => by
          rw [ed, List.map_map]
          constructor
          · intro hd
            obtain ⟨p, hp', rfl⟩ := List.mem_map.mp hd
            exact List.mem_map.mpr ⟨p.2, (mem_dedupK ks _).mpr ((m _).mp (List.mem_map_of_mem hp')), pyD_vK _⟩
          · intro hd
            obtain ⟨k0, hk0, rfl⟩ := List.mem_map.mp hd
            obtain ⟨p, hp', e⟩ := List.mem_map.mp ((m k0).mpr ((mem_dedupK ks _).mp hk0))
            refine List.mem_map.mpr ⟨p, hp', ?_⟩
            show PyData.tuple (p.2.map .int) = pyD (vK k0)
            rw [pyD_vK, ← e]
        refine ⟨l, L, by rw [ev], hl, fun p hp' => .inl (.inl (E1.gH _ _ (E1.fg _ _ (hF p hp')))), ⟨fun d hd d' hd' => so.1 d ((md d).mp hd) d' ((md d').mp hd'), ?_, fun d hd => so.2.2 d ((md d).mp hd)⟩, fun L' p pm nd hn => ?_⟩
        · rcases so.2.1 with z | z
          · exact .inl fun d hd => z d ((md d).mp hd)
          · exact .inr fun d hd => z d ((md d).mp hd)
        · refine qq p [p] F1 G1 _ (E1.new hn) (x1.new hn) (one_new (x1.s.free hn) (E1.gH.free hn)) (own_list ⟨upd_same, ?_⟩)
          have ek : (L'.mergeSort (PySem.W.dataLe false dK)).map (·.2) = sortK (dedupK ks) := by
            rw [List.map_mergeSort (r := PySem.W.dataLe false dK) (s := PySem.W.dataLe false fun k => PyData.tuple (k.map .int)) (f := fun p : Addr × List Int => p.2) fun _ _ _ _ => rfl]
            exact sortK_perm ((pm.map (·.2)).trans (keys_len nd m))
          rw [sortVs_vK, ← ek]
          have al : ∀ p ∈ L'.mergeSort (PySem.W.dataLe false dK), F1 p.1 = some (.tup (p.2.map V.int)) := fun p hp' => hF p (pm.mem_iff.mp ((List.mergeSort_perm _ _).mem_iff.mp hp'))
          revert al
          generalize L'.mergeSort (PySem.W.dataLe false dK) = Ls
          intro al
          induction Ls with
          | nil => exact .nil
          | cons p Ls ih => exact .cons (.tup (al p List.mem_cons_self) (DtAll.ofInts _)) (ih fun r hr => al r (List.mem_cons_of_mem _ hr))
      · cases q
    · cases q
  · cases q
end
end L3
/-! V, part h: displays of dicts, stores to dicts. -/
namespace L3
open PySem PySem.Spec PyProof.Rows L2
def dispM : List (Val × Val) → List (Val × Val) → Rs (List (Val × Val))
  | [], acc => .ok acc
  | (k, v) :: r, acc => dputM acc k v >>= fun a => dispM r a
def putV2 (d k v : Val) : Rs Val := match d with
  | .dict kvs => dputM kvs k v >>= fun l => .ok (.dict l)
  | _ => .stuck
section
variable {T : Tx} {X : Cx} {N : List Str} {nm : List (Str × NameKind)} {k j : Nat} {W : Wd} {D : Ends} {gh : Gh} {Γ Γ' : List Sl} {ss : List Stmt} {a b c e f o tg it : Expr} {es vs : List Expr} {ks : List (Option Expr)} {pos p apos np rp cp cpos tp : Pos} {u v z : Val} {x : Str}
variable {α β υ τ : Type} {P : α → Prop} {Z : Xv → Prop}
/-- {} -/
theorem eod_new (hT : T.w = X.w := by rfl) : EoM X Γ (.Dict [] [] pos) (fun r => cV T r) (.ok (.dict [])) := fun r q => by
  cases q
  intro W gh σ F G H E Q q
  refine ⟨fun pins s I => wpAny_Dict_empty ⟨.ref s.heap.objs.size, _, I.laid (a := s.heap.objs.size) (o := .ext (RawD X.w s.heap.objs.size [] 0)) (t' := s.toks) (fun _ _ q => Heap.get?_push_of_some _ q) (Nat.le_refl _) (raw_empty s.heap I.big), rfl, ?_⟩⟩
  have hn := I.hok.fresh (Nat.le_refl s.heap.objs.size)
  exact q _ [_] F G _ (E.new hn) ((Gr.refl _ _ _).new hn) (one_new hn (E.gH.free hn)) (own_dict (es := []) (by rw [hT]; exact upd_same) .nil .nil)
structure PPW (X : Cx) (pos : Pos) (ks : List (Option Expr)) (vs : List Expr) (σ : L2.St) (H : Hp) (Q : List (V × V) → Hp → Prop) : Prop where
  go : ∀ (pins : List (Addr × Obj)) (s : Shared), Inv X pins σ H s → wpAny (model X.prog X.w) X.A (evalPairs (pairTrees ks vs X.env pos)) (fun ws s' => ∃ ps H', Inv X pins σ H' s' ∧ VV ps ws ∧ Q ps H') X.xe s
def EvPs (T : Tx) (X : Cx) (Γ : List Sl) (pos : Pos) (ks : List (Option Expr)) (vs : List Expr) (ps : List (Val × Val)) : Prop := ∀ (W : Wd) (gh : Gh) (σ : L2.St) (F G H : Hp), En W gh Γ σ F G H → ∀ Q : List (V × V) → Hp → Prop,
  (∀ qs F' G' H', En W gh Γ σ F' G' H' → Gr F G H F' G' H' → Paired (fun (q : V × V) (p : Val × Val) => Dt T F' q.1 p.1 ∧ Dt T F' q.2 p.2) qs ps → Q qs H') → PPW X pos ks vs σ H Q
theorem eps_nil : EvPs T X Γ pos [] [] [] := fun W gh σ F G H E Q q => ⟨fun pins s I => pairTrees_nil_walk ⟨[], H, I, .nil, q [] F G H E (Gr.refl _ _ _) .nil⟩⟩
theorem eps_cons {ps : List (Val × Val)} (ha : Ev X Γ a (rD T u)) (hb : Ev X Γ b (rD T v)) (t : EvPs T X Γ pos ks vs ps) : EvPs T X Γ pos (some a :: ks) (b :: vs) ((u, v) :: ps) := fun W gh σ F G H E Q q =>
  ⟨fun pins s I => pairTrees_cons_walk (thn ((ha W gh σ F G H E (fun x H1 => EW X b σ H1 fun y H2 => PPW X pos ks vs σ H2 fun qs H3 => Q ((x, y) :: qs) H3) fun x F1 G1 H1 E1 x1 p1 => hb W gh σ F1 G1 H1 E1 _ fun y F2 G2 H2 E2 x2 p2 => t W gh σ F2 G2 H2 E2 _ fun qs F3 G3 H3 E3 x3 p3 =>
      q ((x, y) :: qs) F3 G3 H3 E3 (x1.trans (x2.trans x3)) (.cons ⟨dt_same (x2.f.trans x3.f) _ _ p1, dt_same x3.f _ _ p2⟩ p3)).go pins s I) fun w s1 ⟨x, H1, I1, rx, q1⟩ =>
    thn (q1.go pins s1 I1) fun w2 s2 ⟨y, H2, I2, ry, q2⟩ => thn (q2.go pins s2 I2) fun ws s3 ⟨qs, H3, I3, rel, q3⟩ => ⟨(x, y) :: qs, H3, I3, .cons ⟨rx, ry⟩ rel, q3⟩)⟩
/-- the pairs are stored one after another -/
theorem store_all {D : Addr} (hu : X.A.units + 65 < cLine) {F : Hp} {pins : List (Addr × Obj)} {σ : L2.St} : ∀ {ps : List (Val × Val)} {qs : List (V × V)} {ws : List (Value × Value)} {acc kvs : List (Val × Val)} {es : List Ent} {ep : Nat} {H : Hp} {s : Shared} {Q : PUnit → Shared → Prop} {E : Value → Shared → Prop},
    Paired (fun (q : V × V) (p : Val × Val) => Dt T F q.1 p.1 ∧ Dt T F q.2 p.2) qs ps → VV qs ws → dispM ps acc = .ok kvs → Inv X pins σ H s → Same F H → F D = none → H D = some (.ext (RawD X.w D es ep)) → (es.map (·.1)).Nodup → DtEnt T F es acc →
    (∀ es' ep' s', Inv X pins σ (upd H D (.ext (RawD X.w D es' ep'))) s' → (es'.map (·.1)).Nodup → DtEnt T F es' kvs → Q () s') → wpAny (model X.prog X.w) X.A (storeAll D ws) Q E s
  | [], _, _, acc, kvs, es, ep, H, s, Q, E, .nil, .nil, h, I, f, fd, hD, nd, de, q => by
    cases h
    unfold storeAll
    have e : upd H D (.ext (RawD X.w D es ep)) = H := by
      funext b
      by_cases hb : b = D
      · rw [hb, upd_same, hD]
      · rw [upd_ne hb]
    exact wpAny_pure (q es ep s (by rw [e]; exact I) nd de)
  | (k0, v0) :: ps, _, _, acc, kvs, es, ep, H, s, Q, E, .cons ⟨pk, pv⟩ pp, .cons (b := wv) ⟨rk, rv⟩ vv, h, I, f, fd, hD, nd, de, q => by
    obtain ⟨a0, h1, h2⟩ := Rs.of_bind h
    obtain ⟨n, en, ln, lacc, rfl⟩ := dputM_ok h1
    unfold storeAll
    rw [List.forIn_cons]
    refine wpAny_bind (wpAny_bind (store_G hu I hD (kat_of (X := X) (dt_same f _ _ pk) en ln) (fun h okh => (raw_dic (T := T) (w := X.w) (P := X.prog) okh hD nd (dtEnt_same f _ _ de)).1) (by rw [ent_len de]; exact lacc) rk rv fun ep' s' I' => ?_))
    refine wpAny_pure ?_
    have f' : Same F (upd H D (.ext (RawD X.w D (storeG es n wv.1 wv.2) ep'))) := fun b o e => by
      have : b ≠ D := fun z => by rw [z, fd] at e; cases e
      rw [upd_ne this]
      exact f b o e
    refine store_all hu (es := storeG es n wv.1 wv.2) (ep := ep') pp vv h2 I' f' fd upd_same (nodup_store nd) (ent_put en ln rk pk rv pv de) fun es2 ep2 s2 I2 n2 d2 => ?_
    have e : upd (upd H D (.ext (RawD X.w D (storeG es n wv.1 wv.2) ep'))) D (.ext (RawD X.w D es2 ep2)) = upd H D (.ext (RawD X.w D es2 ep2)) := by
      funext b
      by_cases hb : b = D
      · rw [hb, upd_same, upd_same]
      · rw [upd_ne hb, upd_ne hb, upd_ne hb]
    rw [e] at I2
    exact q es2 ep2 s2 I2 n2 d2
/-- {k: v, ..} -/
theorem eod_disp {ps : List (Val × Val)} (xc : XC X N nm k) (h : EvPs T X Γ pos ks vs ps) (hT : T.w = X.w := by rfl) (hall : ks.all (·.isSome) = true := by rfl) (hl : ks.length = vs.length := by rfl) (h0 : ks ≠ [] := by simp) (h15 : ks.length ≤ 15 := by exact Nat.le_of_ble_eq_true rfl) :
    EoM X Γ (.Dict ks vs pos) (fun r => cV T r) (dispM ps [] >>= fun l => .ok (.dict l)) := fun r q => by
  obtain ⟨kvs, hq, h2⟩ := Rs.of_bind q
  cases h2
  intro W gh σ F G H E Q qq
  refine ⟨fun pins s I => ?_⟩
  have hn := I.hok.fresh (Nat.le_refl s.heap.objs.size)
  have I1 := I.laid (a := s.heap.objs.size) (o := .ext (RawD X.w s.heap.objs.size [] 0)) (h' := s.heap.push { cls := .type "dict", data := .dict #[] }) (t' := s.toks) (fun _ _ q => Heap.get?_push_of_some _ q) (Nat.le_refl _) (raw_empty s.heap I.big)
  generalize hDs : s.heap.objs.size = D at *
  have E1 := E.new (o := .ext (RawD X.w D [] 0)) hn
  have hr := h W gh σ F G _ E1 (fun qs H3 => ∃ F' G', En W gh Γ σ F' G' H3 ∧ Gr F G (upd H D (.ext (RawD X.w D [] 0))) F' G' H3 ∧ Paired (fun (q : V × V) (p : Val × Val) => Dt T F' q.1 p.1 ∧ Dt T F' q.2 p.2) qs ps) fun qs F' G' H' E' x' pp => ⟨F', G', E', x', pp⟩
  have big := wpAny_Dict_any (prog := X.prog) (w := X.w) (A := X.A) (s := s) (env := X.env) (pos := pos) (Q := fun u s' => ∃ x H', Inv X pins σ H' s' ∧ RelV x u ∧ Q x H') (E := X.xe) hall hl h0 h15
  rw [hDs] at big
  refine big (thn (hr.go pins _ I1) fun ws s2 ⟨qs, H2, I2, rel, F', G', E', x', pp⟩ => ?_)
  have gD : G' D = none := x'.n D _ upd_same (fun _ z => nomatch z) (E.gH.free hn)
  have hD2 : H2 D = some (.ext (RawD X.w D [] 0)) := x'.s _ _ upd_same
  refine store_all xc.ls (T := T) (F := F') pp rel hq I2 (E'.fg.trans E'.gH) (E'.fg.free gD) hD2 .nil .nil fun es' ep' s3 I3 nd de => ⟨.ref D, _, I3, rfl, ?_⟩
  have x0 : Gr F G H F' G' H2 := ⟨x'.f, x'.g, fun b o e => x'.s b o (by rw [upd_ne (fun z => by rw [z, hn] at e; cases e)]; exact e), fun b o e => x'.n b o (by rw [upd_ne (fun z => by rw [z, hn] at e; cases e)]; exact e)⟩
  have no : ∀ (i : Nat) (C : Cp) (m : Addr) (fo : List Addr), Γ[i]? = some (.ow C) → σ[i]? = some (some (V.ref m)) → C.C m fo H2 F' G' → D ∉ fo := fun i C m fo e1 e2 q hm => by
    exact E.notOwn x0.s hn i C m fo e1 e2 q hm
  refine qq D [D] F' G' _ (E'.other gD no) ⟨x0.f, x0.g, fun b o e => by rw [upd_ne (fun z => by rw [z, hn] at e; cases e)]; exact x0.s b o e, x0.n⟩ (one_new hn gD) (own_dict (by rw [hT]; exact upd_same) nd de)
/-! d[k] = v -/
def sPutG (X : Cx) (to ti tv : TE) : TS := fun D σ H => tv σ H fun v H1 => to σ H1 fun x H2 => ti σ H2 fun y H3 => ∃ a es ep n, x = .ref a ∧ H3 a = some (.ext (RawD X.w a es ep)) ∧ KAt X H3 y n ∧ (∀ h, HOk X.prog X.w H3 h → DicG X.w h a es) ∧ es.length < sizeLine ∧
  ∀ ku kr ep', RelV y ku → RelV v kr → D.nx σ (upd H3 a (.ext (RawD X.w a (storeG es n ku kr) ep')))
theorem ps_putG {o i e : Expr} {to ti tv : TE} (hu : X.A.units + 65 < cLine) (ho : PE X o to) (hi : PE X i ti) (hv : PE X e tv) (hs : swapsWith e (some (.Subscript o i tp)) pos.line X.env = pure false := by rfl) : PS X (.Assign [.Subscript o i tp] e pos) (sPutG X to ti tv) := by
  refine ⟨fun pins s σ H D I h => wpAny_Assign_Subscript (thn (hv.run pins s σ H _ I h) fun r s1 ⟨v, H1, I1, rv, q1⟩ => thn (ho.run pins s1 σ H1 _ I1 q1) fun u s2 ⟨x, H2, I2, rx, q2⟩ => thn (hi.run pins s2 σ H2 _ I2 q2) fun iv s3 ⟨y, H3, I3, ry, a, es, ep, n, ex, hD, ka, dic, hz, q3⟩ => ?_) hs⟩
  subst ex
  obtain rfl : u = Value.ref a := rx
  refine setItemG (by have : X.A.in1.units ≤ X.A.units + 1 := Nat.le_refl _; omega) (ka _ _ I3.hok ry) (dic _ I3.hok) (by omega) fun h' got same => ?_
  obtain ⟨ob, xs, ep', at_, c1, c2, c3, _, _⟩ := got
  have room := storeG_length es n iv r
  exact ⟨σ, _, d_write I3 (by rw [hD]; exact True.intro) same ⟨ob, at_⟩ (raw_obj (dat_sys I3 hD).1 (by omega) at_ c1 c2 c3), q3 iv r ep' ry rv⟩
theorem blm_put {me mke : Rs Val} {d : Val} {ke : Expr} {mk : Val → Rs α} (xb : XB X N nm k) (i : Nat) (h : EvM X Γ e (fun v => rD T v) me) (hk : EvM X Γ ke (fun v => rD T v) mke) (t : ∀ d', BlM X W D gh (Γ.set i (.ow (cV T d'))) ss (mk d') P Z) (hi : Γ[i]? = some (.ow (cV T d)) := by rfl) (hT : T.w = X.w := by rfl)
    (hN : N[i]? = some x := by rfl) (hv : visB nm x = true := by decide +kernel) (hd : (x == ("__debug__" : Str)) = false := by decide +kernel) (hcd : (x == ("__classdict__" : Str)) = false := by decide +kernel)
    (hs : swapsWith e (some (.Subscript (.Name x np) ke tp)) pos.line X.env = pure false := by rfl) :
    BlM X W D gh Γ (.Assign [.Subscript (.Name x np) ke tp] e pos :: ss) ((me >>= fun v => mke >>= fun k => putV2 d k v).ne >>= mk) P Z := fun q => by
  obtain ⟨r, hr, q⟩ := Rs.ho_ne (Rs.ho_bind q)
  obtain ⟨v, hv', hr⟩ := Rs.of_bind hr
  obtain ⟨k0, hk', hr⟩ := Rs.of_bind hr
  unfold putV2 at hr
  split at hr
  · rename_i kvs
    obtain ⟨l, h1, h2⟩ := Rs.of_bind hr
    cases h2
    obtain ⟨n, en, ln, lacc, rfl⟩ := dputM_ok h1
    refine blk_ps (ps_putG xb.toXC.ls (pe_var (xb.at_ hN) (xb.vis hv) hd hcd) pe_w pe_w hs) fun σ F G H E => ?_
    refine h v hv' W gh σ F G H E _ fun v1 F1 G1 H1 E1 x1 p1 => ?_
    obtain ⟨fp, ow, _⟩ := E1.ow
    obtain ⟨l, e1, gn, ef, _, l2, es, ep, el, eo, nd, de⟩ := ow i _ hi
    cases el
    refine ⟨_, e1, hk k0 hk' W gh σ F1 G1 H1 E1 _ fun y F2 G2 H2 E2 x2 p2 => ?_⟩
    have hD2 := x2.s _ _ eo
    rw [hT] at hD2
    have de2 := dtEnt_same x2.f _ _ de
    refine ⟨l, es, ep, n, rfl, hD2, kat_of (X := X) (dt_same (E2.fg.trans E2.gH) _ _ p2) en ln, fun h okh => (raw_dic (T := T) (w := X.w) (P := X.prog) okh hD2 nd (dtEnt_same (E2.fg.trans E2.gH) _ _ de2)).1, by rw [ent_len de]; exact lacc, fun ku kr ep' rk rv => ?_⟩
    exact t _ q σ F2 G2 _ (E2.mut hi fun l' fo e2 q gq => by
      rw [e1] at e2
      cases e2
      obtain ⟨ef', _⟩ := q
      subst ef'
      exact ⟨List.mem_cons_self, own_dict (by rw [hT]; exact upd_same) (nodup_store nd) (ent_put en ln rk p2 rv (dt_same x2.f _ _ p1) de2)⟩)
  · cases hr
end
end L3
/-! V, part i: more built-ins: reversed slices, greatest and least of a list, list methods. -/
namespace L3
open PySem PySem.Spec PyProof.Rows L2
def revV : Val → Rs Val
  | .list xs => .ok (.list xs.reverse)
  | _ => .stuck
def maxL : List Int → Option Int
  | [] => none
  | i :: is => some (is.foldl max i)
def minL : List Int → Option Int
  | [] => none
  | i :: is => some (is.foldl min i)
theorem foldl_max : ∀ (is : List Int) (i : Int), i ≤ is.foldl max i ∧ (∀ j ∈ is, j ≤ is.foldl max i) ∧ (is.foldl max i = i ∨ is.foldl max i ∈ is)
  | [], i => ⟨Int.le_refl i, (fun j h => by cases h), Or.inl rfl⟩
  | j :: is, i => by
    obtain ⟨h1, h2, h3⟩ := foldl_max is (max i j)
    rw [List.foldl_cons]
    refine ⟨by omega, fun l hl => ?_, ?_⟩
    · rcases List.mem_cons.mp hl with rfl | hl
      · omega
      · exact h2 l hl
    · rcases h3 with h3 | h3
      · by_cases z : i ≤ j
        · exact .inr (by rw [h3, Int.max_eq_right z]; exact List.mem_cons_self)
        · exact .inl (by rw [h3, Int.max_eq_left (by omega)])
      · exact .inr (List.mem_cons_of_mem _ h3)
theorem foldl_min : ∀ (is : List Int) (i : Int), is.foldl min i ≤ i ∧ (∀ j ∈ is, is.foldl min i ≤ j) ∧ (is.foldl min i = i ∨ is.foldl min i ∈ is)
  | [], i => ⟨Int.le_refl i, (fun j h => by cases h), Or.inl rfl⟩
  | j :: is, i => by
    obtain ⟨h1, h2, h3⟩ := foldl_min is (min i j)
    rw [List.foldl_cons]
    refine ⟨by omega, fun l hl => ?_, ?_⟩
    · rcases List.mem_cons.mp hl with rfl | hl
      · omega
      · exact h2 l hl
    · rcases h3 with h3 | h3
      · by_cases z : i ≤ j
        · exact .inl (by rw [h3, Int.min_eq_left z])
        · exact .inr (by rw [h3, Int.min_eq_right (by omega)]; exact List.mem_cons_self)
      · exact .inr (List.mem_cons_of_mem _ h3)
def maxLV : Val → Rs Val
  | .list xs => asInts xs >>= fun is => match maxL is with
    | some m => .ok (.int m)
    | none => .stuck
  | _ => .stuck
def minLV : Val → Rs Val
  | .list xs => asInts xs >>= fun is => match minL is with
    | some m => .ok (.int m)
    | none => .stuck
  | _ => .stuck
def tyOf : Val → Option String
  | .none => none
  | .bool _ => some "bool"
  | .int _ => some "int"
  | .str _ => some "str"
  | .list _ => some "list"
  | .tuple _ => some "tuple"
  | _ => none
def isiV (t : String) (v : Val) : Rs Bool := match tyOf v with
  | some s => match kitB s t with
    | some b => .ok b
    | none => .stuck
  | none => .stuck
def extV (d v : Val) : Rs Val := match d, v with
  | .list xs, .list ys => if xs.length + ys.length ≤ BIG then .ok (.list (xs ++ ys)) else .stuck
  | _, _ => .stuck
section
variable {T : Tx} {X : Cx} {N : List Str} {nm : List (Str × NameKind)} {k j : Nat} {W : Wd} {D : Ends} {gh : Gh} {Γ Γ' : List Sl} {ss : List Stmt} {a b c e f o tg it : Expr} {es vs : List Expr} {pos p p1 p2 p3 apos np rp cp cpos tp : Pos} {u v z : Val} {x : Str}
variable {α β υ τ : Type} {P : α → Prop} {Z : Xv → Prop}
theorem eod_rev {kk : Nat} (ha : Ev X Γ a (hV T u)) : EoM X Γ (.Subscript a (.Slice none none (some (.UnaryOp .USub (.Constant (.int 1) kk p1) p2)) p3) pos) (fun r => cV T r) (revV u) := fun r q => by
  unfold revV at q
  split at q
  · cases q
    exact fun W gh σ F G H E Q q => EW.of (pe_revL pe_w) (ha W gh σ F G H E _ fun v F1 G1 H1 E1 x1 ⟨l, vs, ev, hl, pv⟩ => ⟨l, vs, ev, sql_lst hl, fun n hn => q n [n] F1 G1 _ (E1.new hn) (x1.new hn) (one_new (x1.s.free hn) (E1.gH.free hn)) (own_list ⟨upd_same, pv.reverse⟩)⟩)
  · cases q
theorem evd_maxL (xc : XC X N nm k) (h : Bl X "max") (ha : Ev X Γ a (hV T u)) (he : starEach [a] X.env = (false, eval a X.env) :: starEach [] X.env := by rfl) : EvM X Γ (.Call (.Name "max" p) [a] [] pos) (fun r => rD T r) (maxLV u) := fun r q => by
  unfold maxLV at q
  split at q
  · obtain ⟨is, h1, q⟩ := Rs.of_bind q
    rw [asInts_ok h1] at ha
    split at q
    · rename_i m hm
      cases q
      cases is with
      | nil => cases hm
      | cons i is =>
        cases hm
        obtain ⟨z1, z2, z3⟩ := foldl_max is i
        exact ev_cb1 (cr_max xc.calm) h (by decide +kernel) ha (fun v F G H f g ⟨l, vs, ev, hl, pv⟩ => ⟨_, .int _, fun Q q => ⟨l, i :: is, by rw [ev], sql_lst (by rw [hl, pv.ints]), by simp, fun m hm hy => by
          have e : m = is.foldl max i := by
            have a1 : is.foldl max i ≤ m := by
              rcases z3 with z3 | z3
              · rw [z3]; exact hy i List.mem_cons_self
              · exact hy _ (List.mem_cons_of_mem _ z3)
            have a2 : m ≤ is.foldl max i := by
              rcases List.mem_cons.mp hm with rfl | hm
              · exact z1
              · exact z2 m hm
            omega
          rw [e]
          exact q⟩⟩) (he := he)
    · cases q
  · cases q
theorem evd_minL (xc : XC X N nm k) (h : Bl X "min") (ha : Ev X Γ a (hV T u)) (he : starEach [a] X.env = (false, eval a X.env) :: starEach [] X.env := by rfl) : EvM X Γ (.Call (.Name "min" p) [a] [] pos) (fun r => rD T r) (minLV u) := fun r q => by
  unfold minLV at q
  split at q
  · obtain ⟨is, h1, q⟩ := Rs.of_bind q
    rw [asInts_ok h1] at ha
    split at q
    · rename_i m hm
      cases q
      cases is with
      | nil => cases hm
      | cons i is =>
        cases hm
        obtain ⟨z1, z2, z3⟩ := foldl_min is i
        exact ev_cb1 (cr_min xc.calm) h (by decide +kernel) ha (fun v F G H f g ⟨l, vs, ev, hl, pv⟩ => ⟨_, .int _, fun Q q => ⟨l, i :: is, by rw [ev], sql_lst (by rw [hl, pv.ints]), by simp, fun m hm hy => by
          have e : m = is.foldl min i := by
            have a1 : m ≤ is.foldl min i := by
              rcases z3 with z3 | z3
              · rw [z3]; exact hy i List.mem_cons_self
              · exact hy _ (List.mem_cons_of_mem _ z3)
            have a2 : is.foldl min i ≤ m := by
              rcases List.mem_cons.mp hm with rfl | hm
              · exact z1
              · exact z2 m hm
            omega
          rw [e]
          exact q⟩⟩) (he := he)
    · cases q
  · cases q
/-! x.extend(e) -/
theorem blm_ext {me : Rs Val} {d : Val} {mk : Val → Rs α} (xb : XB X N nm k) (i : Nat) (h : EvM X Γ e (fun v => rD T v) me) (t : ∀ ds', BlM X W D gh (Γ.set i (.ow (cV T ds'))) ss (mk ds') P Z) (hi : Γ[i]? = some (.ow (cV T d)) := by rfl)
    (hN : N[i]? = some x := by rfl) (hv : visB nm x = true := by decide +kernel) (hd : (x == ("__debug__" : Str)) = false := by decide +kernel) (hcd : (x == ("__classdict__" : Str)) = false := by decide +kernel)
    (hbase : attributeBase (.Name x np) ("extend" : Str) X.env (eval (.Name x np) X.env) = eval (.Name x np) X.env := by rfl)
    (hfew : ((backTo cp (starEach [e] X.env)).all (fun x => !x.1) && (backToKw cp (keywordEach [] X.env)).all (fun x => x.1.isSome)
      && decide ([e].length + ([] : List Keyword).length + (if ([] : List Keyword).isEmpty then 0 else 1) < 30)) = true := by rfl)
    (hline : (apos.endLine == cp.line) = true := by rfl) (he : starEach [e] X.env = (false, eval e X.env) :: starEach [] X.env := by rfl)
    (hsw : swapsWith (.Call (.Attribute (.Name x np) "extend" apos) [e] [] cp) none pos.line X.env = pure false := by rfl) :
    BlM X W D gh Γ (.Expr (.Call (.Attribute (.Name x np) "extend" apos) [e] [] cp) pos :: ss) ((me >>= fun v => extV d v).ne >>= mk) P Z := fun q => by
  obtain ⟨r, hr, q⟩ := Rs.ho_ne (Rs.ho_bind q)
  obtain ⟨v, hv', hr⟩ := Rs.of_bind hr
  unfold extV at hr
  split at hr
  · rename_i xs ys
    split at hr
    · rename_i hz
      cases hr
      refine blk_ps (ps_expr (pe_bm PySem.F.plainAttrs_list PySem.F.slot_list_extend PySem.F.type_list_extend mt_extend (pe_var (xb.at_ hN) (xb.vis hv) hd hcd) (pa_cons pe_w pa_nil he) hbase hfew hline he) hsw) fun σ F G H E => ?_
      obtain ⟨fp, ow, _⟩ := E.ow
      obtain ⟨l, e1, gn, ef, _, l2, vs, el, eo, pv⟩ := ow i _ hi
      cases el
      refine ⟨_, e1, .inl ⟨rfl, _, .inl (.inl eo)⟩, h _ hv' W gh σ F G H E _ fun v F' G' H' E' x0 p1 => ?_⟩
      obtain ⟨b, ws, ev, hb, pw⟩ := lst_inv p1
      refine ⟨l, b, vs, ws, rfl, by rw [ev], x0.s _ _ eo, E'.gH _ _ (E'.fg _ _ hb), by rw [pv.length, pw.length]; exact hz, ?_⟩
      exact t _ q σ F' G' _ (E'.mut hi fun l' fo e2 q gq => by
        rw [e1] at e2
        cases e2
        obtain ⟨ef', _⟩ := q
        subst ef'
        exact ⟨List.mem_cons_self, own_list ⟨upd_same, (dtAll_same x0.f _ _ pv).append pw⟩⟩)
    · cases hr
  · cases hr
/-! isinstance of values that are no instances -/
theorem evd_isi {y : Str} {t : String} (h : Bl X "isinstance") (h2 : Bl X y) (hy : bootBuiltins y = some (.type t)) (ha : Ev X Γ a (hV T u)) (hdb : (y == ("__debug__" : Str)) = false := by decide +kernel) (hn : y ≠ "__name__" := by decide) (he : starEach [a, .Name y p2] X.env = (false, eval a X.env) :: starEach [.Name y p2] X.env := by rfl) (he2 : starEach [.Name y p2] X.env = (false, eval (.Name y p2) X.env) :: starEach [] X.env := by rfl) (hpl : (backTo pos (starEach [.Name y p2] X.env)).any (·.1) = false := by rfl) :
    EvM X Γ (.Call (.Name "isinstance" p) [a, .Name y p2] [] pos) (fun r : Bool => rD T (.bool r)) (isiV t u) := fun r q => by
  unfold isiV at q
  split at q
  · rename_i s hs
    split at q
    · rename_i b hb
      have q := Rs.ok.inj q
      subst q
      intro W gh σ F0 G0 H0 E Q q
      refine EW.of (pe_callB call_isi h.hg h.hm (by decide +kernel) (pa_cons pe_w (pa_cons (pe_bltn (v := .ty t) h2.hg h2.hm hy rfl hn hdb) pa_nil he2) he) (by decide) (by decide) he hpl) (ha W gh σ F0 G0 H0 E _ fun w F G H E1 x1 p1 => ?_)
      refine ⟨w, .ty t, .type s, .type t, b, rfl, .ty t, .base ?_, kit_ty hb, q _ F G H E1 x1 (.bl b)⟩
      cases u <;> cases hs
      · cases p1; exact .bl _
      · cases p1; exact .int _
      · cases p1; exact .str _
      · obtain ⟨l, vs, ev, hl, pv⟩ := p1
        subst ev
        exact .lst hl
      · obtain ⟨l, vs, ev, hl, pv⟩ := tup_inv (h_of (T := T) (d := .tuple _) rfl p1)
        subst ev
        exact .tup (E1.gH _ _ (E1.fg _ _ hl))
    · cases q
  · cases q
end
end L3
/-! V, part z: what the head tells, defs found by any path. -/
namespace L3
open PySem PySem.Spec PyProof.Rows L2
/-- a property of a class, its getter -/
def prA (K : PySem.W.Frag) (C : Addr) (p : Str) : Addr := He.ma K C p
def prG (K : PySem.W.Frag) (C : Addr) (p : Str) : Addr := match PySem.W.recIn K (prA K C p) "property" with
  | some (.ref g :: _) => g
  | _ => 0
def eqT {α : Type} [DecidableEq α] (a b : Option α) : Bool := decide (a = b)
def prB (K : PySem.W.Frag) (C : Addr) (p : Str) : Bool := He.eqO (PySem.W.findIn K (.ref C) p) (some (some (.ref (prA K C p)))) && (He.eqO (PySem.W.specialIn K (.ref (prA K C p)) "__get__") (some (some (.builtin "property.__get__"))) && (decide (PySem.W.takesIn K (.ref (prA K C p)) = some true) &&
  match PySem.W.recIn K (prA K C p) "property" with
  | some (.ref _ :: _) => true
  | _ => false))
theorem prB_ok {K : PySem.W.Frag} {C : Addr} {p : Str} (h : prB K C p = true) : PropOf K C p (prA K C p) (prG K C p) := by
  obtain ⟨h1, h⟩ := He.ba h
  obtain ⟨h2, h⟩ := He.ba h
  obtain ⟨h3, h4⟩ := He.ba h
  refine ⟨He.eqO_ok h1, He.eqO_ok h2, of_decide_eq_true h3, ?_⟩
  have h4 : (match PySem.W.recIn K (prA K C p) "property" with
    | some (.ref _ :: _) => true
    | _ => false) = true := h4
  unfold prG
  cases e : PySem.W.recIn K (prA K C p) "property" with
  | none => rw [e] at h4; cases h4
  | some l =>
    rw [e] at h4
    cases l with
    | nil => cases h4
    | cons v r =>
      cases v with
      | ref g => exact ⟨r, rfl⟩
      | _ => cases h4
/-- a def, found by a path of one's own -/
structure DfQ where
  at_ : PySem.W.Frag → Addr
  name : Str
  qual : Str
  st : Stmt
  /-- has a cell for __class__ -/
  fr : Bool
def DfQ.val (d : DfQ) : He.FnW := some (d.name, d.qual, defArgs d.st, .stmts (defBody d.st), defScope d.st, mainGlobals, if d.fr then [(("__class__" : Str), 0)] else [], builtinsNs)
def DfQ.tells (K : PySem.W.Frag) (d : DfQ) : He.FnW := match K.lookup (d.at_ K) with
  | some ⟨_, _, .func fd, _⟩ => some (fd.name, fd.qualname, fd.params, fd.body, fd.scope, fd.globals, fd.closure.map (fun p => (p.1, 0)), fd.builtins)
  | _ => none
def DfQ.ok (K : PySem.W.Frag) (d : DfQ) : Bool := PySem.W.keepIn K (.ref (d.at_ K)) && (match K.lookup (d.at_ K) with
  | some ⟨_, _, .func fd, _⟩ => PySem.W.codeIn K fd.code d.qual && (He.dflB K fd.defaults [] && He.kwdB K fd.kwdefaults [])
  | _ => false)
theorem DfQ.fun_ {K : PySem.W.Frag} {d : DfQ} (e : d.tells K = d.val) (c : d.ok K = true) : PySem.W.keepIn K (.ref (d.at_ K)) = true ∧ ∃ (cl : List (Str × Addr)) (oc : Value) (od : Option Addr) (dV kV doc pm : Value) (an : Option Addr) (cdv ct : Value) (osl : Array (Option Value)),
    cl.map (fun p => (p.1, 0)) = (if d.fr then [(("__class__" : Str), (0 : Addr))] else []) ∧ K.lookup (d.at_ K) = some ⟨oc, od, .func (PySem.W.fnX d.name d.qual (defArgs d.st) (defBody d.st) (defScope d.st) cl dV kV doc pm an cdv ct), osl⟩ ∧ PySem.W.codeIn K cdv d.qual = true ∧ DflV K dV [] ∧ KwdV K kV [] := by
  obtain ⟨kp, c2⟩ := He.ba c
  unfold DfQ.tells at e
  cases q : K.lookup (d.at_ K) with
  | none => rw [q] at c2; cases c2
  | some o =>
    obtain ⟨oc, od, dt, osl⟩ := o
    rw [q] at c2 e
    cases dt with
    | func fd =>
      obtain ⟨m1, m2, m3, m4, m5, m6, m7, m8, m9, m10, m11, m12, m13, m14, m15⟩ := fd
      simp only [DfQ.val, Option.some.injEq, Prod.mk.injEq] at e
      obtain ⟨rfl, rfl, rfl, rfl, rfl, rfl, e7, rfl⟩ := e
      have c3 : (PySem.W.codeIn K m13 d.qual && (He.dflB K m8 [] && He.kwdB K m9 [])) = true := c2
      obtain ⟨k1, k2⟩ := He.ba c3
      obtain ⟨k3, k4⟩ := He.ba k2
      exact ⟨kp, m7, oc, od, m8, m9, m10, m11, m12, m13, m14, osl, e7, rfl, k1, He.dflB_ok k3, He.kwdB_ok k4⟩
    | _ => cases c2
theorem DfQ.funD {K : PySem.W.Frag} {d : DfQ} (e : d.tells K = d.val) (c : d.ok K = true) (hf : d.fr = false) : ∃ fd, FunD K d.name d.qual (defArgs d.st) (defBody d.st) (defScope d.st) [] [] (d.at_ K) fd := by
  obtain ⟨kp, cl, oc, od, dV, kV, doc, pm, an, cdv, ct, osl, hc, hl, k1, k2, k3⟩ := d.fun_ e c
  rw [hf] at hc
  have hc : cl.map (fun p => (p.1, (0 : Addr))) = [] := hc
  obtain rfl := List.map_eq_nil_iff.mp hc
  exact ⟨_, ⟨oc, od, dV, kV, doc, pm, an, cdv, ct, osl, rfl, hl, k1, k2, k3⟩, kp⟩
/-- an __init__ that says super() -/
def FunS (K : PySem.W.Frag) (d : DfQ) : Prop := ∃ (cc : Addr) (oc : Value) (od : Option Addr) (dV kV doc pm : Value) (an : Option Addr) (cdv ct : Value) (osl : Array (Option Value)),
    K.lookup (d.at_ K) = some ⟨oc, od, .func (PySem.W.fnX d.name d.qual (defArgs d.st) (defBody d.st) (defScope d.st) [(("__class__" : Str), cc)] dV kV doc pm an cdv ct), osl⟩ ∧ PySem.W.codeIn K cdv d.qual = true ∧ DflV K dV []
theorem DfQ.funS {K : PySem.W.Frag} {d : DfQ} (e : d.tells K = d.val) (c : d.ok K = true) (hf : d.fr = true) : FunS K d := by
  obtain ⟨kp, cl, oc, od, dV, kV, doc, pm, an, cdv, ct, osl, hc, hl, k1, k2, k3⟩ := d.fun_ e c
  rw [hf] at hc
  have hc : cl.map (fun p => (p.1, (0 : Addr))) = [(("__class__" : Str), (0 : Addr))] := hc
  cases cl with
  | nil => cases hc
  | cons p r =>
    cases r with
    | cons _ _ =>
      have z := congrArg List.length hc
      simp at z
    | nil =>
      obtain ⟨x, cc⟩ := p
      have hx : x = "__class__" := by
        have z := List.head_eq_of_cons_eq hc
        exact congrArg Prod.fst z
      subst hx
      exact ⟨cc, oc, od, dV, kV, doc, pm, an, cdv, ct, osl, hl, k1, k2⟩
abbrev AlQ : Type := Bool × List He.FnW
def obsQ (ok : PySem.W.Frag → Bool) (fn : List DfQ) (K : PySem.W.Frag) : AlQ := (ok K && fn.all fun d => d.ok K, fn.map fun d => d.tells K)
def valQ (fn : List DfQ) : AlQ := (true, fn.map DfQ.val)
def SaysQ (ok : PySem.W.Frag → Bool) (fn : List DfQ) (K : PySem.W.Frag) : Prop := obsQ ok fn K = valQ fn
def obsQG (n : Nat) (ok : PySem.W.Frag → Bool) (fn : List DfQ) (g : Addr → Option Obj) : AlQ := obsQ ok fn (He.frG g (He.asD g n ++ [cStatics]))
def hookQ (n : Nat) (ok : PySem.W.Frag → Bool) (fn : List DfQ) : PySem.W.Hook where
  α := AlQ
  obs := fun s => obsQG n ok fn s.heap.get?
  val := fun _ => valQ fn
  says := fun _ h => ∃ K : PySem.W.Frag, K.In h ∧ SaysQ ok fn K
  of := fun _ _ e => ⟨_, He.frG_in, e⟩
  keeps := fun _ _ _ ⟨K, hK, c⟩ k => ⟨K, PySem.W.Frag.In.keeps hK k, c⟩
theorem obsQG_eq {n : Nat} {ok : PySem.W.Frag → Bool} {fn : List DfQ} {g : Addr → Option Obj} {s : Shared} (h : ∀ a, g a = s.heap.get? a) : obsQG n ok fn g = (hookQ n ok fn).obs s := by
  have e : g = s.heap.get? := funext h
  rw [e] <;> rfl
theorem SaysQ.ok {ok : PySem.W.Frag → Bool} {fn : List DfQ} {K : PySem.W.Frag} (c : SaysQ ok fn K) : ok K = true :=
  (He.ba (show (ok K && fn.all fun d => d.ok K) = true from congrArg (fun z : AlQ => z.1) c)).1
theorem SaysQ.def_ {ok : PySem.W.Frag → Bool} {fn : List DfQ} {K : PySem.W.Frag} (c : SaysQ ok fn K) (i : Nat) {d : DfQ} (h : fn[i]? = some d := by rfl) (hf : d.fr = false := by rfl) : ∃ fd, FunD K d.name d.qual (defArgs d.st) (defBody d.st) (defScope d.st) [] [] (d.at_ K) fd := by
  have c2 := (He.ba (show (ok K && fn.all fun d => d.ok K) = true from congrArg (fun z : AlQ => z.1) c)).2
  have e : fn.map (fun d => d.tells K) = fn.map DfQ.val := congrArg (fun z : AlQ => z.2) c
  have e2 : (fn.map fun d => d.tells K)[i]? = (fn.map DfQ.val)[i]? := by rw [e]
  rw [List.getElem?_map, List.getElem?_map, h] at e2
  exact DfQ.funD (Option.some.inj e2) (List.all_eq_true.mp c2 d (List.mem_of_getElem? h)) hf
theorem SaysQ.init_ {ok : PySem.W.Frag → Bool} {fn : List DfQ} {K : PySem.W.Frag} (c : SaysQ ok fn K) (i : Nat) {d : DfQ} (h : fn[i]? = some d := by rfl) (hf : d.fr = true := by rfl) : FunS K d := by
  have c2 := (He.ba (show (ok K && fn.all fun d => d.ok K) = true from congrArg (fun z : AlQ => z.1) c)).2
  have e : fn.map (fun d => d.tells K) = fn.map DfQ.val := congrArg (fun z : AlQ => z.2) c
  have e2 : (fn.map fun d => d.tells K)[i]? = (fn.map DfQ.val)[i]? := by rw [e]
  rw [List.getElem?_map, List.getElem?_map, h] at e2
  exact DfQ.funS (Option.some.inj e2) (List.all_eq_true.mp c2 d (List.mem_of_getElem? h)) hf
/-- isinstance of an exception -/
def excCB (K : PySem.W.Frag) (D : Addr) : Bool := He.eqO (PySem.W.findIn K (.ref D) "__getattribute__") (some (some (.builtin "BaseException.__getattribute__"))) && (He.eqO (PySem.W.findIn K (.ref D) "__getattr__") (some none) && (decide (PySem.W.subIn K (.ref D) (.type "BaseException") = some true) &&
  (PySem.W.hasDictIn K D && (He.eqO (PySem.W.findIn K (.ref D) "__class__") (some (some (.builtin "object.__class__"))) && (He.eqO (PySem.W.specialIn K (.builtin "object.__class__") "__get__") (some (some (.builtin "getset_descriptor.__get__"))) &&
  (decide (PySem.W.takesIn K (.builtin "object.__class__") = some true) && decide (PySem.W.mroIn K D (.type "object") = some true)))))))
theorem excCB_ok {K : PySem.W.Frag} {D : Addr} (h : excCB K D = true) : ExcC K D := by
  obtain ⟨h1, h⟩ := He.ba h
  obtain ⟨h2, h⟩ := He.ba h
  obtain ⟨h3, h⟩ := He.ba h
  obtain ⟨h4, h⟩ := He.ba h
  obtain ⟨h5, h⟩ := He.ba h
  obtain ⟨h6, h⟩ := He.ba h
  obtain ⟨h7, h8⟩ := He.ba h
  exact ⟨He.eqO_ok h1, He.eqO_ok h2, of_decide_eq_true h3, h4, He.eqO_ok h5, He.eqO_ok h6, of_decide_eq_true h7, of_decide_eq_true h8⟩
/-! ### the law's def -/
def spLaw (w : World) (K : PySem.W.Frag) : Sp := fun vs H Q _ => ∃ ns : List Int, ns.length ≤ 63 ∧ spV [rS (tx w K) ns] (rD (tx w K) (.bool true)) vs H Q (fun _ _ _ => False)
theorem law_fn {P : Program} {w : World} {K : PySem.W.Frag} {mg : Str → Option Value} {base : Heap} {k : Nat} {f : Addr} {fd : FuncData} {ps : List Str} {m : List Int → Rs Val} (F0 : ∀ ns : List Int, FnOk P w K mg base (L2.CX P w) k f fd ps (spU (tx w K) [rS (tx w K) ns] (m ns))) (hm : ∀ ns, ns.length ≤ 63 → m ns = .ok (.bool true)) : FnOk P w K mg base (fun _ _ _ _ _ _ => False) k f fd ps (spLaw w K) :=
  have F : ∀ ns : List Int, ns.length ≤ 63 → FnOk P w K mg base (L2.CX P w) k f fd ps (spV [rS (tx w K) ns] (rD (tx w K) (.bool true))) := fun ns hl => (F0 ns).imp (sp_ok (hm ns hl))
  ⟨fun vs H Q E ⟨ns, hl, h⟩ => (F ns hl).len vs H Q _ h, fun A outer s H args us vs Q E hr he hb hv ⟨ns, hl, h⟩ => codeAny_mono ((F ns hl).run A outer s H args us vs Q _ hr he hb hv h) fun r s' q => by
    cases r with
    | error e =>
      obtain ⟨_, _, _, _, _, _, _, _, _, _, _, _, z⟩ := q
      exact z
    | ok fl => cases fl <;> exact q⟩
theorem law_in {w : World} {K : PySem.W.Frag} (H : Hp) (a : Addr) (ns : List Int) (hl : ns.length ≤ 63) (hS : SqL K H a (ns.map V.int)) : spLaw w K [.ref a] H (fun v _ => v = .bl true) (fun _ _ _ => False) := by
  refine ⟨ns, hl, fun b => if b = a then H b else none, fun b o e => ?_, .cons ⟨a, rfl, ?_⟩ .nil, fun v F1 H1 x p => bool_inv p⟩
  · have e : (if b = a then H b else none) = some o := e
    by_cases h : b = a
    · rw [if_pos h] at e
      exact e
    · rw [if_neg h] at e
      cases e
  · rcases hS with h | h
    · rcases h with h | ⟨o, h⟩
      · exact .inl (.inl (by show (if a = a then H a else none) = _; rw [if_pos rfl]; exact h))
      · exact .inl (.inr ⟨o, by show (if a = a then H a else none) = _; rw [if_pos rfl]; exact h⟩)
    · exact .inr h
end L3
/-! W, part a: plain laws of the operations: what simp knows. -/
namespace L3
open PySem
@[simp] theorem addV_int (i j : Int) : addV (.int i) (.int j) = .ok (.int (i + j)) := rfl
@[simp] theorem subV_int (i j : Int) : subV (.int i) (.int j) = .ok (.int (i - j)) := rfl
@[simp] theorem absV_int (i : Int) : absV (.int i) = .ok (.int i.natAbs) := rfl
@[simp] theorem negV_int (i : Int) : negV (.int i) = .ok (.int (-i)) := rfl
@[simp] theorem intV_int (i : Int) : intV (.int i) = .ok (.int i) := rfl
@[simp] theorem intV_bool (b : Bool) : intV (.bool b) = .ok (.int (if b = true then 1 else 0)) := rfl
@[simp] theorem maxV_int (i j : Int) : maxV (.int i) (.int j) = .ok (.int (max i j)) := rfl
@[simp] theorem minV_int (i j : Int) : minV (.int i) (.int j) = .ok (.int (min i j)) := rfl
@[simp] theorem cmpI_int (p : Int → Int → Bool) (i j : Int) : cmpI p (.int i) (.int j) = .ok (p i j) := rfl
theorem modV_int {i j : Int} (h : 0 < j) : modV (.int i) (.int j) = .ok (.int (i % j)) := by simp [modV, modI, h]
theorem fdivV_int {i j : Int} (h : 0 < j) (h2 : j < 1073741824) : fdivV (.int i) (.int j) = .ok (.int (i / j)) := by simp [fdivV, fdivI, h, h2]
theorem mulV_intR {i j : Int} (h : -(2 ^ 64) < j) (h2 : j < 2 ^ 64) : mulV (.int i) (.int j) = .ok (.int (i * j)) := by
  show (mulI i j >>= fun r => Rs.ok (Val.int r)) = _
  unfold mulI
  rw [if_pos (.inr ⟨h, h2⟩)]
  rfl
theorem mulV_intL {i j : Int} (h : -(2 ^ 64) < i) (h2 : i < 2 ^ 64) : mulV (.int i) (.int j) = .ok (.int (i * j)) := by
  show (mulI i j >>= fun r => Rs.ok (Val.int r)) = _
  unfold mulI
  rw [if_pos (.inl ⟨h, h2⟩)]
  rfl
theorem powV_int {i j : Int} (h : 0 ≤ j ∧ j ≤ 1000000 ∧ i.natAbs < 2 ^ 64) : powV (.int i) (.int j) = .ok (.int (i ^ j.toNat)) := by
  show (powI i j >>= fun r => Rs.ok (Val.int r)) = _
  unfold powI
  rw [if_pos h]
  rfl
@[simp] theorem lenV_list (xs : List Val) : lenV (.list xs) = .ok (.int xs.length) := rfl
@[simp] theorem lenV_tup (xs : List Val) : lenV (.tuple xs) = .ok (.int xs.length) := rfl
@[simp] theorem lenV_dict (xs : List (Val × Val)) : lenV (.dict xs) = .ok (.int xs.length) := rfl
@[simp] theorem walkV_list (xs : List Val) : walkV (.list xs) = .ok xs := rfl
@[simp] theorem walkV_tup (xs : List Val) : walkV (.tuple xs) = .ok xs := rfl
@[simp] theorem walkV_dict (xs : List (Val × Val)) : walkV (.dict xs) = .ok (dkeys xs) := rfl
@[simp] theorem listV_list (xs : List Val) : listV (.list xs) = .ok (.list xs) := rfl
@[simp] theorem listV_tup (xs : List Val) : listV (.tuple xs) = .ok (.list xs) := rfl
@[simp] theorem listV_dict (xs : List (Val × Val)) : listV (.dict xs) = .ok (.list (dkeys xs)) := rfl
@[simp] theorem tupV_list (xs : List Val) : tupV (.list xs) = .ok (.tuple xs) := rfl
@[simp] theorem asInt_int (i : Int) : asInt (.int i) = .ok i := rfl
@[simp] theorem boolV_bool (i : Bool) : boolV (.bool i) = .ok i := rfl
@[simp] theorem tstV_bool (i : Bool) : tstV (.bool i) = .ok i := rfl
@[simp] theorem slV_list (xs : List Val) (l h : Option Int) : slV (.list xs) l h = .ok (.list (cut xs l h)) := rfl
@[simp] theorem isBV_bool (a b : Bool) : isBV (.bool a) (.bool b) = .ok (decide (a = b)) := rfl
theorem appV_list {xs : List Val} {v : Val} (h : xs.length < BIG) : appV (.list xs) v = .ok (.list (xs ++ [v])) := by
  simp [appV, appL, h]
theorem rng1V_ok {n : Int} (h : n < 2 ^ 62) (h0 : 0 ≤ n) : rng1V (.int n) = .ok ((List.range n.toNat).map fun (k : Nat) => .int (k : Int)) := by
  show rngM 0 n = _
  unfold rngM rngL
  rw [if_pos (by omega)]
  congr 2
  · funext k
    simp
  · simp
@[simp] theorem up2_tup {υ υ' : Type} (u1 : Val → Rs υ) (u2 : Val → Rs υ') (a b : Val) : up2 u1 u2 (.tuple [a, b]) = (u1 a >>= fun x => u2 b >>= fun y => .ok (x, y)) := rfl
@[simp] theorem up2_list {υ υ' : Type} (u1 : Val → Rs υ) (u2 : Val → Rs υ') (a b : Val) : up2 u1 u2 (.list [a, b]) = (u1 a >>= fun x => u2 b >>= fun y => .ok (x, y)) := rfl
@[simp] theorem up3_tup {υ υ' υ'' : Type} (u1 : Val → Rs υ) (u2 : Val → Rs υ') (u3 : Val → Rs υ'') (a b c : Val) : up3 u1 u2 u3 (.tuple [a, b, c]) = (u1 a >>= fun x => u2 b >>= fun y => u3 c >>= fun z => .ok (x, y, z)) := rfl
theorem bind_of {α β : Type} {m : Rs α} {a : α} {k : α → Rs β} (h : m = .ok a) : (m >>= k) = k a := by rw [h]; rfl
/-! loops -/
theorem forL_inv {σ : Type} {f : σ → Val → Rs (Fl σ)} (xs : List Val) (st : Nat → σ) (h : ∀ i (hi : i < xs.length), f (st i) xs[i] = .ok (.go (st (i + 1)))) : forL f xs (st 0) = .ok (.go (st xs.length)) := by
  have key : ∀ (n i : Nat), i + n = xs.length → forL f (xs.drop i) (st i) = .ok (.go (st xs.length)) := by
    intro n
    induction n with
    | zero =>
      intro i hi
      have e : i = xs.length := by omega
      subst e
      rw [List.drop_length]
      rfl
    | succ n ih =>
      intro i hi
      have hlt : i < xs.length := by omega
      rw [List.drop_eq_getElem_cons hlt]
      show (f (st i) xs[i] >>= _) = _
      rw [h i hlt]
      exact ih (i + 1) (by omega)
  simpa using key xs.length 0 (by omega)
/-- over a range -/
theorem forL_rng {σ : Type} {f : σ → Val → Rs (Fl σ)} (n : Nat) (st : Nat → σ) (h : ∀ i, i < n → f (st i) (.int (i : Nat)) = .ok (.go (st (i + 1)))) : forL f ((List.range n).map fun (k : Nat) => Val.int (k : Int)) (st 0) = .ok (.go (st n)) := by
  have := forL_inv ((List.range n).map fun (k : Nat) => Val.int (k : Int)) st (f := f) (fun i hi => by
    rw [List.length_map, List.length_range] at hi
    simpa using h i hi)
  simpa using this
/-- over a list of things told -/
theorem forL_map {σ α : Type} {f : σ → Val → Rs (Fl σ)} (enc : α → Val) (xs : List α) (st : List α → σ) (h : ∀ ys x, (∃ zs, xs = ys ++ x :: zs) → f (st ys) (enc x) = .ok (.go (st (ys ++ [x])))) : forL f (xs.map enc) (st []) = .ok (.go (st xs)) := by
  have key : ∀ (zs ys : List α), xs = ys ++ zs → forL f (zs.map enc) (st ys) = .ok (.go (st xs)) := by
    intro zs
    induction zs with
    | nil => intro ys e; rw [e, List.append_nil]; rfl
    | cons x zs ih =>
      intro ys e
      show (f (st ys) (enc x) >>= _) = _
      rw [h ys x ⟨zs, e⟩]
      exact ih (ys ++ [x]) (by rw [e, List.append_assoc]; rfl)
  exact key xs [] rfl
theorem forL_rngE {σ : Type} {f : σ → Val → Rs (Fl σ)} (n : Nat) (st : Nat → σ) {s0 : σ} (h0 : st 0 = s0) (h : ∀ i, i < n → f (st i) (.int (i : Nat)) = .ok (.go (st (i + 1)))) : forL f ((List.range n).map fun (k : Nat) => Val.int (k : Int)) s0 = .ok (.go (st n)) := by
  rw [← h0]
  exact forL_rng n st h
theorem forL_mapE {σ α : Type} {f : σ → Val → Rs (Fl σ)} (enc : α → Val) (xs : List α) (st : List α → σ) {s0 : σ} (h0 : st [] = s0) (h : ∀ ys x, (∃ zs, xs = ys ++ x :: zs) → f (st ys) (enc x) = .ok (.go (st (ys ++ [x])))) : forL f (xs.map enc) s0 = .ok (.go (st xs)) := by
  rw [← h0]
  exact forL_map enc xs st h
/-- a comprehension without tests -/
theorem lcM_map {α υ : Type} {up : Val → Rs υ} {f : υ → Rs Val} (enc : α → Val) (g : α → Val) (xs : List α) (h : ∀ x ∈ xs, ∃ y, up (enc x) = .ok y ∧ f y = .ok (g x)) : lcM up (fun _ => .ok true) f (xs.map enc) = .ok (xs.map g) := by
  induction xs with
  | nil => rfl
  | cons x xs ih =>
    obtain ⟨y, h1, h2⟩ := h x List.mem_cons_self
    rw [List.map_cons]
    unfold lcM
    rw [h1]
    simp [h2, ih fun z hz => h z (List.mem_cons_of_mem _ hz)]
/-- .. with a test -/
theorem lcM_filter {α υ : Type} {up : Val → Rs υ} {c : υ → Rs Bool} {f : υ → Rs Val} (enc : α → Val) (p : α → Bool) (g : α → Val) (xs : List α) (h : ∀ x ∈ xs, ∃ y, up (enc x) = .ok y ∧ c y = .ok (p x) ∧ (p x = true → f y = .ok (g x))) : lcM up c f (xs.map enc) = .ok ((xs.filter p).map g) := by
  induction xs with
  | nil => rfl
  | cons x xs ih =>
    obtain ⟨y, h1, h2, h3⟩ := h x List.mem_cons_self
    rw [List.map_cons]
    unfold lcM
    have ih := ih fun z hz => h z (List.mem_cons_of_mem _ hz)
    cases hp : p x with
    | true => simp [h1, h2, hp, h3 hp, ih, List.filter_cons]
    | false => simp [h1, h2, hp, ih, List.filter_cons]
/-- while, n turns -/
theorem whl_n {σ : Type} {c : σ → Rs Bool} {f : σ → Rs (Fl σ)} (n : Nat) (st : Nat → σ) (h : ∀ i, i < n → c (st i) = .ok true ∧ f (st i) = .ok (.go (st (i + 1)))) (he : c (st n) = .ok false) (m : Nat) (hm : n < m) : whl c f m (st 0) = .ok (.go (st n)) := by
  have key : ∀ (k i m : Nat), i + k = n → k < m → whl c f m (st i) = .ok (.go (st n)) := by
    intro k
    induction k with
    | zero =>
      intro i m e hm
      have e : i = n := by omega
      subst e
      obtain ⟨m, rfl⟩ : ∃ m', m = m' + 1 := ⟨m - 1, by omega⟩
      unfold whl
      rw [he]
      rfl
    | succ k ih =>
      intro i m e hm
      obtain ⟨m, rfl⟩ : ∃ m', m = m' + 1 := ⟨m - 1, by omega⟩
      unfold whl
      obtain ⟨h1, h2⟩ := h i (by omega)
      rw [h1]
      show (f (st i) >>= _) = _
      rw [h2]
      exact ih (i + 1) m (by omega) (by omega)
  exact key n 0 m (by omega) hm
theorem whl_nE {σ : Type} {c : σ → Rs Bool} {f : σ → Rs (Fl σ)} (n : Nat) (st : Nat → σ) {s0 : σ} (h0 : st 0 = s0) (h : ∀ i, i < n → c (st i) = .ok true ∧ f (st i) = .ok (.go (st (i + 1)))) (he : c (st n) = .ok false) (m : Nat) (hm : n < m) : whl c f m s0 = .ok (.go (st n)) := by
  rw [← h0]
  exact whl_n n st h he m hm
end L3
/-! W, part b: codings of plain things as data, as values. -/
namespace L3
open PySem PySem.Spec PyProof.Rows L2
/-- a coding whose values are of one shape and differ where the things do; p: what can be laid -/
structure Good {α : Type} [DecidableEq α] (enc : α → PyData) (n : Nat) (p : α → Prop) : Prop where
  eq : ∀ a b, PyData.eqv (enc a) (enc b) = decide (a = b)
  lay : ∀ a, p a → (enc a).canLay0 = true
  dep : ∀ a, (enc a).depth ≤ n
  al : ∀ a b, PySem.W.alike (enc a) (enc b) = true
section
variable {α β γ : Type} [DecidableEq α] [DecidableEq β] [DecidableEq γ] {ea : α → PyData} {eb : β → PyData} {ec : γ → PyData} {n m k : Nat} {pa : α → Prop} {pb : β → Prop} {pc : γ → Prop}
theorem Good.shaped (g : Good ea n pa) (a : α) (p : pa a) (h : n ≤ 64 := by decide) : SeqAt.shaped (ea a) = true := by
  have := g.dep a
  show ((ea a).canLay0 && decide ((ea a).depth ≤ 64)) = true
  rw [g.lay a p, decide_eq_true (by omega)]
  rfl
abbrev yes {α : Type} : α → Prop := fun _ => True
theorem good_int : Good PyData.int 0 yes := ⟨fun a b => by by_cases h : a = b <;> simp [PyData.eqv, h], fun a _ => by simp [PyData.canLay0], fun a => by simp [PyData.depth], fun a b => by simp [PySem.W.alike]⟩
theorem good_str : Good PyData.str 0 (fun x => PyData.strOk x = true) := ⟨fun a b => by by_cases h : a = b <;> simp [PyData.eqv, h], fun a h => by simp [PyData.canLay0, h], fun a => by simp [PyData.depth], fun a b => by simp [PySem.W.alike]⟩
theorem good_bool : Good PyData.bool 0 yes := ⟨fun a b => by cases a <;> cases b <;> simp [PyData.eqv], fun a _ => by simp [PyData.canLay0], fun a => by simp [PyData.depth], fun a b => by simp [PySem.W.alike]⟩
theorem Good.imp {pa' : α → Prop} (g : Good ea n pa) (h : ∀ a, pa' a → pa a) : Good ea n pa' := ⟨g.eq, fun a p => g.lay a (h a p), g.dep, g.al⟩
theorem Good.pair (ga : Good ea n pa) (gb : Good eb m pb) : Good (fun p : α × β => .tuple [ea p.1, eb p.2]) (max n m + 1) (fun p => pa p.1 ∧ pb p.2) := by
  refine ⟨fun a b => ?_, fun a p => ?_, fun a => ?_, fun a b => ?_⟩
  · obtain ⟨a1, a2⟩ := a
    obtain ⟨b1, b2⟩ := b
    simp only [PyData.eqv, PyData.eqvAll, ga.eq, gb.eq, Bool.and_true, Prod.mk.injEq, Bool.decide_and]
  · simp [PyData.canLay0, PyData.canLayAll0, ga.lay _ p.1, gb.lay _ p.2]
  · have h1 := ga.dep a.1
    have h2 := gb.dep a.2
    simp only [PyData.depth, PyData.depthAll]
    omega
  · simp [PySem.W.alike, PySem.W.alikeAll, ga.al, gb.al]
theorem Good.triple (ga : Good ea n pa) (gb : Good eb m pb) (gc : Good ec k pc) : Good (fun p : α × β × γ => .tuple [ea p.1, eb p.2.1, ec p.2.2]) (max n (max m k) + 1) (fun p => pa p.1 ∧ pb p.2.1 ∧ pc p.2.2) := by
  refine ⟨fun a b => ?_, fun a p => ?_, fun a => ?_, fun a b => ?_⟩
  · obtain ⟨a1, a2, a3⟩ := a
    obtain ⟨b1, b2, b3⟩ := b
    simp only [PyData.eqv, PyData.eqvAll, ga.eq, gb.eq, gc.eq, Bool.and_true, Prod.mk.injEq, Bool.decide_and]
  · simp [PyData.canLay0, PyData.canLayAll0, ga.lay _ p.1, gb.lay _ p.2.1, gc.lay _ p.2.2]
  · have h1 := ga.dep a.1
    have h2 := gb.dep a.2.1
    have h3 := gc.dep a.2.2
    simp only [PyData.depth, PyData.depthAll]
    omega
  · simp [PySem.W.alike, PySem.W.alikeAll, ga.al, gb.al, gc.al]
theorem Good.eqAll (g : Good ea n pa) : ∀ xs ys : List α, PyData.eqvAll (xs.map ea) (ys.map ea) = decide (xs = ys)
  | [], [] => by simp [PyData.eqvAll]
  | [], _ :: _ => by simp [PyData.eqvAll]
  | _ :: _, [] => by simp [PyData.eqvAll]
  | x :: xs, y :: ys => by
    simp only [List.map_cons, PyData.eqvAll, g.eq, g.eqAll xs ys, List.cons.injEq, Bool.decide_and]
theorem Good.layAll (g : Good ea n pa) : ∀ xs : List α, (∀ x ∈ xs, pa x) → PyData.canLayAll0 (xs.map ea) = true
  | [], _ => rfl
  | x :: xs, h => by simp [PyData.canLayAll0, g.lay x (h x List.mem_cons_self), g.layAll xs fun y hy => h y (List.mem_cons_of_mem _ hy)]
theorem Good.depAll (g : Good ea n pa) : ∀ xs : List α, PyData.depthAll (xs.map ea) ≤ n
  | [] => by simp [PyData.depthAll]
  | x :: xs => by
    have h1 := g.dep x
    have h2 := g.depAll xs
    simp only [List.map_cons, PyData.depthAll]
    omega
theorem Good.alAll (g : Good ea n pa) : ∀ xs ys : List α, PySem.W.alikeAll (xs.map ea) (ys.map ea) = true
  | [], _ => by simp [PySem.W.alikeAll]
  | _ :: _, [] => by simp [PySem.W.alikeAll]
  | x :: xs, y :: ys => by
    simp only [List.map_cons, PySem.W.alikeAll, g.al, g.alAll xs ys, Bool.and_true]
theorem Good.list (g : Good ea n pa) : Good (fun xs : List α => .list (xs.map ea)) (n + 1) (fun xs => ∀ x ∈ xs, pa x) := by
  refine ⟨fun a b => ?_, fun a p => ?_, fun a => ?_, fun a b => ?_⟩
  · simp only [PyData.eqv]; exact g.eqAll a b
  · simp only [PyData.canLay0]; exact g.layAll a p
  · have h1 := g.depAll a
    simp only [PyData.depth]
    omega
  · simp only [PySem.W.alike]; exact g.alAll a b
theorem Good.tup (g : Good ea n pa) : Good (fun xs : List α => .tuple (xs.map ea)) (n + 1) (fun xs => ∀ x ∈ xs, pa x) := by
  refine ⟨fun a b => ?_, fun a p => ?_, fun a => ?_, fun a b => ?_⟩
  · simp only [PyData.eqv]; exact g.eqAll a b
  · simp only [PyData.canLay0]; exact g.layAll a p
  · have h1 := g.depAll a
    simp only [PyData.depth]
    omega
  · simp only [PySem.W.alike]; exact g.alAll a b
theorem Good.any (g : Good ea n pa) (xs : List α) (a : α) : ((xs.map ea).any fun z => PyData.eqv z (ea a)) = decide (a ∈ xs) := by
  induction xs with
  | nil => simp
  | cons x xs ih =>
    simp only [List.map_cons, List.any_cons, g.eq, ih, List.mem_cons, Bool.decide_or]
    congr 1
    by_cases h1 : x = a
    · simp [h1]
    · have h2 : ¬ a = x := fun z => h1 z.symm
      simp [h1, h2]
theorem Good.inj (g : Good ea n pa) {a b : α} (h : ea a = ea b) : a = b := by
  have h1 := g.eq a b
  have h2 := g.eq b b
  rw [h] at h1
  rw [h1] at h2
  simpa using h2
theorem Good.allAlike (g : Good ea n pa) (xs : List α) : PySem.W.AllAlike (xs.map ea) := .of g.al
end
abbrev dP (p : Int × Int) : PyData := .tuple [.int p.1, .int p.2]
abbrev dL (l : Str × Int × Int) : PyData := .tuple [.str l.1, .int l.2.1, .int l.2.2]
abbrev okL' (l : Str × Int × Int) : Prop := PyData.strOk l.1 = true
theorem good_dP : Good dP 1 yes := (good_int.pair good_int).imp fun _ _ => ⟨trivial, trivial⟩
theorem good_dL : Good dL 1 okL' := (good_str.triple good_int good_int).imp fun _ h => ⟨h, trivial, trivial⟩
theorem good_ints : Good (fun xs : List Int => .list (xs.map .int)) 1 yes := good_int.list.imp fun _ _ _ _ => trivial
theorem good_dPs : Good (fun xs : List (Int × Int) => .list (xs.map dP)) 2 yes := good_dP.list.imp fun _ _ _ _ => trivial
theorem good_dLs : Good (fun xs : List (Str × Int × Int) => .list (xs.map dL)) 2 (fun xs => ∀ x ∈ xs, okL' x) := good_dL.list
/-! ### as values -/
/-- a coding by values that read as the data of a good coding -/
structure Gv {α : Type} [DecidableEq α] (ev : α → Val) (ed : α → PyData) (n : Nat) (p : α → Prop) : Prop where
  py : ∀ a, (ev a).py = some (ed a)
  good : Good ed n p
section
variable {α β γ : Type} [DecidableEq α] [DecidableEq β] [DecidableEq γ] {ev : α → Val} {ed : α → PyData} {ev' : β → Val} {ed' : β → PyData} {ev2 : γ → Val} {ed2 : γ → PyData} {n m k : Nat} {p : α → Prop} {p' : β → Prop} {p2 : γ → Prop}
theorem Gv.pys (g : Gv ev ed n p) (xs : List α) : Val.pys (xs.map ev) = some (xs.map ed) := by
  induction xs with
  | nil => rfl
  | cons x xs ih => rw [List.map_cons, List.map_cons]; unfold Val.pys; rw [g.py, ih]
theorem Gv.imp {q : α → Prop} (g : Gv ev ed n p) (h : ∀ a, q a → p a) : Gv ev ed n q := ⟨g.py, g.good.imp h⟩
theorem Gv.list (g : Gv ev ed n p) : Gv (fun xs : List α => .list (xs.map ev)) (fun xs => .list (xs.map ed)) (n + 1) (fun xs => ∀ x ∈ xs, p x) := ⟨fun xs => by
  unfold Val.py
  rw [g.pys]
  rfl, g.good.list⟩
theorem Gv.tup (g : Gv ev ed n p) : Gv (fun xs : List α => .tuple (xs.map ev)) (fun xs => .tuple (xs.map ed)) (n + 1) (fun xs => ∀ x ∈ xs, p x) := ⟨fun xs => by
  unfold Val.py
  rw [g.pys]
  rfl, g.good.tup⟩
theorem Gv.pair (g : Gv ev ed n p) (h : Gv ev' ed' m p') : Gv (fun q : α × β => .tuple [ev q.1, ev' q.2]) (fun q => .tuple [ed q.1, ed' q.2]) (max n m + 1) (fun q => p q.1 ∧ p' q.2) := ⟨fun q => by
  unfold Val.py
  simp only [Val.pys, g.py, h.py]
  rfl, g.good.pair h.good⟩
theorem Gv.triple (g : Gv ev ed n p) (h : Gv ev' ed' m p') (j : Gv ev2 ed2 k p2) : Gv (fun q : α × β × γ => .tuple [ev q.1, ev' q.2.1, ev2 q.2.2]) (fun q => .tuple [ed q.1, ed' q.2.1, ed2 q.2.2]) (max n (max m k) + 1) (fun q => p q.1 ∧ p' q.2.1 ∧ p2 q.2.2) := ⟨fun q => by
  unfold Val.py
  simp only [Val.pys, g.py, h.py, j.py]
  rfl, g.good.triple h.good j.good⟩
/-- == -/
theorem Gv.eqV (g : Gv ev ed n p) {a b : α} (ha : p a) (hb : p b) (hn : n ≤ 64 := by decide) : L3.eqV (ev a) (ev b) = .ok (decide (a = b)) := by
  unfold L3.eqV
  rw [g.py, g.py]
  simp only [g.good.shaped a ha hn, g.good.shaped b hb hn, Bool.and_self, if_true, g.good.eq]
/-- in -/
theorem Gv.inL (g : Gv ev ed n p) {a : α} {xs : List α} (ha : p a) (hx : ∀ x ∈ xs, p x) (hn : n + 1 ≤ 64 := by decide) : L3.inL (ev a) (xs.map ev) = .ok (decide (a ∈ xs)) := by
  unfold L3.inL
  rw [g.py, g.pys]
  have h1 := g.good.shaped a ha (by omega)
  have h2 := g.good.list.shaped xs hx hn
  simp only [h1, h2, Bool.and_self, if_true, g.good.any]
theorem Gv.inV (g : Gv ev ed n p) {a : α} {xs : List α} (ha : p a) (hx : ∀ x ∈ xs, p x) (hn : n + 1 ≤ 64 := by decide) : L3.inV (ev a) (.list (xs.map ev)) = .ok (decide (a ∈ xs)) := g.inL ha hx hn
/-- sorted -/
theorem Gv.sortV (g : Gv ev ed n p) (xs : List α) (so : PySem.W.Sortable (xs.map ed)) (hn : n ≤ 8 := by decide) : L3.sortV (.list (xs.map ev)) = .ok (.list ((xs.mergeSort (PySem.W.dataLe false ed)).map ev)) := by
  show sortL (xs.map ev) = _
  unfold sortL
  rw [g.pys]
  have so' : sortable (xs.map ed) := ⟨g.good.allAlike xs, so, fun d hd => by
    obtain ⟨a, _, rfl⟩ := List.mem_map.mp hd
    exact Nat.le_trans (g.good.dep a) hn⟩
  simp only [so', if_true]
  congr 2
  unfold sortVs
  refine (List.map_mergeSort (f := ev) fun a _ b _ => ?_).symm
  rw [PySem.W.dataLe_eq, PySem.W.dataLe_eq]
  have e : ∀ a, pyD (ev a) = ed a := fun a => by unfold pyD; rw [g.py]; rfl
  dsimp only [cond]
  rw [e, e]
end
theorem gv_int : Gv Val.int PyData.int 0 yes := ⟨fun _ => rfl, good_int⟩
theorem gv_bool : Gv Val.bool PyData.bool 0 yes := ⟨fun _ => rfl, good_bool⟩
theorem gv_str : Gv Val.str PyData.str 0 (fun x => PyData.strOk x = true) := ⟨fun _ => rfl, good_str⟩
abbrev vP (q : Int × Int) : Val := .tuple [.int q.1, .int q.2]
abbrev vL (l : Str × Int × Int) : Val := .tuple [.str l.1, .int l.2.1, .int l.2.2]
theorem gv_P : Gv vP dP 1 yes := (gv_int.pair gv_int).imp fun _ _ => ⟨trivial, trivial⟩
theorem gv_L : Gv vL dL 1 okL' := (gv_str.triple gv_int gv_int).imp fun _ h => ⟨h, trivial, trivial⟩
theorem gv_ints : Gv (fun xs : List Int => .list (xs.map .int)) (fun xs => .list (xs.map .int)) 1 yes := gv_int.list.imp fun _ _ _ _ => trivial
/-! places of tuples -/
@[simp] theorem ix2_0 (a b : Val) : ixV (.tuple [a, b]) (.int 0) = .ok a := rfl
@[simp] theorem ix2_1 (a b : Val) : ixV (.tuple [a, b]) (.int 1) = .ok b := rfl
@[simp] theorem ix3_0 (a b c : Val) : ixV (.tuple [a, b, c]) (.int 0) = .ok a := rfl
@[simp] theorem ix3_1 (a b c : Val) : ixV (.tuple [a, b, c]) (.int 1) = .ok b := rfl
@[simp] theorem ix3_2 (a b c : Val) : ixV (.tuple [a, b, c]) (.int 2) = .ok c := rfl
theorem ixL_nat {xs : List Val} {i : Nat} {v : Val} (h : xs[i]? = some v) : ixV (.list xs) (.int (i : Nat)) = .ok v := by
  show idxL xs i = _
  unfold idxL ixAt
  have hl := (List.getElem?_eq_some_iff.mp h).1
  rw [if_pos ⟨by omega, by omega⟩]
  simp [h]
theorem ixL_last (xs : List Val) (v : Val) : ixV (.list (xs ++ [v])) (.int (-1)) = .ok v := by
  show idxL (xs ++ [v]) (-1) = _
  unfold idxL ixAt
  rw [if_neg (by omega), if_pos ⟨by omega, by rw [List.length_append]; simp; omega⟩]
  have e : ((-1 : Int) + ((xs ++ [v]).length : Int)).toNat = xs.length := by
    rw [List.length_append]
    simp
    omega
  simp only [Option.bind_some, e]
  simp
@[simp] theorem sumV_ints (is : List Int) : sumV (.list (is.map .int)) = .ok (.int is.sum) := by
  show (asInts (is.map .int) >>= fun js => Rs.ok (Val.int js.sum)) = _
  rw [asInts_map]
  rfl
@[simp] theorem allV_bools (bs : List Bool) : allV (.list (bs.map .bool)) = .ok (bs.all id) := by
  show (asBools (bs.map .bool) >>= fun js => Rs.ok (js.all id)) = _
  rw [asBools_map]
  rfl
theorem chV_int {p p' : Int → Int → Bool} {i j : Int} {mw : Rs Val} : chV p p' (.int i) (.int j) mw = if p i j = true then mw >>= fun w => cmpI p' (.int j) w else .ok false := rfl
/-! ### keys of dicts -/
structure Kv {α : Type} (ev : α → Val) (kn : α → NestedKey) : Prop where
  key : ∀ a, keyN (ev a) = some (kn a)
  dep : ∀ a, (kn a).depth ≤ 8
  inj : ∀ a b, kn a = kn b → a = b
section
variable {α β : Type} [DecidableEq α] {ev : α → Val} {kn : α → NestedKey} {w : β → Val}
/-- a dict of such things -/
abbrev encD (ev : α → Val) (w : β → Val) (xs : List (α × β)) : List (Val × Val) := xs.map fun e => (ev e.1, w e.2)
def lookD (xs : List (α × β)) (a : α) : Option β := (xs.find? fun e => decide (e.1 = a)).map (·.2)
def putD (xs : List (α × β)) (a : α) (b : β) : List (α × β) := if (lookD xs a).isSome then xs.map fun e => if e.1 = a then (e.1, b) else e else xs ++ [(a, b)]
theorem Kv.dec (g : Kv ev kn) (a b : α) : decide (keyN (ev a) = keyN (ev b)) = decide (a = b) := by
  rw [g.key, g.key]
  by_cases h : a = b
  · subst h; simp
  · rw [decide_eq_false h, decide_eq_false]
    exact fun z => h (g.inj _ _ (Option.some.inj z))
theorem Kv.look (g : Kv ev kn) (xs : List (α × β)) (a : α) : dlook (encD ev w xs) (ev a) = (lookD xs a).map w := by
  unfold dlook lookD encD
  induction xs with
  | nil => rfl
  | cons e xs ih =>
    rw [List.map_cons, List.find?_cons, List.find?_cons]
    dsimp only
    rw [g.dec]
    cases decide (e.1 = a) with
    | true => rfl
    | false => exact ih
theorem Kv.keyC (g : Kv ev kn) (a : α) : L3.keyC (ev a) = .ok () := by
  unfold L3.keyC
  rw [g.key]
  simp only [g.dep a, if_true]
theorem Kv.has (g : Kv ev kn) (xs : List (α × β)) (a : α) : inV (ev a) (.dict (encD ev w xs)) = .ok (lookD xs a).isSome := by
  show (L3.keyC (ev a) >>= fun _ => Rs.ok (dlook (encD ev w xs) (ev a)).isSome) = _
  rw [g.keyC, g.look]
  cases lookD xs a <;> rfl
theorem Kv.get (g : Kv ev kn) (xs : List (α × β)) (a : α) (b : β) (h : lookD xs a = some b) : ixV (.dict (encD ev w xs)) (ev a) = .ok (w b) := by
  show (L3.keyC (ev a) >>= fun _ => match dlook (encD ev w xs) (ev a) with | some v => Rs.ok v | none => Rs.stuck) = _
  rw [g.keyC, g.look, h]
  rfl
theorem Kv.get2 (g : Kv ev kn) (xs : List (α × β)) (a : α) (d : Val) : getV2 (.dict (encD ev w xs)) (ev a) d = .ok (((lookD xs a).map w).getD d) := by
  show (L3.keyC (ev a) >>= fun _ => Rs.ok ((dlook (encD ev w xs) (ev a)).getD d)) = _
  rw [g.keyC, g.look]
  rfl
theorem Kv.put (g : Kv ev kn) (xs : List (α × β)) (a : α) (b : β) : dput (encD ev w xs) (ev a) (w b) = encD ev w (putD xs a b) := by
  unfold dput putD
  rw [g.look]
  cases h : lookD xs a with
  | none =>
    rw [show ((none : Option β).map w).isSome = false from rfl, show (none : Option β).isSome = false from rfl, if_neg Bool.false_ne_true, if_neg Bool.false_ne_true]
    unfold encD
    rw [List.map_append]
    rfl
  | some v =>
    rw [show ((some v : Option β).map w).isSome = true from rfl, show (some v : Option β).isSome = true from rfl, if_pos rfl, if_pos rfl]
    unfold encD
    rw [List.map_map, List.map_map]
    refine List.map_congr_left fun e _ => ?_
    have z := g.dec e.1 a
    by_cases y : e.1 = a
    · rw [decide_eq_true y] at z
      show (if keyN (ev e.1) = keyN (ev a) then (ev e.1, w b) else (ev e.1, w e.2)) = _
      rw [if_pos (of_decide_eq_true z)]
      show _ = ((fun e : α × β => (ev e.1, w e.2)) (if e.1 = a then (e.1, b) else e))
      rw [if_pos y]
    · rw [decide_eq_false y] at z
      show (if keyN (ev e.1) = keyN (ev a) then (ev e.1, w b) else (ev e.1, w e.2)) = _
      rw [if_neg (of_decide_eq_false z)]
      show _ = ((fun e : α × β => (ev e.1, w e.2)) (if e.1 = a then (e.1, b) else e))
      rw [if_neg y]
theorem Kv.putM (g : Kv ev kn) (xs : List (α × β)) (a : α) (b : β) (h : xs.length < BIG) : dputM (encD ev w xs) (ev a) (w b) = .ok (encD ev w (putD xs a b)) := by
  unfold dputM
  rw [g.keyC, g.put]
  simp only [Rs.bind_ok]
  rw [if_pos (by rw [List.length_map]; exact h)]
theorem lookD_isSome (xs : List (α × β)) (a : α) : (lookD xs a).isSome = decide (a ∈ xs.map (·.1)) := by
  unfold lookD
  induction xs with
  | nil => rfl
  | cons e xs ih =>
    rw [List.find?_cons, List.map_cons]
    by_cases h : e.1 = a
    · rw [decide_eq_true h]
      rw [decide_eq_true (by rw [h]; exact List.mem_cons_self)]
      rfl
    · rw [decide_eq_false h, ih]
      have : (a ∈ e.1 :: xs.map (·.1)) ↔ a ∈ xs.map (·.1) := by
        rw [List.mem_cons]
        exact ⟨fun z => z.elim (fun q => (h q.symm).elim) id, .inr⟩
      simp only [this]
end
theorem kv_P : Kv vP (fun q => .tup [.num q.1, .num q.2]) := ⟨fun _ => rfl, fun _ => by first | exact Nat.le_of_ble_eq_true rfl | simp [NestedKey.depth, NestedKey.depthAll], fun a b h => by
  obtain ⟨a1, a2⟩ := a
  obtain ⟨b1, b2⟩ := b
  simpa using h⟩
theorem kv_L : Kv vL (fun q => .tup [.text q.1, .num q.2.1, .num q.2.2]) := ⟨fun _ => rfl, fun _ => by first | exact Nat.le_of_ble_eq_true rfl | simp [NestedKey.depth, NestedKey.depthAll], fun a b h => by
  obtain ⟨a1, a2, a3⟩ := a
  obtain ⟨b1, b2, b3⟩ := b
  simpa using h⟩
theorem lookD_none {α β : Type} [DecidableEq α] {xs : List (α × β)} {a : α} (h : a ∉ xs.map (·.1)) : lookD xs a = none := by
  have := lookD_isSome xs a
  rw [decide_eq_false h] at this
  cases e : lookD xs a with
  | none => rfl
  | some v => rw [e] at this; cases this
/-- {x: c for x in xs}, all different -/
theorem dcM_new {α β : Type} [DecidableEq α] {ev : α → Val} {kn : α → NestedKey} {w : β → Val} (g : Kv ev kn) (f : α → β) (fv : Val → Rs Val) (hf : ∀ x, fv (ev x) = .ok (w (f x))) : ∀ (xs : List α) (acc : List (α × β)), xs.Nodup → (∀ x ∈ xs, x ∉ acc.map (·.1)) → acc.length + xs.length ≤ BIG →
    dcM Rs.ok (fun _ : Val => Rs.ok true) (fun y : Val => Rs.ok y) fv (xs.map ev) (encD ev w acc) = .ok (encD ev w (acc ++ xs.map fun x => (x, f x)))
  | [], acc, _, _, _ => by rw [List.map_nil, List.map_nil, List.append_nil]; rfl
  | x :: xs, acc, nd, dis, hl => by
    rw [List.nodup_cons] at nd
    have hn : lookD acc x = none := lookD_none (dis x List.mem_cons_self)
    have e : putD acc x (f x) = acc ++ [(x, f x)] := by
      unfold putD
      rw [hn]
      rfl
    rw [List.map_cons]
    unfold dcM
    simp only [Rs.bind_ok, if_true]
    rw [hf]
    simp only [Rs.bind_ok]
    rw [g.putM acc x (f x) (by rw [List.length_cons] at hl; omega), e]
    simp only [Rs.bind_ok]
    rw [dcM_new g f fv hf xs (acc ++ [(x, f x)]) nd.2 (fun y hy h => ?_) (by rw [List.length_append, List.length_singleton]; rw [List.length_cons] at hl; omega)]
    · rw [List.map_cons, List.append_assoc]
      rfl
    · rw [List.map_append, List.mem_append] at h
      rcases h with h | h
      · exact dis y (List.mem_cons_of_mem _ hy) h
      · simp only [List.map_cons, List.map_nil, List.mem_singleton] at h
        exact nd.1 (h ▸ hy)
end L3
/-! W, part c: own exceptions whose __init__ says super().__init__('..') and self.f = x. -/
namespace L3
open PySem PySem.Spec PyProof.Rows L2 NdefX
section
open PySem.W
variable {prog : Program} {w : World} {A : Around} {E : Value → Shared → Prop} {h : Heap} {g : Array GenState} {d : Drawn} {t : Nat} {os : OsState}
variable {nm q : Str} {C N : Addr} {bs bm : List Value} {hdct : Bool} {sn : List Str} {sub : List Value} {ab : Bool} {col : Option Bool} {dd : Option Addr} {k0 k1 k2 k3 k5 : Option Value}
theorem call_mw {u e t0 : Addr} {rest : List Value} {Q : Value → Shared → Prop}
    (hC : h.get? C = some (excClassObj nm q C N bs bm hdct sn sub ab col dd k0 k1 k2 k3 k5 "ValueError.__new__")) (he : h.get? e = some (HandSPX.excO C t0)) (hu : h.get? u = some (kxs_mw "ValueError.__init__" e)) (hrest : rest.length ≤ sizeLine)
    (hq : ∀ h' t1, (∀ b o, b ≠ e → h.get? b = some o → h'.get? b = some o) → h'.get? e = some (HandSPX.excO C t1) → Q .none ⟨h', g, d, t, os⟩) :
    wpAny (model prog w) A (call (.ref u) rest) Q E ⟨h, g, d, t, os⟩ := by
  refine wpAny_call (codeAny_of_tree ?_)
  show wpAny _ A.in1 (callAny (.ref u) ⟨rest, []⟩) _ _ _
  simp only [callAny]
  refine wpAny_bind (wpAny_load hu ?_)
  simp only [kxs_mw, show (Value.type "method-wrapper" == Value.type "method" || Value.type "method-wrapper" == Value.type "builtin_function_or_method" || Value.type "method-wrapper" == Value.type "method-wrapper") = true by decide, if_true]
  refine W.KFB.if_so (by decide) ?_
  refine wpAny_bind (W.check_bound_init F.excBase_ValueError.toExcCallFacts hC he rfl ?_)
  refine wpAny_bind (wpAny_pure (wpAny_pure ?_))
  refine ⟨plainId_quiet F.excBase_ValueError.init.plain _, codeAny_builtin F.excBase_ValueError.initEntry ?_⟩
  exact exc_init_tree (cls := .ref C) (t0 := t0) (dv := none) (c2 := .none) (c3 := .none) (b4 := .bool false) he hrest fun h' k e' _ => hq h' _ k e'
end
/-- the __init__ of the class at C: super().__init__(txt); self.fld = y -/
structure ExI (P : Program) (K : PySem.W.Frag) (mg : Str → Option Value) (C : Addr) (fld y : Str) (fI : Addr) (fd : FuncData) : Prop where
  T : OexC K C
  no : PySem.W.findIn K (.ref C) fld = some none
  ny : y ≠ "self"
  nd : (y == ("__debug__" : Str)) = false
  nc : (y == ("__classdict__" : Str)) = false
  op : PySem.W.nsIn K cStatics "thirdparty.any" = some none
  sup : PySem.W.ks_superIn K C C "__init__" = some (some (.builtin "ValueError.__init__"))
  sub : PySem.W.subIn K (.ref C) (.type "ValueError") = some true
  ms : mg "super" = none
  top : (P.main.scope.names.lookup ("super" : Str)).isSome = false
  fn : ∃ (name qual txt : Str) (params : Arguments) (scope : Scope) (cc cd : Addr) (dV kV doc pm ct : Value) (an : Option Addr) (od : Option Addr) (osl : Array (Option Value)) (j : Nat) (p0 p1 p2 p3 p4 p5 p6 p7 p8 p9 : Pos) (oc ok : Obj) (vs : Array Value) (file : Str) (tf : Tok) (ar : Arg),
    fd = PySem.W.fnX name qual params [.Expr (.Call (.Attribute (.Call (.Name "super" p0) [] [] p1) "__init__" p2) [.Constant (.str txt) j p3] [] p4) p5, .Assign [.Attribute (.Name "self" p6) fld p7] (.Name y p8) p9] scope [("__class__", cc)] dV kV doc pm an (.ref cd) ct ∧
    K.lookup fI = some ⟨.type "function", od, .func fd, osl⟩ ∧ K.lookup cc = some oc ∧ oc.data = .cell (some (.ref C)) ∧ PySem.W.codeIn K (.ref cd) qual = true ∧
    K.lookup cd = some ok ∧ ok.data = .fields vs ∧ vs[2]? = some (.str file tf) ∧ ((P.main.file : Str) == file) = true ∧ (params.posonlyargs ++ params.args).head? = some ar ∧ ar.arg = "self" ∧
    NScope ["self", y, "__class__"] ["self", y] ["__class__"] scope ∧ scope.names.lookup ("super" : Str) = some NameKind.globalImplicit ∧ p2.endLine = p4.line
theorem he_of {p0 p1 p2 p3 p4 : Pos} {j : Nat} {txt : Str} (e : p2.endLine = p4.line) (env : Env) : eval (.Call (.Attribute (.Call (.Name "super" p0) [] [] p1) "__init__" p2) [.Constant (.str txt) j p3] [] p4) env = (do
      let ov ← attributeBase (.Call (.Name "super" p0) [] [] p1) "__init__" env (eval (.Call (.Name "super" p0) [] [] p1) env)
      standAt p2.atName
      let (f, first) ← holding [ov] (getMethod ov "__init__" (do return (← importBound (.Call (.Name "super" p0) [] [] p1) env).getD true))
      callWith p4 f first (backTo p4 (starEach [.Constant (.str txt) j p3] env)) []) := by
  have z : methodCallPos true (.Call (.Name "super" p0) [] [] p1) env p2 p4 = pure p4 := by
    unfold methodCallPos
    rw [if_pos (by rw [e]; simp)]
  show (do
    let ov ← attributeBase (.Call (.Name "super" p0) [] [] p1) "__init__" env (eval (.Call (.Name "super" p0) [] [] p1) env)
    standAt p2.atName
    methodCall (.Call (.Name "super" p0) [] [] p1) "__init__" p2 p4 env ov 1 (backTo p4 (starEach [.Constant (.str txt) j p3] env)) []) = _
  unfold methodCall
  have f : methodCallForm 1 (backTo p4 (starEach [.Constant (.str txt) j p3] env)) [] = true := rfl
  rw [f, z]
  simp only [pure_bind]
  rfl
def spX (C : Addr) (f : Str) : Sp := fun vs H Q _ => ∃ a v, vs = [.ref a, v] ∧ H a = some (exo a C none) ∧ ∀ dx, H dx = none → dx ≠ a → Q .non (upd (upd H dx (exd dx [(f, v)])) a (exo a C (some dx)))
theorem fn_exi {P : Program} {w : World} {K : PySem.W.Frag} {mg : Str → Option Value} {base : Heap} {C fI : Addr} {fld y : Str} {fd : FuncData} {k : Nat} (X : ExI P K mg C fld y fI fd) :
    FnOk P w K mg base (L2.CX P w) (k + 1) fI fd ["self", y] (spX C fld) := by
  refine ⟨fun vs H Q E ⟨a, v, e, _⟩ => by rw [e]; rfl, fun A outer s H args us vs Q E hr e0 hb hv ⟨a, v, e, ha, hq⟩ => ?_⟩
  subst e
  obtain ⟨name, qual, txt, params, scope, cc, cd, dV, kV, doc, pm, ct, an, od, osl, j, p0, p1, p2, p3, p4, p5, p6, p7, p8, p9, oc, ok, cvs, file, tf, ar, rfl, lkf, lkc, hoc, hcd, lkd, hok, hvs, hfile, hpar, har, S, hsup, hpp⟩ := X.fn
  obtain ⟨nm, q, NN, bs, bm, sn, sub, ab, col, dd, k0, k1, k2, k3, k5, hC, hbm⟩ := X.T.cls
  have kin : K.In s.heap := e0.mod.kin.keeps fun b o e => (e0.bs b o e).1
  have lim : s.heap.NoLimit := e0.mod.nolimit.keeps fun b o e => (e0.bs b o e).1
  have hcell : s.heap.IsCell cc (some (.ref C)) := ⟨oc, kin _ _ lkc, hoc⟩
  cases hv with
  | @cons _ u0 _ ur r0 r1 =>
  cases r1 with
  | @cons _ u1 _ ur2 r1 r2 =>
  cases r2
  obtain rfl : u0 = Value.ref a := r0
  have C0 : CellsAt [(("__class__" : Str), cc)] ["__class__"] [some (.ref C)] s.heap H := by
    have one : ∀ {y : Str} {c : Addr}, List.lookup y [(("__class__" : Str), cc)] = some c → y = "__class__" ∧ c = cc := fun {y c} e => by
      have m := PySem.mem_of_lookup e
      simp only [List.mem_singleton, Prod.mk.injEq] at m
      exact m
    refine ⟨rfl, fun y c e => ?_, fun x y c e1 e2 => (one e1).1.trans (one e2).1.symm, fun i y e => ?_⟩
    · obtain ⟨_, rfl⟩ := one e
      exact ⟨(e0.bs _ _ (e0.mod.kin _ _ lkc)).2, _, hcell⟩
    · cases i with
      | zero =>
        obtain rfl : ("__class__" : Str) = y := Option.some.inj e
        exact ⟨cc, by simp [List.lookup], fun v e => by
          obtain rfl : V.ref C = v := Option.some.inj (Option.some.inj e)
          exact ⟨.ref C, rfl, hcell⟩⟩
      | succ n => simp at e
  refine ks_codeAny_call_defAt hr.depth (kin _ _ lkf) rfl lim (PySem.W.codeRec_of kin hcd) rfl hb S.nocell (fun x hx => S.par _ (List.of_mem_zip (show (x.1, x.2) ∈ _ from hx)).1) (fun h₀ hns kp => ?_) S.co S.gen S.kind
  have I : Inv (ncx (L2.CX P w) P w K mg base ["self", y, "__class__"] ⟨name, qual, params, [], scope, [("__class__", cc)], cd⟩ fI A outer s H E) [] (startF ["self", y, "__class__"] [.ref a, v] [some (.ref C)]) H { s with heap := h₀, toks := s.toks + (List.zip (["self", y] : List Str) [Value.ref a, u1]).length } :=
    inv_startN S hr.hd e0 rfl (.cons rfl (.cons r1 .nil)) C0 hns kp
  have hCc : PySem.W.clsIn K C = some { name := nm, bases := bs, mro := .ref C :: bm, ns := NN, qualname := q, hasDict := true, slotNames := sn, subclasses := sub, abstract := ab, collection := col, hasDel := false } := by unfold PySem.W.clsIn; rw [hC] <;> rfl
  have kin0 : K.In h₀ := kin.keeps kp
  obtain ⟨t1, hoa⟩ := exo_at e0.hok ha
  have hoa0 := kp _ _ hoa
  have hxC : a ≠ C := fun z => by
    have y1 := kin _ _ hC
    rw [← z, hoa] at y1
    cases y1
  have hal : PySem.W.alongIn K "__init__" bm = some (some (.builtin "ValueError.__init__")) := by
    have z := X.sup
    unfold PySem.W.ks_superIn at z
    rw [hCc] at z
    simpa [List.dropWhile_cons] using z
  have hkS : (callEnv (PySem.W.fnX name qual params [.Expr (.Call (.Attribute (.Call (.Name "super" p0) [] [] p1) "__init__" p2) [.Constant (.str txt) j p3] [] p4) p5, .Assign [.Attribute (.Name "self" p6) fld p7] (.Name y p8) p9] scope [("__class__", cc)] dV kV doc pm an (.ref cd) ct) s.heap.objs.size fI) = (ncx (L2.CX P w) P w K mg base ["self", y, "__class__"] ⟨name, qual, params, [], scope, [("__class__", cc)], cd⟩ fI A outer s H E).env := rfl
  rw [hkS]
  refine ks_wpAt_execs_cons (ks_wpAt_Expr_any (ks_wpAt_MethodCall (ks_wpAt_super_base (f := fI) (cc := cd) (ar := ar) (vs := cvs) (file := file) (tf := tf) hsup (S.frk _ (List.mem_singleton.mpr rfl)) (by decide) rfl (kp _ _ (kin _ _ lkf)) rfl hpar rfl (kin0 _ _ lkd) hok hvs hfile X.top ?_) (he_of hpp _)) I.quiet)
  rw [loadName_read I.ok.kind hsup]
  obtain ⟨mb, hb1, hb2⟩ := I.mod.blt
  refine Calls.loadGlobal_builtin (by rw [I.ok.glob]; exact I.mod.glob.keeps I.bk) X.ms (by rw [I.ok.blt]; exact hb1.keeps I.bk) ((hb2 "super" (by decide)).trans PyProof.Rows.Boot.«super») ⟨rfl, ?_⟩
  refine wpAny_loadName_free I.ok.kind (S.frk _ (List.mem_singleton.mpr rfl)) (c := cc) rfl (hcell.keeps kp) ?_
  rw [har]
  refine wpAny_loadName_local I.ok.kind (S.par "self" List.mem_cons_self) hns (zip_look (i := 0) ?_ rfl rfl) ?_
  · simp [Ne.symm X.ny]
  refine ks_wpAny_isType_cls (kin0 _ _ hC) rfl ⟨rfl, ?_⟩
  refine ks_wpAny_call_super (kin0 _ _ hC) rfl hoa0 rfl (fun c z => by cases z) (PySem.W.looks_mroIn kin0 (by unfold PySem.W.mroIn; rw [hCc, Option.bind_some]; simp)) (fun h1 hso k1' => ?_)
  have kin1 : K.In h1 := kin0.keeps k1'
  have J0 : PySem.W.InstAt h1 a _ C none := ⟨k1' _ _ hoa0, rfl, rfl, trivial⟩
  refine PySem.W.kxs_getMethod PySem.W.kxs_ValueError hso (PySem.W.looks_opaque kin1 X.op) (l₀ := .ref C :: bm) ((PySem.W.looks_clsIn kin1 hCc).andThen .now) (ESX.drop_own C bm) kin1 hal (J0.type.andThen (PySem.W.looks_subIn kin1 X.sub)) hxC (by decide) ?_
  have k2 : ∀ b o, h₀.get? b = some o → (h1.push (PySem.W.kxs_mw "ValueError.__init__" a)).get? b = some o := fun b o e => Heap.get?_push_of_some _ (k1' b o e)
  have hmw : (h1.push (PySem.W.kxs_mw "ValueError.__init__" a)).get? h1.objs.size = some (PySem.W.kxs_mw "ValueError.__init__" a) := Heap.get?_push_at rfl rfl
  refine PySem.W.kxs_callWith (i := "ValueError.__init__") (x := a) rfl (Calls.evalArgs_plain (Calls.spliced_cons (Calls.Constant_str (k := j) (pos := p3) (Calls.spliced_nil ⟨hmw, ?_⟩))))
  refine call_mw ((kin0.keeps k2) _ _ hC) (k2 _ _ hoa0) hmw (by show (1:Nat) ≤ sizeLine; rw [sizeLine_eq]; omega) (fun h' t2 k hx => ?_)
  have I1 := I.kept (t' := 0) k2
  have J := I1.write (t' := 0) (x := a) (e := a) (o := exo a C none) (by rw [ha]; exact True.intro) (.inl rfl) k ⟨_, hx⟩ (exo_ok hx)
  have eu : upd H a (exo a C none) = H := by
    funext b
    by_cases hb : b = a
    · rw [hb, upd_same, ha]
    · rw [upd_ne hb]
  rw [eu] at J
  show PySem.wpAt _ _ _ (execs _ _) _ _ _
  refine wpAt_of_wpAny ?_
  have st := pss_one (ps_ost (X := ncx (L2.CX P w) P w K mg base ["self", y, "__class__"] ⟨name, qual, params, [], scope, [("__class__", cc)], cd⟩ fI A outer s H E) (f := fld) (p' := p7) (pos := p9) (pe_var (i := 0) (x := "self") (pos := p6) rfl (.inl (S.par "self" List.mem_cons_self))) (pe_var (i := 1) (x := y) (pos := p8) rfl (.inl (S.par y (List.mem_cons_of_mem _ List.mem_cons_self))) X.nd X.nc))
  refine wpAny_mono (st.run [] _ _ H { nx := fun _ H' => Q .non H', rt := fun _ _ => False } (J.tok _) ?_) (fun fl s' hs => ?_) fun e s' hs => hs
  · exact ⟨v, rfl, .ref a, rfl, a, C, rfl, X.T, X.no, .inl ⟨ha, fun dx n ne => hq dx n ne⟩⟩
  · cases fl with
    | ret u =>
      obtain ⟨_, _, _, _, _, q⟩ := hs
      exact False.elim q
    | next =>
      obtain ⟨σ', H', J2, q⟩ := hs
      exact ⟨.non, H', J2.os, J2.bare, J2.base, J2.hok, rfl, q⟩
    | brk =>
      obtain ⟨_, _, _, q⟩ := hs
      exact False.elim q
    | cont =>
      obtain ⟨_, _, _, q⟩ := hs
      exact False.elim q
/-- an own exception with a field: how it is made -/
structure Exk (P : Program) (K : PySem.W.Frag) (mg : Str → Option Value) (Cn f : Str) : Prop where
  ex : ∃ (y : Str) (fI : Addr) (fd : FuncData), ExI P K mg (He.ga K Cn) f y fI fd ∧ mg Cn = some (.ref (He.ga K Cn)) ∧ PySem.W.findIn K (.ref (He.ga K Cn)) "__init__" = some (some (.ref fI)) ∧ PySem.W.typeIn K (.ref fI) = some (.type "function") ∧ Binds K fd ["self", y] []
section
variable {T : Tx} {X : Cx} {N : List Str} {nm : List (Str × NameKind)} {k : Nat} {W : Wd} {D : Ends} {gh : Gh} {Γ : List Sl} {ss : List Stmt} {e : Expr} {pos p cp : Pos} {x : Str}
variable {α : Type} {P : α → Prop} {Z : Xv → Prop}
theorem del_upd2 {H1 : Hp} {a dx : Addr} {u u' v w : HO} (ha : H1 a = none) (hd : dx ≠ a) : upd (del (upd (upd (upd H1 a u) dx v) a u') a) dx w = upd H1 dx w := by
  funext b
  by_cases h : b = dx
  · rw [h, upd_same, upd_same]
  · rw [upd_ne h, upd_ne h]
    by_cases h2 : b = a
    · rw [h2, del_same, ha]
    · rw [del_ne h2, upd_ne h2, upd_ne h, upd_ne h2]
/-- raise C(e), an own class with a field -/
theorem blm_raiseX {C f : Str} {me : Rs Val} (xb : XB X N nm k) (d : Exk X.prog X.K X.mg C f) (h : EvM X Γ e (fun v => rD T v) me) (z : ∀ x, Z x → ZG T X W gh Γ x) (hK : X.K = T.K := by rfl) (hj : 2 ≤ k := by decide) (hg : gloB nm C = true := by decide +kernel)
    (hdb : (C == ("__debug__" : Str)) = false := by decide) (he : starEach [e] X.env = (false, eval e X.env) :: starEach [] X.env := by rfl) (hpl : (backTo cp (starEach [] X.env)).any (·.1) = false := by rfl) :
    BlM X W D gh Γ (.Raise (some (.Call (.Name C p) [e] [] cp)) none pos :: ss) (me.ne >>= fun v => (.err ⟨C, some (f, v)⟩ : Rs α)) P Z := fun q => by
  obtain ⟨v, hv, q⟩ := Rs.ho_ne (Rs.ho_bind q)
  obtain ⟨Wx, tk, wi⟩ := z _ q
  obtain ⟨y, fI, fd, EI, hm, iC, tI, hb⟩ := d.ex
  refine blk_ps (ps_raise xb.calm tk (pmk_oex (p := p) (pos := cp) EI.T iC tI (fn_exi (w := X.w) (base := X.base) (k := 0) EI) (xb.room.mono hj) hb .nil passL (xb.gl hg) hm pa_w hdb he hpl)) fun σ F G H E1 => ?_
  refine eva_cons (h v hv) eva_nil he W gh σ F G H E1 _ fun vs F' G' H' E' x' pa => ?_
  cases pa with
  | @cons x0 _ vr _ p0 pr =>
  cases pr
  refine ⟨by simp, fun a hn => ⟨a, x0, rfl, upd_same, fun dx hd ne => ⟨rfl, dx, [(f, x0)], upd_same, ?_, ?_, ?_⟩⟩⟩
  · rw [upd_ne ne, upd_same]
  · rw [upd_ne ne] at hd
    exact hd
  · rw [upd_ne ne] at hd
    rw [del_upd2 hn ne, hK]
    exact wi σ F' G' H' E' dx x0 F' _ ⟨Same.refl _, same_upd hd, same_updR (E'.fg.trans E'.gH) ((E'.fg.trans E'.gH).free hd), fun a o e => .inl e⟩ hd ((E'.fg.trans E'.gH).free hd) upd_same p0
/-- err.f in the suite of except .. as err -/
theorem evm_xf {xv : Xv} {al : Addr} {oe : Obj} {cls : Value} {d : Option Addr} {pn : List (Addr × Obj)} {n f : Str} (xf : XV (X.suite al ((al, oe) :: pn)) N nm) (i : Nat) (hi : Γ[i]? = some ((xkOf T xv).slot al d)) (hz : Zc cls d oe) (hf : ∃ vs, oe.data = .fields vs) (his : (xkOf T xv).Is cls d)
    (hX : XfC X.K (He.ga T.K xv.cls) ∧ PySem.W.findIn X.K (.ref (He.ga T.K xv.cls)) f = some none) (hN : N[i]? = some n := by rfl) (hv : visB nm n = true := by decide +kernel) (hd : (n == ("__debug__" : Str)) = false := by decide +kernel)
    (hcd : (n == ("__classdict__" : Str)) = false := by decide +kernel) : EvM (X.suite al ((al, oe) :: pn)) Γ (.Attribute (.Name n p) f pos) (fun v => rD T v) (xfld f xv) := fun v hm => by
  obtain ⟨hX, hno⟩ := hX
  unfold xfld at hm
  cases hfl : xv.fld with
  | none =>
    rw [hfl] at hm
    cases hm
  | some gw =>
    obtain ⟨g, w⟩ := gw
    have ek : xkOf T xv = .with_ (He.ga T.K xv.cls) g (rD T w) := by
      unfold xkOf
      rw [hfl]
    rw [ek] at hi his
    rw [hfl] at hm
    by_cases hg : g = f
    · subst hg
      have ev : w = v := by
        have z : (if g = g then Rs.ok w else Rs.stuck) = Rs.ok v := hm
        rw [if_pos rfl] at z
        cases z
        rfl
      subst ev
      obtain ⟨ec, dd0, ed0⟩ := his
      refine fun W gh σ F G H E Q q => EW.of (pe_xf hX hno hz hf (pe_var (xf.at_ hN) (xf.vis hv) hd hcd)) ?_
      obtain ⟨vv, e1, ⟨e2, dd, v', e3, e4, e5⟩⟩ := E.vl i _ _ hi
      exact ⟨vv, e1, e2, ec, dd, _, v', e3, E.gH _ _ e4, by simp [List.lookup], q v' F G H E (Gr.refl _ _ _) e5⟩
    · have z : (if g = f then Rs.ok w else Rs.stuck) = Rs.ok v := hm
      rw [if_neg hg] at z
      cases z
end
end L3
/-! W, part d: own exceptions' facts, by the head. -/
namespace L3
open PySem PySem.Spec PyProof.Rows L2 NdefX
def oexB (K : PySem.W.Frag) (C : Addr) : Bool := (match K.lookup C with
  | some ⟨.type "type", _, .cls cd, sl⟩ => (match cd.mro, sl.toList with
    | .ref C' :: bm, [_, _, _, _, some (.builtin n), _] => C' == C && n == "ValueError.__new__" && !cd.hasDel && cd.hasDict && HandSPX.refsVE bm
    | _, _ => false)
  | _ => false) && (He.eqO (PySem.W.findIn K (.ref C) "__setattr__") (some (some (.builtin "object.__setattr__"))) && (decide (PySem.W.subIn K (.ref C) (.type "BaseException") = some true) && (decide (PySem.W.typeIn K (.ref C) = some (.type "type")) && PySem.W.keepIn K (.ref C))))
theorem oexB_ok {K : PySem.W.Frag} {C : Addr} (h : oexB K C = true) : OexC K C := by
  obtain ⟨q, h⟩ := He.ba h
  obtain ⟨h2, h⟩ := He.ba h
  obtain ⟨h3, h⟩ := He.ba h
  obtain ⟨h4, h5⟩ := He.ba h
  refine ⟨?_, He.eqO_ok h2, of_decide_eq_true h3, of_decide_eq_true h4, h5⟩
  split at q
  · rename_i dd cd sl ho
    split at q
    · rename_i C' bm k0 k1 k2 k3 n k5 hm hs
      simp only [Bool.and_eq_true, beq_iff_eq, Bool.not_eq_true'] at q
      obtain ⟨⟨⟨⟨rfl, rfl⟩, hdel⟩, hdc⟩, ht⟩ := q
      obtain ⟨nm, bs, mro, ns, qn, hd, sn, sub, ab, col, del⟩ := cd
      dsimp only at hm hdel hdc
      subst hm hdel hdc
      have hsl : sl = #[k0, k1, k2, k3, some (.builtin "ValueError.__new__"), k5] := by
        obtain ⟨l⟩ := sl
        simp only at hs
        rw [hs]
      subst hsl
      exact ⟨nm, qn, ns, bs, bm, sn, sub, ab, col, dd, k0, k1, k2, k3, k5, ho, ht⟩
    · cases q
  · cases q
/-- the cell and the code of an __init__ -/
def cellB (P : Program) (K : PySem.W.Frag) (C fI : Addr) : Bool := match K.lookup fI with
  | some ⟨.type "function", _, .func fd, _⟩ => (match fd.closure, fd.code with
    | [(_, cc)], .ref cd => (match K.lookup cc with
      | some ⟨_, _, .cell (some (.ref C')), _⟩ => C' == C
      | _ => false) && (match K.lookup cd with
      | some ⟨_, _, .fields vs, _⟩ => (match (vs[2]? : Option Value) with
        | some (.str file _) => P.main.file == file
        | _ => false)
      | _ => false)
    | _, _ => false)
  | _ => false
def exiB (P : Program) (K : PySem.W.Frag) (Cn f : Str) : Bool := oexB K (He.ga K Cn) && (cellB P K (He.ga K Cn) (He.ma K (He.ga K Cn) "__init__") && (He.eqO (PySem.W.findIn K (.ref (He.ga K Cn)) f) (some none) && (He.eqO (PySem.W.nsIn K cStatics "thirdparty.any") (some none) &&
  (He.eqO (PySem.W.ks_superIn K (He.ga K Cn) (He.ga K Cn) "__init__") (some (some (.builtin "ValueError.__init__"))) && (decide (PySem.W.subIn K (.ref (He.ga K Cn)) (.type "ValueError") = some true) && (He.eqO (PySem.W.findIn K (.ref (He.ga K Cn)) "__init__") (some (some (.ref (He.ma K (He.ga K Cn) "__init__")))) &&
  (decide (PySem.W.typeIn K (.ref (He.ma K (He.ga K Cn) "__init__")) = some (.type "function")) && (xfB K (He.ga K Cn) && (He.eqO (PySem.W.nsIn K mainGlobals "super") (some none) && !(P.main.scope.names.lookup ("super" : Str)).isSome)))))))))
/-- the shape of such an __init__ -/
structure ExS (st : Stmt) (f y : Str) : Prop where
  body : ∃ (txt : Str) (j : Nat) (p0 p1 p2 p3 p4 p5 p6 p7 p8 p9 : Pos), defBody st = [.Expr (.Call (.Attribute (.Call (.Name "super" p0) [] [] p1) "__init__" p2) [.Constant (.str txt) j p3] [] p4) p5, .Assign [.Attribute (.Name "self" p6) f p7] (.Name y p8) p9] ∧ p2.endLine = p4.line
  par : ∃ ar : Arg, ((defArgs st).posonlyargs ++ (defArgs st).args).head? = some ar ∧ ar.arg = "self"
  sc : NScope ["self", y, "__class__"] ["self", y] ["__class__"] (defScope st)
  sup : (defScope st).names.lookup ("super" : Str) = some NameKind.globalImplicit
  ny : y ≠ "self"
  nd : (y == ("__debug__" : Str)) = false
  nc : (y == ("__classdict__" : Str)) = false
theorem exk_of {P : Program} {K : PySem.W.Frag} {h : Heap} {mg : Str → Option Value} (X : K.In h) (G : h.Ns mainGlobals mg) {d : DfQ} {Cn f y : Str} (F : FunS K d) (S : ExS d.st f y) (hat : d.at_ K = He.ma K (He.ga K Cn) "__init__") (hm : mg Cn = some (.ref (He.ga K Cn)))
    (hb : ∀ (cc : Addr) (kV doc pm : Value) (an : Option Addr) (cdv ct : Value) (us : List Value), us.length = 2 → bindArgs (PySem.W.fnX d.name d.qual (defArgs d.st) (defBody d.st) (defScope d.st) [(("__class__" : Str), cc)] .none kV doc pm an cdv ct) ⟨us, []⟩ = pure ((["self", y] : List Str).zip us))
    (b : exiB P K Cn f = true) : Exk P K mg Cn f ∧ XfC K (He.ga K Cn) ∧ PySem.W.findIn K (.ref (He.ga K Cn)) f = some none := by
  obtain ⟨b1, b⟩ := He.ba b
  obtain ⟨b2, b⟩ := He.ba b
  obtain ⟨b3, b⟩ := He.ba b
  obtain ⟨b4, b⟩ := He.ba b
  obtain ⟨b5, b⟩ := He.ba b
  obtain ⟨b6, b⟩ := He.ba b
  obtain ⟨b7, b⟩ := He.ba b
  obtain ⟨b8, b⟩ := He.ba b
  obtain ⟨b9, b⟩ := He.ba b
  obtain ⟨b10, b11⟩ := He.ba b
  obtain ⟨cc, oc, od, dV, kV, doc, pm, an, cdv, ct, osl, lk, hcd, hD⟩ := F
  rw [hat] at lk
  obtain rfl : dV = Value.none := by
    rcases hD with ⟨_, z⟩ | ⟨z, _⟩
    · exact z
    · exact absurd rfl z
  obtain ⟨txt, j, p0, p1, p2, p3, p4, p5, p6, p7, p8, p9, eb, epp⟩ := S.body
  obtain ⟨ar, hp, har⟩ := S.par
  unfold cellB at b2
  rw [lk] at b2
  split at b2
  · rename_i od' fd' sl' e'
    cases e'
    split at b2
    · rename_i x cc' cd e1 e2
      cases e1
      have e2 : cdv = .ref cd := e2
      subst e2
      obtain ⟨c1, c2⟩ := He.ba b2
      split at c1
      · rename_i a1 a2 C' a3 lkc
        obtain rfl := eq_of_beq c1
        split at c2
        · rename_i a4 a5 vs a6 lkd
          split at c2
          · rename_i file tf hvs
            rw [eb] at lk hb
            exact ⟨⟨y, _, _, ⟨oexB_ok b1, He.eqO_ok b3, S.ny, S.nd, S.nc, He.eqO_ok b4, He.eqO_ok b5, of_decide_eq_true b6, PySem.W.mg_none_of X G (He.eqO_ok b10), by simpa using b11, ⟨d.name, d.qual, txt, defArgs d.st, defScope d.st, cc, cd, _, kV, doc, pm, ct, an, od, osl, j, p0, p1, p2, p3, p4, p5, p6, p7, p8, p9, _, _, vs, file, tf, ar, rfl, lk, lkc, rfl, hcd, lkd, rfl, hvs, c2, hp, har, S.sc, S.sup, epp⟩⟩, hm, He.eqO_ok b7, of_decide_eq_true b8, .all fun us hl => hb cc kV doc pm an (.ref cd) ct us hl⟩, xfB_ok b9, He.eqO_ok b3⟩
          · cases c2
        · cases c2
      · cases c1
    · cases b2
  · cases b2
end L3
namespace T
open PySem PySem.Spec PyProof.Rows L2 L3
def P0 : Program := PySem.Challenge.pw_pickaisle_k03_places_beside_one_another
def top (i : Nat) : Stmt := PySem.Challenge.pw_pickaisle_k03_places_beside_one_another.main.body.getD i (.Pass ⟨0, 0, 0, 0⟩)
abbrev s_are_lengths : Stmt := top 10
abbrev f_are_lengths (K : PySem.W.Frag) : Addr := He.ga K "are_lengths"
abbrev N_are_lengths : List Str := ["numbers", "least", "most", "number"]
abbrev P_are_lengths : List Str := ["numbers", "least", "most"]
abbrev nm_are_lengths := (defScope s_are_lengths).names
theorem sc_are_lengths : FnScope N_are_lengths P_are_lengths (defScope s_are_lengths) := ⟨rfl, rfl, rfl, by decide +kernel, rfl, by decide +kernel, by decide +kernel⟩
abbrev s_law_row : Stmt := top 13
abbrev f_law_row (K : PySem.W.Frag) : Addr := He.ga K "_law_row"
abbrev N_law_row : List Str := ["_law_cell", "_law_many", "_law_row_here", "_law_rest", "_law_state", "_law_k"]
abbrev P_law_row : List Str := ["_law_cell", "_law_many"]
abbrev nm_law_row := (defScope s_law_row).names
theorem sc_law_row : FnScope N_law_row P_law_row (defScope s_law_row) := ⟨rfl, rfl, rfl, by decide +kernel, rfl, by decide +kernel, by decide +kernel⟩
abbrev s_law_numbers : Stmt := top 14
abbrev f_law_numbers (K : PySem.W.Frag) : Addr := He.ga K "_law_numbers"
abbrev N_law_numbers : List Str := ["_law_script", "_law_many", "_law_cells", "_law_each", "_law_numbers_here", "_law_cell", "_law_number"]
abbrev P_law_numbers : List Str := ["_law_script", "_law_many"]
abbrev nm_law_numbers := (defScope s_law_numbers).names
theorem sc_law_numbers : FnScope N_law_numbers P_law_numbers (defScope s_law_numbers) := ⟨rfl, rfl, rfl, by decide +kernel, rfl, by decide +kernel, by decide +kernel⟩
abbrev s_law_parts : Stmt := top 15
abbrev f_law_parts (K : PySem.W.Frag) : Addr := He.ga K "_law_parts"
abbrev N_law_parts : List Str := ["_law_numbers_here", "_law_at", "_law_most", "_law_lengths", "_law_gaps", "_law_closed", "_law_k", "_law_aisle", "_law_spot", "_law_link"]
abbrev P_law_parts : List Str := ["_law_numbers_here", "_law_at"]
abbrev nm_law_parts := (defScope s_law_parts).names
theorem sc_law_parts : FnScope N_law_parts P_law_parts (defScope s_law_parts) := ⟨rfl, rfl, rfl, by decide +kernel, rfl, by decide +kernel, by decide +kernel⟩
abbrev s_law_crosses : Stmt := top 16
abbrev f_law_crosses (K : PySem.W.Frag) : Addr := He.ga K "_law_crosses"
abbrev N_law_crosses : List Str := ["_law_lengths", "_law_k"]
abbrev P_law_crosses : List Str := ["_law_lengths"]
abbrev nm_law_crosses := (defScope s_law_crosses).names
theorem sc_law_crosses : FnScope N_law_crosses P_law_crosses (defScope s_law_crosses) := ⟨rfl, rfl, rfl, by decide +kernel, rfl, by decide +kernel, by decide +kernel⟩
abbrev s_law_aims : Stmt := top 17
abbrev f_law_aims (K : PySem.W.Frag) : Addr := He.ga K "_law_aims"
abbrev N_law_aims : List Str := ["_law_numbers_here", "_law_at", "_law_lengths", "_law_gaps", "_law_many", "_law_crosses_here", "_law_start", "_law_end", "_law_picks", "_law_k", "_law_place"]
abbrev P_law_aims : List Str := ["_law_numbers_here", "_law_at", "_law_lengths", "_law_gaps", "_law_many"]
abbrev nm_law_aims := (defScope s_law_aims).names
theorem sc_law_aims : FnScope N_law_aims P_law_aims (defScope s_law_aims) := ⟨rfl, rfl, rfl, by decide +kernel, rfl, by decide +kernel, by decide +kernel⟩
abbrev s_law_between : Stmt := top 18
abbrev f_law_between (K : PySem.W.Frag) : Addr := He.ga K "_law_between"
abbrev N_law_between : List Str := ["_law_lengths", "_law_gaps", "_law_closed", "_law_one", "_law_other", "_law_found", "_law_first", "_law_second"]
abbrev P_law_between : List Str := ["_law_lengths", "_law_gaps", "_law_closed", "_law_one", "_law_other"]
abbrev nm_law_between := (defScope s_law_between).names
theorem sc_law_between : FnScope N_law_between P_law_between (defScope s_law_between) := ⟨rfl, rfl, rfl, by decide +kernel, rfl, by decide +kernel, by decide +kernel⟩
abbrev s_law_beside : Stmt := top 19
abbrev f_law_beside (K : PySem.W.Frag) : Addr := He.ga K "_law_beside"
abbrev N_law_beside : List Str := ["_law_lengths", "_law_gaps", "_law_closed", "_law_place", "_law_aisle", "_law_height", "_law_rows", "_law_other", "_law_link"]
abbrev P_law_beside : List Str := ["_law_lengths", "_law_gaps", "_law_closed", "_law_place"]
abbrev nm_law_beside := (defScope s_law_beside).names
theorem sc_law_beside : FnScope N_law_beside P_law_beside (defScope s_law_beside) := ⟨rfl, rfl, rfl, by decide +kernel, rfl, by decide +kernel, by decide +kernel⟩
abbrev s_law_refused : Stmt := top 20
abbrev f_law_refused (K : PySem.W.Frag) : Addr := He.ga K "_law_refused"
abbrev N_law_refused : List Str := ["_law_house", "_law_place", "error"]
abbrev P_law_refused : List Str := ["_law_house", "_law_place"]
abbrev nm_law_refused := (defScope s_law_refused).names
theorem sc_law_refused : FnScope N_law_refused P_law_refused (defScope s_law_refused) := ⟨rfl, rfl, rfl, by decide +kernel, rfl, by decide +kernel, by decide +kernel⟩
abbrev s_law : Stmt := top 21
abbrev f_law (K : PySem.W.Frag) : Addr := He.ga K "law"
abbrev N_law : List Str := ["_law_script", "_law_numbers_here", "_law_lengths", "_law_gaps", "_law_closed", "_law_house", "_law_spots", "_law_k", "_law_place", "_law_right", "_law_up", "_law_other", "_law_due", "_law_link"]
abbrev P_law : List Str := ["_law_script"]
abbrev nm_law := (defScope s_law).names
theorem sc_law : FnScope N_law P_law (defScope s_law) := ⟨rfl, rfl, rfl, by decide +kernel, rfl, by decide +kernel, by decide +kernel⟩
abbrev s_House_init : Stmt := inClass (top 11) 0
abbrev f_House_init (K : PySem.W.Frag) : Addr := He.ma K (He.ga K "House") "__init__"
abbrev N_House_init : List Str := ["self", "lengths", "gaps", "closed", "link"]
abbrev P_House_init : List Str := ["self", "lengths", "gaps", "closed"]
abbrev nm_House_init := (defScope s_House_init).names
theorem sc_House_init : FnScope N_House_init P_House_init (defScope s_House_init) := ⟨rfl, rfl, rfl, by decide +kernel, rfl, by decide +kernel, by decide +kernel⟩
abbrev s_House_lengths : Stmt := inClass (top 11) 1
abbrev f_House_lengths (K : PySem.W.Frag) : Addr := prG K (He.ga K "House") "lengths"
abbrev N_House_lengths : List Str := ["self"]
abbrev P_House_lengths : List Str := ["self"]
abbrev nm_House_lengths := (defScope s_House_lengths).names
theorem sc_House_lengths : FnScope N_House_lengths P_House_lengths (defScope s_House_lengths) := ⟨rfl, rfl, rfl, by decide +kernel, rfl, by decide +kernel, by decide +kernel⟩
abbrev s_House_gaps : Stmt := inClass (top 11) 2
abbrev f_House_gaps (K : PySem.W.Frag) : Addr := prG K (He.ga K "House") "gaps"
abbrev N_House_gaps : List Str := ["self"]
abbrev P_House_gaps : List Str := ["self"]
abbrev nm_House_gaps := (defScope s_House_gaps).names
theorem sc_House_gaps : FnScope N_House_gaps P_House_gaps (defScope s_House_gaps) := ⟨rfl, rfl, rfl, by decide +kernel, rfl, by decide +kernel, by decide +kernel⟩
abbrev s_House_closed : Stmt := inClass (top 11) 3
abbrev f_House_closed (K : PySem.W.Frag) : Addr := prG K (He.ga K "House") "closed"
abbrev N_House_closed : List Str := ["self"]
abbrev P_House_closed : List Str := ["self"]
abbrev nm_House_closed := (defScope s_House_closed).names
theorem sc_House_closed : FnScope N_House_closed P_House_closed (defScope s_House_closed) := ⟨rfl, rfl, rfl, by decide +kernel, rfl, by decide +kernel, by decide +kernel⟩
abbrev s_House_top : Stmt := inClass (top 11) 4
abbrev f_House_top (K : PySem.W.Frag) : Addr := prG K (He.ga K "House") "top"
abbrev N_House_top : List Str := ["self"]
abbrev P_House_top : List Str := ["self"]
abbrev nm_House_top := (defScope s_House_top).names
theorem sc_House_top : FnScope N_House_top P_House_top (defScope s_House_top) := ⟨rfl, rfl, rfl, by decide +kernel, rfl, by decide +kernel, by decide +kernel⟩
abbrev s_House_aisles : Stmt := inClass (top 11) 5
abbrev f_House_aisles (K : PySem.W.Frag) : Addr := prG K (He.ga K "House") "aisles"
abbrev N_House_aisles : List Str := ["self"]
abbrev P_House_aisles : List Str := ["self"]
abbrev nm_House_aisles := (defScope s_House_aisles).names
theorem sc_House_aisles : FnScope N_House_aisles P_House_aisles (defScope s_House_aisles) := ⟨rfl, rfl, rfl, by decide +kernel, rfl, by decide +kernel, by decide +kernel⟩
abbrev s_House_crosses : Stmt := inClass (top 11) 6
abbrev f_House_crosses (K : PySem.W.Frag) : Addr := He.ma K (He.ga K "House") "crosses"
abbrev N_House_crosses : List Str := ["self", "heights", "length"]
abbrev P_House_crosses : List Str := ["self"]
abbrev nm_House_crosses := (defScope s_House_crosses).names
theorem sc_House_crosses : FnScope N_House_crosses P_House_crosses (defScope s_House_crosses) := ⟨rfl, rfl, rfl, by decide +kernel, rfl, by decide +kernel, by decide +kernel⟩
abbrev s_House_is_place : Stmt := inClass (top 11) 7
abbrev f_House_is_place (K : PySem.W.Frag) : Addr := He.ma K (He.ga K "House") "is_place"
abbrev N_House_is_place : List Str := ["self", "place"]
abbrev P_House_is_place : List Str := ["self", "place"]
abbrev nm_House_is_place := (defScope s_House_is_place).names
theorem sc_House_is_place : FnScope N_House_is_place P_House_is_place (defScope s_House_is_place) := ⟨rfl, rfl, rfl, by decide +kernel, rfl, by decide +kernel, by decide +kernel⟩
abbrev s_House_is_cross : Stmt := inClass (top 11) 8
abbrev f_House_is_cross (K : PySem.W.Frag) : Addr := He.ma K (He.ga K "House") "is_cross"
abbrev N_House_is_cross : List Str := ["self", "place"]
abbrev P_House_is_cross : List Str := ["self", "place"]
abbrev nm_House_is_cross := (defScope s_House_is_cross).names
theorem sc_House_is_cross : FnScope N_House_is_cross P_House_is_cross (defScope s_House_is_cross) := ⟨rfl, rfl, rfl, by decide +kernel, rfl, by decide +kernel, by decide +kernel⟩
abbrev s_House_is_link : Stmt := inClass (top 11) 9
abbrev f_House_is_link (K : PySem.W.Frag) : Addr := He.ma K (He.ga K "House") "is_link"
abbrev N_House_is_link : List Str := ["self", "link", "word", "aisle", "height"]
abbrev P_House_is_link : List Str := ["self", "link"]
abbrev nm_House_is_link := (defScope s_House_is_link).names
theorem sc_House_is_link : FnScope N_House_is_link P_House_is_link (defScope s_House_is_link) := ⟨rfl, rfl, rfl, by decide +kernel, rfl, by decide +kernel, by decide +kernel⟩
abbrev s_House_is_closed : Stmt := inClass (top 11) 10
abbrev f_House_is_closed (K : PySem.W.Frag) : Addr := He.ma K (He.ga K "House") "is_closed"
abbrev N_House_is_closed : List Str := ["self", "link"]
abbrev P_House_is_closed : List Str := ["self", "link"]
abbrev nm_House_is_closed := (defScope s_House_is_closed).names
theorem sc_House_is_closed : FnScope N_House_is_closed P_House_is_closed (defScope s_House_is_closed) := ⟨rfl, rfl, rfl, by decide +kernel, rfl, by decide +kernel, by decide +kernel⟩
abbrev s_House_places : Stmt := inClass (top 11) 11
abbrev f_House_places (K : PySem.W.Frag) : Addr := He.ma K (He.ga K "House") "places"
abbrev N_House_places : List Str := ["self", "aisle", "height"]
abbrev P_House_places : List Str := ["self"]
abbrev nm_House_places := (defScope s_House_places).names
theorem sc_House_places : FnScope N_House_places P_House_places (defScope s_House_places) := ⟨rfl, rfl, rfl, by decide +kernel, rfl, by decide +kernel, by decide +kernel⟩
abbrev s_House_check_link : Stmt := inClass (top 11) 13
abbrev f_House_check_link (K : PySem.W.Frag) : Addr := He.ma K (He.ga K "House") "check_link"
abbrev N_House_check_link : List Str := ["self", "link"]
abbrev P_House_check_link : List Str := ["self", "link"]
abbrev nm_House_check_link := (defScope s_House_check_link).names
theorem sc_House_check_link : FnScope N_House_check_link P_House_check_link (defScope s_House_check_link) := ⟨rfl, rfl, rfl, by decide +kernel, rfl, by decide +kernel, by decide +kernel⟩
abbrev s_House_ends_of : Stmt := inClass (top 11) 14
abbrev f_House_ends_of (K : PySem.W.Frag) : Addr := He.ma K (He.ga K "House") "ends_of"
abbrev N_House_ends_of : List Str := ["self", "link", "word", "aisle", "height"]
abbrev P_House_ends_of : List Str := ["self", "link"]
abbrev nm_House_ends_of := (defScope s_House_ends_of).names
theorem sc_House_ends_of : FnScope N_House_ends_of P_House_ends_of (defScope s_House_ends_of) := ⟨rfl, rfl, rfl, by decide +kernel, rfl, by decide +kernel, by decide +kernel⟩
abbrev s_House_length_of : Stmt := inClass (top 11) 15
abbrev f_House_length_of (K : PySem.W.Frag) : Addr := He.ma K (He.ga K "House") "length_of"
abbrev N_House_length_of : List Str := ["self", "link"]
abbrev P_House_length_of : List Str := ["self", "link"]
abbrev nm_House_length_of := (defScope s_House_length_of).names
theorem sc_House_length_of : FnScope N_House_length_of P_House_length_of (defScope s_House_length_of) := ⟨rfl, rfl, rfl, by decide +kernel, rfl, by decide +kernel, by decide +kernel⟩
abbrev s_House_link_between : Stmt := inClass (top 11) 16
abbrev f_House_link_between (K : PySem.W.Frag) : Addr := He.ma K (He.ga K "House") "link_between"
abbrev N_House_link_between : List Str := ["self", "one", "other", "first", "second", "link"]
abbrev P_House_link_between : List Str := ["self", "one", "other"]
abbrev nm_House_link_between := (defScope s_House_link_between).names
theorem sc_House_link_between : FnScope N_House_link_between P_House_link_between (defScope s_House_link_between) := ⟨rfl, rfl, rfl, by decide +kernel, rfl, by decide +kernel, by decide +kernel⟩
abbrev s_House_beside : Stmt := inClass (top 11) 17
abbrev f_House_beside (K : PySem.W.Frag) : Addr := He.ma K (He.ga K "House") "beside"
abbrev N_House_beside : List Str := ["self", "place", "aisle", "height", "found", "other", "link"]
abbrev P_House_beside : List Str := ["self", "place"]
abbrev nm_House_beside := (defScope s_House_beside).names
theorem sc_House_beside : FnScope N_House_beside P_House_beside (defScope s_House_beside) := ⟨rfl, rfl, rfl, by decide +kernel, rfl, by decide +kernel, by decide +kernel⟩
abbrev s_XInvalidPlace : Stmt := inClass (top 5) 0
theorem xs_InvalidPlace : ExS s_XInvalidPlace "place" "place" := ⟨⟨_, _, _, _, _, _, _, _, _, _, _, _, rfl, rfl⟩, ⟨_, rfl, rfl⟩, NdefX.nscope_by (by decide +kernel), by decide +kernel, by decide, by decide, by decide⟩
/-- what the head tells -/
structure Fs (P : Program) (K : PySem.W.Frag) (mg : Str → Option Value) where
  d_are_lengths : FuncData
  F_are_lengths : FunD K "are_lengths" "are_lengths" (defArgs s_are_lengths) (defBody s_are_lengths) (defScope s_are_lengths) [] [] (He.ga K "are_lengths") d_are_lengths
  d_law_row : FuncData
  F_law_row : FunD K "_law_row" "_law_row" (defArgs s_law_row) (defBody s_law_row) (defScope s_law_row) [] [] (He.ga K "_law_row") d_law_row
  d_law_numbers : FuncData
  F_law_numbers : FunD K "_law_numbers" "_law_numbers" (defArgs s_law_numbers) (defBody s_law_numbers) (defScope s_law_numbers) [] [] (He.ga K "_law_numbers") d_law_numbers
  d_law_parts : FuncData
  F_law_parts : FunD K "_law_parts" "_law_parts" (defArgs s_law_parts) (defBody s_law_parts) (defScope s_law_parts) [] [] (He.ga K "_law_parts") d_law_parts
  d_law_crosses : FuncData
  F_law_crosses : FunD K "_law_crosses" "_law_crosses" (defArgs s_law_crosses) (defBody s_law_crosses) (defScope s_law_crosses) [] [] (He.ga K "_law_crosses") d_law_crosses
  d_law_aims : FuncData
  F_law_aims : FunD K "_law_aims" "_law_aims" (defArgs s_law_aims) (defBody s_law_aims) (defScope s_law_aims) [] [] (He.ga K "_law_aims") d_law_aims
  d_law_between : FuncData
  F_law_between : FunD K "_law_between" "_law_between" (defArgs s_law_between) (defBody s_law_between) (defScope s_law_between) [] [] (He.ga K "_law_between") d_law_between
  d_law_beside : FuncData
  F_law_beside : FunD K "_law_beside" "_law_beside" (defArgs s_law_beside) (defBody s_law_beside) (defScope s_law_beside) [] [] (He.ga K "_law_beside") d_law_beside
  d_law_refused : FuncData
  F_law_refused : FunD K "_law_refused" "_law_refused" (defArgs s_law_refused) (defBody s_law_refused) (defScope s_law_refused) [] [] (He.ga K "_law_refused") d_law_refused
  d_law : FuncData
  F_law : FunD K "law" "law" (defArgs s_law) (defBody s_law) (defScope s_law) [] [] (He.ga K "law") d_law
  d_House_init : FuncData
  F_House_init : FunD K "__init__" "House.__init__" (defArgs s_House_init) (defBody s_House_init) (defScope s_House_init) [] [] (He.ma K (He.ga K "House") "__init__") d_House_init
  d_House_lengths : FuncData
  F_House_lengths : FunD K "lengths" "House.lengths" (defArgs s_House_lengths) (defBody s_House_lengths) (defScope s_House_lengths) [] [] (prG K (He.ga K "House") "lengths") d_House_lengths
  d_House_gaps : FuncData
  F_House_gaps : FunD K "gaps" "House.gaps" (defArgs s_House_gaps) (defBody s_House_gaps) (defScope s_House_gaps) [] [] (prG K (He.ga K "House") "gaps") d_House_gaps
  d_House_closed : FuncData
  F_House_closed : FunD K "closed" "House.closed" (defArgs s_House_closed) (defBody s_House_closed) (defScope s_House_closed) [] [] (prG K (He.ga K "House") "closed") d_House_closed
  d_House_top : FuncData
  F_House_top : FunD K "top" "House.top" (defArgs s_House_top) (defBody s_House_top) (defScope s_House_top) [] [] (prG K (He.ga K "House") "top") d_House_top
  d_House_aisles : FuncData
  F_House_aisles : FunD K "aisles" "House.aisles" (defArgs s_House_aisles) (defBody s_House_aisles) (defScope s_House_aisles) [] [] (prG K (He.ga K "House") "aisles") d_House_aisles
  d_House_crosses : FuncData
  F_House_crosses : FunD K "crosses" "House.crosses" (defArgs s_House_crosses) (defBody s_House_crosses) (defScope s_House_crosses) [] [] (He.ma K (He.ga K "House") "crosses") d_House_crosses
  d_House_is_place : FuncData
  F_House_is_place : FunD K "is_place" "House.is_place" (defArgs s_House_is_place) (defBody s_House_is_place) (defScope s_House_is_place) [] [] (He.ma K (He.ga K "House") "is_place") d_House_is_place
  d_House_is_cross : FuncData
  F_House_is_cross : FunD K "is_cross" "House.is_cross" (defArgs s_House_is_cross) (defBody s_House_is_cross) (defScope s_House_is_cross) [] [] (He.ma K (He.ga K "House") "is_cross") d_House_is_cross
  d_House_is_link : FuncData
  F_House_is_link : FunD K "is_link" "House.is_link" (defArgs s_House_is_link) (defBody s_House_is_link) (defScope s_House_is_link) [] [] (He.ma K (He.ga K "House") "is_link") d_House_is_link
  d_House_is_closed : FuncData
  F_House_is_closed : FunD K "is_closed" "House.is_closed" (defArgs s_House_is_closed) (defBody s_House_is_closed) (defScope s_House_is_closed) [] [] (He.ma K (He.ga K "House") "is_closed") d_House_is_closed
  d_House_places : FuncData
  F_House_places : FunD K "places" "House.places" (defArgs s_House_places) (defBody s_House_places) (defScope s_House_places) [] [] (He.ma K (He.ga K "House") "places") d_House_places
  d_House_check_link : FuncData
  F_House_check_link : FunD K "check_link" "House.check_link" (defArgs s_House_check_link) (defBody s_House_check_link) (defScope s_House_check_link) [] [] (He.ma K (He.ga K "House") "check_link") d_House_check_link
  d_House_ends_of : FuncData
  F_House_ends_of : FunD K "ends_of" "House.ends_of" (defArgs s_House_ends_of) (defBody s_House_ends_of) (defScope s_House_ends_of) [] [] (He.ma K (He.ga K "House") "ends_of") d_House_ends_of
  d_House_length_of : FuncData
  F_House_length_of : FunD K "length_of" "House.length_of" (defArgs s_House_length_of) (defBody s_House_length_of) (defScope s_House_length_of) [] [] (He.ma K (He.ga K "House") "length_of") d_House_length_of
  d_House_link_between : FuncData
  F_House_link_between : FunD K "link_between" "House.link_between" (defArgs s_House_link_between) (defBody s_House_link_between) (defScope s_House_link_between) [] [] (He.ma K (He.ga K "House") "link_between") d_House_link_between
  d_House_beside : FuncData
  F_House_beside : FunD K "beside" "House.beside" (defArgs s_House_beside) (defBody s_House_beside) (defScope s_House_beside) [] [] (He.ma K (He.ga K "House") "beside") d_House_beside
  g_are_lengths : mg "are_lengths" = some (.ref (He.ga K "are_lengths"))
  g_law_row : mg "_law_row" = some (.ref (He.ga K "_law_row"))
  g_law_numbers : mg "_law_numbers" = some (.ref (He.ga K "_law_numbers"))
  g_law_parts : mg "_law_parts" = some (.ref (He.ga K "_law_parts"))
  g_law_crosses : mg "_law_crosses" = some (.ref (He.ga K "_law_crosses"))
  g_law_aims : mg "_law_aims" = some (.ref (He.ga K "_law_aims"))
  g_law_between : mg "_law_between" = some (.ref (He.ga K "_law_between"))
  g_law_beside : mg "_law_beside" = some (.ref (He.ga K "_law_beside"))
  g_law_refused : mg "_law_refused" = some (.ref (He.ga K "_law_refused"))
  g_law : mg "law" = some (.ref (He.ga K "law"))
  fr_ValueError : mg "ValueError" = none
  fr_abs : mg "abs" = none
  fr_all : mg "all" = none
  fr_int : mg "int" = none
  fr_len : mg "len" = none
  fr_list : mg "list" = none
  fr_max : mg "max" = none
  fr_property : mg "property" = none
  fr_range : mg "range" = none
  fr_sorted : mg "sorted" = none
  fr_sum : mg "sum" = none
  fr_super : mg "super" = none
  i_MOST_LENGTH : ∃ t, mg "MOST_LENGTH" = some (.int 40 t)
  i_MOST_GAPS : ∃ t, mg "MOST_GAPS" = some (.int 11 t)
  i_MOST_CLOSED : ∃ t, mg "MOST_CLOSED" = some (.int 200 t)
  g_PickError : mg "PickError" = some (.ref (He.ga K "PickError"))
  e_PickError : PySem.W.excIn K (He.ga K "PickError") He.veBase "ValueError.__new__" = true ∧ PySem.W.keepIn K (.ref (He.ga K "PickError")) = true ∧ PySem.W.subIn K (.ref (He.ga K "PickError")) (.type "BaseException") = some true ∧ PySem.W.typeIn K (.ref (He.ga K "PickError")) = some (.type "type")
  g_InvalidHouse : mg "InvalidHouse" = some (.ref (He.ga K "InvalidHouse"))
  e_InvalidHouse : PySem.W.excIn K (He.ga K "InvalidHouse") He.veBase "ValueError.__new__" = true ∧ PySem.W.keepIn K (.ref (He.ga K "InvalidHouse")) = true ∧ PySem.W.subIn K (.ref (He.ga K "InvalidHouse")) (.type "BaseException") = some true ∧ PySem.W.typeIn K (.ref (He.ga K "InvalidHouse")) = some (.type "type")
  x_InvalidHouse_InvalidPlace : PySem.W.exmOne K (.ref (He.ga K "InvalidHouse")) (.ref (He.ga K "InvalidPlace")) = some false
  g_InvalidLink : mg "InvalidLink" = some (.ref (He.ga K "InvalidLink"))
  e_InvalidLink : PySem.W.excIn K (He.ga K "InvalidLink") He.veBase "ValueError.__new__" = true ∧ PySem.W.keepIn K (.ref (He.ga K "InvalidLink")) = true ∧ PySem.W.subIn K (.ref (He.ga K "InvalidLink")) (.type "BaseException") = some true ∧ PySem.W.typeIn K (.ref (He.ga K "InvalidLink")) = some (.type "type")
  x_InvalidLink_InvalidPlace : PySem.W.exmOne K (.ref (He.ga K "InvalidLink")) (.ref (He.ga K "InvalidPlace")) = some false
  g_InvalidPlace : mg "InvalidPlace" = some (.ref (He.ga K "InvalidPlace"))
  e_InvalidPlace : True
  xk_InvalidPlace : Exk P K mg "InvalidPlace" "place" ∧ XfC K (He.ga K "InvalidPlace") ∧ PySem.W.findIn K (.ref (He.ga K "InvalidPlace")) "place" = some none
  x_InvalidPlace_InvalidPlace : PySem.W.exmOne K (.ref (He.ga K "InvalidPlace")) (.ref (He.ga K "InvalidPlace")) = some true
  g_House : mg "House" = some (.ref (He.ga K "House"))
  c_House : Cls K (He.ga K "House")
  a_House_lengths : NoAttr K (He.ga K "House") "_lengths"
  a_House_gaps : NoAttr K (He.ga K "House") "_gaps"
  a_House_closed : NoAttr K (He.ga K "House") "_closed"
  mk_House : Mk K (He.ga K "House") (He.ma K (He.ga K "House") "__init__")
  p_House_lengths : PropOf K (He.ga K "House") "lengths" (prA K (He.ga K "House") "lengths") (prG K (He.ga K "House") "lengths")
  p_House_gaps : PropOf K (He.ga K "House") "gaps" (prA K (He.ga K "House") "gaps") (prG K (He.ga K "House") "gaps")
  p_House_closed : PropOf K (He.ga K "House") "closed" (prA K (He.ga K "House") "closed") (prG K (He.ga K "House") "closed")
  p_House_top : PropOf K (He.ga K "House") "top" (prA K (He.ga K "House") "top") (prG K (He.ga K "House") "top")
  p_House_aisles : PropOf K (He.ga K "House") "aisles" (prA K (He.ga K "House") "aisles") (prG K (He.ga K "House") "aisles")
  m_House_crosses : Meth K (He.ga K "House") "crosses" (He.ma K (He.ga K "House") "crosses")
  m_House_is_place : Meth K (He.ga K "House") "is_place" (He.ma K (He.ga K "House") "is_place")
  m_House_is_cross : Meth K (He.ga K "House") "is_cross" (He.ma K (He.ga K "House") "is_cross")
  m_House_is_link : Meth K (He.ga K "House") "is_link" (He.ma K (He.ga K "House") "is_link")
  m_House_is_closed : Meth K (He.ga K "House") "is_closed" (He.ma K (He.ga K "House") "is_closed")
  m_House_places : Meth K (He.ga K "House") "places" (He.ma K (He.ga K "House") "places")
  m_House_check_link : Meth K (He.ga K "House") "check_link" (He.ma K (He.ga K "House") "check_link")
  m_House_ends_of : Meth K (He.ga K "House") "ends_of" (He.ma K (He.ga K "House") "ends_of")
  m_House_length_of : Meth K (He.ga K "House") "length_of" (He.ma K (He.ga K "House") "length_of")
  m_House_link_between : Meth K (He.ga K "House") "link_between" (He.ma K (He.ga K "House") "link_between")
  m_House_beside : Meth K (He.ga K "House") "beside" (He.ma K (He.ga K "House") "beside")
section
variable {P : Program} {K : PySem.W.Frag} {mg : Str → Option Value}
theorem Fs.b_are_lengths (S : Fs P K mg) : Binds K S.d_are_lengths P_are_lengths [] := S.F_are_lengths.bindsN fun _ _ _ _ _ _ us hl => match us, hl with | [_, _, _], _ => rfl
theorem Fs.b_law_row (S : Fs P K mg) : Binds K S.d_law_row P_law_row [] := S.F_law_row.bindsN fun _ _ _ _ _ _ us hl => match us, hl with | [_, _], _ => rfl
theorem Fs.b_law_numbers (S : Fs P K mg) : Binds K S.d_law_numbers P_law_numbers [] := S.F_law_numbers.bindsN fun _ _ _ _ _ _ us hl => match us, hl with | [_, _], _ => rfl
theorem Fs.b_law_parts (S : Fs P K mg) : Binds K S.d_law_parts P_law_parts [] := S.F_law_parts.bindsN fun _ _ _ _ _ _ us hl => match us, hl with | [_, _], _ => rfl
theorem Fs.b_law_crosses (S : Fs P K mg) : Binds K S.d_law_crosses P_law_crosses [] := S.F_law_crosses.bindsN fun _ _ _ _ _ _ us hl => match us, hl with | [_], _ => rfl
theorem Fs.b_law_aims (S : Fs P K mg) : Binds K S.d_law_aims P_law_aims [] := S.F_law_aims.bindsN fun _ _ _ _ _ _ us hl => match us, hl with | [_, _, _, _, _], _ => rfl
theorem Fs.b_law_between (S : Fs P K mg) : Binds K S.d_law_between P_law_between [] := S.F_law_between.bindsN fun _ _ _ _ _ _ us hl => match us, hl with | [_, _, _, _, _], _ => rfl
theorem Fs.b_law_beside (S : Fs P K mg) : Binds K S.d_law_beside P_law_beside [] := S.F_law_beside.bindsN fun _ _ _ _ _ _ us hl => match us, hl with | [_, _, _, _], _ => rfl
theorem Fs.b_law_refused (S : Fs P K mg) : Binds K S.d_law_refused P_law_refused [] := S.F_law_refused.bindsN fun _ _ _ _ _ _ us hl => match us, hl with | [_, _], _ => rfl
theorem Fs.b_law (S : Fs P K mg) : Binds K S.d_law P_law [] := S.F_law.bindsN fun _ _ _ _ _ _ us hl => match us, hl with | [_], _ => rfl
theorem Fs.b_House_init (S : Fs P K mg) : Binds K S.d_House_init P_House_init [] := S.F_House_init.bindsN fun _ _ _ _ _ _ us hl => match us, hl with | [_, _, _, _], _ => rfl
theorem Fs.b_House_lengths (S : Fs P K mg) : Binds K S.d_House_lengths P_House_lengths [] := S.F_House_lengths.bindsN fun _ _ _ _ _ _ us hl => match us, hl with | [_], _ => rfl
theorem Fs.b_House_gaps (S : Fs P K mg) : Binds K S.d_House_gaps P_House_gaps [] := S.F_House_gaps.bindsN fun _ _ _ _ _ _ us hl => match us, hl with | [_], _ => rfl
theorem Fs.b_House_closed (S : Fs P K mg) : Binds K S.d_House_closed P_House_closed [] := S.F_House_closed.bindsN fun _ _ _ _ _ _ us hl => match us, hl with | [_], _ => rfl
theorem Fs.b_House_top (S : Fs P K mg) : Binds K S.d_House_top P_House_top [] := S.F_House_top.bindsN fun _ _ _ _ _ _ us hl => match us, hl with | [_], _ => rfl
theorem Fs.b_House_aisles (S : Fs P K mg) : Binds K S.d_House_aisles P_House_aisles [] := S.F_House_aisles.bindsN fun _ _ _ _ _ _ us hl => match us, hl with | [_], _ => rfl
theorem Fs.b_House_crosses (S : Fs P K mg) : Binds K S.d_House_crosses P_House_crosses [] := S.F_House_crosses.bindsN fun _ _ _ _ _ _ us hl => match us, hl with | [_], _ => rfl
theorem Fs.b_House_is_place (S : Fs P K mg) : Binds K S.d_House_is_place P_House_is_place [] := S.F_House_is_place.bindsN fun _ _ _ _ _ _ us hl => match us, hl with | [_, _], _ => rfl
theorem Fs.b_House_is_cross (S : Fs P K mg) : Binds K S.d_House_is_cross P_House_is_cross [] := S.F_House_is_cross.bindsN fun _ _ _ _ _ _ us hl => match us, hl with | [_, _], _ => rfl
theorem Fs.b_House_is_link (S : Fs P K mg) : Binds K S.d_House_is_link P_House_is_link [] := S.F_House_is_link.bindsN fun _ _ _ _ _ _ us hl => match us, hl with | [_, _], _ => rfl
theorem Fs.b_House_is_closed (S : Fs P K mg) : Binds K S.d_House_is_closed P_House_is_closed [] := S.F_House_is_closed.bindsN fun _ _ _ _ _ _ us hl => match us, hl with | [_, _], _ => rfl
theorem Fs.b_House_places (S : Fs P K mg) : Binds K S.d_House_places P_House_places [] := S.F_House_places.bindsN fun _ _ _ _ _ _ us hl => match us, hl with | [_], _ => rfl
theorem Fs.b_House_check_link (S : Fs P K mg) : Binds K S.d_House_check_link P_House_check_link [] := S.F_House_check_link.bindsN fun _ _ _ _ _ _ us hl => match us, hl with | [_, _], _ => rfl
theorem Fs.b_House_ends_of (S : Fs P K mg) : Binds K S.d_House_ends_of P_House_ends_of [] := S.F_House_ends_of.bindsN fun _ _ _ _ _ _ us hl => match us, hl with | [_, _], _ => rfl
theorem Fs.b_House_length_of (S : Fs P K mg) : Binds K S.d_House_length_of P_House_length_of [] := S.F_House_length_of.bindsN fun _ _ _ _ _ _ us hl => match us, hl with | [_, _], _ => rfl
theorem Fs.b_House_link_between (S : Fs P K mg) : Binds K S.d_House_link_between P_House_link_between [] := S.F_House_link_between.bindsN fun _ _ _ _ _ _ us hl => match us, hl with | [_, _, _], _ => rfl
theorem Fs.b_House_beside (S : Fs P K mg) : Binds K S.d_House_beside P_House_beside [] := S.F_House_beside.bindsN fun _ _ _ _ _ _ us hl => match us, hl with | [_, _], _ => rfl
variable {w : World} {base : Heap} {j : Nat} {sp : Sp}
theorem Fs.df_are_lengths (S : Fs P K mg) (F : FnOk P w K mg base (L2.CX P w) j (f_are_lengths K) S.d_are_lengths P_are_lengths sp) : Dfk P w K mg base "are_lengths" j sp := ⟨⟨_, _, _, S.g_are_lengths, S.F_are_lengths.kp, S.b_are_lengths, F⟩⟩
theorem Fs.df_law_row (S : Fs P K mg) (F : FnOk P w K mg base (L2.CX P w) j (f_law_row K) S.d_law_row P_law_row sp) : Dfk P w K mg base "_law_row" j sp := ⟨⟨_, _, _, S.g_law_row, S.F_law_row.kp, S.b_law_row, F⟩⟩
theorem Fs.df_law_numbers (S : Fs P K mg) (F : FnOk P w K mg base (L2.CX P w) j (f_law_numbers K) S.d_law_numbers P_law_numbers sp) : Dfk P w K mg base "_law_numbers" j sp := ⟨⟨_, _, _, S.g_law_numbers, S.F_law_numbers.kp, S.b_law_numbers, F⟩⟩
theorem Fs.df_law_parts (S : Fs P K mg) (F : FnOk P w K mg base (L2.CX P w) j (f_law_parts K) S.d_law_parts P_law_parts sp) : Dfk P w K mg base "_law_parts" j sp := ⟨⟨_, _, _, S.g_law_parts, S.F_law_parts.kp, S.b_law_parts, F⟩⟩
theorem Fs.df_law_crosses (S : Fs P K mg) (F : FnOk P w K mg base (L2.CX P w) j (f_law_crosses K) S.d_law_crosses P_law_crosses sp) : Dfk P w K mg base "_law_crosses" j sp := ⟨⟨_, _, _, S.g_law_crosses, S.F_law_crosses.kp, S.b_law_crosses, F⟩⟩
theorem Fs.df_law_aims (S : Fs P K mg) (F : FnOk P w K mg base (L2.CX P w) j (f_law_aims K) S.d_law_aims P_law_aims sp) : Dfk P w K mg base "_law_aims" j sp := ⟨⟨_, _, _, S.g_law_aims, S.F_law_aims.kp, S.b_law_aims, F⟩⟩
theorem Fs.df_law_between (S : Fs P K mg) (F : FnOk P w K mg base (L2.CX P w) j (f_law_between K) S.d_law_between P_law_between sp) : Dfk P w K mg base "_law_between" j sp := ⟨⟨_, _, _, S.g_law_between, S.F_law_between.kp, S.b_law_between, F⟩⟩
theorem Fs.df_law_beside (S : Fs P K mg) (F : FnOk P w K mg base (L2.CX P w) j (f_law_beside K) S.d_law_beside P_law_beside sp) : Dfk P w K mg base "_law_beside" j sp := ⟨⟨_, _, _, S.g_law_beside, S.F_law_beside.kp, S.b_law_beside, F⟩⟩
theorem Fs.df_law_refused (S : Fs P K mg) (F : FnOk P w K mg base (L2.CX P w) j (f_law_refused K) S.d_law_refused P_law_refused sp) : Dfk P w K mg base "_law_refused" j sp := ⟨⟨_, _, _, S.g_law_refused, S.F_law_refused.kp, S.b_law_refused, F⟩⟩
theorem Fs.df_law (S : Fs P K mg) (F : FnOk P w K mg base (L2.CX P w) j (f_law K) S.d_law P_law sp) : Dfk P w K mg base "law" j sp := ⟨⟨_, _, _, S.g_law, S.F_law.kp, S.b_law, F⟩⟩
theorem Fs.mkk_House (S : Fs P K mg) (F : FnOk P w K mg base (L2.CX P w) j (f_House_init K) S.d_House_init P_House_init sp) : Mkk P w K mg base "House" (He.ga K "House") j sp := ⟨⟨_, _, _, S.g_House, S.mk_House, S.b_House_init, F⟩⟩
theorem Fs.pr_House_lengths (S : Fs P K mg) (F : FnOk P w K mg base (L2.CX P w) j (f_House_lengths K) S.d_House_lengths P_House_lengths sp) : Prk P w K mg base (He.ga K "House") "lengths" j sp := ⟨⟨_, _, _, _, S.c_House, S.p_House_lengths, S.b_House_lengths, F⟩⟩
theorem Fs.pr_House_gaps (S : Fs P K mg) (F : FnOk P w K mg base (L2.CX P w) j (f_House_gaps K) S.d_House_gaps P_House_gaps sp) : Prk P w K mg base (He.ga K "House") "gaps" j sp := ⟨⟨_, _, _, _, S.c_House, S.p_House_gaps, S.b_House_gaps, F⟩⟩
theorem Fs.pr_House_closed (S : Fs P K mg) (F : FnOk P w K mg base (L2.CX P w) j (f_House_closed K) S.d_House_closed P_House_closed sp) : Prk P w K mg base (He.ga K "House") "closed" j sp := ⟨⟨_, _, _, _, S.c_House, S.p_House_closed, S.b_House_closed, F⟩⟩
theorem Fs.pr_House_top (S : Fs P K mg) (F : FnOk P w K mg base (L2.CX P w) j (f_House_top K) S.d_House_top P_House_top sp) : Prk P w K mg base (He.ga K "House") "top" j sp := ⟨⟨_, _, _, _, S.c_House, S.p_House_top, S.b_House_top, F⟩⟩
theorem Fs.pr_House_aisles (S : Fs P K mg) (F : FnOk P w K mg base (L2.CX P w) j (f_House_aisles K) S.d_House_aisles P_House_aisles sp) : Prk P w K mg base (He.ga K "House") "aisles" j sp := ⟨⟨_, _, _, _, S.c_House, S.p_House_aisles, S.b_House_aisles, F⟩⟩
theorem Fs.mt_House_crosses (S : Fs P K mg) (F : FnOk P w K mg base (L2.CX P w) j (f_House_crosses K) S.d_House_crosses P_House_crosses sp) : Mtk P w K mg base (He.ga K "House") "crosses" j sp := ⟨⟨_, _, _, S.c_House, S.m_House_crosses, S.b_House_crosses, F⟩⟩
theorem Fs.mt_House_is_place (S : Fs P K mg) (F : FnOk P w K mg base (L2.CX P w) j (f_House_is_place K) S.d_House_is_place P_House_is_place sp) : Mtk P w K mg base (He.ga K "House") "is_place" j sp := ⟨⟨_, _, _, S.c_House, S.m_House_is_place, S.b_House_is_place, F⟩⟩
theorem Fs.mt_House_is_cross (S : Fs P K mg) (F : FnOk P w K mg base (L2.CX P w) j (f_House_is_cross K) S.d_House_is_cross P_House_is_cross sp) : Mtk P w K mg base (He.ga K "House") "is_cross" j sp := ⟨⟨_, _, _, S.c_House, S.m_House_is_cross, S.b_House_is_cross, F⟩⟩
theorem Fs.mt_House_is_link (S : Fs P K mg) (F : FnOk P w K mg base (L2.CX P w) j (f_House_is_link K) S.d_House_is_link P_House_is_link sp) : Mtk P w K mg base (He.ga K "House") "is_link" j sp := ⟨⟨_, _, _, S.c_House, S.m_House_is_link, S.b_House_is_link, F⟩⟩
theorem Fs.mt_House_is_closed (S : Fs P K mg) (F : FnOk P w K mg base (L2.CX P w) j (f_House_is_closed K) S.d_House_is_closed P_House_is_closed sp) : Mtk P w K mg base (He.ga K "House") "is_closed" j sp := ⟨⟨_, _, _, S.c_House, S.m_House_is_closed, S.b_House_is_closed, F⟩⟩
theorem Fs.mt_House_places (S : Fs P K mg) (F : FnOk P w K mg base (L2.CX P w) j (f_House_places K) S.d_House_places P_House_places sp) : Mtk P w K mg base (He.ga K "House") "places" j sp := ⟨⟨_, _, _, S.c_House, S.m_House_places, S.b_House_places, F⟩⟩
theorem Fs.mt_House_check_link (S : Fs P K mg) (F : FnOk P w K mg base (L2.CX P w) j (f_House_check_link K) S.d_House_check_link P_House_check_link sp) : Mtk P w K mg base (He.ga K "House") "check_link" j sp := ⟨⟨_, _, _, S.c_House, S.m_House_check_link, S.b_House_check_link, F⟩⟩
theorem Fs.mt_House_ends_of (S : Fs P K mg) (F : FnOk P w K mg base (L2.CX P w) j (f_House_ends_of K) S.d_House_ends_of P_House_ends_of sp) : Mtk P w K mg base (He.ga K "House") "ends_of" j sp := ⟨⟨_, _, _, S.c_House, S.m_House_ends_of, S.b_House_ends_of, F⟩⟩
theorem Fs.mt_House_length_of (S : Fs P K mg) (F : FnOk P w K mg base (L2.CX P w) j (f_House_length_of K) S.d_House_length_of P_House_length_of sp) : Mtk P w K mg base (He.ga K "House") "length_of" j sp := ⟨⟨_, _, _, S.c_House, S.m_House_length_of, S.b_House_length_of, F⟩⟩
theorem Fs.mt_House_link_between (S : Fs P K mg) (F : FnOk P w K mg base (L2.CX P w) j (f_House_link_between K) S.d_House_link_between P_House_link_between sp) : Mtk P w K mg base (He.ga K "House") "link_between" j sp := ⟨⟨_, _, _, S.c_House, S.m_House_link_between, S.b_House_link_between, F⟩⟩
theorem Fs.mt_House_beside (S : Fs P K mg) (F : FnOk P w K mg base (L2.CX P w) j (f_House_beside K) S.d_House_beside P_House_beside sp) : Mtk P w K mg base (He.ga K "House") "beside" j sp := ⟨⟨_, _, _, S.c_House, S.m_House_beside, S.b_House_beside, F⟩⟩
end
def fn : List DfQ := [⟨fun K => He.ga K "are_lengths", "are_lengths", "are_lengths", s_are_lengths, false⟩, ⟨fun K => He.ga K "_law_row", "_law_row", "_law_row", s_law_row, false⟩, ⟨fun K => He.ga K "_law_numbers", "_law_numbers", "_law_numbers", s_law_numbers, false⟩, ⟨fun K => He.ga K "_law_parts", "_law_parts", "_law_parts", s_law_parts, false⟩, ⟨fun K => He.ga K "_law_crosses", "_law_crosses", "_law_crosses", s_law_crosses, false⟩, ⟨fun K => He.ga K "_law_aims", "_law_aims", "_law_aims", s_law_aims, false⟩, ⟨fun K => He.ga K "_law_between", "_law_between", "_law_between", s_law_between, false⟩, ⟨fun K => He.ga K "_law_beside", "_law_beside", "_law_beside", s_law_beside, false⟩, ⟨fun K => He.ga K "_law_refused", "_law_refused", "_law_refused", s_law_refused, false⟩, ⟨fun K => He.ga K "law", "law", "law", s_law, false⟩, ⟨fun K => He.ma K (He.ga K "House") "__init__", "__init__", "House.__init__", s_House_init, false⟩, ⟨fun K => prG K (He.ga K "House") "lengths", "lengths", "House.lengths", s_House_lengths, false⟩, ⟨fun K => prG K (He.ga K "House") "gaps", "gaps", "House.gaps", s_House_gaps, false⟩, ⟨fun K => prG K (He.ga K "House") "closed", "closed", "House.closed", s_House_closed, false⟩, ⟨fun K => prG K (He.ga K "House") "top", "top", "House.top", s_House_top, false⟩, ⟨fun K => prG K (He.ga K "House") "aisles", "aisles", "House.aisles", s_House_aisles, false⟩, ⟨fun K => He.ma K (He.ga K "House") "crosses", "crosses", "House.crosses", s_House_crosses, false⟩, ⟨fun K => He.ma K (He.ga K "House") "is_place", "is_place", "House.is_place", s_House_is_place, false⟩, ⟨fun K => He.ma K (He.ga K "House") "is_cross", "is_cross", "House.is_cross", s_House_is_cross, false⟩, ⟨fun K => He.ma K (He.ga K "House") "is_link", "is_link", "House.is_link", s_House_is_link, false⟩, ⟨fun K => He.ma K (He.ga K "House") "is_closed", "is_closed", "House.is_closed", s_House_is_closed, false⟩, ⟨fun K => He.ma K (He.ga K "House") "places", "places", "House.places", s_House_places, false⟩, ⟨fun K => He.ma K (He.ga K "House") "check_link", "check_link", "House.check_link", s_House_check_link, false⟩, ⟨fun K => He.ma K (He.ga K "House") "ends_of", "ends_of", "House.ends_of", s_House_ends_of, false⟩, ⟨fun K => He.ma K (He.ga K "House") "length_of", "length_of", "House.length_of", s_House_length_of, false⟩, ⟨fun K => He.ma K (He.ga K "House") "link_between", "link_between", "House.link_between", s_House_link_between, false⟩, ⟨fun K => He.ma K (He.ga K "House") "beside", "beside", "House.beside", s_House_beside, false⟩, ⟨fun K => He.ma K (He.ga K "InvalidPlace") "__init__", "__init__", "InvalidPlace.__init__", s_XInvalidPlace, true⟩]
def okL (K : PySem.W.Frag) : List Bool := [(He.Fa.glo "are_lengths").ok K, (He.Fa.glo "_law_row").ok K, (He.Fa.glo "_law_numbers").ok K, (He.Fa.glo "_law_parts").ok K, (He.Fa.glo "_law_crosses").ok K, (He.Fa.glo "_law_aims").ok K, (He.Fa.glo "_law_between").ok K, (He.Fa.glo "_law_beside").ok K, (He.Fa.glo "_law_refused").ok K, (He.Fa.glo "law").ok K, (He.Fa.free "ValueError").ok K, (He.Fa.free "abs").ok K, (He.Fa.free "all").ok K, (He.Fa.free "int").ok K, (He.Fa.free "len").ok K, (He.Fa.free "list").ok K, (He.Fa.free "max").ok K, (He.Fa.free "property").ok K, (He.Fa.free "range").ok K, (He.Fa.free "sorted").ok K, (He.Fa.free "sum").ok K, (He.Fa.free "super").ok K, (He.Fa.int "MOST_LENGTH" 40).ok K, (He.Fa.int "MOST_GAPS" 11).ok K, (He.Fa.int "MOST_CLOSED" 200).ok K, (He.Fa.glo "PickError").ok K, (He.Fa.exc "PickError").ok K, (He.Fa.glo "InvalidHouse").ok K, (He.Fa.exc "InvalidHouse").ok K, (He.Fa.exm "InvalidHouse" "InvalidPlace" false).ok K] ++ [(He.Fa.glo "InvalidLink").ok K, (He.Fa.exc "InvalidLink").ok K, (He.Fa.exm "InvalidLink" "InvalidPlace" false).ok K, (He.Fa.glo "InvalidPlace").ok K, true, exiB P0 K "InvalidPlace" "place", (He.Fa.exm "InvalidPlace" "InvalidPlace" true).ok K, (He.Fa.glo "House").ok K, (He.Fa.cls "House").ok K, (He.Fa.noat "House" "_lengths").ok K, (He.Fa.noat "House" "_gaps").ok K, (He.Fa.noat "House" "_closed").ok K, (He.Fa.mkr "House").ok K, prB K (He.ga K "House") "lengths", prB K (He.ga K "House") "gaps", prB K (He.ga K "House") "closed", prB K (He.ga K "House") "top", prB K (He.ga K "House") "aisles", (He.Fa.meth "House" "crosses").ok K, (He.Fa.meth "House" "is_place").ok K, (He.Fa.meth "House" "is_cross").ok K, (He.Fa.meth "House" "is_link").ok K, (He.Fa.meth "House" "is_closed").ok K, (He.Fa.meth "House" "places").ok K, (He.Fa.meth "House" "check_link").ok K, (He.Fa.meth "House" "ends_of").ok K, (He.Fa.meth "House" "length_of").ok K, (He.Fa.meth "House" "link_between").ok K, (He.Fa.meth "House" "beside").ok K]
def ok (K : PySem.W.Frag) : Bool := (okL K).all id
theorem okAt {K : PySem.W.Frag} (h : ok K = true) (i : Nat) {b : Bool} (e : (okL K)[i]? = some b) : b = true := List.all_eq_true.mp h b (List.mem_of_getElem? e)
theorem facts {K : PySem.W.Frag} {h : Heap} {mg : Str → Option Value} (X : K.In h) (G : h.Ns mainGlobals mg) (c : SaysQ ok fn K) : Nonempty (Fs P0 K mg) := by
  obtain ⟨d_are_lengths, F_are_lengths⟩ := c.def_ 0 rfl
  obtain ⟨d_law_row, F_law_row⟩ := c.def_ 1 rfl
  obtain ⟨d_law_numbers, F_law_numbers⟩ := c.def_ 2 rfl
  obtain ⟨d_law_parts, F_law_parts⟩ := c.def_ 3 rfl
  obtain ⟨d_law_crosses, F_law_crosses⟩ := c.def_ 4 rfl
  obtain ⟨d_law_aims, F_law_aims⟩ := c.def_ 5 rfl
  obtain ⟨d_law_between, F_law_between⟩ := c.def_ 6 rfl
  obtain ⟨d_law_beside, F_law_beside⟩ := c.def_ 7 rfl
  obtain ⟨d_law_refused, F_law_refused⟩ := c.def_ 8 rfl
  obtain ⟨d_law, F_law⟩ := c.def_ 9 rfl
  obtain ⟨d_House_init, F_House_init⟩ := c.def_ 10 rfl
  obtain ⟨d_House_lengths, F_House_lengths⟩ := c.def_ 11 rfl
  obtain ⟨d_House_gaps, F_House_gaps⟩ := c.def_ 12 rfl
  obtain ⟨d_House_closed, F_House_closed⟩ := c.def_ 13 rfl
  obtain ⟨d_House_top, F_House_top⟩ := c.def_ 14 rfl
  obtain ⟨d_House_aisles, F_House_aisles⟩ := c.def_ 15 rfl
  obtain ⟨d_House_crosses, F_House_crosses⟩ := c.def_ 16 rfl
  obtain ⟨d_House_is_place, F_House_is_place⟩ := c.def_ 17 rfl
  obtain ⟨d_House_is_cross, F_House_is_cross⟩ := c.def_ 18 rfl
  obtain ⟨d_House_is_link, F_House_is_link⟩ := c.def_ 19 rfl
  obtain ⟨d_House_is_closed, F_House_is_closed⟩ := c.def_ 20 rfl
  obtain ⟨d_House_places, F_House_places⟩ := c.def_ 21 rfl
  obtain ⟨d_House_check_link, F_House_check_link⟩ := c.def_ 22 rfl
  obtain ⟨d_House_ends_of, F_House_ends_of⟩ := c.def_ 23 rfl
  obtain ⟨d_House_length_of, F_House_length_of⟩ := c.def_ 24 rfl
  obtain ⟨d_House_link_between, F_House_link_between⟩ := c.def_ 25 rfl
  obtain ⟨d_House_beside, F_House_beside⟩ := c.def_ 26 rfl
  have z := c.ok
  exact ⟨{
    d_are_lengths := d_are_lengths, F_are_lengths := F_are_lengths,
    d_law_row := d_law_row, F_law_row := F_law_row,
    d_law_numbers := d_law_numbers, F_law_numbers := F_law_numbers,
    d_law_parts := d_law_parts, F_law_parts := F_law_parts,
    d_law_crosses := d_law_crosses, F_law_crosses := F_law_crosses,
    d_law_aims := d_law_aims, F_law_aims := F_law_aims,
    d_law_between := d_law_between, F_law_between := F_law_between,
    d_law_beside := d_law_beside, F_law_beside := F_law_beside,
    d_law_refused := d_law_refused, F_law_refused := F_law_refused,
    d_law := d_law, F_law := F_law,
    d_House_init := d_House_init, F_House_init := F_House_init,
    d_House_lengths := d_House_lengths, F_House_lengths := F_House_lengths,
    d_House_gaps := d_House_gaps, F_House_gaps := F_House_gaps,
    d_House_closed := d_House_closed, F_House_closed := F_House_closed,
    d_House_top := d_House_top, F_House_top := F_House_top,
    d_House_aisles := d_House_aisles, F_House_aisles := F_House_aisles,
    d_House_crosses := d_House_crosses, F_House_crosses := F_House_crosses,
    d_House_is_place := d_House_is_place, F_House_is_place := F_House_is_place,
    d_House_is_cross := d_House_is_cross, F_House_is_cross := F_House_is_cross,
    d_House_is_link := d_House_is_link, F_House_is_link := F_House_is_link,
    d_House_is_closed := d_House_is_closed, F_House_is_closed := F_House_is_closed,
    d_House_places := d_House_places, F_House_places := F_House_places,
    d_House_check_link := d_House_check_link, F_House_check_link := F_House_check_link,
    d_House_ends_of := d_House_ends_of, F_House_ends_of := F_House_ends_of,
    d_House_length_of := d_House_length_of, F_House_length_of := F_House_length_of,
    d_House_link_between := d_House_link_between, F_House_link_between := F_House_link_between,
    d_House_beside := d_House_beside, F_House_beside := F_House_beside,
    g_are_lengths := (fun h => He.glo_ok X G h) (okAt z 0 (b := (He.Fa.glo "are_lengths").ok K) rfl),
    g_law_row := (fun h => He.glo_ok X G h) (okAt z 1 (b := (He.Fa.glo "_law_row").ok K) rfl),
    g_law_numbers := (fun h => He.glo_ok X G h) (okAt z 2 (b := (He.Fa.glo "_law_numbers").ok K) rfl),
    g_law_parts := (fun h => He.glo_ok X G h) (okAt z 3 (b := (He.Fa.glo "_law_parts").ok K) rfl),
    g_law_crosses := (fun h => He.glo_ok X G h) (okAt z 4 (b := (He.Fa.glo "_law_crosses").ok K) rfl),
    g_law_aims := (fun h => He.glo_ok X G h) (okAt z 5 (b := (He.Fa.glo "_law_aims").ok K) rfl),
    g_law_between := (fun h => He.glo_ok X G h) (okAt z 6 (b := (He.Fa.glo "_law_between").ok K) rfl),
    g_law_beside := (fun h => He.glo_ok X G h) (okAt z 7 (b := (He.Fa.glo "_law_beside").ok K) rfl),
    g_law_refused := (fun h => He.glo_ok X G h) (okAt z 8 (b := (He.Fa.glo "_law_refused").ok K) rfl),
    g_law := (fun h => He.glo_ok X G h) (okAt z 9 (b := (He.Fa.glo "law").ok K) rfl),
    fr_ValueError := (fun h => He.free_ok X G h) (okAt z 10 (b := (He.Fa.free "ValueError").ok K) rfl),
    fr_abs := (fun h => He.free_ok X G h) (okAt z 11 (b := (He.Fa.free "abs").ok K) rfl),
    fr_all := (fun h => He.free_ok X G h) (okAt z 12 (b := (He.Fa.free "all").ok K) rfl),
    fr_int := (fun h => He.free_ok X G h) (okAt z 13 (b := (He.Fa.free "int").ok K) rfl),
    fr_len := (fun h => He.free_ok X G h) (okAt z 14 (b := (He.Fa.free "len").ok K) rfl),
    fr_list := (fun h => He.free_ok X G h) (okAt z 15 (b := (He.Fa.free "list").ok K) rfl),
    fr_max := (fun h => He.free_ok X G h) (okAt z 16 (b := (He.Fa.free "max").ok K) rfl),
    fr_property := (fun h => He.free_ok X G h) (okAt z 17 (b := (He.Fa.free "property").ok K) rfl),
    fr_range := (fun h => He.free_ok X G h) (okAt z 18 (b := (He.Fa.free "range").ok K) rfl),
    fr_sorted := (fun h => He.free_ok X G h) (okAt z 19 (b := (He.Fa.free "sorted").ok K) rfl),
    fr_sum := (fun h => He.free_ok X G h) (okAt z 20 (b := (He.Fa.free "sum").ok K) rfl),
    fr_super := (fun h => He.free_ok X G h) (okAt z 21 (b := (He.Fa.free "super").ok K) rfl),
    i_MOST_LENGTH := (fun h => He.int_ok X G h) (okAt z 22 (b := (He.Fa.int "MOST_LENGTH" 40).ok K) rfl),
    i_MOST_GAPS := (fun h => He.int_ok X G h) (okAt z 23 (b := (He.Fa.int "MOST_GAPS" 11).ok K) rfl),
    i_MOST_CLOSED := (fun h => He.int_ok X G h) (okAt z 24 (b := (He.Fa.int "MOST_CLOSED" 200).ok K) rfl),
    g_PickError := (fun h => He.glo_ok X G h) (okAt z 25 (b := (He.Fa.glo "PickError").ok K) rfl),
    e_PickError := (fun h => He.exc_ok h) (okAt z 26 (b := (He.Fa.exc "PickError").ok K) rfl),
    g_InvalidHouse := (fun h => He.glo_ok X G h) (okAt z 27 (b := (He.Fa.glo "InvalidHouse").ok K) rfl),
    e_InvalidHouse := (fun h => He.exc_ok h) (okAt z 28 (b := (He.Fa.exc "InvalidHouse").ok K) rfl),
    x_InvalidHouse_InvalidPlace := (fun h => He.exm_ok h) (okAt z 29 (b := (He.Fa.exm "InvalidHouse" "InvalidPlace" false).ok K) rfl),
    g_InvalidLink := (fun h => He.glo_ok X G h) (okAt z 30 (b := (He.Fa.glo "InvalidLink").ok K) rfl),
    e_InvalidLink := (fun h => He.exc_ok h) (okAt z 31 (b := (He.Fa.exc "InvalidLink").ok K) rfl),
    x_InvalidLink_InvalidPlace := (fun h => He.exm_ok h) (okAt z 32 (b := (He.Fa.exm "InvalidLink" "InvalidPlace" false).ok K) rfl),
    g_InvalidPlace := (fun h => He.glo_ok X G h) (okAt z 33 (b := (He.Fa.glo "InvalidPlace").ok K) rfl),
    e_InvalidPlace := (fun h => trivial) (okAt z 34 (b := true) rfl),
    xk_InvalidPlace := (fun h => exk_of X G (c.init_ 27 rfl) xs_InvalidPlace rfl (He.glo_ok X G (okAt z 33 (b := (He.Fa.glo "InvalidPlace").ok K) rfl)) (fun _ _ _ _ _ _ _ us hl => match us, hl with | [_, _], _ => rfl) h) (okAt z 35 (b := exiB P0 K "InvalidPlace" "place") rfl),
    x_InvalidPlace_InvalidPlace := (fun h => He.exm_ok h) (okAt z 36 (b := (He.Fa.exm "InvalidPlace" "InvalidPlace" true).ok K) rfl),
    g_House := (fun h => He.glo_ok X G h) (okAt z 37 (b := (He.Fa.glo "House").ok K) rfl),
    c_House := (fun h => He.cls_ok h) (okAt z 38 (b := (He.Fa.cls "House").ok K) rfl),
    a_House_lengths := (fun h => He.noat_ok h) (okAt z 39 (b := (He.Fa.noat "House" "_lengths").ok K) rfl),
    a_House_gaps := (fun h => He.noat_ok h) (okAt z 40 (b := (He.Fa.noat "House" "_gaps").ok K) rfl),
    a_House_closed := (fun h => He.noat_ok h) (okAt z 41 (b := (He.Fa.noat "House" "_closed").ok K) rfl),
    mk_House := (fun h => He.mkr_ok h) (okAt z 42 (b := (He.Fa.mkr "House").ok K) rfl),
    p_House_lengths := (fun h => prB_ok h) (okAt z 43 (b := prB K (He.ga K "House") "lengths") rfl),
    p_House_gaps := (fun h => prB_ok h) (okAt z 44 (b := prB K (He.ga K "House") "gaps") rfl),
    p_House_closed := (fun h => prB_ok h) (okAt z 45 (b := prB K (He.ga K "House") "closed") rfl),
    p_House_top := (fun h => prB_ok h) (okAt z 46 (b := prB K (He.ga K "House") "top") rfl),
    p_House_aisles := (fun h => prB_ok h) (okAt z 47 (b := prB K (He.ga K "House") "aisles") rfl),
    m_House_crosses := (fun h => He.meth_ok h) (okAt z 48 (b := (He.Fa.meth "House" "crosses").ok K) rfl),
    m_House_is_place := (fun h => He.meth_ok h) (okAt z 49 (b := (He.Fa.meth "House" "is_place").ok K) rfl),
    m_House_is_cross := (fun h => He.meth_ok h) (okAt z 50 (b := (He.Fa.meth "House" "is_cross").ok K) rfl),
    m_House_is_link := (fun h => He.meth_ok h) (okAt z 51 (b := (He.Fa.meth "House" "is_link").ok K) rfl),
    m_House_is_closed := (fun h => He.meth_ok h) (okAt z 52 (b := (He.Fa.meth "House" "is_closed").ok K) rfl),
    m_House_places := (fun h => He.meth_ok h) (okAt z 53 (b := (He.Fa.meth "House" "places").ok K) rfl),
    m_House_check_link := (fun h => He.meth_ok h) (okAt z 54 (b := (He.Fa.meth "House" "check_link").ok K) rfl),
    m_House_ends_of := (fun h => He.meth_ok h) (okAt z 55 (b := (He.Fa.meth "House" "ends_of").ok K) rfl),
    m_House_length_of := (fun h => He.meth_ok h) (okAt z 56 (b := (He.Fa.meth "House" "length_of").ok K) rfl),
    m_House_link_between := (fun h => He.meth_ok h) (okAt z 57 (b := (He.Fa.meth "House" "link_between").ok K) rfl),
    m_House_beside := (fun h => He.meth_ok h) (okAt z 58 (b := (He.Fa.meth "House" "beside").ok K) rfl) }⟩
noncomputable section
def m_are_lengths (p_numbers : Val) (p_least : Val) (p_most : Val) : Rs Val :=
  ((((lenV p_numbers) >>= fun x1 => (chV leI leI p_least x1 (Rs.ok p_most))) >>= fun x => if x then ((((walkV p_numbers) >>= fun xs => chk (decide (xs.length ≤ BIG)) >>= fun _ => lcM Rs.ok (fun y3 : Val => Rs.ok true) (fun y3 : Val => ((chV leI leI (.int 1) y3 (Rs.ok (.int 40))) >>= fun b => Rs.ok (.bool b))) xs) >>= fun l => Rs.ok (.list l)) >>= fun x4 => (allV x4)) else Rs.ok false) >>= fun b => Rs.ok (.bool b)).ne
theorem fn_are_lengths {P : Program} {w : World} {K : PySem.W.Frag} {mg : Str → Option Value} {base : Heap} (S : Fs P K mg) (p_numbers : Val) (p_least : Val) (p_most : Val) : FnOk P w K mg base (L2.CX P w) 1 (f_are_lengths K) S.d_are_lengths P_are_lengths (spU (tx w K) [hV (tx w K) p_numbers, hV (tx w K) p_least, rD (tx w K) p_most] (m_are_lengths p_numbers p_least p_most)) := by
  refine fn_u (nm := nm_are_lengths) (n := 1) S.F_are_lengths sc_are_lengths rfl (.hV (.hV (.cons .nil))) rfl rfl (fun X W D hP hw hK hmg hbase xb hn q => ?_)
  subst hP hw hK hmg hbase
  have xc := xb.toXC
  have xv := xc.toXV
  obtain ⟨t_MOST_LENGTH, h_MOST_LENGTH⟩ := S.i_MOST_LENGTH
  refine (show BlM X W D .tt [vl (bV (tx X.w X.K) p_numbers), vl (bV (tx X.w X.K) p_least), vl (rD (tx X.w X.K) p_most), .no] (defBody s_are_lengths) (m_are_lengths p_numbers p_least p_most) (fun v => RetV W D (rD (tx X.w X.K) v)) (Zx (tx X.w X.K) X W) from ?_) q
  clear q
  delta m_are_lengths
  exact blm_ret (T := tx X.w X.K) (evd_ofB (evp_and (evp_bind (evd_len (xv.bl S.fr_len) (ev_hbv (v_ xv 0))) fun x1 h2 => (evd_ch op_le op_le (ev_hbv (v_ xv 1)) (ev_hv h2) (evd_ok (v_ xv 2)))) (evp_one (evp_bind (evd_fz (eop_map (f := Val.list) (eom_lc [("number", 3)] xc (evwd (v_ xv 0)) (fun y3 : Val => [vl (bV (tx X.w X.K) p_numbers), vl (bV (tx X.w X.K) p_least), vl (rD (tx X.w X.K) p_most), vl (rD (tx X.w X.K) y3)]) (fun s H C cl fp xc3 => (tgm_name xc3.toXV 3 (hf := .inr (xc3.toXV.only (by decide +kernel))))) (fun s H C cl fp xc3 y3 => vvm_nil) (fun s H C cl fp xc3 y3 => (evd_ofB (evd_ch op_le op_le (ev_hv ev_int) (ev_hv (v_ xc3.toXV 3)) (evd_ok (ev_gint (hm := h_MOST_LENGTH) (hg := xc3.toXV.gl (by decide +kernel)))))))))) fun x4 h5 => (evd_all xc (xv.bl S.fr_all) (ev_hv h5)))))) (fun _ z => z)
def m_law_row (p_cell : Val) (p_many : Val) : Rs Val :=
  ((Rs.ok (.list [])).ne >>= fun x6 => ((Rs.ok (.int 0)).ne >>= fun x7 => (((absV p_cell) >>= fun x8 => ((powV (.int 10) (.int 18)) >>= fun x10 => (cmpI geI x8 x10))).ne >>= fun x => (if x then ((absV p_cell).ne >>= fun x13 => Rs.ok x13) else Rs.ok x7) >>= fun s12 : Val => (((absV p_cell) >>= fun x15 => ((intV x15) >>= fun x17 => (modV x17 (.int 2147483647)))).ne >>= fun x14 => ((rng1V p_many).ne >>= fun ws => forL (fun (s19 : Val × Val × Val) x => (Rs.ok x).ne >>= fun y21 : Val => (((addV s19.2.2 (.int 1)) >>= fun x23 => ((mulV x23 (.int 48271)) >>= fun x25 => ((mulV (.int 69621) y21) >>= fun x27 => ((addV x25 x27) >>= fun x29 => ((intV x29) >>= fun x31 => (modV x31 (.int 2147483647))))))).ne >>= fun x22 => ((cmpI gtI s19.2.1 (.int 0)).ne >>= fun x => if x then (((((intV s19.2.1) >>= fun x33 => (modV x33 (.int 1009))) >>= fun v => appV s19.1 v).ne) >>= fun x35 => ((fdivV s19.2.1 (.int 1009)).ne >>= fun x36 => Rs.ok (.go (x35, x36, x22)))) else (((((fdivV x22 (.int 2048)) >>= fun x37 => ((intV x37) >>= fun x39 => (modV x39 (.int 1009)))) >>= fun v => appV s19.1 v).ne) >>= fun x41 => Rs.ok (.go (x41, s19.2.1, x22)))))) ws (x6, s12, x14) >>= fun r => thenF r (fun s19 => (Rs.ok s19.1).ne) (fun v => Rs.ok v))))))
theorem fn_law_row {P : Program} {w : World} {K : PySem.W.Frag} {mg : Str → Option Value} {base : Heap} (S : Fs P K mg) (p_cell : Val) (p_many : Val) : FnOk P w K mg base (L2.CX P w) 1 (f_law_row K) S.d_law_row P_law_row (spU (tx w K) [hV (tx w K) p_cell, hV (tx w K) p_many] (m_law_row p_cell p_many)) := by
  refine fn_u (nm := nm_law_row) (n := 4) S.F_law_row sc_law_row rfl (.hV (.hV .nil)) rfl rfl (fun X W D hP hw hK hmg hbase xb hn q => ?_)
  subst hP hw hK hmg hbase
  have xc := xb.toXC
  have xv := xc.toXV
  refine (show BlM X W D .tt [vl (bV (tx X.w X.K) p_cell), vl (bV (tx X.w X.K) p_many), .no, .no, .no, .no] (defBody s_law_row) (m_law_row p_cell p_many) (fun v => RetV W D (rD (tx X.w X.K) v)) (Zx (tx X.w X.K) X W) from ?_) q
  clear q
  delta m_law_row
  refine blm_setO1 (T := tx X.w X.K) xb 2 (eod_ok (evo_lst evd_nil)) fun x6 => ?_
  refine blm_set1 (T := tx X.w X.K) xb 3 (evd_ok ev_int) fun x7 => ?_
  refine blm_ifj (fun s12 : Val => [vl (bV (tx X.w X.K) p_cell), vl (bV (tx X.w X.K) p_many), .ow (cV (tx X.w X.K) x6), vl (rD (tx X.w X.K) s12), .no, .no]) (tvp_bind (evd_abs (xv.bl S.fr_abs) (ev_hbv (v_ xv 0))) fun x8 h9 => (tvp_bind (evd_pow (ev_hv ev_int) (ev_hv ev_int)) fun x10 h11 => (tvd_ge (ev_hv h9) (ev_hv h11)))) ?_ ?_ fun s12 => ?_
  · refine blm_set1 (T := tx X.w X.K) xb 3 (evd_abs (xv.bl S.fr_abs) (ev_hbv (v_ xv 0))) fun x13 => ?_
    exact blm_end x13 (.cons (.refl _) (.cons (.refl _) (.cons (.refl _) (.cons (.refl _) (.cons (.no _) (.cons (.no _) .nil))))))
  · exact blm_end x7 (.cons (.refl _) (.cons (.refl _) (.cons (.refl _) (.cons (.refl _) (.cons (.no _) (.cons (.no _) .nil))))))
  refine blm_set1 (T := tx X.w X.K) xb 4 (evp_bind (evd_abs (xv.bl S.fr_abs) (ev_hbv (v_ xv 0))) fun x15 h16 => (evp_bind (evd_int (xv.bl S.fr_int) (ev_hv h16)) fun x17 h18 => (evd_mod (ev_hv h18) (ev_hv ev_int)))) fun x14 => ?_
  refine blm_forW (T := tx X.w X.K) (Γs := fun s19 : Val × Val × Val => [vl (bV (tx X.w X.K) p_cell), vl (bV (tx X.w X.K) p_many), .ow (cV (tx X.w X.K) s19.1), vl (rD (tx X.w X.K) s19.2.1), vl (rD (tx X.w X.K) s19.2.2), .no]) (Γt := fun (s19 : Val × Val × Val) (y21 : Val) => [vl (bV (tx X.w X.K) p_cell), vl (bV (tx X.w X.K) p_many), .ow (cV (tx X.w X.K) s19.1), vl (rD (tx X.w X.K) s19.2.1), vl (rD (tx X.w X.K) s19.2.2), vl (rD (tx X.w X.K) y21)]) xb (x6, s12, x14) (evwd_rng1 (xv.bl S.fr_range) (ev_hbv (v_ xv 1))) (.cons (.refl _) (.cons (.refl _) (.cons (.refl _) (.cons (.refl _) (.cons (.refl _) (.cons (.no _) .nil)))))) (fun s19 => (tgm_name xv 5 (hf := .inl (xb.fnn _)))) ?_ (fun _ z _ _ => zx_g z) (fun s19 => ?_) (fun _ z => z)
  · rintro gh D20 s19 y21 hzs19 hr
    refine blm_set1 (T := tx X.w X.K) xb 4 (evp_bind (evd_add (ev_hv (v_ xv 4)) (ev_hv ev_int)) fun x23 h24 => (evp_bind (evd_mul (ev_hv h24) (ev_hv ev_int)) fun x25 h26 => (evp_bind (evd_mul (ev_hv ev_int) (ev_hv (v_ xv 5))) fun x27 h28 => (evp_bind (evd_add (ev_hv h26) (ev_hv h28)) fun x29 h30 => (evp_bind (evd_int (xv.bl S.fr_int) (ev_hv h30)) fun x31 h32 => (evd_mod (ev_hv h32) (ev_hv ev_int))))))) fun x22 => ?_
    refine blm_if (tvd_gt (ev_hv (v_ xv 3)) (ev_hv ev_int)) ?_ ?_
    · refine blm_appV (T := tx X.w X.K) xb 2 (evp_bind (evd_int (xv.bl S.fr_int) (ev_hv (v_ xv 3))) fun x33 h34 => (evd_mod (ev_hv h34) (ev_hv ev_int))) fun x35 => ?_
      refine blm_set1 (T := tx X.w X.K) xb 3 (evd_fdiv (ev_hv (v_ xv 3)) (ev_hv ev_int)) fun x36 => ?_
      refine blm_go ?_
      exact blm_nextG (T := tx X.w X.K) (x35, x36, x22) (.cons (.refl _) (.cons (.refl _) (.cons (.refl _) (.cons (.refl _) (.cons (.refl _) (.cons (.no _) .nil))))))
    · refine blm_appV (T := tx X.w X.K) xb 2 (evp_bind (evd_fdiv (ev_hv (v_ xv 4)) (ev_hv ev_int)) fun x37 h38 => (evp_bind (evd_int (xv.bl S.fr_int) (ev_hv h38)) fun x39 h40 => (evd_mod (ev_hv h40) (ev_hv ev_int)))) fun x41 => ?_
      refine blm_go ?_
      exact blm_nextG (T := tx X.w X.K) (x41, s19.2.1, x22) (.cons (.refl _) (.cons (.refl _) (.cons (.refl _) (.cons (.refl _) (.cons (.refl _) (.cons (.no _) .nil))))))
  refine blm_frz (T := tx X.w X.K) 2 ?_
  exact blm_ret (T := tx X.w X.K) (evd_ok (v_ xv 2)) (fun _ z => z)
def m_law_numbers (p_script : List Int) (p_many : Val) : Rs Val :=
  ((Rs.ok (.list ((cut p_script none (some 63)).map .int))).ne >>= fun x65 => (((lenV x65) >>= fun x67 => ((maxV (.int 1) x67) >>= fun x69 => ((fdivV p_many x69) >>= fun x71 => (addV (.int 1) x71)))).ne >>= fun x66 => ((Rs.ok (.list [])).ne >>= fun x73 => ((walkV x65).ne >>= fun ws => forL (fun (s74 : Val) x => (Rs.ok x).ne >>= fun y76 : Val => (((m_law_row y76 x66) >>= fun x77 => (walkV x77)).ne >>= fun ws => forL (fun (s79 : Val) x => (Rs.ok x).ne >>= fun y81 : Val => ((((Rs.ok y81) >>= fun v => appV s79 v).ne) >>= fun x82 => Rs.ok (.go x82))) ws s74 >>= fun r => thenF r (fun s79 => Rs.ok (.go s79)) (fun v => Rs.ok (.ret v)))) ws x73 >>= fun r => thenF r (fun s74 => (whl (fun s83 : Val => ((lenV s83) >>= fun x85 => (cmpI ltI x85 p_many)).ne) (fun s83 => ((((Rs.ok (.int 0)) >>= fun v => appV s83 v).ne) >>= fun x87 => Rs.ok (.go x87))) FU s74 >>= fun r => thenF r (fun s83 => ((asInt p_many) >>= fun x88 => (slV s83 none (some x88))).ne) (fun v => Rs.ok v))) (fun v => Rs.ok v)))))
theorem fn_law_numbers {P : Program} {w : World} {K : PySem.W.Frag} {mg : Str → Option Value} {base : Heap} (S : Fs P K mg) (p_script : List Int) (p_many : Val) : FnOk P w K mg base (L2.CX P w) 2 (f_law_numbers K) S.d_law_numbers P_law_numbers (spU (tx w K) [rS (tx w K) p_script, rD (tx w K) p_many] (m_law_numbers p_script p_many)) := by
  refine fn_u (nm := nm_law_numbers) (n := 5) S.F_law_numbers sc_law_numbers rfl (.cons (.cons .nil)) rfl rfl (fun X W D hP hw hK hmg hbase xb hn q => ?_)
  subst hP hw hK hmg hbase
  have xc := xb.toXC
  have xv := xc.toXV
  refine (show BlM X W D .tt [vl (rS (tx X.w X.K) p_script), vl (rD (tx X.w X.K) p_many), .no, .no, .no, .no, .no] (defBody s_law_numbers) (m_law_numbers p_script p_many) (fun v => RetV W D (rD (tx X.w X.K) v)) (Zx (tx X.w X.K) X W) from ?_) q
  clear q
  delta m_law_numbers
  refine blm_set1 (T := tx X.w X.K) xb 2 (evd_fz (eod_ok (evo_slS (v_ xv 0) evp_no (evp_so (T := tx X.w X.K) ev_int)))) fun x65 => ?_
  refine blm_set1 (T := tx X.w X.K) xb 3 (evp_bind (evd_len (xv.bl S.fr_len) (ev_hv (v_ xv 2))) fun x67 h68 => (evp_bind (evd_max xc (xv.bl S.fr_max) (ev_hv ev_int) (ev_hv h68)) fun x69 h70 => (evp_bind (evd_fdiv (ev_hv (v_ xv 1)) (ev_hv h70)) fun x71 h72 => (evd_add (ev_hv ev_int) (ev_hv h72))))) fun x66 => ?_
  refine blm_setO1 (T := tx X.w X.K) xb 4 (eod_ok (evo_lst evd_nil)) fun x73 => ?_
  refine blm_forW (T := tx X.w X.K) (Γs := fun s74 : Val => [vl (rS (tx X.w X.K) p_script), vl (rD (tx X.w X.K) p_many), vl (rD (tx X.w X.K) x65), vl (rD (tx X.w X.K) x66), .ow (cV (tx X.w X.K) s74), .no, .no]) (Γt := fun (s74 : Val) (y76 : Val) => [vl (rS (tx X.w X.K) p_script), vl (rD (tx X.w X.K) p_many), vl (rD (tx X.w X.K) x65), vl (rD (tx X.w X.K) x66), .ow (cV (tx X.w X.K) s74), vl (rD (tx X.w X.K) y76), .no]) xb x73 (evwd (ev_bv (v_ xv 2))) (.cons (.refl _) (.cons (.refl _) (.cons (.refl _) (.cons (.refl _) (.cons (.refl _) (.cons (.no _) (.cons (.no _) .nil))))))) (fun s74 => (tgm_name xv 5 (hf := .inl (xb.fnn _)))) ?_ (fun _ z _ _ => zx_g z) (fun s74 => ?_) (fun _ z => z)
  · rintro gh D75 s74 y76 hzs74 hr
    refine blm_forW (T := tx X.w X.K) (Γs := fun s79 : Val => [vl (rS (tx X.w X.K) p_script), vl (rD (tx X.w X.K) p_many), vl (rD (tx X.w X.K) x65), vl (rD (tx X.w X.K) x66), .ow (cV (tx X.w X.K) s79), vl (rD (tx X.w X.K) y76), .no]) (Γt := fun (s79 : Val) (y81 : Val) => [vl (rS (tx X.w X.K) p_script), vl (rD (tx X.w X.K) p_many), vl (rD (tx X.w X.K) x65), vl (rD (tx X.w X.K) x66), .ow (cV (tx X.w X.K) s79), vl (rD (tx X.w X.K) y76), vl (rD (tx X.w X.K) y81)]) xb s74 (evw_bind (evp_c xc (S.df_law_row (fn_law_row S _ _)) (eva_cons (ev_hv (v_ xv 5)) (eva_cons (ev_hv (v_ xv 3)) eva_nil))) fun x77 h78 => (evwd (ev_bv h78))) (.cons (.refl _) (.cons (.refl _) (.cons (.refl _) (.cons (.refl _) (.cons (.refl _) (.cons (.refl _) (.cons (.no _) .nil))))))) (fun s79 => (tgm_name xv 6 (hf := .inl (xb.fnn _)))) ?_ (fun _ z _ _ => zx_g z) (fun s79 => ?_) (fun _ z => z)
    · rintro gh D80 s79 y81 hzs79 hr
      refine blm_appV (T := tx X.w X.K) xb 4 (evd_ok (v_ xv 6)) fun x82 => ?_
      exact blm_nextG (T := tx X.w X.K) x82 (.cons (.refl _) (.cons (.refl _) (.cons (.refl _) (.cons (.refl _) (.cons (.refl _) (.cons (.refl _) (.cons (.no _) .nil)))))))
    exact blm_nextG (T := tx X.w X.K) s79 (.cons (.refl _) (.cons (.refl _) (.cons (.refl _) (.cons (.refl _) (.cons (.refl _) (.cons (.no _) (.cons (.no _) .nil)))))))
  refine blm_while (T := tx X.w X.K) xb (fun s83 : Val => [vl (rS (tx X.w X.K) p_script), vl (rD (tx X.w X.K) p_many), vl (rD (tx X.w X.K) x65), vl (rD (tx X.w X.K) x66), .ow (cV (tx X.w X.K) s83), .no, .no]) s74 (.cons (.refl _) (.cons (.refl _) (.cons (.refl _) (.cons (.refl _) (.cons (.refl _) (.cons (.no _) (.cons (.no _) .nil))))))) (fun s83 => (tvp_bind (evd_len (xv.bl S.fr_len) (o_ xv 4)) fun x85 h86 => (tvd_lt (ev_hv h86) (ev_hv (v_ xv 1))))) ?_ (fun s83 => ?_) (fun _ z => z)
  · rintro D84 s83 hr
    refine blm_appV (T := tx X.w X.K) xb 4 (evd_ok ev_int) fun x87 => ?_
    exact blm_nextG (T := tx X.w X.K) x87 (.cons (.refl _) (.cons (.refl _) (.cons (.refl _) (.cons (.refl _) (.cons (.refl _) (.cons (.no _) (.cons (.no _) .nil)))))))
  exact blm_ret (T := tx X.w X.K) (evp_bind (evd_as (g := asInt) (v_ xv 1)) fun x88 h89 => (evd_fz (eod_sl (o_ xv 4) evp_no (evp_so (T := tx X.w X.K) h89)))) (fun _ z => z)
def m_law_parts (p_numbers_here : Val) (p_at : Val) : Rs Val :=
  (((ixV p_numbers_here p_at) >>= fun x92 => ((intV x92) >>= fun x94 => ((modV x94 (.int 4)) >>= fun x96 => (ixV (.list [(.int 4), (.int 9), (.int 12), (.int 40)]) x96)))).ne >>= fun x91 => (((((ixV p_numbers_here p_at) >>= fun x99 => ((intV x99) >>= fun x101 => ((fdivV x101 (.int 4)) >>= fun x103 => ((modV x103 (.int 2)) >>= fun x105 => ((addV (.int 1) x105) >>= fun x107 => (rng1V x107)))))) >>= fun xs => chk (decide (xs.length ≤ BIG)) >>= fun _ => lcM Rs.ok (fun y109 : Val => Rs.ok true) (fun y109 : Val => ((addV p_at (.int 1)) >>= fun x110 => ((addV x110 y109) >>= fun x112 => ((ixV p_numbers_here x112) >>= fun x114 => ((intV x114) >>= fun x116 => ((modV x116 x91) >>= fun x118 => (addV (.int 1) x118))))))) xs) >>= fun l => Rs.ok (.list l)).ne >>= fun x98 => (((((ixV p_numbers_here p_at) >>= fun x121 => ((intV x121) >>= fun x123 => ((fdivV x123 (.int 8)) >>= fun x125 => ((modV x125 (.int 5)) >>= fun x127 => (rng1V x127))))) >>= fun xs => chk (decide (xs.length ≤ BIG)) >>= fun _ => lcM Rs.ok (fun y129 : Val => Rs.ok true) (fun y129 : Val => ((addV p_at (.int 3)) >>= fun x130 => ((addV x130 y129) >>= fun x132 => ((ixV p_numbers_here x132) >>= fun x134 => ((intV x134) >>= fun x136 => ((modV x136 x91) >>= fun x138 => (addV (.int 1) x138))))))) xs) >>= fun l => Rs.ok (.list l)).ne >>= fun x120 => ((Rs.ok (.list [])).ne >>= fun x140 => (((addV p_at (.int 7)) >>= fun x141 => ((ixV p_numbers_here x141) >>= fun x143 => ((intV x143) >>= fun x145 => ((modV x145 (.int 10)) >>= fun x147 => ((subV x147 (.int 3)) >>= fun x149 => ((maxV (.int 0) x149) >>= fun x151 => (rng1V x151))))))).ne >>= fun ws => forL (fun (s153 : Val) x => (Rs.ok x).ne >>= fun y155 : Val => (((addV p_at (.int 8)) >>= fun x157 => ((mulV (.int 2) y155) >>= fun x159 => ((addV x157 x159) >>= fun x161 => ((ixV p_numbers_here x161) >>= fun x163 => ((intV x163) >>= fun x165 => ((lenV x120) >>= fun x167 => ((addV x167 (.int 1)) >>= fun x169 => (modV x165 x169)))))))).ne >>= fun x156 => (((addV p_at (.int 9)) >>= fun x172 => ((mulV (.int 2) y155) >>= fun x174 => ((addV x172 x174) >>= fun x176 => ((ixV p_numbers_here x176) >>= fun x178 => (intV x178))))).ne >>= fun x171 => (((fdivV x171 (.int 3)) >>= fun x181 => ((sumV x98) >>= fun x183 => ((modV x181 x183) >>= fun x185 => (Rs.ok (.tuple [(.str "up"), x156, x185]))))).ne >>= fun x180 => ((((intV x171) >>= fun x187 => ((modV x187 (.int 3)) >>= fun x189 => (eqV x189 (.int 0)))) >>= fun x => if x then ((lenV x120) >>= fun x191 => (cmpI ltI x156 x191)) else Rs.ok false).ne >>= fun x => (if x then (((fdivV x171 (.int 3)) >>= fun x195 => ((lenV x98) >>= fun x197 => ((addV x197 (.int 1)) >>= fun x199 => ((modV x195 x199) >>= fun x201 => ((asInt x201) >>= fun x203 => ((slV x98 none (some x203)) >>= fun x205 => ((sumV x205) >>= fun x207 => (Rs.ok (.tuple [(.str "over"), x156, x207]))))))))).ne >>= fun x194 => Rs.ok x194) else Rs.ok x180) >>= fun s193 : Val => ((ninV s193 s153).ne >>= fun x => if x then ((((Rs.ok s193) >>= fun v => appV s153 v).ne) >>= fun x209 => Rs.ok (.go x209)) else Rs.ok (.go s153))))))) ws x140 >>= fun r => thenF r (fun s153 => (Rs.ok (.tuple [x98, x120, s153])).ne) (fun v => Rs.ok v))))))
theorem fn_law_parts {P : Program} {w : World} {K : PySem.W.Frag} {mg : Str → Option Value} {base : Heap} (S : Fs P K mg) (p_numbers_here : Val) (p_at : Val) : FnOk P w K mg base (L2.CX P w) 1 (f_law_parts K) S.d_law_parts P_law_parts (spU (tx w K) [hV (tx w K) p_numbers_here, rD (tx w K) p_at] (m_law_parts p_numbers_here p_at)) := by
  refine fn_u (nm := nm_law_parts) (n := 8) S.F_law_parts sc_law_parts rfl (.hV (.cons .nil)) rfl rfl (fun X W D hP hw hK hmg hbase xb hn q => ?_)
  subst hP hw hK hmg hbase
  have xc := xb.toXC
  have xv := xc.toXV
  refine (show BlM X W D .tt [vl (bV (tx X.w X.K) p_numbers_here), vl (rD (tx X.w X.K) p_at), .no, .no, .no, .no, .no, .no, .no, .no] (defBody s_law_parts) (m_law_parts p_numbers_here p_at) (fun v => RetV W D (rD (tx X.w X.K) v)) (Zx (tx X.w X.K) X W) from ?_) q
  clear q
  delta m_law_parts
  refine blm_set1 (T := tx X.w X.K) xb 2 (evp_bind (evd_ix xc (ev_hbv (v_ xv 0)) (v_ xv 1)) fun x92 h93 => (evp_bind (evd_int (xv.bl S.fr_int) (ev_hv h93)) fun x94 h95 => (evp_bind (evd_mod (ev_hv h95) (ev_hv ev_int)) fun x96 h97 => (evd_ix xc (ev_hv (ev_fz (evo_lst (evd_cons ev_int (evd_cons ev_int (evd_cons ev_int (evd_cons ev_int evd_nil))))))) h97)))) fun x91 => ?_
  refine blm_lc (T := tx X.w X.K) xb 3 [("_law_k", 6)] (evw_bind (evd_ix xc (ev_hbv (v_ xv 0)) (v_ xv 1)) fun x99 h100 => (evw_bind (evd_int (xv.bl S.fr_int) (ev_hv h100)) fun x101 h102 => (evw_bind (evd_fdiv (ev_hv h102) (ev_hv ev_int)) fun x103 h104 => (evw_bind (evd_mod (ev_hv h104) (ev_hv ev_int)) fun x105 h106 => (evw_bind (evd_add (ev_hv ev_int) (ev_hv h106)) fun x107 h108 => (evwd_rng1 (xv.bl S.fr_range) (ev_hv h108))))))) (fun y109 : Val => [vl (bV (tx X.w X.K) p_numbers_here), vl (rD (tx X.w X.K) p_at), vl (rD (tx X.w X.K) x91), .no, .no, .no, vl (rD (tx X.w X.K) y109), .no, .no, .no]) (fun s H C cl fp xc109 => (tgm_name xc109.toXV 6 (hf := .inr (xc109.toXV.only (by decide +kernel))))) (fun s H C cl fp xc109 y109 => vvm_nil) (fun s H C cl fp xc109 y109 => (evp_bind (evd_add (ev_hv (v_ xc109.toXV 1)) (ev_hv ev_int)) fun x110 h111 => (evp_bind (evd_add (ev_hv h111) (ev_hv (v_ xc109.toXV 6))) fun x112 h113 => (evp_bind (evd_ix xc109 (ev_hbv (v_ xc109.toXV 0)) h113) fun x114 h115 => (evp_bind (evd_int (xc109.toXV.bl S.fr_int) (ev_hv h115)) fun x116 h117 => (evp_bind (evd_mod (ev_hv h117) (ev_hv (v_ xc109.toXV 2))) fun x118 h119 => (evd_add (ev_hv ev_int) (ev_hv h119)))))))) (fun x98 => ?_)
  refine blm_frz (T := tx X.w X.K) 3 ?_
  refine blm_lc (T := tx X.w X.K) xb 4 [("_law_k", 6)] (evw_bind (evd_ix xc (ev_hbv (v_ xv 0)) (v_ xv 1)) fun x121 h122 => (evw_bind (evd_int (xv.bl S.fr_int) (ev_hv h122)) fun x123 h124 => (evw_bind (evd_fdiv (ev_hv h124) (ev_hv ev_int)) fun x125 h126 => (evw_bind (evd_mod (ev_hv h126) (ev_hv ev_int)) fun x127 h128 => (evwd_rng1 (xv.bl S.fr_range) (ev_hv h128)))))) (fun y129 : Val => [vl (bV (tx X.w X.K) p_numbers_here), vl (rD (tx X.w X.K) p_at), vl (rD (tx X.w X.K) x91), vl (rD (tx X.w X.K) x98), .no, .no, vl (rD (tx X.w X.K) y129), .no, .no, .no]) (fun s H C cl fp xc129 => (tgm_name xc129.toXV 6 (hf := .inr (xc129.toXV.only (by decide +kernel))))) (fun s H C cl fp xc129 y129 => vvm_nil) (fun s H C cl fp xc129 y129 => (evp_bind (evd_add (ev_hv (v_ xc129.toXV 1)) (ev_hv ev_int)) fun x130 h131 => (evp_bind (evd_add (ev_hv h131) (ev_hv (v_ xc129.toXV 6))) fun x132 h133 => (evp_bind (evd_ix xc129 (ev_hbv (v_ xc129.toXV 0)) h133) fun x134 h135 => (evp_bind (evd_int (xc129.toXV.bl S.fr_int) (ev_hv h135)) fun x136 h137 => (evp_bind (evd_mod (ev_hv h137) (ev_hv (v_ xc129.toXV 2))) fun x138 h139 => (evd_add (ev_hv ev_int) (ev_hv h139)))))))) (fun x120 => ?_)
  refine blm_frz (T := tx X.w X.K) 4 ?_
  refine blm_setO1 (T := tx X.w X.K) xb 5 (eod_ok (evo_lst evd_nil)) fun x140 => ?_
  refine blm_forW (T := tx X.w X.K) (Γs := fun s153 : Val => [vl (bV (tx X.w X.K) p_numbers_here), vl (rD (tx X.w X.K) p_at), vl (rD (tx X.w X.K) x91), vl (rD (tx X.w X.K) x98), vl (rD (tx X.w X.K) x120), .ow (cV (tx X.w X.K) s153), .no, .no, .no, .no]) (Γt := fun (s153 : Val) (y155 : Val) => [vl (bV (tx X.w X.K) p_numbers_here), vl (rD (tx X.w X.K) p_at), vl (rD (tx X.w X.K) x91), vl (rD (tx X.w X.K) x98), vl (rD (tx X.w X.K) x120), .ow (cV (tx X.w X.K) s153), vl (rD (tx X.w X.K) y155), .no, .no, .no]) xb x140 (evw_bind (evd_add (ev_hv (v_ xv 1)) (ev_hv ev_int)) fun x141 h142 => (evw_bind (evd_ix xc (ev_hbv (v_ xv 0)) h142) fun x143 h144 => (evw_bind (evd_int (xv.bl S.fr_int) (ev_hv h144)) fun x145 h146 => (evw_bind (evd_mod (ev_hv h146) (ev_hv ev_int)) fun x147 h148 => (evw_bind (evd_sub (ev_hv h148) (ev_hv ev_int)) fun x149 h150 => (evw_bind (evd_max xc (xv.bl S.fr_max) (ev_hv ev_int) (ev_hv h150)) fun x151 h152 => (evwd_rng1 (xv.bl S.fr_range) (ev_hv h152)))))))) (.cons (.refl _) (.cons (.refl _) (.cons (.refl _) (.cons (.refl _) (.cons (.refl _) (.cons (.refl _) (.cons (.no _) (.cons (.no _) (.cons (.no _) (.cons (.no _) .nil)))))))))) (fun s153 => (tgm_name xv 6 (hf := .inl (xb.fnn _)))) ?_ (fun _ z _ _ => zx_g z) (fun s153 => ?_) (fun _ z => z)
  · rintro gh D154 s153 y155 hzs153 hr
    refine blm_set1 (T := tx X.w X.K) xb 7 (evp_bind (evd_add (ev_hv (v_ xv 1)) (ev_hv ev_int)) fun x157 h158 => (evp_bind (evd_mul (ev_hv ev_int) (ev_hv (v_ xv 6))) fun x159 h160 => (evp_bind (evd_add (ev_hv h158) (ev_hv h160)) fun x161 h162 => (evp_bind (evd_ix xc (ev_hbv (v_ xv 0)) h162) fun x163 h164 => (evp_bind (evd_int (xv.bl S.fr_int) (ev_hv h164)) fun x165 h166 => (evp_bind (evd_len (xv.bl S.fr_len) (ev_hv (v_ xv 4))) fun x167 h168 => (evp_bind (evd_add (ev_hv h168) (ev_hv ev_int)) fun x169 h170 => (evd_mod (ev_hv h166) (ev_hv h170))))))))) fun x156 => ?_
    refine blm_set1 (T := tx X.w X.K) xb 8 (evp_bind (evd_add (ev_hv (v_ xv 1)) (ev_hv ev_int)) fun x172 h173 => (evp_bind (evd_mul (ev_hv ev_int) (ev_hv (v_ xv 6))) fun x174 h175 => (evp_bind (evd_add (ev_hv h173) (ev_hv h175)) fun x176 h177 => (evp_bind (evd_ix xc (ev_hbv (v_ xv 0)) h177) fun x178 h179 => (evd_int (xv.bl S.fr_int) (ev_hv h179)))))) fun x171 => ?_
    refine blm_set1 (T := tx X.w X.K) xb 9 (evp_bind (evd_fdiv (ev_hv (v_ xv 8)) (ev_hv ev_int)) fun x181 h182 => (evp_bind (evd_sum xc (xv.bl S.fr_sum) (ev_hv (v_ xv 3))) fun x183 h184 => (evp_bind (evd_mod (ev_hv h182) (ev_hv h184)) fun x185 h186 => (evd_ok (ev_tup (evd_cons ev_str (evd_cons (v_ xv 7) (evd_cons h186 evd_nil)))))))) fun x180 => ?_
    refine blm_ifj (fun s193 : Val => [vl (bV (tx X.w X.K) p_numbers_here), vl (rD (tx X.w X.K) p_at), vl (rD (tx X.w X.K) x91), vl (rD (tx X.w X.K) x98), vl (rD (tx X.w X.K) x120), .ow (cV (tx X.w X.K) s153), vl (rD (tx X.w X.K) y155), vl (rD (tx X.w X.K) x156), vl (rD (tx X.w X.K) x171), vl (rD (tx X.w X.K) s193)]) (tvp_wv (wvp_and (tvp_bind (evd_int (xv.bl S.fr_int) (ev_hv (v_ xv 8))) fun x187 h188 => (tvp_bind (evd_mod (ev_hv h188) (ev_hv ev_int)) fun x189 h190 => (tvd_eq xc (ev_hv h190) (ev_hv ev_int)))) (wvp_and1 (tvp_bind (evd_len (xv.bl S.fr_len) (ev_hv (v_ xv 4))) fun x191 h192 => (tvd_lt (ev_hv (v_ xv 7)) (ev_hv h192)))))) ?_ ?_ fun s193 => ?_
    · refine blm_set1 (T := tx X.w X.K) xb 9 (evp_bind (evd_fdiv (ev_hv (v_ xv 8)) (ev_hv ev_int)) fun x195 h196 => (evp_bind (evd_len (xv.bl S.fr_len) (ev_hv (v_ xv 3))) fun x197 h198 => (evp_bind (evd_add (ev_hv h198) (ev_hv ev_int)) fun x199 h200 => (evp_bind (evd_mod (ev_hv h196) (ev_hv h200)) fun x201 h202 => (evp_bind (evd_as (g := asInt) h202) fun x203 h204 => (evp_bind (evd_fz (eod_sl (ev_hv (v_ xv 3)) evp_no (evp_so (T := tx X.w X.K) h204))) fun x205 h206 => (evp_bind (evd_sum xc (xv.bl S.fr_sum) (ev_hv h206)) fun x207 h208 => (evd_ok (ev_tup (evd_cons ev_str (evd_cons (v_ xv 7) (evd_cons h208 evd_nil)))))))))))) fun x194 => ?_
      exact blm_end x194 (.cons (.refl _) (.cons (.refl _) (.cons (.refl _) (.cons (.refl _) (.cons (.refl _) (.cons (.refl _) (.cons (.refl _) (.cons (.refl _) (.cons (.refl _) (.cons (.refl _) .nil))))))))))
    · exact blm_end x180 (.cons (.refl _) (.cons (.refl _) (.cons (.refl _) (.cons (.refl _) (.cons (.refl _) (.cons (.refl _) (.cons (.refl _) (.cons (.refl _) (.cons (.refl _) (.cons (.refl _) .nil))))))))))
    refine blm_if (tvd_nin xc (ev_hv (v_ xv 9)) (o_ xv 5)) ?_ ?_
    · refine blm_appV (T := tx X.w X.K) xb 5 (evd_ok (v_ xv 9)) fun x209 => ?_
      refine blm_go ?_
      exact blm_nextG (T := tx X.w X.K) x209 (.cons (.refl _) (.cons (.refl _) (.cons (.refl _) (.cons (.refl _) (.cons (.refl _) (.cons (.refl _) (.cons (.no _) (.cons (.no _) (.cons (.no _) (.cons (.no _) .nil))))))))))
    · refine blm_go ?_
      exact blm_nextG (T := tx X.w X.K) s153 (.cons (.refl _) (.cons (.refl _) (.cons (.refl _) (.cons (.refl _) (.cons (.refl _) (.cons (.refl _) (.cons (.no _) (.cons (.no _) (.cons (.no _) (.cons (.no _) .nil))))))))))
  refine blm_frz (T := tx X.w X.K) 5 ?_
  exact blm_ret (T := tx X.w X.K) (evd_ok (ev_tup (evd_cons (v_ xv 3) (evd_cons (v_ xv 4) (evd_cons (v_ xv 5) evd_nil))))) (fun _ z => z)
def m_law_crosses (p_lengths : Val) : Rs Val :=
  ((((lenV p_lengths) >>= fun x210 => ((addV x210 (.int 1)) >>= fun x212 => (rng1V x212))) >>= fun xs => chk (decide (xs.length ≤ BIG)) >>= fun _ => lcM Rs.ok (fun y214 : Val => Rs.ok true) (fun y214 : Val => ((asInt y214) >>= fun x215 => ((slV p_lengths none (some x215)) >>= fun x217 => (sumV x217)))) xs) >>= fun l => Rs.ok (.list l)).ne
theorem fn_law_crosses {P : Program} {w : World} {K : PySem.W.Frag} {mg : Str → Option Value} {base : Heap} (S : Fs P K mg) (p_lengths : Val) : FnOk P w K mg base (L2.CX P w) 1 (f_law_crosses K) S.d_law_crosses P_law_crosses (spU (tx w K) [hV (tx w K) p_lengths] (m_law_crosses p_lengths)) := by
  refine fn_u (nm := nm_law_crosses) (n := 1) S.F_law_crosses sc_law_crosses rfl (.hV .nil) rfl rfl (fun X W D hP hw hK hmg hbase xb hn q => ?_)
  subst hP hw hK hmg hbase
  have xc := xb.toXC
  have xv := xc.toXV
  refine (show BlM X W D .tt [vl (bV (tx X.w X.K) p_lengths), .no] (defBody s_law_crosses) (m_law_crosses p_lengths) (fun v => RetV W D (rD (tx X.w X.K) v)) (Zx (tx X.w X.K) X W) from ?_) q
  clear q
  delta m_law_crosses
  exact blm_ret (T := tx X.w X.K) (evd_fz (eop_map (f := Val.list) (eom_lc [("_law_k", 1)] xc (evw_bind (evd_len (xv.bl S.fr_len) (ev_hbv (v_ xv 0))) fun x210 h211 => (evw_bind (evd_add (ev_hv h211) (ev_hv ev_int)) fun x212 h213 => (evwd_rng1 (xv.bl S.fr_range) (ev_hv h213)))) (fun y214 : Val => [vl (bV (tx X.w X.K) p_lengths), vl (rD (tx X.w X.K) y214)]) (fun s H C cl fp xc214 => (tgm_name xc214.toXV 1 (hf := .inr (xc214.toXV.only (by decide +kernel))))) (fun s H C cl fp xc214 y214 => vvm_nil) (fun s H C cl fp xc214 y214 => (evp_bind (evd_as (g := asInt) (v_ xc214.toXV 1)) fun x215 h216 => (evp_bind (evd_fz (eod_sl (ev_hbv (v_ xc214.toXV 0)) evp_no (evp_so (T := tx X.w X.K) h216))) fun x217 h218 => (evd_sum xc214 (xc214.toXV.bl S.fr_sum) (ev_hv h218)))))))) (fun _ z => z)
def m_law_aims (p_numbers_here : Val) (p_at : Val) (p_lengths : Val) (p_gaps : Val) (p_many : Val) : Rs Val :=
  ((m_law_crosses p_lengths).ne >>= fun x221 => (((ixV p_numbers_here p_at) >>= fun x223 => ((intV x223) >>= fun x225 => ((lenV p_gaps) >>= fun x227 => ((addV x227 (.int 1)) >>= fun x229 => ((modV x225 x229) >>= fun x231 => ((ixV p_numbers_here p_at) >>= fun x233 => ((intV x233) >>= fun x235 => ((fdivV x235 (.int 12)) >>= fun x237 => ((lenV x221) >>= fun x239 => ((modV x237 x239) >>= fun x241 => ((ixV x221 x241) >>= fun x243 => (Rs.ok (.tuple [x231, x243]))))))))))))).ne >>= fun x222 => (((addV p_at (.int 1)) >>= fun x246 => ((ixV p_numbers_here x246) >>= fun x248 => ((intV x248) >>= fun x250 => ((lenV p_gaps) >>= fun x252 => ((addV x252 (.int 1)) >>= fun x254 => ((modV x250 x254) >>= fun x256 => ((addV p_at (.int 1)) >>= fun x258 => ((ixV p_numbers_here x258) >>= fun x260 => ((intV x260) >>= fun x262 => ((fdivV x262 (.int 12)) >>= fun x264 => ((lenV x221) >>= fun x266 => ((modV x264 x266) >>= fun x268 => ((ixV x221 x268) >>= fun x270 => (Rs.ok (.tuple [x256, x270]))))))))))))))).ne >>= fun x245 => (((addV p_at (.int 2)) >>= fun x272 => ((ixV p_numbers_here x272) >>= fun x274 => ((intV x274) >>= fun x276 => ((modV x276 (.int 2)) >>= fun x278 => (eqV x278 (.int 0)))))).ne >>= fun x => (if x then ((Rs.ok x222).ne >>= fun x281 => Rs.ok x281) else Rs.ok x245) >>= fun s280 : Val => ((Rs.ok (.list [])).ne >>= fun x282 => (((addV p_at (.int 3)) >>= fun x283 => ((ixV p_numbers_here x283) >>= fun x285 => ((intV x285) >>= fun x287 => ((addV p_many (.int 1)) >>= fun x289 => ((modV x287 x289) >>= fun x291 => (rng1V x291)))))).ne >>= fun ws => forL (fun (s293 : Val) x => (Rs.ok x).ne >>= fun y295 : Val => (((addV p_at (.int 4)) >>= fun x297 => ((mulV (.int 2) y295) >>= fun x299 => ((addV x297 x299) >>= fun x301 => ((ixV p_numbers_here x301) >>= fun x303 => ((intV x303) >>= fun x305 => ((lenV p_gaps) >>= fun x307 => ((addV x307 (.int 1)) >>= fun x309 => ((modV x305 x309) >>= fun x311 => ((addV p_at (.int 5)) >>= fun x313 => ((mulV (.int 2) y295) >>= fun x315 => ((addV x313 x315) >>= fun x317 => ((ixV p_numbers_here x317) >>= fun x319 => ((intV x319) >>= fun x321 => ((sumV p_lengths) >>= fun x323 => ((addV x323 (.int 1)) >>= fun x325 => ((modV x321 x325) >>= fun x327 => (Rs.ok (.tuple [x311, x327])))))))))))))))))).ne >>= fun x296 => ((ninV x296 s293).ne >>= fun x => if x then ((((Rs.ok x296) >>= fun v => appV s293 v).ne) >>= fun x329 => Rs.ok (.go x329)) else Rs.ok (.go s293)))) ws x282 >>= fun r => thenF r (fun s293 => (Rs.ok (.tuple [x222, s280, s293])).ne) (fun v => Rs.ok v)))))))
theorem fn_law_aims {P : Program} {w : World} {K : PySem.W.Frag} {mg : Str → Option Value} {base : Heap} (S : Fs P K mg) (p_numbers_here : Val) (p_at : Val) (p_lengths : Val) (p_gaps : Val) (p_many : Val) : FnOk P w K mg base (L2.CX P w) 2 (f_law_aims K) S.d_law_aims P_law_aims (spU (tx w K) [hV (tx w K) p_numbers_here, rD (tx w K) p_at, hV (tx w K) p_lengths, hV (tx w K) p_gaps, hV (tx w K) p_many] (m_law_aims p_numbers_here p_at p_lengths p_gaps p_many)) := by
  refine fn_u (nm := nm_law_aims) (n := 6) S.F_law_aims sc_law_aims rfl (.hV (.cons (.hV (.hV (.hV .nil))))) rfl rfl (fun X W D hP hw hK hmg hbase xb hn q => ?_)
  subst hP hw hK hmg hbase
  have xc := xb.toXC
  have xv := xc.toXV
  refine (show BlM X W D .tt [vl (bV (tx X.w X.K) p_numbers_here), vl (rD (tx X.w X.K) p_at), vl (bV (tx X.w X.K) p_lengths), vl (bV (tx X.w X.K) p_gaps), vl (bV (tx X.w X.K) p_many), .no, .no, .no, .no, .no, .no] (defBody s_law_aims) (m_law_aims p_numbers_here p_at p_lengths p_gaps p_many) (fun v => RetV W D (rD (tx X.w X.K) v)) (Zx (tx X.w X.K) X W) from ?_) q
  clear q
  delta m_law_aims
  refine blm_set1 (T := tx X.w X.K) xb 5 (evp_c xc (S.df_law_crosses (fn_law_crosses S _)) (eva_cons (ev_hbv (v_ xv 2)) eva_nil)) fun x221 => ?_
  refine blm_set1 (T := tx X.w X.K) xb 6 (evp_bind (evd_ix xc (ev_hbv (v_ xv 0)) (v_ xv 1)) fun x223 h224 => (evp_bind (evd_int (xv.bl S.fr_int) (ev_hv h224)) fun x225 h226 => (evp_bind (evd_len (xv.bl S.fr_len) (ev_hbv (v_ xv 3))) fun x227 h228 => (evp_bind (evd_add (ev_hv h228) (ev_hv ev_int)) fun x229 h230 => (evp_bind (evd_mod (ev_hv h226) (ev_hv h230)) fun x231 h232 => (evp_bind (evd_ix xc (ev_hbv (v_ xv 0)) (v_ xv 1)) fun x233 h234 => (evp_bind (evd_int (xv.bl S.fr_int) (ev_hv h234)) fun x235 h236 => (evp_bind (evd_fdiv (ev_hv h236) (ev_hv ev_int)) fun x237 h238 => (evp_bind (evd_len (xv.bl S.fr_len) (ev_hv (v_ xv 5))) fun x239 h240 => (evp_bind (evd_mod (ev_hv h238) (ev_hv h240)) fun x241 h242 => (evp_bind (evd_ix xc (ev_hv (v_ xv 5)) h242) fun x243 h244 => (evd_ok (ev_tup (evd_cons h232 (evd_cons h244 evd_nil))))))))))))))) fun x222 => ?_
  refine blm_set1 (T := tx X.w X.K) xb 7 (evp_bind (evd_add (ev_hv (v_ xv 1)) (ev_hv ev_int)) fun x246 h247 => (evp_bind (evd_ix xc (ev_hbv (v_ xv 0)) h247) fun x248 h249 => (evp_bind (evd_int (xv.bl S.fr_int) (ev_hv h249)) fun x250 h251 => (evp_bind (evd_len (xv.bl S.fr_len) (ev_hbv (v_ xv 3))) fun x252 h253 => (evp_bind (evd_add (ev_hv h253) (ev_hv ev_int)) fun x254 h255 => (evp_bind (evd_mod (ev_hv h251) (ev_hv h255)) fun x256 h257 => (evp_bind (evd_add (ev_hv (v_ xv 1)) (ev_hv ev_int)) fun x258 h259 => (evp_bind (evd_ix xc (ev_hbv (v_ xv 0)) h259) fun x260 h261 => (evp_bind (evd_int (xv.bl S.fr_int) (ev_hv h261)) fun x262 h263 => (evp_bind (evd_fdiv (ev_hv h263) (ev_hv ev_int)) fun x264 h265 => (evp_bind (evd_len (xv.bl S.fr_len) (ev_hv (v_ xv 5))) fun x266 h267 => (evp_bind (evd_mod (ev_hv h265) (ev_hv h267)) fun x268 h269 => (evp_bind (evd_ix xc (ev_hv (v_ xv 5)) h269) fun x270 h271 => (evd_ok (ev_tup (evd_cons h257 (evd_cons h271 evd_nil))))))))))))))))) fun x245 => ?_
  refine blm_ifj (fun s280 : Val => [vl (bV (tx X.w X.K) p_numbers_here), vl (rD (tx X.w X.K) p_at), vl (bV (tx X.w X.K) p_lengths), vl (bV (tx X.w X.K) p_gaps), vl (bV (tx X.w X.K) p_many), vl (rD (tx X.w X.K) x221), vl (rD (tx X.w X.K) x222), vl (rD (tx X.w X.K) s280), .no, .no, .no]) (tvp_bind (evd_add (ev_hv (v_ xv 1)) (ev_hv ev_int)) fun x272 h273 => (tvp_bind (evd_ix xc (ev_hbv (v_ xv 0)) h273) fun x274 h275 => (tvp_bind (evd_int (xv.bl S.fr_int) (ev_hv h275)) fun x276 h277 => (tvp_bind (evd_mod (ev_hv h277) (ev_hv ev_int)) fun x278 h279 => (tvd_eq xc (ev_hv h279) (ev_hv ev_int)))))) ?_ ?_ fun s280 => ?_
  · refine blm_set1 (T := tx X.w X.K) xb 7 (evd_ok (v_ xv 6)) fun x281 => ?_
    exact blm_end x281 (.cons (.refl _) (.cons (.refl _) (.cons (.refl _) (.cons (.refl _) (.cons (.refl _) (.cons (.refl _) (.cons (.refl _) (.cons (.refl _) (.cons (.no _) (.cons (.no _) (.cons (.no _) .nil)))))))))))
  · exact blm_end x245 (.cons (.refl _) (.cons (.refl _) (.cons (.refl _) (.cons (.refl _) (.cons (.refl _) (.cons (.refl _) (.cons (.refl _) (.cons (.refl _) (.cons (.no _) (.cons (.no _) (.cons (.no _) .nil)))))))))))
  refine blm_setO1 (T := tx X.w X.K) xb 8 (eod_ok (evo_lst evd_nil)) fun x282 => ?_
  refine blm_forW (T := tx X.w X.K) (Γs := fun s293 : Val => [vl (bV (tx X.w X.K) p_numbers_here), vl (rD (tx X.w X.K) p_at), vl (bV (tx X.w X.K) p_lengths), vl (bV (tx X.w X.K) p_gaps), vl (bV (tx X.w X.K) p_many), vl (rD (tx X.w X.K) x221), vl (rD (tx X.w X.K) x222), vl (rD (tx X.w X.K) s280), .ow (cV (tx X.w X.K) s293), .no, .no]) (Γt := fun (s293 : Val) (y295 : Val) => [vl (bV (tx X.w X.K) p_numbers_here), vl (rD (tx X.w X.K) p_at), vl (bV (tx X.w X.K) p_lengths), vl (bV (tx X.w X.K) p_gaps), vl (bV (tx X.w X.K) p_many), vl (rD (tx X.w X.K) x221), vl (rD (tx X.w X.K) x222), vl (rD (tx X.w X.K) s280), .ow (cV (tx X.w X.K) s293), vl (rD (tx X.w X.K) y295), .no]) xb x282 (evw_bind (evd_add (ev_hv (v_ xv 1)) (ev_hv ev_int)) fun x283 h284 => (evw_bind (evd_ix xc (ev_hbv (v_ xv 0)) h284) fun x285 h286 => (evw_bind (evd_int (xv.bl S.fr_int) (ev_hv h286)) fun x287 h288 => (evw_bind (evd_add (ev_hbv (v_ xv 4)) (ev_hv ev_int)) fun x289 h290 => (evw_bind (evd_mod (ev_hv h288) (ev_hv h290)) fun x291 h292 => (evwd_rng1 (xv.bl S.fr_range) (ev_hv h292))))))) (.cons (.refl _) (.cons (.refl _) (.cons (.refl _) (.cons (.refl _) (.cons (.refl _) (.cons (.refl _) (.cons (.refl _) (.cons (.refl _) (.cons (.refl _) (.cons (.no _) (.cons (.no _) .nil))))))))))) (fun s293 => (tgm_name xv 9 (hf := .inl (xb.fnn _)))) ?_ (fun _ z _ _ => zx_g z) (fun s293 => ?_) (fun _ z => z)
  · rintro gh D294 s293 y295 hzs293 hr
    refine blm_set1 (T := tx X.w X.K) xb 10 (evp_bind (evd_add (ev_hv (v_ xv 1)) (ev_hv ev_int)) fun x297 h298 => (evp_bind (evd_mul (ev_hv ev_int) (ev_hv (v_ xv 9))) fun x299 h300 => (evp_bind (evd_add (ev_hv h298) (ev_hv h300)) fun x301 h302 => (evp_bind (evd_ix xc (ev_hbv (v_ xv 0)) h302) fun x303 h304 => (evp_bind (evd_int (xv.bl S.fr_int) (ev_hv h304)) fun x305 h306 => (evp_bind (evd_len (xv.bl S.fr_len) (ev_hbv (v_ xv 3))) fun x307 h308 => (evp_bind (evd_add (ev_hv h308) (ev_hv ev_int)) fun x309 h310 => (evp_bind (evd_mod (ev_hv h306) (ev_hv h310)) fun x311 h312 => (evp_bind (evd_add (ev_hv (v_ xv 1)) (ev_hv ev_int)) fun x313 h314 => (evp_bind (evd_mul (ev_hv ev_int) (ev_hv (v_ xv 9))) fun x315 h316 => (evp_bind (evd_add (ev_hv h314) (ev_hv h316)) fun x317 h318 => (evp_bind (evd_ix xc (ev_hbv (v_ xv 0)) h318) fun x319 h320 => (evp_bind (evd_int (xv.bl S.fr_int) (ev_hv h320)) fun x321 h322 => (evp_bind (evd_sum xc (xv.bl S.fr_sum) (ev_hbv (v_ xv 2))) fun x323 h324 => (evp_bind (evd_add (ev_hv h324) (ev_hv ev_int)) fun x325 h326 => (evp_bind (evd_mod (ev_hv h322) (ev_hv h326)) fun x327 h328 => (evd_ok (ev_tup (evd_cons h312 (evd_cons h328 evd_nil)))))))))))))))))))) fun x296 => ?_
    refine blm_if (tvd_nin xc (ev_hv (v_ xv 10)) (o_ xv 8)) ?_ ?_
    · refine blm_appV (T := tx X.w X.K) xb 8 (evd_ok (v_ xv 10)) fun x329 => ?_
      refine blm_go ?_
      exact blm_nextG (T := tx X.w X.K) x329 (.cons (.refl _) (.cons (.refl _) (.cons (.refl _) (.cons (.refl _) (.cons (.refl _) (.cons (.refl _) (.cons (.refl _) (.cons (.refl _) (.cons (.refl _) (.cons (.no _) (.cons (.no _) .nil)))))))))))
    · refine blm_go ?_
      exact blm_nextG (T := tx X.w X.K) s293 (.cons (.refl _) (.cons (.refl _) (.cons (.refl _) (.cons (.refl _) (.cons (.refl _) (.cons (.refl _) (.cons (.refl _) (.cons (.refl _) (.cons (.refl _) (.cons (.no _) (.cons (.no _) .nil)))))))))))
  refine blm_frz (T := tx X.w X.K) 8 ?_
  exact blm_ret (T := tx X.w X.K) (evd_ok (ev_tup (evd_cons (v_ xv 6) (evd_cons (v_ xv 7) (evd_cons (v_ xv 8) evd_nil))))) (fun _ z => z)
def m_law_between (p_lengths : Val) (p_gaps : Val) (p_closed : Val) (p_one : Val) (p_other : Val) : Rs Val :=
  ((Rs.ok .none).ne >>= fun x332 => ((((sortV (.list [p_one, p_other])) >>= (up2 Rs.ok Rs.ok)).ne) >>= fun y333 => ((((ixV y333.1 (.int 0)) >>= fun x334 => (chV leI leI (.int 0) x334 (lenV p_gaps))) >>= fun x => if x then (((ixV y333.1 (.int 1)) >>= fun x336 => (chV leI ltI (.int 0) x336 (sumV p_lengths))) >>= fun x => if x then ((ixV y333.1 (.int 0)) >>= fun x338 => ((ixV y333.1 (.int 1)) >>= fun x340 => ((addV x340 (.int 1)) >>= fun x342 => (eqV y333.2 (.tuple [x338, x342]))))) else Rs.ok false) else Rs.ok false).ne >>= fun x => (if x then (((ixV y333.1 (.int 0)) >>= fun x346 => ((ixV y333.1 (.int 1)) >>= fun x348 => (Rs.ok (.tuple [(.str "up"), x346, x348])))).ne >>= fun x345 => Rs.ok x345) else Rs.ok x332) >>= fun s344 : Val => ((((ixV y333.1 (.int 0)) >>= fun x350 => (chV leI ltI (.int 0) x350 (lenV p_gaps))) >>= fun x => if x then (((ixV y333.1 (.int 1)) >>= fun x352 => ((m_law_crosses p_lengths) >>= fun x354 => (inV x352 x354))) >>= fun x => if x then ((ixV y333.1 (.int 0)) >>= fun x356 => ((addV x356 (.int 1)) >>= fun x358 => ((ixV y333.1 (.int 1)) >>= fun x360 => (eqV y333.2 (.tuple [x358, x360]))))) else Rs.ok false) else Rs.ok false).ne >>= fun x => (if x then (((ixV y333.1 (.int 0)) >>= fun x364 => ((ixV y333.1 (.int 1)) >>= fun x366 => (Rs.ok (.tuple [(.str "over"), x364, x366])))).ne >>= fun x363 => Rs.ok x363) else Rs.ok s344) >>= fun s362 : Val => ((inV s362 p_closed).ne >>= fun x => if x then (Rs.ok .none).ne else (Rs.ok s362).ne)))))
theorem fn_law_between {P : Program} {w : World} {K : PySem.W.Frag} {mg : Str → Option Value} {base : Heap} (S : Fs P K mg) (p_lengths : Val) (p_gaps : Val) (p_closed : Val) (p_one : Val) (p_other : Val) : FnOk P w K mg base (L2.CX P w) 2 (f_law_between K) S.d_law_between P_law_between (spU (tx w K) [hV (tx w K) p_lengths, hV (tx w K) p_gaps, hV (tx w K) p_closed, rD (tx w K) p_one, rD (tx w K) p_other] (m_law_between p_lengths p_gaps p_closed p_one p_other)) := by
  refine fn_u (nm := nm_law_between) (n := 3) S.F_law_between sc_law_between rfl (.hV (.hV (.hV (.cons (.cons .nil))))) rfl rfl (fun X W D hP hw hK hmg hbase xb hn q => ?_)
  subst hP hw hK hmg hbase
  have xc := xb.toXC
  have xv := xc.toXV
  refine (show BlM X W D .tt [vl (bV (tx X.w X.K) p_lengths), vl (bV (tx X.w X.K) p_gaps), vl (bV (tx X.w X.K) p_closed), vl (rD (tx X.w X.K) p_one), vl (rD (tx X.w X.K) p_other), .no, .no, .no] (defBody s_law_between) (m_law_between p_lengths p_gaps p_closed p_one p_other) (fun v => RetV W D (rD (tx X.w X.K) v)) (Zx (tx X.w X.K) X W) from ?_) q
  clear q
  delta m_law_between
  refine blm_set1 (T := tx X.w X.K) xb 5 (evd_ok ev_non) fun x332 => ?_
  refine blm_asg (T := tx X.w X.K) (evd_fz (eod_sorted xc (xv.bl S.fr_sorted) (ev_hv (ev_fz (evo_lst (evd_cons (v_ xv 3) (evd_cons (v_ xv 4) evd_nil))))))) (tgm_2 xc.calm (tgm_name xv 6 (hf := .inl (xb.fnn _))) (fun _ => (tgm_name xv 7 (hf := .inl (xb.fnn _))))) fun y333 => ?_
  refine blm_ifj (fun s344 : Val => [vl (bV (tx X.w X.K) p_lengths), vl (bV (tx X.w X.K) p_gaps), vl (bV (tx X.w X.K) p_closed), vl (rD (tx X.w X.K) p_one), vl (rD (tx X.w X.K) p_other), vl (rD (tx X.w X.K) s344), vl (rD (tx X.w X.K) y333.1), vl (rD (tx X.w X.K) y333.2)]) (tvp_wv (wvp_and (tvp_bind (evd_ix xc (ev_hv (v_ xv 6)) ev_int) fun x334 h335 => (tvd_ch op_le op_le (ev_hv ev_int) (ev_hv h335) (evd_len (xv.bl S.fr_len) (ev_hbv (v_ xv 1))))) (wvp_and (tvp_bind (evd_ix xc (ev_hv (v_ xv 6)) ev_int) fun x336 h337 => (tvd_ch op_le op_lt (ev_hv ev_int) (ev_hv h337) (evd_sum xc (xv.bl S.fr_sum) (ev_hbv (v_ xv 0))))) (wvp_and1 (tvp_bind (evd_ix xc (ev_hv (v_ xv 6)) ev_int) fun x338 h339 => (tvp_bind (evd_ix xc (ev_hv (v_ xv 6)) ev_int) fun x340 h341 => (tvp_bind (evd_add (ev_hv h341) (ev_hv ev_int)) fun x342 h343 => (tvd_eq xc (ev_hv (v_ xv 7)) (ev_hv (ev_tup (evd_cons h339 (evd_cons h343 evd_nil)))))))))))) ?_ ?_ fun s344 => ?_
  · refine blm_set1 (T := tx X.w X.K) xb 5 (evp_bind (evd_ix xc (ev_hv (v_ xv 6)) ev_int) fun x346 h347 => (evp_bind (evd_ix xc (ev_hv (v_ xv 6)) ev_int) fun x348 h349 => (evd_ok (ev_tup (evd_cons ev_str (evd_cons h347 (evd_cons h349 evd_nil))))))) fun x345 => ?_
    exact blm_end x345 (.cons (.refl _) (.cons (.refl _) (.cons (.refl _) (.cons (.refl _) (.cons (.refl _) (.cons (.refl _) (.cons (.refl _) (.cons (.refl _) .nil))))))))
  · exact blm_end x332 (.cons (.refl _) (.cons (.refl _) (.cons (.refl _) (.cons (.refl _) (.cons (.refl _) (.cons (.refl _) (.cons (.refl _) (.cons (.refl _) .nil))))))))
  refine blm_ifj (fun s362 : Val => [vl (bV (tx X.w X.K) p_lengths), vl (bV (tx X.w X.K) p_gaps), vl (bV (tx X.w X.K) p_closed), vl (rD (tx X.w X.K) p_one), vl (rD (tx X.w X.K) p_other), vl (rD (tx X.w X.K) s362), vl (rD (tx X.w X.K) y333.1), vl (rD (tx X.w X.K) y333.2)]) (tvp_wv (wvp_and (tvp_bind (evd_ix xc (ev_hv (v_ xv 6)) ev_int) fun x350 h351 => (tvd_ch op_le op_lt (ev_hv ev_int) (ev_hv h351) (evd_len (xv.bl S.fr_len) (ev_hbv (v_ xv 1))))) (wvp_and (tvp_bind (evd_ix xc (ev_hv (v_ xv 6)) ev_int) fun x352 h353 => (tvp_bind (evp_c xc (S.df_law_crosses (fn_law_crosses S _)) (eva_cons (ev_hbv (v_ xv 0)) eva_nil)) fun x354 h355 => (tvd_in xc (ev_hv h353) (ev_hv h355)))) (wvp_and1 (tvp_bind (evd_ix xc (ev_hv (v_ xv 6)) ev_int) fun x356 h357 => (tvp_bind (evd_add (ev_hv h357) (ev_hv ev_int)) fun x358 h359 => (tvp_bind (evd_ix xc (ev_hv (v_ xv 6)) ev_int) fun x360 h361 => (tvd_eq xc (ev_hv (v_ xv 7)) (ev_hv (ev_tup (evd_cons h359 (evd_cons h361 evd_nil)))))))))))) ?_ ?_ fun s362 => ?_
  · refine blm_set1 (T := tx X.w X.K) xb 5 (evp_bind (evd_ix xc (ev_hv (v_ xv 6)) ev_int) fun x364 h365 => (evp_bind (evd_ix xc (ev_hv (v_ xv 6)) ev_int) fun x366 h367 => (evd_ok (ev_tup (evd_cons ev_str (evd_cons h365 (evd_cons h367 evd_nil))))))) fun x363 => ?_
    exact blm_end x363 (.cons (.refl _) (.cons (.refl _) (.cons (.refl _) (.cons (.refl _) (.cons (.refl _) (.cons (.refl _) (.cons (.refl _) (.cons (.refl _) .nil))))))))
  · exact blm_end s344 (.cons (.refl _) (.cons (.refl _) (.cons (.refl _) (.cons (.refl _) (.cons (.refl _) (.cons (.refl _) (.cons (.refl _) (.cons (.refl _) .nil))))))))
  refine blm_if (tvd_in xc (ev_hv (v_ xv 5)) (ev_hbv (v_ xv 2))) ?_ ?_
  · exact blm_ret (T := tx X.w X.K) (evd_ok ev_non) (fun _ z => z)
  · refine blm_go ?_
    exact blm_ret (T := tx X.w X.K) (evd_ok (v_ xv 5)) (fun _ z => z)
def m_law_beside (p_lengths : Val) (p_gaps : Val) (p_closed : Val) (p_place : Val) : Rs Val :=
  ((((Rs.ok p_place) >>= (up2 Rs.ok Rs.ok)).ne) >>= fun y368 => ((Rs.ok (.list [])).ne >>= fun x369 => (((subV y368.1 (.int 1)) >>= fun x370 => ((subV y368.2 (.int 1)) >>= fun x372 => ((addV y368.2 (.int 1)) >>= fun x374 => ((addV y368.1 (.int 1)) >>= fun x376 => (walkV (.list [(.tuple [x370, y368.2]), (.tuple [y368.1, x372]), (.tuple [y368.1, x374]), (.tuple [x376, y368.2])])))))).ne >>= fun ws => forL (fun (s378 : Val) x => (Rs.ok x).ne >>= fun y380 : Val => ((m_law_between p_lengths p_gaps p_closed p_place y380).ne >>= fun x381 => ((Rs.ok (!isNone x381)).ne >>= fun x => if x then (((((((ixV x381 (.int 0)) >>= fun x382 => (eqV x382 (.str "up"))) >>= fun x => if x then (Rs.ok (.int 1)) else ((ixV x381 (.int 1)) >>= fun x384 => (ixV p_gaps x384))) >>= fun x386 => (Rs.ok (.tuple [y380, x386]))) >>= fun v => appV s378 v).ne) >>= fun x388 => Rs.ok (.go x388)) else Rs.ok (.go s378)))) ws x369 >>= fun r => thenF r (fun s378 => (Rs.ok s378).ne) (fun v => Rs.ok v))))
theorem fn_law_beside {P : Program} {w : World} {K : PySem.W.Frag} {mg : Str → Option Value} {base : Heap} (S : Fs P K mg) (p_lengths : Val) (p_gaps : Val) (p_closed : Val) (p_place : Val) : FnOk P w K mg base (L2.CX P w) 3 (f_law_beside K) S.d_law_beside P_law_beside (spU (tx w K) [hV (tx w K) p_lengths, hV (tx w K) p_gaps, hV (tx w K) p_closed, rD (tx w K) p_place] (m_law_beside p_lengths p_gaps p_closed p_place)) := by
  refine fn_u (nm := nm_law_beside) (n := 5) S.F_law_beside sc_law_beside rfl (.hV (.hV (.hV (.cons .nil)))) rfl rfl (fun X W D hP hw hK hmg hbase xb hn q => ?_)
  subst hP hw hK hmg hbase
  have xc := xb.toXC
  have xv := xc.toXV
  refine (show BlM X W D .tt [vl (bV (tx X.w X.K) p_lengths), vl (bV (tx X.w X.K) p_gaps), vl (bV (tx X.w X.K) p_closed), vl (rD (tx X.w X.K) p_place), .no, .no, .no, .no, .no] (defBody s_law_beside) (m_law_beside p_lengths p_gaps p_closed p_place) (fun v => RetV W D (rD (tx X.w X.K) v)) (Zx (tx X.w X.K) X W) from ?_) q
  clear q
  delta m_law_beside
  refine blm_asg (T := tx X.w X.K) (evd_ok (v_ xv 3)) (tgm_2 xc.calm (tgm_name xv 4 (hf := .inl (xb.fnn _))) (fun _ => (tgm_name xv 5 (hf := .inl (xb.fnn _))))) fun y368 => ?_
  refine blm_setO1 (T := tx X.w X.K) xb 6 (eod_ok (evo_lst evd_nil)) fun x369 => ?_
  refine blm_forW (T := tx X.w X.K) (Γs := fun s378 : Val => [vl (bV (tx X.w X.K) p_lengths), vl (bV (tx X.w X.K) p_gaps), vl (bV (tx X.w X.K) p_closed), vl (rD (tx X.w X.K) p_place), vl (rD (tx X.w X.K) y368.1), vl (rD (tx X.w X.K) y368.2), .ow (cV (tx X.w X.K) s378), .no, .no]) (Γt := fun (s378 : Val) (y380 : Val) => [vl (bV (tx X.w X.K) p_lengths), vl (bV (tx X.w X.K) p_gaps), vl (bV (tx X.w X.K) p_closed), vl (rD (tx X.w X.K) p_place), vl (rD (tx X.w X.K) y368.1), vl (rD (tx X.w X.K) y368.2), .ow (cV (tx X.w X.K) s378), vl (rD (tx X.w X.K) y380), .no]) xb x369 (evw_bind (evd_sub (ev_hv (v_ xv 4)) (ev_hv ev_int)) fun x370 h371 => (evw_bind (evd_sub (ev_hv (v_ xv 5)) (ev_hv ev_int)) fun x372 h373 => (evw_bind (evd_add (ev_hv (v_ xv 5)) (ev_hv ev_int)) fun x374 h375 => (evw_bind (evd_add (ev_hv (v_ xv 4)) (ev_hv ev_int)) fun x376 h377 => (evwd (ev_bv (ev_fz (evo_lst (evd_cons (ev_tup (evd_cons h371 (evd_cons (v_ xv 5) evd_nil))) (evd_cons (ev_tup (evd_cons (v_ xv 4) (evd_cons h373 evd_nil))) (evd_cons (ev_tup (evd_cons (v_ xv 4) (evd_cons h375 evd_nil))) (evd_cons (ev_tup (evd_cons h377 (evd_cons (v_ xv 5) evd_nil))) evd_nil)))))))))))) (.cons (.refl _) (.cons (.refl _) (.cons (.refl _) (.cons (.refl _) (.cons (.refl _) (.cons (.refl _) (.cons (.refl _) (.cons (.no _) (.cons (.no _) .nil))))))))) (fun s378 => (tgm_name xv 7 (hf := .inl (xb.fnn _)))) ?_ (fun _ z _ _ => zx_g z) (fun s378 => ?_) (fun _ z => z)
  · rintro gh D379 s378 y380 hzs378 hr
    refine blm_set1 (T := tx X.w X.K) xb 8 (evp_c xc (S.df_law_between (fn_law_between S _ _ _ _ _)) (eva_cons (ev_hbv (v_ xv 0)) (eva_cons (ev_hbv (v_ xv 1)) (eva_cons (ev_hbv (v_ xv 2)) (eva_cons (v_ xv 3) (eva_cons (v_ xv 7) eva_nil)))))) fun x381 => ?_
    refine blm_if (tvd_noN (v_ xv 8)) ?_ ?_
    · refine blm_appV (T := tx X.w X.K) xb 6 (evp_bind (evd_ife (tvp_bind (evd_ix xc (ev_hv (v_ xv 8)) ev_int) fun x382 h383 => (tvd_eq xc (ev_hv h383) (ev_hv ev_str))) (evd_ok ev_int) (evp_bind (evd_ix xc (ev_hv (v_ xv 8)) ev_int) fun x384 h385 => (evd_ix xc (ev_hbv (v_ xv 1)) h385))) fun x386 h387 => (evd_ok (ev_tup (evd_cons (v_ xv 7) (evd_cons h387 evd_nil))))) fun x388 => ?_
      refine blm_go ?_
      exact blm_nextG (T := tx X.w X.K) x388 (.cons (.refl _) (.cons (.refl _) (.cons (.refl _) (.cons (.refl _) (.cons (.refl _) (.cons (.refl _) (.cons (.refl _) (.cons (.no _) (.cons (.no _) .nil)))))))))
    · refine blm_go ?_
      exact blm_nextG (T := tx X.w X.K) s378 (.cons (.refl _) (.cons (.refl _) (.cons (.refl _) (.cons (.refl _) (.cons (.refl _) (.cons (.refl _) (.cons (.refl _) (.cons (.no _) (.cons (.no _) .nil)))))))))
  refine blm_frz (T := tx X.w X.K) 6 ?_
  exact blm_ret (T := tx X.w X.K) (evd_ok (v_ xv 6)) (fun _ z => z)
def m_House_aisles (p_self : Val) : Rs Val :=
  ((fldV "House" "_gaps" p_self) >>= fun x391 => ((lenV x391) >>= fun x393 => (addV x393 (.int 1)))).ne
theorem fn_House_aisles {P : Program} {w : World} {K : PySem.W.Frag} {mg : Str → Option Value} {base : Heap} (S : Fs P K mg) (p_self : Val) : FnOk P w K mg base (L2.CX P w) 1 (f_House_aisles K) S.d_House_aisles P_House_aisles (spU (tx w K) [hV (tx w K) p_self] (m_House_aisles p_self)) := by
  refine fn_u (nm := nm_House_aisles) (n := 0) S.F_House_aisles sc_House_aisles rfl (.hV .nil) rfl rfl (fun X W D hP hw hK hmg hbase xb hn q => ?_)
  subst hP hw hK hmg hbase
  have xc := xb.toXC
  have xv := xc.toXV
  refine (show BlM X W D .tt [vl (bV (tx X.w X.K) p_self)] (defBody s_House_aisles) (m_House_aisles p_self) (fun v => RetV W D (rD (tx X.w X.K) v)) (Zx (tx X.w X.K) X W) from ?_) q
  clear q
  delta m_House_aisles
  exact blm_ret (T := tx X.w X.K) (evp_bind (evd_fld (ev_hbv (v_ xv 0)) S.c_House S.a_House_gaps) fun x391 h392 => (evp_bind (evd_len (xv.bl S.fr_len) (ev_hv h392)) fun x393 h394 => (evd_add (ev_hv h394) (ev_hv ev_int)))) (fun _ z => z)
def m_House_top (p_self : Val) : Rs Val :=
  ((fldV "House" "_lengths" p_self) >>= fun x397 => (sumV x397)).ne
theorem fn_House_top {P : Program} {w : World} {K : PySem.W.Frag} {mg : Str → Option Value} {base : Heap} (S : Fs P K mg) (p_self : Val) : FnOk P w K mg base (L2.CX P w) 1 (f_House_top K) S.d_House_top P_House_top (spU (tx w K) [hV (tx w K) p_self] (m_House_top p_self)) := by
  refine fn_u (nm := nm_House_top) (n := 0) S.F_House_top sc_House_top rfl (.hV .nil) rfl rfl (fun X W D hP hw hK hmg hbase xb hn q => ?_)
  subst hP hw hK hmg hbase
  have xc := xb.toXC
  have xv := xc.toXV
  refine (show BlM X W D .tt [vl (bV (tx X.w X.K) p_self)] (defBody s_House_top) (m_House_top p_self) (fun v => RetV W D (rD (tx X.w X.K) v)) (Zx (tx X.w X.K) X W) from ?_) q
  clear q
  delta m_House_top
  exact blm_ret (T := tx X.w X.K) (evp_bind (evd_fld (ev_hbv (v_ xv 0)) S.c_House S.a_House_lengths) fun x397 h398 => (evd_sum xc (xv.bl S.fr_sum) (ev_hv h398))) (fun _ z => z)
def m_House_is_place (p_self : Val) (p_place : Val) : Rs Val :=
  ((((ixV p_place (.int 0)) >>= fun x395 => (chV leI ltI (.int 0) x395 (insC "House" "" p_self >>= fun _ => m_House_aisles p_self))) >>= fun x => if x then ((ixV p_place (.int 1)) >>= fun x399 => (chV leI leI (.int 0) x399 (insC "House" "" p_self >>= fun _ => m_House_top p_self))) else Rs.ok false) >>= fun b => Rs.ok (.bool b)).ne
theorem fn_House_is_place {P : Program} {w : World} {K : PySem.W.Frag} {mg : Str → Option Value} {base : Heap} (S : Fs P K mg) (p_self : Val) (p_place : Val) : FnOk P w K mg base (L2.CX P w) 3 (f_House_is_place K) S.d_House_is_place P_House_is_place (spU (tx w K) [hV (tx w K) p_self, hV (tx w K) p_place] (m_House_is_place p_self p_place)) := by
  refine fn_u (nm := nm_House_is_place) (n := 0) S.F_House_is_place sc_House_is_place rfl (.hV (.hV .nil)) rfl rfl (fun X W D hP hw hK hmg hbase xb hn q => ?_)
  subst hP hw hK hmg hbase
  have xc := xb.toXC
  have xv := xc.toXV
  refine (show BlM X W D .tt [vl (bV (tx X.w X.K) p_self), vl (bV (tx X.w X.K) p_place)] (defBody s_House_is_place) (m_House_is_place p_self p_place) (fun v => RetV W D (rD (tx X.w X.K) v)) (Zx (tx X.w X.K) X W) from ?_) q
  clear q
  delta m_House_is_place
  exact blm_ret (T := tx X.w X.K) (evd_ofB (evp_and (evp_bind (evd_ix xc (ev_hbv (v_ xv 1)) ev_int) fun x395 h396 => (evd_ch op_le op_lt (ev_hv ev_int) (ev_hv h396) (evd_p xc (ev_hbv (v_ xv 0)) (S.pr_House_aisles (fn_House_aisles S _))))) (evp_one (evp_bind (evd_ix xc (ev_hbv (v_ xv 1)) ev_int) fun x399 h400 => (evd_ch op_le op_le (ev_hv ev_int) (ev_hv h400) (evd_p xc (ev_hbv (v_ xv 0)) (S.pr_House_top (fn_House_top S _)))))))) (fun _ z => z)
def m_House_crosses (p_self : Val) : Rs Val :=
  ((Rs.ok (.list [(.int 0)])).ne >>= fun x434 => (((fldV "House" "_lengths" p_self) >>= fun x435 => (walkV x435)).ne >>= fun ws => forL (fun (s437 : Val) x => (Rs.ok x).ne >>= fun y439 : Val => (((((negV (.int 1)) >>= fun x440 => ((ixV s437 x440) >>= fun x442 => (addV x442 y439))) >>= fun v => appV s437 v).ne) >>= fun x444 => Rs.ok (.go x444))) ws x434 >>= fun r => thenF r (fun s437 => (Rs.ok s437).ne) (fun v => Rs.ok v)))
theorem fn_House_crosses {P : Program} {w : World} {K : PySem.W.Frag} {mg : Str → Option Value} {base : Heap} (S : Fs P K mg) (p_self : Val) : FnOk P w K mg base (L2.CX P w) 1 (f_House_crosses K) S.d_House_crosses P_House_crosses (spU (tx w K) [hV (tx w K) p_self] (m_House_crosses p_self)) := by
  refine fn_u (nm := nm_House_crosses) (n := 2) S.F_House_crosses sc_House_crosses rfl (.hV .nil) rfl rfl (fun X W D hP hw hK hmg hbase xb hn q => ?_)
  subst hP hw hK hmg hbase
  have xc := xb.toXC
  have xv := xc.toXV
  refine (show BlM X W D .tt [vl (bV (tx X.w X.K) p_self), .no, .no] (defBody s_House_crosses) (m_House_crosses p_self) (fun v => RetV W D (rD (tx X.w X.K) v)) (Zx (tx X.w X.K) X W) from ?_) q
  clear q
  delta m_House_crosses
  refine blm_setO1 (T := tx X.w X.K) xb 1 (eod_ok (evo_lst (evd_cons ev_int evd_nil))) fun x434 => ?_
  refine blm_forW (T := tx X.w X.K) (Γs := fun s437 : Val => [vl (bV (tx X.w X.K) p_self), .ow (cV (tx X.w X.K) s437), .no]) (Γt := fun (s437 : Val) (y439 : Val) => [vl (bV (tx X.w X.K) p_self), .ow (cV (tx X.w X.K) s437), vl (rD (tx X.w X.K) y439)]) xb x434 (evw_bind (evd_fld (ev_hbv (v_ xv 0)) S.c_House S.a_House_lengths) fun x435 h436 => (evwd (ev_bv h436))) (.cons (.refl _) (.cons (.refl _) (.cons (.no _) .nil))) (fun s437 => (tgm_name xv 2 (hf := .inl (xb.fnn _)))) ?_ (fun _ z _ _ => zx_g z) (fun s437 => ?_) (fun _ z => z)
  · rintro gh D438 s437 y439 hzs437 hr
    refine blm_appV (T := tx X.w X.K) xb 1 (evp_bind (evd_neg (ev_hv ev_int)) fun x440 h441 => (evp_bind (evd_ix xc (o_ xv 1) h441) fun x442 h443 => (evd_add (ev_hv h443) (ev_hv (v_ xv 2))))) fun x444 => ?_
    exact blm_nextG (T := tx X.w X.K) x444 (.cons (.refl _) (.cons (.refl _) (.cons (.no _) .nil)))
  refine blm_frz (T := tx X.w X.K) 1 ?_
  exact blm_ret (T := tx X.w X.K) (evd_ok (v_ xv 1)) (fun _ z => z)
def m_House_is_cross (p_self : Val) (p_place : Val) : Rs Val :=
  ((((insC "House" "is_place" p_self >>= fun _ => m_House_is_place p_self p_place) >>= boolV) >>= fun x => if x then ((ixV p_place (.int 1)) >>= fun x432 => ((insC "House" "crosses" p_self >>= fun _ => m_House_crosses p_self) >>= fun x445 => (inV x432 x445))) else Rs.ok false) >>= fun b => Rs.ok (.bool b)).ne
theorem fn_House_is_cross {P : Program} {w : World} {K : PySem.W.Frag} {mg : Str → Option Value} {base : Heap} (S : Fs P K mg) (p_self : Val) (p_place : Val) : FnOk P w K mg base (L2.CX P w) 4 (f_House_is_cross K) S.d_House_is_cross P_House_is_cross (spU (tx w K) [hV (tx w K) p_self, hV (tx w K) p_place] (m_House_is_cross p_self p_place)) := by
  refine fn_u (nm := nm_House_is_cross) (n := 0) S.F_House_is_cross sc_House_is_cross rfl (.hV (.hV .nil)) rfl rfl (fun X W D hP hw hK hmg hbase xb hn q => ?_)
  subst hP hw hK hmg hbase
  have xc := xb.toXC
  have xv := xc.toXV
  refine (show BlM X W D .tt [vl (bV (tx X.w X.K) p_self), vl (bV (tx X.w X.K) p_place)] (defBody s_House_is_cross) (m_House_is_cross p_self p_place) (fun v => RetV W D (rD (tx X.w X.K) v)) (Zx (tx X.w X.K) X W) from ?_) q
  clear q
  delta m_House_is_cross
  exact blm_ret (T := tx X.w X.K) (evd_ofB (evp_and (evp_tobool (evd_m xc (ev_hbv (v_ xv 0)) (S.mt_House_is_place (fn_House_is_place S _ _)) (eva_cons (ev_hbv (v_ xv 1)) eva_nil))) (evp_one (evp_bind (evd_ix xc (ev_hbv (v_ xv 1)) ev_int) fun x432 h433 => (evp_bind (evd_m0 xc (ev_hbv (v_ xv 0)) (S.mt_House_crosses (fn_House_crosses S _)) ) fun x445 h446 => (evd_in xc (ev_hv h433) (ev_hv h446))))))) (fun _ z => z)
def m_House_is_link (p_self : Val) (p_link : Val) : Rs Val :=
  ((((Rs.ok p_link) >>= (up3 Rs.ok Rs.ok Rs.ok)).ne) >>= fun y429 => ((eqV y429.1 (.str "up")).ne >>= fun x => if x then ((((insC "House" "is_place" p_self >>= fun _ => m_House_is_place p_self (.tuple [y429.2.1, y429.2.2])) >>= boolV) >>= fun x => if x then ((insC "House" "" p_self >>= fun _ => m_House_top p_self) >>= fun x430 => (cmpI ltI y429.2.2 x430)) else Rs.ok false) >>= fun b => Rs.ok (.bool b)).ne else (((eqV y429.1 (.str "over")) >>= fun x => if x then (((insC "House" "is_cross" p_self >>= fun _ => m_House_is_cross p_self (.tuple [y429.2.1, y429.2.2])) >>= boolV) >>= fun x => if x then ((insC "House" "" p_self >>= fun _ => m_House_aisles p_self) >>= fun x447 => ((subV x447 (.int 1)) >>= fun x449 => (cmpI ltI y429.2.1 x449))) else Rs.ok false) else Rs.ok false) >>= fun b => Rs.ok (.bool b)).ne))
theorem fn_House_is_link {P : Program} {w : World} {K : PySem.W.Frag} {mg : Str → Option Value} {base : Heap} (S : Fs P K mg) (p_self : Val) (p_link : Val) : FnOk P w K mg base (L2.CX P w) 5 (f_House_is_link K) S.d_House_is_link P_House_is_link (spU (tx w K) [hV (tx w K) p_self, rD (tx w K) p_link] (m_House_is_link p_self p_link)) := by
  refine fn_u (nm := nm_House_is_link) (n := 3) S.F_House_is_link sc_House_is_link rfl (.hV (.cons .nil)) rfl rfl (fun X W D hP hw hK hmg hbase xb hn q => ?_)
  subst hP hw hK hmg hbase
  have xc := xb.toXC
  have xv := xc.toXV
  refine (show BlM X W D .tt [vl (bV (tx X.w X.K) p_self), vl (rD (tx X.w X.K) p_link), .no, .no, .no] (defBody s_House_is_link) (m_House_is_link p_self p_link) (fun v => RetV W D (rD (tx X.w X.K) v)) (Zx (tx X.w X.K) X W) from ?_) q
  clear q
  delta m_House_is_link
  refine blm_asg (T := tx X.w X.K) (evd_ok (v_ xv 1)) (tgm_3 xc.calm (tgm_name xv 2 (hf := .inl (xb.fnn _))) (fun _ => (tgm_name xv 3 (hf := .inl (xb.fnn _)))) (fun _ _ => (tgm_name xv 4 (hf := .inl (xb.fnn _))))) fun y429 => ?_
  refine blm_if (tvd_eq xc (ev_hv (v_ xv 2)) (ev_hv ev_str)) ?_ ?_
  · exact blm_ret (T := tx X.w X.K) (evd_ofB (evp_and (evp_tobool (evd_m xc (ev_hbv (v_ xv 0)) (S.mt_House_is_place (fn_House_is_place S _ _)) (eva_cons (ev_hv (ev_tup (evd_cons (v_ xv 3) (evd_cons (v_ xv 4) evd_nil)))) eva_nil))) (evp_one (evp_bind (evd_p xc (ev_hbv (v_ xv 0)) (S.pr_House_top (fn_House_top S _))) fun x430 h431 => (evd_lt (ev_hv (v_ xv 4)) (ev_hv h431)))))) (fun _ z => z)
  · refine blm_go ?_
    exact blm_ret (T := tx X.w X.K) (evd_ofB (evp_and (evd_eq xc (ev_hv (v_ xv 2)) (ev_hv ev_str)) (evp_and (evp_tobool (evd_m xc (ev_hbv (v_ xv 0)) (S.mt_House_is_cross (fn_House_is_cross S _ _)) (eva_cons (ev_hv (ev_tup (evd_cons (v_ xv 3) (evd_cons (v_ xv 4) evd_nil)))) eva_nil))) (evp_one (evp_bind (evd_p xc (ev_hbv (v_ xv 0)) (S.pr_House_aisles (fn_House_aisles S _))) fun x447 h448 => (evp_bind (evd_sub (ev_hv h448) (ev_hv ev_int)) fun x449 h450 => (evd_lt (ev_hv (v_ xv 3)) (ev_hv h450)))))))) (fun _ z => z)
def m_House_check_link (p_self : Val) (p_link : Val) : Rs Val :=
  ((((insC "House" "is_link" p_self >>= fun _ => m_House_is_link p_self p_link) >>= fun x453 => (tstV x453)) >>= fun r => Rs.ok (!r)).ne >>= fun x => if x then Rs.err ⟨"InvalidLink", none⟩ else (Rs.ok .none))
theorem fn_House_check_link {P : Program} {w : World} {K : PySem.W.Frag} {mg : Str → Option Value} {base : Heap} (S : Fs P K mg) (p_self : Val) (p_link : Val) : FnOk P w K mg base (L2.CX P w) 6 (f_House_check_link K) S.d_House_check_link P_House_check_link (spU (tx w K) [hV (tx w K) p_self, rD (tx w K) p_link] (m_House_check_link p_self p_link)) := by
  refine fn_u (nm := nm_House_check_link) (n := 0) S.F_House_check_link sc_House_check_link rfl (.hV (.cons .nil)) rfl rfl (fun X W D hP hw hK hmg hbase xb hn q => ?_)
  subst hP hw hK hmg hbase
  have xc := xb.toXC
  have xv := xc.toXV
  refine (show BlM X W D .tt [vl (bV (tx X.w X.K) p_self), vl (rD (tx X.w X.K) p_link)] (defBody s_House_check_link) (m_House_check_link p_self p_link) (fun v => RetV W D (rD (tx X.w X.K) v)) (Zx (tx X.w X.K) X W) from ?_) q
  clear q
  delta m_House_check_link
  refine blm_if (tvp_not (tvp_bind (evd_m xc (ev_hbv (v_ xv 0)) (S.mt_House_is_link (fn_House_is_link S _ _)) (eva_cons (v_ xv 1) eva_nil)) fun x453 h454 => (tvd_tst (ev_hv h454)))) ?_ ?_
  · exact blm_raise (T := tx X.w X.K) xb (pmk_own PySem.F.excBase_ValueError S.e_InvalidLink.1 S.g_InvalidLink S.e_InvalidLink.2.1 (raises_own S.e_InvalidLink.2.2.1 S.e_InvalidLink.2.2.2) (xv.gl (by decide +kernel))) (fun _ z => zx_g z)
  · refine blm_go ?_
    exact blm_fall (T := tx X.w X.K) (fun _ _ => by rw [hn]) (fun z => z)
def m_House_ends_of (p_self : Val) (p_link : Val) : Rs Val :=
  ((insC "House" "check_link" p_self >>= fun _ => m_House_check_link p_self p_link) >>= fun x460 => ((((Rs.ok p_link) >>= (up3 Rs.ok Rs.ok Rs.ok)).ne) >>= fun y455 => ((eqV y455.1 (.str "up")).ne >>= fun x => if x then ((addV y455.2.2 (.int 1)) >>= fun x456 => (Rs.ok (.tuple [(.tuple [y455.2.1, y455.2.2]), (.tuple [y455.2.1, x456])]))).ne else ((addV y455.2.1 (.int 1)) >>= fun x458 => (Rs.ok (.tuple [(.tuple [y455.2.1, y455.2.2]), (.tuple [x458, y455.2.2])]))).ne)))
theorem fn_House_ends_of {P : Program} {w : World} {K : PySem.W.Frag} {mg : Str → Option Value} {base : Heap} (S : Fs P K mg) (p_self : Val) (p_link : Val) : FnOk P w K mg base (L2.CX P w) 7 (f_House_ends_of K) S.d_House_ends_of P_House_ends_of (spU (tx w K) [hV (tx w K) p_self, rD (tx w K) p_link] (m_House_ends_of p_self p_link)) := by
  refine fn_u (nm := nm_House_ends_of) (n := 3) S.F_House_ends_of sc_House_ends_of rfl (.hV (.cons .nil)) rfl rfl (fun X W D hP hw hK hmg hbase xb hn q => ?_)
  subst hP hw hK hmg hbase
  have xc := xb.toXC
  have xv := xc.toXV
  refine (show BlM X W D .tt [vl (bV (tx X.w X.K) p_self), vl (rD (tx X.w X.K) p_link), .no, .no, .no] (defBody s_House_ends_of) (m_House_ends_of p_self p_link) (fun v => RetV W D (rD (tx X.w X.K) v)) (Zx (tx X.w X.K) X W) from ?_) q
  clear q
  delta m_House_ends_of
  refine blm_expC1 (T := tx X.w X.K) (evd_m xc (ev_hbv (v_ xv 0)) (S.mt_House_check_link (fn_House_check_link S _ _)) (eva_cons (v_ xv 1) eva_nil)) (evqd_m xc (ev_hbv (v_ xv 0)) (S.mt_House_check_link (fn_House_check_link S _ _)) (eva_cons (v_ xv 1) eva_nil)) (fun _ z => zx_g z) fun x460 => ?_
  refine blm_asg (T := tx X.w X.K) (evd_ok (v_ xv 1)) (tgm_3 xc.calm (tgm_name xv 2 (hf := .inl (xb.fnn _))) (fun _ => (tgm_name xv 3 (hf := .inl (xb.fnn _)))) (fun _ _ => (tgm_name xv 4 (hf := .inl (xb.fnn _))))) fun y455 => ?_
  refine blm_if (tvd_eq xc (ev_hv (v_ xv 2)) (ev_hv ev_str)) ?_ ?_
  · exact blm_ret (T := tx X.w X.K) (evp_bind (evd_add (ev_hv (v_ xv 4)) (ev_hv ev_int)) fun x456 h457 => (evd_ok (ev_tup (evd_cons (ev_tup (evd_cons (v_ xv 3) (evd_cons (v_ xv 4) evd_nil))) (evd_cons (ev_tup (evd_cons (v_ xv 3) (evd_cons h457 evd_nil))) evd_nil))))) (fun _ z => z)
  · refine blm_go ?_
    exact blm_ret (T := tx X.w X.K) (evp_bind (evd_add (ev_hv (v_ xv 3)) (ev_hv ev_int)) fun x458 h459 => (evd_ok (ev_tup (evd_cons (ev_tup (evd_cons (v_ xv 3) (evd_cons (v_ xv 4) evd_nil))) (evd_cons (ev_tup (evd_cons h459 (evd_cons (v_ xv 4) evd_nil))) evd_nil))))) (fun _ z => z)
def m_House_is_closed (p_self : Val) (p_link : Val) : Rs Val :=
  ((fldV "House" "_closed" p_self) >>= fun x463 => ((inV p_link x463) >>= fun b => Rs.ok (.bool b))).ne
theorem fn_House_is_closed {P : Program} {w : World} {K : PySem.W.Frag} {mg : Str → Option Value} {base : Heap} (S : Fs P K mg) (p_self : Val) (p_link : Val) : FnOk P w K mg base (L2.CX P w) 1 (f_House_is_closed K) S.d_House_is_closed P_House_is_closed (spU (tx w K) [hV (tx w K) p_self, hV (tx w K) p_link] (m_House_is_closed p_self p_link)) := by
  refine fn_u (nm := nm_House_is_closed) (n := 0) S.F_House_is_closed sc_House_is_closed rfl (.hV (.hV .nil)) rfl rfl (fun X W D hP hw hK hmg hbase xb hn q => ?_)
  subst hP hw hK hmg hbase
  have xc := xb.toXC
  have xv := xc.toXV
  refine (show BlM X W D .tt [vl (bV (tx X.w X.K) p_self), vl (bV (tx X.w X.K) p_link)] (defBody s_House_is_closed) (m_House_is_closed p_self p_link) (fun v => RetV W D (rD (tx X.w X.K) v)) (Zx (tx X.w X.K) X W) from ?_) q
  clear q
  delta m_House_is_closed
  exact blm_ret (T := tx X.w X.K) (evp_bind (evd_fld (ev_hbv (v_ xv 0)) S.c_House S.a_House_closed) fun x463 h464 => (evd_ofB (evd_in xc (ev_hbv (v_ xv 1)) (ev_hv h464)))) (fun _ z => z)
def m_House_link_between (p_self : Val) (p_one : Val) (p_other : Val) : Rs Val :=
  ((((sortV (.list [p_one, p_other])) >>= (up2 Rs.ok Rs.ok)).ne) >>= fun y419 => ((addV (.tuple [(.str "up")]) y419.1).ne >>= fun x420 => (((ixV y419.1 (.int 0)) >>= fun x421 => ((ixV y419.2 (.int 0)) >>= fun x423 => (neV x421 x423))).ne >>= fun x => (if x then ((addV (.tuple [(.str "over")]) y419.1).ne >>= fun x426 => Rs.ok x426) else Rs.ok x420) >>= fun s425 : Val => (((((insC "House" "is_place" p_self >>= fun _ => m_House_is_place p_self y419.1) >>= fun x427 => (tstV x427)) >>= fun r => Rs.ok (!r)) >>= fun x => if x then Rs.ok true else ((((insC "House" "is_link" p_self >>= fun _ => m_House_is_link p_self s425) >>= fun x451 => (tstV x451)) >>= fun r => Rs.ok (!r)) >>= fun x => if x then Rs.ok true else ((insC "House" "ends_of" p_self >>= fun _ => m_House_ends_of p_self s425) >>= fun x461 => (neV x461 (.tuple [y419.1, y419.2]))))).ne >>= fun x => if x then (Rs.ok .none).ne else (((insC "House" "is_closed" p_self >>= fun _ => m_House_is_closed p_self s425) >>= fun x465 => (tstV x465)).ne >>= fun x => if x then (Rs.ok .none).ne else (Rs.ok s425).ne)))))
theorem fn_House_link_between {P : Program} {w : World} {K : PySem.W.Frag} {mg : Str → Option Value} {base : Heap} (S : Fs P K mg) (p_self : Val) (p_one : Val) (p_other : Val) : FnOk P w K mg base (L2.CX P w) 8 (f_House_link_between K) S.d_House_link_between P_House_link_between (spU (tx w K) [hV (tx w K) p_self, rD (tx w K) p_one, rD (tx w K) p_other] (m_House_link_between p_self p_one p_other)) := by
  refine fn_u (nm := nm_House_link_between) (n := 3) S.F_House_link_between sc_House_link_between rfl (.hV (.cons (.cons .nil))) rfl rfl (fun X W D hP hw hK hmg hbase xb hn q => ?_)
  subst hP hw hK hmg hbase
  have xc := xb.toXC
  have xv := xc.toXV
  refine (show BlM X W D .tt [vl (bV (tx X.w X.K) p_self), vl (rD (tx X.w X.K) p_one), vl (rD (tx X.w X.K) p_other), .no, .no, .no] (defBody s_House_link_between) (m_House_link_between p_self p_one p_other) (fun v => RetV W D (rD (tx X.w X.K) v)) (Zx (tx X.w X.K) X W) from ?_) q
  clear q
  delta m_House_link_between
  refine blm_asg (T := tx X.w X.K) (evd_fz (eod_sorted xc (xv.bl S.fr_sorted) (ev_hv (ev_fz (evo_lst (evd_cons (v_ xv 1) (evd_cons (v_ xv 2) evd_nil))))))) (tgm_2 xc.calm (tgm_name xv 3 (hf := .inl (xb.fnn _))) (fun _ => (tgm_name xv 4 (hf := .inl (xb.fnn _))))) fun y419 => ?_
  refine blm_set1 (T := tx X.w X.K) xb 5 (evd_add (ev_hv (ev_tup (evd_cons ev_str evd_nil))) (ev_hv (v_ xv 3))) fun x420 => ?_
  refine blm_ifj (fun s425 : Val => [vl (bV (tx X.w X.K) p_self), vl (rD (tx X.w X.K) p_one), vl (rD (tx X.w X.K) p_other), vl (rD (tx X.w X.K) y419.1), vl (rD (tx X.w X.K) y419.2), vl (rD (tx X.w X.K) s425)]) (tvp_bind (evd_ix xc (ev_hv (v_ xv 3)) ev_int) fun x421 h422 => (tvp_bind (evd_ix xc (ev_hv (v_ xv 4)) ev_int) fun x423 h424 => (tvd_ne xc (ev_hv h422) (ev_hv h424)))) ?_ ?_ fun s425 => ?_
  · refine blm_set1 (T := tx X.w X.K) xb 5 (evd_add (ev_hv (ev_tup (evd_cons ev_str evd_nil))) (ev_hv (v_ xv 3))) fun x426 => ?_
    exact blm_end x426 (.cons (.refl _) (.cons (.refl _) (.cons (.refl _) (.cons (.refl _) (.cons (.refl _) (.cons (.refl _) .nil))))))
  · exact blm_end x420 (.cons (.refl _) (.cons (.refl _) (.cons (.refl _) (.cons (.refl _) (.cons (.refl _) (.cons (.refl _) .nil))))))
  refine blm_if (tvp_wv (wvp_or (tvp_not (tvp_bind (evd_m xc (ev_hbv (v_ xv 0)) (S.mt_House_is_place (fn_House_is_place S _ _)) (eva_cons (ev_hv (v_ xv 3)) eva_nil)) fun x427 h428 => (tvd_tst (ev_hv h428)))) (wvp_or (tvp_not (tvp_bind (evd_m xc (ev_hbv (v_ xv 0)) (S.mt_House_is_link (fn_House_is_link S _ _)) (eva_cons (v_ xv 5) eva_nil)) fun x451 h452 => (tvd_tst (ev_hv h452)))) (wvp_or1 (tvp_bind (evd_m xc (ev_hbv (v_ xv 0)) (S.mt_House_ends_of (fn_House_ends_of S _ _)) (eva_cons (v_ xv 5) eva_nil)) fun x461 h462 => (tvd_ne xc (ev_hv h462) (ev_hv (ev_tup (evd_cons (v_ xv 3) (evd_cons (v_ xv 4) evd_nil)))))))))) ?_ ?_
  · exact blm_ret (T := tx X.w X.K) (evd_ok ev_non) (fun _ z => z)
  · refine blm_go ?_
    refine blm_if (tvp_bind (evd_m xc (ev_hbv (v_ xv 0)) (S.mt_House_is_closed (fn_House_is_closed S _ _)) (eva_cons (ev_hv (v_ xv 5)) eva_nil)) fun x465 h466 => (tvd_tst (ev_hv h466))) ?_ ?_
    · exact blm_ret (T := tx X.w X.K) (evd_ok ev_non) (fun _ z => z)
    · refine blm_go ?_
      exact blm_ret (T := tx X.w X.K) (evd_ok (v_ xv 5)) (fun _ z => z)
def m_House_length_of (p_self : Val) (p_link : Val) : Rs Val :=
  ((insC "House" "check_link" p_self >>= fun _ => m_House_check_link p_self p_link) >>= fun x473 => (((ixV p_link (.int 0)) >>= fun x467 => (eqV x467 (.str "up"))).ne >>= fun x => if x then (Rs.ok (.int 1)).ne else ((fldV "House" "_gaps" p_self) >>= fun x469 => ((ixV p_link (.int 1)) >>= fun x471 => (ixV x469 x471))).ne))
theorem fn_House_length_of {P : Program} {w : World} {K : PySem.W.Frag} {mg : Str → Option Value} {base : Heap} (S : Fs P K mg) (p_self : Val) (p_link : Val) : FnOk P w K mg base (L2.CX P w) 7 (f_House_length_of K) S.d_House_length_of P_House_length_of (spU (tx w K) [hV (tx w K) p_self, rD (tx w K) p_link] (m_House_length_of p_self p_link)) := by
  refine fn_u (nm := nm_House_length_of) (n := 0) S.F_House_length_of sc_House_length_of rfl (.hV (.cons .nil)) rfl rfl (fun X W D hP hw hK hmg hbase xb hn q => ?_)
  subst hP hw hK hmg hbase
  have xc := xb.toXC
  have xv := xc.toXV
  refine (show BlM X W D .tt [vl (bV (tx X.w X.K) p_self), vl (rD (tx X.w X.K) p_link)] (defBody s_House_length_of) (m_House_length_of p_self p_link) (fun v => RetV W D (rD (tx X.w X.K) v)) (Zx (tx X.w X.K) X W) from ?_) q
  clear q
  delta m_House_length_of
  refine blm_expC1 (T := tx X.w X.K) (evd_m xc (ev_hbv (v_ xv 0)) (S.mt_House_check_link (fn_House_check_link S _ _)) (eva_cons (v_ xv 1) eva_nil)) (evqd_m xc (ev_hbv (v_ xv 0)) (S.mt_House_check_link (fn_House_check_link S _ _)) (eva_cons (v_ xv 1) eva_nil)) (fun _ z => zx_g z) fun x473 => ?_
  refine blm_if (tvp_bind (evd_ix xc (ev_hv (v_ xv 1)) ev_int) fun x467 h468 => (tvd_eq xc (ev_hv h468) (ev_hv ev_str))) ?_ ?_
  · exact blm_ret (T := tx X.w X.K) (evd_ok ev_int) (fun _ z => z)
  · refine blm_go ?_
    exact blm_ret (T := tx X.w X.K) (evp_bind (evd_fld (ev_hbv (v_ xv 0)) S.c_House S.a_House_gaps) fun x469 h470 => (evp_bind (evd_ix xc (ev_hv (v_ xv 1)) ev_int) fun x471 h472 => (evd_ix xc (ev_hv h470) h472))) (fun _ z => z)
def m_House_beside (p_self : Val) (p_place : Val) : Rs Val :=
  ((((insC "House" "is_place" p_self >>= fun _ => m_House_is_place p_self p_place) >>= fun x403 => (tstV x403)) >>= fun r => Rs.ok (!r)).ne >>= fun x => if x then ((Rs.ok p_place).ne >>= fun v => Rs.err ⟨"InvalidPlace", some ("place", v)⟩) else ((((Rs.ok p_place) >>= (up2 Rs.ok Rs.ok)).ne) >>= fun y405 => ((Rs.ok (.list [])).ne >>= fun x406 => (((subV y405.1 (.int 1)) >>= fun x407 => ((subV y405.2 (.int 1)) >>= fun x409 => ((addV y405.2 (.int 1)) >>= fun x411 => ((addV y405.1 (.int 1)) >>= fun x413 => (walkV (.list [(.tuple [x407, y405.2]), (.tuple [y405.1, x409]), (.tuple [y405.1, x411]), (.tuple [x413, y405.2])])))))).ne >>= fun ws => forL (fun (s415 : Val) x => (Rs.ok x).ne >>= fun y417 : Val => ((insC "House" "link_between" p_self >>= fun _ => m_House_link_between p_self p_place y417) >>= fun x418 => ((Rs.ok (!isNone x418)).ne >>= fun x => if x then (((((insC "House" "length_of" p_self >>= fun _ => m_House_length_of p_self x418) >>= fun x474 => (Rs.ok (.tuple [y417, x474]))) >>= fun v => appV s415 v).ne) >>= fun x476 => Rs.ok (.go x476)) else Rs.ok (.go s415)))) ws x406 >>= fun r => thenF r (fun s415 => (Rs.ok s415).ne) (fun v => Rs.ok v)))))
theorem fn_House_beside {P : Program} {w : World} {K : PySem.W.Frag} {mg : Str → Option Value} {base : Heap} (S : Fs P K mg) (p_self : Val) (p_place : Val) : FnOk P w K mg base (L2.CX P w) 9 (f_House_beside K) S.d_House_beside P_House_beside (spU (tx w K) [hV (tx w K) p_self, rD (tx w K) p_place] (m_House_beside p_self p_place)) := by
  refine fn_u (nm := nm_House_beside) (n := 5) S.F_House_beside sc_House_beside rfl (.hV (.cons .nil)) rfl rfl (fun X W D hP hw hK hmg hbase xb hn q => ?_)
  subst hP hw hK hmg hbase
  have xc := xb.toXC
  have xv := xc.toXV
  refine (show BlM X W D .tt [vl (bV (tx X.w X.K) p_self), vl (rD (tx X.w X.K) p_place), .no, .no, .no, .no, .no] (defBody s_House_beside) (m_House_beside p_self p_place) (fun v => RetV W D (rD (tx X.w X.K) v)) (Zx (tx X.w X.K) X W) from ?_) q
  clear q
  delta m_House_beside
  refine blm_if (tvp_not (tvp_bind (evd_m xc (ev_hbv (v_ xv 0)) (S.mt_House_is_place (fn_House_is_place S _ _)) (eva_cons (ev_hv (v_ xv 1)) eva_nil)) fun x403 h404 => (tvd_tst (ev_hv h404)))) ?_ ?_
  · exact blm_raiseX xb S.xk_InvalidPlace.1 (evd_ok (v_ xv 1)) (fun _ z => zx_g z)
  · refine blm_go ?_
    refine blm_asg (T := tx X.w X.K) (evd_ok (v_ xv 1)) (tgm_2 xc.calm (tgm_name xv 2 (hf := .inl (xb.fnn _))) (fun _ => (tgm_name xv 3 (hf := .inl (xb.fnn _))))) fun y405 => ?_
    refine blm_setO1 (T := tx X.w X.K) xb 4 (eod_ok (evo_lst evd_nil)) fun x406 => ?_
    refine blm_forW (T := tx X.w X.K) (Γs := fun s415 : Val => [vl (bV (tx X.w X.K) p_self), vl (rD (tx X.w X.K) p_place), vl (rD (tx X.w X.K) y405.1), vl (rD (tx X.w X.K) y405.2), .ow (cV (tx X.w X.K) s415), .no, .no]) (Γt := fun (s415 : Val) (y417 : Val) => [vl (bV (tx X.w X.K) p_self), vl (rD (tx X.w X.K) p_place), vl (rD (tx X.w X.K) y405.1), vl (rD (tx X.w X.K) y405.2), .ow (cV (tx X.w X.K) s415), vl (rD (tx X.w X.K) y417), .no]) xb x406 (evw_bind (evd_sub (ev_hv (v_ xv 2)) (ev_hv ev_int)) fun x407 h408 => (evw_bind (evd_sub (ev_hv (v_ xv 3)) (ev_hv ev_int)) fun x409 h410 => (evw_bind (evd_add (ev_hv (v_ xv 3)) (ev_hv ev_int)) fun x411 h412 => (evw_bind (evd_add (ev_hv (v_ xv 2)) (ev_hv ev_int)) fun x413 h414 => (evwd (ev_bv (ev_fz (evo_lst (evd_cons (ev_tup (evd_cons h408 (evd_cons (v_ xv 3) evd_nil))) (evd_cons (ev_tup (evd_cons (v_ xv 2) (evd_cons h410 evd_nil))) (evd_cons (ev_tup (evd_cons (v_ xv 2) (evd_cons h412 evd_nil))) (evd_cons (ev_tup (evd_cons h414 (evd_cons (v_ xv 3) evd_nil))) evd_nil)))))))))))) (.cons (.refl _) (.cons (.refl _) (.cons (.refl _) (.cons (.refl _) (.cons (.refl _) (.cons (.no _) (.cons (.no _) .nil))))))) (fun s415 => (tgm_name xv 5 (hf := .inl (xb.fnn _)))) ?_ (fun _ z _ _ => zx_g z) (fun s415 => ?_) (fun _ z => z)
    · rintro gh D416 s415 y417 hzs415 hr
      refine blm_setC1 (T := tx X.w X.K) xb 6 (evd_m xc (ev_hbv (v_ xv 0)) (S.mt_House_link_between (fn_House_link_between S _ _ _)) (eva_cons (v_ xv 1) (eva_cons (v_ xv 5) eva_nil))) (evqd_m xc (ev_hbv (v_ xv 0)) (S.mt_House_link_between (fn_House_link_between S _ _ _)) (eva_cons (v_ xv 1) (eva_cons (v_ xv 5) eva_nil))) (fun _ z => zx_g z) fun x418 => ?_
      refine blm_if (tvd_noN (v_ xv 6)) ?_ ?_
      · refine blm_appV (T := tx X.w X.K) xb 4 (evp_bind (evd_m xc (ev_hbv (v_ xv 0)) (S.mt_House_length_of (fn_House_length_of S _ _)) (eva_cons (v_ xv 6) eva_nil)) fun x474 h475 => (evd_ok (ev_tup (evd_cons (v_ xv 5) (evd_cons h475 evd_nil))))) fun x476 => ?_
        refine blm_go ?_
        exact blm_nextG (T := tx X.w X.K) x476 (.cons (.refl _) (.cons (.refl _) (.cons (.refl _) (.cons (.refl _) (.cons (.refl _) (.cons (.no _) (.cons (.no _) .nil)))))))
      · refine blm_go ?_
        exact blm_nextG (T := tx X.w X.K) s415 (.cons (.refl _) (.cons (.refl _) (.cons (.refl _) (.cons (.refl _) (.cons (.refl _) (.cons (.no _) (.cons (.no _) .nil)))))))
    refine blm_frz (T := tx X.w X.K) 4 ?_
    exact blm_ret (T := tx X.w X.K) (evd_ok (v_ xv 4)) (fun _ z => z)
def m_law_refused (p_house : Val) (p_place : Val) : Rs Val :=
  (tryM (fun C => if C = "InvalidHouse" then some false else if C = "InvalidLink" then some false else if C = "InvalidPlace" then some true else none) ((insC "House" "beside" p_house >>= fun _ => m_House_beside p_house p_place) >>= fun x479 => ((Rs.ok (.bool false)).ne >>= fun v => Rs.ok (.ret v))) (fun s477 : Unit => (Rs.ok .none)) (fun v => Rs.ok v) (fun ex478 => ((xfld "place" ex478) >>= fun x480 => ((eqV x480 p_place) >>= fun b => Rs.ok (.bool b))).ne))
theorem fn_law_refused {P : Program} {w : World} {K : PySem.W.Frag} {mg : Str → Option Value} {base : Heap} (S : Fs P K mg) (p_house : Val) (p_place : Val) : FnOk P w K mg base (L2.CX P w) 10 (f_law_refused K) S.d_law_refused P_law_refused (spU (tx w K) [hV (tx w K) p_house, rD (tx w K) p_place] (m_law_refused p_house p_place)) := by
  refine fn_u (nm := nm_law_refused) (n := 1) S.F_law_refused sc_law_refused rfl (.hV (.cons .nil)) rfl rfl (fun X W D hP hw hK hmg hbase xb hn q => ?_)
  subst hP hw hK hmg hbase
  have xc := xb.toXC
  have xv := xc.toXV
  refine (show BlM X W D .tt [vl (bV (tx X.w X.K) p_house), vl (rD (tx X.w X.K) p_place), .no] (defBody s_law_refused) (m_law_refused p_house p_place) (fun v => RetV W D (rD (tx X.w X.K) v)) (Zx (tx X.w X.K) X W) from ?_) q
  clear q
  delta m_law_refused
  refine blm_tryA (T := tx X.w X.K) 2 (fun s477 : Unit => [vl (bV (tx X.w X.K) p_house), vl (rD (tx X.w X.K) p_place), .no]) [vl (bV (tx X.w X.K) p_house), vl (rD (tx X.w X.K) p_place), .no] xb (by rfl) (by decide +kernel) ⟨xv.gl (by decide +kernel), by decide +kernel, .inl S.g_InvalidPlace⟩ (fun C b hC => by
      split at hC
      · rename_i z; subst z; cases hC; exact S.x_InvalidHouse_InvalidPlace
      split at hC
      · rename_i z; subst z; cases hC; exact S.x_InvalidLink_InvalidPlace
      split at hC
      · rename_i z; subst z; cases hC; exact S.x_InvalidPlace_InvalidPlace
      cases hC) ?_ ?_ (fun _ z _ _ => zx_g z) (fun s477 => ?_) (fun _ z => z)
  · intro pn xe Z1 xt478 hz478
    refine blm_expC1 (T := tx X.w X.K) (evd_m xt478.toXC (ev_hbv (v_ xt478.toXC.toXV 0)) (S.mt_House_beside (fn_House_beside S _ _)) (eva_cons (v_ xt478.toXC.toXV 1) eva_nil)) (evqd_m xt478.toXC (ev_hbv (v_ xt478.toXC.toXV 0)) (S.mt_House_beside (fn_House_beside S _ _)) (eva_cons (v_ xt478.toXC.toXV 1) eva_nil)) (fun x z => hz478 x z _ (.cons (.refl _) (.cons (.refl _) (.cons (.no _) .nil)))) fun x479 => ?_
    exact blm_retB (T := tx X.w X.K) (evd_ok ev_bl)
  · intro ex478 al oe cls d pn hcat hzc hfd his xh478 hu478
    exact blm_ret (T := tx X.w X.K) (evp_bind (evm_xf xh478 2 rfl hzc hfd his (by
                  have hC := hcat
                  try dsimp only at hC
                  split at hC
                  · rename_i z; cases hC
                  split at hC
                  · rename_i z; cases hC
                  split at hC
                  · rename_i z; rw [z]; exact S.xk_InvalidPlace.2
                  cases hC)) fun x480 h481 => (evd_ofB (evd_heq hu478 (ev_hv h481) (ev_hv (v_ xh478 1))))) (fun _ z => z)
  exact blm_fall (T := tx X.w X.K) (fun _ _ => by rw [hn]) (fun z => z)
def m_House_init (p_lengths : Val) (p_gaps : Val) (p_closed : Val) : Rs Val :=
  (((((m_are_lengths p_lengths (.int 1) (.int 2)) >>= fun x485 => (tstV x485)) >>= fun r => Rs.ok (!r)) >>= fun x => if x then Rs.ok true else (((m_are_lengths p_gaps (.int 0) (.int 11)) >>= fun x487 => (tstV x487)) >>= fun r => Rs.ok (!r))).ne >>= fun x => if x then Rs.err ⟨"InvalidHouse", none⟩ else ((listV p_lengths).ne >>= fun x489 => ((listV p_gaps).ne >>= fun x490 => (((((sortV p_closed) >>= fun x491 => (walkV x491)) >>= fun xs => dcM Rs.ok (fun y493 : Val => Rs.ok true) (fun y493 : Val => (Rs.ok y493)) (fun y493 : Val => (Rs.ok (.bool true))) xs []) >>= fun l => Rs.ok (.dict l)).ne >>= fun x494 => ((((lenV p_closed) >>= fun x495 => (cmpI gtI x495 (.int 200))) >>= fun x => if x then Rs.ok true else ((Rs.ok x494) >>= fun x497 => ((lenV x497) >>= fun x499 => ((lenV p_closed) >>= fun x501 => (neV x499 x501))))).ne >>= fun x => if x then Rs.err ⟨"InvalidHouse", none⟩ else ((((((walkV p_closed) >>= fun xs => chk (decide (xs.length ≤ BIG)) >>= fun _ => lcM Rs.ok (fun y503 : Val => Rs.ok true) (fun y503 : Val => (insC "House" "is_link" (.obj "House" [("_lengths", x489), ("_gaps", x490), ("_closed", x494)]) >>= fun _ => m_House_is_link (.obj "House" [("_lengths", x489), ("_gaps", x490), ("_closed", x494)]) y503)) xs) >>= fun l => Rs.ok (.list l)) >>= fun x504 => (allV x504)) >>= fun r => Rs.ok (!r)).ne >>= fun x => if x then Rs.err ⟨"InvalidHouse", none⟩ else (Rs.ok (.obj "House" [("_lengths", x489), ("_gaps", x490), ("_closed", x494)]))))))))
theorem fn_House_init {P : Program} {w : World} {K : PySem.W.Frag} {mg : Str → Option Value} {base : Heap} (S : Fs P K mg) (p_lengths : Val) (p_gaps : Val) (p_closed : Val) : FnOk P w K mg base (L2.CX P w) 6 (f_House_init K) S.d_House_init P_House_init (spI (tx w K) "House" [hV (tx w K) p_lengths, hV (tx w K) p_gaps, hV (tx w K) p_closed] (m_House_init p_lengths p_gaps p_closed)) := by
  refine fn_i (nm := nm_House_init) (n := 1) S.F_House_init sc_House_init rfl (.hV (.hV (.hV .nil))) rfl rfl (fun X W D a0 hP hw hK hmg hbase xb q => ?_)
  subst hP hw hK hmg hbase
  have xc := xb.toXC
  have xv := xc.toXV
  obtain ⟨t_MOST_CLOSED, h_MOST_CLOSED⟩ := S.i_MOST_CLOSED
  obtain ⟨t_MOST_GAPS, h_MOST_GAPS⟩ := S.i_MOST_GAPS
  refine (show BlM X W D .tt [.ow (cZ (tx X.w X.K) a0 "House" []), vl (bV (tx X.w X.K) p_lengths), vl (bV (tx X.w X.K) p_gaps), vl (bV (tx X.w X.K) p_closed), .no] (defBody s_House_init) (m_House_init p_lengths p_gaps p_closed) (RetI (tx X.w X.K) W D a0) (Zx (tx X.w X.K) X W) from ?_) q
  clear q
  delta m_House_init
  refine blm_if (tvp_wv (wvp_or (tvp_not (tvp_bind (evp_c xc (S.df_are_lengths (fn_are_lengths S _ _ _)) (eva_cons (ev_hbv (v_ xv 1)) (eva_cons (ev_hv ev_int) (eva_cons ev_int eva_nil)))) fun x485 h486 => (tvd_tst (ev_hv h486)))) (wvp_or1 (tvp_not (tvp_bind (evp_c xc (S.df_are_lengths (fn_are_lengths S _ _ _)) (eva_cons (ev_hbv (v_ xv 2)) (eva_cons (ev_hv ev_int) (eva_cons (ev_gint (hm := h_MOST_GAPS) (hg := xv.gl (by decide +kernel))) eva_nil)))) fun x487 h488 => (tvd_tst (ev_hv h488))))))) ?_ ?_
  · exact blm_raise (T := tx X.w X.K) xb (pmk_own PySem.F.excBase_ValueError S.e_InvalidHouse.1 S.g_InvalidHouse S.e_InvalidHouse.2.1 (raises_own S.e_InvalidHouse.2.2.1 S.e_InvalidHouse.2.2.2) (xv.gl (by decide +kernel))) (fun _ z => zx_g z)
  · refine blm_go ?_
    refine blm_fld (T := tx X.w X.K) xb 0 (evd_fz (eod_list xc (xv.bl S.fr_list) (ev_hbv (v_ xv 1)))) S.c_House S.a_House_lengths fun x489 => ?_
    show BlM _ _ _ _ [.ow (cZ (tx X.w X.K) a0 "House" [("_lengths", x489)]), vl (bV (tx X.w X.K) p_lengths), vl (bV (tx X.w X.K) p_gaps), vl (bV (tx X.w X.K) p_closed), .no] _ _ _ _
    refine blm_fld (T := tx X.w X.K) xb 0 (evd_fz (eod_list xc (xv.bl S.fr_list) (ev_hbv (v_ xv 2)))) S.c_House S.a_House_gaps fun x490 => ?_
    show BlM _ _ _ _ [.ow (cZ (tx X.w X.K) a0 "House" [("_lengths", x489), ("_gaps", x490)]), vl (bV (tx X.w X.K) p_lengths), vl (bV (tx X.w X.K) p_gaps), vl (bV (tx X.w X.K) p_closed), .no] _ _ _ _
    refine blm_fld (T := tx X.w X.K) xb 0 (evd_fz (eop_map (f := Val.dict) (eom_dc [("link", 4)] xc (evw_bind (evd_fz (eod_sorted xc (xv.bl S.fr_sorted) (ev_hbv (v_ xv 3)))) fun x491 h492 => (evwd (ev_bv h492))) (fun y493 : Val => [.ow (cZ (tx X.w X.K) a0 "House" [("_lengths", x489), ("_gaps", x490)]), vl (bV (tx X.w X.K) p_lengths), vl (bV (tx X.w X.K) p_gaps), vl (bV (tx X.w X.K) p_closed), vl (rD (tx X.w X.K) y493)]) (fun s H C cl fp xc493 => (tgm_name xc493.toXV 4 (hf := .inr (xc493.toXV.only (by decide +kernel))))) (fun s H C cl fp xc493 y493 => vvm_nil) (fun s H C cl fp xc493 y493 => (evd_ok (v_ xc493.toXV 4))) (fun s H C cl fp xc493 y493 => (evd_ok ev_bl))))) S.c_House S.a_House_closed fun x494 => ?_
    show BlM _ _ _ _ [.ow (cZ (tx X.w X.K) a0 "House" [("_lengths", x489), ("_gaps", x490), ("_closed", x494)]), vl (bV (tx X.w X.K) p_lengths), vl (bV (tx X.w X.K) p_gaps), vl (bV (tx X.w X.K) p_closed), .no] _ _ _ _
    refine blm_if (tvp_wv (wvp_or (tvp_bind (evd_len (xv.bl S.fr_len) (ev_hbv (v_ xv 3))) fun x495 h496 => (tvd_gt (ev_hv h496) (ev_hv (ev_gint (hm := h_MOST_CLOSED) (hg := xv.gl (by decide +kernel)))))) (wvp_or1 (tvp_bind (evd_ok (ev_atZ (fs := [("_lengths", x489), ("_gaps", x490), ("_closed", x494)]) xv 0 S.c_House S.a_House_closed (by rfl))) fun x497 h498 => (tvp_bind (evd_len (xv.bl S.fr_len) (ev_hv h498)) fun x499 h500 => (tvp_bind (evd_len (xv.bl S.fr_len) (ev_hbv (v_ xv 3))) fun x501 h502 => (tvd_ne xc (ev_hv h500) (ev_hv h502)))))))) ?_ ?_
    · exact blm_raise (T := tx X.w X.K) xb (pmk_own PySem.F.excBase_ValueError S.e_InvalidHouse.1 S.g_InvalidHouse S.e_InvalidHouse.2.1 (raises_own S.e_InvalidHouse.2.2.1 S.e_InvalidHouse.2.2.2) (xv.gl (by decide +kernel))) (fun _ z => zx_g z)
    · refine blm_go ?_
      refine blm_frzZ (T := tx X.w X.K) 0 ?_
      refine blm_if (tvp_not (tvp_bind (evd_fz (eop_map (f := Val.list) (eom_lc [("link", 4)] xc (evwd (v_ xv 3)) (fun y503 : Val => [vl (rZ (tx X.w X.K) a0 (.obj "House" [("_lengths", x489), ("_gaps", x490), ("_closed", x494)])), vl (bV (tx X.w X.K) p_lengths), vl (bV (tx X.w X.K) p_gaps), vl (bV (tx X.w X.K) p_closed), vl (rD (tx X.w X.K) y503)]) (fun s H C cl fp xc503 => (tgm_name xc503.toXV 4 (hf := .inr (xc503.toXV.only (by decide +kernel))))) (fun s H C cl fp xc503 y503 => vvm_nil) (fun s H C cl fp xc503 y503 => (evd_m xc503 (ev_hv (ev_zd (v_ xc503.toXV 0))) (S.mt_House_is_link (fn_House_is_link S _ _)) (eva_cons (v_ xc503.toXV 4) eva_nil)))))) fun x504 h505 => (tvd_val (evd_all xc (xv.bl S.fr_all) (ev_hv h505))))) ?_ ?_
      · exact blm_raise (T := tx X.w X.K) xb (pmk_own PySem.F.excBase_ValueError S.e_InvalidHouse.1 S.g_InvalidHouse S.e_InvalidHouse.2.1 (raises_own S.e_InvalidHouse.2.2.1 S.e_InvalidHouse.2.2.2) (xv.gl (by decide +kernel))) (fun _ z => zx_g z)
      · refine blm_go ?_
        exact blm_madeF (T := tx X.w X.K)
def m_law (p_script : List Int) : Rs Val :=
  ((m_law_numbers p_script (.int 60)).ne >>= fun x482 => ((((m_law_parts x482 (.int 0)) >>= (up3 Rs.ok Rs.ok Rs.ok)).ne) >>= fun y483 => ((m_House_init y483.1 y483.2.1 y483.2.2) >>= fun x484 => ((((walkV y483.2.2) >>= fun xs => chk (decide (xs.length ≤ BIG)) >>= fun _ => lcM Rs.ok (fun y507 : Val => Rs.ok true) (fun y507 : Val => ((insC "House" "ends_of" x484 >>= fun _ => m_House_ends_of x484 y507) >>= fun x508 => ((ixV x482 (.int 24)) >>= fun x510 => ((intV x510) >>= fun x512 => ((modV x512 (.int 2)) >>= fun x514 => (ixV x508 x514)))))) xs) >>= fun l => Rs.ok (.list l)).ne >>= fun x506 => ((rng1V (.int 8)).ne >>= fun ws => forL (fun (s516 : Val) x => (Rs.ok x).ne >>= fun y518 : Val => (((((mulV (.int 2) y518) >>= fun x519 => ((addV (.int 26) x519) >>= fun x521 => ((ixV x482 x521) >>= fun x523 => ((intV x523) >>= fun x525 => ((lenV y483.2.1) >>= fun x527 => ((addV x527 (.int 1)) >>= fun x529 => ((modV x525 x529) >>= fun x531 => ((mulV (.int 2) y518) >>= fun x533 => ((addV (.int 27) x533) >>= fun x535 => ((ixV x482 x535) >>= fun x537 => ((intV x537) >>= fun x539 => ((sumV y483.1) >>= fun x541 => ((addV x541 (.int 1)) >>= fun x543 => ((modV x539 x543) >>= fun x545 => (Rs.ok (.tuple [x531, x545])))))))))))))))) >>= fun v => appV s516 v).ne) >>= fun x547 => Rs.ok (.go x547))) ws x506 >>= fun r => thenF r (fun s516 => (((lenV y483.2.1) >>= fun x548 => ((sumV y483.1) >>= fun x550 => ((lenV y483.2.1) >>= fun x552 => ((ixV y483.1 (.int 0)) >>= fun x554 => ((addV s516 (.list [(.tuple [(.int 0), (.int 0)]), (.tuple [x548, x550]), (.tuple [x552, x554])])) >>= fun x556 => (walkV x556)))))).ne >>= fun ws => forL (fun (s558 : Unit) x => (Rs.ok x).ne >>= fun y560 : Val => (((insC "House" "beside" x484 >>= fun _ => m_House_beside x484 y560) >>= fun x561 => ((m_law_beside y483.1 y483.2.1 y483.2.2 y560) >>= fun x563 => (neV x561 x563))).ne >>= fun x => if x then ((Rs.ok (.bool false)).ne >>= fun v => Rs.ok (.ret v)) else (((negV (.int 1)) >>= fun x565 => (walkV (.list [x565, (.int 0), (.int 1), (.int 2)]))).ne >>= fun ws => forL (fun (s567 : Unit) x => (Rs.ok x).ne >>= fun y569 : Val => (((negV (.int 1)) >>= fun x570 => (walkV (.list [x570, (.int 0), (.int 1), (.int 2)]))).ne >>= fun ws => forL (fun (s572 : Unit) x => (Rs.ok x).ne >>= fun y574 : Val => (((ixV y560 (.int 0)) >>= fun x576 => ((addV x576 y569) >>= fun x578 => ((ixV y560 (.int 1)) >>= fun x580 => ((addV x580 y574) >>= fun x582 => (Rs.ok (.tuple [x578, x582])))))).ne >>= fun x575 => ((m_law_between y483.1 y483.2.1 y483.2.2 y560 x575).ne >>= fun x584 => ((((insC "House" "link_between" x484 >>= fun _ => m_House_link_between x484 y560 x575) >>= fun x585 => (neV x585 x584)) >>= fun x => if x then Rs.ok true else ((insC "House" "link_between" x484 >>= fun _ => m_House_link_between x484 x575 y560) >>= fun x587 => (neV x587 x584))).ne >>= fun x => if x then ((Rs.ok (.bool false)).ne >>= fun v => Rs.ok (.ret v)) else Rs.ok (.go ()))))) ws () >>= fun r => thenF r (fun s572 => Rs.ok (.go ())) (fun v => Rs.ok (.ret v)))) ws () >>= fun r => thenF r (fun s567 => Rs.ok (.go ())) (fun v => Rs.ok (.ret v))))) ws () >>= fun r => thenF r (fun s558 => (((negV (.int 1)) >>= fun x589 => ((negV (.int 1)) >>= fun x591 => ((lenV y483.2.1) >>= fun x593 => ((addV x593 (.int 1)) >>= fun x595 => ((sumV y483.1) >>= fun x597 => ((addV x597 (.int 1)) >>= fun x599 => (walkV (.list [(.tuple [x589, (.int 0)]), (.tuple [(.int 0), x591]), (.tuple [x595, (.int 0)]), (.tuple [(.int 0), x599])])))))))).ne >>= fun ws => forL (fun (s601 : Unit) x => (Rs.ok x).ne >>= fun y603 : Val => ((((m_law_refused x484 y603) >>= fun x604 => (tstV x604)) >>= fun r => Rs.ok (!r)).ne >>= fun x => if x then ((Rs.ok (.bool false)).ne >>= fun v => Rs.ok (.ret v)) else Rs.ok (.go ()))) ws () >>= fun r => thenF r (fun s601 => (Rs.ok (.bool true)).ne) (fun v => Rs.ok v))) (fun v => Rs.ok v))) (fun v => Rs.ok v))))))
theorem fn_law {P : Program} {w : World} {K : PySem.W.Frag} {mg : Str → Option Value} {base : Heap} (S : Fs P K mg) (p_script : List Int) : FnOk P w K mg base (L2.CX P w) 11 (f_law K) S.d_law P_law (spU (tx w K) [rS (tx w K) p_script] (m_law p_script)) := by
  refine fn_u (nm := nm_law) (n := 13) S.F_law sc_law rfl (.cons .nil) rfl rfl (fun X W D hP hw hK hmg hbase xb hn q => ?_)
  subst hP hw hK hmg hbase
  have xc := xb.toXC
  have xv := xc.toXV
  refine (show BlM X W D .tt [vl (rS (tx X.w X.K) p_script), .no, .no, .no, .no, .no, .no, .no, .no, .no, .no, .no, .no, .no] (defBody s_law) (m_law p_script) (fun v => RetV W D (rD (tx X.w X.K) v)) (Zx (tx X.w X.K) X W) from ?_) q
  clear q
  delta m_law
  refine blm_set1 (T := tx X.w X.K) xb 1 (evp_c xc (S.df_law_numbers (fn_law_numbers S _ _)) (eva_cons (v_ xv 0) (eva_cons ev_int eva_nil))) fun x482 => ?_
  refine blm_asg (T := tx X.w X.K) (evp_c xc (S.df_law_parts (fn_law_parts S _ _)) (eva_cons (ev_hv (v_ xv 1)) (eva_cons ev_int eva_nil))) (tgm_3 xc.calm (tgm_name xv 2 (hf := .inl (xb.fnn _))) (fun _ => (tgm_name xv 3 (hf := .inl (xb.fnn _)))) (fun _ _ => (tgm_name xv 4 (hf := .inl (xb.fnn _))))) fun y483 => ?_
  refine blm_setC1 (T := tx X.w X.K) xb 5 (evp_mk xc (S.mkk_House (fn_House_init S _ _ _)) (eva_cons (ev_hv (v_ xv 2)) (eva_cons (ev_hv (v_ xv 3)) (eva_cons (ev_hv (v_ xv 4)) eva_nil)))) (evq_mk xc (S.mkk_House (fn_House_init S _ _ _)) (eva_cons (ev_hv (v_ xv 2)) (eva_cons (ev_hv (v_ xv 3)) (eva_cons (ev_hv (v_ xv 4)) eva_nil)))) (fun _ z => zx_g z) fun x484 => ?_
  refine blm_lc (T := tx X.w X.K) xb 6 [("_law_link", 13)] (evwd (ev_bv (v_ xv 4))) (fun y507 : Val => [vl (rS (tx X.w X.K) p_script), vl (rD (tx X.w X.K) x482), vl (rD (tx X.w X.K) y483.1), vl (rD (tx X.w X.K) y483.2.1), vl (rD (tx X.w X.K) y483.2.2), vl (rD (tx X.w X.K) x484), .no, .no, .no, .no, .no, .no, .no, vl (rD (tx X.w X.K) y507)]) (fun s H C cl fp xc507 => (tgm_name xc507.toXV 13 (hf := .inr (xc507.toXV.only (by decide +kernel))))) (fun s H C cl fp xc507 y507 => vvm_nil) (fun s H C cl fp xc507 y507 => (evp_bind (evd_m xc507 (ev_hv (v_ xc507.toXV 5)) (S.mt_House_ends_of (fn_House_ends_of S _ _)) (eva_cons (v_ xc507.toXV 13) eva_nil)) fun x508 h509 => (evp_bind (evd_ix xc507 (ev_hv (v_ xc507.toXV 1)) ev_int) fun x510 h511 => (evp_bind (evd_int (xc507.toXV.bl S.fr_int) (ev_hv h511)) fun x512 h513 => (evp_bind (evd_mod (ev_hv h513) (ev_hv ev_int)) fun x514 h515 => (evd_ix xc507 (ev_hv h509) h515)))))) (fun x506 => ?_)
  refine blm_forW (T := tx X.w X.K) (Γs := fun s516 : Val => [vl (rS (tx X.w X.K) p_script), vl (rD (tx X.w X.K) x482), vl (rD (tx X.w X.K) y483.1), vl (rD (tx X.w X.K) y483.2.1), vl (rD (tx X.w X.K) y483.2.2), vl (rD (tx X.w X.K) x484), .ow (cV (tx X.w X.K) s516), .no, .no, .no, .no, .no, .no, .no]) (Γt := fun (s516 : Val) (y518 : Val) => [vl (rS (tx X.w X.K) p_script), vl (rD (tx X.w X.K) x482), vl (rD (tx X.w X.K) y483.1), vl (rD (tx X.w X.K) y483.2.1), vl (rD (tx X.w X.K) y483.2.2), vl (rD (tx X.w X.K) x484), .ow (cV (tx X.w X.K) s516), vl (rD (tx X.w X.K) y518), .no, .no, .no, .no, .no, .no]) xb x506 (evwd_rng1 (xv.bl S.fr_range) (ev_hv ev_int)) (.cons (.refl _) (.cons (.refl _) (.cons (.refl _) (.cons (.refl _) (.cons (.refl _) (.cons (.refl _) (.cons (.refl _) (.cons (.no _) (.cons (.no _) (.cons (.no _) (.cons (.no _) (.cons (.no _) (.cons (.no _) (.cons (.no _) .nil)))))))))))))) (fun s516 => (tgm_name xv 7 (hf := .inl (xb.fnn _)))) ?_ (fun _ z _ _ => zx_g z) (fun s516 => ?_) (fun _ z => z)
  · rintro gh D517 s516 y518 hzs516 hr
    refine blm_appV (T := tx X.w X.K) xb 6 (evp_bind (evd_mul (ev_hv ev_int) (ev_hv (v_ xv 7))) fun x519 h520 => (evp_bind (evd_add (ev_hv ev_int) (ev_hv h520)) fun x521 h522 => (evp_bind (evd_ix xc (ev_hv (v_ xv 1)) h522) fun x523 h524 => (evp_bind (evd_int (xv.bl S.fr_int) (ev_hv h524)) fun x525 h526 => (evp_bind (evd_len (xv.bl S.fr_len) (ev_hv (v_ xv 3))) fun x527 h528 => (evp_bind (evd_add (ev_hv h528) (ev_hv ev_int)) fun x529 h530 => (evp_bind (evd_mod (ev_hv h526) (ev_hv h530)) fun x531 h532 => (evp_bind (evd_mul (ev_hv ev_int) (ev_hv (v_ xv 7))) fun x533 h534 => (evp_bind (evd_add (ev_hv ev_int) (ev_hv h534)) fun x535 h536 => (evp_bind (evd_ix xc (ev_hv (v_ xv 1)) h536) fun x537 h538 => (evp_bind (evd_int (xv.bl S.fr_int) (ev_hv h538)) fun x539 h540 => (evp_bind (evd_sum xc (xv.bl S.fr_sum) (ev_hv (v_ xv 2))) fun x541 h542 => (evp_bind (evd_add (ev_hv h542) (ev_hv ev_int)) fun x543 h544 => (evp_bind (evd_mod (ev_hv h540) (ev_hv h544)) fun x545 h546 => (evd_ok (ev_tup (evd_cons h532 (evd_cons h546 evd_nil)))))))))))))))))) fun x547 => ?_
    exact blm_nextG (T := tx X.w X.K) x547 (.cons (.refl _) (.cons (.refl _) (.cons (.refl _) (.cons (.refl _) (.cons (.refl _) (.cons (.refl _) (.cons (.refl _) (.cons (.no _) (.cons (.no _) (.cons (.no _) (.cons (.no _) (.cons (.no _) (.cons (.no _) (.cons (.no _) .nil))))))))))))))
  refine blm_forW (T := tx X.w X.K) (Γs := fun s558 : Unit => [vl (rS (tx X.w X.K) p_script), vl (rD (tx X.w X.K) x482), vl (rD (tx X.w X.K) y483.1), vl (rD (tx X.w X.K) y483.2.1), vl (rD (tx X.w X.K) y483.2.2), vl (rD (tx X.w X.K) x484), .ow (cV (tx X.w X.K) s516), .no, .no, .no, .no, .no, .no, .no]) (Γt := fun (s558 : Unit) (y560 : Val) => [vl (rS (tx X.w X.K) p_script), vl (rD (tx X.w X.K) x482), vl (rD (tx X.w X.K) y483.1), vl (rD (tx X.w X.K) y483.2.1), vl (rD (tx X.w X.K) y483.2.2), vl (rD (tx X.w X.K) x484), .ow (cV (tx X.w X.K) s516), .no, vl (rD (tx X.w X.K) y560), .no, .no, .no, .no, .no]) xb () (evw_bind (evd_len (xv.bl S.fr_len) (ev_hv (v_ xv 3))) fun x548 h549 => (evw_bind (evd_sum xc (xv.bl S.fr_sum) (ev_hv (v_ xv 2))) fun x550 h551 => (evw_bind (evd_len (xv.bl S.fr_len) (ev_hv (v_ xv 3))) fun x552 h553 => (evw_bind (evd_ix xc (ev_hv (v_ xv 2)) ev_int) fun x554 h555 => (evw_bind (evd_add (o_ xv 6) (ev_hv (ev_fz (evo_lst (evd_cons (ev_tup (evd_cons ev_int (evd_cons ev_int evd_nil))) (evd_cons (ev_tup (evd_cons h549 (evd_cons h551 evd_nil))) (evd_cons (ev_tup (evd_cons h553 (evd_cons h555 evd_nil))) evd_nil))))))) fun x556 h557 => (evwd (ev_bv h557))))))) (.cons (.refl _) (.cons (.refl _) (.cons (.refl _) (.cons (.refl _) (.cons (.refl _) (.cons (.refl _) (.cons (.refl _) (.cons (.no _) (.cons (.no _) (.cons (.no _) (.cons (.no _) (.cons (.no _) (.cons (.no _) (.cons (.no _) .nil)))))))))))))) (fun s558 => (tgm_name xv 8 (hf := .inl (xb.fnn _)))) ?_ (fun _ z _ _ => zx_g z) (fun s558 => ?_) (fun _ z => z)
  · rintro gh D559 s558 y560 hzs558 hr
    refine blm_if (tvp_bind (evd_m xc (ev_hv (v_ xv 5)) (S.mt_House_beside (fn_House_beside S _ _)) (eva_cons (v_ xv 8) eva_nil)) fun x561 h562 => (tvp_bind (evp_c xc (S.df_law_beside (fn_law_beside S _ _ _ _)) (eva_cons (ev_hv (v_ xv 2)) (eva_cons (ev_hv (v_ xv 3)) (eva_cons (ev_hv (v_ xv 4)) (eva_cons (v_ xv 8) eva_nil))))) fun x563 h564 => (tvd_ne xc (ev_hv h562) (ev_hv h564)))) ?_ ?_
    · exact blm_retF (T := tx X.w X.K) (evd_ok ev_bl)
    · refine blm_go ?_
      refine blm_forW (T := tx X.w X.K) (Γs := fun s567 : Unit => [vl (rS (tx X.w X.K) p_script), vl (rD (tx X.w X.K) x482), vl (rD (tx X.w X.K) y483.1), vl (rD (tx X.w X.K) y483.2.1), vl (rD (tx X.w X.K) y483.2.2), vl (rD (tx X.w X.K) x484), .ow (cV (tx X.w X.K) s516), .no, vl (rD (tx X.w X.K) y560), .no, .no, .no, .no, .no]) (Γt := fun (s567 : Unit) (y569 : Val) => [vl (rS (tx X.w X.K) p_script), vl (rD (tx X.w X.K) x482), vl (rD (tx X.w X.K) y483.1), vl (rD (tx X.w X.K) y483.2.1), vl (rD (tx X.w X.K) y483.2.2), vl (rD (tx X.w X.K) x484), .ow (cV (tx X.w X.K) s516), .no, vl (rD (tx X.w X.K) y560), vl (rD (tx X.w X.K) y569), .no, .no, .no, .no]) xb () (evw_bind (evd_neg (ev_hv ev_int)) fun x565 h566 => (evwd (ev_bv (ev_fz (evo_lst (evd_cons h566 (evd_cons ev_int (evd_cons ev_int (evd_cons ev_int evd_nil))))))))) (.cons (.refl _) (.cons (.refl _) (.cons (.refl _) (.cons (.refl _) (.cons (.refl _) (.cons (.refl _) (.cons (.refl _) (.cons (.no _) (.cons (.refl _) (.cons (.no _) (.cons (.no _) (.cons (.no _) (.cons (.no _) (.cons (.no _) .nil)))))))))))))) (fun s567 => (tgm_name xv 9 (hf := .inl (xb.fnn _)))) ?_ (fun _ z _ _ => zx_g z) (fun s567 => ?_) (fun _ z => z)
      · rintro gh D568 s567 y569 hzs567 hr
        refine blm_forW (T := tx X.w X.K) (Γs := fun s572 : Unit => [vl (rS (tx X.w X.K) p_script), vl (rD (tx X.w X.K) x482), vl (rD (tx X.w X.K) y483.1), vl (rD (tx X.w X.K) y483.2.1), vl (rD (tx X.w X.K) y483.2.2), vl (rD (tx X.w X.K) x484), .ow (cV (tx X.w X.K) s516), .no, vl (rD (tx X.w X.K) y560), vl (rD (tx X.w X.K) y569), .no, .no, .no, .no]) (Γt := fun (s572 : Unit) (y574 : Val) => [vl (rS (tx X.w X.K) p_script), vl (rD (tx X.w X.K) x482), vl (rD (tx X.w X.K) y483.1), vl (rD (tx X.w X.K) y483.2.1), vl (rD (tx X.w X.K) y483.2.2), vl (rD (tx X.w X.K) x484), .ow (cV (tx X.w X.K) s516), .no, vl (rD (tx X.w X.K) y560), vl (rD (tx X.w X.K) y569), vl (rD (tx X.w X.K) y574), .no, .no, .no]) xb () (evw_bind (evd_neg (ev_hv ev_int)) fun x570 h571 => (evwd (ev_bv (ev_fz (evo_lst (evd_cons h571 (evd_cons ev_int (evd_cons ev_int (evd_cons ev_int evd_nil))))))))) (.cons (.refl _) (.cons (.refl _) (.cons (.refl _) (.cons (.refl _) (.cons (.refl _) (.cons (.refl _) (.cons (.refl _) (.cons (.no _) (.cons (.refl _) (.cons (.refl _) (.cons (.no _) (.cons (.no _) (.cons (.no _) (.cons (.no _) .nil)))))))))))))) (fun s572 => (tgm_name xv 10 (hf := .inl (xb.fnn _)))) ?_ (fun _ z _ _ => zx_g z) (fun s572 => ?_) (fun _ z => z)
        · rintro gh D573 s572 y574 hzs572 hr
          refine blm_set1 (T := tx X.w X.K) xb 11 (evp_bind (evd_ix xc (ev_hv (v_ xv 8)) ev_int) fun x576 h577 => (evp_bind (evd_add (ev_hv h577) (ev_hv (v_ xv 9))) fun x578 h579 => (evp_bind (evd_ix xc (ev_hv (v_ xv 8)) ev_int) fun x580 h581 => (evp_bind (evd_add (ev_hv h581) (ev_hv (v_ xv 10))) fun x582 h583 => (evd_ok (ev_tup (evd_cons h579 (evd_cons h583 evd_nil)))))))) fun x575 => ?_
          refine blm_set1 (T := tx X.w X.K) xb 12 (evp_c xc (S.df_law_between (fn_law_between S _ _ _ _ _)) (eva_cons (ev_hv (v_ xv 2)) (eva_cons (ev_hv (v_ xv 3)) (eva_cons (ev_hv (v_ xv 4)) (eva_cons (v_ xv 8) (eva_cons (v_ xv 11) eva_nil)))))) fun x584 => ?_
          refine blm_if (tvp_wv (wvp_or (tvp_bind (evd_m xc (ev_hv (v_ xv 5)) (S.mt_House_link_between (fn_House_link_between S _ _ _)) (eva_cons (v_ xv 8) (eva_cons (v_ xv 11) eva_nil))) fun x585 h586 => (tvd_ne xc (ev_hv h586) (ev_hv (v_ xv 12)))) (wvp_or1 (tvp_bind (evd_m xc (ev_hv (v_ xv 5)) (S.mt_House_link_between (fn_House_link_between S _ _ _)) (eva_cons (v_ xv 11) (eva_cons (v_ xv 8) eva_nil))) fun x587 h588 => (tvd_ne xc (ev_hv h588) (ev_hv (v_ xv 12))))))) ?_ ?_
          · exact blm_retF (T := tx X.w X.K) (evd_ok ev_bl)
          · refine blm_go ?_
            exact blm_nextG (T := tx X.w X.K) () (.cons (.refl _) (.cons (.refl _) (.cons (.refl _) (.cons (.refl _) (.cons (.refl _) (.cons (.refl _) (.cons (.refl _) (.cons (.no _) (.cons (.refl _) (.cons (.refl _) (.cons (.no _) (.cons (.no _) (.cons (.no _) (.cons (.no _) .nil))))))))))))))
        exact blm_nextG (T := tx X.w X.K) () (.cons (.refl _) (.cons (.refl _) (.cons (.refl _) (.cons (.refl _) (.cons (.refl _) (.cons (.refl _) (.cons (.refl _) (.cons (.no _) (.cons (.refl _) (.cons (.no _) (.cons (.no _) (.cons (.no _) (.cons (.no _) (.cons (.no _) .nil))))))))))))))
      exact blm_nextG (T := tx X.w X.K) () (.cons (.refl _) (.cons (.refl _) (.cons (.refl _) (.cons (.refl _) (.cons (.refl _) (.cons (.refl _) (.cons (.refl _) (.cons (.no _) (.cons (.no _) (.cons (.no _) (.cons (.no _) (.cons (.no _) (.cons (.no _) (.cons (.no _) .nil))))))))))))))
  refine blm_forW (T := tx X.w X.K) (Γs := fun s601 : Unit => [vl (rS (tx X.w X.K) p_script), vl (rD (tx X.w X.K) x482), vl (rD (tx X.w X.K) y483.1), vl (rD (tx X.w X.K) y483.2.1), vl (rD (tx X.w X.K) y483.2.2), vl (rD (tx X.w X.K) x484), .ow (cV (tx X.w X.K) s516), .no, .no, .no, .no, .no, .no, .no]) (Γt := fun (s601 : Unit) (y603 : Val) => [vl (rS (tx X.w X.K) p_script), vl (rD (tx X.w X.K) x482), vl (rD (tx X.w X.K) y483.1), vl (rD (tx X.w X.K) y483.2.1), vl (rD (tx X.w X.K) y483.2.2), vl (rD (tx X.w X.K) x484), .ow (cV (tx X.w X.K) s516), .no, vl (rD (tx X.w X.K) y603), .no, .no, .no, .no, .no]) xb () (evw_bind (evd_neg (ev_hv ev_int)) fun x589 h590 => (evw_bind (evd_neg (ev_hv ev_int)) fun x591 h592 => (evw_bind (evd_len (xv.bl S.fr_len) (ev_hv (v_ xv 3))) fun x593 h594 => (evw_bind (evd_add (ev_hv h594) (ev_hv ev_int)) fun x595 h596 => (evw_bind (evd_sum xc (xv.bl S.fr_sum) (ev_hv (v_ xv 2))) fun x597 h598 => (evw_bind (evd_add (ev_hv h598) (ev_hv ev_int)) fun x599 h600 => (evwd (ev_bv (ev_fz (evo_lst (evd_cons (ev_tup (evd_cons h590 (evd_cons ev_int evd_nil))) (evd_cons (ev_tup (evd_cons ev_int (evd_cons h592 evd_nil))) (evd_cons (ev_tup (evd_cons h596 (evd_cons ev_int evd_nil))) (evd_cons (ev_tup (evd_cons ev_int (evd_cons h600 evd_nil))) evd_nil)))))))))))))) (.cons (.refl _) (.cons (.refl _) (.cons (.refl _) (.cons (.refl _) (.cons (.refl _) (.cons (.refl _) (.cons (.refl _) (.cons (.no _) (.cons (.no _) (.cons (.no _) (.cons (.no _) (.cons (.no _) (.cons (.no _) (.cons (.no _) .nil)))))))))))))) (fun s601 => (tgm_name xv 8 (hf := .inl (xb.fnn _)))) ?_ (fun _ z _ _ => zx_g z) (fun s601 => ?_) (fun _ z => z)
  · rintro gh D602 s601 y603 hzs601 hr
    refine blm_if (tvp_not (tvp_bind (evp_c xc (S.df_law_refused (fn_law_refused S _ _)) (eva_cons (ev_hv (v_ xv 5)) (eva_cons (v_ xv 8) eva_nil))) fun x604 h605 => (tvd_tst (ev_hv h605)))) ?_ ?_
    · exact blm_retF (T := tx X.w X.K) (evd_ok ev_bl)
    · refine blm_go ?_
      exact blm_nextG (T := tx X.w X.K) () (.cons (.refl _) (.cons (.refl _) (.cons (.refl _) (.cons (.refl _) (.cons (.refl _) (.cons (.refl _) (.cons (.refl _) (.cons (.no _) (.cons (.no _) (.cons (.no _) (.cons (.no _) (.cons (.no _) (.cons (.no _) (.cons (.no _) .nil))))))))))))))
  exact blm_ret (T := tx X.w X.K) (evd_ok ev_bl) (fun _ z => z)
def m_House_lengths (p_self : Val) : Rs Val :=
  ((fldV "House" "_lengths" p_self) >>= fun x606 => (listV x606)).ne
theorem fn_House_lengths {P : Program} {w : World} {K : PySem.W.Frag} {mg : Str → Option Value} {base : Heap} (S : Fs P K mg) (p_self : Val) : FnOk P w K mg base (L2.CX P w) 1 (f_House_lengths K) S.d_House_lengths P_House_lengths (spU (tx w K) [hV (tx w K) p_self] (m_House_lengths p_self)) := by
  refine fn_u (nm := nm_House_lengths) (n := 0) S.F_House_lengths sc_House_lengths rfl (.hV .nil) rfl rfl (fun X W D hP hw hK hmg hbase xb hn q => ?_)
  subst hP hw hK hmg hbase
  have xc := xb.toXC
  have xv := xc.toXV
  refine (show BlM X W D .tt [vl (bV (tx X.w X.K) p_self)] (defBody s_House_lengths) (m_House_lengths p_self) (fun v => RetV W D (rD (tx X.w X.K) v)) (Zx (tx X.w X.K) X W) from ?_) q
  clear q
  delta m_House_lengths
  exact blm_ret (T := tx X.w X.K) (evp_bind (evd_fld (ev_hbv (v_ xv 0)) S.c_House S.a_House_lengths) fun x606 h607 => (evd_fz (eod_list xc (xv.bl S.fr_list) (ev_hv h607)))) (fun _ z => z)
def m_House_gaps (p_self : Val) : Rs Val :=
  ((fldV "House" "_gaps" p_self) >>= fun x608 => (listV x608)).ne
theorem fn_House_gaps {P : Program} {w : World} {K : PySem.W.Frag} {mg : Str → Option Value} {base : Heap} (S : Fs P K mg) (p_self : Val) : FnOk P w K mg base (L2.CX P w) 1 (f_House_gaps K) S.d_House_gaps P_House_gaps (spU (tx w K) [hV (tx w K) p_self] (m_House_gaps p_self)) := by
  refine fn_u (nm := nm_House_gaps) (n := 0) S.F_House_gaps sc_House_gaps rfl (.hV .nil) rfl rfl (fun X W D hP hw hK hmg hbase xb hn q => ?_)
  subst hP hw hK hmg hbase
  have xc := xb.toXC
  have xv := xc.toXV
  refine (show BlM X W D .tt [vl (bV (tx X.w X.K) p_self)] (defBody s_House_gaps) (m_House_gaps p_self) (fun v => RetV W D (rD (tx X.w X.K) v)) (Zx (tx X.w X.K) X W) from ?_) q
  clear q
  delta m_House_gaps
  exact blm_ret (T := tx X.w X.K) (evp_bind (evd_fld (ev_hbv (v_ xv 0)) S.c_House S.a_House_gaps) fun x608 h609 => (evd_fz (eod_list xc (xv.bl S.fr_list) (ev_hv h609)))) (fun _ z => z)
def m_House_closed (p_self : Val) : Rs Val :=
  ((fldV "House" "_closed" p_self) >>= fun x610 => (listV x610)).ne
theorem fn_House_closed {P : Program} {w : World} {K : PySem.W.Frag} {mg : Str → Option Value} {base : Heap} (S : Fs P K mg) (p_self : Val) : FnOk P w K mg base (L2.CX P w) 1 (f_House_closed K) S.d_House_closed P_House_closed (spU (tx w K) [hV (tx w K) p_self] (m_House_closed p_self)) := by
  refine fn_u (nm := nm_House_closed) (n := 0) S.F_House_closed sc_House_closed rfl (.hV .nil) rfl rfl (fun X W D hP hw hK hmg hbase xb hn q => ?_)
  subst hP hw hK hmg hbase
  have xc := xb.toXC
  have xv := xc.toXV
  refine (show BlM X W D .tt [vl (bV (tx X.w X.K) p_self)] (defBody s_House_closed) (m_House_closed p_self) (fun v => RetV W D (rD (tx X.w X.K) v)) (Zx (tx X.w X.K) X W) from ?_) q
  clear q
  delta m_House_closed
  exact blm_ret (T := tx X.w X.K) (evp_bind (evd_fld (ev_hbv (v_ xv 0)) S.c_House S.a_House_closed) fun x610 h611 => (evd_fz (eod_list xc (xv.bl S.fr_list) (ev_hv h611)))) (fun _ z => z)
def m_House_places (p_self : Val) : Rs Val :=
  ((((insC "House" "" p_self >>= fun _ => m_House_aisles p_self) >>= fun x612 => (rng1V x612)) >>= fun xs => lc2M Rs.ok (fun y614 : Val => ((insC "House" "" p_self >>= fun _ => m_House_top p_self) >>= fun x615 => ((addV x615 (.int 1)) >>= fun x617 => (rng1V x617)))) Rs.ok (fun (y614 : Val) (w614 : Val) => Rs.ok true) (fun (y614 : Val) (w614 : Val) => (Rs.ok (.tuple [y614, w614]))) xs >>= fun l => chk (decide (l.length ≤ BIG)) >>= fun _ => Rs.ok l) >>= fun l => Rs.ok (.list l)).ne
theorem fn_House_places {P : Program} {w : World} {K : PySem.W.Frag} {mg : Str → Option Value} {base : Heap} (S : Fs P K mg) (p_self : Val) : FnOk P w K mg base (L2.CX P w) 3 (f_House_places K) S.d_House_places P_House_places (spU (tx w K) [hV (tx w K) p_self] (m_House_places p_self)) := by
  refine fn_u (nm := nm_House_places) (n := 2) S.F_House_places sc_House_places rfl (.hV .nil) rfl rfl (fun X W D hP hw hK hmg hbase xb hn q => ?_)
  subst hP hw hK hmg hbase
  have xc := xb.toXC
  have xv := xc.toXV
  refine (show BlM X W D .tt [vl (bV (tx X.w X.K) p_self), .no, .no] (defBody s_House_places) (m_House_places p_self) (fun v => RetV W D (rD (tx X.w X.K) v)) (Zx (tx X.w X.K) X W) from ?_) q
  clear q
  delta m_House_places
  exact blm_ret (T := tx X.w X.K) (evd_fz (eop_map (f := Val.list) (eom_lc2 [("aisle", 1), ("height", 2)] [2] xc (evw_bind (evd_p xc (ev_hbv (v_ xv 0)) (S.pr_House_aisles (fn_House_aisles S _))) fun x612 h613 => (evwd_rng1 (xv.bl S.fr_range) (ev_hv h613))) (fun y614 : Val => [vl (bV (tx X.w X.K) p_self), vl (rD (tx X.w X.K) y614), .no]) (fun (y614 : Val) (w614 : Val) => [vl (bV (tx X.w X.K) p_self), vl (rD (tx X.w X.K) y614), vl (rD (tx X.w X.K) w614)]) (fun y614 => (.same (.vl (.same .nil)))) (fun s H C cl fp xc614 => (tgm_name xc614.toXV 1 (hf := .inr (xc614.toXV.only (by decide +kernel))))) (fun s H C cl fp xc614 y614 => (evw_bind (evd_p xc614 (ev_hbv (v_ xc614.toXV 0)) (S.pr_House_top (fn_House_top S _))) fun x615 h616 => (evw_bind (evd_add (ev_hv h616) (ev_hv ev_int)) fun x617 h618 => (evwd_rng1 (xc614.toXV.bl S.fr_range) (ev_hv h618))))) (fun s H C cl fp xc614 y614 => (tgm_name xc614.toXV 2 (hf := .inr (xc614.toXV.only (by decide +kernel))))) (fun s H C cl fp xc614 y614 w614 => vvm_nil) (fun s H C cl fp xc614 y614 w614 => (evd_ok (ev_tup (evd_cons (v_ xc614.toXV 1) (evd_cons (v_ xc614.toXV 2) evd_nil)))))))) (fun _ z => z)
end
end T
namespace T
open PySem PySem.Spec PyProof.Rows L2 L3
noncomputable section
/-! ### the drawn numbers -/
def nxt (s : Int) (k : Nat) : Int := ((s + 1) * 48271 + 69621 * (k : Int)) % 2147483647
def rowSt (cell : Int) : Nat → Int × Int × List Int
  | 0 => ((cell.natAbs : Int) % 2147483647, if (10 : Int) ^ 18 ≤ (cell.natAbs : Int) then (cell.natAbs : Int) else 0, [])
  | k + 1 => if 0 < (rowSt cell k).2.1 then (nxt (rowSt cell k).1 k, (rowSt cell k).2.1 / 1009, (rowSt cell k).2.2 ++ [(rowSt cell k).2.1 % 1009])
    else (nxt (rowSt cell k).1 k, (rowSt cell k).2.1, (rowSt cell k).2.2 ++ [nxt (rowSt cell k).1 k / 2048 % 1009])
theorem rowSt_l (c : Int) (n : Nat) : (rowSt c n).2.2.length = n := by
  induction n with
  | zero => rfl
  | succ n ih => simp only [rowSt]; split <;> simp [ih]
theorem rowSt_m (c : Int) (n : Nat) : ∀ x ∈ (rowSt c n).2.2, 0 ≤ x ∧ x < 1009 := by
  induction n with
  | zero => intro x h; simp [rowSt] at h
  | succ n ih =>
    intro x h
    simp only [rowSt] at h
    split at h
    · rcases List.mem_append.mp h with h | h
      · exact ih x h
      · simp only [List.mem_cons, List.not_mem_nil, or_false] at h
        omega
    · rcases List.mem_append.mp h with h | h
      · exact ih x h
      · simp only [List.mem_cons, List.not_mem_nil, or_false] at h
        omega
def rowOf (c : Int) (n : Nat) : List Int := (rowSt c n).2.2
theorem row_start (c : Int) : (if geI (c.natAbs : Int) ((10 : Int) ^ (Int.toNat 18)) = true then (Rs.ok (Val.int (c.natAbs : Int)) : Rs Val) else Rs.ok (Val.int 0)) = Rs.ok (.int (rowSt c 0).2.1) := by
  simp only [rowSt, geI, decide_eq_true_eq]
  by_cases h : (10 : Int) ^ 18 ≤ (c.natAbs : Int)
  · rw [if_pos h]; exact if_pos h
  · rw [if_neg h]; exact if_neg h
theorem r_row (c : Int) (n : Nat) (hn : n ≤ 10000) : m_law_row (.int c) (.int n) = .ok (.list ((rowOf c n).map .int)) := by
  unfold m_law_row
  simp -implicitDefEqProofs only [Rs.ne_ok, Rs.bind_ok, absV_int, cmpI_int, intV_int]
  rw [powV_int (by decide), rng1V_ok (by omega) (by omega), modV_int (by decide)]
  simp -implicitDefEqProofs only [Rs.ne_ok, Rs.bind_ok, cmpI_int, Int.toNat_natCast]
  rw [row_start]
  simp -implicitDefEqProofs only [Rs.bind_ok]
  refine (bind_of (forL_rngE n (fun i => ((.list ((rowSt c i).2.2.map .int) : Val), (.int (rowSt c i).2.1 : Val), (.int (rowSt c i).1 : Val))) ?_ ?_)).trans ?_
  · simp -implicitDefEqProofs only [rowSt, List.map_nil]
  · intro i hi
    have hl : ((rowSt c i).2.2.map Val.int).length < BIG := by rw [List.length_map, rowSt_l]; show i < 16777216; omega
    simp -implicitDefEqProofs only [addV_int, Rs.bind_ok, intV_int, Rs.ne_ok, mulV_intR (i := _) (j := 48271) (by decide) (by decide), mulV_intL (i := 69621) (by decide) (by decide), modV_int (show (0 : Int) < 2147483647 by decide), modV_int (show (0 : Int) < 1009 by decide), cmpI_int, fdivV_int (show (0 : Int) < 1009 by decide) (by decide), fdivV_int (show (0 : Int) < 2048 by decide) (by decide), appV_list hl]
    by_cases h : 0 < (rowSt c i).2.1
    · rw [if_pos (by simpa using h)]
      simp -implicitDefEqProofs only [rowSt, if_pos h, nxt, List.map_append, List.map_cons, List.map_nil]
    · rw [if_neg (by simpa using h)]
      simp -implicitDefEqProofs only [rowSt, if_neg h, nxt, List.map_append, List.map_cons, List.map_nil]
  · rfl
theorem rowOf_len (c : Int) (n : Nat) : (rowOf c n).length = n := rowSt_l c n
/-- what is gathered ahead of the padding -/
def allOf (cells : List Int) (each : Nat) : List Int := cells.flatMap fun c => rowOf c each
def eachOf (cells : List Int) (many : Nat) : Nat := 1 + many / max 1 cells.length
def numsOf (ns : List Int) (many : Nat) : List Int :=
  let cells := cut ns none (some 63)
  let all := allOf cells (eachOf cells many)
  (all ++ List.replicate (many - all.length) 0).take many
theorem numsOf_len (ns : List Int) (many : Nat) : (numsOf ns many).length = many := by
  unfold numsOf
  simp only [List.length_take, List.length_append, List.length_replicate]
  omega
theorem numsOf_mem (ns : List Int) (many : Nat) : ∀ x ∈ numsOf ns many, 0 ≤ x ∧ x < 1009 := by
  intro x h
  unfold numsOf at h
  have h := List.mem_of_mem_take h
  rcases List.mem_append.mp h with h | h
  · unfold allOf at h
    obtain ⟨c, _, h⟩ := List.mem_flatMap.mp h
    exact rowSt_m _ _ x h
  · have := (List.mem_replicate.mp h).2
    omega
theorem cut_nat {α : Type} (xs : List α) (k : Nat) : cut xs none (some (k : Int)) = xs.take k := by
  unfold cut
  rw [HT.sIx_none, HT.sIx_nat, List.drop_zero, Nat.sub_zero]
  by_cases h : k ≤ xs.length
  · rw [Nat.min_eq_left h]
  · rw [Nat.min_eq_right (by omega), List.take_length, List.take_of_length_le (by omega)]
theorem cut_le {α : Type} (xs : List α) (lo hi : Option Int) : (cut xs lo hi).length ≤ xs.length := by
  unfold cut
  rw [List.length_take, List.length_drop]
  omega
theorem allOf_snoc (cs : List Int) (c : Int) (n : Nat) : allOf (cs ++ [c]) n = allOf cs n ++ rowOf c n := by
  unfold allOf
  rw [List.flatMap_append, List.flatMap_cons, List.flatMap_nil, List.append_nil]
theorem allOf_len (cs : List Int) (n : Nat) : (allOf cs n).length = cs.length * n := by
  induction cs with
  | nil => simp [allOf]
  | cons c cs ih =>
    have : allOf (c :: cs) n = rowOf c n ++ allOf cs n := rfl
    rw [this, List.length_append, ih, rowOf_len, List.length_cons, Nat.add_mul]
    omega
theorem r_numbers (ns : List Int) (many : Nat) (hm : many ≤ 9000) : m_law_numbers ns (.int many) = .ok (.list ((numsOf ns many).map .int)) := by
  have hc : (cut ns none (some 63)).length ≤ 63 := by
    have := cut_nat ns 63
    rw [show ((63 : Nat) : Int) = 63 from rfl] at this
    rw [this, List.length_take]
    omega
  unfold m_law_numbers
  generalize ecs : cut ns none (some 63) = cells at *
  simp -implicitDefEqProofs only [Rs.ne_ok, Rs.bind_ok, lenV_list, List.length_map, maxV_int]
  have e1 : fdivV (.int (many : Int)) (.int (max 1 (cells.length : Int))) = .ok (.int ((many : Int) / max 1 (cells.length : Int))) := fdivV_int (by omega) (by omega)
  have e2 : (1 : Int) + (many : Int) / max 1 (cells.length : Int) = ((eachOf cells many : Nat) : Int) := by
    unfold eachOf
    have : max 1 (cells.length : Int) = ((max 1 cells.length : Nat) : Int) := by omega
    rw [this, Int.natCast_add, Int.natCast_ediv]
    rfl
  have he : eachOf cells many ≤ 10000 := by
    unfold eachOf
    have := Nat.div_le_self many (max 1 cells.length)
    omega
  rw [e1]
  simp -implicitDefEqProofs only [Rs.ne_ok, Rs.bind_ok, addV_int, walkV_list]
  rw [e2]
  refine (bind_of (forL_mapE (σ := Val) Val.int cells (fun ys => .list ((allOf ys (eachOf cells many)).map .int)) ?_ ?_)).trans ?_
  · rfl
  · rintro ys c ⟨zs, ez⟩
    have hys : ys.length < 63 := by
      rw [ez, List.length_append, List.length_cons] at hc
      omega
    rw [r_row c _ he]
    simp -implicitDefEqProofs only [Rs.ne_ok, Rs.bind_ok, walkV_list]
    refine (bind_of (forL_mapE (σ := Val) Val.int (rowOf c (eachOf cells many)) (fun zs => .list ((allOf ys (eachOf cells many) ++ zs).map .int)) ?_ ?_)).trans ?_
    · rw [List.append_nil]
    · rintro ws d ⟨us, eu⟩
      have hw : ws.length ≤ 10000 := by
        have := rowOf_len c (eachOf cells many)
        rw [eu, List.length_append] at this
        omega
      have hl : ((allOf ys (eachOf cells many) ++ ws).map Val.int).length < BIG := by
        rw [List.length_map, List.length_append, allOf_len]
        have : ys.length * eachOf cells many ≤ 63 * 10000 := Nat.mul_le_mul (by omega) he
        show _ < 16777216
        omega
      simp -implicitDefEqProofs only [Rs.ne_ok, Rs.bind_ok, appV_list hl]
      rw [← List.append_assoc, List.map_append (l₂ := [d])]
      rfl
    · rw [allOf_snoc]
      rfl
  · simp -implicitDefEqProofs only [thenF_go]
    refine (bind_of (whl_nE (many - (allOf cells (eachOf cells many)).length) (fun i => (.list ((allOf cells (eachOf cells many) ++ List.replicate i 0).map .int) : Val)) ?_ ?_ ?_ FU ?_)).trans ?_
    · simp
    · intro i hi
      have hl : ((allOf cells (eachOf cells many) ++ List.replicate i 0).map Val.int).length < BIG := by
        rw [List.length_map, List.length_append, List.length_replicate]
        show _ < 16777216
        omega
      constructor
      · simp -implicitDefEqProofs only [Rs.ne_ok, Rs.bind_ok, lenV_list, cmpI_int, List.length_map, List.length_append, List.length_replicate, ltI]
        rw [decide_eq_true (by omega)]
      · simp -implicitDefEqProofs only [Rs.ne_ok, Rs.bind_ok, appV_list hl]
        rw [List.replicate_succ', ← List.append_assoc, List.map_append (l₂ := [0])]
        rfl
    · simp -implicitDefEqProofs only [Rs.ne_ok, Rs.bind_ok, lenV_list, cmpI_int, List.length_map, List.length_append, List.length_replicate, ltI]
      rw [decide_eq_false (by omega)]
    · unfold FU; omega
    · simp -implicitDefEqProofs only [thenF_go, asInt_int, Rs.bind_ok, slV_list, Rs.ne_ok]
      rw [cut_nat, ← List.map_take]
      unfold numsOf
      rw [ecs]
/-! ### houses -/
structure Hs where
  ls : List Int
  gs : List Int
  cl : List (Str × Int × Int)
abbrev Lk : Type := Str × Int × Int
def topOf (ls : List Int) : Int := ls.sum
def aislesOf (gs : List Int) : Int := gs.length + 1
def crossesOf (ls : List Int) : List Int := (List.range (ls.length + 1)).map fun k => (ls.take k).sum
def inP (ls gs : List Int) (a b : Int) : Bool := (decide (0 ≤ a) && decide (a < aislesOf gs)) && (decide (0 ≤ b) && decide (b ≤ topOf ls))
def inC (ls gs : List Int) (a b : Int) : Bool := inP ls gs a b && decide (b ∈ crossesOf ls)
def inLk (ls gs : List Int) (l : Lk) : Bool := if l.1 = ("up" : Str) then inP ls gs l.2.1 l.2.2 && decide (l.2.2 < topOf ls) else decide (l.1 = ("over" : Str)) && (inC ls gs l.2.1 l.2.2 && decide (l.2.1 < aislesOf gs - 1))
theorem crossesOf_snoc (ls : List Int) (x : Int) : crossesOf (ls ++ [x]) = crossesOf ls ++ [ls.sum + x] := by
  unfold crossesOf
  rw [List.length_append, List.length_singleton, List.range_succ, List.map_append, List.map_singleton]
  congr 1
  · refine List.map_congr_left fun k hk => ?_
    rw [List.mem_range] at hk
    rw [List.take_append_of_le_length (by omega)]
  · rw [List.take_of_length_le (by rw [List.length_append, List.length_singleton]; exact Nat.le_refl _), List.sum_append, List.sum_singleton]
theorem crossesOf_last (ls : List Int) : ∃ ys, crossesOf ls = ys ++ [ls.sum] := by
  unfold crossesOf
  rw [List.range_succ, List.map_append, List.map_singleton, List.take_length]
  exact ⟨_, rfl⟩
theorem crossesOf_len (ls : List Int) : (crossesOf ls).length = ls.length + 1 := by
  unfold crossesOf
  rw [List.length_map, List.length_range]
abbrev vInts (is : List Int) : Val := .list (is.map .int)
def vH (h : Hs) : Val := .obj "House" [("_lengths", vInts h.ls), ("_gaps", vInts h.gs), ("_closed", .dict (h.cl.map fun l => (vL l, .bool true)))]
theorem fld_ls (h : Hs) : fldV "House" "_lengths" (vH h) = .ok (vInts h.ls) := rfl
theorem fld_gs (h : Hs) : fldV "House" "_gaps" (vH h) = .ok (vInts h.gs) := rfl
theorem fld_cl (h : Hs) : fldV "House" "_closed" (vH h) = .ok (.dict (h.cl.map fun l => (vL l, .bool true))) := rfl
theorem ins_H (h : Hs) (m : Str) (hm : (m == ("_lengths" : Str) || m == ("_gaps" : Str) || m == ("_closed" : Str)) = false) : insC "House" m (vH h) = .ok () := by
  simp only [Bool.or_eq_false_iff] at hm
  obtain ⟨⟨h1, h2⟩, h3⟩ := hm
  show (if (("House" : Str) = "House" ∧ List.lookup m [(("_lengths" : Str), vInts h.ls), ("_gaps", vInts h.gs), ("_closed", .dict (h.cl.map fun l => (vL l, .bool true)))] = none) then (Rs.ok () : Rs Unit) else Rs.stuck) = _
  rw [List.lookup_cons, h1, List.lookup_cons, h2, List.lookup_cons, h3]
  rfl
theorem r_aisles (h : Hs) : m_House_aisles (vH h) = .ok (.int (aislesOf h.gs)) := by
  unfold m_House_aisles
  rw [fld_gs]
  simp -implicitDefEqProofs only [Rs.bind_ok, lenV_list, List.length_map, addV_int, Rs.ne_ok, aislesOf]
theorem r_top (h : Hs) : m_House_top (vH h) = .ok (.int (topOf h.ls)) := by
  unfold m_House_top
  rw [fld_ls]
  simp -implicitDefEqProofs only [Rs.bind_ok, sumV_ints, Rs.ne_ok, topOf]
theorem and_if (b c : Bool) : (if b = true then (Rs.ok c : Rs Bool) else Rs.ok false) = Rs.ok (b && c) := by cases b <;> rfl
theorem r_is_place (h : Hs) (a b : Int) : m_House_is_place (vH h) (.tuple [.int a, .int b]) = .ok (.bool (inP h.ls h.gs a b)) := by
  unfold m_House_is_place
  rw [ins_H h "" (by decide), r_aisles, r_top]
  simp -implicitDefEqProofs only [Rs.bind_ok, ix2_0, ix2_1, chV_int, cmpI_int, and_if, Rs.ne_ok]
  rfl
theorem r_crosses (h : Hs) (hl : h.ls.length ≤ 1000) : m_House_crosses (vH h) = .ok (vInts (crossesOf h.ls)) := by
  unfold m_House_crosses
  rw [fld_ls]
  simp -implicitDefEqProofs only [Rs.bind_ok, walkV_list, Rs.ne_ok]
  refine (bind_of (forL_mapE (σ := Val) Val.int h.ls (fun ys => vInts (crossesOf ys)) ?_ ?_)).trans ?_
  · rfl
  · rintro ys x ⟨zs, ez⟩
    obtain ⟨us, eu⟩ := crossesOf_last ys
    have hlt : ((crossesOf ys).map Val.int).length < BIG := by
      rw [List.length_map, crossesOf_len]
      rw [ez, List.length_append, List.length_cons] at hl
      show _ < 16777216
      omega
    have e1 : ixV (vInts (crossesOf ys)) (.int (-1)) = .ok (.int ys.sum) := by
      rw [eu]
      show ixV (.list ((us ++ [ys.sum]).map .int)) _ = _
      rw [List.map_append]
      exact ixL_last _ _
    simp -implicitDefEqProofs only [Rs.bind_ok, Rs.ne_ok, negV_int, e1, addV_int, appV_list hlt]
    rw [crossesOf_snoc]
    show _ = Rs.ok (Fl.go (Val.list ((crossesOf ys ++ [ys.sum + x]).map Val.int)))
    rw [List.map_append]
    rfl
  · rfl
theorem r_is_cross (h : Hs) (hl : h.ls.length ≤ 1000) (a b : Int) : m_House_is_cross (vH h) (.tuple [.int a, .int b]) = .ok (.bool (inC h.ls h.gs a b)) := by
  unfold m_House_is_cross
  rw [ins_H h "is_place" (by decide), ins_H h "crosses" (by decide), r_is_place, r_crosses h hl]
  have e : inV (.int b) (vInts (crossesOf h.ls)) = .ok (decide (b ∈ crossesOf h.ls)) := gv_int.inV trivial (fun _ _ => trivial)
  simp -implicitDefEqProofs only [Rs.bind_ok, boolV_bool, ix2_1, e, and_if, Rs.ne_ok]
  rfl
theorem ok_up : PyData.strOk "up" = true := by decide +kernel
theorem ok_over : PyData.strOk "over" = true := by decide +kernel
theorem r_is_link (h : Hs) (hl : h.ls.length ≤ 1000) (s : Str) (a b : Int) (ok : PyData.strOk s = true) : m_House_is_link (vH h) (.tuple [.str s, .int a, .int b]) = .ok (.bool (inLk h.ls h.gs (s, a, b))) := by
  unfold m_House_is_link
  have e1 : L3.eqV (.str s) (.str "up") = .ok (decide (s = ("up" : Str))) := gv_str.eqV ok ok_up
  have e2 : L3.eqV (.str s) (.str "over") = .ok (decide (s = ("over" : Str))) := gv_str.eqV ok ok_over
  rw [ins_H h "is_place" (by decide), ins_H h "is_cross" (by decide), ins_H h "" (by decide), r_aisles, r_top]
  simp -implicitDefEqProofs only [Rs.bind_ok, up3_tup, Rs.ne_ok, e1, e2, r_is_place, r_is_cross h hl, boolV_bool, cmpI_int, and_if, subV_int]
  unfold inLk
  by_cases hu : s = ("up" : Str)
  · simp only [hu, decide_true, if_true]
  · simp only [hu, decide_false, if_false, Bool.false_eq_true]
theorem has_closed (cl : List Lk) (l : Lk) : inV (vL l) (.dict (cl.map fun l => (vL l, .bool true))) = .ok (decide (l ∈ cl)) := by
  have e : (cl.map fun l => (vL l, Val.bool true)) = encD vL Val.bool (cl.map fun l => (l, true)) := by
    unfold L3.encD
    rw [List.map_map]
    rfl
  rw [e, kv_L.has, lookD_isSome, List.map_map]
  congr 2
  rw [show ((fun e : Lk × Bool => e.1) ∘ fun l => (l, true)) = id from rfl, List.map_id]
theorem r_is_closed (h : Hs) (l : Lk) : m_House_is_closed (vH h) (vL l) = .ok (.bool (decide (l ∈ h.cl))) := by
  unfold m_House_is_closed
  rw [fld_cl]
  simp -implicitDefEqProofs only [Rs.bind_ok, has_closed, Rs.ne_ok]
theorem r_lengths (h : Hs) : m_House_lengths (vH h) = .ok (vInts h.ls) := by
  unfold m_House_lengths
  rw [fld_ls]
  rfl
theorem r_gaps (h : Hs) : m_House_gaps (vH h) = .ok (vInts h.gs) := by
  unfold m_House_gaps
  rw [fld_gs]
  rfl
theorem r_closed (h : Hs) : m_House_closed (vH h) = .ok (.list (h.cl.map vL)) := by
  unfold m_House_closed
  rw [fld_cl]
  simp -implicitDefEqProofs only [Rs.bind_ok, listV_dict, Rs.ne_ok, dkeys, List.map_map]
  rfl
theorem r_check_link (h : Hs) (hl : h.ls.length ≤ 1000) (s : Str) (a b : Int) (ok : PyData.strOk s = true) : m_House_check_link (vH h) (.tuple [.str s, .int a, .int b]) = if inLk h.ls h.gs (s, a, b) = true then .ok .none else .err ⟨"InvalidLink", none⟩ := by
  unfold m_House_check_link
  rw [ins_H h "is_link" (by decide), r_is_link h hl s a b ok]
  simp -implicitDefEqProofs only [Rs.bind_ok, tstV_bool, Rs.ne_ok]
  cases inLk h.ls h.gs (s, a, b) <;> rfl
def arB (ns : List Int) (lo hi : Int) : Bool := (decide (lo ≤ (ns.length : Int)) && decide ((ns.length : Int) ≤ hi)) && (ns.map fun x => decide (1 ≤ x) && decide (x ≤ 40)).all id
theorem r_are_lengths (ns : List Int) (lo hi : Int) (hl : ns.length ≤ 10000) : m_are_lengths (vInts ns) (.int lo) (.int hi) = .ok (.bool (arB ns lo hi)) := by
  unfold m_are_lengths
  have e1 : lcM Rs.ok (fun y3 : Val => Rs.ok true) (fun y3 : Val => ((chV leI leI (.int 1) y3 (Rs.ok (.int 40))) >>= fun b => Rs.ok (.bool b))) (ns.map .int) = .ok (ns.map fun x => .bool (decide (1 ≤ x) && decide (x ≤ 40))) := by
    refine lcM_map Val.int _ ns fun x _ => ⟨.int x, rfl, ?_⟩
    simp -implicitDefEqProofs only [chV_int, Rs.bind_ok, cmpI_int, and_if]
  have e2 : (ns.map fun x => Val.bool (decide (1 ≤ x) && decide (x ≤ 40))) = (ns.map fun x => decide (1 ≤ x) && decide (x ≤ 40)).map Val.bool := by
    rw [List.map_map]
    rfl
  have hz : chk (decide ((ns.map Val.int).length ≤ BIG)) = .ok () := by
    rw [decide_eq_true (by rw [List.length_map]; show _ ≤ 16777216; omega)]
    rfl
  simp -implicitDefEqProofs only [lenV_list, Rs.bind_ok, chV_int, cmpI_int, and_if, walkV_list, hz, e1]
  rw [e2]
  simp -implicitDefEqProofs only [allV_bools, Rs.bind_ok, and_if, Rs.ne_ok, List.length_map]
  rfl
def goodH (ls gs : List Int) (cl : List Lk) : Prop := arB ls 1 2 = true ∧ arB gs 0 11 = true ∧ cl.length ≤ 200 ∧ cl.Nodup ∧ ∀ l ∈ cl, inLk ls gs l = true ∧ okL' l
def sortLk (cl : List Lk) : List Lk := cl.mergeSort (PySem.W.dataLe false dL)
theorem sortLk_perm (cl : List Lk) : (sortLk cl).Perm cl := List.mergeSort_perm _ _
theorem arB_len {ns : List Int} {lo hi : Int} (h : arB ns lo hi = true) : lo ≤ (ns.length : Int) ∧ (ns.length : Int) ≤ hi := by
  unfold arB at h
  simp only [Bool.and_eq_true, decide_eq_true_eq] at h
  exact h.1
theorem r_House (ls gs : List Int) (cl : List Lk) (g : goodH ls gs cl) : m_House_init (vInts ls) (vInts gs) (.list (cl.map vL)) = .ok (vH ⟨ls, gs, sortLk cl⟩) := by
  obtain ⟨g1, g2, g3, g4, g5⟩ := g
  have l1 := arB_len g1
  have l2 := arB_len g2
  unfold m_House_init
  rw [r_are_lengths ls 1 2 (by omega), r_are_lengths gs 0 11 (by omega), g1, g2]
  have so : L3.sortV (.list (cl.map vL)) = .ok (.list ((sortLk cl).map vL)) := gv_L.sortV cl (.inl fun d hd => by
    obtain ⟨a, _, rfl⟩ := List.mem_map.mp hd
    exact ⟨_, _, rfl⟩)
  have dc : dcM Rs.ok (fun y451 : Val => Rs.ok true) (fun y451 : Val => (Rs.ok y451)) (fun y451 : Val => (Rs.ok (.bool true))) ((sortLk cl).map vL) [] = .ok ((sortLk cl).map fun l => (vL l, .bool true)) := by
    have := dcM_new (w := Val.bool) kv_L (fun _ => true) (fun _ => Rs.ok (.bool true)) (fun _ => rfl) (sortLk cl) [] ((sortLk_perm cl).nodup_iff.mpr g4) (fun _ _ h => nomatch h) (by
      rw [List.length_nil, (sortLk_perm cl).length_eq]
      show _ ≤ 16777216
      omega)
    refine this.trans ?_
    rw [List.nil_append]
    unfold L3.encD
    rw [List.map_map]
    rfl
  have e200 : decide ((200 : Int) < (cl.length : Int)) = false := decide_eq_false (by omega)
  have hlen : neV (.int ((sortLk cl).length : Int)) (.int (cl.length : Int)) = .ok false := by
    unfold neV
    rw [gv_int.eqV trivial trivial, (sortLk_perm cl).length_eq, decide_eq_true rfl]
    rfl
  have hz : chk (decide (cl.length ≤ BIG)) = .ok () := by
    rw [decide_eq_true (by show _ ≤ 16777216; omega)]
    rfl
  have all : lcM Rs.ok (fun y461 : Val => Rs.ok true) (fun y461 : Val => (insC "House" "is_link" (vH ⟨ls, gs, sortLk cl⟩) >>= fun _ => m_House_is_link (vH ⟨ls, gs, sortLk cl⟩) y461)) (cl.map vL) = .ok (cl.map fun _ => Val.bool true) := by
    refine lcM_map vL _ cl fun l hl => ⟨vL l, rfl, ?_⟩
    rw [ins_H _ "is_link" (by decide)]
    obtain ⟨s, a, b⟩ := l
    have z := g5 _ hl
    simp -implicitDefEqProofs only [Rs.bind_ok]
    rw [r_is_link _ (show ls.length ≤ 1000 by omega) s a b z.2, z.1]
  have e2 : (cl.map fun _ => Val.bool true) = (cl.map fun _ => true).map Val.bool := by
    rw [List.map_map]
    rfl
  simp -implicitDefEqProofs only [Rs.bind_ok, tstV_bool, Bool.not_true, Bool.false_eq_true, if_false, Rs.ne_ok, listV_list, so, walkV_list, dc, lenV_list, lenV_dict, cmpI_int, List.length_map, gtI, e200, hlen, hz]
  rw [show (Val.obj "House" [("_lengths", vInts ls), ("_gaps", vInts gs), ("_closed", .dict ((sortLk cl).map fun l => (vL l, .bool true)))]) = vH ⟨ls, gs, sortLk cl⟩ from rfl, all]
  simp -implicitDefEqProofs only [Rs.bind_ok, e2, allV_bools]
  have e3 : (cl.map fun _ => true).all id = true := by
    rw [List.all_eq_true]
    intro x hx
    obtain ⟨_, _, rfl⟩ := List.mem_map.mp hx
    rfl
  rw [e3]
  rfl
/-! ### links: ends, lengths, between -/
abbrev Pl : Type := Int × Int
def endsOf (l : Lk) : Pl × Pl := if l.1 = ("up" : Str) then ((l.2.1, l.2.2), (l.2.1, l.2.2 + 1)) else ((l.2.1, l.2.2), (l.2.1 + 1, l.2.2))
def lenL (gs : List Int) (l : Lk) : Int := if l.1 = ("up" : Str) then 1 else gs.getD l.2.1.toNat 0
def sort2 (p q : Pl) : Pl × Pl := if p.1 < q.1 ∨ (p.1 = q.1 ∧ p.2 ≤ q.2) then (p, q) else (q, p)
theorem sort2_comm (p q : Pl) : sort2 p q = sort2 q p := by
  obtain ⟨a, b⟩ := p
  obtain ⟨c, d⟩ := q
  unfold sort2
  dsimp only
  split <;> split <;> first | rfl | (simp only [Prod.mk.injEq]; omega)
theorem r_sort2 (p q : Pl) : sortV (.list [vP p, vP q]) = .ok (.list [vP (sort2 p q).1, vP (sort2 p q).2]) := by
  have h := gv_P.sortV [p, q] (.inl fun d hd => by
    simp only [List.map_cons, List.map_nil, List.mem_cons, List.not_mem_nil, or_false] at hd
    rcases hd with rfl | rfl <;> exact ⟨_, _, rfl⟩)
  have e : PySem.W.dataLe false dP = fun p q : Pl => decide (p.1 < q.1 ∨ (p.1 = q.1 ∧ p.2 ≤ q.2)) := PySem.W.dataLe_ii (fun p : Pl => p.1) (fun p => p.2)
  rw [e] at h
  have e2 : [p, q].mergeSort (fun p q : Pl => decide (p.1 < q.1 ∨ (p.1 = q.1 ∧ p.2 ≤ q.2))) = [(sort2 p q).1, (sort2 p q).2] := by
    unfold sort2
    by_cases c : p.1 < q.1 ∨ (p.1 = q.1 ∧ p.2 ≤ q.2)
    · rw [if_pos c]
      simp [List.mergeSort, List.MergeSort.Internal.splitInTwo, List.merge, c]
    · rw [if_neg c]
      simp [List.mergeSort, List.MergeSort.Internal.splitInTwo, List.merge, c]
  rw [e2] at h
  exact h
theorem eq_up {s : Str} (ok : PyData.strOk s = true) : L3.eqV (.str s) (.str "up") = .ok (decide (s = ("up" : Str))) := gv_str.eqV ok ok_up
theorem r_ends_of (h : Hs) (hl : h.ls.length ≤ 1000) (s : Str) (a b : Int) (ok : PyData.strOk s = true) : m_House_ends_of (vH h) (.tuple [.str s, .int a, .int b]) = if inLk h.ls h.gs (s, a, b) = true then .ok (.tuple [vP (endsOf (s, a, b)).1, vP (endsOf (s, a, b)).2]) else .err ⟨"InvalidLink", none⟩ := by
  unfold m_House_ends_of
  rw [ins_H h "check_link" (by decide), r_check_link h hl s a b ok]
  simp -implicitDefEqProofs only [Rs.bind_ok]
  by_cases c : inLk h.ls h.gs (s, a, b) = true
  · rw [if_pos c, if_pos c]
    simp -implicitDefEqProofs only [Rs.bind_ok, up3_tup, Rs.ne_ok, eq_up ok, addV_int]
    unfold endsOf
    by_cases hu : s = ("up" : Str)
    · simp only [hu, decide_true, if_true]
    · simp only [hu, decide_false, if_false, Bool.false_eq_true]
  · rw [if_neg c, if_neg c]
    rfl
theorem neV_of {u v : Val} {b : Bool} (h : L3.eqV u v = .ok b) : neV u v = .ok (!b) := by
  unfold neV
  rw [h]
  rfl
theorem ne_int (i j : Int) : neV (.int i) (.int j) = .ok (!decide (i = j)) := neV_of (gv_int.eqV trivial trivial)
theorem cat_lk (s : Str) (p : Pl) : addV (.tuple [.str s]) (vP p) = .ok (vL (s, p.1, p.2)) := rfl
theorem ix_P0 (p : Pl) : ixV (vP p) (.int 0) = .ok (.int p.1) := rfl
theorem ix_P1 (p : Pl) : ixV (vP p) (.int 1) = .ok (.int p.2) := rfl
theorem up2_P (p q : Val) : (up2 Rs.ok Rs.ok (.list [p, q]) : Rs (Val × Val)) = .ok (p, q) := rfl
def linkOf (f s : Pl) : Lk := (if f.1 = s.1 then ("up" : Str) else "over", f.1, f.2)
theorem linkOf_ok (f s : Pl) : PyData.strOk (linkOf f s).1 = true := by
  unfold linkOf
  dsimp only
  split
  · exact ok_up
  · exact ok_over
def okB (h : Hs) (f s : Pl) : Bool := inP h.ls h.gs f.1 f.2 && (inLk h.ls h.gs (linkOf f s) && decide (endsOf (linkOf f s) = (f, s)))
def btw (h : Hs) (p q : Pl) : Option Lk := if okB h (sort2 p q).1 (sort2 p q).2 = true ∧ linkOf (sort2 p q).1 (sort2 p q).2 ∉ h.cl then some (linkOf (sort2 p q).1 (sort2 p q).2) else none
def vO : Option Lk → Val
  | none => .none
  | some l => vL l
theorem gv_PP : Gv (fun q : Pl × Pl => .tuple [vP q.1, vP q.2]) (fun q => .tuple [dP q.1, dP q.2]) 2 yes := (gv_P.pair gv_P).imp fun _ _ => ⟨trivial, trivial⟩
theorem r_link_between (h : Hs) (hl : h.ls.length ≤ 1000) (p q : Pl) : m_House_link_between (vH h) (vP p) (vP q) = .ok (vO (btw h p q)) := by
  unfold m_House_link_between btw
  rw [r_sort2]
  generalize sort2 p q = fs
  obtain ⟨f, s⟩ := fs
  rw [ins_H h "is_place" (by decide), ins_H h "is_link" (by decide), ins_H h "ends_of" (by decide), ins_H h "is_closed" (by decide)]
  have hlk : ((if (!decide (f.1 = s.1)) = true then Rs.ok (vL ("over", f.1, f.2)) else Rs.ok (vL ("up", f.1, f.2))) : Rs Val) = .ok (vL (linkOf f s)) := by
    unfold linkOf
    by_cases c : f.1 = s.1 <;> simp [c]
  have e1 : m_House_is_link (vH h) (vL (linkOf f s)) = .ok (.bool (inLk h.ls h.gs (linkOf f s))) := r_is_link h hl _ _ _ (linkOf_ok f s)
  have e2 : m_House_ends_of (vH h) (vL (linkOf f s)) = _ := r_ends_of h hl _ _ _ (linkOf_ok f s)
  have e3 : L3.eqV (.tuple [vP (endsOf (linkOf f s)).1, vP (endsOf (linkOf f s)).2]) (.tuple [vP f, vP s]) = .ok (decide (endsOf (linkOf f s) = (f, s))) := gv_PP.eqV (a := endsOf (linkOf f s)) (b := (f, s)) trivial trivial
  have e4 : m_House_is_place (vH h) (vP f) = .ok (.bool (inP h.ls h.gs f.1 f.2)) := r_is_place h f.1 f.2
  simp -implicitDefEqProofs only [Rs.bind_ok, up2_P, Rs.ne_ok, cat_lk, ix_P0, ne_int, hlk, e1, e4, tstV_bool]
  unfold okB
  cases c1 : inP h.ls h.gs f.1 f.2
  · simp -implicitDefEqProofs only [Bool.not_false, if_true, Rs.bind_ok, Rs.ne_ok, Bool.false_and, Bool.false_eq_true, false_and, if_false]
    rfl
  · cases c2 : inLk h.ls h.gs (linkOf f s)
    · simp -implicitDefEqProofs only [Bool.not_false, Bool.not_true, if_true, Rs.bind_ok, Rs.ne_ok, Bool.false_and, Bool.true_and, Bool.false_eq_true, false_and, if_false]
      rfl
    · rw [e2, if_pos c2]
      simp -implicitDefEqProofs only [Bool.not_true, if_true, Rs.bind_ok, Rs.ne_ok, Bool.true_and, Bool.false_eq_true, if_false]
      rw [neV_of e3]
      by_cases c3 : endsOf (linkOf f s) = (f, s)
      · rw [r_is_closed]
        simp -implicitDefEqProofs only [c3, decide_true, Bool.not_true, Rs.bind_ok, Rs.ne_ok, Bool.false_eq_true, if_false, tstV_bool, true_and]
        by_cases c4 : linkOf f s ∈ h.cl
        · simp -implicitDefEqProofs only [c4, decide_true, if_true, not_true, if_false]
          rfl
        · simp -implicitDefEqProofs only [c4, decide_false, Bool.false_eq_true, if_false, not_false_iff, if_true]
          rfl
      · simp -implicitDefEqProofs only [c3, decide_false, Bool.not_false, Rs.bind_ok, Rs.ne_ok, Bool.false_eq_true, if_true, if_false, false_and]
        rfl
/-! ### the law's own between -/
theorem none_in (cl : List Lk) (hc : ∀ x ∈ cl, okL' x) : inV .none (.list (cl.map vL)) = .ok false := by
  show L3.inL .none (cl.map vL) = _
  unfold L3.inL
  rw [gv_L.pys]
  have h1 : SeqAt.shaped PyData.none = true := rfl
  have h2 := gv_L.good.list.shaped cl hc
  show (if (SeqAt.shaped PyData.none && SeqAt.shaped (.list (cl.map dL))) = true then Rs.ok ((cl.map dL).any fun z => PyData.eqv z .none) else Rs.stuck) = _
  rw [h1, h2]
  have e : ((cl.map dL).any fun z => PyData.eqv z .none) = false := by
    rw [List.any_eq_false]
    intro z hz
    obtain ⟨l, _, rfl⟩ := List.mem_map.mp hz
    simp [dL, PyData.eqv]
  rw [e]
  rfl
theorem cut_natV {α : Type} (xs : List α) (k : Nat) : cut xs none (some (k : Int)) = xs.take k := cut_nat xs k
theorem r_law_crosses (ls : List Int) (hl : ls.length ≤ 1000) : m_law_crosses (vInts ls) = .ok (vInts (crossesOf ls)) := by
  unfold m_law_crosses
  simp -implicitDefEqProofs only [lenV_list, List.length_map, Rs.bind_ok, addV_int]
  rw [rng1V_ok (by omega) (by omega)]
  have hn : ((ls.length : Int) + 1).toNat = ls.length + 1 := by omega
  simp -implicitDefEqProofs only [Rs.bind_ok, hn]
  have hc : chk (decide (((List.range (ls.length + 1)).map fun (k : Nat) => Val.int (k : Int)).length ≤ BIG)) = .ok () := by
    rw [decide_eq_true (by rw [List.length_map, List.length_range]; show ls.length + 1 ≤ 16777216; omega)]
    rfl
  rw [hc]
  simp -implicitDefEqProofs only [Rs.bind_ok]
  rw [lcM_map (fun (k : Nat) => Val.int (k : Int)) (fun k => Val.int (ls.take k).sum) _ (fun k hk => ⟨_, rfl, by
    simp -implicitDefEqProofs only [asInt_int, Rs.bind_ok, slV_list, cut_natV, ← List.map_take, sumV_ints]⟩)]
  simp -implicitDefEqProofs only [Rs.bind_ok, Rs.ne_ok]
  unfold crossesOf vInts
  rw [List.map_map]
  rfl
def upB (ls gs : List Int) (f s : Pl) : Bool := (decide (0 ≤ f.1) && decide (f.1 ≤ gs.length)) && ((decide (0 ≤ f.2) && decide (f.2 < ls.sum)) && decide (s = (f.1, f.2 + 1)))
def ovB (ls gs : List Int) (f s : Pl) : Bool := (decide (0 ≤ f.1) && decide (f.1 < gs.length)) && (decide (f.2 ∈ crossesOf ls) && decide (s = (f.1 + 1, f.2)))
def fndL (ls gs : List Int) (f s : Pl) : Option Lk := if ovB ls gs f s = true then some ("over", f.1, f.2) else if upB ls gs f s = true then some ("up", f.1, f.2) else none
def btwL (ls gs : List Int) (cl : List Lk) (p q : Pl) : Option Lk := match fndL ls gs (sort2 p q).1 (sort2 p q).2 with
  | some l => if l ∈ cl then none else some l
  | none => none
theorem okL_of (s : Str) (h : PyData.strOk s = true) (a b : Int) : okL' (s, a, b) := h
theorem in_yes {l : Lk} {cl : List Lk} (h : okL' l) (hc : ∀ x ∈ cl, okL' x) (c : l ∈ cl) : inV (vL l) (.list (cl.map vL)) = .ok true := (gv_L.inV h hc).trans (by simp only [c, decide_true])
theorem in_no {l : Lk} {cl : List Lk} (h : okL' l) (hc : ∀ x ∈ cl, okL' x) (c : l ∉ cl) : inV (vL l) (.list (cl.map vL)) = .ok false := (gv_L.inV h hc).trans (by simp only [c, decide_false])
theorem vO_if (c : Bool) (l : Lk) (o : Option Lk) : ((if c = true then Rs.ok (vL l) else Rs.ok (vO o)) : Rs Val) = .ok (vO (if c = true then some l else o)) := by
  cases c <;> rfl
theorem r_law_between (ls gs : List Int) (cl : List Lk) (hl : ls.length ≤ 1000) (hc : ∀ x ∈ cl, okL' x) (p q : Pl) : m_law_between (vInts ls) (vInts gs) (.list (cl.map vL)) (vP p) (vP q) = .ok (vO (btwL ls gs cl p q)) := by
  unfold m_law_between btwL
  rw [r_sort2, r_law_crosses ls hl]
  generalize sort2 p q = fs
  obtain ⟨f, s⟩ := fs
  have e1 : L3.eqV (vP s) (.tuple [.int f.1, .int (f.2 + 1)]) = .ok (decide (s = (f.1, f.2 + 1))) := gv_P.eqV (a := s) (b := (f.1, f.2 + 1)) trivial trivial
  have e2 : L3.eqV (vP s) (.tuple [.int (f.1 + 1), .int f.2]) = .ok (decide (s = (f.1 + 1, f.2))) := gv_P.eqV (a := s) (b := (f.1 + 1, f.2)) trivial trivial
  have e3 : inV (.int f.2) (vInts (crossesOf ls)) = .ok (decide (f.2 ∈ crossesOf ls)) := gv_int.inV trivial (fun _ _ => trivial)
  have e5 : Rs.ok (Val.tuple [.str "up", .int f.1, .int f.2]) = Rs.ok (vL ("up", f.1, f.2)) := rfl
  have e6 : Rs.ok (Val.tuple [.str "over", .int f.1, .int f.2]) = Rs.ok (vL ("over", f.1, f.2)) := rfl
  simp -implicitDefEqProofs only [Rs.bind_ok, up2_P, Rs.ne_ok, ix_P0, ix_P1, chV_int, lenV_list, List.length_map, sumV_ints, cmpI_int, addV_int, and_if, e1, e2, e3, e5, e6]
  have hu : (leI 0 f.1 && leI f.1 (gs.length : Int) && (leI 0 f.2 && ltI f.2 ls.sum && decide (s = (f.1, f.2 + 1)))) = upB ls gs f s := rfl
  have ho : (leI 0 f.1 && ltI f.1 (gs.length : Int) && (decide (f.2 ∈ crossesOf ls) && decide (s = (f.1 + 1, f.2)))) = ovB ls gs f s := rfl
  rw [hu, ho]
  unfold fndL
  cases ovB ls gs f s
  · cases upB ls gs f s
    · simp -implicitDefEqProofs only [Bool.false_eq_true, if_false, Rs.bind_ok, none_in cl hc, Rs.ne_ok]
      rfl
    · simp -implicitDefEqProofs only [Bool.false_eq_true, if_false, if_true, Rs.bind_ok, Rs.ne_ok]
      by_cases c : (("up", f.1, f.2) : Lk) ∈ cl
      · rw [in_yes (okL_of _ ok_up _ _) hc c, if_pos c]
        rfl
      · rw [in_no (okL_of _ ok_up _ _) hc c, if_neg c]
        rfl
  · cases upB ls gs f s <;>
    · simp -implicitDefEqProofs only [Bool.false_eq_true, if_false, if_true, Rs.bind_ok, Rs.ne_ok]
      by_cases c : (("over", f.1, f.2) : Lk) ∈ cl
      · rw [in_yes (okL_of _ ok_over _ _) hc c, if_pos c]
        rfl
      · rw [in_no (okL_of _ ok_over _ _) hc c, if_neg c]
        rfl
theorem take_sum_le (ls : List Int) (hp : ∀ x ∈ ls, 0 ≤ x) (k : Nat) : 0 ≤ (ls.take k).sum ∧ (ls.take k).sum ≤ ls.sum := by
  induction ls generalizing k with
  | nil => simp
  | cons x ls ih =>
    have h1 := hp x List.mem_cons_self
    cases k with
    | zero =>
      have := (ih (fun y h => hp y (List.mem_cons_of_mem _ h)) ls.length).1
      rw [List.take_length] at this
      simp
      omega
    | succ k =>
      obtain ⟨a, b⟩ := ih (fun y h => hp y (List.mem_cons_of_mem _ h)) k
      simp
      omega
theorem cross_in (ls : List Int) (hp : ∀ x ∈ ls, 0 ≤ x) {b : Int} (h : b ∈ crossesOf ls) : 0 ≤ b ∧ b ≤ ls.sum := by
  unfold crossesOf at h
  obtain ⟨k, _, rfl⟩ := List.mem_map.mp h
  exact take_sum_le ls hp k
theorem up_over : ("up" : Str) ≠ "over" := by decide
theorem btw_eq (ls gs : List Int) (cl cl' : List Lk) (hp : ∀ x ∈ ls, 0 ≤ x) (hm : ∀ l, l ∈ cl' ↔ l ∈ cl) (p q : Pl) : btw ⟨ls, gs, cl'⟩ p q = btwL ls gs cl p q := by
  unfold btw btwL
  generalize sort2 p q = fs
  obtain ⟨⟨a, b⟩, ⟨c, d⟩⟩ := fs
  unfold fndL
  simp only [hm]
  have hx : ∀ {x : Int}, x ∈ crossesOf ls → 0 ≤ x ∧ x ≤ ls.sum := cross_in ls hp
  by_cases e : a = c
  · subst e
    have ho : ovB ls gs (a, b) (a, d) = false := by
      unfold ovB
      simp only [Prod.mk.injEq]
      have z : ¬ (a = a + 1 ∧ d = b) := by omega
      simp [z]
    have hl : linkOf (a, b) (a, d) = ((("up" : Str), a, b) : Lk) := by simp [linkOf]
    have hk : okB ⟨ls, gs, cl'⟩ (a, b) (a, d) = upB ls gs (a, b) (a, d) := by
      unfold okB
      rw [hl]
      unfold inLk upB inP endsOf aislesOf topOf
      simp only [if_true, Prod.mk.injEq, true_and]
      rw [Bool.eq_iff_iff]
      simp only [Bool.and_eq_true, decide_eq_true_eq]
      omega
    rw [ho, hl, hk]
    cases upB ls gs (a, b) (a, d)
    · simp
    · simp only [Bool.false_eq_true, if_false, if_true, true_and]
      by_cases m : (("up", a, b) : Lk) ∈ cl
      · rw [if_neg (fun z => z m), if_pos m]
      · rw [if_pos m, if_neg m]
  · have hu : upB ls gs (a, b) (c, d) = false := by
      unfold upB
      simp only [Prod.mk.injEq]
      have z : ¬ (c = a ∧ d = b + 1) := by omega
      simp [z]
    have hl : linkOf (a, b) (c, d) = ((("over" : Str), a, b) : Lk) := by simp [linkOf, e]
    have hk : okB ⟨ls, gs, cl'⟩ (a, b) (c, d) = ovB ls gs (a, b) (c, d) := by
      unfold okB
      rw [hl]
      unfold inLk ovB inC inP endsOf aislesOf topOf
      simp only [if_neg up_over.symm, Prod.mk.injEq, true_and, decide_true]
      rw [Bool.eq_iff_iff]
      simp only [Bool.and_eq_true, decide_eq_true_eq]
      constructor
      · rintro ⟨_, ⟨_, ⟨_, h2⟩, h3⟩, h4⟩
        exact ⟨⟨by omega, by omega⟩, h2, by omega⟩
      · rintro ⟨⟨h1, h2⟩, h3, h4⟩
        have := hx h3
        exact ⟨⟨⟨h1, by omega⟩, this⟩, ⟨trivial, ⟨⟨⟨h1, by omega⟩, this⟩, h3⟩, by omega⟩, by omega⟩
    rw [hu, hl, hk]
    cases ovB ls gs (a, b) (c, d)
    · simp
    · simp only [Bool.false_eq_true, if_false, if_true, true_and]
      by_cases m : (("over", a, b) : Lk) ∈ cl
      · rw [if_neg (fun z => z m), if_pos m]
      · rw [if_pos m, if_neg m]
/-! ### beside -/
theorem ix_gap {gs : List Int} {a : Int} (h0 : 0 ≤ a) (h1 : a < gs.length) : ixV (vInts gs) (.int a) = .ok (.int (gs.getD a.toNat 0)) := by
  obtain ⟨n, rfl⟩ : ∃ n : Nat, a = n := ⟨a.toNat, by omega⟩
  have hn : n < gs.length := by omega
  refine ixL_nat ?_
  rw [List.getElem?_map, List.getElem?_eq_getElem hn]
  simp [List.getD, hn]
theorem btw_some {h : Hs} {p q : Pl} {l : Lk} (e : btw h p q = some l) : inLk h.ls h.gs l = true ∧ PyData.strOk l.1 = true := by
  unfold btw at e
  split at e
  · rename_i c
    cases e
    have c1 := c.1
    unfold okB at c1
    simp only [Bool.and_eq_true] at c1
    exact ⟨c1.2.1, linkOf_ok _ _⟩
  · cases e
theorem inLk_gap {ls gs : List Int} {l : Lk} (h : inLk ls gs l = true) (hu : l.1 ≠ ("up" : Str)) : 0 ≤ l.2.1 ∧ l.2.1 < gs.length := by
  unfold inLk inC inP aislesOf at h
  rw [if_neg hu] at h
  simp only [Bool.and_eq_true, decide_eq_true_eq] at h
  omega
theorem r_length_of (h : Hs) (hl : h.ls.length ≤ 1000) (l : Lk) (hk : inLk h.ls h.gs l = true) (ok : PyData.strOk l.1 = true) : m_House_length_of (vH h) (vL l) = .ok (.int (lenL h.gs l)) := by
  obtain ⟨s, a, b⟩ := l
  unfold m_House_length_of
  have e1 : m_House_check_link (vH h) (vL (s, a, b)) = .ok .none := by
    have := r_check_link h hl s a b ok
    rw [if_pos hk] at this
    exact this
  have e2 : ixV (vL (s, a, b)) (.int 0) = .ok (.str s) := rfl
  have e3 : ixV (vL (s, a, b)) (.int 1) = .ok (.int a) := rfl
  rw [ins_H h "check_link" (by decide), fld_gs]
  simp -implicitDefEqProofs only [Rs.bind_ok, e1, e2, e3, eq_up ok, Rs.ne_ok]
  unfold lenL
  by_cases hu : s = ("up" : Str)
  · simp only [hu, decide_true, if_true]
  · simp only [hu, decide_false, if_false, Bool.false_eq_true]
    have z : ixV (vInts h.gs) (.int a) = .ok (.int (h.gs.getD a.toNat 0)) := ix_gap (inLk_gap hk hu).1 (inLk_gap hk hu).2
    rw [z]
    rfl
def nbr (p : Pl) : List Pl := [(p.1 - 1, p.2), (p.1, p.2 - 1), (p.1, p.2 + 1), (p.1 + 1, p.2)]
def rowsF (g : Pl → Option Lk) (gs : List Int) (ps : List Pl) : List Val := ps.filterMap fun o => (g o).map fun l => .tuple [vP o, .int (lenL gs l)]
theorem rowsF_snoc (g : Pl → Option Lk) (gs : List Int) (ps : List Pl) (o : Pl) : rowsF g gs (ps ++ [o]) = rowsF g gs ps ++ (match g o with | some l => [.tuple [vP o, .int (lenL gs l)]] | none => []) := by
  unfold rowsF
  rw [List.filterMap_append]
  congr 1
  cases h : g o <;> simp [List.filterMap, h]
theorem rowsF_len (g : Pl → Option Lk) (gs : List Int) (ps : List Pl) : (rowsF g gs ps).length ≤ ps.length := List.length_filterMap_le ..
theorem isNone_vO (o : Option Lk) : isNone (vO o) = o.isNone := by cases o <;> rfl
theorem app_ok {xs : List Val} {v : Val} (h : xs.length < 100) : appV (.list xs) v = .ok (.list (xs ++ [v])) := appV_list (Nat.lt_trans h (by decide))
theorem pre_len {α : Type} {xs ys : List α} {x : α} (h : ∃ zs, xs = ys ++ x :: zs) : ys.length < xs.length := by
  obtain ⟨zs, rfl⟩ := h
  simp
theorem r_beside (h : Hs) (hl : h.ls.length ≤ 1000) (p : Pl) : m_House_beside (vH h) (vP p) = if inP h.ls h.gs p.1 p.2 = true then .ok (.list (rowsF (btw h p) h.gs (nbr p))) else .err ⟨"InvalidPlace", some ("place", vP p)⟩ := by
  unfold m_House_beside
  have e1 : m_House_is_place (vH h) (vP p) = .ok (.bool (inP h.ls h.gs p.1 p.2)) := r_is_place h p.1 p.2
  have e2 : (up2 Rs.ok Rs.ok (vP p) : Rs (Val × Val)) = .ok (.int p.1, .int p.2) := rfl
  rw [ins_H h "is_place" (by decide), ins_H h "link_between" (by decide), ins_H h "length_of" (by decide)]
  simp -implicitDefEqProofs only [Rs.bind_ok, e1, tstV_bool, Rs.ne_ok, e2]
  cases c : inP h.ls h.gs p.1 p.2
  · simp -implicitDefEqProofs only [Bool.not_false, if_true, Bool.false_eq_true, if_false]
  · simp -implicitDefEqProofs only [Bool.not_true, if_true, Bool.false_eq_true, if_false, Rs.bind_ok, Rs.ne_ok, subV_int, addV_int]
    have ew : walkV (.list [.tuple [.int (p.1 - 1), .int p.2], .tuple [.int p.1, .int (p.2 - 1)], .tuple [.int p.1, .int (p.2 + 1)], .tuple [.int (p.1 + 1), .int p.2]]) = .ok ((nbr p).map vP) := rfl
    rw [ew]
    simp -implicitDefEqProofs only [Rs.bind_ok, Rs.ne_ok]
    refine (bind_of (forL_mapE (σ := Val) vP (nbr p) (fun ys => Val.list (rowsF (btw h p) h.gs ys)) rfl ?_)).trans ?_
    · intro ys o hy
      have hlen := pre_len hy
      have hr := rowsF_len (btw h p) h.gs ys
      rw [r_link_between h hl]
      simp -implicitDefEqProofs only [Rs.bind_ok, Rs.ne_ok, isNone_vO]
      rw [rowsF_snoc]
      cases e : btw h p o with
      | none =>
        simp -implicitDefEqProofs only [Option.isNone_none, Bool.not_true, Bool.false_eq_true, if_false, List.append_nil]
      | some l =>
        obtain ⟨hk, ok⟩ := btw_some e
        simp -implicitDefEqProofs only [Option.isNone_some, Bool.not_false, if_true]
        rw [show vO (some l) = vL l from rfl, r_length_of h hl l hk ok]
        simp -implicitDefEqProofs only [Rs.bind_ok, Rs.ne_ok]
        rw [app_ok (by have : (nbr p).length = 4 := rfl; omega)]
        rfl
    · rfl
theorem fndL_gap {ls gs : List Int} {f s : Pl} {l : Lk} (h : fndL ls gs f s = some l) : PyData.strOk l.1 = true ∧ (l.1 ≠ ("up" : Str) → 0 ≤ l.2.1 ∧ l.2.1 < gs.length) := by
  unfold fndL at h
  split at h
  · rename_i c
    cases h
    unfold ovB at c
    simp only [Bool.and_eq_true, decide_eq_true_eq] at c
    exact ⟨ok_over, fun _ => c.1⟩
  · split at h
    · cases h
      exact ⟨ok_up, fun z => absurd rfl z⟩
    · cases h
theorem btwL_gap {ls gs : List Int} {cl : List Lk} {p q : Pl} {l : Lk} (h : btwL ls gs cl p q = some l) : PyData.strOk l.1 = true ∧ (l.1 ≠ ("up" : Str) → 0 ≤ l.2.1 ∧ l.2.1 < gs.length) := by
  unfold btwL at h
  split at h
  · rename_i l2 e
    split at h
    · cases h
    · cases h
      exact fndL_gap e
  · cases h
theorem r_law_beside (ls gs : List Int) (cl : List Lk) (hl : ls.length ≤ 1000) (hc : ∀ x ∈ cl, okL' x) (p : Pl) : m_law_beside (vInts ls) (vInts gs) (.list (cl.map vL)) (vP p) = .ok (.list (rowsF (btwL ls gs cl p) gs (nbr p))) := by
  unfold m_law_beside
  have e2 : (up2 Rs.ok Rs.ok (vP p) : Rs (Val × Val)) = .ok (.int p.1, .int p.2) := rfl
  simp -implicitDefEqProofs only [Rs.bind_ok, Rs.ne_ok, e2, subV_int, addV_int]
  have ew : walkV (.list [.tuple [.int (p.1 - 1), .int p.2], .tuple [.int p.1, .int (p.2 - 1)], .tuple [.int p.1, .int (p.2 + 1)], .tuple [.int (p.1 + 1), .int p.2]]) = .ok ((nbr p).map vP) := rfl
  rw [ew]
  simp -implicitDefEqProofs only [Rs.bind_ok, Rs.ne_ok]
  refine (bind_of (forL_mapE (σ := Val) vP (nbr p) (fun ys => Val.list (rowsF (btwL ls gs cl p) gs ys)) rfl ?_)).trans ?_
  · intro ys o hy
    have hlen := pre_len hy
    have hr := rowsF_len (btwL ls gs cl p) gs ys
    rw [r_law_between ls gs cl hl hc]
    simp -implicitDefEqProofs only [Rs.bind_ok, Rs.ne_ok, isNone_vO]
    rw [rowsF_snoc]
    cases e : btwL ls gs cl p o with
    | none =>
      simp -implicitDefEqProofs only [Option.isNone_none, Bool.not_true, Bool.false_eq_true, if_false, List.append_nil]
    | some l =>
      obtain ⟨ok, hg⟩ := btwL_gap e
      have e3 : ixV (vL l) (.int 0) = .ok (.str l.1) := rfl
      have e4 : ixV (vL l) (.int 1) = .ok (.int l.2.1) := rfl
      simp -implicitDefEqProofs only [Option.isNone_some, Bool.not_false, if_true]
      rw [show vO (some l) = vL l from rfl]
      simp -implicitDefEqProofs only [Rs.bind_ok, Rs.ne_ok, e3, e4, eq_up ok]
      have ex : ((if decide (l.1 = ("up" : Str)) = true then Rs.ok (Val.int 1) else ixV (vInts gs) (.int l.2.1)) : Rs Val) = .ok (.int (lenL gs l)) := by
        unfold lenL
        by_cases hu : l.1 = ("up" : Str)
        · simp only [hu, decide_true, if_true]
        · simp only [hu, decide_false, if_false, Bool.false_eq_true]
          exact ix_gap (hg hu).1 (hg hu).2
      rw [ex]
      simp -implicitDefEqProofs only [Rs.bind_ok, Rs.ne_ok]
      rw [app_ok (by have : (nbr p).length = 4 := rfl; omega)]
      rfl
  · rfl
/-! ### numbers -/
def nth (ns : List Int) (i : Int) : Int := ns.getD i.toNat 0
structure Nb (ns : List Int) (many : Nat) : Prop where
  len : ns.length = many
  mem : ∀ x ∈ ns, 0 ≤ x ∧ x < 1009
theorem nb_of (ns : List Int) (many : Nat) : Nb (numsOf ns many) many := ⟨numsOf_len ns many, numsOf_mem ns many⟩
theorem Nb.b {ns : List Int} {many : Nat} (h : Nb ns many) (i : Int) : 0 ≤ nth ns i ∧ nth ns i < 1009 := by
  unfold nth
  rw [List.getD_eq_getElem?_getD]
  cases e : ns[i.toNat]? with
  | none => exact ⟨Int.le_refl _, by decide⟩
  | some x => exact h.mem x (List.mem_of_getElem? e)
theorem Nb.ix {ns : List Int} {many : Nat} (h : Nb ns many) {i : Int} (h0 : 0 ≤ i) (h1 : i < many) : ixV (vInts ns) (.int i) = .ok (.int (nth ns i)) := ix_gap h0 (by rw [h.len]; exact h1)
/-! ### the drawn parts of a house -/
def mostOf (m : Int) : Int := if m % 4 = 0 then 4 else if m % 4 = 1 then 9 else if m % 4 = 2 then 12 else 40
theorem mostOf_b (m : Int) : 4 ≤ mostOf m ∧ mostOf m ≤ 40 := by
  unfold mostOf
  split
  · omega
  · split
    · omega
    · split <;> omega
section
variable (ns : List Int) (at_ : Int)
def lsOf : List Int := (List.range (1 + nth ns at_ / 4 % 2).toNat).map fun k => 1 + nth ns (at_ + 1 + (k : Nat)) % mostOf (nth ns at_)
def gsOf : List Int := (List.range (nth ns at_ / 8 % 5).toNat).map fun k => 1 + nth ns (at_ + 3 + (k : Nat)) % mostOf (nth ns at_)
def aisleOf (k : Nat) : Int := nth ns (at_ + 8 + 2 * (k : Nat)) % ((gsOf ns at_).length + 1)
def spotOf (k : Nat) : Int := nth ns (at_ + 9 + 2 * (k : Nat))
def overB (k : Nat) : Bool := decide (spotOf ns at_ k % 3 = 0) && decide (aisleOf ns at_ k < (gsOf ns at_).length)
def lkOf (k : Nat) : Lk := if overB ns at_ k = true then ("over", aisleOf ns at_ k, ((lsOf ns at_).take (spotOf ns at_ k / 3 % ((lsOf ns at_).length + 1)).toNat).sum) else ("up", aisleOf ns at_ k, spotOf ns at_ k / 3 % (lsOf ns at_).sum)
def clOf : Nat → List Lk
  | 0 => []
  | k + 1 => if lkOf ns at_ k ∈ clOf k then clOf k else clOf k ++ [lkOf ns at_ k]
def closedOf : List Lk := clOf ns at_ (max 0 (nth ns (at_ + 7) % 10 - 3)).toNat
theorem lsOf_len : 1 ≤ (lsOf ns at_).length ∧ (lsOf ns at_).length ≤ 2 := by
  unfold lsOf
  rw [List.length_map, List.length_range]
  omega
theorem gsOf_len : (gsOf ns at_).length ≤ 4 := by
  unfold gsOf
  rw [List.length_map, List.length_range]
  omega
theorem lsOf_mem : ∀ x ∈ lsOf ns at_, 1 ≤ x ∧ x ≤ 40 := fun x h => by
  obtain ⟨k, _, rfl⟩ := List.mem_map.mp h
  have := mostOf_b (nth ns at_)
  have h1 := Int.emod_nonneg (nth ns (at_ + 1 + (k : Nat))) (show mostOf (nth ns at_) ≠ 0 by omega)
  have h2 := Int.emod_lt_of_pos (nth ns (at_ + 1 + (k : Nat))) (show 0 < mostOf (nth ns at_) by omega)
  omega
theorem gsOf_mem : ∀ x ∈ gsOf ns at_, 1 ≤ x ∧ x ≤ 40 := fun x h => by
  obtain ⟨k, _, rfl⟩ := List.mem_map.mp h
  have := mostOf_b (nth ns at_)
  have h1 := Int.emod_nonneg (nth ns (at_ + 3 + (k : Nat))) (show mostOf (nth ns at_) ≠ 0 by omega)
  have h2 := Int.emod_lt_of_pos (nth ns (at_ + 3 + (k : Nat))) (show 0 < mostOf (nth ns at_) by omega)
  omega
theorem sum_pos : ∀ {xs : List Int}, (∀ x ∈ xs, 1 ≤ x ∧ x ≤ 40) → (xs.length : Int) ≤ xs.sum ∧ xs.sum ≤ 40 * xs.length
  | [], _ => by simp
  | x :: xs, h => by
    have h1 := h x List.mem_cons_self
    have h2 := sum_pos fun y hy => h y (List.mem_cons_of_mem _ hy)
    rw [List.sum_cons, List.length_cons]
    omega
theorem lsOf_sum : 1 ≤ (lsOf ns at_).sum ∧ (lsOf ns at_).sum ≤ 80 := by
  have h1 := sum_pos (lsOf_mem ns at_)
  have h2 := lsOf_len ns at_
  omega
theorem lkOf_ok (k : Nat) : okL' (lkOf ns at_ k) := by
  unfold lkOf
  split
  · exact (by decide +kernel : PyData.strOk "over" = true)
  · exact (by decide +kernel : PyData.strOk "up" = true)
theorem clOf_ok : ∀ k, (∀ l ∈ clOf ns at_ k, okL' l) ∧ (clOf ns at_ k).length ≤ k ∧ (clOf ns at_ k).Nodup
  | 0 => ⟨fun _ h => (nomatch h), Nat.le_refl _, List.nodup_nil⟩
  | k + 1 => by
    obtain ⟨h1, h2, h3⟩ := clOf_ok k
    unfold clOf
    split
    · exact ⟨h1, by omega, h3⟩
    · rename_i hn
      refine ⟨fun l hl => ?_, by rw [List.length_append, List.length_singleton]; omega, ?_⟩
      · rcases List.mem_append.mp hl with hl | hl
        · exact h1 l hl
        · rw [List.mem_singleton] at hl
          subst hl
          exact lkOf_ok ns at_ k
      · rw [List.nodup_append]
        refine ⟨h3, by simp, fun a ha b hb => ?_⟩
        rw [List.mem_singleton] at hb
        subst hb
        intro e
        subst e
        exact hn ha
theorem clOf_mem : ∀ k, ∀ l ∈ clOf ns at_ k, ∃ j, l = lkOf ns at_ j
  | 0, _, h => nomatch h
  | k + 1, l, h => by
    unfold clOf at h
    split at h
    · exact clOf_mem k l h
    · rcases List.mem_append.mp h with h | h
      · exact clOf_mem k l h
      · rw [List.mem_singleton] at h
        exact ⟨k, h⟩
end
theorem arB_ok {ns : List Int} {lo hi : Int} (h1 : lo ≤ (ns.length : Int)) (h2 : (ns.length : Int) ≤ hi) (h : ∀ x ∈ ns, 1 ≤ x ∧ x ≤ 40) : arB ns lo hi = true := by
  unfold arB
  rw [decide_eq_true h1, decide_eq_true h2]
  simp only [Bool.true_and, Bool.and_true, List.all_map, List.all_eq_true, Function.comp, id, Bool.and_eq_true, decide_eq_true_eq]
  exact h
theorem sum_take : ∀ {xs : List Int}, (∀ x ∈ xs, 1 ≤ x ∧ x ≤ 40) → ∀ k, 0 ≤ (xs.take k).sum ∧ (xs.take k).sum ≤ xs.sum
  | [], _, k => by simp
  | x :: xs, h, 0 => by
    have := sum_pos h
    simp only [List.take_zero, List.sum_nil]
    have h2 : (0 : Int) ≤ ((x :: xs).length : Int) := by omega
    omega
  | x :: xs, h, k + 1 => by
    have h1 := h x List.mem_cons_self
    have h2 := sum_take (fun y hy => h y (List.mem_cons_of_mem _ hy)) k
    rw [List.take_succ_cons, List.sum_cons, List.sum_cons]
    omega
theorem crosses_take (ls : List Int) (k : Nat) (h : k ≤ ls.length) : (ls.take k).sum ∈ crossesOf ls := List.mem_map.mpr ⟨k, List.mem_range.mpr (by omega), rfl⟩
section
variable {ns : List Int} {many : Nat} (nb : Nb ns many) (at_ : Int)
include nb
theorem aisleOf_b (k : Nat) : 0 ≤ aisleOf ns at_ k ∧ aisleOf ns at_ k < (gsOf ns at_).length + 1 := by
  unfold aisleOf
  exact ⟨Int.emod_nonneg _ (by omega), Int.emod_lt_of_pos _ (by omega)⟩
theorem lkOf_in (k : Nat) : inLk (lsOf ns at_) (gsOf ns at_) (lkOf ns at_ k) = true := by
  have ha := aisleOf_b nb at_ k
  have hs := lsOf_sum ns at_
  have hsp : 0 ≤ spotOf ns at_ k := (nb.b _).1
  unfold lkOf
  split
  · rename_i ho
    unfold overB at ho
    rw [Bool.and_eq_true, decide_eq_true_eq, decide_eq_true_eq] at ho
    have hq1 := Int.emod_nonneg (spotOf ns at_ k / 3) (show ((lsOf ns at_).length : Int) + 1 ≠ 0 by omega)
    have hq2 := Int.emod_lt_of_pos (spotOf ns at_ k / 3) (show (0 : Int) < ((lsOf ns at_).length : Int) + 1 by omega)
    have ht := sum_take (lsOf_mem ns at_) (spotOf ns at_ k / 3 % ((lsOf ns at_).length + 1)).toNat
    have hc := crosses_take (lsOf ns at_) (spotOf ns at_ k / 3 % ((lsOf ns at_).length + 1)).toNat (by omega)
    have n1 : ¬ (("over" : Str) = ("up" : Str)) := by decide +kernel
    unfold inLk inC inP topOf aislesOf
    simp only [if_neg n1, hc]
    have a1 : aisleOf ns at_ k < (gsOf ns at_).length + 1 - 1 := by omega
    simp [ha.1, ha.2, ht.1, ht.2]
    omega
  · have h1 := Int.emod_nonneg (spotOf ns at_ k / 3) (show (lsOf ns at_).sum ≠ 0 by omega)
    have h2 := Int.emod_lt_of_pos (spotOf ns at_ k / 3) (show 0 < (lsOf ns at_).sum by omega)
    unfold inLk inP topOf aislesOf
    simp only [if_true]
    simp [ha.1, ha.2, h1, h2]
    omega
theorem parts_good : goodH (lsOf ns at_) (gsOf ns at_) (closedOf ns at_) := by
  have h1 := lsOf_len ns at_
  have h2 := gsOf_len ns at_
  have hm : (max 0 (nth ns (at_ + 7) % 10 - 3)).toNat ≤ 6 := by omega
  obtain ⟨c1, c2, c3⟩ := clOf_ok ns at_ (max 0 (nth ns (at_ + 7) % 10 - 3)).toNat
  refine ⟨arB_ok (by omega) (by omega) (lsOf_mem ns at_), arB_ok (by omega) (by omega) (gsOf_mem ns at_), by unfold closedOf; omega, c3, fun l hl => ⟨?_, c1 l hl⟩⟩
  obtain ⟨j, rfl⟩ := clOf_mem ns at_ _ l hl
  exact lkOf_in nb at_ j
end
theorem r_most (m : Int) : ixV (.list [.int 4, .int 9, .int 12, .int 40]) (.int (m % 4)) = .ok (.int (mostOf m)) := by
  have h : m % 4 = 0 ∨ m % 4 = 1 ∨ m % 4 = 2 ∨ m % 4 = 3 := by omega
  unfold mostOf
  rcases h with h | h | h | h <;> rw [h] <;> rfl
theorem chk_rng (n : Nat) (h : n ≤ 10000) : chk (decide (((List.range n).map fun (k : Nat) => Val.int (k : Int)).length ≤ BIG)) = .ok () := by
  rw [decide_eq_true (by rw [List.length_map, List.length_range]; show n ≤ 16777216; omega)]
  rfl
theorem if_lk (c : Bool) (a b : Lk) : ((if c = true then Rs.ok (vL a) else Rs.ok (vL b)) : Rs Val) = .ok (vL (if c = true then a else b)) := by cases c <;> rfl
theorem r_parts {ns : List Int} {many : Nat} (nb : Nb ns many) {at_ : Int} (ha : 0 ≤ at_ ∧ at_ + 24 ≤ many) : m_law_parts (vInts ns) (.int at_) = .ok (.tuple [vInts (lsOf ns at_), vInts (gsOf ns at_), .list ((closedOf ns at_).map vL)]) := by
  have hb := nb.b at_
  have hm := mostOf_b (nth ns at_)
  have hls := lsOf_len ns at_
  have hgs := gsOf_len ns at_
  have hsum := lsOf_sum ns at_
  unfold m_law_parts
  have e0 := nb.ix (i := at_) (by omega) (by omega)
  have e7 := nb.ix (i := at_ + 7) (by omega) (by omega)
  simp -implicitDefEqProofs only [e0, e7, Rs.bind_ok, intV_int, modV_int (show (0 : Int) < 4 by decide), r_most, Rs.ne_ok, fdivV_int (show (0 : Int) < 4 by decide) (by decide), fdivV_int (show (0 : Int) < 8 by decide) (by decide), modV_int (show (0 : Int) < 2 by decide), modV_int (show (0 : Int) < 5 by decide), modV_int (show (0 : Int) < 10 by decide), addV_int, subV_int]
  rw [rng1V_ok (n := 1 + nth ns at_ / 4 % 2) (by omega) (by omega), rng1V_ok (n := nth ns at_ / 8 % 5) (by omega) (by omega)]
  simp -implicitDefEqProofs only [Rs.bind_ok, chk_rng _ (show (1 + nth ns at_ / 4 % 2).toNat ≤ 10000 by omega), chk_rng _ (show (nth ns at_ / 8 % 5).toNat ≤ 10000 by omega)]
  have el := lcM_map (up := Rs.ok) (f := fun y109 : Val => ((addV (.int (at_ + 1)) y109) >>= fun x112 => ((ixV (vInts ns) x112) >>= fun x114 => ((intV x114) >>= fun x116 => ((modV x116 (.int (mostOf (nth ns at_)))) >>= fun x118 => (addV (.int 1) x118)))))) (fun (k : Nat) => Val.int (k : Int)) (fun k => Val.int (1 + nth ns (at_ + 1 + (k : Nat)) % mostOf (nth ns at_))) (List.range (1 + nth ns at_ / 4 % 2).toNat) (fun k hk => ⟨_, rfl, by
    rw [List.mem_range] at hk
    simp -implicitDefEqProofs only [addV_int, Rs.bind_ok, nb.ix (i := at_ + 1 + (k : Int)) (by omega) (by omega), intV_int, modV_int (show 0 < mostOf (nth ns at_) by omega)]⟩)
  have eg := lcM_map (up := Rs.ok) (f := fun y109 : Val => ((addV (.int (at_ + 3)) y109) >>= fun x112 => ((ixV (vInts ns) x112) >>= fun x114 => ((intV x114) >>= fun x116 => ((modV x116 (.int (mostOf (nth ns at_)))) >>= fun x118 => (addV (.int 1) x118)))))) (fun (k : Nat) => Val.int (k : Int)) (fun k => Val.int (1 + nth ns (at_ + 3 + (k : Nat)) % mostOf (nth ns at_))) (List.range (nth ns at_ / 8 % 5).toNat) (fun k hk => ⟨_, rfl, by
    rw [List.mem_range] at hk
    simp -implicitDefEqProofs only [addV_int, Rs.bind_ok, nb.ix (i := at_ + 3 + (k : Int)) (by omega) (by omega), intV_int, modV_int (show 0 < mostOf (nth ns at_) by omega)]⟩)
  rw [el, eg]
  have fl : (List.range (1 + nth ns at_ / 4 % 2).toNat).map (fun k => Val.int (1 + nth ns (at_ + 1 + (k : Nat)) % mostOf (nth ns at_))) = (lsOf ns at_).map .int := by
    unfold lsOf
    rw [List.map_map]
    rfl
  have fg : (List.range (nth ns at_ / 8 % 5).toNat).map (fun k => Val.int (1 + nth ns (at_ + 3 + (k : Nat)) % mostOf (nth ns at_))) = (gsOf ns at_).map .int := by
    unfold gsOf
    rw [List.map_map]
    rfl
  rw [fl, fg]
  have hmx : maxV (.int 0) (.int (nth ns (at_ + 7) % 10 - 3)) = .ok (.int (max 0 (nth ns (at_ + 7) % 10 - 3))) := by first | rfl | (unfold maxV; rfl)
  simp -implicitDefEqProofs only [Rs.bind_ok, Rs.ne_ok, hmx]
  rw [rng1V_ok (n := max 0 (nth ns (at_ + 7) % 10 - 3)) (by omega) (by omega)]
  simp -implicitDefEqProofs only [Rs.bind_ok, Rs.ne_ok]
  refine (bind_of (forL_rngE (σ := Val) (max 0 (nth ns (at_ + 7) % 10 - 3)).toNat (fun i => Val.list ((clOf ns at_ i).map vL)) rfl ?_)).trans ?_
  · intro k hk
    have hk6 : k < 6 := by omega
    obtain ⟨c1, c2, c3⟩ := clOf_ok ns at_ k
    have hsp := nb.b (at_ + 9 + 2 * (k : Int))
    simp -implicitDefEqProofs only [addV_int, mulV_intL (i := 2) (by decide) (by decide), Rs.bind_ok, nb.ix (i := at_ + 8 + 2 * (k : Int)) (by omega) (by omega), nb.ix (i := at_ + 9 + 2 * (k : Int)) (by omega) (by omega), intV_int, lenV_list, List.length_map, Rs.ne_ok, modV_int (show (0 : Int) < (gsOf ns at_).length + 1 by omega), modV_int (show (0 : Int) < (lsOf ns at_).length + 1 by omega), modV_int (show (0 : Int) < (lsOf ns at_).sum by omega), modV_int (show (0 : Int) < 3 by decide), fdivV_int (show (0 : Int) < 3 by decide) (by decide), sumV_ints, cmpI_int]
    have eq0 : L3.eqV (.int (nth ns (at_ + 9 + 2 * (k : Int)) % 3)) (.int 0) = .ok (decide (spotOf ns at_ k % 3 = 0)) := gv_int.eqV trivial trivial
    have hz0 : 0 ≤ nth ns (at_ + 9 + 2 * (k : Int)) / 3 % (((lsOf ns at_).length : Int) + 1) := Int.emod_nonneg _ (by omega)
    have es : slV (.list ((lsOf ns at_).map .int)) none (some (nth ns (at_ + 9 + 2 * (k : Int)) / 3 % (((lsOf ns at_).length : Int) + 1))) = .ok (.list (((lsOf ns at_).take (nth ns (at_ + 9 + 2 * (k : Int)) / 3 % (((lsOf ns at_).length : Int) + 1)).toNat).map .int)) := by
      have hz := Int.toNat_of_nonneg hz0
      rw [← hz, slV_list, cut_nat, ← List.map_take, Int.toNat_natCast]
    have ho : (decide (spotOf ns at_ k % 3 = 0) && ltI (nth ns (at_ + 8 + 2 * (k : Int)) % (((gsOf ns at_).length : Int) + 1)) ((gsOf ns at_).length : Int)) = overB ns at_ k := rfl
    have hif : ((if overB ns at_ k = true then Rs.ok (Val.tuple [.str "over", .int (nth ns (at_ + 8 + 2 * (k : Int)) % (((gsOf ns at_).length : Int) + 1)), .int ((lsOf ns at_).take (nth ns (at_ + 9 + 2 * (k : Int)) / 3 % (((lsOf ns at_).length : Int) + 1)).toNat).sum]) else Rs.ok (Val.tuple [.str "up", .int (nth ns (at_ + 8 + 2 * (k : Int)) % (((gsOf ns at_).length : Int) + 1)), .int (nth ns (at_ + 9 + 2 * (k : Int)) / 3 % (lsOf ns at_).sum)])) : Rs Val) = .ok (vL (lkOf ns at_ k)) := by
      unfold lkOf
      cases overB ns at_ k <;> rfl
    simp -implicitDefEqProofs only [eq0, Rs.bind_ok, and_if, Rs.ne_ok, ho, asInt_int, es, sumV_ints, hif]
    have hcl : clOf ns at_ (k + 1) = if lkOf ns at_ k ∈ clOf ns at_ k then clOf ns at_ k else clOf ns at_ k ++ [lkOf ns at_ k] := rfl
    unfold ninV
    rw [hcl]
    by_cases c : lkOf ns at_ k ∈ clOf ns at_ k
    · rw [in_yes (lkOf_ok ns at_ k) c1 c, if_pos c]
      rfl
    · rw [in_no (lkOf_ok ns at_ k) c1 c, if_neg c, app_ok (by rw [List.length_map]; omega), List.map_append]
      rfl
  · rfl
/-! ### law k03 -/
theorem lsOf_pos (ns : List Int) (at_ : Int) : ∀ x ∈ lsOf ns at_, 0 ≤ x := fun x h => by have := lsOf_mem ns at_ x h; omega
theorem eqO (o : Option Lk) (h : ∀ l, o = some l → okL' l) : L3.eqV (vO o) (vO o) = .ok true := by
  cases o with
  | none => rfl
  | some l => exact (gv_L.eqV (h l rfl) (h l rfl)).trans (by simp)
theorem neO {o : Option Lk} (h : ∀ l, o = some l → okL' l) : neV (vO o) (vO o) = .ok false := neV_of (eqO o h)
def rowsP (g : Pl → Option Lk) (gs : List Int) (ps : List Pl) : List (Pl × Int) := ps.filterMap fun o => (g o).map fun l => (o, lenL gs l)
theorem rowsF_eq (g : Pl → Option Lk) (gs : List Int) (ps : List Pl) : rowsF g gs ps = (rowsP g gs ps).map fun q => .tuple [vP q.1, .int q.2] := by
  unfold rowsF rowsP
  rw [List.map_filterMap]
  congr 1
  funext o
  cases g o <;> rfl
theorem ne_rows (g : Pl → Option Lk) (gs : List Int) (ps : List Pl) : neV (.list (rowsF g gs ps)) (.list (rowsF g gs ps)) = .ok false := by
  rw [rowsF_eq]
  have e := (gv_P.pair gv_int).list.eqV (a := rowsP g gs ps) (b := rowsP g gs ps) (fun _ _ => ⟨trivial, trivial⟩) (fun _ _ => ⟨trivial, trivial⟩)
  exact neV_of (b := true) (e.trans (by simp))
theorem r_refused (h : Hs) (hl : h.ls.length ≤ 1000) (p : Pl) (hn : inP h.ls h.gs p.1 p.2 = false) : m_law_refused (vH h) (vP p) = .ok (.bool true) := by
  unfold m_law_refused
  rw [ins_H h "beside" (by decide), r_beside h hl, if_neg (by rw [hn]; exact Bool.false_ne_true)]
  have e : L3.eqV (vP p) (vP p) = .ok true := (gv_P.eqV trivial trivial).trans (by simp)
  show ((xfld "place" ⟨"InvalidPlace", some ("place", vP p)⟩ >>= fun x480 => (eqV x480 (vP p)) >>= fun b => Rs.ok (Val.bool b)).ne : Rs Val) = _
  rw [show xfld "place" ⟨"InvalidPlace", some ("place", vP p)⟩ = .ok (vP p) from rfl]
  simp -implicitDefEqProofs only [Rs.bind_ok, e, Rs.ne_ok]
theorem ends_in {ls gs : List Int} {l : Lk} (h : inLk ls gs l = true) : inP ls gs (endsOf l).1.1 (endsOf l).1.2 = true ∧ inP ls gs (endsOf l).2.1 (endsOf l).2.2 = true := by
  unfold inLk inC at h
  unfold endsOf
  split at h
  · rename_i u
    rw [if_pos u]
    unfold inP aislesOf topOf at *
    simp only [Bool.and_eq_true, decide_eq_true_eq] at *
    omega
  · rename_i u
    rw [if_neg u]
    unfold inP aislesOf topOf at *
    simp only [Bool.and_eq_true, decide_eq_true_eq] at *
    omega
/-- a loop that ends with no return -/
theorem forL_all {f : Unit → Val → Rs (Fl Unit)} {α : Type} (enc : α → Val) (xs : List α) (h : ∀ x ∈ xs, f () (enc x) = .ok (.go ())) : forL f (xs.map enc) () = .ok (.go ()) :=
  forL_mapE (σ := Unit) enc xs (fun _ => ()) rfl fun ys x ⟨zs, e⟩ => h x (by rw [e]; simp)
/-- the places looked at -/
def dPl (ns ls gs : List Int) (k : Nat) : Pl := (nth ns (26 + 2 * (k : Int)) % ((gs.length : Int) + 1), nth ns (27 + 2 * (k : Int)) % (ls.sum + 1))
def drawnPl (ns ls gs : List Int) (k : Nat) : List Pl := (List.range k).map (dPl ns ls gs)
def endPl (ns : List Int) (l : Lk) : Pl := if nth ns 24 % 2 = 0 then (endsOf l).1 else (endsOf l).2
theorem drawnPl_snoc (ns ls gs : List Int) (k : Nat) : drawnPl ns ls gs (k + 1) = drawnPl ns ls gs k ++ [dPl ns ls gs k] := by
  unfold drawnPl
  rw [List.range_succ, List.map_append]
  rfl
def spots (ns ls gs : List Int) (cl : List Lk) : List Pl := cl.map (endPl ns) ++ drawnPl ns ls gs 8 ++ [(0, 0), ((gs.length : Int), ls.sum), ((gs.length : Int), ls.getD 0 0)]
theorem ends_ix (ns : List Int) (e : Pl × Pl) (m : Int) : ixV (.tuple [vP e.1, vP e.2]) (.int (m % 2)) = .ok (vP (if m % 2 = 0 then e.1 else e.2)) := by
  have h : m % 2 = 0 ∨ m % 2 = 1 := by omega
  rcases h with h | h <;> rw [h] <;> rfl
theorem r_law_ends {ns : List Int} (nb : Nb ns 60) {ls gs : List Int} {cl cl' : List Lk} (hl : ls.length ≤ 1000) (hc : ∀ x ∈ cl, okL' x) (hin : ∀ x ∈ cl, inLk ls gs x = true) : lcM Rs.ok (fun _ => Rs.ok true) (fun y507 : Val => (insC "House" "ends_of" (vH ⟨ls, gs, cl'⟩) >>= fun _ => m_House_ends_of (vH ⟨ls, gs, cl'⟩) y507) >>= fun x508 => ((ixV (vInts ns) (.int 24)) >>= fun x510 => ((intV x510) >>= fun x512 => ((modV x512 (.int 2)) >>= fun x514 => (ixV x508 x514))))) (cl.map vL) = .ok (cl.map fun l => vP (endPl ns l)) :=
  lcM_map vL (fun l => vP (endPl ns l)) cl fun l hx => ⟨_, rfl, by
    obtain ⟨s, a, b⟩ := l
    have e := r_ends_of ⟨ls, gs, cl'⟩ hl s a b (hc _ hx)
    rw [if_pos (hin _ hx)] at e
    rw [ins_H _ "ends_of" (by decide), show vL (s, a, b) = .tuple [.str s, .int a, .int b] from rfl, e]
    simp -implicitDefEqProofs only [Rs.bind_ok, nb.ix (i := 24) (by omega) (by omega), intV_int, modV_int (show (0 : Int) < 2 by decide), ends_ix ns]
    rfl⟩
theorem inP_of {ls gs : List Int} {a b : Int} (h1 : 0 ≤ a ∧ a ≤ gs.length) (h2 : 0 ≤ b ∧ b ≤ ls.sum) : inP ls gs a b = true := by
  unfold inP aislesOf topOf
  simp only [Bool.and_eq_true, decide_eq_true_eq]
  omega
theorem spots_in {ns ls gs : List Int} {cl : List Lk} (hp : ∀ x ∈ ls, 0 ≤ x) (h1 : 1 ≤ ls.length) (hin : ∀ x ∈ cl, inLk ls gs x = true) : ∀ p ∈ spots ns ls gs cl, inP ls gs p.1 p.2 = true := by
  have hs : 0 ≤ ls.sum := Int.le_trans (take_sum_le ls hp 0).1 (take_sum_le ls hp 0).2
  intro p h
  unfold spots at h
  rcases List.mem_append.mp h with h | h
  · rcases List.mem_append.mp h with h | h
    · obtain ⟨l, hl, rfl⟩ := List.mem_map.mp h
      unfold endPl
      split
      · exact (ends_in (hin l hl)).1
      · exact (ends_in (hin l hl)).2
    · obtain ⟨k, _, rfl⟩ := List.mem_map.mp h
      unfold dPl
      have a1 := Int.emod_nonneg (nth ns (26 + 2 * (k : Int))) (show ((gs.length : Int) + 1) ≠ 0 by omega)
      have a2 := Int.emod_lt_of_pos (nth ns (26 + 2 * (k : Int))) (show 0 < ((gs.length : Int) + 1) by omega)
      have b1 := Int.emod_nonneg (nth ns (27 + 2 * (k : Int))) (show (ls.sum + 1) ≠ 0 by omega)
      have b2 := Int.emod_lt_of_pos (nth ns (27 + 2 * (k : Int))) (show 0 < (ls.sum + 1) by omega)
      exact inP_of ⟨a1, by dsimp only; omega⟩ ⟨b1, by dsimp only; omega⟩
  · simp only [List.mem_cons, List.not_mem_nil, or_false] at h
    rcases h with rfl | rfl | rfl
    · exact inP_of (by dsimp only; omega) (by dsimp only; omega)
    · exact inP_of (by dsimp only; omega) (by dsimp only; omega)
    · have e : ls.getD 0 0 = (ls.take 1).sum := by
        cases ls with
        | nil => simp at h1
        | cons x r => simp
      have t := take_sum_le ls hp 1
      rw [← e] at t
      exact inP_of (by dsimp only; omega) t
theorem law_ok : ∀ ns : List Int, ns.length ≤ 63 → m_law ns = .ok (.bool true) := fun ns0 _ => by
  unfold m_law
  have en : m_law_numbers ns0 (.int 60) = .ok (.list ((numsOf ns0 60).map .int)) := r_numbers ns0 60 (by omega)
  rw [en]
  have nb := nb_of ns0 60
  generalize numsOf ns0 60 = ns at nb ⊢
  simp -implicitDefEqProofs only [Rs.ne_ok, Rs.bind_ok]
  rw [r_parts nb (at_ := 0) (by omega)]
  have hg := parts_good nb 0
  have hls := lsOf_len ns 0
  have hgs := gsOf_len ns 0
  have hpos := lsOf_pos ns 0
  generalize lsOf ns 0 = ls at *
  generalize gsOf ns 0 = gs at *
  generalize closedOf ns 0 = cl at *
  have hu : (up3 Rs.ok Rs.ok Rs.ok (.tuple [vInts ls, vInts gs, .list (cl.map vL)]) : Rs (Val × Val × Val)) = .ok (vInts ls, vInts gs, .list (cl.map vL)) := rfl
  simp -implicitDefEqProofs only [Rs.bind_ok, Rs.ne_ok, hu]
  rw [r_House ls gs cl hg]
  have hm : ∀ l, l ∈ sortLk cl ↔ l ∈ cl := fun l => (sortLk_perm cl).mem_iff
  have hc : ∀ x ∈ cl, okL' x := fun x hx => (hg.2.2.2.2 x hx).2
  have hin : ∀ x ∈ cl, inLk ls gs x = true := fun x hx => (hg.2.2.2.2 x hx).1
  have hbt : ∀ p, btw ⟨ls, gs, sortLk cl⟩ p = btwL ls gs cl p := fun p => funext fun q => btw_eq ls gs cl (sortLk cl) hpos hm p q
  have hl : ls.length ≤ 1000 := by omega
  have hcl := hg.2.2.1
  have hch : chk (decide ((cl.map vL).length ≤ BIG)) = .ok () := by
    rw [decide_eq_true (by rw [List.length_map]; show cl.length ≤ 16777216; omega)]
    rfl
  have hends := r_law_ends nb (ls := ls) (gs := gs) (cl := cl) (cl' := sortLk cl) hl hc hin
  simp -implicitDefEqProofs only [Rs.bind_ok, Rs.ne_ok, walkV_list, hch]
  rw [hends]
  rw [rng1V_ok (n := 8) (by decide) (by decide)]
  simp -implicitDefEqProofs only [Rs.bind_ok, Rs.ne_ok]
  have h8 : (8 : Int).toNat = 8 := rfl
  rw [h8]
  have hs0 : 0 ≤ ls.sum := Int.le_trans (take_sum_le ls hpos 0).1 (take_sum_le ls hpos 0).2
  refine (bind_of (forL_rngE (σ := Val) 8 (fun i => Val.list ((cl.map (endPl ns) ++ drawnPl ns ls gs i).map vP)) (by simp [drawnPl]) ?_)).trans ?_
  · intro i hi
    simp -implicitDefEqProofs only [Rs.ne_ok, Rs.bind_ok, mulV_intL (i := 2) (by decide) (by decide), addV_int, nb.ix (i := 26 + 2 * (i : Int)) (by omega) (by omega), nb.ix (i := 27 + 2 * (i : Int)) (by omega) (by omega), intV_int, lenV_list, List.length_map, sumV_ints, modV_int (show (0 : Int) < (gs.length : Int) + 1 by omega), modV_int (show (0 : Int) < ls.sum + 1 by omega)]
    rw [appV_list (by rw [List.length_map, List.length_append, List.length_map]; unfold drawnPl; rw [List.length_map, List.length_range]; show cl.length + i < 16777216; omega), drawnPl_snoc, ← List.append_assoc]
    simp -implicitDefEqProofs only [List.map_append, List.map_cons, List.map_nil, Rs.ne_ok, Rs.bind_ok]
    rfl
  have hix : ixV (vInts ls) (.int 0) = .ok (.int (ls.getD 0 0)) := ix_gap (a := 0) (by omega) (by omega)
  have hadd : addV (.list ((cl.map (endPl ns) ++ drawnPl ns ls gs 8).map vP)) (.list [.tuple [.int 0, .int 0], .tuple [.int gs.length, .int ls.sum], .tuple [.int gs.length, .int (ls.getD 0 0)]]) = .ok (.list ((spots ns ls gs cl).map vP)) := by
    show (catL _ _ >>= fun l => Rs.ok (Val.list l)) = _
    unfold catL
    rw [if_pos (by rw [List.length_map, List.length_append, List.length_map]; unfold drawnPl; rw [List.length_map, List.length_range]; show cl.length + 8 + 3 ≤ 16777216; omega)]
    unfold spots
    simp -implicitDefEqProofs only [List.map_append, List.map_cons, List.map_nil, Rs.ne_ok, Rs.bind_ok]
  simp -implicitDefEqProofs only [thenF, lenV_list, List.length_map, sumV_ints, Rs.bind_ok, hix, hadd, walkV_list, Rs.ne_ok, negV_int, addV_int]
  have hsp := spots_in (ns := ns) (gs := gs) hpos hls.1 hin
  have i1 : insC "House" "beside" (vH ⟨ls, gs, sortLk cl⟩) = .ok () := ins_H _ _ (by decide)
  have i2 : insC "House" "link_between" (vH ⟨ls, gs, sortLk cl⟩) = .ok () := ins_H _ _ (by decide)
  have hok : ∀ p q l, btwL ls gs cl p q = some l → okL' l := fun p q l e => (btwL_gap e).1
  refine (bind_of (forL_all vP (spots ns ls gs cl) ?_)).trans ?_
  · intro p hp
    have e1 := r_beside ⟨ls, gs, sortLk cl⟩ hl p
    rw [if_pos (hsp p hp), hbt p] at e1
    have e2 := r_law_beside ls gs cl hl hc p
    simp -implicitDefEqProofs only [i1, i2, Rs.bind_ok, e1, e2, ne_rows, Rs.ne_ok, Bool.false_eq_true, if_false]
    refine (bind_of (forL_all Val.int [-1, 0, 1, 2] ?_)).trans rfl
    intro x _
    refine (bind_of (forL_all Val.int [-1, 0, 1, 2] ?_)).trans rfl
    intro y _
    have e3 : m_House_link_between (vH ⟨ls, gs, sortLk cl⟩) (vP p) (.tuple [.int (p.1 + x), .int (p.2 + y)]) = .ok (vO (btwL ls gs cl p (p.1 + x, p.2 + y))) := by
      have := r_link_between ⟨ls, gs, sortLk cl⟩ hl p (p.1 + x, p.2 + y)
      rw [hbt p] at this
      exact this
    have e4 : m_House_link_between (vH ⟨ls, gs, sortLk cl⟩) (.tuple [.int (p.1 + x), .int (p.2 + y)]) (vP p) = .ok (vO (btwL ls gs cl p (p.1 + x, p.2 + y))) := by
      have := r_link_between ⟨ls, gs, sortLk cl⟩ hl (p.1 + x, p.2 + y) p
      rw [hbt] at this
      have ec : btwL ls gs cl (p.1 + x, p.2 + y) p = btwL ls gs cl p (p.1 + x, p.2 + y) := by
        unfold btwL
        rw [sort2_comm]
      rw [ec] at this
      exact this
    have e5 : m_law_between (vInts ls) (vInts gs) (.list (cl.map vL)) (vP p) (.tuple [.int (p.1 + x), .int (p.2 + y)]) = .ok (vO (btwL ls gs cl p (p.1 + x, p.2 + y))) := r_law_between ls gs cl hl hc p (p.1 + x, p.2 + y)
    simp -implicitDefEqProofs only [ix_P0, ix_P1, addV_int, Rs.bind_ok, Rs.ne_ok, e3, e4, e5, neO (hok p (p.1 + x, p.2 + y)), Bool.false_eq_true, if_false]
  · refine (bind_of (forL_all vP [(-1, 0), (0, -1), ((gs.length : Int) + 1, 0), (0, ls.sum + 1)] ?_)).trans rfl
    intro p hp
    have hn : inP ls gs p.1 p.2 = false := by
      rw [Bool.eq_false_iff]
      intro z
      unfold inP aislesOf topOf at z
      simp only [Bool.and_eq_true, decide_eq_true_eq] at z
      simp only [List.mem_cons, List.not_mem_nil, or_false] at hp
      rcases hp with rfl | rfl | rfl | rfl <;> (dsimp only at z; omega)
    have e := r_refused ⟨ls, gs, sortLk cl⟩ hl p hn
    simp -implicitDefEqProofs only [e, Rs.bind_ok, tstV_bool, Bool.not_true, Rs.ne_ok, Bool.false_eq_true, if_false]
end
set_option maxHeartbeats 0
abbrev R : PySem.W.OpenRow := PySem.W.OpenLaw.row PySem.Challenge.rw_pickaisle_k03_places_beside_one_another
abbrev hk : PySem.W.Hook := hookQ 5 ok fn
def ob (s : PySem.W.SharedT) : AlQ := obsQG 5 ok fn (HandSHeadRun.getT s)
theorem ob_eq (s : PySem.W.SharedT) : ob s = hk.obs s.abs := obsQG_eq (HandSHeadRun.getT_eq s)
def loose : List PySem.Str := ["_wall", "__name__", "PickError", "InvalidHouse", "InvalidLink", "InvalidPlace", "MOST_LENGTH", "MOST_GAPS", "MOST_CLOSED", "are_lengths", "House", "_law_row", "_law_numbers", "_law_parts", "_law_crosses", "_law_aims", "_law_between", "_law_beside", "_law_refused"]
theorem run (w : World) : HandSHeadRun.RunEq R (PySem.W.view R.prog [21]) hk ob 30000 loose w := by
  intro os
  kernel_rfl
end T
open PySem PySem.W PySem.Calls PyProof.Rows
set_option maxHeartbeats 0
theorem PySem.Challenge.cw_pickaisle_k03_places_beside_one_another_holds : PySem.Challenge.rw_pickaisle_k03_places_beside_one_another.Holds := by
  w_on; o_law
  refine HandSHeadRun.head_any (r := OpenLaw.row PySem.Challenge.rw_pickaisle_k03_places_beside_one_another) (q := view (OpenLaw.row PySem.Challenge.rw_pickaisle_k03_places_beside_one_another).prog [21]) (H := T.hk) (ob := T.ob) (M := 30000) (loose := T.loose) (d := HandSHeadRun.topDef (OpenLaw.row PySem.Challenge.rw_pickaisle_k03_places_beside_one_another).prog 21) (kwd := []) T.ob_eq
    (by kernel_rfl) (fun s => by kernel_rfl) T.run (by kernel_rfl) (by kernel_rfl) (by kernel_rfl) (by rfl) (by first | assumption | decide +kernel) (by decide +kernel) ⟨rfl, rfl, rfl, rfl, rfl, by decide +kernel⟩ ?hw ?hc
  case hw => w_witness2
  case hc =>
    refine L2.walk_ofE (l := PySem.Challenge.rw_pickaisle_k03_places_beside_one_another) (n := 63) (k := 11) (x := "_law_script") (CX := fun _ _ _ _ _ _ => False) rfl (by decide) (by kernel_rfl) ⟨rfl, by decide, by decide⟩ ?F (fun _ _ _ _ z => z)
    intro w mg fa h Y G hmg0
    obtain ⟨K, KX, c⟩ := Y
    have hmg : mg ("law" : PySem.Str) = some (.ref fa) := by
      have e : (HandSHeadRun.topDef (OpenLaw.row PySem.Challenge.rw_pickaisle_k03_places_beside_one_another).prog 21).name = ("law" : PySem.Str) := by kernel_rfl
      rw [← e]
      exact hmg0
    obtain ⟨S⟩ := T.facts KX G c
    have e : fa = T.f_law K := Value.ref.inj (Option.some.inj (hmg.symm.trans S.g_law))
    subst e
    exact ⟨K, S.d_law, L3.spLaw w K, KX, fun s u => L2.FunD.bindsA (ps := T.P_law) S.F_law (fun _ _ _ _ _ _ us hl => match us, hl with | [_], _ => rfl) s [u] rfl, fun H a ns hl _ hS => L3.law_in H a ns hl hS, fun base _ _ => L3.law_fn (fun ns => T.fn_law S ns) T.law_ok⟩


import PyProof.Rows.All
import Wide.All
import OpenK.AllK
import Wide.FinOn
import PySem.Challenge.RW_watchcode_k61_whole_noise_that_tells_not
import HandS.ForMost
import HandS.Walk
import HandS.Codes
import KE.GoesNewDict
import KE.GoesEnum
import HandS.DictComp
import HandS.Property
import HandS.IsInst
import HandS.Wide
import HandS.CallLocal
import HandS.SortInts
import HandS.TupAny
import HandS.Zip
import HandS.Deep
import HandS.Star
import HandS.More
import HandS.Style
import HandS.Iter
import KE.KEqDict
import PyProof.DictWalks
import PyProof.SumWalkG
import HandS.TryOnly
import HandS.Lambda
import HandS.Defaults
import HandS.ExcIs
import HandS.ExcOwn
import HandS.HeadWalk
import HandS.NestedK
set_option Elab.async false
set_option linter.all false
set_option maxRecDepth 100000
set_option maxHeartbeats 4000000
/-! Core A: mirrors (Mon), typed data (Ty, OTy), the frozen heap (Cf, Step), slots (Sl, En), judgements (XE, XT, XA, XB). -/
namespace Wc
open PySem PySem.Spec PyProof.Rows L2

/-! ### what a mirror is written in -/
class Mon (m : Type → Type) where
  ret : {β : Type} → β → m β
  bnd : {α β : Type} → m α → (α → m β) → m β
  opt : {β : Type} → Option β → m β
  run : {β : Type} → m β → (β → Prop) → Prop
  run_ret : ∀ {β : Type} {x : β} {Q : β → Prop}, run (ret x) Q → Q x
  run_bnd : ∀ {α β : Type} {a : m α} {f : α → m β} {Q : β → Prop}, run (bnd a f) Q → run a (fun x => run (f x) Q)
  run_opt : ∀ {β : Type} {o : Option β} {Q : β → Prop}, run (opt o) Q → ∃ y, o = some y ∧ Q y
open Mon (ret bnd opt run)

@[reducible] instance monO : Mon Option where
  ret := some
  bnd := Option.bind
  opt := id
  run := fun o Q => ∃ y, o = some y ∧ Q y
  run_ret := fun ⟨_, e, q⟩ => by cases e; exact q
  run_bnd := fun {α β a f Q} ⟨y, e, q⟩ => by
    cases a with
    | none => cases e
    | some x => exact ⟨x, rfl, y, e, q⟩
  run_opt := fun h => h

/-- what is shown at each end -/
def M (β : Type) : Type := (β → Prop) → Prop
@[reducible] instance monM : Mon M where
  ret := fun x Q => Q x
  bnd := fun a f Q => a fun x => f x Q
  opt := fun o Q => ∃ y, o = some y ∧ Q y
  run := fun c Q => c Q
  run_ret := fun h => h
  run_bnd := fun h => h
  run_opt := fun h => h

/-! ### typed data -/
structure Ty (α : Type) where
  rel : Hp → V → α → Prop
  mono : ∀ {F F' : Hp} {v : V} {x : α}, Same F F' → rel F v x → rel F' v x
/-- what an object holds -/
structure OTy (α : Type) where
  rel : Hp → HO → α → Prop
  mono : ∀ {F F' : Hp} {o : HO} {x : α}, Same F F' → rel F o x → rel F' o x
theorem pmono {α : Type} {R S : V → α → Prop} (h : ∀ v x, R v x → S v x) : ∀ {vs : List V} {xs : List α}, Paired R vs xs → Paired S vs xs
  | _, _, .nil => .nil
  | _, _, .cons r t => .cons (h _ _ r) (pmono h t)
def TInt : Ty Int := ⟨fun _ v i => v = .int i, fun _ h => h⟩
def TBool : Ty Bool := ⟨fun _ v b => v = .bl b, fun _ h => h⟩
def TNon : Ty Unit := ⟨fun _ v _ => v = .non, fun _ h => h⟩
def TStr : Ty Str := ⟨fun _ v z => v = .str z, fun _ h => h⟩
/-- a value as it is -/
def TRaw (v0 : V) : Ty Unit := ⟨fun _ v _ => v = v0, fun _ h => h⟩
def TOpt {α : Type} (τ : Ty α) : Ty (Option α) := ⟨fun F v o => match o with
  | none => v = .non
  | some x => v ≠ .non ∧ τ.rel F v x, fun {F F' v x} e h => by
  cases x with
  | none => exact h
  | some y => exact ⟨h.1, τ.mono e h.2⟩⟩
/-- an object at an address -/
def OTy.at {α : Type} (ω : OTy α) : Ty α := ⟨fun F v x => ∃ p o, v = .ref p ∧ F p = some o ∧ ω.rel F o x, fun e ⟨p, o, h1, h2, h3⟩ => ⟨p, o, h1, e _ _ h2, ω.mono e h3⟩⟩
/-- .. locked -/
def OTy.lk {α : Type} (ω : OTy α) : Ty α := ⟨fun F v x => ∃ p ob o, v = .ref p ∧ F p = some (.frz ob o) ∧ ω.rel F o x, fun e ⟨p, ob, o, h1, h2, h3⟩ => ⟨p, ob, o, h1, e _ _ h2, ω.mono e h3⟩⟩
def OTup {α : Type} (τ : Ty α) : OTy (List α) := ⟨fun F o xs => ∃ vs, o = .tup vs ∧ Paired (τ.rel F) vs xs, fun e ⟨vs, h1, h2⟩ => ⟨vs, h1, pmono (fun _ _ h => τ.mono e h) h2⟩⟩
def OLst {α : Type} (τ : Ty α) : OTy (List α) := ⟨fun F o xs => ∃ vs, o = .lst vs ∧ Paired (τ.rel F) vs xs, fun e ⟨vs, h1, h2⟩ => ⟨vs, h1, pmono (fun _ _ h => τ.mono e h) h2⟩⟩
abbrev TTup {α : Type} (τ : Ty α) : Ty (List α) := (OTup τ).at
abbrev TLst {α : Type} (τ : Ty α) : Ty (List α) := (OLst τ).at
/-- a tuple of two, of three -/
def OT2 {α β : Type} (τ : Ty α) (υ : Ty β) : OTy (α × β) := ⟨fun F o x => ∃ v w, o = .tup [v, w] ∧ τ.rel F v x.1 ∧ υ.rel F w x.2, fun e ⟨v, w, h1, h2, h3⟩ => ⟨v, w, h1, τ.mono e h2, υ.mono e h3⟩⟩
abbrev T2 {α β : Type} (τ : Ty α) (υ : Ty β) : Ty (α × β) := (OT2 τ υ).at
def OT3 {α β γ : Type} (τ : Ty α) (υ : Ty β) (φ : Ty γ) : OTy (α × β × γ) := ⟨fun F o x => ∃ v w u, o = .tup [v, w, u] ∧ τ.rel F v x.1 ∧ υ.rel F w x.2.1 ∧ φ.rel F u x.2.2,
  fun e ⟨v, w, u, h1, h2, h3, h4⟩ => ⟨v, w, u, h1, τ.mono e h2, υ.mono e h3, φ.mono e h4⟩⟩
abbrev T3 {α β γ : Type} (τ : Ty α) (υ : Ty β) (φ : Ty γ) : Ty (α × β × γ) := (OT3 τ υ φ).at
/-- a list or a tuple -/
def TSeq {α : Type} (τ : Ty α) : Ty (List α) := ⟨fun F v xs => (TTup τ).rel F v xs ∨ (TLst τ).rel F v xs, fun e h => h.elim (fun h => .inl ((TTup τ).mono e h)) fun h => .inr ((TLst τ).mono e h)⟩

/-! ### the frozen heap -/
/-- M: what a callee may change; J: what stands of these (and of code objects) -/
structure Gs where
  M : Addr → Prop
  J : Hp → Prop
  mex : ∀ {H : Hp} {a : Addr}, J H → M a → ∃ o, H a = some o ∧ (∀ xs, o ≠ .tup xs) ∧ ∀ φ, o ≠ .ext φ
  st : ∀ {H H' : Hp}, J H → (∀ b o, H b = some o → (M b ∨ ∃ φ, o = .ext φ) → H' b = some o) → J H'
structure Cf (G : Gs) (F H : Hp) : Prop where
  sub : Same F H
  tup : ∀ a xs, H a = some (.tup xs) → F a = some (.tup xs)
  j : G.J H
  m : ∀ a, G.M a → F a = none
structure Step (G : Gs) (F H F' H' : Hp) : Prop where
  ex : Same F F'
  keep : ∀ a o, H a = some o → ¬ G.M a → H' a = some o
  pers : ∀ a o, H a = some o → ∃ o', H' a = some o'
  fr : ∀ a o, H a = some o → ¬ G.M a → (∀ φ, o ≠ .ext φ) → F' a = F a
theorem Step.refl {G : Gs} {F H : Hp} : Step G F H F H := ⟨Same.refl _, fun _ _ h _ => h, fun _ o h => ⟨o, h⟩, fun _ _ _ _ _ => rfl⟩
theorem Step.trans {G : Gs} {F H F1 H1 F2 H2 : Hp} (a : Step G F H F1 H1) (b : Step G F1 H1 F2 H2) : Step G F H F2 H2 :=
  ⟨a.ex.trans b.ex, fun x o h n => b.keep x o (a.keep x o h n) n, fun x o h => let ⟨o', h'⟩ := a.pers x o h; b.pers x o' h', fun x o h n q => (b.fr x o (a.keep x o h n) n q).trans (a.fr x o h n q)⟩
section
variable {G : Gs} {F H : Hp} {p : Addr} {o : HO}
theorem Cf.fresh (c : Cf G F H) (h : H p = none) : F p = none := c.sub.free h
theorem Cf.nm (c : Cf G F H) (h : H p = none) : ¬ G.M p := fun m => by
  obtain ⟨o, e, _⟩ := G.mex c.j m
  rw [h] at e
  cases e
/-- a new object, at once frozen -/
theorem cf_new (c : Cf G F H) (h : H p = none) : Cf G (upd F p o) (upd H p o) ∧ Step G F H (upd F p o) (upd H p o) := by
  have hF := c.fresh h
  refine ⟨⟨fun a u e => ?_, fun a xs e => ?_, G.st c.j fun b u e _ => ?_, fun a ma => ?_⟩, ⟨fun a u e => ?_, fun a u e _ => ?_, fun a u e => ?_, fun a u e _ _ => ?_⟩⟩
  · by_cases ha : a = p
    · subst ha; rw [upd_same] at e ⊢; exact e
    · rw [upd_ne ha] at e ⊢; exact c.sub a u e
  · by_cases ha : a = p
    · subst ha; rw [upd_same] at e ⊢; exact e
    · rw [upd_ne ha] at e ⊢; exact c.tup a xs e
  · rw [upd_ne (ne_of_none e h)]; exact e
  · have ha : a ≠ p := fun z => c.nm h (z ▸ ma)
    rw [upd_ne ha]; exact c.m a ma
  · rw [upd_ne (ne_of_none e hF)]; exact e
  · rw [upd_ne (ne_of_none e h)]; exact e
  · exact ⟨u, by rw [upd_ne (ne_of_none e h)]; exact e⟩
  · rw [upd_ne (ne_of_none e h)]
/-- a new object of one's own -/
theorem cf_own (c : Cf G F H) (h : H p = none) (nt : ∀ xs, o ≠ .tup xs) : Cf G F (upd H p o) ∧ Step G F H F (upd H p o) := by
  refine ⟨⟨fun a u e => ?_, fun a xs e => ?_, G.st c.j fun b u e _ => ?_, c.m⟩, ⟨Same.refl _, fun a u e _ => ?_, fun a u e => ?_, fun a u e _ _ => rfl⟩⟩
  · rw [upd_ne (ne_of_none (c.sub a u e) h)]; exact c.sub a u e
  · by_cases ha : a = p
    · subst ha; rw [upd_same] at e; exact absurd (Option.some.inj e) (nt xs)
    · rw [upd_ne ha] at e; exact c.tup a xs e
  · rw [upd_ne (ne_of_none e h)]; exact e
  · rw [upd_ne (ne_of_none e h)]; exact e
  · exact ⟨u, by rw [upd_ne (ne_of_none e h)]; exact e⟩
end

/-! ### slots -/
inductive Sl : Type 1
  | sh {α : Type} (τ : Ty α) (x : α)
  | ow {α : Type} (ω : OTy α) (x : α)
abbrev Ga := List (Option Sl)
def Sl.isOw : Sl → Prop
  | .sh _ _ => False
  | .ow _ _ => True
def SlOk (G : Gs) (H0 F H : Hp) : Sl → V → Prop
  | .sh τ x, v => τ.rel F v x
  | .ow ω x, v => ∃ p o, v = .ref p ∧ H p = some o ∧ ω.rel F o x ∧ F p = none ∧ H0 p = none ∧ ¬ G.M p ∧ ∀ φ, o ≠ .ext φ
structure En (G : Gs) (H0 F H : Hp) (σ : L2.St) (Γ : Ga) : Prop where
  len : σ.length = Γ.length
  at_ : ∀ (i : Nat) (s : Sl), Γ[i]? = some (some s) → ∃ v, σ[i]? = some (some v) ∧ SlOk G H0 F H s v
  sep : ∀ (i j : Nat) (s s' : Sl) (v : V), i ≠ j → Γ[i]? = some (some s) → Γ[j]? = some (some s') → s.isOw → s'.isOw → σ[i]? = some (some v) → σ[j]? = some (some v) → False
section
variable {G : Gs} {H0 F H F' H' : Hp} {σ : L2.St} {Γ : Ga}
theorem SlOk.step {s : Sl} {v : V} (k : Step G F H F' H') (h : SlOk G H0 F H s v) : SlOk G H0 F' H' s v := by
  cases s with
  | sh τ x => exact τ.mono k.ex h
  | ow ω x =>
    obtain ⟨p, o, e, ho, r, hF, h0, hm, nx⟩ := h
    exact ⟨p, o, e, k.keep p o ho hm, ω.mono k.ex r, (k.fr p o ho hm nx).trans hF, h0, hm, nx⟩
theorem En.step (k : Step G F H F' H') (E : En G H0 F H σ Γ) : En G H0 F' H' σ Γ :=
  ⟨E.len, fun i s h => let ⟨v, e, q⟩ := E.at_ i s h; ⟨v, e, q.step k⟩, E.sep⟩
theorem En.get {i : Nat} {s : Sl} (E : En G H0 F H σ Γ) (h : Γ[i]? = some (some s)) : ∃ v, σ[i]? = some (some v) ∧ SlOk G H0 F H s v := E.at_ i s h
/-- a slot is stored with shared data -/
theorem En.set {α : Type} {i : Nat} {τ : Ty α} {x : α} {v : V} (E : En G H0 F H σ Γ) (r : τ.rel F v x) : En G H0 F H (σ.set i (some v)) (Γ.set i (some (.sh τ x))) := by
  refine ⟨by rw [List.length_set, List.length_set]; exact E.len, fun j s h => ?_, fun j k s s' u hjk h1 h2 o1 o2 e1 e2 => ?_⟩
  · by_cases hj : i = j
    · subst hj
      have hl : i < Γ.length := by
        have := (List.getElem?_eq_some_iff.mp h).1
        rwa [List.length_set] at this
      rw [List.getElem?_set_self hl] at h
      cases h
      exact ⟨v, List.getElem?_set_self (by rw [E.len]; exact hl), r⟩
    · rw [List.getElem?_set_ne hj] at h ⊢
      exact E.at_ j s h
  · have nj : ∀ {j : Nat} {s : Sl}, (Γ.set i (some (.sh τ x)))[j]? = some (some s) → s.isOw → i ≠ j := fun {j s} h o z => by
      subst z
      have hl : i < Γ.length := by
        have := (List.getElem?_eq_some_iff.mp h).1
        rwa [List.length_set] at this
      rw [List.getElem?_set_self hl] at h
      cases h
      exact o
    have hj := nj h1 o1
    have hk := nj h2 o2
    rw [List.getElem?_set_ne hj] at h1 e1
    rw [List.getElem?_set_ne hk] at h2 e2
    exact E.sep j k s s' u hjk h1 h2 o1 o2 e1 e2
/-- .. with an object of one's own, which no other slot owns -/
theorem En.setOw {α : Type} {i : Nat} {ω : OTy α} {x : α} {p : Addr} {o : HO} (E : En G H0 F H σ Γ) (hp : H p = some o) (r : ω.rel F o x) (hF : F p = none) (h0 : H0 p = none) (hm : ¬ G.M p) (nx : ∀ φ, o ≠ .ext φ)
    (no : ∀ (j : Nat) (s : Sl), j ≠ i → Γ[j]? = some (some s) → s.isOw → σ[j]? ≠ some (some (.ref p))) : En G H0 F H (σ.set i (some (.ref p))) (Γ.set i (some (.ow ω x))) := by
  refine ⟨by rw [List.length_set, List.length_set]; exact E.len, fun j s h => ?_, fun j k s s' u hjk h1 h2 o1 o2 e1 e2 => ?_⟩
  · by_cases hj : i = j
    · subst hj
      have hl : i < Γ.length := by
        have := (List.getElem?_eq_some_iff.mp h).1
        rwa [List.length_set] at this
      rw [List.getElem?_set_self hl] at h
      cases h
      exact ⟨.ref p, List.getElem?_set_self (by rw [E.len]; exact hl), p, o, rfl, hp, r, hF, h0, hm, nx⟩
    · rw [List.getElem?_set_ne hj] at h ⊢
      exact E.at_ j s h
  · have at_i : ∀ {s : Sl} {u : V}, (Γ.set i (some (.ow ω x)))[i]? = some (some s) → (σ.set i (some (.ref p)))[i]? = some (some u) → u = .ref p := fun {s u} h e => by
      have hl : i < Γ.length := by
        have := (List.getElem?_eq_some_iff.mp h).1
        rwa [List.length_set] at this
      rw [List.getElem?_set_self (by rw [E.len]; exact hl)] at e
      cases e
      rfl
    by_cases hj : i = j
    · subst hj
      have eu := at_i h1 e1
      subst eu
      rw [List.getElem?_set_ne hjk] at h2 e2
      exact no k s' (fun z => hjk z.symm) h2 o2 e2
    · by_cases hk : i = k
      · subst hk
        have eu := at_i h2 e2
        subst eu
        rw [List.getElem?_set_ne hj] at h1 e1
        exact no j s (fun z => hj z.symm) h1 o1 e1
      · rw [List.getElem?_set_ne hj] at h1 e1
        rw [List.getElem?_set_ne hk] at h2 e2
        exact E.sep j k s s' u hjk h1 h2 o1 o2 e1 e2
/-- forgetting -/
inductive Wk : Ga → Ga → Prop
  | nil : Wk [] []
  | eq {s : Option Sl} {Γ Δ : Ga} (h : Wk Γ Δ) : Wk (s :: Γ) (s :: Δ)
  | no {s : Option Sl} {Γ Δ : Ga} (h : Wk Γ Δ) : Wk (s :: Γ) (none :: Δ)
theorem Wk.len : ∀ {Γ Δ : Ga}, Wk Γ Δ → Γ.length = Δ.length
  | _, _, .nil => rfl
  | _, _, .eq h => congrArg (· + 1) h.len
  | _, _, .no h => congrArg (· + 1) h.len
theorem Wk.get : ∀ {Γ Δ : Ga} {i : Nat} {s : Sl}, Wk Γ Δ → Δ[i]? = some (some s) → Γ[i]? = some (some s)
  | _, _, i, s, .nil, e => by simp at e
  | _, _, 0, s, .eq h, e => by simpa using e
  | _, _, i + 1, s, .eq h, e => by
    have := h.get (i := i) (s := s) (by simpa using e)
    simpa using this
  | _, _, 0, s, .no h, e => by simp at e
  | _, _, i + 1, s, .no h, e => by
    have := h.get (i := i) (s := s) (by simpa using e)
    simpa using this
theorem Wk.refl : ∀ Γ : Ga, Wk Γ Γ
  | [] => .nil
  | _ :: Γ => .eq (Wk.refl Γ)
theorem En.weak {Δ : Ga} (E : En G H0 F H σ Γ) (w : Wk Γ Δ) : En G H0 F H σ Δ :=
  ⟨E.len.trans w.len, fun i s h => E.at_ i s (w.get h), fun i j s s' v n h1 h2 => E.sep i j s s' v n (w.get h1) (w.get h2)⟩
end

/-! ### the weakest readings -/
structure semE (X : Cx) (e : Expr) (σ : L2.St) (H : Hp) (Q : VK) : Prop where
  run : ∀ (pins : List (Addr × Obj)) (s : Shared), Inv X pins σ H s → wpAny (model X.prog X.w) X.A (eval e X.env) (EP X pins σ Q) X.xe s
theorem pe_sem {X : Cx} {e : Expr} : PE X e (semE X e) := ⟨fun pins s _ _ _ I h => h.run pins s I⟩
theorem _root_.L2.PE.sem {X : Cx} {e : Expr} {t : TE} {σ : L2.St} {H : Hp} {Q : VK} (h : PE X e t) (q : t σ H Q) : semE X e σ H Q := ⟨fun pins s I => h.run pins s σ H Q I q⟩
structure semT (X : Cx) (e : Expr) (σ : L2.St) (H : Hp) (Q : Bool → Hp → Prop) : Prop where
  run : ∀ (pins : List (Addr × Obj)) (s : Shared), Inv X pins σ H s → wpAny (model X.prog X.w) X.A (isTrue e X.env (eval e X.env)) (TP X pins σ Q) X.xe s
theorem pt_sem {X : Cx} {e : Expr} : PT X e (semT X e) := ⟨fun pins s _ _ _ I h => h.run pins s I⟩
theorem _root_.L2.PT.sem {X : Cx} {e : Expr} {t : TT} {σ : L2.St} {H : Hp} {Q : Bool → Hp → Prop} (h : PT X e t) (q : t σ H Q) : semT X e σ H Q := ⟨fun pins s I => h.run pins s σ H Q I q⟩
structure semW (X : Cx) (e : Expr) (σ : L2.St) (H : Hp) (Q : Bool → Hp → Prop) : Prop where
  run : ∀ (whole : Sem Value) (pins : List (Addr × Obj)) (s : Shared), Inv X pins σ H s → wpAny (model X.prog X.w) X.A (isTrue e X.env whole) (TP X pins σ Q) X.xe s
theorem pw_sem {X : Cx} {e : Expr} : PW X e (semW X e) := ⟨fun wh pins s _ _ _ I h => h.run wh pins s I⟩
theorem _root_.L2.PW.sem {X : Cx} {e : Expr} {t : TT} {σ : L2.St} {H : Hp} {Q : Bool → Hp → Prop} (h : PW X e t) (q : t σ H Q) : semW X e σ H Q := ⟨fun wh pins s I => h.run wh pins s σ H Q I q⟩
structure semA (X : Cx) (es : List Expr) (σ : L2.St) (H : Hp) (Q : List V → Hp → Prop) : Prop where
  run : ∀ (pos : Pos) (pins : List (Addr × Obj)) (s : Shared), Inv X pins σ H s → wpAny (model X.prog X.w) X.A (spliced (backTo pos (starEach es X.env))) (AP X pins σ Q) X.xe s
theorem pa_sem {X : Cx} {es : List Expr} : PA X es (semA X es) := ⟨fun pos pins s _ _ _ I h => h.run pos pins s I⟩
theorem _root_.L2.PA.sem {X : Cx} {es : List Expr} {t : TA} {σ : L2.St} {H : Hp} {Q : List V → Hp → Prop} (h : PA X es t) (q : t σ H Q) : semA X es σ H Q := ⟨fun pos pins s I => h.run pos pins s σ H Q I q⟩
structure semS (X : Cx) (st : Stmt) (D : Ends) (σ : L2.St) (H : Hp) : Prop where
  run : ∀ (pins : List (Addr × Obj)) (s : Shared), Inv X pins σ H s → wpAny (model X.prog X.w) X.A (exec st X.env) (SP X pins D) X.xe s
theorem ps_sem {X : Cx} {st : Stmt} : PS X st (semS X st) := ⟨fun pins s _ _ _ I h => h.run pins s I⟩
theorem _root_.L2.PS.sem {X : Cx} {st : Stmt} {t : TS} {D : Ends} {σ : L2.St} {H : Hp} (h : PS X st t) (q : t D σ H) : semS X st D σ H := ⟨fun pins s I => h.run pins s σ H D I q⟩
structure semB (X : Cx) (ss : List Stmt) (D : Ends) (σ : L2.St) (H : Hp) : Prop where
  run : ∀ (pins : List (Addr × Obj)) (s : Shared), Inv X pins σ H s → wpAny (model X.prog X.w) X.A (execs ss X.env) (SP X pins D) X.xe s
theorem pss_sem {X : Cx} {ss : List Stmt} : PSs X ss (semB X ss) := ⟨fun pins s _ _ _ I h => h.run pins s I⟩
theorem _root_.L2.PSs.sem {X : Cx} {ss : List Stmt} {t : TS} {D : Ends} {σ : L2.St} {H : Hp} (h : PSs X ss t) (q : t D σ H) : semB X ss D σ H := ⟨fun pins s I => h.run pins s σ H D I q⟩
structure semG (X : Cx) (tg : Expr) (v : V) (σ : L2.St) (H : Hp) (Q : L2.St → Hp → Prop) : Prop where
  run : ∀ (pins : List (Addr × Obj)) (s : Shared) (u : Value), Inv X pins σ H s → RelV v u → wpAny (model X.prog X.w) X.A (assign tg X.env u) (fun _ s' => ∃ σ' H', Inv X pins σ' H' s' ∧ Q σ' H') X.xe s
structure semI (X : Cx) (tg it : Expr) (σ : L2.St) (H : Hp) (R : It → Hp → Prop) : Prop where
  run : ∀ (pins : List (Addr × Obj)) (s : Shared), Inv X pins σ H s → wpAny (model X.prog X.w) X.A (eval it X.env) (fun v s1 => wpAny (model X.prog X.w) X.A (pyIter v) (PIE X pins σ tg R) X.xe s1) X.xe s
theorem pi_sem {X : Cx} {tg it : Expr} : PI X tg it (semI X tg it) := ⟨fun pins s _ _ _ I h => h.run pins s I⟩
theorem _root_.L2.PI.sem {X : Cx} {tg it : Expr} {wi : TI} {σ : L2.St} {H : Hp} {R : It → Hp → Prop} (h : PI X tg it wi) (q : wi σ H R) : semI X tg it σ H R := ⟨fun pins s I => h.run pins s σ H R I q⟩

/-! ### the judgements -/
section
variable {m : Type → Type} [Mon m] {G : Gs}
def XE (G : Gs) (X : Cx) (e : Expr) (Γ : Ga) {β : Type} (τ : Ty β) (c : m β) : Prop := ∀ (H0 F H : Hp) (σ : L2.St), Cf G F H → En G H0 F H σ Γ → ∀ Qd : β → Prop, run c Qd →
  ∀ Q : VK, (∀ y v F' H', Qd y → Step G F H F' H' → Cf G F' H' → τ.rel F' v y → Q v H') → semE X e σ H Q
def XT (G : Gs) (X : Cx) (e : Expr) (Γ : Ga) (c : m Bool) : Prop := ∀ (H0 F H : Hp) (σ : L2.St), Cf G F H → En G H0 F H σ Γ → ∀ Qd : Bool → Prop, run c Qd →
  ∀ Q : Bool → Hp → Prop, (∀ y F' H', Qd y → Step G F H F' H' → Cf G F' H' → Q y H') → semT X e σ H Q
def XW (G : Gs) (X : Cx) (e : Expr) (Γ : Ga) (c : m Bool) : Prop := ∀ (H0 F H : Hp) (σ : L2.St), Cf G F H → En G H0 F H σ Γ → ∀ Qd : Bool → Prop, run c Qd →
  ∀ Q : Bool → Hp → Prop, (∀ y F' H', Qd y → Step G F H F' H' → Cf G F' H' → Q y H') → semW X e σ H Q
/-- what arguments are -/
structure ATy (α : Type) where
  rel : Hp → List V → α → Prop
  mono : ∀ {F F' : Hp} {vs : List V} {x : α}, Same F F' → rel F vs x → rel F' vs x
  n : Nat
  len : ∀ {F : Hp} {vs : List V} {x : α}, rel F vs x → vs.length = n
  ga : α → Ga
  gal : ∀ (x : α), (ga x).length = n
  gok : ∀ {F : Hp} {vs : List V} {x : α}, rel F vs x → ∀ (i : Nat) (s : Sl), (ga x)[i]? = some (some s) → ¬ s.isOw ∧ ∃ v, vs[i]? = some v ∧ ∀ (G : Gs) (H0 H : Hp), SlOk G H0 F H s v
@[reducible] def aNil : ATy Unit := ⟨fun _ vs _ => vs = [], fun _ h => h, 0, fun h => by rw [h]; rfl, fun _ => [], fun _ => rfl, fun h i s e => by simp at e⟩
@[reducible] def aCons {α β : Type} (τ : Ty α) (as : ATy β) : ATy (α × β) := ⟨fun F vs x => ∃ v r, vs = v :: r ∧ τ.rel F v x.1 ∧ as.rel F r x.2, fun e ⟨v, r, h1, h2, h3⟩ => ⟨v, r, h1, τ.mono e h2, as.mono e h3⟩,
  as.n + 1, fun ⟨v, r, h1, h2, h3⟩ => by rw [h1, List.length_cons, as.len h3], fun x => some (.sh τ x.1) :: as.ga x.2, fun x => by rw [List.length_cons, as.gal], fun {F vs x} h i s e => by
    obtain ⟨v, r, h1, h2, h3⟩ := h
    rw [h1]
    cases i with
    | zero =>
      have e1 : s = .sh τ x.1 := by simpa using e.symm
      subst e1
      exact ⟨fun z => z, v, rfl, fun _ _ _ => h2⟩
    | succ i =>
      obtain ⟨a, u, b, c⟩ := as.gok h3 i s (by simpa using e)
      exact ⟨a, u, by simpa using b, c⟩⟩
def XA (G : Gs) (X : Cx) (es : List Expr) (Γ : Ga) {β : Type} (as : ATy β) (c : m β) : Prop := ∀ (H0 F H : Hp) (σ : L2.St), Cf G F H → En G H0 F H σ Γ → ∀ Qd : β → Prop, run c Qd →
  ∀ Q : List V → Hp → Prop, (∀ y vs F' H', Qd y → Step G F H F' H' → Cf G F' H' → as.rel F' vs y → Q vs H') → semA X es σ H Q
/-- a block's ends -/
inductive Fl (S L R : Type) : Type
  | nx (s : S)
  | ct (l : L)
  | bk (l : L)
  | rt (r : R)
/-- what stands behind some steps: from the entry (F0, H0), from here on (F) -/
structure Gn (G : Gs) (F0 H0 F F' H' : Hp) : Prop where
  cf : Cf G F' H'
  sm : Same F F'
  st : Step G F0 H0 F' H'
theorem Gn.from {F0 H0 F F1 F' H' : Hp} (h : Gn G F0 H0 F1 F' H') (e : Same F F1) : Gn G F0 H0 F F' H' := ⟨h.cf, e.trans h.sm, h.st⟩
theorem Gn.mk' {F0 H0 F H F' H' : Hp} (k : Step G F0 H0 F H) (k' : Step G F H F' H') (cf : Cf G F' H') : Gn G F0 H0 F F' H' := ⟨cf, k'.ex, k.trans k'⟩
def XB (G : Gs) (X : Cx) (ss : List Stmt) (Γ : Ga) {S L R : Type} (g : S → Ga) (gl : L → Ga) (τ : Ty R) (c : m (Fl S L R)) : Prop :=
  ∀ (F0 H0 F H : Hp) (σ : L2.St) (D : Ends), Cf G F H → Step G F0 H0 F H → En G H0 F H σ Γ → ∀ Qd : Fl S L R → Prop, run c Qd →
    (∀ s F' H' σ', Qd (.nx s) → Gn G F0 H0 F F' H' → En G H0 F' H' σ' (g s) → D.nx σ' H') →
    (∀ l F' H' σ', Qd (.ct l) → Gn G F0 H0 F F' H' → En G H0 F' H' σ' (gl l) → D.ct σ' H') →
    (∀ l F' H' σ', Qd (.bk l) → Gn G F0 H0 F F' H' → En G H0 F' H' σ' (gl l) → D.bk σ' H') →
    (∀ r v F' H', Qd (.rt r) → Gn G F0 H0 F F' H' → τ.rel F' v r → D.rt v H') → semB X ss D σ H
end

end Wc
/-! Core B: expressions. -/
namespace Wc
open PySem PySem.Spec PyProof.Rows L2
open Mon (ret bnd opt run run_ret run_bnd run_opt)
section
variable {m : Type → Type} [Mon m] {G : Gs} {X : Cx} {Γ : Ga} {α β γ δ : Type} {τ : Ty α} {υ : Ty β} {φ : Ty γ} {a b e : Expr} {es : List Expr} {pos : Pos} {op : Operator} {cop : CmpOp}

/-! ### names, constants -/
theorem xe_var {i : Nat} {x : α} {nm : Str} (hN : X.N[i]? = some nm := by kernel_rfl) (hΓ : Γ[i]? = some (some (.sh τ x)) := by rfl) (hv : Vis X.env.scope nm := by first | exact Or.inl rfl | exact Or.inr (Or.inl rfl) | exact Or.inr (Or.inr rfl))
    (hd : (nm == ("__debug__" : Str)) = false := by kernel_rfl) (hcd : (nm == ("__classdict__" : Str)) = false := by kernel_rfl) : XE G X (.Name nm pos) Γ τ (ret x : m α) := by
  intro H0 F H σ cf E Qd hr Q q
  obtain ⟨v, e, r⟩ := E.get hΓ
  exact (pe_var hN hv hd hcd).sem ⟨v, e, q x v F H (run_ret hr) Step.refl cf r⟩
/-- any reading that gives one value and leaves the heap -/
theorem xe_val {v : V} {x : α} (h : PE X e (tC v)) (r : ∀ F, τ.rel F v x) : XE G X e Γ τ (ret x : m α) := by
  intro H0 F H σ cf E Qd hr Q q
  exact h.sem (q x v F H (run_ret hr) Step.refl cf (r F))
theorem xe_int {i : Int} {j : Nat} : XE G X (.Constant (.int i) j pos) Γ TInt (ret i : m Int) := xe_val pe_int fun _ => rfl
theorem xe_bl {i : Bool} {j : Nat} : XE G X (.Constant (.bool i) j pos) Γ TBool (ret i : m Bool) := xe_val pe_bl fun _ => rfl
theorem xe_str {z : Str} {j : Nat} : XE G X (.Constant (.str z) j pos) Γ TStr (ret z : m Str) := xe_val pe_str fun _ => rfl
theorem xe_non {j : Nat} : XE G X (.Constant .none j pos) Γ TNon (ret () : m Unit) := xe_val pe_non fun _ => rfl
/-- None where there may be something -/
theorem xe_nonO {j : Nat} : XE G X (.Constant .none j pos) Γ (TOpt τ) (ret none : m (Option α)) := xe_val pe_non fun _ => rfl
/-- a number of the module -/
theorem xe_globI {x : Str} {i : Int} (hg : Gl X x) (hm : ∃ t, X.mg x = some (.int i t)) (hd : (x == ("__debug__" : Str)) = false := by kernel_rfl) : XE G X (.Name x pos) Γ TInt (ret i : m Int) := by
  obtain ⟨t, hm⟩ := hm
  exact xe_val (pe_glob (v := .int i) hg hm ⟨t, rfl⟩ hd) fun _ => rfl
/-- .. given in another type -/
theorem xe_as {c : m α} (h : XE G X e Γ τ c) {τ' : Ty α} (r : ∀ F v x, τ.rel F v x → τ'.rel F v x) : XE G X e Γ τ' c := fun H0 F H σ cf E Qd hr Q q =>
  h H0 F H σ cf E Qd hr Q fun y v F' H' d k cf' r' => q y v F' H' d k cf' (r _ _ _ r')
/-- .. through a function -/
theorem xe_map {c : m α} (h : XE G X e Γ τ c) (f : α → β) (r : ∀ F v x, τ.rel F v x → υ.rel F v (f x)) : XE G X e Γ υ (bnd c fun x => ret (f x)) := fun H0 F H σ cf E Qd hr Q q =>
  h H0 F H σ cf E _ (run_bnd hr) Q fun y v F' H' d k cf' r' => q (f y) v F' H' (run_ret d) k cf' (r _ _ _ r')
theorem xe_some {c : m α} (h : XE G X e Γ τ c) (nn : ∀ F v x, τ.rel F v x → v ≠ .non) : XE G X e Γ (TOpt τ) (bnd c fun x => ret (some x)) := xe_map h some fun F v x r => ⟨nn F v x r, r⟩
/-- what is there -/
theorem xe_the {c : m (Option α)} (h : XE G X e Γ (TOpt τ) c) : XE G X e Γ τ (bnd c fun x => opt x) := fun H0 F H σ cf E Qd hr Q q =>
  h H0 F H σ cf E _ (run_bnd hr) Q fun y v F' H' d k cf' r' => by
    obtain ⟨z, e, d2⟩ := run_opt d
    subst e
    exact q z v F' H' d2 k cf' r'.2
/-- a mirror that is another -/
theorem xe_eq {c c' : m α} (h : XE G X e Γ τ c) (e : c = c') : XE G X e' Γ τ c → XE G X e' Γ τ c' := fun h => e ▸ h

/-! ### two operands -/
def RB (G : Gs) (r : R2) (τ : Ty α) (υ : Ty β) (φ : Ty γ) (k : α → β → m γ) : Prop := ∀ (F H : Hp) (v w : V) (x : α) (y : β), Cf G F H → τ.rel F v x → υ.rel F w y → ∀ Qd : γ → Prop, run (k x y) Qd →
  ∀ Q : VK, (∀ z u F' H', Qd z → Step G F H F' H' → Cf G F' H' → φ.rel F' u z → Q u H') → r v w H Q
theorem rb_pure {r : R2} {k : α → β → γ} (h : ∀ (F H : Hp) (v w : V) (x : α) (y : β), Cf G F H → τ.rel F v x → υ.rel F w y → ∃ u, φ.rel F u (k x y) ∧ ∀ Q : VK, Q u H → r v w H Q) : RB G r τ υ φ (fun x y => (ret (k x y) : m γ)) := by
  intro F H v w x y cf rx ry Qd hr Q q
  obtain ⟨u, ru, g⟩ := h F H v w x y cf rx ry
  exact g Q (q _ u F H (run_ret hr) Step.refl cf ru)
theorem rb_opt {r : R2} {k : α → β → Option γ} (h : ∀ (F H : Hp) (v w : V) (x : α) (y : β) (z : γ), Cf G F H → τ.rel F v x → υ.rel F w y → k x y = some z → ∃ u, φ.rel F u z ∧ ∀ Q : VK, Q u H → r v w H Q) : RB G r τ υ φ (fun x y => (opt (k x y) : m γ)) := by
  intro F H v w x y cf rx ry Qd hr Q q
  obtain ⟨z, ez, d⟩ := run_opt hr
  obtain ⟨u, ru, g⟩ := h F H v w x y z cf rx ry ez
  exact g Q (q z u F H d Step.refl cf ru)
theorem tOp_x {ca : m α} {cb : m β} {k : α → β → m γ} {r : R2} (hr : RB G r τ υ φ k) (ha : XE G X a Γ τ ca) (hb : XE G X b Γ υ cb) : ∀ (H0 F H : Hp) (σ : L2.St), Cf G F H → En G H0 F H σ Γ → ∀ Qd : γ → Prop, run (bnd ca fun x => bnd cb fun y => k x y) Qd →
    ∀ Q : VK, (∀ y v F' H', Qd y → Step G F H F' H' → Cf G F' H' → φ.rel F' v y → Q v H') → tOp r (semE X a) (semE X b) σ H Q := by
  intro H0 F H σ cf E Qd hrun Q q
  refine ha H0 F H σ cf E _ (run_bnd hrun) _ fun x v F1 H1 d1 k1 cf1 r1 => ?_
  refine hb H0 F1 H1 σ cf1 (E.step k1) _ (run_bnd d1) _ fun y w F2 H2 d2 k2 cf2 r2 => ?_
  exact hr F2 H2 v w x y cf2 (τ.mono k2.ex r1) r2 Qd d2 Q fun z u F3 H3 d3 k3 cf3 r3 => q z u F3 H3 d3 ((k1.trans k2).trans k3) cf3 r3
theorem xe_op {ca : m α} {cb : m β} {k : α → β → m γ} {r : R2} (ho : OpR X (binaryOp op) r) (hr : RB G r τ υ φ k) (ha : XE G X a Γ τ ca) (hb : XE G X b Γ υ cb) : XE G X (.BinOp a op b pos) Γ φ (bnd ca fun x => bnd cb fun y => k x y) :=
  fun H0 F H σ cf E Qd hrun Q q => (pe_op ho pe_sem pe_sem).sem (tOp_x hr ha hb H0 F H σ cf E Qd hrun Q q)
theorem xe_cmp {ca : m α} {cb : m β} {k : α → β → m γ} {r : R2} (ho : OpR X (compareOp cop) r) (hr : RB G r τ υ φ k) (ha : XE G X a Γ τ ca) (hb : XE G X b Γ υ cb) (hm : behindInMarks cop b = false) : XE G X (.Compare a [cop] [b] pos) Γ φ (bnd ca fun x => bnd cb fun y => k x y) :=
  fun H0 F H σ cf E Qd hrun Q q => (pe_cmpR ho pe_sem pe_sem hm).sem (tOp_x hr ha hb H0 F H σ cf E Qd hrun Q q)
theorem xt_cmp {ca : m α} {cb : m β} {k : α → β → m Bool} {r : R2} (ho : OpR X (compareOp cop) r) (hr : RB G r τ υ TBool k) (ha : XE G X a Γ τ ca) (hb : XE G X b Γ υ cb) (hm : behindInMarks cop b = false) : XT G X (.Compare a [cop] [b] pos) Γ (bnd ca fun x => bnd cb fun y => k x y) :=
  fun H0 F H σ cf E Qd hrun Q q => (pt_cmpR ho pe_sem pe_sem hm).sem (tOp_x hr ha hb H0 F H σ cf E Qd hrun _ fun y v F' H' d k c r => ⟨y, r, q y F' H' d k c⟩)
theorem xe_ix {ca : m α} {cb : m β} {k : α → β → m γ} {r : R2} (ho : IxR X r) (hr : RB G r τ υ φ k) (ha : XE G X a Γ τ ca) (hb : XE G X b Γ υ cb) (hs : PlainIx b) : XE G X (.Subscript a b pos) Γ φ (bnd ca fun x => bnd cb fun y => k x y) :=
  fun H0 F H σ cf E Qd hrun Q q => (pe_ix ho pe_sem pe_sem hs).sem (tOp_x hr ha hb H0 F H σ cf E Qd hrun Q q)

theorem rb_add : RB G (rI0 fun i j => .int (i + j)) TInt TInt TInt (fun i j => (ret (i + j) : m Int)) := rb_pure fun F H v w x y cf rx ry => ⟨.int (x + y), rfl, fun Q q => ⟨x, y, rx, ry, q⟩⟩
theorem rb_sub : RB G (rI0 fun i j => .int (i - j)) TInt TInt TInt (fun i j => (ret (i - j) : m Int)) := rb_pure fun F H v w x y cf rx ry => ⟨.int (x - y), rfl, fun Q q => ⟨x, y, rx, ry, q⟩⟩
/-- one factor is small -/
def mulC (i j : Int) : Option Int := if (i.natAbs < 18446744073709551616 ∨ j.natAbs < 18446744073709551616) then some (i * j) else none
theorem rb_mul : RB G (rI CMul fun i j => .int (i * j)) TInt TInt TInt (fun i j => (opt (mulC i j) : m Int)) := rb_opt fun F H v w x y z cf rx ry e => by
  unfold mulC at e
  split at e
  · rename_i h
    cases e
    refine ⟨.int (x * y), rfl, fun Q q => ⟨x, y, rx, ry, ?_, q⟩⟩
    rcases h with h | h
    · exact .inl (by omega)
    · exact .inr (by omega)
  · cases e
/-- a divisor above 0 (and, in //, below 2^30) -/
def modC (i j : Int) : Option Int := if 0 < j then some (i % j) else none
theorem rb_mod : RB G (rI (fun _ j => 0 < j) fun i j => .int (i % j)) TInt TInt TInt (fun i j => (opt (modC i j) : m Int)) := rb_opt fun F H v w x y z cf rx ry e => by
  unfold modC at e
  split at e
  · rename_i h
    cases e
    exact ⟨.int (x % y), rfl, fun Q q => ⟨x, y, rx, ry, h, q⟩⟩
  · cases e
def divC (i j : Int) : Option Int := if 0 < j ∧ j < 1073741824 then some (i / j) else none
theorem rb_div : RB G (rI CDiv fun i j => .int (i / j)) TInt TInt TInt (fun i j => (opt (divC i j) : m Int)) := rb_opt fun F H v w x y z cf rx ry e => by
  unfold divC at e
  split at e
  · rename_i h
    cases e
    exact ⟨.int (x / y), rfl, fun Q q => ⟨x, y, rx, ry, h, q⟩⟩
  · cases e
theorem rb_lt : RB G (rI0 fun i j => .bl (decide (i < j))) TInt TInt TBool (fun i j => (ret (decide (i < j)) : m Bool)) := rb_pure fun F H v w x y cf rx ry => ⟨.bl (decide (x < y)), rfl, fun Q q => ⟨x, y, rx, ry, q⟩⟩
theorem rb_le : RB G (rI0 fun i j => .bl (decide (i ≤ j))) TInt TInt TBool (fun i j => (ret (decide (i ≤ j)) : m Bool)) := rb_pure fun F H v w x y cf rx ry => ⟨.bl (decide (x ≤ y)), rfl, fun Q q => ⟨x, y, rx, ry, q⟩⟩
theorem rb_gt : RB G (rI0 fun i j => .bl (decide (j < i))) TInt TInt TBool (fun i j => (ret (decide (j < i)) : m Bool)) := rb_pure fun F H v w x y cf rx ry => ⟨.bl (decide (y < x)), rfl, fun Q q => ⟨x, y, rx, ry, q⟩⟩
theorem rb_ge : RB G (rI0 fun i j => .bl (decide (j ≤ i))) TInt TInt TBool (fun i j => (ret (decide (j ≤ i)) : m Bool)) := rb_pure fun F H v w x y cf rx ry => ⟨.bl (decide (y ≤ x)), rfl, fun Q q => ⟨x, y, rx, ry, q⟩⟩
theorem rb_eqI : RB G rEq TInt TInt TBool (fun i j => (ret (decide (i = j)) : m Bool)) := rb_pure fun F H v w x y cf rx ry => ⟨.bl (decide (x = y)), rfl, fun Q q => by
  cases (show v = .int x from rx)
  cases (show w = .int y from ry)
  refine ⟨rfl, ?_⟩
  have h : decide (V.int x = V.int y) = decide (x = y) := by
    rw [dec_int]
    exact Bool.beq_eq_decide_eq x y
  rw [h]
  exact q⟩
theorem rb_neI : RB G rNe TInt TInt TBool (fun i j => (ret (!decide (i = j)) : m Bool)) := rb_pure fun F H v w x y cf rx ry => ⟨.bl (!decide (x = y)), rfl, fun Q q => by
  cases (show v = .int x from rx)
  cases (show w = .int y from ry)
  refine ⟨rfl, ?_⟩
  have h : decide (V.int x = V.int y) = decide (x = y) := by
    rw [dec_int]
    exact Bool.beq_eq_decide_eq x y
  rw [h]
  exact q⟩
/-! ### is None -/
theorem xe_isN {j : Nat} {pos' : Pos} {c : m (Option α)} (h : XE G X a Γ (TOpt τ) c) : XE G X (.Compare a [.Is] [.Constant .none j pos'] pos) Γ TBool (bnd c fun x => ret x.isNone) := by
  intro H0 F H σ cf E Qd hr Q q
  refine (pe_cmp (pc_isN pe_sem)).sem ?_
  refine h H0 F H σ cf E _ (run_bnd hr) _ fun x v F1 H1 d1 k1 cf1 r1 => ?_
  have ev : decide (v = V.non) = x.isNone := by
    cases x with
    | none => exact decide_eq_true r1
    | some y => exact decide_eq_false r1.1
  rw [ev]
  exact q _ _ F1 H1 (run_ret d1) k1 cf1 rfl
theorem xe_notN {j : Nat} {pos' : Pos} {c : m (Option α)} (h : XE G X a Γ (TOpt τ) c) : XE G X (.Compare a [.IsNot] [.Constant .none j pos'] pos) Γ TBool (bnd c fun x => ret x.isSome) := by
  intro H0 F H σ cf E Qd hr Q q
  refine (pe_cmp (pc_notN pe_sem)).sem ?_
  refine h H0 F H σ cf E _ (run_bnd hr) _ fun x v F1 H1 d1 k1 cf1 r1 => ?_
  have ev : (!decide (v = V.non)) = x.isSome := by
    cases x with
    | none => rw [decide_eq_true (show v = V.non from r1)]; rfl
    | some y => rw [decide_eq_false (show ¬ v = V.non from r1.1)]; rfl
  rw [ev]
  exact q _ _ F1 H1 (run_ret d1) k1 cf1 rfl

/-! ### one operand -/
theorem xe_neg {c : m Int} (h : XE G X a Γ TInt c) : XE G X (.UnaryOp .USub a pos) Γ TInt (bnd c fun i => ret (-i)) := by
  intro H0 F H σ cf E Qd hr Q q
  refine (pe_un un_neg pe_sem).sem ?_
  refine h H0 F H σ cf E _ (run_bnd hr) _ fun x v F1 H1 d1 k1 cf1 r1 => ?_
  exact ⟨x, r1, q _ _ F1 H1 (run_ret d1) k1 cf1 rfl⟩
theorem xe_not {c : m Bool} (h : XE G X a Γ TBool c) : XE G X (.UnaryOp .Not a pos) Γ TBool (bnd c fun i => ret (!i)) := by
  intro H0 F H σ cf E Qd hr Q q
  refine (pe_not pe_sem).sem ?_
  refine h H0 F H σ cf E _ (run_bnd hr) _ fun x v F1 H1 d1 k1 cf1 r1 => ?_
  exact ⟨x, r1, q _ _ F1 H1 (run_ret d1) k1 cf1 rfl⟩

/-! ### tests -/
/-- a value that is True or False, as a test: a name, a call, a comparison -/
theorem xt_val {c : m Bool} (h : XE G X e Γ TBool c) (he : ∀ whole, isTrue e X.env whole = (do let v ← whole; standAt e.pos; holding [v] (truthy v)) := by intro _; kernel_rfl) : XT G X e Γ c := by
  intro H0 F H σ cf E Qd hr Q q
  refine (pt_val pe_sem he).sem ?_
  exact h H0 F H σ cf E Qd hr _ fun x v F1 H1 d1 k1 cf1 r1 => ⟨x, r1, q _ F1 H1 d1 k1 cf1⟩
theorem xt_isN {j : Nat} {pos' : Pos} {c : m (Option α)} (h : XE G X a Γ (TOpt τ) c) : XT G X (.Compare a [.Is] [.Constant .none j pos'] pos) Γ (bnd c fun x => ret x.isNone) := by
  intro H0 F H σ cf E Qd hr Q q
  refine (pt_cmp (pc_isN pe_sem)).sem ?_
  refine h H0 F H σ cf E _ (run_bnd hr) _ fun x v F1 H1 d1 k1 cf1 r1 => ⟨_, rfl, ?_⟩
  have ev : decide (v = V.non) = x.isNone := by
    cases x with
    | none => exact decide_eq_true r1
    | some y => exact decide_eq_false r1.1
  rw [ev]
  exact q _ F1 H1 (run_ret d1) k1 cf1
theorem xt_notN {j : Nat} {pos' : Pos} {c : m (Option α)} (h : XE G X a Γ (TOpt τ) c) : XT G X (.Compare a [.IsNot] [.Constant .none j pos'] pos) Γ (bnd c fun x => ret x.isSome) := by
  intro H0 F H σ cf E Qd hr Q q
  refine (pt_cmp (pc_notN pe_sem)).sem ?_
  refine h H0 F H σ cf E _ (run_bnd hr) _ fun x v F1 H1 d1 k1 cf1 r1 => ⟨_, rfl, ?_⟩
  have ev : (!decide (v = V.non)) = x.isSome := by
    cases x with
    | none => rw [decide_eq_true (show v = V.non from r1)]; rfl
    | some y => rw [decide_eq_false (show ¬ v = V.non from r1.1)]; rfl
  rw [ev]
  exact q _ F1 H1 (run_ret d1) k1 cf1
theorem xt_not {c : m Bool} (h : XT G X a Γ c) : XT G X (.UnaryOp .Not a pos) Γ (bnd c fun i => ret (!i)) := by
  intro H0 F H σ cf E Qd hr Q q
  refine (pt_not pt_sem).sem ?_
  exact h H0 F H σ cf E _ (run_bnd hr) _ fun x F1 H1 d1 k1 cf1 => q _ F1 H1 (run_ret d1) k1 cf1
theorem xt_w {c : m Bool} (h : XW G X e Γ c) : XT G X e Γ c := by
  intro H0 F H σ cf E Qd hr Q q
  refine (PW.pt pw_sem).sem ?_
  exact h H0 F H σ cf E Qd hr Q q
theorem xw_and1 {c : m Bool} (h : XT G X a Γ c) : XW G X (.BoolOp .And [a] pos) Γ c := by
  intro H0 F H σ cf E Qd hr Q q
  refine (pw_and1 pt_sem).sem ?_
  exact h H0 F H σ cf E Qd hr Q q
theorem xw_or1 {c : m Bool} (h : XT G X a Γ c) : XW G X (.BoolOp .Or [a] pos) Γ c := by
  intro H0 F H σ cf E Qd hr Q q
  refine (pw_or1 pt_sem).sem ?_
  exact h H0 F H σ cf E Qd hr Q q
theorem xw_and {rest : List Expr} {ca cb : m Bool} (ha : XT G X a Γ ca) (hb : XW G X (.BoolOp .And (b :: rest) pos) Γ cb) : XW G X (.BoolOp .And (a :: b :: rest) pos) Γ (bnd ca fun k => if k then cb else ret false) := by
  intro H0 F H σ cf E Qd hr Q q
  refine (pw_and pt_sem pw_sem).sem ?_
  refine ha H0 F H σ cf E _ (run_bnd hr) _ fun x F1 H1 d1 k1 cf1 => ?_
  cases x with
  | true => exact hb H0 F1 H1 σ cf1 (E.step k1) Qd d1 Q fun y F2 H2 d2 k2 cf2 => q y F2 H2 d2 (k1.trans k2) cf2
  | false => exact q false F1 H1 (run_ret d1) k1 cf1
theorem xw_or {rest : List Expr} {ca cb : m Bool} (ha : XT G X a Γ ca) (hb : XW G X (.BoolOp .Or (b :: rest) pos) Γ cb) : XW G X (.BoolOp .Or (a :: b :: rest) pos) Γ (bnd ca fun k => if k then ret true else cb) := by
  intro H0 F H σ cf E Qd hr Q q
  refine (pw_or pt_sem pw_sem).sem ?_
  refine ha H0 F H σ cf E _ (run_bnd hr) _ fun x F1 H1 d1 k1 cf1 => ?_
  cases x with
  | true => exact q true F1 H1 (run_ret d1) k1 cf1
  | false => exact hb H0 F1 H1 σ cf1 (E.step k1) Qd d1 Q fun y F2 H2 d2 k2 cf2 => q y F2 H2 d2 (k1.trans k2) cf2
/-! ### and, or as values (True, False) -/
theorem xe_one {op : BoolOp} {c : m α} (h : XE G X a Γ τ c) : XE G X (.BoolOp op [a] pos) Γ τ c := fun H0 F H σ cf E Qd hr Q q => (pe_one pe_sem).sem (h H0 F H σ cf E Qd hr Q q)
theorem xe_and {rest : List Expr} {ca cb : m Bool} (ha : XE G X a Γ TBool ca) (hb : XE G X (.BoolOp .And (b :: rest) pos) Γ TBool cb) : XE G X (.BoolOp .And (a :: b :: rest) pos) Γ TBool (bnd ca fun k => if k then cb else ret false) := by
  intro H0 F H σ cf E Qd hr Q q
  refine (pe_and pe_sem pe_sem).sem ?_
  refine ha H0 F H σ cf E _ (run_bnd hr) _ fun x v F1 H1 d1 k1 cf1 r1 => ⟨x, r1, ?_⟩
  cases x with
  | true => exact hb H0 F1 H1 σ cf1 (E.step k1) Qd d1 Q fun y v F2 H2 d2 k2 cf2 r2 => q y v F2 H2 d2 (k1.trans k2) cf2 r2
  | false => exact q false _ F1 H1 (run_ret d1) k1 cf1 rfl
theorem xe_or {rest : List Expr} {ca cb : m Bool} (ha : XE G X a Γ TBool ca) (hb : XE G X (.BoolOp .Or (b :: rest) pos) Γ TBool cb) : XE G X (.BoolOp .Or (a :: b :: rest) pos) Γ TBool (bnd ca fun k => if k then ret true else cb) := by
  intro H0 F H σ cf E Qd hr Q q
  refine (pe_or pe_sem pe_sem).sem ?_
  refine ha H0 F H σ cf E _ (run_bnd hr) _ fun x v F1 H1 d1 k1 cf1 r1 => ⟨x, r1, ?_⟩
  cases x with
  | true => exact q true _ F1 H1 (run_ret d1) k1 cf1 rfl
  | false => exact hb H0 F1 H1 σ cf1 (E.step k1) Qd d1 Q fun y v F2 H2 d2 k2 cf2 r2 => q y v F2 H2 d2 (k1.trans k2) cf2 r2
/-! ### a if t else b -/
theorem xe_if {c : Expr} {ct : m Bool} {ca cb : m α} (hc : XT G X c Γ ct) (ha : XE G X a Γ τ ca) (hb : XE G X b Γ τ cb) : XE G X (.IfExp c a b pos) Γ τ (bnd ct fun k => if k then ca else cb) := by
  intro H0 F H σ cf E Qd hr Q q
  refine (pe_ifExp pt_sem pe_sem pe_sem).sem ?_
  refine hc H0 F H σ cf E _ (run_bnd hr) _ fun x F1 H1 d1 k1 cf1 => ?_
  cases x with
  | true => exact ha H0 F1 H1 σ cf1 (E.step k1) Qd d1 Q fun y v F2 H2 d2 k2 cf2 r2 => q y v F2 H2 d2 (k1.trans k2) cf2 r2
  | false => exact hb H0 F1 H1 σ cf1 (E.step k1) Qd d1 Q fun y v F2 H2 d2 k2 cf2 r2 => q y v F2 H2 d2 (k1.trans k2) cf2 r2
/-! ### a < b < c (two comparisons) -/
theorem xe_chain {c : Expr} {cop' : CmpOp} {r r' : R2} {ca : m α} {cb : m β} {cc : m γ} {k : α → β → m Bool} {k' : β → γ → m Bool} (ho : OpR X (compareOp cop) r) (ho' : OpR X (compareOp cop') r') (hr : RB G r τ υ TBool k) (hr' : RB G r' υ φ TBool k')
    (ha : XE G X a Γ τ ca) (hb : XE G X b Γ υ cb) (hc : XE G X c Γ φ cc) (hm : lastMarks [cop, cop'] [b, c] = false := by kernel_rfl) :
    XE G X (.Compare a [cop, cop'] [b, c] pos) Γ TBool (bnd ca fun x => bnd cb fun y => bnd (k x y) fun t => if t then bnd cc fun z => k' y z else ret false) := by
  intro H0 F H σ cf E Qd hrun Q q
  refine (pe_chain ho ho' pe_sem pe_sem pe_sem hm).sem ?_
  refine ha H0 F H σ cf E _ (run_bnd hrun) _ fun x v F1 H1 d1 k1 cf1 r1 => ?_
  refine hb H0 F1 H1 σ cf1 (E.step k1) _ (run_bnd d1) _ fun y w F2 H2 d2 k2 cf2 r2 => ?_
  refine hr F2 H2 v w x y cf2 (τ.mono k2.ex r1) r2 _ (run_bnd d2) _ fun t u F3 H3 d3 k3 cf3 r3 => ⟨t, r3, ?_⟩
  cases t with
  | true =>
    refine hc H0 F3 H3 σ cf3 (((E.step k1).step k2).step k3) _ (run_bnd d3) _ fun z u F4 H4 d4 k4 cf4 r4 => ?_
    exact hr' F4 H4 w u y z cf4 (υ.mono (k3.trans k4).ex r2) r4 Qd d4 Q fun z u F5 H5 d5 k5 cf5 r5 => q z u F5 H5 d5 ((((k1.trans k2).trans k3).trans k4).trans k5) cf5 r5
  | false => exact q false _ F3 H3 (run_ret d3) ((k1.trans k2).trans k3) cf3 rfl

/-! ### arguments, displays, calls -/
theorem xa_nil : XA G X [] Γ aNil (ret () : m Unit) := by
  intro H0 F H σ cf E Qd hr Q q
  exact pa_nil.sem (q () [] F H (run_ret hr) Step.refl cf rfl)
theorem xa_cons {as : ATy β} {c : m α} {cs : m β} (h : XE G X e Γ τ c) (hr : XA G X es Γ as cs) (hs : starEach (e :: es) X.env = (false, eval e X.env) :: starEach es X.env := by kernel_rfl) :
    XA G X (e :: es) Γ (aCons τ as) (bnd c fun x => bnd cs fun r => ret (x, r)) := by
  intro H0 F H σ cf E Qd hrun Q q
  refine (pa_cons pe_sem pa_sem hs).sem ?_
  refine h H0 F H σ cf E _ (run_bnd hrun) _ fun x v F1 H1 d1 k1 cf1 r1 => ?_
  refine hr H0 F1 H1 σ cf1 (E.step k1) _ (run_bnd d1) _ fun y vs F2 H2 d2 k2 cf2 r2 => ?_
  exact q (x, y) (v :: vs) F2 H2 (run_ret d2) (k1.trans k2) cf2 ⟨v, vs, rfl, τ.mono k2.ex r1, r2⟩
/-- a display of things of one type -/
def XL (G : Gs) (X : Cx) (es : List Expr) (Γ : Ga) (τ : Ty α) (c : m (List α)) : Prop := ∀ (H0 F H : Hp) (σ : L2.St), Cf G F H → En G H0 F H σ Γ → ∀ Qd : List α → Prop, run c Qd →
  ∀ Q : List V → Hp → Prop, (∀ y vs F' H', Qd y → Step G F H F' H' → Cf G F' H' → Paired (τ.rel F') vs y → vs.length = es.length → Q vs H') → semA X es σ H Q
theorem xl_nil : XL G X [] Γ τ (ret [] : m (List α)) := by
  intro H0 F H σ cf E Qd hr Q q
  exact pa_nil.sem (q [] [] F H (run_ret hr) Step.refl cf .nil rfl)
theorem xl_cons {c : m α} {cs : m (List α)} (h : XE G X e Γ τ c) (hr : XL G X es Γ τ cs) (hs : starEach (e :: es) X.env = (false, eval e X.env) :: starEach es X.env := by kernel_rfl) :
    XL G X (e :: es) Γ τ (bnd c fun x => bnd cs fun r => ret (x :: r)) := by
  intro H0 F H σ cf E Qd hrun Q q
  refine (pa_cons pe_sem pa_sem hs).sem ?_
  refine h H0 F H σ cf E _ (run_bnd hrun) _ fun x v F1 H1 d1 k1 cf1 r1 => ?_
  refine hr H0 F1 H1 σ cf1 (E.step k1) _ (run_bnd d1) _ fun y vs F2 H2 d2 k2 cf2 r2 l2 => ?_
  exact q (x :: y) (v :: vs) F2 H2 (run_ret d2) (k1.trans k2) cf2 (.cons (τ.mono k2.ex r1) r2) (by rw [List.length_cons, List.length_cons, l2])
theorem paired_ext {F F' : Hp} (e : Same F F') {vs : List V} {xs : List α} (h : Paired (τ.rel F) vs xs) : Paired (τ.rel F') vs xs := pmono (fun _ _ r => τ.mono e r) h
theorem upd_ext {F : Hp} {p : Addr} {o : HO} (h : F p = none) : Same F (upd F p o) := fun b u e => by rw [upd_ne (ne_of_none e h)]; exact e
theorem xe_tup {x1 : Nat} {c : m (List α)} (h : XL G X es Γ τ c) (hl : es.length ≤ 1000 := by decide) : XE G X (.Tuple es x1 pos) Γ (TTup τ) c := by
  intro H0 F H σ cf E Qd hr Q q
  refine (pe_tup pa_sem).sem ?_
  refine h H0 F H σ cf E Qd hr _ fun y vs F1 H1 d1 k1 cf1 r1 l1 => ⟨by rw [l1]; exact Nat.le_trans hl (by decide), fun p hp => ?_⟩
  obtain ⟨cf2, k2⟩ := cf_new (o := .tup vs) cf1 hp
  exact q y (.ref p) _ _ d1 (k1.trans k2) cf2 ⟨p, .tup vs, rfl, upd_same, vs, rfl, paired_ext k2.ex r1⟩
theorem xe_lst {c : m (List α)} (h : XL G X es Γ τ c) (hl : es.length ≤ 1000 := by decide) : XE G X (.List es pos) Γ (TLst τ) c := by
  intro H0 F H σ cf E Qd hr Q q
  refine (pe_lst pa_sem).sem ?_
  refine h H0 F H σ cf E Qd hr _ fun y vs F1 H1 d1 k1 cf1 r1 l1 => ⟨by rw [l1]; exact Nat.le_trans hl (by decide), fun p hp => ?_⟩
  obtain ⟨cf2, k2⟩ := cf_new (o := .lst vs) cf1 hp
  exact q y (.ref p) _ _ d1 (k1.trans k2) cf2 ⟨p, .lst vs, rfl, upd_same, vs, rfl, paired_ext k2.ex r1⟩
/-- (a, b) -/
theorem xe_t2 {x1 : Nat} {ca : m α} {cb : m β} (ha : XE G X a Γ τ ca) (hb : XE G X b Γ υ cb) (hs : starEach [a, b] X.env = [(false, eval a X.env), (false, eval b X.env)] := by kernel_rfl) (hs2 : starEach [b] X.env = [(false, eval b X.env)] := by kernel_rfl) :
    XE G X (.Tuple [a, b] x1 pos) Γ (T2 τ υ) (bnd ca fun x => bnd cb fun y => ret (x, y)) := by
  intro H0 F H σ cf E Qd hr Q q
  refine (pe_tup (pa_cons pe_sem (pa_cons pe_sem pa_nil hs2) (by rw [hs, hs2]))).sem ?_
  refine ha H0 F H σ cf E _ (run_bnd hr) _ fun x v F1 H1 d1 k1 cf1 r1 => ?_
  refine hb H0 F1 H1 σ cf1 (E.step k1) _ (run_bnd d1) _ fun y w F2 H2 d2 k2 cf2 r2 => ⟨by show 2 ≤ sizeLine; decide, fun p hp => ?_⟩
  obtain ⟨cf3, k3⟩ := cf_new (o := .tup [v, w]) cf2 hp
  exact q (x, y) (.ref p) _ _ (run_ret d2) ((k1.trans k2).trans k3) cf3 ⟨p, .tup [v, w], rfl, upd_same, v, w, rfl, τ.mono (k2.trans k3).ex r1, υ.mono k3.ex r2⟩
theorem xe_t3 {x1 : Nat} {d : Expr} {ca : m α} {cb : m β} {cd : m γ} (ha : XE G X a Γ τ ca) (hb : XE G X b Γ υ cb) (hd : XE G X d Γ φ cd) (hs : starEach [a, b, d] X.env = [(false, eval a X.env), (false, eval b X.env), (false, eval d X.env)] := by kernel_rfl)
    (hs2 : starEach [b, d] X.env = [(false, eval b X.env), (false, eval d X.env)] := by kernel_rfl) (hs3 : starEach [d] X.env = [(false, eval d X.env)] := by kernel_rfl) :
    XE G X (.Tuple [a, b, d] x1 pos) Γ (T3 τ υ φ) (bnd ca fun x => bnd cb fun y => bnd cd fun z => ret (x, y, z)) := by
  intro H0 F H σ cf E Qd hr Q q
  refine (pe_tup (pa_cons pe_sem (pa_cons pe_sem (pa_cons pe_sem pa_nil hs3) (by rw [hs2, hs3])) (by rw [hs, hs2]))).sem ?_
  refine ha H0 F H σ cf E _ (run_bnd hr) _ fun x v F1 H1 d1 k1 cf1 r1 => ?_
  refine hb H0 F1 H1 σ cf1 (E.step k1) _ (run_bnd d1) _ fun y w F2 H2 d2 k2 cf2 r2 => ?_
  refine hd H0 F2 H2 σ cf2 ((E.step k1).step k2) _ (run_bnd d2) _ fun z u F3 H3 d3 k3 cf3 r3 => ⟨by show 3 ≤ sizeLine; decide, fun p hp => ?_⟩
  obtain ⟨cf4, k4⟩ := cf_new (o := .tup [v, w, u]) cf3 hp
  exact q (x, y, z) (.ref p) _ _ (run_ret d3) (((k1.trans k2).trans k3).trans k4) cf4 ⟨p, .tup [v, w, u], rfl, upd_same, v, w, u, rfl, τ.mono ((k2.trans k3).trans k4).ex r1, υ.mono (k3.trans k4).ex r2, φ.mono k4.ex r3⟩

/-! ### calls of built-ins -/
def RC (G : Gs) (r : List V → Hp → VK → Prop) (as : ATy α) (φ : Ty γ) (k : α → m γ) : Prop := ∀ (F H : Hp) (vs : List V) (x : α), Cf G F H → as.rel F vs x → ∀ Qd : γ → Prop, run (k x) Qd →
  ∀ Q : VK, (∀ z u F' H', Qd z → Step G F H F' H' → Cf G F' H' → φ.rel F' u z → Q u H') → r vs H Q
theorem rc_pure {r : List V → Hp → VK → Prop} {as : ATy α} {k : α → γ} (h : ∀ (F H : Hp) (vs : List V) (x : α), Cf G F H → as.rel F vs x → ∃ u, φ.rel F u (k x) ∧ ∀ Q : VK, Q u H → r vs H Q) : RC G r as φ (fun x => (ret (k x) : m γ)) := by
  intro F H vs x cf rx Qd hr Q q
  obtain ⟨u, ru, g⟩ := h F H vs x cf rx
  exact g Q (q _ u F H (run_ret hr) Step.refl cf ru)
theorem rc_opt {r : List V → Hp → VK → Prop} {as : ATy α} {k : α → Option γ} (h : ∀ (F H : Hp) (vs : List V) (x : α) (z : γ), Cf G F H → as.rel F vs x → k x = some z → ∃ u, φ.rel F u z ∧ ∀ Q : VK, Q u H → r vs H Q) : RC G r as φ (fun x => (opt (k x) : m γ)) := by
  intro F H vs x cf rx Qd hr Q q
  obtain ⟨z, ez, d⟩ := run_opt hr
  obtain ⟨u, ru, g⟩ := h F H vs x z cf rx ez
  exact g Q (q _ u F H d Step.refl cf ru)
theorem tCB_x {r : List V → Hp → VK → Prop} {as : ATy α} {ca : m α} {k : α → m γ} (hr : RC G r as φ k) (ha : XA G X es Γ as ca) : ∀ (H0 F H : Hp) (σ : L2.St), Cf G F H → En G H0 F H σ Γ → ∀ Qd : γ → Prop, run (bnd ca k) Qd →
    ∀ Q : VK, (∀ y v F' H', Qd y → Step G F H F' H' → Cf G F' H' → φ.rel F' v y → Q v H') → tCB r (semA X es) σ H Q := by
  intro H0 F H σ cf E Qd hrun Q q
  refine ha H0 F H σ cf E _ (run_bnd hrun) _ fun x vs F1 H1 d1 k1 cf1 r1 => ?_
  exact hr F1 H1 vs x cf1 r1 Qd d1 Q fun z u F2 H2 d2 k2 cf2 r2 => q z u F2 H2 d2 (k1.trans k2) cf2 r2
theorem xe_callB {x : Str} {id : String} {p : Pos} {r : List V → Hp → VK → Prop} {as : ATy α} {ca : m α} {k : α → m γ} (hc : CallR X (.builtin id) r) (hr : RC G r as φ k) (hm : X.mg x = none) (hv : bootBuiltins x = some (.builtin id)) (ha : XA G X (e :: es) Γ as ca)
    (hg : Gl X x := by show _ = _; kernel_rfl) (hn : x ≠ "__name__" := by decide) (hdb : (x == ("__debug__" : Str)) = false := by kernel_rfl)
    (he : starEach (e :: es) X.env = (false, eval e X.env) :: starEach es X.env := by kernel_rfl) (hpl : (backTo pos (starEach es X.env)).any (·.1) = false := by kernel_rfl) : XE G X (.Call (.Name x p) (e :: es) [] pos) Γ φ (bnd ca k) :=
  fun H0 F H σ cf E Qd hrun Q q => (pe_callB hc hg hm hv pa_sem hn hdb he hpl).sem (tCB_x hr ha H0 F H σ cf E Qd hrun Q q)
theorem xe_callTy {x : Str} {T : String} {p : Pos} {r : List V → Hp → VK → Prop} {as : ATy α} {ca : m α} {k : α → m γ} (hc : CallR X (.type T) r) (hr : RC G r as φ k) (hm : X.mg x = none) (hv : bootBuiltins x = some (.type T)) (ha : XA G X (e :: es) Γ as ca)
    (hg : Gl X x := by show _ = _; kernel_rfl) (hn : x ≠ "__name__" := by decide) (hdb : (x == ("__debug__" : Str)) = false := by kernel_rfl)
    (he : starEach (e :: es) X.env = (false, eval e X.env) :: starEach es X.env := by kernel_rfl) (hpl : (backTo pos (starEach es X.env)).any (·.1) = false := by kernel_rfl) : XE G X (.Call (.Name x p) (e :: es) [] pos) Γ φ (bnd ca k) :=
  fun H0 F H σ cf E Qd hrun Q q => (pe_callTy hc hg hm hv pa_sem hn hdb he hpl).sem (tCB_x hr ha H0 F H σ cf E Qd hrun Q q)
abbrev a1 (τ : Ty α) : ATy (α × Unit) := aCons τ aNil
abbrev a2 (τ : Ty α) (υ : Ty β) : ATy (α × β × Unit) := aCons τ (aCons υ aNil)
theorem a1_rel {F : Hp} {vs : List V} {x : α × Unit} (h : (a1 τ).rel F vs x) : ∃ v, vs = [v] ∧ τ.rel F v x.1 := by
  obtain ⟨v, r, e, h1, h2⟩ := h
  cases (show r = [] from h2)
  exact ⟨v, e, h1⟩
theorem a2_rel {F : Hp} {vs : List V} {x : α × β × Unit} (h : (a2 τ υ).rel F vs x) : ∃ v w, vs = [v, w] ∧ τ.rel F v x.1 ∧ υ.rel F w x.2.1 := by
  obtain ⟨v, r, e, h1, h2⟩ := h
  obtain ⟨w, e2, h3⟩ := a1_rel (τ := υ) (x := x.2) h2
  exact ⟨v, w, by rw [e, e2], h1, h3⟩
theorem rel_seq {F H : Hp} (cf : Cf G F H) {K : PySem.W.Frag} {v : V} {xs : List α} (h : (TSeq τ).rel F v xs) : ∃ p vs, v = .ref p ∧ (SqL K H p vs ∨ SqT K H p vs) ∧ Paired (τ.rel F) vs xs := by
  rcases h with ⟨p, o, e, hF, vs, eo, r⟩ | ⟨p, o, e, hF, vs, eo, r⟩
  · exact ⟨p, vs, e, .inr (.inl (.inl (cf.sub _ _ (by rw [hF, eo])))), r⟩
  · exact ⟨p, vs, e, .inl (.inl (.inl (cf.sub _ _ (by rw [hF, eo])))), r⟩
theorem rel_lst {F H : Hp} (cf : Cf G F H) {K : PySem.W.Frag} {v : V} {xs : List α} (h : (TLst τ).rel F v xs) : ∃ p vs, v = .ref p ∧ H p = some (.lst vs) ∧ SqL K H p vs ∧ Paired (τ.rel F) vs xs := by
  obtain ⟨p, o, e, hF, vs, eo, r⟩ := h
  have h1 := cf.sub _ _ hF
  rw [eo] at h1
  exact ⟨p, vs, e, h1, .inl (.inl h1), r⟩
theorem rel_tup {F H : Hp} (cf : Cf G F H) {K : PySem.W.Frag} {v : V} {xs : List α} (h : (TTup τ).rel F v xs) : ∃ p vs, v = .ref p ∧ H p = some (.tup vs) ∧ SqT K H p vs ∧ Paired (τ.rel F) vs xs := by
  obtain ⟨p, o, e, hF, vs, eo, r⟩ := h
  have h1 := cf.sub _ _ hF
  rw [eo] at h1
  exact ⟨p, vs, e, h1, .inl (.inl h1), r⟩
theorem paired_len {R : V → α → Prop} {vs : List V} {xs : List α} (h : Paired R vs xs) : vs.length = xs.length := Paired.length h
theorem rc_lenS {K : PySem.W.Frag} : RC G (fun xs H Q => ∃ p ys, xs = [.ref p] ∧ (SqL K H p ys ∨ SqT K H p ys) ∧ Q (.int ys.length) H) (a1 (TSeq τ)) TInt (fun x => (ret ((x.1.length : Nat) : Int) : m Int)) := rc_pure fun F H vs x cf rx => by
  obtain ⟨v, e, r⟩ := a1_rel rx
  obtain ⟨p, ws, ev, hs, rr⟩ := rel_seq (K := K) cf r
  exact ⟨.int ws.length, by rw [paired_len rr]; rfl, fun Q q => ⟨p, ws, by rw [e, ev], hs, q⟩⟩
theorem xe_toSeqT {c : m (List α)} (h : XE G X e Γ (TTup τ) c) : XE G X e Γ (TSeq τ) c := xe_as h fun F v x r => .inl r
theorem xe_toSeqL {c : m (List α)} (h : XE G X e Γ (TLst τ) c) : XE G X e Γ (TSeq τ) c := xe_as h fun F v x r => .inr r
/-! ### items -/
theorem paired_get {R : V → α → Prop} {vs : List V} {xs : List α} (h : Paired R vs xs) : ∀ {i : Nat} {x : α}, xs[i]? = some x → ∃ v, vs[i]? = some v ∧ R v x := by
  induction h with
  | nil => intro i x e; simp at e
  | @cons v y r s hr t ih =>
    intro i x e
    cases i with
    | zero =>
      have e1 : y = x := by simpa using e
      subst e1
      exact ⟨v, rfl, hr⟩
    | succ i =>
      obtain ⟨w, e1, q⟩ := ih (i := i) (x := x) (by simpa using e)
      exact ⟨w, by simpa using e1, q⟩
theorem paired_at {R : V → α → Prop} {vs : List V} {xs : List α} {i : Int} {x : α} (h : Paired R vs xs) (e : atI xs i = some x) : ∃ v, atI vs i = some v ∧ R v x := by
  unfold atI at e ⊢
  rw [paired_len h]
  cases q : ixN xs.length i with
  | none => rw [q] at e; cases e
  | some j =>
    rw [q] at e
    exact paired_get h e
theorem rb_ixT {K : PySem.W.Frag} : RB G (rIxT K) (TTup τ) TInt τ (fun xs i => (opt (atI xs i) : m α)) := rb_opt fun F H v w x y z cf rx ry e => by
  obtain ⟨p, vs, ev, _, hs, rr⟩ := rel_tup (K := K) cf rx
  obtain ⟨u, eu, ru⟩ := paired_at rr e
  exact ⟨u, ru, fun Q q => ⟨p, vs, y, u, ev, ry, hs, eu, q⟩⟩
theorem rb_ixL {K : PySem.W.Frag} : RB G (rIxL K) (TLst τ) TInt τ (fun xs i => (opt (atI xs i) : m α)) := rb_opt fun F H v w x y z cf rx ry e => by
  obtain ⟨p, vs, ev, _, hs, rr⟩ := rel_lst (K := K) cf rx
  obtain ⟨u, eu, ru⟩ := paired_at rr e
  exact ⟨u, ru, fun Q q => ⟨p, vs, y, u, ev, ry, hs, eu, q⟩⟩
/-- t[0], t[1] of a pair -/
theorem rb_ix20 {K : PySem.W.Frag} : RB G (rIxT K) (T2 τ υ) TInt τ (fun x i => (opt (if i = 0 ∨ i = -2 then some x.1 else none) : m α)) := rb_opt fun F H v w x y z cf rx ry e => by
  obtain ⟨p, o, ev, hF, v1, v2, eo, h1, h2⟩ := rx
  have hH := cf.sub _ _ hF
  rw [eo] at hH
  split at e
  · rename_i hi
    cases e
    refine ⟨v1, h1, fun Q q => ⟨p, [v1, v2], y, v1, ev, ry, .inl (.inl hH), ?_, q⟩⟩
    rcases hi with hi | hi <;> subst hi <;> rfl
  · cases e
theorem rb_ix21 {K : PySem.W.Frag} : RB G (rIxT K) (T2 τ υ) TInt υ (fun x i => (opt (if i = 1 ∨ i = -1 then some x.2 else none) : m β)) := rb_opt fun F H v w x y z cf rx ry e => by
  obtain ⟨p, o, ev, hF, v1, v2, eo, h1, h2⟩ := rx
  have hH := cf.sub _ _ hF
  rw [eo] at hH
  split at e
  · rename_i hi
    cases e
    refine ⟨v2, h2, fun Q q => ⟨p, [v1, v2], y, v2, ev, ry, .inl (.inl hH), ?_, q⟩⟩
    rcases hi with hi | hi <;> subst hi <;> rfl
  · cases e
end
end Wc
/-! Core C: statements, loops, comprehensions. -/
namespace Wc
open PySem PySem.Spec PyProof.Rows L2
open Mon (ret bnd opt run run_ret run_bnd run_opt)
section
variable {m : Type → Type} [Mon m] {G : Gs} {X : Cx} {Γ Δ : Ga} {α β γ S L R : Type} {τ : Ty α} {υ : Ty β} {φ : Ty R} {a b e : Expr} {es : List Expr} {pos : Pos} {st : Stmt} {ss rest : List Stmt} {g : S → Ga} {gl : L → Ga}

/-- one statement that goes on -/
def XS (G : Gs) (X : Cx) (st : Stmt) (Γ : Ga) {β : Type} (Γ' : β → Ga) (c : m β) : Prop := ∀ (F0 H0 F H : Hp) (σ : L2.St) (D : Ends), Cf G F H → Step G F0 H0 F H → En G H0 F H σ Γ → ∀ Qd : β → Prop, run c Qd →
  (∀ y F' H' σ', Qd y → Gn G F0 H0 F F' H' → En G H0 F' H' σ' (Γ' y) → D.nx σ' H') → semS X st D σ H
theorem xb_seq {Γ' : β → Ga} {c : m β} {cr : β → m (Fl S L R)} (h : XS G X st Γ Γ' c) (hr : ∀ y, XB G X rest (Γ' y) g gl φ (cr y)) : XB G X (st :: rest) Γ g gl φ (bnd c cr) := by
  intro F0 H0 F H σ D cf k E Qd hrun q1 q2 q3 q4
  refine (pss_cons ps_sem pss_sem).sem ?_
  exact h F0 H0 F H σ _ cf k E _ (run_bnd hrun) fun y F' H' σ' d n E' => hr y F0 H0 F' H' σ' D n.cf n.st E' Qd d (fun s F'' H'' σ'' d' n' => q1 s F'' H'' σ'' d' (n'.from n.sm)) (fun s F'' H'' σ'' d' n' => q2 s F'' H'' σ'' d' (n'.from n.sm))
    (fun s F'' H'' σ'' d' n' => q3 s F'' H'' σ'' d' (n'.from n.sm)) fun s v F'' H'' d' n' => q4 s v F'' H'' d' (n'.from n.sm)
theorem Gn.here {F0 H0 F H : Hp} (cf : Cf G F H) (k : Step G F0 H0 F H) : Gn G F0 H0 F F H := ⟨cf, Same.refl _, k⟩
theorem xb_nil {s : S} (w : Wk Γ (g s)) : XB G X [] Γ g gl φ (ret (.nx s) : m (Fl S L R)) := by
  intro F0 H0 F H σ D cf k E Qd hrun q1 q2 q3 q4
  exact pss_nil.sem (q1 s F H σ (run_ret hrun) (Gn.here cf k) (E.weak w))
theorem xb_ret {c : m R} (h : XE G X e Γ φ c) : XB G X [.Return (some e) pos] Γ g gl φ (bnd c fun r => ret (.rt r)) := by
  intro F0 H0 F H σ D cf k E Qd hrun q1 q2 q3 q4
  refine (pss_one (ps_ret pe_sem)).sem ?_
  exact h H0 F H σ cf E _ (run_bnd hrun) _ fun y v F' H' d k' cf' r => q4 y v F' H' (run_ret d) (.mk' k k' cf') r
theorem xb_retN : XB G X [.Return none pos] Γ g gl TNon (ret (.rt ()) : m (Fl S L Unit)) := by
  intro F0 H0 F H σ D cf k E Qd hrun q1 q2 q3 q4
  exact (pss_one ps_retN).sem (q4 () .non F H (run_ret hrun) (Gn.here cf k) rfl)
theorem xb_brk {l : L} (w : Wk Γ (gl l)) : XB G X [.Break pos] Γ g gl φ (ret (.bk l) : m (Fl S L R)) := by
  intro F0 H0 F H σ D cf k E Qd hrun q1 q2 q3 q4
  exact (pss_one ps_break).sem (q3 l F H σ (run_ret hrun) (Gn.here cf k) (E.weak w))
theorem xb_cont {l : L} (w : Wk Γ (gl l)) : XB G X [.Continue pos] Γ g gl φ (ret (.ct l) : m (Fl S L R)) := by
  intro F0 H0 F H σ D cf k E Qd hrun q1 q2 q3 q4
  exact (pss_one ps_continue).sem (q2 l F H σ (run_ret hrun) (Gn.here cf k) (E.weak w))
/-- a way that is never gone -/
theorem xb_no : XB G X ss Γ g gl φ (opt none : m (Fl S L R)) := by
  intro F0 H0 F H σ D cf k E Qd hrun q1 q2 q3 q4
  obtain ⟨y, e, _⟩ := run_opt hrun
  cases e
theorem xb_weak {c : m (Fl S L R)} (w : Wk Γ Δ) (h : XB G X ss Δ g gl φ c) : XB G X ss Γ g gl φ c := fun F0 H0 F H σ D cf k E => h F0 H0 F H σ D cf k (E.weak w)

/-! ### name = value; value -/
theorem xs_set {i : Nat} {x : Str} {pos' : Pos} {c : m α} (h : XE G X e Γ τ c) (hN : X.N.Nodup) (hi : X.N[i]? = some x := by kernel_rfl) (hx : Loc X.env.scope x := by first | exact Or.inl rfl | exact Or.inr rfl) (hs : swapsWith e (some (.Name x pos')) pos.line X.env = pure false := by kernel_rfl)
    (hf : X.fn x = true ∨ X.env.scope.names.lookup x = some .local := by first | exact .inl rfl | exact .inr rfl | assumption) : XS G X (.Assign [.Name x pos'] e pos) Γ (fun y => Γ.set i (some (.sh τ y))) c := by
  intro F0 H0 F H σ D cf k E Qd hrun q
  refine (ps_set hN hi hx pe_sem hs hf).sem ?_
  exact h H0 F H σ cf E Qd hrun _ fun y v F' H' d k' cf' r => q y F' H' _ d (.mk' k k' cf') ((E.step k').set r)
theorem xs_expr {c : m α} (h : XE G X e Γ τ c) (hs : swapsWith e none pos.line X.env = pure false := by kernel_rfl) : XS G X (.Expr e pos) Γ (fun _ => Γ) c := by
  intro F0 H0 F H σ D cf k E Qd hrun q
  refine (ps_expr pe_sem hs).sem ?_
  exact h H0 F H σ cf E Qd hrun _ fun y v F' H' d k' cf' r => q y F' H' _ d (.mk' k k' cf') (E.step k')
theorem xs_pass : XS G X (.Pass pos) Γ (fun _ => Γ) (ret () : m Unit) := by
  intro F0 H0 F H σ D cf k E Qd hrun q
  exact ps_pass.sem (q () F H σ (run_ret hrun) (Gn.here cf k) E)
/-- a, b = x, y (local names) -/
theorem xs_par {i j : Nat} {x y : Str} {px py pt : Pos} {kt k2 : Nat} {pt2 : Pos} {ca : m α} {cb : m β} (hp : ∀ {ta : TA}, PA X [a, b] ta → PS X (.Assign [.Tuple [.Name x px, .Name y py] kt pt] (.Tuple [a, b] k2 pt2) pos) (tPar i j ta)) (ha : XE G X a Γ τ ca) (hb : XE G X b Γ υ cb)
    (hs1 : starEach [a, b] X.env = (false, eval a X.env) :: starEach [b] X.env := by kernel_rfl) (hs2 : starEach [b] X.env = (false, eval b X.env) :: starEach [] X.env := by kernel_rfl) :
    XS G X (.Assign [.Tuple [.Name x px, .Name y py] kt pt] (.Tuple [a, b] k2 pt2) pos) Γ (fun z : α × β => (Γ.set i (some (.sh τ z.1))).set j (some (.sh υ z.2))) (bnd ca fun u => bnd cb fun v => ret (u, v)) := by
  intro F0 H0 F H σ D cf k E Qd hrun q
  refine (hp (pa_cons pe_sem (pa_cons pe_sem pa_nil hs2) hs1)).sem ?_
  refine ha H0 F H σ cf E _ (run_bnd hrun) _ fun u v F1 H1 d1 k1 cf1 r1 => ?_
  refine hb H0 F1 H1 σ cf1 (E.step k1) _ (run_bnd d1) _ fun w z F2 H2 d2 k2 cf2 r2 => ⟨v, z, rfl, ?_⟩
  exact q (u, w) F2 H2 _ (run_ret d2) (.mk' k (k1.trans k2) cf2) ((((E.step k1).step k2).set (τ.mono k2.ex r1)).set r2)

/-! ### if -/
def kF {S1 S L R : Type} (f : S1 → m (Fl S L R)) : Fl S1 L R → m (Fl S L R)
  | .nx s => f s
  | .ct l => ret (.ct l)
  | .bk l => ret (.bk l)
  | .rt r => ret (.rt r)
def bndF {S1 S L R : Type} (c : m (Fl S1 L R)) (f : S1 → m (Fl S L R)) : m (Fl S L R) := bnd c (kF f)
theorem xb_if {S1 : Type} {g1 : S1 → Ga} {t : Expr} {x y : List Stmt} {ct : m Bool} {cx cy : m (Fl S1 L R)} {cr : S1 → m (Fl S L R)} (ht : XT G X t Γ ct) (hx : XB G X x Γ g1 gl φ cx) (hy : XB G X y Γ g1 gl φ cy) (hr : ∀ s, XB G X rest (g1 s) g gl φ (cr s)) :
    XB G X (.If t x y pos :: rest) Γ g gl φ (bnd ct fun k => bndF (if k then cx else cy) cr) := by
  intro F0 H0 F H σ D cf k E Qd hrun q1 q2 q3 q4
  refine (pss_cons (ps_if pt_sem pss_sem pss_sem) pss_sem).sem ?_
  refine ht H0 F H σ cf E _ (run_bnd hrun) _ fun k' F1 H1 d1 k1 cf1 => ?_
  have go : ∀ {z : List Stmt} {cz : m (Fl S1 L R)}, XB G X z Γ g1 gl φ cz → run cz (fun x => run (kF cr x) Qd) → semB X z { D with nx := semB X rest D } σ H1 := fun {z cz} hz dz =>
    hz F0 H0 F1 H1 σ _ cf1 (k.trans k1) (E.step k1) _ dz (fun s F' H' σ' d n E' => hr s F0 H0 F' H' σ' D n.cf n.st E' Qd d (fun s F'' H'' σ'' d' n' => q1 s F'' H'' σ'' d' (n'.from (k1.ex.trans n.sm))) (fun s F'' H'' σ'' d' n' => q2 s F'' H'' σ'' d' (n'.from (k1.ex.trans n.sm)))
      (fun s F'' H'' σ'' d' n' => q3 s F'' H'' σ'' d' (n'.from (k1.ex.trans n.sm))) fun s v F'' H'' d' n' => q4 s v F'' H'' d' (n'.from (k1.ex.trans n.sm)))
      (fun l F' H' σ' d n E' => q2 l F' H' σ' (run_ret d) (n.from k1.ex) E') (fun l F' H' σ' d n E' => q3 l F' H' σ' (run_ret d) (n.from k1.ex) E') (fun r v F' H' d n rr => q4 r v F' H' (run_ret d) (n.from k1.ex) rr)
  cases k' with
  | true => exact go hx (run_bnd d1)
  | false => exact go hy (run_bnd d1)
theorem XB.later {c : m (Fl S L R)} {F0 H0 F F1 H1 : Hp} {σ : L2.St} {D : Ends} {Qd : Fl S L R → Prop} (h : XB G X ss Γ g gl φ c) (n : Gn G F0 H0 F F1 H1) (E : En G H0 F1 H1 σ Γ) (d : run c Qd)
    (q1 : ∀ s F' H' σ', Qd (.nx s) → Gn G F0 H0 F F' H' → En G H0 F' H' σ' (g s) → D.nx σ' H') (q2 : ∀ l F' H' σ', Qd (.ct l) → Gn G F0 H0 F F' H' → En G H0 F' H' σ' (gl l) → D.ct σ' H')
    (q3 : ∀ l F' H' σ', Qd (.bk l) → Gn G F0 H0 F F' H' → En G H0 F' H' σ' (gl l) → D.bk σ' H') (q4 : ∀ r v F' H', Qd (.rt r) → Gn G F0 H0 F F' H' → φ.rel F' v r → D.rt v H') : semB X ss D σ H1 :=
  h F0 H0 F1 H1 σ D n.cf n.st E Qd d (fun s F'' H'' σ'' d' n' => q1 s F'' H'' σ'' d' (n'.from n.sm)) (fun s F'' H'' σ'' d' n' => q2 s F'' H'' σ'' d' (n'.from n.sm)) (fun s F'' H'' σ'' d' n' => q3 s F'' H'' σ'' d' (n'.from n.sm)) fun s v F'' H'' d' n' => q4 s v F'' H'' d' (n'.from n.sm)
/-- the last statement of a block -/
theorem xb_ifL {t : Expr} {x y : List Stmt} {ct : m Bool} {cx cy : m (Fl S L R)} (ht : XT G X t Γ ct) (hx : XB G X x Γ g gl φ cx) (hy : XB G X y Γ g gl φ cy) : XB G X [.If t x y pos] Γ g gl φ (bnd ct fun k => if k then cx else cy) := by
  intro F0 H0 F H σ D cf k E Qd hrun q1 q2 q3 q4
  refine (pss_one (ps_if pt_sem pss_sem pss_sem)).sem ?_
  refine ht H0 F H σ cf E _ (run_bnd hrun) _ fun k' F1 H1 d1 k1 cf1 => ?_
  cases k' with
  | true => exact hx.later (.mk' k k1 cf1) (E.step k1) d1 q1 q2 q3 q4
  | false => exact hy.later (.mk' k k1 cf1) (E.step k1) d1 q1 q2 q3 q4
/-- if t: a suite that never goes on -/
def kE {S L R : Type} : Fl Empty L R → m (Fl S L R)
  | .nx s => s.elim
  | .ct l => ret (.ct l)
  | .bk l => ret (.bk l)
  | .rt r => ret (.rt r)
def flE {S L R : Type} (c : m (Fl Empty L R)) : m (Fl S L R) := bnd c kE
theorem xb_ifE {gE : Empty → Ga} {t : Expr} {x : List Stmt} {ct : m Bool} {cx : m (Fl Empty L R)} {cr : m (Fl S L R)} (ht : XT G X t Γ ct) (hx : XB G X x Γ gE gl φ cx) (hr : XB G X rest Γ g gl φ cr) :
    XB G X (.If t x [] pos :: rest) Γ g gl φ (bnd ct fun k => if k then flE cx else cr) := by
  intro F0 H0 F H σ D cf k E Qd hrun q1 q2 q3 q4
  refine (pss_cons (ps_if pt_sem pss_sem pss_nil) pss_sem).sem ?_
  refine ht H0 F H σ cf E _ (run_bnd hrun) _ fun k' F1 H1 d1 k1 cf1 => ?_
  cases k' with
  | true =>
    exact hx F0 H0 F1 H1 σ _ cf1 (k.trans k1) (E.step k1) _ (run_bnd d1) (fun s => s.elim) (fun l F' H' σ' d n E' => q2 l F' H' σ' (run_ret d) (n.from k1.ex) E') (fun l F' H' σ' d n E' => q3 l F' H' σ' (run_ret d) (n.from k1.ex) E')
      (fun r v F' H' d n rr => q4 r v F' H' (run_ret d) (n.from k1.ex) rr)
  | false => exact hr.later (.mk' k k1 cf1) (E.step k1) d1 q1 q2 q3 q4
/-- if t: return e -/
theorem xb_ifR {t : Expr} {p2 : Pos} {ct : m Bool} {ce : m R} {cr : m (Fl S L R)} (ht : XT G X t Γ ct) (he : XE G X e Γ φ ce) (hr : XB G X rest Γ g gl φ cr) :
    XB G X (.If t [.Return (some e) p2] [] pos :: rest) Γ g gl φ (bnd ct fun k => if k then bnd ce fun r => ret (.rt r) else cr) := by
  intro F0 H0 F H σ D cf k E Qd hrun q1 q2 q3 q4
  refine (pss_cons (ps_if pt_sem (pss_one (ps_ret pe_sem)) pss_nil) pss_sem).sem ?_
  refine ht H0 F H σ cf E _ (run_bnd hrun) _ fun k' F1 H1 d1 k1 cf1 => ?_
  cases k' with
  | true => exact he H0 F1 H1 σ cf1 (E.step k1) _ (run_bnd d1) _ fun y v F' H' d k' cf' r => q4 y v F' H' (run_ret d) (.mk' k (k1.trans k') cf') r
  | false => exact hr.later (.mk' k k1 cf1) (E.step k1) d1 q1 q2 q3 q4
/-- if t: a suite that can't be -/
theorem xb_ifN {t : Expr} {x : List Stmt} {ct : m Bool} {cr : m (Fl S L R)} (ht : XT G X t Γ ct) (hr : XB G X rest Γ g gl φ cr) :
    XB G X (.If t x [] pos :: rest) Γ g gl φ (bnd ct fun k => if k then opt none else cr) := by
  intro F0 H0 F H σ D cf k E Qd hrun q1 q2 q3 q4
  refine (pss_cons (ps_if pt_sem pss_never pss_nil) pss_sem).sem ?_
  refine ht H0 F H σ cf E _ (run_bnd hrun) _ fun k' F1 H1 d1 k1 cf1 => ?_
  cases k' with
  | true =>
    obtain ⟨y, e, _⟩ := run_opt d1
    cases e
  | false => exact hr.later (.mk' k k1 cf1) (E.step k1) d1 q1 q2 q3 q4
/-- if t: continue -/
theorem xb_ifC {t : Expr} {p2 : Pos} {ct : m Bool} {l : L} {cr : m (Fl S L R)} (ht : XT G X t Γ ct) (w : Wk Γ (gl l)) (hr : XB G X rest Γ g gl φ cr) :
    XB G X (.If t [.Continue p2] [] pos :: rest) Γ g gl φ (bnd ct fun k => if k then ret (.ct l) else cr) := by
  intro F0 H0 F H σ D cf k E Qd hrun q1 q2 q3 q4
  refine (pss_cons (ps_if pt_sem (pss_one ps_continue) pss_nil) pss_sem).sem ?_
  refine ht H0 F H σ cf E _ (run_bnd hrun) _ fun k' F1 H1 d1 k1 cf1 => ?_
  cases k' with
  | true => exact q2 l F1 H1 σ (run_ret d1) (.mk' k k1 cf1) ((E.step k1).weak w)
  | false => exact hr.later (.mk' k k1 cf1) (E.step k1) d1 q1 q2 q3 q4

/-! ### what is walked, targets -/
def TW (G : Gs) (J : It) (F1 H1 : Hp) (τ : Ty α) (xs : List α) : Prop := ∀ F2 H2, Same F1 F2 → Cf G F2 H2 → J.stop xs.length H2 ∧ ∀ (i : Nat) (x : α), xs[i]? = some x → J.go i H2 ∧
  ∀ v H3, J.yld i H2 v H3 → ∃ F3, Step G F2 H2 F3 H3 ∧ Cf G F3 H3 ∧ τ.rel F3 v x
def XI (G : Gs) (X : Cx) (tg it : Expr) (Γ : Ga) (τ : Ty α) (c : m (List α)) : Prop := ∀ (H0 F H : Hp) (σ : L2.St), Cf G F H → En G H0 F H σ Γ → ∀ Qd : List α → Prop, run c Qd →
  ∀ R : It → Hp → Prop, (∀ xs J F' H', Qd xs → Step G F H F' H' → Cf G F' H' → TW G J F' H' τ xs → R J H') → semI X tg it σ H R
def Out (js : List Nat) (σ σ' : L2.St) : Prop := σ'.length = σ.length ∧ ∀ i, i ∉ js → σ'[i]? = σ[i]?
theorem pg_sem {tg : Expr} : PG X tg (semG X tg) := ⟨fun pins s σ H v u Q I r h => h.run pins s u I r⟩
theorem _root_.L2.PG.sem {tg : Expr} {t : TG} {v : V} {σ : L2.St} {H : Hp} {Q : L2.St → Hp → Prop} (h : PG X tg t) (q : t v σ H Q) : semG X tg v σ H Q := ⟨fun pins s u I r => h.run pins s σ H v u Q I r q⟩
/-- the target takes a thing of the type τ into the slots js -/
def XG (G : Gs) (X : Cx) (tg : Expr) (τ : Ty α) (f : α → Ga → Ga) (js : List Nat) : Prop := ∀ (H0 F H : Hp) (σ : L2.St) (Γ : Ga) (v : V) (x : α), Cf G F H → En G H0 F H σ Γ → τ.rel F v x →
  ∀ Q : L2.St → Hp → Prop, (∀ σ', En G H0 F H σ' (f x Γ) → Out js σ σ' → Q σ' H) → semG X tg v σ H Q
theorem xg_name {i : Nat} {x : Str} (hN : X.N.Nodup) (hi : X.N[i]? = some x := by kernel_rfl) (hx : Loc X.env.scope x := by first | exact Or.inl rfl | exact Or.inr rfl)
    (hf : X.fn x = true ∨ X.env.scope.names.lookup x = some .local := by first | exact .inl rfl | exact .inr rfl | assumption) : XG G X (.Name x pos) τ (fun y Γ => Γ.set i (some (.sh τ y))) [i] := by
  intro H0 F H σ Γ v y cf E r Q q
  refine (pg_name hN hi hx hf).sem ?_
  exact q _ (E.set r) ⟨List.length_set, fun j hj => List.getElem?_set_ne (by simpa using fun z => hj (by simp [z]))⟩
theorem Out.trans {js ks : List Nat} {σ σ1 σ2 : L2.St} (h : Out js σ σ1) (h' : Out ks σ1 σ2) : Out (js ++ ks) σ σ2 :=
  ⟨h'.1.trans h.1, fun i hi => (h'.2 i fun z => hi (List.mem_append_right _ z)).trans (h.2 i fun z => hi (List.mem_append_left _ z))⟩
theorem xg_t2 {t1 t2 : Expr} {k : Nat} {f1 : α → Ga → Ga} {f2 : β → Ga → Ga} {js ks : List Nat} (h1 : XG G X t1 τ f1 js) (h2 : XG G X t2 υ f2 ks) (hc : X.calm = true := by kernel_rfl)
    (hs1 : (assignEach [t1, t2] X.env).map (·.2) = assign t1 X.env :: (assignEach [t2] X.env).map (·.2) := by kernel_rfl) (hs2 : (assignEach [t2] X.env).map (·.2) = assign t2 X.env :: (assignEach [] X.env).map (·.2) := by kernel_rfl)
    (hn : (assignEach [t1, t2] X.env).length = 2 := by kernel_rfl) (hst : (assignEach [t1, t2] X.env).findIdx? (·.1) = none := by kernel_rfl) : XG G X (.Tuple [t1, t2] k pos) (T2 τ υ) (fun x Γ => f2 x.2 (f1 x.1 Γ)) (js ++ ks) := by
  intro H0 F H σ Γ v x cf E r Q q
  obtain ⟨p, o, ev, hF, v1, v2, eo, r1, r2⟩ := r
  have hH := cf.sub _ _ hF
  rw [eo] at hH
  refine (pg_tup hc (pgs_cons pg_sem (pgs_cons pg_sem pgs_nil hs2) hs1) hn hst).sem ⟨p, [v1, v2], ev, .inl (.inl hH), rfl, v1, [v2], rfl, ?_⟩
  refine h1 H0 F H σ Γ v1 x.1 cf E r1 _ fun σ1 E1 o1 => ⟨v2, [], rfl, ?_⟩
  refine h2 H0 F H σ1 _ v2 x.2 cf E1 r2 _ fun σ2 E2 o2 => ⟨rfl, ?_⟩
  exact q σ2 E2 (o1.trans o2)
theorem xg_t3 {δ : Type} {ψ : Ty δ} {t1 t2 t3 : Expr} {k : Nat} {f1 : α → Ga → Ga} {f2 : β → Ga → Ga} {f3 : δ → Ga → Ga} {js ks ls : List Nat} (h1 : XG G X t1 τ f1 js) (h2 : XG G X t2 υ f2 ks) (h3 : XG G X t3 ψ f3 ls) (hc : X.calm = true := by kernel_rfl)
    (hs1 : (assignEach [t1, t2, t3] X.env).map (·.2) = assign t1 X.env :: (assignEach [t2, t3] X.env).map (·.2) := by kernel_rfl) (hs2 : (assignEach [t2, t3] X.env).map (·.2) = assign t2 X.env :: (assignEach [t3] X.env).map (·.2) := by kernel_rfl)
    (hs3 : (assignEach [t3] X.env).map (·.2) = assign t3 X.env :: (assignEach [] X.env).map (·.2) := by kernel_rfl)
    (hn : (assignEach [t1, t2, t3] X.env).length = 3 := by kernel_rfl) (hst : (assignEach [t1, t2, t3] X.env).findIdx? (·.1) = none := by kernel_rfl) : XG G X (.Tuple [t1, t2, t3] k pos) (T3 τ υ ψ) (fun x Γ => f3 x.2.2 (f2 x.2.1 (f1 x.1 Γ))) (js ++ ks ++ ls) := by
  intro H0 F H σ Γ v x cf E r Q q
  obtain ⟨p, o, ev, hF, v1, v2, v3, eo, r1, r2, r3⟩ := r
  have hH := cf.sub _ _ hF
  rw [eo] at hH
  refine (pg_tup hc (pgs_cons pg_sem (pgs_cons pg_sem (pgs_cons pg_sem pgs_nil hs3) hs2) hs1) hn hst).sem ⟨p, [v1, v2, v3], ev, .inl (.inl hH), rfl, v1, [v2, v3], rfl, ?_⟩
  refine h1 H0 F H σ Γ v1 x.1 cf E r1 _ fun σ1 E1 o1 => ⟨v2, [v3], rfl, ?_⟩
  refine h2 H0 F H σ1 _ v2 x.2.1 cf E1 r2 _ fun σ2 E2 o2 => ⟨v3, [], rfl, ?_⟩
  refine h3 H0 F H σ2 _ v3 x.2.2 cf E2 r3 _ fun σ3 E3 o3 => ⟨rfl, ?_⟩
  exact q σ3 E3 ((o1.trans o2).trans o3)
/-- t1, t2 = e -/
theorem xs_tg {tg : Expr} {f : α → Ga → Ga} {js : List Nat} {c : m α} (h : XE G X e Γ τ c) (hg : XG G X tg τ f js) (hs : swapsWithSole [tg] e pos.line X.env = pure false := by kernel_rfl) (hw : swappedStores [tg] e X.env = pure none := by kernel_rfl)
    (h1 : (assignEach [tg] X.env).map (·.2) = [assign tg X.env] := by kernel_rfl) : XS G X (.Assign [tg] e pos) Γ (fun y => f y Γ) c := by
  intro F0 H0 F H σ D cf k E Qd hrun q
  refine (ps_asg pe_sem pg_sem hs hw h1).sem ?_
  refine h H0 F H σ cf E Qd hrun _ fun y v F' H' d k' cf' r => ?_
  exact hg H0 F' H' σ Γ v y cf' (E.step k') r _ fun σ' E' _ => q y F' H' σ' d (.mk' k k' cf') E'

/-! ### for -/
def kL {S L R : Type} (go : S → m (Fl S L R)) : Fl S S R → m (Fl S L R)
  | .nx s => go s
  | .ct s => go s
  | .bk s => ret (.nx s)
  | .rt r => ret (.rt r)
def forF {α S L R : Type} (step : S → α → m (Fl S S R)) : List α → S → m (Fl S L R)
  | [], s => ret (.nx s)
  | x :: xs, s => bnd (step s x) (kL (forF step xs))
theorem drop_cons {xs : List α} {i : Nat} {x : α} (h : xs[i]? = some x) : xs.drop i = x :: xs.drop (i + 1) := by
  obtain ⟨hi, e⟩ := List.getElem?_eq_some_iff.mp h
  rw [List.drop_eq_getElem_cons hi, e]
theorem xb_for {S1 : Type} {g1 : S1 → Ga} {tg it : Expr} {body : List Stmt} {ci : m (List α)} {s0 : S1} {step : S1 → α → m (Fl S1 S1 R)} {cr : S1 → m (Fl S L R)} {f : α → Ga → Ga} {js : List Nat}
    (hp : PassesOwn (model X.prog X.w) X.A X.env X.xe) (hi : XI G X tg it Γ τ ci) (hg : XG G X tg τ f js) (w : Wk Γ (g1 s0)) (hb : ∀ s x, XB G X body (f x (g1 s)) g1 g1 φ (step s x)) (hr : ∀ s, XB G X rest (g1 s) g gl φ (cr s))
    (hc : X.calm = true := by kernel_rfl) (hs : ∀ x, foldedSetIterable it X.env x = pure x := by intro _; kernel_rfl) :
    XB G X (.For tg it body [] pos :: rest) Γ g gl φ (bnd ci fun xs => bndF (forF step xs s0) cr) := by
  intro F0 H0 F H σ D cf k E Qd hrun q1 q2 q3 q4
  refine (pss_cons (ps_for hp hc pi_sem pg_sem pss_sem hs) pss_sem).sem ?_
  refine hi H0 F H σ cf E _ (run_bnd hrun) _ fun xs J F1 H1 d1 k1 cf1 tw => ?_
  have d2 : run (forF (L := L) step (xs.drop 0) s0) (fun x => run (kF cr x) Qd) := run_bnd d1
  refine ⟨fun i mm σ' H' => ∃ s F', mm = xs.length - i ∧ i ≤ xs.length ∧ run (forF (L := L) step (xs.drop i) s) (fun x => run (kF cr x) Qd) ∧ Gn G F0 H0 F1 F' H' ∧ En G H0 F' H' σ' (g1 s),
    ⟨xs.length, s0, F1, rfl, Nat.zero_le _, d2, Gn.here cf1 (k.trans k1), (E.step k1).weak w⟩, ?_⟩
  rintro i mm σ2 H2 ⟨s, F2, rfl, hi, dr, n2, E2⟩
  obtain ⟨hstop, hgo⟩ := tw F2 H2 n2.sm n2.cf
  by_cases hlt : i < xs.length
  · have hx : xs[i]? = some xs[i] := List.getElem?_eq_getElem hlt
    obtain ⟨go, yl⟩ := hgo i _ hx
    rw [drop_cons hx] at dr
    have dr : run (step s xs[i]) (fun z => run (kL (forF (L := L) step (xs.drop (i + 1))) z) fun x => run (kF cr x) Qd) := run_bnd dr
    refine .inr ⟨go, fun σ' H' => ∃ s F', run (forF (L := L) step (xs.drop (i + 1)) s) (fun x => run (kF cr x) Qd) ∧ Gn G F0 H0 F1 F' H' ∧ En G H0 F' H' σ' (g1 s),
      fun σ' H' ⟨s', F', a1, a2, a3⟩ => ⟨xs.length - (i + 1), by omega, s', F', rfl, hlt, a1, a2, a3⟩, fun v H3 y => ?_⟩
    obtain ⟨F3, k3, cf3, r3⟩ := yl v H3 y
    refine hg H0 F3 H3 σ2 _ v _ cf3 (E2.step k3) r3 _ fun σ3 E3 _ => ?_
    have n3 : Gn G F0 H0 F1 F3 H3 := ⟨cf3, n2.sm.trans k3.ex, n2.st.trans k3⟩
    refine (hb s _).later n3 E3 dr (fun s' F' H' σ' d n E' => ⟨s', F', d, n, E'⟩) (fun s' F' H' σ' d n E' => ⟨s', F', d, n, E'⟩) (fun s' F' H' σ' d n E' => ?_) (fun r v F' H' d n rr => ?_)
    · exact (hr s').later (n.from k1.ex) E' (run_ret (m := m) (x := Fl.nx s') (Q := fun x => run (kF cr x) Qd) d) q1 q2 q3 q4
    · exact q4 r v F' H' (run_ret (m := m) (run_ret (m := m) (x := Fl.rt r) (Q := fun x => run (kF cr x) Qd) d)) (n.from k1.ex) rr
  · have ei : i = xs.length := by omega
    subst ei
    rw [List.drop_length] at dr
    exact .inl ⟨hstop, (hr s).later (n2.from k1.ex) E2 (run_ret (m := m) (x := Fl.nx s) (Q := fun x => run (kF cr x) Qd) dr) q1 q2 q3 q4⟩
/-! ### while, by so much fuel -/
def whileF {S L R : Type} (c : S → m Bool) (step : S → m (Fl S S R)) : Nat → S → m (Fl S L R)
  | 0, _ => opt none
  | n + 1, s => bnd (c s) fun k => if k then bnd (step s) (kL (whileF c step n)) else ret (.nx s)
theorem xb_while {S1 : Type} {g1 : S1 → Ga} {t : Expr} {body : List Stmt} {s0 : S1} {c : S1 → m Bool} {step : S1 → m (Fl S1 S1 R)} {cr : S1 → m (Fl S L R)} (n : Nat)
    (hp : PassesOwn (model X.prog X.w) X.A X.env X.xe) (ht : ∀ s, XT G X t (g1 s) (c s)) (w : Wk Γ (g1 s0)) (hb : ∀ s, XB G X body (g1 s) g1 g1 φ (step s)) (hr : ∀ s, XB G X rest (g1 s) g gl φ (cr s)) :
    XB G X (.While t body [] pos :: rest) Γ g gl φ (bndF (whileF c step n s0) cr) := by
  intro F0 H0 F H σ D cf k E Qd hrun q1 q2 q3 q4
  refine (pss_cons (ps_while hp pt_sem pss_sem) pss_sem).sem ?_
  have d2 : run (whileF (L := L) c step n s0) (fun x => run (kF cr x) Qd) := run_bnd hrun
  refine ⟨fun mm σ' H' => ∃ s F', run (whileF (L := L) c step mm s) (fun x => run (kF cr x) Qd) ∧ Gn G F0 H0 F F' H' ∧ En G H0 F' H' σ' (g1 s), ⟨n, s0, F, d2, Gn.here cf k, E.weak w⟩, ?_⟩
  rintro mm σ2 H2 ⟨s, F2, dr, n2, E2⟩
  cases mm with
  | zero =>
    obtain ⟨y, e, _⟩ := run_opt dr
    cases e
  | succ mm =>
    refine ht s H0 F2 H2 σ2 n2.cf E2 _ (run_bnd dr) _ fun kk F3 H3 d3 k3 cf3 => ?_
    have n3 : Gn G F0 H0 F F3 H3 := ⟨cf3, n2.sm.trans k3.ex, n2.st.trans k3⟩
    cases kk with
    | true =>
      refine ⟨fun σ' H' => ∃ s F', run (whileF (L := L) c step mm s) (fun x => run (kF cr x) Qd) ∧ Gn G F0 H0 F F' H' ∧ En G H0 F' H' σ' (g1 s), fun σ' H' z => ⟨mm, Nat.lt_succ_self _, z⟩, ?_⟩
      have dr : run (step s) (fun z => run (kL (whileF (L := L) c step mm) z) fun x => run (kF cr x) Qd) := run_bnd d3
      refine (hb s).later n3 (E2.step k3) dr (fun s' F' H' σ' d n E' => ⟨s', F', d, n, E'⟩) (fun s' F' H' σ' d n E' => ⟨s', F', d, n, E'⟩) (fun s' F' H' σ' d n E' => ?_) (fun r v F' H' d n rr => ?_)
      · exact (hr s').later n E' (run_ret (m := m) (x := Fl.nx s') (Q := fun x => run (kF cr x) Qd) d) q1 q2 q3 q4
      · exact q4 r v F' H' (run_ret (m := m) (run_ret (m := m) (x := Fl.rt r) (Q := fun x => run (kF cr x) Qd) d)) n rr
    | false => exact (hr s).later n3 (E2.step k3) (run_ret (m := m) (x := Fl.nx s) (Q := fun x => run (kF cr x) Qd) d3) q1 q2 q3 q4
end
end Wc
/-! Core D: enumerate of a tuple, items() of a dict with tuple keys. -/
namespace Wc
open PySem PySem.Spec PyProof.Rows L2
open Sem (wp)

theorem meets_enumerate_new1 {v : Value} {o : Obj} {H : Heap → Prop} (B : Begins v o H) :
    Meets (Builtin.«enumerate.__new__» ⟨[.type "enumerate", v], []⟩) (fun _ R s => H s.heap ∧
      R (.ok (.ret (.ref (s.heap.push o).objs.size))) { s with heap := (s.heap.push o).push { cls := .type "enumerate", data := .fields #[.none, .bool false, .ref s.heap.objs.size, rawInt 0, .none, .none] } }) :=
  .of_wp fun prog w A R s h => by
    obtain ⟨hp, g, d, tk, os⟩ := s; obtain ⟨h1, h⟩ := h
    have hsub := sub_enumerate
    have q1 : ∀ {A' : Around} {E : Value → Shared → Prop} {Q : Value → Shared → Prop}, Q (.ref hp.objs.size) ⟨hp.push o, g, d, tk, os⟩ → wpAny (model prog w) A' (pyIter v) Q E ⟨hp, g, d, tk, os⟩ :=
      fun q => B.iter prog w _ _ ⟨hp, g, d, tk, os⟩ _ h1 q
    wp_walk using q1
    refine wpAny_stack_any fun st => wpAny_pure ?_
    split
    · rename_i c _ _ _ _ _
      cases (c == Value.type "enumerate")
      · wp_walk using q1
        exact ⟨_, rfl, h⟩
      · wp_walk using q1
        exact ⟨_, rfl, h⟩
    · wp_walk using q1
      exact ⟨_, rfl, h⟩
section
variable {prog : Program} {w : World} {A : Around} {E : Value → Shared → Prop} {s : Shared}
theorem enum_begins1 {v : Value} {o : Obj} {H : Heap → Prop} {Q : Value → Shared → Prop} (B : Begins v o H) (h1 : H s.heap)
    (h : ∀ h', IsEnum h' (s.heap.objs.size + 1) s.heap.objs.size 0 .none → h'.get? s.heap.objs.size = some o → h'.objs.size = s.heap.objs.size + 2 →
      (∀ b o, s.heap.get? b = some o → h'.get? b = some o) → Q (.ref (s.heap.objs.size + 1)) { s with heap := h' }) :
    wpAny (model prog w) A (call (.type "enumerate") [v]) Q E s := by
  refine callType_new F.called_enumerate (by decide) (F.typeCall_enumerate_1 _) (F.newCall_enumerate_1 _) (fun obj => F.args_object_init_2 obj _) F.entry_enumerate_new
    (meets_enumerate_new1 B) ⟨h1, ?_⟩
  have hz : (s.heap.push o).objs.size = s.heap.objs.size + 1 := Heap.size_push ..
  show _ ∧ _
  rw [hz]
  have he : IsEnum ((s.heap.push o).push { cls := .type "enumerate", data := .fields #[.none, .bool false, .ref s.heap.objs.size, rawInt 0, .none, .none] }) (s.heap.objs.size + 1) s.heap.objs.size 0 .none := by
    have := Heap.get?_push_size (s.heap.push o) (o := { cls := .type "enumerate", data := .fields #[.none, .bool false, .ref s.heap.objs.size, rawInt 0, .none, .none] }) rfl
    rw [hz] at this; exact this
  refine ⟨⟨_, he, rfl⟩, h _ he (Heap.get?_push_of_some _ (Heap.get?_push_size _ B.free)) (by rw [Heap.size_push, hz]) fun b o x => Heap.get?_push_of_some _ (Heap.get?_push_of_some _ x)⟩
end

/-- an iterator of new pairs: what is shown at each turn -/
theorem turn_pairs {P : Program} {w : World} {K : PySem.W.Frag} {elts : List Expr} {kk : Nat} {tpos : Pos} {J : It} {it : Addr} {wr : List Addr} {tn : Nat → Heap → Prop} (hmem : it ∈ wr)
    (hobj : ∀ i h, tn i h → ∀ b ∈ wr, ∃ o, h.get? b = some o ∧ ∀ v, o.data ≠ .cell v) (hkeep : ∀ i h h', tn i h → (∀ b ∈ wr, ∀ o, h.get? b = some o → h'.get? b = some o) → tn i h')
    (hgo : ∀ (X : Cx), X.prog = P → X.w = w → X.K = K → X.calm = true → ∀ (i : Nat) (pins : List (Addr × Obj)) (s : Shared) (σ : L2.St) (H : Hp), Inv X pins σ H s → (∀ b ∈ wr, FpOk X pins H b) → tn i s.heap → J.go i H →
      ∃ (fp : List Addr) (n : Nat) (Pt : Nat → Array Value → Prop) (St : Nat → Heap → Prop), GoesN P w X.A (.Tuple elts kk tpos) it fp wr n (fun i h₀ v h => ∃ T vals, v = .ref T ∧ h₀.objs.size ≤ T ∧ Pt i vals ∧ h.IsTuple T vals) St ∧ i < n ∧ St i s.heap ∧
        (∀ h', St (i + 1) h' → tn (i + 1) h') ∧ ∀ vals, Pt i vals → ∃ x y u v, vals = #[u, v] ∧ RelV x u ∧ RelV y v ∧ ∀ T, H T = none → J.yld i H (.ref T) (upd H T (.tup [x, y])))
    (hstop : ∀ (X : Cx), X.prog = P → X.w = w → X.K = K → X.calm = true → ∀ (i : Nat) (pins : List (Addr × Obj)) (s : Shared) (σ : L2.St) (H : Hp), Inv X pins σ H s → (∀ b ∈ wr, FpOk X pins H b) → tn i s.heap → J.stop i H →
      ∃ (fp : List Addr) (n : Nat) (Y : Nat → Heap → Value → Heap → Prop) (St : Nat → Heap → Prop), GoesN P w X.A (.Tuple elts kk tpos) it fp wr n Y St ∧ St n s.heap)
    (hself : ∀ (A : Around) (i : Nat) (s : Shared) (Q : Value → Shared → Prop) (E : Value → Shared → Prop), tn i s.heap → Q (.ref it) s → wpAny (model P w) A (pyIter (.ref it)) Q E s) :
    Turn P w K (.Tuple elts kk tpos) J wr it tn where
  mem := hmem
  obj := hobj
  keep := hkeep
  item := by
    intro X hP hw hK hc i pins s σ H E I hf st hg
    obtain ⟨fp, n, Pt, St, W, hin, hst, hnx, hy⟩ := hgo X hP hw hK hc i pins s σ H I hf st hg
    refine thn (W.goes i s (fun v s2 => ∃ h' tk, s2 = { s with heap := h', toks := tk } ∧ (∃ T vals, v = .ref T ∧ s.heap.objs.size ≤ T ∧ Pt i vals ∧ h'.IsTuple T vals) ∧ St (i + 1) h' ∧ ∀ b o, b ∉ wr → s.heap.get? b = some o → h'.get? b = some o) E hin hst
      fun v h' tk y st' hk _ => ⟨h', tk, rfl, y, st', hk⟩) fun r s1 ⟨v, er, q⟩ => ⟨v, er, thn q fun _ s2 q2 => ?_⟩
    obtain ⟨h', tk, es, ⟨T, vals, ev, hT, hp, hv⟩, st', hk⟩ := q2
    subst es ev
    obtain ⟨x, y, u, u', evs, r1, r2, hyl⟩ := hy vals hp
    subst evs
    have new : ObjOk X.prog X.w (upd H T (.tup [x, y])) h' T (.tup [x, y]) := ⟨by show 2 ≤ sizeLine; decide, [u, u'], .cons r1 (.cons r2 .nil), hv⟩
    have I1 : Inv X pins σ (upd H T (.tup [x, y])) { s with heap := h', toks := tk } := I.turnedNew (ch := wr) hk hf hT new
    refine ⟨.ref T, _, I1, rfl, hyl T (I.hok.fresh hT), hnx h' st', fun b hb => ?_⟩
    obtain ⟨o, e, _⟩ := hobj i _ st b hb
    rw [upd_ne (Nat.ne_of_lt (Nat.lt_of_lt_of_le (Heap.lt_size e) hT))]
    exact (hf b hb).1
  done := by
    intro X hP hw hK hc i pins s σ H E I hf st hg
    obtain ⟨fp, n, Y, St, W, hst⟩ := hstop X hP hw hK hc i pins s σ H I hf st hg
    exact W.stops s (fun s1 => Inv X pins σ H s1) E hst fun h' tk hk _ => I.turnedL (ch := wr) hk hf
  self := hself

/-! ### enumerate(tuple) -/
def IteT (K : PySem.W.Frag) (a : Addr) : It :=
  ⟨fun i H => ∃ (xs : List V) (x : V), SqT K H a xs ∧ xs[i]? = some x, fun i H v H' => ∃ T x, v = .ref T ∧ H T = none ∧ H' = upd H T (.tup [.int (i : Nat), x]) ∧ ∀ xs, SqT K H a xs → xs[i]? = some x, fun i H => ∃ xs : List V, SqT K H a xs ∧ xs.length = i⟩
theorem turn_enumT {P : Program} {w : World} {K : PySem.W.Frag} {elts : List Expr} {kk : Nat} {tpos : Pos} (a e it : Addr) (hei : e ≠ it) (hae : a ≠ e) (hai : a ≠ it) :
    Turn P w K (.Tuple elts kk tpos) (IteT K a) [e, it] e (fun i h => (∃ old, IsEnum h e it ((i : Nat) : Int) old) ∧ h.IsTupleIter it a i) := by
  refine turn_pairs (by simp) (fun i h st b hb => ?_) (fun i h h' st k => ?_) (fun X hP hw hK hc i pins s σ H I hf st hg => ?_) (fun X hP hw hK hc i pins s σ H I hf st hg => ?_) fun A i s Q E st h => ?_
  · obtain ⟨⟨old, he⟩, ⟨o, ho, hc, hd⟩⟩ := st
    have e' : b = e ∨ b = it := by simpa using hb
    rcases e' with z | z
    · rw [z]; exact ⟨_, he, fun v q => nomatch q⟩
    · rw [z]; exact ⟨o, ho, fun v q => by rw [hd] at q; cases q⟩
  · obtain ⟨⟨old, he⟩, hi⟩ := st
    exact ⟨⟨old, k e (by simp) _ he⟩, hi.at fun o q => k it (by simp) o q⟩
  · subst hP hw hK
    obtain ⟨xs, x, hq, hx⟩ := hg
    obtain ⟨its, rv, p, hz⟩ := I.tuple hq
    obtain ⟨⟨old, he⟩, hit⟩ := st
    have hh : X.A.in1.handled = none := I.ok.hd hc
    have D := Draws.tuple (prog := X.prog) (w := X.w) hh it a hai its.toArray
    refine ⟨_, _, _, _, GoesN.ofWalksT (WalksT.enumFrom 0 D e hei (by simp [hei, Ne.symm hae]) (by simp)), ?_, ⟨⟨old, by rw [Int.zero_add]; exact he⟩, hit, p⟩, fun h' st' => ?_, fun vals hp => ?_⟩
    · have hl := rv.length
      have := (List.getElem?_eq_some_iff.mp hx).1
      simp only [List.size_toArray]
      omega
    · obtain ⟨⟨old, he⟩, hit, _⟩ := st'
      rw [Int.zero_add] at he
      exact ⟨⟨old, he⟩, hit⟩
    · obtain ⟨t, u, hu, ev⟩ := hp
      obtain ⟨u', hu', ru⟩ := rv.get hx
      have : u = u' := by
        have h1 : its[i]? = some u := by simpa using hu
        rw [hu'] at h1
        exact (Option.some.inj h1).symm
      subst this
      refine ⟨.int (i : Nat), x, .int (0 + (i : Int)) t, u, ev, ⟨t, by rw [Int.zero_add]⟩, ru, fun T hT => ⟨T, x, rfl, hT, rfl, fun ys hy => ?_⟩⟩
      rw [I.tuple_inj hy hq]
      exact hx
  · subst hP hw hK
    obtain ⟨xs, hq, hx⟩ := hg
    obtain ⟨its, rv, p, hz⟩ := I.tuple hq
    obtain ⟨⟨old, he⟩, hit⟩ := st
    have hh : X.A.in1.handled = none := I.ok.hd hc
    have D := Draws.tuple (prog := X.prog) (w := X.w) hh it a hai its.toArray
    have hl := rv.length
    have hn : its.toArray.size = i := by simp only [List.size_toArray]; omega
    refine ⟨_, _, _, _, GoesN.ofWalksT (WalksT.enumFrom 0 D e hei (by simp [hei, Ne.symm hae]) (by simp)), ?_⟩
    rw [hn]
    exact ⟨⟨old, by rw [Int.zero_add]; exact he⟩, hit, p⟩
  · obtain ⟨⟨_, he⟩, _⟩ := st
    exact wpAny_pyIter_enum he h
def iEnumT (K : PySem.W.Frag) (ta : TA) : TI := fun σ H R => ta σ H fun vs H1 => ∃ a xs, vs = [.ref a] ∧ SqT K H1 a xs ∧ R (IteT K a) H1
theorem pi_enumT {X : Cx} {e : Expr} {ta : TA} {p pos tpos : Pos} {elts : List Expr} {kk : Nat} (hg : Gl X "enumerate") (hm : X.mg "enumerate" = none) (ha : PA X [e] ta) (hs : starEach [e] X.env = [(false, eval e X.env)] := by kernel_rfl) :
    PI X (.Tuple elts kk tpos) (.Call (.Name "enumerate" p) [e] [] pos) (iEnumT X.K ta) := by
  refine ⟨fun pins s σ H R I h => ?_⟩
  refine Call_ (ld_blt I hg hm boot_enumerate (PyProof.Rows.callWith_type1 (thn (ha.run pos pins s σ H _ I h) fun us s1 ⟨vs, H1, I1, r1, q1⟩ => ?_) hs rfl))
  obtain ⟨a, xs, ex, hq, q⟩ := q1
  subst ex
  cases r1 with
  | cons r rr =>
    cases rr
    cases r
    obtain ⟨its, rv, p', hz⟩ := I1.tuple hq
    have ha' : a < s1.heap.objs.size := by obtain ⟨o, ho, _⟩ := id p'; exact Heap.lt_size ho
    refine enum_begins1 (begins_tuple a its.toArray) p' fun h' he hit hsz hk => wpAny_pyIter_enum he ?_
    have I2 : Inv X pins σ H1 { s1 with heap := h' } := I1.kept (t' := s1.toks) hk
    refine ⟨s1.heap.objs.size + 1, [s1.heap.objs.size + 1, s1.heap.objs.size], _, _, H1, rfl, I2, turn_enumT a (s1.heap.objs.size + 1) s1.heap.objs.size (Nat.succ_ne_self _) (Nat.ne_of_lt (Nat.lt_succ_of_lt ha')) (Nat.ne_of_lt ha'), ⟨⟨.none, he⟩, ⟨_, hit, rfl, rfl⟩⟩, fun b hb => ?_, q⟩
    have e' : b = s1.heap.objs.size + 1 ∨ b = s1.heap.objs.size := by simpa using hb
    have hle : s1.heap.objs.size ≤ b := by
      rcases e' with z | z
      · rw [z]; exact Nat.le_add_right _ _
      · rw [z]; exact Nat.le_refl _
    exact I1.fpOk hle (I1.hok.fresh hle)

/-! ### items() of a locked dict with tuple keys -/
theorem frzT2 {X : Cx} {pins : List (Addr × Obj)} {σ : L2.St} {H : Hp} {s : Shared} {d : Addr} {o : Obj} {kvs : List (List Key × V)} (I : Inv X pins σ H s) (h : H d = some (.frz o (.dT kvs))) :
    (d == sysModules) = false ∧ s.heap.get? d = some o ∧ o.ExactDict ∧ ∃ (es : Array DictEntry) (ep : Nat), o.data = .dict es ep ∧ es.size = kvs.length ∧
      ∀ (i : Nat) (k : List Key) (v : V), kvs[i]? = some (k, v) → ∃ (en : DictEntry) (q : Addr), es[i]? = some en ∧ en.key = .ref q ∧ H q = some (.tup (k.map kV)) ∧ RelV v en.val := by
  obtain ⟨hd, z, hs, xs, pr, o', es, ep, ho, hx, hdt, he, _⟩ := I.hok d _ h
  rw [hd] at ho
  cases ho
  refine ⟨hs, hd, hx, es, ep, hdt, ?_, fun i k v e => ?_⟩
  · have l1 : es.size = xs.length := size_of_entries he
    have l2 : kvs.length = xs.length := Paired.length pr
    omega
  · obtain ⟨b, hb, e1, e2, e3⟩ := L2.paired_get pr e
    have q := entry_at he i
    rw [hb] at q
    exact ⟨_, b.2.1, q, rfl, e2, e3⟩
def Itit (d : Addr) (o : Obj) (kvs : List (List Key × V)) : It :=
  ⟨fun i H => H d = some (.frz o (.dT kvs)) ∧ i < kvs.length, fun i H x H' => ∃ T k v q, kvs[i]? = some (k, v) ∧ H q = some (.tup (k.map kV)) ∧ x = .ref T ∧ H T = none ∧ H' = upd H T (.tup [.ref q, v]), fun i H => H d = some (.frz o (.dT kvs)) ∧ kvs.length = i⟩
theorem turn_itemsT {P : Program} {w : World} {K : PySem.W.Frag} {elts : List Expr} {kk : Nat} {tpos : Pos} {d : Addr} {o : Obj} {es : Array DictEntry} {ep : Nat} {kvs : List (List Key × V)} (it : Addr) (hne : d ≠ it) (hod : o.data = .dict es ep) :
    Turn P w K (.Tuple elts kk tpos) (Itit d o kvs) [it] it (fun i h => ∃ ok ov, IsItemIter h it d i kvs.length ep ok ov) := by
  refine turn_pairs (by simp) (fun i h st b hb => ?_) (fun i h h' st k => ?_) (fun X hP hw hK hc i pins s σ H I hf st hg => ?_) (fun X hP hw hK hc i pins s σ H I hf st hg => ?_) fun A i s Q E st h => ?_
  · have e : b = it := by simpa using hb
    subst e
    obtain ⟨ok, ov, e⟩ := st
    exact ⟨_, e, fun v z => nomatch z⟩
  · obtain ⟨ok, ov, e⟩ := st
    exact ⟨ok, ov, k it (by simp) _ e⟩
  · subst hP hw hK
    obtain ⟨hd, hi⟩ := hg
    obtain ⟨hs, hgd, hx, es', ep', hdt, hsz, ent⟩ := frzT2 I hd
    obtain ⟨rfl, rfl⟩ := dict_ep hod hdt
    obtain ⟨ok, ov, he⟩ := st
    obtain ⟨⟨k, v⟩, hkv⟩ : ∃ p, kvs[i]? = some p := ⟨kvs[i], List.getElem?_eq_getElem hi⟩
    obtain ⟨en, q, hen, hkey, hq, hv⟩ := ent i k v hkv
    refine ⟨_, _, _, _, GoesN.ofWalksT (WalksT.rawItems (I.ok.hd hc) it d hne _ _), by rw [hsz]; exact hi, ⟨⟨ok, ov, by rw [hsz]; exact he⟩, o, hgd, hx, hod⟩, fun h' st' => ?_, fun vals hp => ?_⟩
    · obtain ⟨⟨ok, ov, e⟩, _⟩ := st'
      rw [hsz] at e
      exact ⟨ok, ov, e⟩
    · obtain ⟨hi', ev⟩ := hp
      have e1 := Array.getElem?_eq_getElem hi'
      rw [hen] at e1
      have e2 := Option.some.inj e1
      rw [← e2, hkey] at ev
      exact ⟨.ref q, v, .ref q, en.val, ev, rfl, hv, fun T hT => ⟨T, k, v, q, hkv, hq, rfl, hT, rfl⟩⟩
  · subst hP hw hK
    obtain ⟨hd, hi⟩ := hg
    obtain ⟨hs, hgd, hx, es', ep', hdt, hsz, ent⟩ := frzT2 I hd
    obtain ⟨rfl, rfl⟩ := dict_ep hod hdt
    obtain ⟨ok, ov, he⟩ := st
    refine ⟨_, _, _, _, GoesN.ofWalksT (WalksT.rawItems (I.ok.hd hc) it d hne _ _), ⟨ok, ov, ?_⟩, o, hgd, hx, hod⟩
    rw [hsz, hi]
    rw [hi] at he
    exact he
  · obtain ⟨_, _, e⟩ := st
    exact PySem.W.kcp_self e h
def iItemsT (td : TE) : TI := fun σ H R => td σ H fun x H1 => ∃ d o kvs, x = .ref d ∧ H1 d = some (.frz o (.dT kvs)) ∧ R (Itit d o kvs) H1
theorem pi_itemsT {X : Cx} {e : Expr} {td : TE} {apos cpos tpos : Pos} {elts : List Expr} {kk : Nat} (he : PE X e td) (hbase : attributeBase e "items" X.env (eval e X.env) = eval e X.env := by kernel_rfl) (hline : (apos.endLine == cpos.line) = true := by kernel_rfl) :
    PI X (.Tuple elts kk tpos) (.Call (.Attribute e "items" apos) [] [] cpos) (iItemsT td) := by
  refine ⟨fun pins s σ H R I h => ?_⟩
  refine wpAny_Call_method (T := "dict") (id := "dict.items") hbase rfl hline F.plainAttrs_dict F.slot_dict_items F.type_dict_items (thn (he.run pins s σ H _ I h) fun u s1 ⟨x, H1, I1, rx, d, o, kvs, ex, hd, q⟩ => ?_)
  subst ex
  obtain rfl : u = Value.ref d := rx
  obtain ⟨hs, hgd, hx, es, ep, hdt, hsz, ent⟩ := frzT2 I1 hd
  have raw : s1.heap.DictRaw d es ep := ⟨o, hgd, hx, hdt⟩
  have hdl : d < s1.heap.objs.size := Heap.lt_size hgd
  refine ⟨raw.typeIs, fun a e => by cases e; exact ⟨o, hgd, hx.2.1⟩, ?_⟩
  have I2 : Inv X pins σ H1 { s1 with heap := s1.heap.push { cls := .type "dict_items", data := .fields #[.ref d] } } := I1.kept (t' := s1.toks) fun b ob q => Heap.get?_push_of_some _ q
  have fin : wpAny (model X.prog X.w) X.A (pyIter (.ref s1.heap.objs.size)) (PIE X pins σ (.Tuple elts kk tpos) R) X.xe { s1 with heap := s1.heap.push { cls := .type "dict_items", data := .fields #[.ref d] } } := by
    refine wpAny_pyIter_items_raw (d := d) ⟨_, Heap.get?_push_size _ rfl, rfl, rfl⟩ (raw.at fun o e => Heap.get?_push_of_some _ e) (pi_one (tk := s1.toks) I2 _ (turn_itemsT _ ?_ hdt) ⟨.none, .none, ?_⟩ q)
    · rw [Heap.size_push]
      exact Nat.ne_of_lt (Nat.lt_succ_of_lt hdl)
    · rw [hsz]
      exact Heap.get?_push_size _ rfl
  show wpAny _ _ (callWith cpos (.builtin "dict.items") [.ref d] [] []) _ X.xe s1
  exact method_meetsIn F.slot_dict_items F.entry_dict_items rfl (PySem.evalArgs_none ⟨rfl, raw.typeIs, F.args_dict_items_1 _, _, meets_dict_items_raw d hs, ⟨es, ep, raw⟩, fin⟩)
end Wc
/-! Core E: what is walked; lists and dicts, read and of one's own. -/
namespace Wc
open PySem PySem.Spec PyProof.Rows L2
open Mon (ret bnd opt run run_ret run_bnd run_opt)

/-! ### dicts as lists of pairs -/
section
variable {κ α : Type} [DecidableEq κ]
def dget (xs : List (κ × α)) (k : κ) : Option α := (xs.find? fun p => decide (p.1 = k)).map (·.2)
def dput (xs : List (κ × α)) (k : κ) (v : α) : List (κ × α) := if (xs.any fun p => decide (p.1 = k)) = true then xs.map (fun p => if p.1 = k then (p.1, v) else p) else xs ++ [(k, v)]
end
/-- a type of keys: how they are written -/
structure KTy (κ : Type) where
  τ : Ty κ
  enc : κ → List Key
  inj : ∀ {a b : κ}, enc a = enc b → a = b
  ok : ∀ {F : Hp} {v : V} {k : κ}, τ.rel F v k → ∃ q, v = .ref q ∧ F q = some (.tup ((enc k).map kV))
  of : ∀ {F : Hp} {q : Addr} {k : κ}, F q = some (.tup ((enc k).map kV)) → τ.rel F (.ref q) k
section
variable {α κ : Type}
def PK (τ : Ty α) (F : Hp) : Key × V → Int × α → Prop := fun p x => p.1 = Sum.inl x.1 ∧ τ.rel F p.2 x.2
def PT' (k : KTy κ) (τ : Ty α) (F : Hp) : List Key × V → κ × α → Prop := fun p x => p.1 = k.enc x.1 ∧ τ.rel F p.2 x.2
theorem pmonoG {β γ : Type} {R S : β → γ → Prop} (h : ∀ v x, R v x → S v x) {vs : List β} {xs : List γ} (p : Paired R vs xs) : Paired S vs xs := by
  induction p with
  | nil => exact .nil
  | cons r _ ih => exact .cons (h _ _ r) ih
def ODK (τ : Ty α) : OTy (List (Int × α)) := ⟨fun F o xs => ∃ kvs, o = .dK kvs ∧ Paired (PK τ F) kvs xs, fun e ⟨kvs, h1, h2⟩ => ⟨kvs, h1, pmonoG (fun _ _ r => ⟨r.1, τ.mono e r.2⟩) h2⟩⟩
def ODT (k : KTy κ) (τ : Ty α) : OTy (List (κ × α)) := ⟨fun F o xs => ∃ kvs, o = .dT kvs ∧ Paired (PT' k τ F) kvs xs, fun e ⟨kvs, h1, h2⟩ => ⟨kvs, h1, pmonoG (fun _ _ r => ⟨r.1, τ.mono e r.2⟩) h2⟩⟩
abbrev TDK (τ : Ty α) : Ty (List (Int × α)) := (ODK τ).lk
abbrev TDT (k : KTy κ) (τ : Ty α) : Ty (List (κ × α)) := (ODT k τ).lk
/-- look-ups go over -/
theorem dget_rel {κ' : Type} [DecidableEq κ] [DecidableEq κ'] {e : κ → κ'} (inj : ∀ {a b}, e a = e b → a = b) {R : V → α → Prop} {kvs : List (κ' × V)} {xs : List (κ × α)} (h : Paired (fun p x => p.1 = e x.1 ∧ R p.2 x.2) kvs xs) (k : κ) :
    match dget xs k with
    | none => valV kvs (e k) = none
    | some x => ∃ v, valV kvs (e k) = some v ∧ R v x := by
  induction h with
  | nil => exact valV_nil
  | @cons p x r s hr t ih =>
    obtain ⟨h1, h2⟩ := hr
    by_cases hk : x.1 = k
    · have e1 : dget (x :: s) k = some x.2 := by simp [dget, List.find?_cons, hk]
      rw [e1]
      exact ⟨p.2, valV_pos (by rw [h1, hk]), h2⟩
    · have e1 : dget (x :: s) k = dget s k := by simp [dget, List.find?_cons, hk]
      have e2 : valV (p :: r) (e k) = valV r (e k) := valV_neg (by rw [h1]; exact fun z => hk (inj z))
      rw [e1, e2]
      exact ih
theorem any_rel {κ' : Type} [DecidableEq κ] [DecidableEq κ'] {e : κ → κ'} (inj : ∀ {a b}, e a = e b → a = b) {R : V → α → Prop} {kvs : List (κ' × V)} {xs : List (κ × α)} (h : Paired (fun p x => p.1 = e x.1 ∧ R p.2 x.2) kvs xs) (k : κ) :
    (kvs.any fun p => decide (p.1 = e k)) = xs.any fun p => decide (p.1 = k) := by
  induction h with
  | nil => rfl
  | @cons p x r s hr t ih =>
    rw [List.any_cons, List.any_cons, ih, hr.1]
    have : decide (e x.1 = e k) = decide (x.1 = k) := by
      by_cases hk : x.1 = k
      · rw [hk, decide_eq_true rfl, decide_eq_true rfl]
      · rw [decide_eq_false hk, decide_eq_false fun z => hk (inj z)]
    rw [this]
theorem paired_map {β γ : Type} {R : β → γ → Prop} {f : β → β} {g : γ → γ} (h : ∀ p x, R p x → R (f p) (g x)) {ps : List β} {xs : List γ} (p : Paired R ps xs) : Paired R (ps.map f) (xs.map g) := by
  induction p with
  | nil => exact .nil
  | cons r _ ih => exact .cons (h _ _ r) ih
theorem paired_snoc {β γ : Type} {R : β → γ → Prop} {a : β} {b : γ} {ps : List β} {xs : List γ} (p : Paired R ps xs) (r : R a b) : Paired R (ps ++ [a]) (xs ++ [b]) := by
  induction p with
  | nil => exact .cons r .nil
  | cons q _ ih => exact .cons q ih
theorem dput_rel {κ' : Type} [DecidableEq κ] [DecidableEq κ'] {e : κ → κ'} (inj : ∀ {a b}, e a = e b → a = b) {R : V → α → Prop} {kvs : List (κ' × V)} {xs : List (κ × α)} (h : Paired (fun p x => p.1 = e x.1 ∧ R p.2 x.2) kvs xs) {k : κ} {v : V} {x : α} (r : R v x) :
    Paired (fun p x => p.1 = e x.1 ∧ R p.2 x.2) (putK kvs (e k) v) (dput xs k x) := by
  unfold putK dput
  rw [any_rel inj h k]
  by_cases c : (xs.any fun p => decide (p.1 = k)) = true
  · rw [if_pos c, if_pos c]
    refine paired_map (fun p y q => ?_) h
    by_cases hk : y.1 = k
    · rw [if_pos hk, if_pos (by rw [q.1, hk])]
      exact ⟨q.1, r⟩
    · rw [if_neg hk, if_neg (by rw [q.1]; exact fun z => hk (inj z))]
      exact q
  · rw [if_neg c, if_neg c]
    exact paired_snoc h ⟨rfl, r⟩
end

section
variable {m : Type → Type} [Mon m] {G : Gs} {X : Cx} {Γ Δ : Ga} {α β γ κ S L R : Type} {τ : Ty α} {υ : Ty β} {φ : Ty R} {a b e : Expr} {es : List Expr} {pos : Pos} {st : Stmt} {ss rest : List Stmt} {g : S → Ga} {gl : L → Ga}

/-! ### a thing that is read, one's own or frozen -/
def XO (G : Gs) (X : Cx) (e : Expr) (Γ : Ga) (ω : OTy α) (c : m α) : Prop := ∀ (H0 F H : Hp) (σ : L2.St), Cf G F H → En G H0 F H σ Γ → ∀ Qd : α → Prop, run c Qd →
  ∀ Q : VK, (∀ x p o F' H', Qd x → Step G F H F' H' → Cf G F' H' → ω.rel F' o x → (∀ F2 H2, Step G F' H' F2 H2 → Cf G F2 H2 → Rd H2 p o) → Q (.ref p) H') → semE X e σ H Q
theorem xo_own {ω : OTy α} {i : Nat} {x : α} {nm : Str} (hN : X.N[i]? = some nm := by kernel_rfl) (hΓ : Γ[i]? = some (some (.ow ω x)) := by rfl) (hv : Vis X.env.scope nm := by first | exact Or.inl rfl | exact Or.inr (Or.inl rfl) | exact Or.inr (Or.inr rfl))
    (hd : (nm == ("__debug__" : Str)) = false := by kernel_rfl) (hcd : (nm == ("__classdict__" : Str)) = false := by kernel_rfl) : XO G X (.Name nm pos) Γ ω (ret x : m α) := by
  intro H0 F H σ cf E Qd hr Q q
  obtain ⟨v, ev, p, o, e, ho, r, hF, h0, hm, nx⟩ := E.get hΓ
  subst e
  exact (pe_var hN hv hd hcd).sem ⟨.ref p, ev, q x p o F H (run_ret hr) Step.refl cf r fun F2 H2 k _ => .inl (k.keep p o ho hm)⟩
theorem xo_at {ω : OTy α} {c : m α} (h : XE G X e Γ ω.at c) : XO G X e Γ ω c := by
  intro H0 F H σ cf E Qd hr Q q
  refine h H0 F H σ cf E Qd hr Q fun x v F' H' d k cf' r => ?_
  obtain ⟨p, o, ev, hF, r⟩ := r
  subst ev
  exact q x p o F' H' d k cf' r fun F2 H2 k2 cf2 => .inl (cf2.sub p o (k2.ex p o hF))
theorem xo_lk {ω : OTy α} {c : m α} (h : XE G X e Γ ω.lk c) : XO G X e Γ ω c := by
  intro H0 F H σ cf E Qd hr Q q
  refine h H0 F H σ cf E Qd hr Q fun x v F' H' d k cf' r => ?_
  obtain ⟨p, ob, o, ev, hF, r⟩ := r
  subst ev
  exact q x p o F' H' d k cf' r fun F2 H2 k2 cf2 => .inr ⟨ob, cf2.sub p _ (k2.ex p _ hF)⟩
/-- xs[i] -/
theorem xo_ixL {c : m (List α)} {ci : m Int} (h : XO G X a Γ (OLst τ) c) (hi : XE G X b Γ TInt ci) (hs : PlainIx b) : XE G X (.Subscript a b pos) Γ τ (bnd c fun xs => bnd ci fun i => opt (atI xs i)) := by
  intro H0 F H σ cf E Qd hr Q q
  refine (pe_ix ix_list pe_sem pe_sem hs).sem ?_
  refine h H0 F H σ cf E _ (run_bnd hr) _ fun xs p o F1 H1 d1 k1 cf1 r1 st => ?_
  refine hi H0 F1 H1 σ cf1 (E.step k1) _ (run_bnd d1) _ fun i v F2 H2 d2 k2 cf2 r2 => ?_
  obtain ⟨z, ez, d3⟩ := run_opt d2
  obtain ⟨vs, eo, rr⟩ := r1
  subst eo
  obtain ⟨u, eu, ru⟩ := paired_at rr ez
  exact ⟨p, vs, i, u, rfl, r2, .inl (st F2 H2 k2 cf2), eu, q z u F2 H2 d3 (k1.trans k2) cf2 (τ.mono k2.ex ru)⟩
theorem xo_ixT {c : m (List α)} {ci : m Int} (h : XO G X a Γ (OTup τ) c) (hi : XE G X b Γ TInt ci) (hs : PlainIx b) : XE G X (.Subscript a b pos) Γ τ (bnd c fun xs => bnd ci fun i => opt (atI xs i)) := by
  intro H0 F H σ cf E Qd hr Q q
  refine (pe_ix ix_tup pe_sem pe_sem hs).sem ?_
  refine h H0 F H σ cf E _ (run_bnd hr) _ fun xs p o F1 H1 d1 k1 cf1 r1 st => ?_
  refine hi H0 F1 H1 σ cf1 (E.step k1) _ (run_bnd d1) _ fun i v F2 H2 d2 k2 cf2 r2 => ?_
  obtain ⟨z, ez, d3⟩ := run_opt d2
  obtain ⟨vs, eo, rr⟩ := r1
  subst eo
  obtain ⟨u, eu, ru⟩ := paired_at rr ez
  exact ⟨p, vs, i, u, rfl, r2, .inl (st F2 H2 k2 cf2), eu, q z u F2 H2 d3 (k1.trans k2) cf2 (τ.mono k2.ex ru)⟩
theorem len_callB {c : m α} {ω : OTy α} {n : α → Nat} {p1 : Pos} (hm : X.mg "len" = none) (h : XO G X a Γ ω c) (hl : ∀ F o x, ω.rel F o x → (∃ vs, o = .lst vs ∧ vs.length = n x) ∨ ∃ vs, o = .tup vs ∧ vs.length = n x)
    (hg : Gl X "len" := by show _ = _; kernel_rfl) (he : starEach [a] X.env = (false, eval a X.env) :: starEach [] X.env := by kernel_rfl) (hpl : (backTo pos (starEach [] X.env)).any (·.1) = false := by kernel_rfl) : XE G X (.Call (.Name "len" p1) [a] [] pos) Γ TInt (bnd c fun x => ret ((n x : Nat) : Int)) := by
  intro H0 F H σ cf E Qd hr Q q
  refine (pe_callB call_len_seq hg hm PySem.boot_len (pa_cons pe_sem pa_nil he) (by decide) (by decide) he hpl).sem ?_
  refine h H0 F H σ cf E _ (run_bnd hr) _ fun x p o F1 H1 d1 k1 cf1 r1 st => ?_
  have rd := st F1 H1 Step.refl cf1
  rcases hl F1 o x r1 with ⟨vs, eo, en⟩ | ⟨vs, eo, en⟩
  · subst eo
    exact ⟨p, vs, rfl, .inl (.inl rd), q _ _ F1 H1 (run_ret d1) k1 cf1 (by rw [en]; rfl)⟩
  · subst eo
    exact ⟨p, vs, rfl, .inr (.inl rd), q _ _ F1 H1 (run_ret d1) k1 cf1 (by rw [en]; rfl)⟩
theorem xo_lenL {c : m (List α)} {p1 : Pos} (hm : X.mg "len" = none) (h : XO G X a Γ (OLst τ) c) (hg : Gl X "len" := by show _ = _; kernel_rfl) (he : starEach [a] X.env = (false, eval a X.env) :: starEach [] X.env := by kernel_rfl) (hpl : (backTo pos (starEach [] X.env)).any (·.1) = false := by kernel_rfl) :
    XE G X (.Call (.Name "len" p1) [a] [] pos) Γ TInt (bnd c fun x => ret ((x.length : Nat) : Int)) := len_callB (n := fun x : List α => x.length) hm h (fun F o x r => let ⟨vs, eo, rr⟩ := r; .inl ⟨vs, eo, paired_len rr⟩) hg he hpl
theorem xo_lenT {c : m (List α)} {p1 : Pos} (hm : X.mg "len" = none) (h : XO G X a Γ (OTup τ) c) (hg : Gl X "len" := by show _ = _; kernel_rfl) (he : starEach [a] X.env = (false, eval a X.env) :: starEach [] X.env := by kernel_rfl) (hpl : (backTo pos (starEach [] X.env)).any (·.1) = false := by kernel_rfl) :
    XE G X (.Call (.Name "len" p1) [a] [] pos) Γ TInt (bnd c fun x => ret ((x.length : Nat) : Int)) := len_callB (n := fun x : List α => x.length) hm h (fun F o x r => let ⟨vs, eo, rr⟩ := r; .inr ⟨vs, eo, paired_len rr⟩) hg he hpl

/-! ### dicts that are read -/
/-- what is read at a key -/
structure KD (κ : Type) [DecidableEq κ] (α : Type) (G : Gs) (ω : OTy (List (κ × α))) (τk : Ty κ) (τ : Ty α) : Prop where
  get : ∀ {F H : Hp} {p : Addr} {o : HO} {xs : List (κ × α)} {v : V} {k : κ}, Cf G F H → ω.rel F o xs → Rd H p o → τk.rel F v k → ∃ r, DGet H p v r ∧ (match dget xs k with
    | none => r = none
    | some x => ∃ u, r = some u ∧ τ.rel F u x)
  isD : ∀ {F H : Hp} {p : Addr} {o : HO} {xs : List (κ × α)}, ω.rel F o xs → Rd H p o → IsD H p
  put : ∀ {F H : Hp} {p : Addr} {o : HO} {xs : List (κ × α)} {v u : V} {k : κ} {x : α}, Cf G F H → ω.rel F o xs → H p = some o → τk.rel F v k → τ.rel F u x → xs.length < 1000000 → ∃ o', DPut H p v u (upd H p o') ∧ ω.rel F o' (dput xs k x) ∧ (∀ ys, o' ≠ .tup ys) ∧ ∀ ψ, o' ≠ .ext ψ
theorem small_line {n : Nat} (h : n < 1000000) : n < sizeLine := Nat.lt_of_lt_of_le h (by decide)
theorem kdK : KD Int α G (ODK τ) TInt τ where
  get := fun {F H p o xs v k} cf r rd rk => by
    obtain ⟨kvs, eo, pr⟩ := r
    subst eo
    cases (show v = .int k from rk)
    refine ⟨valV kvs (Sum.inl k), .inl ⟨kvs, Sum.inl k, rd, rfl, rfl⟩, ?_⟩
    have := dget_rel (e := fun i : Int => (Sum.inl i : Key)) (fun h => Sum.inl.inj h) (R := τ.rel F) pr k
    cases h : dget xs k with
    | none => rw [h] at this; exact this
    | some x => rw [h] at this; exact this
  isD := fun r rd => by
    obtain ⟨kvs, eo, pr⟩ := r
    subst eo
    exact .inl ⟨kvs, rd⟩
  put := fun {F H p o xs v u k x} cf r ho rk ru hl => by
    obtain ⟨kvs, eo, pr⟩ := r
    subst eo
    cases (show v = .int k from rk)
    refine ⟨.dK (putK kvs (Sum.inl k) u), .inl ⟨kvs, Sum.inl k, ho, rfl, ?_, rfl⟩, ⟨_, rfl, dput_rel (e := fun i : Int => (Sum.inl i : Key)) (fun h => Sum.inl.inj h) (R := τ.rel F) pr ru⟩, (fun ys z => by cases z), (fun ψ z => by cases z)⟩
    rw [show kvs.length = xs.length from Paired.length pr]
    exact small_line hl
theorem kdT [DecidableEq κ] {kt : KTy κ} : KD κ α G (ODT kt τ) kt.τ τ where
  get := fun {F H p o xs v k} cf r rd rk => by
    obtain ⟨kvs, eo, pr⟩ := r
    subst eo
    obtain ⟨q, ev, hq⟩ := kt.ok rk
    subst ev
    refine ⟨valV kvs (kt.enc k), .inr ⟨kvs, kt.enc k, q, rd, rfl, cf.sub _ _ hq, rfl⟩, ?_⟩
    have := dget_rel (e := kt.enc) (fun h => kt.inj h) (R := τ.rel F) pr k
    cases h : dget xs k with
    | none => rw [h] at this; exact this
    | some x => rw [h] at this; exact this
  isD := fun r rd => by
    obtain ⟨kvs, eo, pr⟩ := r
    subst eo
    exact .inr ⟨kvs, rd⟩
  put := fun {F H p o xs v u k x} cf r ho rk ru hl => by
    obtain ⟨kvs, eo, pr⟩ := r
    subst eo
    obtain ⟨q, ev, hq⟩ := kt.ok rk
    subst ev
    refine ⟨.dT (putK kvs (kt.enc k) u), .inr ⟨kvs, kt.enc k, q, ho, rfl, cf.sub _ _ hq, ?_, rfl⟩, ⟨_, rfl, dput_rel (e := kt.enc) (fun h => kt.inj h) (R := τ.rel F) pr ru⟩, (fun ys z => by cases z), (fun ψ z => by cases z)⟩
    rw [show kvs.length = xs.length from Paired.length pr]
    exact small_line hl
section
variable [DecidableEq κ] {ω : OTy (List (κ × α))} {τk : Ty κ}
/-- d[k] -/
theorem xo_dget (kd : KD κ α G ω τk τ) (hu : X.A.units + 64 < cLine) {c : m (List (κ × α))} {ck : m κ} (h : XO G X a Γ ω c) (hk : XE G X b Γ τk ck) (hs : NoSl b) : XE G X (.Subscript a b pos) Γ τ (bnd c fun xs => bnd ck fun k => opt (dget xs k)) := by
  intro H0 F H σ cf E Qd hr Q q
  refine (pe_dget (by omega) pe_sem pe_sem hs).sem ?_
  refine h H0 F H σ cf E _ (run_bnd hr) _ fun xs p o F1 H1 d1 k1 cf1 r1 st => ?_
  refine hk H0 F1 H1 σ cf1 (E.step k1) _ (run_bnd d1) _ fun k v F2 H2 d2 k2 cf2 r2 => ?_
  obtain ⟨z, ez, d3⟩ := run_opt d2
  obtain ⟨r, hg, hr⟩ := kd.get cf2 (ω.mono k2.ex r1) (st F2 H2 k2 cf2) r2
  rw [ez] at hr
  obtain ⟨u, er, ru⟩ := hr
  subst er
  exact ⟨p, u, rfl, hg, q z u F2 H2 d3 (k1.trans k2) cf2 ru⟩
/-- d.get(k, x) -/
theorem xo_dget2 (kd : KD κ α G ω τk τ) (hu : X.A.units + 64 < cLine) {e2 : Expr} {apos : Pos} {c : m (List (κ × α))} {ck : m κ} {cx : m α} (h : XO G X a Γ ω c) (hk : XE G X b Γ τk ck) (hx : XE G X e2 Γ τ cx) (hm : M2 X a "get" apos b e2 pos := by exact ⟨rfl, rfl, rfl, rfl⟩) :
    XE G X (.Call (.Attribute a "get" apos) [b, e2] [] pos) Γ τ (bnd c fun xs => bnd ck fun k => bnd cx fun x => ret ((dget xs k).getD x)) := by
  intro H0 F H σ cf E Qd hr Q q
  refine (pe_dget2 (by omega) pe_sem pe_sem pe_sem hm).sem ?_
  refine h H0 F H σ cf E _ (run_bnd hr) _ fun xs p o F1 H1 d1 k1 cf1 r1 st => ⟨p, rfl, kd.isD r1 (st F1 H1 Step.refl cf1), ?_⟩
  refine hk H0 F1 H1 σ cf1 (E.step k1) _ (run_bnd d1) _ fun k v F2 H2 d2 k2 cf2 r2 => ?_
  refine hx H0 F2 H2 σ cf2 ((E.step k1).step k2) _ (run_bnd d2) _ fun x w F3 H3 d3 k3 cf3 r3 => ?_
  obtain ⟨r, hg, hr⟩ := kd.get cf3 (ω.mono (k2.trans k3).ex r1) (st F3 H3 (k2.trans k3) cf3) (τk.mono k3.ex r2)
  refine ⟨r, hg, ?_⟩
  cases ez : dget xs k with
  | none =>
    rw [ez] at hr
    subst hr
    have d4 := run_ret d3
    rw [ez] at d4
    exact q x w F3 H3 d4 ((k1.trans k2).trans k3) cf3 r3
  | some z =>
    rw [ez] at hr
    obtain ⟨u, er, ru⟩ := hr
    subst er
    have d4 := run_ret d3
    rw [ez] at d4
    exact q z u F3 H3 d4 ((k1.trans k2).trans k3) cf3 ru
/-- k in d -/
theorem xo_din (kd : KD κ α G ω τk τ) (hu : X.A.units + 64 < cLine) {c : m (List (κ × α))} {ck : m κ} (hk : XE G X b Γ τk ck) (h : XO G X a Γ ω c) (hm : behindInMarks .In a = false := by kernel_rfl) : XE G X (.Compare b [.In] [a] pos) Γ TBool (bnd ck fun k => bnd c fun xs => ret (dget xs k).isSome) := by
  intro H0 F H σ cf E Qd hr Q q
  refine (pe_cmp (pc_din (by omega) pe_sem pe_sem) hm).sem ?_
  refine hk H0 F H σ cf E _ (run_bnd hr) _ fun k v F1 H1 d1 k1 cf1 r1 => ?_
  refine h H0 F1 H1 σ cf1 (E.step k1) _ (run_bnd d1) _ fun xs p o F2 H2 d2 k2 cf2 r2 st => ?_
  obtain ⟨r, hg, hr⟩ := kd.get cf2 r2 (st F2 H2 Step.refl cf2) (τk.mono k2.ex r1)
  refine ⟨p, r, rfl, hg, q _ _ F2 H2 (run_ret d2) (k1.trans k2) cf2 ?_⟩
  cases ez : dget xs k with
  | none => rw [ez] at hr; subst hr; rfl
  | some z => rw [ez] at hr; obtain ⟨u, er, _⟩ := hr; subst er; rfl
theorem xo_dnin (kd : KD κ α G ω τk τ) (hu : X.A.units + 64 < cLine) {c : m (List (κ × α))} {ck : m κ} (hk : XE G X b Γ τk ck) (h : XO G X a Γ ω c) (hm : behindInMarks .NotIn a = false := by kernel_rfl) : XE G X (.Compare b [.NotIn] [a] pos) Γ TBool (bnd ck fun k => bnd c fun xs => ret (!(dget xs k).isSome)) := by
  intro H0 F H σ cf E Qd hr Q q
  refine (pe_cmp (pc_dnotin (by omega) pe_sem pe_sem) hm).sem ?_
  refine hk H0 F H σ cf E _ (run_bnd hr) _ fun k v F1 H1 d1 k1 cf1 r1 => ?_
  refine h H0 F1 H1 σ cf1 (E.step k1) _ (run_bnd d1) _ fun xs p o F2 H2 d2 k2 cf2 r2 st => ?_
  obtain ⟨r, hg, hr⟩ := kd.get cf2 r2 (st F2 H2 Step.refl cf2) (τk.mono k2.ex r1)
  refine ⟨p, r, rfl, hg, q _ _ F2 H2 (run_ret d2) (k1.trans k2) cf2 ?_⟩
  cases ez : dget xs k with
  | none => rw [ez] at hr; subst hr; rfl
  | some z => rw [ez] at hr; obtain ⟨u, er, _⟩ := hr; subst er; rfl
end

/-! ### what is walked -/
theorem tw_of {J : It} {n : Nat} {G' : Hp → Prop} {Y : Nat → Hp → V → Hp → Prop} {F1 H1 : Hp} {xs : List α} (w : Walk J n G' Y) (hn : n = xs.length) (hG : ∀ F2 H2, Same F1 F2 → Cf G F2 H2 → G' H2)
    (hy : ∀ F2 H2, Same F1 F2 → Cf G F2 H2 → ∀ (i : Nat) (x : α) (v : V) (H3 : Hp), xs[i]? = some x → Y i H2 v H3 → ∃ F3, Step G F2 H2 F3 H3 ∧ Cf G F3 H3 ∧ τ.rel F3 v x) : TW G J F1 H1 τ xs := by
  intro F2 H2 sm cf
  have hg := hG F2 H2 sm cf
  refine ⟨by rw [← hn]; exact w.stops H2 hg, fun i x hx => ?_⟩
  have hi : i < n := by rw [hn]; exact (List.getElem?_eq_some_iff.mp hx).1
  exact ⟨w.goes i H2 hi hg, fun v H3 y => hy F2 H2 sm cf i x v H3 hx (w.yields i H2 v H3 hi hg y)⟩
theorem xi_tup {tg : Expr} {c : m (List α)} (h : XE G X e Γ (TTup τ) c) : XI G X tg e Γ τ c := by
  intro H0 F H σ cf E Qd hr R q
  refine (pi_tup pe_sem).sem ?_
  refine h H0 F H σ cf E Qd hr _ fun xs v F1 H1 d1 k1 cf1 r1 => ?_
  obtain ⟨p, o, ev, hF, vs, eo, rr⟩ := r1
  subst ev eo
  refine ⟨p, rfl, ⟨vs, .inl (.inl (cf1.sub _ _ hF))⟩, q xs _ F1 H1 d1 k1 cf1 (tw_of (walk_tup (xs := vs)) (paired_len rr) (fun F2 H2 sm cf2 => .inl (.inl (cf2.sub _ _ (sm _ _ hF)))) fun F2 H2 sm cf2 i x v H3 hx y => ?_)⟩
  obtain ⟨e, hv⟩ := y
  subst e
  obtain ⟨u, eu, ru⟩ := paired_get rr hx
  rw [hv] at eu
  cases eu
  exact ⟨F2, Step.refl, cf2, τ.mono sm ru⟩
theorem xi_lst {tg : Expr} {c : m (List α)} (h : XE G X e Γ (TLst τ) c) : XI G X tg e Γ τ c := by
  intro H0 F H σ cf E Qd hr R q
  refine (pi_list pe_sem).sem ?_
  refine h H0 F H σ cf E Qd hr _ fun xs v F1 H1 d1 k1 cf1 r1 => ?_
  obtain ⟨p, o, ev, hF, vs, eo, rr⟩ := r1
  subst ev eo
  refine ⟨p, rfl, ⟨vs, .inl (.inl (cf1.sub _ _ hF))⟩, q xs _ F1 H1 d1 k1 cf1 (tw_of (walk_list (xs := vs)) (paired_len rr) (fun F2 H2 sm cf2 => .inl (.inl (cf2.sub _ _ (sm _ _ hF)))) fun F2 H2 sm cf2 i x v H3 hx y => ?_)⟩
  obtain ⟨e, hv⟩ := y
  subst e
  obtain ⟨u, eu, ru⟩ := paired_get rr hx
  rw [hv] at eu
  cases eu
  exact ⟨F2, Step.refl, cf2, τ.mono sm ru⟩
def rngI (lo hi : Int) : Option (List Int) := if (-1000000000 < lo ∧ lo < 1000000000 ∧ -1000000000 < hi ∧ hi < 1000000000) then some ((List.range (hi - lo).toNat).map fun (i : Nat) => lo + (i : Int)) else none
theorem tw_range {F1 H1 : Hp} {lo : Int} {n : Nat} : TW G (Itr lo n) F1 H1 TInt ((List.range n).map fun (i : Nat) => lo + (i : Int)) := by
  refine tw_of walk_range (by simp) (fun _ _ _ _ => True.intro) fun F2 H2 sm cf2 i x v H3 hx y => ?_
  obtain ⟨e, hv⟩ := y
  subst e
  have e1 : x = lo + (i : Int) := by
    rw [List.getElem?_map] at hx
    cases h : (List.range n)[i]? with
    | none => rw [h] at hx; cases hx
    | some j =>
      rw [h] at hx
      obtain ⟨hl, e⟩ := List.getElem?_eq_some_iff.mp h
      rw [List.getElem_range] at e
      subst e
      exact (Option.some.inj hx).symm
  exact ⟨F2, Step.refl, cf2, by rw [e1]; exact hv⟩
theorem xi_rng1 {tg : Expr} {p1 : Pos} {c : m Int} (hm : X.mg "range" = none) (h : XE G X a Γ TInt c) (hg : Gl X "range" := by show _ = _; kernel_rfl) (hs : starEach [a] X.env = [(false, eval a X.env)] := by kernel_rfl) : XI G X tg (.Call (.Name "range" p1) [a] [] pos) Γ TInt (bnd c fun j => opt (rngI 0 j)) := by
  intro H0 F H σ cf E Qd hr R q
  refine (pi_range1 hg hm (pa_cons pe_sem pa_nil (by rw [hs] <;> rfl)) hs).sem ?_
  refine h H0 F H σ cf E _ (run_bnd hr) _ fun j v F1 H1 d1 k1 cf1 r1 => ?_
  obtain ⟨z, ez, d2⟩ := run_opt d1
  unfold rngI at ez
  split at ez
  · rename_i hb
    cases ez
    refine ⟨j, by rw [show v = .int j from r1], by omega, by omega, ?_⟩
    have e0 : (j - 0).toNat = j.toNat := by omega
    have := q _ (Itr 0 (j - 0).toNat) F1 H1 d2 k1 cf1 tw_range
    rw [e0] at this
    exact this
  · cases ez
theorem xi_rng2 {tg : Expr} {p1 : Pos} {ca cb : m Int} (hm : X.mg "range" = none) (ha : XE G X a Γ TInt ca) (hb : XE G X b Γ TInt cb) (hg : Gl X "range" := by show _ = _; kernel_rfl) (hs : starEach [a, b] X.env = [(false, eval a X.env), (false, eval b X.env)] := by kernel_rfl) (hs2 : starEach [b] X.env = [(false, eval b X.env)] := by kernel_rfl) :
    XI G X tg (.Call (.Name "range" p1) [a, b] [] pos) Γ TInt (bnd ca fun i => bnd cb fun j => opt (rngI i j)) := by
  intro H0 F H σ cf E Qd hr R q
  refine (pi_range2 hg hm (pa_cons pe_sem (pa_cons pe_sem pa_nil (by rw [hs2] <;> rfl)) (by rw [hs, hs2])) hs hs2).sem ?_
  refine ha H0 F H σ cf E _ (run_bnd hr) _ fun i v F1 H1 d1 k1 cf1 r1 => ?_
  refine hb H0 F1 H1 σ cf1 (E.step k1) _ (run_bnd d1) _ fun j w F2 H2 d2 k2 cf2 r2 => ?_
  obtain ⟨z, ez, d3⟩ := run_opt d2
  unfold rngI at ez
  split at ez
  · rename_i hb
    cases ez
    exact ⟨i, j, by rw [show v = .int i from r1, show w = .int j from r2], ⟨by omega, by omega, by omega, by omega⟩, q _ (Itr i (j - i).toNat) F2 H2 d3 (k1.trans k2) cf2 tw_range⟩
  · cases ez
/-- a new pair at each turn -/
theorem tw_pair {J : It} {n : Nat} {G' : Hp → Prop} {f g' : Nat → Option V} {F1 H1 : Hp} {xs : List (α × β)} (w : Walk J n G' (YPair f g')) (hn : n = xs.length) (hG : ∀ F2 H2, Same F1 F2 → Cf G F2 H2 → G' H2)
    (hr : ∀ (i : Nat) (x : α × β), xs[i]? = some x → ∀ v w, f i = some v → g' i = some w → τ.rel F1 v x.1 ∧ υ.rel F1 w x.2) : TW G J F1 H1 (T2 τ υ) xs := by
  refine tw_of w hn hG fun F2 H2 sm cf2 i x v H3 hx y => ?_
  obtain ⟨T, u, u', ev, hT, eH, h1, h2⟩ := y
  subst ev eH
  obtain ⟨cf3, k3⟩ := cf_new (o := .tup [u, u']) cf2 hT
  obtain ⟨r1, r2⟩ := hr i x hx u u' h1 h2
  exact ⟨_, k3, cf3, T, _, rfl, upd_same, u, u', rfl, τ.mono (sm.trans k3.ex) r1, υ.mono (sm.trans k3.ex) r2⟩
def enumI (xs : List α) : List (Int × α) := (List.range xs.length).zip xs |>.map fun p => ((p.1 : Int), p.2)
theorem enumI_get {xs : List α} {i : Nat} {x : Int × α} (h : (enumI xs)[i]? = some x) : x.1 = (i : Int) ∧ xs[i]? = some x.2 := by
  unfold enumI at h
  rw [List.getElem?_map] at h
  cases q : ((List.range xs.length).zip xs)[i]? with
  | none => rw [q] at h; cases h
  | some p =>
    rw [q] at h
    have e := Option.some.inj h
    rw [List.getElem?_zip_eq_some] at q
    obtain ⟨q1, q2⟩ := q
    obtain ⟨hl, e1⟩ := List.getElem?_eq_some_iff.mp q1
    rw [List.getElem_range] at e1
    subst e
    exact ⟨by show (p.1 : Int) = (i : Int); rw [← e1], q2⟩
theorem enumI_len (xs : List α) : (enumI xs).length = xs.length := by simp [enumI]
theorem xi_enumL {elts : List Expr} {kk : Nat} {tpos p1 : Pos} {c : m (List α)} (hm : X.mg "enumerate" = none) (h : XE G X a Γ (TLst τ) c) (hg : Gl X "enumerate" := by show _ = _; kernel_rfl) (hs : starEach [a] X.env = [(false, eval a X.env)] := by kernel_rfl) :
    XI G X (.Tuple elts kk tpos) (.Call (.Name "enumerate" p1) [a] [] pos) Γ (T2 TInt τ) (bnd c fun xs => ret (enumI xs)) := by
  intro H0 F H σ cf E Qd hr R q
  refine (pi_enum hg hm (pa_cons pe_sem pa_nil (by rw [hs] <;> rfl)) hs).sem ?_
  refine h H0 F H σ cf E _ (run_bnd hr) _ fun xs v F1 H1 d1 k1 cf1 r1 => ?_
  obtain ⟨p, o, ev, hF, vs, eo, rr⟩ := r1
  subst ev eo
  refine ⟨p, vs, rfl, .inl (.inl (cf1.sub _ _ hF)), q _ _ F1 H1 (run_ret d1) k1 cf1 (tw_pair (walk_enum (xs := vs)) (by rw [enumI_len]; exact paired_len rr) (fun F2 H2 sm cf2 => .inl (.inl (cf2.sub _ _ (sm _ _ hF)))) fun i x hx v w hv hw => ?_)⟩
  obtain ⟨e1, e2⟩ := enumI_get hx
  cases hv
  obtain ⟨u, eu, ru⟩ := paired_get rr e2
  have hw : vs[i]? = some w := hw
  rw [hw] at eu
  cases eu
  exact ⟨by rw [e1]; rfl, ru⟩
theorem walk_enumT {K : PySem.W.Frag} {p : Addr} {xs : List V} : Walk (IteT K p) xs.length (fun H => SqT K H p xs) (YPair (fun i => some (.int (i : Nat))) (fun i => xs[i]?)) := by
  refine ⟨fun i _ hi q => ⟨xs, xs[i], q, by simp [hi]⟩, fun _ q => ⟨xs, q, rfl⟩, fun i H v H' _ q y => ?_⟩
  obtain ⟨T, x, h1, h2, h3, h4⟩ := y
  exact ⟨T, .int (i : Nat), x, h1, h2, h3, rfl, h4 xs q⟩
theorem xi_enumT {elts : List Expr} {kk : Nat} {tpos p1 : Pos} {c : m (List α)} (hm : X.mg "enumerate" = none) (h : XE G X a Γ (TTup τ) c) (hg : Gl X "enumerate" := by show _ = _; kernel_rfl) (hs : starEach [a] X.env = [(false, eval a X.env)] := by kernel_rfl) :
    XI G X (.Tuple elts kk tpos) (.Call (.Name "enumerate" p1) [a] [] pos) Γ (T2 TInt τ) (bnd c fun xs => ret (enumI xs)) := by
  intro H0 F H σ cf E Qd hr R q
  refine (pi_enumT hg hm (pa_cons pe_sem pa_nil (by rw [hs] <;> rfl)) hs).sem ?_
  refine h H0 F H σ cf E _ (run_bnd hr) _ fun xs v F1 H1 d1 k1 cf1 r1 => ?_
  obtain ⟨p, o, ev, hF, vs, eo, rr⟩ := r1
  subst ev eo
  refine ⟨p, vs, rfl, .inl (.inl (cf1.sub _ _ hF)), q _ _ F1 H1 (run_ret d1) k1 cf1 (tw_pair (walk_enumT (xs := vs)) (by rw [enumI_len]; exact paired_len rr) (fun F2 H2 sm cf2 => .inl (.inl (cf2.sub _ _ (sm _ _ hF)))) fun i x hx v w hv hw => ?_)⟩
  obtain ⟨e1, e2⟩ := enumI_get hx
  cases hv
  obtain ⟨u, eu, ru⟩ := paired_get rr e2
  have hw : vs[i]? = some w := hw
  rw [hw] at eu
  cases eu
  exact ⟨by rw [e1]; rfl, ru⟩
/-- d.items(), the dict locked -/
theorem xi_itemsK {elts : List Expr} {kk : Nat} {tpos apos : Pos} {c : m (List (Int × α))} (h : XE G X a Γ (TDK τ) c) (hbase : attributeBase a "items" X.env (eval a X.env) = eval a X.env := by kernel_rfl) (hline : (apos.endLine == pos.line) = true := by kernel_rfl) :
    XI G X (.Tuple elts kk tpos) (.Call (.Attribute a "items" apos) [] [] pos) Γ (T2 TInt τ) c := by
  intro H0 F H σ cf E Qd hr R q
  refine (pi_items pe_sem hbase hline).sem ?_
  refine h H0 F H σ cf E Qd hr _ fun xs v F1 H1 d1 k1 cf1 r1 => ?_
  obtain ⟨p, ob, o, ev, hF, kvs, eo, rr⟩ := r1
  subst ev eo
  refine ⟨p, ob, kvs, rfl, cf1.sub _ _ hF, q xs _ F1 H1 d1 k1 cf1 (tw_pair (walk_items (kvs := kvs)) (Paired.length rr) (fun F2 H2 sm cf2 => cf2.sub _ _ (sm _ _ hF)) fun i x hx v w hv hw => ?_)⟩
  obtain ⟨kv, hkv, r⟩ : ∃ kv, kvs[i]? = some kv ∧ PK τ F1 kv x := by
    have : ∀ {kvs : List (Key × V)} {xs : List (Int × α)}, Paired (PK τ F1) kvs xs → ∀ {i : Nat} {x}, xs[i]? = some x → ∃ kv, kvs[i]? = some kv ∧ PK τ F1 kv x := by
      intro kvs xs h
      induction h with
      | nil => intro i x e; simp at e
      | @cons v y r s hr t ih =>
        intro i x e
        cases i with
        | zero =>
          have e1 : y = x := by simpa using e
          subst e1
          exact ⟨v, rfl, hr⟩
        | succ i =>
          obtain ⟨w, e1, q⟩ := ih (i := i) (x := x) (by simpa using e)
          exact ⟨w, by simpa using e1, q⟩
    exact this rr hx
  have hv : (kvs[i]?.map fun kv => kV kv.1) = some v := hv
  have hw : kvs[i]?.map Prod.snd = some w := hw
  rw [hkv] at hv hw
  cases hv
  cases hw
  exact ⟨by show kV kv.1 = .int x.1; rw [r.1]; rfl, r.2⟩
theorem paired_getG {δ ε : Type} {P : δ → ε → Prop} {kvs : List δ} {xs : List ε} (h : Paired P kvs xs) : ∀ {i : Nat} {x : ε}, xs[i]? = some x → ∃ kv, kvs[i]? = some kv ∧ P kv x := by
  induction h with
  | nil => intro i x e; simp at e
  | @cons v y r s hr t ih =>
    intro i x e
    cases i with
    | zero =>
      have e1 : y = x := by simpa using e
      subst e1
      exact ⟨v, rfl, hr⟩
    | succ i =>
      obtain ⟨w, e1, q⟩ := ih (i := i) (x := x) (by simpa using e)
      exact ⟨w, by simpa using e1, q⟩
theorem walk_itemsT {d : Addr} {o : Obj} {kvs : List (List Key × V)} : Walk (Itit d o kvs) kvs.length (fun H => H d = some (.frz o (.dT kvs))) (fun i H x H' => ∃ T k v q, kvs[i]? = some (k, v) ∧ H q = some (.tup (k.map kV)) ∧ x = .ref T ∧ H T = none ∧ H' = upd H T (.tup [.ref q, v])) :=
  ⟨fun _ _ hi q => ⟨q, hi⟩, fun _ q => ⟨q, rfl⟩, fun i H x H' _ _ y => y⟩
theorem xi_itemsT {kt : KTy κ} {elts : List Expr} {kk : Nat} {tpos apos : Pos} {c : m (List (κ × α))} (h : XE G X a Γ (TDT kt τ) c) (hbase : attributeBase a "items" X.env (eval a X.env) = eval a X.env := by kernel_rfl) (hline : (apos.endLine == pos.line) = true := by kernel_rfl) :
    XI G X (.Tuple elts kk tpos) (.Call (.Attribute a "items" apos) [] [] pos) Γ (T2 kt.τ τ) c := by
  intro H0 F H σ cf E Qd hr R q
  refine (pi_itemsT pe_sem hbase hline).sem ?_
  refine h H0 F H σ cf E Qd hr _ fun xs v F1 H1 d1 k1 cf1 r1 => ?_
  obtain ⟨p, ob, o, ev, hF, kvs, eo, rr⟩ := r1
  subst ev eo
  refine ⟨p, ob, kvs, rfl, cf1.sub _ _ hF, q xs _ F1 H1 d1 k1 cf1 (tw_of (walk_itemsT (kvs := kvs)) (Paired.length rr) (fun F2 H2 sm cf2 => cf2.sub _ _ (sm _ _ hF)) fun F2 H2 sm cf2 i x v H3 hx y => ?_)⟩
  obtain ⟨T, k, u, qa, hkv, hq, ev, hT, eH⟩ := y
  subst ev eH
  obtain ⟨kv, hkv', r⟩ := paired_getG rr hx
  rw [hkv] at hkv'
  cases hkv'
  obtain ⟨r1, r2⟩ := r
  have r1 : k = kt.enc x.1 := r1
  obtain ⟨cf3, k3⟩ := cf_new (o := .tup [.ref qa, u]) cf2 hT
  refine ⟨_, k3, cf3, T, _, rfl, upd_same, .ref qa, u, rfl, kt.of (k3.ex _ _ (cf2.tup _ _ (by rw [hq, r1]))), τ.mono (sm.trans k3.ex) r2⟩
/-- for k in d -/
theorem xi_keysK {tg : Expr} {c : m (List (Int × α))} (h : XE G X a Γ (TDK τ) c) : XI G X tg a Γ TInt (bnd c fun xs => ret (xs.map (·.1))) := by
  intro H0 F H σ cf E Qd hr R q
  refine (pi_keys pe_sem).sem ?_
  refine h H0 F H σ cf E _ (run_bnd hr) _ fun xs v F1 H1 d1 k1 cf1 r1 => ?_
  obtain ⟨p, ob, o, ev, hF, kvs, eo, rr⟩ := r1
  subst ev eo
  refine ⟨p, ob, rfl, .inl ⟨kvs, cf1.sub _ _ hF, q _ _ F1 H1 (run_ret d1) k1 cf1 (tw_of (walk_keys (kvs := kvs)) (by rw [List.length_map]; exact Paired.length rr) (fun F2 H2 sm cf2 => cf2.sub _ _ (sm _ _ hF)) fun F2 H2 sm cf2 i x v H3 hx y => ?_)⟩⟩
  obtain ⟨e, k, u, hkv, ev⟩ := y
  subst e ev
  rw [List.getElem?_map] at hx
  cases hz : xs[i]? with
  | none => rw [hz] at hx; cases hx
  | some z =>
    rw [hz] at hx
    obtain ⟨kv, hkv', r⟩ := paired_getG rr hz
    rw [hkv] at hkv'
    cases hkv'
    have e1 : z.1 = x := Option.some.inj hx
    refine ⟨F2, Step.refl, cf2, ?_⟩
    rw [show k = Sum.inl z.1 from r.1, e1]
    rfl
theorem xi_keysT {kt : KTy κ} {tg : Expr} {c : m (List (κ × α))} (h : XE G X a Γ (TDT kt τ) c) : XI G X tg a Γ kt.τ (bnd c fun xs => ret (xs.map (·.1))) := by
  intro H0 F H σ cf E Qd hr R q
  refine (pi_keys pe_sem).sem ?_
  refine h H0 F H σ cf E _ (run_bnd hr) _ fun xs v F1 H1 d1 k1 cf1 r1 => ?_
  obtain ⟨p, ob, o, ev, hF, kvs, eo, rr⟩ := r1
  subst ev eo
  refine ⟨p, ob, rfl, .inr ⟨kvs, cf1.sub _ _ hF, q _ _ F1 H1 (run_ret d1) k1 cf1 (tw_of (walk_keysT (kvs := kvs)) (by rw [List.length_map]; exact Paired.length rr) (fun F2 H2 sm cf2 => cf2.sub _ _ (sm _ _ hF)) fun F2 H2 sm cf2 i x v H3 hx y => ?_)⟩⟩
  obtain ⟨e, k, u, qa, hkv, ev, hq⟩ := y
  subst e ev
  rw [List.getElem?_map] at hx
  cases hz : xs[i]? with
  | none => rw [hz] at hx; cases hx
  | some z =>
    rw [hz] at hx
    obtain ⟨kv, hkv', r⟩ := paired_getG rr hz
    rw [hkv] at hkv'
    cases hkv'
    have e1 : z.1 = x := Option.some.inj hx
    refine ⟨F2, Step.refl, cf2, kt.of (cf2.tup _ _ ?_)⟩
    rw [hq, show k = kt.enc z.1 from r.1, e1]
end
end Wc
/-! Core F: objects of one's own; comprehensions. -/
namespace Wc
open PySem PySem.Spec PyProof.Rows L2
open Mon (ret bnd opt run run_ret run_bnd run_opt)

section
variable {G : Gs} {F0 H0 F H : Hp} {p : Addr} {o o' : HO} {σ : L2.St} {Γ : Ga} {α : Type}
/-- an object of one's own is changed -/
theorem cf_mut (c : Cf G F H) (hp : H p = some o) (hF : F p = none) (hm : ¬ G.M p) (nx : ∀ φ, o ≠ .ext φ) (nt : ∀ xs, o' ≠ .tup xs) : Cf G F (upd H p o') := by
  refine ⟨fun a u e => ?_, fun a xs e => ?_, G.st c.j fun b u e z => ?_, c.m⟩
  · have ha : a ≠ p := fun z => by rw [z, hF] at e; cases e
    rw [upd_ne ha]; exact c.sub a u e
  · by_cases ha : a = p
    · subst ha; rw [upd_same] at e; exact absurd (Option.some.inj e) (nt xs)
    · rw [upd_ne ha] at e; exact c.tup a xs e
  · have hb : b ≠ p := fun y => by
      subst y
      rw [hp] at e
      cases e
      rcases z with z | ⟨φ, z⟩
      · exact hm z
      · exact nx φ z
    rw [upd_ne hb]; exact e
theorem st_mut (k : Step G F0 H0 F H) (h0 : H0 p = none) : Step G F0 H0 F (upd H p o') :=
  ⟨k.ex, fun a u e n => by rw [upd_ne (ne_of_none e h0)]; exact k.keep a u e n, fun a u e => by
    obtain ⟨u', e'⟩ := k.pers a u e
    exact ⟨u', by rw [upd_ne (ne_of_none e h0)]; exact e'⟩, k.fr⟩
/-- .. is frozen -/
theorem cf_frz (c : Cf G F H) (hp : H p = some o) (hF : F p = none) (hm : ¬ G.M p) : Cf G (upd F p o) H ∧ Same F (upd F p o) := by
  refine ⟨⟨fun a u e => ?_, fun a xs e => ?_, c.j, fun a ma => ?_⟩, upd_ext hF⟩
  · by_cases ha : a = p
    · subst ha; rw [upd_same] at e; rw [hp]; exact e
    · rw [upd_ne ha] at e; exact c.sub a u e
  · by_cases ha : a = p
    · subst ha; rw [upd_same]; rw [hp] at e; exact e
    · rw [upd_ne ha]; exact c.tup a xs e
  · rw [upd_ne (fun z => hm (by rw [← z]; exact ma))]; exact c.m a ma
theorem st_frz (k : Step G F0 H0 F H) (hF : F p = none) (h0 : H0 p = none) : Step G F0 H0 (upd F p o) H :=
  ⟨k.ex.trans (upd_ext hF), k.keep, k.pers, fun a u e n q => by rw [upd_ne (ne_of_none e h0)]; exact k.fr a u e n q⟩
/-- the slots behind a change at p -/
theorem En.mut {i : Nat} {ω : OTy α} {x x' : α} (E : En G H0 F H σ Γ) (hΓ : Γ[i]? = some (some (.ow ω x))) (hσ : σ[i]? = some (some (.ref p))) (hp : H p = some o) (hF : F p = none) (h0 : H0 p = none) (hm : ¬ G.M p) (r : ω.rel F o' x') (nx : ∀ φ, o' ≠ .ext φ) :
    En G H0 F (upd H p o') σ (Γ.set i (some (.ow ω x'))) := by
  have hl : i < Γ.length := (List.getElem?_eq_some_iff.mp hΓ).1
  have at_ : ∀ (j : Nat) (s : Sl), (Γ.set i (some (.ow ω x')))[j]? = some (some s) → j ≠ i → Γ[j]? = some (some s) := fun j s e hj => by
    rw [List.getElem?_set_ne (Ne.symm hj)] at e
    exact e
  refine ⟨by rw [List.length_set]; exact E.len, fun j s e => ?_, fun j k s s' v hjk h1 h2 o1 o2 e1 e2 => ?_⟩
  · by_cases hj : j = i
    · subst hj
      rw [List.getElem?_set_self hl] at e
      cases e
      exact ⟨.ref p, hσ, p, o', rfl, upd_same, r, hF, h0, hm, nx⟩
    · have e := at_ j s e hj
      obtain ⟨v, ev, q⟩ := E.at_ j s e
      refine ⟨v, ev, ?_⟩
      cases s with
      | sh τ y => exact q
      | ow ω' y =>
        obtain ⟨p', u, e1, hu, ru, hF', h0', hm', nx'⟩ := q
        subst e1
        have hpp : p' ≠ p := fun z => by
          subst z
          exact E.sep j i _ _ _ hj e hΓ True.intro True.intro ev hσ
        exact ⟨p', u, rfl, by rw [upd_ne hpp]; exact hu, ru, hF', h0', hm', nx'⟩
  · have go : ∀ (j : Nat) (s : Sl), (Γ.set i (some (.ow ω x')))[j]? = some (some s) → s.isOw → ∃ s', Γ[j]? = some (some s') ∧ s'.isOw := fun j s e o => by
      by_cases hj : j = i
      · subst hj
        exact ⟨_, hΓ, True.intro⟩
      · exact ⟨s, at_ j s e hj, o⟩
    obtain ⟨t, ht, ot⟩ := go j s h1 o1
    obtain ⟨t', ht', ot'⟩ := go k s' h2 o2
    exact E.sep j k t t' v hjk ht ht' ot ot' e1 e2
/-- the slots when slot i's own object is frozen: it is shared from now on -/
theorem En.frz {i : Nat} {ω : OTy α} {x : α} {τ : Ty α} {F' H' : Hp} (E : En G H0 F H σ Γ) (hΓ : Γ[i]? = some (some (.ow ω x))) (hσ : σ[i]? = some (some (.ref p))) (sm : Same F F') (hF' : ∀ a, a ≠ p → F' a = F a) (hH' : ∀ a, a ≠ p → H' a = H a) (r : τ.rel F' (.ref p) x) :
    En G H0 F' H' σ (Γ.set i (some (.sh τ x))) := by
  have hl : i < Γ.length := (List.getElem?_eq_some_iff.mp hΓ).1
  have at_ : ∀ (j : Nat) (s : Sl), (Γ.set i (some (.sh τ x)))[j]? = some (some s) → j ≠ i → Γ[j]? = some (some s) := fun j s e hj => by
    rw [List.getElem?_set_ne (Ne.symm hj)] at e
    exact e
  refine ⟨by rw [List.length_set]; exact E.len, fun j s e => ?_, fun j k s s' v hjk h1 h2 o1 o2 e1 e2 => ?_⟩
  · by_cases hj : j = i
    · subst hj
      rw [List.getElem?_set_self hl] at e
      cases e
      exact ⟨.ref p, hσ, r⟩
    · have e := at_ j s e hj
      obtain ⟨v, ev, q⟩ := E.at_ j s e
      refine ⟨v, ev, ?_⟩
      cases s with
      | sh υ y => exact υ.mono sm q
      | ow ω' y =>
        obtain ⟨p', u, e1, hu, ru, hF2, h0', hm', nx'⟩ := q
        subst e1
        have hpp : p' ≠ p := fun z => by
          subst z
          exact E.sep j i _ _ _ hj e hΓ True.intro True.intro ev hσ
        exact ⟨p', u, rfl, by rw [hH' p' hpp]; exact hu, ω'.mono sm ru, by rw [hF' p' hpp]; exact hF2, h0', hm', nx'⟩
  · have go : ∀ (j : Nat) (s : Sl), (Γ.set i (some (.sh τ x)))[j]? = some (some s) → s.isOw → Γ[j]? = some (some s) := fun j s e o => by
      by_cases hj : j = i
      · subst hj
        rw [List.getElem?_set_self hl] at e
        cases e
        exact False.elim o
      · exact at_ j s e hj
    exact E.sep j k s s' v hjk (go j s h1 o1) (go k s' h2 o2) o1 o2 e1 e2
end

section
variable {m : Type → Type} [Mon m] {G : Gs} {X : Cx} {Γ Δ : Ga} {α β γ κ S L R : Type} {τ : Ty α} {υ : Ty β} {φ : Ty R} {a b e : Expr} {es : List Expr} {pos : Pos} {st : Stmt} {ss rest : List Stmt} {g : S → Ga} {gl : L → Ga}

/-! ### made -/
/-- an expression that makes a new object, which becomes one's own -/
def XN (G : Gs) (X : Cx) (e : Expr) (Γ : Ga) (ω : OTy α) (c : m α) : Prop := ∀ (H0 F H : Hp) (σ : L2.St), Cf G F H → En G H0 F H σ Γ → ∀ Qd : α → Prop, run c Qd →
  ∀ Q : VK, (∀ x p o F' H', Qd x → Step G F H F' H' → Cf G F' H' → ω.rel F' o x → H' p = none → (∀ ys, o ≠ .tup ys) → (∀ ψ, o ≠ .ext ψ) → Q (.ref p) (upd H' p o)) → semE X e σ H Q
theorem xn_lst {c : m (List α)} (h : XL G X es Γ τ c) (hl : es.length ≤ 1000 := by decide) : XN G X (.List es pos) Γ (OLst τ) c := by
  intro H0 F H σ cf E Qd hr Q q
  refine (pe_lst pa_sem).sem ?_
  exact h H0 F H σ cf E Qd hr _ fun y vs F1 H1 d1 k1 cf1 r1 l1 => ⟨by rw [l1]; exact Nat.le_trans hl (by decide), fun p hp => q y p _ F1 H1 d1 k1 cf1 ⟨vs, rfl, r1⟩ hp (fun ys z => by cases z) fun ψ z => by cases z⟩
theorem xn_dK : XN G X (.Dict [] [] pos) Γ (ODK τ) (ret [] : m (List (Int × α))) := by
  intro H0 F H σ cf E Qd hr Q q
  exact pe_dnewK.sem fun p hp => q [] p _ F H (run_ret hr) Step.refl cf ⟨[], rfl, .nil⟩ hp (fun ys z => by cases z) fun ψ z => by cases z
theorem xn_dT {kt : KTy κ} : XN G X (.Dict [] [] pos) Γ (ODT kt τ) (ret [] : m (List (κ × α))) := by
  intro H0 F H σ cf E Qd hr Q q
  exact pe_dnewT.sem fun p hp => q [] p _ F H (run_ret hr) Step.refl cf ⟨[], rfl, .nil⟩ hp (fun ys z => by cases z) fun ψ z => by cases z
/-- [x] * n -/
def repC (xs : List α) (k : Int) : Option (List α) := if -1000000 < k ∧ k < 1000000 ∧ xs.length * k.toNat < 1000000 then some (List.replicate k.toNat xs).flatten else none
theorem rep_rel {R : V → α → Prop} {vs : List V} {xs : List α} (h : Paired R vs xs) : ∀ n : Nat, Paired R (List.replicate n vs).flatten (List.replicate n xs).flatten
  | 0 => .nil
  | n + 1 => by
    rw [List.replicate_succ, List.replicate_succ, List.flatten_cons, List.flatten_cons]
    have ap : ∀ {vs ws : List V} {xs ys : List α}, Paired R vs xs → Paired R ws ys → Paired R (vs ++ ws) (xs ++ ys) := by
      intro vs ws xs ys h1 h2
      induction h1 with
      | nil => exact h2
      | cons r _ ih => exact .cons r ih
    exact ap h (rep_rel h n)
theorem xn_rep {ca : m (List α)} {cb : m Int} (ha : XE G X a Γ (TLst τ) ca) (hb : XE G X b Γ TInt cb) : XN G X (.BinOp a .Mult b pos) Γ (OLst τ) (bnd ca fun xs => bnd cb fun k => opt (repC xs k)) := by
  intro H0 F H σ cf E Qd hr Q q
  refine (pe_op op_rep pe_sem pe_sem).sem ?_
  refine ha H0 F H σ cf E _ (run_bnd hr) _ fun xs v F1 H1 d1 k1 cf1 r1 => ?_
  refine hb H0 F1 H1 σ cf1 (E.step k1) _ (run_bnd d1) _ fun k w F2 H2 d2 k2 cf2 r2 => ?_
  obtain ⟨z, ez, d3⟩ := run_opt d2
  unfold repC at ez
  split at ez
  · rename_i hk
    cases ez
    obtain ⟨p, vs, ev, hH, _, rr⟩ := rel_lst (K := X.K) cf2 ((TLst τ).mono k2.ex r1)
    refine ⟨p, k, vs, ev, r2, hH, ?_⟩
    refine ⟨by omega, by omega, ?_, fun l hl => ?_⟩
    · rw [paired_len rr]
      exact Nat.le_of_lt (small_line hk.2.2)
    · exact q _ l _ F2 H2 d3 (k1.trans k2) cf2 ⟨_, rfl, rep_rel rr _⟩ hl (fun ys z => by cases z) fun ψ z => by cases z
  · cases ez
/-- name = a new object -/
theorem xs_new {i : Nat} {x : Str} {pos' : Pos} {ω : OTy α} {c : m α} (h : XN G X e Γ ω c) (hN : X.N.Nodup) (hi : X.N[i]? = some x := by kernel_rfl) (hx : Loc X.env.scope x := by first | exact Or.inl rfl | exact Or.inr rfl) (hs : swapsWith e (some (.Name x pos')) pos.line X.env = pure false := by kernel_rfl)
    (hf : X.fn x = true ∨ X.env.scope.names.lookup x = some .local := by first | exact .inl rfl | exact .inr rfl | assumption) : XS G X (.Assign [.Name x pos'] e pos) Γ (fun y => Γ.set i (some (.ow ω y))) c := by
  intro F0 H0 F H σ D cf k E Qd hrun q
  refine (ps_set hN hi hx pe_sem hs hf).sem ?_
  refine h H0 F H σ cf E Qd hrun _ fun y p o F' H' d k' cf' r hp nt nx => ?_
  obtain ⟨cf2, k2⟩ := cf_own (o := o) cf' hp nt
  have E2 := (E.step k').step k2
  have kk := k.trans k'
  have h0 : H0 p = none := by
    cases z : H0 p with
    | none => rfl
    | some u =>
      obtain ⟨u', e'⟩ := kk.pers p u z
      rw [hp] at e'
      cases e'
  refine q y F' _ _ d ⟨cf2, k'.ex, kk.trans k2⟩ (E2.setOw upd_same r (cf'.fresh hp) h0 (cf'.nm hp) nx fun j s hj hs os e => ?_)
  obtain ⟨v, ev, qs⟩ := (E.step k').at_ j s hs
  rw [e] at ev
  cases ev
  cases s with
  | sh _ _ => exact os
  | ow ω' y' =>
    obtain ⟨p', u, e1, hu, _⟩ := qs
    cases e1
    rw [hp] at hu
    cases hu
/-- frozen at once -/
theorem xe_new {ω : OTy α} {c : m α} (h : XN G X e Γ ω c) : XE G X e Γ ω.at c := by
  intro H0 F H σ cf E Qd hr Q q
  refine h H0 F H σ cf E Qd hr _ fun y p o F' H' d k' cf' r hp nt nx => ?_
  obtain ⟨cf2, k2⟩ := cf_new (o := o) cf' hp
  exact q y (.ref p) _ _ d (k'.trans k2) cf2 ⟨p, o, rfl, upd_same, ω.mono k2.ex r⟩

/-! ### changed -/
/-- a statement that changes slot i's own object: the rule's frame -/
theorem xs_mut {i : Nat} {ω : OTy α} {x : α} {c : m α} (hΓ : Γ[i]? = some (some (.ow ω x)))
    (h : ∀ (H0 F H : Hp) (σ : L2.St) (D : Ends) (p : Addr), Cf G F H → En G H0 F H σ Γ → σ[i]? = some (some (.ref p)) → ∀ Qd : α → Prop, run c Qd →
      (∀ x' F' H' o o', Qd x' → Step G F H F' H' → Cf G F' H' → H' p = some o → ω.rel F' o' x' → (∀ ys, o' ≠ .tup ys) → (∀ ψ, o' ≠ .ext ψ) → D.nx σ (upd H' p o')) → semS X st D σ H) : XS G X st Γ (fun y => Γ.set i (some (.ow ω y))) c := by
  intro F0 H0 F H σ D cf k E Qd hrun q
  obtain ⟨v, ev, p, o, e, ho, r, hF, h0, hm, nx⟩ := E.get hΓ
  subst e
  refine h H0 F H σ D p cf E ev Qd hrun fun x' F' H' o1 o' d k' cf' ho1 r' nt' nx' => ?_
  have ho' : H' p = some o := k'.keep p o ho hm
  have hF' : F' p = none := (k'.fr p o ho hm nx).trans hF
  exact q x' F' _ σ d ⟨cf_mut cf' ho' hF' hm nx nt', k'.ex, st_mut (k.trans k') h0⟩ ((E.step k').mut hΓ ev ho' hF' h0 hm r' nx')
def appC (xs : List α) (x : α) : Option (List α) := if xs.length < 1000000 then some (xs ++ [x]) else none
/-- xs.append(e) -/
theorem xs_app {i : Nat} {nm : Str} {np apos cpos epos : Pos} {xs : List α} {c : m α} (hΓ : Γ[i]? = some (some (.ow (OLst τ) xs)) := by rfl) (h : XE G X e Γ τ c) (hN : X.N[i]? = some nm := by kernel_rfl) (hv : Vis X.env.scope nm := by first | exact Or.inl rfl | exact Or.inr (Or.inl rfl))
    (hp : ∀ {to te : TE}, PE X (.Name nm np) to → PE X e te → PS X (.Expr (.Call (.Attribute (.Name nm np) "append" apos) [e] [] cpos) epos) (tDrop (tBM X.K "list" rAppend to (tCons te tNil)))) (hd : (nm == ("__debug__" : Str)) = false := by kernel_rfl) (hcd : (nm == ("__classdict__" : Str)) = false := by kernel_rfl) :
    XS G X (.Expr (.Call (.Attribute (.Name nm np) "append" apos) [e] [] cpos) epos) Γ (fun y => Γ.set i (some (.ow (OLst τ) y))) (bnd c fun x => opt (appC xs x)) := by
  refine xs_mut hΓ fun H0 F H σ D p cf E hσ Qd hr q => ?_
  refine (hp (pe_var hN hv hd hcd) pe_sem).sem ?_
  obtain ⟨v, ev, p', o, e1, ho, r, hF, h0, hm, nx⟩ := E.get hΓ
  rw [hσ] at ev
  cases ev
  cases e1
  obtain ⟨vs, eo, rr⟩ := r
  subst eo
  refine ⟨.ref p, hσ, .inl ⟨rfl, vs, .inl (.inl ho)⟩, ?_⟩
  refine h H0 F H σ cf E _ (run_bnd hr) _ fun x v F1 H1 d1 k1 cf1 r1 => ?_
  obtain ⟨z, ez, d2⟩ := run_opt d1
  unfold appC at ez
  split at ez
  · rename_i hl
    cases ez
    refine ⟨p, vs, v, rfl, rfl, k1.keep p _ ho hm, ?_, ?_⟩
    · rw [paired_len rr]
      exact small_line hl
    · exact q _ F1 H1 _ _ d2 k1 cf1 (k1.keep p _ ho hm) ⟨_, rfl, paired_snoc (paired_ext k1.ex rr) r1⟩ (fun ys z => by cases z) fun ψ z => by cases z
  · cases ez
theorem pap {R : V → α → Prop} {vs ws : List V} {xs ys : List α} (h1 : Paired R vs xs) (h2 : Paired R ws ys) : Paired R (vs ++ ws) (xs ++ ys) := by
  induction h1 with
  | nil => exact h2
  | cons r _ ih => exact .cons r ih
def extC (xs ys : List α) : Option (List α) := if xs.length + ys.length < 1000000 then some (xs ++ ys) else none
/-- xs.extend(ys) -/
theorem xs_ext {i : Nat} {nm : Str} {np apos cpos epos : Pos} {xs : List α} {c : m (List α)} (hΓ : Γ[i]? = some (some (.ow (OLst τ) xs)) := by rfl) (h : XE G X e Γ (TLst τ) c) (hN : X.N[i]? = some nm := by kernel_rfl) (hv : Vis X.env.scope nm := by first | exact Or.inl rfl | exact Or.inr (Or.inl rfl))
    (hp : ∀ {to te : TE}, PE X (.Name nm np) to → PE X e te → PS X (.Expr (.Call (.Attribute (.Name nm np) "extend" apos) [e] [] cpos) epos) (tDrop (tBM X.K "list" rExtend to (tCons te tNil)))) (hd : (nm == ("__debug__" : Str)) = false := by kernel_rfl) (hcd : (nm == ("__classdict__" : Str)) = false := by kernel_rfl) :
    XS G X (.Expr (.Call (.Attribute (.Name nm np) "extend" apos) [e] [] cpos) epos) Γ (fun y => Γ.set i (some (.ow (OLst τ) y))) (bnd c fun x => opt (extC xs x)) := by
  refine xs_mut hΓ fun H0 F H σ D p cf E hσ Qd hr q => ?_
  refine (hp (pe_var hN hv hd hcd) pe_sem).sem ?_
  obtain ⟨v, ev, p', o, e1, ho, r, hF, h0, hm, nx⟩ := E.get hΓ
  rw [hσ] at ev
  cases ev
  cases e1
  obtain ⟨vs, eo, rr⟩ := r
  subst eo
  refine ⟨.ref p, hσ, .inl ⟨rfl, vs, .inl (.inl ho)⟩, ?_⟩
  refine h H0 F H σ cf E _ (run_bnd hr) _ fun x v F1 H1 d1 k1 cf1 r1 => ?_
  obtain ⟨z, ez, d2⟩ := run_opt d1
  obtain ⟨b, ws, ev, hH, _, rr2⟩ := rel_lst (K := X.K) cf1 r1
  subst ev
  unfold extC at ez
  split at ez
  · rename_i hl
    cases ez
    refine ⟨p, b, vs, ws, rfl, rfl, k1.keep p _ ho hm, hH, ?_, ?_⟩
    · rw [paired_len rr, paired_len rr2]
      exact Nat.le_of_lt (small_line hl)
    · exact q _ F1 H1 _ _ d2 k1 cf1 (k1.keep p _ ho hm) ⟨_, rfl, pap (paired_ext k1.ex rr) rr2⟩ (fun ys z => by cases z) fun ψ z => by cases z
  · cases ez
theorem paired_set {R : V → α → Prop} {v : V} {x : α} (r : R v x) {vs : List V} {xs : List α} (h : Paired R vs xs) : ∀ j : Nat, Paired R (vs.set j v) (xs.set j x) := by
  induction h with
  | nil => intro j; exact .nil
  | cons q t ih =>
    intro j
    cases j with
    | zero => exact .cons r t
    | succ j => exact .cons q (ih j)
def setC (xs : List α) (i : Int) (x : α) : Option (List α) := (ixN xs.length i).map fun j => xs.set j x
/-- xs[k] = e -/
theorem xs_setL {i : Nat} {nm : Str} {np tpos : Pos} {xs : List α} {ck : m Int} {c : m α} (hΓ : Γ[i]? = some (some (.ow (OLst τ) xs)) := by rfl) (h : XE G X e Γ τ c) (hk : XE G X b Γ TInt ck) (hN : X.N[i]? = some nm := by kernel_rfl) (hv : Vis X.env.scope nm := by first | exact Or.inl rfl | exact Or.inr (Or.inl rfl))
    (hp : ∀ {to tb te : TE}, PE X (.Name nm np) to → PE X b tb → PE X e te → PS X (.Assign [.Subscript (.Name nm np) b tpos] e pos) (tAsg te (gSub to tb rSetL))) (hd : (nm == ("__debug__" : Str)) = false := by kernel_rfl) (hcd : (nm == ("__classdict__" : Str)) = false := by kernel_rfl) :
    XS G X (.Assign [.Subscript (.Name nm np) b tpos] e pos) Γ (fun y => Γ.set i (some (.ow (OLst τ) y))) (bnd c fun x => bnd ck fun k => opt (setC xs k x)) := by
  refine xs_mut hΓ fun H0 F H σ D p cf E hσ Qd hr q => ?_
  refine (hp (pe_var hN hv hd hcd) pe_sem pe_sem).sem ?_
  obtain ⟨v, ev, p', o, e1, ho, r, hF, h0, hm, nx⟩ := E.get hΓ
  rw [hσ] at ev
  cases ev
  cases e1
  obtain ⟨vs, eo, rr⟩ := r
  subst eo
  refine h H0 F H σ cf E _ (run_bnd hr) _ fun x v F1 H1 d1 k1 cf1 r1 => ⟨.ref p, hσ, ?_⟩
  refine hk H0 F1 H1 σ cf1 (E.step k1) _ (run_bnd d1) _ fun k w F2 H2 d2 k2 cf2 r2 => ?_
  obtain ⟨z, ez, d3⟩ := run_opt d2
  unfold setC at ez
  cases hj : ixN xs.length k with
  | none => rw [hj] at ez; cases ez
  | some j =>
    rw [hj] at ez
    cases ez
    have ho2 : H2 p = some (.lst vs) := (k1.trans k2).keep p _ ho hm
    refine ⟨p, vs, k, j, rfl, r2, ho2, by rw [paired_len rr]; exact hj, ?_⟩
    exact q _ F2 H2 _ _ d3 (k1.trans k2) cf2 ho2 ⟨_, rfl, paired_set (τ.mono k2.ex r1) (paired_ext (k1.trans k2).ex rr) j⟩ (fun ys z => by cases z) fun ψ z => by cases z
def dputC {κ : Type} [DecidableEq κ] (xs : List (κ × α)) (k : κ) (v : α) : Option (List (κ × α)) := if xs.length < 1000000 then some (dput xs k v) else none
/-- d[k] = e -/
theorem xs_dput [DecidableEq κ] {ω : OTy (List (κ × α))} {τk : Ty κ} (kd : KD κ α G ω τk τ) (hu : X.A.units + 64 < cLine) {i : Nat} {nm : Str} {np tpos : Pos} {xs : List (κ × α)} {ck : m κ} {c : m α} (hΓ : Γ[i]? = some (some (.ow ω xs)) := by rfl) (h : XE G X e Γ τ c) (hk : XE G X b Γ τk ck)
    (hN : X.N[i]? = some nm := by kernel_rfl) (hv : Vis X.env.scope nm := by first | exact Or.inl rfl | exact Or.inr (Or.inl rfl)) (hs : swapsWith e (some (.Subscript (.Name nm np) b tpos)) pos.line X.env = pure false := by kernel_rfl) (hd : (nm == ("__debug__" : Str)) = false := by kernel_rfl) (hcd : (nm == ("__classdict__" : Str)) = false := by kernel_rfl) :
    XS G X (.Assign [.Subscript (.Name nm np) b tpos] e pos) Γ (fun y => Γ.set i (some (.ow ω y))) (bnd c fun x => bnd ck fun k => opt (dputC xs k x)) := by
  refine xs_mut hΓ fun H0 F H σ D p cf E hσ Qd hr q => ?_
  refine (ps_dput (by omega) (pe_var hN hv hd hcd) pe_sem pe_sem hs).sem ?_
  obtain ⟨v, ev, p', o, e1, ho, r, hF, h0, hm, nx⟩ := E.get hΓ
  rw [hσ] at ev
  cases ev
  cases e1
  refine h H0 F H σ cf E _ (run_bnd hr) _ fun x v F1 H1 d1 k1 cf1 r1 => ⟨.ref p, hσ, ?_⟩
  refine hk H0 F1 H1 σ cf1 (E.step k1) _ (run_bnd d1) _ fun k w F2 H2 d2 k2 cf2 r2 => ?_
  obtain ⟨z, ez, d3⟩ := run_opt d2
  unfold dputC at ez
  split at ez
  · rename_i hl
    cases ez
    have ho2 : H2 p = some o := (k1.trans k2).keep p _ ho hm
    obtain ⟨o', hput, r', nt', nx'⟩ := kd.put cf2 (ω.mono (k1.trans k2).ex r) ho2 r2 (τ.mono k2.ex r1) hl
    exact ⟨p, _, rfl, hput, q _ F2 H2 o o' d3 (k1.trans k2) cf2 ho2 r' nt' nx'⟩
  · cases ez

/-! ### frozen -/
theorem xb_frzL {i : Nat} {xs : List α} {c : m (Fl S L R)} (hΓ : Γ[i]? = some (some (.ow (OLst τ) xs))) (h : XB G X ss (Γ.set i (some (.sh (TLst τ) xs))) g gl φ c) : XB G X ss Γ g gl φ c := by
  intro F0 H0 F H σ D cf k E Qd hrun q1 q2 q3 q4
  obtain ⟨v, ev, p, o, e1, ho, r, hF, h0, hm, nx⟩ := E.get hΓ
  subst e1
  obtain ⟨cf2, sm⟩ := cf_frz cf ho hF hm
  have E2 : En G H0 (upd F p o) H σ (Γ.set i (some (.sh (TLst τ) xs))) := E.frz hΓ ev sm (fun a ha => upd_ne ha) (fun _ _ => rfl) ⟨p, o, rfl, upd_same, (OLst τ).mono sm r⟩
  exact h.later ⟨cf2, sm, st_frz k hF h0⟩ E2 hrun q1 q2 q3 q4
theorem semB_lock {p : Addr} {o : HO} {D : Ends} {σ : L2.St} {H : Hp} (ho : H p = some o) (mu : Mut (some o)) (h : ∀ ob, semB X ss D σ (upd H p (.frz ob o))) : semB X ss D σ H := ⟨fun pins s I => by
  obtain ⟨ob, I2⟩ := I.lock ho mu
  exact (h ob).run pins s I2⟩
theorem st_lock {F0 H0 F H : Hp} {p : Addr} {o o' : HO} (k : Step G F0 H0 F H) (hF : F p = none) (h0 : H0 p = none) : Step G F0 H0 (upd F p o') (upd H p o') :=
  ⟨k.ex.trans (upd_ext hF), fun a u e n => by rw [upd_ne (ne_of_none e h0)]; exact k.keep a u e n, fun a u e => by
    obtain ⟨u', e'⟩ := k.pers a u e
    exact ⟨u', by rw [upd_ne (ne_of_none e h0)]; exact e'⟩, fun a u e n q => by rw [upd_ne (ne_of_none e h0)]; exact k.fr a u e n q⟩
theorem cf_lock {F H : Hp} {p : Addr} {o o' : HO} (c : Cf G F H) (hp : H p = some o) (hF : F p = none) (hm : ¬ G.M p) (nx : ∀ φ, o ≠ .ext φ) (nt : ∀ xs, o' ≠ .tup xs) : Cf G (upd F p o') (upd H p o') ∧ Same F (upd F p o') := by
  have cf2 := cf_mut (o' := o') c hp hF hm nx nt
  exact cf_frz cf2 upd_same hF hm
theorem xb_frzD {i : Nat} {ω : OTy α} {x : α} {c : m (Fl S L R)} (hΓ : Γ[i]? = some (some (.ow ω x))) (mu : ∀ F o x, ω.rel F o x → Mut (some o)) (h : XB G X ss (Γ.set i (some (.sh ω.lk x))) g gl φ c) : XB G X ss Γ g gl φ c := by
  intro F0 H0 F H σ D cf k E Qd hrun q1 q2 q3 q4
  obtain ⟨v, ev, p, o, e1, ho, r, hF, h0, hm, nx⟩ := E.get hΓ
  subst e1
  refine semB_lock ho (mu _ _ _ r) fun ob => ?_
  obtain ⟨cf2, sm⟩ := cf_lock (o' := .frz ob o) cf ho hF hm nx (fun xs z => by cases z)
  have E2 : En G H0 (upd F p (.frz ob o)) (upd H p (.frz ob o)) σ (Γ.set i (some (.sh ω.lk x))) := E.frz hΓ ev sm (fun a ha => upd_ne ha) (fun a ha => upd_ne ha) ⟨p, ob, o, rfl, upd_same, ω.mono sm r⟩
  exact h.later ⟨cf2, sm, st_lock (o := o) k hF h0⟩ E2 hrun q1 q2 q3 q4
theorem mu_dK {F : Hp} {o : HO} {x : List (Int × α)} (r : (ODK τ).rel F o x) : Mut (some o) := by
  obtain ⟨kvs, e, _⟩ := r
  subst e
  exact True.intro
theorem mu_dT {kt : KTy κ} {F : Hp} {o : HO} {x : List (κ × α)} (r : (ODT kt τ).rel F o x) : Mut (some o) := by
  obtain ⟨kvs, e, _⟩ := r
  subst e
  exact True.intro
/-- made and locked at once -/
theorem semE_lock {p : Addr} {o : HO} {σ : L2.St} {H : Hp} {Q : VK} (h : semE X e σ H fun v H' => ∃ p o, v = .ref p ∧ H' p = some o ∧ Mut (some o) ∧ ∀ ob, Q v (upd H' p (.frz ob o))) : semE X e σ H Q := ⟨fun pins s I => by
  refine thn (h.run pins s I) fun v s1 ⟨x, H1, I1, r, p, o, ev, ho, mu, q⟩ => ?_
  obtain ⟨ob, I2⟩ := I1.lock ho mu
  exact ⟨x, _, I2, r, q ob⟩⟩
theorem xe_newD {ω : OTy α} {c : m α} (mu : ∀ F o x, ω.rel F o x → Mut (some o)) (h : XN G X e Γ ω c) : XE G X e Γ ω.lk c := by
  intro H0 F H σ cf E Qd hr Q q
  refine semE_lock (p := 0) (o := .lst []) (h H0 F H σ cf E Qd hr _ fun y p o F' H' d k' cf' r hp nt nx => ⟨p, o, rfl, upd_same, mu _ _ _ r, fun ob => ?_⟩)
  rw [upd_upd]
  obtain ⟨cf2, k2⟩ := cf_new (o := .frz ob o) cf' hp
  exact q y (.ref p) _ _ d (k'.trans k2) cf2 ⟨p, ob, o, rfl, upd_same, ω.mono k2.ex r⟩
end
end Wc
/-! Core G: comprehensions. -/
namespace Wc
open PySem PySem.Spec PyProof.Rows L2
open Mon (ret bnd opt run run_ret run_bnd run_opt)
def wipeG (Γ : Ga) : List Nat → Ga
  | [] => Γ
  | v :: vs => (wipeG Γ vs).set v none
theorem wipeG_len (Γ : Ga) : ∀ vs, (wipeG Γ vs).length = Γ.length
  | [] => rfl
  | v :: vs => by unfold wipeG; rw [List.length_set, wipeG_len Γ vs]
section
variable {G : Gs} {H0 F H : Hp} {σ : L2.St} {Γ : Ga}
theorem En.wipe1 {v : Nat} (E : En G H0 F H σ Γ) : En G H0 F H (σ.set v none) (Γ.set v none) := by
  have at_ : ∀ (j : Nat) (s : Sl), (Γ.set v none)[j]? = some (some s) → v ≠ j ∧ Γ[j]? = some (some s) := fun j s e => by
    by_cases hj : v = j
    · subst hj
      have hl : v < Γ.length := by
        have := (List.getElem?_eq_some_iff.mp e).1
        rwa [List.length_set] at this
      rw [List.getElem?_set_self hl] at e
      cases e
    · rw [List.getElem?_set_ne hj] at e
      exact ⟨hj, e⟩
  refine ⟨by rw [List.length_set, List.length_set]; exact E.len, fun j s e => ?_, fun j k s s' u hjk h1 h2 o1 o2 e1 e2 => ?_⟩
  · obtain ⟨hj, e⟩ := at_ j s e
    rw [List.getElem?_set_ne hj]
    exact E.at_ j s e
  · obtain ⟨hj, h1⟩ := at_ j s h1
    obtain ⟨hk, h2⟩ := at_ k s' h2
    rw [List.getElem?_set_ne hj] at e1
    rw [List.getElem?_set_ne hk] at e2
    exact E.sep j k s s' u hjk h1 h2 o1 o2 e1 e2
theorem En.wipe (E : En G H0 F H σ Γ) : ∀ vs : List Nat, En G H0 F H (L2.wipe σ vs) (wipeG Γ vs)
  | [] => E
  | _ :: vs => (E.wipe vs).wipe1
theorem wipe_get {σ : L2.St} {i : Nat} : ∀ {vs : List Nat}, (L2.wipe σ vs)[i]? = if i ∈ vs then (if i < σ.length then some none else none) else σ[i]?
  | [] => by simp [L2.wipe]
  | v :: vs => by
    unfold L2.wipe
    by_cases hv : v = i
    · subst hv
      rw [if_pos List.mem_cons_self]
      by_cases hl : v < σ.length
      · rw [if_pos hl, List.getElem?_set_self (by rw [wipe_length]; exact hl)]
      · rw [if_neg hl, List.getElem?_eq_none]
        rw [List.length_set, wipe_length]
        omega
    · rw [List.getElem?_set_ne hv, wipe_get (vs := vs)]
      by_cases h : i ∈ vs
      · rw [if_pos h, if_pos (List.mem_cons_of_mem _ h)]
      · rw [if_neg h, if_neg (by simp only [List.mem_cons, not_or]; exact ⟨fun e => hv e.symm, h⟩)]
/-- what a target stores lies within the block's own slots -/
theorem wipe_out {σ σ2 : L2.St} {js vs : List Nat} (h : Out js (L2.wipe σ vs) σ2) (hj : ∀ i ∈ js, i ∈ vs) : L2.wipe σ2 vs = L2.wipe σ vs := by
  refine List.ext_getElem? fun i => ?_
  rw [wipe_get, wipe_get]
  have hl : σ2.length = σ.length := by rw [h.1, wipe_length]
  rw [hl]
  by_cases hi : i ∈ vs
  · rw [if_pos hi, if_pos hi]
  · rw [if_neg hi, if_neg hi, h.2 i (fun z => hi (hj i z)), wipe_get, if_neg hi]
end
section
variable {m : Type → Type} [Mon m] {G : Gs} {X : Cx} {Γ Δ : Ga} {α β γ κ S L R : Type} {τ : Ty α} {υ : Ty β} {φ : Ty R} {a b e : Expr} {es : List Expr} {pos : Pos} {st : Stmt} {ss rest : List Stmt} {g : S → Ga} {gl : L → Ga}
def consO {β : Type} : Option β → List β → List β
  | none, zs => zs
  | some y, zs => y :: zs
def lcF {α β : Type} (f : α → m (Option β)) : List α → m (List β)
  | [] => ret []
  | x :: xs => bnd (f x) fun o => bnd (lcF f xs) fun zs => ret (consO o zs)
def lcC {α β : Type} (f : α → m (Option β)) (xs : List α) : m (List β) := if xs.length < 1000000 then lcF f xs else opt none
/-- a turn's reading, typed -/
def Trn (G : Gs) (Γw : Ga) (vs : List Nat) (τ : Ty α) (υ : Ty β) (gT : TG) (tt : TT) (te : TE) (turn : α → m (Option β)) : Prop := ∀ (x : α) (H0 F H : Hp) (σ : L2.St) (v : V), Cf G F H → En G H0 F H (L2.wipe σ vs) Γw → τ.rel F v x → ∀ Qd : Option β → Prop, run (turn x) Qd →
  ∀ (Ky : V → Hp → Prop) (Kn : Hp → Prop), (∀ F' H', Qd none → Step G F H F' H' → Cf G F' H' → Kn H') → (∀ y u F' H', Qd (some y) → Step G F H F' H' → Cf G F' H' → υ.rel F' u y → Ky u H') →
    gT v (L2.wipe σ vs) H fun σ2 H2 => L2.wipe σ2 vs = L2.wipe σ vs ∧ tt σ2 H2 fun b H3 => if b = true then te σ2 H3 Ky else Kn H3
theorem lc_xn {wi : TI} {gT : TG} {tt : TT} {te : TE} {vs : List Nat} {ci : m (List α)} {turn : α → m (Option β)} {H0 F H : Hp} {σ : L2.St} (hT : Trn G (wipeG Γ vs) vs τ υ gT tt te turn) (cf : Cf G F H) (E : En G H0 F H σ Γ) {Qd : List β → Prop} (hr : run (bnd ci fun xs => lcC turn xs) Qd)
    (hI : ∀ Qd : List α → Prop, run ci Qd → ∀ R : It → Hp → Prop, (∀ xs J F' H', Qd xs → Step G F H F' H' → Cf G F' H' → TW G J F' H' τ xs → R J H') → wi σ H R)
    (Q : VK) (q : ∀ y p F' H' vs', Qd y → Step G F H F' H' → Cf G F' H' → H' p = some (.lst vs') → F' p = none → H p = none → Paired (υ.rel F') vs' y → Q (.ref p) H') : tLc wi gT tt te vs σ H Q := by
  refine hI _ (run_bnd hr) _ fun xs J F1 H1 d1 k1 cf1 tw D hD => ?_
  have hF1 : F1 D = none := cf1.fresh hD
  have nm : ¬ G.M D := cf1.nm hD
  by_cases hlen : xs.length < 1000000
  rotate_left
  · have d1 : run (lcC turn xs) Qd := d1
    unfold lcC at d1
    rw [if_neg hlen] at d1
    obtain ⟨_, e, _⟩ := run_opt d1
    cases e
  have d2 : run (lcF turn xs) Qd := by
    have d1 : run (lcC turn xs) Qd := d1
    unfold lcC at d1
    rw [if_pos hlen] at d1
    exact d1
  refine ⟨fun i mm H' => ∃ acc accV F', mm = xs.length - i ∧ i ≤ xs.length ∧ (∃ Pd : List β → Prop, run (lcF turn (xs.drop i)) Pd ∧ ∀ zs, Pd zs → Qd (acc ++ zs)) ∧ Cf G F' H' ∧ Step G F1 H1 F' H' ∧ H' D = some (.lst accV) ∧ F' D = none ∧ Paired (υ.rel F') accV acc ∧ accV.length ≤ i,
    ⟨xs.length, [], [], F1, rfl, Nat.zero_le _, ⟨Qd, d2, fun _ h => h⟩, (cf_own cf1 hD fun xs z => by cases z).1, (cf_own cf1 hD fun xs z => by cases z).2, upd_same, hF1, .nil, Nat.le_refl _⟩, ?_⟩
  rintro i mm H2 ⟨acc, accV, F2, rfl, hi, ⟨Pd, dr, hP⟩, cf2, k2, hD2, hF2, pr, hla⟩
  obtain ⟨hstop, hgo⟩ := tw F2 H2 k2.ex cf2
  by_cases hlt : i < xs.length
  · have hx : xs[i]? = some xs[i] := List.getElem?_eq_getElem hlt
    obtain ⟨go, yl⟩ := hgo i _ hx
    rw [drop_cons hx] at dr
    have dr : run (turn xs[i]) (fun o => run (bnd (lcF turn (xs.drop (i + 1))) fun zs => ret (consO o zs)) Pd) := run_bnd dr
    refine .inr ⟨go, fun H' => ∃ acc accV F', (∃ Pd : List β → Prop, run (lcF turn (xs.drop (i + 1))) Pd ∧ ∀ zs, Pd zs → Qd (acc ++ zs)) ∧ Cf G F' H' ∧ Step G F1 H1 F' H' ∧ H' D = some (.lst accV) ∧ F' D = none ∧ Paired (υ.rel F') accV acc ∧ accV.length ≤ i + 1,
      fun H' ⟨acc', accV', F', a1, a2, a3, a4, a5, a6, a7⟩ => ⟨xs.length - (i + 1), by omega, acc', accV', F', rfl, hlt, a1, a2, a3, a4, a5, a6, a7⟩, fun v H3 y => ?_⟩
    obtain ⟨F3, k3, cf3, r3⟩ := yl v H3 y
    have E3 : En G H0 F3 H3 (L2.wipe σ vs) (wipeG Γ vs) := ((((E.step k1).wipe vs).step k2).step k3)
    refine hT xs[i] H0 F3 H3 σ v cf3 E3 r3 _ dr _ _ (fun F4 H4 d4 k4 cf4 => ?_) (fun z u F4 H4 d4 k4 cf4 r4 => ?_)
    · have d5 : run (lcF turn (xs.drop (i + 1))) (fun zs => run (ret (consO none zs) : m (List β)) Pd) := run_bnd (m := m) d4
      have k5 := k3.trans k4
      exact ⟨acc, accV, F4, ⟨_, d5, fun zs h => hP zs (run_ret (m := m) (x := zs) h)⟩, cf4, k2.trans k5, k5.keep D _ hD2 nm, (k5.fr D _ hD2 nm (fun φ z => by cases z)).trans hF2, paired_ext k5.ex pr, Nat.le_succ_of_le hla⟩
    · have d5 : run (lcF turn (xs.drop (i + 1))) (fun zs => run (ret (consO (some z) zs) : m (List β)) Pd) := run_bnd (m := m) d4
      have k5 := k3.trans k4
      have hD4 : H4 D = some (.lst accV) := k5.keep D _ hD2 nm
      have hF4 : F4 D = none := (k5.fr D _ hD2 nm (fun φ z => by cases z)).trans hF2
      refine ⟨accV, hD4, Nat.lt_of_le_of_lt hla (small_line (Nat.lt_of_lt_of_le hlt (Nat.le_of_lt hlen))), acc ++ [z], accV ++ [u], F4, ⟨_, d5, fun zs h => ?_⟩, cf_mut cf4 hD4 hF4 nm (fun ψ z => by cases z) (fun ys z => by cases z),
        st_mut (k2.trans k5) hD, upd_same, hF4, paired_snoc (paired_ext k5.ex pr) r4, by rw [List.length_append]; exact Nat.succ_le_succ hla⟩
      have := hP _ (run_ret (m := m) (x := z :: zs) h)
      rw [List.append_assoc]
      exact this
  · have ei : i = xs.length := by omega
    subst ei
    rw [List.drop_length] at dr
    have d3 : Qd (acc ++ []) := hP _ (run_ret (m := m) (x := ([] : List β)) dr)
    rw [List.append_nil] at d3
    have h0 : H D = none := by
      cases z : H D with
      | none => rfl
      | some u =>
        obtain ⟨u', e'⟩ := k1.pers D u z
        rw [hD] at e'
        cases e'
    exact .inl ⟨hstop, q acc D F2 H2 accV d3 (k1.trans k2) cf2 hD2 hF2 h0 pr⟩
theorem lc_x {wi : TI} {gT : TG} {tt : TT} {te : TE} {vs : List Nat} {ci : m (List α)} {turn : α → m (Option β)} {H0 F H : Hp} {σ : L2.St} (hT : Trn G (wipeG Γ vs) vs τ υ gT tt te turn) (cf : Cf G F H) (E : En G H0 F H σ Γ) {Qd : List β → Prop} (hr : run (bnd ci fun xs => lcC turn xs) Qd)
    (hI : ∀ Qd : List α → Prop, run ci Qd → ∀ R : It → Hp → Prop, (∀ xs J F' H', Qd xs → Step G F H F' H' → Cf G F' H' → TW G J F' H' τ xs → R J H') → wi σ H R)
    (Q : VK) (q : ∀ y p F' H' vs', Qd y → Step G F H F' H' → Cf G F' H' → H' p = some (.lst vs') → F' p = some (.lst vs') → Paired (υ.rel F') vs' y → Q (.ref p) H') : tLc wi gT tt te vs σ H Q := by
  refine lc_xn hT cf E hr hI Q fun y p F' H' vs' d k cf' hH hF h0 pr => ?_
  have nm : ¬ G.M p := cf.nm h0
  obtain ⟨cf3, sm⟩ := cf_frz cf' hH hF nm
  exact q y p _ H' vs' d (st_frz (o := .lst vs') k hF h0) cf3 hH upd_same (paired_ext sm pr)
/-- what all blocks' readings have in common -/
def allE (X : Cx) (scope : Scope) (e : Expr) : TE := fun σ H Q => ∀ (s : Shared) (H' : Hp) (C : Addr) (cl : List (Str × Addr)) (fp : List Addr), semE (X.blk s H' scope (compEnvC scope cl C X.env) fp) e σ H Q
def allT (X : Cx) (scope : Scope) (e : Expr) : TT := fun σ H Q => ∀ (s : Shared) (H' : Hp) (C : Addr) (cl : List (Str × Addr)) (fp : List Addr), semT (X.blk s H' scope (compEnvC scope cl C X.env) fp) e σ H Q
def allG (X : Cx) (scope : Scope) (e : Expr) : TG := fun v σ H Q => ∀ (s : Shared) (H' : Hp) (C : Addr) (cl : List (Str × Addr)) (fp : List Addr), semG (X.blk s H' scope (compEnvC scope cl C X.env) fp) e v σ H Q
theorem pe_all {scope : Scope} {e : Expr} (s : Shared) (H' : Hp) (C : Addr) (cl : List (Str × Addr)) (fp : List Addr) : PE (X.blk s H' scope (compEnvC scope cl C X.env) fp) e (allE X scope e) := ⟨fun pins s1 _ _ _ I h => (h s H' C cl fp).run pins s1 I⟩
theorem pt_all {scope : Scope} {e : Expr} (s : Shared) (H' : Hp) (C : Addr) (cl : List (Str × Addr)) (fp : List Addr) : PT (X.blk s H' scope (compEnvC scope cl C X.env) fp) e (allT X scope e) := ⟨fun pins s1 _ _ _ I h => (h s H' C cl fp).run pins s1 I⟩
theorem pg_all {scope : Scope} {e : Expr} (s : Shared) (H' : Hp) (C : Addr) (cl : List (Str × Addr)) (fp : List Addr) : PG (X.blk s H' scope (compEnvC scope cl C X.env) fp) e (allG X scope e) := ⟨fun pins s1 σ H v u Q I r h => (h s H' C cl fp).run pins s1 u I r⟩
/-- a judgement in all blocks of a comprehension -/
def Blk (X : Cx) (scope : Scope) (P : Cx → Prop) : Prop := ∀ (s : Shared) (H : Hp) (C : Addr) (cl : List (Str × Addr)) (fp : List Addr), P (X.blk s H scope (compEnvC scope cl C X.env) fp)
theorem trn_plain {scope : Scope} {tg elt : Expr} {vs js : List Nat} {f : α → Ga → Ga} {ce : α → m β} (hg : Blk X scope fun Y => XG G Y tg τ f js) (hj : ∀ i ∈ js, i ∈ vs) (he : ∀ x, Blk X scope fun Y => XE G Y elt (f x (wipeG Γ vs)) υ (ce x)) :
    Trn G (wipeG Γ vs) vs τ υ (allG X scope tg) tYes (allE X scope elt) (fun x => bnd (ce x) fun y => ret (some y)) := by
  intro x H0 F H σ v cf E r Qd hr Ky Kn qn qy s H' C cl fp
  refine hg s H' C cl fp H0 F H _ _ v x cf E r _ fun σ' E' o => ⟨wipe_out o hj, ?_⟩
  show allE X scope elt σ' H Ky
  intro s H' C cl fp
  exact he x s H' C cl fp H0 F H σ' cf E' _ (run_bnd hr) _ fun y u F' H' d k cf' r' => qy y u F' H' (run_ret d) k cf' r'
theorem trn_if {scope : Scope} {tg elt t : Expr} {vs js : List Nat} {f : α → Ga → Ga} {ct : α → m Bool} {ce : α → m β} (hg : Blk X scope fun Y => XG G Y tg τ f js) (hj : ∀ i ∈ js, i ∈ vs) (ht : ∀ x, Blk X scope fun Y => XT G Y t (f x (wipeG Γ vs)) (ct x)) (he : ∀ x, Blk X scope fun Y => XE G Y elt (f x (wipeG Γ vs)) υ (ce x)) :
    Trn G (wipeG Γ vs) vs τ υ (allG X scope tg) (allT X scope t) (allE X scope elt) (fun x => bnd (ct x) fun k => if k then bnd (ce x) fun y => ret (some y) else ret none) := by
  intro x H0 F H σ v cf E r Qd hr Ky Kn qn qy s H' C cl fp
  refine hg s H' C cl fp H0 F H _ _ v x cf E r _ fun σ' E' o => ⟨wipe_out o hj, ?_⟩
  intro s H' C cl fp
  refine ht x s H' C cl fp H0 F H σ' cf E' _ (run_bnd hr) _ fun k F1 H1 d1 k1 cf1 => ?_
  cases k with
  | true =>
    show allE X scope elt σ' H1 Ky
    intro s H' C cl fp
    exact he x s H' C cl fp H0 F1 H1 σ' cf1 (E'.step k1) _ (run_bnd d1) _ fun y u F' H' d k cf' r' => qy y u F' H' (run_ret d) (k1.trans k) cf' r'
  | false =>
    show Kn H1
    exact qn F1 H1 (run_ret d1) k1 cf1
/-- [elt for tg in it] -/
theorem xe_lc {scope : Scope} {own : List (Str × Nat)} {tg it elt : Expr} {js : List Nat} {f : α → Ga → Ga} {ci : m (List α)} {ce : α → m β} (hN : X.N.Nodup) (ok : BlkOk X.N X.env.scope scope own) (hi : XI G X tg it Γ τ ci)
    (hg : Blk X scope fun Y => XG G Y tg τ f js) (hj : ∀ i ∈ js, i ∈ own.map (·.2)) (he : ∀ x, Blk X scope fun Y => XE G Y elt (f x (wipeG Γ (own.map (·.2)))) υ (ce x)) (hc : X.calm = true := by kernel_rfl) (hs : ∀ x, foldedSetIterable it X.env x = pure x := by intro _; kernel_rfl) :
    XE G X (.ListComp elt [⟨tg, it, [], 0⟩] scope pos) Γ (TLst υ) (bnd ci fun xs => lcC (fun x => bnd (ce x) fun y => ret (some y)) xs) := by
  intro H0 F H σ cf E Qd hr Q q
  refine (pe_lc hc hN pi_sem ok (fun s H C cl fp => pg_all s H C cl fp) (fun _ _ _ _ _ => pts_nil) (fun s H C cl fp => pe_all s H C cl fp) hs).sem ?_
  exact lc_x (trn_plain hg hj he) cf E hr (fun Qd hr R q => hi H0 F H σ cf E Qd hr R q) Q fun y p F' H' vs' d k cf' hH hF rr => q y (.ref p) F' H' d k cf' ⟨p, _, rfl, hF, vs', rfl, rr⟩
/-- [elt for tg in it if t] -/
theorem xe_lcI {scope : Scope} {own : List (Str × Nat)} {tg it elt t : Expr} {js : List Nat} {f : α → Ga → Ga} {ci : m (List α)} {ct : α → m Bool} {ce : α → m β} (hN : X.N.Nodup) (ok : BlkOk X.N X.env.scope scope own) (hi : XI G X tg it Γ τ ci)
    (hg : Blk X scope fun Y => XG G Y tg τ f js) (hj : ∀ i ∈ js, i ∈ own.map (·.2)) (ht : ∀ x, Blk X scope fun Y => XT G Y t (f x (wipeG Γ (own.map (·.2)))) (ct x)) (he : ∀ x, Blk X scope fun Y => XE G Y elt (f x (wipeG Γ (own.map (·.2)))) υ (ce x)) (hc : X.calm = true := by kernel_rfl) (hs : ∀ x, foldedSetIterable it X.env x = pure x := by intro _; kernel_rfl) :
    XE G X (.ListComp elt [⟨tg, it, [t], 0⟩] scope pos) Γ (TLst υ) (bnd ci fun xs => lcC (fun x => bnd (ct x) fun k => if k then bnd (ce x) fun y => ret (some y) else ret none) xs) := by
  intro H0 F H σ cf E Qd hr Q q
  refine (pe_lc hc hN pi_sem ok (fun s H C cl fp => pg_all s H C cl fp) (fun s H C cl fp => pts_one (pt_all s H C cl fp)) (fun s H C cl fp => pe_all s H C cl fp) hs).sem ?_
  exact lc_x (trn_if hg hj ht he) cf E hr (fun Qd hr R q => hi H0 F H σ cf E Qd hr R q) Q fun y p F' H' vs' d k cf' hH hF rr => q y (.ref p) F' H' d k cf' ⟨p, _, rfl, hF, vs', rfl, rr⟩
/-- name = [elt for tg in it] -/
theorem xs_lc {i : Nat} {nm : Str} {py spos : Pos} {scope : Scope} {own : List (Str × Nat)} {tg it elt : Expr} {js : List Nat} {f : α → Ga → Ga} {ci : m (List α)} {ce : α → m β} (hN : X.N.Nodup) (hsw : swapsWith (.ListComp elt [⟨tg, it, [], 0⟩] scope pos) (some (.Name nm py)) spos.line X.env = pure true)
    (ok : BlkOk X.N X.env.scope scope own) (hi : XI G X tg it Γ τ ci) (hg : Blk X scope fun Y => XG G Y tg τ f js) (hj : ∀ i ∈ js, i ∈ own.map (·.2)) (he : ∀ x, Blk X scope fun Y => XE G Y elt (f x (wipeG Γ (own.map (·.2)))) υ (ce x))
    (hy : X.N[i]? = some nm := by kernel_rfl) (hyl : X.env.scope.names.lookup nm = some .local := by kernel_rfl) (hc : X.calm = true := by kernel_rfl) (hs : ∀ x, foldedSetIterable it X.env x = pure x := by intro _; kernel_rfl) :
    XS G X (.Assign [.Name nm py] (.ListComp elt [⟨tg, it, [], 0⟩] scope pos) spos) Γ (fun y => Γ.set i (some (.sh (TLst υ) y))) (bnd ci fun xs => lcC (fun x => bnd (ce x) fun y => ret (some y)) xs) := by
  intro F0 H0 F H σ D cf k E Qd hr q
  refine (ps_setLc hc hN hy hyl hsw pi_sem ok (fun s H C cl fp => pg_all s H C cl fp) (fun _ _ _ _ _ => pts_nil) (fun s H C cl fp => pe_all s H C cl fp) hs).sem ?_
  exact lc_x (trn_plain hg hj he) cf E hr (fun Qd hr R q => hi H0 F H σ cf E Qd hr R q) _ fun y p F' H' vs' d k' cf' hH hF rr => q y F' H' _ d (.mk' k k' cf') ((E.step k').set ⟨p, _, rfl, hF, vs', rfl, rr⟩)
theorem xs_lcI {i : Nat} {nm : Str} {py spos : Pos} {scope : Scope} {own : List (Str × Nat)} {tg it elt t : Expr} {js : List Nat} {f : α → Ga → Ga} {ci : m (List α)} {ct : α → m Bool} {ce : α → m β} (hN : X.N.Nodup) (hsw : swapsWith (.ListComp elt [⟨tg, it, [t], 0⟩] scope pos) (some (.Name nm py)) spos.line X.env = pure true)
    (ok : BlkOk X.N X.env.scope scope own) (hi : XI G X tg it Γ τ ci) (hg : Blk X scope fun Y => XG G Y tg τ f js) (hj : ∀ i ∈ js, i ∈ own.map (·.2)) (ht : ∀ x, Blk X scope fun Y => XT G Y t (f x (wipeG Γ (own.map (·.2)))) (ct x)) (he : ∀ x, Blk X scope fun Y => XE G Y elt (f x (wipeG Γ (own.map (·.2)))) υ (ce x))
    (hy : X.N[i]? = some nm := by kernel_rfl) (hyl : X.env.scope.names.lookup nm = some .local := by kernel_rfl) (hc : X.calm = true := by kernel_rfl) (hs : ∀ x, foldedSetIterable it X.env x = pure x := by intro _; kernel_rfl) :
    XS G X (.Assign [.Name nm py] (.ListComp elt [⟨tg, it, [t], 0⟩] scope pos) spos) Γ (fun y => Γ.set i (some (.sh (TLst υ) y))) (bnd ci fun xs => lcC (fun x => bnd (ct x) fun k => if k then bnd (ce x) fun y => ret (some y) else ret none) xs) := by
  intro F0 H0 F H σ D cf k E Qd hr q
  refine (ps_setLc hc hN hy hyl hsw pi_sem ok (fun s H C cl fp => pg_all s H C cl fp) (fun s H C cl fp => pts_one (pt_all s H C cl fp)) (fun s H C cl fp => pe_all s H C cl fp) hs).sem ?_
  exact lc_x (trn_if hg hj ht he) cf E hr (fun Qd hr R q => hi H0 F H σ cf E Qd hr R q) _ fun y p F' H' vs' d k' cf' hH hF rr => q y F' H' _ d (.mk' k k' cf') ((E.step k').set ⟨p, _, rfl, hF, vs', rfl, rr⟩)
end
end Wc
/-! Core H: defs and their calls. -/
namespace Wc
open PySem PySem.Spec PyProof.Rows L2
open Mon (ret bnd opt run run_ret run_bnd run_opt)
section
variable {m : Type → Type} [Mon m] {G : Gs} {X : Cx} {Γ Δ : Ga} {α α0 β γ S : Type} {τ : Ty β} {e : Expr} {es : List Expr} {pos : Pos} {P : Program} {w : World} {K : PySem.W.Frag} {mg : Str → Option Value} {base : Heap}
/-- what a def promises: at arguments a it computes f a -/
def spF (G : Gs) (as : ATy α) (τ : Ty β) (f : α → m β) : Sp := fun vs H Q _ => ∃ F a, Cf G F H ∧ as.rel F vs a ∧ ∃ Qd : β → Prop, run (f a) Qd ∧ ∀ y v F' H', Qd y → Step G F H F' H' → Cf G F' H' → τ.rel F' v y → Q v H'
def retK {S β : Type} (fin : S → β) : Fl S Empty β → m β
  | .nx s => ret (fin s)
  | .ct l => l.elim
  | .bk l => l.elim
  | .rt r => ret r
def retF {S β : Type} (fin : S → β) (c : m (Fl S Empty β)) : m β := bnd c (retK fin)
theorem en_start {H0 F H : Hp} {as : ATy α} {N : List Str} {vs : List V} {a : α} (r : as.rel F vs a) : En G H0 F H (L2.start N vs) (as.ga a ++ List.replicate (N.length - as.n) none) := by
  have hl := as.len r
  have hg := as.gal a
  have low : ∀ (i : Nat) (s : Sl), (as.ga a ++ List.replicate (N.length - as.n) none)[i]? = some (some s) → (as.ga a)[i]? = some (some s) := fun i s e => by
    by_cases hi : i < (as.ga a).length
    · rwa [List.getElem?_append_left hi] at e
    · rw [List.getElem?_append_right (by omega), List.getElem?_replicate] at e
      split at e <;> cases e
  refine ⟨?_, fun i s e => ?_, fun i j s s' v _ h1 _ o1 _ _ _ => (as.gok r i s (low i s h1)).1 o1⟩
  · unfold L2.start
    rw [List.length_append, List.length_append, List.length_map, List.length_replicate, List.length_replicate, hg, hl]
  · obtain ⟨_, v, hv, q⟩ := as.gok r i s (low i s e)
    refine ⟨v, ?_, q G H0 H⟩
    unfold L2.start
    have hi : i < vs.length := (List.getElem?_eq_some_iff.mp hv).1
    rw [List.getElem?_append_left (by rwa [List.length_map]), List.getElem?_map, hv]
    rfl
theorem def_of {as : ATy α} {x : Str} {st : Stmt} {f : Addr} {fd : FuncData} {N ps : List Str} {ds : List Value} {dvs : List V} {k : Nat} {g : S → Ga} {gl : Empty → Ga} {mir : α → m (Fl S Empty β)} (FD : C8.Def K mg x st f fd) (b : Binds K fd ps ds) (d : Vals dvs ds)
    (sc : FnScope N ps (C8.fnScope st)) (hn : as.n = ps.length) (fin : S → β) (hfin : ∀ F s, τ.rel F .non (fin s))
    (hb : ∀ (a : α) (cdv : Value) (A : Around) (outer : List Env) (s : Shared) (H : Hp) (E : XK), Room k (A.deeper (envOfC x (C8.fnScope st) s.heap.objs.size f cdv)) →
      XB G (cxOf C8.CX0 P w K mg base N x (C8.fnScope st) f cdv A outer s H E).nox (C8.fnBody st) (as.ga a ++ List.replicate (N.length - as.n) none) g gl τ (mir a)) :
    C8.Cal P w K mg base (k + 1) x (spF G as τ fun a => retF fin (mir a)) dvs := by
  refine C8.cal0 FD b d sc (fun vs H Q E h => ?_) fun cdv A outer s H vs Q E hr h => ?_
  · obtain ⟨F, a, _, r, _⟩ := h
    rw [as.len r, hn]
  · obtain ⟨F, a, cf, r, Qd, hrun, q⟩ := h
    refine ⟨_, pss_sem, ?_⟩
    refine hb a cdv A outer s H E hr F H F H _ _ cf Step.refl (en_start r) _ (run_bnd hrun) (fun s F' H' σ' h n _ => ?_) (fun l => l.elim) (fun l => l.elim) fun z v F' H' h n rr => ?_
    · exact q (fin s) .non F' H' (run_ret (m := m) h) n.st n.cf (hfin F' s)
    · exact q z v F' H' (run_ret (m := m) h) n.st n.cf rr
theorem xe_call {as0 : ATy α0} {as : ATy α} {f : α → m β} {ext : α0 → α} {ca : m α0} {k j : Nat} {x : Str} {p : Pos} {dvs : List V} (c : C8.Cal X.prog X.w X.K X.mg X.base k x (spF G as τ f) dvs) (hr : Room j X.A) (hk : k ≤ j) (ha : XA G X (e :: es) Γ as0 ca)
    (hext : ∀ F vs a, as0.rel F vs a → as.rel F (vs ++ dvs) (ext a)) (hg : Gl X x := by show _ = _; kernel_rfl) (hdb : (x == ("__debug__" : Str)) = false := by kernel_rfl) (he : starEach (e :: es) X.env = (false, eval e X.env) :: starEach es X.env := by kernel_rfl) (hpl : (backTo pos (starEach es X.env)).any (·.1) = false := by kernel_rfl) :
    XE G X (.Call (.Name x p) (e :: es) [] pos) Γ τ (bnd ca fun a => f (ext a)) := by
  intro H0 F H σ cf E Qd hrun Q q
  refine (C8.pe_c c hr hk hg pa_sem hdb he hpl).sem ?_
  refine ha H0 F H σ cf E _ (run_bnd hrun) _ fun a vs F1 H1 d1 k1 cf1 r1 => ?_
  exact ⟨F1, ext a, cf1, hext _ _ _ r1, Qd, d1, fun y v F' H' hy k2 cf2 rr => q y v F' H' hy (k1.trans k2) cf2 rr⟩
/-- the callee reckons in Option -/
theorem xe_callO {as0 : ATy α0} {as : ATy α} {f : α → Option β} {ext : α0 → α} {ca : m α0} {k j : Nat} {x : Str} {p : Pos} {dvs : List V} (c : C8.Cal X.prog X.w X.K X.mg X.base k x (spF G as τ f) dvs) (hr : Room j X.A) (hk : k ≤ j) (ha : XA G X (e :: es) Γ as0 ca)
    (hext : ∀ F vs a, as0.rel F vs a → as.rel F (vs ++ dvs) (ext a)) (hg : Gl X x := by show _ = _; kernel_rfl) (hdb : (x == ("__debug__" : Str)) = false := by kernel_rfl) (he : starEach (e :: es) X.env = (false, eval e X.env) :: starEach es X.env := by kernel_rfl) (hpl : (backTo pos (starEach es X.env)).any (·.1) = false := by kernel_rfl) :
    XE G X (.Call (.Name x p) (e :: es) [] pos) Γ τ (bnd ca fun a => opt (f (ext a))) := by
  intro H0 F H σ cf E Qd hrun Q q
  refine (C8.pe_c c hr hk hg pa_sem hdb he hpl).sem ?_
  refine ha H0 F H σ cf E _ (run_bnd hrun) _ fun a vs F1 H1 d1 k1 cf1 r1 => ?_
  exact ⟨F1, ext a, cf1, hext _ _ _ r1, Qd, run_opt (m := m) d1, fun y v F' H' hy k2 cf2 rr => q y v F' H' hy (k1.trans k2) cf2 rr⟩
theorem ext_id {as : ATy α} {dvs : List V} (h : dvs = []) : ∀ F vs a, as.rel F vs a → as.rel F (vs ++ dvs) (id a) := fun F vs a r => by
  rw [h, List.append_nil]
  exact r
/-! wide reckoning -/
def mulW (i j : Int) : Option Int := if i.natAbs.log2 + j.natAbs.log2 < 1000000 then some (i * j) else none
def divW (i j : Int) : Option Int := if 0 < j ∧ j.natAbs.log2 < 9000 then some (i / j) else none
theorem rb_mulW : RB G (rI CMulW fun i j => .int (i * j)) TInt TInt TInt (fun i j => (opt (mulW i j) : m Int)) := rb_opt fun F H v u x y z cf rx ry e => by
  unfold mulW at e
  split at e
  · rename_i h
    cases e
    exact ⟨.int (x * y), rfl, fun Q q => ⟨x, y, rx, ry, h, q⟩⟩
  · cases e
theorem rb_divW : RB G (rI CDivW fun i j => .int (i / j)) TInt TInt TInt (fun i j => (opt (divW i j) : m Int)) := rb_opt fun F H v u x y z cf rx ry e => by
  unfold divW at e
  split at e
  · rename_i h
    cases e
    exact ⟨.int (x / y), rfl, fun Q q => ⟨x, y, rx, ry, h, q⟩⟩
  · cases e
end
end Wc
/-! Core I: built-ins. -/
namespace Wc
open PySem PySem.Spec PyProof.Rows L2
open Mon (ret bnd opt run run_ret run_bnd run_opt)
section
variable {m : Type → Type} [Mon m] {G : Gs} {X : Cx} {Γ Δ : Ga} {α β γ κ S L R : Type} {τ : Ty α} {υ : Ty β} {φ : Ty R} {a b e : Expr} {es : List Expr} {pos : Pos} {st : Stmt} {ss rest : List Stmt} {g : S → Ga} {gl : L → Ga}
/-! ### ints -/
theorem rel_int {F : Hp} {v : V} {i : Int} (h : TInt.rel F v i) : v = .int i := h
theorem ints_of {F : Hp} : ∀ {vs : List V} {xs : List Int}, Paired (TInt.rel F) vs xs → vs = xs.map V.int
  | _, _, .nil => rfl
  | _, _, .cons h t => by rw [List.map_cons, ← ints_of t, rel_int h]
theorem ints_to {F : Hp} : ∀ xs : List Int, Paired (TInt.rel F) (xs.map V.int) xs
  | [] => .nil
  | _ :: xs => .cons rfl (ints_to xs)
theorem bls_of {F : Hp} : ∀ {vs : List V} {xs : List Bool}, Paired (TBool.rel F) vs xs → vs = xs.map V.bl
  | _, _, .nil => rfl
  | _, _, .cons h t => by rw [List.map_cons, ← bls_of t, show _ = _ from h]
def absI (i : Int) : Int := if i < 0 then -i else i
theorem rc_abs : RC G (fun xs H Q => ∃ i, xs = [.int i] ∧ Q (.int (if i < 0 then -i else i)) H) (a1 TInt) TInt (fun x => (ret (absI x.1) : m Int)) := rc_pure fun F H vs x cf rx => by
  obtain ⟨v, e, r⟩ := a1_rel rx
  exact ⟨.int (absI x.1), rfl, fun Q q => ⟨x.1, by rw [e, rel_int r], q⟩⟩
def maxI (i j : Int) : Int := if j > i then j else i
def minI (i j : Int) : Int := if j < i then j else i
theorem rc_max2 : RC G (fun xs H Q => ∃ i j, xs = [.int i, .int j] ∧ Q (.int (if j > i then j else i)) H) (a2 TInt TInt) TInt (fun x => (ret (maxI x.1 x.2.1) : m Int)) := rc_pure fun F H vs x cf rx => by
  obtain ⟨v, w, e, r1, r2⟩ := a2_rel rx
  exact ⟨.int (maxI x.1 x.2.1), rfl, fun Q q => ⟨x.1, x.2.1, by rw [e, rel_int r1, rel_int r2], q⟩⟩
theorem rc_min2 : RC G (fun xs H Q => ∃ i j, xs = [.int i, .int j] ∧ Q (.int (if j < i then j else i)) H) (a2 TInt TInt) TInt (fun x => (ret (minI x.1 x.2.1) : m Int)) := rc_pure fun F H vs x cf rx => by
  obtain ⟨v, w, e, r1, r2⟩ := a2_rel rx
  exact ⟨.int (minI x.1 x.2.1), rfl, fun Q q => ⟨x.1, x.2.1, by rw [e, rel_int r1, rel_int r2], q⟩⟩
theorem rc_int1 : RC G (fun xs H Q => (∃ i, xs = [.int i] ∧ Q (.int i) H) ∨ ∃ k, xs = [.bl k] ∧ Q (.int (if k then 1 else 0)) H) (a1 TInt) TInt (fun x => (ret x.1 : m Int)) := rc_pure fun F H vs x cf rx => by
  obtain ⟨v, e, r⟩ := a1_rel rx
  exact ⟨.int x.1, rfl, fun Q q => .inl ⟨x.1, by rw [e, rel_int r], q⟩⟩
/-! ### lists of ints, of bools -/
theorem rc_sumL {K : PySem.W.Frag} : RC G (rSum K) (a1 (TLst TInt)) TInt (fun x => (ret x.1.sum : m Int)) := rc_pure fun F H vs x cf rx => by
  obtain ⟨v, e, r⟩ := a1_rel rx
  obtain ⟨p, ws, ev, _, hs, rr⟩ := rel_lst (K := K) cf r
  exact ⟨.int x.1.sum, rfl, fun Q q => ⟨p, x.1, by rw [e, ev], by rw [← ints_of rr]; exact hs, q⟩⟩
def maxL : List Int → Option Int
  | [] => none
  | x :: xs => some (xs.foldl max x)
def minL : List Int → Option Int
  | [] => none
  | x :: xs => some (xs.foldl min x)
theorem foldl_max : ∀ (xs : List Int) (a : Int), (a ≤ xs.foldl max a ∧ ∀ y ∈ xs, y ≤ xs.foldl max a) ∧ (xs.foldl max a = a ∨ xs.foldl max a ∈ xs)
  | [], a => ⟨⟨Int.le_refl _, fun _ h => by cases h⟩, .inl rfl⟩
  | x :: xs, a => by
    obtain ⟨⟨h1, h2⟩, h3⟩ := foldl_max xs (max a x)
    rw [List.foldl_cons]
    refine ⟨⟨by omega, fun y hy => ?_⟩, ?_⟩
    · rcases List.mem_cons.mp hy with z | z
      · subst z; omega
      · exact h2 y z
    · rcases h3 with z | z
      · by_cases hc : a ≤ x
        · exact .inr (by rw [z, Int.max_eq_right hc]; exact List.mem_cons_self)
        · exact .inl (by rw [z]; omega)
      · exact .inr (List.mem_cons_of_mem _ z)
theorem foldl_min : ∀ (xs : List Int) (a : Int), (xs.foldl min a ≤ a ∧ ∀ y ∈ xs, xs.foldl min a ≤ y) ∧ (xs.foldl min a = a ∨ xs.foldl min a ∈ xs)
  | [], a => ⟨⟨Int.le_refl _, fun _ h => by cases h⟩, .inl rfl⟩
  | x :: xs, a => by
    obtain ⟨⟨h1, h2⟩, h3⟩ := foldl_min xs (min a x)
    rw [List.foldl_cons]
    refine ⟨⟨by omega, fun y hy => ?_⟩, ?_⟩
    · rcases List.mem_cons.mp hy with z | z
      · subst z; omega
      · exact h2 y z
    · rcases h3 with z | z
      · by_cases hc : x ≤ a
        · exact .inr (by rw [z, Int.min_eq_right hc]; exact List.mem_cons_self)
        · exact .inl (by rw [z]; omega)
      · exact .inr (List.mem_cons_of_mem _ z)
theorem maxL_is {xs : List Int} {y : Int} (h : maxL xs = some y) : y ∈ xs ∧ ∀ z ∈ xs, z ≤ y := by
  cases xs with
  | nil => cases h
  | cons x xs =>
    cases h
    obtain ⟨⟨h1, h2⟩, h3⟩ := foldl_max xs x
    refine ⟨?_, fun z hz => ?_⟩
    · rcases h3 with e | e
      · rw [e]; exact List.mem_cons_self
      · exact List.mem_cons_of_mem _ e
    · rcases List.mem_cons.mp hz with e | e
      · rw [e]; exact h1
      · exact h2 z e
theorem minL_is {xs : List Int} {y : Int} (h : minL xs = some y) : y ∈ xs ∧ ∀ z ∈ xs, y ≤ z := by
  cases xs with
  | nil => cases h
  | cons x xs =>
    cases h
    obtain ⟨⟨h1, h2⟩, h3⟩ := foldl_min xs x
    refine ⟨?_, fun z hz => ?_⟩
    · rcases h3 with e | e
      · rw [e]; exact List.mem_cons_self
      · exact List.mem_cons_of_mem _ e
    · rcases List.mem_cons.mp hz with e | e
      · rw [e]; exact h1
      · exact h2 z e
theorem rc_maxL {K : PySem.W.Frag} : RC G (rMax K) (a1 (TLst TInt)) TInt (fun x => (opt (maxL x.1) : m Int)) := rc_opt fun F H vs x z cf rx ez => by
  obtain ⟨v, e, r⟩ := a1_rel rx
  obtain ⟨p, ws, ev, _, hs, rr⟩ := rel_lst (K := K) cf r
  obtain ⟨h1, h2⟩ := maxL_is ez
  refine ⟨.int z, rfl, fun Q q => ⟨p, x.1, by rw [e, ev], by rw [← ints_of rr]; exact hs, List.length_pos_of_mem h1, fun y hy hb => ?_⟩⟩
  have e1 : y = z := Int.le_antisymm (h2 y hy) (hb z h1)
  rw [e1]
  exact q
theorem rc_minL {K : PySem.W.Frag} : RC G (rMin K) (a1 (TLst TInt)) TInt (fun x => (opt (minL x.1) : m Int)) := rc_opt fun F H vs x z cf rx ez => by
  obtain ⟨v, e, r⟩ := a1_rel rx
  obtain ⟨p, ws, ev, _, hs, rr⟩ := rel_lst (K := K) cf r
  obtain ⟨h1, h2⟩ := minL_is ez
  refine ⟨.int z, rfl, fun Q q => ⟨p, x.1, by rw [e, ev], by rw [← ints_of rr]; exact hs, List.length_pos_of_mem h1, fun y hy hb => ?_⟩⟩
  have e1 : y = z := Int.le_antisymm (hb z h1) (h2 y hy)
  rw [e1]
  exact q
theorem rc_allL {K : PySem.W.Frag} : RC G (rAll K) (a1 (TLst TBool)) TBool (fun x => (ret (x.1.all id) : m Bool)) := rc_pure fun F H vs x cf rx => by
  obtain ⟨v, e, r⟩ := a1_rel rx
  obtain ⟨p, ws, ev, _, hs, rr⟩ := rel_lst (K := K) cf r
  exact ⟨.bl (x.1.all id), rfl, fun Q q => ⟨p, x.1, by rw [e, ev], by rw [← bls_of rr]; exact hs, q⟩⟩
theorem rc_anyL {K : PySem.W.Frag} : RC G (rAny K) (a1 (TLst TBool)) TBool (fun x => (ret (x.1.any id) : m Bool)) := rc_pure fun F H vs x cf rx => by
  obtain ⟨v, e, r⟩ := a1_rel rx
  obtain ⟨p, ws, ev, _, hs, rr⟩ := rel_lst (K := K) cf r
  exact ⟨.bl (x.1.any id), rfl, fun Q q => ⟨p, x.1, by rw [e, ev], by rw [← bls_of rr]; exact hs, q⟩⟩
/-- a call that makes a new object: RC for it -/
theorem rc_newO {r : List V → Hp → VK → Prop} {as : ATy α} {υ : Ty β} {k : α → Option β} (h : ∀ (F H : Hp) (vs : List V) (x : α) (z : β), Cf G F H → as.rel F vs x → k x = some z → ∃ o, (∀ (p : Addr) (F' : Hp), H p = none → Same F F' → F' p = some o → υ.rel F' (.ref p) z) ∧
    ∀ Q : VK, (∀ p, H p = none → Q (.ref p) (upd H p o)) → r vs H Q) : RC G r as υ (fun x => (opt (k x) : m β)) := by
  intro F H vs x cf rx Qd hr Q q
  obtain ⟨z, ez, d⟩ := run_opt hr
  obtain ⟨o, ho, g⟩ := h F H vs x z cf rx ez
  refine g Q fun p hp => ?_
  obtain ⟨cf2, k2⟩ := cf_new (o := o) cf hp
  exact q z (.ref p) _ _ d k2 cf2 (ho p _ hp k2.ex upd_same)
theorem rc_newR {r : List V → Hp → VK → Prop} {as : ATy α} {υ : Ty β} {k : α → β} (h : ∀ (F H : Hp) (vs : List V) (x : α), Cf G F H → as.rel F vs x → ∃ o, (∀ (p : Addr) (F' : Hp), H p = none → Same F F' → F' p = some o → υ.rel F' (.ref p) (k x)) ∧
    ∀ Q : VK, (∀ p, H p = none → Q (.ref p) (upd H p o)) → r vs H Q) : RC G r as υ (fun x => (ret (k x) : m β)) := by
  intro F H vs x cf rx Qd hr Q q
  have d := run_ret hr
  obtain ⟨o, ho, g⟩ := h F H vs x cf rx
  refine g Q fun p hp => ?_
  obtain ⟨cf2, k2⟩ := cf_new (o := o) cf hp
  exact q _ (.ref p) _ _ d k2 cf2 (ho p _ hp k2.ex upd_same)
def sortI (xs : List Int) : List Int := xs.mergeSort fun x y => decide (x ≤ y)
theorem sorted_one : ∀ {xs ys : List Int}, xs.Perm ys → xs.Pairwise (· ≤ ·) → ys.Pairwise (· ≤ ·) → xs = ys
  | [], ys, h, _, _ => (List.nil_perm.mp h).symm
  | x :: xs, [], h, _, _ => absurd (List.perm_nil.mp h) (List.cons_ne_nil _ _)
  | x :: xs, y :: ys, h, s1, s2 => by
    have h1 : x ≤ y := by
      rcases List.mem_cons.mp (h.mem_iff.mpr (List.mem_cons_self : y ∈ y :: ys)) with e | e
      · omega
      · exact (List.pairwise_cons.mp s1).1 y e
    have h2 : y ≤ x := by
      rcases List.mem_cons.mp (h.mem_iff.mp (List.mem_cons_self : x ∈ x :: xs)) with e | e
      · omega
      · exact (List.pairwise_cons.mp s2).1 x e
    have e : x = y := Int.le_antisymm h1 h2
    subst e
    rw [sorted_one ((List.perm_cons x).mp h) (List.pairwise_cons.mp s1).2 (List.pairwise_cons.mp s2).2]
theorem sortI_perm (xs : List Int) : (sortI xs).Perm xs := List.mergeSort_perm xs _
theorem sortI_sorted (xs : List Int) : (sortI xs).Pairwise (· ≤ ·) := by
  have h := List.pairwise_mergeSort (le := fun x y : Int => decide (x ≤ y)) (fun a b c h1 h2 => by simp only [decide_eq_true_eq] at *; omega) (fun a b => by simp only [Bool.or_eq_true, decide_eq_true_eq]; omega) xs
  exact h.imp fun {a b} z => of_decide_eq_true z
theorem rc_sortedI {K : PySem.W.Frag} : RC G (rSortedI K) (a1 (TLst TInt)) (TLst TInt) (fun x => (ret (sortI x.1) : m (List Int))) := rc_newR fun F H vs x cf rx => by
  obtain ⟨v, e, r⟩ := a1_rel rx
  obtain ⟨p, ws, ev, _, hs, rr⟩ := rel_lst (K := K) cf r
  refine ⟨.lst ((sortI x.1).map V.int), fun q F' _ _ hF => ⟨q, _, rfl, hF, _, rfl, ints_to _⟩, fun Q q => ⟨p, x.1, by rw [e, ev], by rw [← ints_of rr]; exact hs, fun ns' a hp hs hn => ?_⟩⟩
  have e1 : ns' = sortI x.1 := sorted_one (hp.trans (sortI_perm x.1).symm) hs (sortI_sorted x.1)
  subst e1
  exact q a hn
theorem rc_listS {K : PySem.W.Frag} : RC G (fun xs H Q => ∃ p ys, xs = [.ref p] ∧ (SqL K H p ys ∨ SqT K H p ys) ∧ ∀ l, H l = none → Q (.ref l) (upd H l (.lst ys))) (a1 (TSeq τ)) (TLst τ) (fun x => (ret x.1 : m (List α))) := rc_newR fun F H vs x cf rx => by
  obtain ⟨v, e, r⟩ := a1_rel rx
  obtain ⟨p, ws, ev, hs, rr⟩ := rel_seq (K := K) cf r
  exact ⟨.lst ws, fun q F' _ sm hF => ⟨q, _, rfl, hF, ws, rfl, paired_ext sm rr⟩, fun Q q => ⟨p, ws, by rw [e, ev], hs, q⟩⟩
theorem rc_tupleS {K : PySem.W.Frag} : RC G (fun xs H Q => ∃ p ys, xs = [.ref p] ∧ ((SqL K H p ys ∧ ∀ l, H l = none → Q (.ref l) (upd H l (.tup ys))) ∨ (SqT K H p ys ∧ Q (.ref p) H))) (a1 (TSeq τ)) (TTup τ) (fun x => (ret x.1 : m (List α))) := by
  intro F H vs x cf rx Qd hr Q q
  have d := run_ret hr
  obtain ⟨v, e, r⟩ := a1_rel rx
  rcases r with r | r
  · obtain ⟨p, ws, ev, hH, hs, rr⟩ := rel_tup (K := K) cf r
    exact ⟨p, ws, by rw [e, ev], .inr ⟨hs, q x.1 _ F H d Step.refl cf (by rw [← ev]; exact r)⟩⟩
  · obtain ⟨p, ws, ev, hH, hs, rr⟩ := rel_lst (K := K) cf r
    refine ⟨p, ws, by rw [e, ev], .inl ⟨hs, fun l hl => ?_⟩⟩
    obtain ⟨cf2, k2⟩ := cf_new (o := .tup ws) cf hl
    exact q x.1 (.ref l) _ _ d k2 cf2 ⟨l, _, rfl, upd_same, ws, rfl, paired_ext k2.ex rr⟩
/-! ### t + u, xs + ys -/
def catC (xs ys : List α) : Option (List α) := if xs.length + ys.length < 1000000 then some (xs ++ ys) else none
theorem rb_catT {K : PySem.W.Frag} : RB G (rCatA K) (TTup τ) (TTup τ) (TTup τ) (fun xs ys => (opt (catC xs ys) : m (List α))) := by
  intro F H v w x y cf rx ry Qd hr Q q
  obtain ⟨z, ez, d⟩ := run_opt hr
  unfold catC at ez
  split at ez
  · rename_i hl
    cases ez
    obtain ⟨p, vs, ev, hH, hs, rr⟩ := rel_tup (K := K) cf rx
    obtain ⟨p2, ws, ev2, hH2, hs2, rr2⟩ := rel_tup (K := K) cf ry
    refine ⟨p, p2, vs, ws, ev, ev2, hs, hs2, ?_, fun z => ?_, fun _ z => ?_, fun _ _ l hn => ?_⟩
    · rw [paired_len rr, paired_len rr2]
      exact Nat.le_of_lt (small_line hl)
    · subst z
      cases rr
      exact q y _ F H d Step.refl cf (by rw [← ev2]; exact ry)
    · subst z
      cases rr2
      rw [List.append_nil] at d
      exact q x _ F H d Step.refl cf (by rw [← ev]; exact rx)
    · obtain ⟨cf2, k2⟩ := cf_new (o := .tup (vs ++ ws)) cf hn
      exact q _ (.ref l) _ _ d k2 cf2 ⟨l, _, rfl, upd_same, _, rfl, paired_ext k2.ex (pap rr rr2)⟩
  · cases ez
theorem rb_catL : RB G rCat (TLst τ) (TLst τ) (TLst τ) (fun xs ys => (opt (catC xs ys) : m (List α))) := by
  intro F H v w x y cf rx ry Qd hr Q q
  obtain ⟨z, ez, d⟩ := run_opt hr
  unfold catC at ez
  split at ez
  · rename_i hl
    cases ez
    obtain ⟨p, o, ev, hF, vs, eo, rr⟩ := rx
    obtain ⟨p2, o2, ev2, hF2, ws, eo2, rr2⟩ := ry
    subst eo eo2
    refine ⟨p, p2, vs, ws, ev, ev2, cf.sub _ _ hF, cf.sub _ _ hF2, ?_, fun l hn => ?_⟩
    · rw [paired_len rr, paired_len rr2]
      exact Nat.le_of_lt (small_line hl)
    · obtain ⟨cf2, k2⟩ := cf_new (o := .lst (vs ++ ws)) cf hn
      exact q _ (.ref l) _ _ d k2 cf2 ⟨l, _, rfl, upd_same, _, rfl, paired_ext k2.ex (pap rr rr2)⟩
  · cases ez
/-- (*xs, e) -/
theorem xl_star {c cs : m (List α)} {p : Pos} (h : XE G X e Γ (TTup τ) c) (hr : XL G X es Γ τ cs) (hs : starEach (.Starred e p :: es) X.env = (true, eval e X.env) :: starEach es X.env := by kernel_rfl) : ∀ (H0 F H : Hp) (σ : L2.St), Cf G F H → En G H0 F H σ Γ → ∀ Qd : List α → Prop, run (bnd c fun xs => bnd cs fun ys => ret (xs ++ ys)) Qd →
    ∀ Q : List V → Hp → Prop, (∀ y vs F' H', Qd y → Step G F H F' H' → Cf G F' H' → Paired (τ.rel F') vs y → Q vs H') → semA X (.Starred e p :: es) σ H Q := by
  intro H0 F H σ cf E Qd hrun Q q
  refine (StX.pa_star pe_sem pa_sem hs).sem ?_
  refine h H0 F H σ cf E _ (run_bnd hrun) _ fun xs v F1 H1 d1 k1 cf1 r1 => ?_
  obtain ⟨pa, vs, ev, hH, hsq, rr⟩ := rel_tup (K := X.K) cf1 r1
  refine ⟨pa, vs, ev, .inl hsq, ?_⟩
  refine hr H0 F1 H1 σ cf1 (E.step k1) _ (run_bnd d1) _ fun ys ws F2 H2 d2 k2 cf2 r2 l2 => ?_
  exact q (xs ++ ys) (vs ++ ws) F2 H2 (run_ret d2) (k1.trans k2) cf2 (pap (paired_ext k2.ex rr) r2)
def lim (xs : List α) : Option (List α) := if xs.length < 1000000 then some xs else none
theorem xe_star {x1 : Nat} {c cs : m (List α)} {p : Pos} (h : XE G X e Γ (TTup τ) c) (hr : XL G X es Γ τ cs) (hs : starEach (.Starred e p :: es) X.env = (true, eval e X.env) :: starEach es X.env := by kernel_rfl) :
    XE G X (.Tuple (.Starred e p :: es) x1 pos) Γ (TTup τ) (bnd (bnd c fun xs => bnd cs fun ys => ret (xs ++ ys)) fun xs => opt (lim xs)) := by
  intro H0 F H σ cf E Qd hrun Q q
  refine (pe_tup pa_sem).sem ?_
  refine xl_star h hr hs H0 F H σ cf E _ (run_bnd hrun) _ fun y vs F1 H1 d1 k1 cf1 r1 => ?_
  obtain ⟨z, ez, d2⟩ := run_opt d1
  unfold lim at ez
  split at ez
  · rename_i hl
    cases ez
    refine ⟨by rw [paired_len r1]; exact Nat.le_of_lt (small_line hl), fun p hp => ?_⟩
    obtain ⟨cf2, k2⟩ := cf_new (o := .tup vs) cf1 hp
    exact q y (.ref p) _ _ d2 (k1.trans k2) cf2 ⟨p, .tup vs, rfl, upd_same, vs, rfl, paired_ext k2.ex r1⟩
  · cases ez
/-! ### name op= e -/
theorem xs_aug {i : Nat} {nm : Str} {np : Pos} {op : Operator} {r : R2} {x : α} {γ : Type} {υ : Ty β} {ψ : Ty γ} {c : m β} {k : α → β → m γ} (ho : OpR X (inplaceOp op) r) (hr : RB G r τ υ ψ k) (h : XE G X e Γ υ c) (hN : X.N.Nodup) (hΓ : Γ[i]? = some (some (.sh τ x)) := by rfl) (hi : X.N[i]? = some nm := by kernel_rfl)
    (hx : Loc X.env.scope nm := by first | exact Or.inl rfl | exact Or.inr rfl) (hf : X.fn nm = true ∨ X.env.scope.names.lookup nm = some .local := by first | exact .inl rfl | exact .inr rfl | assumption) :
    XS G X (.AugAssign (.Name nm np) op e pos) Γ (fun y => Γ.set i (some (.sh ψ y))) (bnd c fun y => k x y) := by
  intro F0 H0 F H σ D cf kk E Qd hrun q
  refine (ps_aug hN hi hx pe_sem (ti := r) (fun pins s σ H x y v u Q I r1 r2 h => ho pins s σ H x y v u Q I r1 r2 h) hf).sem ?_
  obtain ⟨v, ev, rv⟩ := E.get hΓ
  refine ⟨v, ev, ?_⟩
  refine h H0 F H σ cf E _ (run_bnd hrun) _ fun y w F1 H1 d1 k1 cf1 r1 => ?_
  exact hr F1 H1 v w x y cf1 (τ.mono k1.ex rv) r1 Qd d1 _ fun z u F2 H2 d2 k2 cf2 r2 => q z F2 H2 _ d2 (.mk' kk (k1.trans k2) cf2) ((E.step (k1.trans k2)).set r2)
/-! ### zip -/
theorem xi_zipL {c : m (List α)} {c2 : m (List β)} {elts : List Expr} {kk : Nat} {tpos p1 : Pos} (hm : X.mg "zip" = none) (h : XE G X a Γ (TLst τ) c) (h2 : XE G X b Γ (TLst υ) c2) (hg : Gl X "zip" := by show _ = _; kernel_rfl)
    (hs : starEach [a, b] X.env = (false, eval a X.env) :: starEach [b] X.env := by kernel_rfl) (hs2 : starEach [b] X.env = (false, eval b X.env) :: starEach [] X.env := by kernel_rfl) (hpl : (backTo pos (starEach [b] X.env)).any (·.1) = false := by kernel_rfl) :
    XI G X (.Tuple elts kk tpos) (.Call (.Name "zip" p1) [a, b] [] pos) Γ (T2 τ υ) (bnd c fun xs => bnd c2 fun ys => ret (xs.zip ys)) := by
  intro H0 F H σ cf E Qd hr R q
  refine (RZ.pi_zipA hg hm (pa_cons pe_sem (pa_cons pe_sem pa_nil hs2) hs) hs hpl).sem ?_
  refine h H0 F H σ cf E _ (run_bnd hr) _ fun xs v F1 H1 d1 k1 cf1 r1 => ?_
  refine h2 H0 F1 H1 σ cf1 (E.step k1) _ (run_bnd d1) _ fun ys w F2 H2 d2 k2 cf2 r2 => ?_
  obtain ⟨p, o, ev, hF, vs, eo, rr⟩ := (TLst τ).mono k2.ex r1
  obtain ⟨p2, o2, ev2, hF2, ws, eo2, rr2⟩ := r2
  subst ev ev2 eo eo2
  refine ⟨p, p2, vs, ws, rfl, .inl ⟨.inl (.inl (cf2.sub _ _ hF)), .inl (.inl (cf2.sub _ _ hF2)), q _ _ F2 H2 (run_ret d2) (k1.trans k2) cf2 (tw_pair (walk_zip (K := X.K) (xs := vs) (ys := ws) (n := (xs.zip ys).length) ?_) rfl
    (fun F3 H3 sm cf3 => ⟨.inl (.inl (cf3.sub _ _ (sm _ _ hF))), .inl (.inl (cf3.sub _ _ (sm _ _ hF2)))⟩) fun i x hx u u' hu hu' => ?_)⟩⟩
  · rw [List.length_zip, paired_len rr, paired_len rr2]
  · rw [List.getElem?_zip_eq_some] at hx
    obtain ⟨u1, e1, q1⟩ := paired_get rr hx.1
    obtain ⟨u2, e2, q2⟩ := paired_get rr2 hx.2
    have hu : vs[i]? = some u := hu
    have hu' : ws[i]? = some u' := hu'
    rw [hu] at e1
    rw [hu'] at e2
    cases e1
    cases e2
    exact ⟨q1, q2⟩
end
end Wc
/-! Core J: data compared, dicts by comprehension, displays. -/
namespace Wc
open PySem PySem.Spec PyProof.Rows L2
open Mon (ret bnd opt run run_ret run_bnd run_opt)
/-! ### data that is compared -/
structure DTy {α : Type} [DecidableEq α] (τ : Ty α) (n : Nat) where
  enc : α → PyData
  hold : ∀ {G : Gs} {K : PySem.W.Frag} {F H : Hp} {v : V} {x : α}, Cf G F H → τ.rel F v x → Dp K H v (enc x)
  eqv : ∀ a b, PyData.eqv (enc a) (enc b) = decide (a = b)
  lay : ∀ a, (enc a).canLay0 = true
  dep : ∀ a, (enc a).depth ≤ n
theorem bqd {α : Type} [BEq α] [LawfulBEq α] [DecidableEq α] (x y : α) : (x == y) = decide (x = y) := by
  rw [Bool.eq_iff_iff, beq_iff_eq, decide_eq_true_eq]
def dInt : DTy TInt 0 where
  enc := .int
  hold := fun _ r => by rw [rel_int r]; exact .int _
  eqv := fun a b => by simp only [PyData.eqv]; exact bqd a b
  lay := fun _ => rfl
  dep := fun _ => Nat.le_refl _
def dBool : DTy TBool 0 where
  enc := .bool
  hold := fun _ r => by rw [show _ = _ from r]; exact .bl _
  eqv := fun a b => by simp only [PyData.eqv]; exact bqd a b
  lay := fun _ => rfl
  dep := fun _ => Nat.le_refl _
def dNon : DTy TNon 0 where
  enc := fun _ => .none
  hold := fun _ r => by rw [show _ = _ from r]; exact .non
  eqv := fun a b => by simp only [PyData.eqv]; rfl
  lay := fun _ => rfl
  dep := fun _ => Nat.le_refl _
section
variable {α β γ : Type} [DecidableEq α] [DecidableEq β] [DecidableEq γ] {τ : Ty α} {υ : Ty β} {φ : Ty γ} {n k l : Nat}
theorem dp_all (d : DTy τ n) {G : Gs} {K : PySem.W.Frag} {F H : Hp} (cf : Cf G F H) {vs : List V} {xs : List α} (h : Paired (τ.rel F) vs xs) : DpAll K H vs (xs.map d.enc) := by
  induction h with
  | nil => exact .nil
  | cons r _ ih => exact .cons (d.hold cf r) ih
theorem eqvA (d : DTy τ n) : ∀ xs ys : List α, PyData.eqvAll (xs.map d.enc) (ys.map d.enc) = decide (xs = ys)
  | [], [] => by simp only [List.map_nil, PyData.eqvAll, decide_true]
  | [], _ :: _ => by simp [PyData.eqvAll]
  | _ :: _, [] => by simp [PyData.eqvAll]
  | x :: xs, y :: ys => by
    rw [List.map_cons, List.map_cons, PyData.eqvAll, d.eqv, eqvA d xs ys]
    simp [List.cons.injEq]
theorem layA (d : DTy τ n) : ∀ xs : List α, PyData.canLayAll0 (xs.map d.enc) = true
  | [] => rfl
  | x :: xs => by
    rw [List.map_cons, PyData.canLayAll0, d.lay, layA d xs]
    rfl
theorem depA (d : DTy τ n) : ∀ xs : List α, PyData.depthAll (xs.map d.enc) ≤ n
  | [] => Nat.zero_le _
  | x :: xs => by
    rw [List.map_cons, PyData.depthAll]
    exact Nat.max_le.mpr ⟨d.dep x, depA d xs⟩
def dTup (d : DTy τ n) : DTy (TTup τ) (n + 1) where
  enc := fun xs => .tuple (xs.map d.enc)
  hold := fun {G K F H v x} cf r => by
    obtain ⟨p, vs, ev, _, hs, rr⟩ := rel_tup (K := K) cf r
    rw [ev]
    exact .tup hs (dp_all d cf rr)
  eqv := fun a b => by rw [PyData.eqv]; exact eqvA d a b
  lay := fun a => by rw [PyData.canLay0]; exact layA d a
  dep := fun a => by
    have := depA d a
    rw [PyData.depth]
    omega
def dLst (d : DTy τ n) : DTy (TLst τ) (n + 1) where
  enc := fun xs => .list (xs.map d.enc)
  hold := fun {G K F H v x} cf r => by
    obtain ⟨p, vs, ev, _, hs, rr⟩ := rel_lst (K := K) cf r
    rw [ev]
    exact .lst hs (dp_all d cf rr)
  eqv := fun a b => by rw [PyData.eqv]; exact eqvA d a b
  lay := fun a => by rw [PyData.canLay0]; exact layA d a
  dep := fun a => by
    have := depA d a
    rw [PyData.depth]
    omega
def d2 (d : DTy τ n) (e : DTy υ k) : DTy (T2 τ υ) (n + k + 1) where
  enc := fun x => .tuple [d.enc x.1, e.enc x.2]
  hold := fun {G K F H v x} cf r => by
    obtain ⟨p, o, ev, hF, v1, v2, eo, r1, r2⟩ := r
    rw [eo] at hF
    rw [ev]
    exact .tup (.inl (.inl (cf.sub _ _ hF))) (.cons (d.hold cf r1) (.cons (e.hold cf r2) .nil))
  eqv := fun a b => by
    rw [PyData.eqv, PyData.eqvAll, PyData.eqvAll, PyData.eqvAll, d.eqv, e.eqv]
    simp [Prod.ext_iff]
  lay := fun a => by
    rw [PyData.canLay0, PyData.canLayAll0, PyData.canLayAll0, PyData.canLayAll0, d.lay, e.lay]
    rfl
  dep := fun a => by
    have h1 := d.dep a.1
    have h2 := e.dep a.2
    rw [PyData.depth, PyData.depthAll, PyData.depthAll, PyData.depthAll]
    omega
def d3 (d : DTy τ n) (e : DTy υ k) (f : DTy φ l) : DTy (T3 τ υ φ) (n + k + l + 1) where
  enc := fun x => .tuple [d.enc x.1, e.enc x.2.1, f.enc x.2.2]
  hold := fun {G K F H v x} cf r => by
    obtain ⟨p, o, ev, hF, v1, v2, v3, eo, r1, r2, r3⟩ := r
    rw [eo] at hF
    rw [ev]
    exact .tup (.inl (.inl (cf.sub _ _ hF))) (.cons (d.hold cf r1) (.cons (e.hold cf r2) (.cons (f.hold cf r3) .nil)))
  eqv := fun a b => by
    rw [PyData.eqv, PyData.eqvAll, PyData.eqvAll, PyData.eqvAll, PyData.eqvAll, d.eqv, e.eqv, f.eqv]
    simp [Prod.ext_iff]
  lay := fun a => by
    rw [PyData.canLay0, PyData.canLayAll0, PyData.canLayAll0, PyData.canLayAll0, PyData.canLayAll0, d.lay, e.lay, f.lay]
    rfl
  dep := fun a => by
    have h1 := d.dep a.1
    have h2 := e.dep a.2.1
    have h3 := f.dep a.2.2
    rw [PyData.depth, PyData.depthAll, PyData.depthAll, PyData.depthAll, PyData.depthAll]
    omega
theorem DTy.shaped (d : DTy τ n) (h : n ≤ 64) (x : α) : SeqAt.shaped (d.enc x) = true := by
  unfold SeqAt.shaped
  rw [d.lay x, decide_eq_true (Nat.le_trans (d.dep x) h)]
  rfl
variable {m : Type → Type} [Mon m] {G : Gs} {K : PySem.W.Frag}
theorem rb_eqD (d : DTy τ n) (h : n ≤ 64) : RB G (rEqD K) τ τ TBool (fun x y => (ret (decide (x = y)) : m Bool)) := rb_pure fun F H v w x y cf rx ry =>
  ⟨.bl (decide (x = y)), rfl, fun Q q => ⟨d.enc x, d.enc y, d.hold cf rx, d.hold cf ry, d.shaped h x, d.shaped h y, by rw [d.eqv]; exact q⟩⟩
theorem rb_neD (d : DTy τ n) (h : n ≤ 64) : RB G (rNeD K) τ τ TBool (fun x y => (ret (!decide (x = y)) : m Bool)) := rb_pure fun F H v w x y cf rx ry =>
  ⟨.bl (!decide (x = y)), rfl, fun Q q => ⟨d.enc x, d.enc y, d.hold cf rx, d.hold cf ry, d.shaped h x, d.shaped h y, by rw [d.eqv]; exact q⟩⟩
def memD {α : Type} [DecidableEq α] (x : α) (xs : List α) : Bool := decide (x ∈ xs)
theorem any_enc (d : DTy τ n) (xs : List α) (x : α) : ((xs.map d.enc).any fun z => PyData.eqv z (d.enc x)) = decide (x ∈ xs) := by
  rw [List.any_map, Bool.eq_iff_iff, List.any_eq_true, decide_eq_true_eq]
  constructor
  · rintro ⟨y, hy, e⟩
    have e' : PyData.eqv (d.enc y) (d.enc x) = true := e
    rw [d.eqv, decide_eq_true_eq] at e'
    exact e' ▸ hy
  · intro h
    exact ⟨x, h, by show PyData.eqv (d.enc x) (d.enc x) = true; rw [d.eqv]; exact decide_eq_true rfl⟩
theorem rb_inD (d : DTy τ n) (h : n + 1 ≤ 64) : RB G (L2.rInD K) τ (TLst τ) TBool (fun x xs => (ret (memD x xs) : m Bool)) := rb_pure fun F H v w x y cf rx ry =>
  ⟨.bl (decide (x ∈ y)), rfl, fun Q q => ⟨d.enc x, y.map d.enc, d.hold cf rx, (dLst d).hold cf ry, d.shaped (by omega) x, (dLst d).shaped h y, by rw [any_enc]; exact q⟩⟩
theorem rb_ninD (d : DTy τ n) (h : n + 1 ≤ 64) : RB G (L2.rNotInD K) τ (TLst τ) TBool (fun x xs => (ret (!memD x xs) : m Bool)) := rb_pure fun F H v w x y cf rx ry =>
  ⟨.bl (!decide (x ∈ y)), rfl, fun Q q => ⟨d.enc x, y.map d.enc, d.hold cf rx, (dLst d).hold cf ry, d.shaped (by omega) x, (dLst d).shaped h y, by rw [any_enc]; exact q⟩⟩
end
end Wc
/-! Core K: dict comprehensions, displays of one pair, sums of values. -/
namespace Wc
open PySem PySem.Spec PyProof.Rows L2
open Mon (ret bnd opt run run_ret run_bnd run_opt)
theorem presum_take (ns : List Int) : ∀ n : Nat, preSum (fun i => ns.getD i 0) n = (ns.take n).sum
  | 0 => rfl
  | n + 1 => by
    show preSum (fun i => ns.getD i 0) n + ns.getD n 0 = _
    rw [presum_take ns n, List.take_succ, List.sum_append, List.getD_eq_getElem?_getD]
    cases ns[n]? with
    | none => rfl
    | some z => simp
theorem presum_sum (ns : List Int) {n : Nat} (h : n = ns.length) : preSum (fun i => ns.getD i 0) n = ns.sum := by
  rw [presum_take, h, List.take_length]
section
variable {X : Cx}
/-- {k: v}, k a tuple -/
theorem pe_dict1 {k v : Expr} {pos : Pos} {tk tv : TE} (hu : X.A.units + 64 < cLine) (hk : PE X k tk) (hv : PE X v tv)
    (hsh : (evalEachOpt [some k] X.env).zip ((evalEach [v] X.env).map fun z => do let x ← z; standAt pos; pure x) = [(some (eval k X.env), do let x ← eval v X.env; standAt pos; pure x)] := by kernel_rfl) :
    PE X (.Dict [some k] [v] pos) (fun σ H Q => ∀ D, H D = none → tk σ (upd H D (.dT [])) fun y H1 => tv σ H1 fun z H2 => ∃ ks b, y = .ref b ∧ H2 D = some (.dT []) ∧ H2 b = some (.tup (ks.map kV)) ∧ Q (.ref D) (upd H2 D (.dT [(ks, z)]))) := by
  refine ⟨fun pins s σ H Q I h => ?_⟩
  rw [arm_eval_Dict, hsh]
  have h1 := dictDisplay_pairs [(eval k X.env, do let x ← eval v X.env; standAt pos; pure x)] (List.cons_ne_nil _ _) (by show 1 < 17; decide)
  rw [show [(some (eval k X.env), (do let x ← eval v X.env; standAt pos; pure x : Sem Value))] = [(eval k X.env, (do let x ← eval v X.env; standAt pos; pure x : Sem Value))].map (fun p => (some p.1, p.2)) from rfl, h1]
  refine wpAny_bind (wpAny_standAt (wpAny_bind ?_))
  unfold subDict
  refine wpAny_bind (wpAny_alloc ?_)
  have I1 : Inv X pins σ (upd H s.heap.objs.size (.dT [])) { s with heap := s.heap.push { cls := .type "dict", data := .dict #[] } } := I.laid (t' := s.toks) (fun _ _ q => Heap.get?_push_of_some _ q) (Nat.le_refl _) (dt_empty s.heap I.big)
  have h2 := h s.heap.objs.size (I.hok.fresh (Nat.le_refl _))
  refine wpAny_bind (wpAny_holding ?_)
  rw [if_pos (by show 1 ≤ 15; decide)]
  refine wpAny_bind (evalPairs_cons (thn (hk.run pins _ σ _ _ I1 h2) fun uk s2 ⟨y, H2, I2, ry, q2⟩ => ?_))
  refine wpAny_bind (thn (hv.run pins s2 σ H2 _ I2 q2) fun uv s3 ⟨z, H3, I3, rz, q3⟩ => ?_)
  obtain ⟨ks, b, ey, hD, hb, q⟩ := q3
  subst ey
  cases (show uk = Value.ref b from ry)
  refine wpAny_bind (wpAny_standAt (wpAny_pure (evalPairs_nil ?_)))
  refine wpAny_holding ?_
  obtain ⟨_, hd, xs, rel, dd⟩ := dt_of I3.hok hD
  have hx : xs = [] := by cases rel; rfl
  subst hx
  rw [List.forIn_cons]
  refine wpAny_bind (wpAny_bind (wpAny_bind (wpAny_dictSet_heap (hsz := Nat.zero_le _) (knd := tupleKind (mixKind X.prog X.w)) (by show X.A.units < cLine; omega) (key_of I3.hok hb) dd fun h' dd' hs => wpAny_pure ?_)))
  show wpAny _ _ (pure PUnit.unit) _ _ _
  refine wpAny_pure (wpAny_pure (wpAny_pure (wpAny_pure ?_)))
  obtain ⟨q', es, ep, hq, e2, e3, e4, _, e5⟩ := dd'
  refine ⟨.ref s.heap.objs.size, _, d_write I3 (by rw [hD]; exact True.intro) hs ⟨q', hq⟩ (ob := .dT [(ks, z)]) ⟨by show 1 ≤ sizeLine; decide, hd, _, (rel.put ks hb rz).keeps fun c ys ec => ?_, q', es, ep, hq, e2, e3, e4, e5⟩, rfl, q⟩
  rw [upd_ne (ne_of ec hD (fun z => nomatch z))]
  exact ec
/-- sum(d.values()), the dict locked, its values ints -/
theorem pe_sumV {e : Expr} {td : TE} {p0 pos apos cpos : Pos} (hc : X.calm = true) (he : PE X e td) (hms : X.mg "sum" = none) (hgs : Gl X "sum" := by show _ = _; kernel_rfl) (hbase : attributeBase e "values" X.env (eval e X.env) = eval e X.env := by kernel_rfl) (hline : (apos.endLine == cpos.line) = true := by kernel_rfl)
    (hs1 : starEach [.Call (.Attribute e "values" apos) [] [] cpos] X.env = (false, eval (.Call (.Attribute e "values" apos) [] [] cpos) X.env) :: starEach [] X.env := by kernel_rfl) (hp1 : (backTo pos (starEach [] X.env)).any (·.1) = false := by kernel_rfl) :
    PE X (.Call (.Name "sum" p0) [.Call (.Attribute e "values" apos) [] [] cpos] [] pos) (fun σ H Q => td σ H fun x H1 => ∃ (d : Addr) (o : Obj) (kvs : List (Key × V)) (ns : List Int), x = .ref d ∧ H1 d = some (.frz o (.dK kvs)) ∧ kvs.map (·.2) = ns.map V.int ∧ Q (.int ns.sum) H1) := by
  refine ⟨fun pins s σ H Q I h => ?_⟩
  refine wpAny_Call_Name_kw (ld_blt I hgs hms boot_sum ?_)
  refine PyProof.Rows.callWith_builtin1 ?_ hs1 hp1
  rw [hs1]
  show wpAny _ _ (spliced ((false, eval (.Call (.Attribute e "values" apos) [] [] cpos) X.env) :: backTo pos (starEach [] X.env))) _ _ s
  refine Calls.spliced_cons ?_
  refine wpAny_Call_method (T := "dict") (id := "dict.values") hbase rfl hline F.plainAttrs_dict F.slot_dict_values F.type_dict_values (thn (he.run pins s σ H _ I h) fun u s1 ⟨x, H1, I1, rx, d, o, kvs, ns, ex, hd, hn, q⟩ => ?_)
  subst ex
  obtain rfl : u = Value.ref d := rx
  obtain ⟨hs, hgd, hx, es, ep, vs, hdt, hsz, kv, hm⟩ := I1.frzK hd
  have hl : kvs.length = vs.length := Paired.length kv
  refine ⟨hm.dictOf.typeIs, hm.dictOf.mapOf.noDict, ?_⟩
  show wpAny _ _ (callWith cpos (.builtin "dict.values") [.ref d] [] []) _ X.xe s1
  refine method_meetsIn F.slot_dict_values F.entry_dict_values rfl (PySem.evalArgs_none ⟨rfl, hm.dictOf.typeIs, F.args_dict_values_1 _, _, meets_dict_values (mixKind X.prog X.w) d hs, ⟨vs, hm.dictOf⟩, ?_⟩)
  refine Calls.spliced_nil ?_
  have I2 : Inv X pins σ H1 { s1 with heap := s1.heap.push { cls := .type "dict_values", data := .fields #[.ref d] } } := I1.kept (t' := s1.toks) fun b ob q => Heap.get?_push_of_some _ q
  have hval : ∀ i k u, vs[i]? = some (k, u) → ∃ t, u = Value.int (ns.getD i 0) t := fun i k u e => by
    have hi : i < kvs.length := by rw [hl]; exact (List.getElem?_eq_some_iff.mp e).1
    have e2 : (kvs.map (·.2))[i]? = (ns.map V.int)[i]? := by rw [hn]
    rw [List.getElem?_map, List.getElem?_map, List.getElem?_eq_getElem hi] at e2
    cases e3 : ns[i]? with
    | none => rw [e3] at e2; cases e2
    | some z =>
      rw [e3] at e2
      have e4 : kvs[i].2 = .int z := Option.some.inj e2
      obtain ⟨kvi, e5, r⟩ := paired_getG kv e
      rw [List.getElem?_eq_getElem hi] at e5
      have e6 := Option.some.inj e5
      rw [← e6, e4] at r
      obtain ⟨t, ht⟩ := r.2
      exact ⟨t, by rw [List.getD_eq_getElem?_getD, e3]; exact ht⟩
  refine call_sum_walkG (wpAny_pyIter_values (A := X.A.in1) (d := d) (knd := mixKind X.prog X.w) ⟨_, Heap.get?_push_size _ rfl, rfl, rfl⟩ (hm.push _) ?_)
  refine ⟨_, _, _, _, _, _, fun i => ns.getD i 0, rfl, Walks.dictValues (knd := mixKind X.prog X.w) (A := X.A.in1) (I.ok.hd hc) _ d ?_ vs ep, ⟨⟨_, Heap.get?_push_size _ rfl, rfl, rfl⟩, (hm.push _).push _⟩, ?_, fun i v ⟨k, hx⟩ => hval i k v hx, fun h' tk t' hk => ?_⟩
  · have h1 := Heap.lt_size hgd
    refine Nat.ne_of_lt ?_
    show d < (s1.heap.push _).objs.size
    rw [Heap.size_push]
    exact Nat.lt_succ_of_lt h1
  · intro b hb
    have h1 := Heap.lt_size hgd
    show b < ((s1.heap.push _).push _).objs.size
    rw [Heap.size_push]
    rcases List.mem_cons.mp hb with z | z
    · rw [z]
      exact Nat.lt_succ_self _
    · rw [List.mem_singleton.mp z, Heap.size_push]
      exact Nat.lt_succ_of_lt (Nat.lt_succ_of_lt h1)
  · rw [presum_sum ns (by rw [← hl, ← List.length_map (f := V.int), ← hn, List.length_map])]
    refine ⟨.int ns.sum, H1, I2.kept (t' := tk) fun b ob e => hk b ob (fun z => ?_) (Heap.get?_push_of_some _ e), ⟨t', rfl⟩, q⟩
    rw [List.mem_singleton.mp z] at e
    exact absurd (Heap.lt_size e) (Nat.lt_irrefl _)
end
section
variable {m : Type → Type} [Mon m] {G : Gs} {X : Cx} {Γ Δ : Ga} {α β γ κ S L R : Type} {τ : Ty α} {υ : Ty β} {φ : Ty R} {a b e : Expr} {es : List Expr} {pos : Pos} {st : Stmt} {ss rest : List Stmt} {g : S → Ga} {gl : L → Ga}
theorem pairedK_ints {F : Hp} : ∀ {kvs : List (Key × V)} {xs : List (Int × Int)}, Paired (PK TInt F) kvs xs → kvs.map (·.2) = (xs.map (·.2)).map V.int
  | _, _, .nil => rfl
  | _, _, .cons h t => by
    rw [List.map_cons, List.map_cons, List.map_cons, pairedK_ints t]
    exact congrArg (· :: _) h.2
theorem pairedK_keys {F : Hp} : ∀ {kvs : List (Key × V)} {xs : List (Int × α)}, Paired (PK τ F) kvs xs → kvs.map (·.1) = (xs.map (·.1)).map Sum.inl
  | _, _, .nil => rfl
  | _, _, .cons h t => by
    rw [List.map_cons, List.map_cons, List.map_cons, pairedK_keys t]
    exact congrArg (· :: _) h.1
/-- sum(d.values()) -/
theorem xe_sumV {p0 apos cpos : Pos} {c : m (List (Int × Int))} (hc : X.calm = true) (hms : X.mg "sum" = none) (h : XE G X e Γ (TDK TInt) c) (hgs : Gl X "sum" := by show _ = _; kernel_rfl) (hbase : attributeBase e "values" X.env (eval e X.env) = eval e X.env := by kernel_rfl) (hline : (apos.endLine == cpos.line) = true := by kernel_rfl)
    (hs1 : starEach [.Call (.Attribute e "values" apos) [] [] cpos] X.env = (false, eval (.Call (.Attribute e "values" apos) [] [] cpos) X.env) :: starEach [] X.env := by kernel_rfl) (hp1 : (backTo pos (starEach [] X.env)).any (·.1) = false := by kernel_rfl) :
    XE G X (.Call (.Name "sum" p0) [.Call (.Attribute e "values" apos) [] [] cpos] [] pos) Γ TInt (bnd c fun xs => ret (xs.map (·.2)).sum) := by
  intro H0 F H σ cf E Qd hr Q q
  refine (pe_sumV hc pe_sem hms hgs hbase hline hs1 hp1).sem ?_
  refine h H0 F H σ cf E _ (run_bnd hr) _ fun xs v F1 H1 d1 k1 cf1 r1 => ?_
  obtain ⟨p, ob, o, ev, hF, kvs, eo, rr⟩ := r1
  subst ev eo
  refine ⟨p, ob, kvs, xs.map (·.2), rfl, cf1.sub _ _ hF, pairedK_ints rr, ?_⟩
  exact q _ (.int ((xs.map fun p : Int × Int => p.2).sum)) F1 H1 (run_ret d1) k1 cf1 rfl
/-- sorted(d), few int keys -/
def sortD (xs : List (Int × α)) : Option (List Int) := if xs.length < 64 then some (sortI (xs.map (·.1))) else none
theorem rc_sortedD : RC G (fun xs H Q => ∃ (a : Addr) (kvs : List (Key × V)) (ks : List Int), xs = [.ref a] ∧ Rd H a (.dK kvs) ∧ kvs.map (·.1) = ks.map Sum.inl ∧ ks.length < 64 ∧
    ∀ (ys : List Int) (p : Addr), ys.Perm ks → ys.Pairwise (· ≤ ·) → H p = none → Q (.ref p) (upd H p (.lst (ys.map V.int)))) (a1 (TDK τ)) (TLst TInt) (fun x => (opt (sortD x.1) : m (List Int))) := rc_newO fun F H vs x z cf rx ez => by
  obtain ⟨v, e, r⟩ := a1_rel rx
  obtain ⟨p, ob, o, ev, hF, kvs, eo, rr⟩ := r
  subst eo
  unfold sortD at ez
  split at ez
  · rename_i hl
    cases ez
    refine ⟨.lst ((sortI (x.1.map (·.1))).map V.int), fun q F' _ _ hF' => ⟨q, _, rfl, hF', _, rfl, ints_to _⟩, fun Q q => ⟨p, kvs, x.1.map (·.1), by rw [e, ev], .inr ⟨ob, cf.sub _ _ hF⟩, pairedK_keys rr, by rw [List.length_map]; exact hl, fun ys a hp hs hn => ?_⟩⟩
    have e1 : ys = sortI (x.1.map (·.1)) := sorted_one (hp.trans (sortI_perm _).symm) hs (sortI_sorted _)
    subst e1
    exact q a hn
  · cases ez
/-- an own dict -/
theorem xo_sortD {p0 : Pos} {c : m (List (Int × α))} (hc : X.calm = true) (hm : X.mg "sorted" = none) (h : XO G X a Γ (ODK τ) c) (hg : Gl X "sorted" := by show _ = _; kernel_rfl) (he : starEach [a] X.env = (false, eval a X.env) :: starEach [] X.env := by kernel_rfl) (hpl : (backTo pos (starEach [] X.env)).any (·.1) = false := by kernel_rfl) :
    XE G X (.Call (.Name "sorted" p0) [a] [] pos) Γ (TLst TInt) (bnd c fun xs => opt (sortD xs)) := by
  intro H0 F H σ cf E Qd hr Q q
  refine (pe_callB (call_sortedDI hc) hg hm PyProof.Rows.boot_sorted (pa_cons pe_sem pa_nil he) (by decide) (by decide) he hpl).sem ?_
  refine h H0 F H σ cf E _ (run_bnd hr) _ fun xs p o F1 H1 d1 k1 cf1 r1 st => ?_
  obtain ⟨z, ez, d2⟩ := run_opt d1
  obtain ⟨kvs, eo, rr⟩ := r1
  subst eo
  unfold sortD at ez
  split at ez
  · rename_i hl
    cases ez
    refine ⟨p, kvs, xs.map (·.1), rfl, st F1 H1 Step.refl cf1, pairedK_keys rr, by rw [List.length_map]; exact hl, fun ys l hp hs hn => ?_⟩
    have e1 : ys = sortI (xs.map (·.1)) := sorted_one (hp.trans (sortI_perm _).symm) hs (sortI_sorted _)
    subst e1
    obtain ⟨cf2, k2⟩ := cf_new (o := .lst ((sortI (xs.map (·.1))).map V.int)) cf1 hn
    exact q _ (.ref l) _ _ d2 (k1.trans k2) cf2 ⟨l, _, rfl, upd_same, _, rfl, ints_to _⟩
  · cases ez
def rmv (H : Hp) (D : Addr) : Hp := fun a => if a = D then none else H a
theorem rmv_same {H : Hp} {D : Addr} : rmv H D D = none := if_pos rfl
theorem rmv_ne {H : Hp} {D c : Addr} (h : c ≠ D) : rmv H D c = H c := if_neg h
theorem upd_rmv {H : Hp} {D : Addr} {o : HO} : upd (rmv H D) D o = upd H D o := by
  funext c
  by_cases h : c = D
  · subst h
    rw [upd_same, upd_same]
  · rw [upd_ne h, upd_ne h, rmv_ne h]
theorem cf_rmv {F H : Hp} {D : Addr} {o : HO} (cf : Cf G F H) (hD : H D = some o) (nx : ∀ φ, o ≠ .ext φ) (hF : F D = none) (nm : ¬ G.M D) : Cf G F (rmv H D) := by
  refine ⟨fun c u e => ?_, fun c xs e => ?_, G.st cf.j fun c u e hc => ?_, cf.m⟩
  · rw [rmv_ne (fun z => by rw [z, hF] at e; cases e)]
    exact cf.sub c u e
  · by_cases z : c = D
    · rw [z, rmv_same] at e
      cases e
    · rw [rmv_ne z] at e
      exact cf.tup c xs e
  · refine (rmv_ne fun z => ?_).trans e
    rw [z] at hc e
    rcases hc with k | ⟨φ, k⟩
    · exact nm k
    · rw [hD] at e
      cases e
      exact nx φ k
theorem st_rmv {F H F' H' : Hp} {D : Addr} (k : Step G F H F' H') (h : H D = none) : Step G F H F' (rmv H' D) := by
  have ne : ∀ {c u}, H c = some u → c ≠ D := fun e z => by rw [z, h] at e; cases e
  exact ⟨k.ex, fun c u e n => (rmv_ne (ne e)).trans (k.keep c u e n), fun c u e => let ⟨u', e'⟩ := k.pers c u e; ⟨u', (rmv_ne (ne e)).trans e'⟩, k.fr⟩
/-- {(i, ..): e} -/
theorem xn_dict1 {kt : KTy κ} {ck : m κ} {c : m α} (hu : X.A.units + 64 < cLine) (hk : XE G X a Γ kt.τ ck) (h : XE G X b Γ τ c)
    (hsh : (evalEachOpt [some a] X.env).zip ((evalEach [b] X.env).map fun z => do let x ← z; standAt pos; pure x) = [(some (eval a X.env), do let x ← eval b X.env; standAt pos; pure x)] := by kernel_rfl) :
    XN G X (.Dict [some a] [b] pos) Γ (ODT kt τ) (bnd ck fun k => bnd c fun x => ret [(k, x)]) := by
  intro H0 F H σ cf E Qd hr Q q
  refine (pe_dict1 hu pe_sem pe_sem hsh).sem fun D hD => ?_
  obtain ⟨cf0, k0⟩ := cf_own (o := .dT []) cf hD (fun xs z => by cases z)
  refine hk H0 F _ σ cf0 (E.step k0) _ (run_bnd hr) _ fun k v F1 H1 d1 k1 cf1 r1 => ?_
  refine h H0 F1 H1 σ cf1 ((E.step k0).step k1) _ (run_bnd d1) _ fun x u F2 H2 d2 k2 cf2 r2 => ?_
  obtain ⟨p, ev, hp⟩ := kt.ok r1
  have nm : ¬ G.M D := cf.nm hD
  have kk := (k0.trans k1).trans k2
  have hD2 : H2 D = some (.dT []) := (k1.trans k2).keep D _ upd_same nm
  have hF2 : F2 D = none := ((k1.trans k2).fr D _ upd_same nm (fun φ z => by cases z)).trans (cf.fresh hD)
  refine ⟨kt.enc k, p, ev, hD2, cf2.sub _ _ (k2.ex _ _ hp), ?_⟩
  rw [← upd_rmv]
  exact q [(k, x)] D (.dT [(kt.enc k, u)]) F2 (rmv H2 D) (run_ret d2) (st_rmv kk hD) (cf_rmv cf2 hD2 (fun φ z => by cases z) hF2 nm) ⟨[(kt.enc k, u)], rfl, .cons ⟨rfl, r2⟩ .nil⟩ rmv_same (fun ys z => by cases z) fun ψ z => by cases z
/-! ### {k: v for tg in it if ..}, int keys -/
def dcF {α β : Type} (f : α → m (Option (Int × β))) : List α → List (Int × β) → m (List (Int × β))
  | [], acc => ret acc
  | x :: xs, acc => bnd (f x) fun o => dcF f xs (match o with
    | none => acc
    | some p => dput acc p.1 p.2)
def dcC {α β : Type} (f : α → m (Option (Int × β))) (xs : List α) : m (List (Int × β)) := if xs.length < 1000000 then dcF f xs [] else opt none
theorem putK_len {κ' : Type} [DecidableEq κ'] (kvs : List (κ' × V)) (k : κ') (v : V) : (putK kvs k v).length ≤ kvs.length + 1 := by
  have := length_putK kvs k v
  omega
theorem dc_x {scope : Scope} {own : List (Str × Nat)} {tg it kx vx : Expr} {js : List Nat} {f : α → Ga → Ga} {ci : m (List α)} {ck : α → m Int} {cv : α → m β} (hN : X.N.Nodup) (ok : BlkOk X.N X.env.scope scope own) (hi : XI G X tg it Γ τ ci)
    (hg : Blk X scope fun Y => XG G Y tg τ f js) (hj : ∀ i ∈ js, i ∈ own.map (·.2)) (hk : ∀ x, Blk X scope fun Y => XE G Y kx (f x (wipeG Γ (own.map (·.2)))) TInt (ck x)) (hv : ∀ x, Blk X scope fun Y => XE G Y vx (f x (wipeG Γ (own.map (·.2)))) υ (cv x)) (hc : X.calm = true := by kernel_rfl) (hs : ∀ x, foldedSetIterable it X.env x = pure x := by intro _; kernel_rfl) :
    XN G X (.DictComp kx vx [⟨tg, it, [], 0⟩] scope pos) Γ (ODK υ) (bnd ci fun xs => dcC (fun x => bnd (ck x) fun k => bnd (cv x) fun y => ret (some (k, y))) xs) := by
  intro H0 F H σ cf E Qd hr Q q
  refine (pe_dc hc hN pi_sem ok (fun s H C cl fp => pg_all s H C cl fp) (fun _ _ _ _ _ => pts_nil) (fun s H C cl fp => pe_all s H C cl fp) (fun s H C cl fp => pe_all s H C cl fp) hs).sem ?_
  refine hi H0 F H σ cf E _ (run_bnd hr) _ fun xs J F1 H1 d1 k1 cf1 tw D hD => ?_
  have hF1 : F1 D = none := cf1.fresh hD
  have nm : ¬ G.M D := cf1.nm hD
  by_cases hlen : xs.length < 1000000
  rotate_left
  · have d1 : run (dcC (m := m) (fun x => bnd (ck x) fun k => bnd (cv x) fun y => ret (some (k, y))) xs) Qd := d1
    unfold dcC at d1
    rw [if_neg hlen] at d1
    obtain ⟨_, e, _⟩ := run_opt d1
    cases e
  have d2 : run (dcF (m := m) (fun x => bnd (ck x) fun k => bnd (cv x) fun y => ret (some (k, y))) xs []) Qd := by
    have d1 : run (dcC (m := m) (fun x => bnd (ck x) fun k => bnd (cv x) fun y => ret (some (k, y))) xs) Qd := d1
    unfold dcC at d1
    rw [if_pos hlen] at d1
    exact d1
  refine ⟨fun i mm H' => ∃ acc accV F', mm = xs.length - i ∧ i ≤ xs.length ∧ run (dcF (m := m) (fun x => bnd (ck x) fun k => bnd (cv x) fun y => ret (some (k, y))) (xs.drop i) acc) Qd ∧ Cf G F' H' ∧ Step G F1 H1 F' H' ∧ H' D = some (.dK accV) ∧ F' D = none ∧ Paired (PK υ F') accV acc ∧ accV.length ≤ i,
    ⟨xs.length, [], [], F1, rfl, Nat.zero_le _, d2, (cf_own cf1 hD fun xs z => by cases z).1, (cf_own cf1 hD fun xs z => by cases z).2, upd_same, hF1, .nil, Nat.le_refl _⟩, ?_⟩
  rintro i mm H2 ⟨acc, accV, F2, rfl, hi, dr, cf2, k2, hD2, hF2, pr, hla⟩
  obtain ⟨hstop, hgo⟩ := tw F2 H2 k2.ex cf2
  by_cases hlt : i < xs.length
  · have hx : xs[i]? = some xs[i] := List.getElem?_eq_getElem hlt
    obtain ⟨go, yl⟩ := hgo i _ hx
    rw [drop_cons hx] at dr
    have dr := run_bnd (run_bnd (m := m) (a := (bnd (ck xs[i]) fun k => bnd (cv xs[i]) fun y => ret (some (k, y)) : m (Option (Int × β)))) dr)
    refine .inr ⟨go, fun H' => ∃ acc accV F', run (dcF (m := m) (fun x => bnd (ck x) fun k => bnd (cv x) fun y => ret (some (k, y))) (xs.drop (i + 1)) acc) Qd ∧ Cf G F' H' ∧ Step G F1 H1 F' H' ∧ H' D = some (.dK accV) ∧ F' D = none ∧ Paired (PK υ F') accV acc ∧ accV.length ≤ i + 1,
      fun H' ⟨acc', accV', F', a1, a2, a3, a4, a5, a6, a7⟩ => ⟨xs.length - (i + 1), by omega, acc', accV', F', rfl, hlt, a1, a2, a3, a4, a5, a6, a7⟩, fun v H3 y => ?_⟩
    obtain ⟨F3, k3, cf3, r3⟩ := yl v H3 y
    have E3 : En G H0 F3 H3 (L2.wipe σ (own.map (·.2))) (wipeG Γ (own.map (·.2))) := ((((E.step k1).wipe _).step k2).step k3)
    intro s H' C cl fp
    refine hg s H' C cl fp H0 F3 H3 _ _ v _ cf3 E3 r3 _ fun σ' E' o => ⟨wipe_out o hj, ?_⟩
    show allE X scope kx σ' H3 _
    intro s H' C cl fp
    refine hk _ s H' C cl fp H0 F3 H3 σ' cf3 E' _ dr _ fun k u F4 H4 d4 k4 cf4 r4 => ?_
    intro s H' C cl fp
    refine hv _ s H' C cl fp H0 F4 H4 σ' cf4 (E'.step k4) _ (run_bnd d4) _ fun z u' F5 H5 d5 k5 cf5 r5 => ?_
    have kk := (k3.trans k4).trans k5
    have d6 := run_ret (m := m) (x := some (k, z)) d5
    have hD5 : H5 D = some (.dK accV) := kk.keep D _ hD2 nm
    have hF5 : F5 D = none := (kk.fr D _ hD2 nm (fun φ z => by cases z)).trans hF2
    refine ⟨accV, .inl k, r4, hD5, Nat.lt_of_le_of_lt hla (small_line (Nat.lt_of_lt_of_le hlt (Nat.le_of_lt hlen))), dput acc k z, putK accV (.inl k) u', F5, d6, cf_mut cf5 hD5 hF5 nm (fun ψ z => by cases z) (fun ys z => by cases z), st_mut (k2.trans kk) hD, upd_same, hF5, ?_,
      Nat.le_trans (putK_len _ _ _) (Nat.succ_le_succ hla)⟩
    exact dput_rel (e := Sum.inl) (R := υ.rel F5) (fun h => Sum.inl.inj h) (pmonoG (fun _ _ r => ⟨r.1, υ.mono kk.ex r.2⟩) pr) r5
  · have ei : i = xs.length := by omega
    subst ei
    rw [List.drop_length] at dr
    have d3 : Qd acc := run_ret (m := m) (x := acc) dr
    refine .inl ⟨hstop, ?_⟩
    rw [show H2 = upd (rmv H2 D) D (.dK accV) from by
      rw [upd_rmv]
      funext c
      by_cases hc : c = D
      · rw [hc, upd_same, hD2]
      · rw [upd_ne hc]]
    exact q acc D (.dK accV) F2 (rmv H2 D) d3 (k1.trans (st_rmv k2 hD)) (cf_rmv cf2 hD2 (fun φ z => by cases z) hF2 nm) ⟨accV, rfl, pr⟩ rmv_same (fun ys z => by cases z) fun ψ z => by cases z
end
end Wc
/-! Core L: objects, isinstance, zip of tuples, dicts told unlike. -/
namespace Wc
open PySem PySem.Spec PyProof.Rows L2
open Mon (ret bnd opt run run_ret run_bnd run_opt)
/-! ### fields -/
structure FL (ρ : Type) where
  rel : Hp → List (Str × V) → ρ → Prop
  mono : ∀ {F F' : Hp} {fs : List (Str × V)} {x : ρ}, Same F F' → rel F fs x → rel F' fs x
  names : List Str
  hn : ∀ {F : Hp} {fs : List (Str × V)} {x : ρ}, rel F fs x → fs.map (·.1) = names
def flNil : FL Unit := ⟨fun _ fs _ => fs = [], fun _ h => h, [], fun h => by rw [h]; rfl⟩
def flSnoc {ρ α : Type} (r : FL ρ) (f : Str) (τ : Ty α) : FL (ρ × α) := ⟨fun F fs x => ∃ fs' v, fs = fs' ++ [(f, v)] ∧ r.rel F fs' x.1 ∧ τ.rel F v x.2,
  fun e ⟨fs', v, h1, h2, h3⟩ => ⟨fs', v, h1, r.mono e h2, τ.mono e h3⟩, r.names ++ [f], fun ⟨fs', v, h1, h2, h3⟩ => by rw [h1, List.map_append, r.hn h2]; rfl⟩
def OIns {ρ : Type} (C : Addr) (r : FL ρ) : OTy ρ := ⟨fun F o x => ∃ dx fs, o = .ins C dx fs ∧ r.rel F fs x, fun e ⟨dx, fs, h1, h2⟩ => ⟨dx, fs, h1, r.mono e h2⟩⟩
/-- .. the object at x0 -/
def OInsP {ρ : Type} (C x0 : Addr) (r : FL ρ) : OTy ρ := ⟨fun F o x => ∃ dx fs, o = .ins C dx fs ∧ F dx = some (.own x0) ∧ r.rel F fs x, fun e ⟨dx, fs, h1, h2, h3⟩ => ⟨dx, fs, h1, e _ _ h2, r.mono e h3⟩⟩
abbrev TIns {ρ : Type} (C : Addr) (r : FL ρ) : Ty ρ := (OIns C r).at
def Has {ρ α : Type} (r : FL ρ) (f : Str) (τ : Ty α) (get : ρ → α) : Prop := ∀ (F : Hp) (fs : List (Str × V)) (x : ρ), r.rel F fs x → ∃ v, fs.lookup f = some v ∧ τ.rel F v (get x)
theorem lookup_app {f : Str} {v : V} {fs : List (Str × V)} : ∀ {gs : List (Str × V)}, f ∉ gs.map (·.1) → (gs ++ (f, v) :: fs).lookup f = some v
  | [], _ => by simp [List.lookup]
  | (g, u) :: gs, h => by
    rw [List.map_cons, List.mem_cons, not_or] at h
    rw [List.cons_append, List.lookup_cons, beq_false_of_ne h.1]
    exact lookup_app h.2
theorem lookup_left {f : Str} {v : V} {fs : List (Str × V)} : ∀ {gs : List (Str × V)}, gs.lookup f = some v → (gs ++ fs).lookup f = some v
  | [], h => by simp at h
  | (g, u) :: gs, h => by
    rw [List.cons_append, List.lookup_cons] at *
    split at h
    · exact h
    · exact lookup_left h
theorem has_last {ρ α : Type} {r : FL ρ} {f : Str} {τ : Ty α} (h : f ∉ r.names) : Has (flSnoc r f τ) f τ (·.2) := fun F fs x ⟨fs', v, e, h1, h2⟩ => ⟨v, by
  rw [e]
  exact lookup_app (by rw [r.hn h1]; exact h), h2⟩
theorem has_prev {ρ α β : Type} {r : FL ρ} {f g : Str} {τ : Ty α} {υ : Ty β} {get : ρ → β} (h : Has r g υ get) : Has (flSnoc r f τ) g υ (fun x => get x.1) := fun F fs x ⟨fs', v, e, h1, h2⟩ => by
  obtain ⟨u, e1, r1⟩ := h F fs' x.1 h1
  exact ⟨u, by rw [e]; exact lookup_left e1, r1⟩
theorem putF_new {f : Str} {v : V} : ∀ {fs : List (Str × V)}, f ∉ fs.map (·.1) → putF f v fs = fs ++ [(f, v)]
  | [], _ => rfl
  | (g, u) :: fs, h => by
    rw [List.map_cons, List.mem_cons, not_or] at h
    unfold putF
    rw [if_neg (fun e => h.1 e.symm), putF_new h.2]
    rfl
section
variable {m : Type → Type} [Mon m] {G : Gs} {X : Cx} {Γ Δ : Ga} {α α0 β γ κ ρ S L R : Type} {τ : Ty α} {υ : Ty β} {φ : Ty R} {a b e : Expr} {es : List Expr} {pos : Pos} {st : Stmt} {ss rest : List Stmt} {g : S → Ga} {gl : L → Ga} {C : Addr} {r : FL ρ} {f : Str}
/-- e.f -/
theorem xe_fld {get : ρ → α} {c : m ρ} (hcl : Cls X.K C) (hna : NoAttr X.K C f) (hh : Has r f τ get) (h : XE G X e Γ (TIns C r) c) (hb : attributeBase e f X.env (eval e X.env) = eval e X.env := by kernel_rfl) : XE G X (.Attribute e f pos) Γ τ (bnd c fun x => ret (get x)) := by
  intro H0 F H σ cf E Qd hr Q q
  refine (pe_fld pe_sem hb).sem ?_
  refine h H0 F H σ cf E _ (run_bnd hr) _ fun x v F1 H1 d1 k1 cf1 r1 => ?_
  obtain ⟨p, o, ev, hF, dx, fs, eo, rr⟩ := r1
  subst ev eo
  obtain ⟨v, ev, rv⟩ := hh _ _ _ rr
  exact ⟨p, C, dx, fs, v, rfl, cf1.sub _ _ hF, hcl, hna, ev, q _ v F1 H1 (run_ret d1) k1 cf1 rv⟩
/-- a property whose getter is a def -/
theorem xe_prop {m' : Type} {pg gp : Addr} {fd : FuncData} {ps : List Str} {k j : Nat} {fo : ρ → Option α} {c : m ρ} (hcl : Cls X.K C) (hp : PropOf X.K C f pg gp) (FO : FnOk X.prog X.w X.K X.mg X.base C8.CX0 k gp fd ps (spF G (a1 (TIns C r)) τ fun x => fo x.1)) (hbn : Binds X.K fd ps [])
    (hr : Room (j + 1) X.A) (hk : k ≤ j) (h : XE G X e Γ (TIns C r) c) (hb : attributeBase e f X.env (eval e X.env) = eval e X.env := by kernel_rfl) : XE G X (.Attribute e f pos) Γ τ (bnd c fun x => opt (fo x)) := by
  intro H0 F H σ cf E Qd hrun Q q
  refine (pe_prop (E := C8.E0) pe_sem hcl hp FO (hr.mono (Nat.succ_le_succ hk)) hbn .nil C8.pass0 hb).sem ?_
  refine h H0 F H σ cf E _ (run_bnd hrun) _ fun x v F1 H1 d1 k1 cf1 r1 => ?_
  obtain ⟨p, o, ev, hF, dx, fs, eo, rr⟩ := id r1
  subst ev eo
  exact ⟨p, dx, fs, rfl, cf1.sub _ _ hF, F1, (x, ()), cf1, ⟨.ref p, [], rfl, r1, rfl⟩, Qd, run_opt (m := m) d1, fun y v F2 H2 hy k2 cf2 rr => q y v F2 H2 hy (k1.trans k2) cf2 rr⟩
/-- self.f = e, a new field -/
theorem xs_fldN {i : Nat} {nm : Str} {np tpos : Pos} {x : ρ} {x0 : Addr} {c : m α} (hcl : Cls X.K C) (hna : NoAttr X.K C f) (hnew : f ∉ r.names) (hlen : r.names.length < 1000) (hΓ : Γ[i]? = some (some (.ow (OInsP C x0 r) x))) (h : XE G X e Γ τ c) (hN : X.N[i]? = some nm := by rfl) (hv : Vis X.env.scope nm := by first | exact Or.inl rfl | exact Or.inr (Or.inl rfl))
    (hs : swapsWith e (some (.Attribute (.Name nm np) f tpos)) pos.line X.env = pure false := by kernel_rfl) (hd : (nm == ("__debug__" : Str)) = false := by kernel_rfl) (hcd : (nm == ("__classdict__" : Str)) = false := by kernel_rfl) :
    XS G X (.Assign [.Attribute (.Name nm np) f tpos] e pos) Γ (fun y => Γ.set i (some (.ow (OInsP C x0 (flSnoc r f τ)) (x, y)))) c := by
  intro F0 H0 F H σ D cf k E Qd hrun q
  refine (ps_fld (pe_var hN hv hd hcd) pe_sem hs).sem ?_
  obtain ⟨v, ev, p, o, e1, ho, ro, hF, h0, hm, nx⟩ := E.get hΓ
  subst e1
  refine h H0 F H σ cf E Qd hrun _ fun y u F1 H1 d1 k1 cf1 r1 => ⟨.ref p, ev, ?_⟩
  obtain ⟨dx, fs, eo, hpin, rr⟩ := ro
  subst eo
  have ho1 := k1.keep p _ ho hm
  have hF1 : F1 p = none := (k1.fr p _ ho hm (fun φ z => by cases z)).trans hF
  refine ⟨p, C, dx, fs, rfl, ho1, hcl, hna, by rw [← List.length_map (f := (·.1)), r.hn rr]; exact hlen, ?_⟩
  rw [putF_new (by rw [r.hn rr]; exact hnew)]
  have E1 := E.step k1
  have cf2 := cf_mut (o' := .ins C dx (fs ++ [(f, u)])) cf1 ho1 hF1 hm (fun ψ z => by cases z) (fun ys z => by cases z)
  refine q y F1 _ σ d1 ⟨cf2, k1.ex, st_mut (k.trans k1) h0⟩ ⟨?_, ?_, ?_⟩
  · rw [List.length_set]
    exact E1.len
  · intro j s hj
    by_cases hij : i = j
    · subst hij
      have hl : i < Γ.length := (List.getElem?_eq_some_iff.mp hΓ).1
      rw [List.getElem?_set_self hl] at hj
      cases hj
      exact ⟨.ref p, ev, p, _, rfl, upd_same, ⟨dx, _, rfl, k1.ex _ _ hpin, fs, u, rfl, r.mono k1.ex rr, r1⟩, hF1, h0, hm, fun ψ z => by cases z⟩
    · rw [List.getElem?_set_ne hij] at hj
      obtain ⟨v', ev', q'⟩ := E1.at_ j s hj
      refine ⟨v', ev', ?_⟩
      cases s with
      | sh τ' x' => exact q'
      | ow ω' x' =>
        obtain ⟨p', o', e1, h1, h2, h3, h4, h5, h6⟩ := q'
        subst e1
        have hne : p' ≠ p := fun z => by
          subst z
          exact E1.sep i j _ _ _ hij hΓ hj trivial trivial ev ev'
        exact ⟨p', o', rfl, by rw [upd_ne hne]; exact h1, h2, h3, h4, h5, h6⟩
  · intro j l s s' v' hjl h1 h2 o1 o2 e1 e2
    have low : ∀ {j : Nat} {s : Sl}, (Γ.set i (some (Sl.ow (OInsP C x0 (flSnoc r f τ)) (x, y))))[j]? = some (some s) → s.isOw → ∃ s0 : Sl, Γ[j]? = some (some s0) ∧ s0.isOw := fun {j s} hj os => by
      by_cases hij : i = j
      · subst hij
        exact ⟨_, hΓ, trivial⟩
      · rw [List.getElem?_set_ne hij] at hj
        exact ⟨s, hj, os⟩
    obtain ⟨s0, a1, a2⟩ := low h1 o1
    obtain ⟨s1, b1, b2⟩ := low h2 o2
    exact E1.sep j l s0 s1 v' hjl a1 b1 a2 b2 e1 e2
theorem semB_inv {D D' : Ends} {σ : L2.St} {H : Hp} (h : semB X ss D' σ H) (q1 : ∀ σ' H' pins s, Inv X pins σ' H' s → D'.nx σ' H' → D.nx σ' H') (q2 : ∀ σ' H', D'.ct σ' H' → D.ct σ' H') (q3 : ∀ σ' H', D'.bk σ' H' → D.bk σ' H') (q4 : ∀ v H', D'.rt v H' → D.rt v H') : semB X ss D σ H := ⟨fun pins s I => by
  refine wpAny_mono (h.run pins s I) (fun fl s' hs => ?_) fun _ _ z => z
  cases fl with
  | next =>
    obtain ⟨σ', H', I', q⟩ := hs
    exact ⟨σ', H', I', q1 σ' H' pins s' I' q⟩
  | brk =>
    obtain ⟨σ', H', I', q⟩ := hs
    exact ⟨σ', H', I', q3 σ' H' q⟩
  | cont =>
    obtain ⟨σ', H', I', q⟩ := hs
    exact ⟨σ', H', I', q2 σ' H' q⟩
  | ret u =>
    obtain ⟨v, σ', H', I', rv, q⟩ := hs
    exact ⟨v, σ', H', I', rv, q4 v H' q⟩⟩
/-- what an __init__ promises -/
def spI (G : Gs) (C : Addr) (as : ATy α) (r : FL ρ) (f : α → m ρ) : Sp := fun vs H Q _ => ∃ F1 H1 x dx a, dx ≠ x ∧ H1 x = none ∧ H1 dx = none ∧ H = upd (upd H1 dx (.own x)) x (.ins C dx []) ∧ Cf G F1 H1 ∧ (∃ us, vs = .ref x :: us ∧ as.rel F1 us a) ∧
  ∃ Qd : ρ → Prop, run (f a) Qd ∧ ∀ y F' H', Qd y → Step G F1 H1 F' H' → Cf G F' H' → (TIns C r).rel F' (.ref x) y → Q .non H'
def nxK {ρ : Type} : Fl ρ Empty Unit → m ρ
  | .nx y => ret y
  | .ct _ => opt none
  | .bk _ => opt none
  | .rt _ => opt none
theorem mak_of {as : ATy α} {x qual : Str} {st : Stmt} {fi : Addr} {fd : FuncData} {N ps : List Str} {k : Nat} {P : Program} {w : World} {K : PySem.W.Frag} {mg : Str → Option Value} {base : Heap} {gl : Empty → Ga} {g : Addr → ρ → Ga} {mir : α → m (Fl ρ Empty Unit)} (mk : Mk K C fi) (hm : mg x = some (.ref C)) (FD : C8.Fun K "__init__" qual st fi fd)
    (b : Binds K fd ps []) (sc : FnScope N ps (C8.fnScope st)) (hn : as.n + 1 = ps.length) (hg : ∀ x0 y, (g x0 y)[0]? = some (some (.ow (OInsP C x0 r) y)))
    (hb : ∀ (a : α) (x0 : Addr) (cdv : Value) (A : Around) (outer : List Env) (s : Shared) (H : Hp) (E : XK), Room k (A.deeper (envOfC qual (C8.fnScope st) s.heap.objs.size fi cdv)) →
      XB G (cxOf C8.CX0 P w K mg base N qual (C8.fnScope st) fi cdv A outer s H E).nox (C8.fnBody st) (some (.ow (OInsP C x0 flNil) ()) :: (as.ga a ++ List.replicate (N.length - (as.n + 1)) none)) (g x0) gl TNon (mir a)) :
    C8.Mak P w K mg base (k + 1) x C (spI G C as r fun a => bnd (mir a) nxK) [] := by
  refine C8.mak0 mk hm FD b .nil sc (fun vs H Q E h => ?_) fun cdv A outer s H vs Q E hr h => ?_
  · obtain ⟨F1, H1, x, dx, a, _, _, _, _, _, ⟨us, e, r⟩, _⟩ := h
    rw [e, List.length_cons, as.len r, hn]
  · obtain ⟨F1, H1, x, dx, a, hne, hx, hdx, eH, cf, ⟨us, e, ra⟩, Qd, hrun, q⟩ := h
    subst eH e
    obtain ⟨cf2, k2⟩ := cf_new (o := .own x) cf hdx
    have hx2 : upd H1 dx (.own x) x = none := by rw [upd_ne (Ne.symm hne)]; exact hx
    obtain ⟨cf3, k3⟩ := cf_own (o := .ins C dx []) cf2 hx2 (fun xs z => by cases z)
    have kk := k2.trans k3
    refine ⟨_, pss_sem, ?_⟩
    have hl := as.len ra
    have hgl := as.gal a
    have E0 := en_start (G := G) (H0 := H1) (F := F1) (H := H1) (N := N.tail) ra
    have hNl : 0 < N.length := by
      have := congrArg List.length sc.pre
      rw [List.length_take] at this
      omega
    have est : L2.start N (V.ref x :: us) = some (V.ref x) :: L2.start N.tail us := by
      unfold L2.start
      rw [List.map_cons, List.cons_append, List.length_cons, List.length_tail]
      congr 3
      omega
    have eg : (as.ga a ++ List.replicate (N.length - (as.n + 1)) none) = (as.ga a ++ List.replicate (N.tail.length - as.n) none) := by
      rw [List.length_tail]
      congr 2
      omega
    have noO : ∀ (i : Nat) (s : Sl), (as.ga a ++ List.replicate (N.tail.length - as.n) none)[i]? = some (some s) → ¬ s.isOw := fun i s e => by
      by_cases hi : i < (as.ga a).length
      · rw [List.getElem?_append_left hi] at e
        exact (as.gok ra i s e).1
      · rw [List.getElem?_append_right (by omega), List.getElem?_replicate] at e
        split at e <;> cases e
    have E1 : En G H1 (upd F1 dx (.own x)) (upd (upd H1 dx (.own x)) x (.ins C dx [])) (L2.start N (V.ref x :: us)) (some (.ow (OInsP C x flNil) ()) :: (as.ga a ++ List.replicate (N.length - (as.n + 1)) none)) := by
      rw [est, eg]
      have E0 := E0.step kk
      refine ⟨by rw [List.length_cons, List.length_cons, E0.len], fun i s e => ?_, fun i j s s' v hij h1 h2 o1 o2 => ?_⟩
      · cases i with
        | zero =>
          have e1 : some (Sl.ow (OInsP C x flNil) ()) = some s := Option.some.inj e
          cases e1
          exact ⟨.ref x, rfl, x, _, rfl, upd_same, ⟨dx, [], rfl, upd_same, rfl⟩, by rw [upd_ne (Ne.symm hne)]; exact cf.fresh hx, hx, cf.nm hx, fun ψ z => by cases z⟩
        | succ i =>
          rw [List.getElem?_cons_succ] at e ⊢
          exact E0.at_ i s e
      · cases i with
        | zero =>
          cases j with
          | zero => exact absurd rfl hij
          | succ j =>
            rw [List.getElem?_cons_succ] at h2
            exact absurd o2 (noO j s' h2)
        | succ i =>
          rw [List.getElem?_cons_succ] at h1
          exact absurd o1 (noO i s h1)
    refine semB_inv (D' := { nx := fun σ' H' => ∃ y F', Qd y ∧ Cf G F' H' ∧ Step G F1 H1 F' H' ∧ En G H1 F' H' σ' (g x y), ct := fun _ _ => False, bk := fun _ _ => False, rt := fun _ _ => False }) ?_ (fun σ' H' pins s' I' h => ?_) (fun _ _ z => z.elim) (fun _ _ z => z.elim) (fun _ _ z => z.elim)
    · refine hb a x cdv A outer s _ E hr F1 H1 _ _ _ _ cf3 kk E1 _ (run_bnd hrun) (fun y F' H' σ' h n E' => ⟨y, F', run_ret (m := m) h, n.cf, n.st, E'⟩) (fun l => l.elim) (fun l => l.elim) fun z v F' H' h n rr => ?_
      obtain ⟨y, e, _⟩ := run_opt (m := m) h
      cases e
    · obtain ⟨y, F', hy, cf', st', E'⟩ := h
      obtain ⟨v, ev, p, o, e1, ho, ⟨dx', fs, eo, hpin, rr⟩, hF, h0, hmm, nx⟩ := E'.get (hg x y)
      subst e1 eo
      obtain ⟨_, _, _, _, _, hown⟩ := ins_get I'.hok ho
      have hd2 := cf'.sub _ _ hpin
      rw [hown] at hd2
      cases hd2
      obtain ⟨cf5, sm⟩ := cf_frz cf' ho hF hmm
      exact q y _ H' hy (st_frz st' hF hx) cf5 ⟨_, _, rfl, upd_same, dx', fs, rfl, r.mono sm rr⟩
end
end Wc
/-! Core M: objects made, isinstance, zip of tuples, dicts told unlike, stores of three. -/
namespace Wc
open PySem PySem.Spec PyProof.Rows L2
open Mon (ret bnd opt run run_ret run_bnd run_opt)
section
variable {m : Type → Type} [Mon m] {G : Gs} {X : Cx} {Γ Δ : Ga} {α α0 β γ κ ρ S L R : Type} {τ : Ty α} {υ : Ty β} {φ : Ty R} {a b e : Expr} {es : List Expr} {pos : Pos} {st : Stmt} {ss rest : List Stmt} {g : S → Ga} {gl : L → Ga} {C : Addr} {r : FL ρ} {f : Str}
/-- C(..) -/
theorem xe_make {as : ATy α} {fo : α → Option ρ} {ca : m α} {k j : Nat} {x : Str} {p : Pos} (c : C8.Mak X.prog X.w X.K X.mg X.base k x C (spI G C as r fo) []) (hr : Room j X.A) (hk : k + 1 ≤ j) (ha : XA G X (e :: es) Γ as ca)
    (hg : Gl X x := by show _ = _; kernel_rfl) (hdb : (x == ("__debug__" : Str)) = false := by kernel_rfl) (he : starEach (e :: es) X.env = (false, eval e X.env) :: starEach es X.env := by kernel_rfl) (hpl : (backTo pos (starEach es X.env)).any (·.1) = false := by kernel_rfl) :
    XE G X (.Call (.Name x p) (e :: es) [] pos) Γ (TIns C r) (bnd ca fun a => opt (fo a)) := by
  intro H0 F H σ cf E Qd hrun Q q
  refine (C8.pe_mk c hr hk hg pa_sem hdb he hpl).sem ?_
  refine ha H0 F H σ cf E _ (run_bnd hrun) _ fun a vs F1 H1 d1 k1 cf1 r1 => ?_
  intro x dx hx hdx hne
  rw [List.append_nil]
  exact ⟨F1, H1, x, dx, a, hne, hx, hdx, rfl, cf1, ⟨vs, rfl, r1⟩, Qd, run_opt (m := m) d1, fun y F' H' hy k2 cf2 rr => ⟨rfl, q y (.ref x) F' H' hy (k1.trans k2) cf2 rr⟩⟩
/-! ### isinstance -/
theorem xe_isi {c : m α} {T t : String} {k : Bool} {nm : Str} {p1 p2 : Pos} (hm : X.mg "isinstance" = none) (hmT : X.mg nm = none) (hvT : bootBuiltins nm = some (.type T)) (hty : ∀ (F H : Hp) (v : V) (x : α), Cf G F H → τ.rel F v x → TyX X.K H v (.type t)) (hk : kitB t T = some k) (h : XE G X a Γ τ c)
    (hg : Gl X "isinstance" := by show _ = _; kernel_rfl) (hgT : Gl X nm := by show _ = _; kernel_rfl) (hn : nm ≠ "__name__" := by decide) (hdb : (nm == ("__debug__" : Str)) = false := by kernel_rfl) (hs : starEach [a, .Name nm p2] X.env = (false, eval a X.env) :: starEach [.Name nm p2] X.env := by kernel_rfl) (hs2 : starEach [.Name nm p2] X.env = (false, eval (.Name nm p2) X.env) :: starEach [] X.env := by kernel_rfl)
    (hpl : (backTo pos (starEach [.Name nm p2] X.env)).any (·.1) = false := by kernel_rfl) : XE G X (.Call (.Name "isinstance" p1) [a, .Name nm p2] [] pos) Γ TBool (bnd c fun _ => ret k) := by
  intro H0 F H σ cf E Qd hrun Q q
  refine (pe_callB call_isi hg hm (by decide +kernel) (pa_cons pe_sem (pa_cons (pe_bltn hgT hmT hvT (show RelV (.ty T) (.type T) from rfl) hn hdb) pa_nil hs2) hs) (by decide) (by decide) hs hpl).sem ?_
  refine h H0 F H σ cf E _ (run_bnd hrun) _ fun x v F1 H1 d1 k1 cf1 r1 => ?_
  exact ⟨v, .ty T, .type t, .type T, k, rfl, .ty T, hty F1 H1 v x cf1 r1, kit_ty hk, q k (.bl k) F1 H1 (run_ret d1) k1 cf1 rfl⟩
theorem xe_isi2 {c : m α} {T1 T2 : String} {n1 n2 : Str} {p1 p2 p3 p4 : Pos} {kt : Nat} (hm : X.mg "isinstance" = none) (hm1 : X.mg n1 = none) (hv1 : bootBuiltins n1 = some (.type T1)) (hm2 : X.mg n2 = none) (hv2 : bootBuiltins n2 = some (.type T2))
    (hty : ∀ (F H : Hp) (v : V) (x : α), Cf G F H → τ.rel F v x → ∃ t, TyX X.K H v (.type t) ∧ PySem.W.kitAny X.K (.type t) [.type T1, .type T2] = some true) (h : XE G X a Γ τ c)
    (hg : Gl X "isinstance" := by show _ = _; kernel_rfl) (hg1 : Gl X n1 := by show _ = _; kernel_rfl) (hg2 : Gl X n2 := by show _ = _; kernel_rfl) (hn1 : n1 ≠ "__name__" := by decide) (hn2 : n2 ≠ "__name__" := by decide) (hd1 : (n1 == ("__debug__" : Str)) = false := by kernel_rfl) (hd2 : (n2 == ("__debug__" : Str)) = false := by kernel_rfl)
    (hs : starEach [a, .Tuple [.Name n1 p2, .Name n2 p3] kt p4] X.env = (false, eval a X.env) :: starEach [.Tuple [.Name n1 p2, .Name n2 p3] kt p4] X.env := by kernel_rfl)
    (hs2 : starEach [.Tuple [.Name n1 p2, .Name n2 p3] kt p4] X.env = (false, eval (.Tuple [.Name n1 p2, .Name n2 p3] kt p4) X.env) :: starEach [] X.env := by kernel_rfl)
    (hs3 : starEach [.Name n1 p2, .Name n2 p3] X.env = (false, eval (.Name n1 p2) X.env) :: starEach [.Name n2 p3] X.env := by kernel_rfl) (hs4 : starEach [.Name n2 p3] X.env = (false, eval (.Name n2 p3) X.env) :: starEach [] X.env := by kernel_rfl)
    (hpl : (backTo pos (starEach [.Tuple [.Name n1 p2, .Name n2 p3] kt p4] X.env)).any (·.1) = false := by kernel_rfl) : XE G X (.Call (.Name "isinstance" p1) [a, .Tuple [.Name n1 p2, .Name n2 p3] kt p4] [] pos) Γ TBool (bnd c fun _ => ret true) := by
  intro H0 F H σ cf E Qd hrun Q q
  refine (pe_callB call_isiT hg hm (by decide +kernel) (pa_cons pe_sem (pa_cons (pe_tup (pa_cons (pe_bltn hg1 hm1 hv1 (show RelV (.ty T1) (.type T1) from rfl) hn1 hd1) (pa_cons (pe_bltn hg2 hm2 hv2 (show RelV (.ty T2) (.type T2) from rfl) hn2 hd2) pa_nil hs4) hs3)) pa_nil hs2) hs) (by decide) (by decide) hs hpl).sem ?_
  refine h H0 F H σ cf E _ (run_bnd hrun) _ fun x v F1 H1 d1 k1 cf1 r1 => ?_
  refine ⟨by show 2 ≤ sizeLine; decide, fun p hp => ?_⟩
  obtain ⟨cf2, k2⟩ := cf_new (o := .tup [.ty T1, .ty T2]) cf1 hp
  obtain ⟨t, ht, hk⟩ := hty _ _ v x cf2 (τ.mono k2.ex r1)
  exact ⟨v, p, _, .type t, [.type T1, .type T2], true, rfl, upd_same, .cons (.ty T1) (.cons (.ty T2) .nil), ht, hk, q true (.bl true) _ _ (run_ret d1) (k1.trans k2) cf2 rfl⟩
theorem xe_isC {c : m ρ} {nm : Str} {p1 p2 : Pos} (hm : X.mg "isinstance" = none) (hC : C8.InsC X.K C) (hmC : X.mg nm = some (.ref C)) (h : XE G X a Γ (TIns C r) c)
    (hg : Gl X "isinstance" := by show _ = _; kernel_rfl) (hgC : Gl X nm := by show _ = _; kernel_rfl) (hdb : (nm == ("__debug__" : Str)) = false := by kernel_rfl) (hs : starEach [a, .Name nm p2] X.env = (false, eval a X.env) :: starEach [.Name nm p2] X.env := by kernel_rfl) (hs2 : starEach [.Name nm p2] X.env = (false, eval (.Name nm p2) X.env) :: starEach [] X.env := by kernel_rfl)
    (hpl : (backTo pos (starEach [.Name nm p2] X.env)).any (·.1) = false := by kernel_rfl) : XE G X (.Call (.Name "isinstance" p1) [a, .Name nm p2] [] pos) Γ TBool (bnd c fun _ => ret true) := by
  intro H0 F H σ cf E Qd hrun Q q
  refine (pe_callB (C8.call_isC hC) hg hm (by decide +kernel) (pa_cons pe_sem (pa_cons (C8.pe_gc (v := .ref C) hgC ⟨_, hmC, rfl⟩ hdb) pa_nil hs2) hs) (by decide) (by decide) hs hpl).sem ?_
  refine h H0 F H σ cf E _ (run_bnd hrun) _ fun x v F1 H1 d1 k1 cf1 r1 => ?_
  obtain ⟨p, o, ev, hF, dx, fs, eo, rr⟩ := r1
  subst ev eo
  exact ⟨p, dx, fs, rfl, cf1.sub _ _ hF, q true (.bl true) F1 H1 (run_ret d1) k1 cf1 rfl⟩
theorem ty_int {K : PySem.W.Frag} : ∀ (F H : Hp) (v : V) (x : Int), Cf G F H → TInt.rel F v x → TyX K H v (.type "int") := fun F H v x _ r => by
  rw [rel_int r]
  exact .base (.int x)
theorem ty_tup {K : PySem.W.Frag} : ∀ (F H : Hp) (v : V) (x : List α), Cf G F H → (TTup τ).rel F v x → TyX K H v (.type "tuple") := fun F H v x cf r => by
  obtain ⟨p, vs, ev, hH, _, _⟩ := rel_tup (K := K) cf r
  rw [ev]
  exact .base (.tup hH)
theorem ty_t2 {K : PySem.W.Frag} : ∀ (F H : Hp) (v : V) (x : α × β), Cf G F H → (T2 τ υ).rel F v x → TyX K H v (.type "tuple") := fun F H v x cf r => by
  obtain ⟨p, o, ev, hF, v1, v2, eo, _, _⟩ := r
  rw [eo] at hF
  rw [ev]
  exact .base (.tup (cf.sub _ _ hF))
theorem ty_seq {K : PySem.W.Frag} : ∀ (F H : Hp) (v : V) (x : List α), Cf G F H → (TSeq τ).rel F v x → ∃ t, TyX K H v (.type t) ∧ PySem.W.kitAny K (.type t) [.type "list", .type "tuple"] = some true := fun F H v x cf r => by
  rcases r with r | r
  · obtain ⟨p, vs, ev, hH, _, _⟩ := rel_tup (K := K) cf r
    rw [ev]
    exact ⟨"tuple", .base (.tup hH), kitAny_cons (b := false) (kit_ty (by decide +kernel)) (fun _ => kitAny_cons (b := true) (kit_ty (by decide +kernel)) (fun z => by cases z) fun _ => rfl) (fun z => by cases z)⟩
  · obtain ⟨p, vs, ev, hH, _, _⟩ := rel_lst (K := K) cf r
    rw [ev]
    exact ⟨"list", .base (.lst hH), kitAny_cons (b := true) (kit_ty (by decide +kernel)) (fun z => by cases z) fun _ => rfl⟩
/-! ### len of a pair, of a triple -/
theorem xe_lenT2 {c : m (α × β)} {p1 : Pos} (hm : X.mg "len" = none) (h : XE G X a Γ (T2 τ υ) c) (hg : Gl X "len" := by show _ = _; kernel_rfl) (he : starEach [a] X.env = (false, eval a X.env) :: starEach [] X.env := by kernel_rfl) (hpl : (backTo pos (starEach [] X.env)).any (·.1) = false := by kernel_rfl) :
    XE G X (.Call (.Name "len" p1) [a] [] pos) Γ TInt (bnd c fun x => ret (((fun _ : α × β => 2) x : Nat) : Int)) := len_callB hm (xo_at h) (fun F o x ⟨v, w, eo, _, _⟩ => .inr ⟨[v, w], eo, rfl⟩) hg he hpl
/-! ### zip of tuples -/
theorem walk_zipT {K : PySem.W.Frag} {p q : Addr} {xs ys : List V} {n : Nat} (hn : n = min xs.length ys.length) : Walk (RZ.ItzT K p q) n (fun H => SqT K H p xs ∧ SqT K H q ys) (YPair (fun i => xs[i]?) (fun i => ys[i]?)) := by
  subst hn
  refine ⟨fun i _ hi w => ?_, fun _ w => ⟨xs, ys, w.1, w.2, ?_⟩, fun i H v H' _ w y => ?_⟩
  · have h1 : i < xs.length := Nat.lt_of_lt_of_le hi (Nat.min_le_left _ _)
    have h2 : i < ys.length := Nat.lt_of_lt_of_le hi (Nat.min_le_right _ _)
    exact ⟨xs, ys, xs[i], ys[i], w.1, w.2, List.getElem?_eq_getElem h1, List.getElem?_eq_getElem h2⟩
  · omega
  · obtain ⟨T, x, z, h1, h2, h3, h4, h5⟩ := y
    exact ⟨T, x, z, h1, h2, h3, h4 xs w.1, h5 ys w.2⟩
theorem xi_zipT {c : m (List α)} {c2 : m (List β)} {elts : List Expr} {kk : Nat} {tpos p1 : Pos} (hm : X.mg "zip" = none) (h : XE G X a Γ (TTup τ) c) (h2 : XE G X b Γ (TTup υ) c2) (hg : Gl X "zip" := by show _ = _; kernel_rfl)
    (hs : starEach [a, b] X.env = (false, eval a X.env) :: starEach [b] X.env := by kernel_rfl) (hs2 : starEach [b] X.env = (false, eval b X.env) :: starEach [] X.env := by kernel_rfl) (hpl : (backTo pos (starEach [b] X.env)).any (·.1) = false := by kernel_rfl) :
    XI G X (.Tuple elts kk tpos) (.Call (.Name "zip" p1) [a, b] [] pos) Γ (T2 τ υ) (bnd c fun xs => bnd c2 fun ys => ret (xs.zip ys)) := by
  intro H0 F H σ cf E Qd hr R q
  refine (RZ.pi_zipA hg hm (pa_cons pe_sem (pa_cons pe_sem pa_nil hs2) hs) hs hpl).sem ?_
  refine h H0 F H σ cf E _ (run_bnd hr) _ fun xs v F1 H1 d1 k1 cf1 r1 => ?_
  refine h2 H0 F1 H1 σ cf1 (E.step k1) _ (run_bnd d1) _ fun ys w F2 H2 d2 k2 cf2 r2 => ?_
  obtain ⟨p, o, ev, hF, vs, eo, rr⟩ := (TTup τ).mono k2.ex r1
  obtain ⟨p2, o2, ev2, hF2, ws, eo2, rr2⟩ := r2
  subst ev ev2 eo eo2
  refine ⟨p, p2, vs, ws, rfl, .inr ⟨.inl (.inl (cf2.sub _ _ hF)), .inl (.inl (cf2.sub _ _ hF2)), q _ _ F2 H2 (run_ret d2) (k1.trans k2) cf2 (tw_pair (walk_zipT (K := X.K) (xs := vs) (ys := ws) (n := (xs.zip ys).length) ?_) rfl
    (fun F3 H3 sm cf3 => ⟨.inl (.inl (cf3.sub _ _ (sm _ _ hF))), .inl (.inl (cf3.sub _ _ (sm _ _ hF2)))⟩) fun i x hx u u' hu hu' => ?_)⟩⟩
  · rw [List.length_zip, paired_len rr, paired_len rr2]
  · rw [List.getElem?_zip_eq_some] at hx
    obtain ⟨u1, e1, q1⟩ := paired_get rr hx.1
    obtain ⟨u2, e2, q2⟩ := paired_get rr2 hx.2
    have hu : vs[i]? = some u := hu
    have hu' : ws[i]? = some u' := hu'
    rw [hu] at e1
    rw [hu'] at e2
    cases e1
    cases e2
    exact ⟨q1, q2⟩
/-! ### dict(pairs) -/
def dictP (xs : List (Int × α)) : List (Int × α) := xs.foldl (fun d p => dput d p.1 p.2) []
def dictC (xs : List (Int × α)) : Option (List (Int × α)) := if xs.length < 1000000 then some (dictP xs) else none
theorem merge_rel {F : Hp} : ∀ {kvs : List (Key × V)} {xs : List (Int × α)} {acc : List (Key × V)} {ys : List (Int × α)}, Paired (PK τ F) kvs xs → Paired (PK τ F) acc ys → Paired (PK τ F) (mergeK acc kvs) (xs.foldl (fun d p => dput d p.1 p.2) ys)
  | _, _, _, _, .nil, h => h
  | _, _, acc, ys, .cons r t, h => by
    unfold mergeK
    rw [List.foldl_cons, List.foldl_cons, r.1]
    exact merge_rel t (dput_rel (e := Sum.inl) (R := τ.rel F) (fun h => Sum.inl.inj h) h r.2)
theorem pairs_split {F H : Hp} {K : PySem.W.Frag} (cf : Cf G F H) : ∀ {vs : List V} {xs : List (Int × α)}, Paired ((T2 TInt τ).rel F) vs xs → ∃ (ps : List Addr) (kvs : List (Key × V)), vs = ps.map V.ref ∧ Paired (fun p kv => SqT K H p [kV kv.1, kv.2]) ps kvs ∧ Paired (PK τ F) kvs xs
  | _, _, .nil => ⟨[], [], rfl, .nil, .nil⟩
  | _, _, .cons r t => by
    obtain ⟨ps, kvs, e1, e2, e3⟩ := pairs_split cf t
    obtain ⟨p, o, ev, hF, v1, v2, eo, r1, r2⟩ := r
    rw [eo, rel_int r1] at hF
    exact ⟨p :: ps, (.inl _, v2) :: kvs, by rw [ev, e1]; rfl, .cons (.inl (.inl (cf.sub _ _ hF))) e2, .cons ⟨rfl, r2⟩ e3⟩
theorem xn_dictP {p1 : Pos} {c : m (List (Int × α))} (hcalm : X.calm = true) (hm : X.mg "dict" = none) (h : XE G X a Γ (TLst (T2 TInt τ)) c) (hg : Gl X "dict" := by show _ = _; kernel_rfl) (he : starEach [a] X.env = (false, eval a X.env) :: starEach [] X.env := by kernel_rfl) (hpl : (backTo pos (starEach [] X.env)).any (·.1) = false := by kernel_rfl) :
    XN G X (.Call (.Name "dict" p1) [a] [] pos) Γ (ODK τ) (bnd c fun xs => opt (dictC xs)) := by
  intro H0 F H σ cf E Qd hr Q q
  refine (pe_callTy (call_dictP hcalm) hg hm (by decide +kernel) (pa_cons pe_sem pa_nil he) (by decide) (by decide) he hpl).sem ?_
  refine h H0 F H σ cf E _ (run_bnd hr) _ fun xs v F1 H1 d1 k1 cf1 r1 => ?_
  obtain ⟨z, ez, d2⟩ := run_opt d1
  unfold dictC at ez
  split at ez
  · cases ez
    obtain ⟨p, vs, ev, _, hs, rr⟩ := rel_lst (K := X.K) cf1 r1
    obtain ⟨ps, kvs, e1, e2, e3⟩ := pairs_split (K := X.K) cf1 rr
    exact ⟨p, ps, kvs, by rw [ev], by rw [← e1]; exact hs, e2, fun l hl => q (dictP xs) l (.dK (mergeK [] kvs)) F1 H1 d2 k1 cf1 ⟨_, rfl, merge_rel e3 .nil⟩ hl (fun ys z => by cases z) fun ψ z => by cases z⟩
  · cases ez
/-! ### d != e, where they are alike -/
def dsame [DecidableEq α] (xs ys : List (Int × α)) : Bool := decide (xs.length = ys.length) && xs.all fun p => decide (dget ys p.1 = some p.2)
def dneC [DecidableEq α] (xs ys : List (Int × α)) : Option Bool := if dsame xs ys = true then some false else none
def deqC [DecidableEq α] (xs ys : List (Int × α)) : Option Bool := if dsame xs ys = true then some true else none
theorem hits_data {pins : List (Addr × Obj)} {σ : L2.St} {H : Hp} {s : Shared} {A : Around} (I : Inv X pins σ H s) (hu : A.units + 64 < cLine) {ls : List (Key × V)} {vb : List (Key × Value)} (rb : KV ls vb) {ks : List (Key × V)} {va : List (Key × Value)} (ra : KV ks va) :
    (∀ p ∈ ks, ∃ u d, valV ls p.1 = some u ∧ Dp X.K H p.2 d ∧ Dp X.K H u d ∧ SeqAt.shaped d = true ∧ PyData.eqv d d = true) → PySem.W.KeqHits A s vb va true := by
  unfold KV at ra
  induction ra with
  | nil => intro _; exact .nil
  | @cons p q ps qs h t ih =>
    intro hp
    obtain ⟨h1, h2⟩ := h
    obtain ⟨u, d, eu, dp, du, sh, eq⟩ := hp p List.mem_cons_self
    have rr : RelO (some u) (valueAt vb p.1) := by rw [← eu]; exact rb.val p.1
    obtain ⟨y, hy, ry⟩ := rr.some_of
    obtain ⟨k, v⟩ := q
    have h1' : p.1 = k := h1
    rw [h1'] at hy
    obtain ⟨as, r1⟩ := Dp.reads I d p.2 v dp h2
    obtain ⟨bs, r2⟩ := Dp.reads I d u y du ry
    have ea : SeqAt.EqAt A s v y (PyData.eqv d d) := SeqAt.eqAt_reads d d A s v y as bs r1 r2 (SeqAt.canLay_of_shaped sh) (SeqAt.canLay_of_shaped sh) (SeqAt.room_of_shaped sh hu)
    rw [eq] at ea
    exact .hit (e := true) (b := true) hy ea (ih fun p' hm => hp p' (List.mem_cons_of_mem _ hm))
theorem room66 {k : Nat} {A : Around} (r : Room k A) : A.units + 66 < cLine := by have := r.un; omega
def rNeF (K : PySem.W.Frag) : R2 := fun x y H Q => ∃ a b oa ob ks ls, x = .ref a ∧ y = .ref b ∧ H a = some (.frz oa (.dK ks)) ∧ H b = some (.frz ob (.dK ls)) ∧ ks.length = ls.length ∧
  (∀ p ∈ ks, ∃ u d, valV ls p.1 = some u ∧ Dp K H p.2 d ∧ Dp K H u d ∧ SeqAt.shaped d = true ∧ PyData.eqv d d = true) ∧ Q (.bl false) H
def rEqF (K : PySem.W.Frag) : R2 := fun x y H Q => ∃ a b oa ob ks ls, x = .ref a ∧ y = .ref b ∧ H a = some (.frz oa (.dK ks)) ∧ H b = some (.frz ob (.dK ls)) ∧ ks.length = ls.length ∧
  (∀ p ∈ ks, ∃ u d, valV ls p.1 = some u ∧ Dp K H p.2 d ∧ Dp K H u d ∧ SeqAt.shaped d = true ∧ PyData.eqv d d = true) ∧ Q (.bl true) H
theorem op_neF (hu : X.A.units + 66 < cLine) : OpR X (compareOp .NotEq) (rNeF X.K) := by
  intro pins s σ H x y v u Q I rx ry h
  obtain ⟨a, b, oa, ob, ks, ls, ex, ey, ea, eb, hlen, hp, q⟩ := h
  subst ex ey
  obtain rfl : v = Value.ref a := rx
  obtain rfl : u = Value.ref b := ry
  obtain ⟨ya, _, _, _, _, va, _, _, ra, da⟩ := I.frzK ea
  obtain ⟨yb, _, _, _, _, vb, _, _, rb, db⟩ := I.frzK eb
  have hl : va.length = vb.length := by rw [← Paired.length ra, ← Paired.length rb]; exact hlen
  exact PySem.W.keq_ne (knd := mixKind X.prog X.w) (r := true) ya yb da.dictOf db.dictOf (by omega) (fun _ => hits_data I (by show X.A.units + 1 + 64 < cLine; omega) rb ra hp) (fin_bl I q (by simp [hl]))
theorem op_eqF (hu : X.A.units + 66 < cLine) : OpR X (compareOp .Eq) (rEqF X.K) := by
  intro pins s σ H x y v u Q I rx ry h
  obtain ⟨a, b, oa, ob, ks, ls, ex, ey, ea, eb, hlen, hp, q⟩ := h
  subst ex ey
  obtain rfl : v = Value.ref a := rx
  obtain rfl : u = Value.ref b := ry
  obtain ⟨ya, _, _, _, _, va, _, _, ra, da⟩ := I.frzK ea
  obtain ⟨yb, _, _, _, _, vb, _, _, rb, db⟩ := I.frzK eb
  have hl : va.length = vb.length := by rw [← Paired.length ra, ← Paired.length rb]; exact hlen
  exact PySem.W.keq_eq (knd := mixKind X.prog X.w) (r := true) ya yb da.dictOf db.dictOf (by omega) (fun _ => hits_data I (by show X.A.units + 1 + 64 < cLine; omega) rb ra hp) (fin_bl I q (by simp [hl]))
theorem same_data [DecidableEq α] {n : Nat} {F H : Hp} {K : PySem.W.Frag} (d : DTy τ n) (hn : n ≤ 64) (cf : Cf G F H) {ks ls : List (Key × V)} {xs ys : List (Int × α)} (h1 : Paired (PK τ F) ks xs) (h2 : Paired (PK τ F) ls ys) (hs : ∀ p ∈ xs, dget ys p.1 = some p.2) :
    ∀ p ∈ ks, ∃ u e, valV ls p.1 = some u ∧ Dp K H p.2 e ∧ Dp K H u e ∧ SeqAt.shaped e = true ∧ PyData.eqv e e = true := by
  induction h1 with
  | nil => intro p hp; cases hp
  | @cons kv x r s hr t ih =>
    intro p hp
    rcases List.mem_cons.mp hp with e | hp
    · subst e
      have hx := hs x List.mem_cons_self
      have hg := dget_rel (e := Sum.inl) (R := τ.rel F) (fun h => Sum.inl.inj h) h2 x.1
      rw [hx] at hg
      obtain ⟨u, eu, ru⟩ := hg
      refine ⟨u, d.enc x.2, ?_, d.hold cf hr.2, d.hold cf ru, d.shaped hn _, by rw [d.eqv]; exact decide_eq_true rfl⟩
      rw [hr.1]
      exact eu
    · exact ih (fun q hq => hs q (List.mem_cons_of_mem _ hq)) p hp
theorem dsame_is [DecidableEq α] {xs ys : List (Int × α)} (h : dsame xs ys = true) : xs.length = ys.length ∧ ∀ p ∈ xs, dget ys p.1 = some p.2 := by
  unfold dsame at h
  rw [Bool.and_eq_true, decide_eq_true_eq, List.all_eq_true] at h
  exact ⟨h.1, fun p hp => of_decide_eq_true (h.2 p hp)⟩
theorem rb_neF [DecidableEq α] {K : PySem.W.Frag} {n : Nat} (d : DTy τ n) (hn : n ≤ 64) : RB G (rNeF K) (TDK τ) (TDK τ) TBool (fun x y => (opt (dneC x y) : m Bool)) := rb_opt fun F H v w x y z cf rx ry ez => by
  unfold dneC at ez
  split at ez
  · rename_i hs
    cases ez
    obtain ⟨p, oa, o1, ev, hF, kvs, eo, rr⟩ := rx
    obtain ⟨p2, ob, o2, ev2, hF2, lvs, eo2, rr2⟩ := ry
    subst eo eo2
    obtain ⟨h1, h2⟩ := dsame_is hs
    exact ⟨.bl false, rfl, fun Q q => ⟨p, p2, oa, ob, kvs, lvs, ev, ev2, cf.sub _ _ hF, cf.sub _ _ hF2, by rw [Paired.length rr, Paired.length rr2]; exact h1, same_data d hn cf rr rr2 h2, q⟩⟩
  · cases ez
theorem rb_eqF [DecidableEq α] {K : PySem.W.Frag} {n : Nat} (d : DTy τ n) (hn : n ≤ 64) : RB G (rEqF K) (TDK τ) (TDK τ) TBool (fun x y => (opt (deqC x y) : m Bool)) := rb_opt fun F H v w x y z cf rx ry ez => by
  unfold deqC at ez
  split at ez
  · rename_i hs
    cases ez
    obtain ⟨p, oa, o1, ev, hF, kvs, eo, rr⟩ := rx
    obtain ⟨p2, ob, o2, ev2, hF2, lvs, eo2, rr2⟩ := ry
    subst eo eo2
    obtain ⟨h1, h2⟩ := dsame_is hs
    exact ⟨.bl true, rfl, fun Q q => ⟨p, p2, oa, ob, kvs, lvs, ev, ev2, cf.sub _ _ hF, cf.sub _ _ hF2, by rw [Paired.length rr, Paired.length rr2]; exact h1, same_data d hn cf rr rr2 h2, q⟩⟩
  · cases ez
/-! ### stores -/
/-- a, b, c = x, y, z (local names) -/
theorem xs_par3 {i j l : Nat} {x y z : Str} {px py pz pt : Pos} {kt k2 : Nat} {pt2 : Pos} {d : Expr} {ψ : Ty γ} {ca : m α} {cb : m β} {cd : m γ} (hp : ∀ {ta : TA}, PA X [a, b, d] ta → PS X (.Assign [.Tuple [.Name x px, .Name y py, .Name z pz] kt pt] (.Tuple [a, b, d] k2 pt2) pos) (tPar3 i j l ta)) (ha : XE G X a Γ τ ca) (hb : XE G X b Γ υ cb) (hd : XE G X d Γ ψ cd)
    (hs1 : starEach [a, b, d] X.env = (false, eval a X.env) :: starEach [b, d] X.env := by kernel_rfl) (hs2 : starEach [b, d] X.env = (false, eval b X.env) :: starEach [d] X.env := by kernel_rfl) (hs3 : starEach [d] X.env = (false, eval d X.env) :: starEach [] X.env := by kernel_rfl) :
    XS G X (.Assign [.Tuple [.Name x px, .Name y py, .Name z pz] kt pt] (.Tuple [a, b, d] k2 pt2) pos) Γ (fun w : α × β × γ => ((Γ.set i (some (.sh τ w.1))).set j (some (.sh υ w.2.1))).set l (some (.sh ψ w.2.2))) (bnd ca fun u => bnd cb fun v => bnd cd fun w => ret (u, v, w)) := by
  intro F0 H0 F H σ D cf k E Qd hrun q
  refine (hp (pa_cons pe_sem (pa_cons pe_sem (pa_cons pe_sem pa_nil hs3) hs2) hs1)).sem ?_
  refine ha H0 F H σ cf E _ (run_bnd hrun) _ fun u v F1 H1 d1 k1 cf1 r1 => ?_
  refine hb H0 F1 H1 σ cf1 (E.step k1) _ (run_bnd d1) _ fun u2 v2 F2 H2 d2 k2 cf2 r2 => ?_
  refine hd H0 F2 H2 σ cf2 ((E.step k1).step k2) _ (run_bnd d2) _ fun u3 v3 F3 H3 d3 k3 cf3 r3 => ⟨v, v2, v3, rfl, ?_⟩
  exact q (u, u2, u3) F3 H3 _ (run_ret d3) (.mk' k ((k1.trans k2).trans k3) cf3) ((((((E.step k1).step k2).step k3).set (τ.mono (k2.trans k3).ex r1)).set (υ.mono k3.ex r2)).set r3)
/-- a target of two takes a list of two -/
theorem xg_l2 {t1 t2 : Expr} {k : Nat} {f1 f2 : α → Ga → Ga} {js ks : List Nat} (h1 : XG G X t1 τ f1 js) (h2 : XG G X t2 τ f2 ks) (hc : X.calm = true := by kernel_rfl)
    (hs1 : (assignEach [t1, t2] X.env).map (·.2) = assign t1 X.env :: (assignEach [t2] X.env).map (·.2) := by kernel_rfl) (hs2 : (assignEach [t2] X.env).map (·.2) = assign t2 X.env :: (assignEach [] X.env).map (·.2) := by kernel_rfl)
    (hn : (assignEach [t1, t2] X.env).length = 2 := by kernel_rfl) (hst : (assignEach [t1, t2] X.env).findIdx? (·.1) = none := by kernel_rfl) {p q : α} :
    ∀ (H0 F H : Hp) (σ : L2.St) (Γ : Ga) (v : V), Cf G F H → En G H0 F H σ Γ → (TLst τ).rel F v [p, q] → ∀ Q : L2.St → Hp → Prop, (∀ σ', En G H0 F H σ' (f2 q (f1 p Γ)) → Out (js ++ ks) σ σ' → Q σ' H) → semG X (.Tuple [t1, t2] k pos) v σ H Q := by
  intro H0 F H σ Γ v cf E r Q qq
  obtain ⟨a, o, ev, hF, vs, eo, rr⟩ := r
  have hH := cf.sub _ _ hF
  rw [eo] at hH
  cases rr with
  | cons r1 rr =>
    cases rr with
    | cons r2 rr =>
      cases rr
      refine (pg_lst hc (pgs_cons pg_sem (pgs_cons pg_sem pgs_nil hs2) hs1) hn hst).sem ⟨a, _, ev, .inl (.inl hH), rfl, _, _, rfl, ?_⟩
      refine h1 H0 F H σ Γ _ p cf E r1 _ fun σ1 E1 o1 => ⟨_, [], rfl, ?_⟩
      refine h2 H0 F H σ1 _ _ q cf E1 r2 _ fun σ2 E2 o2 => ⟨rfl, ?_⟩
      exact qq σ2 E2 (o1.trans o2)
def two (xs : List α) : Option (α × α) := match xs with
  | [p, q] => some (p, q)
  | _ => none
/-- a, b = a list of two -/
theorem xs_l2 {t1 t2 : Expr} {k : Nat} {f1 f2 : α → Ga → Ga} {js ks : List Nat} {tp : Pos} {c : m (List α)} (h : XE G X e Γ (TLst τ) c) (h1 : XG G X t1 τ f1 js) (h2 : XG G X t2 τ f2 ks) (hc : X.calm = true := by kernel_rfl)
    (hs1 : (assignEach [t1, t2] X.env).map (·.2) = assign t1 X.env :: (assignEach [t2] X.env).map (·.2) := by kernel_rfl) (hs2 : (assignEach [t2] X.env).map (·.2) = assign t2 X.env :: (assignEach [] X.env).map (·.2) := by kernel_rfl)
    (hn : (assignEach [t1, t2] X.env).length = 2 := by kernel_rfl) (hst : (assignEach [t1, t2] X.env).findIdx? (·.1) = none := by kernel_rfl) (hs : swapsWithSole [.Tuple [t1, t2] k tp] e pos.line X.env = pure false := by kernel_rfl) (hw : swappedStores [.Tuple [t1, t2] k tp] e X.env = pure none := by kernel_rfl)
    (hh : (assignEach [.Tuple [t1, t2] k tp] X.env).map (·.2) = [assign (.Tuple [t1, t2] k tp) X.env] := by kernel_rfl) : XS G X (.Assign [.Tuple [t1, t2] k tp] e pos) Γ (fun y => f2 y.2 (f1 y.1 Γ)) (bnd c fun xs => opt (two xs)) := by
  intro F0 H0 F H σ D cf kk E Qd hrun q
  refine (ps_asg pe_sem pg_sem hs hw hh).sem ?_
  refine h H0 F H σ cf E _ (run_bnd hrun) _ fun y v F' H' d k' cf' r => ?_
  obtain ⟨z, ez, d2⟩ := run_opt d
  unfold two at ez
  split at ez
  · cases ez
    exact xg_l2 h1 h2 hc hs1 hs2 hn hst H0 F' H' σ Γ v cf' (E.step k') r _ fun σ' E' _ => q _ F' H' σ' d2 (.mk' kk k' cf') E'
  · cases ez
end
end Wc
/-! Core N: a lambda of one parameter, handed to a def. -/
namespace Wc
open PySem PySem.Spec PyProof.Rows L2 LamX
open Mon (ret bnd opt run run_ret run_bnd run_opt)
/-- the heap behind the making: as it was, or the table longer and a code object new -/
def MadeAs (q : Str) (P c' : Addr) (H H1 : Hp) : Prop := H1 c' = some (CodeO c' q) ∧ (H1 = H ∨ ∃ ps more, H P = some (.tbl ps) ∧ H c' = none ∧ H1 = upd (upd H P (.tbl (ps ++ more))) c' (CodeO c' q))
section
variable {X : Cx} {pins : List (Addr × Obj)} {σ : L2.St} {H : Hp} {s : Shared}
theorem lam_mk {T : List (Addr × Str)} {c P : Addr} {pr : Arguments} {bd : Expr} {sc : Scope} {ps0 : Pos} {E Q : Value → Shared → Prop} (I : Inv X pins σ H s) (TB : TabB X.base X.mg c P) (hcode : X.env.code = .ref c)
    (hm : (P, X.env.qual ++ "<lambda>") ∈ T) (hu : ∀ p ∈ T, p.1 = P → p.2 = X.env.qual ++ "<lambda>") (hT : Tabs T H) (hdef : defaultsOf pr X.env = ([], [])) (hfree : ∀ y ∈ sc.names, y.2 = .free → ∃ c, X.env.cells.lookup y.1 = some c)
    (h : ∀ (fa c' : Addr) (pm ct : Value) (H1 : Hp) (s' : Shared), Inv X pins σ H1 s' → MadeAs (X.env.qual ++ "<lambda>") P c' H H1 → Tabs T H1 →
      s'.heap.get? fa = some (PySem.W.kla_obj "<lambda>" (X.env.qual ++ "<lambda>") pr bd sc (cloFrom X.env.cells sc.names []) pm c' ct) → H1 fa = none → fa ∉ frs X.stack → Q (.ref fa) s') :
    wpAny (model X.prog X.w) X.A (eval (.Lambda pr bd sc ps0) X.env) Q E s := by
  obtain ⟨tb, eP, ok3, known⟩ := hT _ hm
  have bmP : s.heap.BuiltinsAt X.mg P := TB.bm.keeps I.bk
  have objP : s.heap.get? P = some { cls := .none, data := .fields tb } := I.hok P _ eP
  have away : ∀ fa, s.heap.objs.size ≤ fa → fa ∉ frs X.stack := fun fa hle hz => by
    rcases List.mem_cons.mp (I.stkSub _ hz) with e | e
    · have l1 := I.lt
      rw [← e] at l1
      exact Nat.lt_irrefl _ (Nat.lt_of_lt_of_le l1 hle)
    · exact I.nofs hle e
  refine PySem.W.kla_eval hdef ?_
  cases hc : codeAmong ps0 tb.toList with
  | some cv =>
    obtain ⟨c', e, hco⟩ := known ps0 cv hc
    subst e
    refine PySem.W.kla_makeFunctionHit (mg := X.mg) (c := c) (P := P) (ps := tb) (closure_ok hfree) I.ok.glob (I.mod.glob.keeps I.bk) hcode (TB.code.keeps I.bk) objP ok3 hc bmP fun ct hp tk hx hsz => ?_
    refine h hp.objs.size c' ((X.mg "__name__").getD .none) ct H _ (I.kept fun b o e => Heap.get?_push_of_some _ (hx b o e)) ⟨hco, .inl rfl⟩ hT (Heap.get?_push_size _ rfl) (I.hok.fresh hsz) (away _ hsz)
  | none =>
    refine PySem.W.kla_makeFunction (mg := X.mg) (c := c) (P := P) (ps := tb) (closure_ok hfree) I.ok.glob (I.mod.glob.keeps I.bk) hcode (TB.code.keeps I.bk) objP ok3 hc TB.gP bmP fun c' ct hp tk hx hge hlt hrec htb => ?_
    obtain ⟨c2, oc, us, t, e2, hoc, hd, hv⟩ := hrec
    cases e2
    have size_le : s.heap.objs.size ≤ hp.objs.size := Nat.le_trans hge (Nat.le_of_lt hlt)
    have newC : H c' = none := I.hok.fresh hge
    have neP : P ≠ c' := ne_of_none eP newC
    have J := inv_table (t' := tk) (more := #[rawInt ps0.line, rawInt ps0.col, .ref c']) (h' := hp.push (PySem.W.kla_obj "<lambda>" (X.env.qual ++ "<lambda>") pr bd sc (cloFrom X.env.cells sc.names []) ((X.mg "__name__").getD .none) c' ct)) I eP
      (fun b o hb e => Heap.get?_push_of_some _ (hx b o hb e)) (Heap.get?_push_of_some _ htb) hge ⟨oc, us, t, Heap.get?_push_of_some _ hoc, hd, hv⟩
    have stay : ∀ b o, H b = some o → b ≠ P → upd (upd H P (.tbl (tb ++ #[rawInt ps0.line, rawInt ps0.col, .ref c']))) c' (CodeO c' (X.env.qual ++ "<lambda>")) b = some o := fun b o e hb => by
      rw [upd_ne (ne_of_none e newC), upd_ne hb, e]
    have notP : ∀ b q, H b = some (CodeO b q) → b ≠ P := fun b q e z => by
      rw [z, eP] at e
      exact codeO_ne _ (Option.some.inj e).symm
    refine h hp.objs.size c' ((X.mg "__name__").getD .none) ct _ _ J ⟨upd_same, .inr ⟨tb, _, eP, newC, rfl⟩⟩ (fun p hp' => ?_) (Heap.get?_push_size _ rfl) ?_ (away _ size_le)
    · by_cases hb : p.1 = P
      · rw [hu p hp' hb, hb]
        refine ⟨_, by rw [upd_ne neP, upd_same], by rw [Array.toList_append]; exact PySem.TriplesOk_snoc _ _ _ _ ok3, fun p' cv hcv => ?_⟩
        rw [Array.toList_append] at hcv
        rcases among_app _ ok3 hcv with z | z
        · obtain ⟨c0, e1, e2⟩ := known p' cv z
          exact ⟨c0, e1, stay _ _ e2 (notP _ _ e2)⟩
        · exact ⟨c', z, upd_same⟩
      · obtain ⟨tb', a1, a2, a3⟩ := hT p hp'
        refine ⟨tb', stay _ _ a1 hb, a2, fun p' cv hcv => ?_⟩
        obtain ⟨c0, e1, e2⟩ := a3 p' cv hcv
        exact ⟨c0, e1, stay _ _ e2 (notP _ _ e2)⟩
    · have n1 : hp.objs.size ≠ c' := Nat.ne_of_gt hlt
      have n2 : hp.objs.size ≠ P := Nat.ne_of_gt (Nat.lt_of_lt_of_le (Heap.lt_size objP) size_le)
      rw [upd_ne n1, upd_ne n2]
      exact I.hok.fresh size_le
end
/-- one parameter x, no other name of its own -/
structure Lam1 (out sc : Scope) (x : Str) : Prop where
  kind : sc.kind = .function
  co : sc.isCoroutine = false
  gen : sc.isGenerator = false
  par : sc.names.lookup x = some .local
  own : ∀ y ∈ sc.names, (y.2 = .local → y.1 = x) ∧ y.2 ≠ .cell
  free : ∀ y ∈ sc.names, y.2 = .free → out.names.lookup y.1 = some .cell ∨ out.names.lookup y.1 = some .free
def lam1B (out sc : Scope) (x : Str) : Bool :=
  decide (sc.kind = .function) && !sc.isCoroutine && !sc.isGenerator && decide (sc.names.lookup x = some .local) && sc.names.all fun y => (!decide (y.2 = .local) || decide (y.1 = x)) && !decide (y.2 = .cell) && (!decide (y.2 = .free) || decide (out.names.lookup y.1 = some .cell) || decide (out.names.lookup y.1 = some .free))
theorem lam1_by {out sc : Scope} {x : Str} (h : lam1B out sc x = true) : Lam1 out sc x := by
  unfold lam1B at h
  simp only [Bool.and_eq_true, Bool.or_eq_true, Bool.not_eq_true', decide_eq_true_eq, decide_eq_false_iff_not, List.all_eq_true] at h
  obtain ⟨⟨⟨⟨h1, h2⟩, h3⟩, h4⟩, h5⟩ := h
  refine ⟨h1, h2, h3, h4, fun y hy => ⟨fun e => ?_, (h5 y hy).1.2⟩, fun y hy e => ?_⟩
  · rcases (h5 y hy).1.1 with z | z
    · exact absurd e z
    · exact z
  · rcases (h5 y hy).2 with (z | z) | z
    · exact absurd e z
    · exact .inl z
    · exact .inr z
theorem Lam1.has {X : Cx} {sc : Scope} {x : Str} (L : Lam1 X.env.scope sc x) (ok : X.Ok) : ∀ y ∈ sc.names, y.2 = .free → ∃ c, X.env.cells.lookup y.1 = some c := fun y hy e => ok.has _ (L.free y hy e)
section
variable {X : Cx} {pins : List (Addr × Obj)} {σ : L2.St} {H HZ : Hp} {s s1 : Shared}
theorem lam1_start {A : Around} {outer : List Env} {E : XK} {sc : Scope} {x : Str} {j : Nat} {v : V} {u : Value} {fa c' : Addr} {h₁ : Heap} {tk : Nat} (I : Inv X pins σ H s) (L : Lam1 X.env.scope sc x) (hN : X.N.Nodup) (hj : X.N[j]? = some x) (rv : RelV v u)
    (e0 : Env0 X.prog X.w X.K X.mg X.base A outer s1 HZ) (hd : A.handled = none) (un : Un (frs X.stack) [] H HZ s.heap s1.heap) (hns : h₁.Ns s1.heap.objs.size fun y => [(x, u)].reverse.lookup y) (kp : ∀ b o, s1.heap.get? b = some o → h₁.get? b = some o) :
    Inv (lamCx X A outer s1 HZ E sc fa c') [] (σ.set j (some v)) HZ { s1 with heap := h₁, toks := tk } := by
  have hfree := L.has I.ok
  have below : ∀ {y c}, (cloFrom X.env.cells sc.names []).lookup y = some c → X.env.cells.lookup y = some c := fun {y c} e => by
    rcases cloFrom_mem (PySem.mem_of_lookup e) with hm | ⟨h1, h2⟩
    · cases hm
    · obtain ⟨c1, hc⟩ := hfree _ h1 rfl
      have hc : X.env.cells.lookup y = some c1 := hc
      rw [show c = c1 from by rw [h2, hc] <;> rfl]
      exact hc
  have found : ∀ {y}, sc.names.lookup y = some .free → ∃ c, (cloFrom X.env.cells sc.names []).lookup y = some c := fun {y} hl => mem_lookup (cloFrom_has (cells := X.env.cells) (acc := []) (show (y, NameKind.free) ∈ sc.names from PySem.mem_of_lookup hl))
  have cellK : ∀ {c : Addr} {w : Option Value}, H c = none → s.heap.IsCell c w → h₁.IsCell c w := fun {c w} n ⟨o, ho, hdd⟩ => by
    obtain ⟨sl, q⟩ := un.any ho n (by simp)
    exact ⟨_, kp _ _ q, hdd⟩
  have noA : ∀ b : Addr, b ∉ (lamCx X A outer s1 HZ E sc fa c').ex := fun b z => absurd (show b ∈ ([] : List Addr) from z) (by simp)
  refine ⟨⟨e0.mod, L.kind, rfl, rfl, Nat.le_refl _, fun y z c e1 e2 => I.ok.inj y z c (below e1) (below e2), fun y hy => ?_, fun y c z _ => ?_, fun _ => hd, Around.frames_deeper e0.frames, .inr ⟨rfl, rfl⟩, fun b z => absurd z (noA b), e0.bs, e0.bsz, fun b _ _ => noA b, fun b z => absurd z (noA b), e0.funs, e0.frf⟩,
    rfl, e0.bare, Un.kept kp, ⟨_, hns, fun i y w e1 e2 e3 => ?_⟩, fun y c e => ?_, e0.hok.fresh (Nat.le_refl _), fun y c e => ?_, fun q hq => absurd (show q ∈ ([] : List (Addr × Obj)) ++ [] from hq) (by simp), e0.hok.kept kp, by rw [List.length_set]; exact I.len⟩
  · have hy : sc.names.lookup y = some .cell ∨ sc.names.lookup y = some .free := hy
    rcases hy with hy | hy
    · exact absurd rfl (L.own _ (PySem.mem_of_lookup hy)).2
    · exact found hy
  · have z : false = true := z
    cases z
  · have e1 : X.N[i]? = some y := e1
    have e3 : Vis sc y := e3
    rcases e3 with k | k | k
    · have hyx : y = x := (L.own _ (PySem.mem_of_lookup k)).1 rfl
      subst hyx
      have hij : j = i := by
        have h1 := (List.getElem?_eq_some_iff.mp hj)
        have h2 := (List.getElem?_eq_some_iff.mp e1)
        exact (List.getElem_inj hN).mp (h1.2.trans h2.2.symm)
      subst hij
      have hl : j < σ.length := by rw [I.len]; exact (List.getElem?_eq_some_iff.mp hj).1
      rw [List.getElem?_set_self hl] at e2
      cases e2
      exact ⟨u, rv, .inl ⟨k, by simp [List.lookup]⟩⟩
    · exact absurd rfl (L.own _ (PySem.mem_of_lookup k)).2
    · have hne : j ≠ i := fun z => by
        subst z
        rw [hj] at e1
        cases e1
        rw [L.par] at k
        cases k
      rw [List.getElem?_set_ne hne] at e2
      obtain ⟨m, hn, hl⟩ := I.loc
      have kk := L.free _ (PySem.mem_of_lookup k) rfl
      obtain ⟨w', r, q⟩ := hl i y w e1 e2 (kk.elim (fun z => .inr (.inl z)) fun z => .inr (.inr z))
      obtain ⟨c2, h2⟩ := found k
      refine ⟨w', r, .inr ⟨.inr k, c2, h2, ?_⟩⟩
      have c1 := below h2
      rcases q with ⟨k', _⟩ | ⟨_, c3, e', z⟩
      · have k' : X.env.scope.names.lookup y = some .local := k'
        rcases kk with k2 | k2 <;> rw [show X.env.scope.names.lookup y = _ from k2] at k' <;> cases k'
      · rw [c1] at e'
        cases e'
        exact cellK (I.freeC y _ c1) z
  · obtain ⟨w', z⟩ := I.cell y c (below e)
    exact ⟨w', cellK (I.freeC y c (below e)) z⟩
  · obtain ⟨w, o, ho, hdd⟩ := I.cell y c (below e)
    exact un.free c o ho (I.freeC y c (below e)) (by simp)
/-- a(item), in the def that got the lambda -/
theorem pe_act1 {Ng : List Str} {qg : Str} {sg : Scope} {g0 fa c' : Addr} {cdg pm ct : Value} {pr : Arguments} {bd ae : Expr} {sc : Scope} {k i j : Nat} {a x : Str} {tae : TE} {tb : V → TE} {p1 p2 : Pos}
    (I : Inv X pins σ H s) (L : Lam1 X.env.scope sc x) (hXN : X.N.Nodup) (hj : X.N[j]? = some x) (hf : s.heap.get? fa = some (PySem.W.kla_obj "<lambda>" (X.env.qual ++ "<lambda>") pr bd sc (cloFrom X.env.cells sc.names []) pm c' ct)) (hfn : H fa = none) (hfr : fa ∉ frs X.stack)
    (hbind : ∀ u, bindArgs (PySem.W.kla_fn "<lambda>" (X.env.qual ++ "<lambda>") pr bd sc (cloFrom X.env.cells sc.names []) pm (.ref c') ct) ⟨[u], []⟩ = pure [(x, u)])
    (hr : Room (k + 1) (X.A.deeper (envOfC qg sg s.heap.objs.size g0 cdg)))
    (hbody : ∀ (A : Around) (outer : List Env) (s : Shared) (H : Hp) (v : V), Room k (A.deeper (lamEnv X sc s.heap.objs.size fa c')) → PE (lamCx X A outer s H C8.E0 sc fa c') bd (tb v))
    (ha : PE (cxOf C8.CX0 X.prog X.w X.K X.mg X.base Ng qg sg g0 cdg X.A X.stack s H C8.E0).nox ae tae) (hN : Ng[i]? = some a) (hv : Vis sg a) (hd : (a == ("__debug__" : Str)) = false := by kernel_rfl) (hcd : (a == ("__classdict__" : Str)) = false := by kernel_rfl)
    (he : starEach [ae] (envOfC qg sg s.heap.objs.size g0 cdg) = (false, eval ae (envOfC qg sg s.heap.objs.size g0 cdg)) :: starEach [] (envOfC qg sg s.heap.objs.size g0 cdg) := by kernel_rfl) (hpl : (backTo p2 (starEach [] (envOfC qg sg s.heap.objs.size g0 cdg))).any (·.1) = false := by kernel_rfl) :
    PE (cxOf C8.CX0 X.prog X.w X.K X.mg X.base Ng qg sg g0 cdg X.A X.stack s H C8.E0).nox (.Call (.Name a p1) [ae] [] p2)
      (fun σZ HZ Q => σZ[i]? = some (some (.ref fa)) ∧ tae σZ HZ fun v H1 => H1 c' = some (CodeO c' (X.env.qual ++ "<lambda>")) ∧ tb v (σ.set j (some v)) H1 Q) := by
  refine ⟨fun pinsZ sZ σZ HZ Q IZ h => ?_⟩
  obtain ⟨hs, ht⟩ := h
  refine wpAny_Call_Name_kw (thn ((pe_var (pos := p1) (i := i) hN hv hd hcd).run pinsZ sZ σZ HZ (fun v H1 => v = .ref fa ∧ H1 = HZ) IZ ⟨.ref fa, hs, rfl, rfl⟩) fun u s1 ⟨v, H1, I1, r1, ev, eH⟩ => ?_)
  subst ev
  rw [eH] at I1
  obtain rfl : u = Value.ref fa := r1
  have of1 : s1.heap.get? fa = some (PySem.W.kla_obj "<lambda>" (X.env.qual ++ "<lambda>") pr bd sc (cloFrom X.env.cells sc.names []) pm c' ct) := I1.base.keep fa _ hf hfn hfr (fun z => nomatch (show fa ∈ ([] : List Addr) from z))
  refine PySem.W.callWith_F ⟨_, _, _, _, of1⟩ (thn ((pa_cons ha pa_nil he).run p2 pinsZ s1 σZ HZ (fun vs H2 => match vs with
    | [v] => H2 c' = some (CodeO c' (X.env.qual ++ "<lambda>")) ∧ tb v (σ.set j (some v)) H2 Q
    | _ => False) I1 ht) fun us s2 ⟨vs, H2, I2, rv, q⟩ => ?_) he hpl
  have of2 : s2.heap.get? fa = some (PySem.W.kla_obj "<lambda>" (X.env.qual ++ "<lambda>") pr bd sc (cloFrom X.env.cells sc.names []) pm c' ct) := I2.base.keep fa _ hf hfn hfr (fun z => nomatch (show fa ∈ ([] : List Addr) from z))
  refine ⟨⟨_, _, _, _, of2⟩, ?_⟩
  cases rv with
  | nil => exact q.elim
  | @cons v u vs us r1 rr =>
    cases rr with
    | cons _ _ => exact q.elim
    | nil =>
      obtain ⟨hc, ht⟩ := q
      have un : Un (frs X.stack) [] H H2 s.heap s2.heap := I2.base
      obtain ⟨⟨oc, ws, t, hoc, hdc, hvc⟩, _, _⟩ := I2.hok c' _ hc
      have rc : codeAny (model X.prog X.w) (X.A.deeper (envOfC qg sg s.heap.objs.size g0 cdg)) (.call (.ref fa) ⟨[u], []⟩) (CR C8.CX0 (envOfC qg sg s.heap.objs.size g0 cdg :: X.stack) X.prog X.w H2 s2 Q C8.E0) s2 := by
        refine PySem.W.kla_callFunE hr.depth of2 rfl L.co L.gen rfl ⟨c', oc, ws, t, rfl, hoc, hdc, hvc⟩ ?_
        rw [hbind]
        refine wpAny_pure (wpAny_newFunctionEnv (fun y hy => (L.own y hy).2) (fun y hy => by rw [List.mem_singleton.mp hy]; exact L.par) (fun h₁ hns hsb => ⟨I2.nolimit.fresh _ hsb, ?_⟩) L.kind)
        show codeAny _ _ (.expr bd (lamEnv X sc s2.heap.objs.size fa c')) _ _
        have kp : ∀ b o, s2.heap.get? b = some o → h₁.get? b = some o := fun b o e => hsb.extBut b o (Nat.ne_of_lt (Heap.lt_size e)) (Heap.get?_push_of_some _ e)
        have J : Inv (lamCx X (X.A.deeper (envOfC qg sg s.heap.objs.size g0 cdg)) (envOfC qg sg s.heap.objs.size g0 cdg :: X.stack) s2 H2 C8.E0 sc fa c') [] (σ.set j (some v)) H2 { s2 with heap := h₁, toks := s2.toks + [(x, u)].length } :=
          lam1_start I L hXN hj r1 I2.env0 hr.hd un hns kp
        refine PySem.W.kla_codeExpr (wpAny_mono ((hbody _ _ s2 H2 v (hr.deeper _)).run [] _ _ H2 Q J ht) (fun w s' hq => ?_) fun e s' hq => ?_)
        · obtain ⟨w', H', J', rv, q⟩ := hq
          exact ⟨w', H', J'.os, J'.bare, J'.base, J'.hok, rv, q⟩
        · have none_ : ∀ s'', L2.CX X.prog X.w (envOfC qg sg s.heap.objs.size g0 cdg :: X.stack) H2 s2 C8.E0 e s'' → False := fun s'' z => by
            obtain ⟨_, _, _, _, _, _, _, _, _, _, _, _, he⟩ := z
            exact he
          exact wpAny_mono hq (fun _ s'' z => (none_ s'' z).elim) fun e' s'' z => by
            obtain ⟨_, _, _, _, _, _, _, _, _, _, _, _, he⟩ := z
            exact (show False from he).elim
      refine wpAny_call (codeAny_mono rc fun r s' hq => ?_)
      cases r with
      | error e => exact (show False from hq).elim
      | ok fl =>
        cases fl with
        | ret u => exact I2.after hq
        | next => exact False.elim hq
        | brk => exact False.elim hq
        | cont => exact False.elim hq
end
/-- the tables that lambdas are written into -/
structure LG (T : List (Addr × Str)) (G : Gs) : Prop where
  tab : ∀ {H : Hp}, G.J H → Tabs T H
  mem : ∀ p ∈ T, G.M p.1
  back : ∀ {H H1 : Hp} {P c' : Addr} {q : Str} {ps more : Array Value}, G.J H → (∃ p ∈ T, p.1 = P) → H P = some (.tbl ps) → H c' = none → H1 = upd (upd H P (.tbl (ps ++ more))) c' (CodeO c' q) → Tabs T H1 → G.J H1
theorem codeO_nt {c : Addr} {q : Str} (xs : List V) : CodeO c q ≠ .tup xs := fun z => by
  unfold CodeO at z
  cases z
theorem made_cf {G : Gs} {T : List (Addr × Str)} {F H H1 : Hp} {P c' : Addr} {q : Str} (lg : LG T G) (hP : ∃ p ∈ T, p.1 = P) (cf : Cf G F H) (h : MadeAs q P c' H H1) (hT : Tabs T H1) : ∃ F1, Cf G F1 H1 ∧ Step G F H F1 H1 ∧ F1 c' = some (CodeO c' q) := by
  obtain ⟨hc, h⟩ := h
  have hMP : G.M P := by
    obtain ⟨p, hp, e⟩ := hP
    rw [← e]
    exact lg.mem p hp
  have nmC : ¬ G.M c' ∨ H c' = none := by
    rcases h with e | ⟨_, _, _, hn, _⟩
    · subst e
      refine .inl fun mm => ?_
      obtain ⟨o, e1, _, e3⟩ := G.mex cf.j mm
      rw [hc] at e1
      cases e1
      exact e3 _ rfl
    · exact .inr hn
  rcases h with e | ⟨ps, more, eP, hn, e⟩
  · subst e
    have nm : ¬ G.M c' := by
      rcases nmC with z | z
      · exact z
      · rw [hc] at z
        cases z
    cases hF : F c' with
    | some u =>
      have e1 := cf.sub _ _ hF
      rw [hc] at e1
      cases e1
      exact ⟨F, cf, Step.refl, hF⟩
    | none =>
      obtain ⟨cf1, sm⟩ := cf_frz cf hc hF nm
      exact ⟨_, cf1, ⟨sm, fun _ _ e _ => e, fun _ o e => ⟨o, e⟩, fun a o e _ nx => upd_ne fun z => by
        rw [z, hc] at e
        cases e
        exact nx _ rfl⟩, upd_same⟩
  · have hFc := cf.fresh hn
    have hFP := cf.m P hMP
    have nPc : P ≠ c' := ne_of_none eP hn
    refine ⟨upd F c' (CodeO c' q), ⟨fun a u e1 => ?_, fun a xs e1 => ?_, lg.back cf.j hP eP hn e hT, fun a ma => ?_⟩, ⟨upd_ext hFc, fun a u e1 n => ?_, fun a u e1 => ?_, fun a u e1 _ _ => upd_ne (ne_of_none e1 hn)⟩, upd_same⟩
    · by_cases z : a = c'
      · rw [z, upd_same] at e1
        rw [z, hc, ← e1]
      · rw [upd_ne z] at e1
        have zP : a ≠ P := fun k => by
          rw [k, hFP] at e1
          cases e1
        rw [e, upd_ne z, upd_ne zP]
        exact cf.sub a u e1
    · by_cases z : a = c'
      · rw [z, hc] at e1
        exact absurd (Option.some.inj e1) (codeO_nt xs)
      · rw [upd_ne z]
        rw [e, upd_ne z] at e1
        by_cases zP : a = P
        · rw [zP, upd_same] at e1
          cases e1
        · rw [upd_ne zP] at e1
          exact cf.tup a xs e1
    · have z : a ≠ c' := fun k => by
        obtain ⟨o, e1, _⟩ := G.mex cf.j ma
        rw [k, hn] at e1
        cases e1
      rw [upd_ne z]
      exact cf.m a ma
    · have zP : a ≠ P := fun k => n (k ▸ hMP)
      rw [e, upd_ne (ne_of_none e1 hn), upd_ne zP]
      exact e1
    · by_cases zP : a = P
      · exact ⟨_, by rw [e, zP, upd_ne nPc, upd_same]⟩
      · exact ⟨u, by rw [e, upd_ne (ne_of_none e1 hn), upd_ne zP]; exact e1⟩
/-- the shared part of the slots, for good -/
def ShS (F : Hp) (σ : L2.St) (Γ : Ga) : Prop := ∀ (i : Nat) (s : Sl), Γ[i]? = some (some s) → ∃ v, σ[i]? = some (some v) ∧ (match s with
  | .sh τ x => τ.rel F v x
  | .ow _ _ => False)
theorem ShS.mono {F F' : Hp} {σ : L2.St} {Γ : Ga} (e : Same F F') (h : ShS F σ Γ) : ShS F' σ Γ := fun i s hs => by
  obtain ⟨v, ev, r⟩ := h i s hs
  refine ⟨v, ev, ?_⟩
  cases s with
  | sh τ x => exact τ.mono e r
  | ow _ _ => exact r
/-- what the slot of a lambda holds -/
def TLam (fa c' : Addr) (q : Str) (σ : L2.St) (Γ : Ga) : Ty Unit := ⟨fun F v _ => v = .ref fa ∧ F c' = some (CodeO c' q) ∧ ShS F σ Γ, fun e ⟨h1, h2, h3⟩ => ⟨h1, e _ _ h2, h3.mono e⟩⟩
section
variable {X : Cx} {G : Gs} {Γ : Ga} {α β γ : Type} {τ : Ty α} {υ : Ty β}
/-- x(e, lambda y: bd) -/
theorem xe_lam {T : List (Addr × Str)} {Ng : List Str} {x a1' a2' y : Str} {g0 c P : Addr} {k j : Nat} {pg pr : Arguments} {bg : List Stmt} {sg sc : Scope} {dV kV doc pm cdv ct oc : Value} {an od : Option Addr} {osl : Array (Option Value)} {e bd : Expr} {p lpos pos : Pos} {m : Type → Type} [Mon m] {ca : m α} {fw : α → Option β}
    (lg : LG T G) (hg : Gl X x) (hm : X.mg x = some (.ref g0)) (hk : PySem.W.keepIn X.K (.ref g0) = true) (lk : X.K.lookup g0 = some ⟨oc, od, .func (PySem.W.fnOf x x pg bg sg dV kV doc pm an cdv ct), osl⟩) (hcg : PySem.W.codeIn X.K cdv x = true) (hb : Binds X.K (PySem.W.fnOf x x pg bg sg dV kV doc pm an cdv ct) [a1', a2'] [])
    (Sg : FnScope Ng [a1', a2'] sg) (hNg : Ng[1]? = some a2') (hva : Vis sg a2') (TB : TabB X.base X.mg c P) (hcode : X.env.code = .ref c) (hmT : (P, X.env.qual ++ "<lambda>") ∈ T) (hu : ∀ p ∈ T, p.1 = P → p.2 = X.env.qual ++ "<lambda>") (hr : Room (k + 2) X.A) (L : Lam1 X.env.scope sc y) (hXN : X.N.Nodup) (hj : X.N[j]? = some y)
    (hdef : defaultsOf pr X.env = ([], [])) (hbind : ∀ (q : Str) (cl : List (Str × Addr)) (pm cv ct u : Value), bindArgs (PySem.W.kla_fn "<lambda>" q pr bd sc cl pm cv ct) ⟨[u], []⟩ = pure [(y, u)])
    (hno : ∀ (i : Nat) (s : Sl), Γ[i]? = some (some s) → ¬ s.isOw) (ha : XE G X e Γ τ ca)
    (hG : ∀ (fa : Addr) (c' : Addr) (σ : L2.St) (s : Shared) (H : Hp) (xs : α),
      (∀ (Γz : Ga) (Δ : Ga) {δ : Type} (ψ : Ty δ) (z : δ) (i : Nat) (tb : Option Bool) (ae : Expr) (p1 p2 : Pos), Γz[1]? = some (some (.sh (TLam fa c' (X.env.qual ++ "<lambda>") σ Γ) ())) →
        XE G (cxOf C8.CX0 X.prog X.w X.K X.mg X.base Ng x sg g0 cdv X.A X.stack s H C8.E0).nox ae Γz ψ (ret z : Option δ) →
        (∀ (A : Around) (outer : List Env) (s : Shared) (H : Hp), Room k (A.deeper (lamEnv X sc s.heap.objs.size fa c')) → XE G (lamCx X A outer s H C8.E0 sc fa c') bd (Γ.set j (some (.sh ψ z))) TBool tb) →
        starEach [ae] (envOfC x sg s.heap.objs.size g0 cdv) = (false, eval ae (envOfC x sg s.heap.objs.size g0 cdv)) :: starEach [] (envOfC x sg s.heap.objs.size g0 cdv) →
        XE G (cxOf C8.CX0 X.prog X.w X.K X.mg X.base Ng x sg g0 cdv X.A X.stack s H C8.E0).nox (.Call (.Name a2' p1) [ae] [] p2) Γz TBool tb) →
      Room (k + 1) (X.A.deeper (envOfC x sg s.heap.objs.size g0 cdv)) →
      ∃ (S : Type) (g : S → Ga) (gl : Empty → Ga) (fin : S → β) (mir : Option (Fl S Empty β)), (∀ F s, υ.rel F .non (fin s)) ∧ fw xs = retF fin mir ∧
        XB G (cxOf C8.CX0 X.prog X.w X.K X.mg X.base Ng x sg g0 cdv X.A X.stack s H C8.E0).nox bg ([some (.sh τ xs), some (.sh (TLam fa c' (X.env.qual ++ "<lambda>") σ Γ) ())] ++ List.replicate (Ng.length - 2) none) g gl υ mir)
    (hdb : (x == ("__debug__" : Str)) = false := by kernel_rfl) (hd : (a2' == ("__debug__" : Str)) = false := by decide) (hcd : (a2' == ("__classdict__" : Str)) = false := by decide)
    (hs : starEach [e, .Lambda pr bd sc lpos] X.env = (false, eval e X.env) :: starEach [.Lambda pr bd sc lpos] X.env := by kernel_rfl) (hpl : (backTo pos (starEach [.Lambda pr bd sc lpos] X.env)).any (·.1) = false := by kernel_rfl) :
    XE G X (.Call (.Name x p) [e, .Lambda pr bd sc lpos] [] pos) Γ υ (bnd ca fun xs => opt (fw xs)) := by
  intro H0 F H σ cf E Qd hrun Q q
  refine ⟨fun pins s I => ?_⟩
  refine wpAny_Call_Name_kw (ld_glob I hg hm ?_ hdb)
  refine PySem.W.callWith_K (h₀ := X.base) I.ok.mod.kin hk ?_ hs hpl
  rw [hs]
  show wpAny _ _ (spliced ((false, eval e X.env) :: backTo pos (starEach [.Lambda pr bd sc lpos] X.env))) _ _ s
  refine Calls.spliced_cons (thn ((ha H0 F H σ cf E _ (run_bnd hrun) (fun v H' => ∃ xs F', run (opt (fw xs) : m β) Qd ∧ Step G F H F' H' ∧ Cf G F' H' ∧ τ.rel F' v xs) (fun y v F' H' d k' cf' r => ⟨y, F', d, k', cf', r⟩)).run pins s I) fun u s1 ⟨v, H1, I1, rv, xs, F1, d1, k1, cf1, r1⟩ => ?_)
  show wpAny _ _ (spliced ((false, eval (.Lambda pr bd sc lpos) X.env) :: backTo pos (starEach [] X.env))) _ _ s1
  refine Calls.spliced_cons (lam_mk I1 TB hcode hmT hu (lg.tab cf1.j) hdef (L.has I1.ok) fun fa c' pm' ct' H2 s2 I2 md T2 hf hfn hfr => ?_)
  obtain ⟨F2, cf2, k2, hFc⟩ := made_cf lg ⟨_, hmT, rfl⟩ cf1 md T2
  refine Calls.spliced_nil ⟨I2.kIn, ?_⟩
  obtain ⟨b, eb, qb⟩ := run_opt d1
  have E2 := (E.step k1).step k2
  have shs : ShS F2 σ Γ := fun i s hs => by
    obtain ⟨w, ew, r⟩ := E2.at_ i s hs
    refine ⟨w, ew, ?_⟩
    cases s with
    | sh τ' x' => exact r
    | ow ω' x' => exact (hno i _ hs trivial).elim
  have rc : codeAny (model X.prog X.w) X.A (.call (.ref g0) ⟨[u, .ref fa], []⟩) (CR C8.CX0 X.stack X.prog X.w H2 s2 Q C8.E0) s2 := by
    refine run_ofS (N := Ng) (ps := [a1', a2']) (us := [u, .ref fa]) (vs := [v, .ref fa]) lk hcg Sg hr I2.env0 (hb s2 [u, .ref fa] I2.kIn rfl) (.cons rv (.cons rfl .nil)) rfl fun hr' => ?_
    obtain ⟨S, g, gl, fin, mir, hfin, hmir, hB⟩ := hG fa c' σ s2 H2 xs (fun Γz Δ {δ} ψ z i tb ae p1 p2 hΓ1 hae hbody' hst => by
      intro H0z Fz Hz σz cfz Ez Qdz hz Qz qz
      refine (pe_act1 (tb := fun v σ' H' Q' => ∀ (A : Around) (outer : List Env) (s : Shared) (H : Hp), Room k (A.deeper (lamEnv X sc s.heap.objs.size fa c')) → semE (lamCx X A outer s H C8.E0 sc fa c') bd σ' H' Q') I2 L hXN hj hf hfn hfr (fun u => hbind _ _ _ _ _ u) hr'
        (fun A outer s H v hroom => ⟨fun pins' s3 σ3 H3 Q3 I3 h3 => (h3 A outer s H hroom).run pins' s3 I3⟩) pe_sem hNg hva hd hcd hst rfl).sem ?_
      obtain ⟨w, ew, rw1, rw2, rw3⟩ := Ez.get hΓ1
      subst rw1
      refine ⟨ew, ?_⟩
      refine hae H0z Fz Hz σz cfz Ez (fun y => y = z) ⟨z, rfl, rfl⟩ _ fun y v3 F3 H3 hy k3 cf3 r3 => ?_
      subst hy
      refine ⟨cf3.sub _ _ (k3.ex _ _ rw2), fun A outer s H hroom => ?_⟩
      have sh3 := rw3.mono k3.ex
      have EL : En G H3 F3 H3 σ Γ := ⟨E.len, fun i s hs => by
        obtain ⟨w, ew, r⟩ := sh3 i s hs
        refine ⟨w, ew, ?_⟩
        cases s with
        | sh τ' x' => exact r
        | ow ω' x' => exact r.elim, fun i j s s' v _ h1 _ o1 _ _ _ => hno i s h1 o1⟩
      exact hbody' A outer s H hroom H3 F3 H3 _ cf3 (EL.set r3) Qdz hz Qz fun y' v' F' H' d k cf r => qz y' v' F' H' d (k3.trans k) cf r) hr'
    refine ⟨_, (pss_sem (X := (cxOf C8.CX0 X.prog X.w X.K X.mg X.base Ng x sg g0 cdv X.A X.stack s2 H2 C8.E0).nox) (ss := bg)).nox, ?_⟩
    have EZ : En G H2 F2 H2 (L2.start Ng [v, .ref fa]) ([some (.sh τ xs), some (.sh (TLam fa c' (X.env.qual ++ "<lambda>") σ Γ) ())] ++ List.replicate (Ng.length - 2) none) :=
      en_start (as := a2 τ (TLam fa c' (X.env.qual ++ "<lambda>") σ Γ)) (a := (xs, (), ())) ⟨v, [.ref fa], rfl, τ.mono k2.ex r1, .ref fa, [], rfl, ⟨rfl, hFc, shs⟩, rfl⟩
    rw [hmir] at eb
    have hrun2 : run (retF fin mir : Option β) Qd := ⟨b, eb, qb⟩
    refine hB F2 H2 F2 H2 _ _ cf2 Step.refl EZ _ (run_bnd hrun2) (fun s F' H' σ' h n _ => ?_) (fun l => l.elim) (fun l => l.elim) fun z v F' H' h n rr => ?_
    · exact q (fin s) .non F' H' (run_ret (m := Option) h) ((k1.trans k2).trans n.st) n.cf (hfin F' s)
    · exact q z v F' H' (run_ret (m := Option) h) ((k1.trans k2).trans n.st) n.cf rr
  refine wpAny_call (codeAny_mono rc fun r s3 hq => ?_)
  cases r with
  | error e => exact (show False from hq).elim
  | ok fl =>
    cases fl with
    | ret u => exact I2.after hq
    | next => exact False.elim hq
    | brk => exact False.elim hq
    | cont => exact False.elim hq
end
end Wc
/-! Core O: sequences of either kind, key types, what a module holds. -/
namespace Wc
open PySem PySem.Spec PyProof.Rows L2
open Mon (ret bnd opt run run_ret run_bnd run_opt)
section
variable {α β : Type} {τ : Ty α} {υ : Ty β} {τ' : Ty α} {υ' : Ty β}
theorem tup_up (h : ∀ F v x, τ.rel F v x → τ'.rel F v x) : ∀ F v x, (TTup τ).rel F v x → (TTup τ').rel F v x := fun F v x ⟨p, o, e1, e2, vs, e3, r⟩ => ⟨p, o, e1, e2, vs, e3, pmono (fun v x r => h F v x r) r⟩
theorem lst_up (h : ∀ F v x, τ.rel F v x → τ'.rel F v x) : ∀ F v x, (TLst τ).rel F v x → (TLst τ').rel F v x := fun F v x ⟨p, o, e1, e2, vs, e3, r⟩ => ⟨p, o, e1, e2, vs, e3, pmono (fun v x r => h F v x r) r⟩
theorem seq_t (h : ∀ F v x, τ.rel F v x → τ'.rel F v x) : ∀ F v x, (TTup τ).rel F v x → (TSeq τ').rel F v x := fun F v x r => .inl (tup_up h F v x r)
theorem seq_l (h : ∀ F v x, τ.rel F v x → τ'.rel F v x) : ∀ F v x, (TLst τ).rel F v x → (TSeq τ').rel F v x := fun F v x r => .inr (lst_up h F v x r)
theorem seq_s (h : ∀ F v x, τ.rel F v x → τ'.rel F v x) : ∀ F v x, (TSeq τ).rel F v x → (TSeq τ').rel F v x := fun F v x r => r.elim (fun r => .inl (tup_up h F v x r)) fun r => .inr (lst_up h F v x r)
theorem t2_up (h : ∀ F v x, τ.rel F v x → τ'.rel F v x) (h' : ∀ F v x, υ.rel F v x → υ'.rel F v x) : ∀ F v x, (T2 τ υ).rel F v x → (T2 τ' υ').rel F v x := fun F v x ⟨p, o, e1, e2, a, b, e3, r1, r2⟩ => ⟨p, o, e1, e2, a, b, e3, h _ _ _ r1, h' _ _ _ r2⟩
theorem ty_id : ∀ F v x, τ.rel F v x → τ.rel F v x := fun _ _ _ r => r
end
/-! ### types of keys -/
def kt2 : KTy (Int × Int) where
  τ := T2 TInt TInt
  enc := fun k => [.inl k.1, .inl k.2]
  inj := fun {a b} h => by
    have h1 := (List.cons.inj h).1
    have h2 := (List.cons.inj (List.cons.inj h).2).1
    exact Prod.ext (Sum.inl.inj h1) (Sum.inl.inj h2)
  ok := fun {F v k} r => by
    obtain ⟨p, o, ev, hF, a, b, eo, r1, r2⟩ := r
    rw [eo, rel_int r1, rel_int r2] at hF
    exact ⟨p, ev, hF⟩
  of := fun {F q k} h => ⟨q, _, rfl, h, _, _, rfl, rfl, rfl⟩
def ktL : KTy (List Int) where
  τ := TTup TInt
  enc := fun k => k.map Sum.inl
  inj := fun {a b} h => by
    induction a generalizing b with
    | nil =>
      cases b with
      | nil => rfl
      | cons y ys => cases h
    | cons x xs ih =>
      cases b with
      | nil => cases h
      | cons y ys =>
        rw [List.map_cons, List.map_cons] at h
        rw [Sum.inl.inj (List.cons.inj h).1, ih (List.cons.inj h).2]
  ok := fun {F v k} r => by
    obtain ⟨p, o, ev, hF, vs, eo, rr⟩ := r
    rw [eo, ints_of rr] at hF
    refine ⟨p, ev, ?_⟩
    rw [hF, List.map_map]
    rfl
  of := fun {F q k} h => ⟨q, _, rfl, h, _, rfl, by
    rw [List.map_map]
    exact ints_to k⟩
section
variable {m : Type → Type} [Mon m] {G : Gs} {X : Cx} {Γ Δ : Ga} {α β γ κ S L R : Type} {τ : Ty α} {υ : Ty β} {φ : Ty γ} {a b e : Expr} {pos : Pos}
theorem En.as {H0 F H : Hp} {σ : L2.St} {i : Nat} {x : α} {v : V} (E : En G H0 F H σ Γ) (hs : σ[i]? = some (some v)) (r : τ.rel F v x) : En G H0 F H σ (Γ.set i (some (.sh τ x))) := by
  have h := E.set (i := i) r
  have e : σ.set i (some v) = σ := by
    refine List.ext_getElem? fun j => ?_
    by_cases hj : i = j
    · subst hj
      rw [List.getElem?_set_self (List.getElem?_eq_some_iff.mp hs).1, hs]
    · rw [List.getElem?_set_ne hj]
  rw [e] at h
  exact h
/-- a name that holds a list or a tuple -/
theorem xe_case {i : Nat} {xs : List α} {c : m β} (hΓ : Γ[i]? = some (some (.sh (TSeq τ) xs))) (h1 : XE G X e (Γ.set i (some (.sh (TTup τ) xs))) υ c) (h2 : XE G X e (Γ.set i (some (.sh (TLst τ) xs))) υ c) : XE G X e Γ υ c := by
  intro H0 F H σ cf E Qd hr Q q
  obtain ⟨v, ev, r⟩ := E.get hΓ
  rcases r with r | r
  · exact h1 H0 F H σ cf (E.as ev r) Qd hr Q q
  · exact h2 H0 F H σ cf (E.as ev r) Qd hr Q q
theorem xi_case {i : Nat} {tg : Expr} {xs : List α} {c : m (List β)} (hΓ : Γ[i]? = some (some (.sh (TSeq τ) xs))) (h1 : XI G X tg e (Γ.set i (some (.sh (TTup τ) xs))) υ c) (h2 : XI G X tg e (Γ.set i (some (.sh (TLst τ) xs))) υ c) : XI G X tg e Γ υ c := by
  intro H0 F H σ cf E Qd hr Q q
  obtain ⟨v, ev, r⟩ := E.get hΓ
  rcases r with r | r
  · exact h1 H0 F H σ cf (E.as ev r) Qd hr Q q
  · exact h2 H0 F H σ cf (E.as ev r) Qd hr Q q
theorem xt_chain {c : Expr} {cop cop' : CmpOp} {r r' : R2} {ca : m α} {cb : m β} {cc : m γ} {k : α → β → m Bool} {k' : β → γ → m Bool} (ho : OpR X (compareOp cop) r) (ho' : OpR X (compareOp cop') r') (hr : RB G r τ υ TBool k) (hr' : RB G r' υ φ TBool k')
    (ha : XE G X a Γ τ ca) (hb : XE G X b Γ υ cb) (hc : XE G X c Γ φ cc) (hm : lastMarks [cop, cop'] [b, c] = false := by kernel_rfl) :
    XT G X (.Compare a [cop, cop'] [b, c] pos) Γ (bnd ca fun x => bnd cb fun y => bnd (k x y) fun t => if t then bnd cc fun z => k' y z else ret false) := by
  intro H0 F H σ cf E Qd hrun Q q
  refine (pt_chain ho ho' pe_sem pe_sem pe_sem hm).sem ?_
  refine ha H0 F H σ cf E _ (run_bnd hrun) _ fun x v F1 H1 d1 k1 cf1 r1 => ?_
  refine hb H0 F1 H1 σ cf1 (E.step k1) _ (run_bnd d1) _ fun y w F2 H2 d2 k2 cf2 r2 => ?_
  refine hr F2 H2 v w x y cf2 (τ.mono k2.ex r1) r2 _ (run_bnd d2) _ fun t u F3 H3 d3 k3 cf3 r3 => ⟨t, r3, ?_⟩
  cases t with
  | true =>
    refine hc H0 F3 H3 σ cf3 (((E.step k1).step k2).step k3) _ (run_bnd d3) _ fun z u F4 H4 d4 k4 cf4 r4 => ?_
    exact hr' F4 H4 w u y z cf4 (υ.mono (k3.trans k4).ex r2) r4 Qd d4 _ fun z u F5 H5 d5 k5 cf5 r5 => ⟨z, r5, q z F5 H5 d5 ((((k1.trans k2).trans k3).trans k4).trans k5) cf5⟩
  | false => exact ⟨false, rfl, q false F3 H3 (run_ret d3) ((k1.trans k2).trans k3) cf3⟩
end
/-! ### what a module holds -/
section
variable {K : PySem.W.Frag} {mg : Str → Option Value}
/-- a def without defaults -/
def DefN (K : PySem.W.Frag) (mg : Str → Option Value) (x : Str) (st : Stmt) : Prop := ∃ f fd, C8.Def K mg x st f fd ∧ fd.defaults = .none
theorem defN_mk {x : Str} {st : Stmt} {h : Heap} {f : Addr} {oc kV doc pm cdv ct : Value} {od an : Option Addr} {osl : Array (Option Value)} (X : K.In h) (g : h.Ns mainGlobals mg) (a1 : PySem.W.nsIn K mainGlobals x = some (some (.ref f)))
    (l1 : K.lookup f = some ⟨oc, od, .func (PySem.W.fnOf x x (C8.fnArgs st) (C8.fnBody st) (C8.fnScope st) .none kV doc pm an cdv ct), osl⟩) (c1 : PySem.W.codeIn K cdv x = true) (k1 : PySem.W.keepIn K (.ref f) = true) : DefN K mg x st :=
  ⟨f, _, ⟨⟨oc, od, .none, kV, doc, pm, an, cdv, ct, osl, rfl, l1, c1⟩, PySem.W.mg_of X g a1, k1⟩, rfl⟩
theorem Cal.le {P : Program} {w : World} {base : Heap} {j k : Nat} {x : Str} {sp : Sp} {dvs : List V} (c : C8.Cal P w K mg base j x sp dvs) (h : j ≤ k) : C8.Cal P w K mg base k x sp dvs := by
  obtain ⟨f, fd, ps, ds, F, r⟩ := c.ex
  exact ⟨f, fd, ps, ds, F.mono h, r⟩
end
end Wc
/-! Core P: comprehensions of two fors, defs with defaults, getters. -/
namespace Wc
open PySem PySem.Spec PyProof.Rows L2
open Mon (ret bnd opt run run_ret run_bnd run_opt)
def allI (X : Cx) (scope : Scope) (tg it : Expr) : TI := fun σ H R => ∀ (s : Shared) (H' : Hp) (C : Addr) (cl : List (Str × Addr)) (fp : List Addr), semI (X.blk s H' scope (compEnvC scope cl C X.env) fp) tg it σ H R
section
variable {X : Cx}
theorem pi_all {scope : Scope} {tg it : Expr} (s : Shared) (H' : Hp) (C : Addr) (cl : List (Str × Addr)) (fp : List Addr) : PI (X.blk s H' scope (compEnvC scope cl C X.env) fp) tg it (allI X scope tg it) := ⟨fun pins s1 _ _ _ I h => (h s H' C cl fp).run pins s1 I⟩
end
section
variable {m : Type → Type} [Mon m] {G : Gs} {X : Cx} {Γ Δ : Ga} {α β γ κ S L R : Type} {τ : Ty α} {υ : Ty β} {φ : Ty γ} {a b e : Expr} {pos : Pos}
def lc2I {α β γ : Type} (ce : α → β → m γ) (x : α) : List β → List γ → m (List γ)
  | [], acc => ret acc
  | y :: ys, acc => bnd (ce x y) fun z => if acc.length < 1000000 then lc2I ce x ys (acc ++ [z]) else opt none
def lc2F {α β γ : Type} (ci : α → m (List β)) (ce : α → β → m γ) : List α → List γ → m (List γ)
  | [], acc => ret acc
  | x :: xs, acc => bnd (ci x) fun ys => bnd (lc2I ce x ys acc) fun acc' => lc2F ci ce xs acc'
def noOw : Ga → Prop
  | [] => True
  | none :: r => noOw r
  | some (.sh _ _) :: r => noOw r
  | some (.ow _ _) :: _ => False
theorem noOw_at : ∀ {Γ : Ga} {i : Nat} {s : Sl}, noOw Γ → Γ[i]? = some (some s) → ¬ s.isOw
  | [], i, s, _, e => by simp at e
  | none :: r, 0, s, _, e => by simp at e
  | some (.sh τ x) :: r, 0, s, _, e => by
    have e1 : some (Sl.sh τ x) = some s := Option.some.inj e
    cases e1
    exact fun z => z
  | some (.ow _ _) :: _, _, _, h, _ => h.elim
  | none :: r, i + 1, s, h, e => noOw_at (Γ := r) (i := i) h (by simpa using e)
  | some (.sh _ _) :: r, i + 1, s, h, e => noOw_at (Γ := r) (i := i) h (by simpa using e)
theorem En.shared {H0 F H F' H' : Hp} {σ : L2.St} (E : En G H0 F H σ Γ) (hno : noOw Γ) (sm : Same F F') : En G H0 F' H' σ Γ :=
  ⟨E.len, fun i s hs => by
    obtain ⟨v, ev, q⟩ := E.at_ i s hs
    refine ⟨v, ev, ?_⟩
    cases s with
    | sh τ x => exact τ.mono sm q
    | ow ω x => exact (noOw_at hno hs trivial).elim, E.sep⟩
theorem lc2_x {scope : Scope} {own : List (Str × Nat)} {vs1 js js1 : List Nat} {tg it tg1 it1 elt : Expr} {f : α → Ga → Ga} {f1 : β → Ga → Ga} {ci : m (List α)} {ci1 : α → m (List β)} {ce : α → β → m γ} (hN : X.N.Nodup) (ok : BlkOk X.N X.env.scope scope own) (hi : XI G X tg it Γ τ ci) (hv : ∀ i ∈ vs1, i ∈ own.map (·.2)) (hno : ∀ x, noOw (f x (wipeG Γ (own.map (·.2)))))
    (hg : Blk X scope fun Y => XG G Y tg τ f js) (hj : ∀ i ∈ js, i ∈ own.map (·.2)) (hi1 : ∀ x, Blk X scope fun Y => XI G Y tg1 it1 (f x (wipeG Γ (own.map (·.2)))) υ (ci1 x)) (hg1 : Blk X scope fun Y => XG G Y tg1 υ f1 js1) (hj1 : ∀ i ∈ js1, i ∈ vs1)
    (he : ∀ x y, Blk X scope fun Y => XE G Y elt (f1 y (wipeG (f x (wipeG Γ (own.map (·.2)))) vs1)) φ (ce x y)) (hc : X.calm = true := by kernel_rfl) (hs : ∀ x, foldedSetIterable it X.env x = pure x := by intro _; kernel_rfl) (hs1 : ∀ env x, foldedSetIterable it1 env x = pure x := by intro _ _; kernel_rfl) :
    ∀ (H0 F H : Hp) (σ : L2.St), Cf G F H → En G H0 F H σ Γ → ∀ Qd : List γ → Prop, run (bnd ci fun xs => lc2F ci1 ce xs []) Qd → ∀ Q : VK, (∀ x p o F' H', Qd x → Step G F H F' H' → Cf G F' H' → (OLst φ).rel F' o x → H' p = none → (∀ ys, o ≠ .tup ys) → (∀ ψ, o ≠ .ext ψ) → Q (.ref p) (upd H' p o)) →
      tLc2 (semI X tg it) (allG X scope tg) tYes (allI X scope tg1 it1) (allG X scope tg1) tYes (allE X scope elt) (own.map (·.2)) vs1 σ H Q := by
  intro H0 F H σ cf E Qd hr Q q
  refine hi H0 F H σ cf E _ (run_bnd hr) _ fun xs J F1 H1 d1 k1 cf1 tw D hD => ?_
  have hF1 : F1 D = none := cf1.fresh hD
  have nm : ¬ G.M D := cf1.nm hD
  refine ⟨fun i mm H' => ∃ acc accV F', mm = xs.length - i ∧ i ≤ xs.length ∧ run (lc2F ci1 ce (xs.drop i) acc) Qd ∧ Cf G F' H' ∧ Step G F1 H1 F' H' ∧ H' D = some (.lst accV) ∧ F' D = none ∧ Paired (φ.rel F') accV acc,
    ⟨xs.length, [], [], F1, rfl, Nat.zero_le _, d1, (cf_own cf1 hD fun xs z => by cases z).1, (cf_own cf1 hD fun xs z => by cases z).2, upd_same, hF1, .nil⟩, ?_⟩
  rintro i mm H2 ⟨acc, accV, F2, rfl, hi', dr, cf2, k2, hD2, hF2, pr⟩
  obtain ⟨hstop, hgo⟩ := tw F2 H2 k2.ex cf2
  by_cases hlt : i < xs.length
  · have hx : xs[i]? = some xs[i] := List.getElem?_eq_getElem hlt
    obtain ⟨go, yl⟩ := hgo i _ hx
    rw [drop_cons hx] at dr
    have dr : run (ci1 xs[i]) (fun ys => run (bnd (lc2I ce xs[i] ys acc) fun acc' => lc2F ci1 ce (xs.drop (i + 1)) acc') Qd) := run_bnd dr
    refine .inr ⟨go, fun H' => ∃ acc accV F', run (lc2F ci1 ce (xs.drop (i + 1)) acc) Qd ∧ Cf G F' H' ∧ Step G F1 H1 F' H' ∧ H' D = some (.lst accV) ∧ F' D = none ∧ Paired (φ.rel F') accV acc,
      fun H' ⟨acc', accV', F', a1, a2, a3, a4, a5, a6⟩ => ⟨xs.length - (i + 1), by omega, acc', accV', F', rfl, hlt, a1, a2, a3, a4, a5, a6⟩, fun v H3 y => ?_⟩
    obtain ⟨F3, k3, cf3, r3⟩ := yl v H3 y
    have E3 : En G H0 F3 H3 (L2.wipe σ (own.map (·.2))) (wipeG Γ (own.map (·.2))) := ((((E.step k1).wipe _).step k2).step k3)
    intro s H' C cl fp
    refine hg s H' C cl fp H0 F3 H3 _ _ v _ cf3 E3 r3 _ fun σ' E' o => ⟨wipe_out o hj, ?_⟩
    show allI X scope tg1 it1 σ' H3 _
    intro s H' C cl fp
    refine hi1 _ s H' C cl fp H0 F3 H3 σ' cf3 E' _ dr _ fun ys J1 F4 H4 d4 k4 cf4 tw1 => ?_
    have d4 : run (lc2I ce xs[i] ys acc) (fun acc' => run (lc2F ci1 ce (xs.drop (i + 1)) acc') Qd) := run_bnd d4
    refine ⟨fun j mm H' => ∃ acc accV F', mm = ys.length - j ∧ j ≤ ys.length ∧ run (lc2I ce xs[i] (ys.drop j) acc) (fun acc' => run (lc2F ci1 ce (xs.drop (i + 1)) acc') Qd) ∧ Cf G F' H' ∧ Same F4 F' ∧ Step G F1 H1 F' H' ∧ H' D = some (.lst accV) ∧ F' D = none ∧ Paired (φ.rel F') accV acc,
      ⟨ys.length, acc, accV, F4, rfl, Nat.zero_le _, d4, cf4, Same.refl _, k2.trans (k3.trans k4), (k3.trans k4).keep D _ hD2 nm, ((k3.trans k4).fr D _ hD2 nm (fun φ z => by cases z)).trans hF2, paired_ext (k3.trans k4).ex pr⟩, ?_⟩
    rintro j mm H5 ⟨acc, accV, F5, rfl, hj', dj, cf5, k5, k15, hD5, hF5, pr5⟩
    obtain ⟨hstop1, hgo1⟩ := tw1 F5 H5 k5 cf5
    by_cases hlj : j < ys.length
    · have hy : ys[j]? = some ys[j] := List.getElem?_eq_getElem hlj
      obtain ⟨go1, yl1⟩ := hgo1 j _ hy
      rw [drop_cons hy] at dj
      have dj := run_bnd dj
      refine .inr ⟨go1, fun H' => ∃ acc accV F', run (lc2I ce xs[i] (ys.drop (j + 1)) acc) (fun acc' => run (lc2F ci1 ce (xs.drop (i + 1)) acc') Qd) ∧ Cf G F' H' ∧ Same F4 F' ∧ Step G F1 H1 F' H' ∧ H' D = some (.lst accV) ∧ F' D = none ∧ Paired (φ.rel F') accV acc,
        fun H' ⟨acc', accV', F', a1, a2, a3, a4, a5, a6, a7⟩ => ⟨ys.length - (j + 1), by omega, acc', accV', F', rfl, hlj, a1, a2, a3, a4, a5, a6, a7⟩, fun v1 H6 y1 => ?_⟩
      obtain ⟨F6, k6, cf6, r6⟩ := yl1 v1 H6 y1
      have E6 := ((((E'.step k4).shared (H' := H5) (hno _) k5).step k6).wipe vs1)
      intro s H' C cl fp
      refine hg1 s H' C cl fp H0 F6 H6 _ _ v1 _ cf6 E6 r6 _ fun σ'' E'' o'' => ⟨wipe_out o'' hj1, ?_⟩
      show allE X scope elt σ'' H6 _
      intro s H' C cl fp
      refine he _ _ s H' C cl fp H0 F6 H6 σ'' cf6 E'' _ dj _ fun z u F7 H7 d7 k7 cf7 r7 => ?_
      have kk := k6.trans k7
      have hD7 : H7 D = some (.lst accV) := kk.keep D _ hD5 nm
      have hF7 : F7 D = none := (kk.fr D _ hD5 nm (fun φ z => by cases z)).trans hF5
      by_cases hl : acc.length < 1000000
      · rw [if_pos hl] at d7
        exact ⟨accV, hD7, by rw [paired_len pr5]; exact small_line hl, acc ++ [z], accV ++ [u], F7, d7, cf_mut cf7 hD7 hF7 nm (fun ψ z => by cases z) (fun ys z => by cases z), k5.trans kk.ex, st_mut (k15.trans kk) hD, upd_same, hF7, paired_snoc (paired_ext kk.ex pr5) r7⟩
      · rw [if_neg hl] at d7
        obtain ⟨_, e, _⟩ := run_opt d7
        cases e
    · have ej : j = ys.length := by omega
      subst ej
      rw [List.drop_length] at dj
      have d3 : run (lc2F ci1 ce (xs.drop (i + 1)) acc) Qd := run_ret (m := m) (x := acc) (Q := fun acc' => run (lc2F ci1 ce (xs.drop (i + 1)) acc') Qd) dj
      exact .inl ⟨hstop1, acc, accV, F5, d3, cf5, k15, hD5, hF5, pr5⟩
  · have ei : i = xs.length := by omega
    subst ei
    rw [List.drop_length] at dr
    have d3 : Qd acc := run_ret (m := m) (x := acc) dr
    refine .inl ⟨hstop, ?_⟩
    rw [show H2 = upd (rmv H2 D) D (.lst accV) from by
      rw [upd_rmv]
      funext c
      by_cases hc : c = D
      · rw [hc, upd_same, hD2]
      · rw [upd_ne hc]]
    exact q acc D (.lst accV) F2 (rmv H2 D) d3 (k1.trans (st_rmv k2 hD)) (cf_rmv cf2 hD2 (fun φ z => by cases z) hF2 nm) ⟨accV, rfl, pr⟩ rmv_same (fun ys z => by cases z) fun ψ z => by cases z
theorem xe_lc2 {scope : Scope} {own : List (Str × Nat)} {vs1 js js1 : List Nat} {tg it tg1 it1 elt : Expr} {f : α → Ga → Ga} {f1 : β → Ga → Ga} {ci : m (List α)} {ci1 : α → m (List β)} {ce : α → β → m γ} (hN : X.N.Nodup) (ok : BlkOk X.N X.env.scope scope own) (hi : XI G X tg it Γ τ ci) (hv : ∀ i ∈ vs1, i ∈ own.map (·.2)) (hno : ∀ x, noOw (f x (wipeG Γ (own.map (·.2)))))
    (hg : Blk X scope fun Y => XG G Y tg τ f js) (hj : ∀ i ∈ js, i ∈ own.map (·.2)) (hi1 : ∀ x, Blk X scope fun Y => XI G Y tg1 it1 (f x (wipeG Γ (own.map (·.2)))) υ (ci1 x)) (hg1 : Blk X scope fun Y => XG G Y tg1 υ f1 js1) (hj1 : ∀ i ∈ js1, i ∈ vs1)
    (he : ∀ x y, Blk X scope fun Y => XE G Y elt (f1 y (wipeG (f x (wipeG Γ (own.map (·.2)))) vs1)) φ (ce x y)) (hc : X.calm = true := by kernel_rfl) (hs : ∀ x, foldedSetIterable it X.env x = pure x := by intro _; kernel_rfl) (hs1 : ∀ env x, foldedSetIterable it1 env x = pure x := by intro _ _; kernel_rfl) :
    XN G X (.ListComp elt [⟨tg, it, [], 0⟩, ⟨tg1, it1, [], 0⟩] scope pos) Γ (OLst φ) (bnd ci fun xs => lc2F ci1 ce xs []) := by
  intro H0 F H σ cf E Qd hr Q q
  refine (pe_lc2 hc hN pi_sem ok hv (fun s H C cl fp => pg_all s H C cl fp) (fun _ _ _ _ _ => pts_nil) (fun s H C cl fp => pi_all s H C cl fp) (fun s H C cl fp => pg_all s H C cl fp) (fun _ _ _ _ _ => pts_nil) (fun s H C cl fp => pe_all s H C cl fp) hs hs1).sem ?_
  exact lc2_x hN ok hi hv hno hg hj hi1 hg1 hj1 he hc hs hs1 H0 F H σ cf E Qd hr Q q
/-- name = [.. for .. for ..] -/
theorem xs_lc2 {i : Nat} {nm : Str} {py spos : Pos} {scope : Scope} {own : List (Str × Nat)} {vs1 js js1 : List Nat} {tg it tg1 it1 elt : Expr} {f : α → Ga → Ga} {f1 : β → Ga → Ga} {ci : m (List α)} {ci1 : α → m (List β)} {ce : α → β → m γ} (hN : X.N.Nodup) (hsw : swapsWith (.ListComp elt [⟨tg, it, [], 0⟩, ⟨tg1, it1, [], 0⟩] scope pos) (some (.Name nm py)) spos.line X.env = pure true) (ok : BlkOk X.N X.env.scope scope own) (hi : XI G X tg it Γ τ ci) (hv : ∀ i ∈ vs1, i ∈ own.map (·.2)) (hno : ∀ x, noOw (f x (wipeG Γ (own.map (·.2)))))
    (hg : Blk X scope fun Y => XG G Y tg τ f js) (hj : ∀ i ∈ js, i ∈ own.map (·.2)) (hi1 : ∀ x, Blk X scope fun Y => XI G Y tg1 it1 (f x (wipeG Γ (own.map (·.2)))) υ (ci1 x)) (hg1 : Blk X scope fun Y => XG G Y tg1 υ f1 js1) (hj1 : ∀ i ∈ js1, i ∈ vs1)
    (he : ∀ x y, Blk X scope fun Y => XE G Y elt (f1 y (wipeG (f x (wipeG Γ (own.map (·.2)))) vs1)) φ (ce x y)) (hy : X.N[i]? = some nm := by kernel_rfl) (hyl : X.env.scope.names.lookup nm = some .local := by kernel_rfl) (hc : X.calm = true := by kernel_rfl) (hs : ∀ x, foldedSetIterable it X.env x = pure x := by intro _; kernel_rfl) (hs1 : ∀ env x, foldedSetIterable it1 env x = pure x := by intro _ _; kernel_rfl) :
    XS G X (.Assign [.Name nm py] (.ListComp elt [⟨tg, it, [], 0⟩, ⟨tg1, it1, [], 0⟩] scope pos) spos) Γ (fun y => Γ.set i (some (.sh (TLst φ) y))) (bnd ci fun xs => lc2F ci1 ce xs []) := by
  intro F0 H0 F H σ D cf k E Qd hr q
  refine (ps_setLc2 hc hN hy hyl hsw pi_sem ok hv (fun s H C cl fp => pg_all s H C cl fp) (fun _ _ _ _ _ => pts_nil) (fun s H C cl fp => pi_all s H C cl fp) (fun s H C cl fp => pg_all s H C cl fp) (fun _ _ _ _ _ => pts_nil) (fun s H C cl fp => pe_all s H C cl fp) hs hs1).sem ?_
  refine lc2_x hN ok hi hv hno hg hj hi1 hg1 hj1 he hc hs hs1 H0 F H σ cf E Qd hr _ fun y p o F' H' d k' cf' r hp nt nx => ?_
  obtain ⟨cf2, k2⟩ := cf_new (o := o) cf' hp
  exact q y _ _ _ d (.mk' k (k'.trans k2) cf2) (((E.step k').step k2).set ⟨p, o, rfl, upd_same, (OLst φ).mono k2.ex r⟩)
end
/-! ### defs with one default None, getters -/
section
variable {P : Program} {w : World} {K : PySem.W.Frag} {mg : Str → Option Value} {base : Heap} {m : Type → Type} [Mon m] {G : Gs} {α β S ρ : Type} {τ : Ty β}
def DefD (K : PySem.W.Frag) (mg : Str → Option Value) (x : Str) (st : Stmt) (ps : List Str) (dvs : List V) : Prop := ∃ f fd ds, C8.Def K mg x st f fd ∧ Vals dvs ds ∧ Binds K fd ps ds
theorem defD_mk {x p1 p2 : Str} {st : Stmt} {h : Heap} {f T : Addr} {oc kV doc pm cdv ct : Value} {od an oD : Option Addr} {osl oS : Array (Option Value)} {oC : Value} {n : Nat} (X : K.In h) (g : h.Ns mainGlobals mg) (a1 : PySem.W.nsIn K mainGlobals x = some (some (.ref f)))
    (l1 : K.lookup f = some ⟨oc, od, .func (PySem.W.fnOf x x (C8.fnArgs st) (C8.fnBody st) (C8.fnScope st) (.ref T) kV doc pm an cdv ct), osl⟩) (c1 : PySem.W.codeIn K cdv x = true) (k1 : PySem.W.keepIn K (.ref f) = true) (t1 : K.lookup T = some ⟨oC, oD, .seq [Value.none].toArray n, oS⟩)
    (hb : ∀ (T : Addr) (kV doc pm : Value) (an : Option Addr) (cdv ct : Value) (us its : List Value), us.length = 1 → its.length = [V.non].length →
      ∃ k, bindArgs (PySem.W.fnOf x x (C8.fnArgs st) (C8.fnBody st) (C8.fnScope st) (.ref T) kV doc pm an cdv ct) ⟨us, []⟩ = seqItems? (.ref T) >>= k ∧ k (some its.toArray) = pure ([p1, p2].zip (us ++ its.drop 0))) : DefD K mg x st [p1, p2] [.non] := by
  have FD : FunD K x x (C8.fnArgs st) (C8.fnBody st) (C8.fnScope st) [.non] [] f (PySem.W.fnOf x x (C8.fnArgs st) (C8.fnBody st) (C8.fnScope st) (.ref T) kV doc pm an cdv ct) :=
    ⟨⟨oc, od, .ref T, kV, doc, pm, an, cdv, ct, osl, rfl, l1, c1, .inr ⟨by simp, T, _, [Value.none], n, rfl, t1, rfl, .cons rfl .nil⟩, .inl rfl⟩, k1⟩
  obtain ⟨ds, r, b⟩ := FD.binds1 (ps := [p1, p2]) 1 0 (by simp) rfl hb
  exact ⟨f, _, ds, ⟨⟨oc, od, .ref T, kV, doc, pm, an, cdv, ct, osl, rfl, l1, c1⟩, PySem.W.mg_of X g a1, k1⟩, r, b⟩
/-- a def's promise without its name (getters, methods) -/
theorem fn_of_xb {as : ATy α} {x qual : Str} {st : Stmt} {f : Addr} {fd : FuncData} {N ps : List Str} {k : Nat} {g : S → Ga} {gl : Empty → Ga} {mir : α → m (Fl S Empty β)} (FD : C8.Fun K x qual st f fd) (sc : FnScope N ps (C8.fnScope st)) (hn : as.n = ps.length) (fin : S → β) (hfin : ∀ F s, τ.rel F .non (fin s))
    (hb : ∀ (a : α) (cdv : Value) (A : Around) (outer : List Env) (s : Shared) (H : Hp) (E : XK), Room k (A.deeper (envOfC qual (C8.fnScope st) s.heap.objs.size f cdv)) →
      XB G (cxOf C8.CX0 P w K mg base N qual (C8.fnScope st) f cdv A outer s H E).nox (C8.fnBody st) (as.ga a ++ List.replicate (N.length - as.n) none) g gl τ (mir a)) :
    FnOk P w K mg base C8.CX0 (k + 1) f fd ps (spF G as τ fun a => retF fin (mir a)) := by
  refine C8.fn0 FD sc (fun vs H Q E h => ?_) fun cdv A outer s H vs Q E hr h => ?_
  · obtain ⟨F, a, _, r, _⟩ := h
    rw [as.len r, hn]
  · obtain ⟨F, a, cf, r, Qd, hrun, q⟩ := h
    refine ⟨_, pss_sem, ?_⟩
    refine hb a cdv A outer s H E hr F H F H _ _ cf Step.refl (en_start r) _ (run_bnd hrun) (fun s F' H' σ' h n _ => ?_) (fun l => l.elim) (fun l => l.elim) fun z v F' H' h n rr => ?_
    · exact q (fin s) .non F' H' (run_ret (m := m) h) n.st n.cf (hfin F' s)
    · exact q z v F' H' (run_ret (m := m) h) n.st n.cf rr
theorem FnOk.imp2 {k : Nat} {f : Addr} {fd : FuncData} {ps : List Str} {as : ATy α} {f1 f2 : α → Option β} (F : FnOk P w K mg base C8.CX0 k f fd ps (spF G as τ f1)) (h : ∀ a b, f2 a = some b → f1 a = some b) : FnOk P w K mg base C8.CX0 k f fd ps (spF G as τ f2) :=
  F.imp fun vs H Q E ⟨F1, a, cf, r, Qd, ⟨b, e, hb⟩, q⟩ => ⟨F1, a, cf, r, Qd, ⟨b, h a b e, hb⟩, q⟩
theorem room65 {k : Nat} {A : Around} (r : Room k A) : A.units + 65 < cLine := by have := r.un; omega
/-- a promise of a stronger mirror -/
theorem Cal.imp {k : Nat} {x : Str} {as : ATy α} {f1 f2 : α → Option β} {dvs : List V} (c : C8.Cal P w K mg base k x (spF G as τ f1) dvs) (h : ∀ a b, f2 a = some b → f1 a = some b) : C8.Cal P w K mg base k x (spF G as τ f2) dvs := by
  obtain ⟨f, fd, ps, ds, F, r⟩ := c.ex
  exact ⟨f, fd, ps, ds, FnOk.imp2 F h, r⟩
end
section
variable {m : Type → Type} [Mon m] {G : Gs} {X : Cx} {Γ : Ga} {α β γ : Type} {τ : Ty β} {υ : Ty α} {e : Expr} {es : List Expr} {pos : Pos}
theorem xe_callP {as : ATy α} {f : α → Option β} {ca : m α} {k j : Nat} {x : Str} {p : Pos} (c : C8.Cal X.prog X.w X.K X.mg X.base k x (spF G as τ f) []) (hr : Room j X.A) (hk : k ≤ j) (ha : XA G X (e :: es) Γ as ca)
    (hg : Gl X x := by show _ = _; kernel_rfl) (hdb : (x == ("__debug__" : Str)) = false := by kernel_rfl) (he : starEach (e :: es) X.env = (false, eval e X.env) :: starEach es X.env := by kernel_rfl) (hpl : (backTo pos (starEach es X.env)).any (·.1) = false := by kernel_rfl) :
    XE G X (.Call (.Name x p) (e :: es) [] pos) Γ τ (bnd ca fun a => opt (f a)) := xe_callO c hr hk ha (ext_id rfl) hg hdb he hpl
theorem xe_callM {as : ATy α} {f : α → m β} {ca : m α} {k j : Nat} {x : Str} {p : Pos} (c : C8.Cal X.prog X.w X.K X.mg X.base k x (spF G as τ f) []) (hr : Room j X.A) (hk : k ≤ j) (ha : XA G X (e :: es) Γ as ca)
    (hg : Gl X x := by show _ = _; kernel_rfl) (hdb : (x == ("__debug__" : Str)) = false := by kernel_rfl) (he : starEach (e :: es) X.env = (false, eval e X.env) :: starEach es X.env := by kernel_rfl) (hpl : (backTo pos (starEach es X.env)).any (·.1) = false := by kernel_rfl) :
    XE G X (.Call (.Name x p) (e :: es) [] pos) Γ τ (bnd ca fun a => f a) := xe_call c hr hk ha (ext_id rfl) hg hdb he hpl
/-- the second parameter left out, it is None -/
theorem xe_callD {f : α × Unit × Unit → Option β} {ca : m (α × Unit)} {k j : Nat} {x : Str} {p : Pos} (c : C8.Cal X.prog X.w X.K X.mg X.base k x (spF G (aCons υ (aCons TNon aNil)) τ f) [.non]) (hr : Room j X.A) (hk : k ≤ j) (ha : XA G X (e :: es) Γ (aCons υ aNil) ca)
    (hg : Gl X x := by show _ = _; kernel_rfl) (hdb : (x == ("__debug__" : Str)) = false := by kernel_rfl) (he : starEach (e :: es) X.env = (false, eval e X.env) :: starEach es X.env := by kernel_rfl) (hpl : (backTo pos (starEach es X.env)).any (·.1) = false := by kernel_rfl) :
    XE G X (.Call (.Name x p) (e :: es) [] pos) Γ τ (bnd ca fun a => opt (f (a.1, (), ()))) :=
  xe_callO (ext := fun a => (a.1, (), ())) c hr hk ha (fun F vs a ⟨v, r, e, h1, h2⟩ => ⟨v, [.non], by rw [e, show r = [] from h2]; rfl, h1, .non, [], rfl, rfl, rfl⟩) hg hdb he hpl
end
end Wc
/-! Core Q: defs that make lambdas, a slot's def called. -/
namespace Wc
open PySem PySem.Spec PyProof.Rows L2 LamX
open Mon (ret bnd opt run run_ret run_bnd run_opt)
section
variable {m : Type → Type} [Mon m] {G : Gs} {X : Cx} {Γ : Ga} {α β S : Type} {τ : Ty β} {e : Expr} {es : List Expr} {pos : Pos}
/-- a slot holds a def: called -/
theorem xe_callL {as : ATy α} {fo : α → Option β} {ca : m α} {i k j : Nat} {f : Addr} {fd : FuncData} {ps : List Str} {x : Str} {p : Pos} (FO : FnOk X.prog X.w X.K X.mg X.base C8.CX0 k f fd ps (spF G as τ fo)) (hr : Room j X.A) (hk : k ≤ j) (hv : Vis X.env.scope x) (kp : PySem.W.keepIn X.K (.ref f) = true) (hb : Binds X.K fd ps [])
    (hΓ : Γ[i]? = some (some (.sh (TRaw (.ref f)) ()))) (ha : XA G X (e :: es) Γ as ca) (hN : X.N[i]? = some x := by kernel_rfl) (hdb : (x == ("__debug__" : Str)) = false := by kernel_rfl) (hcd : (x == ("__classdict__" : Str)) = false := by kernel_rfl)
    (he : starEach (e :: es) X.env = (false, eval e X.env) :: starEach es X.env := by kernel_rfl) (hpl : (backTo pos (starEach es X.env)).any (·.1) = false := by kernel_rfl) : XE G X (.Call (.Name x p) (e :: es) [] pos) Γ τ (bnd ca fun a => opt (fo a)) := by
  intro H0 F H σ cf E Qd hrun Q q
  refine (pe_callL (E := C8.E0) FO (hr.mono hk) hN hv kp hb .nil C8.pass0 pa_sem hdb hcd he hpl).sem ?_
  obtain ⟨v, ev, rv⟩ := E.get hΓ
  rw [show v = .ref f from rv] at ev
  refine ⟨ev, ?_⟩
  refine ha H0 F H σ cf E _ (run_bnd hrun) _ fun a vs F1 H1 d1 k1 cf1 r1 => ?_
  rw [List.append_nil]
  exact ⟨F1, a, cf1, r1, Qd, run_opt (m := m) d1, fun y v F' H' hy k2 cf2 rr => q y v F' H' hy (k1.trans k2) cf2 rr⟩
/-- a def's name as a value -/
theorem xe_defv {x : Str} {f : Addr} {p : Pos} (hm : X.mg x = some (.ref f)) (hg : Gl X x := by show _ = _; kernel_rfl) (hdb : (x == ("__debug__" : Str)) = false := by kernel_rfl) : XE G X (.Name x p) Γ (TRaw (.ref f)) (ret () : m Unit) := xe_val (v := .ref f) (C8.pe_gc hg ⟨_, hm, rfl⟩ hdb) fun _ => rfl
end
/-- a def whose code object's table is known -/
def DefL (K : PySem.W.Frag) (mg : Str → Option Value) (base : Heap) (T : List (Addr × Str)) (x : Str) (st : Stmt) (q : Str) : Prop :=
  ∃ (f c Pt : Addr) (oc : Value) (od : Option Addr) (kV doc pm : Value) (an : Option Addr) (ct : Value) (osl : Array (Option Value)), mg x = some (.ref f) ∧ PySem.W.keepIn K (.ref f) = true ∧
    K.lookup f = some ⟨oc, od, .func (PySem.W.fnOf x x (C8.fnArgs st) (C8.fnBody st) (C8.fnScope st) .none kV doc pm an (.ref c) ct), osl⟩ ∧ PySem.W.codeIn K (.ref c) x = true ∧ TabB base mg c Pt ∧ (Pt, q) ∈ T ∧ ∀ p ∈ T, p.1 = Pt → p.2 = q
section
variable {P : Program} {w : World} {K : PySem.W.Frag} {mg : Str → Option Value} {base : Heap} {T : List (Addr × Str)} {m : Type → Type} [Mon m] {G : Gs} {α β S : Type} {τ : Ty β}
theorem def_ofL {as : ATy α} {x q : Str} {st : Stmt} {N ps : List Str} {k : Nat} {g : S → Ga} {gl : Empty → Ga} {mir : α → m (Fl S Empty β)} (D : DefL K mg base T x st q)
    (hbind : ∀ (kV doc pm : Value) (an : Option Addr) (cdv ct : Value) (us : List Value), us.length = ps.length → bindArgs (PySem.W.fnOf x x (C8.fnArgs st) (C8.fnBody st) (C8.fnScope st) .none kV doc pm an cdv ct) ⟨us, []⟩ = pure (ps.zip us))
    (sc : FnScope N ps (C8.fnScope st)) (hn : as.n = ps.length) (fin : S → β) (hfin : ∀ F s, τ.rel F .non (fin s))
    (hb : ∀ (a : α) (f c Pt : Addr) (A : Around) (outer : List Env) (s : Shared) (H : Hp) (E : XK), TabB base mg c Pt → (Pt, q) ∈ T → (∀ p ∈ T, p.1 = Pt → p.2 = q) → Room k (A.deeper (envOfC x (C8.fnScope st) s.heap.objs.size f (.ref c))) →
      XB G (cxOf C8.CX0 P w K mg base N x (C8.fnScope st) f (.ref c) A outer s H E).nox (C8.fnBody st) (as.ga a ++ List.replicate (N.length - as.n) none) g gl τ (mir a)) :
    C8.Cal P w K mg base (k + 1) x (spF G as τ fun a => retF fin (mir a)) [] := by
  obtain ⟨f, c, Pt, oc, od, kV, doc, pm, an, ct, osl, hm, kp, lk, hcd, TB, hT, hu⟩ := D
  have FD : C8.Fun K x x st f (PySem.W.fnOf x x (C8.fnArgs st) (C8.fnBody st) (C8.fnScope st) .none kV doc pm an (.ref c) ct) := ⟨⟨oc, od, .none, kV, doc, pm, an, .ref c, ct, osl, rfl, lk, hcd⟩⟩
  refine ⟨f, _, ps, [], ?_, hm, kp, FD.binds rfl hbind, .nil⟩
  refine fn_of lk hcd sc (fun vs H Q E h => ?_) fun A outer s H vs Q E hr h => ?_
  · obtain ⟨F, a, _, r, _⟩ := h
    rw [as.len r, hn]
  · obtain ⟨F, a, cf, r, Qd, hrun, q'⟩ := h
    refine ⟨_, (pss_sem (X := (cxOf C8.CX0 P w K mg base N x (C8.fnScope st) f (.ref c) A outer s H E).nox)).nox, ?_⟩
    refine hb a f c Pt A outer s H E TB hT hu hr F H F H _ _ cf Step.refl (en_start r) _ (run_bnd hrun) (fun s F' H' σ' h n _ => ?_) (fun l => l.elim) (fun l => l.elim) fun z v F' H' h n rr => ?_
    · exact q' (fin s) .non F' H' (run_ret (m := m) h) n.st n.cf (hfin F' s)
    · exact q' z v F' H' (run_ret (m := m) h) n.st n.cf rr
end
end Wc
/-! Core R: the tape. -/
namespace Wc
open PySem PySem.Spec PyProof.Rows L2 LamX
open Mon (ret bnd opt run run_ret run_bnd run_opt)
def tapeK (L Cc : Addr) (r t : Int) : List (Key × V) := [(.inr "large", .ref L), (.inr "rest", .int r), (.inr "cells", .ref Cc), (.inr "turn", .int t)]
def TapeOk (D L Cc : Addr) (cs : List Int) (H : Hp) : Prop := ∃ (ls : List Int) (r t : Int), H D = some (.dK (tapeK L Cc r t)) ∧ H L = some (.lst (ls.map V.int)) ∧ H Cc = some (.lst (cs.map V.int))
/-- the tables alone -/
def Gt (T : List (Addr × Str)) : Gs where
  M := fun a => ∃ p ∈ T, p.1 = a
  J := fun H => Tabs T H
  mex := fun {H a} j ⟨p, hp, e⟩ => by
    obtain ⟨ps, h1, _⟩ := j p hp
    rw [← e]
    exact ⟨_, h1, ⟨fun xs z => (by cases z), fun ψ z => (by cases z)⟩⟩
  st := fun {H H'} j k p hp => by
    obtain ⟨ps, h1, h2, h3⟩ := j p hp
    refine ⟨ps, k _ _ h1 (.inl ⟨p, hp, rfl⟩), h2, fun pos cv hc => ?_⟩
    obtain ⟨c, e1, e2⟩ := h3 pos cv hc
    exact ⟨c, e1, k _ _ e2 (.inr ⟨_, rfl⟩)⟩
theorem lg_t {T : List (Addr × Str)} : LG T (Gt T) := ⟨fun j => j, fun p hp => ⟨p, hp, rfl⟩, fun _ _ _ _ _ t => t⟩
/-- the tables and the tape -/
def Gtp (T : List (Addr × Str)) (D L Cc : Addr) (cs : List Int) : Gs where
  M := fun a => (∃ p ∈ T, p.1 = a) ∨ a = D ∨ a = L ∨ a = Cc
  J := fun H => Tabs T H ∧ TapeOk D L Cc cs H
  mex := fun {H a} j m => by
    obtain ⟨j1, ls, r, t, h1, h2, h3⟩ := j
    rcases m with ⟨p, hp, e⟩ | e | e | e
    · obtain ⟨ps, h1, _⟩ := j1 p hp
      rw [← e]
      exact ⟨_, h1, ⟨fun xs z => (by cases z), fun ψ z => (by cases z)⟩⟩
    · rw [e]
      exact ⟨_, h1, ⟨fun xs z => (by cases z), fun ψ z => (by cases z)⟩⟩
    · rw [e]
      exact ⟨_, h2, ⟨fun xs z => (by cases z), fun ψ z => (by cases z)⟩⟩
    · rw [e]
      exact ⟨_, h3, ⟨fun xs z => (by cases z), fun ψ z => (by cases z)⟩⟩
  st := fun {H H'} j k => by
    obtain ⟨j1, ls, r, t, h1, h2, h3⟩ := j
    refine ⟨(Gt T).st j1 fun b o e m => k b o e (m.elim (fun z => .inl (.inl z)) .inr), ls, r, t, k _ _ h1 (.inl (.inr (.inl rfl))), k _ _ h2 (.inl (.inr (.inr (.inl rfl)))), k _ _ h3 (.inl (.inr (.inr (.inr rfl))))⟩
theorem lg_tp {T : List (Addr × Str)} {D L Cc : Addr} {cs : List Int} : LG T (Gtp T D L Cc cs) := by
  refine ⟨fun j => j.1, fun p hp => .inl ⟨p, hp, rfl⟩, fun {H H1 P c' q ps more} j _ eP hn e t => ⟨t, ?_⟩⟩
  obtain ⟨_, ls, r, tt, h1, h2, h3⟩ := j
  have keep : ∀ {a : Addr} {o : HO}, H a = some o → (∀ ps, o ≠ .tbl ps) → H1 a = some o := fun {a o} e1 nt => by
    rw [e, upd_ne (ne_of_none e1 hn), upd_ne (fun z => by
      rw [z, eP] at e1
      exact nt _ (Option.some.inj e1).symm)]
    exact e1
  exact ⟨ls, r, tt, keep h1 (fun ps z => by cases z), keep h2 (fun ps z => by cases z), keep h3 (fun ps z => by cases z)⟩
section
variable {G : Gs} {F H : Hp} {a : Addr} {o : HO}
/-- what the Gs allows is changed -/
theorem cf_M (cf : Cf G F H) (hm : G.M a) (nt : ∀ xs, o ≠ .tup xs) (j : G.J (upd H a o)) : Cf G F (upd H a o) ∧ Step G F H F (upd H a o) := by
  have hF := cf.m a hm
  refine ⟨⟨fun b u e => ?_, fun b xs e => ?_, j, cf.m⟩, ⟨Same.refl _, fun b u e n => ?_, fun b u e => ?_, fun _ _ _ _ _ => rfl⟩⟩
  · rw [upd_ne (fun z => by rw [z, hF] at e; cases e)]
    exact cf.sub b u e
  · by_cases z : b = a
    · rw [z, upd_same] at e
      exact absurd (Option.some.inj e) (nt xs)
    · rw [upd_ne z] at e
      exact cf.tup b xs e
  · rw [upd_ne (fun z => n (by rw [z]; exact hm))]
    exact e
  · by_cases z : b = a
    · exact ⟨o, by rw [z, upd_same]⟩
    · exact ⟨u, by rw [upd_ne z]; exact e⟩
end
def anyI : M Int := fun Q => ∀ t, Q t
section
variable {X : Cx} {Γ : Ga} {T : List (Addr × Str)} {D L Cc : Addr} {cs : List Int} {i : Nat} {nm key : Str} {np kp pos tpos : Pos} {j : Nat} {e : Expr}
/-- tape['rest'], tape['turn'] -/
theorem xe_tapeI (hu : X.A.units + 64 < cLine) (hk : key = "rest" ∨ key = "turn") (hΓ : Γ[i]? = some (some (.sh (TRaw (.ref D)) ()))) (hv : Vis X.env.scope nm) (hN : X.N[i]? = some nm := by kernel_rfl) (hs : NoSl (.Constant (.str key) j kp) := by exact fun _ _ => by kernel_rfl) (hd : (nm == ("__debug__" : Str)) = false := by kernel_rfl) (hcd : (nm == ("__classdict__" : Str)) = false := by kernel_rfl) :
    XE (Gtp T D L Cc cs) X (.Subscript (.Name nm np) (.Constant (.str key) j kp) pos) Γ TInt anyI := by
  intro H0 F H σ cf E Qd hr Q q
  refine (pe_dget (by omega) (pe_var hN hv hd hcd) pe_str hs).sem ?_
  obtain ⟨v, ev, rv⟩ := E.get hΓ
  rw [show v = .ref D from rv] at ev
  refine ⟨.ref D, ev, ?_⟩
  obtain ⟨_, ls, r, t, h1, h2, h3⟩ := cf.j
  rcases hk with hk | hk
  · subst hk
    exact ⟨D, .int r, rfl, DGet.k (k := .inr "rest") h1, q r (.int r) F H (hr r) Step.refl cf rfl⟩
  · subst hk
    exact ⟨D, .int t, rfl, DGet.k (k := .inr "turn") h1, q t (.int t) F H (hr t) Step.refl cf rfl⟩
/-- tape['rest'] = e, tape['turn'] = e -/
theorem xs_tapeI {c : M Int} (hu : X.A.units + 64 < cLine) (hk : key = "rest" ∨ key = "turn") (h : XE (Gtp T D L Cc cs) X e Γ TInt c) (hLC : L ≠ Cc) (hΓ : Γ[i]? = some (some (.sh (TRaw (.ref D)) ()))) (hv : Vis X.env.scope nm) (hN : X.N[i]? = some nm := by kernel_rfl)
    (hs : swapsWith e (some (.Subscript (.Name nm np) (.Constant (.str key) j kp) tpos)) pos.line X.env = pure false := by kernel_rfl) (hd : (nm == ("__debug__" : Str)) = false := by kernel_rfl) (hcd : (nm == ("__classdict__" : Str)) = false := by kernel_rfl) :
    XS (Gtp T D L Cc cs) X (.Assign [.Subscript (.Name nm np) (.Constant (.str key) j kp) tpos] e pos) Γ (fun _ => Γ) c := by
  intro F0 H0 F H σ D' cf k E Qd hrun q
  refine (ps_dput (by omega) (pe_var hN hv hd hcd) pe_str pe_sem hs).sem ?_
  refine h H0 F H σ cf E Qd hrun _ fun y v F1 H1 d1 k1 cf1 r1 => ?_
  obtain ⟨w, ev, rw'⟩ := E.get hΓ
  rw [show w = .ref D from rw'] at ev
  refine ⟨.ref D, ev, ?_⟩
  obtain ⟨jT, ls, r, t, h1, h2, h3⟩ := cf1.j
  rw [rel_int r1]
  have nDL : L ≠ D := fun z => by
    rw [z, h1] at h2
    cases h2
  have nDC : Cc ≠ D := fun z => by
    rw [z, h1] at h3
    cases h3
  have tabs : ∀ kvs, Tabs T (upd H1 D (.dK kvs)) := fun kvs => by
    have nT : ∀ {a : Addr} {u : HO}, H1 a = some u → (∀ k, u ≠ .dK k) → a ≠ D := fun {a u} e1 nk z => by
      rw [z, h1] at e1
      exact nk _ (Option.some.inj e1).symm
    intro p hp
    obtain ⟨ps, a1, a2, a3⟩ := jT p hp
    refine ⟨ps, by rw [upd_ne (nT a1 fun k z => by cases z)]; exact a1, a2, fun pos cv hc => ?_⟩
    obtain ⟨c, e1, e2⟩ := a3 pos cv hc
    refine ⟨c, e1, ?_⟩
    rw [upd_ne (nT e2 fun k z => by
      unfold CodeO at z
      cases z)]
    exact e2
  have fin : ∀ kvs, (∃ r t, kvs = tapeK L Cc r t) → D'.nx σ (upd H1 D (.dK kvs)) := fun kvs ⟨r', t', ek⟩ => by
    obtain ⟨cf2, k2⟩ := cf_M (o := .dK kvs) cf1 (.inr (.inl rfl)) (fun xs z => by cases z) ⟨tabs kvs, ls, r', t', by rw [upd_same, ek], by rw [upd_ne nDL]; exact h2, by rw [upd_ne nDC]; exact h3⟩
    exact q y F1 _ σ d1 (.mk' k (k1.trans k2) cf2) (E.step (k1.trans k2))
  rcases hk with hk | hk
  · subst hk
    exact ⟨D, _, rfl, DPut.k (k := .inr "rest") h1 (by show 4 < sizeLine; decide), fin _ ⟨y, t, by kernel_rfl⟩⟩
  · subst hk
    exact ⟨D, _, rfl, DPut.k (k := .inr "turn") h1 (by show 4 < sizeLine; decide), fin _ ⟨r, y, by kernel_rfl⟩⟩
/-- tape['large'].pop(0) if tape['large'] != [] else e -/
def popOr (c : M Int) : M Int := fun Q => (∀ t, Q t) ∧ c Q
theorem dp_ints {K : PySem.W.Frag} {H : Hp} : ∀ ls : List Int, DpAll K H (ls.map V.int) (ls.map PyData.int)
  | [] => .nil
  | _ :: ls => .cons (.int _) (dp_ints ls)
theorem xe_tapePop {np1 np2 kp1 kp2 sp1 sp2 lp cp ap zp cpos : Pos} {j1 j2 jz : Nat} {c : M Int} (hu : X.A.units + 64 < cLine) (h : XE (Gtp T D L Cc cs) X e Γ TInt c) (hLC : L ≠ Cc) (hΓ : Γ[i]? = some (some (.sh (TRaw (.ref D)) ()))) (hv : Vis X.env.scope nm) (hN : X.N[i]? = some nm := by kernel_rfl)
    (hs1 : NoSl (.Constant (.str "large") j1 kp1) := by exact fun _ _ => by kernel_rfl) (hs2 : NoSl (.Constant (.str "large") j2 kp2) := by exact fun _ _ => by kernel_rfl) (hd : (nm == ("__debug__" : Str)) = false := by kernel_rfl) (hcd : (nm == ("__classdict__" : Str)) = false := by kernel_rfl)
    (hb : attributeBase (.Subscript (.Name nm np2) (.Constant (.str "large") j2 kp2) sp2) "pop" X.env (eval (.Subscript (.Name nm np2) (.Constant (.str "large") j2 kp2) sp2) X.env) = eval (.Subscript (.Name nm np2) (.Constant (.str "large") j2 kp2) sp2) X.env := by kernel_rfl)
    (hfew : ((backTo cpos (starEach [.Constant (.int 0) jz zp] X.env)).all (fun x => !x.1) && (backToKw cpos (keywordEach [] X.env)).all (fun x => x.1.isSome) && decide (([.Constant (.int 0) jz zp] : List Expr).length + ([] : List Keyword).length + (if ([] : List Keyword).isEmpty then 0 else 1) < 30)) = true := by kernel_rfl)
    (hline : (ap.endLine == cpos.line) = true := by kernel_rfl) (hst : starEach [.Constant (.int 0) jz zp] X.env = (false, eval (.Constant (.int 0) jz zp) X.env) :: starEach [] X.env := by kernel_rfl) (hpl : (backTo cpos (starEach [] X.env)).any (·.1) = false := by kernel_rfl) (hm : behindInMarks .NotEq (.List [] lp) = false := by kernel_rfl) :
    XE (Gtp T D L Cc cs) X (.IfExp (.Compare (.Subscript (.Name nm np1) (.Constant (.str "large") j1 kp1) sp1) [.NotEq] [.List [] lp] cp) (.Call (.Attribute (.Subscript (.Name nm np2) (.Constant (.str "large") j2 kp2) sp2) "pop" ap) [.Constant (.int 0) jz zp] [] cpos) e pos) Γ TInt (popOr c) := by
  intro H0 F H σ cf E Qd hr Q q
  refine (pe_ifExp (pt_cmpR (op_neD hu) (pe_dget (by omega) (pe_var hN hv hd hcd) pe_str hs1) (pe_lst pa_nil) hm)
    (pe_bm PySem.F.plainAttrs_list PySem.F.slot_list_pop PySem.F.type_list_pop mt_popAt (pe_dget (by omega) (pe_var hN hv hd hcd) pe_str hs2) (pa_cons pe_int pa_nil hst) hb hfew hline hst hpl) pe_sem).sem ?_
  obtain ⟨v, ev, rv⟩ := E.get hΓ
  rw [show v = .ref D from rv] at ev
  obtain ⟨jT, ls, r, t, h1, h2, h3⟩ := id cf.j
  refine ⟨.ref D, ev, D, .ref L, rfl, DGet.k (k := .inr "large") h1, ?_⟩
  refine ⟨Nat.zero_le _, fun p hp => ?_⟩
  obtain ⟨cf1, k1⟩ := cf_own (o := .lst []) cf hp (fun xs z => by cases z)
  obtain ⟨jT1, ls1, r1, t1, h11, h21, h31⟩ := id cf1.j
  have e1 : ls1 = ls := by
    rw [upd_ne (ne_of_none h2 hp), h2] at h21
    exact (List.map_inj_right (fun a b z => V.int.inj z)).mp (HO.lst.inj (Option.some.inj h21)).symm
  subst e1
  refine ⟨.list (ls1.map PyData.int), .list [], .lst (.inl (.inl h21)) (dp_ints ls1), .lst (.inl (.inl upd_same)) .nil, ?_, by decide, _, rfl, ?_⟩
  · exact (dLst dInt).shaped (by decide) ls1
  · have e2 : (!PyData.eqv (.list (ls1.map PyData.int)) (.list [])) = !decide (ls1 = []) := by rw [show PyData.eqv (.list (ls1.map PyData.int)) (.list []) = _ from (dLst dInt).eqv ls1 []]
    rw [e2]
    have E1 := E.step k1
    cases ls1 with
    | nil =>
      show semE X e σ _ Q
      exact h H0 F _ σ cf1 E1 Qd hr.2 Q fun y v F' H' hy k2 cf2 rr => q y v F' H' hy (k1.trans k2) cf2 rr
    | cons z zs =>
      show tBM X.K "list" rPopAt (tDGet (tVar i) (tC (V.str "large"))) (tCons (tC (V.int 0)) tNil) σ _ Q
      refine ⟨.ref D, ev, D, .ref L, rfl, DGet.k (k := .inr "large") h11, .inl ⟨rfl, _, .inl (.inl h21)⟩, ?_⟩
      refine ⟨L, _, 0, 0, .int z, rfl, rfl, h21, by decide, by decide, by simp [seqIndex?], rfl, ?_⟩
      have nDL : D ≠ L := fun z => by
        rw [z, h21] at h11
        cases h11
      have nT : ∀ {a : Addr} {u : HO}, upd H p (.lst []) a = some u → (∀ k, u ≠ .lst k) → a ≠ L := fun {a u} e1 nk z => by
        rw [z, h21] at e1
        exact nk _ (Option.some.inj e1).symm
      have tabs : Tabs T (upd (upd H p (.lst [])) L (.lst (zs.map V.int))) := by
        intro p' hp'
        obtain ⟨ps, a1, a2, a3⟩ := jT1 p' hp'
        refine ⟨ps, by rw [upd_ne (nT a1 fun k z => by cases z)]; exact a1, a2, fun pos cv hc => ?_⟩
        obtain ⟨c, e1, e2⟩ := a3 pos cv hc
        refine ⟨c, e1, ?_⟩
        rw [upd_ne (nT e2 fun k z => by
          unfold CodeO at z
          cases z)]
        exact e2
      obtain ⟨cf2, k2⟩ := cf_M (o := .lst (zs.map V.int)) cf1 (.inr (.inr (.inl rfl))) (fun xs z => by cases z) ⟨tabs, zs, r1, t1, by rw [upd_ne nDL]; exact h11, upd_same, by rw [upd_ne (Ne.symm hLC)]; exact h31⟩
      exact q z (.int z) F _ (hr.1 z) (k1.trans k2) cf2 rfl
/-- for x in tape['cells'] -/
theorem xi_cells {tg : Expr} (hu : X.A.units + 64 < cLine) (hΓ : Γ[i]? = some (some (.sh (TRaw (.ref D)) ()))) (hv : Vis X.env.scope nm) (hN : X.N[i]? = some nm := by kernel_rfl) (hs : NoSl (.Constant (.str "cells") j kp) := by exact fun _ _ => by kernel_rfl) (hd : (nm == ("__debug__" : Str)) = false := by kernel_rfl) (hcd : (nm == ("__classdict__" : Str)) = false := by kernel_rfl) :
    XI (Gtp T D L Cc cs) X tg (.Subscript (.Name nm np) (.Constant (.str "cells") j kp) pos) Γ TInt (ret cs : M (List Int)) := by
  intro H0 F H σ cf E Qd hr R q
  refine (pi_list (pe_dget (by omega) (pe_var hN hv hd hcd) pe_str hs)).sem ?_
  obtain ⟨v, ev, rv⟩ := E.get hΓ
  rw [show v = .ref D from rv] at ev
  obtain ⟨_, ls, r, t, h1, h2, h3⟩ := id cf.j
  refine ⟨.ref D, ev, D, .ref Cc, rfl, DGet.k (k := .inr "cells") h1, Cc, rfl, ⟨_, .inl (.inl h3)⟩, ?_⟩
  refine q cs _ F H hr Step.refl cf (tw_of (walk_list (xs := cs.map V.int)) (by rw [List.length_map]) (fun F2 H2 sm cf2 => ?_) fun F2 H2 sm cf2 i x v H3 hx y => ?_)
  · obtain ⟨_, _, _, _, _, _, a3⟩ := cf2.j
    exact .inl (.inl a3)
  · obtain ⟨e, hv⟩ := y
    subst e
    rw [List.getElem?_map, hx] at hv
    exact ⟨F2, Step.refl, cf2, (Option.some.inj hv).symm⟩
end
end Wc
/-! Core S: the script, powers, the tape's making. -/
namespace Wc
open PySem PySem.Spec PyProof.Rows L2 LamX
open Mon (ret bnd opt run run_ret run_bnd run_opt)
/-- the script: a list of ints, wherever it stands -/
def TScr (K : PySem.W.Frag) : Ty (List Int) := ⟨fun F v xs => ∃ a, v = .ref a ∧ SqL K F a (xs.map V.int), fun e ⟨a, h1, h2⟩ => ⟨a, h1, e.seq h2⟩⟩
/-- a new tape: what its large numbers and cells are -/
def TTape0 : Ty (List Int × List Int) := ⟨fun F v x => ∃ D L Cc r t, v = .ref D ∧ F D = some (.dK (tapeK L Cc r t)) ∧ F L = some (.lst (x.1.map V.int)) ∧ F Cc = some (.lst (x.2.map V.int)) ∧ L ≠ Cc, fun e ⟨D, L, Cc, r, t, h1, h2, h3, h4, h5⟩ => ⟨D, L, Cc, r, t, h1, e _ _ h2, e _ _ h3, e _ _ h4, h5⟩⟩
section
variable {m : Type → Type} [Mon m] {G : Gs} {X : Cx} {Γ : Ga} {α β : Type} {τ : Ty α} {a b e : Expr} {pos : Pos}
def powC (i j : Int) : Option Int := if 0 ≤ j ∧ j ≤ 1000000 ∧ i.natAbs < 18446744073709551616 then some (i ^ j.toNat) else none
theorem rb_pow : RB G (rI CPow fun i j => .int (i ^ j.toNat)) TInt TInt TInt (fun i j => (opt (powC i j) : m Int)) := rb_opt fun F H v u x y z cf rx ry e => by
  unfold powC at e
  split at e
  · rename_i h
    cases e
    exact ⟨.int (x ^ y.toNat), rfl, fun Q q => ⟨x, y, rx, ry, ⟨h.1, h.2.1, h.2.2⟩, q⟩⟩
  · cases e
theorem scr_sq {F H : Hp} {K : PySem.W.Frag} {p : Addr} {vs : List V} (cf : Cf G F H) (h : SqL K F p vs) : SqL K H p vs := cf.sub.seq h
theorem xi_scr {tg : Expr} {c : m (List Int)} (h : XE G X e Γ (TScr X.K) c) : XI G X tg e Γ TInt c := by
  intro H0 F H σ cf E Qd hr R q
  refine (pi_list pe_sem).sem ?_
  refine h H0 F H σ cf E Qd hr _ fun xs v F1 H1 d1 k1 cf1 r1 => ?_
  obtain ⟨p, ev, hs⟩ := r1
  refine ⟨p, ev, ⟨_, scr_sq cf1 hs⟩, q xs _ F1 H1 d1 k1 cf1 (tw_of (walk_list (xs := xs.map V.int)) (by rw [List.length_map]) (fun F2 H2 sm cf2 => scr_sq cf2 (sm.seq hs)) fun F2 H2 sm cf2 i x v H3 hx y => ?_)⟩
  obtain ⟨e, hv⟩ := y
  subst e
  rw [List.getElem?_map, hx] at hv
  exact ⟨F2, Step.refl, cf2, (Option.some.inj hv).symm⟩
theorem rc_lenScr {K : PySem.W.Frag} : RC G (fun xs H Q => ∃ p ys, xs = [.ref p] ∧ (SqL K H p ys ∨ SqT K H p ys) ∧ Q (.int ys.length) H) (a1 (TScr K)) TInt (fun x => (ret ((x.1.length : Nat) : Int) : m Int)) := rc_pure fun F H vs x cf rx => by
  obtain ⟨v, e, r⟩ := a1_rel rx
  obtain ⟨p, ev, hs⟩ := r
  exact ⟨.int x.1.length, rfl, fun Q q => ⟨p, _, by rw [e, ev], .inl (scr_sq cf hs), by rw [List.length_map]; exact q⟩⟩
/-- [elt for tg in it], one's own -/
theorem xn_lc {γ : Type} {υ : Ty β} {scope : Scope} {own : List (Str × Nat)} {tg it elt : Expr} {js : List Nat} {f : α → Ga → Ga} {ci : m (List α)} {ce : α → m β} (hN : X.N.Nodup) (ok : BlkOk X.N X.env.scope scope own) (hi : XI G X tg it Γ τ ci)
    (hg : Blk X scope fun Y => XG G Y tg τ f js) (hj : ∀ i ∈ js, i ∈ own.map (·.2)) (he : ∀ x, Blk X scope fun Y => XE G Y elt (f x (wipeG Γ (own.map (·.2)))) υ (ce x)) (hc : X.calm = true := by rfl) (hs : ∀ x, foldedSetIterable it X.env x = pure x := by intro _; kernel_rfl) :
    XN G X (.ListComp elt [⟨tg, it, [], 0⟩] scope pos) Γ (OLst υ) (bnd ci fun xs => lcC (fun x => bnd (ce x) fun y => ret (some y)) xs) := by
  intro H0 F H σ cf E Qd hr Q q
  refine (pe_lc hc hN pi_sem ok (fun s H C cl fp => pg_all s H C cl fp) (fun _ _ _ _ _ => pts_nil) (fun s H C cl fp => pe_all s H C cl fp) hs).sem ?_
  refine lc_xn (trn_plain hg hj he) cf E hr (fun Qd hr R q => hi H0 F H σ cf E Qd hr R q) Q fun y p F' H' vs' d k cf' hH hF h0 rr => ?_
  have nm : ¬ G.M p := cf.nm h0
  rw [show H' = upd (rmv H' p) p (.lst vs') from by
    rw [upd_rmv]
    funext c
    by_cases hc : c = p
    · rw [hc, upd_same, hH]
    · rw [upd_ne hc]]
  exact q y p (.lst vs') F' (rmv H' p) d (st_rmv k h0) (cf_rmv cf' hH (fun φ z => by cases z) hF nm) ⟨vs', rfl, rr⟩ rmv_same (fun ys z => by cases z) fun ψ z => by cases z
/-- {'large': a, 'rest': 0, 'cells': b, 'turn': 0} -/
theorem xe_tape0 {k1 k2 k3 k4 z1 z2 : Nat} {p1 p2 p3 p4 q1 q2 : Pos} {ca cb : m (List Int)} (ha : XE G X a Γ (TLst TInt) ca) (hb : XN G X b Γ (OLst TInt) cb) :
    XE G X (.Dict [some (.Constant (.str "large") k1 p1), some (.Constant (.str "rest") k2 p2), some (.Constant (.str "cells") k3 p3), some (.Constant (.str "turn") k4 p4)] [a, .Constant (.int 0) z1 q1, b, .Constant (.int 0) z2 q2] pos) Γ TTape0 (bnd ca fun x => bnd cb fun y => ret (x, y)) := by
  intro H0 F H σ cf E Qd hr Q q
  refine (pe_disp (pps_cons pe_str pe_sem (pps_cons pe_str pe_int (pps_cons pe_str pe_sem (pps_cons pe_str pe_int pps_nil)))) rfl rfl (List.cons_ne_nil _ _) (by show 4 ≤ 15; decide)).sem ?_
  intro D hD
  obtain ⟨cf0, k0⟩ := cf_own (o := .dK []) cf hD (fun xs z => by cases z)
  refine ha H0 F _ σ cf0 (E.step k0) _ (run_bnd hr) _ fun x v F1 H1 d1 k1 cf1 r1 => ?_
  refine hb H0 F1 H1 σ cf1 ((E.step k0).step k1) _ (run_bnd d1) _ fun y p o F2 H2 d2 k2 cf2 r2 hp nt nx => ?_
  obtain ⟨L, oL, ev, hFL, vs, eoL, rr⟩ := (TLst TInt).mono k2.ex r1
  obtain ⟨ws, eo, rw'⟩ := r2
  subst ev eoL eo
  obtain ⟨cf3, k3⟩ := cf_new (o := .lst ws) cf2 hp
  have nm : ¬ G.M D := cf.nm hD
  have hD2 : H2 D = some (.dK []) := (k1.trans k2).keep D _ upd_same nm
  have nDp : D ≠ p := ne_of_none hD2 hp
  have hD3 : upd H2 p (.lst ws) D = some (.dK []) := by rw [upd_ne nDp]; exact hD2
  refine ⟨hD3, tapeK L p 0 0, rfl, by show 4 ≤ 15; decide, ?_⟩
  have hF2 : F2 D = none := ((k1.trans k2).fr D _ upd_same nm (fun φ z => by cases z)).trans (cf.fresh hD)
  have hF3 : upd F2 p (.lst ws) D = none := by rw [upd_ne nDp]; exact hF2
  have cf4 := cf_mut (o' := .dK (mergeK [] (tapeK L p 0 0))) cf3 hD3 hF3 nm (fun ψ z => by cases z) (fun ys z => by cases z)
  have k4 := st_mut (o' := .dK (mergeK [] (tapeK L p 0 0))) (((k0.trans k1).trans k2).trans k3) hD
  obtain ⟨cf5, sm⟩ := cf_frz cf4 upd_same hF3 nm
  have k5 := st_frz (o := .dK (mergeK [] (tapeK L p 0 0))) k4 hF3 hD
  have hFL3 : upd F2 p (.lst ws) L = some (.lst vs) := by
    rw [upd_ne (fun z => by
      have h1 := cf2.sub _ _ hFL
      rw [z, hp] at h1
      cases h1)]
    exact hFL
  refine q (x, y) (.ref D) _ _ (run_ret d2) k5 cf5 ⟨D, L, p, 0, 0, rfl, upd_same, sm _ _ (by rw [← ints_of rr]; exact hFL3), sm _ _ (by rw [← ints_of rw', upd_same]), fun z => ?_⟩
  have h1 := cf2.sub _ _ hFL
  rw [z, hp] at h1
  cases h1
end
end Wc
/-! Core T: what a lambda raises, caught and kept as a value. -/
namespace Wc
open PySem PySem.Spec PyProof.Rows L2 LamX
open Mon (ret bnd opt run run_ret run_bnd run_opt)
/-- a caught exception's object, its class cls -/
def CaughtO (cls : Value) (d : Option Addr) (a : Addr) : HO := .ext fun h => ∃ oe, h.get? a = some oe ∧ Zc cls d oe ∧ ∃ vs, oe.data = .fields vs
section
variable {X : Cx} {pins : List (Addr × Obj)} {σ : L2.St} {H : Hp} {s : Shared} {a : Addr} {oe : Obj} {cls : Value} {d : Option Addr}
theorem inv_track (I : Inv X ((a, oe) :: pins) σ H s) (hz : Zc cls d oe) (hd : ∃ vs, oe.data = .fields vs) (n0 : X.s_0.heap.get? a = none) (np : ∀ p ∈ X.pn ++ pins, p.1 ≠ a) : Inv X pins σ (upd H a (CaughtO cls d a)) s := by
  have own := I.pin (a, oe) (List.mem_append_right _ List.mem_cons_self)
  obtain ⟨ga, na, nL, nF, _⟩ := own
  have nb : ∀ b o, X.s_0.heap.get? b = some o → b ≠ a := fun b o e z => by
    rw [z, n0] at e
    cases e
  have nH : ∀ {b : Addr} {o : HO}, H b = some o → b ≠ a := fun {b o} e z => by
    rw [z] at e
    rw [show H a = none from na] at e
    cases e
  refine ⟨I.ok, I.os, I.bare, ?_, I.loc, I.cell, ?_, ?_, ?_, ?_, I.len⟩
  · refine ⟨I.base.keep, I.base.slot, fun b o e n x => ?_, I.base.there, fun b xs e => ?_, fun b o u e => ?_, fun b ps e => ?_⟩
    · rw [upd_ne (nb b o e)]
      exact I.base.free b o e n x
    · have t := I.base.tups b xs e
      rw [upd_ne (nH t)]
      exact t
    · have t := I.base.frzs b o u e
      rw [upd_ne (nH t)]
      exact t
    · obtain ⟨more, t⟩ := I.base.tbls b ps e
      exact ⟨more, (upd_ne (nH t)).trans t⟩
  · rw [upd_ne (fun z => nL z.symm)]
    exact I.free
  · intro x c e
    have ne : c ≠ a := fun z => by
      obtain ⟨v, o, e1, e2⟩ := I.cell x c e
      obtain ⟨vs, e3⟩ := hd
      rw [z, show s.heap.get? a = some oe from ga] at e1
      cases e1
      rw [e3] at e2
      cases e2
    rw [upd_ne ne]
    exact I.freeC x c e
  · intro p hp
    obtain ⟨e1, e2, e3, e4, e5⟩ := I.pin p (by
      rcases List.mem_append.mp hp with h | h
      · exact List.mem_append_left _ h
      · exact List.mem_append_right _ (List.mem_cons_of_mem _ h))
    exact ⟨e1, by rw [upd_ne (np p hp)]; exact e2, e3, e4, e5⟩
  · intro b ob e
    by_cases hb : b = a
    · subst hb
      rw [upd_same] at e
      cases e
      refine ⟨⟨oe, ga, hz, hd⟩, ⟨oe, ga⟩, ?_⟩
      rintro h1 h2 ⟨o1, g1, z1, v1⟩ k
      exact ⟨o1, k _ g1, z1, v1⟩
    · rw [upd_ne hb] at e
      refine (I.hok b ob e).stay (fun c u _ q => q) (fun c q => ?_) fun c xs q => ?_
      · rw [upd_ne (nH q)]
        exact q
      · rw [upd_ne (nH q)]
        exact q
end
/-- the ends behind a suite that kept the exception at a -/
def keepEnds (D : Ends) (i : Nat) (a : Addr) (o : HO) : Ends := { nx := fun σ H => D.nx (σ.set i none) (upd H a o), ct := fun σ H => D.ct (σ.set i none) (upd H a o), bk := fun σ H => D.bk (σ.set i none) (upd H a o), rt := fun v H => D.rt v (upd H a o) }
def wKeep (K : PySem.W.Frag) (c : Value) (i n : Nat) (ts : Addr → Value → Option Addr → TS) (D : Ends) : WX := fun cls d σ H =>
  PySem.W.exmOne K cls c = some true ∧ (σ.length = n → ∀ a, H a = none → ts a cls d (keepEnds D i a (CaughtO cls d a)) (σ.set i (some (.ref a))) H)
section
variable {X : Cx} {x n : Str} {c : Value} {i : Nat} {body suite : List Stmt} {s0 : Stmt} {np hp pos : Pos} {tb : WX → TS} {ts : Addr → Value → Option Addr → TS}
theorem ps_tryKeep (hex : X.ex = []) (hst : X.stack = X.env :: X.outer) (hfr : X.env.frame = some X.env.locals) (hnd : X.N.Nodup) (hin : X.N[i]? = some n) (hkn : X.env.kindOf n = some .local) (hcl : Names X x c)
    (hbody : ∀ (W : WX) (pn : List (Addr × Obj)) (xe : Value → Shared → Prop), Takes (X.tr pn xe) W → PSs (X.tr pn xe) body (tb W))
    (hsuite : ∀ (a : Addr) (oe : Obj) (cls : Value) (d : Option Addr) (pn : List (Addr × Obj)), PSs (X.suite a ((a, oe) :: pn)) (s0 :: suite) (ts a cls d)) :
    PS X (.Try body [.ExceptHandler (some (.Name x np)) (some n) (s0 :: suite) hp] [] [] pos) (fun D σ H => tb (wKeep X.K c i X.N.length ts D) D σ H) := by
  constructor
  intro pins s σ H D I h
  have ok := I.ok
  have frames : X.A.frames = some (X.env :: X.outer) := hst ▸ ok.frames
  apply wpAny_Try_except
  refine wpAny_mono ((hbody (wKeep X.K c i X.N.length ts D) (X.pn ++ pins) _ ?grab).run [] s σ H D (I.toTry _) h) ?fine (fun _ _ z => z)
  case fine =>
    intro f s1 q
    cases f with
    | ret u =>
      obtain ⟨v, σ1, H1, J, r, q⟩ := q
      exact ⟨v, σ1, H1, J.ofTry ok, r, q⟩
    | next =>
      obtain ⟨σ1, H1, J, q⟩ := q
      exact wpAny_execs_nil ⟨σ1, H1, J.ofTry ok, q⟩
    | brk =>
      obtain ⟨σ1, H1, J, q⟩ := q
      exact ⟨σ1, H1, J.ofTry ok, q⟩
    | cont =>
      obtain ⟨σ1, H1, J, q⟩ := q
      exact ⟨σ1, H1, J.ofTry ok, q⟩
  case grab =>
    intro u s1 air
    obtain ⟨a, B, sI, pins1, σ1, H1, cls, d, eu, J, ground, upto, sky, na, eos, bare, hmatch, hgo⟩ := air
    subst eu
    have J1 : Inv X (pins ++ pins1) σ1 H1 sI := by
      refine ⟨ok, J.os, J.bare, J.base, J.loc, J.cell, J.free, J.freeC, fun p hp => J.pin p ?_, J.hok, J.len⟩
      rw [← List.append_assoc] at hp
      exact hp
    have sky1 : Sky B (X.env :: X.outer) a (Zc cls d) X.env.locals s1.heap := by
      rw [← hst]
      exact sky
    refine Sky.land Zc.steady frames hfr sky1 fun h2 fly up2 => ?_
    have there := fly.there
    obtain ⟨o2, v2, g2, z2, d2⟩ := there
    -- the exception's object is no frame
    have apart : a ∉ frs (X.env :: X.outer) := fun hm => by
      obtain ⟨_, o', g', nf⟩ := fly.2.2.1.mem hm
      rw [g2] at g'
      cases g'
      exact nf _ d2
    have aL : a ≠ X.env.locals := by
      intro z
      apply apart
      exact List.mem_filterMap.mpr ⟨X.env, List.mem_cons_self, z ▸ hfr⟩
    have aF : a ∉ X.fs := by
      intro hm
      obtain ⟨e, he, q⟩ := List.mem_filterMap.mp hm
      exact apart (List.mem_filterMap.mpr ⟨e, List.mem_cons_of_mem _ he, q⟩)
    have newI : sI.heap.get? a = none := by
      cases e : sI.heap.get? a with
      | none => rfl
      | some o =>
        have hb := ground a o e (by rw [show (X.tr (X.pn ++ pins) _).stack = X.env :: X.outer from hst]; exact apart)
        rw [fly.2.1] at hb
        cases hb
    have new0 : X.s_0.heap.get? a = none := by
      cases e : X.s_0.heap.get? a with
      | none => rfl
      | some o =>
        obtain ⟨o', e'⟩ := J1.base.there a o e (by rw [hex]; exact fun z => nomatch z)
        rw [newI] at e'
        cases e'
    have free : ∀ p ∈ X.pn ++ pins, p.1 ≠ a := fun p hp z => by
      have := (J.pin p (List.mem_append_left _ hp)).1
      rw [z, newI] at this
      cases this
    have S2 := ((J1.landed (s' := { s1 with heap := h2 }) ground fly.1 (upto.trans up2) eos bare).suite g2 d2 na aL aF)
    refine wpAny_handleBy_cons (codeAny_handlers_test ?_) (fun z => by cases z)
    have looksT : PySem.W.Looks (model X.prog X.w) h2 (typeOf (.ref a)) cls := fun A Q E s k q => wpAny_typeOf_ref (k _ _ g2) (z2.1.symm ▸ q)
    have looksM := PySem.W.exm_one (M := model X.prog X.w) S2.kIn looksT hmatch
    have named : ∀ {Q : Value → Shared → Prop} {E : Value → Shared → Prop}, Q c { s1 with heap := h2 } → wpAny (model X.prog X.w) (X.A.mark (some (.ref a))) (eval (.Name x np) X.env) Q E { s1 with heap := h2 } := by
      intro Q E q
      obtain ⟨hg, hdb, hm | ⟨hm, hv, hnn⟩⟩ := hcl
      · exact ld_glob (X := X.suite a _) S2 hg hm q hdb
      · exact ld_blt (X := X.suite a _) S2 hg hm hv q hnn hdb
    refine named (looksM.here (codeAny_handlers_suite_as ?_))
    refine HandSPX.lands_againZ fly fun h3 fly3 up3 => ?_
    obtain ⟨o3, v3, g3, z3, d3⟩ := fly3.there
    have S3 := ((J1.landed (s' := { s1 with heap := h3 }) ground fly3.1 ((upto.trans up2).trans up3) eos bare).suite g3 d3 na aL aF)
    refine store_ok (X := X.suite a _) (v := .ref a) S3 hnd hin (.inl hkn) rfl (fun s4 S4 => ?_) (.inr hkn)
    refine wpAny_mono ((hsuite a o3 cls d (X.pn ++ (pins ++ pins1))).run [] s4 _ H1 _ S4 (hgo J.len a na)) (fun f s5 q5 => ?_) (fun _ _ z => z.elim)
    have leave : ∀ {σ5 : L2.St} {H5 : Hp} {Q : Shared → Prop}, Inv (X.suite a ((a, o3) :: (X.pn ++ (pins ++ pins1)))) [] σ5 H5 s5 → (∀ s6, Inv X pins (σ5.set i none) (upd H5 a (CaughtO cls d a)) s6 → Q s6) →
        wpAny (model X.prog X.w) X.A (do bindName X.env n .none; unbindBehindTheSuite X.env n hp) (fun _ s6 => Q s6) X.xe s5 := by
      intro σ5 H5 Q S5 hq
      have K5 : Inv X ((a, o3) :: pins) σ5 H5 s5 := by
        refine ⟨ok, S5.os, S5.bare, S5.base, S5.loc, S5.cell, S5.free, S5.freeC, fun p hp => S5.pin p (List.mem_append_left _ ?_), S5.hok, S5.len⟩
        rcases List.mem_append.mp hp with h | h
        · exact List.mem_cons_of_mem _ (List.mem_append_left _ h)
        · rcases List.mem_cons.mp h with h | h
          · rw [h]
            exact List.mem_cons_self
          · exact List.mem_cons_of_mem _ (List.mem_append_right _ (List.mem_append_left _ h))
      exact gone_ok K5 hnd hin hkn fun s6 K6 => hq s6 (inv_track K6 z3 ⟨_, d3⟩ new0 free)
    cases f with
    | ret u =>
      obtain ⟨v, σ5, H5, S5, r, q⟩ := q5
      exact leave S5 fun s6 J6 => ⟨v, _, _, J6, r, q⟩
    | next =>
      obtain ⟨σ5, H5, S5, q⟩ := q5
      exact leave S5 fun s6 J6 => ⟨_, _, J6, q⟩
    | brk =>
      obtain ⟨σ5, H5, S5, q⟩ := q5
      exact leave S5 fun s6 J6 => ⟨_, _, J6, q⟩
    | cont =>
      obtain ⟨σ5, H5, S5, q⟩ := q5
      exact leave S5 fun s6 J6 => ⟨_, _, J6, q⟩
end
end Wc
/-! Core U: blocks and calls that raise; _law_caught; isinstance of what was caught. -/
namespace Wc
open PySem PySem.Spec PyProof.Rows L2 LamX
open Mon (ret bnd opt run run_ret run_bnd run_opt)
section
variable {m : Type → Type} [Mon m] {G : Gs} {X : Cx} {Γ : Ga} {α β γ : Type} {τ : Ty β} {e t : Expr} {es : List Expr} {pos : Pos} {st : Stmt} {rest : List Stmt} {cls : Value}
/-- a block that ends by raising cls -/
def XR (G : Gs) (X : Cx) (ss : List Stmt) (Γ : Ga) (cls : Value) {β : Type} (c : m β) : Prop := ∀ (F0 H0 F H : Hp) (σ : L2.St) (D : Ends) (W : XK), Cf G F H → Step G F0 H0 F H → En G H0 F H σ Γ → Takes X (fun c d _ H => W c d H) →
  ∀ Qd : β → Prop, run c Qd → (∀ y F' H', Qd y → Gn G F0 H0 F F' H' → W cls none H') → semB X ss D σ H
theorem xr_seq {Γ' : β → Ga} {c : m β} {cr : β → m γ} (h : XS G X st Γ Γ' c) (hr : ∀ y, XR G X rest (Γ' y) cls (cr y)) : XR G X (st :: rest) Γ cls (bnd c cr) := by
  intro F0 H0 F H σ D W cf k E tk Qd hrun q
  refine (pss_cons ps_sem pss_sem).sem ?_
  refine h F0 H0 F H σ _ cf k E _ (run_bnd hrun) fun y F1 H1 σ1 d1 n1 E1 => ?_
  exact hr y F0 H0 F1 H1 σ1 D W n1.cf n1.st E1 tk Qd d1 fun z F' H' hz n => q z F' H' hz (n.from n1.sm)
/-- a test that does not hold: its branch is not taken -/
theorem xr_ifN {x : List Stmt} {ct : m Bool} {cr : m γ} (ht : XT G X t Γ ct) (hr : XR G X rest Γ cls cr) : XR G X (.If t x [] pos :: rest) Γ cls (bnd ct fun k => if k then opt none else cr) := by
  intro F0 H0 F H σ D W cf k E tk Qd hrun q
  refine (pss_cons (ps_if pt_sem pss_sem pss_sem) pss_sem).sem ?_
  refine ht H0 F H σ cf E _ (run_bnd hrun) _ fun b F1 H1 d1 k1 cf1 => ?_
  cases b with
  | true =>
    obtain ⟨y, e, _⟩ := run_opt (m := m) d1
    cases e
  | false =>
    refine pss_nil.sem ?_
    exact hr F0 H0 F1 H1 σ D W cf1 (k.trans k1) (E.step k1) tk Qd d1 fun z F' H' hz n => q z F' H' hz (n.from k1.ex)
/-- .. that holds: its branch raises -/
theorem xr_ifY {x : List Stmt} {ct : m Bool} {cx : m γ} (ht : XT G X t Γ ct) (hx : XR G X x Γ cls cx) : XR G X (.If t x [] pos :: rest) Γ cls (bnd ct fun k => if k then cx else opt none) := by
  intro F0 H0 F H σ D W cf k E tk Qd hrun q
  refine (pss_cons (ps_if pt_sem pss_sem pss_sem) pss_sem).sem ?_
  refine ht H0 F H σ cf E _ (run_bnd hrun) _ fun b F1 H1 d1 k1 cf1 => ?_
  cases b with
  | true => exact hx F0 H0 F1 H1 σ _ W cf1 (k.trans k1) (E.step k1) tk Qd d1 fun z F' H' hz n => q z F' H' hz (n.from k1.ex)
  | false =>
    obtain ⟨y, e, _⟩ := run_opt (m := m) d1
    cases e
/-- raise C("..") -/
theorem xr_raise {x z : Str} {C : Addr} {j : Nat} {B newId initId : String} {bmB : List Value} {p1 p2 p3 : Pos} (F : ExcBaseFacts B newId initId bmB) (hx : PySem.W.excIn X.K C bmB newId = true) (hm : X.mg x = some (.ref C)) (hk : PySem.W.keepIn X.K (.ref C) = true)
    (hs1 : PySem.W.subIn X.K (.ref C) (.type "BaseException") = some true) (hs2 : PySem.W.typeIn X.K (.ref C) = some (.type "type")) (hc : X.calm = true := by kernel_rfl) (hg : Gl X x := by show _ = _; kernel_rfl) (hdb : (x == ("__debug__" : Str)) = false := by kernel_rfl) :
    XR G X (.Raise (some (.Call (.Name x p1) [.Constant (.str z) j p2] [] p3)) none pos :: rest) Γ (.ref C) (ret () : m Unit) := by
  intro F0 H0 F1 H σ D W cf k E tk Qd hrun q
  refine (pss_cons (ps_raise hc tk (pmk_own F hx hm hk (raises_own hs1 hs2) hg hdb)) pss_sem).sem ?_
  exact q () F1 H (run_ret hrun) ⟨cf, Same.refl _, k⟩
/-- what a def that raises promises -/
def spR {α β : Type} (G : Gs) (as : ATy α) (cls : Value) (f : α → m β) : Sp := fun vs H _ E => ∃ F a, Cf G F H ∧ as.rel F vs a ∧ ∃ Qd : β → Prop, run (f a) Qd ∧ ∀ y F' H', Qd y → Step G F H F' H' → Cf G F' H' → E cls none H'
theorem fnR_of {as : ATy α} {x : Str} {st : Stmt} {f : Addr} {fd : FuncData} {N ps : List Str} {k : Nat} {P : Program} {w : World} {K : PySem.W.Frag} {mg : Str → Option Value} {base : Heap} {mir : α → m β} (FD : C8.Fun K x x st f fd)
    (sc : FnScope N ps (C8.fnScope st)) (hn : as.n = ps.length)
    (hb : ∀ (a : α) (cdv : Value) (A : Around) (outer : List Env) (s : Shared) (H : Hp) (E : XK), Room k (A.deeper (envOfC x (C8.fnScope st) s.heap.objs.size f cdv)) →
      XR G (cxOf (L2.CX P w) P w K mg base N x (C8.fnScope st) f cdv A outer s H E) (C8.fnBody st) (as.ga a ++ List.replicate (N.length - as.n) none) cls (mir a)) :
    FnOk P w K mg base (L2.CX P w) (k + 1) f fd ps (spR G as cls mir) := by
  obtain ⟨oc, od, dV, kV, doc, pm, an, cdv, ct, osl, rfl, lk, hcd⟩ := FD.ex
  refine fn_of lk hcd sc (fun vs H Q E h => ?_) fun A outer s H vs Q E hr h => ?_
  · obtain ⟨F, a, _, r, _⟩ := h
    rw [as.len r, hn]
  · obtain ⟨F, a, cf, r, Qd, hrun, q⟩ := h
    refine ⟨_, pss_sem, ?_⟩
    exact hb a cdv A outer s H E hr F H F H _ _ E cf Step.refl (en_start r) (takes_of rfl rfl rfl rfl) Qd hrun fun y F' H' hy n => q y F' H' hy n.st n.cf
/-- an expression that raises cls -/
def XRE (G : Gs) (X : Cx) (W : XK) (e : Expr) (Γ : Ga) (cls : Value) {β : Type} (c : m β) : Prop := ∀ (H0 F H : Hp) (σ : L2.St), Cf G F H → En G H0 F H σ Γ → ∀ Qd : β → Prop, run c Qd → (∀ y F' H', Qd y → Step G F H F' H' → Cf G F' H' → W cls none H') → ∀ Q, semE X e σ H Q
/-- a def that raises, called by its name -/
def CalR (P : Program) (w : World) (K : PySem.W.Frag) (mg : Str → Option Value) (base : Heap) (k : Nat) (x : Str) (sp : Sp) : Prop := ∃ (f : Addr) (fd : FuncData) (ps : List Str), FnOk P w K mg base (L2.CX P w) k f fd ps sp ∧ mg x = some (.ref f) ∧ PySem.W.keepIn K (.ref f) = true ∧ Binds K fd ps []
theorem xre_call {as : ATy α} {f : α → Option γ} {ca : m α} {k j : Nat} {x : Str} {p : Pos} {W : XK} (c : CalR X.prog X.w X.K X.mg X.base k x (spR G as cls f)) (hr : Room j X.A) (hk : k ≤ j)
    (tk : Takes X (fun c d _ H => W c d H)) (ha : XA G X (e :: es) Γ as ca) (hg : Gl X x := by show _ = _; kernel_rfl) (hdb : (x == ("__debug__" : Str)) = false := by kernel_rfl) (he : starEach (e :: es) X.env = (false, eval e X.env) :: starEach es X.env := by kernel_rfl) (hpl : (backTo pos (starEach es X.env)).any (·.1) = false := by kernel_rfl) :
    XRE G X W (.Call (.Name x p) (e :: es) [] pos) Γ cls (bnd ca fun a => opt (f a)) := by
  intro H0 F H σ cf E Qd hrun q Q
  obtain ⟨fa, fd, ps, FO, hm, kp, hb⟩ := c
  refine (pe_call FO (hr.mono hk) hg hm kp hb .nil (passes_call (E := W) tk fun _ _ _ _ h => h) pa_sem hdb he hpl).sem ?_
  refine ha H0 F H σ cf E _ (run_bnd hrun) _ fun a vs F1 H1 d1 k1 cf1 r1 => ?_
  rw [List.append_nil]
  exact ⟨F1, a, cf1, r1, Qd, run_opt (m := m) d1, fun y F' H' hy k2 cf2 => q y F' H' hy (k1.trans k2) cf2⟩
/-- a caught exception of the class cls -/
def TCaught (cls : Value) : Ty Unit := ⟨fun F v _ => ∃ a, v = .ref a ∧ F a = some (CaughtO cls none a), fun e ⟨a, h1, h2⟩ => ⟨a, h1, e _ _ h2⟩⟩
end
section
variable {m : Type → Type} [Mon m] {G : Gs} {X : Cx} {Γ : Ga} {β : Type} {cls : Value}
theorem xe_caught {T : List (Addr × Str)} {CW c P : Addr} {k : Nat} {st : Stmt} {pr : Arguments} {bd : Expr} {sc : Scope} {p lpos pos p1 p2 p3 p4 p5 p6 p7 p8 p9 p10 p11 p12 p13 p14 : Pos} {j1 : Nat} {cm : m β}
    (lg : LG T G) (D : DefN X.K X.mg "_law_caught" st) (hst : C8.fnBody st = [.Assign [.Name "found" p1] (.Constant .none j1 p2) p3, .Try [.Expr (.Call (.Name "work" p4) [] [] p5) p6] [.ExceptHandler (some (.Name "WatchError" p7)) (some "error") [.Assign [.Name "found" p8] (.Name "error" p9) p10] p11] [] [] p12, .Return (some (.Name "found" p13)) p14])
    (Sg : FnScope ["work", "found", "error"] ["work"] (C8.fnScope st)) (hgW : (C8.fnScope st).names.lookup ("WatchError" : Str) = some .globalImplicit) (hl : (C8.fnScope st).names.lookup ("work" : Str) = some .local ∧ (C8.fnScope st).names.lookup ("found" : Str) = some .local ∧ (C8.fnScope st).names.lookup ("error" : Str) = some .local)
    (hW : X.mg "WatchError" = some (.ref CW)) (hex : PySem.W.exmOne X.K cls (.ref CW) = some true)
    (hbd : ∀ (kV doc pm : Value) (an : Option Addr) (cdv ct : Value) (us : List Value), us.length = (["work"] : List Str).length → bindArgs (PySem.W.fnOf "_law_caught" "_law_caught" (C8.fnArgs st) (C8.fnBody st) (C8.fnScope st) .none kV doc pm an cdv ct) ⟨us, []⟩ = pure (((["work"] : List Str)).zip us))
    (hsw1 : ∀ env, swapsWith (.Constant .none j1 p2) (some (.Name "found" p1)) p3.line env = pure false) (hsw2 : ∀ env, swapsWith (.Name "error" p9) (some (.Name "found" p8)) p10.line env = pure false) (hsw3 : ∀ env, swapsWith (.Call (.Name "work" p4) [] [] p5) none p6.line env = pure false)
    (TB : TabB X.base X.mg c P) (hcode : X.env.code = .ref c) (hmT : (P, X.env.qual ++ "<lambda>") ∈ T) (hu : ∀ p ∈ T, p.1 = P → p.2 = X.env.qual ++ "<lambda>") (hr : Room (k + 2) X.A) (L : LamS X.env.scope sc) (hdef : defaultsOf pr X.env = ([], []))
    (hbind : ∀ (q : Str) (cl : List (Str × Addr)) (pm cv ct : Value), bindArgs (PySem.W.kla_fn "<lambda>" q pr bd sc cl pm cv ct) ⟨[], []⟩ = pure []) (hno : noOw Γ)
    (hbody : ∀ (A : Around) (outer : List Env) (s : Shared) (H : Hp) (E : XK) (fa c' : Addr), Room k (A.deeper (lamEnv X sc s.heap.objs.size fa c')) → XRE G (lamCx X A outer s H E sc fa c') E bd Γ cls cm)
    (hg : Gl X "_law_caught" := by show _ = _; kernel_rfl) (hs : starEach [.Lambda pr bd sc lpos] X.env = [(false, eval (.Lambda pr bd sc lpos) X.env)] := by kernel_rfl) (hpl : (backTo pos (starEach [] X.env)).any (·.1) = false := by kernel_rfl) :
    XE G X (.Call (.Name "_law_caught" p) [.Lambda pr bd sc lpos] [] pos) Γ (TCaught cls) (bnd cm fun _ => ret ()) := by
  obtain ⟨g0, fd, D1, hd⟩ := D
  obtain ⟨oc, od, dV, kV, doc, pm, an, cdv, ct, osl, efd, lk, hcd⟩ := D1.fn.ex
  subst efd
  have e0 : dV = .none := hd
  subst e0
  have bnds := D1.fn.binds (ps := ["work"]) hd hbd
  intro H0 F H σ cf E Qd hrun Q q
  refine ⟨fun pins s I => ?_⟩
  refine wpAny_Call_Name_kw (ld_glob I hg D1.mgf ?_ (by kernel_rfl))
  refine PySem.W.callWith_K (h₀ := X.base) I.ok.mod.kin D1.kp ?_ (by rw [hs]; rfl) hpl
  rw [hs]
  show wpAny _ _ (spliced ((false, eval (.Lambda pr bd sc lpos) X.env) :: backTo pos (starEach [] X.env))) _ _ s
  refine Calls.spliced_cons (lam_mk I TB hcode hmT hu (lg.tab cf.j) hdef (L.has I.ok) fun fa c' pm' ct' H2 s2 I2 md T2 hf hfn hfr => ?_)
  obtain ⟨F2, cf2, k2, hFc⟩ := made_cf lg ⟨_, hmT, rfl⟩ cf md T2
  refine Calls.spliced_nil ⟨I2.kIn, ?_⟩
  have E2 := E.step k2
  have rc : codeAny (model X.prog X.w) X.A (.call (.ref g0) ⟨[.ref fa], []⟩) (CR C8.CX0 X.stack X.prog X.w H2 s2 Q C8.E0) s2 := by
    refine run_ofS (N := ["work", "found", "error"]) (ps := ["work"]) (us := [.ref fa]) (vs := [.ref fa]) lk hcd Sg hr I2.env0 (bnds s2 [.ref fa] I2.kIn rfl) (.cons rfl .nil) rfl fun hr' => ?_
    rw [hst]
    refine ⟨_, (pss_cons (X := (cxOf C8.CX0 X.prog X.w X.K X.mg X.base ["work", "found", "error"] "_law_caught" (C8.fnScope st) g0 cdv X.A X.stack s2 H2 C8.E0).nox) (ps_set (i := 1) Sg.nd (by kernel_rfl) (.inl hl.2.1) pe_non (hsw1 _) (.inr hl.2.1))
      (pss_cons (ps_tryKeep (i := 2) (c := .ref CW)
        (tb := fun W D σZ HZ => ∃ Ech : XK, (∀ cls d σ' H', Ech cls d H' → W cls d σ' H') ∧ σZ[0]? = some (some (.ref fa)) ∧ HZ c' = some (CodeO c' (X.env.qual ++ "<lambda>")) ∧ ∀ (A : Around) (outer : List Env) (s : Shared) (H1 : Hp), Room k (A.deeper (lamEnv X sc s.heap.objs.size fa c')) → ∀ Q, semE (lamCx X A outer s H1 Ech sc fa c') bd σ HZ Q)
        rfl rfl rfl Sg.nd (by kernel_rfl) hl.2.2 ⟨hgW, by kernel_rfl, .inl hW⟩ (fun W pn xe tk => ?body) (fun a oe cls d pn => pss_one (ps_set (i := 1) Sg.nd (by kernel_rfl) (.inl hl.2.1) (pe_var (i := 2) (by kernel_rfl) (.inl hl.2.2)) (hsw2 _) (.inr hl.2.1))))
      (pss_one (ps_ret (pe_var (i := 1) (by kernel_rfl) (.inl hl.2.1)))))).nox, ?_⟩
    case body =>
      refine ⟨fun pinsZ sZ σZ HZ DZ IZ hZ => ?_⟩
      obtain ⟨Ech, hE, h1, h2, h3⟩ := hZ
      have act := pe_act (CXg := C8.CX0) (Eg := C8.E0) (i := 0) (p1 := p4) (p2 := p5) (E := Ech) (tb := fun σ H Q => ∀ (A : Around) (outer : List Env) (s : Shared) (H1 : Hp), Room k (A.deeper (lamEnv X sc s.heap.objs.size fa c')) → semE (lamCx X A outer s H1 Ech sc fa c') bd σ H Q)
        I2 L hf hfn hfr (hbind _ _ _ _ _) tk hE hr' (fun A outer s H1 hroom => ⟨fun pins' s3 σ3 H3 Q3 I3 q3 => (q3 A outer s H1 hroom).run pins' s3 I3⟩) (Ng := ["work", "found", "error"]) (by kernel_rfl) (.inl hl.1) (by kernel_rfl) (by kernel_rfl)
      exact (pss_one (ps_expr (pos := p6) act (hsw3 _))).run pinsZ sZ σZ HZ DZ IZ ⟨h1, h2, fun A outer s H1 hroom => h3 A outer s H1 hroom _⟩
    · refine ⟨fun cls2 d H3 => cls2 = cls ∧ d = none ∧ ∃ F3, Step G F2 H2 F3 H3 ∧ Cf G F3 H3 ∧ Qd (), fun cls2 d σ' H' hE => ?_, rfl, cf2.sub _ _ hFc, fun A outer s H1 hroom Q' => ?_⟩
      · obtain ⟨e1, e2, F3, k3, cf3, d3⟩ := hE
        subst e1 e2
        refine ⟨hex, fun hlen a na => ?_⟩
        have l3 : σ'.length = 3 := hlen
        refine ⟨.ref a, List.getElem?_set_self (by omega), ?_⟩
        refine ⟨.ref a, ?_, ?_⟩
        · rw [List.getElem?_set_ne (by decide), List.getElem?_set_self (by rw [List.length_set]; omega)]
        · obtain ⟨cf4, k4⟩ := cf_new (o := CaughtO cls2 none a) cf3 na
          exact q () (.ref a) _ _ d3 ((k2.trans k3).trans k4) cf4 ⟨a, rfl, upd_same⟩
      · exact hbody A outer s H1 _ fa c' hroom H0 F2 H2 σ cf2 E2 _ (run_bnd hrun) (fun y F' H' hy k3 cf3 => ⟨rfl, rfl, F', k3, cf3, run_ret (m := m) hy⟩) Q'
  refine wpAny_call (codeAny_mono rc fun r s3 hq => ?_)
  cases r with
  | error e => exact (show False from hq).elim
  | ok fl =>
    cases fl with
    | ret u => exact I2.after hq
    | next => exact False.elim hq
    | brk => exact False.elim hq
    | cont => exact False.elim hq
/-- isinstance(e, C), e a caught exception of the class D -/
def rIsC (K : PySem.W.Frag) (D : Addr) : List V → Hp → VK → Prop := fun xs H Q => ∃ (a : Addr) (c : V) (cv : Value) (b : Bool), xs = [.ref a, c] ∧ H a = some (CaughtO (.ref D) none a) ∧ (∀ u, RelV c u → u = cv) ∧ PySem.W.kitOne K (.ref D) cv = some b ∧ Q (.bl b) H
theorem call_isC {D : Addr} (C : ExcC X.K D) : CallR X (.builtin "isinstance") (rIsC X.K D) := by
  intro pins s σ H xs us Q I r h
  obtain ⟨a, c, cv, b, e1, ha, hcv, e, q⟩ := h
  subst e1
  match us, r with
  | [_, _], .cons ra (.cons rc .nil) =>
    cases ra
    cases hcv _ rc
    obtain ⟨⟨⟨oc, od, oda, osl⟩, hget, hz, vs, hv⟩, _, _⟩ := I.hok a _ ha
    have J : PySem.W.InstAt s.heap a ⟨oc, od, oda, osl⟩ D none := by
      obtain ⟨h1, h2⟩ := hz
      dsimp only at h1 h2 hv
      subst h1 h2 hv
      exact ⟨hget, rfl, rfl, trivial⟩
    exact PySem.W.kia_one (PySem.W.handS_kitx_exc C.hg C.hk C.hs C.hd C.ha C.hn C.ht C.hm) I.kIn J e (fun z => by cases z) fun tk => ⟨.bl b, H, I.kept (t' := tk) fun _ _ z => z, rfl, q⟩
theorem xe_isCaught {a : Expr} {pos p1 p2 : Pos} {c : m Unit} {nm : Str} {D : Addr} (C : ExcC X.K D) (hk : PySem.W.kitOne X.K (.ref D) (.ref D) = some true) (hm : X.mg "isinstance" = none) (hmC : X.mg nm = some (.ref D)) (h : XE G X a Γ (TCaught (.ref D)) c)
    (hg : Gl X "isinstance" := by show _ = _; kernel_rfl) (hgC : Gl X nm := by show _ = _; kernel_rfl) (hdb : (nm == ("__debug__" : Str)) = false := by kernel_rfl) (he : starEach [a, .Name nm p2] X.env = (false, eval a X.env) :: starEach [.Name nm p2] X.env := by kernel_rfl) (hpl : (backTo pos (starEach [.Name nm p2] X.env)).any (·.1) = false := by kernel_rfl) (he2 : starEach [.Name nm p2] X.env = (false, eval (.Name nm p2) X.env) :: starEach [] X.env := by kernel_rfl) :
    XE G X (.Call (.Name "isinstance" p1) [a, .Name nm p2] [] pos) Γ TBool (bnd c fun _ => ret true) := by
  intro H0 F H σ cf E Qd hrun Q q
  refine (pe_callB (call_isC C) hg hm (by decide +kernel) (pa_cons pe_sem (pa_cons (C8.pe_gc (v := .ref D) hgC ⟨_, hmC, rfl⟩ hdb) pa_nil he2) he) (by decide) (by decide) he hpl).sem ?_
  refine h H0 F H σ cf E _ (run_bnd hrun) _ fun y v F1 H1 d1 k1 cf1 r1 => ?_
  obtain ⟨p, e, hF⟩ := r1
  subst e
  exact ⟨p, .ref D, .ref D, true, rfl, cf1.sub _ _ hF, fun u r => r, hk, q true (.bl true) F1 H1 (run_ret d1) k1 cf1 rfl⟩
end
end Wc
/-! Core V: the law itself: its tape made, then written; the end. -/
namespace Wc
open PySem PySem.Spec PyProof.Rows L2 LamX
open Mon (ret bnd opt run run_ret run_bnd run_opt)
theorem same_rmv {F F' : Hp} {p : Addr} (e : Same F F') : Same (rmv F p) (rmv F' p) := fun a o h => by
  by_cases z : a = p
  · rw [z, rmv_same] at h
    cases h
  · rw [rmv_ne z] at h ⊢
    exact e a o h
/-- the script, at its address -/
def TScrF (K : PySem.W.Frag) (sa : Addr) (ns : List Int) : Ty (List Int) := ⟨fun F v xs => v = .ref sa ∧ xs = ns ∧ SqL K F sa (ns.map V.int), fun e ⟨h1, h2, h3⟩ => ⟨h1, h2, e.seq h3⟩⟩
/-- a list that is not the script -/
def TLstN (K : PySem.W.Frag) (sa : Addr) (ns : List Int) : Ty (List Int) := ⟨fun F v xs => ∃ p, v = .ref p ∧ F p = some (.lst (xs.map V.int)) ∧ SqL K (rmv F p) sa (ns.map V.int), fun e ⟨p, h1, h2, h3⟩ => ⟨p, h1, e _ _ h2, (same_rmv e).seq h3⟩⟩
/-- a new tape, away from the script -/
def TTape1 (K : PySem.W.Frag) (sa : Addr) (ns : List Int) : Ty (List Int × List Int) := ⟨fun F v x => ∃ D L Cc r t, v = .ref D ∧ F D = some (.dK (tapeK L Cc r t)) ∧ F L = some (.lst (x.1.map V.int)) ∧ F Cc = some (.lst (x.2.map V.int)) ∧ L ≠ Cc ∧ SqL K (rmv (rmv (rmv F D) L) Cc) sa (ns.map V.int),
  fun e ⟨D, L, Cc, r, t, h1, h2, h3, h4, h5, h6⟩ => ⟨D, L, Cc, r, t, h1, e _ _ h2, e _ _ h3, e _ _ h4, h5, (same_rmv (same_rmv (same_rmv e))).seq h6⟩⟩
section
variable {m : Type → Type} [Mon m] {G : Gs} {X : Cx} {Γ : Ga} {α β : Type} {τ : Ty α} {a b e : Expr} {pos : Pos} {sa : Addr} {ns : List Int}
theorem xe_scr {K : PySem.W.Frag} {c : m (List Int)} (h : XE G X e Γ (TScrF K sa ns) c) : XE G X e Γ (TScr K) c := xe_as h fun F v x ⟨h1, h2, h3⟩ => ⟨sa, h1, by rw [h2]; exact h3⟩
theorem rc_lenScrF {K : PySem.W.Frag} : RC G (fun xs H Q => ∃ p ys, xs = [.ref p] ∧ (SqL K H p ys ∨ SqT K H p ys) ∧ Q (.int ys.length) H) (a1 (TScrF K sa ns)) TInt (fun x => (ret ((x.1.length : Nat) : Int) : m Int)) := rc_pure fun F H vs x cf rx => by
  obtain ⟨v, e, e1, e2, hs⟩ := a1_rel rx
  exact ⟨.int x.1.length, rfl, fun Q q => ⟨sa, _, by rw [e, e1], .inl (scr_sq cf hs), by rw [List.length_map, ← e2]; exact q⟩⟩
theorem xs_lcIN {i j : Nat} {xs0 : List Int} {nm : Str} {py spos : Pos} {scope : Scope} {own : List (Str × Nat)} {tg it elt t : Expr} {js : List Nat} {f : α → Ga → Ga} {ci : m (List α)} {ct : α → m Bool} {ce : α → m Int} (hS : Γ[j]? = some (some (.sh (TScrF X.K sa ns) xs0))) (hN : X.N.Nodup) (hsw : swapsWith (.ListComp elt [⟨tg, it, [t], 0⟩] scope pos) (some (.Name nm py)) spos.line X.env = pure true)
    (ok : BlkOk X.N X.env.scope scope own) (hi : XI G X tg it Γ τ ci) (hg : Blk X scope fun Y => XG G Y tg τ f js) (hj : ∀ i ∈ js, i ∈ own.map (·.2)) (ht : ∀ x, Blk X scope fun Y => XT G Y t (f x (wipeG Γ (own.map (·.2)))) (ct x)) (he : ∀ x, Blk X scope fun Y => XE G Y elt (f x (wipeG Γ (own.map (·.2)))) TInt (ce x))
    (hy : X.N[i]? = some nm := by kernel_rfl) (hyl : X.env.scope.names.lookup nm = some .local := by kernel_rfl) (hc : X.calm = true := by kernel_rfl) (hs : ∀ x, foldedSetIterable it X.env x = pure x := by intro _; kernel_rfl) :
    XS G X (.Assign [.Name nm py] (.ListComp elt [⟨tg, it, [t], 0⟩] scope pos) spos) Γ (fun y => Γ.set i (some (.sh (TLstN X.K sa ns) y))) (bnd ci fun xs => lcC (fun x => bnd (ct x) fun k => if k then bnd (ce x) fun y => ret (some y) else ret none) xs) := by
  intro F0 H0 F H σ D cf k E Qd hr q
  refine (ps_setLc hc hN hy hyl hsw pi_sem ok (fun s H C cl fp => pg_all s H C cl fp) (fun s H C cl fp => pts_one (pt_all s H C cl fp)) (fun s H C cl fp => pe_all s H C cl fp) hs).sem ?_
  refine lc_xn (trn_if hg hj ht he) cf E hr (fun Qd hr R q => hi H0 F H σ cf E Qd hr R q) _ fun y p F' H' vs' d k' cf' hH hF h0 rr => ?_
  have nm' : ¬ G.M p := cf.nm h0
  obtain ⟨cf3, sm⟩ := cf_frz cf' hH hF nm'
  have k3 := st_frz (o := .lst vs') k' hF h0
  refine q y (upd F' p (.lst vs')) H' _ d (.mk' k k3 cf3) ((E.step k3).set ⟨p, rfl, by rw [upd_same, ints_of rr], ?_⟩)
  obtain ⟨v, ev, hv⟩ := E.get hS
  obtain ⟨_, _, hq⟩ := hv
  refine Same.seq (H := F) (fun b o hb => ?_) hq
  have nb : b ≠ p := fun z => by
    have := cf.sub b o hb
    rw [z, h0] at this
    cases this
  rw [rmv_ne nb, upd_ne nb]
  exact k'.ex b o hb
/-- the tape's display -/
theorem xe_tape1 {k1 k2 k3 k4 z1 z2 : Nat} {p1 p2 p3 p4 q1 q2 : Pos} {ca cb : m (List Int)} (ha : XE G X a Γ (TLstN X.K sa ns) ca) (hb : XN G X b Γ (OLst TInt) cb) :
    XE G X (.Dict [some (.Constant (.str "large") k1 p1), some (.Constant (.str "rest") k2 p2), some (.Constant (.str "cells") k3 p3), some (.Constant (.str "turn") k4 p4)] [a, .Constant (.int 0) z1 q1, b, .Constant (.int 0) z2 q2] pos) Γ (TTape1 X.K sa ns) (bnd ca fun x => bnd cb fun y => ret (x, y)) := by
  intro H0 F H σ cf E Qd hr Q q
  refine (pe_disp (pps_cons pe_str pe_sem (pps_cons pe_str pe_int (pps_cons pe_str pe_sem (pps_cons pe_str pe_int pps_nil)))) rfl rfl (List.cons_ne_nil _ _) (by show 4 ≤ 15; decide)).sem ?_
  intro D hD
  obtain ⟨cf0, k0⟩ := cf_own (o := .dK []) cf hD (fun xs z => by cases z)
  refine ha H0 F _ σ cf0 (E.step k0) _ (run_bnd hr) _ fun x v F1 H1 d1 k1 cf1 r1 => ?_
  refine hb H0 F1 H1 σ cf1 ((E.step k0).step k1) _ (run_bnd d1) _ fun y p o F2 H2 d2 k2 cf2 r2 hp nt nx => ?_
  obtain ⟨L, ev, hFL, hsq⟩ := (TLstN X.K sa ns).mono k2.ex r1
  obtain ⟨ws, eo, rw'⟩ := r2
  subst ev eo
  obtain ⟨cf3, k3⟩ := cf_new (o := .lst ws) cf2 hp
  have nm : ¬ G.M D := cf.nm hD
  have hD2 : H2 D = some (.dK []) := (k1.trans k2).keep D _ upd_same nm
  have nDp : D ≠ p := ne_of_none hD2 hp
  have hD3 : upd H2 p (.lst ws) D = some (.dK []) := by rw [upd_ne nDp]; exact hD2
  refine ⟨hD3, tapeK L p 0 0, rfl, by show 4 ≤ 15; decide, ?_⟩
  have hF2 : F2 D = none := ((k1.trans k2).fr D _ upd_same nm (fun φ z => by cases z)).trans (cf.fresh hD)
  have hF3 : upd F2 p (.lst ws) D = none := by rw [upd_ne nDp]; exact hF2
  have hFp : F2 p = none := cf2.fresh hp
  have cf4 := cf_mut (o' := .dK (mergeK [] (tapeK L p 0 0))) cf3 hD3 hF3 nm (fun ψ z => by cases z) (fun ys z => by cases z)
  have k4 := st_mut (o' := .dK (mergeK [] (tapeK L p 0 0))) (((k0.trans k1).trans k2).trans k3) hD
  obtain ⟨cf5, sm⟩ := cf_frz cf4 upd_same hF3 nm
  have k5 := st_frz (o := .dK (mergeK [] (tapeK L p 0 0))) k4 hF3 hD
  have nLp : L ≠ p := ne_of_none hFL hFp
  have hFL3 : upd F2 p (.lst ws) L = some (.lst (x.map V.int)) := by
    rw [upd_ne nLp]
    exact hFL
  refine q (x, y) (.ref D) _ _ (run_ret d2) k5 cf5 ⟨D, L, p, 0, 0, rfl, upd_same, sm _ _ hFL3, sm _ _ (by rw [← ints_of rw', upd_same]), nLp, ?_⟩
  refine Same.seq (H := rmv F2 L) (fun b o hb => ?_) hsq
  have n1 : b ≠ L := fun z => by
    rw [z, rmv_same] at hb
    cases hb
  rw [rmv_ne n1] at hb
  have n2 : b ≠ p := fun z => by
    rw [z, hFp] at hb
    cases hb
  have n3 : b ≠ D := fun z => by
    rw [z, hF2] at hb
    cases hb
  rw [rmv_ne n2, rmv_ne n1, rmv_ne n3, upd_ne n3, upd_ne n2]
  exact hb
/-- from the tape made to the tape written -/
theorem tape_switch {T : List (Addr × Str)} {K : PySem.W.Frag} {n : Nat} {xs ls cs : List Int} {H0 F H : Hp} {σ : L2.St} (cf : Cf (Gt T) F H) (E : En (Gt T) H0 F H σ ([some (.sh (TScrF K sa ns) xs), some (.sh (TTape1 K sa ns) (ls, cs))] ++ List.replicate n none)) :
    ∃ D L Cc F', L ≠ Cc ∧ Cf (Gtp T D L Cc cs) F' H ∧ En (Gtp T D L Cc cs) H F' H σ ([some (.sh (TScrF K sa ns) xs), some (.sh (TRaw (.ref D)) ())] ++ List.replicate n none) := by
  obtain ⟨v0, ev0, h1, h2, h3⟩ := E.get (i := 0) (s := .sh (TScrF K sa ns) xs) rfl
  obtain ⟨v1, ev1, D, L, Cc, r, t, e1, hD, hL, hC, nLC, hS⟩ := E.get (i := 1) (s := .sh (TTape1 K sa ns) (ls, cs)) rfl
  subst e1 h1
  have at_ : ∀ {b : Addr} {o : HO}, rmv (rmv (rmv F D) L) Cc b = some o → F b = some o := fun {b o} h => by
    by_cases z1 : b = Cc
    · rw [z1, rmv_same] at h
      cases h
    rw [rmv_ne z1] at h
    by_cases z2 : b = L
    · rw [z2, rmv_same] at h
      cases h
    rw [rmv_ne z2] at h
    by_cases z3 : b = D
    · rw [z3, rmv_same] at h
      cases h
    rw [rmv_ne z3] at h
    exact h
  refine ⟨D, L, Cc, rmv (rmv (rmv F D) L) Cc, nLC, ⟨fun b o h => cf.sub b o (at_ h), fun b ys h => ?_, ⟨cf.j, ls, r, t, cf.sub _ _ hD, cf.sub _ _ hL, cf.sub _ _ hC⟩, fun b hb => ?_⟩, ?_⟩
  · have hF := cf.tup b ys h
    have n1 : b ≠ Cc := fun z => by
      rw [z, hC] at hF
      cases hF
    have n2 : b ≠ L := fun z => by
      rw [z, hL] at hF
      cases hF
    have n3 : b ≠ D := fun z => by
      rw [z, hD] at hF
      cases hF
    rw [rmv_ne n1, rmv_ne n2, rmv_ne n3]
    exact hF
  · cases e : rmv (rmv (rmv F D) L) Cc b with
    | none => rfl
    | some o =>
      have hF := at_ e
      rcases hb with hb | hb | hb | hb
      · rw [cf.m b hb] at hF
        cases hF
      · rw [hb] at e
        by_cases z1 : D = Cc
        · rw [z1, rmv_same] at e
          cases e
        rw [rmv_ne z1] at e
        by_cases z2 : D = L
        · rw [z2, rmv_same] at e
          cases e
        rw [rmv_ne z2, rmv_same] at e
        cases e
      · rw [hb, rmv_ne nLC, rmv_same] at e
        cases e
      · rw [hb, rmv_same] at e
        cases e
  · refine ⟨E.len, fun i s h => ?_, fun i j s s' v _ h1 _ o1 _ _ _ => ?_⟩
    · match i, h with
      | 0, h =>
        cases h
        exact ⟨_, ev0, rfl, h2, hS⟩
      | 1, h =>
        cases h
        exact ⟨_, ev1, rfl⟩
      | i + 2, h =>
        have : (List.replicate n (none : Option Sl))[i]? = some (some s) := h
        rw [List.getElem?_replicate] at this
        split at this <;> cases this
    · match i, h1 with
      | 0, h1 =>
        cases h1
        exact o1
      | 1, h1 =>
        cases h1
        exact o1
      | i + 2, h1 =>
        have : (List.replicate n (none : Option Sl))[i]? = some (some s) := h1
        rw [List.getElem?_replicate] at this
        split at this <;> cases this
end
/-- the law's promise -/
def spLaw (K : PySem.W.Frag) (T : List (Addr × Str)) : Sp := fun vs H Q _ => ∃ (a : Addr) (ns : List Int), vs = [.ref a] ∧ SqL K H a (ns.map V.int) ∧ ns.length ≤ 63 ∧ (∀ z ∈ ns, Builtin.Int.intBits z ≤ 1048576) ∧ (∀ p ∈ T, H p.1 = some (.tbl #[])) ∧ ∀ H', Q (.bl true) H'
section
variable {P : Program} {w : World} {K : PySem.W.Frag} {mg : Str → Option Value} {base : Heap} {T : List (Addr × Str)} {S L : Type}
theorem law_ok {st s0 : Stmt} {rest : List Stmt} {f : Addr} {N : List Str} {k n : Nat} {dV kV doc pm cdv ct oc : Value} {an od : Option Addr} {osl : Array (Option Value)} {c0 : List Int → Option (List Int × List Int)} {cL : List Int → List Int → M (Fl S L Bool)} {g : S → Ga} {gl : L → Ga}
    (lk : K.lookup f = some ⟨oc, od, .func (PySem.W.fnOf "law" "law" (C8.fnArgs st) (C8.fnBody st) (C8.fnScope st) dV kV doc pm an cdv ct), osl⟩) (hcd : PySem.W.codeIn K cdv "law" = true) (sc : FnScope N ["script"] (C8.fnScope st)) (hbody : C8.fnBody st = s0 :: rest) (hn : N.length = n + 2)
    (h0 : ∀ (sa : Addr) (ns : List Int) (A : Around) (outer : List Env) (s : Shared) (H : Hp) (E : XK), Room k (A.deeper (envOfC "law" (C8.fnScope st) s.heap.objs.size f cdv)) →
      XS (Gt T) (cxOf C8.CX0 P w K mg base N "law" (C8.fnScope st) f cdv A outer s H E).nox s0 ([some (.sh (TScrF K sa ns) ns)] ++ List.replicate (n + 1) none) (fun y => [some (.sh (TScrF K sa ns) ns), some (.sh (TTape1 K sa ns) y)] ++ List.replicate n none) (c0 ns))
    (hB : ∀ (sa : Addr) (ns : List Int) (D L Cc : Addr) (cs : List Int) (A : Around) (outer : List Env) (s : Shared) (H : Hp) (E : XK), L ≠ Cc → Room k (A.deeper (envOfC "law" (C8.fnScope st) s.heap.objs.size f cdv)) →
      XB (Gtp T D L Cc cs) (cxOf C8.CX0 P w K mg base N "law" (C8.fnScope st) f cdv A outer s H E).nox rest ([some (.sh (TScrF K sa ns) ns), some (.sh (TRaw (.ref D)) ())] ++ List.replicate n none) g gl TBool (cL cs ns))
    (hmath : ∀ ns : List Int, ns.length ≤ 63 → (∀ z ∈ ns, Builtin.Int.intBits z ≤ 1048576) → ∃ y, c0 ns = some y ∧ cL y.2 ns fun fl => fl = .rt true) :
    FnOk P w K mg base C8.CX0 (k + 1) f (PySem.W.fnOf "law" "law" (C8.fnArgs st) (C8.fnBody st) (C8.fnScope st) dV kV doc pm an cdv ct) ["script"] (spLaw K T) := by
  refine fn_of lk hcd sc (fun vs H Q E h => ?_) fun A outer s H vs Q E hr h => ?_
  · obtain ⟨a, ns, e, _⟩ := h
    rw [e] <;> rfl
  · obtain ⟨sa, ns, e, hs, hl, hbits, hT, hQ⟩ := h
    subst e
    refine ⟨_, (pss_sem (X := (cxOf C8.CX0 P w K mg base N "law" (C8.fnScope st) f cdv A outer s H E).nox)).nox, ?_⟩
    rw [hbody]
    refine (pss_cons ps_sem pss_sem).sem ?_
    have notT : ∀ {b : Addr} {o : HO}, H b = some o → (∀ ps, o ≠ .tbl ps) → b ∉ T.map (·.1) := fun {b o} e nt hb => by
      obtain ⟨p, hp, e2⟩ := List.mem_map.mp hb
      have e3 := hT p hp
      rw [e2, e] at e3
      exact nt _ (Option.some.inj e3)
    have hF : ∀ {b : Addr}, b ∉ T.map (·.1) → (fun b => if b ∈ T.map (·.1) then none else H b) b = H b := fun {b} h => if_neg h
    have cf : Cf (Gt T) (fun b => if b ∈ T.map (·.1) then none else H b) H := by
      refine ⟨fun b o e => ?_, fun b ys e => ?_, fun p hp => TabS.nil (hT p hp), fun b hb => ?_⟩
      · by_cases z : b ∈ T.map (·.1)
        · rw [if_pos z] at e
          cases e
        · rw [if_neg z] at e
          exact e
      · exact (if_neg (notT e fun ps z => by cases z)).trans e
      · obtain ⟨p, hp, e⟩ := hb
        exact if_pos (List.mem_map.mpr ⟨p, hp, e⟩)
    have hsF : SqL K (fun b => if b ∈ T.map (·.1) then none else H b) sa (ns.map V.int) := by
      rcases hs with h | h
      · refine .inl ?_
        rcases h with h | ⟨ob, h⟩
        · exact .inl ((if_neg (notT h fun ps z => by cases z)).trans h)
        · exact .inr ⟨ob, (if_neg (notT h fun ps z => by cases z)).trans h⟩
      · exact .inr h
    obtain ⟨y, ey, hy⟩ := hmath ns hl hbits
    have E0 : En (Gt T) H (fun b => if b ∈ T.map (·.1) then none else H b) H (L2.start N [V.ref sa]) ([some (.sh (TScrF K sa ns) ns)] ++ List.replicate (n + 1) none) := by
      have := en_start (G := Gt T) (H0 := H) (H := H) (N := N) (as := ATy.mk _ _ _ _ _ _ _) (show (aCons (TScrF K sa ns) aNil).rel (fun b => if b ∈ T.map (·.1) then none else H b) [V.ref sa] (ns, ()) from ⟨_, [], rfl, ⟨rfl, rfl, hsF⟩, rfl⟩)
      rw [hn] at this
      exact this
    refine h0 sa ns A outer s H E hr _ H _ H _ _ cf Step.refl E0 (fun z => z = y) ⟨y, ey, rfl⟩ fun z F1 H1 σ1 hz n1 E1 => ?_
    subst hz
    obtain ⟨D, L', Cc, F2, nLC, cf2, E2⟩ := tape_switch n1.cf E1
    refine hB sa ns D L' Cc z.2 A outer s H E nLC hr F2 H1 F2 H1 σ1 _ cf2 Step.refl E2 _ hy (fun s F' H' σ' h _ _ => by cases h) (fun s F' H' σ' h _ _ => by cases h) (fun s F' H' σ' h _ _ => by cases h) fun r v F' H' h _ rr => ?_
    cases h
    rw [show v = .bl true from rr]
    exact hQ H'
end
end Wc
/-! Plain mathematics A: mirrors reckoned; sums; tallies. -/
namespace Wc
open Mon (ret bnd opt run)
section
variable {α β γ S L R : Type}
theorem oret (x : β) : (ret x : Option β) = some x := (Eq.refl _).trans (Eq.refl _)
theorem oopt (o : Option β) : (opt o : Option β) = o := (Eq.refl _).trans (Eq.refl _)
theorem obnd (x : α) (f : α → Option β) : (bnd (some x) f : Option β) = f x := (Eq.refl _).trans (Eq.refl _)
theorem obnd0 (f : α → Option β) : (bnd none f : Option β) = none := (Eq.refl _).trans (Eq.refl _)
theorem obndF (s : S) (f : S → Option (Fl S L R)) : (bndF (some (.nx s)) f : Option (Fl S L R)) = f s := (Eq.refl _).trans (Eq.refl _)
theorem obndFn {S1 : Type} (s : S1) (f : S1 → Option (Fl S L R)) : (bndF (some (.nx s)) f : Option (Fl S L R)) = f s := (Eq.refl _).trans (Eq.refl _)
theorem obndFr {S1 : Type} (r : R) (f : S1 → Option (Fl S L R)) : (bndF (some (.rt r)) f : Option (Fl S L R)) = some (.rt r) := (Eq.refl _).trans (Eq.refl _)
theorem oretFr (fin : S → β) (r : β) : (retF fin (some (.rt r)) : Option β) = some r := (Eq.refl _).trans (Eq.refl _)
theorem oretFn (fin : S → β) (s : S) : (retF fin (some (.nx s)) : Option β) = some (fin s) := (Eq.refl _).trans (Eq.refl _)
theorem forF_nil (step : S → α → Option (Fl S S R)) (s : S) : (forF step [] s : Option (Fl S L R)) = some (.nx s) := rfl
theorem forF_nx {step : S → α → Option (Fl S S R)} {x : α} {xs : List α} {s s' : S} (h : step s x = some (.nx s')) : (forF step (x :: xs) s : Option (Fl S L R)) = forF step xs s' := by
  show bnd (step s x) _ = _
  rw [h]
  rfl
theorem forF_rt {step : S → α → Option (Fl S S R)} {x : α} {xs : List α} {s : S} {r : R} (h : step s x = some (.rt r)) : (forF step (x :: xs) s : Option (Fl S L R)) = some (.rt r) := by
  show bnd (step s x) _ = _
  rw [h]
  rfl
/-- a loop by what holds behind each part -/
theorem forF_rel {step : S → α → Option (Fl S S R)} (I : List α → S → Prop) (xs : List α) (s0 : S) (h0 : I [] s0) (h : ∀ pre x post s, xs = pre ++ x :: post → I pre s → ∃ s', step s x = some (.nx s') ∧ I (pre ++ [x]) s') :
    ∃ s', (forF step xs s0 : Option (Fl S L R)) = some (.nx s') ∧ I xs s' := by
  have go : ∀ (post pre : List α) (s : S), xs = pre ++ post → I pre s → ∃ s', (forF step post s : Option (Fl S L R)) = some (.nx s') ∧ I xs s' := by
    intro post
    induction post with
    | nil =>
      intro pre s e hi
      rw [List.append_nil] at e
      exact ⟨s, rfl, e ▸ hi⟩
    | cons x post ih =>
      intro pre s e hi
      obtain ⟨s1, e1, i1⟩ := h pre x post s e hi
      rw [forF_nx e1]
      exact ih (pre ++ [x]) s1 (by rw [e, List.append_assoc]; rfl) i1
  exact go xs [] s0 rfl h0
theorem for_bnd {S1 : Type} {step : S1 → α → Option (Fl S1 S1 R)} (I : List α → S1 → Prop) {xs : List α} {s0 : S1} {k : S1 → Option (Fl S L R)} {z : Option (Fl S L R)} (h0 : I [] s0) (h : ∀ pre x post s, xs = pre ++ x :: post → I pre s → ∃ s', step s x = some (.nx s') ∧ I (pre ++ [x]) s')
    (hk : ∀ s', I xs s' → k s' = z) : (bndF (forF step xs s0) k : Option (Fl S L R)) = z := by
  obtain ⟨s', e, i⟩ := forF_rel (L := L) (R := R) I xs s0 h0 h
  rw [e]
  exact hk s' i
theorem for_ret {S1 : Type} {step : S1 → α → Option (Fl S1 S1 R)} (I : List α → S1 → Prop) {xs : List α} {s0 : S1} {k : S1 → Option (Fl S Empty R)} {fin : S → R} {z : Option R} (h0 : I [] s0) (h : ∀ pre x post s, xs = pre ++ x :: post → I pre s → ∃ s', step s x = some (.nx s') ∧ I (pre ++ [x]) s')
    (hk : ∀ s', I xs s' → retF fin (k s') = z) : (retF fin (bndF (forF step xs s0) k) : Option R) = z := by
  obtain ⟨s', e, i⟩ := forF_rel (L := Empty) (R := R) I xs s0 h0 h
  rw [e]
  exact hk s' i
theorem for_retE {S1 : Type} {step : S1 → α → Option (Fl S1 S1 R)} (I : List α → S1 → Prop) {xs : List α} {s0 : S1} {k : S1 → Option (Fl S Empty R)} {fin : S → R} {Z : R → Prop} (h0 : I [] s0) (h : ∀ pre x post s, xs = pre ++ x :: post → I pre s → ∃ s', step s x = some (.nx s') ∧ I (pre ++ [x]) s')
    (hk : ∀ s', I xs s' → ∃ d, retF fin (k s') = some d ∧ Z d) : ∃ d, (retF fin (bndF (forF step xs s0) k) : Option R) = some d ∧ Z d := by
  obtain ⟨s', e, i⟩ := forF_rel (L := Empty) (R := R) I xs s0 h0 h
  rw [e]
  exact hk s' i
theorem if_someB (b : Bool) (x y : β) : (if b = true then some x else some y) = some (if b = true then x else y) := by
  cases b <;> rfl
theorem catC_ok {xs ys : List α} (h : xs.length + ys.length < 1000000) : catC xs ys = some (xs ++ ys) := if_pos h
theorem if_some {c : Prop} [Decidable c] (a b : β) : (if decide c = true then some a else some b) = some (if c then a else b) := by
  by_cases h : c
  · simp [h]
  · simp [h]
/-- a turn that ends in a loop -/
theorem for_ex {S1 S2 : Type} {step : S1 → α → Option (Fl S1 S1 R)} (I : List α → S1 → Prop) {xs : List α} {s0 : S1} {k : S1 → Option (Fl S2 L R)} {Z : S2 → Prop} (h0 : I [] s0) (h : ∀ pre x post s, xs = pre ++ x :: post → I pre s → ∃ s', step s x = some (.nx s') ∧ I (pre ++ [x]) s')
    (hk : ∀ s', I xs s' → ∃ z, k s' = some (.nx z) ∧ Z z) : ∃ z, (bndF (forF step xs s0) k : Option (Fl S2 L R)) = some (.nx z) ∧ Z z := by
  obtain ⟨s', e, i⟩ := forF_rel (L := L) (R := R) I xs s0 h0 h
  rw [e]
  exact hk s' i
/-- a loop that folds -/
theorem forF_fold {step : S → α → Option (Fl S S R)} (g : S → α → S) (I : S → Prop) : ∀ (xs : List α) (s : S), I s → (∀ s x, x ∈ xs → I s → step s x = some (.nx (g s x)) ∧ I (g s x)) → (forF step xs s : Option (Fl S L R)) = some (.nx (xs.foldl g s)) ∧ I (xs.foldl g s)
  | [], s, hi, _ => ⟨rfl, hi⟩
  | x :: xs, s, hi, h => by
    obtain ⟨e1, i1⟩ := h s x (List.mem_cons_self) hi
    rw [forF_nx e1]
    exact forF_fold g I xs _ i1 fun s y hy => h s y (List.mem_cons_of_mem _ hy)
theorem lcF_some {f : α → Option (Option β)} {g : α → Option β} : ∀ xs : List α, (∀ x ∈ xs, f x = some (g x)) → lcF f xs = some (xs.filterMap g)
  | [], _ => rfl
  | x :: xs, h => by
    show bnd (f x) _ = _
    rw [h x List.mem_cons_self, obnd, lcF_some xs fun y hy => h y (List.mem_cons_of_mem _ hy), obnd, oret, List.filterMap_cons]
    cases g x <;> rfl
theorem lcC_some {f : α → Option (Option β)} (g : α → Option β) {xs : List α} (hl : xs.length < 1000000) (h : ∀ x ∈ xs, f x = some (g x)) : lcC f xs = some (xs.filterMap g) := by
  unfold lcC
  rw [if_pos hl]
  exact lcF_some xs h
theorem lcC_map {f : α → Option (Option β)} (g : α → β) {xs : List α} (hl : xs.length < 1000000) (h : ∀ x ∈ xs, f x = some (some (g x))) : lcC f xs = some (xs.map g) := by
  rw [lcC_some (fun x => some (g x)) hl h]
  congr 1
  exact List.filterMap_eq_map' ▸ rfl
theorem lcC_if {f : α → Option (Option β)} (p : α → Bool) (g : α → β) {xs : List α} (hl : xs.length < 1000000) (h : ∀ x ∈ xs, f x = some (if p x then some (g x) else none)) : lcC f xs = some ((xs.filter p).map g) := by
  rw [lcC_some (fun x => if p x then some (g x) else none) hl h]
  congr 1
  clear h hl
  induction xs with
  | nil => rfl
  | cons x xs ih =>
    rw [List.filterMap_cons, List.filter_cons]
    cases p x with
    | true => simp [ih]
    | false => simp [ih]
theorem lc2I_map {ce : α → β → Option γ} {g : α → β → γ} (x : α) : ∀ (ys : List β) (acc : List γ), acc.length + ys.length ≤ 1000000 → (∀ y ∈ ys, ce x y = some (g x y)) → lc2I ce x ys acc = some (acc ++ ys.map (g x))
  | [], acc, _, _ => by
    rw [List.map_nil, List.append_nil]
    rfl
  | y :: ys, acc, hl, h => by
    have hl' : acc.length + (ys.length + 1) ≤ 1000000 := hl
    unfold lc2I
    rw [h y List.mem_cons_self]
    simp only [obnd, oopt]
    rw [if_pos (by omega), lc2I_map x ys _ (by rw [List.length_append]; show acc.length + 1 + ys.length ≤ 1000000; omega) fun z hz => h z (List.mem_cons_of_mem _ hz), List.append_assoc]
    rfl
end
/-! ### sums -/
section
variable {α β γ : Type}
def sm (l : List α) (f : α → Int) : Int := (l.map f).sum
theorem sm_nil (f : α → Int) : sm [] f = 0 := rfl
theorem sm_cons (x : α) (l : List α) (f : α → Int) : sm (x :: l) f = f x + sm l f := by simp [sm]
theorem sm_one (x : α) (f : α → Int) : sm [x] f = f x := by simp [sm]
theorem sm_app (l l' : List α) (f : α → Int) : sm (l ++ l') f = sm l f + sm l' f := by
  induction l with
  | nil => simp [sm_nil]
  | cons x l ih => rw [List.cons_append, sm_cons, sm_cons, ih]; omega
theorem sm_congr {l : List α} {f g : α → Int} (h : ∀ x ∈ l, f x = g x) : sm l f = sm l g := by
  induction l with
  | nil => rfl
  | cons x l ih => rw [sm_cons, sm_cons, h x List.mem_cons_self, ih fun y hy => h y (List.mem_cons_of_mem _ hy)]
theorem sm_le {l : List α} {f g : α → Int} (h : ∀ x ∈ l, f x ≤ g x) : sm l f ≤ sm l g := by
  induction l with
  | nil => exact Int.le_refl _
  | cons x l ih =>
    rw [sm_cons, sm_cons]
    have := h x List.mem_cons_self
    have := ih fun y hy => h y (List.mem_cons_of_mem _ hy)
    omega
theorem sm_nonneg {l : List α} {f : α → Int} (h : ∀ x ∈ l, 0 ≤ f x) : 0 ≤ sm l f := by
  induction l with
  | nil => exact Int.le_refl _
  | cons x l ih =>
    rw [sm_cons]
    have := h x List.mem_cons_self
    have := ih fun y hy => h y (List.mem_cons_of_mem _ hy)
    omega
theorem sm_mem_le {l : List α} {f : α → Int} {x : α} (hx : x ∈ l) (h : ∀ x ∈ l, 0 ≤ f x) : f x ≤ sm l f := by
  induction l with
  | nil => cases hx
  | cons y l ih =>
    rw [sm_cons]
    rcases List.mem_cons.mp hx with e | hx
    · subst e
      have := sm_nonneg fun y hy => h y (List.mem_cons_of_mem _ hy)
      omega
    · have := ih hx fun y hy => h y (List.mem_cons_of_mem _ hy)
      have := h y List.mem_cons_self
      omega
theorem sm_add (l : List α) (f g : α → Int) : sm l (fun x => f x + g x) = sm l f + sm l g := by
  induction l with
  | nil => rfl
  | cons x l ih => rw [sm_cons, sm_cons, sm_cons, ih]; omega
theorem sm_mul (l : List α) (c : Int) (f : α → Int) : sm l (fun x => c * f x) = c * sm l f := by
  induction l with
  | nil => simp [sm_nil]
  | cons x l ih => rw [sm_cons, sm_cons, ih, Int.mul_add]
theorem sm_mulr (l : List α) (c : Int) (f : α → Int) : sm l (fun x => f x * c) = sm l f * c := by
  induction l with
  | nil => simp [sm_nil]
  | cons x l ih => rw [sm_cons, sm_cons, ih, Int.add_mul]
theorem sm_const (l : List α) (c : Int) : sm l (fun _ => c) = l.length * c := by
  induction l with
  | nil => simp [sm_nil]
  | cons x l ih => rw [sm_cons, ih, List.length_cons]; grind
theorem sm_rep (k : Nat) (x : α) (f : α → Int) : sm (List.replicate k x) f = k * f x := by
  induction k with
  | zero => simp [sm_nil]
  | succ k ih => rw [List.replicate_succ, sm_cons, ih]; grind
theorem sm_zero (l : List α) : sm l (fun _ => 0) = 0 := by rw [sm_const]; simp
theorem sm_map (l : List α) (g : α → β) (f : β → Int) : sm (l.map g) f = sm l fun x => f (g x) := by
  induction l with
  | nil => rfl
  | cons x l ih => rw [List.map_cons, sm_cons, sm_cons, ih]
theorem sm_flat (l : List α) (g : α → List β) (f : β → Int) : sm (l.flatMap g) f = sm l fun x => sm (g x) f := by
  induction l with
  | nil => rfl
  | cons x l ih => rw [List.flatMap_cons, sm_app, sm_cons, ih]
theorem sm_filter (l : List α) (p : α → Bool) (f : α → Int) : sm (l.filter p) f = sm l fun x => if p x then f x else 0 := by
  induction l with
  | nil => rfl
  | cons x l ih =>
    rw [List.filter_cons, sm_cons]
    cases p x with
    | true => simp only [if_true]; rw [sm_cons, ih]
    | false => simp [ih]
theorem sm_comm (l : List α) (l' : List β) (f : α → β → Int) : sm l (fun x => sm l' fun y => f x y) = sm l' fun y => sm l fun x => f x y := by
  induction l with
  | nil =>
    rw [sm_nil]
    exact (sm_zero l').symm
  | cons x l ih =>
    rw [sm_cons, ih, ← sm_add]
    exact sm_congr fun y _ => (sm_cons x l fun x => f x y).symm
theorem sm_perm {l l' : List α} (h : l.Perm l') (f : α → Int) : sm l f = sm l' f := by
  induction h with
  | nil => rfl
  | cons x _ ih => rw [sm_cons, sm_cons, ih]
  | swap x y l => rw [sm_cons, sm_cons, sm_cons, sm_cons]; omega
  | trans _ _ ih1 ih2 => rw [ih1, ih2]
theorem sm_id (l : List Int) : sm l (fun x => x) = l.sum := by simp [sm]
end
/-! ### tallies -/
section
variable {κ : Type} [DecidableEq κ]
/-- how often -/
def cnt (k : κ) (rs : List κ) : Int := sm rs fun x => if x = k then 1 else 0
theorem cnt_nonneg (k : κ) (rs : List κ) : 0 ≤ cnt k rs := sm_nonneg fun x _ => by split <;> omega
theorem cnt_pos {k : κ} {rs : List κ} : 0 < cnt k rs ↔ k ∈ rs := by
  constructor
  · intro h
    rcases Classical.em (k ∈ rs) with hk | hk
    · exact hk
    · have : cnt k rs = 0 := by
        unfold cnt
        rw [sm_congr (g := fun _ => 0) fun x hx => if_neg fun (e : x = k) => hk (e ▸ hx), sm_zero]
      omega
  · intro h
    have := sm_mem_le (f := fun x => if x = k then (1 : Int) else 0) h fun x _ => by split <;> omega
    simp only [if_true] at this
    unfold cnt
    omega
theorem cnt_zero {k : κ} {rs : List κ} (h : k ∉ rs) : cnt k rs = 0 := by
  have h1 := cnt_nonneg k rs
  have h2 : ¬ 0 < cnt k rs := fun z => h (cnt_pos.mp z)
  omega
theorem cnt_le (k : κ) (rs : List κ) : cnt k rs ≤ rs.length := by
  have : cnt k rs ≤ sm rs fun _ => 1 := sm_le fun x _ => by split <;> omega
  rw [sm_const] at this
  omega
/-- a dict's weights -/
def ms (d : List (κ × Int)) (f : κ → Int) : Int := sm d fun p => p.2 * f p.1
theorem ms_nil (f : κ → Int) : ms [] f = 0 := rfl
theorem ms_cons (p : κ × Int) (d : List (κ × Int)) (f : κ → Int) : ms (p :: d) f = p.2 * f p.1 + ms d f := sm_cons _ _ _
theorem dget_cons {α : Type} (p : κ × α) (d : List (κ × α)) (k : κ) : dget (p :: d) k = if p.1 = k then some p.2 else dget d k := by
  unfold dget
  rw [List.find?_cons]
  by_cases h : p.1 = k
  · simp [h]
  · simp [h]
theorem dget_none {α : Type} {d : List (κ × α)} {k : κ} : dget d k = none ↔ k ∉ d.map (·.1) := by
  induction d with
  | nil => simp [dget]
  | cons p d ih =>
    rw [dget_cons, List.map_cons, List.mem_cons]
    by_cases h : p.1 = k
    · simp [h]
    · rw [if_neg h, ih]
      constructor
      · intro z e
        rcases e with e | e
        · exact h e.symm
        · exact z e
      · intro z e
        exact z (.inr e)
theorem dget_mem {α : Type} {d : List (κ × α)} {k : κ} {v : α} (h : dget d k = some v) : (k, v) ∈ d := by
  induction d with
  | nil => cases h
  | cons p d ih =>
    rw [dget_cons] at h
    by_cases e : p.1 = k
    · rw [if_pos e] at h
      cases h
      exact List.mem_cons.mpr (.inl (by rw [← e]))
    · rw [if_neg e] at h
      exact List.mem_cons_of_mem _ (ih h)
theorem mem_dget {α : Type} {d : List (κ × α)} (nd : (d.map (·.1)).Nodup) {p : κ × α} (h : p ∈ d) : dget d p.1 = some p.2 := by
  induction d with
  | nil => cases h
  | cons q d ih =>
    rw [List.map_cons, List.nodup_cons] at nd
    rw [dget_cons]
    rcases List.mem_cons.mp h with e | h
    · subst e
      rw [if_pos rfl]
    · rw [if_neg fun e => nd.1 (by rw [e]; exact List.mem_map.mpr ⟨p, h, rfl⟩)]
      exact ih nd.2 h
theorem any_key {α : Type} {d : List (κ × α)} {k : κ} : (d.any fun p => decide (p.1 = k)) = true ↔ k ∈ d.map (·.1) := by
  rw [List.any_eq_true, List.mem_map]
  constructor
  · rintro ⟨p, h, e⟩
    exact ⟨p, h, of_decide_eq_true e⟩
  · rintro ⟨p, h, e⟩
    exact ⟨p, h, decide_eq_true e⟩
theorem keys_dput {α : Type} (d : List (κ × α)) (k : κ) (v : α) : (dput d k v).map (·.1) = if k ∈ d.map (·.1) then d.map (·.1) else d.map (·.1) ++ [k] := by
  unfold dput
  by_cases h : k ∈ d.map (·.1)
  · rw [if_pos (any_key.mpr h), if_pos h, List.map_map]
    apply List.map_congr_left
    intro p _
    show (if p.1 = k then (p.1, v) else p).1 = p.1
    split <;> rfl
  · rw [if_neg (fun z => h (any_key.mp z)), if_neg h, List.map_append]
    rfl
theorem nodup_dput {α : Type} {d : List (κ × α)} (nd : (d.map (·.1)).Nodup) (k : κ) (v : α) : ((dput d k v).map (·.1)).Nodup := by
  rw [keys_dput]
  split
  · exact nd
  · rename_i h
    rw [List.nodup_append]
    refine ⟨nd, by simp, fun a ha b hb e => ?_⟩
    rw [List.mem_singleton] at hb
    exact h (by rw [← hb, ← e]; exact ha)
theorem dget_map_ne {α : Type} {d : List (κ × α)} {k j : κ} {v : α} (h : j ≠ k) : dget (d.map fun p => if p.1 = k then (p.1, v) else p) j = dget d j := by
  induction d with
  | nil => rfl
  | cons p d ih =>
    rw [List.map_cons, dget_cons, dget_cons, ih]
    by_cases e : p.1 = k
    · rw [if_pos e, if_neg (fun z => h (z.symm.trans e)), if_neg (fun z => h (z.symm.trans e))]
    · rw [if_neg e]
theorem dget_app {α : Type} (d d' : List (κ × α)) (k : κ) : dget (d ++ d') k = (dget d k).or (dget d' k) := by
  induction d with
  | nil => rfl
  | cons p d ih =>
    rw [List.cons_append, dget_cons, dget_cons, ih]
    split <;> rfl
theorem dget_dput {α : Type} (d : List (κ × α)) (k j : κ) (v : α) : dget (dput d k v) j = if j = k then some v else dget d j := by
  unfold dput
  by_cases hk : k ∈ d.map (·.1)
  · rw [if_pos (any_key.mpr hk)]
    by_cases e : j = k
    · subst e
      rw [if_pos rfl]
      induction d with
      | nil => cases hk
      | cons p d ih =>
        rw [List.map_cons, dget_cons]
        by_cases e : p.1 = j
        · simp [e]
        · rw [if_neg e, if_neg e]
          refine ih ?_
          rw [List.map_cons, List.mem_cons] at hk
          exact hk.resolve_left fun z => e z.symm
    · rw [if_neg e, dget_map_ne e]
  · rw [if_neg (fun z => hk (any_key.mp z)), dget_app]
    by_cases e : j = k
    · subst e
      rw [if_pos rfl, dget_none.mpr hk, dget_cons, if_pos rfl]
      rfl
    · rw [if_neg e, dget_cons, if_neg (fun z => e z.symm)]
      cases dget d j <;> rfl
theorem len_dput {α : Type} (d : List (κ × α)) (k : κ) (v : α) : (dput d k v).length ≤ d.length + 1 := by
  unfold dput
  split
  · rw [List.length_map]; omega
  · rw [List.length_append]; exact Nat.le_refl _
theorem ms_map_put {d : List (κ × Int)} {k : κ} {w : Int} (f : κ → Int) : (d.map (·.1)).Nodup → k ∈ d.map (·.1) → ms (d.map fun p => if p.1 = k then (p.1, (dget d k).getD 0 + w) else p) f = ms d f + w * f k := by
  intro nd hk
  have gen : ∀ (e : List (κ × Int)) (c : Int), (e.map (·.1)).Nodup → ms (e.map fun p => if p.1 = k then (p.1, c) else p) f = ms e f + if k ∈ e.map (·.1) then (c - (dget e k).getD 0) * f k else 0 := by
    intro e c
    induction e with
    | nil => intro _; simp [ms_nil]
    | cons p e ih =>
      intro nd
      rw [List.map_cons, List.nodup_cons] at nd
      rw [List.map_cons, ms_cons, ms_cons, ih nd.2, dget_cons, List.map_cons]
      by_cases h : p.1 = k
      · have hn : k ∉ e.map (·.1) := fun z => nd.1 (by rw [h]; exact z)
        rw [if_neg hn, if_pos h, if_pos h, if_pos (by rw [h]; exact List.mem_cons_self)]
        show c * f p.1 + (ms e f + 0) = _
        simp only [Option.getD_some, h]
        grind
      · rw [if_neg h, if_neg h]
        by_cases hk : k ∈ e.map (·.1)
        · rw [if_pos hk, if_pos (List.mem_cons_of_mem _ hk)]
          omega
        · rw [if_neg hk, if_neg (fun z => (List.mem_cons.mp z).elim (fun z => h z.symm) hk)]
          omega
  rw [gen d _ nd, if_pos hk]
  congr 2
  omega
theorem ms_dput {d : List (κ × Int)} (nd : (d.map (·.1)).Nodup) (k : κ) (w : Int) (f : κ → Int) : ms (dput d k ((dget d k).getD 0 + w)) f = ms d f + w * f k := by
  by_cases hk : k ∈ d.map (·.1)
  · unfold dput
    rw [if_pos (any_key.mpr hk)]
    exact ms_map_put f nd hk
  · unfold dput
    rw [if_neg (fun z => hk (any_key.mp z)), dget_none.mpr hk]
    unfold ms
    rw [sm_app, sm_one]
    simp
/-- the dict d tells how often each item of rs comes -/
structure Rep (d : List (κ × Int)) (rs : List κ) : Prop where
  nd : (d.map (·.1)).Nodup
  pos : ∀ p ∈ d, 0 < p.2
  sum : ∀ f : κ → Int, ms d f = sm rs f
theorem rep_nil : Rep ([] : List (κ × Int)) [] where
  nd := by simp
  pos := fun _ h => by simp at h
  sum := fun _ => rfl
theorem rep_one (k : κ) : Rep [(k, 1)] [k] where
  nd := by simp
  pos := fun p h => by
    rw [List.mem_singleton] at h
    rw [h]
    exact Int.one_pos
  sum := fun f => by
    rw [ms_cons, ms_nil, sm_one]
    simp
theorem ms_delta {d : List (κ × Int)} (nd : (d.map (·.1)).Nodup) (k : κ) : ms d (fun x => if x = k then 1 else 0) = (dget d k).getD 0 := by
  induction d with
  | nil => rfl
  | cons p d ih =>
    rw [List.map_cons, List.nodup_cons] at nd
    rw [ms_cons, dget_cons, ih nd.2]
    by_cases h : p.1 = k
    · rw [if_pos h, if_pos h, dget_none.mpr (by rw [← h]; exact nd.1)]
      simp
    · rw [if_neg h, if_neg h]
      simp
theorem Rep.get {d : List (κ × Int)} {rs : List κ} (h : Rep d rs) (k : κ) : (dget d k).getD 0 = cnt k rs := by
  rw [← ms_delta h.nd, h.sum]
  rfl
theorem Rep.key {d : List (κ × Int)} {rs : List κ} (h : Rep d rs) {k : κ} : k ∈ d.map (·.1) ↔ k ∈ rs := by
  rw [← cnt_pos (rs := rs), ← h.get k]
  constructor
  · intro hk
    cases e : dget d k with
    | none => exact absurd hk (dget_none.mp e)
    | some v => exact h.pos _ (dget_mem e)
  · intro hk
    refine Classical.byContradiction fun z => ?_
    rw [dget_none.mpr z] at hk
    exact absurd hk (by decide)
theorem Rep.some {d : List (κ × Int)} {rs : List κ} (h : Rep d rs) {k : κ} (hk : k ∈ rs) : dget d k = .some (cnt k rs) := by
  cases e : dget d k with
  | none => exact absurd (h.key.mpr hk) (dget_none.mp e)
  | some v =>
    have := h.get k
    rw [e] at this
    rw [← this]
    rfl
theorem Rep.mem {d : List (κ × Int)} {rs : List κ} (h : Rep d rs) {p : κ × Int} (hp : p ∈ d) : p.1 ∈ rs ∧ p.2 = cnt p.1 rs := by
  have hk : p.1 ∈ rs := h.key.mp (List.mem_map.mpr ⟨p, hp, rfl⟩)
  have := mem_dget h.nd hp
  rw [h.some hk] at this
  exact ⟨hk, (Option.some.inj this).symm⟩
theorem Rep.len {d : List (κ × Int)} {rs : List κ} (h : Rep d rs) : d.length ≤ rs.length := by
  have e := h.sum fun _ => 1
  rw [sm_const] at e
  have : sm d (fun _ => (1 : Int)) ≤ ms d fun _ => 1 := sm_le fun p hp => by
    have := h.pos p hp
    show 1 ≤ p.2 * 1
    omega
  rw [sm_const] at this
  omega
/-- one more -/
theorem Rep.put {d : List (κ × Int)} {rs : List κ} (h : Rep d rs) (k : κ) {w : Int} (hw : 0 < w) {ts : List κ} (ht : ∀ f : κ → Int, sm ts f = w * f k) : Rep (dput d k ((dget d k).getD 0 + w)) (rs ++ ts) := by
  refine ⟨nodup_dput h.nd k _, fun p hp => ?_, fun f => by rw [ms_dput h.nd, h.sum, sm_app, ht]⟩
  have e := mem_dget (nodup_dput h.nd k _) hp
  rw [dget_dput] at e
  by_cases z : p.1 = k
  · rw [if_pos z, h.get] at e
    have := cnt_nonneg k rs
    have := Option.some.inj e
    omega
  · rw [if_neg z] at e
    exact h.pos _ (dget_mem e)
theorem Rep.put1 {d : List (κ × Int)} {rs : List κ} (h : Rep d rs) (k : κ) : Rep (dput d k ((dget d k).getD 0 + 1)) (rs ++ [k]) := h.put k (by decide) fun f => by rw [sm_one]; omega
theorem Rep.congr {d : List (κ × Int)} {rs ts : List κ} (h : Rep d rs) (e : ∀ f : κ → Int, sm rs f = sm ts f) : Rep d ts := ⟨h.nd, h.pos, fun f => (h.sum f).trans (e f)⟩
end
/-! ### ascending dicts -/
def Asc (d : List (Int × Int)) : Prop := (d.map (·.1)).Pairwise (· < ·)
theorem asc_nodup {l : List Int} (h : l.Pairwise (· < ·)) : l.Nodup := h.imp fun h e => by omega
theorem asc_ext : ∀ {l l' : List Int}, l.Pairwise (· < ·) → l'.Pairwise (· < ·) → (∀ x, x ∈ l ↔ x ∈ l') → l = l'
  | [], [], _, _, _ => rfl
  | [], y :: _, _, _, h => absurd ((h y).mpr List.mem_cons_self) (by simp)
  | x :: _, [], _, _, h => absurd ((h x).mp List.mem_cons_self) (by simp)
  | x :: l, y :: l', a, b, h => by
    rw [List.pairwise_cons] at a b
    have e : x = y := by
      rcases List.mem_cons.mp ((h x).mp List.mem_cons_self) with e | hx
      · exact e
      · rcases List.mem_cons.mp ((h y).mpr List.mem_cons_self) with e | hy
        · exact e.symm
        · have := a.1 y hy
          have := b.1 x hx
          omega
    subst e
    rw [asc_ext a.2 b.2 fun z => ?_]
    constructor
    · intro hz
      rcases List.mem_cons.mp ((h z).mp (List.mem_cons_of_mem _ hz)) with e | hz'
      · have := a.1 z hz
        omega
      · exact hz'
    · intro hz
      rcases List.mem_cons.mp ((h z).mpr (List.mem_cons_of_mem _ hz)) with e | hz'
      · have := b.1 z hz
        omega
      · exact hz'
theorem rep_unique {d d' : List (Int × Int)} {rs rs' : List Int} (h : Rep d rs) (h' : Rep d' rs') (a : Asc d) (a' : Asc d') (e : ∀ f : Int → Int, sm rs f = sm rs' f) : d = d' := by
  have ec : ∀ k, cnt k rs = cnt k rs' := fun k => e _
  have ek : d.map (·.1) = d'.map (·.1) := asc_ext a a' fun x => by rw [h.key, h'.key, ← cnt_pos, ← cnt_pos, ec]
  have fromKeys : ∀ {e : List (Int × Int)} {ts : List Int}, Rep e ts → e = (e.map (·.1)).map fun k => (k, cnt k ts) := fun {e ts} he => by
    rw [List.map_map]
    conv => lhs; rw [← List.map_id e]
    apply List.map_congr_left
    intro p hp
    show p = (p.1, cnt p.1 ts)
    rw [← (he.mem hp).2]
  rw [fromKeys h, fromKeys h', ek]
  apply List.map_congr_left
  intro k _
  rw [ec]
end Wc
/-! Plain mathematics B: sizes, places in lists, Euclid, rows. -/
namespace Wc
open Mon (ret bnd opt run)
open L2
/-! ### sizes -/
def Sz (i : Nat) (a : Int) : Prop := a.natAbs < 2 ^ i
theorem Sz.mono {i j : Nat} {a : Int} (h : Sz i a) (hj : i ≤ j) : Sz j a := Nat.lt_of_lt_of_le h (Nat.pow_le_pow_right (by decide) hj)
theorem Sz.mul {i j : Nat} {a b : Int} (h : Sz i a) (h' : Sz j b) : Sz (i + j) (a * b) := by
  unfold Sz at *
  rw [Int.natAbs_mul, Nat.pow_add]
  exact Nat.mul_lt_mul'' h h'
theorem Sz.add {i : Nat} {a b : Int} (h : Sz i a) (h' : Sz i b) : Sz (i + 1) (a + b) := by
  unfold Sz at *
  have := Int.natAbs_add_le a b
  rw [Nat.pow_succ]
  omega
theorem Sz.of_lt {i : Nat} {a : Int} (h0 : 0 ≤ a) (h : a < 2 ^ i) : Sz i a := by
  unfold Sz
  have e : ((a.natAbs : Nat) : Int) = a := by omega
  have : ((a.natAbs : Nat) : Int) < ((2 ^ i : Nat) : Int) := by
    rw [e, Int.natCast_pow]
    exact h
  exact Int.ofNat_lt.mp this
theorem Sz.lt {i : Nat} {a : Int} (h : Sz i a) : a < 2 ^ i := by
  have : ((a.natAbs : Nat) : Int) < ((2 ^ i : Nat) : Int) := Int.ofNat_lt.mpr h
  rw [Int.natCast_pow] at this
  have e : a ≤ ((a.natAbs : Nat) : Int) := by omega
  exact Int.lt_of_le_of_lt e this
theorem Sz.le {i : Nat} {a b : Int} (h : Sz i b) (h0 : 0 ≤ a) (hab : a ≤ b) : Sz i a := by
  unfold Sz at *
  omega
theorem Sz.log {i : Nat} {a : Int} (h : Sz i a) : a.natAbs.log2 ≤ i := by
  rcases Nat.eq_zero_or_pos a.natAbs with e | e
  · rw [e]
    exact Nat.zero_le _
  · exact Nat.le_of_lt ((Nat.log2_lt (Nat.ne_of_gt e)).mpr h)
theorem mulW_ok {i j : Nat} {a b : Int} (ha : Sz i a) (hb : Sz j b) (h : i + j < 1000000) : mulW a b = some (a * b) := by
  unfold mulW
  have := ha.log
  have := hb.log
  rw [if_pos (by omega)]
theorem divW_ok {j : Nat} {a b : Int} (hb : Sz j b) (h0 : 0 < b) (h : j < 9000) : divW a b = some (a / b) := by
  unfold divW
  have := hb.log
  rw [if_pos ⟨h0, by omega⟩]
theorem modC_ok {a b : Int} (h0 : 0 < b) : modC a b = some (a % b) := if_pos h0
theorem powC_10_18 : powC 10 18 = some 1000000000000000000 := by decide
/-! ### places -/
section
variable {α β : Type}
theorem atI_nat {xs : List α} {i : Int} {x : α} (h0 : 0 ≤ i) (h : xs[i.toNat]? = some x) : atI xs i = some x := by
  have hl : i.toNat < xs.length := (List.getElem?_eq_some_iff.mp h).1
  unfold atI ixN
  rw [if_pos h0, if_pos (by omega)]
  exact h
theorem atI_0 {x : α} {xs : List α} : atI (x :: xs) 0 = some x := atI_nat (Int.le_refl 0) rfl
theorem setC_nat {xs : List α} {i : Int} {x : α} (h0 : 0 ≤ i) (h : i < xs.length) : setC xs i x = some (xs.set i.toNat x) := by
  unfold setC ixN
  rw [if_pos h0, if_pos h]
  rfl
/-- the numbers below q -/
def ks (q : Nat) : List Int := (List.range q).map fun (i : Nat) => (i : Int)
theorem ks_len (q : Nat) : (ks q).length = q := by simp [ks]
theorem ks_mem {q : Nat} {k : Int} : k ∈ ks q ↔ 0 ≤ k ∧ k < q := by
  unfold ks
  rw [List.mem_map]
  constructor
  · rintro ⟨i, hi, rfl⟩
    have := List.mem_range.mp hi
    omega
  · rintro ⟨h0, h1⟩
    exact ⟨k.toNat, List.mem_range.mpr (by omega), by omega⟩
theorem rngI_ks {q : Nat} (h : q < 1000000000) : rngI 0 (q : Int) = some (ks q) := by
  unfold rngI
  rw [if_pos (by omega)]
  congr 1
  unfold ks
  have : ((q : Int) - 0).toNat = q := by omega
  rw [this]
  apply List.map_congr_left
  intro i _
  omega
theorem rngI_ks' {z : Int} (h0 : 0 ≤ z) (h : z < 1000000000) : rngI 0 z = some (ks z.toNat) := by
  have := rngI_ks (q := z.toNat) (by omega)
  rw [show ((z.toNat : Nat) : Int) = z by omega] at this
  exact this
theorem enumI_at {xs : List α} {i : Nat} {x : α} (h : xs[i]? = some x) : (enumI xs)[i]? = some ((i : Int), x) := by
  have hl : i < xs.length := (List.getElem?_eq_some_iff.mp h).1
  unfold enumI
  rw [List.getElem?_map, List.getElem?_zip_eq_some (z := (i, x)) |>.mpr ⟨List.getElem?_range hl, h⟩]
  rfl
theorem enumI_mem {xs : List α} {p : Int × α} (h : p ∈ enumI xs) : ∃ i : Nat, p.1 = (i : Int) ∧ xs[i]? = some p.2 := by
  obtain ⟨i, hi⟩ := List.mem_iff_getElem?.mp h
  obtain ⟨h1, h2⟩ := enumI_get hi
  exact ⟨i, h1, h2⟩
theorem len_zip_eq {xs : List α} {ys : List β} (h : xs.length = ys.length) : (xs.zip ys).length = xs.length := by simp [h]
end
theorem mem_maxI {a b : Int} : maxI a b = if b > a then b else a := rfl
/-! ### Euclid -/
theorem emod_half {a b : Int} (ha : 0 < a) (hb : a < b) : 2 * (b % a) < b := by
  have h1 := Int.emod_lt_of_pos b ha
  have h2 := Int.emod_add_mul_ediv b a
  have h3 : 1 ≤ b / a := by
    rw [Int.le_ediv_iff_mul_le ha]
    omega
  have h4 : a * 1 ≤ a * (b / a) := Int.mul_le_mul_of_nonneg_left h3 (by omega)
  omega
theorem gcd_step (a b : Int) : Int.gcd b (a % b) = Int.gcd a b := by
  have := Int.gcd_sub_mul_right_right b a (a / b)
  have e : a - a / b * b = a % b := by
    have h1 := Int.emod_add_mul_ediv a b
    have h2 := Int.mul_comm b (a / b)
    omega
  rw [e] at this
  rw [this, Int.gcd_comm]
def euStep : Int × Int → Int × Int := fun s => (s.2, s.1 % s.2)
/-- so many steps are enough -/
theorem eu_bound : ∀ (n : Nat) (a b : Int), 0 ≤ a → 0 ≤ b → b < 2 ^ n → ∀ (P : Nat → Int × Int → Prop),
    (∀ m s, s.2 = 0 → s.1 = (Int.gcd a b : Int) → P (m + 1) s) → (∀ m s, 0 ≤ s.1 → 0 < s.2 → Int.gcd s.1 s.2 = Int.gcd a b → P m (euStep s) → P (m + 1) s) → ∀ m, 2 * n + 1 ≤ m → P m (a, b) := by
  have key : ∀ (n : Nat) (g : Nat) (P : Nat → Int × Int → Prop), (∀ m s, s.2 = 0 → s.1 = (g : Int) → P (m + 1) s) → (∀ m s, 0 ≤ s.1 → 0 < s.2 → Int.gcd s.1 s.2 = g → P m (euStep s) → P (m + 1) s) →
      ∀ (a b : Int), 0 ≤ a → 0 ≤ b → b < 2 ^ n → Int.gcd a b = g → ∀ m, 2 * n + 1 ≤ m → P m (a, b) := by
    intro n g P h0 h1
    have fin : ∀ (a : Int) m, 0 ≤ a → Int.gcd a 0 = g → 1 ≤ m → P m (a, 0) := fun a m ha hg hm => by
      obtain ⟨m', rfl⟩ : ∃ m', m = m' + 1 := ⟨m - 1, by omega⟩
      refine h0 m' (a, 0) rfl ?_
      rw [Int.gcd_zero_right] at hg
      show a = (g : Int)
      omega
    induction n with
    | zero =>
      intro a b ha hb hlt hg m hm
      have : b = 0 := by
        have : (2 : Int) ^ 0 = 1 := rfl
        omega
      subst this
      exact fin a m ha hg (by omega)
    | succ n ih =>
      intro a b ha hb hlt hg m hm
      rcases Int.lt_or_eq_of_le hb with hb' | hb'
      · obtain ⟨m1, rfl⟩ : ∃ m1, m = m1 + 1 := ⟨m - 1, by omega⟩
        refine h1 m1 (a, b) ha hb' hg ?_
        show P m1 (b, a % b)
        have hr0 := Int.emod_nonneg a (Int.ne_of_gt hb')
        have hr1 := Int.emod_lt_of_pos a hb'
        have hg1 : Int.gcd b (a % b) = g := (gcd_step a b).trans hg
        rcases Int.lt_or_eq_of_le hr0 with hr | hr
        · obtain ⟨m2, rfl⟩ : ∃ m2, m1 = m2 + 1 := ⟨m1 - 1, by omega⟩
          refine h1 m2 (b, a % b) hb hr hg1 ?_
          show P m2 (a % b, b % (a % b))
          have hh := emod_half hr hr1
          refine ih (a % b) (b % (a % b)) hr0 (Int.emod_nonneg _ (Int.ne_of_gt hr)) ?_ ((gcd_step b (a % b)).trans hg1) m2 (by omega)
          have : (2 : Int) ^ (n + 1) = 2 ^ n * 2 := Int.pow_succ ..
          omega
        · rw [← hr]
          rw [← hr] at hg1
          exact fin b m1 hb hg1 (by omega)
      · rw [← hb']
        rw [← hb'] at hg
        exact fin a m ha hg (by omega)
  intro n a b ha hb hlt P h0 h1 m hm
  exact key n (Int.gcd a b) P h0 h1 a b ha hb hlt rfl m hm
/-- a fraction without a common divisor -/
def low (a b : Int) : Int × Int := (a / Int.gcd a b, b / Int.gcd a b)
theorem gcd_mul_l (c a b : Int) : (Int.gcd (c * a) (c * b) : Int) = c.natAbs * Int.gcd a b := by
  rw [Int.gcd_mul_left]
  rfl
theorem low_mul {c a b : Int} (hc : 0 < c) (hb : 0 < b) : low (c * a) (c * b) = low a b := by
  unfold low
  have hg : 0 < Int.gcd a b := Int.gcd_pos_of_ne_zero_right _ (Int.ne_of_gt hb)
  have e : (Int.gcd (c * a) (c * b) : Int) = c * Int.gcd a b := by
    rw [gcd_mul_l]
    congr 1
    omega
  rw [e, Int.mul_ediv_mul_of_pos _ _ hc, Int.mul_ediv_mul_of_pos _ _ hc]
theorem low_one {m : Int} (h : 0 < m) : low 1 m = (1, m) := by
  unfold low
  rw [Int.gcd_one_left]
  simp
theorem low_zero {m : Int} (h : 0 < m) : low 0 m = (0, 1) := by
  unfold low
  rw [Int.gcd_zero_left]
  have e : ((m.natAbs : Nat) : Int) = m := by omega
  rw [e, Int.ediv_self (Int.ne_of_gt h), Int.zero_ediv]
theorem low_self {m : Int} (h : 0 < m) : low m m = (1, 1) := by
  have := low_mul (a := 1) (b := 1) h (by decide)
  rw [Int.mul_one] at this
  rw [this]
  exact low_one (by decide)
theorem low_dvd {m k : Int} (h : 0 < m) (hk : 0 < k) : low m (m * k) = (1, k) := by
  have := low_mul (a := 1) (b := k) h hk
  rw [Int.mul_one] at this
  rw [this]
  exact low_one hk
/-- the fractions in their sequence -/
theorem low_le {a b c d : Int} (hb : 0 < b) (hd : 0 < d) : (low a b).1 * (low c d).2 < (low c d).1 * (low a b).2 ↔ a * d < c * b := by
  have hg : 0 < (Int.gcd a b : Int) := Int.ofNat_lt.mpr (Int.gcd_pos_of_ne_zero_right _ (Int.ne_of_gt hb))
  have hh : 0 < (Int.gcd c d : Int) := Int.ofNat_lt.mpr (Int.gcd_pos_of_ne_zero_right _ (Int.ne_of_gt hd))
  have ea : a = (Int.gcd a b : Int) * (low a b).1 := (Int.mul_ediv_cancel' (Int.gcd_dvd_left ..)).symm
  have eb : b = (Int.gcd a b : Int) * (low a b).2 := (Int.mul_ediv_cancel' (Int.gcd_dvd_right ..)).symm
  have ec : c = (Int.gcd c d : Int) * (low c d).1 := (Int.mul_ediv_cancel' (Int.gcd_dvd_left ..)).symm
  have ed : d = (Int.gcd c d : Int) * (low c d).2 := (Int.mul_ediv_cancel' (Int.gcd_dvd_right ..)).symm
  have key : ∀ (g h x y u v : Int), 0 < g → 0 < h → (x * v < u * y ↔ (g * x) * (h * v) < (h * u) * (g * y)) := by
    intro g h x y u v hg hh
    have e1 : (g * x) * (h * v) = (g * h) * (x * v) := by grind
    have e2 : (h * u) * (g * y) = (g * h) * (u * y) := by grind
    rw [e1, e2]
    have hp := Int.mul_pos hg hh
    exact (Int.mul_lt_mul_left hp).symm
  rw [key _ _ _ _ _ _ hg hh, ← ea, ← eb, ← ec, ← ed]
/-! ### rows -/
def rows (q : Nat) : Nat → List (List Int)
  | 0 => [[]]
  | n + 1 => (ks q).flatMap fun k => (rows q n).map (k :: ·)
theorem rows_snoc (q : Nat) : ∀ n : Nat, rows q (n + 1) = (rows q n).flatMap fun r => (ks q).map fun k => r ++ [k]
  | 0 => by
    show (ks q).flatMap (fun k => [[]].map (k :: ·)) = _
    show _ = ([[]] : List (List Int)).flatMap _
    rw [List.flatMap_cons, List.flatMap_nil, List.append_nil]
    show (ks q).flatMap (fun k => [[k]]) = (ks q).map fun k => [k]
    induction ks q with
    | nil => rfl
    | cons k l ih => rw [List.flatMap_cons, List.map_cons, ih]; rfl
  | n + 1 => by
    rw [show rows q (n + 1 + 1) = (ks q).flatMap fun k => (rows q (n + 1)).map (k :: ·) from rfl]
    conv => rhs; rw [show rows q (n + 1) = (ks q).flatMap fun k => (rows q n).map (k :: ·) from rfl]
    rw [List.flatMap_assoc]
    congr 1
    funext k
    rw [rows_snoc q n, List.flatMap_map, List.map_flatMap]
    congr 1
    funext r
    rw [List.map_map]
    rfl
theorem rows_len (q : Nat) : ∀ n : Nat, (rows q n).length = q ^ n
  | 0 => rfl
  | n + 1 => by
    rw [show rows q (n + 1) = (ks q).flatMap fun k => (rows q n).map (k :: ·) from rfl, List.length_flatMap]
    simp only [List.length_map, rows_len q n]
    rw [List.map_const', List.sum_replicate_nat, ks_len, Nat.pow_succ, Nat.mul_comm]
theorem rows_mem {q : Nat} : ∀ {n : Nat} {r : List Int}, r ∈ rows q n ↔ r.length = n ∧ ∀ k ∈ r, 0 ≤ k ∧ k < q
  | 0, r => by
    show r ∈ [[]] ↔ _
    rw [List.mem_singleton]
    constructor
    · rintro rfl
      exact ⟨rfl, fun _ h => by cases h⟩
    · intro h
      exact List.eq_nil_of_length_eq_zero h.1
  | n + 1, r => by
    rw [show rows q (n + 1) = (ks q).flatMap fun k => (rows q n).map (k :: ·) from rfl, List.mem_flatMap]
    constructor
    · rintro ⟨k, hk, h⟩
      obtain ⟨r', hr, rfl⟩ := List.mem_map.mp h
      obtain ⟨h1, h2⟩ := rows_mem.mp hr
      refine ⟨by simp [h1], fun z hz => ?_⟩
      rcases List.mem_cons.mp hz with e | hz
      · rw [e]
        exact ks_mem.mp hk
      · exact h2 z hz
    · rintro ⟨h1, h2⟩
      cases r with
      | nil => simp at h1
      | cons k r =>
        refine ⟨k, ks_mem.mpr (h2 k List.mem_cons_self), List.mem_map.mpr ⟨r, rows_mem.mpr ⟨?_, fun z hz => h2 z (List.mem_cons_of_mem _ hz)⟩, rfl⟩⟩
        simpa using h1
theorem sm_rows (q n : Nat) (f : List Int → Int) : sm (rows q (n + 1)) f = sm (ks q) fun k => sm (rows q n) fun r => f (k :: r) := by
  rw [show rows q (n + 1) = (ks q).flatMap fun k => (rows q n).map (k :: ·) from rfl, sm_flat]
  exact sm_congr fun k _ => sm_map _ _ _
/-- at how many ticks two rows are unlike -/
def diff : List Int → List Int → Int
  | a :: x, b :: y => (if a = b then 0 else 1) + diff x y
  | _, _ => 0
theorem diff_nonneg : ∀ x y : List Int, 0 ≤ diff x y
  | [], _ => Int.le_refl _
  | _ :: _, [] => Int.le_refl _
  | a :: x, b :: y => by
    have := diff_nonneg x y
    show 0 ≤ (if a = b then 0 else 1) + diff x y
    split <;> omega
theorem diff_le : ∀ x y : List Int, diff x y ≤ x.length
  | [], _ => Int.le_refl _
  | _ :: _, [] => by
    show (0 : Int) ≤ _
    omega
  | a :: x, b :: y => by
    have := diff_le x y
    show (if a = b then 0 else 1) + diff x y ≤ _
    rw [List.length_cons]
    split <;> omega
theorem diff_comm : ∀ x y : List Int, diff x y = diff y x
  | [], [] => rfl
  | [], _ :: _ => rfl
  | _ :: _, [] => rfl
  | a :: x, b :: y => by
    show (if a = b then 0 else 1) + diff x y = (if b = a then 0 else 1) + diff y x
    rw [diff_comm x y]
    by_cases h : a = b
    · rw [if_pos h, if_pos h.symm]
    · rw [if_neg h, if_neg fun z => h z.symm]
theorem diff_self : ∀ x : List Int, diff x x = 0
  | [] => rfl
  | a :: x => by
    show (if a = a then 0 else 1) + diff x x = 0
    rw [if_pos rfl, diff_self x]
    rfl
theorem diff_zero : ∀ {x y : List Int}, x.length = y.length → diff x y = 0 → x = y
  | [], [], _, _ => rfl
  | a :: x, b :: y, hl, h => by
    have h : (if a = b then 0 else 1) + diff x y = 0 := h
    have h1 := diff_nonneg x y
    by_cases e : a = b
    · rw [if_pos e] at h
      have e2 := diff_zero (x := x) (y := y) (by simpa using hl) (by omega)
      rw [e, e2]
    · rw [if_neg e] at h
      omega
theorem diff_zip (x y : List Int) : (((x.zip y).filter fun p => !decide (p.1 = p.2)).length : Int) = diff x y := by
  induction x generalizing y with
  | nil => rfl
  | cons a x ih =>
    cases y with
    | nil => rfl
    | cons b y =>
      rw [List.zip_cons_cons, List.filter_cons]
      show _ = (if a = b then 0 else 1) + diff x y
      rw [← ih y]
      by_cases h : a = b
      · simp [h]
      · simp [h]
        omega
/-! ### watches as tables -/
def go (mv : List (List Int)) (p k : Int) : Int := ((mv.getD p.toNat []).getD k.toNat 0)
def say (ws : List Int) (p : Int) : Int := ws.getD p.toNat 0
def pl (mv : List (List Int)) (p : Int) (r : List Int) : Int := r.foldl (go mv) p
structure WOk (mv : List (List Int)) (ws : List Int) (n q : Nat) : Prop where
  len : mv.length = n
  n1 : 1 ≤ n
  n6 : n ≤ 6
  lw : ws.length = n
  q1 : 1 ≤ q
  q4 : q ≤ 4
  wid : ∀ l ∈ mv, l.length = q
  rng : ∀ l ∈ mv, ∀ x ∈ l, 0 ≤ x ∧ x < n
  wr : ∀ x ∈ ws, 0 ≤ x ∧ x < 4
section
variable {mv : List (List Int)} {ws : List Int} {n q : Nat}
theorem WOk.goals (W : WOk mv ws n q) {p : Int} (h0 : 0 ≤ p) (h1 : p < n) : ∃ l, atI mv p = some l ∧ l ∈ mv ∧ l.length = q ∧ ∀ k : Nat, k < q → l[k]? = some (go mv p k) := by
  have hl : p.toNat < mv.length := by rw [W.len]; omega
  refine ⟨mv[p.toNat], atI_nat h0 (List.getElem?_eq_getElem hl), List.getElem_mem hl, W.wid _ (List.getElem_mem hl), fun k hk => ?_⟩
  have hk' : k < (mv[p.toNat]).length := by rw [W.wid _ (List.getElem_mem hl)]; exact hk
  rw [List.getElem?_eq_getElem hk']
  congr 1
  unfold go
  rw [List.getD_eq_getElem?_getD, List.getD_eq_getElem?_getD, List.getElem?_eq_getElem hl]
  show _ = ((mv[p.toNat])[((k : Nat) : Int).toNat]?).getD 0
  rw [show ((k : Nat) : Int).toNat = k by omega, List.getElem?_eq_getElem hk']
  rfl
theorem WOk.row (W : WOk mv ws n q) {p : Int} (h0 : 0 ≤ p) (h1 : p < n) : ∃ l, atI mv p = some l ∧ l = (ks q).map fun k => go mv p k := by
  obtain ⟨l, e, _, hl, hk⟩ := W.goals h0 h1
  refine ⟨l, e, List.ext_getElem? fun i => ?_⟩
  by_cases hi : i < q
  · rw [hk i hi]
    unfold ks
    rw [List.getElem?_map, List.getElem?_map, List.getElem?_range hi]
    rfl
  · rw [List.getElem?_eq_none (by omega), List.getElem?_eq_none (by simp [ks]; omega)]
theorem WOk.go_rng (W : WOk mv ws n q) {p k : Int} (h0 : 0 ≤ p) (h1 : p < n) (k0 : 0 ≤ k) (k1 : k < q) : 0 ≤ go mv p k ∧ go mv p k < n := by
  obtain ⟨l, _, hm, _, hk⟩ := W.goals h0 h1
  have := hk k.toNat (by omega)
  rw [show ((k.toNat : Nat) : Int) = k by omega] at this
  exact W.rng l hm _ (List.mem_of_getElem? this)
theorem WOk.go_at (W : WOk mv ws n q) {p k : Int} {l : List Int} (h0 : 0 ≤ p) (h1 : p < n) (k0 : 0 ≤ k) (k1 : k < q) (hl : atI mv p = some l) : atI l k = some (go mv p k) := by
  obtain ⟨l', e, _, _, hk⟩ := W.goals h0 h1
  rw [hl] at e
  cases e
  have := hk k.toNat (by omega)
  rw [show ((k.toNat : Nat) : Int) = k by omega] at this
  exact atI_nat k0 this
theorem WOk.say_at (W : WOk mv ws n q) {p : Int} (h0 : 0 ≤ p) (h1 : p < n) : atI ws p = some (say ws p) := by
  have hl : p.toNat < ws.length := by rw [W.lw]; omega
  refine atI_nat h0 ?_
  unfold say
  rw [List.getD_eq_getElem?_getD, List.getElem?_eq_getElem hl]
  rfl
theorem WOk.say_rng (W : WOk mv ws n q) {p : Int} (h0 : 0 ≤ p) (h1 : p < n) : 0 ≤ say ws p ∧ say ws p < 4 := by
  have hl : p.toNat < ws.length := by rw [W.lw]; omega
  have : say ws p = ws[p.toNat] := by
    unfold say
    rw [List.getD_eq_getElem?_getD, List.getElem?_eq_getElem hl]
    rfl
  rw [this]
  exact W.wr _ (List.getElem_mem hl)
theorem WOk.pl_rng (W : WOk mv ws n q) : ∀ {r : List Int} {p : Int}, 0 ≤ p → p < n → (∀ k ∈ r, 0 ≤ k ∧ k < (q : Int)) → 0 ≤ pl mv p r ∧ pl mv p r < n
  | [], p, h0, h1, _ => ⟨h0, h1⟩
  | k :: r, p, h0, h1, h => by
    have hk := h k List.mem_cons_self
    have := W.go_rng h0 h1 hk.1 hk.2
    exact W.pl_rng (r := r) (p := go mv p k) this.1 this.2 fun z hz => h z (List.mem_cons_of_mem _ hz)
theorem pl_app (mv : List (List Int)) (p : Int) (r r' : List Int) : pl mv p (r ++ r') = pl mv (pl mv p r) r' := List.foldl_append
/-- the rows of a length with a verdict -/
def codeW (mv : List (List Int)) (ws : List Int) (q : Nat) (v : Int) (len : Nat) : List (List Int) := (rows q len).filter fun r => decide (say ws (pl mv 0 r) = v)
end
end Wc
/-! Plain mathematics C: arrays, tallies over rows. -/
namespace Wc
open Mon (ret bnd opt run)
open L2
/-! ### an array as a function -/
def arr (n : Nat) (c : Int → Int) : List Int := (ks n).map c
theorem arr_len (n : Nat) (c : Int → Int) : (arr n c).length = n := by rw [arr, List.length_map, ks_len]
theorem ks_get {n i : Nat} (h : i < n) : (ks n)[i]? = some (i : Int) := by
  unfold ks
  rw [List.getElem?_map, List.getElem?_range h]
  rfl
theorem arr_at {n : Nat} {c : Int → Int} {p : Int} (h0 : 0 ≤ p) (h1 : p < n) : atI (arr n c) p = some (c p) := by
  refine atI_nat h0 ?_
  unfold arr
  rw [List.getElem?_map, ks_get (by omega)]
  show some (c ((p.toNat : Nat) : Int)) = _
  rw [show ((p.toNat : Nat) : Int) = p by omega]
theorem arr_congr {n : Nat} {c c' : Int → Int} (h : ∀ p, 0 ≤ p → p < (n : Int) → c p = c' p) : arr n c = arr n c' := by
  unfold arr
  apply List.map_congr_left
  intro p hp
  have := ks_mem.mp hp
  exact h p this.1 this.2
theorem arr_set {n : Nat} {c : Int → Int} {p x : Int} (h0 : 0 ≤ p) (h1 : p < n) : setC (arr n c) p x = some (arr n fun z => if z = p then x else c z) := by
  rw [setC_nat h0 (by rw [arr_len]; exact h1)]
  congr 1
  refine List.ext_getElem? fun i => ?_
  unfold arr
  by_cases hi : i < n
  · rw [List.getElem?_map, ks_get hi]
    by_cases e : p.toNat = i
    · rw [e, List.getElem?_set_self (by rw [List.length_map, ks_len]; exact hi)]
      show some x = some (if (i : Int) = p then x else c i)
      rw [if_pos (by omega)]
    · rw [List.getElem?_set_ne e, List.getElem?_map, ks_get hi]
      show some (c i) = some (if (i : Int) = p then x else c i)
      rw [if_neg (by omega)]
  · rw [List.getElem?_eq_none (by rw [List.length_set, List.length_map, ks_len]; omega), List.getElem?_eq_none (by rw [List.length_map, ks_len]; omega)]
theorem arr_rep {n : Nat} (h : n < 1000000) : repC [(0 : Int)] (n : Int) = some (arr n fun _ => 0) := by
  unfold repC
  rw [if_pos ⟨by omega, by omega, by simp; omega⟩]
  congr 1
  refine List.ext_getElem? fun i => ?_
  have e : (List.replicate (n : Int).toNat [(0 : Int)]).flatten = List.replicate n 0 := by
    rw [show ((n : Nat) : Int).toNat = n by omega, List.flatten_replicate_singleton]
  rw [e]
  unfold arr
  rw [List.getElem?_map, List.getElem?_replicate]
  by_cases hi : i < n
  · rw [if_pos hi, ks_get hi]
    rfl
  · rw [if_neg hi, List.getElem?_eq_none (by rw [ks_len]; omega)]
    rfl
theorem arr_bump {n : Nat} {c : Int → Int} {g : Int} (w : Int) (h0 : 0 ≤ g) (h1 : g < n) : (bnd (bnd (atI (arr n c) g) fun x => some (x + w)) fun x => setC (arr n c) g x) = some (arr n fun z => c z + if g = z then w else 0) := by
  rw [arr_at h0 h1, obnd, obnd, arr_set h0 h1]
  refine congrArg some (arr_congr fun z _ _ => ?_)
  by_cases hz : z = g
  · subst hz
    rw [if_pos rfl, if_pos rfl]
  · rw [if_neg hz, if_neg fun z' => hz z'.symm]
    omega
theorem enum_arr (n : Nat) (c : Int → Int) : enumI (arr n c) = (ks n).map fun p => (p, c p) := by
  refine List.ext_getElem? fun i => ?_
  by_cases hi : i < n
  · have h1 : (arr n c)[i]? = some (c i) := by
      unfold arr
      rw [List.getElem?_map, ks_get hi]
      rfl
    rw [enumI_at h1, List.getElem?_map, ks_get hi]
    rfl
  · rw [List.getElem?_eq_none (by rw [enumI_len, arr_len]; omega), List.getElem?_eq_none (by rw [List.length_map, ks_len]; omega)]
theorem enum_row {mv : List (List Int)} {ws : List Int} {n q : Nat} (W : WOk mv ws n q) {p : Int} {l : List Int} (h0 : 0 ≤ p) (h1 : p < n) (hl : atI mv p = some l) : enumI l = (ks q).map fun k => (k, go mv p k) := by
  obtain ⟨l', e, e2⟩ := W.row h0 h1
  rw [hl] at e
  cases e
  rw [e2]
  exact enum_arr q _
/-! ### sums over fibres -/
theorem sm_delta {n : Nat} {a : Int} (h0 : 0 ≤ a) (h1 : a < n) (f : Int → Int) : sm (ks n) (fun p => if a = p then f p else 0) = f a := by
  have gen : ∀ l : List Int, l.Nodup → sm l (fun p => if a = p then f p else 0) = if a ∈ l then f a else 0 := by
    intro l
    induction l with
    | nil => intro _; rfl
    | cons x l ih =>
      intro nd
      rw [List.nodup_cons] at nd
      rw [sm_cons, ih nd.2]
      by_cases e : a = x
      · subst e
        rw [if_pos rfl, if_neg nd.1, if_pos List.mem_cons_self]
        omega
      · rw [if_neg e]
        by_cases hm : a ∈ l
        · rw [if_pos hm, if_pos (List.mem_cons_of_mem _ hm)]
          omega
        · rw [if_neg hm, if_neg (fun z => (List.mem_cons.mp z).elim e hm)]
          rfl
  have nd : (ks n).Nodup := by
    unfold ks
    refine List.Pairwise.map _ (fun a b h e => h (by omega)) List.nodup_range
  rw [gen _ nd, if_pos (ks_mem.mpr ⟨h0, h1⟩)]
theorem sm_fib {α : Type} {n : Nat} {R : List α} {φ : α → Int} (h : ∀ r ∈ R, 0 ≤ φ r ∧ φ r < (n : Int)) (f : Int → Int) : sm (ks n) (fun p => (sm R fun r => if φ r = p then 1 else 0) * f p) = sm R fun r => f (φ r) := by
  rw [sm_congr (g := fun p => sm R fun r => if φ r = p then f p else 0) fun p _ => ?_, sm_comm]
  · exact sm_congr fun r hr => sm_delta (h r hr).1 (h r hr).2 f
  · rw [← sm_mulr]
    exact sm_congr fun r _ => by
      split
      · exact Int.one_mul _
      · exact Int.zero_mul _
theorem sm_count {α : Type} (R : List α) (p : α → Bool) : sm R (fun r => if p r then 1 else 0) = ((R.filter p).length : Int) := by
  induction R with
  | nil => rfl
  | cons x R ih =>
    rw [sm_cons, ih, List.filter_cons]
    cases p x with
    | true => simp; omega
    | false => simp
theorem sm_snoc (q n : Nat) (f : List Int → Int) : sm (rows q (n + 1)) f = sm (rows q n) fun r => sm (ks q) fun k => f (r ++ [k]) := by
  rw [rows_snoc, sm_flat]
  exact sm_congr fun r _ => sm_map _ _ _
theorem diff_snoc : ∀ {x y : List Int} {a b : Int}, x.length = y.length → diff (x ++ [a]) (y ++ [b]) = diff x y + if a = b then 0 else 1
  | [], [], a, b, _ => by
    show (if a = b then 0 else 1) + (0 : Int) = 0 + _
    omega
  | c :: x, d :: y, a, b, h => by
    show (if c = d then 0 else 1) + diff (x ++ [a]) (y ++ [b]) = (if c = d then 0 else 1) + diff x y + _
    rw [diff_snoc (by simpa using h)]
    omega
theorem pl_snoc (mv : List (List Int)) (p : Int) (r : List Int) (k : Int) : pl mv p (r ++ [k]) = go mv (pl mv p r) k := by
  rw [pl_app]
  rfl
/-- what a bounded number of pairs can be -/
theorem pairs_len {n m : Nat} {l : List (Int × Int)} (nd : l.Nodup) (h : ∀ p ∈ l, (0 ≤ p.1 ∧ p.1 < (n : Int)) ∧ 0 ≤ p.2 ∧ p.2 < (m : Int)) : l.length ≤ n * m := by
  have := List.Nodup.length_le_of_subset (l₁ := l) (l₂ := (ks n).flatMap fun a => (ks m).map fun b => (a, b)) nd fun p hp => by
    obtain ⟨⟨h1, h2⟩, h3, h4⟩ := h p hp
    exact List.mem_flatMap.mpr ⟨p.1, ks_mem.mpr ⟨h1, h2⟩, List.mem_map.mpr ⟨p.2, ks_mem.mpr ⟨h3, h4⟩, rfl⟩⟩
  rw [List.length_flatMap] at this
  simp only [List.length_map, ks_len, List.map_const', List.sum_replicate_nat] at this
  exact this
theorem ints_len {m : Nat} {l : List Int} (nd : l.Nodup) (h : ∀ p ∈ l, 0 ≤ p ∧ p < (m : Int)) : l.length ≤ m := by
  have := List.Nodup.length_le_of_subset (l₁ := l) (l₂ := ks m) nd fun p hp => ks_mem.mpr (h p hp)
  rwa [ks_len] at this
theorem rep_keys_len {κ : Type} [DecidableEq κ] {d : List (κ × Int)} : d.length = (d.map (·.1)).length := (List.length_map _).symm
/-- {k: v(k) for k in ascending keys} -/
theorem dcF_asc {f : Int → Option (Option (Int × Int))} {v : Int → Int} : ∀ (xs : List Int) (acc : List (Int × Int)), (∀ x ∈ xs, f x = some (some (x, v x))) → xs.Nodup → (∀ x ∈ xs, x ∉ acc.map (·.1)) → dcF f xs acc = some (acc ++ xs.map fun x => (x, v x))
  | [], acc, _, _, _ => by
    rw [List.map_nil, List.append_nil]
    rfl
  | x :: xs, acc, h, nd, hn => by
    rw [List.nodup_cons] at nd
    show bnd (f x) _ = _
    rw [h x List.mem_cons_self, obnd]
    have e : dput acc x (v x) = acc ++ [(x, v x)] := by
      unfold dput
      rw [if_neg (fun z => hn x List.mem_cons_self (any_key.mp z))]
    show dcF f xs (dput acc x (v x)) = _
    rw [e, dcF_asc xs _ (fun z hz => h z (List.mem_cons_of_mem _ hz)) nd.2 (fun z hz => by
      rw [List.map_append, List.mem_append]
      rintro (z1 | z1)
      · exact hn z (List.mem_cons_of_mem _ hz) z1
      · rw [List.map_cons, List.map_nil, List.mem_singleton] at z1
        exact nd.1 ((show z = x from z1) ▸ hz)), List.append_assoc]
    rfl
theorem sortI_asc {l : List Int} (nd : l.Nodup) : (sortI l).Pairwise (· < ·) := by
  have h1 := sortI_sorted l
  have h2 : (sortI l).Nodup := (sortI_perm l).nodup_iff.mpr nd
  have h3 : (sortI l).Pairwise fun a b => a ≤ b ∧ a ≠ b := h1.and h2
  exact h3.imp fun h => by omega
/-- a dict's items by rising keys -/
theorem rep_sorted {d : List (Int × Int)} {rs : List Int} (h : Rep d rs) (h64 : d.length < 64) {f : Int → Option (Option (Int × Int))} (hf : ∀ x v, dget d x = some v → f x = some (some (x, v))) :
    ∃ d', bnd (sortD d) (fun xs => dcC f xs) = some d' ∧ Rep d' rs ∧ Asc d' := by
  have hp := sortI_perm (d.map (·.1))
  have ha := sortI_asc h.nd
  have hm : ∀ x, x ∈ sortI (d.map (·.1)) ↔ x ∈ rs := fun x => hp.mem_iff.trans h.key
  have hl : (sortI (d.map (·.1))).length = d.length := by rw [hp.length_eq, List.length_map]
  refine ⟨(sortI (d.map (·.1))).map fun x => (x, cnt x rs), ?_, ?_, ?_⟩
  · unfold sortD
    rw [if_pos h64, obnd]
    unfold dcC
    rw [if_pos (by omega), dcF_asc (v := fun x => cnt x rs) _ [] (fun x hx => hf x _ (h.some ((hm x).mp hx))) (asc_nodup ha) (fun x _ => by simp)]
    rfl
  · have ek : ((sortI (d.map (·.1))).map fun x => (x, cnt x rs)).map (·.1) = sortI (d.map (·.1)) := by
      rw [List.map_map]
      exact List.map_id'' (fun _ => rfl) _
    refine ⟨by rw [ek]; exact asc_nodup ha, fun p hp' => ?_, fun f => ?_⟩
    · obtain ⟨x, hx, e⟩ := List.mem_map.mp hp'
      rw [← e]
      exact cnt_pos.mpr ((hm x).mp hx)
    · rw [← h.sum f]
      unfold ms
      rw [sm_map, sm_perm hp, sm_map]
      exact sm_congr fun p hp' => by rw [(h.mem hp').2]
  · unfold Asc
    rw [List.map_map]
    have : (sortI (d.map (·.1))).map ((fun x : Int × Int => x.1) ∘ fun x => (x, cnt x rs)) = sortI (d.map (·.1)) := List.map_id'' (fun _ => rfl) _
    rw [this]
    exact ha
theorem dsame_self {α : Type} [DecidableEq α] {d : List (Int × α)} (nd : (d.map (·.1)).Nodup) : dsame d d = true := by
  unfold dsame
  rw [decide_eq_true rfl, Bool.true_and, List.all_eq_true]
  exact fun p hp => decide_eq_true (mem_dget nd hp)
theorem dictP_id {α : Type} (X : List (Int × α)) (nd : (X.map (·.1)).Nodup) : dictP X = X := by
  have gen : ∀ (post pre : List (Int × α)), X = pre ++ post → post.foldl (fun d p => dput d p.1 p.2) pre = X := by
    intro post
    induction post with
    | nil =>
      intro pre e
      rw [List.append_nil] at e
      exact e.symm
    | cons p post ih =>
      intro pre e
      rw [List.foldl_cons]
      have hn : p.1 ∉ pre.map (·.1) := fun h => by
        rw [e, List.map_append, List.map_cons, List.nodup_append] at nd
        exact nd.2.2 p.1 h p.1 List.mem_cons_self rfl
      have e2 : dput pre p.1 p.2 = pre ++ [p] := by
        unfold dput
        rw [if_neg fun z => hn (any_key.mp z)]
      rw [e2]
      exact ih _ (by rw [e, List.append_assoc]; rfl)
  exact gen X [] rfl
theorem dictC_id {α : Type} {X : List (Int × α)} (nd : (X.map (·.1)).Nodup) (h : X.length < 1000000) : dictC X = some X := by
  unfold dictC
  rw [if_pos h, dictP_id X nd]
theorem dneC_self {α : Type} [DecidableEq α] {X : List (Int × α)} (nd : (X.map (·.1)).Nodup) : dneC X X = some false := by
  unfold dneC
  rw [if_pos (dsame_self nd)]
theorem deqC_self {α : Type} [DecidableEq α] {X : List (Int × α)} (nd : (X.map (·.1)).Nodup) : deqC X X = some true := by
  unfold deqC
  rw [if_pos (dsame_self nd)]
theorem memD_iff {α : Type} [DecidableEq α] {x : α} {xs : List α} : memD x xs = true ↔ x ∈ xs := decide_eq_true_iff
theorem memD_if {α β : Type} [DecidableEq α] (x : α) (xs : List α) (a b : β) : (if memD x xs = true then a else b) = if x ∈ xs then a else b := by
  unfold memD
  by_cases h : x ∈ xs
  · rw [if_pos (decide_eq_true h), if_pos h]
  · rw [if_neg (fun z => h (of_decide_eq_true z)), if_neg h]
theorem sort2 (a b : Int) : ∃ lo hi, sortI [a, b] = [lo, hi] ∧ lo ≤ hi ∧ ((lo = a ∧ hi = b) ∨ (lo = b ∧ hi = a)) := by
  by_cases h : a ≤ b
  · refine ⟨a, b, ?_, h, .inl ⟨rfl, rfl⟩⟩
    exact sorted_one (sortI_perm _) (sortI_sorted _) (by simp [h])
  · refine ⟨b, a, ?_, by omega, .inr ⟨rfl, rfl⟩⟩
    exact sorted_one ((sortI_perm _).trans (.swap _ _ _)) (sortI_sorted _) (by simp; omega)
theorem low_sz {k : Nat} {a b : Int} (ha : 0 ≤ a) (hb : 0 < b) (sa : Sz k a) (sb : Sz k b) : Sz k (low a b).1 ∧ Sz k (low a b).2 :=
  ⟨sa.le (Int.ediv_nonneg ha (Int.natCast_nonneg _)) (Int.ediv_le_self _ ha), sb.le (Int.ediv_nonneg (Int.le_of_lt hb) (Int.natCast_nonneg _)) (Int.ediv_le_self _ (Int.le_of_lt hb))⟩
end Wc
namespace Wc
open Mon (ret bnd opt run)
open L2
theorem Sz.pow {i : Nat} {b : Int} (h : Sz i b) : ∀ t : Nat, b.natAbs ^ t < 2 ^ (i * t + 1)
  | 0 => by simp
  | t + 1 => by
    have h1 := Sz.pow h t
    have h2 : b.natAbs < 2 ^ i := h
    have : b.natAbs ^ (t + 1) ≤ b.natAbs ^ t * 2 ^ i := by
      rw [Nat.pow_succ]
      exact Nat.mul_le_mul_left _ (Nat.le_of_lt h2)
    have e : i * (t + 1) + 1 = (i * t + 1) + i := by rw [Nat.mul_add]; omega
    rw [e, Nat.pow_add 2 (i * t + 1) i]
    exact Nat.lt_of_le_of_lt this (Nat.mul_lt_mul_of_pos_right h1 (Nat.two_pow_pos i))
theorem Sz.powz {i : Nat} {b : Int} (h : Sz i b) (t : Nat) : Sz (i * t + 1) (b ^ t) := by
  unfold Sz
  rw [Int.natAbs_pow]
  exact h.pow t
theorem lc2F_map {α β γ : Type} {ci : α → Option (List β)} {ce : α → β → Option γ} {ys : α → List β} {g : α → β → γ} : ∀ (xs : List α) (acc : List γ), (∀ x ∈ xs, ci x = some (ys x)) → (∀ x ∈ xs, ∀ y ∈ ys x, ce x y = some (g x y)) → acc.length + (xs.flatMap fun x => (ys x).map (g x)).length ≤ 1000000 → lc2F ci ce xs acc = some (acc ++ xs.flatMap fun x => (ys x).map (g x))
  | [], acc, _, _, _ => by
    rw [List.flatMap_nil, List.append_nil]
    rfl
  | x :: xs, acc, h1, h2, hl => by
    rw [List.flatMap_cons, List.length_append, List.length_map] at hl
    show bnd (ci x) _ = _
    rw [h1 x List.mem_cons_self, obnd, lc2I_map x _ acc (by omega) (h2 x List.mem_cons_self), obnd, lc2F_map xs _ (fun y hy => h1 y (List.mem_cons_of_mem _ hy)) (fun y hy => h2 y (List.mem_cons_of_mem _ hy)) (by rw [List.length_append, List.length_map]; omega), List.flatMap_cons, List.append_assoc]
/-- the greatest of some numbers -/
def mxf {α : Type} (f : α → Int) (C : List α) : Int := (maxL (C.map f)).getD 0
theorem maxL_cons {x : Int} {xs : List Int} : ∃ y, maxL (x :: xs) = some y := ⟨_, rfl⟩
theorem maxL_ne {xs : List Int} (h : xs ≠ []) : ∃ y, maxL xs = some y := by
  cases xs with
  | nil => exact absurd rfl h
  | cons x xs => exact maxL_cons
theorem mxf_is {α : Type} {f : α → Int} {C : List α} (h : C ≠ []) : (∃ r ∈ C, mxf f C = f r) ∧ ∀ r ∈ C, f r ≤ mxf f C := by
  obtain ⟨y, e⟩ := maxL_ne (xs := C.map f) (by simpa using h)
  have hy := maxL_is e
  have em : mxf f C = y := by
    unfold mxf
    rw [e]
    rfl
  rw [em]
  obtain ⟨r, hr, er⟩ := List.mem_map.mp hy.1
  exact ⟨⟨r, hr, er.symm⟩, fun r hr => hy.2 _ (List.mem_map.mpr ⟨r, hr, rfl⟩)⟩
theorem mxf_eq {α : Type} {f : α → Int} {C : List α} {y : Int} (h1 : ∃ r ∈ C, y = f r) (h2 : ∀ r ∈ C, f r ≤ y) : mxf f C = y := by
  obtain ⟨r, hr, e⟩ := h1
  obtain ⟨⟨r', hr', e'⟩, h3⟩ := mxf_is (f := f) (C := C) (List.ne_nil_of_mem hr)
  have := h3 r hr
  have := h2 r' hr'
  omega
theorem mxf_congr {α : Type} {f g : α → Int} {C : List α} (h : ∀ r ∈ C, f r = g r) : mxf f C = mxf g C := by
  unfold mxf
  rw [List.map_congr_left h]
theorem mxf_le {α : Type} {f : α → Int} {C : List α} {y : Int} (h : C ≠ []) (h2 : ∀ r ∈ C, f r ≤ y) : mxf f C ≤ y := by
  obtain ⟨⟨r, hr, e⟩, _⟩ := mxf_is (f := f) h
  rw [e]
  exact h2 r hr
theorem mxf_mul {α : Type} {f : α → Int} {C : List α} {c : Int} (hc : 0 ≤ c) (h : C ≠ []) : mxf (fun r => c * f r) C = c * mxf f C := by
  obtain ⟨⟨r, hr, e⟩, h2⟩ := mxf_is (f := f) h
  exact mxf_eq ⟨r, hr, by rw [e]⟩ fun s hs => Int.mul_le_mul_of_nonneg_left (h2 s hs) hc
end Wc
/-! Plain mathematics D: what is shown at each end (M). -/
namespace Wc
open Mon (ret bnd opt run)
open L2
section
variable {α β γ S L R : Type}
theorem mret (x : α) (f : α → M β) : (bnd (ret x) f : M β) = f x := (Eq.refl _).trans (Eq.refl _)
theorem mopt (x : β) : (opt (some x) : M β) = ret x := by
  funext Q
  refine propext ⟨fun ⟨y, e, h⟩ => ?_, fun h => ⟨x, rfl, h⟩⟩
  cases e
  exact h
theorem massoc (a : M α) (f : α → M β) (g : β → M γ) : (bnd (bnd a f) g : M γ) = bnd a fun x => bnd (f x) g := (Eq.refl _).trans (Eq.refl _)
theorem mapp {a : M α} {f : α → M β} {Q : β → Prop} (h : a fun x => f x Q) : (bnd a f : M β) Q := h
theorem mappI {a : M α} {f : α → M β} {Q : β → Prop} : (bnd a f : M β) Q = a (fun x => f x Q) := rfl
theorem mbndF (s : S) (f : S → M (Fl S L R)) : (bndF (ret (.nx s)) f : M (Fl S L R)) = f s := (Eq.refl _).trans (Eq.refl _)
theorem mbndFr {S1 : Type} (r : R) (f : S1 → M (Fl S L R)) : (bndF (ret (.rt r)) f : M (Fl S L R)) = ret (.rt r) := (Eq.refl _).trans (Eq.refl _)
theorem mbndFI {S1 : Type} {c : M (Fl S1 L R)} {f : S1 → M (Fl S L R)} {Q : Fl S L R → Prop} (h : c fun fl => kF f fl Q) : (bndF c f : M (Fl S L R)) Q := h
theorem mFor {step : S → α → M (Fl S S R)} (I : S → Prop) {Q : Fl S L R → Prop} : ∀ (xs : List α) (s : S), I s → (∀ x ∈ xs, ∀ s, I s → ∀ P : Fl S S R → Prop, (∀ s', I s' → P (.nx s')) → (∀ s', I s' → P (.ct s')) → step s x P) → (∀ s', I s' → Q (.nx s')) → (forF step xs s : M (Fl S L R)) Q
  | [], s, hi, _, hq => hq s hi
  | x :: xs, s, hi, h, hq => by
    show (bnd (step s x) (kL (forF step xs)) : M (Fl S L R)) Q
    refine h x List.mem_cons_self s hi _ (fun s' hi' => ?_) fun s' hi' => ?_
    · exact mFor I xs s' hi' (fun y hy => h y (List.mem_cons_of_mem _ hy)) hq
    · exact mFor I xs s' hi' (fun y hy => h y (List.mem_cons_of_mem _ hy)) hq
theorem mLc {f : α → M (Option β)} {P : β → Prop} {Q : List β → Prop} {xs : List α} (hl : xs.length < 1000000) (h : ∀ x ∈ xs, ∀ Z : Option β → Prop, (∀ y, P y → Z (some y)) → f x Z) (hq : ∀ ys : List β, ys.length = xs.length → (∀ y ∈ ys, P y) → Q ys) : (lcC f xs : M (List β)) Q := by
  unfold lcC
  rw [if_pos hl]
  clear hl
  induction xs generalizing Q with
  | nil => exact hq [] rfl fun y hy => by cases hy
  | cons x xs ih =>
    show (bnd (f x) fun o => bnd (lcF f xs) fun zs => ret (consO o zs) : M (List β)) Q
    refine h x List.mem_cons_self _ fun y hy => ?_
    refine ih (fun z hz => h z (List.mem_cons_of_mem _ hz)) fun ys hl hys => ?_
    refine hq (y :: ys) (by rw [List.length_cons, List.length_cons, hl]) fun z hz => ?_
    rcases List.mem_cons.mp hz with e | hz
    · rw [e]
      exact hy
    · exact hys z hz
/-- a comprehension whose turns are reckoned -/
theorem mLcO {f : α → M (Option β)} {g : α → Option (Option β)} {xs : List α} {ys : List β} (h : ∀ x ∈ xs, f x = opt (g x)) (e : lcC g xs = some ys) : (lcC f xs : M (List β)) = ret ys := by
  have gen : ∀ (xs : List α) (ys : List β), (∀ x ∈ xs, f x = opt (g x)) → lcF g xs = some ys → (lcF f xs : M (List β)) = ret ys := by
    intro xs
    induction xs with
    | nil =>
      intro ys _ e
      cases e
      rfl
    | cons x xs ih =>
      intro ys h e
      have e : (bnd (g x) fun o => bnd (lcF g xs) fun zs => ret (consO o zs) : Option (List β)) = some ys := e
      cases hg : g x with
      | none =>
        rw [hg] at e
        cases e
      | some o =>
        rw [hg, obnd] at e
        cases hr : lcF g xs with
        | none =>
          rw [hr] at e
          cases e
        | some zs =>
          rw [hr, obnd] at e
          cases e
          show (bnd (f x) fun o => bnd (lcF f xs) fun zs => ret (consO o zs) : M (List β)) = _
          rw [h x List.mem_cons_self, hg, mopt, mret, ih zs (fun y hy => h y (List.mem_cons_of_mem _ hy)) hr, mret]
  unfold lcC at e ⊢
  split
  · rename_i hl
    rw [if_pos hl] at e
    exact gen xs ys h e
  · rename_i hl
    rw [if_neg hl] at e
    cases e
theorem mif_ret {c : Prop} [Decidable c] (x y : β) : (if c then (ret x : M β) else ret y) = ret (if c then x else y) := by
  split <;> rfl
theorem mjoin {c : M (Fl Unit L R)} {f : Unit → M (Fl S L R)} {P : Fl S L R → Prop} (hf : f () P) (hc : ∀ Z : Fl Unit L R → Prop, Z (.nx ()) → c Z) : (bndF c f : M (Fl S L R)) P := hc _ hf
theorem mif {c : Prop} [Decidable c] {a b : M α} {Q : α → Prop} (h1 : c → a Q) (h2 : ¬ c → b Q) : (if c then a else b : M α) Q := by
  split
  · rename_i h
    exact h1 h
  · rename_i h
    exact h2 h
end
end Wc
namespace Wk
open PySem PySem.Spec PyProof.Rows L2 Wc LamX
open Mon (ret bnd opt run run_ret run_bnd run_opt)
def topS (i : Nat) : Stmt := PySem.Challenge.pw_watchcode_k61_whole_noise_that_tells_not.main.body.getD i (.Pass ⟨0, 0, 0, 0⟩)
abbrev s_is_number : Stmt := topS 14
abbrev s_is_between : Stmt := topS 15
abbrev s_is_list : Stmt := topS 16
abbrev s_first_wrong : Stmt := topS 21
abbrev s_is_short_list : Stmt := topS 22
abbrev s_need_row : Stmt := topS 23
abbrev s_need_row_of : Stmt := topS 24
abbrev s_is_word : Stmt := topS 25
abbrev s_is_line : Stmt := topS 28
abbrev s_need_moves : Stmt := topS 29
abbrev s_need_words : Stmt := topS 30
abbrev s_need_watch : Stmt := topS 32
abbrev s_word_counts : Stmt := topS 34
abbrev s_need_verdict : Stmt := topS 37
abbrev s_need_near : Stmt := topS 39
abbrev s_near_by : Stmt := topS 40
abbrev s_need_noise : Stmt := topS 45
abbrev s_divisor_of : Stmt := topS 46
abbrev s_lowest_of : Stmt := topS 47
abbrev s_raised : Stmt := topS 48
abbrev s_weight_of : Stmt := topS 49
abbrev s_all_of : Stmt := topS 50
abbrev s_need_heard : Stmt := topS 51
abbrev s_heard_share : Stmt := topS 52
abbrev s_sent_shares : Stmt := topS 53
abbrev s_rows_of : Stmt := topS 54
abbrev s_right_share : Stmt := topS 55
abbrev s__law_begun : Stmt := topS 57
abbrev s__law_blend : Stmt := topS 58
abbrev s__law_draw : Stmt := topS 59
abbrev s__law_caught : Stmt := topS 60
abbrev s__law_watch : Stmt := topS 61
abbrev s__law_made : Stmt := topS 62
abbrev s__law_place : Stmt := topS 63
abbrev s__law_rows_of : Stmt := topS 64
abbrev s__law_code : Stmt := topS 65
abbrev s__law_differ : Stmt := topS 66
abbrev s__law_counted : Stmt := topS 67
abbrev s__law_common_of : Stmt := topS 68
abbrev s__law_low : Stmt := topS 69
abbrev s__law_power : Stmt := topS 70
abbrev s_law : Stmt := topS 71
def cls_Watch : List Stmt := C8.clsBody (topS 31)
abbrev s_Watch_init : Stmt := cls_Watch.getD 0 (.Pass ⟨0, 0, 0, 0⟩)
abbrev s_Watch_moves : Stmt := cls_Watch.getD 1 (.Pass ⟨0, 0, 0, 0⟩)
abbrev s_Watch_words : Stmt := cls_Watch.getD 2 (.Pass ⟨0, 0, 0, 0⟩)
abbrev s_Watch_kinds : Stmt := cls_Watch.getD 3 (.Pass ⟨0, 0, 0, 0⟩)
abbrev s_Watch_eq : Stmt := cls_Watch.getD 4 (.Pass ⟨0, 0, 0, 0⟩)
abbrev flW : FL ((Unit × List (List Int)) × List Int) := flSnoc (flSnoc flNil "own_moves" (TTup (TTup TInt))) "own_words" (TTup TInt)
abbrev Wt : Type := (Unit × List (List Int)) × List Int
abbrev TW (C : Addr) : Ty Wt := TIns C flW
structure PV (K : PySem.W.Frag) (mg : Str → Option Value) (base : Heap) (C CNoCode CWE : Addr) (T : List (Addr × Str)) : Prop where
  n_abs : mg "abs" = none
  n_all : mg "all" = none
  n_bool : mg "bool" = none
  n_dict : mg "dict" = none
  n_enumerate : mg "enumerate" = none
  n_int : mg "int" = none
  n_isinstance : mg "isinstance" = none
  n_len : mg "len" = none
  n_list : mg "list" = none
  n_max : mg "max" = none
  n_min : mg "min" = none
  n_property : mg "property" = none
  n_range : mg "range" = none
  n_sorted : mg "sorted" = none
  n_sum : mg "sum" = none
  n_super : mg "super" = none
  n_tuple : mg "tuple" = none
  n_zip : mg "zip" = none
  g_MOST_EVENTS : ∃ t, mg "MOST_EVENTS" = some (.int 300 t)
  g_MOST_KINDS : ∃ t, mg "MOST_KINDS" = some (.int 4 t)
  g_MOST_WORD_rows : ∃ t, mg "MOST_WORD_rows" = some (.int 3 t)
  g_MOST_PLACES : ∃ t, mg "MOST_PLACES" = some (.int 6 t)
  g_MOST_WORD_modes : ∃ t, mg "MOST_WORD_modes" = some (.int 3 t)
  g_MOST_BOTTOM : ∃ t, mg "MOST_BOTTOM" = some (.int 1000 t)
  g_MOST_HEARD : ∃ t, mg "MOST_HEARD" = some (.int 60 t)
  g_MOST_ROWS : ∃ t, mg "MOST_ROWS" = some (.int 4096 t)
  d_is_number : DefN K mg "is_number" s_is_number
  d_is_between : DefN K mg "is_between" s_is_between
  d_is_list : DefN K mg "is_list" s_is_list
  d_first_wrong : DefN K mg "first_wrong" s_first_wrong
  d_is_short_list : DefN K mg "is_short_list" s_is_short_list
  d_need_row : DefN K mg "need_row" s_need_row
  l_need_row_of : DefL K mg base T "need_row_of" s_need_row_of ((("need_row_of" : Str) ++ ".<locals>.") ++ "<lambda>")
  d_is_word : DefN K mg "is_word" s_is_word
  d_is_line : DefN K mg "is_line" s_is_line
  l_need_moves : DefL K mg base T "need_moves" s_need_moves ((("need_moves" : Str) ++ ".<locals>.") ++ "<lambda>")
  d_need_words : DefN K mg "need_words" s_need_words
  d_need_watch : DefD K mg "need_watch" s_need_watch ["watch", "part"] [.non]
  d_word_counts : DefN K mg "word_counts" s_word_counts
  d_need_verdict : DefN K mg "need_verdict" s_need_verdict
  d_need_near : DefN K mg "need_near" s_need_near
  d_near_by : DefN K mg "near_by" s_near_by
  d_need_noise : DefN K mg "need_noise" s_need_noise
  d_divisor_of : DefN K mg "divisor_of" s_divisor_of
  d_lowest_of : DefN K mg "lowest_of" s_lowest_of
  d_raised : DefN K mg "raised" s_raised
  d_weight_of : DefN K mg "weight_of" s_weight_of
  d_all_of : DefN K mg "all_of" s_all_of
  d_need_heard : DefN K mg "need_heard" s_need_heard
  d_heard_share : DefN K mg "heard_share" s_heard_share
  d_sent_shares : DefN K mg "sent_shares" s_sent_shares
  d_rows_of : DefN K mg "rows_of" s_rows_of
  d_right_share : DefN K mg "right_share" s_right_share
  d__law_begun : DefN K mg "_law_begun" s__law_begun
  d__law_blend : DefN K mg "_law_blend" s__law_blend
  d__law_draw : DefN K mg "_law_draw" s__law_draw
  d__law_caught : DefN K mg "_law_caught" s__law_caught
  d__law_watch : DefN K mg "_law_watch" s__law_watch
  d__law_made : DefN K mg "_law_made" s__law_made
  d__law_place : DefN K mg "_law_place" s__law_place
  d__law_rows_of : DefN K mg "_law_rows_of" s__law_rows_of
  d__law_code : DefN K mg "_law_code" s__law_code
  d__law_differ : DefN K mg "_law_differ" s__law_differ
  d__law_counted : DefN K mg "_law_counted" s__law_counted
  d__law_common_of : DefN K mg "_law_common_of" s__law_common_of
  d__law_low : DefN K mg "_law_low" s__law_low
  d__law_power : DefN K mg "_law_power" s__law_power
  mNoCode : mg "NoCode" = some (.ref CNoCode)
  mWatchError : mg "WatchError" = some (.ref CWE)
  ex_NoCode : PySem.W.exmOne K (.ref CNoCode) (.ref CWE) = some true
  exC_NoCode : ExcC K CNoCode
  kit_NoCode : PySem.W.kitOne K (.ref CNoCode) (.ref CNoCode) = some true
  x_NoCode : PySem.W.excIn K CNoCode [.type "ValueError", .type "Exception", .type "BaseException", .type "object"] "ValueError.__new__" = true
  kp_NoCode : PySem.W.keepIn K (.ref CNoCode) = true
  sb_NoCode : PySem.W.subIn K (.ref CNoCode) (.type "BaseException") = some true
  ty_NoCode : PySem.W.typeIn K (.ref CNoCode) = some (.type "type")
  mWatch : mg "Watch" = some (.ref C)
  insWatch : C8.InsC K C
  na1 : NoAttr K C "own_moves"
  na2 : NoAttr K C "own_words"
  p_moves : ∃ pg gp fd, PropOf K C "moves" pg gp ∧ C8.Fun K "moves" "Watch.moves" s_Watch_moves gp fd ∧ fd.defaults = .none
  p_words : ∃ pg gp fd, PropOf K C "words" pg gp ∧ C8.Fun K "words" "Watch.words" s_Watch_words gp fd ∧ fd.defaults = .none
  p_kinds : ∃ pg gp fd, PropOf K C "kinds" pg gp ∧ C8.Fun K "kinds" "Watch.kinds" s_Watch_kinds gp fd ∧ fd.defaults = .none
  mkWatch : ∃ fi fd, Mk K C fi ∧ C8.Fun K "__init__" "Watch.__init__" s_Watch_init fi fd ∧ fd.defaults = .none
variable {P : Program} {w : World} {K : PySem.W.Frag} {mg : Str → Option Value} {base : Heap} {C : Addr} {CNoCode CWE : Addr} {T : List (Addr × Str)} {G : Gs} {sa : Addr} {ns : List Int}
def wMoves (x : Wt) : Option (List (List Int)) := some x.1.2
def wWords (x : Wt) : Option (List Int) := some x.2
theorem has_moves : Has flW "own_moves" (TTup (TTup TInt)) (fun x : Wt => x.1.2) := has_prev (has_last (by simp [flNil]))
theorem has_words : Has flW "own_words" (TTup TInt) (fun x : Wt => x.2) := has_last (by decide)
theorem sc_W_moves : FnScope ["self"] ["self"] (C8.fnScope s_Watch_moves) := C8.fnScope_by (by decide +kernel)
theorem sc_W_words : FnScope ["self"] ["self"] (C8.fnScope s_Watch_words) := C8.fnScope_by (by decide +kernel)
theorem sc_W_kinds : FnScope ["self"] ["self"] (C8.fnScope s_Watch_kinds) := C8.fnScope_by (by decide +kernel)
def mb_W_moves (v : Wt) : Option (Fl Empty Empty (List (List Int))) := bnd (bnd (ret v) fun x => ret x.1.2) fun r => ret (.rt r)
theorem b_W_moves (pv : PV K mg base C CNoCode CWE T) {v : Wt} {f : Addr} {cdv : Value} {A : Around} {outer : List Env} {s : Shared} {H : Hp} {E : XK} : XB G (cxOf C8.CX0 P w K mg base ["self"] "Watch.moves" (C8.fnScope s_Watch_moves) f cdv A outer s H E).nox (C8.fnBody s_Watch_moves) [some (.sh (TW C) v)] (Empty.elim : Empty → Ga) (Empty.elim : Empty → Ga) (TTup (TTup TInt)) (mb_W_moves v) := by
  unfold mb_W_moves
  exact xb_ret (xe_fld pv.insWatch.cl pv.na1 has_moves (xe_var (i := 0) (hv := Or.inl (by kernel_rfl))))
theorem g_moves (pv : PV K mg base C CNoCode CWE T) {gp : Addr} {fd : FuncData} (FD : C8.Fun K "moves" "Watch.moves" s_Watch_moves gp fd) : FnOk P w K mg base C8.CX0 1 gp fd ["self"] (spF G (a1 (TW C)) (TTup (TTup TInt)) fun x => wMoves x.1) :=
  fn_of_xb (as := a1 (TW C)) (mir := fun a => mb_W_moves a.1) FD sc_W_moves rfl (Empty.elim : Empty → (List (List Int))) (fun _ z => z.elim) fun a cdv A outer s H E hr => b_W_moves pv
def mb_W_words (v : Wt) : Option (Fl Empty Empty (List Int)) := bnd (bnd (ret v) fun x => ret x.2) fun r => ret (.rt r)
theorem b_W_words (pv : PV K mg base C CNoCode CWE T) {v : Wt} {f : Addr} {cdv : Value} {A : Around} {outer : List Env} {s : Shared} {H : Hp} {E : XK} : XB G (cxOf C8.CX0 P w K mg base ["self"] "Watch.words" (C8.fnScope s_Watch_words) f cdv A outer s H E).nox (C8.fnBody s_Watch_words) [some (.sh (TW C) v)] (Empty.elim : Empty → Ga) (Empty.elim : Empty → Ga) (TTup TInt) (mb_W_words v) := by
  unfold mb_W_words
  exact xb_ret (xe_fld pv.insWatch.cl pv.na2 has_words (xe_var (i := 0) (hv := Or.inl (by kernel_rfl))))
theorem g_words (pv : PV K mg base C CNoCode CWE T) {gp : Addr} {fd : FuncData} (FD : C8.Fun K "words" "Watch.words" s_Watch_words gp fd) : FnOk P w K mg base C8.CX0 1 gp fd ["self"] (spF G (a1 (TW C)) (TTup TInt) fun x => wWords x.1) :=
  fn_of_xb (as := a1 (TW C)) (mir := fun a => mb_W_words a.1) FD sc_W_words rfl (Empty.elim : Empty → (List Int)) (fun _ z => z.elim) fun a cdv A outer s H E hr => b_W_words pv
def mb_W_kinds (v : Wt) : Option (Fl Empty Empty Int) := bnd (bnd (bnd (bnd (ret v) fun x => ret x.1.2) fun xs => bnd (ret 0) fun i => opt (atI xs i)) fun l => ret ((l.length : Nat) : Int)) fun r => ret (.rt r)
def wKinds (x : Wt) : Option Int := retF (Empty.elim : Empty → Int) (mb_W_kinds x)
theorem b_W_kinds (pv : PV K mg base C CNoCode CWE T) {v : Wt} {f : Addr} {cdv : Value} {A : Around} {outer : List Env} {s : Shared} {H : Hp} {E : XK} : XB G (cxOf C8.CX0 P w K mg base ["self"] "Watch.kinds" (C8.fnScope s_Watch_kinds) f cdv A outer s H E).nox (C8.fnBody s_Watch_kinds) [some (.sh (TW C) v)] (Empty.elim : Empty → Ga) (Empty.elim : Empty → Ga) TInt (mb_W_kinds v) := by
  unfold mb_W_kinds
  exact xb_ret (xo_lenT pv.n_len (xo_at (xo_ixT (xo_at (xe_fld pv.insWatch.cl pv.na1 has_moves (xe_var (i := 0) (hv := Or.inl (by kernel_rfl))))) xe_int (fun _ _ => by kernel_rfl))))
theorem g_kinds (pv : PV K mg base C CNoCode CWE T) {gp : Addr} {fd : FuncData} (FD : C8.Fun K "kinds" "Watch.kinds" s_Watch_kinds gp fd) : FnOk P w K mg base C8.CX0 1 gp fd ["self"] (spF G (a1 (TW C)) TInt fun x => wKinds x.1) :=
  fn_of_xb (as := a1 (TW C)) (mir := fun a => mb_W_kinds a.1) FD sc_W_kinds rfl (Empty.elim : Empty → Int) (fun _ z => z.elim) fun a cdv A outer s H E hr => b_W_kinds pv
section
variable {m : Type → Type} [Mon m] {X : Cx} {Γ : Ga} {e : Expr} {pos : Pos}
theorem x_moves {j : Nat} (pv : PV X.K X.mg X.base C CNoCode CWE T) (lg : LG T G) (hr : Room j X.A) (hk : 2 ≤ j) {c : m Wt} (h : XE G X e Γ (TW C) c) (hb : attributeBase e "moves" X.env (eval e X.env) = eval e X.env := by kernel_rfl) : XE G X (.Attribute e "moves" pos) Γ (TTup (TTup TInt)) (bnd c fun x => opt (wMoves x)) := by
  obtain ⟨pg, gp, fd, hp, FD, hd⟩ := pv.p_moves
  exact xe_prop (m' := Unit) (fo := wMoves) (k := 1) (j := 1) pv.insWatch.cl hp (g_moves pv FD) (FD.binds hd fun _ _ _ _ _ _ us hl => match us, hl with | [_], _ => rfl) (hr.mono hk) (Nat.le_refl 1) h hb
theorem x_words {j : Nat} (pv : PV X.K X.mg X.base C CNoCode CWE T) (lg : LG T G) (hr : Room j X.A) (hk : 2 ≤ j) {c : m Wt} (h : XE G X e Γ (TW C) c) (hb : attributeBase e "words" X.env (eval e X.env) = eval e X.env := by kernel_rfl) : XE G X (.Attribute e "words" pos) Γ (TTup TInt) (bnd c fun x => opt (wWords x)) := by
  obtain ⟨pg, gp, fd, hp, FD, hd⟩ := pv.p_words
  exact xe_prop (m' := Unit) (fo := wWords) (k := 1) (j := 1) pv.insWatch.cl hp (g_words pv FD) (FD.binds hd fun _ _ _ _ _ _ us hl => match us, hl with | [_], _ => rfl) (hr.mono hk) (Nat.le_refl 1) h hb
theorem x_kinds {j : Nat} (pv : PV X.K X.mg X.base C CNoCode CWE T) (lg : LG T G) (hr : Room j X.A) (hk : 2 ≤ j) {c : m Wt} (h : XE G X e Γ (TW C) c) (hb : attributeBase e "kinds" X.env (eval e X.env) = eval e X.env := by kernel_rfl) : XE G X (.Attribute e "kinds" pos) Γ TInt (bnd c fun x => opt (wKinds x)) := by
  obtain ⟨pg, gp, fd, hp, FD, hd⟩ := pv.p_kinds
  exact xe_prop (m' := Unit) (fo := wKinds) (k := 1) (j := 1) pv.insWatch.cl hp (g_kinds pv FD) (FD.binds hd fun _ _ _ _ _ _ us hl => match us, hl with | [_], _ => rfl) (hr.mono hk) (Nat.le_refl 1) h hb
end

/-! first_wrong -/
theorem sc_first_wrong : FnScope ["several", "fits", "index", "item"] ["several", "fits"] (C8.fnScope s_first_wrong) := C8.fnScope_by (by decide +kernel)
def mb_first_wrong {α : Type} (pf : α → Option Bool) (xs : List α) : Option (Fl Empty Empty (Option Int)) :=
  bnd (bnd (ret xs) fun xs => ret (enumI xs)) fun ys => bndF (forF (fun (u : Unit) (i : Int × α) => bnd (bnd (pf i.2) fun b => ret (!b)) fun k => if k then bnd (bnd (ret i.1) fun x => ret (some x)) fun r => ret (.rt r) else ret (.nx ())) ys ()) fun _ => bnd (ret none) fun r => ret (.rt r)
def m_first_wrong {α : Type} (pf : α → Option Bool) (xs : List α) : Option (Option Int) := retF (Empty.elim : Empty → Option Int) (mb_first_wrong pf xs)
theorem b_first_wrong {α : Type} {τ : Ty α} {TL : Ty Unit} (pv : PV K mg base C CNoCode CWE T) {pf : α → Option Bool} {xs : List α} {f : Addr} {cdv : Value} {A : Around} {outer : List Env} {s : Shared} {H : Hp} {E : XK}
    (hcall : ∀ (Γz : Ga) (x : α) (p1 p2 p3 : Pos), Γz[1]? = some (some (.sh TL ())) → Γz[3]? = some (some (.sh τ x)) → XE G (cxOf C8.CX0 P w K mg base ["several", "fits", "index", "item"] "first_wrong" (C8.fnScope s_first_wrong) f cdv A outer s H E).nox (.Call (.Name "fits" p1) [.Name "item" p2] [] p3) Γz TBool (pf x)) :
    XB G (cxOf C8.CX0 P w K mg base ["several", "fits", "index", "item"] "first_wrong" (C8.fnScope s_first_wrong) f cdv A outer s H E).nox (C8.fnBody s_first_wrong) [some (.sh (TSeq τ) xs), some (.sh TL ()), none, none] (Empty.elim : Empty → Ga) (Empty.elim : Empty → Ga) (TOpt TInt) (mb_first_wrong pf xs) := by
  unfold mb_first_wrong
  exact xb_for (τ := T2 TInt τ) (g1 := fun (_ : Unit) => [some (.sh (TSeq τ) xs), some (.sh TL ()), none, none]) PassesOwn.never
    (xi_case (i := 0) rfl (xi_enumT pv.n_enumerate (xe_var (i := 0) (hv := Or.inl (by kernel_rfl)))) (xi_enumL pv.n_enumerate (xe_var (i := 0) (hv := Or.inl (by kernel_rfl)))))
    (xg_t2 (xg_name (i := 2) sc_first_wrong.nd (hx := Or.inl (by kernel_rfl)) (hf := .inl (by kernel_rfl))) (xg_name (i := 3) sc_first_wrong.nd (hx := Or.inl (by kernel_rfl)) (hf := .inl (by kernel_rfl)))) (.eq (.eq (.eq (.eq .nil))))
    (fun u i => xb_ifR (xt_not (xt_val (hcall _ i.2 _ _ _ rfl rfl))) (xe_some (xe_var (i := 2) (hv := Or.inl (by kernel_rfl))) (fun F v x r => by rw [rel_int r]; exact fun z => nomatch z)) (xb_nil (.eq (.eq (.no (.no .nil))))))
    fun _ => xb_ret xe_nonO

def mb_is_number (v_thing : Int) : Option (Fl Empty Empty Bool) :=
  (bnd (bnd (bnd (ret v_thing) fun _ => ret true) fun k => if k then (bnd (bnd (ret v_thing) fun _ => ret false) fun i => ret (!i)) else ret false) fun r => ret (.rt r))
def m_is_number (v_thing : Int) : Option Bool := retF (Empty.elim : Empty → Bool) (mb_is_number v_thing)
theorem sc_is_number : FnScope ["thing"] ["thing"] (C8.fnScope s_is_number) := C8.fnScope_by (by decide +kernel)
theorem b_is_number (pv : PV K mg base C CNoCode CWE T) (lg : LG T G) {v_thing : Int} {f : Addr} {cdv : Value} {A : Around} {outer : List Env} {s : Shared} {H : Hp} {E : XK} (hr : Room 0 (A.deeper (envOfC "is_number" (C8.fnScope s_is_number) s.heap.objs.size f cdv))) :
    XB G (cxOf C8.CX0 P w K mg base ["thing"] "is_number" (C8.fnScope s_is_number) f cdv A outer s H E).nox (C8.fnBody s_is_number) [some (.sh TInt v_thing)] (Empty.elim : Empty → Ga) (Empty.elim : Empty → Ga) TBool (mb_is_number v_thing) := by
  unfold mb_is_number
  exact (xb_ret (xe_and (xe_isi (T := "int") (t := "int") (k := true) pv.n_isinstance pv.n_int (by kernel_rfl) ty_int (by kernel_rfl) (xe_var (i := 0) (hv := (Or.inl (by kernel_rfl))))) (xe_one (xe_not (xe_isi (T := "bool") (t := "int") (k := false) pv.n_isinstance pv.n_bool (by kernel_rfl) ty_int (by kernel_rfl) (xe_var (i := 0) (hv := (Or.inl (by kernel_rfl)))))))))
theorem c_is_number (pv : PV K mg base C CNoCode CWE T) (lg : LG T G) : C8.Cal P w K mg base 1 "is_number" (spF G (aCons TInt aNil) TBool fun a => m_is_number (a.1)) [] := by
  obtain ⟨f, fd, D, hd⟩ := pv.d_is_number
  exact def_of D (D.fn.binds hd fun _ _ _ _ _ _ us hl => match us, hl with | [_], _ => rfl) .nil sc_is_number rfl (Empty.elim : Empty → Bool) (fun _ z => z.elim) fun a cdv A outer s H E hr => b_is_number pv lg hr

def mb_is_between (v_thing : Int) (v_low : Int) (v_high : Int) : Option (Fl Empty Empty Bool) :=
  (bnd (bnd (bnd (bnd (ret v_thing) fun x => bnd (ret ()) fun r => ret (x, r)) fun a => opt (m_is_number (a.1))) fun k => if k then (bnd (ret v_low) fun x => bnd (ret v_thing) fun y => bnd (ret (decide (x ≤ y))) fun t => if t then bnd (ret v_high) fun z => ret (decide (y ≤ z)) else ret false) else ret false) fun r => ret (.rt r))
def m_is_between (v_thing : Int) (v_low : Int) (v_high : Int) : Option Bool := retF (Empty.elim : Empty → Bool) (mb_is_between v_thing v_low v_high)
theorem sc_is_between : FnScope ["thing", "low", "high"] ["thing", "low", "high"] (C8.fnScope s_is_between) := C8.fnScope_by (by decide +kernel)
theorem b_is_between (pv : PV K mg base C CNoCode CWE T) (lg : LG T G) {v_thing : Int} {v_low : Int} {v_high : Int} {f : Addr} {cdv : Value} {A : Around} {outer : List Env} {s : Shared} {H : Hp} {E : XK} (hr : Room 1 (A.deeper (envOfC "is_between" (C8.fnScope s_is_between) s.heap.objs.size f cdv))) :
    XB G (cxOf C8.CX0 P w K mg base ["thing", "low", "high"] "is_between" (C8.fnScope s_is_between) f cdv A outer s H E).nox (C8.fnBody s_is_between) [some (.sh TInt v_thing), some (.sh TInt v_low), some (.sh TInt v_high)] (Empty.elim : Empty → Ga) (Empty.elim : Empty → Ga) TBool (mb_is_between v_thing v_low v_high) := by
  unfold mb_is_between
  exact (xb_ret (xe_and (xe_callP (k := 1) (c_is_number pv lg) hr (by decide) (xa_cons (xe_var (i := 0) (hv := (Or.inl (by kernel_rfl)))) xa_nil)) (xe_one (xe_chain op_le op_le rb_le rb_le (xe_var (i := 1) (hv := (Or.inl (by kernel_rfl)))) (xe_var (i := 0) (hv := (Or.inl (by kernel_rfl)))) (xe_var (i := 2) (hv := (Or.inl (by kernel_rfl))))))))
theorem c_is_between (pv : PV K mg base C CNoCode CWE T) (lg : LG T G) : C8.Cal P w K mg base 2 "is_between" (spF G (aCons TInt (aCons TInt (aCons TInt aNil))) TBool fun a => m_is_between (a.1) (a.2.1) (a.2.2.1)) [] := by
  obtain ⟨f, fd, D, hd⟩ := pv.d_is_between
  exact def_of D (D.fn.binds hd fun _ _ _ _ _ _ us hl => match us, hl with | [_, _, _], _ => rfl) .nil sc_is_between rfl (Empty.elim : Empty → Bool) (fun _ z => z.elim) fun a cdv A outer s H E hr => b_is_between pv lg hr

def mb_is_list {tv_t : Type} (v_thing : (List tv_t)) : Option (Fl Empty Empty Bool) :=
  (bnd (bnd (ret v_thing) fun _ => ret true) fun r => ret (.rt r))
def m_is_list {tv_t : Type} (v_thing : (List tv_t)) : Option Bool := retF (Empty.elim : Empty → Bool) (mb_is_list v_thing)
theorem sc_is_list : FnScope ["thing"] ["thing"] (C8.fnScope s_is_list) := C8.fnScope_by (by decide +kernel)
theorem b_is_list {tv_t : Type} (tv : Ty tv_t) (pv : PV K mg base C CNoCode CWE T) (lg : LG T G) {v_thing : (List tv_t)} {f : Addr} {cdv : Value} {A : Around} {outer : List Env} {s : Shared} {H : Hp} {E : XK} (hr : Room 0 (A.deeper (envOfC "is_list" (C8.fnScope s_is_list) s.heap.objs.size f cdv))) :
    XB G (cxOf C8.CX0 P w K mg base ["thing"] "is_list" (C8.fnScope s_is_list) f cdv A outer s H E).nox (C8.fnBody s_is_list) [some (.sh (TSeq tv) v_thing)] (Empty.elim : Empty → Ga) (Empty.elim : Empty → Ga) TBool (mb_is_list v_thing) := by
  unfold mb_is_list
  exact (xb_ret (xe_isi2 (T1 := "list") (T2 := "tuple") pv.n_isinstance pv.n_list (by kernel_rfl) pv.n_tuple (by kernel_rfl) ty_seq (xe_var (i := 0) (hv := (Or.inl (by kernel_rfl))))))
theorem c_is_list {tv_t : Type} (tv : Ty tv_t) (pv : PV K mg base C CNoCode CWE T) (lg : LG T G) : C8.Cal P w K mg base 1 "is_list" (spF G (aCons (TSeq tv) aNil) TBool fun a => m_is_list (a.1)) [] := by
  obtain ⟨f, fd, D, hd⟩ := pv.d_is_list
  exact def_of D (D.fn.binds hd fun _ _ _ _ _ _ us hl => match us, hl with | [_], _ => rfl) .nil sc_is_list rfl (Empty.elim : Empty → Bool) (fun _ z => z.elim) fun a cdv A outer s H E hr => b_is_list tv pv lg hr

def mb_is_short_list {tv_t : Type} (v_thing : (List tv_t)) : Option (Fl Empty Empty Bool) :=
  (bnd (bnd (bnd (bnd (ret v_thing) fun x => bnd (ret ()) fun r => ret (x, r)) fun a => opt (m_is_list (a.1))) fun k => if k then (bnd (bnd (bnd (ret v_thing) fun x => bnd (ret ()) fun r => ret (x, r)) fun x => ret ((x.1.length : Nat) : Int)) fun x => bnd (ret (300 : Int)) fun y => ret (decide (x ≤ y))) else ret false) fun r => ret (.rt r))
def m_is_short_list {tv_t : Type} (v_thing : (List tv_t)) : Option Bool := retF (Empty.elim : Empty → Bool) (mb_is_short_list v_thing)
theorem sc_is_short_list : FnScope ["thing"] ["thing"] (C8.fnScope s_is_short_list) := C8.fnScope_by (by decide +kernel)
theorem b_is_short_list {tv_t : Type} (tv : Ty tv_t) (pv : PV K mg base C CNoCode CWE T) (lg : LG T G) {v_thing : (List tv_t)} {f : Addr} {cdv : Value} {A : Around} {outer : List Env} {s : Shared} {H : Hp} {E : XK} (hr : Room 1 (A.deeper (envOfC "is_short_list" (C8.fnScope s_is_short_list) s.heap.objs.size f cdv))) :
    XB G (cxOf C8.CX0 P w K mg base ["thing"] "is_short_list" (C8.fnScope s_is_short_list) f cdv A outer s H E).nox (C8.fnBody s_is_short_list) [some (.sh (TSeq tv) v_thing)] (Empty.elim : Empty → Ga) (Empty.elim : Empty → Ga) TBool (mb_is_short_list v_thing) := by
  unfold mb_is_short_list
  exact (xb_ret (xe_and (xe_callP (k := 1) (c_is_list tv pv lg) hr (by decide) (xa_cons (xe_var (i := 0) (hv := (Or.inl (by kernel_rfl)))) xa_nil)) (xe_one (xe_cmp op_le rb_le (xe_callB call_len_seq rc_lenS pv.n_len (by kernel_rfl) (xa_cons (xe_var (i := 0) (hv := (Or.inl (by kernel_rfl)))) xa_nil)) (xe_globI rfl pv.g_MOST_EVENTS) (by kernel_rfl)))))
theorem c_is_short_list {tv_t : Type} (tv : Ty tv_t) (pv : PV K mg base C CNoCode CWE T) (lg : LG T G) : C8.Cal P w K mg base 2 "is_short_list" (spF G (aCons (TSeq tv) aNil) TBool fun a => m_is_short_list (a.1)) [] := by
  obtain ⟨f, fd, D, hd⟩ := pv.d_is_short_list
  exact def_of D (D.fn.binds hd fun _ _ _ _ _ _ us hl => match us, hl with | [_], _ => rfl) .nil sc_is_short_list rfl (Empty.elim : Empty → Bool) (fun _ z => z.elim) fun a cdv A outer s H E hr => b_is_short_list tv pv lg hr

def mb_is_word (v_thing : Int) : Option (Fl Empty Empty Bool) :=
  (bnd (bnd (bnd (ret v_thing) fun x => bnd (bnd (ret (0 : Int)) fun x => bnd (bnd (ret (3 : Int)) fun x => bnd (ret ()) fun r => ret (x, r)) fun r => ret (x, r)) fun r => ret (x, r)) fun a => opt (m_is_between (a.1) (a.2.1) (a.2.2.1))) fun r => ret (.rt r))
def m_is_word (v_thing : Int) : Option Bool := retF (Empty.elim : Empty → Bool) (mb_is_word v_thing)
theorem sc_is_word : FnScope ["thing"] ["thing"] (C8.fnScope s_is_word) := C8.fnScope_by (by decide +kernel)
theorem b_is_word (pv : PV K mg base C CNoCode CWE T) (lg : LG T G) {v_thing : Int} {f : Addr} {cdv : Value} {A : Around} {outer : List Env} {s : Shared} {H : Hp} {E : XK} (hr : Room 2 (A.deeper (envOfC "is_word" (C8.fnScope s_is_word) s.heap.objs.size f cdv))) :
    XB G (cxOf C8.CX0 P w K mg base ["thing"] "is_word" (C8.fnScope s_is_word) f cdv A outer s H E).nox (C8.fnBody s_is_word) [some (.sh TInt v_thing)] (Empty.elim : Empty → Ga) (Empty.elim : Empty → Ga) TBool (mb_is_word v_thing) := by
  unfold mb_is_word
  exact (xb_ret (xe_callP (k := 2) (c_is_between pv lg) hr (by decide) (xa_cons (xe_var (i := 0) (hv := (Or.inl (by kernel_rfl)))) (xa_cons xe_int (xa_cons (xe_globI rfl pv.g_MOST_WORD_rows) xa_nil)))))
theorem c_is_word (pv : PV K mg base C CNoCode CWE T) (lg : LG T G) : C8.Cal P w K mg base 3 "is_word" (spF G (aCons TInt aNil) TBool fun a => m_is_word (a.1)) [] := by
  obtain ⟨f, fd, D, hd⟩ := pv.d_is_word
  exact def_of D (D.fn.binds hd fun _ _ _ _ _ _ us hl => match us, hl with | [_], _ => rfl) .nil sc_is_word rfl (Empty.elim : Empty → Bool) (fun _ z => z.elim) fun a cdv A outer s H E hr => b_is_word pv lg hr

/-! first_wrong(words, is_word); first_wrong(e, lambda y: ..) -/
theorem c_fw_word (pv : PV K mg base C CNoCode CWE T) (lg : LG T G) {fi : Addr} {fdi : FuncData} {psi : List Str} (FI : FnOk P w K mg base C8.CX0 3 fi fdi psi (spF G (aCons TInt aNil) TBool fun a => m_is_word a.1)) (kp : PySem.W.keepIn K (.ref fi) = true) (hb : Binds K fdi psi []) :
    C8.Cal P w K mg base 4 "first_wrong" (spF G (aCons (TSeq TInt) (aCons (TRaw (.ref fi)) aNil)) (TOpt TInt) fun a => m_first_wrong m_is_word a.1) [] := by
  obtain ⟨f, fd, D, hd⟩ := pv.d_first_wrong
  exact def_of (as := aCons (TSeq TInt) (aCons (TRaw (.ref fi)) aNil)) (mir := fun a => mb_first_wrong m_is_word a.1) D (D.fn.binds hd fun _ _ _ _ _ _ us hl => match us, hl with | [_, _], _ => rfl) .nil sc_first_wrong rfl (Empty.elim : Empty → Option Int) (fun _ z => z.elim) fun a cdv A outer s H E hr =>
    b_first_wrong (TL := TRaw (.ref fi)) pv fun Γz x p1 p2 p3 h1 h3 => xe_callL (i := 1) (k := 3) (as := aCons TInt aNil) (fo := fun a => m_is_word a.1) (ca := bnd (ret x) fun x => bnd (ret ()) fun r => ret (x, r)) FI hr (by decide) (Or.inl (by kernel_rfl)) kp hb h1 (xa_cons (xe_var (i := 3) (hΓ := h3) (hv := Or.inl (by kernel_rfl))) xa_nil)
theorem x_fw {m : Type → Type} [Mon m] {X : Cx} {Γ : Ga} {α : Type} {τ : Ty α} {e bd : Expr} {pr : Arguments} {sc : Scope} {lpos p pos : Pos} {y : Str} {c Pt : Addr} {k j : Nat} {ca : m (List α)} {pf : α → Option Bool} (pv : PV X.K X.mg X.base C CNoCode CWE T) (lg : LG T G) (TB : LamX.TabB X.base X.mg c Pt) (hcode : X.env.code = .ref c) (hmT : (Pt, X.env.qual ++ "<lambda>") ∈ T)
    (hu : ∀ p ∈ T, p.1 = Pt → p.2 = X.env.qual ++ "<lambda>") (hr : Room (k + 2) X.A) (L : Lam1 X.env.scope sc y) (hXN : X.N.Nodup) (hj : X.N[j]? = some y) (hdef : defaultsOf pr X.env = ([], []))
    (hbind : ∀ (q : Str) (cl : List (Str × Addr)) (pm cv ct u : Value), bindArgs (PySem.W.kla_fn "<lambda>" q pr bd sc cl pm cv ct) ⟨[u], []⟩ = pure [(y, u)]) (hno : noOw Γ) (ha : XE G X e Γ (TSeq τ) ca)
    (hbody : ∀ (x : α) (A : Around) (outer : List Env) (s : Shared) (H : Hp) (fa c' : Addr), Room k (A.deeper (LamX.lamEnv X sc s.heap.objs.size fa c')) → XE G (LamX.lamCx X A outer s H C8.E0 sc fa c') bd (Γ.set j (some (.sh τ x))) TBool (pf x)) (hg : Gl X "first_wrong" := by show _ = _; kernel_rfl)
    (hs : starEach [e, .Lambda pr bd sc lpos] X.env = (false, eval e X.env) :: starEach [.Lambda pr bd sc lpos] X.env := by kernel_rfl) (hpl : (backTo pos (starEach [.Lambda pr bd sc lpos] X.env)).any (·.1) = false := by kernel_rfl) : XE G X (.Call (.Name "first_wrong" p) [e, .Lambda pr bd sc lpos] [] pos) Γ (TOpt TInt) (bnd ca fun xs => opt (m_first_wrong pf xs)) := by
  obtain ⟨g0, fd, D, hd⟩ := pv.d_first_wrong
  obtain ⟨oc, od, dV, kV, doc, pm, an, cdv, ct, osl, efd, lk, hcd⟩ := D.fn.ex
  subst efd
  have e0 : dV = .none := hd
  subst e0
  have bnds := D.fn.binds (ps := ["several", "fits"]) hd fun _ _ _ _ _ _ us hl => match us, hl with | [_, _], _ => rfl
  exact xe_lam (Ng := ["several", "fits", "index", "item"]) (a1' := "several") (a2' := "fits") (k := k) lg hg D.mgf D.kp lk hcd bnds sc_first_wrong (by kernel_rfl) (Or.inl (by kernel_rfl)) TB hcode hmT hu hr L hXN hj hdef hbind (fun i s h => noOw_at hno h) ha
    (fun fa c' σ s H xs hcall hroom => ⟨Empty, (Empty.elim : Empty → Ga), (Empty.elim : Empty → Ga), (Empty.elim : Empty → Option Int), mb_first_wrong pf xs, fun _ z => z.elim, rfl,
      b_first_wrong pv fun Γz x p1 p2 p3 h1 h3 => hcall Γz [] τ x 3 (pf x) (.Name "item" p2) p1 p3 h1 (xe_var (i := 3) (hΓ := h3) (hv := Or.inl (by kernel_rfl))) (fun A outer s H hr => hbody x A outer s H fa c' hr) (by kernel_rfl)⟩) (by kernel_rfl) (by kernel_rfl) (by kernel_rfl) hs hpl

def mb_is_line (v_thing : (List Int)) (v_kinds : Int) (v_places : Int) : Option (Fl Empty Empty Bool) :=
  (bnd (bnd (bnd (bnd (bnd (ret v_thing) fun x => bnd (ret ()) fun r => ret (x, r)) fun a => opt (m_is_list (a.1))) fun i => ret (!i)) fun k => if k then ret true else (bnd (bnd (bnd (ret v_thing) fun x => bnd (ret ()) fun r => ret (x, r)) fun x => ret ((x.1.length : Nat) : Int)) fun x => bnd (ret v_kinds) fun y => ret (!decide (x = y)))) fun k => if k then (bnd (ret false) fun r => ret (.rt r)) else (bnd (bnd (bnd (bnd (ret v_thing) fun xs => lcC (fun c_1 => bnd (bnd (bnd (ret c_1) fun x => bnd (bnd (ret (0 : Int)) fun x => bnd (bnd (bnd (ret v_places) fun x => bnd (ret (1 : Int)) fun y => ret (x - y)) fun x => bnd (ret ()) fun r => ret (x, r)) fun r => ret (x, r)) fun r => ret (x, r)) fun a => opt (m_is_between (a.1) (a.2.1) (a.2.2.1))) fun y => ret (some y)) xs) fun x => bnd (ret ()) fun r => ret (x, r)) fun x => ret (x.1.all id)) fun r => ret (.rt r)))
def m_is_line (v_thing : (List Int)) (v_kinds : Int) (v_places : Int) : Option Bool := retF (Empty.elim : Empty → Bool) (mb_is_line v_thing v_kinds v_places)
theorem sc_is_line : FnScope ["thing", "kinds", "places", "item"] ["thing", "kinds", "places"] (C8.fnScope s_is_line) := C8.fnScope_by (by decide +kernel)
theorem b_is_line (pv : PV K mg base C CNoCode CWE T) (lg : LG T G) {v_thing : (List Int)} {v_kinds : Int} {v_places : Int} {f : Addr} {cdv : Value} {A : Around} {outer : List Env} {s : Shared} {H : Hp} {E : XK} (hr : Room 2 (A.deeper (envOfC "is_line" (C8.fnScope s_is_line) s.heap.objs.size f cdv))) :
    XB G (cxOf C8.CX0 P w K mg base ["thing", "kinds", "places", "item"] "is_line" (C8.fnScope s_is_line) f cdv A outer s H E).nox (C8.fnBody s_is_line) [some (.sh (TSeq TInt) v_thing), some (.sh TInt v_kinds), some (.sh TInt v_places), none] (Empty.elim : Empty → Ga) (Empty.elim : Empty → Ga) TBool (mb_is_line v_thing v_kinds v_places) := by
  unfold mb_is_line
  exact (xb_ifR (xt_w (xw_or (xt_not (xt_val (xe_callP (k := 1) (c_is_list TInt pv lg) hr (by decide) (xa_cons (xe_var (i := 0) (hv := (Or.inl (by kernel_rfl)))) xa_nil)))) (xw_or1 (xt_cmp op_ne rb_neI (xe_callB call_len_seq rc_lenS pv.n_len (by kernel_rfl) (xa_cons (xe_var (i := 0) (hv := (Or.inl (by kernel_rfl)))) xa_nil)) (xe_var (i := 1) (hv := (Or.inl (by kernel_rfl)))) (by kernel_rfl))))) xe_bl (xb_ret (xe_callB (cr_all rfl) rc_allL pv.n_all (by kernel_rfl) (xa_cons (xe_lc (own := [("item", 3)]) sc_is_line.nd (blkOk_by (by kernel_rfl)) (xi_case (i := 0) rfl (xi_tup (xe_var (i := 0) (hv := (Or.inl (by kernel_rfl))))) (xi_lst (xe_var (i := 0) (hv := (Or.inl (by kernel_rfl)))))) (fun _ _ _ _ _ => (xg_name (i := 3) sc_is_line.nd (hx := (Or.inl (by kernel_rfl))) (hf := (.inr (by kernel_rfl))))) (by decide) (fun c_1 => fun _ _ _ _ _ => (xe_callP (k := 2) (c_is_between pv lg) hr (by decide) (xa_cons (xe_var (i := 3) (hv := (Or.inl (by kernel_rfl)))) (xa_cons xe_int (xa_cons (xe_op op_sub rb_sub (xe_var (i := 2) (hv := (Or.inr (Or.inl (by kernel_rfl))))) xe_int) xa_nil)))))) xa_nil))))
theorem c_is_line (pv : PV K mg base C CNoCode CWE T) (lg : LG T G) : C8.Cal P w K mg base 3 "is_line" (spF G (aCons (TSeq TInt) (aCons TInt (aCons TInt aNil))) TBool fun a => m_is_line (a.1) (a.2.1) (a.2.2.1)) [] := by
  obtain ⟨f, fd, D, hd⟩ := pv.d_is_line
  exact def_of D (D.fn.binds hd fun _ _ _ _ _ _ us hl => match us, hl with | [_, _, _], _ => rfl) .nil sc_is_line rfl (Empty.elim : Empty → Bool) (fun _ z => z.elim) fun a cdv A outer s H E hr => b_is_line pv lg hr

def mb_need_row_of (v_kinds : Int) (v_row : (List Int)) : Option (Fl Unit Empty Unit) :=
  (bnd (bnd (bnd (bnd (ret v_row) fun x => bnd (ret ()) fun r => ret (x, r)) fun a => opt (m_is_short_list (a.1))) fun i => ret (!i)) fun k => if k then opt none else (bnd (bnd (ret v_row) fun xs => opt (m_first_wrong (fun (l_2 : Int) => (bnd (bnd (ret l_2) fun x => bnd (bnd (ret (0 : Int)) fun x => bnd (bnd (bnd (ret v_kinds) fun x => bnd (ret (1 : Int)) fun y => ret (x - y)) fun x => bnd (ret ()) fun r => ret (x, r)) fun r => ret (x, r)) fun r => ret (x, r)) fun a => opt (m_is_between (a.1) (a.2.1) (a.2.2.1)))) xs)) fun index_3 => (bnd (bnd (ret index_3) fun x => ret x.isSome) fun k => if k then opt none else (ret (.nx ())))))
def m_need_row_of (v_kinds : Int) (v_row : (List Int)) : Option Unit := retF (fun _ : Unit => ()) (mb_need_row_of v_kinds v_row)
theorem sc_need_row_of : FnScope ["kinds", "row", "index", "item"] ["kinds", "row"] (C8.fnScope s_need_row_of) := C8.fnScope_by (by decide +kernel)
abbrev q_need_row_of : Str := (("need_row_of" : Str) ++ ".<locals>.") ++ "<lambda>"
theorem b_need_row_of (pv : PV K mg base C CNoCode CWE T) (lg : LG T G) {v_kinds : Int} {v_row : (List Int)} {f : Addr} {c Pt : Addr} (TB : LamX.TabB base mg c Pt) (hT : (Pt, q_need_row_of) ∈ T) (hu : ∀ p ∈ T, p.1 = Pt → p.2 = q_need_row_of) {A : Around} {outer : List Env} {s : Shared} {H : Hp} {E : XK} (hr : Room 4 (A.deeper (envOfC "need_row_of" (C8.fnScope s_need_row_of) s.heap.objs.size f (.ref c)))) :
    XB G (cxOf C8.CX0 P w K mg base ["kinds", "row", "index", "item"] "need_row_of" (C8.fnScope s_need_row_of) f (.ref c) A outer s H E).nox (C8.fnBody s_need_row_of) [some (.sh TInt v_kinds), some (.sh (TTup TInt) v_row), none, none] (fun _ : Unit => [none, none, none, none]) (Empty.elim : Empty → Ga) TNon (mb_need_row_of v_kinds v_row) := by
  unfold mb_need_row_of
  exact (xb_ifN (xt_not (xt_val (xe_callP (k := 2) (c_is_short_list TInt pv lg) hr (by decide) (xa_cons (xe_as (xe_var (i := 1) (hv := (Or.inl (by kernel_rfl)))) (seq_t ty_id)) xa_nil)))) (xb_seq (xs_set (i := 2) (x_fw (y := "item") (k := 2) (j := 3) (c := c) (Pt := Pt) pv lg TB (by kernel_rfl) hT hu (hr.mono (by decide)) (lam1_by (by kernel_rfl)) sc_need_row_of.nd (by kernel_rfl) (by kernel_rfl) (fun _ _ _ _ _ _ => by kernel_rfl) (by exact True.intro) (xe_as (xe_var (i := 1) (hv := (Or.inl (by kernel_rfl)))) (seq_t ty_id)) (fun l_2 A outer s H fa cc hr => (xe_callP (k := 2) (c_is_between pv lg) hr (by decide) (xa_cons (xe_var (i := 3) (hv := (Or.inl (by kernel_rfl)))) (xa_cons xe_int (xa_cons (xe_op op_sub rb_sub (xe_var (i := 0) (hv := (Or.inr (Or.inr (by kernel_rfl))))) xe_int) xa_nil)))))) sc_need_row_of.nd (hx := (Or.inl (by kernel_rfl))) (hf := (.inl (by kernel_rfl)))) fun index_3 => (xb_ifN (xt_notN (xe_var (i := 2) (hv := (Or.inl (by kernel_rfl))))) (xb_nil (.no (.no (.no (.no .nil))))))))
theorem c_need_row_of (pv : PV K mg base C CNoCode CWE T) (lg : LG T G) : C8.Cal P w K mg base 5 "need_row_of" (spF G (aCons TInt (aCons (TTup TInt) aNil)) TNon fun a => m_need_row_of (a.1) (a.2.1)) [] :=
  def_ofL (as := (aCons TInt (aCons (TTup TInt) aNil))) (mir := fun a => mb_need_row_of (a.1) (a.2.1)) pv.l_need_row_of (fun _ _ _ _ _ _ us hl => match us, hl with | [_, _], _ => rfl) sc_need_row_of rfl (fun _ : Unit => ()) (fun _ z => rfl) fun a f c Pt A outer s H E TB hT hu hr => b_need_row_of pv lg TB hT hu hr

def mb_need_row (v_watch : Wt) (v_row : (List Int)) : Option (Fl Unit Empty Unit) :=
  (bnd (bnd (bnd (bnd (ret v_watch) fun x => opt (wKinds x)) fun x => bnd (bnd (ret v_row) fun x => bnd (ret ()) fun r => ret (x, r)) fun r => ret (x, r)) fun a => opt (m_need_row_of (a.1) (a.2.1))) fun _ => (ret (.nx ())))
def m_need_row (v_watch : Wt) (v_row : (List Int)) : Option Unit := retF (fun _ : Unit => ()) (mb_need_row v_watch v_row)
theorem sc_need_row : FnScope ["watch", "row"] ["watch", "row"] (C8.fnScope s_need_row) := C8.fnScope_by (by decide +kernel)
theorem b_need_row (pv : PV K mg base C CNoCode CWE T) (lg : LG T G) {v_watch : Wt} {v_row : (List Int)} {f : Addr} {cdv : Value} {A : Around} {outer : List Env} {s : Shared} {H : Hp} {E : XK} (hr : Room 5 (A.deeper (envOfC "need_row" (C8.fnScope s_need_row) s.heap.objs.size f cdv))) :
    XB G (cxOf C8.CX0 P w K mg base ["watch", "row"] "need_row" (C8.fnScope s_need_row) f cdv A outer s H E).nox (C8.fnBody s_need_row) [some (.sh (TW C) v_watch), some (.sh (TTup TInt) v_row)] (fun _ : Unit => [none, none]) (Empty.elim : Empty → Ga) TNon (mb_need_row v_watch v_row) := by
  unfold mb_need_row
  exact (xb_seq (xs_expr (xe_callP (k := 5) (c_need_row_of pv lg) hr (by decide) (xa_cons (x_kinds pv lg hr (by decide) (xe_var (i := 0) (hv := (Or.inl (by kernel_rfl))))) (xa_cons (xe_var (i := 1) (hv := (Or.inl (by kernel_rfl)))) xa_nil)))) fun _ => (xb_nil (.no (.no .nil))))
theorem c_need_row (pv : PV K mg base C CNoCode CWE T) (lg : LG T G) : C8.Cal P w K mg base 6 "need_row" (spF G (aCons (TW C) (aCons (TTup TInt) aNil)) TNon fun a => m_need_row (a.1) (a.2.1)) [] := by
  obtain ⟨f, fd, D, hd⟩ := pv.d_need_row
  exact def_of D (D.fn.binds hd fun _ _ _ _ _ _ us hl => match us, hl with | [_, _], _ => rfl) .nil sc_need_row rfl (fun _ : Unit => ()) (fun _ z => rfl) fun a cdv A outer s H E hr => b_need_row pv lg hr

def mb_need_moves (v_moves : (List (List Int))) : Option (Fl Unit Empty Unit) :=
  (bnd (bnd (bnd (bnd (bnd (ret v_moves) fun x => bnd (ret ()) fun r => ret (x, r)) fun a => opt (m_is_list (a.1))) fun i => ret (!i)) fun k => if k then ret true else (bnd (bnd (ret (1 : Int)) fun x => bnd (bnd (bnd (ret v_moves) fun x => bnd (ret ()) fun r => ret (x, r)) fun x => ret ((x.1.length : Nat) : Int)) fun y => bnd (ret (decide (x ≤ y))) fun t => if t then bnd (ret (6 : Int)) fun z => ret (decide (y ≤ z)) else ret false) fun i => ret (!i))) fun k => if k then opt none else (bnd (bnd (ret v_moves) fun xs => bnd (ret (0 : Int)) fun i => opt (atI xs i)) fun first_4 => (bnd (bnd (bnd (bnd (bnd (ret first_4) fun x => bnd (ret ()) fun r => ret (x, r)) fun a => opt (m_is_list (a.1))) fun i => ret (!i)) fun k => if k then ret true else (bnd (bnd (ret (1 : Int)) fun x => bnd (bnd (bnd (ret first_4) fun x => bnd (ret ()) fun r => ret (x, r)) fun x => ret ((x.1.length : Nat) : Int)) fun y => bnd (ret (decide (x ≤ y))) fun t => if t then bnd (ret (4 : Int)) fun z => ret (decide (y ≤ z)) else ret false) fun i => ret (!i))) fun k => if k then opt none else (bnd (bnd (ret v_moves) fun xs => opt (m_first_wrong (fun (l_5 : (List Int)) => (bnd (bnd (ret l_5) fun x => bnd (bnd (bnd (bnd (ret first_4) fun x => bnd (ret ()) fun r => ret (x, r)) fun x => ret ((x.1.length : Nat) : Int)) fun x => bnd (bnd (bnd (bnd (ret v_moves) fun x => bnd (ret ()) fun r => ret (x, r)) fun x => ret ((x.1.length : Nat) : Int)) fun x => bnd (ret ()) fun r => ret (x, r)) fun r => ret (x, r)) fun r => ret (x, r)) fun a => opt (m_is_line (a.1) (a.2.1) (a.2.2.1)))) xs)) fun index_6 => (bnd (bnd (ret index_6) fun x => ret x.isSome) fun k => if k then opt none else (ret (.nx ())))))))
def m_need_moves (v_moves : (List (List Int))) : Option Unit := retF (fun _ : Unit => ()) (mb_need_moves v_moves)
theorem sc_need_moves : FnScope ["moves", "first", "index", "line"] ["moves"] (C8.fnScope s_need_moves) := C8.fnScope_by (by decide +kernel)
abbrev q_need_moves : Str := (("need_moves" : Str) ++ ".<locals>.") ++ "<lambda>"
theorem b_need_moves (pv : PV K mg base C CNoCode CWE T) (lg : LG T G) {v_moves : (List (List Int))} {f : Addr} {c Pt : Addr} (TB : LamX.TabB base mg c Pt) (hT : (Pt, q_need_moves) ∈ T) (hu : ∀ p ∈ T, p.1 = Pt → p.2 = q_need_moves) {A : Around} {outer : List Env} {s : Shared} {H : Hp} {E : XK} (hr : Room 5 (A.deeper (envOfC "need_moves" (C8.fnScope s_need_moves) s.heap.objs.size f (.ref c)))) :
    XB G (cxOf C8.CX0 P w K mg base ["moves", "first", "index", "line"] "need_moves" (C8.fnScope s_need_moves) f (.ref c) A outer s H E).nox (C8.fnBody s_need_moves) [some (.sh (TSeq (TSeq TInt)) v_moves), none, none, none] (fun _ : Unit => [none, none, none, none]) (Empty.elim : Empty → Ga) TNon (mb_need_moves v_moves) := by
  unfold mb_need_moves
  exact (xb_ifN (xt_w (xw_or (xt_not (xt_val (xe_callP (k := 1) (c_is_list (TSeq TInt) pv lg) hr (by decide) (xa_cons (xe_var (i := 0) (hv := (Or.inr (Or.inl (by kernel_rfl))))) xa_nil)))) (xw_or1 (xt_not (xt_chain op_le op_le rb_le rb_le xe_int (xe_callB call_len_seq rc_lenS pv.n_len (by kernel_rfl) (xa_cons (xe_var (i := 0) (hv := (Or.inr (Or.inl (by kernel_rfl))))) xa_nil)) (xe_globI rfl pv.g_MOST_PLACES)))))) (xb_seq (xs_set (i := 1) (xe_case (i := 0) rfl (xo_ixT (xo_at (xe_var (i := 0) (hv := (Or.inr (Or.inl (by kernel_rfl)))))) xe_int (fun _ _ => by kernel_rfl)) (xo_ixL (xo_at (xe_var (i := 0) (hv := (Or.inr (Or.inl (by kernel_rfl)))))) xe_int (fun _ _ => by kernel_rfl))) sc_need_moves.nd (hx := (Or.inr (by kernel_rfl))) (hf := (.inl (by kernel_rfl)))) fun first_4 => (xb_ifN (xt_w (xw_or (xt_not (xt_val (xe_callP (k := 1) (c_is_list TInt pv lg) hr (by decide) (xa_cons (xe_var (i := 1) (hv := (Or.inr (Or.inl (by kernel_rfl))))) xa_nil)))) (xw_or1 (xt_not (xt_chain op_le op_le rb_le rb_le xe_int (xe_callB call_len_seq rc_lenS pv.n_len (by kernel_rfl) (xa_cons (xe_var (i := 1) (hv := (Or.inr (Or.inl (by kernel_rfl))))) xa_nil)) (xe_globI rfl pv.g_MOST_KINDS)))))) (xb_seq (xs_set (i := 2) (x_fw (y := "line") (k := 3) (j := 3) (c := c) (Pt := Pt) pv lg TB (by kernel_rfl) hT hu (hr.mono (by decide)) (lam1_by (by kernel_rfl)) sc_need_moves.nd (by kernel_rfl) (by kernel_rfl) (fun _ _ _ _ _ _ => by kernel_rfl) (by exact True.intro) (xe_var (i := 0) (hv := (Or.inr (Or.inl (by kernel_rfl))))) (fun l_5 A outer s H fa cc hr => (xe_callP (k := 3) (c_is_line pv lg) hr (by decide) (xa_cons (xe_var (i := 3) (hv := (Or.inl (by kernel_rfl)))) (xa_cons (xe_callB call_len_seq rc_lenS pv.n_len (by kernel_rfl) (xa_cons (xe_var (i := 1) (hv := (Or.inr (Or.inr (by kernel_rfl))))) xa_nil)) (xa_cons (xe_callB call_len_seq rc_lenS pv.n_len (by kernel_rfl) (xa_cons (xe_var (i := 0) (hv := (Or.inr (Or.inr (by kernel_rfl))))) xa_nil)) xa_nil)))))) sc_need_moves.nd (hx := (Or.inl (by kernel_rfl))) (hf := (.inl (by kernel_rfl)))) fun index_6 => (xb_ifN (xt_notN (xe_var (i := 2) (hv := (Or.inl (by kernel_rfl))))) (xb_nil (.no (.no (.no (.no .nil))))))))))
theorem c_need_moves (pv : PV K mg base C CNoCode CWE T) (lg : LG T G) : C8.Cal P w K mg base 6 "need_moves" (spF G (aCons (TSeq (TSeq TInt)) aNil) TNon fun a => m_need_moves (a.1)) [] :=
  def_ofL (as := (aCons (TSeq (TSeq TInt)) aNil)) (mir := fun a => mb_need_moves (a.1)) pv.l_need_moves (fun _ _ _ _ _ _ us hl => match us, hl with | [_], _ => rfl) sc_need_moves rfl (fun _ : Unit => ()) (fun _ z => rfl) fun a f c Pt A outer s H E TB hT hu hr => b_need_moves pv lg TB hT hu hr

def mb_need_words (v_words : (List Int)) (v_many : Int) : Option (Fl Unit Empty Unit) :=
  (bnd (bnd (bnd (bnd (bnd (ret v_words) fun x => bnd (ret ()) fun r => ret (x, r)) fun a => opt (m_is_list (a.1))) fun i => ret (!i)) fun k => if k then ret true else (bnd (bnd (bnd (ret v_words) fun x => bnd (ret ()) fun r => ret (x, r)) fun x => ret ((x.1.length : Nat) : Int)) fun x => bnd (ret v_many) fun y => ret (!decide (x = y)))) fun k => if k then opt none else (bnd (bnd (bnd (ret v_words) fun x => bnd (bnd (ret ()) fun x => bnd (ret ()) fun r => ret (x, r)) fun r => ret (x, r)) fun a => opt (m_first_wrong m_is_word a.1)) fun index_7 => (bnd (bnd (ret index_7) fun x => ret x.isSome) fun k => if k then opt none else (ret (.nx ())))))
def m_need_words (v_words : (List Int)) (v_many : Int) : Option Unit := retF (fun _ : Unit => ()) (mb_need_words v_words v_many)
theorem sc_need_words : FnScope ["words", "many", "index"] ["words", "many"] (C8.fnScope s_need_words) := C8.fnScope_by (by decide +kernel)
theorem b_need_words (pv : PV K mg base C CNoCode CWE T) (lg : LG T G) {v_words : (List Int)} {v_many : Int} {f : Addr} {cdv : Value} {A : Around} {outer : List Env} {s : Shared} {H : Hp} {E : XK} (hr : Room 4 (A.deeper (envOfC "need_words" (C8.fnScope s_need_words) s.heap.objs.size f cdv))) :
    XB G (cxOf C8.CX0 P w K mg base ["words", "many", "index"] "need_words" (C8.fnScope s_need_words) f cdv A outer s H E).nox (C8.fnBody s_need_words) [some (.sh (TSeq TInt) v_words), some (.sh TInt v_many), none] (fun _ : Unit => [none, none, none]) (Empty.elim : Empty → Ga) TNon (mb_need_words v_words v_many) := by
  obtain ⟨fi, fdi, psi, dsi, FI, hmI, kpI, hbI, vI⟩ := (c_is_word (P := P) (w := w) pv lg).ex
  cases vI
  unfold mb_need_words
  exact (xb_ifN (xt_w (xw_or (xt_not (xt_val (xe_callP (k := 1) (c_is_list TInt pv lg) hr (by decide) (xa_cons (xe_var (i := 0) (hv := (Or.inl (by kernel_rfl)))) xa_nil)))) (xw_or1 (xt_cmp op_ne rb_neI (xe_callB call_len_seq rc_lenS pv.n_len (by kernel_rfl) (xa_cons (xe_var (i := 0) (hv := (Or.inl (by kernel_rfl)))) xa_nil)) (xe_var (i := 1) (hv := (Or.inl (by kernel_rfl)))) (by kernel_rfl))))) (xb_seq (xs_set (i := 2) (xe_callP (f := fun a => m_first_wrong m_is_word a.1) (k := 4) (c_fw_word pv lg FI kpI hbI) hr (by decide) (xa_cons (xe_var (i := 0) (hv := (Or.inl (by kernel_rfl)))) (xa_cons (xe_defv hmI) xa_nil))) sc_need_words.nd (hx := (Or.inl (by kernel_rfl))) (hf := (.inl (by kernel_rfl)))) fun index_7 => (xb_ifN (xt_notN (xe_var (i := 2) (hv := (Or.inl (by kernel_rfl))))) (xb_nil (.no (.no (.no .nil)))))))
theorem c_need_words (pv : PV K mg base C CNoCode CWE T) (lg : LG T G) : C8.Cal P w K mg base 5 "need_words" (spF G (aCons (TSeq TInt) (aCons TInt aNil)) TNon fun a => m_need_words (a.1) (a.2.1)) [] := by
  obtain ⟨f, fd, D, hd⟩ := pv.d_need_words
  exact def_of D (D.fn.binds hd fun _ _ _ _ _ _ us hl => match us, hl with | [_, _], _ => rfl) .nil sc_need_words rfl (fun _ : Unit => ()) (fun _ z => rfl) fun a cdv A outer s H E hr => b_need_words pv lg hr

def mb_W_init (v_moves : List (List Int)) (v_words : List Int) : Option (Fl Wt Empty Unit) :=
  bnd (bnd (bnd (ret v_moves) fun x => bnd (ret ()) fun r => ret (x, r)) fun a => opt (m_need_moves (a.1))) fun _ => bnd (bnd (bnd (ret v_words) fun x => bnd (bnd (bnd (bnd (ret v_moves) fun x => bnd (ret ()) fun r => ret (x, r)) fun x => ret ((x.1.length : Nat) : Int)) fun x => bnd (ret ()) fun r => ret (x, r)) fun r => ret (x, r)) fun a => opt (m_need_words (a.1) (a.2.1))) fun _ => bnd (bnd (bnd (bnd (ret v_moves) fun xs => lcC (fun c_9 => bnd (bnd (bnd (ret c_9) fun x => bnd (ret ()) fun r => ret (x, r)) fun x => ret x.1) fun y => ret (some y)) xs) fun x => bnd (ret ()) fun r => ret (x, r)) fun x => ret x.1) fun y => bnd (bnd (bnd (ret v_words) fun x => bnd (ret ()) fun r => ret (x, r)) fun x => ret x.1) fun z => ret (.nx (((), y), z))
def mkW (v_moves : List (List Int)) (v_words : List Int) : Option Wt := bnd (mb_W_init v_moves v_words) nxK
theorem sc_W_init : FnScope ["self", "moves", "words", "line"] ["self", "moves", "words"] (C8.fnScope s_Watch_init) := C8.fnScope_by (by decide +kernel)
theorem b_W_init (pv : PV K mg base C CNoCode CWE T) (lg : LG T G) {x0 : Addr} {v_moves : List (List Int)} {v_words : List Int} {f : Addr} {cdv : Value} {A : Around} {outer : List Env} {s : Shared} {H : Hp} {E : XK} (hr : Room 6 (A.deeper (envOfC "Watch.__init__" (C8.fnScope s_Watch_init) s.heap.objs.size f cdv))) :
    XB G (cxOf C8.CX0 P w K mg base ["self", "moves", "words", "line"] "Watch.__init__" (C8.fnScope s_Watch_init) f cdv A outer s H E).nox (C8.fnBody s_Watch_init) [some (.ow (OInsP C x0 flNil) ()), some (.sh (TSeq (TSeq TInt)) v_moves), some (.sh (TSeq TInt) v_words), none] (fun y => [some (.ow (OInsP C x0 flW) y), none, none, none]) (Empty.elim : Empty → Ga) TNon (mb_W_init v_moves v_words) := by
  unfold mb_W_init
  exact xb_seq (xs_expr (xe_callP (k := 6) (c_need_moves pv lg) hr (by decide) (xa_cons (xe_var (i := 1) (hv := (Or.inl (by kernel_rfl)))) xa_nil))) fun _ => xb_seq (xs_expr (xe_callP (k := 5) (c_need_words pv lg) hr (by decide) (xa_cons (xe_var (i := 2) (hv := (Or.inl (by kernel_rfl)))) (xa_cons (xe_callB call_len_seq rc_lenS pv.n_len (by kernel_rfl) (xa_cons (xe_var (i := 1) (hv := (Or.inl (by kernel_rfl)))) xa_nil)) xa_nil)))) fun _ => xb_seq (xs_fldN (i := 0) (x0 := x0) pv.insWatch.cl pv.na1 (by decide) (by decide) rfl (xe_callTy call_tuple_of rc_tupleS pv.n_tuple (by kernel_rfl) (xa_cons (xe_as (xe_lc (own := [("line", 3)]) sc_W_init.nd (blkOk_by (by kernel_rfl)) (xi_case (i := 1) rfl (xi_tup (xe_var (i := 1) (hv := (Or.inl (by kernel_rfl))))) (xi_lst (xe_var (i := 1) (hv := (Or.inl (by kernel_rfl)))))) (fun _ _ _ _ _ => (xg_name (i := 3) sc_W_init.nd (hx := (Or.inl (by kernel_rfl))) (hf := (.inr (by kernel_rfl))))) (by decide) (fun c_9 => fun _ _ _ _ _ => (xe_callTy call_tuple_of rc_tupleS pv.n_tuple (by kernel_rfl) (xa_cons (xe_var (i := 3) (hv := (Or.inl (by kernel_rfl)))) xa_nil)))) (seq_l ty_id)) xa_nil)) (by kernel_rfl) (Or.inl (by kernel_rfl))) fun y => xb_seq (xs_fldN (i := 0) (x0 := x0) pv.insWatch.cl pv.na2 (by decide) (by decide) rfl (xe_callTy call_tuple_of rc_tupleS pv.n_tuple (by kernel_rfl) (xa_cons (xe_var (i := 2) (hv := (Or.inl (by kernel_rfl)))) xa_nil)) (by kernel_rfl) (Or.inl (by kernel_rfl))) fun z => xb_nil (.eq (.no (.no (.no .nil))))
theorem c_Watch (pv : PV K mg base C CNoCode CWE T) (lg : LG T G) : C8.Mak P w K mg base 7 "Watch" C (spI G C (aCons (TSeq (TSeq TInt)) (aCons (TSeq TInt) aNil)) flW fun a => mkW a.1 a.2.1) [] := by
  obtain ⟨fi, fd, mk, FD, hd⟩ := pv.mkWatch
  exact mak_of (as := aCons (TSeq (TSeq TInt)) (aCons (TSeq TInt) aNil)) (mir := fun a => mb_W_init a.1 a.2.1) (g := fun x0 y => [some (.ow (OInsP C x0 flW) y), none, none, none]) (gl := (Empty.elim : Empty → Ga)) mk pv.mWatch FD (FD.binds hd fun _ _ _ _ _ _ us hl => match us, hl with | [_, _, _], _ => rfl) sc_W_init rfl (fun _ _ => rfl) fun a x0 cdv A outer s H E hr => b_W_init pv lg hr
def mb_need_watch (v_watch : Wt) (v_part : Unit) : Option (Fl Unit Empty Unit) :=
  (bnd (bnd (bnd (ret v_watch) fun _ => ret true) fun i => ret (!i)) fun k => if k then opt none else (ret (.nx ())))
def m_need_watch (v_watch : Wt) (v_part : Unit) : Option Unit := retF (fun _ : Unit => ()) (mb_need_watch v_watch v_part)
theorem sc_need_watch : FnScope ["watch", "part"] ["watch", "part"] (C8.fnScope s_need_watch) := C8.fnScope_by (by decide +kernel)
theorem b_need_watch (pv : PV K mg base C CNoCode CWE T) (lg : LG T G) {v_watch : Wt} {v_part : Unit} {f : Addr} {cdv : Value} {A : Around} {outer : List Env} {s : Shared} {H : Hp} {E : XK} (hr : Room 0 (A.deeper (envOfC "need_watch" (C8.fnScope s_need_watch) s.heap.objs.size f cdv))) :
    XB G (cxOf C8.CX0 P w K mg base ["watch", "part"] "need_watch" (C8.fnScope s_need_watch) f cdv A outer s H E).nox (C8.fnBody s_need_watch) [some (.sh (TW C) v_watch), some (.sh TNon v_part)] (fun _ : Unit => [none, none]) (Empty.elim : Empty → Ga) TNon (mb_need_watch v_watch v_part) := by
  unfold mb_need_watch
  exact (xb_ifN (xt_not (xt_val (xe_isC pv.n_isinstance pv.insWatch pv.mWatch (xe_var (i := 0) (hv := (Or.inl (by kernel_rfl))))))) (xb_nil (.no (.no .nil))))
theorem c_need_watch (pv : PV K mg base C CNoCode CWE T) (lg : LG T G) : C8.Cal P w K mg base 1 "need_watch" (spF G (aCons (TW C) (aCons TNon aNil)) TNon fun a => m_need_watch (a.1) (a.2.1)) [.non] := by
  obtain ⟨f, fd, ds, D, d, hb⟩ := pv.d_need_watch
  exact def_of D hb d sc_need_watch rfl (fun _ : Unit => ()) (fun _ z => rfl) fun a cdv A outer s H E hr => b_need_watch pv lg hr

def mb_word_counts (v_watch : Wt) (v_length : Int) : Option (Fl Empty Empty (List Int)) :=
  (bnd (bnd (bnd (ret v_watch) fun x => bnd (ret ()) fun r => ret (x, r)) fun a => opt (m_need_watch a.1 ())) fun _ => (bnd (bnd (bnd (bnd (ret v_length) fun x => bnd (bnd (ret (0 : Int)) fun x => bnd (bnd (ret (300 : Int)) fun x => bnd (ret ()) fun r => ret (x, r)) fun r => ret (x, r)) fun r => ret (x, r)) fun a => opt (m_is_between (a.1) (a.2.1) (a.2.2.1))) fun i => ret (!i)) fun k => if k then opt none else (bnd (bnd (bnd (ret (0 : Int)) fun x => bnd (ret []) fun r => ret (x :: r)) fun xs => bnd (bnd (bnd (ret v_watch) fun x => opt (wMoves x)) fun x => ret ((x.length : Nat) : Int)) fun k => opt (repC xs k)) fun many_10 => (bnd (bnd (ret (1 : Int)) fun x => bnd (ret (0 : Int)) fun k => opt (setC many_10 k x)) fun many_11 => (bnd (bnd (ret v_length) fun j => opt (rngI 0 j)) fun xs => bndF (forF (fun (s_59 : (List Int)) (i_43 : Int) => (bnd (bnd (bnd (ret (0 : Int)) fun x => bnd (ret []) fun r => ret (x :: r)) fun xs => bnd (bnd (ret s_59) fun x => ret ((x.length : Nat) : Int)) fun k => opt (repC xs k)) fun later_60 => (bnd (bnd (ret s_59) fun xs => ret (enumI xs)) fun xs => bndF (forF (fun (s_67 : (List Int)) (i_61 : (Int × Int)) => (bnd (bnd (bnd (ret v_watch) fun x => opt (wMoves x)) fun xs => bnd (ret i_61.1) fun i => opt (atI xs i)) fun xs => bndF (forF (fun (s_70 : (List Int)) (i_68 : Int) => (bnd (bnd (bnd (bnd (ret s_70) fun xs => bnd (ret i_68) fun i => opt (atI xs i)) fun x => bnd (ret i_61.2) fun y => ret (x + y)) fun x => bnd (ret i_68) fun k => opt (setC s_70 k x)) fun later_71 => (ret (.nx later_71)))) xs s_67) fun s_72 => (ret (.nx s_72)))) xs later_60) fun s_73 => (bnd (ret s_73) fun many_74 => (ret (.nx many_74)))))) xs many_11) fun s_75 => (bnd (bnd (bnd (ret (0 : Int)) fun x => bnd (ret []) fun r => ret (x :: r)) fun xs => bnd (bnd (ret (3 : Int)) fun x => bnd (ret (1 : Int)) fun y => ret (x + y)) fun k => opt (repC xs k)) fun found_76 => (bnd (bnd (ret s_75) fun xs => ret (enumI xs)) fun xs => bndF (forF (fun (s_79 : (List Int)) (i_77 : (Int × Int)) => (bnd (bnd (bnd (bnd (ret s_79) fun xs => bnd (bnd (bnd (ret v_watch) fun x => opt (wWords x)) fun xs => bnd (ret i_77.1) fun i => opt (atI xs i)) fun i => opt (atI xs i)) fun x => bnd (ret i_77.2) fun y => ret (x + y)) fun x => bnd (bnd (bnd (ret v_watch) fun x => opt (wWords x)) fun xs => bnd (ret i_77.1) fun i => opt (atI xs i)) fun k => opt (setC s_79 k x)) fun found_80 => (ret (.nx found_80)))) xs found_76) fun s_81 => (bnd (bnd (bnd (ret s_81) fun x => bnd (ret ()) fun r => ret (x, r)) fun x => ret x.1) fun r => ret (.rt r)))))))))
def m_word_counts (v_watch : Wt) (v_length : Int) : Option (List Int) := retF (Empty.elim : Empty → (List Int)) (mb_word_counts v_watch v_length)
theorem sc_word_counts : FnScope ["watch", "length", "many", "lap", "later", "place", "number", "goal", "found"] ["watch", "length"] (C8.fnScope s_word_counts) := C8.fnScope_by (by decide +kernel)
theorem b_word_counts (pv : PV K mg base C CNoCode CWE T) (lg : LG T G) {v_watch : Wt} {v_length : Int} {f : Addr} {cdv : Value} {A : Around} {outer : List Env} {s : Shared} {H : Hp} {E : XK} (hr : Room 2 (A.deeper (envOfC "word_counts" (C8.fnScope s_word_counts) s.heap.objs.size f cdv))) :
    XB G (cxOf C8.CX0 P w K mg base ["watch", "length", "many", "lap", "later", "place", "number", "goal", "found"] "word_counts" (C8.fnScope s_word_counts) f cdv A outer s H E).nox (C8.fnBody s_word_counts) [some (.sh (TW C) v_watch), some (.sh TInt v_length), none, none, none, none, none, none, none] (Empty.elim : Empty → Ga) (Empty.elim : Empty → Ga) (TTup TInt) (mb_word_counts v_watch v_length) := by
  unfold mb_word_counts
  exact (xb_seq (xs_expr (xe_callD (f := fun a => m_need_watch a.1 a.2.1) (k := 1) (c_need_watch pv lg) hr (by decide) (xa_cons (xe_var (i := 0) (hv := (Or.inl (by kernel_rfl)))) xa_nil))) fun _ => (xb_ifN (xt_not (xt_val (xe_callP (k := 2) (c_is_between pv lg) hr (by decide) (xa_cons (xe_var (i := 1) (hv := (Or.inl (by kernel_rfl)))) (xa_cons xe_int (xa_cons (xe_globI rfl pv.g_MOST_EVENTS) xa_nil)))))) (xb_seq (xs_new (i := 2) (xn_rep (xe_lst (xl_cons xe_int xl_nil)) (xo_lenT pv.n_len (xo_at (x_moves pv lg hr (by decide) (xe_var (i := 0) (hv := (Or.inl (by kernel_rfl)))))))) sc_word_counts.nd (hx := (Or.inl (by kernel_rfl))) (hf := (.inl (by kernel_rfl)))) fun many_10 => (xb_seq (xs_setL (i := 2) rfl xe_int xe_int (by kernel_rfl) (Or.inl (by kernel_rfl)) (fun h1 h2 h3 => ps_asg h3 (pg_sub h1 h2 set_list) (by kernel_rfl) (by kernel_rfl) (by kernel_rfl))) fun many_11 => (xb_frzL (i := 2) rfl (xb_for (τ := TInt) (g1 := fun (s_59 : (List Int)) => [some (.sh (TW C) v_watch), some (.sh TInt v_length), some (.sh (TLst TInt) s_59), none, none, none, none, none, none]) PassesOwn.never (xi_rng1 pv.n_range (xe_var (i := 1) (hv := (Or.inl (by kernel_rfl))))) (xg_name (i := 3) sc_word_counts.nd (hx := (Or.inl (by kernel_rfl))) (hf := (.inl (by kernel_rfl)))) (.eq (.eq (.eq (.no (.no (.no (.no (.no (.no .nil))))))))) (fun s_59 i_43 => (xb_seq (xs_new (i := 4) (xn_rep (xe_lst (xl_cons xe_int xl_nil)) (xo_lenL pv.n_len (xo_at (xe_var (i := 2) (hv := (Or.inl (by kernel_rfl))))))) sc_word_counts.nd (hx := (Or.inl (by kernel_rfl))) (hf := (.inl (by kernel_rfl)))) fun later_60 => (xb_for (τ := (T2 TInt TInt)) (g1 := fun (s_67 : (List Int)) => [some (.sh (TW C) v_watch), some (.sh TInt v_length), some (.sh (TLst TInt) s_59), some (.sh TInt i_43), some (.ow (OLst TInt) s_67), none, none, none, none]) PassesOwn.never (xi_enumL pv.n_enumerate (xe_var (i := 2) (hv := (Or.inl (by kernel_rfl))))) (xg_t2 (xg_name (i := 5) sc_word_counts.nd (hx := (Or.inl (by kernel_rfl))) (hf := (.inl (by kernel_rfl)))) (xg_name (i := 6) sc_word_counts.nd (hx := (Or.inl (by kernel_rfl))) (hf := (.inl (by kernel_rfl))))) (.eq (.eq (.eq (.eq (.eq (.no (.no (.no (.no .nil))))))))) (fun s_67 i_61 => (xb_for (τ := TInt) (g1 := fun (s_70 : (List Int)) => [some (.sh (TW C) v_watch), some (.sh TInt v_length), some (.sh (TLst TInt) s_59), some (.sh TInt i_43), some (.ow (OLst TInt) s_70), some (.sh TInt i_61.1), some (.sh TInt i_61.2), none, none]) PassesOwn.never (xi_tup (xo_ixT (xo_at (x_moves pv lg hr (by decide) (xe_var (i := 0) (hv := (Or.inl (by kernel_rfl)))))) (xe_var (i := 5) (hv := (Or.inl (by kernel_rfl)))) (fun _ _ => by kernel_rfl))) (xg_name (i := 7) sc_word_counts.nd (hx := (Or.inl (by kernel_rfl))) (hf := (.inl (by kernel_rfl)))) (.eq (.eq (.eq (.eq (.eq (.eq (.eq (.no (.no .nil))))))))) (fun s_70 i_68 => (xb_seq (xs_setL (i := 4) rfl (xe_op op_add rb_add (xo_ixL (xo_own (i := 4) (hv := (Or.inl (by kernel_rfl)))) (xe_var (i := 7) (hv := (Or.inl (by kernel_rfl)))) (fun _ _ => by kernel_rfl)) (xe_var (i := 6) (hv := (Or.inl (by kernel_rfl))))) (xe_var (i := 7) (hv := (Or.inl (by kernel_rfl)))) (by kernel_rfl) (Or.inl (by kernel_rfl)) (fun h1 h2 h3 => ps_asg h3 (pg_sub h1 h2 set_list) (by kernel_rfl) (by kernel_rfl) (by kernel_rfl))) fun later_71 => (xb_nil (.eq (.eq (.eq (.eq (.eq (.eq (.eq (.no (.no .nil)))))))))))) fun s_72 => (xb_nil (.eq (.eq (.eq (.eq (.eq (.no (.no (.no (.no .nil)))))))))))) fun s_73 => (xb_frzL (i := 4) rfl (xb_seq (xs_set (i := 2) (xe_var (i := 4) (hv := (Or.inl (by kernel_rfl)))) sc_word_counts.nd (hx := (Or.inl (by kernel_rfl))) (hf := (.inl (by kernel_rfl)))) fun many_74 => (xb_nil (.eq (.eq (.eq (.no (.no (.no (.no (.no (.no .nil))))))))))))))) fun s_75 => (xb_seq (xs_new (i := 8) (xn_rep (xe_lst (xl_cons xe_int xl_nil)) (xe_op op_add rb_add (xe_globI rfl pv.g_MOST_WORD_rows) xe_int)) sc_word_counts.nd (hx := (Or.inl (by kernel_rfl))) (hf := (.inl (by kernel_rfl)))) fun found_76 => (xb_for (τ := (T2 TInt TInt)) (g1 := fun (s_79 : (List Int)) => [some (.sh (TW C) v_watch), some (.sh TInt v_length), some (.sh (TLst TInt) s_75), none, none, none, none, none, some (.ow (OLst TInt) s_79)]) PassesOwn.never (xi_enumL pv.n_enumerate (xe_var (i := 2) (hv := (Or.inl (by kernel_rfl))))) (xg_t2 (xg_name (i := 5) sc_word_counts.nd (hx := (Or.inl (by kernel_rfl))) (hf := (.inl (by kernel_rfl)))) (xg_name (i := 6) sc_word_counts.nd (hx := (Or.inl (by kernel_rfl))) (hf := (.inl (by kernel_rfl))))) (.eq (.eq (.eq (.no (.no (.no (.no (.no (.eq .nil))))))))) (fun s_79 i_77 => (xb_seq (xs_setL (i := 8) rfl (xe_op op_add rb_add (xo_ixL (xo_own (i := 8) (hv := (Or.inl (by kernel_rfl)))) (xo_ixT (xo_at (x_words pv lg hr (by decide) (xe_var (i := 0) (hv := (Or.inl (by kernel_rfl)))))) (xe_var (i := 5) (hv := (Or.inl (by kernel_rfl)))) (fun _ _ => by kernel_rfl)) (fun _ _ => by kernel_rfl)) (xe_var (i := 6) (hv := (Or.inl (by kernel_rfl))))) (xo_ixT (xo_at (x_words pv lg hr (by decide) (xe_var (i := 0) (hv := (Or.inl (by kernel_rfl)))))) (xe_var (i := 5) (hv := (Or.inl (by kernel_rfl)))) (fun _ _ => by kernel_rfl)) (by kernel_rfl) (Or.inl (by kernel_rfl)) (fun h1 h2 h3 => ps_asg h3 (pg_sub h1 h2 set_list) (by kernel_rfl) (by kernel_rfl) (by kernel_rfl))) fun found_80 => (xb_nil (.eq (.eq (.eq (.no (.no (.no (.no (.no (.eq .nil)))))))))))) fun s_81 => (xb_frzL (i := 8) rfl (xb_ret (xe_callTy call_tuple_of rc_tupleS pv.n_tuple (by kernel_rfl) (xa_cons (xe_as (xe_var (i := 8) (hv := (Or.inl (by kernel_rfl)))) (seq_l ty_id)) xa_nil))))))))))))
theorem c_word_counts (pv : PV K mg base C CNoCode CWE T) (lg : LG T G) : C8.Cal P w K mg base 3 "word_counts" (spF G (aCons (TW C) (aCons TInt aNil)) (TTup TInt) fun a => m_word_counts (a.1) (a.2.1)) [] := by
  obtain ⟨f, fd, D, hd⟩ := pv.d_word_counts
  exact def_of D (D.fn.binds hd fun _ _ _ _ _ _ us hl => match us, hl with | [_, _], _ => rfl) .nil sc_word_counts rfl (Empty.elim : Empty → (List Int)) (fun _ z => z.elim) fun a cdv A outer s H E hr => b_word_counts pv lg hr

def mb_need_verdict (v_verdict : Int) : Option (Fl Unit Empty Unit) :=
  (bnd (bnd (bnd (bnd (ret v_verdict) fun x => bnd (bnd (ret (0 : Int)) fun x => bnd (bnd (ret (3 : Int)) fun x => bnd (ret ()) fun r => ret (x, r)) fun r => ret (x, r)) fun r => ret (x, r)) fun a => opt (m_is_between (a.1) (a.2.1) (a.2.2.1))) fun i => ret (!i)) fun k => if k then opt none else (ret (.nx ())))
def m_need_verdict (v_verdict : Int) : Option Unit := retF (fun _ : Unit => ()) (mb_need_verdict v_verdict)
theorem sc_need_verdict : FnScope ["verdict"] ["verdict"] (C8.fnScope s_need_verdict) := C8.fnScope_by (by decide +kernel)
theorem b_need_verdict (pv : PV K mg base C CNoCode CWE T) (lg : LG T G) {v_verdict : Int} {f : Addr} {cdv : Value} {A : Around} {outer : List Env} {s : Shared} {H : Hp} {E : XK} (hr : Room 2 (A.deeper (envOfC "need_verdict" (C8.fnScope s_need_verdict) s.heap.objs.size f cdv))) :
    XB G (cxOf C8.CX0 P w K mg base ["verdict"] "need_verdict" (C8.fnScope s_need_verdict) f cdv A outer s H E).nox (C8.fnBody s_need_verdict) [some (.sh TInt v_verdict)] (fun _ : Unit => [none]) (Empty.elim : Empty → Ga) TNon (mb_need_verdict v_verdict) := by
  unfold mb_need_verdict
  exact (xb_ifN (xt_not (xt_val (xe_callP (k := 2) (c_is_between pv lg) hr (by decide) (xa_cons (xe_var (i := 0) (hv := (Or.inl (by kernel_rfl)))) (xa_cons xe_int (xa_cons (xe_globI rfl pv.g_MOST_WORD_modes) xa_nil)))))) (xb_nil (.no .nil)))
theorem c_need_verdict (pv : PV K mg base C CNoCode CWE T) (lg : LG T G) : C8.Cal P w K mg base 3 "need_verdict" (spF G (aCons TInt aNil) TNon fun a => m_need_verdict (a.1)) [] := by
  obtain ⟨f, fd, D, hd⟩ := pv.d_need_verdict
  exact def_of D (D.fn.binds hd fun _ _ _ _ _ _ us hl => match us, hl with | [_], _ => rfl) .nil sc_need_verdict rfl (fun _ : Unit => ()) (fun _ z => rfl) fun a cdv A outer s H E hr => b_need_verdict pv lg hr

def mb_need_near (v_watch : Wt) (v_verdict : Int) (v_row : (List Int)) : Option (Fl Unit Empty Unit) :=
  (bnd (bnd (bnd (ret v_watch) fun x => bnd (ret ()) fun r => ret (x, r)) fun a => opt (m_need_watch a.1 ())) fun _ => (bnd (bnd (bnd (ret v_verdict) fun x => bnd (ret ()) fun r => ret (x, r)) fun a => opt (m_need_verdict (a.1))) fun _ => (bnd (bnd (bnd (ret v_watch) fun x => bnd (bnd (ret v_row) fun x => bnd (ret ()) fun r => ret (x, r)) fun r => ret (x, r)) fun a => opt (m_need_row (a.1) (a.2.1))) fun _ => (ret (.nx ())))))
def m_need_near (v_watch : Wt) (v_verdict : Int) (v_row : (List Int)) : Option Unit := retF (fun _ : Unit => ()) (mb_need_near v_watch v_verdict v_row)
theorem sc_need_near : FnScope ["watch", "verdict", "row"] ["watch", "verdict", "row"] (C8.fnScope s_need_near) := C8.fnScope_by (by decide +kernel)
theorem b_need_near (pv : PV K mg base C CNoCode CWE T) (lg : LG T G) {v_watch : Wt} {v_verdict : Int} {v_row : (List Int)} {f : Addr} {cdv : Value} {A : Around} {outer : List Env} {s : Shared} {H : Hp} {E : XK} (hr : Room 6 (A.deeper (envOfC "need_near" (C8.fnScope s_need_near) s.heap.objs.size f cdv))) :
    XB G (cxOf C8.CX0 P w K mg base ["watch", "verdict", "row"] "need_near" (C8.fnScope s_need_near) f cdv A outer s H E).nox (C8.fnBody s_need_near) [some (.sh (TW C) v_watch), some (.sh TInt v_verdict), some (.sh (TTup TInt) v_row)] (fun _ : Unit => [none, none, none]) (Empty.elim : Empty → Ga) TNon (mb_need_near v_watch v_verdict v_row) := by
  unfold mb_need_near
  exact (xb_seq (xs_expr (xe_callD (f := fun a => m_need_watch a.1 a.2.1) (k := 1) (c_need_watch pv lg) hr (by decide) (xa_cons (xe_var (i := 0) (hv := (Or.inl (by kernel_rfl)))) xa_nil))) fun _ => (xb_seq (xs_expr (xe_callP (k := 3) (c_need_verdict pv lg) hr (by decide) (xa_cons (xe_var (i := 1) (hv := (Or.inl (by kernel_rfl)))) xa_nil))) fun _ => (xb_seq (xs_expr (xe_callP (k := 6) (c_need_row pv lg) hr (by decide) (xa_cons (xe_var (i := 0) (hv := (Or.inl (by kernel_rfl)))) (xa_cons (xe_var (i := 2) (hv := (Or.inl (by kernel_rfl)))) xa_nil)))) fun _ => (xb_nil (.no (.no (.no .nil)))))))
theorem c_need_near (pv : PV K mg base C CNoCode CWE T) (lg : LG T G) : C8.Cal P w K mg base 7 "need_near" (spF G (aCons (TW C) (aCons TInt (aCons (TTup TInt) aNil))) TNon fun a => m_need_near (a.1) (a.2.1) (a.2.2.1)) [] := by
  obtain ⟨f, fd, D, hd⟩ := pv.d_need_near
  exact def_of D (D.fn.binds hd fun _ _ _ _ _ _ us hl => match us, hl with | [_, _, _], _ => rfl) .nil sc_need_near rfl (fun _ : Unit => ()) (fun _ z => rfl) fun a cdv A outer s H E hr => b_need_near pv lg hr

def mb_near_by (v_watch : Wt) (v_verdict : Int) (v_row : (List Int)) : Option (Fl Empty Empty (List (Int × Int))) :=
  (bnd (bnd (bnd (ret (0 : Int)) fun x => bnd (ret (0 : Int)) fun y => ret (x, y)) fun k => bnd (ret (1 : Int)) fun x => ret [(k, x)]) fun line_82 => (bnd (ret v_row) fun xs => bndF (forF (fun (s_103 : (List ((Int × Int) × Int))) (i_83 : Int) => (bnd (ret []) fun later_104 => (bnd (ret s_103) fun xs => bndF (forF (fun (s_113 : (List ((Int × Int) × Int))) (i_105 : ((Int × Int) × Int)) => (bnd (bnd (bnd (bnd (ret v_watch) fun x => opt (wMoves x)) fun xs => bnd (ret i_105.1.1) fun i => opt (atI xs i)) fun xs => ret (enumI xs)) fun xs => bndF (forF (fun (s_117 : (List ((Int × Int) × Int))) (i_114 : (Int × Int)) => (bnd (bnd (ret i_114.2) fun x => bnd (bnd (bnd (ret i_114.1) fun x => bnd (ret i_83) fun y => ret (decide (x = y))) fun k => if k then (ret i_105.1.2) else (bnd (ret i_105.1.2) fun x => bnd (ret (1 : Int)) fun y => ret (x + y))) fun y => ret (x, y)) fun key_118 => (bnd (bnd (bnd (bnd (ret s_117) fun xs => bnd (ret key_118) fun k => bnd (ret (0 : Int)) fun z => ret ((dget xs k).getD z)) fun x => bnd (ret i_105.2) fun y => ret (x + y)) fun x => bnd (ret key_118) fun k => opt (dputC s_117 k x)) fun later_119 => (ret (.nx later_119))))) xs s_113) fun s_120 => (ret (.nx s_120)))) xs later_104) fun s_121 => (bnd (ret s_121) fun line_122 => (ret (.nx line_122)))))) xs line_82) fun s_123 => (bnd (ret []) fun found_124 => (bnd (ret s_123) fun xs => bndF (forF (fun (s_127 : (List (Int × Int))) (i_125 : ((Int × Int) × Int)) => (bnd (bnd (bnd (bnd (ret v_watch) fun x => opt (wWords x)) fun xs => bnd (ret i_125.1.1) fun i => opt (atI xs i)) fun x => bnd (ret v_verdict) fun y => ret (decide (x = y))) fun k => if k then (bnd (bnd (bnd (bnd (ret s_127) fun xs => bnd (ret i_125.1.2) fun k => bnd (ret (0 : Int)) fun z => ret ((dget xs k).getD z)) fun x => bnd (ret i_125.2) fun y => ret (x + y)) fun x => bnd (ret i_125.1.2) fun k => opt (dputC s_127 k x)) fun found_128 => (ret (.nx found_128))) else (ret (.nx s_127)))) xs found_124) fun s_129 => (bnd (bnd (bnd (bnd (ret s_129) fun x => bnd (ret ()) fun r => ret (x, r)) fun x => opt (sortD x.1)) fun xs => dcC (fun c_130 => bnd (ret c_130) fun k => bnd (bnd (ret s_129) fun xs => bnd (ret c_130) fun k => opt (dget xs k)) fun y => ret (some (k, y))) xs) fun r => ret (.rt r))))))
def m_near_by (v_watch : Wt) (v_verdict : Int) (v_row : (List Int)) : Option (List (Int × Int)) := retF (Empty.elim : Empty → (List (Int × Int))) (mb_near_by v_watch v_verdict v_row)
theorem sc_near_by : FnScope ["watch", "verdict", "row", "line", "event", "later", "place", "many", "ways", "kind", "goal", "key", "found"] ["watch", "verdict", "row"] (C8.fnScope s_near_by) := C8.fnScope_by (by decide +kernel)
theorem b_near_by (pv : PV K mg base C CNoCode CWE T) (lg : LG T G) {v_watch : Wt} {v_verdict : Int} {v_row : (List Int)} {f : Addr} {cdv : Value} {A : Around} {outer : List Env} {s : Shared} {H : Hp} {E : XK} (hr : Room 2 (A.deeper (envOfC "near_by" (C8.fnScope s_near_by) s.heap.objs.size f cdv))) :
    XB G (cxOf C8.CX0 P w K mg base ["watch", "verdict", "row", "line", "event", "later", "place", "many", "ways", "kind", "goal", "key", "found"] "near_by" (C8.fnScope s_near_by) f cdv A outer s H E).nox (C8.fnBody s_near_by) [some (.sh (TW C) v_watch), some (.sh TInt v_verdict), some (.sh (TTup TInt) v_row), none, none, none, none, none, none, none, none, none, none] (Empty.elim : Empty → Ga) (Empty.elim : Empty → Ga) (TDK TInt) (mb_near_by v_watch v_verdict v_row) := by
  unfold mb_near_by
  exact (xb_seq (xs_set (i := 3) (xe_newD (fun _ _ _ => mu_dT) (xn_dict1 (kt := kt2) hr.units (xe_t2 xe_int xe_int) xe_int)) sc_near_by.nd (hx := (Or.inl (by kernel_rfl))) (hf := (.inl (by kernel_rfl)))) fun line_82 => (xb_for (τ := TInt) (g1 := fun (s_103 : (List ((Int × Int) × Int))) => [some (.sh (TW C) v_watch), some (.sh TInt v_verdict), some (.sh (TTup TInt) v_row), some (.sh (TDT kt2 TInt) s_103), none, none, none, none, none, none, none, none, none]) PassesOwn.never (xi_tup (xe_var (i := 2) (hv := (Or.inl (by kernel_rfl))))) (xg_name (i := 4) sc_near_by.nd (hx := (Or.inl (by kernel_rfl))) (hf := (.inl (by kernel_rfl)))) (.eq (.eq (.eq (.eq (.no (.no (.no (.no (.no (.no (.no (.no (.no .nil))))))))))))) (fun s_103 i_83 => (xb_seq (xs_new (i := 5) xn_dT sc_near_by.nd (hx := (Or.inl (by kernel_rfl))) (hf := (.inl (by kernel_rfl)))) fun later_104 => (xb_for (τ := (T2 (T2 TInt TInt) TInt)) (g1 := fun (s_113 : (List ((Int × Int) × Int))) => [some (.sh (TW C) v_watch), some (.sh TInt v_verdict), some (.sh (TTup TInt) v_row), some (.sh (TDT kt2 TInt) s_103), some (.sh TInt i_83), some (.ow (ODT kt2 TInt) s_113), none, none, none, none, none, none, none]) PassesOwn.never (xi_itemsT (kt := kt2) (xe_var (i := 3) (hv := (Or.inl (by kernel_rfl))))) (xg_t2 (xg_t2 (xg_name (i := 6) sc_near_by.nd (hx := (Or.inl (by kernel_rfl))) (hf := (.inl (by kernel_rfl)))) (xg_name (i := 7) sc_near_by.nd (hx := (Or.inl (by kernel_rfl))) (hf := (.inl (by kernel_rfl))))) (xg_name (i := 8) sc_near_by.nd (hx := (Or.inl (by kernel_rfl))) (hf := (.inl (by kernel_rfl))))) (.eq (.eq (.eq (.eq (.eq (.eq (.no (.no (.no (.no (.no (.no (.no .nil))))))))))))) (fun s_113 i_105 => (xb_for (τ := (T2 TInt TInt)) (g1 := fun (s_117 : (List ((Int × Int) × Int))) => [some (.sh (TW C) v_watch), some (.sh TInt v_verdict), some (.sh (TTup TInt) v_row), some (.sh (TDT kt2 TInt) s_103), some (.sh TInt i_83), some (.ow (ODT kt2 TInt) s_117), some (.sh TInt i_105.1.1), some (.sh TInt i_105.1.2), some (.sh TInt i_105.2), none, none, none, none]) PassesOwn.never (xi_enumT pv.n_enumerate (xo_ixT (xo_at (x_moves pv lg hr (by decide) (xe_var (i := 0) (hv := (Or.inl (by kernel_rfl)))))) (xe_var (i := 6) (hv := (Or.inl (by kernel_rfl)))) (fun _ _ => by kernel_rfl))) (xg_t2 (xg_name (i := 9) sc_near_by.nd (hx := (Or.inl (by kernel_rfl))) (hf := (.inl (by kernel_rfl)))) (xg_name (i := 10) sc_near_by.nd (hx := (Or.inl (by kernel_rfl))) (hf := (.inl (by kernel_rfl))))) (.eq (.eq (.eq (.eq (.eq (.eq (.eq (.eq (.eq (.no (.no (.no (.no .nil))))))))))))) (fun s_117 i_114 => (xb_seq (xs_set (i := 11) (xe_t2 (xe_var (i := 10) (hv := (Or.inl (by kernel_rfl)))) (xe_if (xt_cmp op_eq rb_eqI (xe_var (i := 9) (hv := (Or.inl (by kernel_rfl)))) (xe_var (i := 4) (hv := (Or.inl (by kernel_rfl)))) (by kernel_rfl)) (xe_var (i := 7) (hv := (Or.inl (by kernel_rfl)))) (xe_op op_add rb_add (xe_var (i := 7) (hv := (Or.inl (by kernel_rfl)))) xe_int))) sc_near_by.nd (hx := (Or.inl (by kernel_rfl))) (hf := (.inl (by kernel_rfl)))) fun key_118 => (xb_seq (xs_dput (i := 5) (kdT (kt := kt2)) hr.units rfl (xe_op op_add rb_add (xo_dget2 (kdT (kt := kt2)) hr.units (xo_own (i := 5) (hv := (Or.inl (by kernel_rfl)))) (xe_var (i := 11) (hv := (Or.inl (by kernel_rfl)))) xe_int) (xe_var (i := 8) (hv := (Or.inl (by kernel_rfl))))) (xe_var (i := 11) (hv := (Or.inl (by kernel_rfl)))) (by kernel_rfl) (Or.inl (by kernel_rfl))) fun later_119 => (xb_nil (.eq (.eq (.eq (.eq (.eq (.eq (.eq (.eq (.eq (.no (.no (.no (.no .nil))))))))))))))))) fun s_120 => (xb_nil (.eq (.eq (.eq (.eq (.eq (.eq (.no (.no (.no (.no (.no (.no (.no .nil)))))))))))))))) fun s_121 => (xb_frzD (i := 5) rfl (fun _ _ _ => mu_dT) (xb_seq (xs_set (i := 3) (xe_var (i := 5) (hv := (Or.inl (by kernel_rfl)))) sc_near_by.nd (hx := (Or.inl (by kernel_rfl))) (hf := (.inl (by kernel_rfl)))) fun line_122 => (xb_nil (.eq (.eq (.eq (.eq (.no (.no (.no (.no (.no (.no (.no (.no (.no .nil))))))))))))))))))) fun s_123 => (xb_seq (xs_new (i := 12) xn_dK sc_near_by.nd (hx := (Or.inr (by kernel_rfl))) (hf := (.inl (by kernel_rfl)))) fun found_124 => (xb_for (τ := (T2 (T2 TInt TInt) TInt)) (g1 := fun (s_127 : (List (Int × Int))) => [some (.sh (TW C) v_watch), some (.sh TInt v_verdict), some (.sh (TTup TInt) v_row), some (.sh (TDT kt2 TInt) s_123), none, none, none, none, none, none, none, none, some (.ow (ODK TInt) s_127)]) PassesOwn.never (xi_itemsT (kt := kt2) (xe_var (i := 3) (hv := (Or.inl (by kernel_rfl))))) (xg_t2 (xg_t2 (xg_name (i := 6) sc_near_by.nd (hx := (Or.inl (by kernel_rfl))) (hf := (.inl (by kernel_rfl)))) (xg_name (i := 7) sc_near_by.nd (hx := (Or.inl (by kernel_rfl))) (hf := (.inl (by kernel_rfl))))) (xg_name (i := 8) sc_near_by.nd (hx := (Or.inl (by kernel_rfl))) (hf := (.inl (by kernel_rfl))))) (.eq (.eq (.eq (.eq (.no (.no (.no (.no (.no (.no (.no (.no (.eq .nil))))))))))))) (fun s_127 i_125 => (xb_ifL (xt_cmp op_eq rb_eqI (xo_ixT (xo_at (x_words pv lg hr (by decide) (xe_var (i := 0) (hv := (Or.inl (by kernel_rfl)))))) (xe_var (i := 6) (hv := (Or.inl (by kernel_rfl)))) (fun _ _ => by kernel_rfl)) (xe_var (i := 1) (hv := (Or.inl (by kernel_rfl)))) (by kernel_rfl)) (xb_seq (xs_dput (i := 12) kdK hr.units rfl (xe_op op_add rb_add (xo_dget2 kdK hr.units (xo_own (i := 12) (hv := (Or.inr (Or.inl (by kernel_rfl))))) (xe_var (i := 7) (hv := (Or.inl (by kernel_rfl)))) xe_int) (xe_var (i := 8) (hv := (Or.inl (by kernel_rfl))))) (xe_var (i := 7) (hv := (Or.inl (by kernel_rfl)))) (by kernel_rfl) (Or.inr (Or.inl (by kernel_rfl)))) fun found_128 => (xb_nil (.eq (.eq (.eq (.eq (.no (.no (.no (.no (.no (.no (.no (.no (.eq .nil))))))))))))))) (xb_nil (.eq (.eq (.eq (.eq (.no (.no (.no (.no (.no (.no (.no (.no (.eq .nil)))))))))))))))) fun s_129 => (xb_frzD (i := 12) rfl (fun _ _ _ => mu_dK) (xb_ret (xe_newD (fun _ _ _ => mu_dK) (dc_x (own := [("many", 7)]) sc_near_by.nd (blkOk_by (by kernel_rfl)) (xi_lst (xe_callB (call_sortedDI rfl) rc_sortedD pv.n_sorted (by kernel_rfl) (xa_cons (xe_var (i := 12) (hv := (Or.inr (Or.inl (by kernel_rfl))))) xa_nil))) (fun _ _ _ _ _ => (xg_name (i := 7) sc_near_by.nd (hx := (Or.inl (by kernel_rfl))) (hf := (.inr (by kernel_rfl))))) (by decide) (fun c_130 => fun _ _ _ _ _ => (xe_var (i := 7) (hv := (Or.inl (by kernel_rfl))))) (fun c_130 => fun _ _ _ _ _ => (xo_dget kdK hr.units (xo_lk (xe_var (i := 12) (hv := (Or.inr (Or.inl (by kernel_rfl)))))) (xe_var (i := 7) (hv := (Or.inl (by kernel_rfl)))) (fun _ _ => by kernel_rfl)))))))))))
theorem c_near_by (pv : PV K mg base C CNoCode CWE T) (lg : LG T G) : C8.Cal P w K mg base 3 "near_by" (spF G (aCons (TW C) (aCons TInt (aCons (TTup TInt) aNil))) (TDK TInt) fun a => m_near_by (a.1) (a.2.1) (a.2.2.1)) [] := by
  obtain ⟨f, fd, D, hd⟩ := pv.d_near_by
  exact def_of D (D.fn.binds hd fun _ _ _ _ _ _ us hl => match us, hl with | [_, _, _], _ => rfl) .nil sc_near_by rfl (Empty.elim : Empty → (List (Int × Int))) (fun _ z => z.elim) fun a cdv A outer s H E hr => b_near_by pv lg hr

def mb_need_noise (v_watch : Wt) (v_share : (Int × Int)) : Option (Fl Unit Empty Unit) :=
  (bnd (bnd (bnd (bnd (ret v_share) fun _ => ret true) fun i => ret (!i)) fun k => if k then ret true else (bnd (bnd (bnd (ret v_share) fun x => ret (((fun _ => 2) x : Nat) : Int)) fun x => bnd (ret (2 : Int)) fun y => ret (!decide (x = y))) fun k => if k then ret true else (bnd (bnd (bnd (bnd (ret v_share) fun x => bnd (ret (1 : Int)) fun i => opt (if i = 1 ∨ i = -1 then some x.2 else none)) fun x => bnd (bnd (ret (1 : Int)) fun x => bnd (bnd (ret (1000 : Int)) fun x => bnd (ret ()) fun r => ret (x, r)) fun r => ret (x, r)) fun r => ret (x, r)) fun a => opt (m_is_between (a.1) (a.2.1) (a.2.2.1))) fun i => ret (!i)))) fun k => if k then opt none else (bnd (bnd (bnd (bnd (bnd (ret v_share) fun x => bnd (ret (0 : Int)) fun i => opt (if i = 0 ∨ i = -2 then some x.1 else none)) fun x => bnd (bnd (ret (0 : Int)) fun x => bnd (bnd (bnd (bnd (bnd (ret v_watch) fun x => opt (wKinds x)) fun x => bnd (ret (1 : Int)) fun y => ret (decide (y < x))) fun k => if k then (bnd (ret v_share) fun x => bnd (ret (1 : Int)) fun i => opt (if i = 1 ∨ i = -1 then some x.2 else none)) else (ret (0 : Int))) fun x => bnd (ret ()) fun r => ret (x, r)) fun r => ret (x, r)) fun r => ret (x, r)) fun a => opt (m_is_between (a.1) (a.2.1) (a.2.2.1))) fun i => ret (!i)) fun k => if k then opt none else (ret (.nx ()))))
def m_need_noise (v_watch : Wt) (v_share : (Int × Int)) : Option Unit := retF (fun _ : Unit => ()) (mb_need_noise v_watch v_share)
theorem sc_need_noise : FnScope ["watch", "share"] ["watch", "share"] (C8.fnScope s_need_noise) := C8.fnScope_by (by decide +kernel)
theorem b_need_noise (pv : PV K mg base C CNoCode CWE T) (lg : LG T G) {v_watch : Wt} {v_share : (Int × Int)} {f : Addr} {cdv : Value} {A : Around} {outer : List Env} {s : Shared} {H : Hp} {E : XK} (hr : Room 2 (A.deeper (envOfC "need_noise" (C8.fnScope s_need_noise) s.heap.objs.size f cdv))) :
    XB G (cxOf C8.CX0 P w K mg base ["watch", "share"] "need_noise" (C8.fnScope s_need_noise) f cdv A outer s H E).nox (C8.fnBody s_need_noise) [some (.sh (TW C) v_watch), some (.sh (T2 TInt TInt) v_share)] (fun _ : Unit => [none, none]) (Empty.elim : Empty → Ga) TNon (mb_need_noise v_watch v_share) := by
  unfold mb_need_noise
  exact (xb_ifN (xt_w (xw_or (xt_not (xt_val (xe_isi (T := "tuple") (t := "tuple") (k := true) pv.n_isinstance pv.n_tuple (by kernel_rfl) ty_t2 (by kernel_rfl) (xe_var (i := 1) (hv := (Or.inl (by kernel_rfl))))))) (xw_or (xt_cmp op_ne rb_neI (xe_lenT2 pv.n_len (xe_var (i := 1) (hv := (Or.inl (by kernel_rfl))))) xe_int (by kernel_rfl)) (xw_or1 (xt_not (xt_val (xe_callP (k := 2) (c_is_between pv lg) hr (by decide) (xa_cons (xe_ix ix_tup rb_ix21 (xe_var (i := 1) (hv := (Or.inl (by kernel_rfl)))) xe_int (fun _ _ => by kernel_rfl)) (xa_cons xe_int (xa_cons (xe_globI rfl pv.g_MOST_BOTTOM) xa_nil)))))))))) (xb_ifN (xt_not (xt_val (xe_callP (k := 2) (c_is_between pv lg) hr (by decide) (xa_cons (xe_ix ix_tup rb_ix20 (xe_var (i := 1) (hv := (Or.inl (by kernel_rfl)))) xe_int (fun _ _ => by kernel_rfl)) (xa_cons xe_int (xa_cons (xe_if (xt_cmp op_gt rb_gt (x_kinds pv lg hr (by decide) (xe_var (i := 0) (hv := (Or.inl (by kernel_rfl))))) xe_int (by kernel_rfl)) (xe_ix ix_tup rb_ix21 (xe_var (i := 1) (hv := (Or.inl (by kernel_rfl)))) xe_int (fun _ _ => by kernel_rfl)) xe_int) xa_nil)))))) (xb_nil (.no (.no .nil)))))
theorem c_need_noise (pv : PV K mg base C CNoCode CWE T) (lg : LG T G) : C8.Cal P w K mg base 3 "need_noise" (spF G (aCons (TW C) (aCons (T2 TInt TInt) aNil)) TNon fun a => m_need_noise (a.1) (a.2.1)) [] := by
  obtain ⟨f, fd, D, hd⟩ := pv.d_need_noise
  exact def_of D (D.fn.binds hd fun _ _ _ _ _ _ us hl => match us, hl with | [_, _], _ => rfl) .nil sc_need_noise rfl (fun _ : Unit => ()) (fun _ z => rfl) fun a cdv A outer s H E hr => b_need_noise pv lg hr

def mb_divisor_of (v_one : Int) (v_other : Int) : Option (Fl Empty Empty Int) :=
  (bndF (whileF (fun (s_132 : Int × Int) => (bnd (ret s_132.2) fun x => bnd (ret (0 : Int)) fun y => ret (!decide (x = y)))) (fun (s_132 : Int × Int) => (bnd (bnd (ret s_132.2) fun u0 => bnd (bnd (ret s_132.1) fun x => bnd (ret s_132.2) fun y => opt (modC x y)) fun u1 => ret (u0, u1)) fun p_133 => (ret (.nx (p_133.1, p_133.2))))) 20000 (v_one, v_other)) fun s_134 => (bnd (ret s_134.1) fun r => ret (.rt r)))
def m_divisor_of (v_one : Int) (v_other : Int) : Option Int := retF (Empty.elim : Empty → Int) (mb_divisor_of v_one v_other)
theorem sc_divisor_of : FnScope ["one", "other"] ["one", "other"] (C8.fnScope s_divisor_of) := C8.fnScope_by (by decide +kernel)
theorem b_divisor_of (pv : PV K mg base C CNoCode CWE T) (lg : LG T G) {v_one : Int} {v_other : Int} {f : Addr} {cdv : Value} {A : Around} {outer : List Env} {s : Shared} {H : Hp} {E : XK} (hr : Room 0 (A.deeper (envOfC "divisor_of" (C8.fnScope s_divisor_of) s.heap.objs.size f cdv))) :
    XB G (cxOf C8.CX0 P w K mg base ["one", "other"] "divisor_of" (C8.fnScope s_divisor_of) f cdv A outer s H E).nox (C8.fnBody s_divisor_of) [some (.sh TInt v_one), some (.sh TInt v_other)] (Empty.elim : Empty → Ga) (Empty.elim : Empty → Ga) TInt (mb_divisor_of v_one v_other) := by
  unfold mb_divisor_of
  exact (xb_while (g1 := fun (s_132 : Int × Int) => [some (.sh TInt s_132.1), some (.sh TInt s_132.2)]) 20000 PassesOwn.never (fun s_132 => (xt_cmp op_ne rb_neI (xe_var (i := 1) (hv := (Or.inl (by kernel_rfl)))) xe_int (by kernel_rfl))) (.eq (.eq .nil)) (fun s_132 => (xb_seq (xs_par (i := 0) (j := 1) (fun h => ps_par rfl sc_divisor_of.nd (by kernel_rfl) (by kernel_rfl) (by decide) (by kernel_rfl) (by kernel_rfl) h (by kernel_rfl) (by kernel_rfl)) (xe_var (i := 1) (hv := (Or.inl (by kernel_rfl)))) (xe_op op_mod rb_mod (xe_var (i := 0) (hv := (Or.inl (by kernel_rfl)))) (xe_var (i := 1) (hv := (Or.inl (by kernel_rfl)))))) fun p_133 => (xb_nil (.eq (.eq .nil))))) fun s_134 => (xb_ret (xe_var (i := 0) (hv := (Or.inl (by kernel_rfl))))))
theorem c_divisor_of (pv : PV K mg base C CNoCode CWE T) (lg : LG T G) : C8.Cal P w K mg base 1 "divisor_of" (spF G (aCons TInt (aCons TInt aNil)) TInt fun a => m_divisor_of (a.1) (a.2.1)) [] := by
  obtain ⟨f, fd, D, hd⟩ := pv.d_divisor_of
  exact def_of D (D.fn.binds hd fun _ _ _ _ _ _ us hl => match us, hl with | [_, _], _ => rfl) .nil sc_divisor_of rfl (Empty.elim : Empty → Int) (fun _ z => z.elim) fun a cdv A outer s H E hr => b_divisor_of pv lg hr

def mb_lowest_of (v_top : Int) (v_bottom : Int) : Option (Fl Empty Empty (Int × Int)) :=
  (bnd (bnd (bnd (ret v_top) fun x => bnd (bnd (ret v_bottom) fun x => bnd (ret ()) fun r => ret (x, r)) fun r => ret (x, r)) fun a => opt (m_divisor_of (a.1) (a.2.1))) fun common_135 => (bnd (bnd (bnd (ret v_top) fun x => bnd (ret common_135) fun y => opt (divW x y)) fun x => bnd (bnd (ret v_bottom) fun x => bnd (ret common_135) fun y => opt (divW x y)) fun y => ret (x, y)) fun r => ret (.rt r)))
def m_lowest_of (v_top : Int) (v_bottom : Int) : Option (Int × Int) := retF (Empty.elim : Empty → (Int × Int)) (mb_lowest_of v_top v_bottom)
theorem sc_lowest_of : FnScope ["top", "bottom", "common"] ["top", "bottom"] (C8.fnScope s_lowest_of) := C8.fnScope_by (by decide +kernel)
theorem b_lowest_of (pv : PV K mg base C CNoCode CWE T) (lg : LG T G) {v_top : Int} {v_bottom : Int} {f : Addr} {cdv : Value} {A : Around} {outer : List Env} {s : Shared} {H : Hp} {E : XK} (hr : Room 1 (A.deeper (envOfC "lowest_of" (C8.fnScope s_lowest_of) s.heap.objs.size f cdv))) :
    XB G (cxOf C8.CX0 P w K mg base ["top", "bottom", "common"] "lowest_of" (C8.fnScope s_lowest_of) f cdv A outer s H E).nox (C8.fnBody s_lowest_of) [some (.sh TInt v_top), some (.sh TInt v_bottom), none] (Empty.elim : Empty → Ga) (Empty.elim : Empty → Ga) (T2 TInt TInt) (mb_lowest_of v_top v_bottom) := by
  unfold mb_lowest_of
  exact (xb_seq (xs_set (i := 2) (xe_callP (k := 1) (c_divisor_of pv lg) hr (by decide) (xa_cons (xe_var (i := 0) (hv := (Or.inl (by kernel_rfl)))) (xa_cons (xe_var (i := 1) (hv := (Or.inl (by kernel_rfl)))) xa_nil))) sc_lowest_of.nd (hx := (Or.inl (by kernel_rfl))) (hf := (.inl (by kernel_rfl)))) fun common_135 => (xb_ret (xe_t2 (xe_op op_fdivW rb_divW (xe_var (i := 0) (hv := (Or.inl (by kernel_rfl)))) (xe_var (i := 2) (hv := (Or.inl (by kernel_rfl))))) (xe_op op_fdivW rb_divW (xe_var (i := 1) (hv := (Or.inl (by kernel_rfl)))) (xe_var (i := 2) (hv := (Or.inl (by kernel_rfl))))))))
theorem c_lowest_of (pv : PV K mg base C CNoCode CWE T) (lg : LG T G) : C8.Cal P w K mg base 2 "lowest_of" (spF G (aCons TInt (aCons TInt aNil)) (T2 TInt TInt) fun a => m_lowest_of (a.1) (a.2.1)) [] := by
  obtain ⟨f, fd, D, hd⟩ := pv.d_lowest_of
  exact def_of D (D.fn.binds hd fun _ _ _ _ _ _ us hl => match us, hl with | [_, _], _ => rfl) .nil sc_lowest_of rfl (Empty.elim : Empty → (Int × Int)) (fun _ z => z.elim) fun a cdv A outer s H E hr => b_lowest_of pv lg hr

def mb_raised (v_base : Int) (v_times : Int) : Option (Fl Empty Empty Int) :=
  (bnd (ret (1 : Int)) fun found_136 => (bnd (bnd (ret v_times) fun j => opt (rngI 0 j)) fun xs => bndF (forF (fun (s_139 : Int) (i_137 : Int) => (bnd (bnd (ret s_139) fun x => bnd (ret v_base) fun y => opt (mulW x y)) fun found_140 => (ret (.nx found_140)))) xs found_136) fun s_141 => (bnd (ret s_141) fun r => ret (.rt r))))
def m_raised (v_base : Int) (v_times : Int) : Option Int := retF (Empty.elim : Empty → Int) (mb_raised v_base v_times)
theorem sc_raised : FnScope ["base", "times", "found", "lap"] ["base", "times"] (C8.fnScope s_raised) := C8.fnScope_by (by decide +kernel)
theorem b_raised (pv : PV K mg base C CNoCode CWE T) (lg : LG T G) {v_base : Int} {v_times : Int} {f : Addr} {cdv : Value} {A : Around} {outer : List Env} {s : Shared} {H : Hp} {E : XK} (hr : Room 0 (A.deeper (envOfC "raised" (C8.fnScope s_raised) s.heap.objs.size f cdv))) :
    XB G (cxOf C8.CX0 P w K mg base ["base", "times", "found", "lap"] "raised" (C8.fnScope s_raised) f cdv A outer s H E).nox (C8.fnBody s_raised) [some (.sh TInt v_base), some (.sh TInt v_times), none, none] (Empty.elim : Empty → Ga) (Empty.elim : Empty → Ga) TInt (mb_raised v_base v_times) := by
  unfold mb_raised
  exact (xb_seq (xs_set (i := 2) xe_int sc_raised.nd (hx := (Or.inl (by kernel_rfl))) (hf := (.inl (by kernel_rfl)))) fun found_136 => (xb_for (τ := TInt) (g1 := fun (s_139 : Int) => [some (.sh TInt v_base), some (.sh TInt v_times), some (.sh TInt s_139), none]) PassesOwn.never (xi_rng1 pv.n_range (xe_var (i := 1) (hv := (Or.inl (by kernel_rfl))))) (xg_name (i := 3) sc_raised.nd (hx := (Or.inl (by kernel_rfl))) (hf := (.inl (by kernel_rfl)))) (.eq (.eq (.eq (.no .nil)))) (fun s_139 i_137 => (xb_seq (xs_set (i := 2) (xe_op op_mulW rb_mulW (xe_var (i := 2) (hv := (Or.inl (by kernel_rfl)))) (xe_var (i := 0) (hv := (Or.inl (by kernel_rfl))))) sc_raised.nd (hx := (Or.inl (by kernel_rfl))) (hf := (.inl (by kernel_rfl)))) fun found_140 => (xb_nil (.eq (.eq (.eq (.no .nil))))))) fun s_141 => (xb_ret (xe_var (i := 2) (hv := (Or.inl (by kernel_rfl)))))))
theorem c_raised (pv : PV K mg base C CNoCode CWE T) (lg : LG T G) : C8.Cal P w K mg base 1 "raised" (spF G (aCons TInt (aCons TInt aNil)) TInt fun a => m_raised (a.1) (a.2.1)) [] := by
  obtain ⟨f, fd, D, hd⟩ := pv.d_raised
  exact def_of D (D.fn.binds hd fun _ _ _ _ _ _ us hl => match us, hl with | [_, _], _ => rfl) .nil sc_raised rfl (Empty.elim : Empty → Int) (fun _ z => z.elim) fun a cdv A outer s H E hr => b_raised pv lg hr

def mb_weight_of (v_watch : Wt) (v_share : (Int × Int)) (v_length : Int) (v_many : Int) : Option (Fl Empty Empty Int) :=
  (bnd (bnd (bnd (ret (1 : Int)) fun x => bnd (bnd (bnd (bnd (ret v_watch) fun x => opt (wKinds x)) fun x => bnd (ret (1 : Int)) fun y => ret (x - y)) fun x => bnd (ret ()) fun r => ret (x, r)) fun r => ret (x, r)) fun x => ret (maxI x.1 x.2.1)) fun others_142 => (bnd (bnd (bnd (bnd (bnd (ret v_share) fun x => bnd (ret (0 : Int)) fun i => opt (if i = 0 ∨ i = -2 then some x.1 else none)) fun x => bnd (bnd (ret v_many) fun x => bnd (ret ()) fun r => ret (x, r)) fun r => ret (x, r)) fun a => opt (m_raised (a.1) (a.2.1))) fun x => bnd (bnd (bnd (bnd (bnd (bnd (ret v_share) fun x => bnd (ret (1 : Int)) fun i => opt (if i = 1 ∨ i = -1 then some x.2 else none)) fun x => bnd (bnd (ret v_share) fun x => bnd (ret (0 : Int)) fun i => opt (if i = 0 ∨ i = -2 then some x.1 else none)) fun y => ret (x - y)) fun x => bnd (ret others_142) fun y => opt (mulW x y)) fun x => bnd (bnd (bnd (ret v_length) fun x => bnd (ret v_many) fun y => ret (x - y)) fun x => bnd (ret ()) fun r => ret (x, r)) fun r => ret (x, r)) fun a => opt (m_raised (a.1) (a.2.1))) fun y => opt (mulW x y)) fun r => ret (.rt r)))
def m_weight_of (v_watch : Wt) (v_share : (Int × Int)) (v_length : Int) (v_many : Int) : Option Int := retF (Empty.elim : Empty → Int) (mb_weight_of v_watch v_share v_length v_many)
theorem sc_weight_of : FnScope ["watch", "share", "length", "many", "others"] ["watch", "share", "length", "many"] (C8.fnScope s_weight_of) := C8.fnScope_by (by decide +kernel)
theorem b_weight_of (pv : PV K mg base C CNoCode CWE T) (lg : LG T G) {v_watch : Wt} {v_share : (Int × Int)} {v_length : Int} {v_many : Int} {f : Addr} {cdv : Value} {A : Around} {outer : List Env} {s : Shared} {H : Hp} {E : XK} (hr : Room 2 (A.deeper (envOfC "weight_of" (C8.fnScope s_weight_of) s.heap.objs.size f cdv))) :
    XB G (cxOf C8.CX0 P w K mg base ["watch", "share", "length", "many", "others"] "weight_of" (C8.fnScope s_weight_of) f cdv A outer s H E).nox (C8.fnBody s_weight_of) [some (.sh (TW C) v_watch), some (.sh (T2 TInt TInt) v_share), some (.sh TInt v_length), some (.sh TInt v_many), none] (Empty.elim : Empty → Ga) (Empty.elim : Empty → Ga) TInt (mb_weight_of v_watch v_share v_length v_many) := by
  unfold mb_weight_of
  exact (xb_seq (xs_set (i := 4) (xe_callB (call_max2 rfl) rc_max2 pv.n_max (by kernel_rfl) (xa_cons xe_int (xa_cons (xe_op op_sub rb_sub (x_kinds pv lg hr (by decide) (xe_var (i := 0) (hv := (Or.inl (by kernel_rfl))))) xe_int) xa_nil))) sc_weight_of.nd (hx := (Or.inl (by kernel_rfl))) (hf := (.inl (by kernel_rfl)))) fun others_142 => (xb_ret (xe_op op_mulW rb_mulW (xe_callP (k := 1) (c_raised pv lg) hr (by decide) (xa_cons (xe_ix ix_tup rb_ix20 (xe_var (i := 1) (hv := (Or.inl (by kernel_rfl)))) xe_int (fun _ _ => by kernel_rfl)) (xa_cons (xe_var (i := 3) (hv := (Or.inl (by kernel_rfl)))) xa_nil))) (xe_callP (k := 1) (c_raised pv lg) hr (by decide) (xa_cons (xe_op op_mulW rb_mulW (xe_op op_sub rb_sub (xe_ix ix_tup rb_ix21 (xe_var (i := 1) (hv := (Or.inl (by kernel_rfl)))) xe_int (fun _ _ => by kernel_rfl)) (xe_ix ix_tup rb_ix20 (xe_var (i := 1) (hv := (Or.inl (by kernel_rfl)))) xe_int (fun _ _ => by kernel_rfl))) (xe_var (i := 4) (hv := (Or.inl (by kernel_rfl))))) (xa_cons (xe_op op_sub rb_sub (xe_var (i := 2) (hv := (Or.inl (by kernel_rfl)))) (xe_var (i := 3) (hv := (Or.inl (by kernel_rfl))))) xa_nil))))))
theorem c_weight_of (pv : PV K mg base C CNoCode CWE T) (lg : LG T G) : C8.Cal P w K mg base 3 "weight_of" (spF G (aCons (TW C) (aCons (T2 TInt TInt) (aCons TInt (aCons TInt aNil)))) TInt fun a => m_weight_of (a.1) (a.2.1) (a.2.2.1) (a.2.2.2.1)) [] := by
  obtain ⟨f, fd, D, hd⟩ := pv.d_weight_of
  exact def_of D (D.fn.binds hd fun _ _ _ _ _ _ us hl => match us, hl with | [_, _, _, _], _ => rfl) .nil sc_weight_of rfl (Empty.elim : Empty → Int) (fun _ z => z.elim) fun a cdv A outer s H E hr => b_weight_of pv lg hr

def mb_all_of (v_watch : Wt) (v_share : (Int × Int)) (v_length : Int) : Option (Fl Empty Empty Int) :=
  (bnd (bnd (bnd (bnd (bnd (ret v_share) fun x => bnd (ret (1 : Int)) fun i => opt (if i = 1 ∨ i = -1 then some x.2 else none)) fun x => bnd (bnd (bnd (ret (1 : Int)) fun x => bnd (bnd (bnd (bnd (ret v_watch) fun x => opt (wKinds x)) fun x => bnd (ret (1 : Int)) fun y => ret (x - y)) fun x => bnd (ret ()) fun r => ret (x, r)) fun r => ret (x, r)) fun x => ret (maxI x.1 x.2.1)) fun y => opt (mulW x y)) fun x => bnd (bnd (ret v_length) fun x => bnd (ret ()) fun r => ret (x, r)) fun r => ret (x, r)) fun a => opt (m_raised (a.1) (a.2.1))) fun r => ret (.rt r))
def m_all_of (v_watch : Wt) (v_share : (Int × Int)) (v_length : Int) : Option Int := retF (Empty.elim : Empty → Int) (mb_all_of v_watch v_share v_length)
theorem sc_all_of : FnScope ["watch", "share", "length"] ["watch", "share", "length"] (C8.fnScope s_all_of) := C8.fnScope_by (by decide +kernel)
theorem b_all_of (pv : PV K mg base C CNoCode CWE T) (lg : LG T G) {v_watch : Wt} {v_share : (Int × Int)} {v_length : Int} {f : Addr} {cdv : Value} {A : Around} {outer : List Env} {s : Shared} {H : Hp} {E : XK} (hr : Room 2 (A.deeper (envOfC "all_of" (C8.fnScope s_all_of) s.heap.objs.size f cdv))) :
    XB G (cxOf C8.CX0 P w K mg base ["watch", "share", "length"] "all_of" (C8.fnScope s_all_of) f cdv A outer s H E).nox (C8.fnBody s_all_of) [some (.sh (TW C) v_watch), some (.sh (T2 TInt TInt) v_share), some (.sh TInt v_length)] (Empty.elim : Empty → Ga) (Empty.elim : Empty → Ga) TInt (mb_all_of v_watch v_share v_length) := by
  unfold mb_all_of
  exact (xb_ret (xe_callP (k := 1) (c_raised pv lg) hr (by decide) (xa_cons (xe_op op_mulW rb_mulW (xe_ix ix_tup rb_ix21 (xe_var (i := 1) (hv := (Or.inl (by kernel_rfl)))) xe_int (fun _ _ => by kernel_rfl)) (xe_callB (call_max2 rfl) rc_max2 pv.n_max (by kernel_rfl) (xa_cons xe_int (xa_cons (xe_op op_sub rb_sub (x_kinds pv lg hr (by decide) (xe_var (i := 0) (hv := (Or.inl (by kernel_rfl))))) xe_int) xa_nil)))) (xa_cons (xe_var (i := 2) (hv := (Or.inl (by kernel_rfl)))) xa_nil))))
theorem c_all_of (pv : PV K mg base C CNoCode CWE T) (lg : LG T G) : C8.Cal P w K mg base 3 "all_of" (spF G (aCons (TW C) (aCons (T2 TInt TInt) (aCons TInt aNil))) TInt fun a => m_all_of (a.1) (a.2.1) (a.2.2.1)) [] := by
  obtain ⟨f, fd, D, hd⟩ := pv.d_all_of
  exact def_of D (D.fn.binds hd fun _ _ _ _ _ _ us hl => match us, hl with | [_, _, _], _ => rfl) .nil sc_all_of rfl (Empty.elim : Empty → Int) (fun _ z => z.elim) fun a cdv A outer s H E hr => b_all_of pv lg hr

def mb_need_heard (v_watch : Wt) (v_verdict : Int) (v_row : (List Int)) (v_share : (Int × Int)) : Option (Fl Unit Empty Unit) :=
  (bnd (bnd (bnd (ret v_watch) fun x => bnd (bnd (ret v_verdict) fun x => bnd (bnd (ret v_row) fun x => bnd (ret ()) fun r => ret (x, r)) fun r => ret (x, r)) fun r => ret (x, r)) fun a => opt (m_need_near (a.1) (a.2.1) (a.2.2.1))) fun _ => (bnd (bnd (bnd (ret v_row) fun x => ret ((x.length : Nat) : Int)) fun x => bnd (ret (60 : Int)) fun y => ret (decide (y < x))) fun k => if k then opt none else (bnd (bnd (bnd (ret v_watch) fun x => bnd (bnd (ret v_share) fun x => bnd (ret ()) fun r => ret (x, r)) fun r => ret (x, r)) fun a => opt (m_need_noise (a.1) (a.2.1))) fun _ => (ret (.nx ())))))
def m_need_heard (v_watch : Wt) (v_verdict : Int) (v_row : (List Int)) (v_share : (Int × Int)) : Option Unit := retF (fun _ : Unit => ()) (mb_need_heard v_watch v_verdict v_row v_share)
theorem sc_need_heard : FnScope ["watch", "verdict", "row", "share"] ["watch", "verdict", "row", "share"] (C8.fnScope s_need_heard) := C8.fnScope_by (by decide +kernel)
theorem b_need_heard (pv : PV K mg base C CNoCode CWE T) (lg : LG T G) {v_watch : Wt} {v_verdict : Int} {v_row : (List Int)} {v_share : (Int × Int)} {f : Addr} {cdv : Value} {A : Around} {outer : List Env} {s : Shared} {H : Hp} {E : XK} (hr : Room 7 (A.deeper (envOfC "need_heard" (C8.fnScope s_need_heard) s.heap.objs.size f cdv))) :
    XB G (cxOf C8.CX0 P w K mg base ["watch", "verdict", "row", "share"] "need_heard" (C8.fnScope s_need_heard) f cdv A outer s H E).nox (C8.fnBody s_need_heard) [some (.sh (TW C) v_watch), some (.sh TInt v_verdict), some (.sh (TTup TInt) v_row), some (.sh (T2 TInt TInt) v_share)] (fun _ : Unit => [none, none, none, none]) (Empty.elim : Empty → Ga) TNon (mb_need_heard v_watch v_verdict v_row v_share) := by
  unfold mb_need_heard
  exact (xb_seq (xs_expr (xe_callP (k := 7) (c_need_near pv lg) hr (by decide) (xa_cons (xe_var (i := 0) (hv := (Or.inl (by kernel_rfl)))) (xa_cons (xe_var (i := 1) (hv := (Or.inl (by kernel_rfl)))) (xa_cons (xe_var (i := 2) (hv := (Or.inl (by kernel_rfl)))) xa_nil))))) fun _ => (xb_ifN (xt_cmp op_gt rb_gt (xo_lenT pv.n_len (xo_at (xe_var (i := 2) (hv := (Or.inl (by kernel_rfl)))))) (xe_globI rfl pv.g_MOST_HEARD) (by kernel_rfl)) (xb_seq (xs_expr (xe_callP (k := 3) (c_need_noise pv lg) hr (by decide) (xa_cons (xe_var (i := 0) (hv := (Or.inl (by kernel_rfl)))) (xa_cons (xe_var (i := 3) (hv := (Or.inl (by kernel_rfl)))) xa_nil)))) fun _ => (xb_nil (.no (.no (.no (.no .nil))))))))
theorem c_need_heard (pv : PV K mg base C CNoCode CWE T) (lg : LG T G) : C8.Cal P w K mg base 8 "need_heard" (spF G (aCons (TW C) (aCons TInt (aCons (TTup TInt) (aCons (T2 TInt TInt) aNil)))) TNon fun a => m_need_heard (a.1) (a.2.1) (a.2.2.1) (a.2.2.2.1)) [] := by
  obtain ⟨f, fd, D, hd⟩ := pv.d_need_heard
  exact def_of D (D.fn.binds hd fun _ _ _ _ _ _ us hl => match us, hl with | [_, _, _, _], _ => rfl) .nil sc_need_heard rfl (fun _ : Unit => ()) (fun _ z => rfl) fun a cdv A outer s H E hr => b_need_heard pv lg hr

def mb_heard_share (v_watch : Wt) (v_verdict : Int) (v_row : (List Int)) (v_share : (Int × Int)) : Option (Fl Empty Empty (Int × Int)) :=
  (bnd (bnd (bnd (ret v_watch) fun x => bnd (bnd (ret v_verdict) fun x => bnd (bnd (ret v_row) fun x => bnd (bnd (ret v_share) fun x => bnd (ret ()) fun r => ret (x, r)) fun r => ret (x, r)) fun r => ret (x, r)) fun r => ret (x, r)) fun a => opt (m_need_heard (a.1) (a.2.1) (a.2.2.1) (a.2.2.2.1))) fun _ => (bnd (bnd (bnd (bnd (ret v_watch) fun x => bnd (bnd (bnd (ret v_row) fun x => ret ((x.length : Nat) : Int)) fun x => bnd (ret ()) fun r => ret (x, r)) fun r => ret (x, r)) fun a => opt (m_word_counts (a.1) (a.2.1))) fun xs => bnd (ret v_verdict) fun i => opt (atI xs i)) fun many_143 => (bnd (bnd (ret many_143) fun x => bnd (ret (0 : Int)) fun y => ret (decide (x = y))) fun k => if k then opt none else (bnd (ret (0 : Int)) fun found_144 => (bnd (bnd (bnd (ret v_watch) fun x => bnd (bnd (ret v_verdict) fun x => bnd (bnd (ret v_row) fun x => bnd (ret ()) fun r => ret (x, r)) fun r => ret (x, r)) fun r => ret (x, r)) fun a => opt (m_near_by (a.1) (a.2.1) (a.2.2.1))) fun xs => bndF (forF (fun (s_147 : Int) (i_145 : (Int × Int)) => (bnd (bnd (bnd (ret i_145.2) fun x => bnd (bnd (bnd (ret v_watch) fun x => bnd (bnd (ret v_share) fun x => bnd (bnd (bnd (ret v_row) fun x => ret ((x.length : Nat) : Int)) fun x => bnd (bnd (ret i_145.1) fun x => bnd (ret ()) fun r => ret (x, r)) fun r => ret (x, r)) fun r => ret (x, r)) fun r => ret (x, r)) fun a => opt (m_weight_of (a.1) (a.2.1) (a.2.2.1) (a.2.2.2.1))) fun y => opt (mulW x y)) fun y => ret (s_147 + y)) fun found_148 => (ret (.nx found_148)))) xs found_144) fun s_149 => (bnd (bnd (bnd (ret s_149) fun x => bnd (bnd (bnd (ret many_143) fun x => bnd (bnd (bnd (ret v_watch) fun x => bnd (bnd (ret v_share) fun x => bnd (bnd (bnd (ret v_row) fun x => ret ((x.length : Nat) : Int)) fun x => bnd (ret ()) fun r => ret (x, r)) fun r => ret (x, r)) fun r => ret (x, r)) fun a => opt (m_all_of (a.1) (a.2.1) (a.2.2.1))) fun y => opt (mulW x y)) fun x => bnd (ret ()) fun r => ret (x, r)) fun r => ret (x, r)) fun a => opt (m_lowest_of (a.1) (a.2.1))) fun r => ret (.rt r)))))))
def m_heard_share (v_watch : Wt) (v_verdict : Int) (v_row : (List Int)) (v_share : (Int × Int)) : Option (Int × Int) := retF (Empty.elim : Empty → (Int × Int)) (mb_heard_share v_watch v_verdict v_row v_share)
theorem sc_heard_share : FnScope ["watch", "verdict", "row", "share", "many", "found", "number", "ways"] ["watch", "verdict", "row", "share"] (C8.fnScope s_heard_share) := C8.fnScope_by (by decide +kernel)
theorem b_heard_share (pv : PV K mg base C CNoCode CWE T) (lg : LG T G) {v_watch : Wt} {v_verdict : Int} {v_row : (List Int)} {v_share : (Int × Int)} {f : Addr} {cdv : Value} {A : Around} {outer : List Env} {s : Shared} {H : Hp} {E : XK} (hr : Room 8 (A.deeper (envOfC "heard_share" (C8.fnScope s_heard_share) s.heap.objs.size f cdv))) :
    XB G (cxOf C8.CX0 P w K mg base ["watch", "verdict", "row", "share", "many", "found", "number", "ways"] "heard_share" (C8.fnScope s_heard_share) f cdv A outer s H E).nox (C8.fnBody s_heard_share) [some (.sh (TW C) v_watch), some (.sh TInt v_verdict), some (.sh (TTup TInt) v_row), some (.sh (T2 TInt TInt) v_share), none, none, none, none] (Empty.elim : Empty → Ga) (Empty.elim : Empty → Ga) (T2 TInt TInt) (mb_heard_share v_watch v_verdict v_row v_share) := by
  unfold mb_heard_share
  exact (xb_seq (xs_expr (xe_callP (k := 8) (c_need_heard pv lg) hr (by decide) (xa_cons (xe_var (i := 0) (hv := (Or.inl (by kernel_rfl)))) (xa_cons (xe_var (i := 1) (hv := (Or.inl (by kernel_rfl)))) (xa_cons (xe_var (i := 2) (hv := (Or.inl (by kernel_rfl)))) (xa_cons (xe_var (i := 3) (hv := (Or.inl (by kernel_rfl)))) xa_nil)))))) fun _ => (xb_seq (xs_set (i := 4) (xo_ixT (xo_at (xe_callP (k := 3) (c_word_counts pv lg) hr (by decide) (xa_cons (xe_var (i := 0) (hv := (Or.inl (by kernel_rfl)))) (xa_cons (xo_lenT pv.n_len (xo_at (xe_var (i := 2) (hv := (Or.inl (by kernel_rfl)))))) xa_nil)))) (xe_var (i := 1) (hv := (Or.inl (by kernel_rfl)))) (fun _ _ => by kernel_rfl)) sc_heard_share.nd (hx := (Or.inl (by kernel_rfl))) (hf := (.inl (by kernel_rfl)))) fun many_143 => (xb_ifN (xt_cmp op_eq rb_eqI (xe_var (i := 4) (hv := (Or.inl (by kernel_rfl)))) xe_int (by kernel_rfl)) (xb_seq (xs_set (i := 5) xe_int sc_heard_share.nd (hx := (Or.inl (by kernel_rfl))) (hf := (.inl (by kernel_rfl)))) fun found_144 => (xb_for (τ := (T2 TInt TInt)) (g1 := fun (s_147 : Int) => [some (.sh (TW C) v_watch), some (.sh TInt v_verdict), some (.sh (TTup TInt) v_row), some (.sh (T2 TInt TInt) v_share), some (.sh TInt many_143), some (.sh TInt s_147), none, none]) PassesOwn.never (xi_itemsK (xe_callP (k := 3) (c_near_by pv lg) hr (by decide) (xa_cons (xe_var (i := 0) (hv := (Or.inl (by kernel_rfl)))) (xa_cons (xe_var (i := 1) (hv := (Or.inl (by kernel_rfl)))) (xa_cons (xe_var (i := 2) (hv := (Or.inl (by kernel_rfl)))) xa_nil))))) (xg_t2 (xg_name (i := 6) sc_heard_share.nd (hx := (Or.inl (by kernel_rfl))) (hf := (.inl (by kernel_rfl)))) (xg_name (i := 7) sc_heard_share.nd (hx := (Or.inl (by kernel_rfl))) (hf := (.inl (by kernel_rfl))))) (.eq (.eq (.eq (.eq (.eq (.eq (.no (.no .nil)))))))) (fun s_147 i_145 => (xb_seq (xs_aug (i := 5) iop_add rb_add (xe_op op_mulW rb_mulW (xe_var (i := 7) (hv := (Or.inl (by kernel_rfl)))) (xe_callP (k := 3) (c_weight_of pv lg) hr (by decide) (xa_cons (xe_var (i := 0) (hv := (Or.inl (by kernel_rfl)))) (xa_cons (xe_var (i := 3) (hv := (Or.inl (by kernel_rfl)))) (xa_cons (xo_lenT pv.n_len (xo_at (xe_var (i := 2) (hv := (Or.inl (by kernel_rfl)))))) (xa_cons (xe_var (i := 6) (hv := (Or.inl (by kernel_rfl)))) xa_nil)))))) sc_heard_share.nd (hx := (Or.inl (by kernel_rfl))) (hf := (.inl (by kernel_rfl)))) fun found_148 => (xb_nil (.eq (.eq (.eq (.eq (.eq (.eq (.no (.no .nil))))))))))) fun s_149 => (xb_ret (xe_callP (k := 2) (c_lowest_of pv lg) hr (by decide) (xa_cons (xe_var (i := 5) (hv := (Or.inl (by kernel_rfl)))) (xa_cons (xe_op op_mulW rb_mulW (xe_var (i := 4) (hv := (Or.inl (by kernel_rfl)))) (xe_callP (k := 3) (c_all_of pv lg) hr (by decide) (xa_cons (xe_var (i := 0) (hv := (Or.inl (by kernel_rfl)))) (xa_cons (xe_var (i := 3) (hv := (Or.inl (by kernel_rfl)))) (xa_cons (xo_lenT pv.n_len (xo_at (xe_var (i := 2) (hv := (Or.inl (by kernel_rfl)))))) xa_nil))))) xa_nil)))))))))
theorem c_heard_share (pv : PV K mg base C CNoCode CWE T) (lg : LG T G) : C8.Cal P w K mg base 9 "heard_share" (spF G (aCons (TW C) (aCons TInt (aCons (TTup TInt) (aCons (T2 TInt TInt) aNil)))) (T2 TInt TInt) fun a => m_heard_share (a.1) (a.2.1) (a.2.2.1) (a.2.2.2.1)) [] := by
  obtain ⟨f, fd, D, hd⟩ := pv.d_heard_share
  exact def_of D (D.fn.binds hd fun _ _ _ _ _ _ us hl => match us, hl with | [_, _, _, _], _ => rfl) .nil sc_heard_share rfl (Empty.elim : Empty → (Int × Int)) (fun _ z => z.elim) fun a cdv A outer s H E hr => b_heard_share pv lg hr

def mb_sent_shares (v_watch : Wt) (v_verdict : Int) (v_row : (List Int)) (v_share : (Int × Int)) : Option (Fl Empty Empty (List (Int × (Int × Int)))) :=
  (bnd (bnd (bnd (ret v_watch) fun x => bnd (bnd (ret v_verdict) fun x => bnd (bnd (ret v_row) fun x => bnd (bnd (ret v_share) fun x => bnd (ret ()) fun r => ret (x, r)) fun r => ret (x, r)) fun r => ret (x, r)) fun r => ret (x, r)) fun a => opt (m_need_heard (a.1) (a.2.1) (a.2.2.1) (a.2.2.2.1))) fun _ => (bnd (ret []) fun weights_150 => (bnd (bnd (bnd (ret v_watch) fun x => bnd (bnd (ret v_verdict) fun x => bnd (bnd (ret v_row) fun x => bnd (ret ()) fun r => ret (x, r)) fun r => ret (x, r)) fun r => ret (x, r)) fun a => opt (m_near_by (a.1) (a.2.1) (a.2.2.1))) fun xs => bndF (forF (fun (s_154 : (List (Int × Int))) (i_151 : (Int × Int)) => (bnd (bnd (ret i_151.2) fun x => bnd (bnd (bnd (ret v_watch) fun x => bnd (bnd (ret v_share) fun x => bnd (bnd (bnd (ret v_row) fun x => ret ((x.length : Nat) : Int)) fun x => bnd (bnd (ret i_151.1) fun x => bnd (ret ()) fun r => ret (x, r)) fun r => ret (x, r)) fun r => ret (x, r)) fun r => ret (x, r)) fun a => opt (m_weight_of (a.1) (a.2.1) (a.2.2.1) (a.2.2.2.1))) fun y => opt (mulW x y)) fun weight_155 => (bnd (bnd (ret weight_155) fun x => bnd (ret (0 : Int)) fun y => ret (decide (y < x))) fun k => if k then (bnd (bnd (ret weight_155) fun x => bnd (ret i_151.1) fun k => opt (dputC s_154 k x)) fun weights_156 => (ret (.nx weights_156))) else (ret (.nx s_154))))) xs weights_150) fun s_157 => (bnd (bnd (ret s_157) fun xs => ret (xs.map (·.2)).sum) fun whole_158 => (bnd (bnd (ret s_157) fun xs => dcC (fun c_159 => bnd (ret c_159.1) fun k => bnd (bnd (bnd (ret c_159.2) fun x => bnd (bnd (ret whole_158) fun x => bnd (ret ()) fun r => ret (x, r)) fun r => ret (x, r)) fun a => opt (m_lowest_of (a.1) (a.2.1))) fun y => ret (some (k, y))) xs) fun r => ret (.rt r))))))
def m_sent_shares (v_watch : Wt) (v_verdict : Int) (v_row : (List Int)) (v_share : (Int × Int)) : Option (List (Int × (Int × Int))) := retF (Empty.elim : Empty → (List (Int × (Int × Int)))) (mb_sent_shares v_watch v_verdict v_row v_share)
theorem sc_sent_shares : FnScope ["watch", "verdict", "row", "share", "weights", "number", "ways", "weight", "whole"] ["watch", "verdict", "row", "share"] (C8.fnScope s_sent_shares) := C8.fnScope_by (by decide +kernel)
theorem b_sent_shares (pv : PV K mg base C CNoCode CWE T) (lg : LG T G) {v_watch : Wt} {v_verdict : Int} {v_row : (List Int)} {v_share : (Int × Int)} {f : Addr} {cdv : Value} {A : Around} {outer : List Env} {s : Shared} {H : Hp} {E : XK} (hr : Room 8 (A.deeper (envOfC "sent_shares" (C8.fnScope s_sent_shares) s.heap.objs.size f cdv))) :
    XB G (cxOf C8.CX0 P w K mg base ["watch", "verdict", "row", "share", "weights", "number", "ways", "weight", "whole"] "sent_shares" (C8.fnScope s_sent_shares) f cdv A outer s H E).nox (C8.fnBody s_sent_shares) [some (.sh (TW C) v_watch), some (.sh TInt v_verdict), some (.sh (TTup TInt) v_row), some (.sh (T2 TInt TInt) v_share), none, none, none, none, none] (Empty.elim : Empty → Ga) (Empty.elim : Empty → Ga) (TDK (T2 TInt TInt)) (mb_sent_shares v_watch v_verdict v_row v_share) := by
  unfold mb_sent_shares
  exact (xb_seq (xs_expr (xe_callP (k := 8) (c_need_heard pv lg) hr (by decide) (xa_cons (xe_var (i := 0) (hv := (Or.inl (by kernel_rfl)))) (xa_cons (xe_var (i := 1) (hv := (Or.inl (by kernel_rfl)))) (xa_cons (xe_var (i := 2) (hv := (Or.inl (by kernel_rfl)))) (xa_cons (xe_var (i := 3) (hv := (Or.inl (by kernel_rfl)))) xa_nil)))))) fun _ => (xb_seq (xs_new (i := 4) xn_dK sc_sent_shares.nd (hx := (Or.inl (by kernel_rfl))) (hf := (.inl (by kernel_rfl)))) fun weights_150 => (xb_for (τ := (T2 TInt TInt)) (g1 := fun (s_154 : (List (Int × Int))) => [some (.sh (TW C) v_watch), some (.sh TInt v_verdict), some (.sh (TTup TInt) v_row), some (.sh (T2 TInt TInt) v_share), some (.ow (ODK TInt) s_154), none, none, none, none]) PassesOwn.never (xi_itemsK (xe_callP (k := 3) (c_near_by pv lg) hr (by decide) (xa_cons (xe_var (i := 0) (hv := (Or.inl (by kernel_rfl)))) (xa_cons (xe_var (i := 1) (hv := (Or.inl (by kernel_rfl)))) (xa_cons (xe_var (i := 2) (hv := (Or.inl (by kernel_rfl)))) xa_nil))))) (xg_t2 (xg_name (i := 5) sc_sent_shares.nd (hx := (Or.inl (by kernel_rfl))) (hf := (.inl (by kernel_rfl)))) (xg_name (i := 6) sc_sent_shares.nd (hx := (Or.inl (by kernel_rfl))) (hf := (.inl (by kernel_rfl))))) (.eq (.eq (.eq (.eq (.eq (.no (.no (.no (.no .nil))))))))) (fun s_154 i_151 => (xb_seq (xs_set (i := 7) (xe_op op_mulW rb_mulW (xe_var (i := 6) (hv := (Or.inl (by kernel_rfl)))) (xe_callP (k := 3) (c_weight_of pv lg) hr (by decide) (xa_cons (xe_var (i := 0) (hv := (Or.inl (by kernel_rfl)))) (xa_cons (xe_var (i := 3) (hv := (Or.inl (by kernel_rfl)))) (xa_cons (xo_lenT pv.n_len (xo_at (xe_var (i := 2) (hv := (Or.inl (by kernel_rfl)))))) (xa_cons (xe_var (i := 5) (hv := (Or.inl (by kernel_rfl)))) xa_nil)))))) sc_sent_shares.nd (hx := (Or.inl (by kernel_rfl))) (hf := (.inl (by kernel_rfl)))) fun weight_155 => (xb_ifL (xt_cmp op_gt rb_gt (xe_var (i := 7) (hv := (Or.inl (by kernel_rfl)))) xe_int (by kernel_rfl)) (xb_seq (xs_dput (i := 4) kdK hr.units rfl (xe_var (i := 7) (hv := (Or.inl (by kernel_rfl)))) (xe_var (i := 5) (hv := (Or.inl (by kernel_rfl)))) (by kernel_rfl) (Or.inl (by kernel_rfl))) fun weights_156 => (xb_nil (.eq (.eq (.eq (.eq (.eq (.no (.no (.no (.no .nil))))))))))) (xb_nil (.eq (.eq (.eq (.eq (.eq (.no (.no (.no (.no .nil))))))))))))) fun s_157 => (xb_frzD (i := 4) rfl (fun _ _ _ => mu_dK) (xb_seq (xs_set (i := 8) (xe_sumV rfl pv.n_sum (xe_var (i := 4) (hv := (Or.inl (by kernel_rfl))))) sc_sent_shares.nd (hx := (Or.inr (by kernel_rfl))) (hf := (.inl (by kernel_rfl)))) fun whole_158 => (xb_ret (xe_newD (fun _ _ _ => mu_dK) (dc_x (own := [("number", 5), ("weight", 7)]) sc_sent_shares.nd (blkOk_by (by kernel_rfl)) (xi_itemsK (xe_var (i := 4) (hv := (Or.inl (by kernel_rfl))))) (fun _ _ _ _ _ => (xg_t2 (xg_name (i := 5) sc_sent_shares.nd (hx := (Or.inl (by kernel_rfl))) (hf := (.inr (by kernel_rfl)))) (xg_name (i := 7) sc_sent_shares.nd (hx := (Or.inl (by kernel_rfl))) (hf := (.inr (by kernel_rfl)))))) (by decide) (fun c_159 => fun _ _ _ _ _ => (xe_var (i := 5) (hv := (Or.inl (by kernel_rfl))))) (fun c_159 => fun _ _ _ _ _ => (xe_callP (k := 2) (c_lowest_of pv lg) hr (by decide) (xa_cons (xe_var (i := 7) (hv := (Or.inl (by kernel_rfl)))) (xa_cons (xe_var (i := 8) (hv := (Or.inr (Or.inl (by kernel_rfl))))) xa_nil))))))))))))
theorem c_sent_shares (pv : PV K mg base C CNoCode CWE T) (lg : LG T G) : C8.Cal P w K mg base 9 "sent_shares" (spF G (aCons (TW C) (aCons TInt (aCons (TTup TInt) (aCons (T2 TInt TInt) aNil)))) (TDK (T2 TInt TInt)) fun a => m_sent_shares (a.1) (a.2.1) (a.2.2.1) (a.2.2.2.1)) [] := by
  obtain ⟨f, fd, D, hd⟩ := pv.d_sent_shares
  exact def_of D (D.fn.binds hd fun _ _ _ _ _ _ us hl => match us, hl with | [_, _, _, _], _ => rfl) .nil sc_sent_shares rfl (Empty.elim : Empty → (List (Int × (Int × Int)))) (fun _ z => z.elim) fun a cdv A outer s H E hr => b_sent_shares pv lg hr

def mb_rows_of (v_kinds : Int) (v_length : Int) : Option (Fl Empty Empty (List (List Int))) :=
  (bnd (bnd (ret []) fun x => bnd (ret []) fun r => ret (x :: r)) fun found_160 => (bnd (bnd (ret v_length) fun j => opt (rngI 0 j)) fun xs => bndF (forF (fun (s_165 : (List (List Int))) (i_161 : Int) => (bnd (bnd (ret s_165) fun xs => lc2F (fun c_166 => (bnd (ret v_kinds) fun j => opt (rngI 0 j))) (fun c_166 c_167 => (bnd (bnd (ret c_166) fun xs => bnd (bnd (ret c_167) fun x => bnd (ret []) fun r => ret (x :: r)) fun ys => ret (xs ++ ys)) fun xs => opt (lim xs))) xs []) fun found_168 => (bnd (bnd (bnd (ret found_168) fun x => ret ((x.length : Nat) : Int)) fun x => bnd (ret (4096 : Int)) fun y => ret (decide (y < x))) fun k => if k then opt none else (ret (.nx found_168))))) xs found_160) fun s_169 => (bnd (ret s_169) fun r => ret (.rt r))))
def m_rows_of (v_kinds : Int) (v_length : Int) : Option (List (List Int)) := retF (Empty.elim : Empty → (List (List Int))) (mb_rows_of v_kinds v_length)
theorem sc_rows_of : FnScope ["kinds", "length", "found", "tick", "row", "kind"] ["kinds", "length"] (C8.fnScope s_rows_of) := C8.fnScope_by (by decide +kernel)
theorem b_rows_of (pv : PV K mg base C CNoCode CWE T) (lg : LG T G) {v_kinds : Int} {v_length : Int} {f : Addr} {cdv : Value} {A : Around} {outer : List Env} {s : Shared} {H : Hp} {E : XK} (hr : Room 0 (A.deeper (envOfC "rows_of" (C8.fnScope s_rows_of) s.heap.objs.size f cdv))) :
    XB G (cxOf C8.CX0 P w K mg base ["kinds", "length", "found", "tick", "row", "kind"] "rows_of" (C8.fnScope s_rows_of) f cdv A outer s H E).nox (C8.fnBody s_rows_of) [some (.sh TInt v_kinds), some (.sh TInt v_length), none, none, none, none] (Empty.elim : Empty → Ga) (Empty.elim : Empty → Ga) (TLst (TTup TInt)) (mb_rows_of v_kinds v_length) := by
  unfold mb_rows_of
  exact (xb_seq (xs_set (i := 2) (xe_lst (xl_cons (xe_tup xl_nil) xl_nil)) sc_rows_of.nd (hx := (Or.inl (by kernel_rfl))) (hf := (.inl (by kernel_rfl)))) fun found_160 => (xb_for (τ := TInt) (g1 := fun (s_165 : (List (List Int))) => [some (.sh TInt v_kinds), some (.sh TInt v_length), some (.sh (TLst (TTup TInt)) s_165), none, none, none]) PassesOwn.never (xi_rng1 pv.n_range (xe_var (i := 1) (hv := (Or.inl (by kernel_rfl))))) (xg_name (i := 3) sc_rows_of.nd (hx := (Or.inl (by kernel_rfl))) (hf := (.inl (by kernel_rfl)))) (.eq (.eq (.eq (.no (.no (.no .nil)))))) (fun s_165 i_161 => (xb_seq (xs_lc2 (i := 2) (own := [("row", 4), ("kind", 5)]) (vs1 := [5]) sc_rows_of.nd (sw_true (by kernel_rfl) (by kernel_rfl) (by kernel_rfl) (by kernel_rfl)) (blkOk_by (by kernel_rfl)) (xi_lst (xe_var (i := 2) (hv := (Or.inl (by kernel_rfl))))) (by decide) (fun _ => by exact True.intro) (fun _ _ _ _ _ => (xg_name (i := 4) sc_rows_of.nd (hx := (Or.inl (by kernel_rfl))) (hf := (.inr (by kernel_rfl))))) (by decide) (fun c_166 => fun _ _ _ _ _ => (xi_rng1 pv.n_range (xe_var (i := 0) (hv := (Or.inr (Or.inl (by kernel_rfl))))))) (fun _ _ _ _ _ => (xg_name (i := 5) sc_rows_of.nd (hx := (Or.inl (by kernel_rfl))) (hf := (.inr (by kernel_rfl))))) (by decide) (fun c_166 c_167 => fun _ _ _ _ _ => (xe_star (xe_var (i := 4) (hv := (Or.inl (by kernel_rfl)))) (xl_cons (xe_var (i := 5) (hv := (Or.inl (by kernel_rfl)))) xl_nil)))) fun found_168 => (xb_ifN (xt_cmp op_gt rb_gt (xo_lenL pv.n_len (xo_at (xe_var (i := 2) (hv := (Or.inl (by kernel_rfl)))))) (xe_globI rfl pv.g_MOST_ROWS) (by kernel_rfl)) (xb_nil (.eq (.eq (.eq (.no (.no (.no .nil)))))))))) fun s_169 => (xb_ret (xe_var (i := 2) (hv := (Or.inl (by kernel_rfl)))))))
theorem c_rows_of (pv : PV K mg base C CNoCode CWE T) (lg : LG T G) : C8.Cal P w K mg base 1 "rows_of" (spF G (aCons TInt (aCons TInt aNil)) (TLst (TTup TInt)) fun a => m_rows_of (a.1) (a.2.1)) [] := by
  obtain ⟨f, fd, D, hd⟩ := pv.d_rows_of
  exact def_of D (D.fn.binds hd fun _ _ _ _ _ _ us hl => match us, hl with | [_, _], _ => rfl) .nil sc_rows_of rfl (Empty.elim : Empty → (List (List Int))) (fun _ z => z.elim) fun a cdv A outer s H E hr => b_rows_of pv lg hr

def mb_right_share (v_watch : Wt) (v_verdict : Int) (v_length : Int) (v_share : (Int × Int)) : Option (Fl Empty Empty (Int × Int)) :=
  (bnd (bnd (bnd (ret v_watch) fun x => bnd (ret ()) fun r => ret (x, r)) fun a => opt (m_need_watch a.1 ())) fun _ => (bnd (bnd (bnd (ret v_verdict) fun x => bnd (ret ()) fun r => ret (x, r)) fun a => opt (m_need_verdict (a.1))) fun _ => (bnd (bnd (bnd (bnd (ret v_length) fun x => bnd (bnd (ret (0 : Int)) fun x => bnd (bnd (ret (60 : Int)) fun x => bnd (ret ()) fun r => ret (x, r)) fun r => ret (x, r)) fun r => ret (x, r)) fun a => opt (m_is_between (a.1) (a.2.1) (a.2.2.1))) fun i => ret (!i)) fun k => if k then opt none else (bnd (bnd (bnd (ret v_watch) fun x => bnd (bnd (ret v_share) fun x => bnd (ret ()) fun r => ret (x, r)) fun r => ret (x, r)) fun a => opt (m_need_noise (a.1) (a.2.1))) fun _ => (bnd (bnd (bnd (bnd (ret v_watch) fun x => opt (wKinds x)) fun x => bnd (bnd (ret v_length) fun x => bnd (ret ()) fun r => ret (x, r)) fun r => ret (x, r)) fun a => opt (m_rows_of (a.1) (a.2.1))) fun rows_170 => (bnd (bnd (bnd (bnd (ret v_watch) fun x => bnd (bnd (ret v_length) fun x => bnd (ret ()) fun r => ret (x, r)) fun r => ret (x, r)) fun a => opt (m_word_counts (a.1) (a.2.1))) fun xs => bnd (ret v_verdict) fun i => opt (atI xs i)) fun many_171 => (bnd (bnd (ret many_171) fun x => bnd (ret (0 : Int)) fun y => ret (decide (x = y))) fun k => if k then opt none else (bnd (ret (0 : Int)) fun best_172 => (bnd (ret rows_170) fun xs => bndF (forF (fun (s_176 : Int) (i_173 : (List Int)) => (bnd (bnd (bnd (bnd (bnd (bnd (bnd (bnd (ret v_watch) fun x => bnd (bnd (ret v_verdict) fun x => bnd (bnd (ret i_173) fun x => bnd (ret ()) fun r => ret (x, r)) fun r => ret (x, r)) fun r => ret (x, r)) fun a => opt (m_near_by (a.1) (a.2.1) (a.2.2.1))) fun xs => ret (xs.map (·.1))) fun xs => lcC (fun c_177 => bnd (bnd (bnd (ret v_watch) fun x => bnd (bnd (ret v_share) fun x => bnd (bnd (ret v_length) fun x => bnd (bnd (ret c_177) fun x => bnd (ret ()) fun r => ret (x, r)) fun r => ret (x, r)) fun r => ret (x, r)) fun r => ret (x, r)) fun a => opt (m_weight_of (a.1) (a.2.1) (a.2.2.1) (a.2.2.2.1))) fun y => ret (some y)) xs) fun x => bnd (ret ()) fun r => ret (x, r)) fun x => opt (maxL x.1)) fun y => ret (s_176 + y)) fun best_178 => (ret (.nx best_178)))) xs best_172) fun s_179 => (bnd (bnd (bnd (ret s_179) fun x => bnd (bnd (bnd (ret many_171) fun x => bnd (bnd (bnd (ret v_watch) fun x => bnd (bnd (ret v_share) fun x => bnd (bnd (ret v_length) fun x => bnd (ret ()) fun r => ret (x, r)) fun r => ret (x, r)) fun r => ret (x, r)) fun a => opt (m_all_of (a.1) (a.2.1) (a.2.2.1))) fun y => opt (mulW x y)) fun x => bnd (ret ()) fun r => ret (x, r)) fun r => ret (x, r)) fun a => opt (m_lowest_of (a.1) (a.2.1))) fun r => ret (.rt r)))))))))))
def m_right_share (v_watch : Wt) (v_verdict : Int) (v_length : Int) (v_share : (Int × Int)) : Option (Int × Int) := retF (Empty.elim : Empty → (Int × Int)) (mb_right_share v_watch v_verdict v_length v_share)
theorem sc_right_share : FnScope ["watch", "verdict", "length", "share", "rows", "many", "best", "row", "number"] ["watch", "verdict", "length", "share"] (C8.fnScope s_right_share) := C8.fnScope_by (by decide +kernel)
theorem b_right_share (pv : PV K mg base C CNoCode CWE T) (lg : LG T G) {v_watch : Wt} {v_verdict : Int} {v_length : Int} {v_share : (Int × Int)} {f : Addr} {cdv : Value} {A : Around} {outer : List Env} {s : Shared} {H : Hp} {E : XK} (hr : Room 3 (A.deeper (envOfC "right_share" (C8.fnScope s_right_share) s.heap.objs.size f cdv))) :
    XB G (cxOf C8.CX0 P w K mg base ["watch", "verdict", "length", "share", "rows", "many", "best", "row", "number"] "right_share" (C8.fnScope s_right_share) f cdv A outer s H E).nox (C8.fnBody s_right_share) [some (.sh (TW C) v_watch), some (.sh TInt v_verdict), some (.sh TInt v_length), some (.sh (T2 TInt TInt) v_share), none, none, none, none, none] (Empty.elim : Empty → Ga) (Empty.elim : Empty → Ga) (T2 TInt TInt) (mb_right_share v_watch v_verdict v_length v_share) := by
  unfold mb_right_share
  exact (xb_seq (xs_expr (xe_callD (f := fun a => m_need_watch a.1 a.2.1) (k := 1) (c_need_watch pv lg) hr (by decide) (xa_cons (xe_var (i := 0) (hv := (Or.inr (Or.inl (by kernel_rfl))))) xa_nil))) fun _ => (xb_seq (xs_expr (xe_callP (k := 3) (c_need_verdict pv lg) hr (by decide) (xa_cons (xe_var (i := 1) (hv := (Or.inl (by kernel_rfl)))) xa_nil))) fun _ => (xb_ifN (xt_not (xt_val (xe_callP (k := 2) (c_is_between pv lg) hr (by decide) (xa_cons (xe_var (i := 2) (hv := (Or.inr (Or.inl (by kernel_rfl))))) (xa_cons xe_int (xa_cons (xe_globI rfl pv.g_MOST_HEARD) xa_nil)))))) (xb_seq (xs_expr (xe_callP (k := 3) (c_need_noise pv lg) hr (by decide) (xa_cons (xe_var (i := 0) (hv := (Or.inr (Or.inl (by kernel_rfl))))) (xa_cons (xe_var (i := 3) (hv := (Or.inr (Or.inl (by kernel_rfl))))) xa_nil)))) fun _ => (xb_seq (xs_set (i := 4) (xe_callP (k := 1) (c_rows_of pv lg) hr (by decide) (xa_cons (x_kinds pv lg hr (by decide) (xe_var (i := 0) (hv := (Or.inr (Or.inl (by kernel_rfl)))))) (xa_cons (xe_var (i := 2) (hv := (Or.inr (Or.inl (by kernel_rfl))))) xa_nil))) sc_right_share.nd (hx := (Or.inl (by kernel_rfl))) (hf := (.inl (by kernel_rfl)))) fun rows_170 => (xb_seq (xs_set (i := 5) (xo_ixT (xo_at (xe_callP (k := 3) (c_word_counts pv lg) hr (by decide) (xa_cons (xe_var (i := 0) (hv := (Or.inr (Or.inl (by kernel_rfl))))) (xa_cons (xe_var (i := 2) (hv := (Or.inr (Or.inl (by kernel_rfl))))) xa_nil)))) (xe_var (i := 1) (hv := (Or.inl (by kernel_rfl)))) (fun _ _ => by kernel_rfl)) sc_right_share.nd (hx := (Or.inl (by kernel_rfl))) (hf := (.inl (by kernel_rfl)))) fun many_171 => (xb_ifN (xt_cmp op_eq rb_eqI (xe_var (i := 5) (hv := (Or.inl (by kernel_rfl)))) xe_int (by kernel_rfl)) (xb_seq (xs_set (i := 6) xe_int sc_right_share.nd (hx := (Or.inl (by kernel_rfl))) (hf := (.inl (by kernel_rfl)))) fun best_172 => (xb_for (τ := (TTup TInt)) (g1 := fun (s_176 : Int) => [some (.sh (TW C) v_watch), some (.sh TInt v_verdict), some (.sh TInt v_length), some (.sh (T2 TInt TInt) v_share), some (.sh (TLst (TTup TInt)) rows_170), some (.sh TInt many_171), some (.sh TInt s_176), none, none]) PassesOwn.never (xi_lst (xe_var (i := 4) (hv := (Or.inl (by kernel_rfl))))) (xg_name (i := 7) sc_right_share.nd (hx := (Or.inl (by kernel_rfl))) (hf := (.inl (by kernel_rfl)))) (.eq (.eq (.eq (.eq (.eq (.eq (.eq (.no (.no .nil))))))))) (fun s_176 i_173 => (xb_seq (xs_aug (i := 6) iop_add rb_add (xe_callB (cr_max rfl) rc_maxL pv.n_max (by kernel_rfl) (xa_cons (xe_lc (own := [("number", 8)]) sc_right_share.nd (blkOk_by (by kernel_rfl)) (xi_keysK (xe_callP (k := 3) (c_near_by pv lg) hr (by decide) (xa_cons (xe_var (i := 0) (hv := (Or.inr (Or.inl (by kernel_rfl))))) (xa_cons (xe_var (i := 1) (hv := (Or.inl (by kernel_rfl)))) (xa_cons (xe_var (i := 7) (hv := (Or.inl (by kernel_rfl)))) xa_nil))))) (fun _ _ _ _ _ => (xg_name (i := 8) sc_right_share.nd (hx := (Or.inl (by kernel_rfl))) (hf := (.inr (by kernel_rfl))))) (by decide) (fun c_177 => fun _ _ _ _ _ => (xe_callP (k := 3) (c_weight_of pv lg) hr (by decide) (xa_cons (xe_var (i := 0) (hv := (Or.inr (Or.inl (by kernel_rfl))))) (xa_cons (xe_var (i := 3) (hv := (Or.inr (Or.inl (by kernel_rfl))))) (xa_cons (xe_var (i := 2) (hv := (Or.inr (Or.inl (by kernel_rfl))))) (xa_cons (xe_var (i := 8) (hv := (Or.inl (by kernel_rfl)))) xa_nil))))))) xa_nil)) sc_right_share.nd (hx := (Or.inl (by kernel_rfl))) (hf := (.inl (by kernel_rfl)))) fun best_178 => (xb_nil (.eq (.eq (.eq (.eq (.eq (.eq (.eq (.no (.no .nil)))))))))))) fun s_179 => (xb_ret (xe_callP (k := 2) (c_lowest_of pv lg) hr (by decide) (xa_cons (xe_var (i := 6) (hv := (Or.inl (by kernel_rfl)))) (xa_cons (xe_op op_mulW rb_mulW (xe_var (i := 5) (hv := (Or.inl (by kernel_rfl)))) (xe_callP (k := 3) (c_all_of pv lg) hr (by decide) (xa_cons (xe_var (i := 0) (hv := (Or.inr (Or.inl (by kernel_rfl))))) (xa_cons (xe_var (i := 3) (hv := (Or.inr (Or.inl (by kernel_rfl))))) (xa_cons (xe_var (i := 2) (hv := (Or.inr (Or.inl (by kernel_rfl))))) xa_nil))))) xa_nil)))))))))))))
theorem c_right_share (pv : PV K mg base C CNoCode CWE T) (lg : LG T G) : C8.Cal P w K mg base 4 "right_share" (spF G (aCons (TW C) (aCons TInt (aCons TInt (aCons (T2 TInt TInt) aNil)))) (T2 TInt TInt) fun a => m_right_share (a.1) (a.2.1) (a.2.2.1) (a.2.2.2.1)) [] := by
  obtain ⟨f, fd, D, hd⟩ := pv.d_right_share
  exact def_of D (D.fn.binds hd fun _ _ _ _ _ _ us hl => match us, hl with | [_, _, _, _], _ => rfl) .nil sc_right_share rfl (Empty.elim : Empty → (Int × Int)) (fun _ z => z.elim) fun a cdv A outer s H E hr => b_right_share pv lg hr

def mr_right_share (v_watch : Wt) (v_verdict : Int) (v_length : Int) (v_share : (Int × Int)) : Option Unit :=
  (bnd (bnd (bnd (ret v_watch) fun x => bnd (ret ()) fun r => ret (x, r)) fun a => opt (m_need_watch a.1 ())) fun _ => (bnd (bnd (bnd (ret v_verdict) fun x => bnd (ret ()) fun r => ret (x, r)) fun a => opt (m_need_verdict (a.1))) fun _ => (bnd (bnd (bnd (bnd (ret v_length) fun x => bnd (bnd (ret (0 : Int)) fun x => bnd (bnd (ret (60 : Int)) fun x => bnd (ret ()) fun r => ret (x, r)) fun r => ret (x, r)) fun r => ret (x, r)) fun a => opt (m_is_between (a.1) (a.2.1) (a.2.2.1))) fun i => ret (!i)) fun k => if k then opt none else (bnd (bnd (bnd (ret v_watch) fun x => bnd (bnd (ret v_share) fun x => bnd (ret ()) fun r => ret (x, r)) fun r => ret (x, r)) fun a => opt (m_need_noise (a.1) (a.2.1))) fun _ => (bnd (bnd (bnd (bnd (ret v_watch) fun x => opt (wKinds x)) fun x => bnd (bnd (ret v_length) fun x => bnd (ret ()) fun r => ret (x, r)) fun r => ret (x, r)) fun a => opt (m_rows_of (a.1) (a.2.1))) fun rows_180 => (bnd (bnd (bnd (bnd (ret v_watch) fun x => bnd (bnd (ret v_length) fun x => bnd (ret ()) fun r => ret (x, r)) fun r => ret (x, r)) fun a => opt (m_word_counts (a.1) (a.2.1))) fun xs => bnd (ret v_verdict) fun i => opt (atI xs i)) fun many_181 => (bnd (bnd (ret many_181) fun x => bnd (ret (0 : Int)) fun y => ret (decide (x = y))) fun k => if k then ret () else opt none)))))))
theorem br_right_share (pv : PV K mg base C CNoCode CWE T) (lg : LG T G) {v_watch : Wt} {v_verdict : Int} {v_length : Int} {v_share : (Int × Int)} {f : Addr} {cdv : Value} {A : Around} {outer : List Env} {s : Shared} {H : Hp} {E : XK} (hr : Room 3 (A.deeper (envOfC "right_share" (C8.fnScope s_right_share) s.heap.objs.size f cdv))) :
    XR G (cxOf (L2.CX P w) P w K mg base ["watch", "verdict", "length", "share", "rows", "many", "best", "row", "number"] "right_share" (C8.fnScope s_right_share) f cdv A outer s H E) (C8.fnBody s_right_share) [some (.sh (TW C) v_watch), some (.sh TInt v_verdict), some (.sh TInt v_length), some (.sh (T2 TInt TInt) v_share), none, none, none, none, none] (.ref CNoCode) (mr_right_share v_watch v_verdict v_length v_share) := by
  unfold mr_right_share
  exact (xr_seq (xs_expr (xe_callD (f := fun a => m_need_watch a.1 a.2.1) (k := 1) (c_need_watch pv lg) hr (by decide) (xa_cons (xe_var (i := 0) (hv := (Or.inr (Or.inl (by kernel_rfl))))) xa_nil))) fun _ => (xr_seq (xs_expr (xe_callP (k := 3) (c_need_verdict pv lg) hr (by decide) (xa_cons (xe_var (i := 1) (hv := (Or.inl (by kernel_rfl)))) xa_nil))) fun _ => (xr_ifN (xt_not (xt_val (xe_callP (k := 2) (c_is_between pv lg) hr (by decide) (xa_cons (xe_var (i := 2) (hv := (Or.inr (Or.inl (by kernel_rfl))))) (xa_cons xe_int (xa_cons (xe_globI rfl pv.g_MOST_HEARD) xa_nil)))))) (xr_seq (xs_expr (xe_callP (k := 3) (c_need_noise pv lg) hr (by decide) (xa_cons (xe_var (i := 0) (hv := (Or.inr (Or.inl (by kernel_rfl))))) (xa_cons (xe_var (i := 3) (hv := (Or.inr (Or.inl (by kernel_rfl))))) xa_nil)))) fun _ => (xr_seq (xs_set (i := 4) (xe_callP (k := 1) (c_rows_of pv lg) hr (by decide) (xa_cons (x_kinds pv lg hr (by decide) (xe_var (i := 0) (hv := (Or.inr (Or.inl (by kernel_rfl)))))) (xa_cons (xe_var (i := 2) (hv := (Or.inr (Or.inl (by kernel_rfl))))) xa_nil))) sc_right_share.nd (hx := (Or.inl (by kernel_rfl))) (hf := (.inl (by kernel_rfl)))) fun rows_180 => (xr_seq (xs_set (i := 5) (xo_ixT (xo_at (xe_callP (k := 3) (c_word_counts pv lg) hr (by decide) (xa_cons (xe_var (i := 0) (hv := (Or.inr (Or.inl (by kernel_rfl))))) (xa_cons (xe_var (i := 2) (hv := (Or.inr (Or.inl (by kernel_rfl))))) xa_nil)))) (xe_var (i := 1) (hv := (Or.inl (by kernel_rfl)))) (fun _ _ => by kernel_rfl)) sc_right_share.nd (hx := (Or.inl (by kernel_rfl))) (hf := (.inl (by kernel_rfl)))) fun many_181 => (xr_ifY (xt_cmp op_eq rb_eqI (xe_var (i := 5) (hv := (Or.inl (by kernel_rfl)))) xe_int (by kernel_rfl)) (xr_raise PySem.F.excBase_ValueError pv.x_NoCode pv.mNoCode pv.kp_NoCode pv.sb_NoCode pv.ty_NoCode))))))))
theorem c_r_right_share (pv : PV K mg base C CNoCode CWE T) (lg : LG T G) : CalR P w K mg base 4 "right_share" (spR G (aCons (TW C) (aCons TInt (aCons TInt (aCons (T2 TInt TInt) aNil)))) (.ref CNoCode) fun a => mr_right_share (a.1) (a.2.1) (a.2.2.1) (a.2.2.2.1)) := by
  obtain ⟨f, fd, D, hd⟩ := pv.d_right_share
  exact ⟨f, fd, _, fnR_of D.fn sc_right_share rfl fun a cdv A outer s H E hr => br_right_share pv lg hr, D.mgf, D.kp, D.fn.binds hd fun _ _ _ _ _ _ us hl => match us, hl with | [_, _, _, _], _ => rfl⟩
def mb__law_begun (v_script : (List Int)) : Option (Fl Empty Empty (List Int × List Int)) :=
  (bnd (bnd (ret v_script) fun xs => lcC (fun c_182 => bnd (bnd (bnd (bnd (ret c_182) fun x => bnd (ret ()) fun r => ret (x, r)) fun x => ret (absI x.1)) fun x => bnd (bnd (ret (10 : Int)) fun x => bnd (ret (18 : Int)) fun y => opt (powC x y)) fun y => ret (decide (y ≤ x))) fun k => if k then bnd (bnd (bnd (bnd (ret c_182) fun x => bnd (ret ()) fun r => ret (x, r)) fun x => ret (absI x.1)) fun x => bnd (bnd (ret (10 : Int)) fun x => bnd (ret (18 : Int)) fun y => opt (powC x y)) fun y => ret (x - y)) fun y => ret (some y) else ret none) xs) fun large_183 => (bnd (bnd (ret large_183) fun x => bnd (bnd (ret v_script) fun xs => lcC (fun c_184 => bnd (bnd (bnd (ret c_184) fun x => bnd (ret ()) fun r => ret (x, r)) fun x => ret (absI x.1)) fun y => ret (some y)) xs) fun y => ret (x, y)) fun r => ret (.rt r)))
def m__law_begun (v_script : (List Int)) : Option (List Int × List Int) := retF (Empty.elim : Empty → (List Int × List Int)) (mb__law_begun v_script)
theorem sc__law_begun : FnScope ["script", "large", "grain"] ["script"] (C8.fnScope s__law_begun) := C8.fnScope_by (by decide +kernel)
theorem b__law_begun (pv : PV K mg base C CNoCode CWE T) (lg : LG T G) {v_script : (List Int)} {f : Addr} {cdv : Value} {A : Around} {outer : List Env} {s : Shared} {H : Hp} {E : XK} (hr : Room 0 (A.deeper (envOfC "_law_begun" (C8.fnScope s__law_begun) s.heap.objs.size f cdv))) :
    XB G (cxOf C8.CX0 P w K mg base ["script", "large", "grain"] "_law_begun" (C8.fnScope s__law_begun) f cdv A outer s H E).nox (C8.fnBody s__law_begun) [some (.sh (TScrF K sa ns) v_script), none, none] (Empty.elim : Empty → Ga) (Empty.elim : Empty → Ga) (TTape1 K sa ns) (mb__law_begun v_script) := by
  unfold mb__law_begun
  exact (xb_seq (xs_lcIN (j := 0) rfl (i := 1) (own := [("grain", 2)]) sc__law_begun.nd (sw_true (by kernel_rfl) (by kernel_rfl) (by kernel_rfl) (by kernel_rfl)) (blkOk_by (by kernel_rfl)) (xi_scr (xe_scr (xe_var (i := 0) (hv := (Or.inl (by kernel_rfl)))))) (fun _ _ _ _ _ => (xg_name (i := 2) sc__law_begun.nd (hx := (Or.inl (by kernel_rfl))) (hf := (.inr (by kernel_rfl))))) (by decide) (fun c_182 => fun _ _ _ _ _ => (xt_cmp op_ge rb_ge (xe_callB call_abs rc_abs pv.n_abs (by kernel_rfl) (xa_cons (xe_var (i := 2) (hv := (Or.inl (by kernel_rfl)))) xa_nil)) (xe_op op_pow rb_pow xe_int xe_int) (by kernel_rfl))) (fun c_182 => fun _ _ _ _ _ => (xe_op op_sub rb_sub (xe_callB call_abs rc_abs pv.n_abs (by kernel_rfl) (xa_cons (xe_var (i := 2) (hv := (Or.inl (by kernel_rfl)))) xa_nil)) (xe_op op_pow rb_pow xe_int xe_int)))) fun large_183 => (xb_ret (xe_tape1 (xe_var (i := 1) (hv := (Or.inl (by kernel_rfl)))) (xn_lc (γ := Unit) (own := [("grain", 2)]) sc__law_begun.nd (blkOk_by (by kernel_rfl)) (xi_scr (xe_scr (xe_var (i := 0) (hv := (Or.inl (by kernel_rfl)))))) (fun _ _ _ _ _ => (xg_name (i := 2) sc__law_begun.nd (hx := (Or.inl (by kernel_rfl))) (hf := (.inr (by kernel_rfl))))) (by decide) (fun c_184 => fun _ _ _ _ _ => (xe_callB call_abs rc_abs pv.n_abs (by kernel_rfl) (xa_cons (xe_var (i := 2) (hv := (Or.inl (by kernel_rfl)))) xa_nil)))))))
theorem c__law_begun (pv : PV K mg base C CNoCode CWE T) (lg : LG T G) : C8.Cal P w K mg base 1 "_law_begun" (spF G (aCons (TScrF K sa ns) aNil) (TTape1 K sa ns) fun a => m__law_begun (a.1)) [] := by
  obtain ⟨f, fd, D, hd⟩ := pv.d__law_begun
  exact def_of D (D.fn.binds hd fun _ _ _ _ _ _ us hl => match us, hl with | [_], _ => rfl) .nil sc__law_begun rfl (Empty.elim : Empty → (List Int × List Int)) (fun _ z => z.elim) fun a cdv A outer s H E hr => b__law_begun pv lg hr

def mb__law_blend (cs : List Int) (v_tape : Unit) : M (Fl Empty Empty Int) :=
  (bnd (bnd anyI fun x => bnd (ret (1 : Int)) fun y => ret (x + y)) fun _ => (bnd (bnd (bnd (bnd anyI fun x => bnd (ret ()) fun r => ret (x, r)) fun x => ret x.1) fun u0 => bnd (ret (0 : Int)) fun u1 => ret (u0, u1)) fun p_185 => (bnd (bnd (ret (2147483629 : Int)) fun x => bnd (bnd (ret (2147483587 : Int)) fun x => bnd (bnd (ret (2147483579 : Int)) fun x => bnd (ret []) fun r => ret (x :: r)) fun r => ret (x :: r)) fun r => ret (x :: r)) fun xs => bndF (forF (fun (s_194 : Int) (i_186 : Int) => (bnd (bnd (bnd (bnd (ret p_185.1) fun x => bnd (ret (69621 : Int)) fun y => opt (mulC x y)) fun x => bnd (bnd (ret i_186) fun x => bnd (ret (7 : Int)) fun y => opt (divW x y)) fun y => ret (x + y)) fun x => bnd (ret i_186) fun y => opt (modC x y)) fun blended_195 => (bnd (ret cs) fun xs => bndF (forF (fun (s_198 : Int) (i_196 : Int) => (bnd (bnd (bnd (bnd (ret s_198) fun x => bnd (ret (48271 : Int)) fun y => opt (mulC x y)) fun x => bnd (bnd (bnd (ret i_196) fun x => bnd (ret ()) fun r => ret (x, r)) fun x => ret x.1) fun y => ret (x + y)) fun x => bnd (ret i_186) fun y => opt (modC x y)) fun blended_199 => (ret (.nx blended_199)))) xs blended_195) fun s_200 => (bnd (bnd (bnd (ret s_194) fun x => bnd (ret (2147483647 : Int)) fun y => opt (mulC x y)) fun x => bnd (bnd (bnd (ret s_200) fun x => bnd (ret (5 : Int)) fun y => opt (powC x y)) fun x => bnd (ret i_186) fun y => opt (modC x y)) fun y => ret (x + y)) fun found_201 => (ret (.nx found_201)))))) xs p_185.2) fun s_202 => (bnd (ret s_202) fun r => ret (.rt r)))))
def m__law_blend (cs : List Int) (v_tape : Unit) : M Int := retF (Empty.elim : Empty → Int) (mb__law_blend cs v_tape)
theorem sc__law_blend : FnScope ["tape", "turn", "found", "great", "blended", "grain"] ["tape"] (C8.fnScope s__law_blend) := C8.fnScope_by (by decide +kernel)
theorem b__law_blend (pv : PV K mg base C CNoCode CWE T) {tp tl tc : Addr} {cs : List Int} (lg : LG T (Gtp T tp tl tc cs)) (hLC : tl ≠ tc) {v_tape : Unit} {f : Addr} {cdv : Value} {A : Around} {outer : List Env} {s : Shared} {H : Hp} {E : XK} (hr : Room 0 (A.deeper (envOfC "_law_blend" (C8.fnScope s__law_blend) s.heap.objs.size f cdv))) :
    XB (Gtp T tp tl tc cs) (cxOf C8.CX0 P w K mg base ["tape", "turn", "found", "great", "blended", "grain"] "_law_blend" (C8.fnScope s__law_blend) f cdv A outer s H E).nox (C8.fnBody s__law_blend) [some (.sh (TRaw (.ref tp)) v_tape), none, none, none, none, none] (Empty.elim : Empty → Ga) (Empty.elim : Empty → Ga) TInt (mb__law_blend cs v_tape) := by
  unfold mb__law_blend
  exact (xb_seq (xs_tapeI (i := 0) hr.units (.inr rfl) (xe_op op_add rb_add (xe_tapeI (i := 0) hr.units (.inr rfl) rfl (Or.inl (by kernel_rfl))) xe_int) hLC rfl (Or.inl (by kernel_rfl))) fun _ => (xb_seq (xs_par (i := 1) (j := 2) (fun h => ps_par rfl sc__law_blend.nd (by kernel_rfl) (by kernel_rfl) (by decide) (by kernel_rfl) (by kernel_rfl) h (by kernel_rfl) (by kernel_rfl)) (xe_callTy call_int1 rc_int1 pv.n_int (by kernel_rfl) (xa_cons (xe_tapeI (i := 0) hr.units (.inr rfl) rfl (Or.inl (by kernel_rfl))) xa_nil)) xe_int) fun p_185 => (xb_for (τ := TInt) (g1 := fun (s_194 : Int) => [some (.sh (TRaw (.ref tp)) v_tape), some (.sh TInt p_185.1), some (.sh TInt s_194), none, none, none]) PassesOwn.never (xi_lst (xe_lst (xl_cons xe_int (xl_cons xe_int (xl_cons xe_int xl_nil))))) (xg_name (i := 3) sc__law_blend.nd (hx := (Or.inl (by kernel_rfl))) (hf := (.inl (by kernel_rfl)))) (.eq (.eq (.eq (.no (.no (.no .nil)))))) (fun s_194 i_186 => (xb_seq (xs_set (i := 4) (xe_op op_mod rb_mod (xe_op op_add rb_add (xe_op op_mul rb_mul (xe_var (i := 1) (hv := (Or.inl (by kernel_rfl)))) xe_int) (xe_op op_fdivW rb_divW (xe_var (i := 3) (hv := (Or.inl (by kernel_rfl)))) xe_int)) (xe_var (i := 3) (hv := (Or.inl (by kernel_rfl))))) sc__law_blend.nd (hx := (Or.inl (by kernel_rfl))) (hf := (.inl (by kernel_rfl)))) fun blended_195 => (xb_for (τ := TInt) (g1 := fun (s_198 : Int) => [some (.sh (TRaw (.ref tp)) v_tape), some (.sh TInt p_185.1), some (.sh TInt s_194), some (.sh TInt i_186), some (.sh TInt s_198), none]) PassesOwn.never (xi_cells (i := 0) hr.units rfl (Or.inl (by kernel_rfl))) (xg_name (i := 5) sc__law_blend.nd (hx := (Or.inl (by kernel_rfl))) (hf := (.inl (by kernel_rfl)))) (.eq (.eq (.eq (.eq (.eq (.no .nil)))))) (fun s_198 i_196 => (xb_seq (xs_set (i := 4) (xe_op op_mod rb_mod (xe_op op_add rb_add (xe_op op_mul rb_mul (xe_var (i := 4) (hv := (Or.inl (by kernel_rfl)))) xe_int) (xe_callTy call_int1 rc_int1 pv.n_int (by kernel_rfl) (xa_cons (xe_var (i := 5) (hv := (Or.inl (by kernel_rfl)))) xa_nil))) (xe_var (i := 3) (hv := (Or.inl (by kernel_rfl))))) sc__law_blend.nd (hx := (Or.inl (by kernel_rfl))) (hf := (.inl (by kernel_rfl)))) fun blended_199 => (xb_nil (.eq (.eq (.eq (.eq (.eq (.no .nil))))))))) fun s_200 => (xb_seq (xs_set (i := 2) (xe_op op_add rb_add (xe_op op_mul rb_mul (xe_var (i := 2) (hv := (Or.inl (by kernel_rfl)))) xe_int) (xe_op op_mod rb_mod (xe_op op_pow rb_pow (xe_var (i := 4) (hv := (Or.inl (by kernel_rfl)))) xe_int) (xe_var (i := 3) (hv := (Or.inl (by kernel_rfl)))))) sc__law_blend.nd (hx := (Or.inl (by kernel_rfl))) (hf := (.inl (by kernel_rfl)))) fun found_201 => (xb_nil (.eq (.eq (.eq (.no (.no (.no .nil))))))))))) fun s_202 => (xb_ret (xe_var (i := 2) (hv := (Or.inl (by kernel_rfl))))))))
theorem c__law_blend (pv : PV K mg base C CNoCode CWE T) {tp tl tc : Addr} {cs : List Int} (lg : LG T (Gtp T tp tl tc cs)) (hLC : tl ≠ tc) : C8.Cal P w K mg base 1 "_law_blend" (spF (Gtp T tp tl tc cs) (aCons (TRaw (.ref tp)) aNil) TInt fun a => m__law_blend cs (a.1)) [] := by
  obtain ⟨f, fd, D, hd⟩ := pv.d__law_blend
  exact def_of D (D.fn.binds hd fun _ _ _ _ _ _ us hl => match us, hl with | [_], _ => rfl) .nil sc__law_blend rfl (Empty.elim : Empty → Int) (fun _ z => z.elim) fun a cdv A outer s H E hr => b__law_blend pv lg hLC hr

def mb__law_draw (cs : List Int) (v_tape : Unit) (v_size : Int) : M (Fl Empty Empty Int) :=
  (bnd (bnd anyI fun x => bnd (ret (0 : Int)) fun y => ret (decide (x = y))) fun k => bndF (if k then (bnd (popOr (bnd (bnd (ret v_tape) fun x => bnd (ret ()) fun r => ret (x, r)) fun a => m__law_blend cs (a.1))) fun _ => (ret (.nx v_tape))) else (ret (.nx v_tape))) fun j_203 => (bnd (bnd (bnd (bnd anyI fun x => bnd (ret ()) fun r => ret (x, r)) fun x => ret x.1) fun x => bnd (ret v_size) fun y => opt (modC x y)) fun found_204 => (bnd (bnd (bnd (bnd anyI fun x => bnd (ret ()) fun r => ret (x, r)) fun x => ret x.1) fun x => bnd (ret v_size) fun y => opt (divW x y)) fun _ => (bnd (ret found_204) fun r => ret (.rt r)))))
def m__law_draw (cs : List Int) (v_tape : Unit) (v_size : Int) : M Int := retF (Empty.elim : Empty → Int) (mb__law_draw cs v_tape v_size)
theorem sc__law_draw : FnScope ["tape", "size", "found"] ["tape", "size"] (C8.fnScope s__law_draw) := C8.fnScope_by (by decide +kernel)
theorem b__law_draw (pv : PV K mg base C CNoCode CWE T) {tp tl tc : Addr} {cs : List Int} (lg : LG T (Gtp T tp tl tc cs)) (hLC : tl ≠ tc) {v_tape : Unit} {v_size : Int} {f : Addr} {cdv : Value} {A : Around} {outer : List Env} {s : Shared} {H : Hp} {E : XK} (hr : Room 1 (A.deeper (envOfC "_law_draw" (C8.fnScope s__law_draw) s.heap.objs.size f cdv))) :
    XB (Gtp T tp tl tc cs) (cxOf C8.CX0 P w K mg base ["tape", "size", "found"] "_law_draw" (C8.fnScope s__law_draw) f cdv A outer s H E).nox (C8.fnBody s__law_draw) [some (.sh (TRaw (.ref tp)) v_tape), some (.sh TInt v_size), none] (Empty.elim : Empty → Ga) (Empty.elim : Empty → Ga) TInt (mb__law_draw cs v_tape v_size) := by
  unfold mb__law_draw
  exact (xb_if (g1 := fun (j_203 : Unit) => [some (.sh (TRaw (.ref tp)) j_203), some (.sh TInt v_size), none]) (xt_cmp op_eq rb_eqI (xe_tapeI (i := 0) hr.units (.inl rfl) rfl (Or.inl (by kernel_rfl))) xe_int (by kernel_rfl)) (xb_seq (xs_tapeI (i := 0) hr.units (.inl rfl) (xe_tapePop (i := 0) hr.units (xe_callM (k := 1) (c__law_blend pv lg hLC) hr (by decide) (xa_cons (xe_var (i := 0) (hv := (Or.inl (by kernel_rfl)))) xa_nil)) hLC rfl (Or.inl (by kernel_rfl))) hLC rfl (Or.inl (by kernel_rfl))) fun _ => (xb_nil (.eq (.eq (.no .nil))))) (xb_nil (.eq (.eq (.no .nil)))) fun j_203 => (xb_seq (xs_set (i := 2) (xe_op op_mod rb_mod (xe_callTy call_int1 rc_int1 pv.n_int (by kernel_rfl) (xa_cons (xe_tapeI (i := 0) hr.units (.inl rfl) rfl (Or.inl (by kernel_rfl))) xa_nil)) (xe_var (i := 1) (hv := (Or.inl (by kernel_rfl))))) sc__law_draw.nd (hx := (Or.inl (by kernel_rfl))) (hf := (.inl (by kernel_rfl)))) fun found_204 => (xb_seq (xs_tapeI (i := 0) hr.units (.inl rfl) (xe_op op_fdivW rb_divW (xe_callTy call_int1 rc_int1 pv.n_int (by kernel_rfl) (xa_cons (xe_tapeI (i := 0) hr.units (.inl rfl) rfl (Or.inl (by kernel_rfl))) xa_nil)) (xe_var (i := 1) (hv := (Or.inl (by kernel_rfl))))) hLC rfl (Or.inl (by kernel_rfl))) fun _ => (xb_ret (xe_var (i := 2) (hv := (Or.inl (by kernel_rfl))))))))
theorem c__law_draw (pv : PV K mg base C CNoCode CWE T) {tp tl tc : Addr} {cs : List Int} (lg : LG T (Gtp T tp tl tc cs)) (hLC : tl ≠ tc) : C8.Cal P w K mg base 2 "_law_draw" (spF (Gtp T tp tl tc cs) (aCons (TRaw (.ref tp)) (aCons TInt aNil)) TInt fun a => m__law_draw cs (a.1) (a.2.1)) [] := by
  obtain ⟨f, fd, D, hd⟩ := pv.d__law_draw
  exact def_of D (D.fn.binds hd fun _ _ _ _ _ _ us hl => match us, hl with | [_, _], _ => rfl) .nil sc__law_draw rfl (Empty.elim : Empty → Int) (fun _ z => z.elim) fun a cdv A outer s H E hr => b__law_draw pv lg hLC hr

def mb__law_watch (cs : List Int) (v_tape : Unit) (v_places : Int) (v_kinds : Int) (v_words : Int) : M (Fl Empty Empty ((List (List Int)) × (List Int))) :=
  (bnd (bnd (ret (1 : Int)) fun x => bnd (bnd (bnd (ret v_tape) fun x => bnd (bnd (ret v_places) fun x => bnd (ret ()) fun r => ret (x, r)) fun r => ret (x, r)) fun a => m__law_draw cs (a.1) (a.2.1)) fun y => ret (x + y)) fun many_205 => (bnd (bnd (bnd (bnd (bnd (ret many_205) fun j => opt (rngI 0 j)) fun xs => lcC (fun c_209 => bnd (bnd (bnd (bnd (bnd (ret v_kinds) fun j => opt (rngI 0 j)) fun xs => lcC (fun c_211 => bnd (bnd (bnd (ret v_tape) fun x => bnd (bnd (ret many_205) fun x => bnd (ret ()) fun r => ret (x, r)) fun r => ret (x, r)) fun a => m__law_draw cs (a.1) (a.2.1)) fun y => ret (some y)) xs) fun x => bnd (ret ()) fun r => ret (x, r)) fun x => ret x.1) fun y => ret (some y)) xs) fun x => bnd (ret ()) fun r => ret (x, r)) fun x => ret x.1) fun moves_212 => (bnd (bnd (ret moves_212) fun x => bnd (bnd (bnd (bnd (bnd (ret many_205) fun j => opt (rngI 0 j)) fun xs => lcC (fun c_214 => bnd (bnd (bnd (ret v_tape) fun x => bnd (bnd (ret v_words) fun x => bnd (ret ()) fun r => ret (x, r)) fun r => ret (x, r)) fun a => m__law_draw cs (a.1) (a.2.1)) fun y => ret (some y)) xs) fun x => bnd (ret ()) fun r => ret (x, r)) fun x => ret x.1) fun y => ret (x, y)) fun r => ret (.rt r))))
def m__law_watch (cs : List Int) (v_tape : Unit) (v_places : Int) (v_kinds : Int) (v_words : Int) : M ((List (List Int)) × (List Int)) := retF (Empty.elim : Empty → ((List (List Int)) × (List Int))) (mb__law_watch cs v_tape v_places v_kinds v_words)
theorem sc__law_watch : FnScope ["tape", "places", "kinds", "words", "many", "moves", "place", "kind"] ["tape", "places", "kinds", "words"] (C8.fnScope s__law_watch) := C8.fnScope_by (by decide +kernel)
theorem b__law_watch (pv : PV K mg base C CNoCode CWE T) {tp tl tc : Addr} {cs : List Int} (lg : LG T (Gtp T tp tl tc cs)) (hLC : tl ≠ tc) {v_tape : Unit} {v_places : Int} {v_kinds : Int} {v_words : Int} {f : Addr} {cdv : Value} {A : Around} {outer : List Env} {s : Shared} {H : Hp} {E : XK} (hr : Room 2 (A.deeper (envOfC "_law_watch" (C8.fnScope s__law_watch) s.heap.objs.size f cdv))) :
    XB (Gtp T tp tl tc cs) (cxOf C8.CX0 P w K mg base ["tape", "places", "kinds", "words", "many", "moves", "place", "kind"] "_law_watch" (C8.fnScope s__law_watch) f cdv A outer s H E).nox (C8.fnBody s__law_watch) [some (.sh (TRaw (.ref tp)) v_tape), some (.sh TInt v_places), some (.sh TInt v_kinds), some (.sh TInt v_words), none, none, none, none] (Empty.elim : Empty → Ga) (Empty.elim : Empty → Ga) (T2 (TTup (TTup TInt)) (TTup TInt)) (mb__law_watch cs v_tape v_places v_kinds v_words) := by
  unfold mb__law_watch
  exact (xb_seq (xs_set (i := 4) (xe_op op_add rb_add xe_int (xe_callM (k := 2) (c__law_draw pv lg hLC) hr (by decide) (xa_cons (xe_var (i := 0) (hv := (Or.inr (Or.inl (by kernel_rfl))))) (xa_cons (xe_var (i := 1) (hv := (Or.inl (by kernel_rfl)))) xa_nil)))) sc__law_watch.nd (hx := (Or.inr (by kernel_rfl))) (hf := (.inl (by kernel_rfl)))) fun many_205 => (xb_seq (xs_set (i := 5) (xe_callTy call_tuple_of rc_tupleS pv.n_tuple (by kernel_rfl) (xa_cons (xe_as (xe_lc (own := [("place", 6)]) sc__law_watch.nd (blkOk_by (by kernel_rfl)) (xi_rng1 pv.n_range (xe_var (i := 4) (hv := (Or.inr (Or.inl (by kernel_rfl)))))) (fun _ _ _ _ _ => (xg_name (i := 6) sc__law_watch.nd (hx := (Or.inl (by kernel_rfl))) (hf := (.inr (by kernel_rfl))))) (by decide) (fun c_209 => fun _ _ _ _ _ => (xe_callTy call_tuple_of rc_tupleS pv.n_tuple (by kernel_rfl) (xa_cons (xe_as (xe_lc (own := [("kind", 7)]) sc__law_watch.nd (blkOk_by (by kernel_rfl)) (xi_rng1 pv.n_range (xe_var (i := 2) (hv := (Or.inr (Or.inl (by kernel_rfl)))))) (fun _ _ _ _ _ => (xg_name (i := 7) sc__law_watch.nd (hx := (Or.inl (by kernel_rfl))) (hf := (.inr (by kernel_rfl))))) (by decide) (fun c_211 => fun _ _ _ _ _ => (xe_callM (k := 2) (c__law_draw pv lg hLC) hr (by decide) (xa_cons (xe_var (i := 0) (hv := (Or.inr (Or.inl (by kernel_rfl))))) (xa_cons (xe_var (i := 4) (hv := (Or.inr (Or.inl (by kernel_rfl))))) xa_nil))))) (seq_l ty_id)) xa_nil)))) (seq_l ty_id)) xa_nil)) sc__law_watch.nd (hx := (Or.inl (by kernel_rfl))) (hf := (.inl (by kernel_rfl)))) fun moves_212 => (xb_ret (xe_t2 (xe_var (i := 5) (hv := (Or.inl (by kernel_rfl)))) (xe_callTy call_tuple_of rc_tupleS pv.n_tuple (by kernel_rfl) (xa_cons (xe_as (xe_lc (own := [("place", 6)]) sc__law_watch.nd (blkOk_by (by kernel_rfl)) (xi_rng1 pv.n_range (xe_var (i := 4) (hv := (Or.inr (Or.inl (by kernel_rfl)))))) (fun _ _ _ _ _ => (xg_name (i := 6) sc__law_watch.nd (hx := (Or.inl (by kernel_rfl))) (hf := (.inr (by kernel_rfl))))) (by decide) (fun c_214 => fun _ _ _ _ _ => (xe_callM (k := 2) (c__law_draw pv lg hLC) hr (by decide) (xa_cons (xe_var (i := 0) (hv := (Or.inr (Or.inl (by kernel_rfl))))) (xa_cons (xe_var (i := 3) (hv := (Or.inr (Or.inl (by kernel_rfl))))) xa_nil))))) (seq_l ty_id)) xa_nil))))))
theorem c__law_watch (pv : PV K mg base C CNoCode CWE T) {tp tl tc : Addr} {cs : List Int} (lg : LG T (Gtp T tp tl tc cs)) (hLC : tl ≠ tc) : C8.Cal P w K mg base 3 "_law_watch" (spF (Gtp T tp tl tc cs) (aCons (TRaw (.ref tp)) (aCons TInt (aCons TInt (aCons TInt aNil)))) (T2 (TTup (TTup TInt)) (TTup TInt)) fun a => m__law_watch cs (a.1) (a.2.1) (a.2.2.1) (a.2.2.2.1)) [] := by
  obtain ⟨f, fd, D, hd⟩ := pv.d__law_watch
  exact def_of D (D.fn.binds hd fun _ _ _ _ _ _ us hl => match us, hl with | [_, _, _, _], _ => rfl) .nil sc__law_watch rfl (Empty.elim : Empty → ((List (List Int)) × (List Int))) (fun _ z => z.elim) fun a cdv A outer s H E hr => b__law_watch pv lg hLC hr

def mb__law_made (v_watch : ((List (List Int)) × (List Int))) : Option (Fl Empty Empty Wt) :=
  (bnd (bnd (bnd (bnd (bnd (ret v_watch) fun x => bnd (ret (0 : Int)) fun i => opt (if i = 0 ∨ i = -2 then some x.1 else none)) fun xs => lcC (fun c_215 => bnd (bnd (bnd (ret c_215) fun x => bnd (ret ()) fun r => ret (x, r)) fun x => ret x.1) fun y => ret (some y)) xs) fun x => bnd (bnd (bnd (bnd (bnd (ret v_watch) fun x => bnd (ret (1 : Int)) fun i => opt (if i = 1 ∨ i = -1 then some x.2 else none)) fun x => bnd (ret ()) fun r => ret (x, r)) fun x => ret x.1) fun x => bnd (ret ()) fun r => ret (x, r)) fun r => ret (x, r)) fun a => opt (mkW (a.1) (a.2.1))) fun r => ret (.rt r))
def m__law_made (v_watch : ((List (List Int)) × (List Int))) : Option Wt := retF (Empty.elim : Empty → Wt) (mb__law_made v_watch)
theorem sc__law_made : FnScope ["watch", "goals"] ["watch"] (C8.fnScope s__law_made) := C8.fnScope_by (by decide +kernel)
theorem b__law_made (pv : PV K mg base C CNoCode CWE T) (lg : LG T G) {v_watch : ((List (List Int)) × (List Int))} {f : Addr} {cdv : Value} {A : Around} {outer : List Env} {s : Shared} {H : Hp} {E : XK} (hr : Room 8 (A.deeper (envOfC "_law_made" (C8.fnScope s__law_made) s.heap.objs.size f cdv))) :
    XB G (cxOf C8.CX0 P w K mg base ["watch", "goals"] "_law_made" (C8.fnScope s__law_made) f cdv A outer s H E).nox (C8.fnBody s__law_made) [some (.sh (T2 (TTup (TTup TInt)) (TTup TInt)) v_watch), none] (Empty.elim : Empty → Ga) (Empty.elim : Empty → Ga) (TW C) (mb__law_made v_watch) := by
  unfold mb__law_made
  exact (xb_ret (xe_make (k := 7) (c_Watch pv lg) hr (by decide) (xa_cons (xe_as (xe_lc (own := [("goals", 1)]) sc__law_made.nd (blkOk_by (by kernel_rfl)) (xi_tup (xe_ix ix_tup rb_ix20 (xe_var (i := 0) (hv := (Or.inl (by kernel_rfl)))) xe_int (fun _ _ => by kernel_rfl))) (fun _ _ _ _ _ => (xg_name (i := 1) sc__law_made.nd (hx := (Or.inl (by kernel_rfl))) (hf := (.inr (by kernel_rfl))))) (by decide) (fun c_215 => fun _ _ _ _ _ => (xe_as (xe_callTy call_list_of rc_listS pv.n_list (by kernel_rfl) (xa_cons (xe_as (xe_var (i := 1) (hv := (Or.inl (by kernel_rfl)))) (seq_t ty_id)) xa_nil)) (seq_l ty_id)))) (seq_l ty_id)) (xa_cons (xe_as (xe_callTy call_list_of rc_listS pv.n_list (by kernel_rfl) (xa_cons (xe_as (xe_ix ix_tup rb_ix21 (xe_var (i := 0) (hv := (Or.inl (by kernel_rfl)))) xe_int (fun _ _ => by kernel_rfl)) (seq_t ty_id)) xa_nil)) (seq_l ty_id)) xa_nil))))
theorem c__law_made (pv : PV K mg base C CNoCode CWE T) (lg : LG T G) : C8.Cal P w K mg base 9 "_law_made" (spF G (aCons (T2 (TTup (TTup TInt)) (TTup TInt)) aNil) (TW C) fun a => m__law_made (a.1)) [] := by
  obtain ⟨f, fd, D, hd⟩ := pv.d__law_made
  exact def_of D (D.fn.binds hd fun _ _ _ _ _ _ us hl => match us, hl with | [_], _ => rfl) .nil sc__law_made rfl (Empty.elim : Empty → Wt) (fun _ z => z.elim) fun a cdv A outer s H E hr => b__law_made pv lg hr

def mb__law_place (v_watch : ((List (List Int)) × (List Int))) (v_row : (List Int)) : Option (Fl Empty Empty Int) :=
  (bnd (ret (0 : Int)) fun place_216 => (bnd (ret v_row) fun xs => bndF (forF (fun (s_219 : Int) (i_217 : Int) => (bnd (bnd (bnd (bnd (ret v_watch) fun x => bnd (ret (0 : Int)) fun i => opt (if i = 0 ∨ i = -2 then some x.1 else none)) fun xs => bnd (ret s_219) fun i => opt (atI xs i)) fun xs => bnd (ret i_217) fun i => opt (atI xs i)) fun place_220 => (ret (.nx place_220)))) xs place_216) fun s_221 => (bnd (ret s_221) fun r => ret (.rt r))))
def m__law_place (v_watch : ((List (List Int)) × (List Int))) (v_row : (List Int)) : Option Int := retF (Empty.elim : Empty → Int) (mb__law_place v_watch v_row)
theorem sc__law_place : FnScope ["watch", "row", "place", "kind"] ["watch", "row"] (C8.fnScope s__law_place) := C8.fnScope_by (by decide +kernel)
theorem b__law_place (pv : PV K mg base C CNoCode CWE T) (lg : LG T G) {v_watch : ((List (List Int)) × (List Int))} {v_row : (List Int)} {f : Addr} {cdv : Value} {A : Around} {outer : List Env} {s : Shared} {H : Hp} {E : XK} (hr : Room 0 (A.deeper (envOfC "_law_place" (C8.fnScope s__law_place) s.heap.objs.size f cdv))) :
    XB G (cxOf C8.CX0 P w K mg base ["watch", "row", "place", "kind"] "_law_place" (C8.fnScope s__law_place) f cdv A outer s H E).nox (C8.fnBody s__law_place) [some (.sh (T2 (TTup (TTup TInt)) (TTup TInt)) v_watch), some (.sh (TTup TInt) v_row), none, none] (Empty.elim : Empty → Ga) (Empty.elim : Empty → Ga) TInt (mb__law_place v_watch v_row) := by
  unfold mb__law_place
  exact (xb_seq (xs_set (i := 2) xe_int sc__law_place.nd (hx := (Or.inl (by kernel_rfl))) (hf := (.inl (by kernel_rfl)))) fun place_216 => (xb_for (τ := TInt) (g1 := fun (s_219 : Int) => [some (.sh (T2 (TTup (TTup TInt)) (TTup TInt)) v_watch), some (.sh (TTup TInt) v_row), some (.sh TInt s_219), none]) PassesOwn.never (xi_tup (xe_var (i := 1) (hv := (Or.inl (by kernel_rfl))))) (xg_name (i := 3) sc__law_place.nd (hx := (Or.inl (by kernel_rfl))) (hf := (.inl (by kernel_rfl)))) (.eq (.eq (.eq (.no .nil)))) (fun s_219 i_217 => (xb_seq (xs_set (i := 2) (xo_ixT (xo_at (xo_ixT (xo_at (xe_ix ix_tup rb_ix20 (xe_var (i := 0) (hv := (Or.inl (by kernel_rfl)))) xe_int (fun _ _ => by kernel_rfl))) (xe_var (i := 2) (hv := (Or.inl (by kernel_rfl)))) (fun _ _ => by kernel_rfl))) (xe_var (i := 3) (hv := (Or.inl (by kernel_rfl)))) (fun _ _ => by kernel_rfl)) sc__law_place.nd (hx := (Or.inl (by kernel_rfl))) (hf := (.inl (by kernel_rfl)))) fun place_220 => (xb_nil (.eq (.eq (.eq (.no .nil))))))) fun s_221 => (xb_ret (xe_var (i := 2) (hv := (Or.inl (by kernel_rfl)))))))
theorem c__law_place (pv : PV K mg base C CNoCode CWE T) (lg : LG T G) : C8.Cal P w K mg base 1 "_law_place" (spF G (aCons (T2 (TTup (TTup TInt)) (TTup TInt)) (aCons (TTup TInt) aNil)) TInt fun a => m__law_place (a.1) (a.2.1)) [] := by
  obtain ⟨f, fd, D, hd⟩ := pv.d__law_place
  exact def_of D (D.fn.binds hd fun _ _ _ _ _ _ us hl => match us, hl with | [_, _], _ => rfl) .nil sc__law_place rfl (Empty.elim : Empty → Int) (fun _ z => z.elim) fun a cdv A outer s H E hr => b__law_place pv lg hr

def mb__law_rows_of (v_kinds : Int) (v_length : Int) : Option (Fl Empty Empty (List (List Int))) :=
  (bnd (bnd (ret []) fun x => bnd (ret []) fun r => ret (x :: r)) fun found_222 => (bnd (bnd (ret v_length) fun j => opt (rngI 0 j)) fun xs => bndF (forF (fun (s_233 : (List (List Int))) (i_223 : Int) => (bnd (ret []) fun later_234 => (bnd (ret s_233) fun xs => bndF (forF (fun (s_238 : (List (List Int))) (i_235 : (List Int)) => (bnd (bnd (ret s_238) fun x => bnd (bnd (bnd (ret v_kinds) fun j => opt (rngI 0 j)) fun xs => lcC (fun c_239 => bnd (bnd (ret i_235) fun x => bnd (bnd (ret c_239) fun x => bnd (ret []) fun r => ret (x :: r)) fun y => opt (catC x y)) fun y => ret (some y)) xs) fun y => opt (catC x y)) fun later_240 => (ret (.nx later_240)))) xs later_234) fun s_241 => (bnd (ret s_241) fun found_242 => (ret (.nx found_242)))))) xs found_222) fun s_243 => (bnd (ret s_243) fun r => ret (.rt r))))
def m__law_rows_of (v_kinds : Int) (v_length : Int) : Option (List (List Int)) := retF (Empty.elim : Empty → (List (List Int))) (mb__law_rows_of v_kinds v_length)
theorem sc__law_rows_of : FnScope ["kinds", "length", "found", "tick", "later", "row", "kind"] ["kinds", "length"] (C8.fnScope s__law_rows_of) := C8.fnScope_by (by decide +kernel)
theorem b__law_rows_of (pv : PV K mg base C CNoCode CWE T) (lg : LG T G) {v_kinds : Int} {v_length : Int} {f : Addr} {cdv : Value} {A : Around} {outer : List Env} {s : Shared} {H : Hp} {E : XK} (hr : Room 0 (A.deeper (envOfC "_law_rows_of" (C8.fnScope s__law_rows_of) s.heap.objs.size f cdv))) :
    XB G (cxOf C8.CX0 P w K mg base ["kinds", "length", "found", "tick", "later", "row", "kind"] "_law_rows_of" (C8.fnScope s__law_rows_of) f cdv A outer s H E).nox (C8.fnBody s__law_rows_of) [some (.sh TInt v_kinds), some (.sh TInt v_length), none, none, none, none, none] (Empty.elim : Empty → Ga) (Empty.elim : Empty → Ga) (TLst (TTup TInt)) (mb__law_rows_of v_kinds v_length) := by
  unfold mb__law_rows_of
  exact (xb_seq (xs_set (i := 2) (xe_lst (xl_cons (xe_tup xl_nil) xl_nil)) sc__law_rows_of.nd (hx := (Or.inl (by kernel_rfl))) (hf := (.inl (by kernel_rfl)))) fun found_222 => (xb_for (τ := TInt) (g1 := fun (s_233 : (List (List Int))) => [some (.sh TInt v_kinds), some (.sh TInt v_length), some (.sh (TLst (TTup TInt)) s_233), none, none, none, none]) PassesOwn.never (xi_rng1 pv.n_range (xe_var (i := 1) (hv := (Or.inl (by kernel_rfl))))) (xg_name (i := 3) sc__law_rows_of.nd (hx := (Or.inl (by kernel_rfl))) (hf := (.inl (by kernel_rfl)))) (.eq (.eq (.eq (.no (.no (.no (.no .nil))))))) (fun s_233 i_223 => (xb_seq (xs_set (i := 4) (xe_lst xl_nil) sc__law_rows_of.nd (hx := (Or.inl (by kernel_rfl))) (hf := (.inl (by kernel_rfl)))) fun later_234 => (xb_for (τ := (TTup TInt)) (g1 := fun (s_238 : (List (List Int))) => [some (.sh TInt v_kinds), some (.sh TInt v_length), some (.sh (TLst (TTup TInt)) s_233), some (.sh TInt i_223), some (.sh (TLst (TTup TInt)) s_238), none, none]) PassesOwn.never (xi_lst (xe_var (i := 2) (hv := (Or.inl (by kernel_rfl))))) (xg_name (i := 5) sc__law_rows_of.nd (hx := (Or.inr (by kernel_rfl))) (hf := (.inl (by kernel_rfl)))) (.eq (.eq (.eq (.eq (.eq (.no (.no .nil))))))) (fun s_238 i_235 => (xb_seq (xs_set (i := 4) (xe_op op_cat rb_catL (xe_var (i := 4) (hv := (Or.inl (by kernel_rfl)))) (xe_lc (own := [("kind", 6)]) sc__law_rows_of.nd (blkOk_by (by kernel_rfl)) (xi_rng1 pv.n_range (xe_var (i := 0) (hv := (Or.inl (by kernel_rfl))))) (fun _ _ _ _ _ => (xg_name (i := 6) sc__law_rows_of.nd (hx := (Or.inl (by kernel_rfl))) (hf := (.inr (by kernel_rfl))))) (by decide) (fun c_239 => fun _ _ _ _ _ => (xe_op L2.op_catA rb_catT (xe_var (i := 5) (hv := (Or.inr (Or.inl (by kernel_rfl))))) (xe_tup (xl_cons (xe_var (i := 6) (hv := (Or.inl (by kernel_rfl)))) xl_nil)))))) sc__law_rows_of.nd (hx := (Or.inl (by kernel_rfl))) (hf := (.inl (by kernel_rfl)))) fun later_240 => (xb_nil (.eq (.eq (.eq (.eq (.eq (.no (.no .nil)))))))))) fun s_241 => (xb_seq (xs_set (i := 2) (xe_var (i := 4) (hv := (Or.inl (by kernel_rfl)))) sc__law_rows_of.nd (hx := (Or.inl (by kernel_rfl))) (hf := (.inl (by kernel_rfl)))) fun found_242 => (xb_nil (.eq (.eq (.eq (.no (.no (.no (.no .nil)))))))))))) fun s_243 => (xb_ret (xe_var (i := 2) (hv := (Or.inl (by kernel_rfl)))))))
theorem c__law_rows_of (pv : PV K mg base C CNoCode CWE T) (lg : LG T G) : C8.Cal P w K mg base 1 "_law_rows_of" (spF G (aCons TInt (aCons TInt aNil)) (TLst (TTup TInt)) fun a => m__law_rows_of (a.1) (a.2.1)) [] := by
  obtain ⟨f, fd, D, hd⟩ := pv.d__law_rows_of
  exact def_of D (D.fn.binds hd fun _ _ _ _ _ _ us hl => match us, hl with | [_, _], _ => rfl) .nil sc__law_rows_of rfl (Empty.elim : Empty → (List (List Int))) (fun _ z => z.elim) fun a cdv A outer s H E hr => b__law_rows_of pv lg hr

def mb__law_code (v_watch : ((List (List Int)) × (List Int))) (v_verdict : Int) (v_length : Int) : Option (Fl Empty Empty (List (List Int))) :=
  (bnd (bnd (bnd (bnd (bnd (bnd (bnd (ret v_watch) fun x => bnd (ret (0 : Int)) fun i => opt (if i = 0 ∨ i = -2 then some x.1 else none)) fun xs => bnd (ret (0 : Int)) fun i => opt (atI xs i)) fun x => ret ((x.length : Nat) : Int)) fun x => bnd (bnd (ret v_length) fun x => bnd (ret ()) fun r => ret (x, r)) fun r => ret (x, r)) fun a => opt (m__law_rows_of (a.1) (a.2.1))) fun xs => lcC (fun c_244 => bnd (bnd (bnd (bnd (ret v_watch) fun x => bnd (ret (1 : Int)) fun i => opt (if i = 1 ∨ i = -1 then some x.2 else none)) fun xs => bnd (bnd (bnd (ret v_watch) fun x => bnd (bnd (ret c_244) fun x => bnd (ret ()) fun r => ret (x, r)) fun r => ret (x, r)) fun a => opt (m__law_place (a.1) (a.2.1))) fun i => opt (atI xs i)) fun x => bnd (ret v_verdict) fun y => ret (decide (x = y))) fun k => if k then bnd (ret c_244) fun y => ret (some y) else ret none) xs) fun r => ret (.rt r))
def m__law_code (v_watch : ((List (List Int)) × (List Int))) (v_verdict : Int) (v_length : Int) : Option (List (List Int)) := retF (Empty.elim : Empty → (List (List Int))) (mb__law_code v_watch v_verdict v_length)
theorem sc__law_code : FnScope ["watch", "verdict", "length", "row"] ["watch", "verdict", "length"] (C8.fnScope s__law_code) := C8.fnScope_by (by decide +kernel)
theorem b__law_code (pv : PV K mg base C CNoCode CWE T) (lg : LG T G) {v_watch : ((List (List Int)) × (List Int))} {v_verdict : Int} {v_length : Int} {f : Addr} {cdv : Value} {A : Around} {outer : List Env} {s : Shared} {H : Hp} {E : XK} (hr : Room 1 (A.deeper (envOfC "_law_code" (C8.fnScope s__law_code) s.heap.objs.size f cdv))) :
    XB G (cxOf C8.CX0 P w K mg base ["watch", "verdict", "length", "row"] "_law_code" (C8.fnScope s__law_code) f cdv A outer s H E).nox (C8.fnBody s__law_code) [some (.sh (T2 (TTup (TTup TInt)) (TTup TInt)) v_watch), some (.sh TInt v_verdict), some (.sh TInt v_length), none] (Empty.elim : Empty → Ga) (Empty.elim : Empty → Ga) (TLst (TTup TInt)) (mb__law_code v_watch v_verdict v_length) := by
  unfold mb__law_code
  exact (xb_ret (xe_lcI (own := [("row", 3)]) sc__law_code.nd (blkOk_by (by kernel_rfl)) (xi_lst (xe_callP (k := 1) (c__law_rows_of pv lg) hr (by decide) (xa_cons (xo_lenT pv.n_len (xo_at (xo_ixT (xo_at (xe_ix ix_tup rb_ix20 (xe_var (i := 0) (hv := (Or.inr (Or.inl (by kernel_rfl))))) xe_int (fun _ _ => by kernel_rfl))) xe_int (fun _ _ => by kernel_rfl)))) (xa_cons (xe_var (i := 2) (hv := (Or.inl (by kernel_rfl)))) xa_nil)))) (fun _ _ _ _ _ => (xg_name (i := 3) sc__law_code.nd (hx := (Or.inl (by kernel_rfl))) (hf := (.inr (by kernel_rfl))))) (by decide) (fun c_244 => fun _ _ _ _ _ => (xt_cmp op_eq rb_eqI (xo_ixT (xo_at (xe_ix ix_tup rb_ix21 (xe_var (i := 0) (hv := (Or.inr (Or.inl (by kernel_rfl))))) xe_int (fun _ _ => by kernel_rfl))) (xe_callP (k := 1) (c__law_place pv lg) hr (by decide) (xa_cons (xe_var (i := 0) (hv := (Or.inr (Or.inl (by kernel_rfl))))) (xa_cons (xe_var (i := 3) (hv := (Or.inl (by kernel_rfl)))) xa_nil))) (fun _ _ => by kernel_rfl)) (xe_var (i := 1) (hv := (Or.inr (Or.inl (by kernel_rfl))))) (by kernel_rfl))) (fun c_244 => fun _ _ _ _ _ => (xe_var (i := 3) (hv := (Or.inl (by kernel_rfl)))))))
theorem c__law_code (pv : PV K mg base C CNoCode CWE T) (lg : LG T G) : C8.Cal P w K mg base 2 "_law_code" (spF G (aCons (T2 (TTup (TTup TInt)) (TTup TInt)) (aCons TInt (aCons TInt aNil))) (TLst (TTup TInt)) fun a => m__law_code (a.1) (a.2.1) (a.2.2.1)) [] := by
  obtain ⟨f, fd, D, hd⟩ := pv.d__law_code
  exact def_of D (D.fn.binds hd fun _ _ _ _ _ _ us hl => match us, hl with | [_, _, _], _ => rfl) .nil sc__law_code rfl (Empty.elim : Empty → (List (List Int))) (fun _ z => z.elim) fun a cdv A outer s H E hr => b__law_code pv lg hr

def mb__law_differ (v_one : (List Int)) (v_other : (List Int)) : Option (Fl Empty Empty Int) :=
  (bnd (bnd (bnd (bnd (ret v_one) fun xs => bnd (ret v_other) fun ys => ret (xs.zip ys)) fun xs => lcC (fun c_246 => bnd (bnd (ret c_246.1) fun x => bnd (ret c_246.2) fun y => ret (!decide (x = y))) fun k => if k then bnd (ret (1 : Int)) fun y => ret (some y) else ret none) xs) fun x => ret ((x.length : Nat) : Int)) fun r => ret (.rt r))
def m__law_differ (v_one : (List Int)) (v_other : (List Int)) : Option Int := retF (Empty.elim : Empty → Int) (mb__law_differ v_one v_other)
theorem sc__law_differ : FnScope ["one", "other", "first", "second"] ["one", "other"] (C8.fnScope s__law_differ) := C8.fnScope_by (by decide +kernel)
theorem b__law_differ (pv : PV K mg base C CNoCode CWE T) (lg : LG T G) {v_one : (List Int)} {v_other : (List Int)} {f : Addr} {cdv : Value} {A : Around} {outer : List Env} {s : Shared} {H : Hp} {E : XK} (hr : Room 0 (A.deeper (envOfC "_law_differ" (C8.fnScope s__law_differ) s.heap.objs.size f cdv))) :
    XB G (cxOf C8.CX0 P w K mg base ["one", "other", "first", "second"] "_law_differ" (C8.fnScope s__law_differ) f cdv A outer s H E).nox (C8.fnBody s__law_differ) [some (.sh (TTup TInt) v_one), some (.sh (TTup TInt) v_other), none, none] (Empty.elim : Empty → Ga) (Empty.elim : Empty → Ga) TInt (mb__law_differ v_one v_other) := by
  unfold mb__law_differ
  exact (xb_ret (xo_lenL pv.n_len (xo_at (xe_lcI (own := [("first", 2), ("second", 3)]) sc__law_differ.nd (blkOk_by (by kernel_rfl)) (xi_zipT pv.n_zip (xe_var (i := 0) (hv := (Or.inl (by kernel_rfl)))) (xe_var (i := 1) (hv := (Or.inl (by kernel_rfl))))) (fun _ _ _ _ _ => (xg_t2 (xg_name (i := 2) sc__law_differ.nd (hx := (Or.inl (by kernel_rfl))) (hf := (.inr (by kernel_rfl)))) (xg_name (i := 3) sc__law_differ.nd (hx := (Or.inl (by kernel_rfl))) (hf := (.inr (by kernel_rfl)))))) (by decide) (fun c_246 => fun _ _ _ _ _ => (xt_cmp op_ne rb_neI (xe_var (i := 2) (hv := (Or.inl (by kernel_rfl)))) (xe_var (i := 3) (hv := (Or.inl (by kernel_rfl)))) (by kernel_rfl))) (fun c_246 => fun _ _ _ _ _ => xe_int)))))
theorem c__law_differ (pv : PV K mg base C CNoCode CWE T) (lg : LG T G) : C8.Cal P w K mg base 1 "_law_differ" (spF G (aCons (TTup TInt) (aCons (TTup TInt) aNil)) TInt fun a => m__law_differ (a.1) (a.2.1)) [] := by
  obtain ⟨f, fd, D, hd⟩ := pv.d__law_differ
  exact def_of D (D.fn.binds hd fun _ _ _ _ _ _ us hl => match us, hl with | [_, _], _ => rfl) .nil sc__law_differ rfl (Empty.elim : Empty → Int) (fun _ z => z.elim) fun a cdv A outer s H E hr => b__law_differ pv lg hr

def mb__law_counted (v_several : (List Int)) : Option (Fl Empty Empty (List (Int × Int))) :=
  (bnd (ret []) fun found_247 => (bnd (bnd (bnd (ret v_several) fun x => bnd (ret ()) fun r => ret (x, r)) fun x => ret (sortI x.1)) fun xs => bndF (forF (fun (s_250 : (List (Int × Int))) (i_248 : Int) => (bnd (bnd (bnd (bnd (ret s_250) fun xs => bnd (ret i_248) fun k => bnd (ret (0 : Int)) fun z => ret ((dget xs k).getD z)) fun x => bnd (ret (1 : Int)) fun y => ret (x + y)) fun x => bnd (ret i_248) fun k => opt (dputC s_250 k x)) fun found_251 => (ret (.nx found_251)))) xs found_247) fun s_252 => (bnd (ret s_252) fun r => ret (.rt r))))
def m__law_counted (v_several : (List Int)) : Option (List (Int × Int)) := retF (Empty.elim : Empty → (List (Int × Int))) (mb__law_counted v_several)
theorem sc__law_counted : FnScope ["several", "found", "item"] ["several"] (C8.fnScope s__law_counted) := C8.fnScope_by (by decide +kernel)
theorem b__law_counted (pv : PV K mg base C CNoCode CWE T) (lg : LG T G) {v_several : (List Int)} {f : Addr} {cdv : Value} {A : Around} {outer : List Env} {s : Shared} {H : Hp} {E : XK} (hr : Room 0 (A.deeper (envOfC "_law_counted" (C8.fnScope s__law_counted) s.heap.objs.size f cdv))) :
    XB G (cxOf C8.CX0 P w K mg base ["several", "found", "item"] "_law_counted" (C8.fnScope s__law_counted) f cdv A outer s H E).nox (C8.fnBody s__law_counted) [some (.sh (TLst TInt) v_several), none, none] (Empty.elim : Empty → Ga) (Empty.elim : Empty → Ga) (TDK TInt) (mb__law_counted v_several) := by
  unfold mb__law_counted
  exact (xb_seq (xs_new (i := 1) xn_dK sc__law_counted.nd (hx := (Or.inl (by kernel_rfl))) (hf := (.inl (by kernel_rfl)))) fun found_247 => (xb_for (τ := TInt) (g1 := fun (s_250 : (List (Int × Int))) => [some (.sh (TLst TInt) v_several), some (.ow (ODK TInt) s_250), none]) PassesOwn.never (xi_lst (xe_callB cr_sortedI rc_sortedI pv.n_sorted (by kernel_rfl) (xa_cons (xe_var (i := 0) (hv := (Or.inl (by kernel_rfl)))) xa_nil))) (xg_name (i := 2) sc__law_counted.nd (hx := (Or.inl (by kernel_rfl))) (hf := (.inl (by kernel_rfl)))) (.eq (.eq (.no .nil))) (fun s_250 i_248 => (xb_seq (xs_dput (i := 1) kdK hr.units rfl (xe_op op_add rb_add (xo_dget2 kdK hr.units (xo_own (i := 1) (hv := (Or.inl (by kernel_rfl)))) (xe_var (i := 2) (hv := (Or.inl (by kernel_rfl)))) xe_int) xe_int) (xe_var (i := 2) (hv := (Or.inl (by kernel_rfl)))) (by kernel_rfl) (Or.inl (by kernel_rfl))) fun found_251 => (xb_nil (.eq (.eq (.no .nil)))))) fun s_252 => (xb_frzD (i := 1) rfl (fun _ _ _ => mu_dK) (xb_ret (xe_var (i := 1) (hv := (Or.inl (by kernel_rfl))))))))
theorem c__law_counted (pv : PV K mg base C CNoCode CWE T) (lg : LG T G) : C8.Cal P w K mg base 1 "_law_counted" (spF G (aCons (TLst TInt) aNil) (TDK TInt) fun a => m__law_counted (a.1)) [] := by
  obtain ⟨f, fd, D, hd⟩ := pv.d__law_counted
  exact def_of D (D.fn.binds hd fun _ _ _ _ _ _ us hl => match us, hl with | [_], _ => rfl) .nil sc__law_counted rfl (Empty.elim : Empty → (List (Int × Int))) (fun _ z => z.elim) fun a cdv A outer s H E hr => b__law_counted pv lg hr

def mb__law_common_of (v_one : Int) (v_other : Int) : Option (Fl Empty Empty Int) :=
  (bnd (bnd (ret (20000 : Int)) fun j => opt (rngI 0 j)) fun xs => bndF (forF (fun (s_255 : Int × Int) (i_253 : Int) => (bnd (bnd (ret s_255.2) fun x => bnd (ret (0 : Int)) fun y => ret (decide (x = y))) fun k => if k then (bnd (ret s_255.1) fun r => ret (.rt r)) else (bnd (bnd (ret s_255.2) fun u0 => bnd (bnd (bnd (bnd (ret s_255.1) fun x => bnd (ret ()) fun r => ret (x, r)) fun x => ret x.1) fun x => bnd (ret s_255.2) fun y => opt (modC x y)) fun u1 => ret (u0, u1)) fun p_256 => (ret (.nx (p_256.1, p_256.2)))))) xs (v_one, v_other)) fun s_257 => (bnd (ret s_257.1) fun r => ret (.rt r)))
def m__law_common_of (v_one : Int) (v_other : Int) : Option Int := retF (Empty.elim : Empty → Int) (mb__law_common_of v_one v_other)
theorem sc__law_common_of : FnScope ["one", "other", "lap"] ["one", "other"] (C8.fnScope s__law_common_of) := C8.fnScope_by (by decide +kernel)
theorem b__law_common_of (pv : PV K mg base C CNoCode CWE T) (lg : LG T G) {v_one : Int} {v_other : Int} {f : Addr} {cdv : Value} {A : Around} {outer : List Env} {s : Shared} {H : Hp} {E : XK} (hr : Room 0 (A.deeper (envOfC "_law_common_of" (C8.fnScope s__law_common_of) s.heap.objs.size f cdv))) :
    XB G (cxOf C8.CX0 P w K mg base ["one", "other", "lap"] "_law_common_of" (C8.fnScope s__law_common_of) f cdv A outer s H E).nox (C8.fnBody s__law_common_of) [some (.sh TInt v_one), some (.sh TInt v_other), none] (Empty.elim : Empty → Ga) (Empty.elim : Empty → Ga) TInt (mb__law_common_of v_one v_other) := by
  unfold mb__law_common_of
  exact (xb_for (τ := TInt) (g1 := fun (s_255 : Int × Int) => [some (.sh TInt s_255.1), some (.sh TInt s_255.2), none]) PassesOwn.never (xi_rng1 pv.n_range xe_int) (xg_name (i := 2) sc__law_common_of.nd (hx := (Or.inl (by kernel_rfl))) (hf := (.inl (by kernel_rfl)))) (.eq (.eq (.no .nil))) (fun s_255 i_253 => (xb_ifR (xt_cmp op_eq rb_eqI (xe_var (i := 1) (hv := (Or.inl (by kernel_rfl)))) xe_int (by kernel_rfl)) (xe_var (i := 0) (hv := (Or.inl (by kernel_rfl)))) (xb_seq (xs_par (i := 0) (j := 1) (fun h => ps_par rfl sc__law_common_of.nd (by kernel_rfl) (by kernel_rfl) (by decide) (by kernel_rfl) (by kernel_rfl) h (by kernel_rfl) (by kernel_rfl)) (xe_var (i := 1) (hv := (Or.inl (by kernel_rfl)))) (xe_op op_mod rb_mod (xe_callTy call_int1 rc_int1 pv.n_int (by kernel_rfl) (xa_cons (xe_var (i := 0) (hv := (Or.inl (by kernel_rfl)))) xa_nil)) (xe_var (i := 1) (hv := (Or.inl (by kernel_rfl)))))) fun p_256 => (xb_nil (.eq (.eq (.no .nil))))))) fun s_257 => (xb_ret (xe_var (i := 0) (hv := (Or.inl (by kernel_rfl))))))
theorem c__law_common_of (pv : PV K mg base C CNoCode CWE T) (lg : LG T G) : C8.Cal P w K mg base 1 "_law_common_of" (spF G (aCons TInt (aCons TInt aNil)) TInt fun a => m__law_common_of (a.1) (a.2.1)) [] := by
  obtain ⟨f, fd, D, hd⟩ := pv.d__law_common_of
  exact def_of D (D.fn.binds hd fun _ _ _ _ _ _ us hl => match us, hl with | [_, _], _ => rfl) .nil sc__law_common_of rfl (Empty.elim : Empty → Int) (fun _ z => z.elim) fun a cdv A outer s H E hr => b__law_common_of pv lg hr

def mb__law_low (v_top : Int) (v_bottom : Int) : Option (Fl Empty Empty (Int × Int)) :=
  (bnd (bnd (bnd (ret v_top) fun x => bnd (bnd (ret v_bottom) fun x => bnd (ret ()) fun r => ret (x, r)) fun r => ret (x, r)) fun a => opt (m__law_common_of (a.1) (a.2.1))) fun common_258 => (bnd (bnd (bnd (ret v_top) fun x => bnd (ret common_258) fun y => opt (divW x y)) fun x => bnd (bnd (ret v_bottom) fun x => bnd (ret common_258) fun y => opt (divW x y)) fun y => ret (x, y)) fun r => ret (.rt r)))
def m__law_low (v_top : Int) (v_bottom : Int) : Option (Int × Int) := retF (Empty.elim : Empty → (Int × Int)) (mb__law_low v_top v_bottom)
theorem sc__law_low : FnScope ["top", "bottom", "common"] ["top", "bottom"] (C8.fnScope s__law_low) := C8.fnScope_by (by decide +kernel)
theorem b__law_low (pv : PV K mg base C CNoCode CWE T) (lg : LG T G) {v_top : Int} {v_bottom : Int} {f : Addr} {cdv : Value} {A : Around} {outer : List Env} {s : Shared} {H : Hp} {E : XK} (hr : Room 1 (A.deeper (envOfC "_law_low" (C8.fnScope s__law_low) s.heap.objs.size f cdv))) :
    XB G (cxOf C8.CX0 P w K mg base ["top", "bottom", "common"] "_law_low" (C8.fnScope s__law_low) f cdv A outer s H E).nox (C8.fnBody s__law_low) [some (.sh TInt v_top), some (.sh TInt v_bottom), none] (Empty.elim : Empty → Ga) (Empty.elim : Empty → Ga) (T2 TInt TInt) (mb__law_low v_top v_bottom) := by
  unfold mb__law_low
  exact (xb_seq (xs_set (i := 2) (xe_callP (k := 1) (c__law_common_of pv lg) hr (by decide) (xa_cons (xe_var (i := 0) (hv := (Or.inl (by kernel_rfl)))) (xa_cons (xe_var (i := 1) (hv := (Or.inl (by kernel_rfl)))) xa_nil))) sc__law_low.nd (hx := (Or.inl (by kernel_rfl))) (hf := (.inl (by kernel_rfl)))) fun common_258 => (xb_ret (xe_t2 (xe_op op_fdivW rb_divW (xe_var (i := 0) (hv := (Or.inl (by kernel_rfl)))) (xe_var (i := 2) (hv := (Or.inl (by kernel_rfl))))) (xe_op op_fdivW rb_divW (xe_var (i := 1) (hv := (Or.inl (by kernel_rfl)))) (xe_var (i := 2) (hv := (Or.inl (by kernel_rfl))))))))
theorem c__law_low (pv : PV K mg base C CNoCode CWE T) (lg : LG T G) : C8.Cal P w K mg base 2 "_law_low" (spF G (aCons TInt (aCons TInt aNil)) (T2 TInt TInt) fun a => m__law_low (a.1) (a.2.1)) [] := by
  obtain ⟨f, fd, D, hd⟩ := pv.d__law_low
  exact def_of D (D.fn.binds hd fun _ _ _ _ _ _ us hl => match us, hl with | [_, _], _ => rfl) .nil sc__law_low rfl (Empty.elim : Empty → (Int × Int)) (fun _ z => z.elim) fun a cdv A outer s H E hr => b__law_low pv lg hr

def mb__law_power (v_base : Int) (v_times : Int) : Option (Fl Empty Empty Int) :=
  (bnd (ret (1 : Int)) fun found_259 => (bnd (bnd (ret v_times) fun j => opt (rngI 0 j)) fun xs => bndF (forF (fun (s_262 : Int) (i_260 : Int) => (bnd (bnd (ret s_262) fun x => bnd (ret v_base) fun y => opt (mulW x y)) fun found_263 => (ret (.nx found_263)))) xs found_259) fun s_264 => (bnd (ret s_264) fun r => ret (.rt r))))
def m__law_power (v_base : Int) (v_times : Int) : Option Int := retF (Empty.elim : Empty → Int) (mb__law_power v_base v_times)
theorem sc__law_power : FnScope ["base", "times", "found", "lap"] ["base", "times"] (C8.fnScope s__law_power) := C8.fnScope_by (by decide +kernel)
theorem b__law_power (pv : PV K mg base C CNoCode CWE T) (lg : LG T G) {v_base : Int} {v_times : Int} {f : Addr} {cdv : Value} {A : Around} {outer : List Env} {s : Shared} {H : Hp} {E : XK} (hr : Room 0 (A.deeper (envOfC "_law_power" (C8.fnScope s__law_power) s.heap.objs.size f cdv))) :
    XB G (cxOf C8.CX0 P w K mg base ["base", "times", "found", "lap"] "_law_power" (C8.fnScope s__law_power) f cdv A outer s H E).nox (C8.fnBody s__law_power) [some (.sh TInt v_base), some (.sh TInt v_times), none, none] (Empty.elim : Empty → Ga) (Empty.elim : Empty → Ga) TInt (mb__law_power v_base v_times) := by
  unfold mb__law_power
  exact (xb_seq (xs_set (i := 2) xe_int sc__law_power.nd (hx := (Or.inl (by kernel_rfl))) (hf := (.inl (by kernel_rfl)))) fun found_259 => (xb_for (τ := TInt) (g1 := fun (s_262 : Int) => [some (.sh TInt v_base), some (.sh TInt v_times), some (.sh TInt s_262), none]) PassesOwn.never (xi_rng1 pv.n_range (xe_var (i := 1) (hv := (Or.inl (by kernel_rfl))))) (xg_name (i := 3) sc__law_power.nd (hx := (Or.inl (by kernel_rfl))) (hf := (.inl (by kernel_rfl)))) (.eq (.eq (.eq (.no .nil)))) (fun s_262 i_260 => (xb_seq (xs_set (i := 2) (xe_op op_mulW rb_mulW (xe_var (i := 2) (hv := (Or.inl (by kernel_rfl)))) (xe_var (i := 0) (hv := (Or.inl (by kernel_rfl))))) sc__law_power.nd (hx := (Or.inl (by kernel_rfl))) (hf := (.inl (by kernel_rfl)))) fun found_263 => (xb_nil (.eq (.eq (.eq (.no .nil))))))) fun s_264 => (xb_ret (xe_var (i := 2) (hv := (Or.inl (by kernel_rfl)))))))
theorem c__law_power (pv : PV K mg base C CNoCode CWE T) (lg : LG T G) : C8.Cal P w K mg base 1 "_law_power" (spF G (aCons TInt (aCons TInt aNil)) TInt fun a => m__law_power (a.1) (a.2.1)) [] := by
  obtain ⟨f, fd, D, hd⟩ := pv.d__law_power
  exact def_of D (D.fn.binds hd fun _ _ _ _ _ _ us hl => match us, hl with | [_, _], _ => rfl) .nil sc__law_power rfl (Empty.elim : Empty → Int) (fun _ z => z.elim) fun a cdv A outer s H E hr => b__law_power pv lg hr

theorem sc__law_caught : FnScope ["work", "found", "error"] ["work"] (C8.fnScope s__law_caught) := C8.fnScope_by (by decide +kernel)
end Wk
/-! What the defs compute, A: the small ones, Watch. -/
namespace Wk
open PySem L2 Wc
open Mon (ret bnd opt run)
theorem is_number_eq (x : Int) : m_is_number x = some true := rfl
theorem is_between_eq (x lo hi : Int) : m_is_between x lo hi = some (decide (lo ≤ x ∧ x ≤ hi)) := by
  unfold m_is_between mb_is_between
  simp only [oret, oopt, obnd, is_number_eq, if_true]
  by_cases h : lo ≤ x
  · simp only [h, decide_true, if_true, true_and, obnd, oretFr]
  · simp only [h, decide_false, false_and, obnd, oretFr]
    rfl
theorem is_list_eq {α : Type} (xs : List α) : m_is_list xs = some true := rfl
theorem is_short_list_eq {α : Type} (xs : List α) : m_is_short_list xs = some (decide ((xs.length : Int) ≤ 300)) := by
  unfold m_is_short_list mb_is_short_list
  simp only [oret, oopt, obnd, is_list_eq, if_true, oretFr]
theorem is_word_eq (x : Int) : m_is_word x = some (decide (0 ≤ x ∧ x ≤ 3)) := by
  unfold m_is_word mb_is_word
  simp only [oret, oopt, obnd, is_between_eq, oretFr]
theorem first_wrong_eq {α : Type} {pf : α → Option Bool} {xs : List α} (h : ∀ x ∈ xs, pf x = some true) : m_first_wrong pf xs = some none := by
  unfold m_first_wrong mb_first_wrong
  simp only [oret, obnd]
  refine for_ret (fun _ _ => True) trivial (fun pre x post s e _ => ?_) fun _ _ => rfl
  obtain ⟨i, _, hi⟩ := enumI_mem (p := x) (xs := xs) (by rw [e]; simp)
  refine ⟨(), ?_, trivial⟩
  rw [h x.2 (List.mem_of_getElem? hi)]
  rfl
theorem need_row_of_eq {k : Int} {row : List Int} (hl : row.length ≤ 300) (h : ∀ x ∈ row, 0 ≤ x ∧ x < k) : m_need_row_of k row = some () := by
  unfold m_need_row_of mb_need_row_of
  have h300 : ((row.length : Int) ≤ 300) := by omega
  have hw : m_first_wrong (fun (l_2 : Int) => (some (decide (0 ≤ l_2 ∧ l_2 ≤ k - 1)) : Option Bool)) row = some none := first_wrong_eq fun x hx => by
    have := h x hx
    have h2 : x ≤ k - 1 := by omega
    simp [this.1, h2]
  simp only [oret, oopt, obnd, is_short_list_eq, is_between_eq, h300, decide_true, Bool.not_true, if_false, hw]
  rfl
theorem W_moves_eq (mv : List (List Int)) (ws : List Int) : wMoves (((), mv), ws) = some mv := rfl
theorem W_words_eq (mv : List (List Int)) (ws : List Int) : wWords (((), mv), ws) = some ws := rfl
section
variable {mv : List (List Int)} {ws : List Int} {n q : Nat}
theorem W_kinds_eq (W : WOk mv ws n q) : wKinds (((), mv), ws) = some (q : Int) := by
  obtain ⟨l, e, _, hl, _⟩ := W.goals (p := 0) (Int.le_refl 0) (by have := W.n1; omega)
  unfold wKinds mb_W_kinds
  simp only [oret, oopt, obnd, e, oretFr, hl]
theorem need_row_eq (W : WOk mv ws n q) {row : List Int} (hl : row.length ≤ 300) (h : ∀ x ∈ row, 0 ≤ x ∧ x < (q : Int)) : m_need_row (((), mv), ws) row = some () := by
  unfold m_need_row mb_need_row
  simp only [oret, oopt, obnd, W_kinds_eq W, need_row_of_eq hl h]
  rfl
theorem need_watch_eq (w : Wt) : m_need_watch w () = some () := rfl
theorem need_verdict_eq {v : Int} (h : 0 ≤ v ∧ v ≤ 3) : m_need_verdict v = some () := by
  unfold m_need_verdict mb_need_verdict
  simp only [oret, oopt, obnd, is_between_eq, h, and_self, decide_true, Bool.not_true, if_false]
  rfl
theorem is_line_eq {l : List Int} {k p : Int} (hk : (l.length : Int) = k) (hl : l.length < 1000000) (h : ∀ x ∈ l, 0 ≤ x ∧ x < p) : m_is_line l k p = some true := by
  unfold m_is_line mb_is_line
  simp only [oret, oopt, obnd, is_list_eq, Bool.not_true, hk, decide_true, if_false, is_between_eq]
  rw [lcC_map (fun x => decide (0 ≤ x ∧ x ≤ p - 1)) hl (fun x _ => rfl)]
  simp only [obnd, oret, if_false, Bool.false_eq_true]
  have : ((l.map fun x => decide (0 ≤ x ∧ x ≤ p - 1)).all id) = true := by
    rw [List.all_map, List.all_eq_true]
    intro x hx
    have := h x hx
    have h2 : x ≤ p - 1 := by omega
    simp [this.1, h2]
  rw [this]
  rfl
theorem need_moves_eq (W : WOk mv ws n q) : m_need_moves mv = some () := by
  obtain ⟨l, e, _, hl, _⟩ := W.goals (p := 0) (Int.le_refl 0) (by have := W.n1; omega)
  have n1 := W.n1
  have n6 := W.n6
  have q1 := W.q1
  have q4 := W.q4
  have hm := W.len
  have a1 : (1 : Int) ≤ (mv.length : Int) := by omega
  have a2 : (mv.length : Int) ≤ 6 := by omega
  have a3 : (1 : Int) ≤ (l.length : Int) := by omega
  have a4 : (l.length : Int) ≤ 4 := by omega
  have hw : m_first_wrong (fun (l_5 : List Int) => m_is_line l_5 (l.length : Int) (mv.length : Int)) mv = some none := first_wrong_eq fun x hx => is_line_eq (by rw [W.wid x hx, hl]) (by rw [W.wid x hx]; omega) fun z hz => by
    have := W.rng x hx z hz
    omega
  unfold m_need_moves mb_need_moves
  simp only [oret, oopt, obnd, is_list_eq, Bool.not_true, if_false, Bool.false_eq_true, a1, a2, decide_true, if_true, e, a3, a4, hw]
  rfl
theorem need_words_eq (W : WOk mv ws n q) : m_need_words ws (mv.length : Int) = some () := by
  have hl : ((ws.length : Int) = (mv.length : Int)) := by rw [W.lw, W.len]
  have hw : m_first_wrong m_is_word ws = some none := first_wrong_eq fun x hx => by
    have := W.wr x hx
    have h2 : x ≤ 3 := by omega
    rw [is_word_eq]
    simp [this.1, h2]
  unfold m_need_words mb_need_words
  simp only [oret, oopt, obnd, is_list_eq, Bool.not_true, if_false, Bool.false_eq_true, hl, decide_true, hw]
  rfl
theorem mkW_eq (W : WOk mv ws n q) : mkW mv ws = some (((), mv), ws) := by
  unfold mkW mb_W_init
  simp only [oret, oopt, obnd, need_moves_eq W, need_words_eq W]
  rw [lcC_map (fun x => x) (by have := W.len; have := W.n6; omega) (fun x _ => rfl), List.map_id']
  rfl
end
end Wk
/-! What the defs compute, B: word_counts, near_by. -/
namespace Wk
open PySem L2 Wc
open Mon (ret bnd opt run)
section
variable {mv : List (List Int)} {ws : List Int} {n q : Nat}
/-- how many rows lead to a place -/
def many (mv : List (List Int)) (q t : Nat) (p : Int) : Int := sm (rows q t) fun r => if pl mv 0 r = p then 1 else 0
theorem many_0 (mv : List (List Int)) (q : Nat) (p : Int) : many mv q 0 p = if p = 0 then 1 else 0 := by
  unfold many
  show sm [[]] _ = _
  rw [sm_one]
  show (if (0 : Int) = p then 1 else 0) = _
  by_cases h : p = 0
  · rw [if_pos h, if_pos h.symm]
  · rw [if_neg h, if_neg fun z => h z.symm]
theorem rows_pl (W : WOk mv ws n q) {t : Nat} {r : List Int} (h : r ∈ rows q t) : 0 ≤ pl mv 0 r ∧ pl mv 0 r < n := W.pl_rng (Int.le_refl 0) (by have := W.n1; omega) (rows_mem.mp h).2
theorem many_succ (W : WOk mv ws n q) (t : Nat) (z : Int) : many mv q (t + 1) z = sm (ks n) fun p => sm (ks q) fun k => if go mv p k = z then many mv q t p else 0 := by
  have e : ∀ p, (sm (ks q) fun k => if go mv p k = z then many mv q t p else 0) = many mv q t p * sm (ks q) fun k => if go mv p k = z then 1 else 0 := fun p => by
    rw [← sm_mul]
    exact sm_congr fun k _ => by
      split
      · omega
      · omega
  rw [sm_congr fun p _ => e p]
  unfold many
  rw [sm_fib (φ := fun r => pl mv 0 r) (fun r hr => rows_pl W hr), sm_snoc]
  exact sm_congr fun r _ => sm_congr fun k _ => by rw [pl_snoc]
theorem many_code (W : WOk mv ws n q) (t : Nat) (v : Int) : (sm (ks n) fun p => if say ws p = v then many mv q t p else 0) = ((codeW mv ws q v t).length : Int) := by
  rw [sm_congr (g := fun p => many mv q t p * if say ws p = v then 1 else 0) fun p _ => by split <;> omega]
  unfold many
  rw [sm_fib (φ := fun r => pl mv 0 r) (fun r hr => rows_pl W hr)]
  unfold codeW
  rw [← sm_count]
  exact sm_congr fun r _ => by simp
theorem word_counts_eq (W : WOk mv ws n q) {t : Nat} (ht : t ≤ 300) : m_word_counts (((), mv), ws) (t : Int) = some (arr 4 fun v => ((codeW mv ws q v t).length : Int)) := by
  have n1 := W.n1
  have n6 := W.n6
  have h1 : ((0 : Int) ≤ (t : Int) ∧ (t : Int) ≤ 300) := by omega
  have hrep : repC [(0 : Int)] (n : Int) = some (arr n fun _ => 0) := arr_rep (by omega)
  have hset : setC (arr n fun _ => 0) 0 1 = some (arr n (many mv q 0)) := by
    rw [arr_set (Int.le_refl 0) (by omega)]
    refine congrArg some ?_
    exact arr_congr fun p _ _ => (many_0 mv q p).symm
  have h4 : repC [(0 : Int)] (3 + 1) = some (arr 4 fun _ => 0) := by
    rw [show ((3 : Int) + 1) = ((4 : Nat) : Int) from rfl]
    exact arr_rep (by decide)
  unfold m_word_counts mb_word_counts
  simp only [oret, oopt, obnd, need_watch_eq, is_between_eq, h1, and_self, decide_true, Bool.not_true, if_false, Bool.false_eq_true, W_moves_eq, W_words_eq, W.len, hrep, hset, rngI_ks (q := t) (by omega)]
  refine for_ret (fun pre s => s = arr n (many mv q pre.length)) rfl (fun pre x post s e hs => ?_) fun s hs => ?_
  · subst hs
    simp only [arr_len, hrep, obnd, enum_arr]
    refine for_ex (fun done s => s = arr n fun z => sm done fun pw => sm (ks q) fun k => if go mv pw.1 k = z then pw.2 else 0) rfl (fun done pw more s e2 hs => ?_) fun s hs => ⟨_, rfl, ?_⟩
    · subst hs
      have hpw : pw ∈ (ks n).map fun p => (p, many mv q pre.length p) := by rw [e2]; simp
      obtain ⟨p, hp, ep⟩ := List.mem_map.mp hpw
      have hp := ks_mem.mp hp
      subst ep
      obtain ⟨l, hl, el⟩ := W.row hp.1 hp.2
      simp only [hl, obnd]
      refine for_ex (fun gone s => s = arr n fun z => (sm done fun pw => sm (ks q) fun k => if go mv pw.1 k = z then pw.2 else 0) + sm gone fun g => if g = z then many mv q pre.length p else 0) ?_ (fun gone g more s e3 hs => ?_) fun s hs => ⟨_, rfl, ?_⟩
      · exact arr_congr fun z _ _ => by rw [sm_nil]; omega
      · subst hs
        have hg : g ∈ l := by rw [e3]; simp
        rw [el] at hg
        obtain ⟨k, hk, ek⟩ := List.mem_map.mp hg
        have hk := ks_mem.mp hk
        have hgr := W.go_rng hp.1 hp.2 hk.1 hk.2
        rw [ek] at hgr
        simp only [arr_bump _ hgr.1 hgr.2, obnd]
        refine ⟨_, rfl, arr_congr fun z _ _ => ?_⟩
        rw [sm_app, sm_one]
        omega
      · rw [hs]
        refine arr_congr fun z _ _ => ?_
        rw [sm_app, sm_one, el, sm_map]
    · rw [hs]
      refine arr_congr fun z _ _ => ?_
      rw [List.length_append, sm_map]
      exact (many_succ W pre.length z).symm
  · subst hs
    simp only [h4, obnd, enum_arr, ks_len]
    refine for_ret (fun done s => s = arr 4 fun v => sm done fun pw => if say ws pw.1 = v then pw.2 else 0) rfl (fun done pw more s e2 hs => ?_) fun s hs => ?_
    · subst hs
      have hpw : pw ∈ (ks n).map fun p => (p, many mv q t p) := by rw [e2]; simp
      obtain ⟨p, hp, ep⟩ := List.mem_map.mp hpw
      have hp := ks_mem.mp hp
      subst ep
      have hs := W.say_rng hp.1 hp.2
      have hs4 : say ws p < ((4 : Nat) : Int) := hs.2
      simp only [W.say_at hp.1 hp.2, obnd, arr_bump _ hs.1 hs4]
      refine ⟨_, rfl, arr_congr fun z _ _ => ?_⟩
      rw [sm_app, sm_one]
    · rw [hs]
      simp only [obnd, oretFr]
      refine congrArg some ?_
      refine arr_congr fun v _ _ => ?_
      rw [sm_map]
      exact many_code W t v
end
end Wk
/-! What the defs compute, C: near_by. -/
namespace Wk
open PySem L2 Wc
open Mon (ret bnd opt run)
section
variable {mv : List (List Int)} {ws : List Int} {n q : Nat}
/-- the key behind an event -/
def stepK (mv : List (List Int)) (ev : Int) (key : Int × Int) (k : Int) : Int × Int := (go mv key.1 k, if k = ev then key.2 else key.2 + 1)
/-- the pairs of place and differences of all rows beside the first events of a row -/
def prs (mv : List (List Int)) (q : Nat) (pre : List Int) : List (Int × Int) := (rows q pre.length).map fun r => (pl mv 0 r, diff pre r)
theorem prs_snoc (pre : List Int) (x : Int) (f : Int × Int → Int) : sm (prs mv q (pre ++ [x])) f = sm (prs mv q pre) fun key => sm (ks q) fun k => f (stepK mv x key k) := by
  unfold prs
  rw [sm_map, sm_map, List.length_append, List.length_singleton, sm_snoc]
  refine sm_congr fun r hr => sm_congr fun k _ => ?_
  have hl := (rows_mem.mp hr).1
  rw [pl_snoc, diff_snoc hl.symm]
  unfold stepK
  show f _ = f _
  congr 2
  show diff pre r + _ = if k = x then diff pre r else diff pre r + 1
  by_cases h : k = x
  · rw [if_pos h, if_pos h.symm]
    omega
  · rw [if_neg h, if_neg fun z => h z.symm]
theorem prs_key (W : WOk mv ws n q) {pre : List Int} {p : Int × Int} (h : p ∈ prs mv q pre) : (0 ≤ p.1 ∧ p.1 < (n : Int)) ∧ 0 ≤ p.2 ∧ p.2 < ((pre.length + 1 : Nat) : Int) := by
  obtain ⟨r, hr, e⟩ := List.mem_map.mp h
  rw [← e]
  have := diff_le pre r
  exact ⟨rows_pl W hr, diff_nonneg _ _, by show diff pre r < _; omega⟩
theorem near_by_eq (W : WOk mv ws n q) {v : Int} {row : List Int} (hl : row.length ≤ 60) : ∃ d, m_near_by (((), mv), ws) v row = some d ∧ Rep d ((codeW mv ws q v row.length).map (diff row)) ∧ Asc d := by
  have n6 := W.n6
  unfold m_near_by mb_near_by
  simp only [oret, oopt, obnd, W_moves_eq, W_words_eq]
  refine for_retE (fun pre line => Rep line (prs mv q pre)) (rep_one (0, 0)) (fun pre x post line e hline => ?_) fun line hline => ?_
  · have hpre : pre.length ≤ 60 := by
      have := congrArg List.length e
      rw [List.length_append, List.length_cons] at this
      omega
    refine for_ex (fun done s => Rep s (done.flatMap fun kw => (ks q).flatMap fun k => List.replicate kw.2.toNat (stepK mv x kw.1 k)) ∧ ∀ key ∈ s.map (·.1), (0 ≤ key.1 ∧ key.1 < (n : Int)) ∧ 0 ≤ key.2 ∧ key.2 < ((62 : Nat) : Int)) ⟨rep_nil, by simp⟩ (fun done kw more s e2 hs => ?_) fun s hs => ⟨_, rfl, hs.1.congr fun f => ?_⟩
    · have hkw : kw ∈ line := by rw [e2]; simp
      have hkey := prs_key W (hline.mem hkw).1
      have hpos := hline.pos kw hkw
      obtain ⟨l, hl, _⟩ := W.row hkey.1.1 hkey.1.2
      simp only [hl, obnd, enum_row W hkey.1.1 hkey.1.2 hl]
      refine for_ex (fun gone s => Rep s ((done.flatMap fun kw => (ks q).flatMap fun k => List.replicate kw.2.toNat (stepK mv x kw.1 k)) ++ gone.flatMap fun kg => List.replicate kw.2.toNat (stepK mv x kw.1 kg.1)) ∧ ∀ key ∈ s.map (·.1), (0 ≤ key.1 ∧ key.1 < (n : Int)) ∧ 0 ≤ key.2 ∧ key.2 < ((62 : Nat) : Int)) ?_ (fun gone kg more s e3 hs => ?_) fun s hs => ⟨_, rfl, ?_⟩
      · rw [List.flatMap_nil, List.append_nil]
        exact hs
      · have hkg : kg ∈ (ks q).map fun k => (k, go mv kw.1.1 k) := by rw [e3]; simp
        obtain ⟨k, hk, ek⟩ := List.mem_map.mp hkg
        have hk := ks_mem.mp hk
        subst ek
        have hlen : s.length < 1000000 := by
          rw [rep_keys_len]
          have := pairs_len hs.1.nd hs.2
          have : n * 62 ≤ 6 * 62 := Nat.mul_le_mul_right _ n6
          omega
        simp only [if_some, obnd]
        refine ⟨dput s (stepK mv x kw.1 k) ((dget s (stepK mv x kw.1 k)).getD 0 + kw.2), ?_, ?_, fun key hkey' => ?_⟩
        · show bnd (dputC s (stepK mv x kw.1 k) _) _ = _
          unfold dputC
          rw [if_pos hlen]
          rfl
        · rw [List.flatMap_append, ← List.append_assoc]
          refine hs.1.put _ hpos fun f => ?_
          rw [List.flatMap_cons, List.flatMap_nil, List.append_nil, sm_rep, show ((kw.2.toNat : Nat) : Int) = kw.2 by omega]
        · rw [keys_dput] at hkey'
          have hnew : (0 ≤ (stepK mv x kw.1 k).1 ∧ (stepK mv x kw.1 k).1 < (n : Int)) ∧ 0 ≤ (stepK mv x kw.1 k).2 ∧ (stepK mv x kw.1 k).2 < ((62 : Nat) : Int) := by
            refine ⟨W.go_rng hkey.1.1 hkey.1.2 hk.1 hk.2, ?_⟩
            show 0 ≤ (if k = x then kw.1.2 else kw.1.2 + 1) ∧ (if k = x then kw.1.2 else kw.1.2 + 1) < _
            have := hkey.2
            split <;> omega
          split at hkey'
          · exact hs.2 key hkey'
          · rcases List.mem_append.mp hkey' with h | h
            · exact hs.2 key h
            · rw [List.mem_singleton.mp h]
              exact hnew
      · rw [List.flatMap_append, List.flatMap_cons, List.flatMap_nil, List.append_nil]
        rw [List.flatMap_map] at hs
        exact hs
    · rw [prs_snoc, ← hline.sum, sm_flat]
      unfold ms
      refine sm_congr fun kw hkw => ?_
      have hpos := hline.pos kw hkw
      rw [sm_flat, ← sm_mul]
      exact sm_congr fun k _ => by rw [sm_rep, show ((kw.2.toNat : Nat) : Int) = kw.2 by omega]
  · refine for_retE (fun done s => Rep s (done.flatMap fun kw => if say ws kw.1.1 = v then List.replicate kw.2.toNat kw.1.2 else []) ∧ ∀ key ∈ s.map (·.1), 0 ≤ key ∧ key < ((61 : Nat) : Int)) ⟨rep_nil, by simp⟩ (fun done kw more s e2 hs => ?_) fun s hs => ?_
    · have hkw : kw ∈ line := by rw [e2]; simp
      have hkey := prs_key W (hline.mem hkw).1
      have hpos := hline.pos kw hkw
      have hlen : s.length < 1000000 := by
        rw [rep_keys_len]
        have := ints_len hs.1.nd hs.2
        omega
      simp only [W.say_at hkey.1.1 hkey.1.2, obnd]
      rw [List.flatMap_append, List.flatMap_cons, List.flatMap_nil, List.append_nil]
      by_cases hv : say ws kw.1.1 = v
      · refine ⟨dput s kw.1.2 ((dget s kw.1.2).getD 0 + kw.2), ?_, ?_, fun key hkey' => ?_⟩
        · rw [if_pos (decide_eq_true hv)]
          unfold dputC
          rw [if_pos hlen]
          rfl
        · rw [if_pos hv]
          exact hs.1.put _ hpos fun f => by rw [sm_rep, show ((kw.2.toNat : Nat) : Int) = kw.2 by omega]
        · rw [keys_dput] at hkey'
          split at hkey'
          · exact hs.2 key hkey'
          · rcases List.mem_append.mp hkey' with h | h
            · exact hs.2 key h
            · rw [List.mem_singleton.mp h]
              have := hkey.2
              omega
      · refine ⟨s, ?_, ?_, hs.2⟩
        · rw [if_neg (fun z => hv (of_decide_eq_true z))]
        · rw [if_neg hv, List.append_nil]
          exact hs.1
    · have hrep : Rep s ((codeW mv ws q v row.length).map (diff row)) := hs.1.congr fun f => by
        rw [sm_flat, sm_map]
        unfold codeW
        rw [sm_filter]
        have e1 := hline.sum fun key => if say ws key.1 = v then f key.2 else 0
        unfold prs at e1
        rw [sm_map] at e1
        rw [sm_congr (g := fun r => if say ws (pl mv 0 r) = v then f (diff row r) else 0) fun r _ => by simp]
        refine Eq.trans ?_ e1
        unfold ms
        refine sm_congr fun kw hkw => ?_
        have hpos := hline.pos kw hkw
        show sm (if say ws kw.1.1 = v then List.replicate kw.2.toNat kw.1.2 else []) f = kw.2 * (if say ws kw.1.1 = v then f kw.1.2 else 0)
        by_cases hv : say ws kw.1.1 = v
        · rw [if_pos hv, if_pos hv, sm_rep, show ((kw.2.toNat : Nat) : Int) = kw.2 by omega]
        · rw [if_neg hv, if_neg hv, sm_nil]
          omega
      have h64 : s.length < 64 := by
        rw [rep_keys_len]
        have := ints_len hs.1.nd hs.2
        omega
      obtain ⟨d, e, r, a⟩ := rep_sorted hrep h64 (f := fun c => bnd (dget s c) fun y => some (some (c, y))) fun x v hx => by rw [hx, obnd]
      exact ⟨d, by rw [e, obnd, oretFr], r, a⟩
end
end Wk
/-! What the defs compute, D: noise. -/
namespace Wk
open PySem L2 Wc
open Mon (ret bnd opt run)
theorem raised_eq {i t : Nat} {b : Int} (hb : Sz i b) (h : i * t + 1 + i < 1000000) (ht : t < 1000000) : m_raised b (t : Int) = some (b ^ t) := by
  unfold m_raised mb_raised
  simp only [oret, oopt, obnd, rngI_ks (q := t) (by omega)]
  refine for_ret (fun pre s => s = b ^ pre.length) (Int.pow_zero b).symm (fun pre x post s e hs => ?_) fun s hs => ?_
  · subst hs
    have hpre : pre.length < t := by
      have := congrArg List.length e
      rw [ks_len, List.length_append, List.length_cons] at this
      omega
    have hm : i * pre.length ≤ i * t := Nat.mul_le_mul_left _ (Nat.le_of_lt hpre)
    rw [mulW_ok (hb.powz pre.length) hb (by omega)]
    exact ⟨_, rfl, by rw [List.length_append, List.length_singleton, Int.pow_succ]⟩
  · rw [hs, ks_len, oretFr]
/-- how many other kinds, one at least -/
def oth (q : Nat) : Int := maxI 1 ((q : Int) - 1)
theorem oth_pos (q : Nat) : 0 < oth q := by
  unfold oth maxI
  split <;> omega
theorem oth_le {q : Nat} (h : q ≤ 4) : oth q ≤ 3 := by
  unfold oth maxI
  split <;> omega
theorem oth_2 {q : Nat} (h : 2 ≤ q) : oth q = (q : Int) - 1 := by
  unfold oth maxI
  split <;> omega
/-- how likely so many changed events are, undivided -/
def wt (q : Nat) (top bot : Int) (len : Nat) (d : Int) : Int := top ^ d.toNat * ((bot - top) * oth q) ^ (len - d.toNat)
structure ShOk (q : Nat) (top bot : Int) : Prop where
  b1 : 1 ≤ bot
  b2 : bot ≤ 1000
  t0 : 0 ≤ top
  t1 : top ≤ bot
  q2 : 2 ≤ q
section
variable {mv : List (List Int)} {ws : List Int} {n q : Nat} {top bot : Int}
theorem ShOk.s1 (h : ShOk q top bot) : Sz 10 top := .of_lt h.t0 (by have := h.t1; have := h.b2; have : (2 : Int) ^ 10 = 1024 := rfl; omega)
theorem ShOk.s2 (h : ShOk q top bot) (W : WOk mv ws n q) : Sz 12 ((bot - top) * oth q) := by
  have h1 := oth_pos q
  have h2 := oth_le W.q4
  have := h.t0
  have := h.t1
  have := h.b2
  have a : (bot - top) * oth q ≤ 1000 * 3 := Int.mul_le_mul (by omega) h2 (by omega) (by omega)
  have b : 0 ≤ (bot - top) * oth q := Int.mul_nonneg (by omega) (by omega)
  exact .of_lt b (by have : (2 : Int) ^ 12 = 4096 := rfl; omega)
theorem ShOk.s3 (h : ShOk q top bot) (W : WOk mv ws n q) : Sz 12 (bot * oth q) := by
  have h1 := oth_pos q
  have h2 := oth_le W.q4
  have := h.b1
  have := h.b2
  have a : bot * oth q ≤ 1000 * 3 := Int.mul_le_mul (by omega) h2 (by omega) (by omega)
  have b : 0 ≤ bot * oth q := Int.mul_nonneg (by omega) (by omega)
  exact .of_lt b (by have : (2 : Int) ^ 12 = 4096 := rfl; omega)
theorem weight_of_eq (W : WOk mv ws n q) (h : ShOk q top bot) {len : Nat} (hl : len ≤ 60) {d : Int} (d0 : 0 ≤ d) (d1 : d ≤ len) : m_weight_of (((), mv), ws) (top, bot) (len : Int) d = some (wt q top bot len d) := by
  obtain ⟨d', rfl⟩ : ∃ d' : Nat, d = (d' : Int) := ⟨d.toNat, by omega⟩
  have hd : d' ≤ len := by omega
  have e1 : ((len : Int) - (d' : Int)) = ((len - d' : Nat) : Int) := by omega
  have hS10 : Sz 3 (oth q) := .of_lt (Int.le_of_lt (oth_pos q)) (by have := oth_le W.q4; have : (2 : Int) ^ 3 = 8 := rfl; omega)
  have hS : Sz 10 (bot - top) := .of_lt (by have := h.t1; omega) (by have := h.t0; have := h.b2; have : (2 : Int) ^ 10 = 1024 := rfl; omega)
  have r1 := raised_eq (t := d') h.s1 (by omega) (by omega)
  have r2 := raised_eq (t := len - d') (h.s2 W) (by omega) (by omega)
  have hm : mulW (bot - top) (oth q) = some ((bot - top) * oth q) := mulW_ok hS hS10 (by decide)
  have hm2 : mulW (top ^ d') (((bot - top) * oth q) ^ (len - d')) = some (wt q top bot len d') := by
    rw [mulW_ok (h.s1.powz d') ((h.s2 W).powz (len - d')) (by omega)]
    rfl
  have eo : maxI 1 ((q : Int) - 1) = oth q := rfl
  unfold m_weight_of mb_weight_of
  simp only [oret, oopt, obnd, W_kinds_eq W, eo, true_or, false_or, or_true, if_true, r1, hm, e1, r2, hm2, oretFr]
theorem all_of_eq (W : WOk mv ws n q) (h : ShOk q top bot) {len : Nat} (hl : len ≤ 60) : m_all_of (((), mv), ws) (top, bot) (len : Int) = some ((bot * oth q) ^ len) := by
  have hS10 : Sz 3 (oth q) := .of_lt (Int.le_of_lt (oth_pos q)) (by have := oth_le W.q4; have : (2 : Int) ^ 3 = 8 := rfl; omega)
  have hS : Sz 10 bot := .of_lt (by have := h.b1; omega) (by have := h.b2; have : (2 : Int) ^ 10 = 1024 := rfl; omega)
  have hm : mulW bot (oth q) = some (bot * oth q) := mulW_ok hS hS10 (by decide)
  have r := raised_eq (t := len) (h.s3 W) (by omega) (by omega)
  have eo : maxI 1 ((q : Int) - 1) = oth q := rfl
  unfold m_all_of mb_all_of
  simp only [oret, oopt, obnd, W_kinds_eq W, eo, true_or, if_true, hm, r, oretFr]
theorem need_noise_eq (W : WOk mv ws n q) (h : ShOk q top bot) : m_need_noise (((), mv), ws) (top, bot) = some () := by
  have h1 : (1 ≤ bot ∧ bot ≤ 1000) := ⟨h.b1, h.b2⟩
  have h2 : (0 ≤ top ∧ top ≤ bot) := ⟨h.t0, h.t1⟩
  have h3 : (1 : Int) < (q : Int) := by have := h.q2; omega
  unfold m_need_noise mb_need_noise
  simp only [oret, oopt, obnd, W_kinds_eq W, is_between_eq, h1, h2, h3, and_self, decide_true, Bool.not_true, if_false, Bool.false_eq_true, if_true, true_or]
  rfl
theorem need_near_eq (W : WOk mv ws n q) {v : Int} (hv : 0 ≤ v ∧ v ≤ 3) {row : List Int} (hl : row.length ≤ 300) (h : ∀ x ∈ row, 0 ≤ x ∧ x < (q : Int)) : m_need_near (((), mv), ws) v row = some () := by
  unfold m_need_near mb_need_near
  simp only [oret, oopt, obnd, need_watch_eq, need_verdict_eq hv, need_row_eq W hl h]
  rfl
theorem need_heard_eq (W : WOk mv ws n q) (hs : ShOk q top bot) {v : Int} (hv : 0 ≤ v ∧ v ≤ 3) {row : List Int} (hl : row.length ≤ 60) (h : ∀ x ∈ row, 0 ≤ x ∧ x < (q : Int)) : m_need_heard (((), mv), ws) v row (top, bot) = some () := by
  have h1 : ¬ ((60 : Int) < (row.length : Int)) := by omega
  unfold m_need_heard mb_need_heard
  simp only [oret, oopt, obnd, need_near_eq W hv (by omega) h, h1, decide_false, if_false, Bool.false_eq_true, need_noise_eq W hs]
  rfl
end
theorem divisor_of_eq {k : Nat} {a b : Int} (ha : 0 ≤ a) (hb : 0 ≤ b) (h : b < 2 ^ k) (hk : k < 9000) : m_divisor_of a b = some (Int.gcd a b : Int) := by
  unfold m_divisor_of mb_divisor_of
  simp only [oret, oopt, obnd]
  have key := eu_bound k a b ha hb h (fun m s => (whileF (fun s : Int × Int => some !decide (s.2 = 0)) (fun s : Int × Int => bnd (bnd (modC s.1 s.2) fun u1 => some (s.2, u1)) fun p => some (Fl.nx (p.1, p.2))) m s : Option (Fl (Int × Int) Empty Int)) = some (.nx ((Int.gcd a b : Int), 0))) (fun m s h2 h1 => ?_) (fun m s h1 h2 _ ih => ?_) 20000 (by omega)
  · rw [key]
    rfl
  · unfold whileF
    rw [h2, decide_eq_true rfl]
    obtain ⟨s1, s2⟩ := s
    have h1 : s1 = (Int.gcd a b : Int) := h1
    have h2 : s2 = 0 := h2
    rw [h1, h2]
    rfl
  · have hne : ¬ s.2 = 0 := by omega
    have e : (whileF (fun s : Int × Int => some !decide (s.2 = 0)) (fun s : Int × Int => bnd (bnd (modC s.1 s.2) fun u1 => some (s.2, u1)) fun p => some (Fl.nx (p.1, p.2))) (m + 1) s : Option (Fl (Int × Int) Empty Int)) = whileF (fun s : Int × Int => some !decide (s.2 = 0)) (fun s : Int × Int => bnd (bnd (modC s.1 s.2) fun u1 => some (s.2, u1)) fun p => some (Fl.nx (p.1, p.2))) m (euStep s) := by
      conv => lhs; unfold whileF
      rw [decide_eq_false hne, modC_ok h2]
      rfl
    rw [e]
    exact ih
theorem gcd_pos {a b : Int} (hb : 0 < b) : 0 < (Int.gcd a b : Int) := Int.ofNat_lt.mpr (Int.gcd_pos_of_ne_zero_right _ (Int.ne_of_gt hb))
theorem gcd_le {a b : Int} (hb : 0 < b) : (Int.gcd a b : Int) ≤ b := Int.le_of_dvd hb (Int.gcd_dvd_right ..)
theorem lowest_of_eq {k : Nat} {a b : Int} (ha : 0 ≤ a) (hb : 0 < b) (h : b < 2 ^ k) (hk : k < 9000) : m_lowest_of a b = some (low a b) := by
  have hg := gcd_pos (a := a) hb
  have hS : Sz k (Int.gcd a b : Int) := .of_lt (Int.le_of_lt hg) (Int.lt_of_le_of_lt (gcd_le hb) h)
  unfold m_lowest_of mb_lowest_of
  simp only [oret, oopt, obnd, divisor_of_eq ha (Int.le_of_lt hb) h hk, divW_ok hS hg hk, oretFr]
  rfl
theorem rows_of_eq {q n : Nat} (hq : q ≤ 4) (hn : n ≤ 60) (h : ∀ t, t ≤ n → q ^ t ≤ 4096) : m_rows_of (q : Int) (n : Int) = some (rows q n) := by
  unfold m_rows_of mb_rows_of
  simp only [oret, oopt, obnd, rngI_ks (q := n) (by omega), rngI_ks (q := q) (by omega)]
  refine for_ret (fun pre s => s = rows q pre.length) rfl (fun pre x post s e hs => ?_) fun s hs => ?_
  · subst hs
    have hpre : pre.length + 1 ≤ n := by
      have := congrArg List.length e
      rw [ks_len, List.length_append, List.length_cons] at this
      omega
    have hlen : (rows q (pre.length + 1)).length ≤ 4096 := by
      rw [rows_len]
      exact h _ hpre
    rw [lc2F_map (ys := fun _ => ks q) (g := fun r k => r ++ [k]) _ [] (fun _ _ => rfl) (fun r hr k _ => ?_) (by
      rw [← rows_snoc]
      show 0 + _ ≤ _
      omega), List.nil_append, ← rows_snoc, obnd]
    · have h1 : ¬ ((4096 : Int) < ((rows q (pre.length + 1)).length : Int)) := by omega
      rw [decide_eq_false h1]
      exact ⟨_, rfl, by rw [List.length_append, List.length_singleton]⟩
    · unfold lim
      have := (rows_mem.mp hr).1
      rw [if_pos (by rw [List.length_append, List.length_singleton]; omega)]
  · rw [hs, ks_len, oretFr]
theorem codeW_le (mv : List (List Int)) (ws : List Int) (q : Nat) (v : Int) (t : Nat) : (codeW mv ws q v t).length ≤ q ^ t := by
  rw [← rows_len q t]
  exact List.length_filter_le _ _
section
variable {mv : List (List Int)} {ws : List Int} {n q : Nat} {top bot : Int}
theorem pow_size {q t : Nat} (hq : q ≤ 4) (ht : t ≤ 60) : q ^ t ≤ 2 ^ 120 := by
  have h1 : q ^ t ≤ 4 ^ t := Nat.pow_le_pow_left hq t
  have h2 : (4 : Nat) ^ t ≤ 4 ^ 60 := Nat.pow_le_pow_right (by decide) ht
  have h3 : (4 : Nat) ^ 60 = 2 ^ 120 := by decide +kernel
  omega
theorem code_size (W : WOk mv ws n q) {v : Int} {t : Nat} (ht : t ≤ 60) {c : Int} (h0 : 0 ≤ c) (h : c ≤ ((codeW mv ws q v t).length : Int)) : Sz 121 c := by
  refine .of_lt h0 ?_
  have h1 := codeW_le mv ws q v t
  have h2 := pow_size W.q4 ht
  have h3 : c ≤ ((2 ^ 120 : Nat) : Int) := by omega
  have h4 : ((2 ^ 120 : Nat) : Int) < 2 ^ 121 := by decide +kernel
  omega
/-- the weights of a code, seen from a row -/
def wts (mv : List (List Int)) (ws : List Int) (q : Nat) (top bot v : Int) (y r : List Int) : Int := wt q top bot y.length (diff y r)
theorem wt_nonneg (h : ShOk q top bot) (len : Nat) (d : Int) : 0 ≤ wt q top bot len d := by
  have := oth_pos q
  have := h.t0
  have := h.t1
  exact Int.mul_nonneg (Int.pow_nonneg h.t0) (Int.pow_nonneg (Int.mul_nonneg (by omega) (by omega)))
theorem all_pos (h : ShOk q top bot) (len : Nat) : 0 < (bot * oth q) ^ len := Int.pow_pos (Int.mul_pos (by have := h.b1; omega) (oth_pos q))
theorem heard_share_eq (W : WOk mv ws n q) (hs : ShOk q top bot) {v : Int} (hv : 0 ≤ v ∧ v ≤ 3) {row : List Int} (hl : row.length ≤ 60) (hr : ∀ x ∈ row, 0 ≤ x ∧ x < (q : Int)) (hc : codeW mv ws q v row.length ≠ []) :
    m_heard_share (((), mv), ws) v row (top, bot) = some (low (sm (codeW mv ws q v row.length) fun r => wt q top bot row.length (diff row r)) (((codeW mv ws q v row.length).length : Int) * (bot * oth q) ^ row.length)) := by
  obtain ⟨d, ed, hd, _⟩ := near_by_eq W (v := v) hl
  have hlen : 0 < (codeW mv ws q v row.length).length := List.length_pos_iff.mpr hc
  have hat : atI (arr 4 fun v => ((codeW mv ws q v row.length).length : Int)) v = some ((codeW mv ws q v row.length).length : Int) := arr_at hv.1 (by omega)
  have hne : ¬ (((codeW mv ws q v row.length).length : Int) = 0) := by omega
  have hmul : mulW ((codeW mv ws q v row.length).length : Int) ((bot * oth q) ^ row.length) = some (((codeW mv ws q v row.length).length : Int) * (bot * oth q) ^ row.length) := mulW_ok (code_size W hl (by omega) (Int.le_refl _)) ((hs.s3 W).powz row.length) (by omega)
  have hpos : 0 < ((codeW mv ws q v row.length).length : Int) * (bot * oth q) ^ row.length := Int.mul_pos (by omega) (all_pos hs _)
  unfold m_heard_share mb_heard_share
  simp only [oret, oopt, obnd, need_heard_eq W hs hv hl hr, word_counts_eq W (t := row.length) (by omega), hat, hne, decide_false, if_false, Bool.false_eq_true, ed, all_of_eq W hs hl, hmul]
  refine for_ret (fun pre s => s = sm pre fun p => p.2 * wt q top bot row.length p.1) rfl (fun pre x post s e hs' => ?_) fun s hs' => ?_
  · subst hs'
    have hx : x ∈ d := by rw [e]; simp
    obtain ⟨hm, hv2⟩ := hd.mem hx
    obtain ⟨r, _, er⟩ := List.mem_map.mp hm
    have d0 : 0 ≤ x.1 := by rw [← er]; exact diff_nonneg _ _
    have d1 : x.1 ≤ row.length := by rw [← er]; exact diff_le _ _
    have hx2 : x.2 ≤ ((codeW mv ws q v row.length).length : Int) := by
      rw [hv2]
      have := cnt_le x.1 ((codeW mv ws q v row.length).map (diff row))
      rw [List.length_map] at this
      exact this
    have hw : mulW x.2 (wt q top bot row.length x.1) = some (x.2 * wt q top bot row.length x.1) := by
      refine mulW_ok (code_size W hl (Int.le_of_lt (hd.pos x hx)) hx2) ((hs.s1.powz x.1.toNat).mul ((hs.s2 W).powz (row.length - x.1.toNat))) ?_
      omega
    simp only [weight_of_eq W hs hl d0 d1, obnd, hw]
    exact ⟨_, rfl, by rw [sm_app, sm_one]⟩
  · have e := hd.sum fun d => wt q top bot row.length d
    unfold ms at e
    rw [sm_map] at e
    have ht : 0 ≤ s := by
      rw [hs', e]
      exact sm_nonneg fun r _ => wt_nonneg hs _ _
    have hS := (code_size W (v := v) hl (c := ((codeW mv ws q v row.length).length : Int)) (by omega) (Int.le_refl _)).mul ((hs.s3 W).powz row.length)
    rw [lowest_of_eq ht hpos hS.lt (by omega), obnd, oretFr, hs', e]
theorem right_share_eq (W : WOk mv ws n q) (hs : ShOk q top bot) {v : Int} (hv : 0 ≤ v ∧ v ≤ 3) {len : Nat} (hl : len ≤ 60) (hq : ∀ t, t ≤ len → q ^ t ≤ 4096) (hc : codeW mv ws q v len ≠ []) :
    m_right_share (((), mv), ws) v (len : Int) (top, bot) = some (low (sm (rows q len) fun y => mxf (fun r => wt q top bot len (diff y r)) (codeW mv ws q v len)) (((codeW mv ws q v len).length : Int) * (bot * oth q) ^ len)) := by
  have hlen : 0 < (codeW mv ws q v len).length := List.length_pos_iff.mpr hc
  have hat : atI (arr 4 fun v => ((codeW mv ws q v len).length : Int)) v = some ((codeW mv ws q v len).length : Int) := arr_at hv.1 (by omega)
  have hne : ¬ (((codeW mv ws q v len).length : Int) = 0) := by omega
  have h1 : ((0 : Int) ≤ (len : Int) ∧ (len : Int) ≤ 60) := by omega
  have hmul : mulW ((codeW mv ws q v len).length : Int) ((bot * oth q) ^ len) = some (((codeW mv ws q v len).length : Int) * (bot * oth q) ^ len) := mulW_ok (code_size W hl (by omega) (Int.le_refl _)) ((hs.s3 W).powz len) (by omega)
  have hpos : 0 < ((codeW mv ws q v len).length : Int) * (bot * oth q) ^ len := Int.mul_pos (by omega) (all_pos hs _)
  unfold m_right_share mb_right_share
  simp only [oret, oopt, obnd, need_watch_eq, need_verdict_eq hv, is_between_eq, h1, and_self, decide_true, Bool.not_true, need_noise_eq W hs, W_kinds_eq W, rows_of_eq W.q4 hl hq, word_counts_eq W (t := len) (by omega), hat, hne, decide_false, if_false, Bool.false_eq_true, all_of_eq W hs hl, hmul]
  refine for_ret (fun pre s => s = sm pre fun y => mxf (fun r => wt q top bot len (diff y r)) (codeW mv ws q v len)) rfl (fun pre x post s e hs' => ?_) fun s hs' => ?_
  · subst hs'
    have hx : x ∈ rows q len := by rw [e]; simp
    have hxl := (rows_mem.mp hx).1
    obtain ⟨d, ed, hd, _⟩ := near_by_eq W (v := v) (row := x) (by omega)
    rw [hxl] at hd
    have hk : ∀ z ∈ d.map (·.1), m_weight_of (((), mv), ws) (top, bot) (len : Int) z = some (wt q top bot len z) := fun z hz => by
      obtain ⟨r, _, er⟩ := List.mem_map.mp (hd.key.mp hz)
      have := diff_le x r
      rw [hxl] at this
      exact weight_of_eq W hs hl (by rw [← er]; exact diff_nonneg _ _) (by rw [← er]; exact this)
    have hlc : lcC (fun c => bnd (m_weight_of (((), mv), ws) (top, bot) (len : Int) c) fun y => some (some y)) (d.map (·.1)) = some ((d.map (·.1)).map fun z => wt q top bot len z) := lcC_map _ (by
      rw [← rep_keys_len]
      have h2 := ints_len (m := 61) hd.nd fun z hz => by
        obtain ⟨r, _, er⟩ := List.mem_map.mp (hd.key.mp hz)
        have := diff_le x r
        have := diff_nonneg x r
        omega
      rw [← rep_keys_len] at h2
      omega) fun z hz => by rw [hk z hz, obnd]
    have hmax : maxL ((d.map (·.1)).map fun z => wt q top bot len z) = some (mxf (fun r => wt q top bot len (diff x r)) (codeW mv ws q v len)) := by
      obtain ⟨r0, hr0⟩ := List.exists_mem_of_ne_nil _ hc
      have hk0 : diff x r0 ∈ d.map (·.1) := hd.key.mpr (List.mem_map.mpr ⟨r0, hr0, rfl⟩)
      obtain ⟨y, ey⟩ := maxL_ne (xs := (d.map (·.1)).map fun z => wt q top bot len z) (List.ne_nil_of_mem (List.mem_map.mpr ⟨_, hk0, rfl⟩))
      have hy := maxL_is ey
      rw [ey]
      refine congrArg some (mxf_eq ?_ fun r hr => hy.2 _ (List.mem_map.mpr ⟨_, hd.key.mpr (List.mem_map.mpr ⟨r, hr, rfl⟩), rfl⟩)).symm
      obtain ⟨z, hz, ez⟩ := List.mem_map.mp hy.1
      obtain ⟨r, hr, er⟩ := List.mem_map.mp (hd.key.mp hz)
      exact ⟨r, hr, by rw [er]; exact ez.symm⟩
    simp only [ed, obnd, hlc, hmax]
    exact ⟨_, rfl, by rw [sm_app, sm_one]⟩
  · have ht : 0 ≤ s := by
      rw [hs']
      refine sm_nonneg fun y _ => ?_
      obtain ⟨⟨r, _, e⟩, _⟩ := mxf_is (f := fun r => wt q top bot len (diff y r)) hc
      rw [e]
      exact wt_nonneg hs _ _
    have hS := (code_size W (v := v) hl (c := ((codeW mv ws q v len).length : Int)) (by omega) (Int.le_refl _)).mul ((hs.s3 W).powz len)
    rw [lowest_of_eq ht hpos hS.lt (by omega), obnd, oretFr, hs']
/-- nobody to be sent: NoCode -/
theorem right_share_no (W : WOk mv ws n q) (hs : ShOk q top bot) {v : Int} (hv : 0 ≤ v ∧ v ≤ 3) {len : Nat} (hl : len ≤ 60) (hq : ∀ t, t ≤ len → q ^ t ≤ 4096) (hc : (codeW mv ws q v len).length = 0) : mr_right_share (((), mv), ws) v (len : Int) (top, bot) = some () := by
  have hat : atI (arr 4 fun v => ((codeW mv ws q v len).length : Int)) v = some ((codeW mv ws q v len).length : Int) := arr_at hv.1 (by omega)
  have hz : ((codeW mv ws q v len).length : Int) = 0 := by omega
  have h1 : ((0 : Int) ≤ (len : Int) ∧ (len : Int) ≤ 60) := by omega
  unfold mr_right_share
  simp only [oret, oopt, obnd, need_watch_eq, need_verdict_eq hv, is_between_eq, h1, and_self, decide_true, Bool.not_true, need_noise_eq W hs, W_kinds_eq W, rows_of_eq W.q4 hl hq, word_counts_eq W (t := len) (by omega), hat, hz, if_true, if_false, Bool.false_eq_true]
end
end Wk
/-! What the defs compute, E: sent_shares; the law's own defs. -/
namespace Wk
open PySem L2 Wc
open Mon (ret bnd opt run)
section
variable {mv : List (List Int)} {ws : List Int} {n q : Nat} {top bot : Int}
theorem rows_eq {q n : Nat} (hq : q ≤ 4) (hn : n ≤ 60) (h : ∀ t, t ≤ n → q ^ t ≤ 100000) : m__law_rows_of (q : Int) (n : Int) = some (rows q n) := by
  unfold m__law_rows_of mb__law_rows_of
  simp only [oret, oopt, obnd, rngI_ks (q := n) (by omega), rngI_ks (q := q) (by omega)]
  refine for_ret (fun pre s => s = rows q pre.length) rfl (fun pre x post s e hs => ?_) fun s hs => ?_
  · subst hs
    have hpre : pre.length + 1 ≤ n := by
      have := congrArg List.length e
      rw [ks_len, List.length_append, List.length_cons] at this
      omega
    have hlen : (rows q pre.length).length ≤ 100000 := by
      rw [rows_len]
      exact h _ (by omega)
    refine for_ex (fun done s => s = done.flatMap fun r => (ks q).map fun k => r ++ [k]) rfl (fun done r more s e2 hs => ?_) fun s hs => ⟨_, rfl, ?_⟩
    · subst hs
      have hr : r ∈ rows q pre.length := by rw [e2]; simp
      have hrl := (rows_mem.mp hr).1
      have hd : done.length ≤ 100000 := by
        have := congrArg List.length e2
        rw [List.length_append, List.length_cons] at this
        omega
      have hfl : (done.flatMap fun r => (ks q).map fun k => r ++ [k]).length ≤ 400000 := by
        rw [List.length_flatMap]
        simp only [List.length_map, ks_len, List.map_const', List.sum_replicate_nat]
        have : done.length * q ≤ 100000 * 4 := Nat.mul_le_mul hd hq
        omega
      rw [lcC_map (fun k => r ++ [k]) (by rw [ks_len]; omega) (fun k _ => by
        unfold catC
        rw [if_pos (by rw [List.length_singleton]; omega)]
        rfl)]
      simp only [obnd]
      rw [catC_ok (by rw [List.length_map, ks_len]; omega), obnd]
      exact ⟨_, rfl, by rw [List.flatMap_append, List.flatMap_cons, List.flatMap_nil, List.append_nil]⟩
    · rw [hs, List.length_append, List.length_singleton, rows_snoc]
  · rw [hs, ks_len, oretFr]
theorem place_eq (W : WOk mv ws n q) {r : List Int} (hr : ∀ x ∈ r, 0 ≤ x ∧ x < (q : Int)) : m__law_place (mv, ws) r = some (pl mv 0 r) := by
  have n1 := W.n1
  unfold m__law_place mb__law_place
  simp only [oret, oopt, obnd, true_or, if_true]
  refine for_ret (fun pre s => s = pl mv 0 pre) rfl (fun pre x post s e hs => ?_) fun s hs => ?_
  · subst hs
    have hp := W.pl_rng (r := pre) (p := 0) (Int.le_refl 0) (by omega) fun z hz => hr z (by rw [e]; simp [hz])
    have hx := hr x (by rw [e]; simp)
    obtain ⟨l, hl, _⟩ := W.row hp.1 hp.2
    simp only [hl, obnd, W.go_at hp.1 hp.2 hx.1 hx.2 hl]
    exact ⟨_, rfl, (pl_snoc _ _ _ _).symm⟩
  · rw [hs, oretFr]
theorem code_eq (W : WOk mv ws n q) {v : Int} {len : Nat} (hn : len ≤ 60) (h : ∀ t, t ≤ len → q ^ t ≤ 100000) : m__law_code (mv, ws) v (len : Int) = some (codeW mv ws q v len) := by
  obtain ⟨l, e, _, hl, _⟩ := W.goals (p := 0) (Int.le_refl 0) (by have := W.n1; omega)
  unfold m__law_code mb__law_code
  simp only [oret, oopt, obnd, true_or, or_true, false_or, if_true, e, hl, rows_eq W.q4 hn h]
  rw [lcC_if (fun r => decide (say ws (pl mv 0 r) = v)) (fun r => r) (by rw [rows_len]; have := h len (Nat.le_refl _); omega) (fun r hr => ?_)]
  · rw [obnd, oretFr, List.map_id']
    rfl
  · have hrr := rows_mem.mp hr
    have hp := W.pl_rng (r := r) (p := 0) (Int.le_refl 0) (by have := W.n1; omega) hrr.2
    simp only [place_eq W hrr.2, obnd, W.say_at hp.1 hp.2, if_someB]
theorem differ_eq (x y : List Int) (hx : x.length ≤ 1000) : m__law_differ x y = some (diff x y) := by
  unfold m__law_differ mb__law_differ
  simp only [oret, oopt, obnd]
  rw [lcC_if (fun p : Int × Int => !decide (p.1 = p.2)) (fun _ => (1 : Int)) (by
    have : (x.zip y).length ≤ x.length := by rw [List.length_zip]; exact Nat.min_le_left _ _
    omega) (fun p _ => by exact if_someB _ _ _)]
  rw [obnd, obnd, oretFr, List.length_map, diff_zip]
theorem sorted_split {l : List Int} (hs : l.Pairwise (· ≤ ·)) {pre post : List Int} {x : Int} (e : l = pre ++ x :: post) : ∀ y ∈ pre, y ≤ x := by
  intro y hy
  rw [e, List.pairwise_append] at hs
  exact hs.2.2 y hy x List.mem_cons_self
theorem counted_eq {l : List Int} (hl : l.length < 1000000) : ∃ d, m__law_counted l = some d ∧ Rep d l ∧ Asc d := by
  unfold m__law_counted mb__law_counted
  simp only [oret, oopt, obnd]
  have hp := sortI_perm l
  have hsrt := sortI_sorted l
  refine for_retE (fun pre s => Rep s pre ∧ Asc s) ⟨rep_nil, List.Pairwise.nil⟩ (fun pre x post s e hs => ?_) fun s hs => ⟨s, rfl, hs.1.congr fun f => sm_perm hp f, hs.2⟩
  have hle := sorted_split hsrt e
  have hlen : s.length < 1000000 := by
    have h1 := hs.1.len
    have h2 := congrArg List.length e
    rw [hp.length_eq, List.length_append, List.length_cons] at h2
    omega
  refine ⟨dput s x ((dget s x).getD 0 + 1), ?_, hs.1.put1 x, ?_⟩
  · unfold dputC
    rw [if_pos hlen]
    rfl
  · unfold Asc
    rw [keys_dput]
    split
    · exact hs.2
    · rename_i hn
      refine List.pairwise_append.mpr ⟨hs.2, List.pairwise_singleton _ _, fun a ha b hb => ?_⟩
      rw [List.mem_singleton] at hb
      subst hb
      have := hle a (hs.1.key.mp ha)
      rcases Int.lt_or_eq_of_le this with h | h
      · exact h
      · exact absurd (h ▸ ha) hn
theorem common_eq {k : Nat} {a b : Int} (ha : 0 ≤ a) (hb : 0 ≤ b) (h : b < 2 ^ k) (hk : k < 9000) : m__law_common_of a b = some (Int.gcd a b : Int) := by
  unfold m__law_common_of mb__law_common_of
  have er : rngI 0 20000 = some (ks 20000) := rngI_ks (q := 20000) (by decide)
  simp only [oret, oopt, obnd, er]
  have key : ∀ xs : List Int, 2 * k + 1 ≤ xs.length → (forF (fun (s : Int × Int) (_ : Int) => if decide (s.2 = 0) = true then some (Fl.rt s.1) else bnd (bnd (modC s.1 s.2) fun u1 => some (s.2, u1)) fun p => some (Fl.nx (p.1, p.2))) xs (a, b) : Option (Fl (Int × Int) Empty Int)) = some (.rt (Int.gcd a b : Int)) := by
    have := eu_bound k a b ha hb h (fun m s => ∀ xs : List Int, xs.length = m → (forF (fun (s : Int × Int) (_ : Int) => if decide (s.2 = 0) = true then some (Fl.rt s.1) else bnd (bnd (modC s.1 s.2) fun u1 => some (s.2, u1)) fun p => some (Fl.nx (p.1, p.2))) xs s : Option (Fl (Int × Int) Empty Int)) = some (.rt (Int.gcd a b : Int))) (fun m s h2 h1 xs hx => ?_) (fun m s h1 h2 _ ih xs hx => ?_)
    · exact fun xs hx => this xs.length hx xs rfl
    · cases xs with
      | nil => cases hx
      | cons x xs =>
        refine forF_rt ?_
        rw [if_pos (decide_eq_true h2), h1]
    · cases xs with
      | nil => cases hx
      | cons x xs =>
        have hne : ¬ s.2 = 0 := by omega
        rw [forF_nx (s' := euStep s)]
        · exact ih xs (by simpa using hx)
        · rw [if_neg (fun z => hne (of_decide_eq_true z)), modC_ok h2]
          rfl
  rw [key _ (by rw [ks_len]; omega)]
  rfl
theorem low_eq {k : Nat} {a b : Int} (ha : 0 ≤ a) (hb : 0 < b) (h : b < 2 ^ k) (hk : k < 9000) : m__law_low a b = some (low a b) := by
  have hg := gcd_pos (a := a) hb
  have hS : Sz k (Int.gcd a b : Int) := .of_lt (Int.le_of_lt hg) (Int.lt_of_le_of_lt (gcd_le hb) h)
  unfold m__law_low mb__law_low
  simp only [oret, oopt, obnd, common_eq ha (Int.le_of_lt hb) h hk, divW_ok hS hg hk, oretFr]
  rfl
theorem power_eq {i t : Nat} {b : Int} (hb : Sz i b) (h : i * t + 1 + i < 1000000) (ht : t < 1000000) : m__law_power b (t : Int) = some (b ^ t) := by
  unfold m__law_power mb__law_power
  simp only [oret, oopt, obnd, rngI_ks (q := t) (by omega)]
  refine for_ret (fun pre s => s = b ^ pre.length) (Int.pow_zero b).symm (fun pre x post s e hs => ?_) fun s hs => ?_
  · subst hs
    have hpre : pre.length < t := by
      have := congrArg List.length e
      rw [ks_len, List.length_append, List.length_cons] at this
      omega
    have hm : i * pre.length ≤ i * t := Nat.mul_le_mul_left _ (Nat.le_of_lt hpre)
    rw [mulW_ok (hb.powz pre.length) hb (by omega)]
    exact ⟨_, rfl, by rw [List.length_append, List.length_singleton, Int.pow_succ]⟩
  · rw [hs, ks_len, oretFr]
theorem made_eq (W : WOk mv ws n q) : m__law_made (mv, ws) = some (((), mv), ws) := by
  unfold m__law_made mb__law_made
  simp only [oret, oopt, obnd, true_or, or_true, false_or, if_true]
  rw [lcC_map (fun x => x) (by have := W.len; have := W.n6; omega) (fun x _ => rfl), List.map_id']
  simp only [obnd, mkW_eq W, oretFr]
/-- a row was heard: what was sent -/
theorem sent_shares_eq (W : WOk mv ws n q) (hs : ShOk q top bot) {v : Int} (hv : 0 ≤ v ∧ v ≤ 3) {row : List Int} (hl : row.length ≤ 60) (hr : ∀ x ∈ row, 0 ≤ x ∧ x < (q : Int)) (hp : ∀ d : Int, 0 < wt q top bot row.length d) :
    ∃ d, Rep d ((codeW mv ws q v row.length).map (diff row)) ∧ Asc d ∧ m_sent_shares (((), mv), ws) v row (top, bot) = some (d.map fun p => (p.1, low (p.2 * wt q top bot row.length p.1) (sm (codeW mv ws q v row.length) fun r => wt q top bot row.length (diff row r)))) := by
  obtain ⟨d, ed, hd, ha⟩ := near_by_eq W (v := v) hl
  refine ⟨d, hd, ha, ?_⟩
  have dl : d.length ≤ 61 := by
    rw [rep_keys_len]
    refine ints_len (m := 61) hd.nd fun z hz => ?_
    obtain ⟨r, _, er⟩ := List.mem_map.mp (hd.key.mp hz)
    have := diff_le row r
    have := diff_nonneg row r
    omega
  unfold m_sent_shares mb_sent_shares
  simp only [oret, oopt, obnd, need_heard_eq W hs hv hl hr, ed]
  have hw0 : ∀ x ∈ d, m_weight_of (((), mv), ws) (top, bot) (row.length : Int) x.1 = some (wt q top bot row.length x.1) ∧ mulW x.2 (wt q top bot row.length x.1) = some (x.2 * wt q top bot row.length x.1) ∧ 0 < x.2 * wt q top bot row.length x.1 ∧ x.2 ≤ ((codeW mv ws q v row.length).length : Int) := fun x hx => by
    obtain ⟨hm, hv2⟩ := hd.mem hx
    obtain ⟨r, _, er⟩ := List.mem_map.mp hm
    have d0 : 0 ≤ x.1 := by rw [← er]; exact diff_nonneg _ _
    have d1 : x.1 ≤ row.length := by rw [← er]; exact diff_le _ _
    have hx2 : x.2 ≤ ((codeW mv ws q v row.length).length : Int) := by
      rw [hv2]
      have := cnt_le x.1 ((codeW mv ws q v row.length).map (diff row))
      rw [List.length_map] at this
      exact this
    refine ⟨weight_of_eq W hs hl d0 d1, ?_, Int.mul_pos (hd.pos x hx) (hp _), hx2⟩
    exact mulW_ok (code_size W hl (Int.le_of_lt (hd.pos x hx)) hx2) ((hs.s1.powz x.1.toNat).mul ((hs.s2 W).powz (row.length - x.1.toNat))) (by omega)
  have hS12 := (hs.s3 W)
  refine for_ret (fun pre s => s = pre.map fun p => (p.1, p.2 * wt q top bot row.length p.1)) rfl (fun pre x post s e hs' => ?_) fun s hs' => ?_
  · subst hs'
    have hx : x ∈ d := by rw [e]; simp
    obtain ⟨h1, h2, h3, _⟩ := hw0 x hx
    simp only [h1, h2, obnd, h3, decide_true, if_true]
    have hnew : x.1 ∉ (pre.map fun p => (p.1, p.2 * wt q top bot row.length p.1)).map (·.1) := fun hm => by
      rw [List.map_map] at hm
      have hnd := hd.nd
      rw [e, List.map_append, List.map_cons, List.nodup_append] at hnd
      exact hnd.2.2 x.1 hm x.1 List.mem_cons_self rfl
    have hlen : (pre.map fun p => (p.1, p.2 * wt q top bot row.length p.1)).length < 1000000 := by
      have := congrArg List.length e
      rw [List.length_append, List.length_cons] at this
      rw [List.length_map]
      omega
    refine ⟨(pre ++ [x]).map fun p => (p.1, p.2 * wt q top bot row.length p.1), ?_, rfl⟩
    unfold dputC
    rw [if_pos hlen, obnd]
    unfold dput
    rw [if_neg (fun z => hnew (any_key.mp z)), List.map_append]
    rfl
  · subst hs'
    have esum : ((d.map fun p => (p.1, p.2 * wt q top bot row.length p.1)).map (·.2)).sum = sm (codeW mv ws q v row.length) fun r => wt q top bot row.length (diff row r) := by
      have e := hd.sum fun z => wt q top bot row.length z
      unfold ms at e
      rw [sm_map] at e
      rw [← e, List.map_map]
      rfl
    rw [esum]
    have htot0 : ∀ p ∈ d, p.2 * wt q top bot row.length p.1 ≤ sm (codeW mv ws q v row.length) fun r => wt q top bot row.length (diff row r) := fun p hpd => by
      have e := hd.sum fun z => wt q top bot row.length z
      unfold ms at e
      rw [sm_map] at e
      rw [← e]
      exact sm_mem_le (f := fun p : Int × Int => p.2 * wt q top bot row.length p.1) hpd fun x hx => Int.le_of_lt (hw0 x hx).2.2.1
    have hle : (sm (codeW mv ws q v row.length) fun r => wt q top bot row.length (diff row r)) ≤ ((codeW mv ws q v row.length).length : Int) * 2 ^ 1400 := by
      rw [← sm_const]
      refine sm_le fun r _ => ?_
      have h1 := (hs.s1.powz (diff row r).toNat).mul ((hs.s2 W).powz (row.length - (diff row r).toNat))
      have := diff_le row r
      have := diff_nonneg row r
      exact Int.le_of_lt (h1.mono (by omega) : Sz 1400 (wt q top bot row.length (diff row r))).lt
    have hbig : (sm (codeW mv ws q v row.length) fun r => wt q top bot row.length (diff row r)) < 2 ^ 1600 := by
      have hc := (code_size W (v := v) hl (c := ((codeW mv ws q v row.length).length : Int)) (by omega) (Int.le_refl _)).lt
      have h2 : ((codeW mv ws q v row.length).length : Int) * 2 ^ 1400 ≤ 2 ^ 121 * 2 ^ 1400 := Int.mul_le_mul_of_nonneg_right (Int.le_of_lt hc) (Int.le_of_lt (Int.pow_pos (by decide)))
      have h3 : (2 : Int) ^ 121 * 2 ^ 1400 < 2 ^ 1600 := by decide +kernel
      omega
    rw [show (d.map fun p => (p.1, p.2 * wt q top bot row.length p.1)) = (d.map fun p => (p.1, p.2 * wt q top bot row.length p.1)) from rfl]
    have hdc : dcC (fun c : Int × Int => bnd (m_lowest_of c.2 (sm (codeW mv ws q v row.length) fun r => wt q top bot row.length (diff row r))) fun y => some (some (c.1, y))) (d.map fun p => (p.1, p.2 * wt q top bot row.length p.1)) = some (d.map fun p => (p.1, low (p.2 * wt q top bot row.length p.1) (sm (codeW mv ws q v row.length) fun r => wt q top bot row.length (diff row r)))) := by
      unfold dcC
      rw [if_pos (by rw [List.length_map]; omega)]
      have gen : ∀ (post pre : List (Int × Int)), d = pre ++ post → dcF (fun c : Int × Int => bnd (m_lowest_of c.2 (sm (codeW mv ws q v row.length) fun r => wt q top bot row.length (diff row r))) fun y => some (some (c.1, y))) (post.map fun p => (p.1, p.2 * wt q top bot row.length p.1)) (pre.map fun p => (p.1, low (p.2 * wt q top bot row.length p.1) (sm (codeW mv ws q v row.length) fun r => wt q top bot row.length (diff row r)))) = some (d.map fun p => (p.1, low (p.2 * wt q top bot row.length p.1) (sm (codeW mv ws q v row.length) fun r => wt q top bot row.length (diff row r)))) := by
        intro post
        induction post with
        | nil =>
          intro pre e
          rw [List.append_nil] at e
          rw [e]
          rfl
        | cons x post ih =>
          intro pre e
          have hx : x ∈ d := by rw [e]; simp
          obtain ⟨_, _, h3, _⟩ := hw0 x hx
          have := htot0 x hx
          rw [List.map_cons]
          show bnd (bnd (m_lowest_of (x.2 * wt q top bot row.length x.1) _) _) _ = _
          rw [lowest_of_eq (Int.le_of_lt h3) (by omega) hbig (by decide), obnd, obnd]
          have hnew : x.1 ∉ (pre.map fun p => (p.1, low (p.2 * wt q top bot row.length p.1) (sm (codeW mv ws q v row.length) fun r => wt q top bot row.length (diff row r)))).map (·.1) := fun hm => by
            rw [List.map_map] at hm
            have hnd := hd.nd
            rw [e, List.map_append, List.map_cons, List.nodup_append] at hnd
            exact hnd.2.2 x.1 hm x.1 List.mem_cons_self rfl
          have := ih (pre ++ [x]) (by rw [e, List.append_assoc]; rfl)
          rw [List.map_append] at this
          refine Eq.trans ?_ this
          congr 1
          show dput _ x.1 _ = _
          unfold dput
          rw [if_neg (fun z => hnew (any_key.mp z))]
          rfl
      exact gen d [] rfl
    simp only [hdc, obnd, oretFr]
end
end Wk
/-! What the defs compute, F: the tape's draws. -/
namespace Wk
open PySem L2 Wc
open Mon (ret bnd opt run)
theorem mulC_l {a b : Int} (h : a.natAbs < 18446744073709551616) : mulC a b = some (a * b) := if_pos (.inl h)
theorem mulC_r {a b : Int} (h : b.natAbs < 18446744073709551616) : mulC a b = some (a * b) := if_pos (.inr h)
theorem blend_M {cs : List Int} {Q : Int → Prop} (h : ∀ z, Q z) : m__law_blend cs () Q := by
  unfold m__law_blend mb__law_blend
  simp only [mret, massoc]
  intro t
  simp only [mret, massoc]
  intro u
  simp only [mret, massoc, mappI]
  refine mbndFI (mFor (fun _ => True) _ _ trivial (fun g hg s _ P hP _ => ?_) fun s _ => h s)
  have hg : 0 < g ∧ g < 4294967296 := by
    simp only [List.mem_cons, List.not_mem_nil, or_false] at hg
    omega
  have h7 : divW g 7 = some (g / 7) := divW_ok (j := 3) (.of_lt (by decide) (by decide)) (by decide) (by decide)
  simp only [mulC_r (b := 69621) (by decide), mulC_r (b := 48271) (by decide), mulC_r (b := 2147483647) (by decide), h7, modC_ok hg.1, mopt, mret]
  refine mbndFI (mFor (fun s => 0 ≤ s ∧ s < g) _ _ ⟨Int.emod_nonneg _ (Int.ne_of_gt hg.1), Int.emod_lt_of_pos _ hg.1⟩ (fun c hc s hs P hP _ => hP _ ⟨Int.emod_nonneg _ (Int.ne_of_gt hg.1), Int.emod_lt_of_pos _ hg.1⟩) fun s hs => ?_)
  have h5 : powC s 5 = some (s ^ (5 : Int).toNat) := if_pos ⟨by decide, by decide, by omega⟩
  show (bnd (opt (powC s 5)) _ : M _) P
  simp only [h5, mopt, mret]
  exact hP _ trivial
theorem draw_M {cs : List Int} {size : Int} {Q : Int → Prop} (h0 : 0 < size) (h1 : size < 1000000) (h : ∀ k, 0 ≤ k → k < size → Q k) : m__law_draw cs () size Q := by
  unfold m__law_draw mb__law_draw
  simp only [mret, massoc, modC_ok h0, divW_ok (j := 20) (b := size) (.of_lt (Int.le_of_lt h0) (by have : (2 : Int) ^ 20 = 1048576 := rfl; omega)) h0 (by decide), mopt]
  intro t
  simp only [mret, massoc]
  refine mbndFI ?_
  have fin : ∀ x y : Int, Q (x % size) := fun x _ => h _ (Int.emod_nonneg _ (Int.ne_of_gt h0)) (Int.emod_lt_of_pos _ h0)
  exact mif (fun _ => ⟨fun _ => fin, blend_M fun _ => fin⟩) fun _ => fin
theorem watch_M {cs : List Int} {places kinds words : Int} {Q : List (List Int) × List Int → Prop} (hp : 1 ≤ places ∧ places ≤ 6) (hk : 1 ≤ kinds ∧ kinds ≤ 4) (hw : 1 ≤ words ∧ words ≤ 4)
    (h : ∀ (mv : List (List Int)) (ws : List Int) (n : Nat), WOk mv ws n kinds.toNat → (∀ x ∈ ws, x < words) → (n : Int) ≤ places → Q (mv, ws)) : m__law_watch cs () places kinds words Q := by
  unfold m__law_watch mb__law_watch
  simp only [mret, massoc]
  refine draw_M (by omega) (by omega) fun m m0 m1 => ?_
  simp only [mret, massoc, rngI_ks' (z := 1 + m) (by omega) (by omega), rngI_ks' (z := kinds) (by omega) (by omega), mopt]
  refine mLc (P := fun l : List Int => l.length = kinds.toNat ∧ ∀ x ∈ l, 0 ≤ x ∧ x < 1 + m) (by rw [ks_len]; omega) (fun x _ Z hZ => ?_) fun mv hl hmv => ?_
  · refine mLc (P := fun x : Int => 0 ≤ x ∧ x < 1 + m) (by rw [ks_len]; omega) (fun y _ Z' hZ' => ?_) fun l hl hx => ?_
    · refine draw_M (by omega) (by omega) fun k k0 k1 => hZ' k ⟨k0, k1⟩
    · rw [ks_len] at hl
      exact hZ l ⟨hl, hx⟩
  · refine mLc (P := fun x : Int => 0 ≤ x ∧ x < words) (by rw [ks_len]; omega) (fun y _ Z' hZ' => ?_) fun ws hl2 hws => ?_
    · refine draw_M (by omega) (by omega) fun k k0 k1 => hZ' k ⟨k0, k1⟩
    · rw [ks_len] at hl hl2
      refine h mv ws (1 + m).toNat ⟨hl, by omega, by omega, hl2, by omega, by omega, fun l hl => (hmv l hl).1, fun l hl x hx => ?_, fun x hx => ?_⟩ (fun x hx => (hws x hx).2) (by omega)
      · have := (hmv l hl).2 x hx
        omega
      · have := hws x hx
        omega
theorem begun_eq {ns : List Int} (h : ns.length ≤ 63) : ∃ y, m__law_begun ns = some y := by
  unfold m__law_begun mb__law_begun
  simp only [oret, oopt, obnd, powC_10_18, if_someB]
  rw [lcC_some (fun x => if decide (1000000000000000000 ≤ absI x) = true then some (absI x - 1000000000000000000) else none) (by omega) (fun x _ => rfl), obnd, lcC_map (fun x => absI x) (by omega) (fun x _ => rfl)]
  exact ⟨_, rfl⟩
end Wk
/-! The law's mathematics: noise. -/
namespace Wk
open Wc
/-! ### sums over all rows -/
theorem one_row {q : Nat} : ∀ {n : Nat} {row : List Int} (f : List Int → Int), row ∈ rows q n → sm (rows q n) (fun r => if row = r then f r else 0) = f row
  | 0, row, f, h => by
    have : row = [] := List.mem_singleton.mp h
    subst this
    show sm [[]] _ = _
    rw [sm_one]
    exact if_pos rfl
  | n + 1, row, f, h => by
    obtain ⟨h1, h2⟩ := rows_mem.mp h
    cases row with
    | nil => simp at h1
    | cons a row =>
      have ha := h2 a List.mem_cons_self
      have hr : row ∈ rows q n := rows_mem.mpr ⟨by simpa using h1, fun k hk => h2 k (List.mem_cons_of_mem _ hk)⟩
      rw [sm_rows]
      rw [sm_congr (g := fun k => if a = k then f (a :: row) else 0) fun k _ => ?_]
      · exact sm_delta ha.1 ha.2 fun _ => f (a :: row)
      · by_cases e : a = k
        · subst e
          rw [if_pos rfl, ← one_row (fun r => f (a :: r)) hr]
          exact sm_congr fun r _ => by
            by_cases e : row = r
            · subst e
              rw [if_pos rfl, if_pos rfl]
            · rw [if_neg e, if_neg fun z => e (List.cons.inj z).2]
        · rw [if_neg e, sm_congr (g := fun _ => 0) fun r _ => if_neg fun z => e (List.cons.inj z).1, sm_zero]
theorem sm_rows_const (q n : Nat) (c : Int) : sm (rows q n) (fun _ => c) = (q : Int) ^ n * c := by
  rw [sm_const, rows_len, Int.natCast_pow]
def compl (y : List Int) : List Int := y.map fun k => 1 - k
theorem ks2 : ks 2 = [0, 1] := by decide
theorem sm_compl : ∀ (n : Nat) (f : List Int → Int), sm (rows 2 n) (fun y => f (compl y)) = sm (rows 2 n) f
  | 0, f => rfl
  | n + 1, f => by
    rw [sm_rows, sm_rows, ks2]
    simp only [sm_cons, sm_nil]
    have h0 := sm_compl n fun r => f (1 :: r)
    have h1 := sm_compl n fun r => f (0 :: r)
    have e0 : (sm (rows 2 n) fun r => f (compl (0 :: r))) = sm (rows 2 n) fun r => f (1 :: compl r) := rfl
    have e1 : (sm (rows 2 n) fun r => f (compl (1 :: r))) = sm (rows 2 n) fun r => f (0 :: compl r) := rfl
    rw [e0, e1, h0, h1]
    omega
theorem compl_rows {n : Nat} {y : List Int} (h : y ∈ rows 2 n) : compl y ∈ rows 2 n := by
  obtain ⟨h1, h2⟩ := rows_mem.mp h
  refine rows_mem.mpr ⟨by unfold compl; rw [List.length_map, h1], fun k hk => ?_⟩
  obtain ⟨z, hz, e⟩ := List.mem_map.mp hk
  have := h2 z hz
  have h22 : ((2 : Nat) : Int) = 2 := rfl
  omega
theorem diff_compl : ∀ {n : Nat} {y r : List Int}, y ∈ rows 2 n → r ∈ rows 2 n → diff (compl y) r = (n : Int) - diff y r
  | 0, y, r, hy, hr => by
    have e1 : y = [] := List.mem_singleton.mp hy
    have e2 : r = [] := List.mem_singleton.mp hr
    subst e1 e2
    rfl
  | n + 1, y, r, hy, hr => by
    obtain ⟨y1, y2⟩ := rows_mem.mp hy
    obtain ⟨r1, r2⟩ := rows_mem.mp hr
    cases y with
    | nil => simp at y1
    | cons a y =>
      cases r with
      | nil => simp at r1
      | cons b r =>
        have ha := y2 a List.mem_cons_self
        have hb := r2 b List.mem_cons_self
        have h22 : ((2 : Nat) : Int) = 2 := rfl
        have ih := diff_compl (y := y) (r := r) (rows_mem.mpr ⟨by simpa using y1, fun k hk => y2 k (List.mem_cons_of_mem _ hk)⟩) (rows_mem.mpr ⟨by simpa using r1, fun k hk => r2 k (List.mem_cons_of_mem _ hk)⟩)
        show (if 1 - a = b then 0 else 1) + diff (compl y) r = ((n + 1 : Nat) : Int) - ((if a = b then 0 else 1) + diff y r)
        rw [ih]
        by_cases e : a = b
        · rw [if_pos e, if_neg (by omega)]
          omega
        · rw [if_neg e, if_pos (by omega)]
          omega
/-! ### a channel -/
/-- what is heard as what, tick by tick: b where the events are like, a where not -/
def pw (a b : Int) : List Int → List Int → Int
  | x :: xs, y :: ys => (if x = y then b else a) * pw a b xs ys
  | _, _ => 1
theorem pw_diff (a b : Int) : ∀ {x y : List Int}, x.length = y.length → pw a b x y = a ^ (diff x y).toNat * b ^ (x.length - (diff x y).toNat)
  | [], [], _ => by
    show (1 : Int) = a ^ 0 * b ^ 0
    rw [Int.pow_zero, Int.pow_zero]
    rfl
  | c :: x, d :: y, h => by
    have hl : x.length = y.length := by simpa using h
    have ih := pw_diff a b hl
    have h0 := diff_nonneg x y
    have h1 := diff_le x y
    show (if c = d then b else a) * pw a b x y = a ^ ((if c = d then 0 else 1) + diff x y).toNat * b ^ ((c :: x).length - ((if c = d then 0 else 1) + diff x y).toNat)
    rw [ih, List.length_cons]
    by_cases e : c = d
    · rw [if_pos e, if_pos e, show (0 + diff x y).toNat = (diff x y).toNat by omega, show x.length + 1 - (diff x y).toNat = (x.length - (diff x y).toNat) + 1 by omega, Int.pow_succ]
      generalize a ^ (diff x y).toNat = u
      generalize b ^ (x.length - (diff x y).toNat) = v
      grind
    · rw [if_neg e, if_neg e, show (1 + diff x y).toNat = (diff x y).toNat + 1 by omega, show x.length + 1 - ((diff x y).toNat + 1) = x.length - (diff x y).toNat by omega, Int.pow_succ]
      generalize a ^ (diff x y).toNat = u
      generalize b ^ (x.length - (diff x y).toNat) = v
      grind
theorem pw_nonneg {a b : Int} (ha : 0 ≤ a) (hb : 0 ≤ b) : ∀ x y : List Int, 0 ≤ pw a b x y
  | [], _ => by
    show (0 : Int) ≤ 1
    decide
  | _ :: _, [] => by
    show (0 : Int) ≤ 1
    decide
  | c :: x, d :: y => by
    show 0 ≤ (if c = d then b else a) * pw a b x y
    refine Int.mul_nonneg ?_ (pw_nonneg ha hb x y)
    split <;> assumption
theorem sm_e {q : Nat} {x : Int} (hx : 0 ≤ x ∧ x < q) (a b : Int) : sm (ks q) (fun k => if x = k then b else a) = b + ((q : Int) - 1) * a := by
  rw [sm_congr (g := fun k => a + if x = k then b - a else 0) fun k _ => by split <;> omega, sm_add, sm_const, ks_len, sm_delta hx.1 hx.2 fun _ => b - a]
  grind
theorem sm_ee {q : Nat} {x y : Int} (hx : 0 ≤ x ∧ x < q) (hy : 0 ≤ y ∧ y < q) (a b c d : Int) : sm (ks q) (fun k => (if x = k then b else a) * (if k = y then d else c)) = if x = y then b * d + ((q : Int) - 1) * (a * c) else a * d + b * c + ((q : Int) - 2) * (a * c) := by
  have e : ∀ k : Int, (if x = k then b else a) * (if k = y then d else c) = (a * c + if y = k then a * (d - c) else 0) + if x = k then (b - a) * (if k = y then d else c) else 0 := fun k => by
    by_cases h1 : x = k
    · by_cases h2 : k = y
      · rw [if_pos h1, if_pos h2, if_pos h2.symm, if_pos h1]
        grind
      · rw [if_pos h1, if_neg h2, if_neg (fun z => h2 z.symm), if_pos h1]
        grind
    · by_cases h2 : k = y
      · rw [if_neg h1, if_pos h2, if_pos h2.symm, if_neg h1]
        grind
      · rw [if_neg h1, if_neg h2, if_neg (fun z => h2 z.symm), if_neg h1]
        grind
  rw [sm_congr fun k _ => e k, sm_add, sm_add, sm_const, ks_len, sm_delta hy.1 hy.2 fun _ => a * (d - c), sm_delta hx.1 hx.2 fun k => (b - a) * if k = y then d else c]
  by_cases h : x = y
  · rw [if_pos h, if_pos h]
    grind
  · rw [if_neg h, if_neg h]
    grind
theorem pw_sum {q : Nat} (a b : Int) : ∀ {n : Nat} {x : List Int}, x ∈ rows q n → sm (rows q n) (pw a b x) = (b + ((q : Int) - 1) * a) ^ n
  | 0, x, h => by
    have : x = [] := List.mem_singleton.mp h
    subst this
    show sm [[]] _ = _
    rw [sm_one, Int.pow_zero]
    rfl
  | n + 1, x, h => by
    obtain ⟨h1, h2⟩ := rows_mem.mp h
    cases x with
    | nil => simp at h1
    | cons c x =>
      have hx : x ∈ rows q n := rows_mem.mpr ⟨by simpa using h1, fun k hk => h2 k (List.mem_cons_of_mem _ hk)⟩
      rw [sm_rows]
      rw [sm_congr (g := fun k => (if c = k then b else a) * (b + ((q : Int) - 1) * a) ^ n) fun k _ => ?_, sm_mulr, sm_e (h2 c List.mem_cons_self), Int.pow_succ, Int.mul_comm]
      rw [← pw_sum a b hx, ← sm_mul]
      rfl
theorem pw_comp {q : Nat} (a b c d : Int) : ∀ {n : Nat} {x y : List Int}, x ∈ rows q n → y ∈ rows q n → sm (rows q n) (fun z => pw a b x z * pw c d z y) = pw (a * d + b * c + ((q : Int) - 2) * (a * c)) (b * d + ((q : Int) - 1) * (a * c)) x y
  | 0, x, y, hx, hy => by
    have e1 : x = [] := List.mem_singleton.mp hx
    have e2 : y = [] := List.mem_singleton.mp hy
    subst e1 e2
    rfl
  | n + 1, x, y, hx, hy => by
    obtain ⟨x1, x2⟩ := rows_mem.mp hx
    obtain ⟨y1, y2⟩ := rows_mem.mp hy
    cases x with
    | nil => simp at x1
    | cons u x =>
      cases y with
      | nil => simp at y1
      | cons v y =>
        have hx : x ∈ rows q n := rows_mem.mpr ⟨by simpa using x1, fun k hk => x2 k (List.mem_cons_of_mem _ hk)⟩
        have hy : y ∈ rows q n := rows_mem.mpr ⟨by simpa using y1, fun k hk => y2 k (List.mem_cons_of_mem _ hk)⟩
        rw [sm_rows]
        rw [sm_congr (g := fun k => ((if u = k then b else a) * (if k = v then d else c)) * pw (a * d + b * c + ((q : Int) - 2) * (a * c)) (b * d + ((q : Int) - 1) * (a * c)) x y) fun k _ => ?_, sm_mulr, sm_ee (x2 u List.mem_cons_self) (y2 v List.mem_cons_self)]
        · rfl
        · rw [← pw_comp a b c d hx hy, ← sm_mul]
          refine sm_congr fun z _ => ?_
          show ((if u = k then b else a) * pw a b x z) * ((if k = v then d else c) * pw c d z y) = _
          generalize (if u = k then b else a) = e1
          generalize (if k = v then d else c) = e2
          grind
theorem pw_scale (D a b : Int) : ∀ {x y : List Int}, x.length = y.length → pw (D * a) (D * b) x y = D ^ x.length * pw a b x y
  | [], [], _ => by
    show (1 : Int) = D ^ 0 * 1
    rw [Int.pow_zero]
    rfl
  | c :: x, d :: y, h => by
    have ih := pw_scale D a b (x := x) (y := y) (by simpa using h)
    show (if c = d then D * b else D * a) * pw (D * a) (D * b) x y = D ^ (x.length + 1) * ((if c = d then b else a) * pw a b x y)
    rw [ih, Int.pow_succ]
    generalize D ^ x.length = u
    split <;> grind
theorem wt_pw {q : Nat} {top bot : Int} {n : Nat} {x y : List Int} (hx : x ∈ rows q n) (hy : y ∈ rows q n) : wt q top bot n (diff x y) = pw top ((bot - top) * oth q) x y := by
  have h1 := (rows_mem.mp hx).1
  have h2 := (rows_mem.mp hy).1
  rw [pw_diff _ _ (by rw [h1, h2]), h1]
  rfl
/-- more noise, behind less: reading right comes no oftener -/
theorem degrade {q n : Nat} {C : List (List Int)} (hq : q = 2 ∨ q = 3) (hC : ∀ r ∈ C, r ∈ rows q n) (hne : C ≠ []) {L Hh : Int} (h0 : 0 ≤ L) (h1 : L ≤ Hh) (h2 : Hh ≤ 29) :
    sm (rows q n) (fun y => mxf (fun r => wt q Hh 60 n (diff y r)) C) ≤ sm (rows q n) fun y => mxf (fun r => wt q L 60 n (diff y r)) C := by
  obtain ⟨D, hD⟩ : ∃ D : Int, D = 60 * ((q : Int) - 1) - q * L := ⟨_, rfl⟩
  obtain ⟨c, hc⟩ : ∃ c : Int, c = Hh - L := ⟨_, rfl⟩
  obtain ⟨d, hd⟩ : ∃ d : Int, d = D - ((q : Int) - 1) * c := ⟨_, rfl⟩
  have hD0 : 0 < D := by
    rcases hq with e | e <;> subst e <;> simp at hD <;> omega
  have hd0 : 0 ≤ d := by
    rcases hq with e | e <;> subst e <;> simp at hD hd <;> omega
  have hc0 : 0 ≤ c := by omega
  have eo : oth q = (q : Int) - 1 := oth_2 (by omega)
  have eoff : L * d + ((60 - L) * oth q) * c + ((q : Int) - 2) * (L * c) = D * Hh := by
    rw [eo]
    rcases hq with e | e <;> subst e <;> simp at hD hd ⊢ <;> grind
  have ediag : ((60 - L) * oth q) * d + ((q : Int) - 1) * (L * c) = D * ((60 - Hh) * oth q) := by
    rw [eo]
    rcases hq with e | e <;> subst e <;> simp at hD hd ⊢ <;> grind
  have comp : ∀ r ∈ C, ∀ y ∈ rows q n, sm (rows q n) (fun z => pw L ((60 - L) * oth q) r z * pw c d z y) = D ^ n * pw Hh ((60 - Hh) * oth q) r y := fun r hr y hy => by
    rw [pw_comp _ _ _ _ (hC r hr) hy, eoff, ediag, pw_scale _ _ _ (by rw [(rows_mem.mp (hC r hr)).1, (rows_mem.mp hy).1]), (rows_mem.mp (hC r hr)).1]
  have hDn : 0 < D ^ n := Int.pow_pos hD0
  have wH : ∀ y ∈ rows q n, mxf (fun r => wt q Hh 60 n (diff y r)) C = mxf (fun r => pw Hh ((60 - Hh) * oth q) r y) C := fun y hy => mxf_congr fun r hr => by rw [diff_comm, wt_pw (hC r hr) hy]
  have wL : ∀ y ∈ rows q n, mxf (fun r => wt q L 60 n (diff y r)) C = mxf (fun r => pw L ((60 - L) * oth q) r y) C := fun y hy => mxf_congr fun r hr => by rw [diff_comm, wt_pw (hC r hr) hy]
  rw [sm_congr wH, sm_congr wL]
  refine Int.le_of_mul_le_mul_left ?_ hDn
  rw [← sm_mul]
  have step : ∀ y ∈ rows q n, D ^ n * mxf (fun r => pw Hh ((60 - Hh) * oth q) r y) C ≤ sm (rows q n) fun z => mxf (fun r => pw L ((60 - L) * oth q) r z) C * pw c d z y := fun y hy => by
    obtain ⟨⟨r, hr, er⟩, _⟩ := mxf_is (f := fun r => pw Hh ((60 - Hh) * oth q) r y) hne
    rw [er, ← comp r hr y hy]
    refine sm_le fun z hz => ?_
    exact Int.mul_le_mul_of_nonneg_right ((mxf_is (f := fun r => pw L ((60 - L) * oth q) r z) hne).2 r hr) (pw_nonneg hc0 hd0 _ _)
  refine Int.le_trans (sm_le step) ?_
  rw [sm_comm]
  have e : ∀ z ∈ rows q n, (sm (rows q n) fun y => mxf (fun r => pw L ((60 - L) * oth q) r z) C * pw c d z y) = mxf (fun r => pw L ((60 - L) * oth q) r z) C * D ^ n := fun z hz => by
    rw [sm_mul]
    have := pw_sum c d hz
    rw [this]
    congr 2
    rw [hd]
    omega
  rw [sm_congr e, sm_mulr]
  exact Int.le_of_eq (Int.mul_comm _ _)
end Wk
/-! What the law asks, answered. -/
namespace Wk
open PySem L2 Wc
open Mon (ret bnd opt run)
section
variable {mv : List (List Int)} {ws : List Int} {n q len : Nat} {v : Int}
theorem code_rows {r : List Int} (h : r ∈ codeW mv ws q v len) : r ∈ rows q len := (List.mem_filter.mp h).1
theorem code_mem {r : List Int} (h : r ∈ rows q len) : r ∈ codeW mv ws q v len ↔ say ws (pl mv 0 r) = v := by
  unfold codeW
  rw [List.mem_filter]
  simp [h]
theorem sm_code (f : List Int → Int) : sm (codeW mv ws q v len) f = sm (rows q len) fun r => if r ∈ codeW mv ws q v len then f r else 0 := by
  have h : ∀ r ∈ rows q len, (if r ∈ codeW mv ws q v len then f r else 0) = if decide (say ws (pl mv 0 r) = v) = true then f r else 0 := fun r hr => by
    by_cases e : say ws (pl mv 0 r) = v
    · rw [if_pos ((code_mem hr).mpr e), if_pos (decide_eq_true e)]
    · rw [if_neg (fun z => e ((code_mem hr).mp z)), if_neg (fun z => e (of_decide_eq_true z))]
  rw [sm_congr h]
  unfold codeW
  rw [sm_filter]
theorem code_one {row : List Int} (hr : row ∈ rows q len) (c : Int) : sm (codeW mv ws q v len) (fun r => if row = r then c else 0) = if row ∈ codeW mv ws q v len then c else 0 := by
  rw [sm_code, ← one_row (fun r => if r ∈ codeW mv ws q v len then c else 0) hr]
  exact sm_congr fun r _ => by
    by_cases e : row = r
    · rw [if_pos e, if_pos e]
    · rw [if_neg e, if_neg e]
      split <;> rfl
theorem code_sum (c : Int) : sm (rows q len) (fun r => if r ∈ codeW mv ws q v len then c else 0) = ((codeW mv ws q v len).length : Int) * c := by
  rw [← sm_code fun _ => c, sm_const]
theorem mx_one {C : List (List Int)} (hne : C ≠ []) {x : List Int} {c : Int} (hc : 0 < c) (p : List Int → Prop) [DecidablePred p] (hp : ∀ r ∈ C, p r ↔ r = x) : mxf (fun r => if p r then c else 0) C = if x ∈ C then c else 0 := by
  by_cases hx : x ∈ C
  · rw [if_pos hx]
    refine mxf_eq ⟨x, hx, (if_pos ((hp x hx).mpr rfl)).symm⟩ fun r _ => ?_
    split <;> omega
  · rw [if_neg hx]
    have no : ∀ r ∈ C, ¬ p r := fun r hr z => hx ((hp r hr).mp z ▸ hr)
    obtain ⟨r0, h0⟩ := List.exists_mem_of_ne_nil _ hne
    exact mxf_eq ⟨r0, h0, (if_neg (no r0 h0)).symm⟩ fun r hr => by rw [if_neg (no r hr)]; exact Int.le_refl _
/-! alike -/
theorem wt_alike (hq : 2 ≤ q) {d : Int} (h0 : 0 ≤ d) (h1 : d ≤ len) : wt q ((q : Int) - 1) q len d = ((q : Int) - 1) ^ len := by
  unfold wt
  rw [oth_2 hq, show ((q : Int) - ((q : Int) - 1)) * ((q : Int) - 1) = (q : Int) - 1 by grind, ← Int.pow_add, show d.toNat + (len - d.toNat) = len by omega]
theorem sh_alike (hq : q = 2 ∨ q = 3) : ShOk q ((q : Int) - 1) q := by
  constructor <;> rcases hq with e | e <;> subst e <;> decide
theorem pow_mul (a b : Int) (n : Nat) : (a * b) ^ n = a ^ n * b ^ n := Int.mul_pow ..
theorem dl {row r : List Int} (hl : row.length = len) : 0 ≤ diff row r ∧ diff row r ≤ (len : Int) := by
  have := diff_le row r
  have := diff_nonneg row r
  omega
theorem low_alike1 (hq : q = 2 ∨ q = 3) (hne : codeW mv ws q v len ≠ []) {row : List Int} (hl : row.length = len) :
    low (sm (codeW mv ws q v len) fun r => wt q ((q : Int) - 1) q len (diff row r)) (((codeW mv ws q v len).length : Int) * ((q : Int) * oth q) ^ len) = (1, (q : Int) ^ len) := by
  have hc : 0 < ((codeW mv ws q v len).length : Int) := by have := List.length_pos_iff.mpr hne; omega
  have hq2 : 2 ≤ q := by omega
  have hp : 0 < ((q : Int) - 1) ^ len := Int.pow_pos (by omega)
  rw [sm_congr (g := fun _ => ((q : Int) - 1) ^ len) fun r _ => wt_alike hq2 (dl hl).1 (dl hl).2, sm_const, oth_2 hq2, pow_mul]
  rw [show ((codeW mv ws q v len).length : Int) * ((q : Int) ^ len * ((q : Int) - 1) ^ len) = (((codeW mv ws q v len).length : Int) * ((q : Int) - 1) ^ len) * (q : Int) ^ len by grind]
  exact low_dvd (Int.mul_pos hc hp) (Int.pow_pos (by omega))
theorem low_alike2 (hq : q = 2 ∨ q = 3) (hne : codeW mv ws q v len ≠ []) :
    low (sm (rows q len) fun y => mxf (fun r => wt q ((q : Int) - 1) q len (diff y r)) (codeW mv ws q v len)) (((codeW mv ws q v len).length : Int) * ((q : Int) * oth q) ^ len) = (1, ((codeW mv ws q v len).length : Int)) := by
  have hc : 0 < ((codeW mv ws q v len).length : Int) := by have := List.length_pos_iff.mpr hne; omega
  have hq2 : 2 ≤ q := by omega
  have hp : 0 < ((q : Int) - 1) ^ len := Int.pow_pos (by omega)
  obtain ⟨r0, h0⟩ := List.exists_mem_of_ne_nil _ hne
  have e : ∀ y ∈ rows q len, mxf (fun r => wt q ((q : Int) - 1) q len (diff y r)) (codeW mv ws q v len) = ((q : Int) - 1) ^ len := fun y hy => by
    have hl := (rows_mem.mp hy).1
    exact mxf_eq ⟨r0, h0, (wt_alike hq2 (dl hl).1 (dl hl).2).symm⟩ fun r _ => Int.le_of_eq (wt_alike hq2 (dl hl).1 (dl hl).2)
  rw [sm_congr e, sm_rows_const, oth_2 hq2, pow_mul]
  rw [show ((codeW mv ws q v len).length : Int) * ((q : Int) ^ len * ((q : Int) - 1) ^ len) = ((q : Int) ^ len * ((q : Int) - 1) ^ len) * ((codeW mv ws q v len).length : Int) by grind]
  exact low_dvd (Int.mul_pos (Int.pow_pos (by omega)) hp) hc
/-! without noise -/
theorem wt_zero {d : Int} (h0 : 0 ≤ d) : wt q 0 3 len d = if d = 0 then (3 * oth q) ^ len else 0 := by
  unfold wt
  by_cases h : d = 0
  · subst h
    rw [if_pos rfl]
    show 0 ^ 0 * ((3 - 0) * oth q) ^ (len - 0) = _
    rw [Int.pow_zero, Int.one_mul]
    rfl
  · rw [if_neg h, Int.zero_pow (by omega), Int.zero_mul]
theorem sh_zero (hq : q = 2 ∨ q = 3) : ShOk q 0 3 := by
  constructor <;> rcases hq with e | e <;> subst e <;> decide
theorem diff0 {y r : List Int} (hy : y ∈ rows q len) (hr : r ∈ rows q len) : diff y r = 0 ↔ r = y := by
  constructor
  · intro h
    exact (diff_zero (by rw [(rows_mem.mp hy).1, (rows_mem.mp hr).1]) h).symm
  · intro h
    rw [h, diff_self]
theorem low_zero1 (hq : q = 2 ∨ q = 3) (hne : codeW mv ws q v len ≠ []) :
    low (sm (rows q len) fun y => mxf (fun r => wt q 0 3 len (diff y r)) (codeW mv ws q v len)) (((codeW mv ws q v len).length : Int) * (3 * oth q) ^ len) = (1, 1) := by
  have hc : 0 < ((codeW mv ws q v len).length : Int) := by have := List.length_pos_iff.mpr hne; omega
  have hp : 0 < (3 * oth q) ^ len := Int.pow_pos (Int.mul_pos (by decide) (oth_pos q))
  have e : ∀ y ∈ rows q len, mxf (fun r => wt q 0 3 len (diff y r)) (codeW mv ws q v len) = if y ∈ codeW mv ws q v len then (3 * oth q) ^ len else 0 := fun y hy => by
    rw [mxf_congr fun r _ => wt_zero (diff_nonneg y r)]
    exact mx_one hne hp (fun r => diff y r = 0) fun r hr => diff0 hy (code_rows hr)
  rw [sm_congr e, code_sum]
  exact low_self (Int.mul_pos hc hp)
theorem low_zero2 (hq : q = 2 ∨ q = 3) (hne : codeW mv ws q v len ≠ []) {row : List Int} (hr : row ∈ rows q len) :
    low (sm (codeW mv ws q v len) fun r => wt q 0 3 len (diff row r)) (((codeW mv ws q v len).length : Int) * (3 * oth q) ^ len) = if memD row (codeW mv ws q v len) = true then (1, ((codeW mv ws q v len).length : Int)) else (0, 1) := by
  have hc : 0 < ((codeW mv ws q v len).length : Int) := by have := List.length_pos_iff.mpr hne; omega
  have hp : 0 < (3 * oth q) ^ len := Int.pow_pos (Int.mul_pos (by decide) (oth_pos q))
  have e : ∀ r ∈ codeW mv ws q v len, wt q 0 3 len (diff row r) = if row = r then (3 * oth q) ^ len else 0 := fun r hr' => by
    rw [wt_zero (diff_nonneg _ _)]
    by_cases h : row = r
    · rw [if_pos h, if_pos ((diff0 hr (code_rows hr')).mpr h.symm)]
    · rw [if_neg h, if_neg fun z => h ((diff0 hr (code_rows hr')).mp z).symm]
  rw [sm_congr e, code_one hr]
  by_cases h : row ∈ codeW mv ws q v len
  · rw [if_pos h, if_pos (memD_iff.mpr h), Int.mul_comm ((codeW mv ws q v len).length : Int)]
    exact low_dvd hp hc
  · rw [if_neg h, if_neg (fun z => h (memD_iff.mp z))]
    exact low_zero (Int.mul_pos hc hp)
/-! all changed -/
theorem wt_five {d : Int} (h0 : 0 ≤ d) (h1 : d ≤ len) : wt 2 5 5 len d = if d = len then 5 ^ len else 0 := by
  unfold wt
  rw [show ((5 : Int) - 5) * oth 2 = 0 by rw [Int.sub_self, Int.zero_mul]]
  by_cases h : d = len
  · subst h
    rw [if_pos rfl, show ((len : Int)).toNat = len by omega, Nat.sub_self, Int.pow_zero, Int.mul_one]
  · rw [if_neg h, Int.zero_pow (by omega), Int.mul_zero]
theorem sh_five : ShOk 2 5 5 := by constructor <;> decide
theorem diffn {y r : List Int} (hy : y ∈ rows 2 len) (hr : r ∈ rows 2 len) : diff y r = len ↔ r = compl y := by
  have e := diff_compl hy hr
  rw [← diff0 (compl_rows hy) hr, e]
  omega
theorem oth2 : oth 2 = 1 := rfl
theorem low_five1 (hne : codeW mv ws 2 v len ≠ []) :
    low (sm (rows 2 len) fun y => mxf (fun r => wt 2 5 5 len (diff y r)) (codeW mv ws 2 v len)) (((codeW mv ws 2 v len).length : Int) * (5 * oth 2) ^ len) = (1, 1) := by
  have hc : 0 < ((codeW mv ws 2 v len).length : Int) := by have := List.length_pos_iff.mpr hne; omega
  have hp : (0 : Int) < 5 ^ len := Int.pow_pos (by decide)
  have e : ∀ y ∈ rows 2 len, mxf (fun r => wt 2 5 5 len (diff y r)) (codeW mv ws 2 v len) = if compl y ∈ codeW mv ws 2 v len then 5 ^ len else 0 := fun y hy => by
    have hl := (rows_mem.mp hy).1
    rw [mxf_congr fun r _ => wt_five (dl hl).1 (dl hl).2]
    exact mx_one hne hp (fun r => diff y r = (len : Int)) fun r hr => diffn hy (code_rows hr)
  rw [sm_congr e, sm_compl len fun y => if y ∈ codeW mv ws 2 v len then 5 ^ len else 0, code_sum, oth2, Int.mul_one]
  exact low_self (Int.mul_pos hc hp)
theorem low_five2 (hne : codeW mv ws 2 v len ≠ []) {row : List Int} (hr : row ∈ rows 2 len) :
    low (sm (codeW mv ws 2 v len) fun r => wt 2 5 5 len (diff row r)) (((codeW mv ws 2 v len).length : Int) * (5 * oth 2) ^ len) = if memD (compl row) (codeW mv ws 2 v len) = true then (1, ((codeW mv ws 2 v len).length : Int)) else (0, 1) := by
  have hc : 0 < ((codeW mv ws 2 v len).length : Int) := by have := List.length_pos_iff.mpr hne; omega
  have hp : (0 : Int) < 5 ^ len := Int.pow_pos (by decide)
  have hl := (rows_mem.mp hr).1
  have e : ∀ r ∈ codeW mv ws 2 v len, wt 2 5 5 len (diff row r) = if compl row = r then 5 ^ len else 0 := fun r hr' => by
    rw [wt_five (dl hl).1 (dl hl).2]
    by_cases h : compl row = r
    · rw [if_pos h, if_pos ((diffn hr (code_rows hr')).mpr h.symm)]
    · rw [if_neg h, if_neg fun z => h ((diffn hr (code_rows hr')).mp z).symm]
  rw [sm_congr e, code_one (compl_rows hr), oth2, Int.mul_one]
  by_cases h : compl row ∈ codeW mv ws 2 v len
  · rw [if_pos h, if_pos (memD_iff.mpr h), Int.mul_comm]
    exact low_dvd hp hc
  · rw [if_neg h, if_neg (fun z => h (memD_iff.mp z))]
    exact low_zero (Int.mul_pos hc hp)
/-! turned about -/
theorem wt_turn {t : Int} {d : Int} (h0 : 0 ≤ d) (h1 : d ≤ len) : wt 2 (99 - t) 99 len ((len : Int) - d) = wt 2 t 99 len d := by
  unfold wt
  rw [oth2, Int.mul_one, Int.mul_one, show (99 - (99 - t)) = t by omega, show ((len : Int) - d).toNat = len - d.toNat by omega, show len - (len - d.toNat) = d.toNat by omega, Int.mul_comm]
theorem sh_turn {t : Int} (h0 : 0 ≤ t) (h1 : t < 100) : ShOk 2 t 99 := ⟨by decide, by decide, h0, by omega, by decide⟩
theorem turn_sum (t : Int) : (sm (rows 2 len) fun y => mxf (fun r => wt 2 t 99 len (diff y r)) (codeW mv ws 2 v len)) = sm (rows 2 len) fun y => mxf (fun r => wt 2 (99 - t) 99 len (diff y r)) (codeW mv ws 2 v len) := by
  rw [← sm_compl len fun y => mxf (fun r => wt 2 (99 - t) 99 len (diff y r)) (codeW mv ws 2 v len)]
  refine sm_congr fun y hy => mxf_congr fun r hr => ?_
  have hl := (rows_mem.mp hy).1
  rw [diff_compl hy (code_rows hr)]
  exact (wt_turn (dl hl).1 (dl hl).2).symm
theorem best_size (W : WOk mv ws n q) {top bot : Int} (hs : ShOk q top bot) (hl : len ≤ 60) (hpow : q ^ len ≤ 4096) (hne : codeW mv ws q v len ≠ []) : 0 ≤ (sm (rows q len) fun y => mxf (fun r => wt q top bot len (diff y r)) (codeW mv ws q v len)) ∧ Sz 1600 (sm (rows q len) fun y => mxf (fun r => wt q top bot len (diff y r)) (codeW mv ws q v len)) := by
  have h0 : ∀ y ∈ rows q len, 0 ≤ mxf (fun r => wt q top bot len (diff y r)) (codeW mv ws q v len) := fun y _ => by
    obtain ⟨⟨r, _, e⟩, _⟩ := mxf_is (f := fun r => wt q top bot len (diff y r)) hne
    rw [e]
    exact wt_nonneg hs _ _
  refine ⟨sm_nonneg h0, .of_lt (sm_nonneg h0) ?_⟩
  have h1 : (sm (rows q len) fun y => mxf (fun r => wt q top bot len (diff y r)) (codeW mv ws q v len)) ≤ sm (rows q len) fun _ => 2 ^ 1400 := sm_le fun y hy => mxf_le hne fun r _ => by
    have h2 := (hs.s1.powz (diff y r).toNat).mul ((hs.s2 W).powz (len - (diff y r).toNat))
    have := dl (r := r) (rows_mem.mp hy).1
    exact Int.le_of_lt (h2.mono (by omega) : Sz 1400 (wt q top bot len (diff y r))).lt
  rw [sm_const, rows_len] at h1
  have h3 : ((q ^ len : Nat) : Int) * 2 ^ 1400 ≤ 4096 * 2 ^ 1400 := Int.mul_le_mul_of_nonneg_right (by omega) (Int.le_of_lt (Int.pow_pos (by decide)))
  have h4 : (4096 : Int) * 2 ^ 1400 < 2 ^ 1600 := by decide +kernel
  omega
theorem sh_sixty (hq : q = 2 ∨ q = 3) {t : Int} (h0 : 0 ≤ t) (h1 : t < 30) : ShOk q t 60 := ⟨by decide, by decide, h0, by omega, by omega⟩
end
end Wk
namespace Wk
open PySem PySem.Spec PyProof.Rows L2 Wc LamX
open Mon (ret bnd opt run run_ret run_bnd run_opt)
variable {P : Program} {w : World} {K : PySem.W.Frag} {mg : Str → Option Value} {base : Heap} {C : Addr} {CNoCode CWE : Addr} {T : List (Addr × Str)} {G : Gs} {sa : Addr} {ns : List Int}
-- CUT LAW
abbrev q_law : Str := (("law" : Str) ++ ".<locals>.") ++ "<lambda>"
theorem sc_law : FnScope ["script", "tape", "lap", "kinds", "watch", "verdict", "length", "here", "many", "code", "alike", "whole", "row", "counted", "turned", "top", "low", "high", "less", "more", "even", "item", "one", "number", "kind", "share"] ["script"] (C8.fnScope s_law) := C8.fnScope_by (by decide +kernel)
def c0_law (v_script : List Int) : Option (List Int × List Int) :=
  (bnd (bnd (ret v_script) fun x => bnd (ret ()) fun r => ret (x, r)) fun a => opt (m__law_begun (a.1)))
def cL_law (cs : List Int) (v_script : List Int) : M (Fl Empty Empty Bool) :=
  (bnd (bnd (bnd (ret (4 : Int)) fun x => bnd (bnd (bnd (bnd (bnd (ret v_script) fun x => bnd (ret ()) fun r => ret (x, r)) fun x => ret ((x.1.length : Nat) : Int)) fun x => bnd (bnd (ret (7 : Int)) fun x => bnd (ret ()) fun r => ret (x, r)) fun r => ret (x, r)) fun x => ret (minI x.1 x.2.1)) fun y => ret (x + y)) fun j => opt (rngI 0 j)) fun xs => bndF (forF (fun (s_287 : Unit) (i_265 : Int) => (bnd (bnd (ret (2 : Int)) fun x => bnd (bnd (bnd (ret ()) fun x => bnd (bnd (ret (2 : Int)) fun x => bnd (ret ()) fun r => ret (x, r)) fun r => ret (x, r)) fun a => m__law_draw cs (a.1) (a.2.1)) fun y => ret (x + y)) fun kinds_288 => (bnd (bnd (bnd (bnd (ret ()) fun x => bnd (bnd (ret (5 : Int)) fun x => bnd (bnd (ret kinds_288) fun x => bnd (bnd (ret (2 : Int)) fun x => bnd (ret ()) fun r => ret (x, r)) fun r => ret (x, r)) fun r => ret (x, r)) fun r => ret (x, r)) fun a => m__law_watch cs (a.1) (a.2.1) (a.2.2.1) (a.2.2.2.1)) fun x => bnd (bnd (bnd (ret ()) fun x => bnd (bnd (ret (2 : Int)) fun x => bnd (ret ()) fun r => ret (x, r)) fun r => ret (x, r)) fun a => m__law_draw cs (a.1) (a.2.1)) fun y => bnd (bnd (ret (1 : Int)) fun x => bnd (bnd (bnd (ret ()) fun x => bnd (bnd (bnd (bnd (ret kinds_288) fun x => bnd (ret (2 : Int)) fun y => ret (decide (x = y))) fun k => if k then (ret (5 : Int)) else (ret (3 : Int))) fun x => bnd (ret ()) fun r => ret (x, r)) fun r => ret (x, r)) fun a => m__law_draw cs (a.1) (a.2.1)) fun y => ret (x + y)) fun z => ret (x, y, z)) fun p_289 => (bnd (bnd (bnd (bnd (ret p_289.1) fun x => bnd (ret ()) fun r => ret (x, r)) fun a => opt (m__law_made (a.1))) fun x => bnd (bnd (bnd (bnd (bnd (bnd (ret p_289.1) fun x => bnd (ret ()) fun r => ret (x, r)) fun a => opt (m__law_made (a.1))) fun x => bnd (bnd (ret p_289.2.2) fun x => bnd (ret ()) fun r => ret (x, r)) fun r => ret (x, r)) fun a => opt (m_word_counts (a.1) (a.2.1))) fun xs => bnd (ret p_289.2.1) fun i => opt (atI xs i)) fun y => bnd (bnd (bnd (ret p_289.1) fun x => bnd (bnd (ret p_289.2.1) fun x => bnd (bnd (ret p_289.2.2) fun x => bnd (ret ()) fun r => ret (x, r)) fun r => ret (x, r)) fun r => ret (x, r)) fun a => opt (m__law_code (a.1) (a.2.1) (a.2.2.1))) fun z => ret (x, y, z)) fun p_290 => (bnd (bnd (ret p_290.2.1) fun x => bnd (bnd (ret p_290.2.2) fun x => ret ((x.length : Nat) : Int)) fun y => ret (!decide (x = y))) fun k => if k then (bnd (ret false) fun r => ret (.rt r)) else (bnd (bnd (ret p_290.2.1) fun x => bnd (ret (0 : Int)) fun y => ret (decide (x = y))) fun k => if k then flE (bnd (bnd (bnd (bnd (bnd (bnd (ret p_290.1) fun x => bnd (bnd (ret p_289.2.1) fun x => bnd (bnd (ret p_289.2.2) fun x => bnd (bnd (bnd (ret (0 : Int)) fun x => bnd (ret (1 : Int)) fun y => ret (x, y)) fun x => bnd (ret ()) fun r => ret (x, r)) fun r => ret (x, r)) fun r => ret (x, r)) fun r => ret (x, r)) fun a => opt (mr_right_share (a.1) (a.2.1) (a.2.2.1) (a.2.2.2.1))) fun _ => ret ()) fun _ => ret true) fun i => ret (!i)) fun k => if k then (bnd (ret false) fun r => ret (.rt r)) else (ret (.ct ()))) else (bnd (bnd (bnd (bnd (ret kinds_288) fun x => bnd (ret (1 : Int)) fun y => ret (x - y)) fun x => bnd (ret kinds_288) fun y => ret (x, y)) fun u0 => bnd (bnd (bnd (ret kinds_288) fun x => bnd (bnd (ret p_289.2.2) fun x => bnd (ret ()) fun r => ret (x, r)) fun r => ret (x, r)) fun a => opt (m__law_power (a.1) (a.2.1))) fun u1 => ret (u0, u1)) fun p_291 => (bnd (bnd (bnd (bnd (bnd (ret p_289.2.2) fun j => opt (rngI 0 j)) fun xs => lcC (fun c_293 => bnd (bnd (bnd (ret ()) fun x => bnd (bnd (ret kinds_288) fun x => bnd (ret ()) fun r => ret (x, r)) fun r => ret (x, r)) fun a => m__law_draw cs (a.1) (a.2.1)) fun y => ret (some y)) xs) fun x => bnd (ret ()) fun r => ret (x, r)) fun x => ret x.1) fun row_294 => (bnd (bnd (bnd (bnd (bnd (ret p_290.1) fun x => bnd (bnd (ret p_289.2.1) fun x => bnd (bnd (ret row_294) fun x => bnd (bnd (ret p_291.1) fun x => bnd (ret ()) fun r => ret (x, r)) fun r => ret (x, r)) fun r => ret (x, r)) fun r => ret (x, r)) fun a => opt (m_heard_share (a.1) (a.2.1) (a.2.2.1) (a.2.2.2.1))) fun x => bnd (bnd (ret (1 : Int)) fun x => bnd (ret p_291.2) fun y => ret (x, y)) fun y => ret (!decide (x = y))) fun k => if k then ret true else (bnd (bnd (bnd (ret p_290.1) fun x => bnd (bnd (ret p_289.2.1) fun x => bnd (bnd (ret p_289.2.2) fun x => bnd (bnd (ret p_291.1) fun x => bnd (ret ()) fun r => ret (x, r)) fun r => ret (x, r)) fun r => ret (x, r)) fun r => ret (x, r)) fun a => opt (m_right_share (a.1) (a.2.1) (a.2.2.1) (a.2.2.2.1))) fun x => bnd (bnd (ret (1 : Int)) fun x => bnd (ret p_290.2.1) fun y => ret (x, y)) fun y => ret (!decide (x = y)))) fun k => if k then (bnd (ret false) fun r => ret (.rt r)) else (bnd (bnd (bnd (bnd (ret p_290.2.2) fun xs => lcC (fun c_295 => bnd (bnd (bnd (ret row_294) fun x => bnd (bnd (ret c_295) fun x => bnd (ret ()) fun r => ret (x, r)) fun r => ret (x, r)) fun a => opt (m__law_differ (a.1) (a.2.1))) fun y => ret (some y)) xs) fun x => bnd (ret ()) fun r => ret (x, r)) fun a => opt (m__law_counted (a.1))) fun counted_296 => (bnd (bnd (bnd (bnd (ret p_290.1) fun x => bnd (bnd (ret p_289.2.1) fun x => bnd (bnd (ret row_294) fun x => bnd (bnd (ret p_291.1) fun x => bnd (ret ()) fun r => ret (x, r)) fun r => ret (x, r)) fun r => ret (x, r)) fun r => ret (x, r)) fun a => opt (m_sent_shares (a.1) (a.2.1) (a.2.2.1) (a.2.2.2.1))) fun x => bnd (bnd (bnd (bnd (ret counted_296) fun xs => ret (xs.map (·.1))) fun xs => lcC (fun c_297 => bnd (bnd (ret c_297) fun x => bnd (bnd (bnd (bnd (ret counted_296) fun xs => bnd (ret c_297) fun k => opt (dget xs k)) fun x => bnd (bnd (ret p_290.2.1) fun x => bnd (ret ()) fun r => ret (x, r)) fun r => ret (x, r)) fun a => opt (m__law_low (a.1) (a.2.1))) fun y => ret (x, y)) fun y => ret (some y)) xs) fun xs => opt (dictC xs)) fun y => opt (dneC x y)) fun k => if k then (bnd (ret false) fun r => ret (.rt r)) else (bnd (bnd (bnd (bnd (bnd (ret p_290.1) fun x => bnd (bnd (ret p_289.2.1) fun x => bnd (bnd (ret p_289.2.2) fun x => bnd (bnd (bnd (ret (0 : Int)) fun x => bnd (ret (3 : Int)) fun y => ret (x, y)) fun x => bnd (ret ()) fun r => ret (x, r)) fun r => ret (x, r)) fun r => ret (x, r)) fun r => ret (x, r)) fun a => opt (m_right_share (a.1) (a.2.1) (a.2.2.1) (a.2.2.2.1))) fun x => bnd (bnd (ret (1 : Int)) fun x => bnd (ret (1 : Int)) fun y => ret (x, y)) fun y => ret (!decide (x = y))) fun k => if k then ret true else (bnd (bnd (bnd (ret p_290.1) fun x => bnd (bnd (ret p_289.2.1) fun x => bnd (bnd (ret row_294) fun x => bnd (bnd (bnd (ret (0 : Int)) fun x => bnd (ret (3 : Int)) fun y => ret (x, y)) fun x => bnd (ret ()) fun r => ret (x, r)) fun r => ret (x, r)) fun r => ret (x, r)) fun r => ret (x, r)) fun a => opt (m_heard_share (a.1) (a.2.1) (a.2.2.1) (a.2.2.2.1))) fun x => bnd (bnd (bnd (ret row_294) fun x => bnd (ret p_290.2.2) fun y => ret (memD x y)) fun k => if k then (bnd (ret (1 : Int)) fun x => bnd (ret p_290.2.1) fun y => ret (x, y)) else (bnd (ret (0 : Int)) fun x => bnd (ret (1 : Int)) fun y => ret (x, y))) fun y => ret (!decide (x = y)))) fun k => if k then (bnd (ret false) fun r => ret (.rt r)) else (bnd (bnd (ret kinds_288) fun x => bnd (ret (2 : Int)) fun y => ret (decide (x = y))) fun k => bndF (if k then (bnd (bnd (bnd (bnd (ret row_294) fun xs => lcC (fun c_304 => bnd (bnd (ret (1 : Int)) fun x => bnd (ret c_304) fun y => ret (x - y)) fun y => ret (some y)) xs) fun x => bnd (ret ()) fun r => ret (x, r)) fun x => ret x.1) fun turned_305 => (bnd (bnd (bnd (bnd (bnd (ret p_290.1) fun x => bnd (bnd (ret p_289.2.1) fun x => bnd (bnd (ret p_289.2.2) fun x => bnd (bnd (bnd (ret (5 : Int)) fun x => bnd (ret (5 : Int)) fun y => ret (x, y)) fun x => bnd (ret ()) fun r => ret (x, r)) fun r => ret (x, r)) fun r => ret (x, r)) fun r => ret (x, r)) fun a => opt (m_right_share (a.1) (a.2.1) (a.2.2.1) (a.2.2.2.1))) fun x => bnd (bnd (ret (1 : Int)) fun x => bnd (ret (1 : Int)) fun y => ret (x, y)) fun y => ret (!decide (x = y))) fun k => if k then ret true else (bnd (bnd (bnd (ret p_290.1) fun x => bnd (bnd (ret p_289.2.1) fun x => bnd (bnd (ret row_294) fun x => bnd (bnd (bnd (ret (5 : Int)) fun x => bnd (ret (5 : Int)) fun y => ret (x, y)) fun x => bnd (ret ()) fun r => ret (x, r)) fun r => ret (x, r)) fun r => ret (x, r)) fun r => ret (x, r)) fun a => opt (m_heard_share (a.1) (a.2.1) (a.2.2.1) (a.2.2.2.1))) fun x => bnd (bnd (bnd (ret turned_305) fun x => bnd (ret p_290.2.2) fun y => ret (memD x y)) fun k => if k then (bnd (ret (1 : Int)) fun x => bnd (ret p_290.2.1) fun y => ret (x, y)) else (bnd (ret (0 : Int)) fun x => bnd (ret (1 : Int)) fun y => ret (x, y))) fun y => ret (!decide (x = y)))) fun k => if k then (bnd (ret false) fun r => ret (.rt r)) else (bnd (bnd (bnd (ret ()) fun x => bnd (bnd (ret (100 : Int)) fun x => bnd (ret ()) fun r => ret (x, r)) fun r => ret (x, r)) fun a => m__law_draw cs (a.1) (a.2.1)) fun top_306 => (bnd (bnd (bnd (bnd (ret p_290.1) fun x => bnd (bnd (ret p_289.2.1) fun x => bnd (bnd (ret p_289.2.2) fun x => bnd (bnd (bnd (ret top_306) fun x => bnd (ret (99 : Int)) fun y => ret (x, y)) fun x => bnd (ret ()) fun r => ret (x, r)) fun r => ret (x, r)) fun r => ret (x, r)) fun r => ret (x, r)) fun a => opt (m_right_share (a.1) (a.2.1) (a.2.2.1) (a.2.2.2.1))) fun x => bnd (bnd (bnd (ret p_290.1) fun x => bnd (bnd (ret p_289.2.1) fun x => bnd (bnd (ret p_289.2.2) fun x => bnd (bnd (bnd (bnd (ret (99 : Int)) fun x => bnd (ret top_306) fun y => ret (x - y)) fun x => bnd (ret (99 : Int)) fun y => ret (x, y)) fun x => bnd (ret ()) fun r => ret (x, r)) fun r => ret (x, r)) fun r => ret (x, r)) fun r => ret (x, r)) fun a => opt (m_right_share (a.1) (a.2.1) (a.2.2.1) (a.2.2.2.1))) fun y => ret (!decide (x = y))) fun k => if k then (bnd (ret false) fun r => ret (.rt r)) else (ret (.nx ())))))) else (ret (.nx ()))) fun j_302 => (bnd (bnd (bnd (bnd (bnd (bnd (bnd (ret ()) fun x => bnd (bnd (ret (30 : Int)) fun x => bnd (ret ()) fun r => ret (x, r)) fun r => ret (x, r)) fun a => m__law_draw cs (a.1) (a.2.1)) fun x => bnd (bnd (bnd (bnd (ret ()) fun x => bnd (bnd (ret (30 : Int)) fun x => bnd (ret ()) fun r => ret (x, r)) fun r => ret (x, r)) fun a => m__law_draw cs (a.1) (a.2.1)) fun x => bnd (ret []) fun r => ret (x :: r)) fun r => ret (x :: r)) fun x => bnd (ret ()) fun r => ret (x, r)) fun x => ret (sortI x.1)) fun xs => opt (two xs)) fun p_307 => (bnd (bnd (bnd (bnd (ret p_290.1) fun x => bnd (bnd (ret p_289.2.1) fun x => bnd (bnd (ret p_289.2.2) fun x => bnd (bnd (bnd (ret p_307.1) fun x => bnd (ret (60 : Int)) fun y => ret (x, y)) fun x => bnd (ret ()) fun r => ret (x, r)) fun r => ret (x, r)) fun r => ret (x, r)) fun r => ret (x, r)) fun a => opt (m_right_share (a.1) (a.2.1) (a.2.2.1) (a.2.2.2.1))) fun u0 => bnd (bnd (bnd (ret p_290.1) fun x => bnd (bnd (ret p_289.2.1) fun x => bnd (bnd (ret p_289.2.2) fun x => bnd (bnd (bnd (ret p_307.2) fun x => bnd (ret (60 : Int)) fun y => ret (x, y)) fun x => bnd (ret ()) fun r => ret (x, r)) fun r => ret (x, r)) fun r => ret (x, r)) fun r => ret (x, r)) fun a => opt (m_right_share (a.1) (a.2.1) (a.2.2.1) (a.2.2.2.1))) fun u1 => ret (u0, u1)) fun p_308 => (bnd (bnd (bnd (bnd (ret p_308.1) fun x => bnd (ret (0 : Int)) fun i => opt (if i = 0 ∨ i = -2 then some x.1 else none)) fun x => bnd (bnd (ret p_308.2) fun x => bnd (ret (1 : Int)) fun i => opt (if i = 1 ∨ i = -1 then some x.2 else none)) fun y => opt (mulW x y)) fun x => bnd (bnd (bnd (ret p_308.2) fun x => bnd (ret (0 : Int)) fun i => opt (if i = 0 ∨ i = -2 then some x.1 else none)) fun x => bnd (bnd (ret p_308.1) fun x => bnd (ret (1 : Int)) fun i => opt (if i = 1 ∨ i = -1 then some x.2 else none)) fun y => opt (mulW x y)) fun y => ret (decide (x < y))) fun k => if k then (bnd (ret false) fun r => ret (.rt r)) else (ret (.nx ())))))))))))))))))) xs ()) fun s_309 => (bnd (bnd (bnd (bnd (bnd (ret (0 : Int)) fun x => bnd (bnd (ret (1 : Int)) fun x => bnd (ret []) fun r => ret (x :: r)) fun r => ret (x :: r)) fun x => bnd (bnd (bnd (ret (1 : Int)) fun x => bnd (bnd (ret (0 : Int)) fun x => bnd (ret []) fun r => ret (x :: r)) fun r => ret (x :: r)) fun x => bnd (ret []) fun r => ret (x :: r)) fun r => ret (x :: r)) fun x => bnd (bnd (bnd (ret (1 : Int)) fun x => bnd (bnd (ret (0 : Int)) fun x => bnd (ret []) fun r => ret (x :: r)) fun r => ret (x :: r)) fun x => bnd (ret ()) fun r => ret (x, r)) fun r => ret (x, r)) fun a => opt (mkW (a.1) (a.2.1))) fun even_310 => (bnd (bnd (bnd (bnd (bnd (ret (0 : Int)) fun x => bnd (ret (1 : Int)) fun y => ret (x, y)) fun x => bnd (bnd (bnd (ret (1 : Int)) fun x => bnd (ret (2 : Int)) fun y => ret (x, y)) fun x => bnd (bnd (bnd (ret (1 : Int)) fun x => bnd (ret (1 : Int)) fun y => ret (x, y)) fun x => bnd (bnd (bnd (ret (1 : Int)) fun x => bnd (ret (4 : Int)) fun y => ret (x, y)) fun x => bnd (ret []) fun r => ret (x :: r)) fun r => ret (x :: r)) fun r => ret (x :: r)) fun r => ret (x :: r)) fun xs => lcC (fun c_311 => bnd (bnd (bnd (ret even_310) fun x => bnd (bnd (ret (1 : Int)) fun x => bnd (bnd (ret (2 : Int)) fun x => bnd (bnd (ret c_311) fun x => bnd (ret ()) fun r => ret (x, r)) fun r => ret (x, r)) fun r => ret (x, r)) fun r => ret (x, r)) fun a => opt (m_right_share (a.1) (a.2.1) (a.2.2.1) (a.2.2.2.1))) fun y => ret (some y)) xs) fun x => bnd (bnd (bnd (ret (1 : Int)) fun x => bnd (ret (1 : Int)) fun y => ret (x, y)) fun x => bnd (bnd (bnd (ret (1 : Int)) fun x => bnd (ret (2 : Int)) fun y => ret (x, y)) fun x => bnd (bnd (bnd (ret (1 : Int)) fun x => bnd (ret (1 : Int)) fun y => ret (x, y)) fun x => bnd (bnd (bnd (ret (3 : Int)) fun x => bnd (ret (4 : Int)) fun y => ret (x, y)) fun x => bnd (ret []) fun r => ret (x :: r)) fun r => ret (x :: r)) fun r => ret (x :: r)) fun r => ret (x :: r)) fun y => ret (decide (x = y))) fun r => ret (.rt r))))
theorem s0_law (pv : PV K mg base C CNoCode CWE T) {v_script : List Int} {f : Addr} {c Pt : Addr} (TB : LamX.TabB base mg c Pt) (hT : (Pt, q_law) ∈ T) (hu : ∀ p ∈ T, p.1 = Pt → p.2 = q_law) {A : Around} {outer : List Env} {s : Shared} {H : Hp} {E : XK} (hr : Room 9 (A.deeper (envOfC "law" (C8.fnScope s_law) s.heap.objs.size f (.ref c)))) :
    XS (Gt T) (cxOf C8.CX0 P w K mg base ["script", "tape", "lap", "kinds", "watch", "verdict", "length", "here", "many", "code", "alike", "whole", "row", "counted", "turned", "top", "low", "high", "less", "more", "even", "item", "one", "number", "kind", "share"] "law" (C8.fnScope s_law) f (.ref c) A outer s H E).nox ((C8.fnBody s_law).getD 0 (.Pass ⟨0, 0, 0, 0⟩)) ([some (.sh (TScrF K sa ns) v_script)] ++ List.replicate 25 none) (fun y => [some (.sh (TScrF K sa ns) v_script), some (.sh (TTape1 K sa ns) y)] ++ List.replicate 24 none) (c0_law v_script) := by
  unfold c0_law
  have lg : LG T (Gt T) := lg_t
  exact (xs_set (i := 1) (xe_callP (k := 1) (c__law_begun pv lg) hr (by decide) (xa_cons (xe_var (i := 0) (hv := (Or.inl (by kernel_rfl)))) xa_nil)) sc_law.nd (hx := (Or.inr (by kernel_rfl))) (hf := (.inl (by kernel_rfl))))
theorem sL_law (pv : PV K mg base C CNoCode CWE T) {tp tl tc : Addr} {cs : List Int} (hLC : tl ≠ tc) {v_script : List Int} {f : Addr} {c Pt : Addr} (TB : LamX.TabB base mg c Pt) (hT : (Pt, q_law) ∈ T) (hu : ∀ p ∈ T, p.1 = Pt → p.2 = q_law) {A : Around} {outer : List Env} {s : Shared} {H : Hp} {E : XK} (hr : Room 9 (A.deeper (envOfC "law" (C8.fnScope s_law) s.heap.objs.size f (.ref c)))) :
    XB (Gtp T tp tl tc cs) (cxOf C8.CX0 P w K mg base ["script", "tape", "lap", "kinds", "watch", "verdict", "length", "here", "many", "code", "alike", "whole", "row", "counted", "turned", "top", "low", "high", "less", "more", "even", "item", "one", "number", "kind", "share"] "law" (C8.fnScope s_law) f (.ref c) A outer s H E).nox ((C8.fnBody s_law).drop 1) [some (.sh (TScrF K sa ns) v_script), some (.sh (TRaw (.ref tp)) ()), none, none, none, none, none, none, none, none, none, none, none, none, none, none, none, none, none, none, none, none, none, none, none, none] (Empty.elim : Empty → Ga) (Empty.elim : Empty → Ga) TBool (cL_law cs v_script) := by
  have lg : LG T (Gtp T tp tl tc cs) := lg_tp
  unfold cL_law
  exact (xb_for (τ := TInt) (g1 := fun (s_287 : Unit) => [some (.sh (TScrF K sa ns) v_script), some (.sh (TRaw (.ref tp)) ()), none, none, none, none, none, none, none, none, none, none, none, none, none, none, none, none, none, none, none, none, none, none, none, none]) PassesOwn.never (xi_rng1 pv.n_range (xe_op op_add rb_add xe_int (xe_callB (call_min2 rfl) rc_min2 pv.n_min (by kernel_rfl) (xa_cons (xe_callB call_len_seq rc_lenScrF pv.n_len (by kernel_rfl) (xa_cons (xe_var (i := 0) (hv := (Or.inl (by kernel_rfl)))) xa_nil)) (xa_cons xe_int xa_nil))))) (xg_name (i := 2) sc_law.nd (hx := (Or.inl (by kernel_rfl))) (hf := (.inl (by kernel_rfl)))) (.eq (.eq (.no (.no (.no (.no (.no (.no (.no (.no (.no (.no (.no (.no (.no (.no (.no (.no (.no (.no (.no (.no (.no (.no (.no (.no .nil)))))))))))))))))))))))))) (fun s_287 i_265 => (xb_seq (xs_set (i := 3) (xe_op op_add rb_add xe_int (xe_callM (k := 2) (c__law_draw pv lg hLC) hr (by decide) (xa_cons (xe_var (i := 1) (hv := (Or.inr (Or.inl (by kernel_rfl))))) (xa_cons xe_int xa_nil)))) sc_law.nd (hx := (Or.inr (by kernel_rfl))) (hf := (.inl (by kernel_rfl)))) fun kinds_288 => (xb_seq (xs_tg (xe_t3 (xe_callM (k := 3) (c__law_watch pv lg hLC) hr (by decide) (xa_cons (xe_var (i := 1) (hv := (Or.inr (Or.inl (by kernel_rfl))))) (xa_cons xe_int (xa_cons (xe_var (i := 3) (hv := (Or.inr (Or.inl (by kernel_rfl))))) (xa_cons xe_int xa_nil))))) (xe_callM (k := 2) (c__law_draw pv lg hLC) hr (by decide) (xa_cons (xe_var (i := 1) (hv := (Or.inr (Or.inl (by kernel_rfl))))) (xa_cons xe_int xa_nil))) (xe_op op_add rb_add xe_int (xe_callM (k := 2) (c__law_draw pv lg hLC) hr (by decide) (xa_cons (xe_var (i := 1) (hv := (Or.inr (Or.inl (by kernel_rfl))))) (xa_cons (xe_if (xt_cmp op_eq rb_eqI (xe_var (i := 3) (hv := (Or.inr (Or.inl (by kernel_rfl))))) xe_int (by kernel_rfl)) xe_int xe_int) xa_nil))))) (xg_t3 (xg_name (i := 4) sc_law.nd (hx := (Or.inl (by kernel_rfl))) (hf := (.inl (by kernel_rfl)))) (xg_name (i := 5) sc_law.nd (hx := (Or.inr (by kernel_rfl))) (hf := (.inl (by kernel_rfl)))) (xg_name (i := 6) sc_law.nd (hx := (Or.inr (by kernel_rfl))) (hf := (.inl (by kernel_rfl)))))) fun p_289 => (xb_seq (xs_tg (xe_t3 (xe_callP (k := 9) (c__law_made pv lg) hr (by decide) (xa_cons (xe_var (i := 4) (hv := (Or.inl (by kernel_rfl)))) xa_nil)) (xo_ixT (xo_at (xe_callP (k := 3) (c_word_counts pv lg) hr (by decide) (xa_cons (xe_callP (k := 9) (c__law_made pv lg) hr (by decide) (xa_cons (xe_var (i := 4) (hv := (Or.inl (by kernel_rfl)))) xa_nil)) (xa_cons (xe_var (i := 6) (hv := (Or.inr (Or.inl (by kernel_rfl))))) xa_nil)))) (xe_var (i := 5) (hv := (Or.inr (Or.inl (by kernel_rfl))))) (fun _ _ => by kernel_rfl)) (xe_callP (k := 2) (c__law_code pv lg) hr (by decide) (xa_cons (xe_var (i := 4) (hv := (Or.inl (by kernel_rfl)))) (xa_cons (xe_var (i := 5) (hv := (Or.inr (Or.inl (by kernel_rfl))))) (xa_cons (xe_var (i := 6) (hv := (Or.inr (Or.inl (by kernel_rfl))))) xa_nil))))) (xg_t3 (xg_name (i := 7) sc_law.nd (hx := (Or.inr (by kernel_rfl))) (hf := (.inl (by kernel_rfl)))) (xg_name (i := 8) sc_law.nd (hx := (Or.inr (by kernel_rfl))) (hf := (.inl (by kernel_rfl)))) (xg_name (i := 9) sc_law.nd (hx := (Or.inl (by kernel_rfl))) (hf := (.inl (by kernel_rfl)))))) fun p_290 => (xb_ifR (xt_cmp op_ne rb_neI (xe_var (i := 8) (hv := (Or.inr (Or.inl (by kernel_rfl))))) (xo_lenL pv.n_len (xo_at (xe_var (i := 9) (hv := (Or.inl (by kernel_rfl)))))) (by kernel_rfl)) xe_bl (xb_ifE (gE := fun z => z.elim) (xt_cmp op_eq rb_eqI (xe_var (i := 8) (hv := (Or.inr (Or.inl (by kernel_rfl))))) xe_int (by kernel_rfl)) (xb_ifR (xt_not (xt_val (xe_isCaught pv.exC_NoCode pv.kit_NoCode pv.n_isinstance pv.mNoCode (xe_caught (k := 4) (c := c) (P := Pt) (CW := CWE) (cls := .ref CNoCode) lg pv.d__law_caught rfl sc__law_caught (by kernel_rfl) ⟨(by kernel_rfl), (by kernel_rfl), (by kernel_rfl)⟩ pv.mWatchError pv.ex_NoCode (fun _ _ _ _ _ _ us hl => match us, hl with | [_], _ => rfl) (fun _ => (by kernel_rfl)) (fun _ => (by kernel_rfl)) (fun _ => (by kernel_rfl)) TB (by kernel_rfl) hT hu (hr.mono (by decide)) (lamS_by (by kernel_rfl)) (by kernel_rfl) (fun _ _ _ _ _ => (by kernel_rfl)) (by exact True.intro) (fun A outer s H E fa c hr => xre_call (k := 4) (c_r_right_share pv lg) hr (by decide) (takes_of rfl rfl rfl rfl) (xa_cons (xe_var (i := 7) (hv := (Or.inr (Or.inr (by kernel_rfl))))) (xa_cons (xe_var (i := 5) (hv := (Or.inr (Or.inr (by kernel_rfl))))) (xa_cons (xe_var (i := 6) (hv := (Or.inr (Or.inr (by kernel_rfl))))) (xa_cons (xe_t2 xe_int xe_int) xa_nil))))))))) xe_bl (xb_cont (.eq (.eq (.no (.no (.no (.no (.no (.no (.no (.no (.no (.no (.no (.no (.no (.no (.no (.no (.no (.no (.no (.no (.no (.no (.no (.no .nil)))))))))))))))))))))))))))) (xb_seq (xs_par (i := 10) (j := 11) (fun h => ps_par rfl sc_law.nd (by kernel_rfl) (by kernel_rfl) (by decide) (by kernel_rfl) (by kernel_rfl) h (by kernel_rfl) (by kernel_rfl)) (xe_t2 (xe_op op_sub rb_sub (xe_var (i := 3) (hv := (Or.inr (Or.inl (by kernel_rfl))))) xe_int) (xe_var (i := 3) (hv := (Or.inr (Or.inl (by kernel_rfl)))))) (xe_callP (k := 1) (c__law_power pv lg) hr (by decide) (xa_cons (xe_var (i := 3) (hv := (Or.inr (Or.inl (by kernel_rfl))))) (xa_cons (xe_var (i := 6) (hv := (Or.inr (Or.inl (by kernel_rfl))))) xa_nil)))) fun p_291 => (xb_seq (xs_set (i := 12) (xe_callTy call_tuple_of rc_tupleS pv.n_tuple (by kernel_rfl) (xa_cons (xe_as (xe_lc (own := [("item", 21)]) sc_law.nd (blkOk_by (by kernel_rfl)) (xi_rng1 pv.n_range (xe_var (i := 6) (hv := (Or.inr (Or.inl (by kernel_rfl)))))) (fun _ _ _ _ _ => (xg_name (i := 21) sc_law.nd (hx := (Or.inl (by kernel_rfl))) (hf := (.inr (by kernel_rfl))))) (by decide) (fun c_293 => fun _ _ _ _ _ => (xe_callM (k := 2) (c__law_draw pv lg hLC) hr (by decide) (xa_cons (xe_var (i := 1) (hv := (Or.inr (Or.inl (by kernel_rfl))))) (xa_cons (xe_var (i := 3) (hv := (Or.inr (Or.inl (by kernel_rfl))))) xa_nil))))) (seq_l ty_id)) xa_nil)) sc_law.nd (hx := (Or.inr (by kernel_rfl))) (hf := (.inl (by kernel_rfl)))) fun row_294 => (xb_ifR (xt_w (xw_or (xt_cmp (op_neD hr.units) (rb_neD (d2 dInt dInt) (by decide)) (xe_callP (k := 9) (c_heard_share pv lg) hr (by decide) (xa_cons (xe_var (i := 7) (hv := (Or.inr (Or.inl (by kernel_rfl))))) (xa_cons (xe_var (i := 5) (hv := (Or.inr (Or.inl (by kernel_rfl))))) (xa_cons (xe_var (i := 12) (hv := (Or.inr (Or.inl (by kernel_rfl))))) (xa_cons (xe_var (i := 10) (hv := (Or.inl (by kernel_rfl)))) xa_nil))))) (xe_t2 xe_int (xe_var (i := 11) (hv := (Or.inl (by kernel_rfl))))) (by kernel_rfl)) (xw_or1 (xt_cmp (op_neD hr.units) (rb_neD (d2 dInt dInt) (by decide)) (xe_callP (k := 4) (c_right_share pv lg) hr (by decide) (xa_cons (xe_var (i := 7) (hv := (Or.inr (Or.inl (by kernel_rfl))))) (xa_cons (xe_var (i := 5) (hv := (Or.inr (Or.inl (by kernel_rfl))))) (xa_cons (xe_var (i := 6) (hv := (Or.inr (Or.inl (by kernel_rfl))))) (xa_cons (xe_var (i := 10) (hv := (Or.inl (by kernel_rfl)))) xa_nil))))) (xe_t2 xe_int (xe_var (i := 8) (hv := (Or.inr (Or.inl (by kernel_rfl)))))) (by kernel_rfl))))) xe_bl (xb_seq (xs_set (i := 13) (xe_callP (k := 1) (c__law_counted pv lg) hr (by decide) (xa_cons (xe_lc (own := [("one", 22)]) sc_law.nd (blkOk_by (by kernel_rfl)) (xi_lst (xe_var (i := 9) (hv := (Or.inl (by kernel_rfl))))) (fun _ _ _ _ _ => (xg_name (i := 22) sc_law.nd (hx := (Or.inl (by kernel_rfl))) (hf := (.inr (by kernel_rfl))))) (by decide) (fun c_295 => fun _ _ _ _ _ => (xe_callP (k := 1) (c__law_differ pv lg) hr (by decide) (xa_cons (xe_var (i := 12) (hv := (Or.inr (Or.inl (by kernel_rfl))))) (xa_cons (xe_var (i := 22) (hv := (Or.inl (by kernel_rfl)))) xa_nil))))) xa_nil)) sc_law.nd (hx := (Or.inr (by kernel_rfl))) (hf := (.inl (by kernel_rfl)))) fun counted_296 => (xb_ifR (xt_cmp (op_neF (room66 hr)) (rb_neF (d2 dInt dInt) (by decide)) (xe_callP (k := 9) (c_sent_shares pv lg) hr (by decide) (xa_cons (xe_var (i := 7) (hv := (Or.inr (Or.inl (by kernel_rfl))))) (xa_cons (xe_var (i := 5) (hv := (Or.inr (Or.inl (by kernel_rfl))))) (xa_cons (xe_var (i := 12) (hv := (Or.inr (Or.inl (by kernel_rfl))))) (xa_cons (xe_var (i := 10) (hv := (Or.inl (by kernel_rfl)))) xa_nil))))) (xe_newD (fun _ _ _ => mu_dK) (xn_dictP rfl pv.n_dict (xe_lc (own := [("number", 23)]) sc_law.nd (blkOk_by (by kernel_rfl)) (xi_keysK (xe_var (i := 13) (hv := (Or.inr (Or.inl (by kernel_rfl)))))) (fun _ _ _ _ _ => (xg_name (i := 23) sc_law.nd (hx := (Or.inl (by kernel_rfl))) (hf := (.inr (by kernel_rfl))))) (by decide) (fun c_297 => fun _ _ _ _ _ => (xe_t2 (xe_var (i := 23) (hv := (Or.inl (by kernel_rfl)))) (xe_callP (k := 2) (c__law_low pv lg) hr (by decide) (xa_cons (xo_dget kdK hr.units (xo_lk (xe_var (i := 13) (hv := (Or.inr (Or.inl (by kernel_rfl)))))) (xe_var (i := 23) (hv := (Or.inl (by kernel_rfl)))) (fun _ _ => by kernel_rfl)) (xa_cons (xe_var (i := 8) (hv := (Or.inr (Or.inl (by kernel_rfl))))) xa_nil)))))))) (by kernel_rfl)) xe_bl (xb_ifR (xt_w (xw_or (xt_cmp (op_neD hr.units) (rb_neD (d2 dInt dInt) (by decide)) (xe_callP (k := 4) (c_right_share pv lg) hr (by decide) (xa_cons (xe_var (i := 7) (hv := (Or.inr (Or.inl (by kernel_rfl))))) (xa_cons (xe_var (i := 5) (hv := (Or.inr (Or.inl (by kernel_rfl))))) (xa_cons (xe_var (i := 6) (hv := (Or.inr (Or.inl (by kernel_rfl))))) (xa_cons (xe_t2 xe_int xe_int) xa_nil))))) (xe_t2 xe_int xe_int) (by kernel_rfl)) (xw_or1 (xt_cmp (op_neD hr.units) (rb_neD (d2 dInt dInt) (by decide)) (xe_callP (k := 9) (c_heard_share pv lg) hr (by decide) (xa_cons (xe_var (i := 7) (hv := (Or.inr (Or.inl (by kernel_rfl))))) (xa_cons (xe_var (i := 5) (hv := (Or.inr (Or.inl (by kernel_rfl))))) (xa_cons (xe_var (i := 12) (hv := (Or.inr (Or.inl (by kernel_rfl))))) (xa_cons (xe_t2 xe_int xe_int) xa_nil))))) (xe_if (xt_cmp (L2.op_inD (room65 hr)) (rb_inD (dTup dInt) (by decide)) (xe_var (i := 12) (hv := (Or.inr (Or.inl (by kernel_rfl))))) (xe_var (i := 9) (hv := (Or.inl (by kernel_rfl)))) (by kernel_rfl)) (xe_t2 xe_int (xe_var (i := 8) (hv := (Or.inr (Or.inl (by kernel_rfl)))))) (xe_t2 xe_int xe_int)) (by kernel_rfl))))) xe_bl (xb_if (g1 := fun (j_302 : Unit) => [some (.sh (TScrF K sa ns) v_script), some (.sh (TRaw (.ref tp)) ()), some (.sh TInt i_265), some (.sh TInt kinds_288), some (.sh (T2 (TTup (TTup TInt)) (TTup TInt)) p_289.1), some (.sh TInt p_289.2.1), some (.sh TInt p_289.2.2), some (.sh (TW C) p_290.1), some (.sh TInt p_290.2.1), some (.sh (TLst (TTup TInt)) p_290.2.2), some (.sh (T2 TInt TInt) p_291.1), some (.sh TInt p_291.2), some (.sh (TTup TInt) row_294), some (.sh (TDK TInt) counted_296), none, none, none, none, none, none, none, none, none, none, none, none]) (xt_cmp op_eq rb_eqI (xe_var (i := 3) (hv := (Or.inr (Or.inl (by kernel_rfl))))) xe_int (by kernel_rfl)) (xb_seq (xs_set (i := 14) (xe_callTy call_tuple_of rc_tupleS pv.n_tuple (by kernel_rfl) (xa_cons (xe_as (xe_lc (own := [("kind", 24)]) sc_law.nd (blkOk_by (by kernel_rfl)) (xi_tup (xe_var (i := 12) (hv := (Or.inr (Or.inl (by kernel_rfl)))))) (fun _ _ _ _ _ => (xg_name (i := 24) sc_law.nd (hx := (Or.inl (by kernel_rfl))) (hf := (.inr (by kernel_rfl))))) (by decide) (fun c_304 => fun _ _ _ _ _ => (xe_op op_sub rb_sub xe_int (xe_var (i := 24) (hv := (Or.inl (by kernel_rfl))))))) (seq_l ty_id)) xa_nil)) sc_law.nd (hx := (Or.inl (by kernel_rfl))) (hf := (.inl (by kernel_rfl)))) fun turned_305 => (xb_ifR (xt_w (xw_or (xt_cmp (op_neD hr.units) (rb_neD (d2 dInt dInt) (by decide)) (xe_callP (k := 4) (c_right_share pv lg) hr (by decide) (xa_cons (xe_var (i := 7) (hv := (Or.inr (Or.inl (by kernel_rfl))))) (xa_cons (xe_var (i := 5) (hv := (Or.inr (Or.inl (by kernel_rfl))))) (xa_cons (xe_var (i := 6) (hv := (Or.inr (Or.inl (by kernel_rfl))))) (xa_cons (xe_t2 xe_int xe_int) xa_nil))))) (xe_t2 xe_int xe_int) (by kernel_rfl)) (xw_or1 (xt_cmp (op_neD hr.units) (rb_neD (d2 dInt dInt) (by decide)) (xe_callP (k := 9) (c_heard_share pv lg) hr (by decide) (xa_cons (xe_var (i := 7) (hv := (Or.inr (Or.inl (by kernel_rfl))))) (xa_cons (xe_var (i := 5) (hv := (Or.inr (Or.inl (by kernel_rfl))))) (xa_cons (xe_var (i := 12) (hv := (Or.inr (Or.inl (by kernel_rfl))))) (xa_cons (xe_t2 xe_int xe_int) xa_nil))))) (xe_if (xt_cmp (L2.op_inD (room65 hr)) (rb_inD (dTup dInt) (by decide)) (xe_var (i := 14) (hv := (Or.inl (by kernel_rfl)))) (xe_var (i := 9) (hv := (Or.inl (by kernel_rfl)))) (by kernel_rfl)) (xe_t2 xe_int (xe_var (i := 8) (hv := (Or.inr (Or.inl (by kernel_rfl)))))) (xe_t2 xe_int xe_int)) (by kernel_rfl))))) xe_bl (xb_seq (xs_set (i := 15) (xe_callM (k := 2) (c__law_draw pv lg hLC) hr (by decide) (xa_cons (xe_var (i := 1) (hv := (Or.inr (Or.inl (by kernel_rfl))))) (xa_cons xe_int xa_nil))) sc_law.nd (hx := (Or.inl (by kernel_rfl))) (hf := (.inl (by kernel_rfl)))) fun top_306 => (xb_ifR (xt_cmp (op_neD hr.units) (rb_neD (d2 dInt dInt) (by decide)) (xe_callP (k := 4) (c_right_share pv lg) hr (by decide) (xa_cons (xe_var (i := 7) (hv := (Or.inr (Or.inl (by kernel_rfl))))) (xa_cons (xe_var (i := 5) (hv := (Or.inr (Or.inl (by kernel_rfl))))) (xa_cons (xe_var (i := 6) (hv := (Or.inr (Or.inl (by kernel_rfl))))) (xa_cons (xe_t2 (xe_var (i := 15) (hv := (Or.inl (by kernel_rfl)))) xe_int) xa_nil))))) (xe_callP (k := 4) (c_right_share pv lg) hr (by decide) (xa_cons (xe_var (i := 7) (hv := (Or.inr (Or.inl (by kernel_rfl))))) (xa_cons (xe_var (i := 5) (hv := (Or.inr (Or.inl (by kernel_rfl))))) (xa_cons (xe_var (i := 6) (hv := (Or.inr (Or.inl (by kernel_rfl))))) (xa_cons (xe_t2 (xe_op op_sub rb_sub xe_int (xe_var (i := 15) (hv := (Or.inl (by kernel_rfl))))) xe_int) xa_nil))))) (by kernel_rfl)) xe_bl (xb_nil (.eq (.eq (.eq (.eq (.eq (.eq (.eq (.eq (.eq (.eq (.eq (.eq (.eq (.eq (.no (.no (.no (.no (.no (.no (.no (.no (.no (.no (.no (.no .nil))))))))))))))))))))))))))))))) (xb_nil (.eq (.eq (.eq (.eq (.eq (.eq (.eq (.eq (.eq (.eq (.eq (.eq (.eq (.eq (.no (.no (.no (.no (.no (.no (.no (.no (.no (.no (.no (.no .nil))))))))))))))))))))))))))) fun j_302 => (xb_seq (xs_l2 (xe_callB cr_sortedI rc_sortedI pv.n_sorted (by kernel_rfl) (xa_cons (xe_lst (xl_cons (xe_callM (k := 2) (c__law_draw pv lg hLC) hr (by decide) (xa_cons (xe_var (i := 1) (hv := (Or.inr (Or.inl (by kernel_rfl))))) (xa_cons xe_int xa_nil))) (xl_cons (xe_callM (k := 2) (c__law_draw pv lg hLC) hr (by decide) (xa_cons (xe_var (i := 1) (hv := (Or.inr (Or.inl (by kernel_rfl))))) (xa_cons xe_int xa_nil))) xl_nil))) xa_nil)) (xg_name (i := 16) sc_law.nd (hx := (Or.inl (by kernel_rfl))) (hf := (.inl (by kernel_rfl)))) (xg_name (i := 17) sc_law.nd (hx := (Or.inl (by kernel_rfl))) (hf := (.inl (by kernel_rfl))))) fun p_307 => (xb_seq (xs_par (i := 18) (j := 19) (fun h => ps_par rfl sc_law.nd (by kernel_rfl) (by kernel_rfl) (by decide) (by kernel_rfl) (by kernel_rfl) h (by kernel_rfl) (by kernel_rfl)) (xe_callP (k := 4) (c_right_share pv lg) hr (by decide) (xa_cons (xe_var (i := 7) (hv := (Or.inr (Or.inl (by kernel_rfl))))) (xa_cons (xe_var (i := 5) (hv := (Or.inr (Or.inl (by kernel_rfl))))) (xa_cons (xe_var (i := 6) (hv := (Or.inr (Or.inl (by kernel_rfl))))) (xa_cons (xe_t2 (xe_var (i := 16) (hv := (Or.inl (by kernel_rfl)))) xe_int) xa_nil))))) (xe_callP (k := 4) (c_right_share pv lg) hr (by decide) (xa_cons (xe_var (i := 7) (hv := (Or.inr (Or.inl (by kernel_rfl))))) (xa_cons (xe_var (i := 5) (hv := (Or.inr (Or.inl (by kernel_rfl))))) (xa_cons (xe_var (i := 6) (hv := (Or.inr (Or.inl (by kernel_rfl))))) (xa_cons (xe_t2 (xe_var (i := 17) (hv := (Or.inl (by kernel_rfl)))) xe_int) xa_nil)))))) fun p_308 => (xb_ifR (xt_cmp op_lt rb_lt (xe_op op_mulW rb_mulW (xe_ix ix_tup rb_ix20 (xe_var (i := 18) (hv := (Or.inl (by kernel_rfl)))) xe_int (fun _ _ => by kernel_rfl)) (xe_ix ix_tup rb_ix21 (xe_var (i := 19) (hv := (Or.inl (by kernel_rfl)))) xe_int (fun _ _ => by kernel_rfl))) (xe_op op_mulW rb_mulW (xe_ix ix_tup rb_ix20 (xe_var (i := 19) (hv := (Or.inl (by kernel_rfl)))) xe_int (fun _ _ => by kernel_rfl)) (xe_ix ix_tup rb_ix21 (xe_var (i := 18) (hv := (Or.inl (by kernel_rfl)))) xe_int (fun _ _ => by kernel_rfl))) (by kernel_rfl)) xe_bl (xb_nil (.eq (.eq (.no (.no (.no (.no (.no (.no (.no (.no (.no (.no (.no (.no (.no (.no (.no (.no (.no (.no (.no (.no (.no (.no (.no (.no .nil))))))))))))))))))))))))))))))))))))))))))) fun s_309 => (xb_seq (xs_set (i := 20) (xe_make (k := 7) (c_Watch pv lg) hr (by decide) (xa_cons (xe_as (xe_lst (xl_cons (xe_as (xe_tup (xl_cons xe_int (xl_cons xe_int xl_nil))) (seq_t ty_id)) (xl_cons (xe_as (xe_tup (xl_cons xe_int (xl_cons xe_int xl_nil))) (seq_t ty_id)) xl_nil))) (seq_l ty_id)) (xa_cons (xe_as (xe_lst (xl_cons xe_int (xl_cons xe_int xl_nil))) (seq_l ty_id)) xa_nil))) sc_law.nd (hx := (Or.inr (by kernel_rfl))) (hf := (.inl (by kernel_rfl)))) fun even_310 => (xb_ret (xe_cmp (op_eqD hr.units) (rb_eqD (dLst (d2 dInt dInt)) (by decide)) (xe_lc (own := [("share", 25)]) sc_law.nd (blkOk_by (by kernel_rfl)) (xi_lst (xe_lst (xl_cons (xe_t2 xe_int xe_int) (xl_cons (xe_t2 xe_int xe_int) (xl_cons (xe_t2 xe_int xe_int) (xl_cons (xe_t2 xe_int xe_int) xl_nil)))))) (fun _ _ _ _ _ => (xg_name (i := 25) sc_law.nd (hx := (Or.inl (by kernel_rfl))) (hf := (.inr (by kernel_rfl))))) (by decide) (fun c_311 => fun _ _ _ _ _ => (xe_callP (k := 4) (c_right_share pv lg) hr (by decide) (xa_cons (xe_var (i := 20) (hv := (Or.inr (Or.inl (by kernel_rfl))))) (xa_cons xe_int (xa_cons xe_int (xa_cons (xe_var (i := 25) (hv := (Or.inl (by kernel_rfl)))) xa_nil))))))) (xe_lst (xl_cons (xe_t2 xe_int xe_int) (xl_cons (xe_t2 xe_int xe_int) (xl_cons (xe_t2 xe_int xe_int) (xl_cons (xe_t2 xe_int xe_int) xl_nil))))) (by kernel_rfl)))))
end Wk
/-! The law holds. -/
namespace Wk
open PySem L2 Wc
open Mon (ret bnd opt run)
theorem law_math (ns : List Int) (hn : ns.length ≤ 63) : ∃ y, c0_law ns = some y ∧ cL_law y.2 ns fun fl => fl = .rt true := by
  obtain ⟨y, ey⟩ := begun_eq hn
  refine ⟨y, ?_, ?_⟩
  · unfold c0_law
    simp only [oret, oopt, obnd, ey]
  · generalize y.2 = cs
    unfold cL_law
    have hr : rngI 0 (4 + minI (ns.length : Int) 7) = some (ks (4 + minI (ns.length : Int) 7).toNat) := rngI_ks' (by unfold minI; split <;> omega) (by unfold minI; split <;> omega)
    simp only [mret, hr, mopt]
    refine mbndFI (mFor (fun _ => True) _ _ trivial (fun x hx s _ P hP hC => ?_) fun s _ => ?_)
    · simp only [massoc, mret]
      refine draw_M (by decide) (by decide) fun k k0 k1 => ?_
      obtain ⟨q, hq, eq⟩ : ∃ q : Nat, (q = 2 ∨ q = 3) ∧ 2 + k = (q : Int) := ⟨(2 + k).toNat, by omega, by omega⟩
      refine mapp (watch_M (by omega) (by omega) (by decide) fun mv ws n W hw hn5 => ?_)
      rw [show (2 + k).toNat = q by omega] at W
      simp only [eq]
      refine mapp (draw_M (by decide) (by decide) fun v v0 v1 => ?_)
      have hv : 0 ≤ v ∧ v ≤ 3 := by omega
      obtain ⟨top, et, ht⟩ : ∃ top : Int, (if decide ((q : Int) = 2) = true then (ret (5 : Int) : M Int) else ret (3 : Int)) = ret top ∧ ((q = 2 ∧ top = 5) ∨ (q = 3 ∧ top = 3)) := by
        rcases hq with e | e
        · exact ⟨5, by subst e; rfl, .inl ⟨e, rfl⟩⟩
        · exact ⟨3, by subst e; rfl, .inr ⟨e, rfl⟩⟩
      simp only [et, mret]
      refine mapp (draw_M (by omega) (by omega) fun l l0 l1 => ?_)
      obtain ⟨len, elen⟩ : ∃ len : Nat, 1 + l = (len : Int) := ⟨(1 + l).toNat, by omega⟩
      have hlen : (q = 2 ∧ len ≤ 5) ∨ (q = 3 ∧ len ≤ 3) := by omega
      have hl60 : len ≤ 60 := by omega
      have hpow : ∀ t, t ≤ len → q ^ t ≤ 4096 := fun t ht' => by
        rcases hlen with ⟨e, hl⟩ | ⟨e, hl⟩
        · subst e
          exact Nat.le_trans (Nat.pow_le_pow_right (by decide) (Nat.le_trans ht' hl)) (by decide)
        · subst e
          exact Nat.le_trans (Nat.pow_le_pow_right (by decide) (Nat.le_trans ht' hl)) (by decide)
      have hwc := word_counts_eq W (t := len) (by omega)
      have hat : atI (arr 4 fun v => ((codeW mv ws q v len).length : Int)) v = some ((codeW mv ws q v len).length : Int) := arr_at v0 (by omega)
      have hcode := code_eq W (v := v) hl60 fun t ht' => Nat.le_trans (hpow t ht') (by decide)
      simp only [elen, made_eq W, mopt, mret, hwc, hat, hcode, decide_true, Bool.not_true, Bool.false_eq_true, if_false]
      refine mif (fun hz => ?_) fun hnz => ?_
      · have hz : ((codeW mv ws q v len).length : Int) = 0 := of_decide_eq_true hz
        have hno := right_share_no (top := 0) (bot := 1) W ⟨by decide, by decide, by decide, by decide, by omega⟩ hv hl60 hpow (by omega)
        simp only [hno, mopt, mret]
        exact hC () trivial
      have hne : codeW mv ws q v len ≠ [] := fun z => hnz (decide_eq_true (by rw [z]; rfl))
      have hpw := power_eq (i := 3) (b := (q : Int)) (t := len) (.of_lt (by omega) (by have : (2 : Int) ^ 3 = 8 := rfl; omega)) (by omega) (by omega)
      simp only [hpw, rngI_ks (q := len) (by omega), mopt, mret]
      refine mapp (mLc (P := fun k : Int => 0 ≤ k ∧ k < (q : Int)) (by rw [ks_len]; omega) (fun z _ Z hZ => mapp (draw_M (by omega) (by omega) fun k k0 k1 => hZ k ⟨k0, k1⟩)) fun row hrl hrow => ?_)
      rw [ks_len] at hrl
      have hrr : row ∈ rows q len := rows_mem.mpr ⟨hrl, hrow⟩
      have h1 := heard_share_eq W (sh_alike hq) hv (row := row) (by omega) hrow (by rw [hrl]; exact hne)
      rw [hrl, low_alike1 hq hne hrl] at h1
      have h2 := right_share_eq W (sh_alike hq) hv hl60 hpow hne
      rw [low_alike2 hq hne] at h2
      have hdf : lcC (fun c => bnd (m__law_differ row c) fun y => some (some y)) (codeW mv ws q v len) = some ((codeW mv ws q v len).map (diff row)) := lcC_map _ (by have := codeW_le mv ws q v len; have := hpow len (Nat.le_refl _); omega) fun r _ => by rw [differ_eq row r (by omega), obnd]
      have hdfM : (lcC (fun c => (bnd (opt (m__law_differ row c)) fun y => ret (some y) : M (Option Int))) (codeW mv ws q v len) : M (List Int)) = ret ((codeW mv ws q v len).map (diff row)) := mLcO (g := fun c => bnd (m__law_differ row c) fun y => some (some y)) (fun r _ => by rw [differ_eq row r (by omega), obnd, mopt, mopt, mret]) hdf
      obtain ⟨cd, ecd, rcd, acd⟩ := counted_eq (l := (codeW mv ws q v len).map (diff row)) (by rw [List.length_map]; have := codeW_le mv ws q v len; have := hpow len (Nat.le_refl _); omega)
      simp only [h1, h2, hdfM, ecd, mopt, mret, decide_true, Bool.not_true, Bool.false_eq_true, if_false]
      -- what was sent, alike
      have hwp : ∀ d : Int, 0 < wt q ((q : Int) - 1) q row.length d := fun d => by
        unfold wt
        exact Int.mul_pos (Int.pow_pos (by omega)) (Int.pow_pos (Int.mul_pos (by omega) (oth_pos q)))
      obtain ⟨sd, rsd, asd, esd⟩ := sent_shares_eq W (sh_alike hq) hv (row := row) (by omega) hrow hwp
      rw [hrl] at rsd esd
      have esc : sd = cd := rep_unique rsd rcd asd acd fun _ => rfl
      subst esc
      have hq2 : 2 ≤ q := by omega
      have hcpos : 0 < ((codeW mv ws q v len).length : Int) := by have := List.length_pos_iff.mpr hne; omega
      have hWp : 0 < ((q : Int) - 1) ^ len := Int.pow_pos (by omega)
      have eX : (sd.map fun p => (p.1, low (p.2 * wt q ((q : Int) - 1) q len p.1) (sm (codeW mv ws q v len) fun r => wt q ((q : Int) - 1) q len (diff row r)))) = sd.map fun p => (p.1, low p.2 ((codeW mv ws q v len).length : Int)) := by
        apply List.map_congr_left
        intro p hp
        obtain ⟨r, _, er⟩ := List.mem_map.mp (rsd.mem hp).1
        have hd := dl (r := r) hrl
        rw [er] at hd
        rw [wt_alike hq2 hd.1 hd.2, sm_congr (g := fun _ => ((q : Int) - 1) ^ len) fun r _ => wt_alike hq2 (dl hrl).1 (dl hrl).2, sm_const, Int.mul_comm p.2, Int.mul_comm _ (((q : Int) - 1) ^ len), low_mul hWp hcpos]
      rw [eX] at esd
      have hcs : ((codeW mv ws q v len).length : Int) < 2 ^ 121 := (code_size W (v := v) hl60 (by omega) (Int.le_refl _)).lt
      have hlk : lcC (fun c => bnd (dget sd c) fun x => bnd (m__law_low x ((codeW mv ws q v len).length : Int)) fun x => some (some (c, x))) (sd.map (·.1)) = some ((sd.map (·.1)).map fun c => (c, low ((dget sd c).getD 0) ((codeW mv ws q v len).length : Int))) := lcC_map _ (by
          rw [← rep_keys_len]
          have := rsd.len
          rw [List.length_map] at this
          have := codeW_le mv ws q v len
          have := hpow len (Nat.le_refl _)
          omega) fun c hc => by
        rw [rsd.some (rsd.key.mp hc), obnd, low_eq (cnt_nonneg _ _) hcpos hcs (by decide), obnd]
        rfl
      have eY : ((sd.map (·.1)).map fun c => (c, low ((dget sd c).getD 0) ((codeW mv ws q v len).length : Int))) = sd.map fun p => (p.1, low p.2 ((codeW mv ws q v len).length : Int)) := by
        rw [List.map_map]
        apply List.map_congr_left
        intro p hp
        show (p.1, low ((dget sd p.1).getD 0) _) = _
        rw [mem_dget rsd.nd hp]
        rfl
      rw [eY] at hlk
      have hlkM : (lcC (fun c => (bnd (opt (dget sd c)) fun x => bnd (opt (m__law_low x ((codeW mv ws q v len).length : Int))) fun x => ret (some (c, x)) : M (Option (Int × (Int × Int))))) (sd.map (·.1)) : M (List (Int × (Int × Int)))) = ret (sd.map fun p => (p.1, low p.2 ((codeW mv ws q v len).length : Int))) := mLcO (g := fun c => bnd (dget sd c) fun x => bnd (m__law_low x ((codeW mv ws q v len).length : Int)) fun x => some (some (c, x))) (fun c hc => by
        simp only [rsd.some (rsd.key.mp hc), obnd, low_eq (cnt_nonneg _ _) hcpos hcs (by decide), mopt, mret]) hlk
      have ndX : ((sd.map fun p => (p.1, low p.2 ((codeW mv ws q v len).length : Int))).map (·.1)).Nodup := by
        rw [List.map_map]
        exact rsd.nd
      have hdc := dictC_id ndX (by
        rw [List.length_map]
        have := rsd.len
        rw [List.length_map] at this
        have := codeW_le mv ws q v len
        have := hpow len (Nat.le_refl _)
        omega)
      have h3 := right_share_eq W (sh_zero hq) hv hl60 hpow hne
      rw [low_zero1 hq hne] at h3
      have h4 := heard_share_eq W (sh_zero hq) hv (row := row) (by omega) hrow (by rw [hrl]; exact hne)
      rw [hrl, low_zero2 hq hne hrr] at h4
      simp only [esd, hlkM, hdc, dneC_self ndX, h3, h4, mopt, mret, mif_ret, decide_true, Bool.not_true, Bool.false_eq_true, if_false]
      refine mjoin ?rest fun Z hZ => ?turned
      case turned =>
        refine mif (fun e2 => ?_) fun _ => hZ
        have e2 : (q : Int) = 2 := of_decide_eq_true e2
        have e2 : q = 2 := by omega
        subst e2
        have htl : lcC (fun c : Int => some (some (1 - c))) row = some (compl row) := lcC_map (fun c => 1 - c) (by omega) fun _ _ => rfl
        have htM : (lcC (fun c : Int => (ret (some (1 - c)) : M (Option Int))) row : M (List Int)) = ret (compl row) := mLcO (fun c _ => (mopt (some (1 - c))).symm) htl
        have h5 := right_share_eq W sh_five hv hl60 hpow hne
        rw [low_five1 hne] at h5
        have h6 := heard_share_eq W sh_five hv (row := row) (by omega) hrow (by rw [hrl]; exact hne)
        rw [hrl, low_five2 hne hrr] at h6
        simp only [htM, h5, h6, mopt, mret, mif_ret, decide_true, Bool.not_true, Bool.false_eq_true, if_false]
        refine mapp (draw_M (by decide) (by decide) fun t t0 t1 => ?_)
        have h7 := right_share_eq W (sh_turn t0 t1) hv hl60 hpow hne
        have h8 := right_share_eq W (sh_turn (t := 99 - t) (by omega) (by omega)) hv hl60 hpow hne
        rw [turn_sum] at h7
        simp only [h7, h8, mopt, mret, decide_true, Bool.not_true, Bool.false_eq_true, if_false]
        exact hZ
      case rest =>
        refine mapp (draw_M (by decide) (by decide) fun a a0 a1 => ?_)
        refine mapp (draw_M (by decide) (by decide) fun b b0 b1 => ?_)
        obtain ⟨lo, hi, es, hle, hor⟩ := sort2 a b
        have hlo : 0 ≤ lo ∧ lo < 30 := by omega
        have hhi : 0 ≤ hi ∧ hi < 30 := by omega
        have etw : two [lo, hi] = some (lo, hi) := rfl
        have s9 := sh_sixty hq hlo.1 hlo.2
        have s10 := sh_sixty hq hhi.1 hhi.2
        have h9 := right_share_eq W s9 hv hl60 hpow hne
        have h10 := right_share_eq W s10 hv hl60 hpow hne
        have b9 := best_size W s9 hl60 (hpow len (Nat.le_refl _)) hne
        have b10 := best_size W s10 hl60 (hpow len (Nat.le_refl _)) hne
        have hden : 0 < ((codeW mv ws q v len).length : Int) * (60 * oth q) ^ len := Int.mul_pos hcpos (all_pos s9 len)
        have hdS : Sz 1600 (((codeW mv ws q v len).length : Int) * (60 * oth q) ^ len) := ((code_size W (v := v) hl60 (c := ((codeW mv ws q v len).length : Int)) (by omega) (Int.le_refl _)).mul ((s9.s3 W).powz len)).mono (by omega)
        have z9 := low_sz b9.1 hden b9.2 hdS
        have z10 := low_sz b10.1 hden b10.2 hdS
        have hdeg := degrade hq (C := codeW mv ws q v len) (fun r hr => code_rows hr) hne hlo.1 hle (by omega)
        have hnl := mt (low_le hden hden).mp (show ¬ (sm (rows q len) (fun y => mxf (fun r => wt q lo 60 len (diff y r)) (codeW mv ws q v len)) * (((codeW mv ws q v len).length : Int) * (60 * oth q) ^ len) < sm (rows q len) (fun y => mxf (fun r => wt q hi 60 len (diff y r)) (codeW mv ws q v len)) * (((codeW mv ws q v len).length : Int) * (60 * oth q) ^ len)) from fun z => by
          have := Int.mul_le_mul_of_nonneg_right hdeg (Int.le_of_lt hden)
          omega)
        simp only [es, etw, h9, h10, mopt, mret, true_or, if_true, mulW_ok z9.1 z10.2 (by decide), mulW_ok z10.1 z9.2 (by decide), decide_eq_false hnl, Bool.false_eq_true, if_false]
        exact hP () trivial
    · show (bnd (opt (mkW [[0, 1], [1, 0]] [1, 0])) _ : M _) _
      have W : WOk [[0, 1], [1, 0]] [1, 0] 2 2 := ⟨rfl, by decide, by decide, rfl, by decide, by decide, by decide, by decide, by decide⟩
      have hp : ∀ t, t ≤ 2 → 2 ^ t ≤ 4096 := fun t ht => Nat.le_trans (Nat.pow_le_pow_right (by decide) ht) (by decide)
      have hne : codeW [[0, 1], [1, 0]] [1, 0] 2 1 2 ≠ [] := by decide
      have e1 : m_right_share (((), [[0, 1], [1, 0]]), [1, 0]) 1 2 (0, 1) = some (1, 1) := (right_share_eq W (len := 2) (v := 1) ⟨by decide, by decide, by decide, by decide, by decide⟩ (by decide) (by decide) hp hne).trans (congrArg some (by decide +kernel))
      have e2 : m_right_share (((), [[0, 1], [1, 0]]), [1, 0]) 1 2 (1, 2) = some (1, 2) := (right_share_eq W (len := 2) (v := 1) ⟨by decide, by decide, by decide, by decide, by decide⟩ (by decide) (by decide) hp hne).trans (congrArg some (by decide +kernel))
      have e3 : m_right_share (((), [[0, 1], [1, 0]]), [1, 0]) 1 2 (1, 1) = some (1, 1) := (right_share_eq W (len := 2) (v := 1) ⟨by decide, by decide, by decide, by decide, by decide⟩ (by decide) (by decide) hp hne).trans (congrArg some (by decide +kernel))
      have e4 : m_right_share (((), [[0, 1], [1, 0]]), [1, 0]) 1 2 (1, 4) = some (3, 4) := (right_share_eq W (len := 2) (v := 1) ⟨by decide, by decide, by decide, by decide, by decide⟩ (by decide) (by decide) hp hne).trans (congrArg some (by decide +kernel))
      have hl : (lcC (fun c : Int × Int => (bnd (opt (m_right_share (((), [[0, 1], [1, 0]]), [1, 0]) 1 2 c)) fun y => ret (some y) : M (Option (Int × Int)))) [(0, 1), (1, 2), (1, 1), (1, 4)] : M (List (Int × Int))) = ret [(1, 1), (1, 2), (1, 1), (3, 4)] := by
        refine mLcO (g := fun c => bnd (m_right_share (((), [[0, 1], [1, 0]]), [1, 0]) 1 2 c) fun y => some (some y)) (fun c hc => ?_) ?_
        · simp only [List.mem_cons, List.not_mem_nil, or_false] at hc
          rcases hc with e | e | e | e <;> subst e
          · rw [e1, obnd, mopt, mopt, mret]
          · rw [e2, obnd, mopt, mopt, mret]
          · rw [e3, obnd, mopt, mopt, mret]
          · rw [e4, obnd, mopt, mopt, mret]
        · unfold lcC
          rw [if_pos (by decide)]
          unfold lcF lcF lcF lcF lcF
          simp only [e1, e2, e3, e4, obnd, oret]
          rfl
      simp only [mkW_eq W, hl, mopt, mret, decide_true]
      rfl
end Wk
namespace Wc
open PySem PySem.Spec PyProof.Rows L2 LamX
def DefL0 (K : PySem.W.Frag) (mg : Str → Option Value) (x : Str) (st : Stmt) (c : Addr) : Prop := ∃ (f : Addr) (oc : Value) (od : Option Addr) (kV doc pm : Value) (an : Option Addr) (ct : Value) (osl : Array (Option Value)), mg x = some (.ref f) ∧ PySem.W.keepIn K (.ref f) = true ∧
    K.lookup f = some ⟨oc, od, .func (PySem.W.fnOf x x (C8.fnArgs st) (C8.fnBody st) (C8.fnScope st) .none kV doc pm an (.ref c) ct), osl⟩ ∧ PySem.W.codeIn K (.ref c) x = true
theorem defL0_mk {K : PySem.W.Frag} {mg : Str → Option Value} {x : Str} {st : Stmt} {h : Heap} {f c : Addr} {oc kV doc pm ct : Value} {od an : Option Addr} {osl : Array (Option Value)} (X : K.In h) (g : h.Ns mainGlobals mg) (a1 : PySem.W.nsIn K mainGlobals x = some (some (.ref f)))
    (l1 : K.lookup f = some ⟨oc, od, .func (PySem.W.fnOf x x (C8.fnArgs st) (C8.fnBody st) (C8.fnScope st) .none kV doc pm an (.ref c) ct), osl⟩) (c1 : PySem.W.codeIn K (.ref c) x = true) (k1 : PySem.W.keepIn K (.ref f) = true) : DefL0 K mg x st c := ⟨f, oc, od, kV, doc, pm, an, ct, osl, PySem.W.mg_of X g a1, k1, l1, c1⟩
theorem DefL0.to {K : PySem.W.Frag} {mg : Str → Option Value} {base : Heap} {T : List (Addr × Str)} {x q : Str} {st : Stmt} {c P : Addr} (d : DefL0 K mg x st c) (tb : TabB base mg c P) (hT : (P, q) ∈ T) (hu : ∀ p ∈ T, p.1 = P → p.2 = q) : DefL K mg base T x st q := by
  obtain ⟨f, oc, od, kV, doc, pm, an, ct, osl, h1, h2, h3, h4⟩ := d
  exact ⟨f, c, P, oc, od, kV, doc, pm, an, ct, osl, h1, h2, h3, h4, tb, hT, hu⟩
/-- a getter, or __init__, of a class -/
theorem fun_of {K : PySem.W.Frag} {x q : Str} {st : Stmt} {f : Addr} {oc kV doc pm cdv ct : Value} {od an : Option Addr} {osl : Array (Option Value)} (l1 : K.lookup f = some ⟨oc, od, .func (PySem.W.fnOf x q (C8.fnArgs st) (C8.fnBody st) (C8.fnScope st) .none kV doc pm an cdv ct), osl⟩) (c1 : PySem.W.codeIn K cdv q = true) : ∃ fd, C8.Fun K x q st f fd ∧ fd.defaults = .none := ⟨_, ⟨⟨oc, od, .none, kV, doc, pm, an, cdv, ct, osl, rfl, l1, c1⟩⟩, rfl⟩
theorem exI {α : Sort _} {p : α → Prop} {x : α} (h : p x) : ∃ x, p x := ⟨x, h⟩
abbrev KI {K : PySem.W.Frag} {h : Heap} (_ : K.In h) : PySem.W.Frag := K
end Wc
open PySem PySem.W PyProof.Rows L2 Wc
set_option maxRecDepth 100000 in
set_option maxHeartbeats 0 in
theorem PySem.Challenge.cw_watchcode_k61_whole_noise_that_tells_not_holds : PySem.Challenge.rw_watchcode_k61_whole_noise_that_tells_not.Holds := by
  w_on; o_law; k_head; (case hw => w_witness2)
  k_fill
  refine LamX.walk_ofTs (n := 63) (k := 10) (x := "script") (CX := fun _ => C8.CX0) rfl (by decide) rfl ⟨rfl, by decide, by decide⟩ (fun w h Y => km_in_of Y) ?F ?E
  case E => exact fun _ _ _ _ _ z => z
  case F =>
    intro w mg fa h Y KX G hmg
    have d_is_number : DefN (KI KX) mg "is_number" Wk.s_is_number := by
      unfold KI
      refine' defN_mk KX G ?a ?l ?c ?k; (case a => k_is); (case l => k_is); (case c => k_is); (case k => k_is)
    have d_is_between : DefN (KI KX) mg "is_between" Wk.s_is_between := by
      unfold KI
      refine' defN_mk KX G ?a ?l ?c ?k; (case a => k_is); (case l => k_is); (case c => k_is); (case k => k_is)
    have d_is_list : DefN (KI KX) mg "is_list" Wk.s_is_list := by
      unfold KI
      refine' defN_mk KX G ?a ?l ?c ?k; (case a => k_is); (case l => k_is); (case c => k_is); (case k => k_is)
    have d_first_wrong : DefN (KI KX) mg "first_wrong" Wk.s_first_wrong := by
      unfold KI
      refine' defN_mk KX G ?a ?l ?c ?k; (case a => k_is); (case l => k_is); (case c => k_is); (case k => k_is)
    have d_is_short_list : DefN (KI KX) mg "is_short_list" Wk.s_is_short_list := by
      unfold KI
      refine' defN_mk KX G ?a ?l ?c ?k; (case a => k_is); (case l => k_is); (case c => k_is); (case k => k_is)
    have d_need_row : DefN (KI KX) mg "need_row" Wk.s_need_row := by
      unfold KI
      refine' defN_mk KX G ?a ?l ?c ?k; (case a => k_is); (case l => k_is); (case c => k_is); (case k => k_is)
    have d_is_word : DefN (KI KX) mg "is_word" Wk.s_is_word := by
      unfold KI
      refine' defN_mk KX G ?a ?l ?c ?k; (case a => k_is); (case l => k_is); (case c => k_is); (case k => k_is)
    have d_is_line : DefN (KI KX) mg "is_line" Wk.s_is_line := by
      unfold KI
      refine' defN_mk KX G ?a ?l ?c ?k; (case a => k_is); (case l => k_is); (case c => k_is); (case k => k_is)
    have d_need_words : DefN (KI KX) mg "need_words" Wk.s_need_words := by
      unfold KI
      refine' defN_mk KX G ?a ?l ?c ?k; (case a => k_is); (case l => k_is); (case c => k_is); (case k => k_is)
    have d_word_counts : DefN (KI KX) mg "word_counts" Wk.s_word_counts := by
      unfold KI
      refine' defN_mk KX G ?a ?l ?c ?k; (case a => k_is); (case l => k_is); (case c => k_is); (case k => k_is)
    have d_need_verdict : DefN (KI KX) mg "need_verdict" Wk.s_need_verdict := by
      unfold KI
      refine' defN_mk KX G ?a ?l ?c ?k; (case a => k_is); (case l => k_is); (case c => k_is); (case k => k_is)
    have d_need_near : DefN (KI KX) mg "need_near" Wk.s_need_near := by
      unfold KI
      refine' defN_mk KX G ?a ?l ?c ?k; (case a => k_is); (case l => k_is); (case c => k_is); (case k => k_is)
    have d_near_by : DefN (KI KX) mg "near_by" Wk.s_near_by := by
      unfold KI
      refine' defN_mk KX G ?a ?l ?c ?k; (case a => k_is); (case l => k_is); (case c => k_is); (case k => k_is)
    have d_need_noise : DefN (KI KX) mg "need_noise" Wk.s_need_noise := by
      unfold KI
      refine' defN_mk KX G ?a ?l ?c ?k; (case a => k_is); (case l => k_is); (case c => k_is); (case k => k_is)
    have d_divisor_of : DefN (KI KX) mg "divisor_of" Wk.s_divisor_of := by
      unfold KI
      refine' defN_mk KX G ?a ?l ?c ?k; (case a => k_is); (case l => k_is); (case c => k_is); (case k => k_is)
    have d_lowest_of : DefN (KI KX) mg "lowest_of" Wk.s_lowest_of := by
      unfold KI
      refine' defN_mk KX G ?a ?l ?c ?k; (case a => k_is); (case l => k_is); (case c => k_is); (case k => k_is)
    have d_raised : DefN (KI KX) mg "raised" Wk.s_raised := by
      unfold KI
      refine' defN_mk KX G ?a ?l ?c ?k; (case a => k_is); (case l => k_is); (case c => k_is); (case k => k_is)
    have d_weight_of : DefN (KI KX) mg "weight_of" Wk.s_weight_of := by
      unfold KI
      refine' defN_mk KX G ?a ?l ?c ?k; (case a => k_is); (case l => k_is); (case c => k_is); (case k => k_is)
    have d_all_of : DefN (KI KX) mg "all_of" Wk.s_all_of := by
      unfold KI
      refine' defN_mk KX G ?a ?l ?c ?k; (case a => k_is); (case l => k_is); (case c => k_is); (case k => k_is)
    have d_need_heard : DefN (KI KX) mg "need_heard" Wk.s_need_heard := by
      unfold KI
      refine' defN_mk KX G ?a ?l ?c ?k; (case a => k_is); (case l => k_is); (case c => k_is); (case k => k_is)
    have d_heard_share : DefN (KI KX) mg "heard_share" Wk.s_heard_share := by
      unfold KI
      refine' defN_mk KX G ?a ?l ?c ?k; (case a => k_is); (case l => k_is); (case c => k_is); (case k => k_is)
    have d_sent_shares : DefN (KI KX) mg "sent_shares" Wk.s_sent_shares := by
      unfold KI
      refine' defN_mk KX G ?a ?l ?c ?k; (case a => k_is); (case l => k_is); (case c => k_is); (case k => k_is)
    have d_rows_of : DefN (KI KX) mg "rows_of" Wk.s_rows_of := by
      unfold KI
      refine' defN_mk KX G ?a ?l ?c ?k; (case a => k_is); (case l => k_is); (case c => k_is); (case k => k_is)
    have d_right_share : DefN (KI KX) mg "right_share" Wk.s_right_share := by
      unfold KI
      refine' defN_mk KX G ?a ?l ?c ?k; (case a => k_is); (case l => k_is); (case c => k_is); (case k => k_is)
    have d__law_begun : DefN (KI KX) mg "_law_begun" Wk.s__law_begun := by
      unfold KI
      refine' defN_mk KX G ?a ?l ?c ?k; (case a => k_is); (case l => k_is); (case c => k_is); (case k => k_is)
    have d__law_blend : DefN (KI KX) mg "_law_blend" Wk.s__law_blend := by
      unfold KI
      refine' defN_mk KX G ?a ?l ?c ?k; (case a => k_is); (case l => k_is); (case c => k_is); (case k => k_is)
    have d__law_draw : DefN (KI KX) mg "_law_draw" Wk.s__law_draw := by
      unfold KI
      refine' defN_mk KX G ?a ?l ?c ?k; (case a => k_is); (case l => k_is); (case c => k_is); (case k => k_is)
    have d__law_caught : DefN (KI KX) mg "_law_caught" Wk.s__law_caught := by
      unfold KI
      refine' defN_mk KX G ?a ?l ?c ?k; (case a => k_is); (case l => k_is); (case c => k_is); (case k => k_is)
    have d__law_watch : DefN (KI KX) mg "_law_watch" Wk.s__law_watch := by
      unfold KI
      refine' defN_mk KX G ?a ?l ?c ?k; (case a => k_is); (case l => k_is); (case c => k_is); (case k => k_is)
    have d__law_made : DefN (KI KX) mg "_law_made" Wk.s__law_made := by
      unfold KI
      refine' defN_mk KX G ?a ?l ?c ?k; (case a => k_is); (case l => k_is); (case c => k_is); (case k => k_is)
    have d__law_place : DefN (KI KX) mg "_law_place" Wk.s__law_place := by
      unfold KI
      refine' defN_mk KX G ?a ?l ?c ?k; (case a => k_is); (case l => k_is); (case c => k_is); (case k => k_is)
    have d__law_rows_of : DefN (KI KX) mg "_law_rows_of" Wk.s__law_rows_of := by
      unfold KI
      refine' defN_mk KX G ?a ?l ?c ?k; (case a => k_is); (case l => k_is); (case c => k_is); (case k => k_is)
    have d__law_code : DefN (KI KX) mg "_law_code" Wk.s__law_code := by
      unfold KI
      refine' defN_mk KX G ?a ?l ?c ?k; (case a => k_is); (case l => k_is); (case c => k_is); (case k => k_is)
    have d__law_differ : DefN (KI KX) mg "_law_differ" Wk.s__law_differ := by
      unfold KI
      refine' defN_mk KX G ?a ?l ?c ?k; (case a => k_is); (case l => k_is); (case c => k_is); (case k => k_is)
    have d__law_counted : DefN (KI KX) mg "_law_counted" Wk.s__law_counted := by
      unfold KI
      refine' defN_mk KX G ?a ?l ?c ?k; (case a => k_is); (case l => k_is); (case c => k_is); (case k => k_is)
    have d__law_common_of : DefN (KI KX) mg "_law_common_of" Wk.s__law_common_of := by
      unfold KI
      refine' defN_mk KX G ?a ?l ?c ?k; (case a => k_is); (case l => k_is); (case c => k_is); (case k => k_is)
    have d__law_low : DefN (KI KX) mg "_law_low" Wk.s__law_low := by
      unfold KI
      refine' defN_mk KX G ?a ?l ?c ?k; (case a => k_is); (case l => k_is); (case c => k_is); (case k => k_is)
    have d__law_power : DefN (KI KX) mg "_law_power" Wk.s__law_power := by
      unfold KI
      refine' defN_mk KX G ?a ?l ?c ?k; (case a => k_is); (case l => k_is); (case c => k_is); (case k => k_is)
    have d_need_watch : DefD (KI KX) mg "need_watch" Wk.s_need_watch ["watch", "part"] [.non] := by
      unfold KI
      refine' defD_mk KX G ?a ?l ?c ?k ?t ?hb; (case a => k_is); (case l => k_is); (case c => k_is); (case k => k_is); (case t => k_is); (case hb => exact fun T kV doc pm an cdv ct us its h1 h2 => match us, its, h1, h2 with | [_], [_], _, _ => ⟨_, rfl, rfl⟩)
    have n_abs : mg "abs" = none := by
      refine' mg_none_of KX G ?a; (case a => k_is)
    have n_all : mg "all" = none := by
      refine' mg_none_of KX G ?a; (case a => k_is)
    have n_bool : mg "bool" = none := by
      refine' mg_none_of KX G ?a; (case a => k_is)
    have n_dict : mg "dict" = none := by
      refine' mg_none_of KX G ?a; (case a => k_is)
    have n_enumerate : mg "enumerate" = none := by
      refine' mg_none_of KX G ?a; (case a => k_is)
    have n_int : mg "int" = none := by
      refine' mg_none_of KX G ?a; (case a => k_is)
    have n_isinstance : mg "isinstance" = none := by
      refine' mg_none_of KX G ?a; (case a => k_is)
    have n_len : mg "len" = none := by
      refine' mg_none_of KX G ?a; (case a => k_is)
    have n_list : mg "list" = none := by
      refine' mg_none_of KX G ?a; (case a => k_is)
    have n_max : mg "max" = none := by
      refine' mg_none_of KX G ?a; (case a => k_is)
    have n_min : mg "min" = none := by
      refine' mg_none_of KX G ?a; (case a => k_is)
    have n_property : mg "property" = none := by
      refine' mg_none_of KX G ?a; (case a => k_is)
    have n_range : mg "range" = none := by
      refine' mg_none_of KX G ?a; (case a => k_is)
    have n_sorted : mg "sorted" = none := by
      refine' mg_none_of KX G ?a; (case a => k_is)
    have n_sum : mg "sum" = none := by
      refine' mg_none_of KX G ?a; (case a => k_is)
    have n_super : mg "super" = none := by
      refine' mg_none_of KX G ?a; (case a => k_is)
    have n_tuple : mg "tuple" = none := by
      refine' mg_none_of KX G ?a; (case a => k_is)
    have n_zip : mg "zip" = none := by
      refine' mg_none_of KX G ?a; (case a => k_is)
    have g_MOST_EVENTS : ∃ t, mg "MOST_EVENTS" = some (.int 300 t) := by
      refine' exI (mg_of KX G ?a); (case a => k_is)
    have g_MOST_KINDS : ∃ t, mg "MOST_KINDS" = some (.int 4 t) := by
      refine' exI (mg_of KX G ?a); (case a => k_is)
    have g_MOST_WORD_rows : ∃ t, mg "MOST_WORD_rows" = some (.int 3 t) := by
      refine' exI (mg_of KX G ?a); (case a => k_is)
    have g_MOST_PLACES : ∃ t, mg "MOST_PLACES" = some (.int 6 t) := by
      refine' exI (mg_of KX G ?a); (case a => k_is)
    have g_MOST_WORD_modes : ∃ t, mg "MOST_WORD_modes" = some (.int 3 t) := by
      refine' exI (mg_of KX G ?a); (case a => k_is)
    have g_MOST_BOTTOM : ∃ t, mg "MOST_BOTTOM" = some (.int 1000 t) := by
      refine' exI (mg_of KX G ?a); (case a => k_is)
    have g_MOST_HEARD : ∃ t, mg "MOST_HEARD" = some (.int 60 t) := by
      refine' exI (mg_of KX G ?a); (case a => k_is)
    have g_MOST_ROWS : ∃ t, mg "MOST_ROWS" = some (.int 4096 t) := by
      refine' exI (mg_of KX G ?a); (case a => k_is)
    obtain ⟨CNoCode, mNoCode, x_NoCode, kp_NoCode, sb_NoCode, ty_NoCode, exC_NoCode, kit_NoCode, CWE, mWatchError, ex_NoCode⟩ : ∃ CE, mg "NoCode" = some (.ref CE) ∧ excIn (KI KX) CE [.type "ValueError", .type "Exception", .type "BaseException", .type "object"] "ValueError.__new__" = true ∧ keepIn (KI KX) (.ref CE) = true ∧ subIn (KI KX) (.ref CE) (.type "BaseException") = some true ∧ typeIn (KI KX) (.ref CE) = some (.type "type") ∧ ExcC (KI KX) CE ∧ kitOne (KI KX) (.ref CE) (.ref CE) = some true ∧ ∃ CW, mg "WatchError" = some (.ref CW) ∧ exmOne (KI KX) (.ref CE) (.ref CW) = some true := by
      unfold KI
      refine' exI ⟨mg_of KX G ?a, ?x, ?kp, ?sb, ?ty, ⟨?e1, ?e2, ?e3, ?e4, ?e5, ?e6, ?e7, ?e8⟩, ?kit, exI ⟨mg_of KX G ?w, ?ex⟩⟩
      (case a => k_is); (case w => k_is); (case x => k_exc); (case kp => k_is); (case sb => k_is); (case ty => k_is); (case e1 => k_is); (case e2 => k_is); (case e3 => k_is); (case e4 => k_is); (case e5 => k_is); (case e6 => k_is); (case e7 => k_is); (case e8 => k_is); (case kit => kit_is); (case ex => kts_exm)
    obtain ⟨C, mWatch, insWatch, na1, na2, p_moves, p_words, p_kinds, mkWatch⟩ : ∃ C, mg "Watch" = some (.ref C) ∧ C8.InsC (KI KX) C ∧ NoAttr (KI KX) C "own_moves" ∧ NoAttr (KI KX) C "own_words" ∧ (∃ pg gp fd, PropOf (KI KX) C "moves" pg gp ∧ C8.Fun (KI KX) "moves" "Watch.moves" Wk.s_Watch_moves gp fd ∧ fd.defaults = .none) ∧ (∃ pg gp fd, PropOf (KI KX) C "words" pg gp ∧ C8.Fun (KI KX) "words" "Watch.words" Wk.s_Watch_words gp fd ∧ fd.defaults = .none) ∧ (∃ pg gp fd, PropOf (KI KX) C "kinds" pg gp ∧ C8.Fun (KI KX) "kinds" "Watch.kinds" Wk.s_Watch_kinds gp fd ∧ fd.defaults = .none) ∧ (∃ fi fd, Mk (KI KX) C fi ∧ C8.Fun (KI KX) "__init__" "Watch.__init__" Wk.s_Watch_init fi fd ∧ fd.defaults = .none) := by
      unfold KI
      refine' exI ⟨mg_of KX G ?a, ⟨⟨?c1, ?c2, ?c3, ?c4⟩, ?c5, ?c6, ?c7, ?c8, ?c9⟩, ?n1, ?n2, exI (exI (exI ⟨⟨?pa1, ?pa2, ?pa3, exI ?pa4⟩, ⟨exI (exI (exI (exI (exI (exI (exI (exI (exI (exI (⟨rfl, ?pa5, ?pa6⟩))))))))))⟩, rfl⟩)), exI (exI (exI ⟨⟨?pb1, ?pb2, ?pb3, exI ?pb4⟩, ⟨exI (exI (exI (exI (exI (exI (exI (exI (exI (exI (⟨rfl, ?pb5, ?pb6⟩))))))))))⟩, rfl⟩)), exI (exI (exI ⟨⟨?pc1, ?pc2, ?pc3, exI ?pc4⟩, ⟨exI (exI (exI (exI (exI (exI (exI (exI (exI (exI (⟨rfl, ?pc5, ?pc6⟩))))))))))⟩, rfl⟩)), exI (exI ⟨⟨?i1, ?i2, ?i3, ?i4⟩, ⟨exI (exI (exI (exI (exI (exI (exI (exI (exI (exI (⟨rfl, ?i5, ?i6⟩))))))))))⟩, rfl⟩)⟩
      (case a => k_is); (case c1 => k_is); (case c2 => k_is); (case c3 => k_is); (case c4 => k_is); (case c5 => k_is); (case c6 => k_is); (case c7 => k_is); (case c8 => k_is); (case c9 => kit_is); (case n1 => (unfold NoAttr; k_is)); (case n2 => (unfold NoAttr; k_is)); (case pa1 => k_is); (case pa2 => k_is); (case pa3 => k_is); (case pa4 => k_is); (case pa5 => k_is); (case pa6 => k_is); (case pb1 => k_is); (case pb2 => k_is); (case pb3 => k_is); (case pb4 => k_is); (case pb5 => k_is); (case pb6 => k_is); (case pc1 => k_is); (case pc2 => k_is); (case pc3 => k_is); (case pc4 => k_is); (case pc5 => k_is); (case pc6 => k_is); (case i2 => k_is); (case i1 => k_is); (case i3 => k_is); (case i4 => k_is); (case i5 => k_is); (case i6 => k_is)
    obtain ⟨c0, l_need_row_of, hd0⟩ : ∃ c, DefL0 (KI KX) mg "need_row_of" Wk.s_need_row_of c ∧ codeHdIn (KI KX) c 230 = true := by
      unfold KI
      refine' exI ⟨defL0_mk KX G ?a ?l ?c ?k, ?h⟩; (case a => k_is); (case l => k_is); (case c => k_is); (case k => k_is); (case h => kernel_rfl)
    obtain ⟨c1, l_need_moves, hd1⟩ : ∃ c, DefL0 (KI KX) mg "need_moves" Wk.s_need_moves c ∧ codeHdIn (KI KX) c 249 = true := by
      unfold KI
      refine' exI ⟨defL0_mk KX G ?a ?l ?c ?k, ?h⟩; (case a => k_is); (case l => k_is); (case c => k_is); (case k => k_is); (case h => kernel_rfl)
    obtain ⟨f, c2, oc, od, kV, doc, pm, an, ct, osl, hfm, lk, hcd, hd2⟩ : ∃ (f c : Addr) (oc : Value) (od : Option Addr) (kV doc pm : Value) (an : Option Addr) (ct : Value) (osl : Array (Option Value)), mg "law" = some (.ref f) ∧ List.lookup f (KI KX) = some ⟨oc, od, .func (fnOf "law" "law" (C8.fnArgs Wk.s_law) (C8.fnBody Wk.s_law) (C8.fnScope Wk.s_law) .none kV doc pm an (.ref c) ct), osl⟩ ∧ codeIn (KI KX) (.ref c) "law" = true ∧ codeHdIn (KI KX) c 504 = true := by
      unfold KI
      refine' exI (exI (exI (exI (exI (exI (exI (exI (exI (exI ⟨mg_of KX G ?a, ?l, ?c, ?h⟩))))))))); (case a => k_is); (case l => k_is); (case c => k_is); (case h => kernel_rfl)
    have efa := hfm.symm.trans hmg
    cases efa
    refine ⟨fnOf "law" "law" (C8.fnArgs Wk.s_law) (C8.fnBody Wk.s_law) (C8.fnScope Wk.s_law) .none kV doc pm an (.ref c2) ct, ([(c0, 230), (c1, 249), (c2, 504)] : List (Addr × Addr)), spLaw (KI KX) [(230, Wk.q_need_row_of), (249, Wk.q_need_moves), (504, Wk.q_law)], ?_, ?_, ?_, fun s u => .of_eq rfl, ?_, ?_⟩
    · exact (List.forall_mem_cons.mpr ⟨km_tabs_of Y 230 (by decide), (List.forall_mem_cons.mpr ⟨km_tabs_of Y 249 (by decide), (List.forall_mem_cons.mpr ⟨km_tabs_of Y 504 (by decide), (fun _ h => nomatch h)⟩)⟩)⟩)
    · exact (List.forall_mem_cons.mpr ⟨(by kernel_rfl), (List.forall_mem_cons.mpr ⟨(by kernel_rfl), (List.forall_mem_cons.mpr ⟨(by kernel_rfl), (fun _ h => nomatch h)⟩)⟩)⟩)
    · exact (List.forall_mem_cons.mpr ⟨codeHd_of_K KX hd0, (List.forall_mem_cons.mpr ⟨codeHd_of_K KX hd1, (List.forall_mem_cons.mpr ⟨codeHd_of_K KX hd2, (fun _ h => nomatch h)⟩)⟩)⟩)
    · intro H a ns hl hbits hT hS
      exact ⟨a, ns, rfl, hS, hl, hbits, (List.forall_mem_cons.mpr ⟨hT (c0, 230) (.head _), (List.forall_mem_cons.mpr ⟨hT (c1, 249) (.tail _ (.head _)), (List.forall_mem_cons.mpr ⟨hT (c2, 504) (.tail _ (.tail _ (.head _))), (fun _ h => nomatch h)⟩)⟩)⟩), fun _ => rfl⟩
    · intro base KB GB TB
      have pv : Wk.PV (KI KX) mg base C CNoCode CWE [(230, Wk.q_need_row_of), (249, Wk.q_need_moves), (504, Wk.q_law)] := { n_abs := n_abs, n_all := n_all, n_bool := n_bool, n_dict := n_dict, n_enumerate := n_enumerate, n_int := n_int, n_isinstance := n_isinstance, n_len := n_len, n_list := n_list, n_max := n_max, n_min := n_min, n_property := n_property, n_range := n_range, n_sorted := n_sorted, n_sum := n_sum, n_super := n_super, n_tuple := n_tuple, n_zip := n_zip, g_MOST_EVENTS := g_MOST_EVENTS, g_MOST_KINDS := g_MOST_KINDS, g_MOST_WORD_rows := g_MOST_WORD_rows, g_MOST_PLACES := g_MOST_PLACES, g_MOST_WORD_modes := g_MOST_WORD_modes, g_MOST_BOTTOM := g_MOST_BOTTOM, g_MOST_HEARD := g_MOST_HEARD, g_MOST_ROWS := g_MOST_ROWS, d_is_number := d_is_number, d_is_between := d_is_between, d_is_list := d_is_list, d_first_wrong := d_first_wrong, d_is_short_list := d_is_short_list, d_need_row := d_need_row, d_is_word := d_is_word, d_is_line := d_is_line, d_need_words := d_need_words, d_word_counts := d_word_counts, d_need_verdict := d_need_verdict, d_need_near := d_need_near, d_near_by := d_near_by, d_need_noise := d_need_noise, d_divisor_of := d_divisor_of, d_lowest_of := d_lowest_of, d_raised := d_raised, d_weight_of := d_weight_of, d_all_of := d_all_of, d_need_heard := d_need_heard, d_heard_share := d_heard_share, d_sent_shares := d_sent_shares, d_rows_of := d_rows_of, d_right_share := d_right_share, d__law_begun := d__law_begun, d__law_blend := d__law_blend, d__law_draw := d__law_draw, d__law_caught := d__law_caught, d__law_watch := d__law_watch, d__law_made := d__law_made, d__law_place := d__law_place, d__law_rows_of := d__law_rows_of, d__law_code := d__law_code, d__law_differ := d__law_differ, d__law_counted := d__law_counted, d__law_common_of := d__law_common_of, d__law_low := d__law_low, d__law_power := d__law_power, d_need_watch := d_need_watch, l_need_row_of := l_need_row_of.to (TB (c0, 230) (.head _)) (.head _) (List.forall_mem_cons.mpr ⟨fun _ => rfl, (List.forall_mem_cons.mpr ⟨fun h => absurd (show (249 : Nat) = 230 from h) (by decide), (List.forall_mem_cons.mpr ⟨fun h => absurd (show (504 : Nat) = 230 from h) (by decide), (fun _ h => nomatch h)⟩)⟩)⟩), l_need_moves := l_need_moves.to (TB (c1, 249) (.tail _ (.head _))) (.tail _ (.head _)) (List.forall_mem_cons.mpr ⟨fun h => absurd (show (230 : Nat) = 249 from h) (by decide), (List.forall_mem_cons.mpr ⟨fun _ => rfl, (List.forall_mem_cons.mpr ⟨fun h => absurd (show (504 : Nat) = 249 from h) (by decide), (fun _ h => nomatch h)⟩)⟩)⟩), mNoCode := mNoCode, mWatchError := mWatchError, ex_NoCode := ex_NoCode, exC_NoCode := exC_NoCode, kit_NoCode := kit_NoCode, x_NoCode := x_NoCode, kp_NoCode := kp_NoCode, sb_NoCode := sb_NoCode, ty_NoCode := ty_NoCode, mWatch := mWatch, insWatch := insWatch, na1 := na1, na2 := na2, p_moves := p_moves, p_words := p_words, p_kinds := p_kinds, mkWatch := mkWatch }
      exact law_ok (T := [(230, Wk.q_need_row_of), (249, Wk.q_need_moves), (504, Wk.q_law)]) (n := 24) lk hcd Wk.sc_law rfl rfl (fun sa ns A outer s H E hr => Wk.s0_law pv (TB (c2, 504) (.tail _ (.tail _ (.head _)))) (.tail _ (.tail _ (.head _))) (List.forall_mem_cons.mpr ⟨fun h => absurd (show (230 : Nat) = 504 from h) (by decide), (List.forall_mem_cons.mpr ⟨fun h => absurd (show (249 : Nat) = 504 from h) (by decide), (List.forall_mem_cons.mpr ⟨fun _ => rfl, (fun _ h => nomatch h)⟩)⟩)⟩) hr) (fun sa ns D L Cc cs A outer s H E hLC hr => Wk.sL_law pv hLC (TB (c2, 504) (.tail _ (.tail _ (.head _)))) (.tail _ (.tail _ (.head _))) (List.forall_mem_cons.mpr ⟨fun h => absurd (show (230 : Nat) = 504 from h) (by decide), (List.forall_mem_cons.mpr ⟨fun h => absurd (show (249 : Nat) = 504 from h) (by decide), (List.forall_mem_cons.mpr ⟨fun _ => rfl, (fun _ h => nomatch h)⟩)⟩)⟩) hr) (fun ns hl _ => Wk.law_math ns hl)

import PyProof.Rows.All
import Wide.All
import OpenK.AllK
import Wide.FinOn
import HandS.ForMost
import HandS.ForExc
import HandS.Wide
import HandS.IsInst
import HandS.Steps
import HandS.EndBits
import HandS.TupLe
import HandS.Style
import HandS.Text
import HandS.ExcIs
import HandS.ExcOwn
import HandS.TryOnly
import HandS.TryMany
import HandS.WordsExc
import HandS.Dict
import HandS.Small
import KE.SortData
import HandS.More
import KE.DataMinMax
import HandS.SortKw
import KE.GoesMore
import KE.GoesEnum
import HandS.WideBits
import HandS.Deep
import HandS.HotCalls
import HandS.ExcInit
import HandS.ExcField
import KE.KExcIs
import PySem.Challenge.RW_modeyard_k40_texts_read
set_option Elab.async false
set_option linter.all false
set_option maxRecDepth 100000
set_option maxHeartbeats 1000000
/-! Y1: an own layer over HandS: the W monad, slots, private heaps, typed judgements -/
namespace Y
open PySem PySem.Spec L2

/-! ### W: predicate transformers with exceptions -/
structure Exn where
  cls : Str
  pay : Option Str
structure W (α : Type) where
  wp : (α → Prop) → (Exn → Prop) → Prop
  mono : ∀ {P P' : α → Prop} {E E' : Exn → Prop}, (∀ a, P a → P' a) → (∀ e, E e → E' e) → wp P E → wp P' E'
namespace W
variable {α β σ : Type}
def ret (a : α) : W α := ⟨fun P _ => P a, fun h _ x => h _ x⟩
def bind (m : W α) (f : α → W β) : W β := ⟨fun P E => m.wp (fun a => (f a).wp P E) E, fun hp he x => m.mono (fun a y => (f a).mono hp he y) he x⟩
instance : Monad W where
  pure := ret
  bind := bind
def bad : W α := ⟨fun _ _ => False, fun _ _ x => x⟩
/-- a condition that must hold -/
def req (c : Prop) (m : W α) : W α := ⟨fun P E => c ∧ m.wp P E, fun hp he x => ⟨x.1, m.mono hp he x.2⟩⟩
def exc (e : Exn) : W α := ⟨fun _ E => E e, fun _ he x => he _ x⟩
/-- some value of which p holds -/
def any (p : α → Prop) : W α := ⟨fun P _ => ∀ a, p a → P a, fun hp _ x a h => hp a (x a h)⟩
def foldM (f : σ → α → W σ) : σ → List α → W σ
  | s, [] => ret s
  | s, x :: xs => bind (f s x) fun s' => foldM f s' xs
def mapM (f : α → W β) : List α → W (List β)
  | [] => ret []
  | x :: xs => bind (f x) fun y => bind (mapM f xs) fun ys => ret (y :: ys)
/-- a while: by an invariant and a measure -/
def whileM (c : σ → W Bool) (b : σ → W σ) (s : σ) : W σ :=
  ⟨fun P E => ∃ (I : σ → Prop) (μ : σ → Nat), I s ∧ ∀ s, I s → (c s).wp (fun t => if t = true then (b s).wp (fun s' => I s' ∧ μ s' < μ s) E else P s) E,
   fun hp he ⟨I, μ, h0, h⟩ => ⟨I, μ, h0, fun s hs => (c s).mono (fun t x => by
      cases t with
      | true => rw [if_pos rfl] at x ⊢; exact (b s).mono (fun _ y => y) he x
      | false => rw [if_neg Bool.false_ne_true] at x ⊢; exact hp _ x) he (h s hs)⟩⟩
/-- m promises more than m' -/
def Le (m m' : W α) : Prop := ∀ P E, m.wp P E → m'.wp P E
theorem ext {m m' : W α} (h : ∀ P E, m.wp P E ↔ m'.wp P E) : m = m' := by
  obtain ⟨w, mo⟩ := m
  obtain ⟨w', mo'⟩ := m'
  have e : w = w' := by funext P E; exact propext (h P E)
  subst e
  rfl
theorem wp_ret (a : α) (P E) : (ret a).wp P E = P a := rfl
theorem wp_pure (a : α) (P : α → Prop) (E) : (pure a : W α).wp P E = P a := rfl
theorem wp_bind (m : W α) (f : α → W β) (P E) : (m >>= f).wp P E = m.wp (fun a => (f a).wp P E) E := rfl
theorem wp_req (c : Prop) (m : W α) (P E) : (req c m).wp P E = (c ∧ m.wp P E) := rfl
theorem wp_any (p : α → Prop) (P E) : (any p).wp P E = ∀ a, p a → P a := rfl
theorem wp_exc (e : Exn) (P : α → Prop) (E) : (exc e : W α).wp P E = E e := rfl
theorem wp_ite (c : Prop) [Decidable c] (m n : W α) (P E) : (if c then m else n).wp P E = if c then m.wp P E else n.wp P E := by split <;> rfl
theorem pure_bind' (a : α) (f : α → W β) : (pure a >>= f) = f a := rfl
theorem mapM_pure (f : α → β) (xs : List α) : mapM (fun x => (ret (f x) : W β)) xs = ret (xs.map f) := by
  induction xs with
  | nil => rfl
  | cons x xs ih =>
    show bind (ret (f x)) (fun y => bind (mapM _ xs) fun ys => ret (y :: ys)) = _
    rw [ih]
    rfl
theorem foldM_pure (f : σ → α → σ) (s : σ) (xs : List α) : foldM (fun s x => (ret (f s x) : W σ)) s xs = ret (xs.foldl f s) := by
  induction xs generalizing s with
  | nil => rfl
  | cons x xs ih => exact ih _
end W

/-! ### predicates of values, slots -/
structure Rp where
  p : Hp → V → Prop
  mono : ∀ {F F' : Hp} {v : V}, Same F F' → p F v → p F' v
/-- what a private heap holds: F, the private heap, the value -/
structure Op where
  p : Hp → Hp → V → Prop
  mono : ∀ {F F' G : Hp} {v : V}, Same F F' → p F G v → p F' G v
inductive Slot where
  | no
  | val (R : Rp)
  | own (O : Op)
def SlotOk (F G : Hp) : Slot → Option (Option V) → Prop
  | .no, _ => True
  | .val R, o => ∃ v, o = some (some v) ∧ R.p F v
  | .own O, o => ∃ v, o = some (some v) ∧ O.p F G v
theorem SlotOk.mono {F F' G : Hp} {S : Slot} {o : Option (Option V)} (h : Same F F') (x : SlotOk F G S o) : SlotOk F' G S o := by
  cases S with
  | no => trivial
  | val R => obtain ⟨v, e, r⟩ := x; exact ⟨v, e, R.mono h r⟩
  | own O => obtain ⟨v, e, r⟩ := x; exact ⟨v, e, O.mono h r⟩
def Dis (F G : Hp) : Prop := ∀ a, F a = none ∨ G a = none
def emp : Hp := fun _ => none
theorem Dis.emp {F : Hp} : Dis F Y.emp := fun _ => .inr rfl
theorem Dis.symm {F G : Hp} (h : Dis F G) : Dis G F := fun a => (h a).symm
def one (a : Addr) (o : HO) : Hp := fun b => if b = a then some o else none
theorem one_same {a : Addr} {o : HO} : one a o a = some o := if_pos rfl
theorem one_ne {a b : Addr} {o : HO} (h : b ≠ a) : one a o b = none := if_neg h
def uni (F G : Hp) : Hp := fun a => match F a with | some o => some o | none => G a
theorem uni_l {F G : Hp} : Same F (uni F G) := fun a o e => by unfold uni; rw [e]
theorem uni_r {F G : Hp} (d : Dis F G) : Same G (uni F G) := fun a o e => by
  unfold uni
  rcases d a with q | q
  · rw [q]; exact e
  · rw [q] at e; cases e
theorem uni_none {F G : Hp} {a : Addr} (h : F a = none) (h' : G a = none) : uni F G a = none := by unfold uni; rw [h]; exact h'
theorem of_uni {F G : Hp} {a : Addr} {o : HO} (h : uni F G a = some o) : F a = some o ∨ (F a = none ∧ G a = some o) := by
  unfold uni at h
  cases e : F a with
  | none => rw [e] at h; exact .inr ⟨rfl, h⟩
  | some u => rw [e] at h; exact .inl h
def setG (g : Nat → Hp) (i : Nat) (G : Hp) : Nat → Hp := fun j => if j = i then G else g j
theorem setG_same {g : Nat → Hp} {i : Nat} {G : Hp} : setG g i G i = G := if_pos rfl
theorem setG_ne {g : Nat → Hp} {i j : Nat} {G : Hp} (h : j ≠ i) : setG g i G j = g j := if_neg h
def dU (g : Nat → Hp) (a : Addr) : Prop := ∃ i, g i a ≠ none

/-- the module, as it stands behind the top -/
structure Mc where
  P : Program
  w : World
  K : PySem.W.Frag
  mg : Str → Option Value
  base : Heap
/-- the static context of a def's body -/
structure Cc extends Mc where
  N : List Str
  sc : Scope
  k : Nat
  fr : Addr → Prop
  fnc : Str → Bool
  cm : Bool
  /-- the exception that a suite holds -/
  ex : Option (Addr × Value × Option Addr)
/-- room for calls, whatever is handled -/
structure RoomS (k : Nat) (A : Around) : Prop where
  dp : A.depth + 3 * k + 5 < recursionLimit
  un : A.units + 16 * k + 200 < cLine
theorem RoomS.of {k : Nat} {A : Around} (r : Room k A) : RoomS k A := ⟨r.dp, r.un⟩
structure Cc.Ok (C : Cc) (X : Cx) : Prop where
  prog : X.prog = C.P
  w : X.w = C.w
  K : X.K = C.K
  mg : X.mg = C.mg
  base : X.base = C.base
  N : X.N = C.N
  sc : X.env.scope = C.sc
  nd : C.N.Nodup
  calm : X.calm = C.cm
  room : C.cm = true → Room C.k X.A
  units : X.A.units + 64 < cLine
  exc : ∀ a cls d, C.ex = some (a, cls, d) → RoomS C.k X.A ∧ ∃ (Y : Cx) (pn : List (Addr × Obj)) (oe : Obj), X = Y.suite a ((a, oe) :: pn) ∧ Zc cls d oe ∧ ∃ vs, oe.data = .fields vs
  fnc : ∀ x, C.fnc x = true → X.fn x = true
theorem Cc.Ok.ndX {C : Cc} {X : Cx} (h : C.Ok X) : X.N.Nodup := by rw [h.N]; exact h.nd

structure St0 (F H : Hp) (Γ : List Slot) (σ : St) (g : Nat → Hp) : Prop where
  len : Γ.length = σ.length
  slot : ∀ i S, Γ[i]? = some S → SlotOk F (g i) S (σ[i]?)
  sF : Same F H
  sG : ∀ i, Same (g i) H
  dF : ∀ i, Dis F (g i)
  dG : ∀ i j, i ≠ j → Dis (g i) (g j)
structure StOk (C : Cc) (F H : Hp) (Γ : List Slot) (σ : St) (g : Nat → Hp) : Prop where
  len : Γ.length = σ.length
  slot : ∀ i S, Γ[i]? = some S → SlotOk F (g i) S (σ[i]?)
  sF : Same F H
  sG : ∀ i, Same (g i) H
  dF : ∀ i, Dis F (g i)
  dG : ∀ i j, i ≠ j → Dis (g i) (g j)
  fr : ∀ a, H a = none → C.fr a
theorem StOk.st0 {C : Cc} {F H : Hp} {Γ : List Slot} {σ : St} {g : Nat → Hp} (s : StOk C F H Γ σ g) : St0 F H Γ σ g := ⟨s.len, s.slot, s.sF, s.sG, s.dF, s.dG⟩
theorem St0.ok {C : Cc} {F H : Hp} {Γ : List Slot} {σ : St} {g : Nat → Hp} (s : St0 F H Γ σ g) (h : ∀ a, H a = none → C.fr a) : StOk C F H Γ σ g := ⟨s.len, s.slot, s.sF, s.sG, s.dF, s.dG, h⟩

/-- from one point of a run to a later one: F grows, what is not owned stays -/
structure Fr (F H : Hp) (U : Addr → Prop) (F' H' : Hp) (U' : Addr → Prop) : Prop where
  sF : Same F F'
  fF : ∀ b, F' b ≠ none → F b ≠ none ∨ H b = none ∨ U b
  keep : ∀ b o, H b = some o → ¬ U b → H' b = some o
  dom : ∀ b, H b ≠ none → H' b ≠ none
  gs : ∀ b, U' b → U b ∨ H b = none
theorem Fr.refl {F H : Hp} {U : Addr → Prop} : Fr F H U F H U := ⟨Same.refl _, fun _ h => .inl h, fun _ _ h _ => h, fun _ h => h, fun _ h => .inl h⟩
theorem Fr.trans {F H F' H' F'' H'' : Hp} {U U' U'' : Addr → Prop} (a : Fr F H U F' H' U') (b : Fr F' H' U' F'' H'' U'') : Fr F H U F'' H'' U'' where
  sF := a.sF.trans b.sF
  fF := fun c h => by
    rcases b.fF c h with q | q | q
    · exact a.fF c q
    · refine .inr (.inl ?_)
      cases e : H c with
      | none => rfl
      | some o => exact absurd q (a.dom c (by rw [e]; simp))
    · rcases a.gs c q with z | z
      · exact .inr (.inr z)
      · exact .inr (.inl z)
  keep := fun c o h n => b.keep c o (a.keep c o h n) fun z => by
    rcases a.gs c z with q | q
    · exact n q
    · rw [h] at q; cases q
  dom := fun c h => b.dom c (a.dom c h)
  gs := fun c h => by
    rcases b.gs c h with q | q
    · exact a.gs c q
    · refine .inr ?_
      cases e : H c with
      | none => rfl
      | some o => exact absurd q (a.dom c (by rw [e]; simp))
/-- the owned set may be said smaller at the end -/
theorem Fr.less {F H F' H' : Hp} {U U' U'' : Addr → Prop} (a : Fr F H U F' H' U') (h : ∀ b, U'' b → U' b) : Fr F H U F' H' U'' :=
  ⟨a.sF, a.fF, a.keep, a.dom, fun b z => a.gs b (h b z)⟩

section
variable {C : Cc} {F H F' H' : Hp} {Γ Γ' : List Slot} {σ : St} {g : Nat → Hp}
theorem StOk.get_val (s : StOk C F H Γ σ g) {i : Nat} {R : Rp} (h : Γ[i]? = some (.val R)) : ∃ v, σ[i]? = some (some v) ∧ R.p F v := s.slot i _ h
theorem StOk.get_own (s : StOk C F H Γ σ g) {i : Nat} {O : Op} (h : Γ[i]? = some (.own O)) : ∃ v, σ[i]? = some (some v) ∧ O.p F (g i) v := s.slot i _ h
theorem StOk.set_val (s : StOk C F H Γ σ g) {i : Nat} {R : Rp} {v : V} (r : R.p F v) : StOk C F H (Γ.set i (.val R)) (σ.set i (some v)) g where
  len := by simp [s.len]
  slot := fun j S e => by
    by_cases hj : i = j
    · subst hj
      have hl : i < Γ.length := by
        have q := (List.getElem?_eq_some_iff.mp e).1
        simpa using q
      rw [List.getElem?_set_self hl] at e
      cases e
      rw [List.getElem?_set_self (by rw [← s.len]; exact hl)]
      exact ⟨v, rfl, r⟩
    · rw [List.getElem?_set_ne hj] at e ⊢
      exact s.slot j S e
  sF := s.sF
  sG := s.sG
  dF := s.dF
  dG := s.dG
  fr := s.fr
theorem StOk.set_own (s : StOk C F H Γ σ g) {i : Nat} {O : Op} {G : Hp} {v : V} (r : O.p F G v) (sG : Same G H) (dF : Dis F G) (dG : ∀ j, j ≠ i → Dis (g j) G) : StOk C F H (Γ.set i (.own O)) (σ.set i (some v)) (setG g i G) where
  len := by simp [s.len]
  slot := fun j S e => by
    by_cases hj : i = j
    · subst hj
      have hl : i < Γ.length := by
        have q := (List.getElem?_eq_some_iff.mp e).1
        simpa using q
      rw [List.getElem?_set_self hl] at e
      cases e
      rw [List.getElem?_set_self (by rw [← s.len]; exact hl), setG_same]
      exact ⟨v, rfl, r⟩
    · rw [List.getElem?_set_ne hj] at e ⊢
      rw [setG_ne (fun q => hj q.symm)]
      exact s.slot j S e
  sF := s.sF
  sG := fun j => by
    by_cases hj : j = i
    · subst hj; rw [setG_same]; exact sG
    · rw [setG_ne hj]; exact s.sG j
  dF := fun j => by
    by_cases hj : j = i
    · subst hj; rw [setG_same]; exact dF
    · rw [setG_ne hj]; exact s.dF j
  dG := fun j k hjk => by
    by_cases hj : j = i
    · subst hj
      rw [setG_same, setG_ne (fun q => hjk q.symm)]
      exact (dG k (fun q => hjk q.symm)).symm
    · rw [setG_ne hj]
      by_cases hk : k = i
      · subst hk; rw [setG_same]; exact dG j hj
      · rw [setG_ne hk]; exact s.dG j k hjk
  fr := s.fr
theorem StOk.set_no (s : StOk C F H Γ σ g) {i : Nat} {o : Option V} : StOk C F H (Γ.set i .no) (σ.set i o) g where
  len := by simp [s.len]
  slot := fun j S e => by
    by_cases hj : i = j
    · subst hj
      have hl : i < Γ.length := by
        have q := (List.getElem?_eq_some_iff.mp e).1
        simpa using q
      rw [List.getElem?_set_self hl] at e
      cases e
      trivial
    · rw [List.getElem?_set_ne hj] at e ⊢
      exact s.slot j S e
  sF := s.sF
  sG := s.sG
  dF := s.dF
  dG := s.dG
  fr := s.fr
/-- weaker slots -/
def Sub (Γ Γ' : List Slot) : Prop := Γ.length = Γ'.length ∧ ∀ (i : Nat) (S' : Slot), Γ'[i]? = some S' → S' = Slot.no ∨ Γ[i]? = some S' ∨ ∃ R R', S' = Slot.val R' ∧ Γ[i]? = some (Slot.val R) ∧ ∀ F v, R.p F v → R'.p F v
theorem StOk.weak (s : StOk C F H Γ σ g) (h : Sub Γ Γ') : StOk C F H Γ' σ g where
  len := h.1.symm.trans s.len
  slot := fun i S e => by
    rcases h.2 i S e with q | q | ⟨R, R', q, q', hR⟩
    · subst q; trivial
    · exact s.slot i S q
    · subst q
      obtain ⟨v, e1, e2⟩ := s.slot i _ q'
      exact ⟨v, e1, hR _ _ e2⟩
  sF := s.sF
  sG := s.sG
  dF := s.dF
  dG := s.dG
  fr := s.fr
theorem Sub.refl : Sub Γ Γ := ⟨rfl, fun _ _ h => .inr (.inl h)⟩
/-- new objects are laid into F -/
theorem StOk.grow (s : StOk C F H Γ σ g) {G : Hp} (hn : ∀ a o, G a = some o → H a = none) : StOk C (uni F G) (uni H G) Γ σ g ∧ Fr F H (dU g) (uni F G) (uni H G) (dU g) := by
  refine ⟨⟨s.len, fun i S e => (s.slot i S e).mono uni_l, fun a o e => ?_, fun i a o e => uni_l a o (s.sG i a o e), fun i a => ?_, s.dG, fun a e => ?_⟩, uni_l, fun b hb => ?_, fun b o e _ => uni_l b o e, fun b hb => ?_, fun b z => .inl z⟩
  · rcases of_uni e with q | ⟨q, q'⟩
    · exact uni_l a o (s.sF a o q)
    · show uni H G a = some o
      unfold uni; rw [hn a o q']; exact q'
  · rcases s.dF i a with q | q
    · cases e : G a with
      | none => exact .inl (uni_none q e)
      | some o =>
        refine .inr ?_
        cases e2 : g i a with
        | none => rfl
        | some u =>
          have := s.sG i a u e2
          rw [hn a o e] at this; cases this
    · exact .inr q
  · refine s.fr a ?_
    cases q : H a with
    | none => rfl
    | some o => rw [uni_l a o q] at e; cases e
  · cases q : F b with
    | some o => exact .inl (by simp)
    | none =>
      cases q2 : G b with
      | none => exact absurd (uni_none q q2) hb
      | some o => exact .inr (.inl (hn b o q2))
  · cases q : H b with
    | none => exact absurd q hb
    | some o => rw [uni_l b o q]; simp
end

theorem uni_upd {H : Hp} {p : Addr} {o : HO} (h : H p = none) : uni H (one p o) = upd H p o := by
  funext b
  unfold uni upd
  by_cases e : b = p
  · subst e; rw [h, if_pos rfl]; exact one_same
  · rw [if_neg e]
    cases q : H b with
    | none => exact one_ne e
    | some u => rfl
/-- one new object, into F -/
theorem StOk.grow1 {C : Cc} {F H : Hp} {Γ : List Slot} {σ : St} {g : Nat → Hp} (s : StOk C F H Γ σ g) {p : Addr} {o : HO} (hn : H p = none) :
    StOk C (upd F p o) (upd H p o) Γ σ g ∧ Fr F H (dU g) (upd F p o) (upd H p o) (dU g) := by
  have hf : F p = none := by
    cases q : F p with
    | none => rfl
    | some u => rw [s.sF p u q] at hn; cases hn
  have := s.grow (G := one p o) (fun a u e => by
    by_cases h : a = p
    · rw [h]; exact hn
    · rw [one_ne h] at e; cases e)
  rw [uni_upd hn, uni_upd hf] at this
  exact this

/-! ### the semantic judgements -/
section
variable {X : Cx}
@[irreducible] def WE (X : Cx) (e : Expr) : TE := fun σ H Q => ∀ pins s, Inv X pins σ H s → wpAny (model X.prog X.w) X.A (eval e X.env) (EP X pins σ Q) X.xe s
@[irreducible] def WT (X : Cx) (e : Expr) : TT := fun σ H Q => ∀ pins s, Inv X pins σ H s → wpAny (model X.prog X.w) X.A (isTrue e X.env (eval e X.env)) (TP X pins σ Q) X.xe s
@[irreducible] def WW (X : Cx) (e : Expr) : TT := fun σ H Q => ∀ (whole : Sem Value) pins s, Inv X pins σ H s → wpAny (model X.prog X.w) X.A (isTrue e X.env whole) (TP X pins σ Q) X.xe s
@[irreducible] def WA (X : Cx) (es : List Expr) : TA := fun σ H Q => ∀ (pos : Pos) pins s, Inv X pins σ H s → wpAny (model X.prog X.w) X.A (spliced (backTo pos (starEach es X.env))) (AP X pins σ Q) X.xe s
@[irreducible] def WS (X : Cx) (st : List Stmt) : TS := fun D σ H => ∀ pins s, Inv X pins σ H s → wpAny (model X.prog X.w) X.A (execs st X.env) (SP X pins D) X.xe s
@[irreducible] def W1 (X : Cx) (st : Stmt) : TS := fun D σ H => ∀ pins s, Inv X pins σ H s → wpAny (model X.prog X.w) X.A (exec st X.env) (SP X pins D) X.xe s
theorem pe_W {e : Expr} : PE X e (WE X e) := ⟨fun pins s σ H Q I h => by unfold WE at h; exact h pins s I⟩
theorem pt_W {e : Expr} : PT X e (WT X e) := ⟨fun pins s σ H Q I h => by unfold WT at h; exact h pins s I⟩
theorem pw_W {e : Expr} : PW X e (WW X e) := ⟨fun whole pins s σ H Q I h => by unfold WW at h; exact h whole pins s I⟩
theorem pa_W {es : List Expr} : PA X es (WA X es) := ⟨fun pos pins s σ H Q I h => by unfold WA at h; exact h pos pins s I⟩
theorem pss_W {st : List Stmt} : PSs X st (WS X st) := ⟨fun pins s σ H D I h => by unfold WS at h; exact h pins s I⟩
theorem ps_W {st : Stmt} : PS X st (W1 X st) := ⟨fun pins s σ H D I h => by unfold W1 at h; exact h pins s I⟩
theorem WE.of {e : Expr} {t : TE} (h : PE X e t) {σ : St} {H : Hp} {Q : VK} (q : t σ H Q) : WE X e σ H Q := by unfold WE; exact fun pins s I => h.run pins s σ H Q I q
theorem WT.of {e : Expr} {t : TT} (h : PT X e t) {σ : St} {H : Hp} {Q : Bool → Hp → Prop} (q : t σ H Q) : WT X e σ H Q := by unfold WT; exact fun pins s I => h.run pins s σ H Q I q
theorem WW.of {e : Expr} {t : TT} (h : PW X e t) {σ : St} {H : Hp} {Q : Bool → Hp → Prop} (q : t σ H Q) : WW X e σ H Q := by unfold WW; exact fun whole pins s I => h.run whole pins s σ H Q I q
theorem WA.of {es : List Expr} {t : TA} (h : PA X es t) {σ : St} {H : Hp} {Q : List V → Hp → Prop} (q : t σ H Q) : WA X es σ H Q := by unfold WA; exact fun pos pins s I => h.run pos pins s σ H Q I q
theorem WS.of {st : List Stmt} {t : TS} (h : PSs X st t) {D : Ends} {σ : St} {H : Hp} (q : t D σ H) : WS X st D σ H := by unfold WS; exact fun pins s I => h.run pins s σ H D I q
theorem W1.of {st : Stmt} {t : TS} (h : PS X st t) {D : Ends} {σ : St} {H : Hp} (q : t D σ H) : W1 X st D σ H := by unfold W1; exact fun pins s I => h.run pins s σ H D I q
end

/-- how an exception lies: its class, its own dict (new behind H0, owned by none) -/
def XOk (C : Mc) (e : Exn) (H0 H : Hp) (U : Addr → Prop) (cls : Value) (d : Option Addr) : Prop :=
  ∃ a, C.mg e.cls = some (.ref a) ∧ cls = .ref a ∧ match e.pay with
    | none => d = none
    | some x => ∃ b, d = some b ∧ H0 b = none ∧ H b = some (.xd [("name", .str x)]) ∧ ¬ U b
theorem XOk.mp {C : Mc} {e : Exn} {H0 H0' H : Hp} {U U' : Addr → Prop} {cls : Value} {d : Option Addr} (x : XOk C e H0 H U cls d) (h : ∀ b, H0 b = none → ¬ U b → H0' b = none ∧ ¬ U' b) : XOk C e H0' H U' cls d := by
  obtain ⟨a, h1, h2, h3⟩ := x
  refine ⟨a, h1, h2, ?_⟩
  cases hp : e.pay with
  | none => rw [hp] at h3; exact h3
  | some z =>
    rw [hp] at h3
    obtain ⟨b, e1, e2, e3, e4⟩ := h3
    obtain ⟨e5, e6⟩ := h b e2 e4
    exact ⟨b, e1, e5, e3, e6⟩
theorem XOk.later {C : Mc} {e : Exn} {F H F' H' H2 : Hp} {U U' U2 : Addr → Prop} {cls : Value} {d : Option Addr} (f : Fr F H U F' H' U') (x : XOk C e H' H2 U2 cls d) : XOk C e H H2 U2 cls d :=
  x.mp fun b q n => ⟨by
    cases z : H b with
    | none => rfl
    | some o => exact absurd q (f.dom b (by rw [z]; simp)), n⟩
/-- what is owned stood already -/
theorem XOk.reg {C : Mc} {e : Exn} {H0 H : Hp} {U : Addr → Prop} {g : Nat → Hp} {cls : Value} {d : Option Addr} (s : ∀ i, Same (g i) H0) (x : XOk C e H0 H U cls d) : XOk C e H0 H (dU g) cls d :=
  x.mp fun b q _ => ⟨q, fun ⟨i, z⟩ => by
    cases w : g i b with
    | none => exact z w
    | some o => rw [s i b o w] at q; cases q⟩

/-- what is wanted of an exception e behind the point F H U -/
def XEnd (C : Cc) (F H : Hp) (U : Addr → Prop) (Γ : List Slot) (σ : St) (Wx : WX) (e : Exn) : Prop :=
  ∀ F' H' g' cls d, Fr F H U F' H' (dU g') → StOk C F' H' Γ σ g' → XOk C.toMc e H H' (dU g') cls d → Wx cls d σ H'
/-- an expression: its value, by m and ρ -/
def Ev (C : Cc) (Γ : List Slot) (e : Expr) {α : Type} (ρ : α → Rp) (m : W α) : Prop :=
  ∀ (X : Cx) (Wx : WX), C.Ok X → Takes X Wx → ∀ (F H : Hp) (g : Nat → Hp) (σ : St), StOk C F H Γ σ g → ∀ Q : VK,
    m.wp (fun a => ∀ F' H' g' v, Fr F H (dU g) F' H' (dU g') → StOk C F' H' Γ σ g' → (ρ a).p F' v → Q v H') (XEnd C F H (dU g) Γ σ Wx) → WE X e σ H Q
/-- .. a new object of the asker's own -/
def EvO (C : Cc) (Γ : List Slot) (e : Expr) {α : Type} (O : α → Op) (m : W α) : Prop :=
  ∀ (X : Cx) (Wx : WX), C.Ok X → Takes X Wx → ∀ (F H : Hp) (g : Nat → Hp) (σ : St), StOk C F H Γ σ g → ∀ Q : VK,
    m.wp (fun a => ∀ F' H' g' G v, Fr F H (dU g) F' H' (fun b => dU g' b ∨ G b ≠ none) → StOk C F' H' Γ σ g' → Same G H' → Dis F' G → (∀ i, Dis (g' i) G) → (∀ b, G b ≠ none → C.fr b) → (O a).p F' G v → Q v H') (XEnd C F H (dU g) Γ σ Wx) → WE X e σ H Q
/-- a test -/
def EvT (C : Cc) (Γ : List Slot) (e : Expr) (m : W Bool) : Prop :=
  ∀ (X : Cx) (Wx : WX), C.Ok X → Takes X Wx → ∀ (F H : Hp) (g : Nat → Hp) (σ : St), StOk C F H Γ σ g → ∀ Q : Bool → Hp → Prop,
    m.wp (fun a => ∀ F' H' g', Fr F H (dU g) F' H' (dU g') → StOk C F' H' Γ σ g' → Q a H') (XEnd C F H (dU g) Γ σ Wx) → WT X e σ H Q

/-- from later points -/
theorem XEnd.later {C : Cc} {F H F' H' : Hp} {U U' : Addr → Prop} {Γ : List Slot} {σ : St} {Wx : WX} {e : Exn} (f : Fr F H U F' H' U') (h : XEnd C F H U Γ σ Wx e) : XEnd C F' H' U' Γ σ Wx e :=
  fun F2 H2 g2 cls d f2 s x => h F2 H2 g2 cls d (f.trans f2) s (x.later f)

/-! ### kinds of values -/
def rI (i : Int) : Rp := ⟨fun _ v => v = .int i, fun _ h => h⟩
def rB (b : Bool) : Rp := ⟨fun _ v => v = .bl b, fun _ h => h⟩
def rS (z : Str) : Rp := ⟨fun _ v => v = .str z, fun _ h => h⟩
def rU (_ : Unit) : Rp := ⟨fun _ v => v = .non, fun _ h => h⟩
def rO {α : Type} (r : α → Rp) : Option α → Rp
  | none => ⟨fun _ v => v = .non, fun _ h => h⟩
  | some x => r x
inductive All2 {α β : Type} (R : α → β → Prop) : List α → List β → Prop
  | nil : All2 R [] []
  | cons {a b as bs} : R a b → All2 R as bs → All2 R (a :: as) (b :: bs)
namespace All2
variable {α β : Type} {R R' : α → β → Prop}
theorem length {as : List α} {bs : List β} (h : All2 R as bs) : as.length = bs.length := by
  induction h with
  | nil => rfl
  | cons _ _ ih => simp [ih]
theorem imp (f : ∀ a b, R a b → R' a b) {as : List α} {bs : List β} (h : All2 R as bs) : All2 R' as bs := by
  induction h with
  | nil => exact .nil
  | cons r _ ih => exact .cons (f _ _ r) ih
theorem get {as : List α} {bs : List β} (h : All2 R as bs) : ∀ {i : Nat} {b : β}, bs[i]? = some b → ∃ a, as[i]? = some a ∧ R a b := by
  induction h with
  | nil => intro i b e; simp at e
  | cons r _ ih =>
    intro i b e
    cases i with
    | zero => simp at e; subst e; exact ⟨_, rfl, r⟩
    | succ i => simpa using ih (by simpa using e)
theorem getL {as : List α} {bs : List β} (h : All2 R as bs) : ∀ {i : Nat} {a : α}, as[i]? = some a → ∃ b, bs[i]? = some b ∧ R a b := by
  induction h with
  | nil => intro i b e; simp at e
  | cons r _ ih =>
    intro i b e
    cases i with
    | zero => simp at e; subst e; exact ⟨_, rfl, r⟩
    | succ i => simpa using ih (by simpa using e)
theorem append {as as' : List α} {bs bs' : List β} (h : All2 R as bs) (h' : All2 R as' bs') : All2 R (as ++ as') (bs ++ bs') := by
  induction h with
  | nil => exact h'
  | cons r _ ih => exact .cons r ih
theorem snoc {as : List α} {bs : List β} {a : α} {b : β} (h : All2 R as bs) (r : R a b) : All2 R (as ++ [a]) (bs ++ [b]) := h.append (.cons r .nil)
theorem take {as : List α} {bs : List β} (h : All2 R as bs) : ∀ n : Nat, All2 R (as.take n) (bs.take n) := by
  induction h with
  | nil => intro n; simp; exact .nil
  | cons r _ ih =>
    intro n
    cases n with
    | zero => exact .nil
    | succ n => exact .cons r (ih n)
theorem drop {as : List α} {bs : List β} (h : All2 R as bs) : ∀ n : Nat, All2 R (as.drop n) (bs.drop n) := by
  induction h with
  | nil => intro n; simp; exact .nil
  | cons r t ih =>
    intro n
    cases n with
    | zero => exact .cons r t
    | succ n => exact ih n
theorem set {as : List α} {bs : List β} {a : α} {b : β} (h : All2 R as bs) (r : R a b) : ∀ n : Nat, All2 R (as.set n a) (bs.set n b) := by
  induction h with
  | nil => intro n; exact .nil
  | cons q t ih =>
    intro n
    cases n with
    | zero => exact .cons r t
    | succ n => exact .cons q (ih n)
theorem map_right {γ : Type} {f : γ → β} {as : List α} {cs : List γ} (h : All2 (fun a c => R a (f c)) as cs) : All2 R as (cs.map f) := by
  induction h with
  | nil => exact .nil
  | cons r _ ih => exact .cons r ih
theorem of_map {f : β → α} (h : ∀ b a, R a b → a = f b) {as : List α} {bs : List β} (x : All2 R as bs) : as = bs.map f := by
  induction x with
  | nil => rfl
  | cons r _ ih => simp [ih, h _ _ r]
theorem to_map {f : β → α} (h : ∀ b, R (f b) b) : ∀ bs : List β, All2 R (bs.map f) bs
  | [] => .nil
  | b :: bs => .cons (h b) (to_map h bs)
theorem reverse {as : List α} {bs : List β} (h : All2 R as bs) : All2 R as.reverse bs.reverse := by
  induction h with
  | nil => exact .nil
  | cons r _ ih => simp only [List.reverse_cons]; exact ih.snoc r
end All2

section
variable {K : PySem.W.Frag} {α β γ : Type}
theorem Same.seqT {F F' : Hp} {a : Addr} {xs : List V} (e : Same F F') (h : SqT K F a xs) : SqT K F' a xs := by
  rcases h with q | q
  · refine .inl ?_
    rcases q with q | ⟨o, q⟩
    · exact .inl (e _ _ q)
    · exact .inr ⟨o, e _ _ q⟩
  · exact .inr q
/-- a list, of any place -/
def rL (K : PySem.W.Frag) (r : α → Rp) (xs : List α) : Rp :=
  ⟨fun F v => ∃ a vs, v = .ref a ∧ SqL K F a vs ∧ All2 (fun u x => (r x).p F u) vs xs, fun h ⟨a, vs, e, q, t⟩ => ⟨a, vs, e, h.seq q, t.imp fun _ _ z => (r _).mono h z⟩⟩
/-- a list that is ours: tracked, of our places -/
def rN (N : Addr → Prop) (r : α → Rp) (xs : List α) : Rp :=
  ⟨fun F v => ∃ a vs, v = .ref a ∧ N a ∧ F a = some (.lst vs) ∧ All2 (fun u x => (r x).p F u) vs xs, fun h ⟨a, vs, e, n, q, t⟩ => ⟨a, vs, e, n, h _ _ q, t.imp fun _ _ z => (r _).mono h z⟩⟩
def rT2 (K : PySem.W.Frag) (r1 : α → Rp) (r2 : β → Rp) (x : α × β) : Rp :=
  ⟨fun F v => ∃ a v1 v2, v = .ref a ∧ SqT K F a [v1, v2] ∧ (r1 x.1).p F v1 ∧ (r2 x.2).p F v2, fun h ⟨a, v1, v2, e, q, t1, t2⟩ => ⟨a, v1, v2, e, Same.seqT h q, (r1 _).mono h t1, (r2 _).mono h t2⟩⟩
def rT3 (K : PySem.W.Frag) (r1 : α → Rp) (r2 : β → Rp) (r3 : γ → Rp) (x : α × β × γ) : Rp :=
  ⟨fun F v => ∃ a v1 v2 v3, v = .ref a ∧ SqT K F a [v1, v2, v3] ∧ (r1 x.1).p F v1 ∧ (r2 x.2.1).p F v2 ∧ (r3 x.2.2).p F v3, fun h ⟨a, v1, v2, v3, e, q, t1, t2, t3⟩ => ⟨a, v1, v2, v3, e, Same.seqT h q, (r1 _).mono h t1, (r2 _).mono h t2, (r3 _).mono h t3⟩⟩
/-- an own list: alone in its private heap; the items in F -/
def oL (N : Addr → Prop) (r : α → Rp) (xs : List α) : Op :=
  ⟨fun F G v => ∃ a vs, v = .ref a ∧ N a ∧ G = one a (.lst vs) ∧ All2 (fun u x => (r x).p F u) vs xs, fun h ⟨a, vs, e, n, q, t⟩ => ⟨a, vs, e, n, q, t.imp fun _ _ z => (r _).mono h z⟩⟩
theorem rN_rL {N : Addr → Prop} {r : α → Rp} {xs : List α} {F : Hp} {v : V} (h : (rN N r xs).p F v) : (rL K r xs).p F v := by
  obtain ⟨a, vs, e, _, q, t⟩ := h
  exact ⟨a, vs, e, SqL.of q, t⟩
end
/-- a value of a smaller kind -/
theorem Ev.sub {C : Cc} {Γ : List Slot} {e : Expr} {α : Type} {ρ ρ' : α → Rp} {m : W α} (h : ∀ a F v, (ρ a).p F v → (ρ' a).p F v) (x : Ev C Γ e ρ m) : Ev C Γ e ρ' m :=
  fun X Wx ok tk F H g σ s Q hm => x X Wx ok tk F H g σ s Q (m.mono (fun a z F' H' g' v f s r => z F' H' g' v f s (h a F' v r)) (fun _ z => z) hm)
/-- a function of the value -/
theorem Ev.map {C : Cc} {Γ : List Slot} {e : Expr} {α β : Type} {ρ : α → Rp} {ρ' : β → Rp} {m : W α} (f : α → β) (h : ∀ a F v, (ρ a).p F v → (ρ' (f a)).p F v) (x : Ev C Γ e ρ m) : Ev C Γ e ρ' (m >>= fun a => pure (f a)) :=
  fun X Wx ok tk F H g σ s Q hm => x X Wx ok tk F H g σ s Q (m.mono (fun a z F' H' g' v fr s r => z F' H' g' v fr s (h a F' v r)) (fun _ z => z) hm)
/-- a new object joins F -/
theorem EvO.ev {C : Cc} {Γ : List Slot} {e : Expr} {α : Type} {O : α → Op} {ρ : α → Rp} {m : W α} (h : ∀ a F G v, Dis F G → (∀ b, G b ≠ none → C.fr b) → (O a).p F G v → (ρ a).p (uni F G) v) (x : EvO C Γ e O m) : Ev C Γ e ρ m :=
  fun X Wx ok tk F H g σ s Q hm => x X Wx ok tk F H g σ s Q (m.mono (fun a z F' H' g' G v f s sG dF dG nG r => by
    refine z (uni F' G) H' g' v ⟨f.sF.trans uni_l, fun b hb => ?_, f.keep, f.dom, fun b z => f.gs b (.inl z)⟩ ⟨s.len, fun i S e => (s.slot i S e).mono uni_l, fun b o e => ?_, s.sG, fun i b => ?_, s.dG, s.fr⟩ (h a F' G v dF nG r)
    · cases q : F' b with
      | some o => exact f.fF b (by rw [q]; simp)
      | none =>
        cases q2 : G b with
        | none => exact absurd (uni_none q q2) hb
        | some o => exact .inr ((f.gs b (.inr (by rw [q2]; simp))).symm)
    · rcases of_uni e with q | ⟨_, q⟩
      · exact s.sF b o q
      · exact sG b o q
    · rcases s.dF i b with q | q
      · rcases dG i b with q2 | q2
        · exact .inr q2
        · exact .inl (uni_none q q2)
      · exact .inr q) (fun _ z => z) hm)
theorem oL_rN {N : Addr → Prop} {α : Type} {r : α → Rp} {xs : List α} {F G : Hp} {v : V} (d : Dis F G) (h : (oL N r xs).p F G v) : (rN N r xs).p (uni F G) v := by
  obtain ⟨a, vs, e, n, q, t⟩ := h
  refine ⟨a, vs, e, n, ?_, t.imp fun _ _ z => (r _).mono uni_l z⟩
  subst q
  exact uni_r d a _ one_same
/-- a new list as a value -/
theorem EvO.list {C : Cc} {Γ : List Slot} {e : Expr} {α : Type} {r : α → Rp} {m : W (List α)} (x : EvO C Γ e (oL C.fr r) m) : Ev C Γ e (rN C.fr r) m := x.ev fun _ _ _ _ d _ h => oL_rN d h
theorem EvO.listL {C : Cc} {Γ : List Slot} {e : Expr} {α : Type} {r : α → Rp} {m : W (List α)} (x : EvO C Γ e (oL C.fr r) m) : Ev C Γ e (rL C.K r) m := x.list.sub fun _ _ _ h => rN_rL h
theorem Ev.anyL {C : Cc} {Γ : List Slot} {e : Expr} {α : Type} {r : α → Rp} {m : W (List α)} (x : Ev C Γ e (rN C.fr r) m) : Ev C Γ e (rL C.K r) m := x.sub fun _ _ _ h => rN_rL h
end Y

/-! Y2: rules for expressions -/
namespace Y
open PySem PySem.Spec L2
section
variable {C : Cc} {Γ : List Slot} {α β γ : Type}

/-! ### names, constants -/
theorem Ev.name {i : Nat} {x : Str} {pos : Pos} {ρ : α → Rp} {a : α} (hN : C.N[i]? = some x) (hv : Vis C.sc x) (hΓ : Γ[i]? = some (.val (ρ a)))
    (hd : (x == ("__debug__" : Str)) = false := by decide) (hcd : (x == ("__classdict__" : Str)) = false := by decide) : Ev C Γ (.Name x pos) ρ (pure a) :=
  fun X Wx ok tk F H g σ s Q hm => by
    obtain ⟨v, e, r⟩ := s.get_val hΓ
    exact WE.of (pe_var (i := i) (by rw [ok.N]; exact hN) (by rw [ok.sc]; exact hv) hd hcd) ⟨v, e, hm F H g v Fr.refl s r⟩
theorem Ev.const {e : Expr} {v : V} {ρ : α → Rp} {a : α} (h : ∀ X : Cx, PE X e (tC v)) (r : ∀ F, (ρ a).p F v) : Ev C Γ e ρ (pure a) :=
  fun X Wx ok tk F H g σ s Q hm => WE.of (h X) (hm F H g v Fr.refl s (r F))
theorem Ev.int {i : Int} {j pos} : Ev C Γ (.Constant (.int i) j pos) rI (pure i) := Ev.const (fun _ => pe_int) fun _ => rfl
theorem Ev.bool {b : Bool} {j pos} : Ev C Γ (.Constant (.bool b) j pos) rB (pure b) := Ev.const (fun _ => pe_bl) fun _ => rfl
theorem Ev.str {x : Str} {j pos} : Ev C Γ (.Constant (.str x) j pos) rS (pure x) := Ev.const (fun _ => pe_str) fun _ => rfl
theorem Ev.none {r : α → Rp} {j pos} : Ev C Γ (.Constant .none j pos) (rO r) (pure (none : Option α)) := Ev.const (fun _ => pe_non) fun _ => rfl
theorem Ev.unit {j pos} : Ev C Γ (.Constant .none j pos) rU (pure ()) := Ev.const (fun _ => pe_non) fun _ => rfl
/-- a constant of the module's -/
theorem Ev.glob {x : Str} {pos : Pos} {ρ : α → Rp} {a : α} {v : V} {u : Value} (hg : C.sc.names.lookup x = some .globalImplicit) (hm : C.mg x = some u) (r : RelV v u) (h : ∀ F, (ρ a).p F v)
    (hd : (x == ("__debug__" : Str)) = false := by decide) : Ev C Γ (.Name x pos) ρ (pure a) :=
  fun X Wx ok tk F H g σ s Q hw => WE.of (pe_glob (v := v) (u := u) (show X.env.scope.names.lookup x = _ by rw [ok.sc]; exact hg) (by rw [ok.mg]; exact hm) r hd) (hw F H g v Fr.refl s (h F))

/-! ### two parts, one part -/
theorem Ev.bin {op : Operator} {a b : Expr} {pos : Pos} {ρa : α → Rp} {ρb : β → Rp} {ρc : γ → Rp} {ma : W α} {mb : W β} (k : α → β → W γ)
    (hop : ∀ X, C.Ok X → ∃ r, OpR X (binaryOp op) r ∧ ∀ x y H v w Q E, (ρa x).p H v → (ρb y).p H w → (k x y).wp (fun c => ∀ F u, (ρc c).p F u → Q u H) E → (∀ e, E e → True) → r v w H Q)
    (hs : ∀ x y P (E E' : Exn → Prop), (k x y).wp P E → (k x y).wp P E') (hp : ∀ c F u, (ρc c).p F u → ∀ F', (ρc c).p F' u) (ha : Ev C Γ a ρa ma) (hb : Ev C Γ b ρb mb) :
    Ev C Γ (.BinOp a op b pos) ρc (do let x ← ma; let y ← mb; k x y) :=
  fun X Wx ok tk F H g σ s Q hm => by
    obtain ⟨r, ho, hr⟩ := hop X ok
    refine WE.of (pe_op ho (pe_W (e := a)) (pe_W (e := b))) ?_
    refine ha X Wx ok tk F H g σ s _ (ma.mono (fun x hx F1 H1 g1 v f1 s1 r1 => ?_) (fun e he => he) hm)
    refine hb X Wx ok tk F1 H1 g1 σ s1 _ (mb.mono (fun y hy F2 H2 g2 w f2 s2 r2 => ?_) (fun e he => XEnd.later f1 he) hx)
    refine hr x y H2 v w Q (fun _ => True) ((ρa x).mono (f2.sF.trans s2.sF) r1) ((ρb y).mono s2.sF r2) ((k x y).mono (fun c hc F3 u h3 => ?_) (fun _ _ => trivial) (hs x y _ _ (fun _ => True) hy)) (fun _ _ => trivial)
    exact hc F2 H2 g2 u (f1.trans f2) s2 (hp c F3 u h3 F2)
theorem Ev.binI {op : Operator} {a b : Expr} {pos : Pos} {ma mb : W Int} (Cnd : Int → Int → Prop) (f : Int → Int → Int) (hop : ∀ X : Cx, OpR X (binaryOp op) (L2.rI Cnd fun i j => .int (f i j)))
    (ha : Ev C Γ a rI ma) (hb : Ev C Γ b rI mb) : Ev C Γ (.BinOp a op b pos) rI (do let x ← ma; let y ← mb; W.req (Cnd x y) (pure (f x y))) :=
  Ev.bin _ (fun X _ => ⟨_, hop X, fun x y H v w Q E hv hw hk _ => ⟨x, y, hv, hw, hk.1, hk.2 (fun _ => Option.none) _ rfl⟩⟩) (fun x y P E E' h => ⟨h.1, h.2⟩) (fun c F u h F' => h) ha hb
theorem Ev.binI0 {op : Operator} {a b : Expr} {pos : Pos} {ma mb : W Int} (f : Int → Int → Int) (hop : ∀ X : Cx, OpR X (binaryOp op) (rI0 fun i j => .int (f i j)))
    (ha : Ev C Γ a rI ma) (hb : Ev C Γ b rI mb) : Ev C Γ (.BinOp a op b pos) rI (do let x ← ma; let y ← mb; pure (f x y)) :=
  Ev.bin _ (fun X _ => ⟨_, hop X, fun x y H v w Q E hv hw hk _ => ⟨x, y, hv, hw, hk (fun _ => Option.none) _ rfl⟩⟩) (fun x y P E E' h => h) (fun c F u h F' => h) ha hb

theorem floordivN (X : Cx) : OpR X (binaryOp .FloorDiv) (L2.rI (fun _ j => j ≠ 0 ∧ j.natAbs.log2 < 9000) fun i j => .int (i.fdiv j)) := opI fun _ _ _ _ _ _ _ hc q => PyProof.Rows.floordiv_int hc.1 q (.inl (PyProof.noPylong_of_log2 hc.2))
end

/-- two factors of together less than 10 ^ 8 bits -/
def CMulB (i j : Int) : Prop := i.natAbs.log2 + j.natAbs.log2 < 100000000
theorem CMulB.ok {i j : Int} (h : CMulB i j) : IntMulOk i j := by
  have b : ∀ x : Int, Builtin.Int.intBits x ≤ x.natAbs.log2 + 1 := fun x => by
    unfold Builtin.Int.intBits
    split <;> omega
  have h1 := b i
  have h2 := b j
  have h3 : i.natAbs.log2 + j.natAbs.log2 < 100000000 := h
  have e : bitsLine = 134217728 := by decide
  intro z
  rw [Bool.and_eq_true] at z
  have z2 : decide (_ < _) = true := z.2
  have z3 := of_decide_eq_true z2
  rw [e] at z3
  omega
theorem op_mulB (X : Cx) : OpR X (binaryOp .Mult) (L2.rI CMulB fun i j => .int (i * j)) := L2.opI fun _ _ _ _ _ _ _ hc q => PyProof.Rows.mul_int q hc.ok
/-- the conditions of great ints -/
def mulI (x y : Int) : W Int := W.req (CMulB x y) (pure (x * y))
def divI (x y : Int) : W Int := W.req (y ≠ 0 ∧ y.natAbs.log2 < 9000) (pure (x.fdiv y))
def modI (x y : Int) : W Int := W.req (y ≠ 0) (pure (x.fmod y))
def powI (x y : Int) : W Int := W.req (CPow x y) (pure (x ^ y.toNat))
def shlI (x y : Int) : W Int := W.req (CPow x y) (pure (x * 2 ^ y.toNat))
def shrI (x y : Int) : W Int := W.req (0 ≤ y) (pure (x / 2 ^ y.toNat))

section
variable {C : Cc} {Γ : List Slot} {α β γ : Type} {a b : Expr} {pos : Pos} {ma mb : W Int} {x y : Int}
theorem Ev.add (ha : Ev C Γ a rI ma) (hb : Ev C Γ b rI mb) : Ev C Γ (.BinOp a .Add b pos) rI (do let x ← ma; let y ← mb; pure (x + y)) := Ev.binI0 (fun i j => i + j) (fun _ => op_add) ha hb
theorem Ev.addP (ha : Ev C Γ a rI (pure x)) (hb : Ev C Γ b rI (pure y)) : Ev C Γ (.BinOp a .Add b pos) rI (pure (x + y)) := Ev.add ha hb
theorem Ev.sub' (ha : Ev C Γ a rI ma) (hb : Ev C Γ b rI mb) : Ev C Γ (.BinOp a .Sub b pos) rI (do let x ← ma; let y ← mb; pure (x - y)) := Ev.binI0 (fun i j => i - j) (fun _ => op_sub) ha hb
theorem Ev.subP (ha : Ev C Γ a rI (pure x)) (hb : Ev C Γ b rI (pure y)) : Ev C Γ (.BinOp a .Sub b pos) rI (pure (x - y)) := Ev.sub' ha hb
theorem Ev.mul (ha : Ev C Γ a rI ma) (hb : Ev C Γ b rI mb) : Ev C Γ (.BinOp a .Mult b pos) rI (do let x ← ma; let y ← mb; mulI x y) := Ev.binI _ (fun i j => i * j) op_mulB ha hb
theorem Ev.mulP (ha : Ev C Γ a rI (pure x)) (hb : Ev C Γ b rI (pure y)) : Ev C Γ (.BinOp a .Mult b pos) rI (mulI x y) := Ev.mul ha hb
theorem Ev.div (ha : Ev C Γ a rI ma) (hb : Ev C Γ b rI mb) : Ev C Γ (.BinOp a .FloorDiv b pos) rI (do let x ← ma; let y ← mb; divI x y) := Ev.binI _ (fun i j => i.fdiv j) (fun X => floordivN X) ha hb
theorem Ev.divP (ha : Ev C Γ a rI (pure x)) (hb : Ev C Γ b rI (pure y)) : Ev C Γ (.BinOp a .FloorDiv b pos) rI (divI x y) := Ev.div ha hb
theorem Ev.mod (ha : Ev C Γ a rI ma) (hb : Ev C Γ b rI mb) : Ev C Γ (.BinOp a .Mod b pos) rI (do let x ← ma; let y ← mb; modI x y) := Ev.binI _ (fun i j => i.fmod j) (fun _ => op_modN) ha hb
theorem Ev.modP (ha : Ev C Γ a rI (pure x)) (hb : Ev C Γ b rI (pure y)) : Ev C Γ (.BinOp a .Mod b pos) rI (modI x y) := Ev.mod ha hb
theorem Ev.pow (ha : Ev C Γ a rI ma) (hb : Ev C Γ b rI mb) : Ev C Γ (.BinOp a .Pow b pos) rI (do let x ← ma; let y ← mb; powI x y) := Ev.binI _ (fun i j => i ^ j.toNat) (fun _ => op_pow) ha hb
theorem Ev.powP (ha : Ev C Γ a rI (pure x)) (hb : Ev C Γ b rI (pure y)) : Ev C Γ (.BinOp a .Pow b pos) rI (powI x y) := Ev.pow ha hb
/-- a power of written numbers -/
theorem Ev.powW (z : Int) (ha : Ev C Γ a rI (pure x)) (hb : Ev C Γ b rI (pure y)) (h : CPow x y) (e : x ^ y.toNat = z) : Ev C Γ (.BinOp a .Pow b pos) rI (pure z) :=
  fun X Wx ok tk F H g σ s Q hm => Ev.powP (pos := pos) ha hb X Wx ok tk F H g σ s Q ⟨h, by show ∀ F' H' g' v, _; rw [e]; exact hm⟩
theorem Ev.shl (ha : Ev C Γ a rI ma) (hb : Ev C Γ b rI mb) : Ev C Γ (.BinOp a .LShift b pos) rI (do let x ← ma; let y ← mb; shlI x y) := Ev.binI _ (fun i j => i * 2 ^ j.toNat) (fun _ => op_shl) ha hb
theorem Ev.shr (ha : Ev C Γ a rI ma) (hb : Ev C Γ b rI mb) : Ev C Γ (.BinOp a .RShift b pos) rI (do let x ← ma; let y ← mb; shrI x y) := Ev.binI _ (fun i j => i / 2 ^ j.toNat) (fun _ => op_shr) ha hb
theorem Ev.band (ha : Ev C Γ a rI ma) (hb : Ev C Γ b rI mb) : Ev C Γ (.BinOp a .BitAnd b pos) rI (do let x ← ma; let y ← mb; pure (Builtin.bitAnd x y)) := Ev.binI0 (fun i j => Builtin.bitAnd i j) (fun _ => op_and) ha hb
theorem Ev.bor (ha : Ev C Γ a rI ma) (hb : Ev C Γ b rI mb) : Ev C Γ (.BinOp a .BitOr b pos) rI (do let x ← ma; let y ← mb; pure (Builtin.bitOr x y)) := Ev.binI0 (fun i j => Builtin.bitOr i j) (fun _ => op_or) ha hb
theorem Ev.bandP (ha : Ev C Γ a rI (pure x)) (hb : Ev C Γ b rI (pure y)) : Ev C Γ (.BinOp a .BitAnd b pos) rI (pure (Builtin.bitAnd x y)) := Ev.band ha hb
theorem Ev.borP (ha : Ev C Γ a rI (pure x)) (hb : Ev C Γ b rI (pure y)) : Ev C Γ (.BinOp a .BitOr b pos) rI (pure (Builtin.bitOr x y)) := Ev.bor ha hb
theorem Ev.shlP (ha : Ev C Γ a rI (pure x)) (hb : Ev C Γ b rI (pure y)) : Ev C Γ (.BinOp a .LShift b pos) rI (shlI x y) := Ev.shl ha hb
theorem Ev.shrP (ha : Ev C Γ a rI (pure x)) (hb : Ev C Γ b rI (pure y)) : Ev C Γ (.BinOp a .RShift b pos) rI (shrI x y) := Ev.shr ha hb
/-- texts -/
def catS (x y : Str) : W Str := W.req (x.length + y.length ≤ sizeLine) (pure (x ++ y))
theorem Ev.cat {ma mb : W Str} (ha : Ev C Γ a rS ma) (hb : Ev C Γ b rS mb) : Ev C Γ (.BinOp a .Add b pos) rS (do let x ← ma; let y ← mb; catS x y) :=
  Ev.bin _ (fun X _ => ⟨_, op_add_str, fun x y H v w Q E hv hw hk _ => ⟨x, y, hv, hw, hk.1, hk.2 (fun _ => Option.none) _ rfl⟩⟩) (fun x y P E E' h => ⟨h.1, h.2⟩) (fun c F u h F' => h) ha hb
theorem Ev.catP {x y : Str} (ha : Ev C Γ a rS (pure x)) (hb : Ev C Γ b rS (pure y)) : Ev C Γ (.BinOp a .Add b pos) rS (catS x y) := Ev.cat ha hb
theorem Ev.neg (ha : Ev C Γ a rI ma) : Ev C Γ (.UnaryOp .USub a pos) rI (do let x ← ma; pure (-x)) :=
  fun X Wx ok tk F H g σ s Q hm => by
    refine WE.of (pe_un un_neg (pe_W (e := a))) ?_
    exact ha X Wx ok tk F H g σ s _ (ma.mono (fun x hx F1 H1 g1 v f1 s1 r1 => ⟨x, r1, hx F1 H1 g1 _ f1 s1 rfl⟩) (fun e he => he) hm)
theorem Ev.negP (ha : Ev C Γ a rI (pure x)) : Ev C Γ (.UnaryOp .USub a pos) rI (pure (-x)) := Ev.neg ha

/-! ### comparisons -/
theorem Ev.cmp {op : CmpOp} {ρa : α → Rp} {ρb : β → Rp} {ma : W α} {mb : W β} (k : α → β → Bool)
    (hop : ∀ X, C.Ok X → ∃ r, OpR X (compareOp op) r ∧ ∀ x y H v w Q, (ρa x).p H v → (ρb y).p H w → Q (.bl (k x y)) H → r v w H Q) (hk : behindInMarks op b = false)
    (ha : Ev C Γ a ρa ma) (hb : Ev C Γ b ρb mb) : Ev C Γ (.Compare a [op] [b] pos) rB (do let x ← ma; let y ← mb; pure (k x y)) :=
  fun X Wx ok tk F H g σ s Q hm => by
    obtain ⟨r, ho, hr⟩ := hop X ok
    refine WE.of (pe_cmpR ho (pe_W (e := a)) (pe_W (e := b)) hk) ?_
    refine ha X Wx ok tk F H g σ s _ (ma.mono (fun x hx F1 H1 g1 v f1 s1 r1 => ?_) (fun e he => he) hm)
    refine hb X Wx ok tk F1 H1 g1 σ s1 _ (mb.mono (fun y hy F2 H2 g2 w f2 s2 r2 => ?_) (fun e he => XEnd.later f1 he) hx)
    exact hr x y H2 v w Q ((ρa x).mono (f2.sF.trans s2.sF) r1) ((ρb y).mono s2.sF r2) (hy F2 H2 g2 _ (f1.trans f2) s2 rfl)
theorem Ev.cmpI {op : CmpOp} (k : Int → Int → Bool) (hop : ∀ X : Cx, OpR X (compareOp op) (rI0 fun i j => .bl (k i j))) (hk : behindInMarks op b = false)
    (ha : Ev C Γ a rI ma) (hb : Ev C Γ b rI mb) : Ev C Γ (.Compare a [op] [b] pos) rB (do let x ← ma; let y ← mb; pure (k x y)) :=
  Ev.cmp k (fun X _ => ⟨_, hop X, fun x y H v w Q hv hw q => ⟨x, y, hv, hw, q⟩⟩) hk ha hb
theorem Ev.lt (ha : Ev C Γ a rI ma) (hb : Ev C Γ b rI mb) : Ev C Γ (.Compare a [.Lt] [b] pos) rB (do let x ← ma; let y ← mb; pure (decide (x < y))) := Ev.cmpI (fun i j => decide (i < j)) (fun _ => op_lt) (nomark _) ha hb
theorem Ev.le (ha : Ev C Γ a rI ma) (hb : Ev C Γ b rI mb) : Ev C Γ (.Compare a [.LtE] [b] pos) rB (do let x ← ma; let y ← mb; pure (decide (x ≤ y))) := Ev.cmpI (fun i j => decide (i ≤ j)) (fun _ => op_le) (nomark _) ha hb
theorem Ev.gt (ha : Ev C Γ a rI ma) (hb : Ev C Γ b rI mb) : Ev C Γ (.Compare a [.Gt] [b] pos) rB (do let x ← ma; let y ← mb; pure (decide (y < x))) := Ev.cmpI (fun i j => decide (j < i)) (fun _ => op_gt) (nomark _) ha hb
theorem Ev.ge (ha : Ev C Γ a rI ma) (hb : Ev C Γ b rI mb) : Ev C Γ (.Compare a [.GtE] [b] pos) rB (do let x ← ma; let y ← mb; pure (decide (y ≤ x))) := Ev.cmpI (fun i j => decide (j ≤ i)) (fun _ => op_ge) (nomark _) ha hb
theorem Ev.ltP (ha : Ev C Γ a rI (pure x)) (hb : Ev C Γ b rI (pure y)) : Ev C Γ (.Compare a [.Lt] [b] pos) rB (pure (decide (x < y))) := Ev.lt ha hb
theorem Ev.leP (ha : Ev C Γ a rI (pure x)) (hb : Ev C Γ b rI (pure y)) : Ev C Γ (.Compare a [.LtE] [b] pos) rB (pure (decide (x ≤ y))) := Ev.le ha hb
theorem Ev.gtP (ha : Ev C Γ a rI (pure x)) (hb : Ev C Γ b rI (pure y)) : Ev C Γ (.Compare a [.Gt] [b] pos) rB (pure (decide (y < x))) := Ev.gt ha hb
theorem Ev.geP (ha : Ev C Γ a rI (pure x)) (hb : Ev C Γ b rI (pure y)) : Ev C Γ (.Compare a [.GtE] [b] pos) rB (pure (decide (y ≤ x))) := Ev.ge ha hb
end

end Y

/-! Y3: data and == -/
namespace Y
open PySem PySem.Spec L2
class DatE {α : Type} (K : PySem.W.Frag) (r : α → Rp) where
  enc : α → PyData
  dep : Nat
  ok : α → Prop
  dp : ∀ {x : α} {F : Hp} {v : V}, (r x).p F v → Dp K F v (enc x)
  can : ∀ x, ok x → (enc x).canLay0 = true
  deps : ∀ x, (enc x).depth ≤ dep
  dec : ∀ x y, PyData.eqv (enc x) (enc y) = true ↔ x = y
section
variable {K : PySem.W.Frag} {α β γ : Type}
instance : DatE K rI := ⟨.int, 0, fun _ => True, fun {x F v} h => by have e : v = .int x := h; subst e; exact .int x, fun _ _ => rfl, fun _ => Nat.le_refl _, fun x y => by simp [PyData.eqv]⟩
instance : DatE K rB := ⟨.bool, 0, fun _ => True, fun {x F v} h => by have e : v = .bl x := h; subst e; exact .bl x, fun _ _ => rfl, fun _ => Nat.le_refl _, fun x y => by simp [PyData.eqv]⟩
instance : DatE K rS := ⟨.str, 0, fun x => PyData.strOk x = true, fun {x F v} h => by have e : v = .str x := h; subst e; exact .str x, fun _ h => h, fun _ => Nat.le_refl _, fun x y => by simp [PyData.eqv]⟩
theorem dpAll_of {r : α → Rp} (I : DatE K r) {F : Hp} : ∀ {vs : List V} {xs : List α}, All2 (fun u x => (r x).p F u) vs xs → DpAll K F vs (xs.map I.enc)
  | _, _, .nil => .nil
  | _, _, .cons h t => .cons (I.dp h) (dpAll_of I t)
theorem canAll_of {e : α → PyData} {ok : α → Prop} (h : ∀ x, ok x → (e x).canLay0 = true) : ∀ xs : List α, (∀ x ∈ xs, ok x) → PyData.canLayAll0 (xs.map e) = true
  | [], _ => rfl
  | x :: xs, hx => by simp [PyData.canLayAll0, h x (hx x List.mem_cons_self), canAll_of h xs fun y hy => hx y (List.mem_cons_of_mem _ hy)]
theorem depAll_of {e : α → PyData} {n : Nat} (h : ∀ x, (e x).depth ≤ n) : ∀ xs : List α, PyData.depthAll (xs.map e) ≤ n + 1
  | [] => by simp [PyData.depthAll]
  | x :: xs => by
    have := depAll_of h xs
    have := h x
    simp only [List.map_cons, PyData.depthAll]
    omega
theorem decAll_of {e : α → PyData} (h : ∀ x y, PyData.eqv (e x) (e y) = true ↔ x = y) : ∀ xs ys : List α, PyData.eqvAll (xs.map e) (ys.map e) = true ↔ xs = ys
  | [], [] => by simp [PyData.eqvAll]
  | [], _ :: _ => by simp [PyData.eqvAll]
  | _ :: _, [] => by simp [PyData.eqvAll]
  | x :: xs, y :: ys => by simp [PyData.eqvAll, h x y, decAll_of h xs ys]
@[reducible] def datL (r : α → Rp) (I : DatE K r) (r' : List α → Rp) (h : ∀ {xs : List α} {F : Hp} {v : V}, (r' xs).p F v → ∃ a vs, v = .ref a ∧ SqL K F a vs ∧ All2 (fun u x => (r x).p F u) vs xs) : DatE K r' where
  enc := fun xs => .list (xs.map I.enc)
  dep := I.dep + 2
  ok := fun xs => ∀ x ∈ xs, I.ok x
  dp := fun hp => by
    obtain ⟨a, vs, e, q, t⟩ := h hp
    subst e
    exact .lst q (dpAll_of I t)
  can := fun xs h => by
    rw [PyData.canLay0]
    exact canAll_of I.can xs h
  deps := fun xs => by
    have := depAll_of I.deps xs
    simp only [PyData.depth]
    omega
  dec := fun xs ys => by
    rw [PyData.eqv]
    exact decAll_of I.dec xs ys
instance {r : α → Rp} [I : DatE K r] : DatE K (rL K r) := datL r I (rL K r) fun h => h
instance {N : Addr → Prop} {r : α → Rp} [I : DatE K r] : DatE K (rN N r) := datL r I (rN N r) fun h => rN_rL h
instance {r1 : α → Rp} {r2 : β → Rp} [I : DatE K r1] [J : DatE K r2] : DatE K (rT2 K r1 r2) where
  enc := fun x => .tuple [I.enc x.1, J.enc x.2]
  dep := I.dep + J.dep + 3
  ok := fun x => I.ok x.1 ∧ J.ok x.2
  dp := fun ⟨a, v1, v2, e, q, t1, t2⟩ => by subst e; exact .tup q (.cons (I.dp t1) (.cons (J.dp t2) .nil))
  can := fun x h => by simp [PyData.canLay0, PyData.canLayAll0, I.can _ h.1, J.can _ h.2]
  deps := fun x => by
    have := I.deps x.1
    have := J.deps x.2
    simp only [PyData.depth, PyData.depthAll]
    omega
  dec := fun x y => by
    obtain ⟨x1, x2⟩ := x
    obtain ⟨y1, y2⟩ := y
    simp [PyData.eqv, PyData.eqvAll, I.dec, J.dec]
instance {r1 : α → Rp} {r2 : β → Rp} {r3 : γ → Rp} [I : DatE K r1] [J : DatE K r2] [L : DatE K r3] : DatE K (rT3 K r1 r2 r3) where
  enc := fun x => .tuple [I.enc x.1, J.enc x.2.1, L.enc x.2.2]
  dep := I.dep + J.dep + L.dep + 3
  ok := fun x => I.ok x.1 ∧ J.ok x.2.1 ∧ L.ok x.2.2
  dp := fun ⟨a, v1, v2, v3, e, q, t1, t2, t3⟩ => by subst e; exact .tup q (.cons (I.dp t1) (.cons (J.dp t2) (.cons (L.dp t3) .nil)))
  can := fun x h => by simp [PyData.canLay0, PyData.canLayAll0, I.can _ h.1, J.can _ h.2.1, L.can _ h.2.2]
  deps := fun x => by
    have := I.deps x.1
    have := J.deps x.2.1
    have := L.deps x.2.2
    simp only [PyData.depth, PyData.depthAll]
    omega
  dec := fun x y => by
    obtain ⟨x1, x2, x3⟩ := x
    obtain ⟨y1, y2, y3⟩ := y
    simp [PyData.eqv, PyData.eqvAll, I.dec, J.dec, L.dec]
/-- no strings within: always comparable -/
class DatT {α : Type} (K : PySem.W.Frag) (r : α → Rp) [I : DatE K r] : Prop where
  all : ∀ x, I.ok x
instance : DatT K rI := ⟨fun _ => trivial⟩
instance : DatT K rB := ⟨fun _ => trivial⟩
instance {r : α → Rp} [I : DatE K r] [J : DatT K r] : DatT K (rL K r) := ⟨fun _ x _ => J.all x⟩
instance {N : Addr → Prop} {r : α → Rp} [I : DatE K r] [J : DatT K r] : DatT K (rN N r) := ⟨fun _ x _ => J.all x⟩
instance {r1 : α → Rp} {r2 : β → Rp} [I : DatE K r1] [J : DatE K r2] [I' : DatT K r1] [J' : DatT K r2] : DatT K (rT2 K r1 r2) := ⟨fun x => ⟨I'.all x.1, J'.all x.2⟩⟩
instance {r1 : α → Rp} {r2 : β → Rp} {r3 : γ → Rp} [I : DatE K r1] [J : DatE K r2] [L : DatE K r3] [I' : DatT K r1] [J' : DatT K r2] [L' : DatT K r3] : DatT K (rT3 K r1 r2 r3) := ⟨fun x => ⟨I'.all x.1, J'.all x.2.1, L'.all x.2.2⟩⟩
end
theorem eqv_dec {K : PySem.W.Frag} {α : Type} [DecidableEq α] {r : α → Rp} (I : DatE K r) (x y : α) : PyData.eqv (I.enc x) (I.enc y) = decide (x = y) := by
  by_cases h : x = y
  · rw [decide_eq_true h]; exact (I.dec x y).mpr h
  · rw [decide_eq_false h]
    cases e : PyData.eqv (I.enc x) (I.enc y) with
    | false => rfl
    | true => exact absurd ((I.dec x y).mp e) h
theorem shaped_of {K : PySem.W.Frag} {α : Type} {r : α → Rp} (I : DatE K r) (hd : I.dep ≤ 64) {x : α} (h : I.ok x) : SeqAt.shaped (I.enc x) = true := by
  unfold SeqAt.shaped
  rw [I.can x h, decide_eq_true (Nat.le_trans (I.deps x) hd)]
  rfl
def eqW {α : Type} [DecidableEq α] (ok : α → Prop) (x y : α) : W Bool := W.req (ok x ∧ ok y) (pure (decide (x = y)))
def neW {α : Type} [DecidableEq α] (ok : α → Prop) (x y : α) : W Bool := W.req (ok x ∧ ok y) (pure (!decide (x = y)))
section
variable {C : Cc} {Γ : List Slot} {α : Type} {a b : Expr} {pos : Pos} {ma mb : W α} {x y : α}
theorem Ev.cmpW {op : CmpOp} {β γ : Type} {ρa : β → Rp} {ρb : γ → Rp} {ma : W β} {mb : W γ} (k : β → γ → W Bool)
    (hop : ∀ X, C.Ok X → ∃ r, OpR X (compareOp op) r ∧ ∀ x y H v w Q E, (ρa x).p H v → (ρb y).p H w → (k x y).wp (fun c => Q (.bl c) H) E → r v w H Q) (hs : ∀ x y P (E E' : Exn → Prop), (k x y).wp P E → (k x y).wp P E') (hk : behindInMarks op b = false)
    (ha : Ev C Γ a ρa ma) (hb : Ev C Γ b ρb mb) : Ev C Γ (.Compare a [op] [b] pos) rB (do let x ← ma; let y ← mb; k x y) :=
  fun X Wx ok tk F H g σ s Q hm => by
    obtain ⟨r, ho, hr⟩ := hop X ok
    refine WE.of (pe_cmpR ho (pe_W (e := a)) (pe_W (e := b)) hk) ?_
    refine ha X Wx ok tk F H g σ s _ (ma.mono (fun x hx F1 H1 g1 v f1 s1 r1 => ?_) (fun e he => he) hm)
    refine hb X Wx ok tk F1 H1 g1 σ s1 _ (mb.mono (fun y hy F2 H2 g2 w f2 s2 r2 => ?_) (fun e he => XEnd.later f1 he) hx)
    refine hr x y H2 v w Q (fun _ => True) ((ρa x).mono (f2.sF.trans s2.sF) r1) ((ρb y).mono s2.sF r2) ?_
    exact hs x y _ _ (fun _ => True) ((k x y).mono (fun c hc => hc F2 H2 g2 _ (f1.trans f2) s2 rfl) (fun _ h => h) hy)
/-- == of data of one kind (perhaps of unlike lists' kinds) -/
theorem Ev.eq {ρa ρb : α → Rp} [I : DatE C.K ρa] [J : DatE C.K ρb] [DecidableEq α] (he : I.enc = J.enc) (hda : I.dep ≤ 64) (hdb : J.dep ≤ 64) (ho : I.ok = J.ok) (ha : Ev C Γ a ρa ma) (hb : Ev C Γ b ρb mb) :
    Ev C Γ (.Compare a [.Eq] [b] pos) rB (do let x ← ma; let y ← mb; eqW I.ok x y) :=
  Ev.cmpW _ (fun X ok => ⟨_, op_eqD ok.units, fun x y H v w Q E hv hw h => ⟨I.enc x, J.enc y, by rw [ok.K]; exact I.dp hv, by rw [ok.K]; exact J.dp hw, shaped_of I hda h.1.1, shaped_of J hdb (by rw [← ho]; exact h.1.2), by rw [← he, eqv_dec I]; exact h.2⟩⟩)
    (fun x y P E E' h => h) (nomark _) ha hb
theorem Ev.ne {ρa ρb : α → Rp} [I : DatE C.K ρa] [J : DatE C.K ρb] [DecidableEq α] (he : I.enc = J.enc) (hda : I.dep ≤ 64) (hdb : J.dep ≤ 64) (ho : I.ok = J.ok) (ha : Ev C Γ a ρa ma) (hb : Ev C Γ b ρb mb) :
    Ev C Γ (.Compare a [.NotEq] [b] pos) rB (do let x ← ma; let y ← mb; neW I.ok x y) :=
  Ev.cmpW _ (fun X ok => ⟨_, op_neD ok.units, fun x y H v w Q E hv hw h => ⟨I.enc x, J.enc y, by rw [ok.K]; exact I.dp hv, by rw [ok.K]; exact J.dp hw, shaped_of I hda h.1.1, shaped_of J hdb (by rw [← ho]; exact h.1.2), by rw [← he, eqv_dec I]; exact h.2⟩⟩)
    (fun x y P E E' h => h) (nomark _) ha hb
/-- .. without texts -/
theorem Ev.eqT {ρa ρb : α → Rp} [I : DatE C.K ρa] [J : DatE C.K ρb] [T : DatT C.K ρa] [DecidableEq α] (he : I.enc = J.enc) (hda : I.dep ≤ 64) (hdb : J.dep ≤ 64) (ho : I.ok = J.ok) (ha : Ev C Γ a ρa ma) (hb : Ev C Γ b ρb mb) :
    Ev C Γ (.Compare a [.Eq] [b] pos) rB (do let x ← ma; let y ← mb; pure (decide (x = y))) :=
  fun X Wx ok tk F H g σ s Q hm => Ev.eq (pos := pos) he hda hdb ho ha hb X Wx ok tk F H g σ s Q (ma.mono (fun x h => mb.mono (fun y h => ⟨⟨T.all _, T.all _⟩, h⟩) (fun _ h => h) h) (fun _ h => h) hm)
theorem Ev.neT {ρa ρb : α → Rp} [I : DatE C.K ρa] [J : DatE C.K ρb] [T : DatT C.K ρa] [DecidableEq α] (he : I.enc = J.enc) (hda : I.dep ≤ 64) (hdb : J.dep ≤ 64) (ho : I.ok = J.ok) (ha : Ev C Γ a ρa ma) (hb : Ev C Γ b ρb mb) :
    Ev C Γ (.Compare a [.NotEq] [b] pos) rB (do let x ← ma; let y ← mb; pure (!decide (x = y))) :=
  fun X Wx ok tk F H g σ s Q hm => Ev.ne (pos := pos) he hda hdb ho ha hb X Wx ok tk F H g σ s Q (ma.mono (fun x h => mb.mono (fun y h => ⟨⟨T.all _, T.all _⟩, h⟩) (fun _ h => h) h) (fun _ h => h) hm)
/-- scalars: ints, bools, texts -/
theorem Ev.eqS {sc : α → V} {ρ : α → Rp} [DecidableEq α] (hρ : ∀ x F v, (ρ x).p F v → v = sc x) (hs : ∀ x y, scal (sc x) (sc y) = true) (hd : ∀ x y, decide (sc x = sc y) = decide (x = y)) (ha : Ev C Γ a ρ ma) (hb : Ev C Γ b ρ mb) :
    Ev C Γ (.Compare a [.Eq] [b] pos) rB (do let x ← ma; let y ← mb; pure (decide (x = y))) :=
  Ev.cmp _ (fun X ok => ⟨_, op_eq, fun x y H v w Q hv hw h => by rw [hρ _ _ _ hv, hρ _ _ _ hw]; exact ⟨hs x y, by rw [hd]; exact h⟩⟩) (nomark _) ha hb
theorem Ev.neS {sc : α → V} {ρ : α → Rp} [DecidableEq α] (hρ : ∀ x F v, (ρ x).p F v → v = sc x) (hs : ∀ x y, scal (sc x) (sc y) = true) (hd : ∀ x y, decide (sc x = sc y) = decide (x = y)) (ha : Ev C Γ a ρ ma) (hb : Ev C Γ b ρ mb) :
    Ev C Γ (.Compare a [.NotEq] [b] pos) rB (do let x ← ma; let y ← mb; pure (!decide (x = y))) :=
  Ev.cmp _ (fun X ok => ⟨_, op_ne, fun x y H v w Q hv hw h => by rw [hρ _ _ _ hv, hρ _ _ _ hw]; exact ⟨hs x y, by rw [hd]; exact h⟩⟩) (nomark _) ha hb
end
section
variable {C : Cc} {Γ : List Slot} {a b : Expr} {pos : Pos}
theorem Ev.eqI {ma mb : W Int} (ha : Ev C Γ a rI ma) (hb : Ev C Γ b rI mb) : Ev C Γ (.Compare a [.Eq] [b] pos) rB (do let x ← ma; let y ← mb; pure (decide (x = y))) := Ev.eqS (sc := .int) (fun _ _ _ h => h) (fun _ _ => rfl) (fun x y => by rw [dec_int]; exact Bool.beq_eq_decide_eq _ _) ha hb
theorem Ev.neI {ma mb : W Int} (ha : Ev C Γ a rI ma) (hb : Ev C Γ b rI mb) : Ev C Γ (.Compare a [.NotEq] [b] pos) rB (do let x ← ma; let y ← mb; pure (!decide (x = y))) := Ev.neS (sc := .int) (fun _ _ _ h => h) (fun _ _ => rfl) (fun x y => by rw [dec_int]; exact Bool.beq_eq_decide_eq _ _) ha hb
theorem Ev.eqIP {x y : Int} (ha : Ev C Γ a rI (pure x)) (hb : Ev C Γ b rI (pure y)) : Ev C Γ (.Compare a [.Eq] [b] pos) rB (pure (decide (x = y))) := Ev.eqI ha hb
theorem Ev.neIP {x y : Int} (ha : Ev C Γ a rI (pure x)) (hb : Ev C Γ b rI (pure y)) : Ev C Γ (.Compare a [.NotEq] [b] pos) rB (pure (!decide (x = y))) := Ev.neI ha hb
theorem Ev.eqB {ma mb : W Bool} (ha : Ev C Γ a rB ma) (hb : Ev C Γ b rB mb) : Ev C Γ (.Compare a [.Eq] [b] pos) rB (do let x ← ma; let y ← mb; pure (decide (x = y))) := Ev.eqS (sc := .bl) (fun _ _ _ h => h) (fun _ _ => rfl) (fun x y => by rw [dec_bl]; exact Bool.beq_eq_decide_eq _ _) ha hb
theorem Ev.neB {ma mb : W Bool} (ha : Ev C Γ a rB ma) (hb : Ev C Γ b rB mb) : Ev C Γ (.Compare a [.NotEq] [b] pos) rB (do let x ← ma; let y ← mb; pure (!decide (x = y))) := Ev.neS (sc := .bl) (fun _ _ _ h => h) (fun _ _ => rfl) (fun x y => by rw [dec_bl]; exact Bool.beq_eq_decide_eq _ _) ha hb
theorem Ev.eqStr {ma mb : W Str} (ha : Ev C Γ a rS ma) (hb : Ev C Γ b rS mb) : Ev C Γ (.Compare a [.Eq] [b] pos) rB (do let x ← ma; let y ← mb; pure (decide (x = y))) := Ev.eqS (sc := .str) (fun _ _ _ h => h) (fun _ _ => rfl) (fun x y => by simp) ha hb
theorem Ev.neStr {ma mb : W Str} (ha : Ev C Γ a rS ma) (hb : Ev C Γ b rS mb) : Ev C Γ (.Compare a [.NotEq] [b] pos) rB (do let x ← ma; let y ← mb; pure (!decide (x = y))) := Ev.neS (sc := .str) (fun _ _ _ h => h) (fun _ _ => rfl) (fun x y => by simp) ha hb
theorem Ev.isNone {α : Type} {r : α → Rp} {ma : W (Option α)} {j pos'} (hr : ∀ x F v, (r x).p F v → v ≠ .non) (ha : Ev C Γ a (rO r) ma) : Ev C Γ (.Compare a [.Is] [.Constant .none j pos'] pos) rB (do let x ← ma; pure x.isNone) :=
  fun X Wx ok tk F H g σ s Q hm => by
    refine WE.of (pe_cmp (pc_isN (pe_W (e := a)))) ?_
    refine ha X Wx ok tk F H g σ s _ (ma.mono (fun x hx F1 H1 g1 v f1 s1 r1 => ?_) (fun e he => he) hm)
    refine hx F1 H1 g1 _ f1 s1 ?_
    cases x with
    | none => have e : v = .non := r1; subst e; rfl
    | some x => show V.bl _ = V.bl _; rw [decide_eq_false (hr x F1 v r1)]; rfl
theorem Ev.notNone {α : Type} {r : α → Rp} {ma : W (Option α)} {j pos'} (hr : ∀ x F v, (r x).p F v → v ≠ .non) (ha : Ev C Γ a (rO r) ma) : Ev C Γ (.Compare a [.IsNot] [.Constant .none j pos'] pos) rB (do let x ← ma; pure x.isSome) :=
  fun X Wx ok tk F H g σ s Q hm => by
    refine WE.of (pe_cmp (pc_notN (pe_W (e := a)))) ?_
    refine ha X Wx ok tk F H g σ s _ (ma.mono (fun x hx F1 H1 g1 v f1 s1 r1 => ?_) (fun e he => he) hm)
    refine hx F1 H1 g1 _ f1 s1 ?_
    cases x with
    | none => have e : v = .non := r1; subst e; rfl
    | some x => show V.bl _ = V.bl _; rw [decide_eq_false (hr x F1 v r1)]; rfl

/-! ### truths -/
variable {ma mb : W Bool}
theorem Ev.not (ha : Ev C Γ a rB ma) : Ev C Γ (.UnaryOp .Not a pos) rB (do let x ← ma; pure (!x)) :=
  fun X Wx ok tk F H g σ s Q hm => by
    refine WE.of (pe_not (pe_W (e := a))) ?_
    exact ha X Wx ok tk F H g σ s _ (ma.mono (fun x hx F1 H1 g1 v f1 s1 r1 => ⟨x, r1, hx F1 H1 g1 _ f1 s1 rfl⟩) (fun e he => he) hm)
theorem Ev.one {op : BoolOp} (ha : Ev C Γ a rB ma) : Ev C Γ (.BoolOp op [a] pos) rB ma :=
  fun X Wx ok tk F H g σ s Q hm => WE.of (pe_one (pe_W (e := a))) (ha X Wx ok tk F H g σ s Q hm)
theorem Ev.and {rest : List Expr} (ha : Ev C Γ a rB ma) (hb : Ev C Γ (.BoolOp .And (b :: rest) pos) rB mb) : Ev C Γ (.BoolOp .And (a :: b :: rest) pos) rB (do let x ← ma; if x = true then mb else pure false) :=
  fun X Wx ok tk F H g σ s Q hm => by
    refine WE.of (pe_and (pe_W (e := a)) (pe_W (e := .BoolOp .And (b :: rest) pos))) ?_
    refine ha X Wx ok tk F H g σ s _ (ma.mono (fun x hx F1 H1 g1 v f1 s1 r1 => ⟨x, r1, ?_⟩) (fun e he => he) hm)
    cases x with
    | true =>
      rw [if_pos rfl]
      exact hb X Wx ok tk F1 H1 g1 σ s1 _ (mb.mono (fun y hy F2 H2 g2 v f2 s2 r2 => hy F2 H2 g2 v (f1.trans f2) s2 r2) (fun e he => XEnd.later f1 he) hx)
    | false => exact hx F1 H1 g1 _ f1 s1 rfl
theorem Ev.or {rest : List Expr} (ha : Ev C Γ a rB ma) (hb : Ev C Γ (.BoolOp .Or (b :: rest) pos) rB mb) : Ev C Γ (.BoolOp .Or (a :: b :: rest) pos) rB (do let x ← ma; if x = true then pure true else mb) :=
  fun X Wx ok tk F H g σ s Q hm => by
    refine WE.of (pe_or (pe_W (e := a)) (pe_W (e := .BoolOp .Or (b :: rest) pos))) ?_
    refine ha X Wx ok tk F H g σ s _ (ma.mono (fun x hx F1 H1 g1 v f1 s1 r1 => ⟨x, r1, ?_⟩) (fun e he => he) hm)
    cases x with
    | true => exact hx F1 H1 g1 _ f1 s1 rfl
    | false =>
      rw [if_neg Bool.false_ne_true]
      exact hb X Wx ok tk F1 H1 g1 σ s1 _ (mb.mono (fun y hy F2 H2 g2 v f2 s2 r2 => hy F2 H2 g2 v (f1.trans f2) s2 r2) (fun e he => XEnd.later f1 he) hx)

/-! ### tests -/
theorem EvT.val (ha : Ev C Γ a rB ma) (he : ∀ (X : Cx) whole, isTrue a X.env whole = (do let v ← whole; standAt a.pos; holding [v] (truthy v)) := by intro _ _; rfl) : EvT C Γ a ma :=
  fun X Wx ok tk F H g σ s Q hm => by
    refine WT.of (pt_val (pe_W (e := a)) (he X)) ?_
    exact ha X Wx ok tk F H g σ s _ (ma.mono (fun x hx F1 H1 g1 v f1 s1 r1 => ⟨x, r1, hx F1 H1 g1 f1 s1⟩) (fun e he => he) hm)
theorem EvT.not (ha : EvT C Γ a ma) : EvT C Γ (.UnaryOp .Not a pos) (do let x ← ma; pure (!x)) :=
  fun X Wx ok tk F H g σ s Q hm => by
    refine WT.of (pt_not (pt_W (e := a))) ?_
    exact ha X Wx ok tk F H g σ s _ (ma.mono (fun x hx F1 H1 g1 f1 s1 => hx F1 H1 g1 f1 s1) (fun e he => he) hm)
/-- a test whatever its whole is -/
def EvW (C : Cc) (Γ : List Slot) (e : Expr) (m : W Bool) : Prop :=
  ∀ (X : Cx) (Wx : WX), C.Ok X → Takes X Wx → ∀ (F H : Hp) (g : Nat → Hp) (σ : St), StOk C F H Γ σ g → ∀ Q : Bool → Hp → Prop,
    m.wp (fun a => ∀ F' H' g', Fr F H (dU g) F' H' (dU g') → StOk C F' H' Γ σ g' → Q a H') (XEnd C F H (dU g) Γ σ Wx) → WW X e σ H Q
theorem EvW.t (h : EvW C Γ a ma) : EvT C Γ a ma := fun X Wx ok tk F H g σ s Q hm => WT.of (PW.pt pw_W) (h X Wx ok tk F H g σ s Q hm)
theorem EvW.and1 (ha : EvT C Γ a ma) : EvW C Γ (.BoolOp .And [a] pos) ma := fun X Wx ok tk F H g σ s Q hm => WW.of (pw_and1 (pt_W (e := a))) (ha X Wx ok tk F H g σ s Q hm)
theorem EvW.or1 (ha : EvT C Γ a ma) : EvW C Γ (.BoolOp .Or [a] pos) ma := fun X Wx ok tk F H g σ s Q hm => WW.of (pw_or1 (pt_W (e := a))) (ha X Wx ok tk F H g σ s Q hm)
theorem EvW.and {rest : List Expr} (ha : EvT C Γ a ma) (hb : EvW C Γ (.BoolOp .And (b :: rest) pos) mb) : EvW C Γ (.BoolOp .And (a :: b :: rest) pos) (do let x ← ma; if x = true then mb else pure false) :=
  fun X Wx ok tk F H g σ s Q hm => by
    refine WW.of (pw_and (pt_W (e := a)) (pw_W (e := .BoolOp .And (b :: rest) pos))) ?_
    refine ha X Wx ok tk F H g σ s _ (ma.mono (fun x hx F1 H1 g1 f1 s1 => ?_) (fun e he => he) hm)
    cases x with
    | true =>
      rw [if_pos rfl]
      exact hb X Wx ok tk F1 H1 g1 σ s1 _ (mb.mono (fun y hy F2 H2 g2 f2 s2 => hy F2 H2 g2 (f1.trans f2) s2) (fun e he => XEnd.later f1 he) hx)
    | false => rw [if_neg Bool.false_ne_true]; exact hx F1 H1 g1 f1 s1
theorem EvW.or {rest : List Expr} (ha : EvT C Γ a ma) (hb : EvW C Γ (.BoolOp .Or (b :: rest) pos) mb) : EvW C Γ (.BoolOp .Or (a :: b :: rest) pos) (do let x ← ma; if x = true then pure true else mb) :=
  fun X Wx ok tk F H g σ s Q hm => by
    refine WW.of (pw_or (pt_W (e := a)) (pw_W (e := .BoolOp .Or (b :: rest) pos))) ?_
    refine ha X Wx ok tk F H g σ s _ (ma.mono (fun x hx F1 H1 g1 f1 s1 => ?_) (fun e he => he) hm)
    cases x with
    | true => rw [if_pos rfl]; exact hx F1 H1 g1 f1 s1
    | false =>
      rw [if_neg Bool.false_ne_true]
      exact hb X Wx ok tk F1 H1 g1 σ s1 _ (mb.mono (fun y hy F2 H2 g2 f2 s2 => hy F2 H2 g2 (f1.trans f2) s2) (fun e he => XEnd.later f1 he) hx)
theorem Ev.ifExp {α : Type} {c : Expr} {ρ : α → Rp} {mc : W Bool} {m1 m2 : W α} (hc : EvT C Γ c mc) (h1 : Ev C Γ a ρ m1) (h2 : Ev C Γ b ρ m2) : Ev C Γ (.IfExp c a b pos) ρ (do let x ← mc; if x = true then m1 else m2) :=
  fun X Wx ok tk F H g σ s Q hm => by
    refine WE.of (pe_ifExp (pt_W (e := c)) (pe_W (e := a)) (pe_W (e := b))) ?_
    refine hc X Wx ok tk F H g σ s _ (mc.mono (fun x hx F1 H1 g1 f1 s1 => ?_) (fun e he => he) hm)
    cases x with
    | true =>
      rw [if_pos rfl]
      exact h1 X Wx ok tk F1 H1 g1 σ s1 _ (m1.mono (fun y hy F2 H2 g2 v f2 s2 r2 => hy F2 H2 g2 v (f1.trans f2) s2 r2) (fun e he => XEnd.later f1 he) hx)
    | false =>
      rw [if_neg Bool.false_ne_true]
      exact h2 X Wx ok tk F1 H1 g1 σ s1 _ (m2.mono (fun y hy F2 H2 g2 v f2 s2 r2 => hy F2 H2 g2 v (f1.trans f2) s2 r2) (fun e he => XEnd.later f1 he) hx)
end
end Y

/-! Y4: places, slices, built-in calls, displays, calls of defs -/
namespace Y
open PySem PySem.Spec L2
section
variable {C : Cc} {Γ : List Slot} {α β γ δ ε : Type} {e e1 e2 e3 e4 a b : Expr} {pos p : Pos}

/-! ### places -/
def idx (xs : List α) (i : Int) : W α := match atI xs i with | some x => pure x | none => W.bad
theorem All2.atI {R : V → α → Prop} {vs : List V} {xs : List α} (h : All2 R vs xs) {i : Int} {x : α} (e : L2.atI xs i = some x) : ∃ v, L2.atI vs i = some v ∧ R v x := by
  unfold L2.atI at e ⊢
  rw [h.length]
  cases q : ixN xs.length i with
  | none => rw [q] at e; cases e
  | some j =>
    rw [q] at e
    exact h.get e
theorem Ev.ixL {r : α → Rp} {ma : W (List α)} {mb : W Int} (ha : Ev C Γ a (rL C.K r) ma) (hb : Ev C Γ b rI mb) (hp : PlainIx b := by intro _ _; rfl) : Ev C Γ (.Subscript a b pos) r (do let xs ← ma; let i ← mb; idx xs i) :=
  fun X Wx ok tk F H g σ s Q hm => by
    refine WE.of (pe_ix ix_list (pe_W (e := a)) (pe_W (e := b)) hp) ?_
    refine ha X Wx ok tk F H g σ s _ (ma.mono (fun xs hx F1 H1 g1 v f1 s1 r1 => ?_) (fun e he => he) hm)
    refine hb X Wx ok tk F1 H1 g1 σ s1 _ (mb.mono (fun i hi F2 H2 g2 w f2 s2 r2 => ?_) (fun e he => XEnd.later f1 he) hx)
    obtain ⟨q, vs, ev, hq, t⟩ := (rL C.K r xs).mono f2.sF r1
    replace hi : (idx xs i).wp _ _ := hi
    unfold idx at hi
    cases hx : L2.atI xs i with
    | none => rw [hx] at hi; exact hi.elim
    | some x =>
      rw [hx] at hi
      obtain ⟨u, hu, ru⟩ := t.atI hx
      exact ⟨q, vs, i, u, ev, r2, by rw [ok.K]; exact s2.sF.seq hq, hu, hi F2 H2 g2 u (f1.trans f2) s2 ru⟩
/-- a pair's places, a triple's -/
theorem Ev.ixT {ρ : α → Rp} {ρ' : β → Rp} {ma : W α} (f : α → β) (n : Nat) (hρ : ∀ x F v, (ρ x).p F v → ∃ q vs u, v = .ref q ∧ SqT C.K F q vs ∧ vs[n]? = some u ∧ (ρ' (f x)).p F u) {j : Nat} {p2 : Pos} (ha : Ev C Γ a ρ ma) :
    Ev C Γ (.Subscript a (.Constant (.int (n : Int)) j p2) pos) ρ' (do let x ← ma; pure (f x)) :=
  fun X Wx ok tk F H g σ s Q hm => by
    refine WE.of (pe_ix ix_tup (pe_W (e := a)) pe_int (fun _ _ => rfl)) ?_
    refine ha X Wx ok tk F H g σ s _ (ma.mono (fun x hx F1 H1 g1 v f1 s1 r1 => ?_) (fun e he => he) hm)
    obtain ⟨q, vs, u, ev, hq, hu, ru⟩ := hρ x F1 v r1
    exact ⟨q, vs, n, u, ev, rfl, by rw [ok.K]; exact Same.seqT s1.sF hq, atI_nat hu, hx F1 H1 g1 u f1 s1 ru⟩
theorem Ev.ixT2_0 {r1 : α → Rp} {r2 : β → Rp} {ma : W (α × β)} {j : Nat} {p2 : Pos} (ha : Ev C Γ a (rT2 C.K r1 r2) ma) : Ev C Γ (.Subscript a (.Constant (.int 0) j p2) pos) r1 (do let x ← ma; pure x.1) :=
  Ev.ixT (ρ := rT2 C.K r1 r2) (ρ' := r1) (·.1) 0 (fun x F v ⟨q, v1, v2, e, h, t1, t2⟩ => ⟨q, _, v1, e, h, rfl, t1⟩) ha
theorem Ev.ixT2_1 {r1 : α → Rp} {r2 : β → Rp} {ma : W (α × β)} {j : Nat} {p2 : Pos} (ha : Ev C Γ a (rT2 C.K r1 r2) ma) : Ev C Γ (.Subscript a (.Constant (.int 1) j p2) pos) r2 (do let x ← ma; pure x.2) :=
  Ev.ixT (ρ := rT2 C.K r1 r2) (ρ' := r2) (·.2) 1 (fun x F v ⟨q, v1, v2, e, h, t1, t2⟩ => ⟨q, _, v2, e, h, rfl, t2⟩) ha
theorem Ev.ixT3_0 {r1 : α → Rp} {r2 : β → Rp} {r3 : γ → Rp} {ma : W (α × β × γ)} {j : Nat} {p2 : Pos} (ha : Ev C Γ a (rT3 C.K r1 r2 r3) ma) : Ev C Γ (.Subscript a (.Constant (.int 0) j p2) pos) r1 (do let x ← ma; pure x.1) :=
  Ev.ixT (ρ := rT3 C.K r1 r2 r3) (ρ' := r1) (·.1) 0 (fun x F v ⟨q, v1, v2, v3, e, h, t1, t2, t3⟩ => ⟨q, _, v1, e, h, rfl, t1⟩) ha
theorem Ev.ixT3_1 {r1 : α → Rp} {r2 : β → Rp} {r3 : γ → Rp} {ma : W (α × β × γ)} {j : Nat} {p2 : Pos} (ha : Ev C Γ a (rT3 C.K r1 r2 r3) ma) : Ev C Γ (.Subscript a (.Constant (.int 1) j p2) pos) r2 (do let x ← ma; pure x.2.1) :=
  Ev.ixT (ρ := rT3 C.K r1 r2 r3) (ρ' := r2) (·.2.1) 1 (fun x F v ⟨q, v1, v2, v3, e, h, t1, t2, t3⟩ => ⟨q, _, v2, e, h, rfl, t2⟩) ha
theorem Ev.ixT3_2 {r1 : α → Rp} {r2 : β → Rp} {r3 : γ → Rp} {ma : W (α × β × γ)} {j : Nat} {p2 : Pos} (ha : Ev C Γ a (rT3 C.K r1 r2 r3) ma) : Ev C Γ (.Subscript a (.Constant (.int 2) j p2) pos) r3 (do let x ← ma; pure x.2.2) :=
  Ev.ixT (ρ := rT3 C.K r1 r2 r3) (ρ' := r3) (·.2.2) 2 (fun x F v ⟨q, v1, v2, v3, e, h, t1, t2, t3⟩ => ⟨q, _, v3, e, h, rfl, t3⟩) ha
/-- a text's sign -/
def idxS (z : Str) (i : Int) : W Str := W.req (z.length ≤ sizeLine) (match L2.atI z.cps.toList i with | some c => pure ⟨#[c]⟩ | none => W.bad)
theorem Ev.ixS {ma : W Str} {mb : W Int} (ha : Ev C Γ a rS ma) (hb : Ev C Γ b rI mb) (hp : PlainIx b := by intro _ _; rfl) : Ev C Γ (.Subscript a b pos) rS (do let z ← ma; let i ← mb; idxS z i) :=
  fun X Wx ok tk F H g σ s Q hm => by
    refine WE.of (pe_ix ix_str (pe_W (e := a)) (pe_W (e := b)) hp) ?_
    refine ha X Wx ok tk F H g σ s _ (ma.mono (fun xs hx F1 H1 g1 v f1 s1 r1 => ?_) (fun e he => he) hm)
    refine hb X Wx ok tk F1 H1 g1 σ s1 _ (mb.mono (fun i hi F2 H2 g2 w f2 s2 r2 => ?_) (fun e he => XEnd.later f1 he) hx)
    replace hi : (idxS xs i).wp _ _ := hi
    obtain ⟨hl, hi⟩ := hi
    cases hx : L2.atI xs.cps.toList i with
    | none => rw [hx] at hi; exact hi.elim
    | some c =>
      rw [hx] at hi
      exact ⟨xs, i, c, r1, r2, hl, hx, hi F2 H2 g2 _ (f1.trans f2) s2 rfl⟩

/-! ### slices -/
def EvP (C : Cc) (Γ : List Slot) (e : Option Expr) (m : W (Option Int)) : Prop :=
  ∀ (X : Cx) (Wx : WX), C.Ok X → Takes X Wx → ∀ (F H : Hp) (g : Nat → Hp) (σ : St), StOk C F H Γ σ g → ∃ t, PO X e t ∧ ∀ Q : Option Int → Hp → Prop,
    m.wp (fun a => ∀ F' H' g', Fr F H (dU g) F' H' (dU g') → StOk C F' H' Γ σ g' → Q a H') (XEnd C F H (dU g) Γ σ Wx) → t σ H Q
/-- a part of a slice; its reading holds at any state -/
def WP (X : Cx) (e : Option Expr) : TO := fun σ H Q => ∃ t, PO X e t ∧ t σ H Q
theorem po_W {X : Cx} {e : Option Expr} : PO X e (WP X e) := ⟨fun pins s σ H Q I h => by
  obtain ⟨t, ht, q⟩ := h
  exact ht.run pins s σ H Q I q⟩
theorem EvP.none : EvP C Γ none (pure (none : Option Int)) := fun X Wx ok tk F H g σ s => ⟨_, po_none, fun Q hm => hm F H g Fr.refl s⟩
theorem EvP.some {m : W Int} (h : Ev C Γ e rI m) : EvP C Γ (some e) (do let i ← m; pure (some i)) :=
  fun X Wx ok tk F H g σ s => ⟨_, po_some (pe_W (e := e)), fun Q hm => h X Wx ok tk F H g σ s _ (m.mono (fun i hi F1 H1 g1 v f1 s1 r1 => ⟨i, r1, hi F1 H1 g1 f1 s1⟩) (fun e he => he) hm)⟩
theorem EvP.someP {i : Int} (h : Ev C Γ e rI (pure i)) : EvP C Γ (Option.some e) (pure (Option.some i)) := EvP.some h
def cut (xs : List α) (lo hi : Option Int) : List α := (xs.drop (HT.sIx xs.length 0 lo)).take (HT.sIx xs.length xs.length hi - HT.sIx xs.length 0 lo)
theorem All2.cut {R : V → α → Prop} {vs : List V} {xs : List α} (h : All2 R vs xs) (lo hi : Option Int) : All2 R (cutV vs lo hi) (Y.cut xs lo hi) := by
  unfold cutV Y.cut
  rw [h.length]
  exact (h.drop _).take _
/-- a new list, as the asker's own -/
theorem new_own {O : Op} {F H : Hp} {g : Nat → Hp} {σ : St} {q : Addr} {o : HO} (s : StOk C F H Γ σ g) (hq : H q = Option.none) (hO : C.fr q → O.p F (one q o) (.ref q)) :
    Fr F H (dU g) F (upd H q o) (fun b => dU g b ∨ one q o b ≠ Option.none) ∧ StOk C F (upd H q o) Γ σ g ∧ Same (one q o) (upd H q o) ∧ Dis F (one q o) ∧ (∀ i, Dis (g i) (one q o)) ∧ (∀ b, one q o b ≠ Option.none → C.fr b) ∧ O.p F (one q o) (.ref q) := by
  have nq : ∀ b u, H b = Option.some u → b ≠ q := fun b u e z => by rw [z, hq] at e; cases e
  have on : ∀ b, one q o b ≠ Option.none → b = q := fun b h => by
    by_cases z : b = q
    · exact z
    · exact absurd (one_ne z) h
  refine ⟨⟨Same.refl _, fun b h => .inl h, fun b u e _ => by rw [upd_ne (nq b u e)]; exact e, fun b h => ?_, fun b h => ?_⟩, ⟨s.len, s.slot, fun b u e => by rw [upd_ne (nq b u (s.sF b u e))]; exact s.sF b u e, fun i b u e => by rw [upd_ne (nq b u (s.sG i b u e))]; exact s.sG i b u e, s.dF, s.dG, fun b h => ?_⟩, fun b u e => ?_, fun b => ?_, fun i b => ?_, fun b h => ?_, hO (s.fr q hq)⟩
  · by_cases z : b = q
    · rw [z, upd_same]; simp
    · rw [upd_ne z]; exact h
  · rcases h with h | h
    · exact .inl h
    · rw [on b h]; exact .inr hq
  · by_cases z : b = q
    · rw [z, upd_same] at h; cases h
    · rw [upd_ne z] at h; exact s.fr b h
  · by_cases z : b = q
    · subst z; rw [one_same] at e; rw [upd_same]; exact e
    · rw [one_ne z] at e; cases e
  · by_cases z : b = q
    · refine .inl ?_
      cases h : F b with
      | none => rfl
      | some u => exact absurd z (nq b u (s.sF b u h))
    · exact .inr (one_ne z)
  · by_cases z : b = q
    · refine .inl ?_
      cases h : g i b with
      | none => rfl
      | some u => exact absurd z (nq b u (s.sG i b u h))
    · exact .inr (one_ne z)
  · rw [on b h]; exact s.fr q hq
/-- the end of an EvO at a new list -/
theorem EvO.fin {F0 H0 : Hp} {g0 : Nat → Hp} {F H : Hp} {g : Nat → Hp} {σ : St} {q : Addr} {o : HO} {O : Op} {Q : VK} (f : Fr F0 H0 (dU g0) F H (dU g)) (s : StOk C F H Γ σ g) (hq : H q = Option.none) (hO : C.fr q → O.p F (one q o) (.ref q))
    (h : ∀ F' H' g' G v, Fr F0 H0 (dU g0) F' H' (fun b => dU g' b ∨ G b ≠ Option.none) → StOk C F' H' Γ σ g' → Same G H' → Dis F' G → (∀ i, Dis (g' i) G) → (∀ b, G b ≠ Option.none → C.fr b) → O.p F' G v → Q v H') : Q (.ref q) (upd H q o) := by
  obtain ⟨f2, s2, h3, h4, h5, h6, h7⟩ := new_own s hq hO
  exact h F (upd H q o) g (one q o) (.ref q) (f.trans f2) s2 h3 h4 h5 h6 h7
theorem EvO.slice {r : α → Rp} {lo hi : Option Expr} {p2 : Pos} {ma : W (List α)} {ml mh : W (Option Int)} (ha : Ev C Γ a (rL C.K r) ma) (hl : EvP C Γ lo ml) (hh : EvP C Γ hi mh) :
    EvO C Γ (.Subscript a (.Slice lo hi Option.none p2) pos) (oL C.fr r) (do let xs ← ma; let i ← ml; let j ← mh; pure (cut xs i j)) :=
  fun X Wx ok tk F H g σ s Q hm => by
    refine WE.of (pe_slice sl_list (pe_W (e := a)) (po_W (e := lo)) (po_W (e := hi))) ?_
    refine ha X Wx ok tk F H g σ s _ (ma.mono (fun xs hx F1 H1 g1 v f1 s1 r1 => ?_) (fun e he => he) hm)
    obtain ⟨tl, pl, hl'⟩ := hl X Wx ok tk F1 H1 g1 σ s1
    refine ⟨tl, pl, hl' _ (ml.mono (fun i hi F2 H2 g2 f2 s2 => ?_) (fun e he => XEnd.later f1 he) hx)⟩
    obtain ⟨th, ph, hh'⟩ := hh X Wx ok tk F2 H2 g2 σ s2
    refine ⟨th, ph, hh' _ (mh.mono (fun j hj F3 H3 g3 f3 s3 => ?_) (fun e he => XEnd.later (f1.trans f2) he) hi)⟩
    obtain ⟨q, vs, ev, hq, t⟩ := (rL C.K r xs).mono (f2.sF.trans f3.sF) r1
    refine ⟨q, vs, ev, by rw [ok.K]; exact s3.sF.seq hq, fun pn hn => ?_⟩
    exact EvO.fin (O := oL C.fr r (Y.cut xs i j)) (f1.trans (f2.trans f3)) s3 hn (fun n => ⟨pn, _, rfl, n, rfl, t.cut i j⟩) hj
/-- texts -/
def cutW (z : Str) (lo hi : Option Int) : W Str := W.req (z.length ≤ sizeLine) (pure (cutS z lo hi))
theorem Ev.sliceS {lo hi : Option Expr} {p2 : Pos} {ma : W Str} {ml mh : W (Option Int)} (ha : Ev C Γ a rS ma) (hl : EvP C Γ lo ml) (hh : EvP C Γ hi mh) :
    Ev C Γ (.Subscript a (.Slice lo hi Option.none p2) pos) rS (do let xs ← ma; let i ← ml; let j ← mh; cutW xs i j) :=
  fun X Wx ok tk F H g σ s Q hm => by
    refine WE.of (pe_slice sl_str (pe_W (e := a)) (po_W (e := lo)) (po_W (e := hi))) ?_
    refine ha X Wx ok tk F H g σ s _ (ma.mono (fun xs hx F1 H1 g1 v f1 s1 r1 => ?_) (fun e he => he) hm)
    obtain ⟨tl, pl, hl'⟩ := hl X Wx ok tk F1 H1 g1 σ s1
    refine ⟨tl, pl, hl' _ (ml.mono (fun i hi F2 H2 g2 f2 s2 => ?_) (fun e he => XEnd.later f1 he) hx)⟩
    obtain ⟨th, ph, hh'⟩ := hh X Wx ok tk F2 H2 g2 σ s2
    refine ⟨th, ph, hh' _ (mh.mono (fun j hj F3 H3 g3 f3 s3 => ?_) (fun e he => XEnd.later (f1.trans f2) he) hi)⟩
    exact ⟨xs, r1, hj.1, hj.2 F3 H3 g3 _ (f1.trans (f2.trans f3)) s3 rfl⟩

/-! ### argument lists -/
def NoStar (e : Expr) : Prop := ∀ (es : List Expr) (env : Env), starEach (e :: es) env = (false, eval e env) :: starEach es env
def EvA (C : Cc) (Γ : List Slot) (es : List Expr) {τ : Type} (ρ : τ → List Rp) (m : W τ) : Prop :=
  (∀ (X : Cx) (pos : Pos), (backTo pos (starEach es X.env)).any (·.1) = false) ∧ ∀ (X : Cx) (Wx : WX), C.Ok X → Takes X Wx → ∀ (F H : Hp) (g : Nat → Hp) (σ : St), StOk C F H Γ σ g → ∀ Q : List V → Hp → Prop,
    m.wp (fun a => ∀ F' H' g' vs, Fr F H (dU g) F' H' (dU g') → StOk C F' H' Γ σ g' → All2 (fun v R => R.p F' v) vs (ρ a) → Q vs H') (XEnd C F H (dU g) Γ σ Wx) → WA X es σ H Q
theorem EvA.nil : EvA C Γ [] (fun _ : Unit => []) (pure ()) := ⟨fun _ _ => rfl, fun X Wx ok tk F H g σ s Q hm => WA.of pa_nil (hm F H g [] Fr.refl s .nil)⟩
theorem EvA.cons {es : List Expr} {τ : Type} {ρ : α → Rp} {ρs : τ → List Rp} {ma : W α} {mt : W τ} (ha : Ev C Γ e ρ ma) (ht : EvA C Γ es ρs mt) (hn : NoStar e) :
    EvA C Γ (e :: es) (fun x : α × τ => ρ x.1 :: ρs x.2) (do let a ← ma; let t ← mt; pure (a, t)) := by
  refine ⟨fun X pos => ?_, fun X Wx ok tk F H g σ s Q hm => ?_⟩
  · have h1 := ht.1 X pos
    rw [hn es X.env]
    unfold backTo at h1 ⊢
    simpa using h1
  · refine WA.of (pa_cons (pe_W (e := e)) (pa_W (es := es)) (hn es X.env)) ?_
    refine ha X Wx ok tk F H g σ s _ (ma.mono (fun x hx F1 H1 g1 v f1 s1 r1 => ?_) (fun e he => he) hm)
    refine ht.2 X Wx ok tk F1 H1 g1 σ s1 _ (mt.mono (fun t hy F2 H2 g2 vs f2 s2 r2 => ?_) (fun e he => XEnd.later f1 he) hx)
    exact hy F2 H2 g2 (v :: vs) (f1.trans f2) s2 (.cons ((ρ x).mono f2.sF r1) r2)

/-! ### built-in functions and types -/
/-- f is the built-in -/
structure Blt (C : Cc) (f : Str) (u : Value) : Prop where
  g : C.sc.names.lookup f = some .globalImplicit
  m : C.mg f = none
  v : bootBuiltins f = some u
  n : f ≠ "__name__"
  d : (f == ("__debug__" : Str)) = false
theorem Blt.gl {f : Str} {u : Value} (h : Blt C f u) {X : Cx} (ok : C.Ok X) : Gl X f := by show X.env.scope.names.lookup f = _; rw [ok.sc]; exact h.g
theorem Ev.callBA {es : List Expr} {τ : Type} {f : Str} {id : String} {ρs : τ → List Rp} {ρ : β → Rp} {mt : W τ} (k : τ → W β) (hb : Blt C f (.builtin id))
    (hc : ∀ X, C.Ok X → ∃ r, CallR X (.builtin id) r ∧ ∀ t H vs Q E, All2 (fun v R => R.p H v) vs (ρs t) → (k t).wp (fun y => ∀ u, (∀ F, Same H F → (ρ y).p F u) → Q u H) E → r vs H Q) (hs : ∀ x P (E E' : Exn → Prop), (k x).wp P E → (k x).wp P E')
    (hd : ∀ y F v, (ρ y).p F v → ∀ F', (ρ y).p F' v) (ha : EvA C Γ (e :: es) ρs mt) (hn : NoStar e) (hpl : EvA C Γ es (fun _ : Unit => []) (pure ()) ∨ ∀ (X : Cx) (pos : Pos), (backTo pos (starEach es X.env)).any (·.1) = false) :
    Ev C Γ (.Call (.Name f p) (e :: es) [] pos) ρ (do let t ← mt; k t) :=
  fun X Wx ok tk F H g σ s Q hm => by
    obtain ⟨r, hr, hk⟩ := hc X ok
    refine WE.of (pe_callB hr (hb.gl ok) (by rw [ok.mg]; exact hb.m) hb.v (pa_W (es := e :: es)) hb.n hb.d (hn es X.env) (by rcases hpl with h | h; exact h.1 X pos; exact h X pos)) ?_
    refine ha.2 X Wx ok tk F H g σ s _ (mt.mono (fun t ht F1 H1 g1 vs f1 s1 r1 => ?_) (fun e he => he) hm)
    refine hk t H1 vs Q (fun _ => True) (r1.imp fun v R z => R.mono s1.sF z) (hs _ _ _ (fun _ => True) ((k t).mono (fun y hy u hu => ?_) (fun _ h => h) ht))
    exact hy F1 H1 g1 u f1 s1 (hd y _ u (hu H1 (Same.refl _)) F1)
theorem noArgs : ∀ (X : Cx) (pos : Pos), (backTo pos (starEach [] X.env)).any (·.1) = false := fun _ _ => rfl
/-- of one argument, the answer a scalar -/
theorem Ev.callB1 {f : Str} {id : String} {ρa : α → Rp} {ρ : β → Rp} {ma : W α} (k : α → W β) (hb : Blt C f (.builtin id))
    (hc : ∀ X, C.Ok X → ∃ r, CallR X (.builtin id) r ∧ ∀ x H v Q E, (ρa x).p H v → (k x).wp (fun y => ∀ u, (∀ F, Same H F → (ρ y).p F u) → Q u H) E → r [v] H Q) (hs : ∀ x P (E E' : Exn → Prop), (k x).wp P E → (k x).wp P E')
    (hd : ∀ y F v, (ρ y).p F v → ∀ F', (ρ y).p F' v) (ha : Ev C Γ e ρa ma) (hn : NoStar e) : Ev C Γ (.Call (.Name f p) [e] [] pos) ρ (do let x ← ma; k x) :=
  Ev.callBA (ρs := fun x : α × Unit => [ρa x.1]) (mt := do let a ← ma; let t ← pure (); pure (a, t)) (fun t => k t.1) hb
    (fun X ok => by
      obtain ⟨r, hr, hk⟩ := hc X ok
      refine ⟨r, hr, fun t H vs Q E h w => ?_⟩
      cases h with
      | cons h h' =>
        cases h'
        exact hk t.1 H _ Q E h w) (fun x => hs x.1) hd (EvA.cons ha EvA.nil hn) hn (.inr noArgs)
def absI (x : Int) : Int := if x < 0 then -x else x
theorem Ev.abs {m : W Int} (hb : Blt C "abs" (.builtin "abs")) (ha : Ev C Γ e rI m) (hn : NoStar e) : Ev C Γ (.Call (.Name "abs" p) [e] [] pos) rI (do let x ← m; pure (absI x)) :=
  Ev.callB1 (fun x => pure (absI x)) hb (fun X ok => ⟨_, call_abs, fun x H v Q E hv h => ⟨x, by rw [show v = V.int x from hv], h _ fun _ _ => rfl⟩⟩) (fun _ _ _ _ h => h) (fun _ _ _ h _ => h) ha hn
theorem Ev.lenL {r : α → Rp} {m : W (List α)} (hb : Blt C "len" (.builtin "len")) (ha : Ev C Γ e (rL C.K r) m) (hn : NoStar e) : Ev C Γ (.Call (.Name "len" p) [e] [] pos) rI (do let x ← m; pure (x.length : Int)) :=
  Ev.callB1 (fun x => pure (x.length : Int)) hb (fun X ok => ⟨_, call_len_seq, fun x H v Q E hv h => by
    obtain ⟨q, vs, ev, hq, t⟩ := hv
    exact ⟨q, vs, by rw [ev], .inl (by rw [ok.K]; exact hq), h _ fun _ _ => by rw [t.length]; rfl⟩⟩) (fun _ _ _ _ h => h) (fun _ _ _ h _ => h) ha hn
def lenW (x : Str) : W Int := W.req (x.length ≤ sizeLine) (pure (x.length : Int))
theorem Ev.lenS {m : W Str} (hb : Blt C "len" (.builtin "len")) (ha : Ev C Γ e rS m) (hn : NoStar e) : Ev C Γ (.Call (.Name "len" p) [e] [] pos) rI (do let x ← m; lenW x) :=
  Ev.callB1 lenW hb (fun X ok => ⟨_, call_len_str, fun x H v Q E hv h => ⟨x, by rw [show v = V.str x from hv], h.1, h.2 _ fun _ _ => rfl⟩⟩) (fun _ _ _ _ h => ⟨h.1, h.2⟩) (fun _ _ _ h _ => h) ha hn
theorem All2.ints {F : Hp} {vs : List V} {xs : List Int} (t : All2 (fun u x => (rI x).p F u) vs xs) : vs = xs.map V.int := t.of_map fun _ _ h => h
theorem All2.bls {F : Hp} {vs : List V} {xs : List Bool} (t : All2 (fun u x => (rB x).p F u) vs xs) : vs = xs.map V.bl := t.of_map fun _ _ h => h
theorem Ev.sum {m : W (List Int)} (hb : Blt C "sum" (.builtin "sum")) (ha : Ev C Γ e (rL C.K rI) m) (hn : NoStar e) (hcm : C.cm = true := by rfl) : Ev C Γ (.Call (.Name "sum" p) [e] [] pos) rI (do let x ← m; pure x.sum) :=
  Ev.callB1 (fun x => pure x.sum) hb (fun X ok => ⟨_, cr_sum (ok.calm.trans hcm), fun x H v Q E hv h => by
    obtain ⟨q, vs, ev, hq, t⟩ := hv
    exact ⟨q, x, by rw [ev], by rw [ok.K, ← t.ints]; exact hq, h _ fun _ _ => rfl⟩⟩) (fun _ _ _ _ h => h) (fun _ _ _ h _ => h) ha hn
theorem Ev.all {m : W (List Bool)} (hb : Blt C "all" (.builtin "all")) (ha : Ev C Γ e (rL C.K rB) m) (hn : NoStar e) (hcm : C.cm = true := by rfl) : Ev C Γ (.Call (.Name "all" p) [e] [] pos) rB (do let x ← m; pure (x.all id)) :=
  Ev.callB1 (fun x => pure (x.all id)) hb (fun X ok => ⟨_, cr_all (ok.calm.trans hcm), fun x H v Q E hv h => by
    obtain ⟨q, vs, ev, hq, t⟩ := hv
    exact ⟨q, x, by rw [ev], by rw [ok.K, ← t.bls]; exact hq, h _ fun _ _ => rfl⟩⟩) (fun _ _ _ _ h => h) (fun _ _ _ h _ => h) ha hn
theorem Ev.any {m : W (List Bool)} (hb : Blt C "any" (.builtin "any")) (ha : Ev C Γ e (rL C.K rB) m) (hn : NoStar e) (hcm : C.cm = true := by rfl) : Ev C Γ (.Call (.Name "any" p) [e] [] pos) rB (do let x ← m; pure (x.any id)) :=
  Ev.callB1 (fun x => pure (x.any id)) hb (fun X ok => ⟨_, cr_any (ok.calm.trans hcm), fun x H v Q E hv h => by
    obtain ⟨q, vs, ev, hq, t⟩ := hv
    exact ⟨q, x, by rw [ev], by rw [ok.K, ← t.bls]; exact hq, h _ fun _ _ => rfl⟩⟩) (fun _ _ _ _ h => h) (fun _ _ _ h _ => h) ha hn
/-- the least of some ints -/
def minW (xs : List Int) : W Int := W.req (xs ≠ []) (W.any fun m => m ∈ xs ∧ ∀ y ∈ xs, m ≤ y)
def maxW (xs : List Int) : W Int := W.req (xs ≠ []) (W.any fun m => m ∈ xs ∧ ∀ y ∈ xs, y ≤ m)
theorem Ev.min {m : W (List Int)} (hb : Blt C "min" (.builtin "min")) (ha : Ev C Γ e (rL C.K rI) m) (hn : NoStar e) (hcm : C.cm = true := by rfl) : Ev C Γ (.Call (.Name "min" p) [e] [] pos) rI (do let x ← m; minW x) :=
  Ev.callB1 minW hb (fun X ok => ⟨_, cr_min (ok.calm.trans hcm), fun x H v Q E hv h => by
    obtain ⟨q, vs, ev, hq, t⟩ := hv
    exact ⟨q, x, by rw [ev], by rw [ok.K, ← t.ints]; exact hq, List.length_pos_iff.mpr h.1, fun m h1 h2 => h.2 m ⟨h1, h2⟩ _ fun _ _ => rfl⟩⟩) (fun _ _ _ _ h => ⟨h.1, h.2⟩) (fun _ _ _ h _ => h) ha hn
theorem Ev.max {m : W (List Int)} (hb : Blt C "max" (.builtin "max")) (ha : Ev C Γ e (rL C.K rI) m) (hn : NoStar e) (hcm : C.cm = true := by rfl) : Ev C Γ (.Call (.Name "max" p) [e] [] pos) rI (do let x ← m; maxW x) :=
  Ev.callB1 maxW hb (fun X ok => ⟨_, cr_max (ok.calm.trans hcm), fun x H v Q E hv h => by
    obtain ⟨q, vs, ev, hq, t⟩ := hv
    exact ⟨q, x, by rw [ev], by rw [ok.K, ← t.ints]; exact hq, List.length_pos_iff.mpr h.1, fun m h1 h2 => h.2 m ⟨h1, h2⟩ _ fun _ _ => rfl⟩⟩) (fun _ _ _ _ h => ⟨h.1, h.2⟩) (fun _ _ _ h _ => h) ha hn
/-- of two arguments -/
theorem Ev.callB2 {f : Str} {id : String} {ρa : α → Rp} {ρb : β → Rp} {ρ : γ → Rp} {ma : W α} {mb : W β} (k : α → β → W γ) (hb : Blt C f (.builtin id))
    (hc : ∀ X, C.Ok X → ∃ r, CallR X (.builtin id) r ∧ ∀ x y H v w Q E, (ρa x).p H v → (ρb y).p H w → (k x y).wp (fun z => ∀ u, (∀ F, Same H F → (ρ z).p F u) → Q u H) E → r [v, w] H Q) (hs : ∀ x y P (E E' : Exn → Prop), (k x y).wp P E → (k x y).wp P E')
    (hd : ∀ y F v, (ρ y).p F v → ∀ F', (ρ y).p F' v) (h1 : Ev C Γ e1 ρa ma) (h2 : Ev C Γ e2 ρb mb) (n1 : NoStar e1) (n2 : NoStar e2) : Ev C Γ (.Call (.Name f p) [e1, e2] [] pos) ρ (do let x ← ma; let y ← mb; k x y) :=
  Ev.callBA (ρs := fun x : α × β × Unit => [ρa x.1, ρb x.2.1]) (mt := do let a ← ma; let t ← (do let b ← mb; let t ← pure (); pure (b, t)); pure (a, t)) (fun t => k t.1 t.2.1) hb
    (fun X ok => by
      obtain ⟨r, hr, hk⟩ := hc X ok
      refine ⟨r, hr, fun t H vs Q E h w => ?_⟩
      cases h with
      | cons h h' =>
        cases h' with
        | cons h' h'' =>
          cases h''
          exact hk t.1 t.2.1 H _ _ Q E h h' w) (fun x => hs x.1 x.2.1) hd (EvA.cons h1 (EvA.cons h2 EvA.nil n2) n1) n1 (.inr (EvA.cons h2 EvA.nil n2).1)
theorem Ev.min2 {ma mb : W Int} (hb : Blt C "min" (.builtin "min")) (h1 : Ev C Γ e1 rI ma) (h2 : Ev C Γ e2 rI mb) (n1 : NoStar e1) (n2 : NoStar e2) (hcm : C.cm = true := by rfl) : Ev C Γ (.Call (.Name "min" p) [e1, e2] [] pos) rI (do let x ← ma; let y ← mb; pure (if y < x then y else x)) :=
  Ev.callB2 (fun x y => pure (if y < x then y else x)) hb (fun X ok => ⟨_, call_min2 (ok.calm.trans hcm), fun x y H v w Q E hv hw h => ⟨x, y, by rw [show v = V.int x from hv, show w = V.int y from hw], h _ fun _ _ => rfl⟩⟩) (fun _ _ _ _ _ h => h) (fun _ _ _ h _ => h) h1 h2 n1 n2
theorem Ev.max2 {ma mb : W Int} (hb : Blt C "max" (.builtin "max")) (h1 : Ev C Γ e1 rI ma) (h2 : Ev C Γ e2 rI mb) (n1 : NoStar e1) (n2 : NoStar e2) (hcm : C.cm = true := by rfl) : Ev C Γ (.Call (.Name "max" p) [e1, e2] [] pos) rI (do let x ← ma; let y ← mb; pure (if x < y then y else x)) :=
  Ev.callB2 (fun x y => pure (if x < y then y else x)) hb (fun X ok => ⟨_, call_max2 (ok.calm.trans hcm), fun x y H v w Q E hv hw h => ⟨x, y, by rw [show v = V.int x from hv, show w = V.int y from hw], h _ fun _ _ => rfl⟩⟩) (fun _ _ _ _ _ h => h) (fun _ _ _ h _ => h) h1 h2 n1 n2
/-- types called: int(x), str(n) -/
theorem Ev.callTy1 {f : Str} {T : String} {ρa : α → Rp} {ρ : β → Rp} {ma : W α} (k : α → W β) (hb : Blt C f (.type T))
    (hc : ∀ X, C.Ok X → ∃ r, CallR X (.type T) r ∧ ∀ x H v Q E, (ρa x).p H v → (k x).wp (fun y => ∀ u, (∀ F, Same H F → (ρ y).p F u) → Q u H) E → r [v] H Q) (hs : ∀ x P (E E' : Exn → Prop), (k x).wp P E → (k x).wp P E')
    (hd : ∀ y F v, (ρ y).p F v → ∀ F', (ρ y).p F' v) (ha : Ev C Γ e ρa ma) (hn : NoStar e) : Ev C Γ (.Call (.Name f p) [e] [] pos) ρ (do let x ← ma; k x) :=
  fun X Wx ok tk F H g σ s Q hm => by
    obtain ⟨r, hr, hk⟩ := hc X ok
    refine WE.of (pe_callTy hr (hb.gl ok) (by rw [ok.mg]; exact hb.m) hb.v (pa_cons (pe_W (e := e)) pa_nil (hn [] X.env)) hb.n hb.d (hn [] X.env) rfl) ?_
    refine ha X Wx ok tk F H g σ s _ (ma.mono (fun x hx F1 H1 g1 v f1 s1 r1 => ?_) (fun e he => he) hm)
    refine hk x H1 v Q (fun _ => True) ((ρa x).mono s1.sF r1) (hs _ _ _ (fun _ => True) ((k x).mono (fun y hy u hu => ?_) (fun _ h => h) hx))
    exact hy F1 H1 g1 u f1 s1 (hd y _ u (hu H1 (Same.refl _)) F1)
theorem Ev.intB {m : W Bool} (hb : Blt C "int" (.type "int")) (ha : Ev C Γ e rB m) (hn : NoStar e) : Ev C Γ (.Call (.Name "int" p) [e] [] pos) rI (do let x ← m; pure (if x = true then (1 : Int) else 0)) :=
  Ev.callTy1 (ρ := rI) (fun x => pure (if x = true then (1 : Int) else 0)) hb (fun X ok => ⟨_, call_int1, fun x H v Q E hv h => .inr ⟨x, by rw [show v = V.bl x from hv], h _ fun _ _ => rfl⟩⟩) (fun _ _ _ _ h => h) (fun _ _ _ h _ => h) ha hn
def strW (x : Int) : W Str := W.req (x.natAbs.log2 < 1920) (pure (toString x : Str))
theorem Ev.strI {m : W Int} (hb : Blt C "str" (.type "str")) (ha : Ev C Γ e rI m) (hn : NoStar e) : Ev C Γ (.Call (.Name "str" p) [e] [] pos) rS (do let x ← m; strW x) :=
  Ev.callTy1 strW hb (fun X ok => ⟨_, call_str_int, fun x H v Q E hv h => ⟨x, by rw [show v = V.int x from hv], h.1, h.2 _ fun _ _ => rfl⟩⟩) (fun _ _ _ _ h => ⟨h.1, h.2⟩) (fun _ _ _ h _ => h) ha hn
/-- int(text) -/
def intW (x : Str) : W Int := match PySem.intText? x with | some n => W.req (x.length ≤ 640) (pure n) | none => W.bad
theorem Ev.intS {m : W Str} (hb : Blt C "int" (.type "int")) (ha : Ev C Γ e rS m) (hn : NoStar e) : Ev C Γ (.Call (.Name "int" p) [e] [] pos) rI (do let x ← m; intW x) :=
  Ev.callTy1 intW hb (fun X ok => ⟨_, call_int_str, fun x H v Q E hv h => by
    unfold intW at h
    cases hx : PySem.intText? x with
    | none => rw [hx] at h; exact h.elim
    | some n => rw [hx] at h; exact ⟨x, n, by rw [show v = V.str x from hv], hx, h.1, h.2 _ fun _ _ => rfl⟩⟩) (fun x P E E' h => by
    unfold intW at h ⊢
    cases hx : PySem.intText? x with
    | none => rw [hx] at h; exact h
    | some n => rw [hx] at h; exact ⟨h.1, h.2⟩) (fun _ _ _ h _ => h) ha hn
/-- list(xs) -/
theorem EvO.listOf {r : α → Rp} {m : W (List α)} (hb : Blt C "list" (.type "list")) (ha : Ev C Γ e (rL C.K r) m) (hn : NoStar e) : EvO C Γ (.Call (.Name "list" p) [e] [] pos) (oL C.fr r) m :=
  fun X Wx ok tk F H g σ s Q hm => by
    refine WE.of (pe_callTy call_list_of (hb.gl ok) (by rw [ok.mg]; exact hb.m) hb.v (pa_cons (pe_W (e := e)) pa_nil (hn [] X.env)) hb.n hb.d (hn [] X.env) rfl) ?_
    refine ha X Wx ok tk F H g σ s _ (m.mono (fun x hx F1 H1 g1 v f1 s1 r1 => ?_) (fun e he => he) hm)
    obtain ⟨q, vs, ev, hq, t⟩ := r1
    exact ⟨q, vs, by rw [ev], .inl (by rw [ok.K]; exact s1.sF.seq hq), fun l hl => EvO.fin (O := oL C.fr r x) f1 s1 hl (fun n => ⟨l, _, rfl, n, rfl, t⟩) hx⟩

/-! ### displays -/
theorem EvO.disp {es : List Expr} {τ : Type} {ρs : τ → List Rp} {mt : W τ} {r : α → Rp} (f : τ → List α) (hf : ∀ t F vs, All2 (fun v R => R.p F v) vs (ρs t) → All2 (fun v x => (r x).p F v) vs (f t)) (hl : ∀ t, (f t).length ≤ 1000) (ha : EvA C Γ es ρs mt) :
    EvO C Γ (.List es pos) (oL C.fr r) (do let t ← mt; pure (f t)) :=
  fun X Wx ok tk F H g σ s Q hm => by
    refine WE.of (pe_lst (pa_W (es := es))) ?_
    refine ha.2 X Wx ok tk F H g σ s _ (mt.mono (fun t ht F1 H1 g1 vs f1 s1 r1 => ?_) (fun e he => he) hm)
    have t2 := hf t F1 vs r1
    exact ⟨by rw [t2.length]; exact Nat.le_trans (hl t) (by decide), fun l hq => EvO.fin (O := oL C.fr r (f t)) f1 s1 hq (fun n => ⟨l, _, rfl, n, rfl, t2⟩) ht⟩
theorem EvO.nil {r : α → Rp} : EvO C Γ (.List [] pos) (oL C.fr r) (pure ([] : List α)) := EvO.disp (fun _ => []) (fun t F vs h => by cases h; exact .nil) (fun _ => Nat.zero_le _) EvA.nil
/-- a new tuple joins F -/
theorem Ev.tup {es : List Expr} {k : Nat} {τ : Type} {ρs : τ → List Rp} {ρ : β → Rp} {mt : W τ} (f : τ → β) (hf : ∀ t F q vs, F q = some (.tup vs) → All2 (fun v R => R.p F v) vs (ρs t) → (ρ (f t)).p F (.ref q)) (hl : ∀ t, (ρs t).length ≤ 1000) (ha : EvA C Γ es ρs mt) :
    Ev C Γ (.Tuple es k pos) ρ (do let t ← mt; pure (f t)) :=
  fun X Wx ok tk F H g σ s Q hm => by
    refine WE.of (pe_tup (pa_W (es := es))) ?_
    refine ha.2 X Wx ok tk F H g σ s _ (mt.mono (fun t ht F1 H1 g1 vs f1 s1 r1 => ?_) (fun e he => he) hm)
    refine ⟨by rw [r1.length]; exact Nat.le_trans (hl t) (by decide), fun q hq => ?_⟩
    obtain ⟨s2, f2⟩ := s1.grow1 (o := .tup vs) hq
    have hF1 : F1 q = Option.none := by
      cases z : F1 q with
      | none => rfl
      | some u => rw [s1.sF q u z] at hq; cases hq
    exact ht _ _ g1 (.ref q) (f1.trans f2) s2 (hf t _ q vs upd_same (r1.imp fun v R z => R.mono (fun b u e => by rw [upd_ne (ne_of_none e hF1)]; exact e) z))
theorem Ev.tup2 {k : Nat} {r1 : α → Rp} {r2 : β → Rp} {m1 : W α} {m2 : W β} (h1 : Ev C Γ e1 r1 m1) (h2 : Ev C Γ e2 r2 m2) (n1 : NoStar e1) (n2 : NoStar e2) : Ev C Γ (.Tuple [e1, e2] k pos) (rT2 C.K r1 r2) (do let x ← m1; let y ← m2; pure (x, y)) :=
  Ev.tup (ρs := fun x : α × β × Unit => [r1 x.1, r2 x.2.1]) (fun t => (t.1, t.2.1)) (fun t F q vs hq h => by
    cases h with
    | cons h h' =>
      cases h' with
      | cons h' h'' =>
        cases h''
        exact ⟨q, _, _, rfl, SqT.of hq, h, h'⟩) (fun _ => by simp) (EvA.cons h1 (EvA.cons h2 EvA.nil n2) n1)
theorem Ev.tup3 {k : Nat} {r1 : α → Rp} {r2 : β → Rp} {r3 : γ → Rp} {m1 : W α} {m2 : W β} {m3 : W γ} (h1 : Ev C Γ e1 r1 m1) (h2 : Ev C Γ e2 r2 m2) (h3 : Ev C Γ e3 r3 m3) (n1 : NoStar e1) (n2 : NoStar e2) (n3 : NoStar e3) :
    Ev C Γ (.Tuple [e1, e2, e3] k pos) (rT3 C.K r1 r2 r3) (do let x ← m1; let y ← m2; let z ← m3; pure (x, y, z)) :=
  Ev.tup (ρs := fun x : α × β × γ × Unit => [r1 x.1, r2 x.2.1, r3 x.2.2.1]) (fun t => (t.1, t.2.1, t.2.2.1)) (fun t F q vs hq h => by
    cases h with
    | cons h h' =>
      cases h' with
      | cons h' h'' =>
        cases h'' with
        | cons h'' h3 =>
          cases h3
          exact ⟨q, _, _, _, rfl, SqT.of hq, h, h', h''⟩) (fun _ => by simp) (EvA.cons h1 (EvA.cons h2 (EvA.cons h3 EvA.nil n3) n2) n1)
/-- list displays of one to four items -/
theorem EvO.list1 {r : α → Rp} {m1 : W α} (h1 : Ev C Γ e1 r m1) (n1 : NoStar e1) : EvO C Γ (.List [e1] pos) (oL C.fr r) (do let x ← m1; pure [x]) :=
  EvO.disp (ρs := fun x : α × Unit => [r x.1]) (fun t => [t.1]) (fun t F vs h => by
    cases h with
    | cons h h' => cases h'; exact .cons h .nil) (fun _ => by simp) (EvA.cons h1 EvA.nil n1)
theorem EvO.list2 {r : α → Rp} {m1 m2 : W α} (h1 : Ev C Γ e1 r m1) (h2 : Ev C Γ e2 r m2) (n1 : NoStar e1) (n2 : NoStar e2) : EvO C Γ (.List [e1, e2] pos) (oL C.fr r) (do let x ← m1; let y ← m2; pure [x, y]) :=
  EvO.disp (ρs := fun x : α × α × Unit => [r x.1, r x.2.1]) (fun t => [t.1, t.2.1]) (fun t F vs h => by
    cases h with
    | cons h h' =>
      cases h' with
      | cons h' h'' => cases h''; exact .cons h (.cons h' .nil)) (fun _ => by simp) (EvA.cons h1 (EvA.cons h2 EvA.nil n2) n1)
theorem EvO.list3 {r : α → Rp} {m1 m2 m3 : W α} (h1 : Ev C Γ e1 r m1) (h2 : Ev C Γ e2 r m2) (h3 : Ev C Γ e3 r m3) (n1 : NoStar e1) (n2 : NoStar e2) (n3 : NoStar e3) : EvO C Γ (.List [e1, e2, e3] pos) (oL C.fr r) (do let x ← m1; let y ← m2; let z ← m3; pure [x, y, z]) :=
  EvO.disp (ρs := fun x : α × α × α × Unit => [r x.1, r x.2.1, r x.2.2.1]) (fun t => [t.1, t.2.1, t.2.2.1]) (fun t F vs h => by
    cases h with
    | cons h h' =>
      cases h' with
      | cons h' h'' =>
        cases h'' with
        | cons h'' h3 => cases h3; exact .cons h (.cons h' (.cons h'' .nil))) (fun _ => by simp) (EvA.cons h1 (EvA.cons h2 (EvA.cons h3 EvA.nil n3) n2) n1)
/-- written ints and texts, any number -/
theorem EvA.wCons {es : List Expr} {r : α → Rp} {x : α} {xs : List α} (h : Ev C Γ e r (pure x)) (ht : EvA C Γ es (fun _ : Unit => xs.map r) (pure ())) (hn : NoStar e) : EvA C Γ (e :: es) (fun _ : Unit => (x :: xs).map r) (pure ()) := by
  have q := EvA.cons h ht hn
  exact ⟨q.1, fun X Wx ok tk F H g σ s Q hm => q.2 X Wx ok tk F H g σ s Q hm⟩
theorem EvO.written {es : List Expr} {r : α → Rp} {xs : List α} (ha : EvA C Γ es (fun _ : Unit => xs.map r) (pure ())) (hl : xs.length ≤ 1000 := by decide) : EvO C Γ (.List es pos) (oL C.fr r) (pure xs) :=
  EvO.disp (fun _ => xs) (fun t F vs h => by
    have e : All2 (fun v R => R.p F v) vs (xs.map r) := h
    clear ha hl h
    generalize hy : xs.map r = ys at e
    induction e generalizing xs with
    | nil => cases xs with
      | nil => exact .nil
      | cons x xs => cases hy
    | cons q _ ih =>
      cases xs with
      | nil => cases hy
      | cons x xs =>
        cases hy
        exact .cons q (ih rfl)) (fun _ => hl) ha

end
end Y

/-! Y5: what is walked, targets, comprehensions -/
namespace Y
open PySem PySem.Spec L2

/-! ### iterators -/
structure ItOk {α : Type} (J : It) (r : α → Rp) (xs : List α) (F0 : Hp) : Prop where
  len : xs.length ≤ sizeLine
  go : ∀ i F H, Same F0 F → Same F H → i < xs.length → J.go i H
  yld : ∀ i x F H v H', Same F0 F → Same F H → xs[i]? = some x → J.yld i H v H' → ∃ G : Hp, (∀ a o, G a = some o → H a = none) ∧ H' = uni H G ∧ (r x).p (uni F G) v
  stop : ∀ i F H, Same F0 F → Same F H → xs.length ≤ i → J.stop i H
@[irreducible] def WI (X : Cx) (tg iter : Expr) : TI := fun σ H R => ∀ pins s, Inv X pins σ H s → wpAny (model X.prog X.w) X.A (eval iter X.env) (fun v s1 => wpAny (model X.prog X.w) X.A (pyIter v) (PIE X pins σ tg R) X.xe s1) X.xe s
theorem pi_W {X : Cx} {tg iter : Expr} : PI X tg iter (WI X tg iter) := ⟨fun pins s σ H R I h => by unfold WI at h; exact h pins s I⟩
theorem WI.of {X : Cx} {tg iter : Expr} {wi : TI} (h : PI X tg iter wi) {σ : St} {H : Hp} {R : It → Hp → Prop} (q : wi σ H R) : WI X tg iter σ H R := by unfold WI; exact fun pins s I => h.run pins s σ H R I q
def HLen (K : PySem.W.Frag) (H : Hp) : Prop := ∀ a xs, SqL K H a xs → xs.length ≤ sizeLine
/-- the lengths of lists that stand -/
theorem WE.len {X : Cx} {e : Expr} {σ : St} {H : Hp} {Q : VK} (h : WE X e σ H fun v H' => HLen X.K H' → Q v H') : WE X e σ H Q := by
  unfold WE at h ⊢
  exact fun pins s I =>
    thn (h pins s I) fun u s' ⟨v, H', I', r, q⟩ => ⟨v, H', I', r, q fun a xs hs => (I'.list hs).choose_spec.2.2⟩
theorem WA.len {X : Cx} {es : List Expr} {σ : St} {H : Hp} {Q : List V → Hp → Prop} (h : WA X es σ H fun v H' => HLen X.K H' → Q v H') : WA X es σ H Q := by
  unfold WA at h ⊢
  exact fun pos pins s I =>
    thn (h pos pins s I) fun u s' ⟨v, H', I', r, q⟩ => ⟨v, H', I', r, q fun a xs hs => (I'.list hs).choose_spec.2.2⟩
def EvI (C : Cc) (Γ : List Slot) (tg iter : Expr) {α : Type} (r : α → Rp) (m : W (List α)) : Prop :=
  ∀ (X : Cx) (Wx : WX), C.Ok X → Takes X Wx → ∀ (F H : Hp) (g : Nat → Hp) (σ : St), StOk C F H Γ σ g → ∀ R : It → Hp → Prop,
    m.wp (fun xs => ∀ F' H' g' J, Fr F H (dU g) F' H' (dU g') → StOk C F' H' Γ σ g' → ItOk J r xs F' → R J H') (XEnd C F H (dU g) Γ σ Wx) → WI X tg iter σ H R
theorem uni_emp {H : Hp} : uni H emp = H := by
  funext b
  unfold uni
  cases H b <;> rfl
section
variable {C : Cc} {Γ : List Slot} {α β γ : Type} {e e1 e2 tg : Expr} {pos p : Pos}
theorem itList {K : PySem.W.Frag} {r : α → Rp} {xs : List α} {F : Hp} {a : Addr} {vs : List V} (hs : SqL K F a vs) (hu : ∀ F' ys, Same F F' → SqL K F' a ys → ys = vs) (t : All2 (fun u x => (r x).p F u) vs xs) (hl : vs.length ≤ sizeLine) : ItOk (Itl K a) r xs F where
  len := by rw [← t.length]; exact hl
  go := fun i F' H f s h => by
    have q := (f.trans s).seq hs
    refine ⟨vs, vs[i]'(by rw [t.length]; exact h), q, List.getElem?_eq_getElem _⟩
  yld := fun i x F' H v H' f s h y => by
    obtain ⟨e, y⟩ := y
    refine ⟨emp, fun a o z => (by cases z), by rw [uni_emp]; exact e, ?_⟩
    rw [uni_emp]
    have := y vs ((f.trans s).seq hs)
    obtain ⟨u, hu, ru⟩ := t.get h
    rw [this] at hu
    cases hu
    exact (r x).mono f ru
  stop := fun i F' H f s h => ⟨vs, (f.trans s).seq hs, by rw [t.length]; exact h⟩
theorem itList' {K : PySem.W.Frag} {r : α → Rp} {xs : List α} {F : Hp} {a : Addr} {vs : List V} (hs : SqL K F a vs) (t : All2 (fun u x => (r x).p F u) vs xs) (hl : vs.length ≤ sizeLine) : ItOk (Itl K a) r xs F where
  len := by rw [← t.length]; exact hl
  go := fun i F' H f s h => ⟨vs, vs[i]'(by rw [t.length]; exact h), (f.trans s).seq hs, List.getElem?_eq_getElem _⟩
  yld := fun i x F' H v H' f s h y => by
    obtain ⟨e, y⟩ := y
    refine ⟨emp, fun a o z => (by cases z), by rw [uni_emp]; exact e, ?_⟩
    rw [uni_emp]
    have := y vs ((f.trans s).seq hs)
    obtain ⟨u, hu, ru⟩ := t.get h
    rw [this] at hu
    cases hu
    exact (r x).mono f ru
  stop := fun i F' H f s h => ⟨vs, (f.trans s).seq hs, by rw [t.length]; exact h⟩
theorem EvI.list {r : α → Rp} {m : W (List α)} (h : Ev C Γ e (rL C.K r) m) : EvI C Γ tg e r m :=
  fun X Wx ok tk F H g σ s R hm => by
    refine WI.of (pi_list (pe_W (e := e))) ?_
    refine WE.len (h X Wx ok tk F H g σ s _ (m.mono (fun xs hx F1 H1 g1 v f1 s1 r1 hl => ?_) (fun e he => he) hm))
    obtain ⟨a, vs, ev, hs, t⟩ := r1
    have hs2 : SqL X.K H1 a vs := by rw [ok.K]; exact s1.sF.seq hs
    refine ⟨a, ev, ⟨vs, hs2⟩, hx F1 H1 g1 _ f1 s1 ?_⟩
    rw [ok.K]
    exact itList' hs t (hl a vs hs2)
/-- lo, lo + 1, .. below hi -/
def rng (lo hi : Int) : List Int := (List.range (hi - lo).toNat).map fun (i : Nat) => lo + (i : Int)
theorem rng_length (lo hi : Int) : (rng lo hi).length = (hi - lo).toNat := by simp [rng]
theorem rng_get {lo hi : Int} {i : Nat} {x : Int} (h : (rng lo hi)[i]? = some x) : x = lo + (i : Int) ∧ i < (hi - lo).toNat := by
  unfold rng at h
  rw [List.getElem?_map] at h
  cases q : (List.range (hi - lo).toNat)[i]? with
  | none => rw [q] at h; cases h
  | some j =>
    rw [q] at h
    have hi' := (List.getElem?_eq_some_iff.mp q)
    obtain ⟨h1, h2⟩ := hi'
    rw [List.getElem_range] at h2
    subst h2
    rw [List.length_range] at h1
    exact ⟨(Option.some.inj h).symm, h1⟩
theorem itRange {lo hi : Int} {F : Hp} (hl : hi - lo ≤ 1000000) : ItOk (Itr lo (hi - lo).toNat) rI (rng lo hi) F where
  len := by rw [rng_length, PySem.sizeLine_eq]; omega
  go := fun i F' H f s h => by rw [rng_length] at h; exact h
  yld := fun i x F' H v H' f s h y => by
    obtain ⟨e, y⟩ := y
    refine ⟨emp, fun a o z => (by cases z), by rw [uni_emp]; exact e, ?_⟩
    rw [(rng_get h).1]
    exact y
  stop := fun i F' H f s h => by rw [rng_length] at h; exact h
def rangeW (lo hi : Int) : W (List Int) := W.req (-1000000 ≤ lo ∧ lo ≤ 1000000 ∧ -1000000 ≤ hi ∧ hi ≤ 1000000 ∧ hi - lo ≤ 1000000) (pure (rng lo hi))
theorem EvI.range1 {m : W Int} (hb : Blt C "range" (.type "range")) (h : Ev C Γ e rI m) (hn : NoStar e) : EvI C Γ tg (.Call (.Name "range" p) [e] [] pos) rI (do let n ← m; rangeW 0 n) :=
  fun X Wx ok tk F H g σ s R hm => by
    refine WI.of (pi_range1 (hb.gl ok) (by rw [ok.mg]; exact hb.m) (pa_cons (pe_W (e := e)) pa_nil (hn [] X.env)) (hn [] X.env)) ?_
    refine h X Wx ok tk F H g σ s _ (m.mono (fun n hx F1 H1 g1 v f1 s1 r1 => ?_) (fun e he => he) hm)
    obtain ⟨⟨h1, h2, h3, h4, h5⟩, hx⟩ := hx
    refine ⟨n, by rw [show v = V.int n from r1], by omega, by omega, ?_⟩
    have e0 : n.toNat = (n - 0).toNat := by rw [Int.sub_zero]
    rw [e0]
    exact hx F1 H1 g1 _ f1 s1 (itRange h5)
theorem EvI.range2 {m1 m2 : W Int} (hb : Blt C "range" (.type "range")) (h1 : Ev C Γ e1 rI m1) (h2 : Ev C Γ e2 rI m2) (n1 : NoStar e1) (n2 : NoStar e2) : EvI C Γ tg (.Call (.Name "range" p) [e1, e2] [] pos) rI (do let a ← m1; let b ← m2; rangeW a b) :=
  fun X Wx ok tk F H g σ s R hm => by
    refine WI.of (pi_range2 (hb.gl ok) (by rw [ok.mg]; exact hb.m) (pa_cons (pe_W (e := e1)) (pa_cons (pe_W (e := e2)) pa_nil (n2 [] X.env)) (n1 [e2] X.env)) (by rw [n1 [e2] X.env, n2 [] X.env]; rfl) (n2 [] X.env)) ?_
    refine h1 X Wx ok tk F H g σ s _ (m1.mono (fun a ha F1 H1 g1 v f1 s1 r1 => ?_) (fun e he => he) hm)
    refine h2 X Wx ok tk F1 H1 g1 σ s1 _ (m2.mono (fun b hb F2 H2 g2 w f2 s2 r2 => ?_) (fun e he => XEnd.later f1 he) ha)
    obtain ⟨⟨h1, h2, h3, h4, h5⟩, hx⟩ := hb
    refine ⟨a, b, by rw [show v = V.int a from r1, show w = V.int b from r2], by omega, ?_⟩
    exact hx F2 H2 g2 _ (f1.trans f2) s2 (itRange h5)
theorem itPair {K : PySem.W.Frag} {r1 : α → Rp} {r2 : β → Rp} {F H : Hp} {T : Addr} {x y : V} {a : α} {b : β} (hF : Same F H) (hT : H T = none) (h1 : (r1 a).p F x) (h2 : (r2 b).p F y) :
    ∃ G : Hp, (∀ a o, G a = some o → H a = none) ∧ upd H T (.tup [x, y]) = uni H G ∧ (rT2 K r1 r2 (a, b)).p (uni F G) (.ref T) := by
  have hFT : F T = none := by
    cases q : F T with
    | none => rfl
    | some u => rw [hF T u q] at hT; cases hT
  refine ⟨Y.one T (.tup [x, y]), fun b o e => ?_, (uni_upd hT).symm, ?_⟩
  · by_cases z : b = T
    · rw [z]; exact hT
    · rw [one_ne z] at e; cases e
  · rw [uni_upd hFT]
    have sm : Same F (upd F T (.tup [x, y])) := fun b u e => by rw [upd_ne (ne_of_none e hFT)]; exact e
    exact ⟨T, x, y, rfl, SqT.of upd_same, (r1 a).mono sm h1, (r2 b).mono sm h2⟩
theorem EvI.zip {r1 : α → Rp} {r2 : β → Rp} {m1 : W (List α)} {m2 : W (List β)} {elts : List Expr} {kk : Nat} {tpos : Pos} (hb : Blt C "zip" (.type "zip")) (h1 : Ev C Γ e1 (rL C.K r1) m1) (h2 : Ev C Γ e2 (rL C.K r2) m2) (n1 : NoStar e1) (n2 : NoStar e2) :
    EvI C Γ (.Tuple elts kk tpos) (.Call (.Name "zip" p) [e1, e2] [] pos) (rT2 C.K r1 r2) (do let a ← m1; let b ← m2; pure (a.zip b)) :=
  fun X Wx ok tk F H g σ s R hm => by
    refine WI.of (pi_zip (hb.gl ok) (by rw [ok.mg]; exact hb.m) (pa_W (es := [e1, e2])) (n1 [e2] X.env) (by rw [n2 [] X.env]; rfl)) ?_
    refine WA.len (WA.of (pa_cons (pe_W (e := e1)) (pa_cons (pe_W (e := e2)) pa_nil (n2 [] X.env)) (n1 [e2] X.env)) ?_)
    refine h1 X Wx ok tk F H g σ s _ (m1.mono (fun a ha F1 H1 g1 v f1 s1 r1' => ?_) (fun e he => he) hm)
    refine h2 X Wx ok tk F1 H1 g1 σ s1 _ (m2.mono (fun b hb F2 H2 g2 w f2 s2 r2' => ?_) (fun e he => XEnd.later f1 he) ha)
    intro hl
    obtain ⟨p1, vs, ev, hs1, t1⟩ := (rL C.K r1 a).mono f2.sF r1'
    obtain ⟨p2, ws, ew, hs2, t2⟩ := r2'
    have q1 : SqL X.K H2 p1 vs := by rw [ok.K]; exact s2.sF.seq hs1
    have q2 : SqL X.K H2 p2 ws := by rw [ok.K]; exact s2.sF.seq hs2
    refine ⟨p1, p2, vs, ws, by rw [ev, ew], q1, q2, hb F2 H2 g2 _ (f1.trans f2) s2 ?_⟩
    have l1 := t1.length
    have l2 := t2.length
    rw [ok.K]
    refine ⟨?_, fun i F' H' f s h => ?_, fun i x F' H' v H3 f s h y => ?_, fun i F' H' f s h => ?_⟩
    · rw [List.length_zip, ← l1]
      exact Nat.le_trans (Nat.min_le_left _ _) (hl p1 vs q1)
    · rw [List.length_zip] at h
      exact ⟨vs, ws, vs[i]'(by omega), ws[i]'(by omega), (f.trans s).seq hs1, (f.trans s).seq hs2, List.getElem?_eq_getElem _, List.getElem?_eq_getElem _⟩
    · obtain ⟨T, x', y', e1, hT, e2, y1, y2⟩ := y
      subst e1 e2
      obtain ⟨xa, xb⟩ := x
      obtain ⟨ha', hb'⟩ := List.getElem?_zip_eq_some.mp h
      obtain ⟨u1, hu1, ru1⟩ := t1.get ha'
      obtain ⟨u2, hu2, ru2⟩ := t2.get hb'
      rw [y1 vs ((f.trans s).seq hs1)] at hu1
      rw [y2 ws ((f.trans s).seq hs2)] at hu2
      cases hu1
      cases hu2
      exact itPair s hT ((r1 xa).mono f ru1) ((r2 xb).mono f ru2)
    · rw [List.length_zip] at h
      exact ⟨vs, ws, (f.trans s).seq hs1, (f.trans s).seq hs2, by omega⟩
/-- the items with their places -/
def enum (xs : List α) : List (Int × α) := (rng 0 xs.length).zip xs
theorem EvI.enum {r : α → Rp} {m : W (List α)} {elts : List Expr} {kk : Nat} {tpos : Pos} (hb : Blt C "enumerate" (.type "enumerate")) (h : Ev C Γ e (rL C.K r) m) (hn : NoStar e) :
    EvI C Γ (.Tuple elts kk tpos) (.Call (.Name "enumerate" p) [e] [] pos) (rT2 C.K rI r) (do let a ← m; pure (Y.enum a)) :=
  fun X Wx ok tk F H g σ s R hm => by
    refine WI.of (pi_enum (hb.gl ok) (by rw [ok.mg]; exact hb.m) (pa_W (es := [e])) (hn [] X.env)) ?_
    refine WA.len (WA.of (pa_cons (pe_W (e := e)) pa_nil (hn [] X.env)) ?_)
    refine h X Wx ok tk F H g σ s _ (m.mono (fun a ha F1 H1 g1 v f1 s1 r1' => ?_) (fun e he => he) hm)
    intro hl
    obtain ⟨p1, vs, ev, hs1, t1⟩ := r1'
    have q1 : SqL X.K H1 p1 vs := by rw [ok.K]; exact s1.sF.seq hs1
    refine ⟨p1, vs, by rw [ev], q1, ha F1 H1 g1 _ f1 s1 ?_⟩
    have l1 := t1.length
    have l2 : (Y.enum a).length = a.length := by
      unfold Y.enum
      rw [List.length_zip, rng_length]
      omega
    rw [ok.K]
    refine ⟨?_, fun i F' H' f s h => ?_, fun i x F' H' v H3 f s h y => ?_, fun i F' H' f s h => ?_⟩
    · rw [l2, ← l1]
      exact hl p1 vs q1
    · rw [l2] at h
      exact ⟨vs, vs[i]'(by omega), (f.trans s).seq hs1, List.getElem?_eq_getElem _⟩
    · obtain ⟨T, x', e1, hT, e2, y1⟩ := y
      subst e1 e2
      obtain ⟨xa, xb⟩ := x
      unfold Y.enum at h
      obtain ⟨ha', hb'⟩ := List.getElem?_zip_eq_some.mp h
      obtain ⟨u1, hu1, ru1⟩ := t1.get hb'
      rw [y1 vs ((f.trans s).seq hs1)] at hu1
      cases hu1
      obtain ⟨ea, _⟩ := rng_get ha'
      exact itPair s hT (show V.int i = V.int xa by
        have ea' : xa = 0 + (i : Int) := ea
        rw [ea', Int.zero_add]) ((r xb).mono f ru1)
    · rw [l2] at h
      exact ⟨vs, (f.trans s).seq hs1, by omega⟩
/-- from the last one back -/
theorem EvI.rev {r : α → Rp} {m : W (List α)} (hb : Blt C "reversed" (.type "reversed")) (h : Ev C Γ e (rL C.K r) m) (hn : NoStar e) : EvI C Γ tg (.Call (.Name "reversed" p) [e] [] pos) r (do let a ← m; pure a.reverse) :=
  fun X Wx ok tk F H g σ s R hm => by
    refine WI.of (pi_reversed (hb.gl ok) (by rw [ok.mg]; exact hb.m) (pa_W (es := [e])) (hn [] X.env)) ?_
    refine WA.len (WA.of (pa_cons (pe_W (e := e)) pa_nil (hn [] X.env)) ?_)
    refine h X Wx ok tk F H g σ s _ (m.mono (fun a ha F1 H1 g1 v f1 s1 r1' => ?_) (fun e he => he) hm)
    intro hl
    obtain ⟨p1, vs, ev, hs1, t1⟩ := r1'
    have q1 : SqL X.K H1 p1 vs := by rw [ok.K]; exact s1.sF.seq hs1
    refine ⟨p1, vs, by rw [ev], q1, ha F1 H1 g1 _ f1 s1 ?_⟩
    have l1 := t1.length
    rw [ok.K]
    refine ⟨?_, fun i F' H' f s h => ?_, fun i x F' H' v H3 f s h y => ?_, fun i F' H' f s h => ?_⟩
    · rw [List.length_reverse, ← l1]
      exact hl p1 vs q1
    · rw [List.length_reverse] at h
      exact ⟨by omega, vs, vs[vs.length - 1 - i]'(by omega), (f.trans s).seq hs1, List.getElem?_eq_getElem _⟩
    · obtain ⟨e1, y1⟩ := y
      have y2 := y1 vs ((f.trans s).seq hs1)
      have hi : i < a.length := by
        have q := (List.getElem?_eq_some_iff.mp h).1
        rwa [List.length_reverse] at q
      rw [List.getElem?_reverse hi] at h
      obtain ⟨u1, hu1, ru1⟩ := t1.get h
      rw [← l1, y2] at hu1
      cases hu1
      refine ⟨emp, fun a o z => (by cases z), by rw [uni_emp]; exact e1, ?_⟩
      rw [uni_emp]
      exact (r x).mono f ru1
    · rw [List.length_reverse] at h
      show vs.length ≤ i
      omega
/-- sign by sign -/
def signs (z : Str) : List Str := z.cps.toList.map fun c => ⟨#[c]⟩
theorem EvI.str {m : W Str} (h : Ev C Γ e rS m) : EvI C Γ tg e rS (do let z ← m; W.req (z.length ≤ sizeLine) (pure (signs z))) :=
  fun X Wx ok tk F H g σ s R hm => by
    refine WI.of (pi_str (pe_W (e := e))) ?_
    refine h X Wx ok tk F H g σ s _ (m.mono (fun z hx F1 H1 g1 v f1 s1 r1 => ?_) (fun e he => he) hm)
    obtain ⟨hz, hx⟩ := hx
    have hl : (signs z).length = z.cps.size := by simp [signs]
    refine ⟨z, r1, hx F1 H1 g1 _ f1 s1 ⟨by rw [hl]; exact hz, fun i F' H' f s h => by rw [hl] at h; exact h, fun i x F' H' v H3 f s h y => ?_, fun i F' H' f s h => by rw [hl] at h; exact h⟩⟩
    obtain ⟨e, c, hc, ev⟩ := y
    refine ⟨emp, fun a o z => (by cases z), by rw [uni_emp]; exact e, ?_⟩
    unfold signs at h
    rw [List.getElem?_map, Array.getElem?_toList, hc] at h
    have h' := Option.some.inj h
    rw [ev, ← h']
    rfl
end

/-! ### targets -/
/-- t is how tg is assigned; up what it makes of the slots, by a value of kind r -/
structure EvG (C : Cc) (tg : Expr) {α : Type} (r : α → Rp) (t : TG) (up : List Slot → α → List Slot) : Prop where
  pg : ∀ X, C.Ok X → PG X tg t
  rd : ∀ (Γ : List Slot) (F H : Hp) (g : Nat → Hp) (σ : St) (x : α) (v : V) (Q : St → Hp → Prop), StOk C F H Γ σ g → (r x).p F v → (∀ σ', StOk C F H (up Γ x) σ' g → Q σ' H) → t v σ H Q
/-- the name may be stored -/
def Sto (C : Cc) (x : Str) : Prop := C.sc.names.lookup x = some .local ∨ (C.sc.names.lookup x = some .cell ∧ C.fnc x = true)
theorem Sto.loc {C : Cc} {x : Str} (h : Sto C x) {X : Cx} (ok : C.Ok X) : Loc X.env.scope x := by
  rw [ok.sc]
  rcases h with h | h
  · exact .inl h
  · exact .inr h.1
theorem Sto.fn {C : Cc} {x : Str} (h : Sto C x) {X : Cx} (ok : C.Ok X) : X.fn x = true ∨ X.env.scope.names.lookup x = some .local := by
  rw [ok.sc]
  rcases h with h | h
  · exact .inr h
  · exact .inl (ok.fnc x h.2)
section
variable {C : Cc} {Γ : List Slot} {α β γ : Type} {pos : Pos}
theorem EvG.name {i : Nat} {x : Str} {r : α → Rp} (hN : C.N[i]? = some x) (hx : Sto C x) : EvG C (.Name x pos) r (gName i) (fun Γ a => Γ.set i (.val (r a))) :=
  ⟨fun X ok => pg_name ok.ndX (by rw [ok.N]; exact hN) (hx.loc ok) (hx.fn ok), fun Γ F H g σ x v Q s h k => k _ (s.set_val h)⟩
theorem EvG.tup2 {i j : Nat} {x1 x2 : Str} {p1 p2 : Pos} {k : Nat} {tp : Pos} {r1 : α → Rp} {r2 : β → Rp} (h1 : C.N[i]? = some x1) (h2 : C.N[j]? = some x2) (s1 : Sto C x1) (s2 : Sto C x2) (hcm : C.cm = true := by rfl) :
    EvG C (.Tuple [.Name x1 p1, .Name x2 p2] k tp) (rT2 C.K r1 r2) (gTup C.K 2 (gCons (gName i) (gCons (gName j) gNil))) (fun Γ x => (Γ.set i (.val (r1 x.1))).set j (.val (r2 x.2))) where
  pg := fun X ok => by
    rw [← ok.K]
    exact pg_tup (ok.calm.trans hcm) (pgs_cons (pg_name ok.ndX (by rw [ok.N]; exact h1) (s1.loc ok) (s1.fn ok)) (pgs_cons (pg_name ok.ndX (by rw [ok.N]; exact h2) (s2.loc ok) (s2.fn ok)) pgs_nil))
  rd := fun Γ F H g σ x v Q s h kk => by
    obtain ⟨a, v1, v2, e, q, t1, t2⟩ := h
    exact ⟨a, _, e, Same.seqT s.sF q, rfl, v1, _, rfl, v2, _, rfl, rfl, kk _ ((s.set_val t1).set_val t2)⟩
theorem EvG.tup3 {i j l : Nat} {x1 x2 x3 : Str} {p1 p2 p3 : Pos} {k : Nat} {tp : Pos} {r1 : α → Rp} {r2 : β → Rp} {r3 : γ → Rp} (h1 : C.N[i]? = some x1) (h2 : C.N[j]? = some x2) (h3 : C.N[l]? = some x3) (s1 : Sto C x1) (s2 : Sto C x2) (s3 : Sto C x3) (hcm : C.cm = true := by rfl) :
    EvG C (.Tuple [.Name x1 p1, .Name x2 p2, .Name x3 p3] k tp) (rT3 C.K r1 r2 r3) (gTup C.K 3 (gCons (gName i) (gCons (gName j) (gCons (gName l) gNil)))) (fun Γ x => ((Γ.set i (.val (r1 x.1))).set j (.val (r2 x.2.1))).set l (.val (r3 x.2.2))) where
  pg := fun X ok => by
    rw [← ok.K]
    exact pg_tup (ok.calm.trans hcm) (pgs_cons (pg_name ok.ndX (by rw [ok.N]; exact h1) (s1.loc ok) (s1.fn ok)) (pgs_cons (pg_name ok.ndX (by rw [ok.N]; exact h2) (s2.loc ok) (s2.fn ok)) (pgs_cons (pg_name ok.ndX (by rw [ok.N]; exact h3) (s3.loc ok) (s3.fn ok)) pgs_nil)))
  rd := fun Γ F H g σ x v Q s h kk => by
    obtain ⟨a, v1, v2, v3, e, q, t1, t2, t3⟩ := h
    exact ⟨a, _, e, Same.seqT s.sF q, rfl, v1, _, rfl, v2, _, rfl, v3, _, rfl, rfl, kk _ (((s.set_val t1).set_val t2).set_val t3)⟩
end
end Y

/-! Y6: comprehensions -/
namespace Y
open PySem PySem.Spec L2
def W.noX {α : Type} (m : W α) : W α := ⟨fun P _ => m.wp P (fun _ => False), fun hp _ x => m.mono hp (fun _ h => h) x⟩
def compM {α β : Type} (t : α → W Bool) (f : α → W β) : List α → W (List β)
  | [] => W.ret []
  | x :: xs => do
    let b ← t x
    if b = true then (do let y ← f x; let ys ← compM t f xs; pure (y :: ys)) else compM t f xs
def wipeG (Γ : List Slot) : List Nat → List Slot
  | [] => Γ
  | v :: vs => (wipeG Γ vs).set v .no
/-- a clause's tests -/
def EvTs (C : Cc) (Γ : List Slot) (ifs : List Expr) (m : W Bool) : Prop :=
  ∀ (X : Cx) (Wx : WX), C.Ok X → Takes X Wx → ∀ (F H : Hp) (g : Nat → Hp) (σ : St), StOk C F H Γ σ g → ∀ Q : Bool → Hp → Prop,
    m.wp (fun a => ∀ F' H' g', Fr F H (dU g) F' H' (dU g') → StOk C F' H' Γ σ g' → Q a H') (XEnd C F H (dU g) Γ σ Wx) → ∃ t, PTs X ifs t ∧ t σ H Q
section
variable {C : Cc} {Γ : List Slot} {α β : Type}
theorem EvTs.nil : EvTs C Γ [] (pure true) := fun X Wx ok tk F H g σ s Q hm => ⟨_, pts_nil, hm F H g Fr.refl s⟩
theorem EvTs.one {c : Expr} {m : W Bool} (h : EvT C Γ c m) : EvTs C Γ [c] m := fun X Wx ok tk F H g σ s Q hm => ⟨_, pts_one (pt_W (e := c)), h X Wx ok tk F H g σ s Q hm⟩
/-- the block's static context -/
abbrev Cc.blk (C : Cc) (scope : Scope) : Cc := { C with sc := relS scope C.sc, fnc := fun x => scope.names.lookup x == some .cell, ex := none }
theorem relabel_eq {scope : Scope} {env : Env} : PySem.relabel scope env = relS scope env.scope := rfl
theorem Cc.Ok.blk {X : Cx} (ok : C.Ok X) (s : Shared) (H : Hp) (scope : Scope) (cl : List (Str × Addr)) (Ca : Addr) (fp : List Addr) : (C.blk scope).Ok (X.blk s H scope (compEnvC scope cl Ca X.env) fp) where
  prog := ok.prog
  w := ok.w
  K := ok.K
  mg := ok.mg
  base := ok.base
  N := ok.N
  sc := by
    show relS scope X.env.scope = relS scope C.sc
    rw [ok.sc]
  nd := ok.nd
  calm := ok.calm
  room := ok.room
  units := ok.units
  exc := fun _ _ _ h => nomatch h
  fnc := fun x h => h
theorem StOk.wipe {F H : Hp} {σ : St} {g : Nat → Hp} (s : StOk C F H Γ σ g) : ∀ vs : List Nat, StOk C F H (wipeG Γ vs) (L2.wipe σ vs) g
  | [] => s
  | v :: vs => (StOk.wipe s vs).set_no
theorem StOk.blk {F H : Hp} {σ : St} {g : Nat → Hp} {scope : Scope} : StOk (C.blk scope) F H Γ σ g ↔ StOk C F H Γ σ g := ⟨fun s => ⟨s.len, s.slot, s.sF, s.sG, s.dF, s.dG, s.fr⟩, fun s => ⟨s.len, s.slot, s.sF, s.sG, s.dF, s.dG, s.fr⟩⟩
theorem wipe_at {σ : St} {i : Nat} : ∀ {vs : List Nat}, i ∉ vs → (L2.wipe σ vs)[i]? = σ[i]?
  | [], _ => rfl
  | v :: vs, h => by
    rw [List.mem_cons, not_or] at h
    unfold L2.wipe
    rw [List.getElem?_set_ne (fun q => h.1 q.symm), wipe_at h.2]
theorem wipeG_at {i : Nat} : ∀ {vs : List Nat}, i ∉ vs → (wipeG Γ vs)[i]? = Γ[i]?
  | [], _ => rfl
  | v :: vs, h => by
    rw [List.mem_cons, not_or] at h
    unfold wipeG
    rw [List.getElem?_set_ne (fun q => h.1 q.symm), wipeG_at h.2]
/-- the slots of before, behind a block -/
theorem StOk.unwipe {F H F2 H2 : Hp} {σ σ2 : St} {g g2 : Nat → Hp} {Γ2 : List Slot} {vs : List Nat} (s : StOk C F H Γ σ g) (s2 : StOk C F2 H2 Γ2 σ2 g2) (hF : Same F F2) (hΓ : ∀ i, i ∉ vs → Γ2[i]? = Γ[i]?) (hσ : L2.wipe σ2 vs = L2.wipe σ vs)
    (hn : ∀ v ∈ vs, ∀ O, Γ[v]? ≠ some (.own O)) : StOk C F2 H2 Γ σ g2 where
  len := s.len
  slot := fun i S e => by
    by_cases hi : i ∈ vs
    · cases S with
      | no => trivial
      | val R => exact (s.slot i _ e).mono hF
      | own O => exact absurd e (hn i hi O)
    · have h2 : σ2[i]? = σ[i]? := by rw [← wipe_at (σ := σ2) hi, hσ, wipe_at hi]
      rw [← h2]
      exact s2.slot i S ((hΓ i hi).trans e)
  sF := s2.sF
  sG := s2.sG
  dF := s2.dF
  dG := s2.dG
  fr := s2.fr
/-- the new list's step -/
theorem lc_step {F H : Hp} {U : Addr → Prop} {Fc Hc Gy F6 H6 : Hp} {gc g6 : Nat → Hp} {σ : St} {D : Addr} {o o' : HO} (fc : Fr F H U Fc Hc (fun b => dU gc b ∨ one D o b ≠ none)) (hD : Hc D = some o) (hFD : Fc D = none) (hgD : ∀ j, gc j D = none)
    (hGy : ∀ a o, Gy a = some o → Hc a = none) (f : Fr (uni Fc Gy) (uni Hc Gy) (dU gc) F6 H6 (dU g6)) (s6 : StOk C F6 H6 Γ σ g6) :
    H6 D = some o ∧ F6 D = none ∧ (∀ j, g6 j D = none) ∧ StOk C F6 (upd H6 D o') Γ σ g6 ∧ Fr F H U F6 (upd H6 D o') (fun b => dU g6 b ∨ one D o' b ≠ none) ∧ Fr F H U F6 H6 (fun b => dU g6 b ∨ one D o b ≠ none) := by
  have hDu : (uni Hc Gy) D = some o := uni_l D _ hD
  have ngc : ¬ dU gc D := fun ⟨j, q⟩ => q (hgD j)
  have k1 : H6 D = some o := f.keep D _ hDu ngc
  have k2 : F6 D = none := by
    cases q : F6 D with
    | none => rfl
    | some u =>
      rcases f.fF D (by rw [q]; simp) with z | z | z
      · have gD : Gy D = none := by
          cases e : Gy D with
          | none => rfl
          | some o2 => have := hGy D o2 e; rw [hD] at this; cases this
        exact absurd (uni_none hFD gD) z
      · rw [hDu] at z; cases z
      · exact absurd z ngc
  have k3 : ∀ j, g6 j D = none := fun j => by
    cases q : g6 j D with
    | none => rfl
    | some u =>
      rcases f.gs D ⟨j, by rw [q]; simp⟩ with z | z
      · exact absurd z ngc
      · rw [hDu] at z; cases z
  have oneD : ∀ {o : HO} {b : Addr}, one D o b ≠ none → b = D := fun {o b} q => by
    by_cases z : b = D
    · exact z
    · exact absurd (one_ne z) q
  have HcN : ∀ b, H b = none → Hc b = none ∨ Hc b ≠ none := fun b _ => by
    cases Hc b with
    | none => exact .inl rfl
    | some u => exact .inr (by simp)
  have base : ∀ {o2 : HO} {H7 : Hp}, (∀ b, b ≠ D → H7 b = H6 b) → H7 D ≠ none → Fr F H U F6 H7 (fun b => dU g6 b ∨ one D o2 b ≠ none) := fun {o2 H7} e7 d7 => by
    refine ⟨(fc.sF.trans uni_l).trans f.sF, fun b q => ?_, fun b u q n => ?_, fun b q => ?_, fun b q => ?_⟩
    · rcases f.fF b q with z | z | z
      · cases e : Fc b with
        | some u => exact fc.fF b (by rw [e]; simp)
        | none =>
          cases e2 : Gy b with
          | none => exact absurd (uni_none e e2) z
          | some u =>
            refine .inr (.inl ?_)
            have := hGy b u e2
            cases e3 : H b with
            | none => rfl
            | some w => exact absurd this (fc.dom b (by rw [e3]; simp))
      · refine .inr (.inl ?_)
        cases e3 : H b with
        | none => rfl
        | some w =>
          have h1 := fc.dom b (by rw [e3]; simp)
          cases e4 : Hc b with
          | none => exact absurd e4 h1
          | some w2 => rw [uni_l b _ e4] at z; cases z
      · rcases fc.gs b (.inl z) with y | y
        · exact .inr (.inr y)
        · exact .inr (.inl y)
    · have h1 := fc.keep b u q n
      have nb : ¬ dU gc b := fun z => by
        rcases fc.gs b (.inl z) with y | y
        · exact n y
        · rw [q] at y; cases y
      have bD : b ≠ D := fun z => by
        subst z
        rcases fc.gs b (.inr (by rw [one_same]; simp)) with y | y
        · exact n y
        · rw [q] at y; cases y
      rw [e7 b bD]
      exact f.keep b u (uni_l b _ h1) nb
    · by_cases bD : b = D
      · subst bD; exact d7
      · rw [e7 b bD]
        refine f.dom b ?_
        have h1 := fc.dom b q
        cases e4 : Hc b with
        | none => exact absurd e4 h1
        | some w2 => rw [uni_l b _ e4]; simp
    · rcases q with q | q
      · rcases f.gs b q with z | z
        · exact fc.gs b (.inl z)
        · refine .inr ?_
          cases e3 : H b with
          | none => rfl
          | some w =>
            have h1 := fc.dom b (by rw [e3]; simp)
            cases e4 : Hc b with
            | none => exact absurd e4 h1
            | some w2 => rw [uni_l b _ e4] at z; cases z
      · rw [oneD q]
        exact fc.gs D (.inr (by rw [one_same]; simp))
  refine ⟨k1, k2, k3, ⟨s6.len, s6.slot, fun b u e => ?_, fun j b u e => ?_, s6.dF, s6.dG, fun b e => ?_⟩, base (fun b z => upd_ne z) (by rw [upd_same]; simp), base (fun b z => rfl) (by rw [k1]; simp)⟩
  · rw [upd_ne (fun z => by rw [z, k2] at e; cases e)]; exact s6.sF b u e
  · rw [upd_ne (fun z => by rw [z, k3 j] at e; cases e)]; exact s6.sG j b u e
  · by_cases z : b = D
    · rw [z, upd_same] at e; cases e
    · rw [upd_ne z] at e; exact s6.fr b e
theorem tLc_of {tg iter elt : Expr} {ifs : List Expr} {scope : Scope} {vs : List Nat} {r : α → Rp} {r' : β → Rp} {m : W (List α)} {mt : α → W Bool} {me : α → W β} {t : TG} {up : List Slot → α → List Slot} (hi : EvI C Γ tg iter r m)
    (hg : EvG (C.blk scope) tg r t up) (hup : ∀ x i, i ∉ vs → (up (wipeG Γ vs) x)[i]? = Γ[i]?) (hn : ∀ v ∈ vs, ∀ O, Γ[v]? ≠ some (.own O))
    (hw : ∀ v σ H (Q : St → Hp → Prop), t v (L2.wipe σ vs) H (fun σ2 H2 => L2.wipe σ2 vs = L2.wipe σ vs → Q σ2 H2) → t v (L2.wipe σ vs) H (fun σ2 H2 => L2.wipe σ2 vs = L2.wipe σ vs ∧ Q σ2 H2))
    (ht : ∀ x, EvTs (C.blk scope) (up (wipeG Γ vs) x) ifs (mt x)) (he : ∀ x, Ev (C.blk scope) (up (wipeG Γ vs) x) elt r' (me x))
    {X : Cx} {Wx : WX} (ok : C.Ok X) (tk : Takes X Wx) {F H : Hp} {g : Nat → Hp} {σ : St} (s : StOk C F H Γ σ g) {Q : VK}
    (hm : (do let xs ← m; W.noX (compM mt me xs)).wp (fun a => ∀ (F' H' : Hp) (g' : Nat → Hp) (G : Hp) (v : V), Fr F H (dU g) F' H' (fun b => dU g' b ∨ G b ≠ none) → StOk C F' H' Γ σ g' → Same G H' → Dis F' G → (∀ i, Dis (g' i) G) → (∀ b, G b ≠ none → C.fr b) → (oL C.fr r' a).p F' G v → Q v H') (XEnd C F H (dU g) Γ σ Wx)) :
    tLc (WI X tg iter) t (fun σ2 H2 Q => ∀ (s0 : Shared) (H0 : Hp) (Ca : Addr) (cl : List (Str × Addr)) (fp : List Addr), ∃ tt, PTs (X.blk s0 H0 scope (compEnvC scope cl Ca X.env) fp) ifs tt ∧ tt σ2 H2 Q)
      (fun σ2 H2 Q => ∀ (s0 : Shared) (H0 : Hp) (Ca : Addr) (cl : List (Str × Addr)) (fp : List Addr), WE (X.blk s0 H0 scope (compEnvC scope cl Ca X.env) fp) elt σ2 H2 Q) vs σ H Q := by
  refine hi X Wx ok tk F H g σ s _ (m.mono (fun xs hx F1 H1 g1 J f1 s1 hJ D hD => ?_) (fun e he => he) hm)
  refine ⟨fun i n Hc => n = xs.length - i ∧ i ≤ xs.length ∧ ∃ Fc gc accV acc, StOk C Fc Hc Γ σ gc ∧ Same F1 Fc ∧ Fr F H (dU g) Fc Hc (fun b => dU gc b ∨ one D (.lst accV) b ≠ none) ∧ Hc D = some (.lst accV) ∧ Fc D = none ∧ (∀ j, gc j D = none) ∧ C.fr D ∧ All2 (fun u y => (r' y).p Fc u) accV acc ∧ acc.length ≤ i ∧
      (compM mt me (xs.drop i)).wp (fun zs => ∀ (F' H' : Hp) (g' : Nat → Hp) (G : Hp) (v : V), Fr F H (dU g) F' H' (fun b => dU g' b ∨ G b ≠ none) → StOk C F' H' Γ σ g' → Same G H' → Dis F' G → (∀ i, Dis (g' i) G) → (∀ b, G b ≠ none → C.fr b) → (oL C.fr r' (acc ++ zs)).p F' G v → Q v H') (fun _ => False), ⟨xs.length, by simp, Nat.zero_le _, ?_⟩, ?_⟩
  · obtain ⟨f2, s2, h3, h4, h5, h6, h7⟩ := new_own (O := oL C.fr r' []) (o := .lst []) s1 hD (fun n => ⟨D, [], rfl, n, rfl, .nil⟩)
    refine ⟨F1, g1, [], [], s2, Same.refl _, f1.trans f2, upd_same, ?_, fun j => ?_, s1.fr D hD, .nil, Nat.zero_le _, hx⟩
    · rcases h4 D with q | q
      · exact q
      · rw [one_same] at q; cases q
    · rcases h5 j D with q | q
      · exact q
      · rw [one_same] at q; cases q
  · rintro i n Hc ⟨rfl, hi', Fc, gc, accV, acc, sc, hF1, fc, hD', hFD, hgD, frD, hacc, hlen, hwp⟩
    by_cases hlt : i < xs.length
    · refine .inr ⟨hJ.go i Fc Hc hF1 sc.sF hlt, _, fun H' h => ⟨xs.length - (i + 1), by omega, h⟩, fun v H' y => ?_⟩
      obtain ⟨x, hxi⟩ : ∃ x, xs[i]? = some x := ⟨_, List.getElem?_eq_getElem hlt⟩
      have hdrop : xs.drop i = x :: xs.drop (i + 1) := by
        rw [List.drop_eq_getElem_cons hlt]
        have := List.getElem?_eq_getElem hlt
        rw [hxi] at this
        rw [← Option.some.inj this]
      obtain ⟨Gy, hGy, eH', ry⟩ := hJ.yld i x Fc Hc v H' hF1 sc.sF hxi y
      subst eH'
      obtain ⟨s3, f3⟩ := sc.grow hGy
      refine hw v σ _ _ ?_
      refine hg.rd _ _ _ gc _ x v _ (StOk.blk.mpr (s3.wipe vs)) ry fun σ2 s4 hwσ => ?_
      intro s0 H0 Ca cl fp
      rw [hdrop] at hwp
      refine (ht x) _ (fun _ _ _ _ => False) (ok.blk s0 H0 scope cl Ca fp) takes0 _ _ gc σ2 s4 _ ((mt x).mono (fun b hb F5 H5 g5 f5 s5 => ?_) (fun e h => h.elim) hwp)
      have back : ∀ {F6 H6 : Hp} {g6 : Nat → Hp}, Fr (uni Fc Gy) (uni Hc Gy) (dU gc) F6 H6 (dU g6) → StOk (C.blk scope) F6 H6 (up (wipeG Γ vs) x) σ2 g6 → StOk C F6 H6 Γ σ g6 := fun {F6 H6 g6} f s6 =>
        s3.unwipe (StOk.blk.mp s6) f.sF (hup x) hwσ hn
      cases b with
      | false =>
        rw [if_neg Bool.false_ne_true]
        obtain ⟨k1, k2, k3, _, _, k4⟩ := lc_step (o' := .lst accV) fc hD' hFD hgD hGy f5 (back f5 s5)
        exact ⟨rfl, hlt, F5, g5, accV, acc, back f5 s5, (hF1.trans uni_l).trans f5.sF, k4, k1, k2, k3, frD, hacc.imp fun u y z => (r' y).mono (uni_l.trans f5.sF) z, Nat.le_succ_of_le hlen, hb⟩
      | true =>
        rw [if_pos rfl]
        intro s0 H0 Ca cl fp
        refine he x _ (fun _ _ _ _ => False) (ok.blk s0 H0 scope cl Ca fp) takes0 F5 H5 g5 σ2 s5 _ ((me x).mono (fun y hy F6 H6 g6 w f6 s6 r6 => ?_) (fun e h => h.elim) hb)
        have f56 := f5.trans f6
        obtain ⟨k1, k2, k3, k4, k5, _⟩ := lc_step (o' := .lst (accV ++ [w])) fc hD' hFD hgD hGy f56 (back f56 s6)
        refine ⟨accV, k1, ?_, rfl, hlt, F6, g6, accV ++ [w], acc ++ [y], k4, (hF1.trans uni_l).trans f56.sF, k5, upd_same, k2, k3, frD, (hacc.imp fun u y z => (r' y).mono (uni_l.trans f56.sF) z).snoc r6, ?_, ?_⟩
        · rw [hacc.length]
          exact Nat.lt_of_lt_of_le (Nat.lt_of_le_of_lt hlen hlt) hJ.len
        · rw [List.length_append, List.length_singleton]
          exact Nat.succ_le_succ hlen
        · refine (compM mt me (xs.drop (i + 1))).mono (fun zs hz => ?_) (fun _ h => h) hy
          rw [List.append_assoc, List.singleton_append]
          exact hz
    · have e : i = xs.length := by omega
      subst e
      refine .inl ⟨hJ.stop _ Fc Hc hF1 sc.sF (Nat.le_refl _), ?_⟩
      rw [List.drop_length] at hwp
      have hend := hwp
      refine hend Fc Hc gc (one D (.lst accV)) (.ref D) fc sc (fun b o q => ?_) (fun b => ?_) (fun j b => ?_) (fun b q => ?_) ⟨D, accV, rfl, frD, rfl, by rw [List.append_nil]; exact hacc⟩
      · by_cases z : b = D
        · subst z; rw [one_same] at q; rw [hD']; exact q
        · rw [one_ne z] at q; cases q
      · by_cases z : b = D
        · subst z; exact .inl hFD
        · exact .inr (one_ne z)
      · by_cases z : b = D
        · subst z; exact .inl (hgD j)
        · exact .inr (one_ne z)
      · by_cases z : b = D
        · subst z; exact frD
        · exact absurd (one_ne z) q
/-- what a comprehension wants -/
structure LcOk (C : Cc) (Γ : List Slot) (tg : Expr) (scope : Scope) (own : List (Str × Nat)) {α : Type} (r : α → Rp) (t : TG) (up : List Slot → α → List Slot) : Prop where
  blk : BlkOk C.N C.sc scope own
  g : EvG (C.blk scope) tg r t up
  up : ∀ x i, i ∉ own.map (·.2) → (up (wipeG Γ (own.map (·.2))) x)[i]? = Γ[i]?
  no : ∀ v ∈ own.map (·.2), ∀ O, Γ[v]? ≠ some (.own O)
  w : ∀ v σ H (Q : St → Hp → Prop), t v (L2.wipe σ (own.map (·.2))) H (fun σ2 H2 => L2.wipe σ2 (own.map (·.2)) = L2.wipe σ (own.map (·.2)) → Q σ2 H2) → t v (L2.wipe σ (own.map (·.2))) H (fun σ2 H2 => L2.wipe σ2 (own.map (·.2)) = L2.wipe σ (own.map (·.2)) ∧ Q σ2 H2)
theorem EvO.comp {tg iter elt : Expr} {ifs : List Expr} {scope : Scope} {pos : Pos} {own : List (Str × Nat)} {r : α → Rp} {r' : β → Rp} {m : W (List α)} {mt : α → W Bool} {me : α → W β} {t : TG} {up : List Slot → α → List Slot} (hL : LcOk C Γ tg scope own r t up) (hi : EvI C Γ tg iter r m)
    (ht : ∀ x, EvTs (C.blk scope) (up (wipeG Γ (own.map (·.2))) x) ifs (mt x)) (he : ∀ x, Ev (C.blk scope) (up (wipeG Γ (own.map (·.2))) x) elt r' (me x)) (hs : ∀ (env : Env) x, foldedSetIterable iter env x = pure x := by intro _ _; rfl) (hcm : C.cm = true := by rfl) :
    EvO C Γ (.ListComp elt [⟨tg, iter, ifs, 0⟩] scope pos) (oL C.fr r') (do let xs ← m; W.noX (compM mt me xs)) :=
  fun X Wx ok tk F H g σ s Q hm => by
    refine WE.of (pe_lc (own := own) (ok.calm.trans hcm) ok.ndX pi_W (by rw [ok.N, ok.sc]; exact hL.blk) (fun s0 H0 Ca cl fp => hL.g.pg _ (ok.blk s0 H0 scope cl Ca fp)) (fun s0 H0 Ca cl fp => ⟨fun pins s σ H Q I h => ?_⟩) (fun s0 H0 Ca cl fp => ⟨fun pins s σ H Q I h => pe_W.run pins s σ H Q I (h s0 H0 Ca cl fp)⟩) (hs X.env))
      (tLc_of hi hL.g hL.up hL.no hL.w ht he ok tk s hm)
    obtain ⟨tt, h1, h2⟩ := h s0 H0 Ca cl fp
    exact h1.run pins s σ H Q I h2
/-- the slots of a single name -/
theorem LcOk.one {x : Str} {p : Pos} {i : Nat} {scope : Scope} {r : α → Rp} (hb : blkC C.N C.sc scope [(x, i)] = true) (hN : C.N[i]? = some x) (hx : Sto (C.blk scope) x) (hn : ∀ O, Γ[i]? ≠ some (.own O)) :
    LcOk C Γ (.Name x p) scope [(x, i)] r (gName i) (fun Γ a => Γ.set i (.val (r a))) where
  blk := blkOk_by hb
  g := EvG.name hN hx
  up := fun a j hj => by
    simp only [List.map_cons, List.map_nil, List.mem_singleton] at hj
    show ((Γ.set i .no).set i (.val (r a)))[j]? = _
    rw [List.getElem?_set_ne (fun q => hj q.symm), List.getElem?_set_ne (fun q => hj q.symm)]
  no := fun v hv O => by
    simp only [List.map_cons, List.map_nil, List.mem_singleton] at hv
    subst hv
    exact hn O
  w := fun v σ H Q h => by
    have e : L2.wipe ((L2.wipe σ [i]).set i (some v)) [i] = L2.wipe σ [i] := by
      show ((σ.set i none).set i (some v)).set i none = σ.set i none
      rw [List.set_set, List.set_set]
    exact ⟨e, h e⟩
theorem LcOk.two {x y : Str} {p1 p2 tp : Pos} {k i j : Nat} {scope : Scope} {r1 : α → Rp} {r2 : β → Rp} (hb : blkC C.N C.sc scope [(x, i), (y, j)] = true) (hN : C.N[i]? = some x) (hM : C.N[j]? = some y) (hx : Sto (C.blk scope) x) (hy : Sto (C.blk scope) y) (hij : i ≠ j)
    (hn : ∀ O, Γ[i]? ≠ some (.own O)) (hn2 : ∀ O, Γ[j]? ≠ some (.own O)) (hcm : C.cm = true := by rfl) :
    LcOk C Γ (.Tuple [.Name x p1, .Name y p2] k tp) scope [(x, i), (y, j)] (rT2 C.K r1 r2) (gTup C.K 2 (gCons (gName i) (gCons (gName j) gNil))) (fun Γ x => (Γ.set i (.val (r1 x.1))).set j (.val (r2 x.2))) where
  blk := blkOk_by hb
  g := EvG.tup2 (C := C.blk scope) hN hM hx hy hcm
  up := fun a l hl => by
    simp only [List.map_cons, List.map_nil, List.mem_cons, List.not_mem_nil, or_false, not_or] at hl
    show ((((Γ.set j .no).set i .no).set i _).set j _)[l]? = _
    rw [List.getElem?_set_ne (fun q => hl.2 q.symm), List.getElem?_set_ne (fun q => hl.1 q.symm), List.getElem?_set_ne (fun q => hl.1 q.symm), List.getElem?_set_ne (fun q => hl.2 q.symm)]
  no := fun v hv O => by
    simp only [List.map_cons, List.map_nil, List.mem_cons, List.not_mem_nil, or_false] at hv
    rcases hv with rfl | rfl
    · exact hn O
    · exact hn2 O
  w := fun v σ H Q h => by
    obtain ⟨a, xs, e, q, l, v1, r, e1, v2, r2, e2, e3, h⟩ := h
    have e : L2.wipe (((L2.wipe σ [i, j]).set i (some v1)).set j (some v2)) [i, j] = L2.wipe σ [i, j] := by
      apply List.ext_getElem?
      intro n
      simp only [List.map_cons, List.map_nil, L2.wipe, List.getElem?_set, List.length_set]
      by_cases h1 : i = n
      · simp only [if_pos h1]
      · by_cases h2 : j = n
        · simp only [if_neg h1, if_pos h2]
        · simp only [if_neg h1, if_neg h2]
    refine ⟨a, xs, by assumption, q, l, v1, r, e1, v2, r2, e2, e3, e, h e⟩
theorem LcOk.three {γ : Type} {x y z : Str} {p1 p2 p3 tp : Pos} {k i j l : Nat} {scope : Scope} {r1 : α → Rp} {r2 : β → Rp} {r3 : γ → Rp} (hb : blkC C.N C.sc scope [(x, i), (y, j), (z, l)] = true) (hN : C.N[i]? = some x) (hM : C.N[j]? = some y) (hL : C.N[l]? = some z) (hx : Sto (C.blk scope) x) (hy : Sto (C.blk scope) y) (hz : Sto (C.blk scope) z) (hij : i ≠ j) (hil : i ≠ l) (hjl : j ≠ l)
    (hn : ∀ O, Γ[i]? ≠ some (.own O)) (hn2 : ∀ O, Γ[j]? ≠ some (.own O)) (hn3 : ∀ O, Γ[l]? ≠ some (.own O)) (hcm : C.cm = true := by rfl) :
    LcOk C Γ (.Tuple [.Name x p1, .Name y p2, .Name z p3] k tp) scope [(x, i), (y, j), (z, l)] (rT3 C.K r1 r2 r3) (gTup C.K 3 (gCons (gName i) (gCons (gName j) (gCons (gName l) gNil)))) (fun Γ x => ((Γ.set i (.val (r1 x.1))).set j (.val (r2 x.2.1))).set l (.val (r3 x.2.2))) where
  blk := blkOk_by hb
  g := EvG.tup3 (C := C.blk scope) hN hM hL hx hy hz hcm
  up := fun a n hl => by
    simp only [List.map_cons, List.map_nil, List.mem_cons, List.not_mem_nil, or_false, not_or] at hl
    show ((((((Γ.set l .no).set j .no).set i .no).set i _).set j _).set l _)[n]? = _
    rw [List.getElem?_set_ne (fun q => hl.2.2 q.symm), List.getElem?_set_ne (fun q => hl.2.1 q.symm), List.getElem?_set_ne (fun q => hl.1 q.symm), List.getElem?_set_ne (fun q => hl.1 q.symm), List.getElem?_set_ne (fun q => hl.2.1 q.symm), List.getElem?_set_ne (fun q => hl.2.2 q.symm)]
  no := fun v hv O => by
    simp only [List.map_cons, List.map_nil, List.mem_cons, List.not_mem_nil, or_false] at hv
    rcases hv with rfl | rfl | rfl
    · exact hn O
    · exact hn2 O
    · exact hn3 O
  w := fun v σ H Q h => by
    obtain ⟨a, xs, e, q, ln, v1, r, e1, v2, r2, e2, v3, r3, e3, e4, h⟩ := h
    have e5 : L2.wipe ((((L2.wipe σ [i, j, l]).set i (some v1)).set j (some v2)).set l (some v3)) [i, j, l] = L2.wipe σ [i, j, l] := by
      apply List.ext_getElem?
      intro n
      simp only [List.map_cons, List.map_nil, L2.wipe, List.getElem?_set, List.length_set]
      by_cases h1 : i = n
      · simp only [if_pos h1]
      · by_cases h2 : j = n
        · simp only [if_neg h1, if_pos h2]
        · by_cases h3 : l = n
          · simp only [if_neg h1, if_neg h2, if_pos h3]
          · simp only [if_neg h1, if_neg h2, if_neg h3]
    exact ⟨a, xs, e, q, ln, v1, r, e1, v2, r2, e2, v3, r3, e3, e4, e5, h e5⟩
end
end Y

/-! Y7: statements, loops -/
namespace Y
open PySem PySem.Spec L2
inductive Out where
  /-- falls through, with these slots; .. to a loop's next turn (continue too); continue; break -/
  | nx (Γ : List Slot) | lp (Γ : List Slot) | ct (Γ : List Slot) | bk (Γ : List Slot)
  /-- returns a value; returns, own parameters as said -/
  | rt (R : Rp) | rtG (R : Rp) (Γ : List Slot)
  /-- falls off the end -/
  | ft
  | any
def OutOk (C : Cc) (D : Ends) (F H : Hp) (U : Addr → Prop) : Out → Prop
  | .nx Γ => ∀ F' H' g' σ', Fr F H U F' H' (dU g') → StOk C F' H' Γ σ' g' → D.nx σ' H'
  | .lp Γ => (∀ F' H' g' σ', Fr F H U F' H' (dU g') → StOk C F' H' Γ σ' g' → D.nx σ' H') ∧ ∀ F' H' g' σ', Fr F H U F' H' (dU g') → StOk C F' H' Γ σ' g' → D.ct σ' H'
  | .ct Γ => ∀ F' H' g' σ', Fr F H U F' H' (dU g') → StOk C F' H' Γ σ' g' → D.ct σ' H'
  | .bk Γ => ∀ F' H' g' σ', Fr F H U F' H' (dU g') → StOk C F' H' Γ σ' g' → D.bk σ' H'
  | .rt R => ∀ F' H' g' v, Fr F H U F' H' (dU g') → Same F' H' → R.p F' v → D.rt v H'
  | .rtG R Γ => ∀ F' H' g' σ' v, Fr F H U F' H' (dU g') → StOk C F' H' Γ σ' g' → R.p F' v → D.rt v H'
  | .ft => ∀ F' H' g' σ', Fr F H U F' H' (dU g') → Same F' H' → D.nx σ' H'
  | .any => True
theorem OutOk.later {C : Cc} {D : Ends} {F H F' H' : Hp} {U U' : Addr → Prop} (f : Fr F H U F' H' U') {o : Out} (h : OutOk C D F H U o) : OutOk C D F' H' U' o := by
  cases o with
  | nx Γ => exact fun F2 H2 g2 σ2 f2 s => h F2 H2 g2 σ2 (f.trans f2) s
  | lp Γ => exact ⟨fun F2 H2 g2 σ2 f2 s => h.1 F2 H2 g2 σ2 (f.trans f2) s, fun F2 H2 g2 σ2 f2 s => h.2 F2 H2 g2 σ2 (f.trans f2) s⟩
  | ct Γ => exact fun F2 H2 g2 σ2 f2 s => h F2 H2 g2 σ2 (f.trans f2) s
  | bk Γ => exact fun F2 H2 g2 σ2 f2 s => h F2 H2 g2 σ2 (f.trans f2) s
  | rt R => exact fun F2 H2 g2 v f2 s r => h F2 H2 g2 v (f.trans f2) s r
  | rtG R Γ => exact fun F2 H2 g2 σ2 v f2 s r => h F2 H2 g2 σ2 v (f.trans f2) s r
  | ft => exact fun F2 H2 g2 σ2 f2 s => h F2 H2 g2 σ2 (f.trans f2) s
  | any => trivial
/-- what is wanted of an exception of a statement -/
def XEndS (C : Cc) (F H : Hp) (U : Addr → Prop) (Wx : WX) (e : Exn) : Prop :=
  ∀ F' H' g' σ' cls d, Fr F H U F' H' (dU g') → Same F' H' → XOk C.toMc e H H' (dU g') cls d → Wx cls d σ' H'
theorem XEndS.later {C : Cc} {F H F' H' : Hp} {U U' : Addr → Prop} {Wx : WX} {e : Exn} (f : Fr F H U F' H' U') (h : XEndS C F H U Wx e) : XEndS C F' H' U' Wx e :=
  fun F2 H2 g2 σ2 cls d f2 s x => h F2 H2 g2 σ2 cls d (f.trans f2) s (x.later f)
theorem XEndS.ex {C : Cc} {F H : Hp} {g : Nat → Hp} {Γ : List Slot} {σ : St} {Wx : WX} {e : Exn} (h : XEndS C F H (dU g) Wx e) : XEnd C F H (dU g) Γ σ Wx e :=
  fun F2 H2 g2 cls d f s x => h F2 H2 g2 σ cls d f s.sF x
structure Cc.OkS (C : Cc) (X : Cx) : Prop extends C.Ok X where
  po : PassesOwn (model X.prog X.w) X.A X.env X.xe
  stk : X.stack = X.env :: X.outer
  frm : X.env.frame = some X.env.locals
/-- a block -/
def Ex (C : Cc) (Γ : List Slot) (sts : List Stmt) {ω : Type} (J : ω → Out) (m : W ω) : Prop :=
  ∀ (X : Cx) (Wx : WX), C.OkS X → Takes X Wx → ∀ (F H : Hp) (g : Nat → Hp) (σ : St), StOk C F H Γ σ g → ∀ D : Ends,
    m.wp (fun o => OutOk C D F H (dU g) (J o)) (XEndS C F H (dU g) Wx) → WS X sts D σ H
/-- weaker slots, one by one -/
inductive Le1 : Slot → Slot → Prop
  | no {S} : Le1 S .no
  | rf {S} : Le1 S S
  | sb {R R' : Rp} (h : ∀ F v, R.p F v → R'.p F v) : Le1 (.val R) (.val R')
theorem Sub.of {Γ Γ' : List Slot} (h : All2 Le1 Γ Γ') : Sub Γ Γ' := ⟨h.length, fun i S' e => by
  obtain ⟨S, e1, l⟩ := h.get e
  cases l with
  | no => exact .inl rfl
  | rf => exact .inr (.inl e1)
  | sb hh => exact .inr (.inr ⟨_, _, rfl, e1, hh⟩)⟩
section
variable {C : Cc} {Γ Γ' : List Slot} {α β γ ω ω' : Type} {J : ω → Out} {e e1 e2 : Expr} {pos p : Pos} {rest : List Stmt}

/-! ### ends -/
theorem Ex.nil {o : ω} (hJ : J o = .nx Γ') (hs : All2 Le1 Γ Γ') : Ex C Γ [] J (pure o) := fun X Wx ok tk F H g σ s D hm => by
  replace hm : OutOk C D F H (dU g) (J o) := hm
  rw [hJ] at hm
  exact WS.of pss_nil (hm F H g σ Fr.refl (s.weak (Sub.of hs)))
theorem Ex.nilLp {o : ω} (hJ : J o = .lp Γ') (hs : All2 Le1 Γ Γ') : Ex C Γ [] J (pure o) := fun X Wx ok tk F H g σ s D hm => by
  replace hm : OutOk C D F H (dU g) (J o) := hm
  rw [hJ] at hm
  exact WS.of pss_nil (hm.1 F H g σ Fr.refl (s.weak (Sub.of hs)))
theorem Ex.nilFt {o : ω} (hJ : J o = .ft) : Ex C Γ [] J (pure o) := fun X Wx ok tk F H g σ s D hm => by
  replace hm : OutOk C D F H (dU g) (J o) := hm
  rw [hJ] at hm
  exact WS.of pss_nil (hm F H g σ Fr.refl s.sF)
/-- the first statement, then the others -/
theorem Ex.cons {st : Stmt} {m : W ω} (h : ∀ (X : Cx) (Wx : WX), C.OkS X → Takes X Wx → ∀ (F H : Hp) (g : Nat → Hp) (σ : St), StOk C F H Γ σ g → ∀ D : Ends,
    m.wp (fun o => OutOk C D F H (dU g) (J o)) (XEndS C F H (dU g) Wx) → W1 X st { D with nx := WS X rest D } σ H) : Ex C Γ (st :: rest) J m :=
  fun X Wx ok tk F H g σ s D hm => WS.of (pss_cons (ps_W (st := st)) (pss_W (st := rest))) (h X Wx ok tk F H g σ s D hm)
theorem Ex.ret {ρ : α → Rp} {m : W α} (f : α → ω) (hJ : ∀ a, J (f a) = .rt (ρ a)) (h : Ev C Γ e ρ m) : Ex C Γ (.Return (some e) pos :: rest) J (do let a ← m; pure (f a)) :=
  Ex.cons fun X Wx ok tk F H g σ s D hm => W1.of (ps_ret (pe_W (e := e))) (h X Wx ok.toOk tk F H g σ s _ (m.mono (fun a ha F1 H1 g1 v f1 s1 r1 => by
    replace ha : OutOk C D F H (dU g) (J (f a)) := ha
    rw [hJ] at ha
    exact ha F1 H1 g1 v f1 s1.sF r1) (fun e he => he.ex) hm))
theorem Ex.retG {ρ : α → Rp} {m : W α} (f : α → ω) (hJ : ∀ a, J (f a) = .rtG (ρ a) Γ') (hs : All2 Le1 Γ Γ') (h : Ev C Γ e ρ m) : Ex C Γ (.Return (some e) pos :: rest) J (do let a ← m; pure (f a)) :=
  Ex.cons fun X Wx ok tk F H g σ s D hm => W1.of (ps_ret (pe_W (e := e))) (h X Wx ok.toOk tk F H g σ s _ (m.mono (fun a ha F1 H1 g1 v f1 s1 r1 => by
    replace ha : OutOk C D F H (dU g) (J (f a)) := ha
    rw [hJ] at ha
    exact ha F1 H1 g1 σ v f1 (s1.weak (Sub.of hs)) r1) (fun e he => he.ex) hm))
theorem Ex.retN {o : ω} {R : Rp} (hJ : J o = .rt R) (hR : ∀ F, R.p F .non) : Ex C Γ (.Return none pos :: rest) J (pure o) :=
  Ex.cons fun X Wx ok tk F H g σ s D hm => W1.of ps_retN (by
    replace hm : OutOk C D F H (dU g) (J o) := hm
    rw [hJ] at hm
    exact hm F H g .non Fr.refl s.sF (hR F))
theorem Ex.cont {o : ω} (hJ : J o = .ct Γ') (hs : All2 Le1 Γ Γ') : Ex C Γ (.Continue pos :: rest) J (pure o) :=
  Ex.cons fun X Wx ok tk F H g σ s D hm => W1.of ps_continue (by
    replace hm : OutOk C D F H (dU g) (J o) := hm
    rw [hJ] at hm
    exact hm F H g σ Fr.refl (s.weak (Sub.of hs)))
theorem Ex.brk {o : ω} (hJ : J o = .bk Γ') (hs : All2 Le1 Γ Γ') : Ex C Γ (.Break pos :: rest) J (pure o) :=
  Ex.cons fun X Wx ok tk F H g σ s D hm => W1.of ps_break (by
    replace hm : OutOk C D F H (dU g) (J o) := hm
    rw [hJ] at hm
    exact hm F H g σ Fr.refl (s.weak (Sub.of hs)))
theorem Ex.pass {m : W ω} (h : Ex C Γ rest J m) : Ex C Γ (.Pass pos :: rest) J m :=
  Ex.cons fun X Wx ok tk F H g σ s D hm => W1.of ps_pass (h X Wx ok tk F H g σ s D hm)

/-! ### stores -/
theorem Ex.later {m : W ω} {X : Cx} {Wx : WX} {D : Ends} {F H F1 H1 : Hp} {g g1 : Nat → Hp} {σ1 : St} {Γ1 : List Slot} (h : Ex C Γ1 rest J m) (ok : C.OkS X) (tk : Takes X Wx) (f : Fr F H (dU g) F1 H1 (dU g1)) (s1 : StOk C F1 H1 Γ1 σ1 g1)
    (hm : m.wp (fun o => OutOk C D F H (dU g) (J o)) (XEndS C F H (dU g) Wx)) : WS X rest D σ1 H1 :=
  h X Wx ok tk F1 H1 g1 σ1 s1 D (m.mono (fun _ z => z.later f) (fun _ z => z.later f) hm)
theorem Ex.set {i : Nat} {x : Str} {px : Pos} {ρ : α → Rp} {m : W α} {k : α → W ω} (hN : C.N[i]? = some x) (hx : Sto C x) (h : Ev C Γ e ρ m) (hr : ∀ a, Ex C (Γ.set i (.val (ρ a))) rest J (k a))
    (hs : ∀ X : Cx, C.Ok X → swapsWith e (some (.Name x px)) pos.line X.env = pure false := by intro _ _; rfl) : Ex C Γ (.Assign [.Name x px] e pos :: rest) J (do let a ← m; k a) :=
  Ex.cons fun X Wx ok tk F H g σ s D hm => W1.of (ps_set ok.toOk.ndX (by rw [ok.N]; exact hN) (hx.loc ok.toOk) (pe_W (e := e)) (hs X ok.toOk) (hx.fn ok.toOk))
    (h X Wx ok.toOk tk F H g σ s _ (m.mono (fun a ha F1 H1 g1 v f1 s1 r1 => (hr a).later ok tk f1 (s1.set_val r1) ha) (fun e he => he.ex) hm))
theorem Ex.setO {i : Nat} {x : Str} {px : Pos} {O : α → Op} {m : W α} {k : α → W ω} (hN : C.N[i]? = some x) (hx : Sto C x) (h : EvO C Γ e O m) (hr : ∀ a, Ex C (Γ.set i (.own (O a))) rest J (k a))
    (hs : ∀ X : Cx, C.Ok X → swapsWith e (some (.Name x px)) pos.line X.env = pure false := by intro _ _; rfl) : Ex C Γ (.Assign [.Name x px] e pos :: rest) J (do let a ← m; k a) :=
  Ex.cons fun X Wx ok tk F H g σ s D hm => W1.of (ps_set ok.toOk.ndX (by rw [ok.N]; exact hN) (hx.loc ok.toOk) (pe_W (e := e)) (hs X ok.toOk) (hx.fn ok.toOk))
    (h X Wx ok.toOk tk F H g σ s _ (m.mono (fun a ha F1 H1 g1 G v f1 s1 sG dF dG nG r1 => (hr a).later ok tk (f1.less fun b ⟨j, q⟩ => by
      unfold setG at q
      split at q
      · exact .inr q
      · exact .inl ⟨j, q⟩) (s1.set_own r1 sG dF fun j _ => dG j) ha) (fun e he => he.ex) hm))
/-- name = [..], the name a local: as a value, as an own list -/
theorem lcSet {i : Nat} {y : Str} {py : Pos} {tg iter elt : Expr} {ifs : List Expr} {scope : Scope} {own : List (Str × Nat)} {r : α → Rp} {r' : β → Rp} {t : TG} {up : List Slot → α → List Slot} {m : W (List α)} {mt : α → W Bool} {me : α → W β} {k : List β → W ω}
    {S : List β → Slot} (hS : ∀ a F H g σ G v, StOk C F H Γ σ g → Same G H → Dis F G → (∀ j, Dis (g j) G) → (oL C.fr r' a).p F G v → ∃ F' g', StOk C F' H (Γ.set i (S a)) (σ.set i (some v)) g' ∧ Fr F H (fun b => dU g b ∨ G b ≠ none) F' H (dU g'))
    (hN : C.N[i]? = some y) (hy : C.sc.names.lookup y = some .local) (hL : LcOk C Γ tg scope own r t up) (hi : EvI C Γ tg iter r m)
    (ht : ∀ x, EvTs (C.blk scope) (up (wipeG Γ (own.map (·.2))) x) ifs (mt x)) (he : ∀ x, Ev (C.blk scope) (up (wipeG Γ (own.map (·.2))) x) elt r' (me x)) (hr : ∀ a, Ex C (Γ.set i (S a)) rest J (k a))
    (hsw : ∀ X, C.Ok X → swapsWith (.ListComp elt [⟨tg, iter, ifs, 0⟩] scope p) (some (.Name y py)) pos.line X.env = pure true) (hs : ∀ (env : Env) x, foldedSetIterable iter env x = pure x) (hcm : C.cm = true := by rfl) :
    Ex C Γ (.Assign [.Name y py] (.ListComp elt [⟨tg, iter, ifs, 0⟩] scope p) pos :: rest) J (do let a ← (do let xs ← m; W.noX (compM mt me xs)); k a) :=
  Ex.cons fun X Wx ok tk F H g σ s D hm => by
    refine W1.of (ps_setLc (i := i) (own := own) (ok.calm.trans hcm) ok.toOk.ndX (by rw [ok.N]; exact hN) (by rw [ok.sc]; exact hy) (hsw X ok.toOk) pi_W (by rw [ok.N, ok.sc]; exact hL.blk) (fun s0 H0 Ca cl fp => hL.g.pg _ (ok.toOk.blk s0 H0 scope cl Ca fp)) (fun s0 H0 Ca cl fp => ⟨fun pins s σ H Q I h => ?_⟩) (fun s0 H0 Ca cl fp => ⟨fun pins s σ H Q I h => pe_W.run pins s σ H Q I (h s0 H0 Ca cl fp)⟩) (hs X.env))
      (tLc_of hi hL.g hL.up hL.no hL.w ht he ok.toOk tk s ((do let xs ← m; W.noX (compM mt me xs) : W (List β)).mono (fun a ha F1 H1 g1 G v f1 s1 sG dF dG nG r1 => ?_) (fun e he => he.ex) hm))
    · obtain ⟨tt, h1, h2⟩ := h s0 H0 Ca cl fp
      exact h1.run pins s σ H Q I h2
    · obtain ⟨F2, g2, s2, f2⟩ := hS a F1 H1 g1 σ G v s1 sG dF dG r1
      exact (hr a).later ok tk (f1.trans f2) s2 ha
theorem lcOwn {i : Nat} {r' : β → Rp} (a : List β) (F H : Hp) (g : Nat → Hp) (σ : St) (G : Hp) (v : V) (s : StOk C F H Γ σ g) (sG : Same G H) (dF : Dis F G) (dG : ∀ j, Dis (g j) G) (r : (oL C.fr r' a).p F G v) :
    ∃ F' g', StOk C F' H (Γ.set i (.own (oL C.fr r' a))) (σ.set i (some v)) g' ∧ Fr F H (fun b => dU g b ∨ G b ≠ none) F' H (dU g') :=
  ⟨F, setG g i G, s.set_own r sG dF fun j _ => dG j, Fr.refl.less fun b ⟨j, q⟩ => by
    unfold setG at q
    split at q
    · exact .inr q
    · exact .inl ⟨j, q⟩⟩
theorem lcVal {i : Nat} {r' : β → Rp} (a : List β) (F H : Hp) (g : Nat → Hp) (σ : St) (G : Hp) (v : V) (s : StOk C F H Γ σ g) (sG : Same G H) (dF : Dis F G) (dG : ∀ j, Dis (g j) G) (r : (oL C.fr r' a).p F G v) :
    ∃ F' g', StOk C F' H (Γ.set i (.val (rN C.fr r' a))) (σ.set i (some v)) g' ∧ Fr F H (fun b => dU g b ∨ G b ≠ none) F' H (dU g') := by
  have s2 : StOk C (uni F G) H Γ σ g := ⟨s.len, fun i S e => (s.slot i S e).mono uni_l, fun b o e => by
    rcases of_uni e with q | ⟨_, q⟩
    · exact s.sF b o q
    · exact sG b o q, s.sG, fun j b => by
    rcases s.dF j b with q | q
    · rcases dG j b with q2 | q2
      · exact .inr q2
      · exact .inl (uni_none q q2)
    · exact .inr q, s.dG, s.fr⟩
  refine ⟨uni F G, g, s2.set_val (oL_rN dF r), uni_l, fun b q => ?_, fun b o e _ => e, fun b q => q, fun b q => .inl (.inl q)⟩
  cases e : F b with
  | some o => exact .inl (by simp)
  | none =>
    cases e2 : G b with
    | none => exact absurd (uni_none e e2) q
    | some o => exact .inr (.inr (.inr (by simp)))
theorem swLocal {y : Str} {elt : Expr} {gs : List Comprehension} {scope : Scope} {l : Nat} {py : Pos} (hk : C.sc.kind = .function) (hy : C.sc.names.lookup y = some .local) (hl : (py.line == p.line) = true)
    (ha : (scope.names.any fun (n, k) => n == y && (k == .local || k == .cell)) = false) (X : Cx) (ok : C.Ok X) : swapsWith (.ListComp elt gs scope p) (some (.Name y py)) l X.env = pure true :=
  sw_true (by rw [ok.sc]; exact hk) (by rw [ok.sc]; exact hy) hl ha
theorem swCell {y : Str} {elt : Expr} {gs : List Comprehension} {scope : Scope} {l : Nat} {py : Pos} (hy : C.sc.names.lookup y = some .cell) (X : Cx) (ok : C.Ok X) : swapsWith (.ListComp elt gs scope p) (some (.Name y py)) l X.env = pure false := by
  have ky : X.env.kindOf y = some .cell := by show X.env.scope.names.lookup y = _; rw [ok.sc]; exact hy
  unfold swapsWith
  simp only [ky]
  cases (X.env.blockKind == ScopeKind.function) <;> rfl
/-- an own list joins F -/
theorem Ex.freeze {i : Nat} {r : α → Rp} {xs : List α} {sts : List Stmt} {m : W ω} (hΓ : Γ[i]? = some (.own (oL C.fr r xs))) (h : Ex C (Γ.set i (.val (rN C.fr r xs))) sts J m) : Ex C Γ sts J m := fun X Wx ok tk F H g σ s D hm => by
  obtain ⟨v, e, r1⟩ := s.get_own hΓ
  have s1 : StOk C F H Γ σ (setG g i emp) → True := fun _ => trivial
  have sE : StOk C F H (Γ.set i .no) σ (setG g i emp) := ⟨by rw [List.length_set]; exact s.len, fun j S q => by
    by_cases hj : i = j
    · subst hj
      have hl : i < Γ.length := (List.getElem?_eq_some_iff.mp hΓ).1
      rw [List.getElem?_set_self hl] at q
      cases q
      trivial
    · rw [List.getElem?_set_ne hj] at q
      rw [setG_ne (fun z => hj z.symm)]
      exact s.slot j S q, s.sF, fun j => by
    by_cases hj : j = i
    · subst hj; rw [setG_same]; exact fun b o q => by cases q
    · rw [setG_ne hj]; exact s.sG j, fun j => by
    by_cases hj : j = i
    · subst hj; rw [setG_same]; exact Dis.emp
    · rw [setG_ne hj]; exact s.dF j, fun j k hjk => by
    by_cases hj : j = i
    · subst hj; rw [setG_same]; exact Dis.emp.symm
    · rw [setG_ne hj]
      by_cases hk : k = i
      · subst hk; rw [setG_same]; exact Dis.emp
      · rw [setG_ne hk]; exact s.dG j k hjk, s.fr⟩
  obtain ⟨F2, g2, s2, f2⟩ := lcVal (i := i) xs F H (setG g i emp) σ (g i) v sE (s.sG i) (s.dF i) (fun j => by
    by_cases hj : j = i
    · subst hj; rw [setG_same]; exact Dis.emp.symm
    · rw [setG_ne hj]; exact s.dG j i hj) r1
  have eσ : σ.set i (some v) = σ := by
    apply List.ext_getElem?
    intro j
    by_cases hj : i = j
    · subst hj
      rw [List.getElem?_set_self (by rw [← s.len]; exact (List.getElem?_eq_some_iff.mp hΓ).1)]
      exact e.symm
    · rw [List.getElem?_set_ne hj]
  have eΓ : (Γ.set i .no).set i (.val (rN C.fr r xs)) = Γ.set i (.val (rN C.fr r xs)) := List.set_set ..
  rw [eσ, eΓ] at s2
  refine h.later ok tk (⟨f2.sF, fun b q => ?_, fun b o q n => f2.keep b o q fun z => ?_, f2.dom, fun b q => ?_⟩ : Fr F H (dU g) F2 H (dU g2)) s2 hm
  · rcases f2.fF b q with z | z | z | z
    · exact .inl z
    · exact .inr (.inl z)
    · obtain ⟨j, z⟩ := z
      by_cases hj : j = i
      · subst hj; rw [setG_same] at z; exact absurd rfl z
      · rw [setG_ne hj] at z; exact .inr (.inr ⟨j, z⟩)
    · exact .inr (.inr ⟨i, z⟩)
  · rcases z with ⟨j, z⟩ | z
    · by_cases hj : j = i
      · subst hj; rw [setG_same] at z; exact absurd rfl z
      · rw [setG_ne hj] at z; exact n ⟨j, z⟩
    · exact n ⟨i, z⟩
  · rcases f2.gs b q with z | z
    · rcases z with ⟨j, z⟩ | z
      · by_cases hj : j = i
        · subst hj; rw [setG_same] at z; exact absurd rfl z
        · rw [setG_ne hj] at z; exact .inl ⟨j, z⟩
      · exact .inl ⟨i, z⟩
    · exact .inr z
end
end Y

/-! Y8: more statements, loops, calls -/
namespace Y
open PySem PySem.Spec L2
section
variable {C : Cc} {Γ Γ' : List Slot} {α β γ ω ω' : Type} {J : ω → Out} {e e1 e2 : Expr} {pos p : Pos} {rest : List Stmt}
theorem Ex.expr {ρ : α → Rp} {m : W α} {k : α → W ω} (h : Ev C Γ e ρ m) (hr : ∀ a, Ex C Γ rest J (k a)) (hs : ∀ X : Cx, swapsWith e none pos.line X.env = pure false := by intro _; rfl) : Ex C Γ (.Expr e pos :: rest) J (do let a ← m; k a) :=
  Ex.cons fun X Wx ok tk F H g σ s D hm => W1.of (ps_expr (pe_W (e := e)) (hs X))
    (h X Wx ok.toOk tk F H g σ s _ (m.mono (fun a ha F1 H1 g1 v f1 s1 r1 => (hr a).later ok tk f1 s1 ha) (fun e he => he.ex) hm))
/-- a private heap of one object is written -/
theorem StOk.upd_own {F H : Hp} {σ : St} {g : Nat → Hp} (s : StOk C F H Γ σ g) {i : Nat} {a : Addr} {o o' : HO} {O' : Op} {v : V} (hg : g i = one a o) (hσ : σ[i]? = some (some v)) (hi : i < Γ.length) (r : O'.p F (one a o') v) :
    StOk C F (upd H a o') (Γ.set i (.own O')) σ (setG g i (one a o')) ∧ Fr F H (dU g) F (upd H a o') (dU (setG g i (one a o'))) ∧ H a = some o := by
  have hga : g i a = some o := by rw [hg]; exact one_same
  have hHa : H a = some o := s.sG i a o hga
  have hFa : F a = none := by
    rcases s.dF i a with q | q
    · exact q
    · rw [hga] at q; cases q
  have hgj : ∀ j, j ≠ i → g j a = none := fun j hj => by
    rcases s.dG j i hj a with q | q
    · exact q
    · rw [hga] at q; cases q
  refine ⟨⟨by rw [List.length_set]; exact s.len, fun j S q => ?_, fun b u q => ?_, fun j => ?_, fun j => ?_, fun j k hjk => ?_, fun b q => ?_⟩, ⟨Same.refl _, fun b q => .inl q, fun b u q n => ?_, fun b q => ?_, fun b q => ?_⟩, hHa⟩
  · by_cases hj : i = j
    · subst hj
      rw [List.getElem?_set_self hi] at q
      cases q
      rw [setG_same]
      exact ⟨v, hσ, r⟩
    · rw [List.getElem?_set_ne hj] at q
      rw [setG_ne (fun z => hj z.symm)]
      exact s.slot j S q
  · rw [upd_ne (fun z => by rw [z, hFa] at q; cases q)]; exact s.sF b u q
  · by_cases hj : j = i
    · subst hj
      rw [setG_same]
      intro b u q
      by_cases z : b = a
      · subst z; rw [one_same] at q; rw [upd_same]; exact q
      · rw [one_ne z] at q; cases q
    · rw [setG_ne hj]
      intro b u q
      rw [upd_ne (fun z => by rw [z, hgj j hj] at q; cases q)]
      exact s.sG j b u q
  · by_cases hj : j = i
    · subst hj
      rw [setG_same]
      intro b
      by_cases z : b = a
      · subst z; exact .inl hFa
      · exact .inr (one_ne z)
    · rw [setG_ne hj]; exact s.dF j
  · by_cases hj : j = i
    · subst hj
      rw [setG_same, setG_ne (fun z => hjk z.symm)]
      intro b
      by_cases z : b = a
      · subst z; exact .inr (hgj k (fun z => hjk z.symm))
      · exact .inl (one_ne z)
    · rw [setG_ne hj]
      by_cases hk : k = i
      · subst hk
        rw [setG_same]
        intro b
        by_cases z : b = a
        · subst z; exact .inl (hgj j hj)
        · exact .inr (one_ne z)
      · rw [setG_ne hk]; exact s.dG j k hjk
  · by_cases z : b = a
    · rw [z, upd_same] at q; cases q
    · rw [upd_ne z] at q; exact s.fr b q
  · by_cases z : b = a
    · subst z; exact absurd ⟨i, by rw [hga]; simp⟩ n
    · rw [upd_ne z]; exact q
  · by_cases z : b = a
    · rw [z, upd_same]; simp
    · rw [upd_ne z]; exact q
  · obtain ⟨j, q⟩ := q
    by_cases hj : j = i
    · subst hj
      rw [setG_same] at q
      by_cases z : b = a
      · subst z; exact .inl ⟨j, by rw [hga]; simp⟩
      · exact absurd (one_ne z) q
    · rw [setG_ne hj] at q; exact .inl ⟨j, q⟩
theorem fewArgs1 {X : Cx} (n : NoStar e) (cpos : Pos) : ((backTo cpos (starEach [e] X.env)).all (fun x => !x.1) && (backToKw cpos (keywordEach [] X.env)).all (fun x => x.1.isSome)
      && decide ([e].length + ([] : List Keyword).length + (if ([] : List Keyword).isEmpty then 0 else 1) < 30)) = true := by
  rw [n [] X.env]; rfl
theorem Ex.append {i : Nat} {x : Str} {px apos cpos : Pos} {r : α → Rp} {xs : List α} {m : W α} {k : α → W ω} (hN : C.N[i]? = some x) (hv : Vis C.sc x) (hΓ : Γ[i]? = some (.own (oL C.fr r xs))) (h : Ev C Γ e r m) (n : NoStar e) (hr : ∀ a, Ex C (Γ.set i (.own (oL C.fr r (xs ++ [a])))) rest J (k a))
    (hline : (apos.endLine == cpos.line) = true := by rfl) (hd : (x == ("__debug__" : Str)) = false := by decide) (hcd : (x == ("__classdict__" : Str)) = false := by decide) (hb : ∀ X : Cx, attributeBase (.Name x px) "append" X.env (eval (.Name x px) X.env) = eval (.Name x px) X.env := by intro _; rfl)
    (hs : ∀ X : Cx, swapsWith (.Call (.Attribute (.Name x px) "append" apos) [e] [] cpos) none pos.line X.env = pure false := by intro _; rfl) :
    Ex C Γ (.Expr (.Call (.Attribute (.Name x px) "append" apos) [e] [] cpos) pos :: rest) J (do let a ← m; W.req (xs.length ≤ 1000000) (k a)) :=
  Ex.cons fun X Wx ok tk F H g σ s D hm => by
    refine W1.of (ps_expr (pe_bm PySem.F.plainAttrs_list PySem.F.slot_list_append PySem.F.type_list_append mt_append (pe_var (i := i) (by rw [ok.N]; exact hN) (by rw [ok.sc]; exact hv) hd hcd) (pa_cons (pe_W (e := e)) pa_nil (n [] X.env)) (hb X) (fewArgs1 n cpos) hline (n [] X.env) rfl) (hs X)) ?_
    obtain ⟨v, eσ, a, vs, ev, na, eg, t⟩ := s.get_own hΓ
    subst ev
    have hHa : H a = some (.lst vs) := s.sG i a _ (by rw [eg]; exact one_same)
    refine ⟨.ref a, eσ, .inl ⟨rfl, _, SqL.of hHa⟩, ?_⟩
    refine h X Wx ok.toOk tk F H g σ s _ (m.mono (fun y hy F1 H1 g1 w f1 s1 r1 => ?_) (fun e he => he.ex) hm)
    obtain ⟨v', eσ', a', vs', ev', na', eg', t'⟩ := s1.get_own hΓ
    rw [eσ] at eσ'
    cases eσ'
    cases ev'
    obtain ⟨s2, f2, hH1⟩ := s1.upd_own (O' := oL C.fr r (xs ++ [y])) (o' := .lst (vs' ++ [w])) eg' eσ (List.getElem?_eq_some_iff.mp hΓ).1 ⟨a, vs' ++ [w], rfl, na', rfl, t'.snoc r1⟩
    refine ⟨a, vs', w, rfl, rfl, hH1, ?_, ?_⟩
    · rw [t'.length, PySem.sizeLine_eq]
      have := hy.1
      omega
    · exact (hr y).later ok tk (f1.trans f2) s2 hy.2
/-- xs[i] = e -/
def setI (xs : List α) (i : Int) (a : α) : W (List α) := match ixN xs.length i with | some j => pure (xs.set j a) | none => W.bad
theorem Ex.setIx {i : Nat} {x : Str} {px spos : Pos} {r : α → Rp} {xs : List α} {m : W α} {mi : W Int} {ix : Expr} {k : List α → W ω} (hN : C.N[i]? = some x) (hv : Vis C.sc x) (hΓ : Γ[i]? = some (.own (oL C.fr r xs))) (h : Ev C Γ e r m) (hi : Ev C Γ ix rI mi) (hr : ∀ ys, Ex C (Γ.set i (.own (oL C.fr r ys))) rest J (k ys))
    (hd : (x == ("__debug__" : Str)) = false := by decide) (hcd : (x == ("__classdict__" : Str)) = false := by decide) (hs : ∀ X : Cx, swapsWithSole [.Subscript (.Name x px) ix spos] e pos.line X.env = pure false := by intro _; rfl)
    (hw : ∀ X : Cx, swappedStores [.Subscript (.Name x px) ix spos] e X.env = pure none := by intro _; rfl) (h1 : ∀ X : Cx, (assignEach [.Subscript (.Name x px) ix spos] X.env).map (·.2) = [assign (.Subscript (.Name x px) ix spos) X.env] := by intro _; rfl)
    (hst : ∀ (X : Cx) (t : TSet), PSet X t → PG X (.Subscript (.Name x px) ix spos) (gSub (tVar i) (WE X ix) t) → True := by intros; trivial) (hpg : ∀ X : Cx, PE X (.Name x px) (tVar i) → PG X (.Subscript (.Name x px) ix spos) (gSub (tVar i) (WE X ix) rSetL)) :
    Ex C Γ (.Assign [.Subscript (.Name x px) ix spos] e pos :: rest) J (do let a ← m; let j ← mi; let ys ← setI xs j a; k ys) :=
  Ex.cons fun X Wx ok tk F H g σ s D hm => by
    refine W1.of (ps_asg (pe_W (e := e)) (hpg X (pe_var (i := i) (by rw [ok.N]; exact hN) (by rw [ok.sc]; exact hv) hd hcd)) (hs X) (hw X) (h1 X)) ?_
    refine h X Wx ok.toOk tk F H g σ s _ (m.mono (fun y hy F1 H1 g1 w f1 s1 r1 => ?_) (fun e he => he.ex) hm)
    obtain ⟨v, eσ, a, vs, ev, na, eg, t⟩ := s1.get_own hΓ
    subst ev
    refine ⟨.ref a, eσ, ?_⟩
    refine hi X Wx ok.toOk tk F1 H1 g1 σ s1 _ (mi.mono (fun j hj F2 H2 g2 u f2 s2 r2 => ?_) (fun e he => (he.later f1).ex) hy)
    obtain ⟨v', eσ', a', vs', ev', na', eg', t'⟩ := s2.get_own hΓ
    rw [eσ] at eσ'
    cases eσ'
    cases ev'
    replace hj : (W.bind (setI xs j y) k).wp _ _ := hj
    unfold setI at hj
    cases q : ixN xs.length j with
    | none => rw [q] at hj; exact hj.elim
    | some n =>
      rw [q] at hj
      obtain ⟨s3, f3, hH2⟩ := s2.upd_own (O' := oL C.fr r (xs.set n y)) (o' := .lst (vs'.set n w)) eg' eσ (List.getElem?_eq_some_iff.mp hΓ).1 ⟨a, vs'.set n w, rfl, na', rfl, t'.set ((r y).mono f2.sF r1) n⟩
      exact ⟨a, vs', j, n, rfl, r2, hH2, by rw [t'.length]; exact q, (hr _).later ok tk (f1.trans (f2.trans f3)) s3 hj⟩
/-- a, b = x, y -/
theorem Ex.par {i j : Nat} {x y : Str} {a b : Expr} {px py pt pt2 : Pos} {kt k2 : Nat} {ρa : α → Rp} {ρb : β → Rp} {ma : W α} {mb : W β} {k : α → β → W ω} (hN : C.N[i]? = some x) (hM : C.N[j]? = some y) (hij : i ≠ j) (hx : C.sc.names.lookup x = some .local) (hy : C.sc.names.lookup y = some .local)
    (ha : Ev C Γ a ρa ma) (hb : Ev C Γ b ρb mb) (n1 : NoStar a) (n2 : NoStar b) (hw : ∀ env : Env, env.scope = C.sc → swappedStores [.Tuple [.Name x px, .Name y py] kt pt] (.Tuple [a, b] k2 pt2) env = pure (some [x, y]))
    (hr : ∀ u v, Ex C ((Γ.set i (.val (ρa u))).set j (.val (ρb v))) rest J (k u v)) (hs : ∀ X : Cx, swapsWithSole [.Tuple [.Name x px, .Name y py] kt pt] (.Tuple [a, b] k2 pt2) pos.line X.env = pure false := by intro _; rfl) (hcm : C.cm = true := by rfl) :
    Ex C Γ (.Assign [.Tuple [.Name x px, .Name y py] kt pt] (.Tuple [a, b] k2 pt2) pos :: rest) J (do let u ← ma; let v ← mb; k u v) :=
  Ex.cons fun X Wx ok tk F H g σ s D hm => by
    refine W1.of (ps_par (i := i) (j := j) (ok.calm.trans hcm) ok.toOk.ndX (by rw [ok.N]; exact hN) (by rw [ok.N]; exact hM) hij (by rw [ok.sc]; exact hx) (by rw [ok.sc]; exact hy) (pa_cons (pe_W (e := a)) (pa_cons (pe_W (e := b)) pa_nil (n2 [] X.env)) (n1 [b] X.env)) (hw X.env ok.sc) (hs X)) ?_
    refine ha X Wx ok.toOk tk F H g σ s _ (ma.mono (fun u hu F1 H1 g1 v f1 s1 r1 => ?_) (fun e he => he.ex) hm)
    refine hb X Wx ok.toOk tk F1 H1 g1 σ s1 _ (mb.mono (fun w hw F2 H2 g2 v2 f2 s2 r2 => ?_) (fun e he => (he.later f1).ex) hu)
    exact ⟨v, v2, rfl, (hr u w).later ok tk (f1.trans f2) ((s2.set_val ((ρa u).mono f2.sF r1)).set_val r2) hw⟩
/-- targets that unpack: a, b = f(..) -/
theorem Ex.asgG {tg : Expr} {r : α → Rp} {t : TG} {up : List Slot → α → List Slot} {m : W α} {k : α → W ω} (hg : EvG C tg r t up) (h : Ev C Γ e r m) (hr : ∀ a, Ex C (up Γ a) rest J (k a)) (hs : ∀ X : Cx, swapsWithSole [tg] e pos.line X.env = pure false := by intro _; rfl) (hw : ∀ X : Cx, swappedStores [tg] e X.env = pure none := by intro _; rfl)
    (h1 : ∀ X : Cx, (assignEach [tg] X.env).map (·.2) = [assign tg X.env] := by intro _; rfl) : Ex C Γ (.Assign [tg] e pos :: rest) J (do let a ← m; k a) :=
  Ex.cons fun X Wx ok tk F H g σ s D hm => by
    refine W1.of (ps_asg (pe_W (e := e)) (hg.pg X ok.toOk) (hs X) (hw X) (h1 X)) ?_
    refine h X Wx ok.toOk tk F H g σ s _ (m.mono (fun y hy F1 H1 g1 w f1 s1 r1 => ?_) (fun e he => he.ex) hm)
    exact hg.rd Γ F1 H1 g1 σ y w _ s1 r1 fun σ' s' => (hr y).later ok tk f1 s' hy
/-- x += e, ints -/
theorem Ex.augI {i : Nat} {x : Str} {px : Pos} {op : Operator} {f : Int → Int → Int} {m : W Int} {k : Int → W ω} {z : Int} (hop : ∀ X : Cx, PIp X op (ipI f)) (hN : C.N[i]? = some x) (hx : Sto C x) (hΓ : Γ[i]? = some (.val (rI z))) (h : Ev C Γ e rI m) (hr : ∀ a, Ex C (Γ.set i (.val (rI (f z a)))) rest J (k a)) :
    Ex C Γ (.AugAssign (.Name x px) op e pos :: rest) J (do let a ← m; k a) :=
  Ex.cons fun X Wx ok tk F H g σ s D hm => by
    refine W1.of (ps_aug ok.toOk.ndX (by rw [ok.N]; exact hN) (hx.loc ok.toOk) (pe_W (e := e)) (hop X) (hx.fn ok.toOk)) ?_
    obtain ⟨v, e1, r0⟩ := s.get_val hΓ
    refine ⟨v, e1, h X Wx ok.toOk tk F H g σ s _ (m.mono (fun y hy F1 H1 g1 w f1 s1 r1 => ⟨z, y, r0, r1, ?_⟩) (fun e he => he.ex) hm)⟩
    exact (hr y).later ok tk f1 (s1.set_val rfl) hy

/-! ### ifs -/
def exOf : Out → Out
  | .lp Γ => .ct Γ
  | .nx _ => .any
  | .ft => .any
  | o => o
theorem OutOk.exOf {D : Ends} {F H : Hp} {U : Addr → Prop} {o : Out} {N : St → Hp → Prop} (h : OutOk C D F H U o) : OutOk C { D with nx := N } F H U (Y.exOf o) := by
  cases o with
  | nx Γ => trivial
  | lp Γ => exact h.2
  | ct Γ => exact h
  | bk Γ => exact h
  | rt R => exact h
  | rtG R Γ => exact h
  | ft => trivial
  | any => trivial
theorem W1.ifs {c : Expr} {a b : List Stmt} {X : Cx} {D : Ends} {σ : St} {H : Hp} (h : WT X c σ H fun t H1 => if t = true then WS X a D σ H1 else WS X b D σ H1) : W1 X (.If c a b pos) D σ H := W1.of (ps_if (pt_W (e := c)) (pss_W (st := a)) (pss_W (st := b))) h
theorem wpIte {b : Bool} {m n : W ω} {P : ω → Prop} {E : Exn → Prop} : (if b = true then m else n).wp P E ↔ (b = true → m.wp P E) ∧ (b = false → n.wp P E) := by cases b <;> simp
/-- if c: A, A never falls through -/
theorem Ex.ifx {c : Expr} {a : List Stmt} {mc : W Bool} {m1 m2 : W ω} (hc : EvT C Γ c mc) (h1 : Ex C Γ a (fun o => exOf (J o)) m1) (h2 : Ex C Γ rest J m2) : Ex C Γ (.If c a [] pos :: rest) J (do let b ← mc; if b = true then m1 else m2) :=
  Ex.cons fun X Wx ok tk F H g σ s D hm => by
    refine W1.ifs (hc X Wx ok.toOk tk F H g σ s _ (mc.mono (fun b hb F1 H1 g1 f1 s1 => ?_) (fun e he => he.ex) hm))
    cases b with
    | true =>
      rw [if_pos rfl]
      exact h1 X Wx ok tk F1 H1 g1 σ s1 _ (m1.mono (fun o z => (z.later f1).exOf) (fun _ z => z.later f1) hb)
    | false =>
      rw [if_neg Bool.false_ne_true]
      refine WS.of pss_nil ?_
      exact h2.later ok tk f1 s1 hb
/-- one statement -/
def Ex1 (C : Cc) (Γ : List Slot) (st : Stmt) {ω : Type} (J : ω → Out) (m : W ω) : Prop :=
  ∀ (X : Cx) (Wx : WX), C.OkS X → Takes X Wx → ∀ (F H : Hp) (g : Nat → Hp) (σ : St), StOk C F H Γ σ g → ∀ D : Ends,
    m.wp (fun o => OutOk C D F H (dU g) (J o)) (XEndS C F H (dU g) Wx) → W1 X st D σ H
theorem Ex.last {st : Stmt} {m : W ω} (h : Ex1 C Γ st J m) : Ex C Γ [st] J m := fun X Wx ok tk F H g σ s D hm => WS.of (pss_one (ps_W (st := st))) (h X Wx ok tk F H g σ s D hm)
theorem Ex1.ite {c : Expr} {a b : List Stmt} {mc : W Bool} {m1 m2 : W ω} (hc : EvT C Γ c mc) (h1 : Ex C Γ a J m1) (h2 : Ex C Γ b J m2) : Ex1 C Γ (.If c a b pos) J (do let b ← mc; if b = true then m1 else m2) :=
  fun X Wx ok tk F H g σ s D hm => by
    refine W1.ifs (hc X Wx ok.toOk tk F H g σ s _ (mc.mono (fun b hb F1 H1 g1 f1 s1 => ?_) (fun e he => he.ex) hm))
    cases b with
    | true =>
      rw [if_pos rfl]
      exact h1.later ok tk f1 s1 hb
    | false =>
      rw [if_neg Bool.false_ne_true]
      exact h2.later ok tk f1 s1 hb
/-- what follows an outcome -/
def SeqTo (C : Cc) (rest : List Stmt) (J : ω → Out) (m : W ω) : Out → Prop
  | .nx Γ => Ex C Γ rest J m
  | .rt R => ∃ o, m = pure o ∧ J o = .rt R
  | .rtG R Γ => ∃ o, m = pure o ∧ J o = .rtG R Γ
  | .bk Γ => ∃ o, m = pure o ∧ J o = .bk Γ
  | .ct Γ => ∃ o, m = pure o ∧ J o = .ct Γ
  | _ => False
theorem SeqTo.ok {m : W ω} {X : Cx} {Wx : WX} {D : Ends} {F H : Hp} {g : Nat → Hp} (ok : C.OkS X) (tk : Takes X Wx) {o1 : Out} (q : SeqTo C rest J m o1) (hm : m.wp (fun o => OutOk C D F H (dU g) (J o)) (XEndS C F H (dU g) Wx)) :
    OutOk C { D with nx := WS X rest D } F H (dU g) o1 := by
  cases o1 with
  | nx Γ1 =>
    intro F1 H1 g1 σ1 f1 s1
    exact Ex.later q ok tk f1 s1 hm
  | rt R =>
    obtain ⟨o', e1, e2⟩ := q
    rw [e1] at hm
    replace hm : OutOk C D F H (dU g) (J o') := hm
    rw [e2] at hm
    exact hm
  | rtG R Γ1 =>
    obtain ⟨o', e1, e2⟩ := q
    rw [e1] at hm
    replace hm : OutOk C D F H (dU g) (J o') := hm
    rw [e2] at hm
    exact hm
  | bk Γ1 =>
    obtain ⟨o', e1, e2⟩ := q
    rw [e1] at hm
    replace hm : OutOk C D F H (dU g) (J o') := hm
    rw [e2] at hm
    exact hm
  | ct Γ1 =>
    obtain ⟨o', e1, e2⟩ := q
    rw [e1] at hm
    replace hm : OutOk C D F H (dU g) (J o') := hm
    rw [e2] at hm
    exact hm
  | lp Γ1 => exact q.elim
  | ft => exact q.elim
  | any => exact q.elim
/-- a statement, then the others by its outcome -/
theorem Ex.seq {st : Stmt} {J1 : ω' → Out} {m1 : W ω'} {k : ω' → W ω} (h1 : Ex1 C Γ st J1 m1) (h2 : ∀ o, SeqTo C rest J (k o) (J1 o)) : Ex C Γ (st :: rest) J (do let o ← m1; k o) :=
  Ex.cons fun X Wx ok tk F H g σ s D hm => h1 X Wx ok tk F H g σ s _ (m1.mono (fun o ho => (h2 o).ok ok tk ho) (fun _ z => z) hm)

/-! ### loops -/
inductive Fl (S ρ : Type) where
  | go (s : S) | ret (r : ρ) | brk (s : S)
def W.foldR {S ρ α : Type} (f : S → α → W (Fl S ρ)) : S → List α → W (Fl S ρ)
  | s, [] => W.ret (.go s)
  | s, x :: xs => W.bind (f s x) fun o => match o with
    | .go s' => W.foldR f s' xs
    | o => W.ret o
theorem Ex1.forR {S ρ : Type} {tg iter : Expr} {body : List Stmt} {r : α → Rp} {t : TG} {up : List Slot → α → List Slot} {m : W (List α)} {f : S → α → W (Fl S ρ)} (Γs : S → List Slot) (R : ρ → Out) (hR : ∀ x, (∃ R', R x = .rt R') ∨ ∃ R' Γ', R x = .rtG R' Γ') {s0 : S} (hi : EvI C Γ tg iter r m) (hg : EvG C tg r t up) (h0 : All2 Le1 Γ (Γs s0))
    (hb : ∀ s x, Ex C (up (Γs s) x) body (fun o : Fl S ρ => match o with | .go s' => .lp (Γs s') | .ret r => R r | .brk s' => .bk (Γs s')) (f s x))
    (hs : ∀ (env : Env) x, foldedSetIterable iter env x = pure x := by intro _ _; rfl) (hcm : C.cm = true := by rfl) : Ex1 C Γ (.For tg iter body [] pos) (fun o : Fl S ρ => match o with | .go s' => .nx (Γs s') | .ret r => R r | .brk s' => .nx (Γs s')) (do let xs ← m; W.foldR f s0 xs) :=
  fun X Wx ok tk F H g σ s D hm => by
    refine W1.of (ps_for ok.po (ok.calm.trans hcm) (pi_W (tg := tg) (iter := iter)) (hg.pg X ok.toOk) (pss_W (st := body)) (hs X.env)) ?_
    refine hi X Wx ok.toOk tk F H g σ s _ (m.mono (fun xs hx F1 H1 g1 J1 f1 s1 hJ => ?_) (fun e he => he.ex) hm)
    refine ⟨fun i n σ2 H2 => n = xs.length - i ∧ i ≤ xs.length ∧ ∃ st F2 g2, Same F1 F2 ∧ Fr F H (dU g) F2 H2 (dU g2) ∧ StOk C F2 H2 (Γs st) σ2 g2 ∧ (W.foldR f st (xs.drop i)).wp (fun o => OutOk C D F H (dU g) (match o with | .go s' => .nx (Γs s') | .ret r => R r | .brk s' => .nx (Γs s'))) (XEndS C F H (dU g) Wx),
      ⟨xs.length, by simp, Nat.zero_le _, s0, F1, g1, Same.refl _, f1, s1.weak (Sub.of h0), hx⟩, ?_⟩
    rintro i n σ2 H2 ⟨rfl, hi', st, F2, g2, hF, f2, s2, hw⟩
    by_cases hlt : i < xs.length
    · refine .inr ⟨hJ.go i F2 H2 hF s2.sF hlt, _, fun σ' H' h => ⟨xs.length - (i + 1), by omega, h⟩, fun v H' y => ?_⟩
      obtain ⟨x, hxi⟩ : ∃ x, xs[i]? = some x := ⟨_, List.getElem?_eq_getElem hlt⟩
      have hdrop : xs.drop i = x :: xs.drop (i + 1) := by
        rw [List.drop_eq_getElem_cons hlt]
        have := List.getElem?_eq_getElem hlt
        rw [hxi] at this
        rw [← Option.some.inj this]
      obtain ⟨Gy, hGy, eH', ry⟩ := hJ.yld i x F2 H2 v H' hF s2.sF hxi y
      subst eH'
      obtain ⟨s3, f3⟩ := s2.grow hGy
      refine hg.rd _ _ _ g2 σ2 x v _ s3 ry fun σ3 s4 => ?_
      rw [hdrop] at hw
      refine hb st x X Wx ok tk _ _ g2 σ3 s4 _ ((f st x).mono (fun o ho => ?_) (fun e he => he.later (f2.trans f3)) hw)
      cases o with
      | go s' =>
        refine ⟨fun F5 H5 g5 σ5 f5 s5 => ⟨rfl, hlt, s', F5, g5, (hF.trans f3.sF).trans f5.sF, (f2.trans f3).trans f5, s5, ho⟩, fun F5 H5 g5 σ5 f5 s5 => ⟨rfl, hlt, s', F5, g5, (hF.trans f3.sF).trans f5.sF, (f2.trans f3).trans f5, s5, ho⟩⟩
      | ret r =>
        replace ho : OutOk C D F H (dU g) (R r) := ho
        show OutOk C _ _ _ _ (R r)
        rcases hR r with ⟨R', e⟩ | ⟨R', Γ', e⟩
        · rw [e] at ho ⊢
          exact ho.later (o := .rt R') (f2.trans f3)
        · rw [e] at ho ⊢
          exact ho.later (o := .rtG R' Γ') (f2.trans f3)
      | brk s' =>
        replace ho : OutOk C D F H (dU g) (.nx (Γs s')) := ho
        intro F5 H5 g5 σ5 f5 s5
        exact ho F5 H5 g5 σ5 ((f2.trans f3).trans f5) s5
    · have e : i = xs.length := by omega
      subst e
      rw [List.drop_length] at hw
      exact .inl ⟨hJ.stop _ F2 H2 hF s2.sF (Nat.le_refl _), hw F2 H2 g2 σ2 f2 s2⟩
theorem foldR_go {S ρ α : Type} (f : S → α → W S) : ∀ (xs : List α) (s : S), W.foldR (fun s x => W.bind (f s x) fun s' => W.ret (Fl.go s' : Fl S ρ)) s xs = W.bind (W.foldM f s xs) fun s' => W.ret (Fl.go s' : Fl S ρ)
  | [], s => rfl
  | x :: xs, s => by
    show W.bind (W.bind (f s x) fun s' => W.ret (Fl.go s')) _ = W.bind (W.bind (f s x) fun s' => W.foldM f s' xs) _
    have ih := fun s' => foldR_go (ρ := ρ) f xs s'
    show W.bind (f s x) (fun s' => W.foldR _ s' xs) = W.bind (f s x) (fun s' => W.bind (W.foldM f s' xs) _)
    congr 1
    funext s'
    exact ih s'
/-- a loop that is never left -/
theorem Ex1.for {S : Type} {tg iter : Expr} {body : List Stmt} {r : α → Rp} {t : TG} {up : List Slot → α → List Slot} {m : W (List α)} {f : S → α → W S} (Γs : S → List Slot) {s0 : S} (hi : EvI C Γ tg iter r m) (hg : EvG C tg r t up) (h0 : All2 Le1 Γ (Γs s0))
    (hb : ∀ s x, Ex C (up (Γs s) x) body (fun s' => .lp (Γs s')) (f s x)) (hs : ∀ (env : Env) x, foldedSetIterable iter env x = pure x := by intro _ _; rfl) (hcm : C.cm = true := by rfl) : Ex1 C Γ (.For tg iter body [] pos) (fun s' => .nx (Γs s')) (do let xs ← m; W.foldM f s0 xs) :=
  fun X Wx ok tk F H g σ s D hm => by
    refine Ex1.forR (ρ := Empty) Γs (fun r => nomatch r) (fun r => nomatch r) hi hg h0 (f := fun s x => W.bind (f s x) fun s' => W.ret (Fl.go s')) (fun s x => ?_) hs hcm X Wx ok tk F H g σ s D (m.mono (fun xs hx => ?_) (fun _ z => z) hm)
    · intro X Wx ok tk F H g σ s2 D hm
      exact hb s x X Wx ok tk F H g σ s2 D hm
    · show (W.foldR _ s0 xs).wp _ _
      rw [foldR_go]
      exact hx
theorem Ex1.while {S : Type} {c : Expr} {body : List Stmt} {mc : S → W Bool} {f : S → W S} (Γs : S → List Slot) {s0 : S} (h0 : All2 Le1 Γ (Γs s0)) (hc : ∀ s, EvT C (Γs s) c (mc s)) (hb : ∀ s, Ex C (Γs s) body (fun s' => .lp (Γs s')) (f s)) :
    Ex1 C Γ (.While c body [] pos) (fun s' => .nx (Γs s')) (W.whileM mc f s0) :=
  fun X Wx ok tk F H g σ s D hm => by
    refine W1.of (ps_while ok.po (pt_W (e := c)) (pss_W (st := body))) ?_
    obtain ⟨I, μ, hI, hstep⟩ := hm
    refine ⟨fun n σ2 H2 => ∃ st F2 g2, Fr F H (dU g) F2 H2 (dU g2) ∧ StOk C F2 H2 (Γs st) σ2 g2 ∧ I st ∧ n = μ st, ⟨μ s0, s0, F, g, Fr.refl, s.weak (Sub.of h0), hI, rfl⟩, ?_⟩
    rintro n σ2 H2 ⟨st, F2, g2, f2, s2, hI2, rfl⟩
    refine hc st X Wx ok.toOk tk F2 H2 g2 σ2 s2 _ ((mc st).mono (fun b hb' F3 H3 g3 f3 s3 => ?_) (fun e he => (XEndS.later f2 he).ex) (hstep st hI2))
    cases b with
    | false =>
      rw [if_neg Bool.false_ne_true] at hb' ⊢
      exact hb' F3 H3 g3 σ2 (f2.trans f3) s3
    | true =>
      rw [if_pos rfl] at hb' ⊢
      refine ⟨fun σ' H' => ∃ st' F5 g5, Fr F H (dU g) F5 H' (dU g5) ∧ StOk C F5 H' (Γs st') σ' g5 ∧ I st' ∧ μ st' < μ st, fun σ' H' ⟨st', F5, g5, f5, s5, i5, l5⟩ => ⟨μ st', l5, st', F5, g5, f5, s5, i5, rfl⟩, ?_⟩
      refine hb st X Wx ok tk F3 H3 g3 σ2 s3 _ ((f st).mono (fun s' hs' => ⟨fun F5 H5 g5 σ5 f5 s5 => ⟨s', F5, g5, (f2.trans f3).trans f5, s5, hs'.1, hs'.2⟩, fun F5 H5 g5 σ5 f5 s5 => ⟨s', F5, g5, (f2.trans f3).trans f5, s5, hs'.1, hs'.2⟩⟩) (fun e he => he.later (f2.trans f3)) hb')

theorem Ex.bad {C : Cc} {Γ : List Slot} {sts : List Stmt} {ω : Type} {J : ω → Out} : Ex C Γ sts J W.bad := fun X Wx ok tk F H g σ s D hm => hm.elim

/-! ### defs -/
/-- a def's promise: parameters as values; N: any set that has all places that are free at the call -/
def spV (M : Mc) {τ β : Type} (ins : (Addr → Prop) → τ → List Rp) (ρ : (Addr → Prop) → β → Rp) (m : τ → W β) : Sp := fun vs H Q E => ∃ (t : τ) (F : Hp) (N : Addr → Prop), (∀ a, H a = none → N a) ∧ Same F H ∧ All2 (fun v R => R.p F v) vs (ins N t) ∧
  (m t).wp (fun b => ∀ F' H' g' v, Fr F H (fun _ => False) F' H' (dU g') → Same F' H' → (ρ N b).p F' v → Q v H') (fun e => ∀ F' H' g' cls d, Fr F H (fun _ => False) F' H' (dU g') → Same F' H' → XOk M e H H' (dU g') cls d → E cls d H')
/-- a def of the module that keeps it -/
structure FnV (M : Mc) (x : Str) (j n : Nat) {τ β : Type} (ins : (Addr → Prop) → τ → List Rp) (ρ : (Addr → Prop) → β → Rp) (m : τ → W β) : Prop where
  ex : ∃ f fd ps, FnOk M.P M.w M.K M.mg M.base (L2.CX M.P M.w) j f fd ps (spV M ins ρ m) ∧ M.mg x = some (.ref f) ∧ PySem.W.keepIn M.K (.ref f) = true ∧ Binds M.K fd ps []
  len : ∀ N t, (ins N t).length = n
/-- the same def by a spec that its mirror refines -/
theorem FnV.le {M : Mc} {x : Str} {j n : Nat} {τ β : Type} {ins : (Addr → Prop) → τ → List Rp} {ρ : (Addr → Prop) → β → Rp} {m m' : τ → W β} (h : FnV M x j n ins ρ m) (hm : ∀ t, W.Le (m' t) (m t)) : FnV M x j n ins ρ m' := by
  obtain ⟨⟨f, fd, ps, F, h1, h2, h3⟩, hl⟩ := h
  exact ⟨⟨f, fd, ps, F.imp fun vs H Q E ⟨t, F, N, n, s, r, w⟩ => ⟨t, F, N, n, s, r, hm t _ _ w⟩, h1, h2, h3⟩, hl⟩
theorem W.Le.refl (m : W α) : W.Le m m := fun _ _ h => h
def initC (M : Mc) (N : List Str) (sc : Scope) (k : Nat) (fr : Addr → Prop) : Cc := { toMc := M, N := N, sc := sc, k := k, fr := fr, fnc := fun _ => true, cm := true, ex := none }
def Γ0 (R : List Rp) (N : List Str) : List Slot := R.map .val ++ List.replicate (N.length - R.length) .no
theorem start_ok {M : Mc} {N : List Str} {sc : Scope} {k : Nat} {F H : Hp} {vs : List V} {R : List Rp} {Nf : Addr → Prop} (hN : ∀ a, H a = none → Nf a) (s : Same F H) (r : All2 (fun v R => R.p F v) vs R) : StOk (initC M N sc k Nf) F H (Γ0 R N) (L2.start N vs) (fun _ => emp) where
  len := by
    unfold Γ0 L2.start
    simp only [List.length_append, List.length_map, List.length_replicate, r.length]
  slot := fun i S e => by
    unfold Γ0 at e
    unfold L2.start
    by_cases h : i < R.length
    · rw [List.getElem?_append_left (by simpa using h), List.getElem?_map] at e
      cases q : R[i]? with
      | none => rw [q] at e; cases e
      | some R' =>
        rw [q] at e
        cases e
        obtain ⟨v, hv, hr⟩ := r.get q
        refine ⟨v, ?_, hr⟩
        rw [List.getElem?_append_left (by rw [List.length_map, r.length]; exact h), List.getElem?_map, hv]
        rfl
    · rw [List.getElem?_append_right (by simpa using Nat.not_lt.mp h)] at e
      have : S = .no := by
        rw [List.getElem?_replicate] at e
        split at e
        · exact (Option.some.inj e).symm
        · cases e
      subst this
      trivial
  sF := s
  sG := fun _ _ _ e => by cases e
  dF := fun _ => Dis.emp
  dG := fun _ _ _ => Dis.emp
  fr := hN
/-- THE RULE for a def -/
theorem FnV.mk' {M : Mc} {x : Str} {f : Addr} {fd : FuncData} {st : Stmt} {k n : Nat} {N ps : List Str} {τ β : Type} {ins : (Addr → Prop) → τ → List Rp} {ρ : (Addr → Prop) → β → Rp} {m : τ → W β} (F : Fun M.K x x st f fd) (S : FnScope N ps (defScope st)) (hmg : M.mg x = some (.ref f)) (hb : Binds M.K fd ps [])
    (hn : ps.length = n) (hl : ∀ N t, (ins N t).length = n)
    (J : (Addr → Prop) → β → Out) (hJ : ∀ fr b, J fr b = .rt (ρ fr b) ∨ (J fr b = .ft ∧ ∀ F, (ρ fr b).p F .non)) (h : ∀ (fr : Addr → Prop) (t : τ), Ex (initC M N (defScope st) k fr) (Γ0 (ins fr t) N) (defBody st) (J fr) (m t)) : FnV M x (k + 1) n ins ρ m := by
  refine ⟨⟨f, fd, ps, F.okX S (fun vs H Q E hsp => ?_) (fun cdv A outer s H vs Q E hr hsp => ?_), hmg, F.kp, hb⟩, hl⟩
  · obtain ⟨t, F', Nf, _, _, r, _⟩ := hsp
    rw [r.length, hl, hn]
  · obtain ⟨t, F', Nf, hNf, sm, r, w⟩ := hsp
    refine ⟨_, pss_W, ?_⟩
    refine h Nf t (cxOf (L2.CX M.P M.w) M.P M.w M.K M.mg M.base N x (defScope st) f cdv A outer s H E) (fun cls d _ H => E cls d H) ⟨⟨rfl, rfl, rfl, rfl, rfl, rfl, rfl, S.nd, rfl, fun _ => hr, hr.units, fun _ _ _ h => (nomatch h), fun _ _ => rfl⟩, passes_of rfl, rfl, rfl⟩ (takes_of rfl rfl rfl rfl) F' H _ _ (start_ok hNf sm r) _ ((m t).mono (fun b hb => ?_) (fun e he => ?_) w)
    · rcases hJ Nf b with e | ⟨e, e2⟩
      · rw [e]
        intro F2 H2 g2 v f2 s2 r2
        exact hb F2 H2 g2 v (show Fr F' H (fun _ => False) F2 H2 (dU g2) from ⟨f2.sF, fun b z => (f2.fF b z).imp_right fun q => q.imp_right fun ⟨_, q⟩ => absurd rfl q, fun b o q _ => f2.keep b o q fun ⟨_, z⟩ => absurd rfl z, f2.dom, fun b z => (f2.gs b z).imp_left fun ⟨_, q⟩ => absurd rfl q⟩) s2 r2
      · rw [e]
        intro F2 H2 g2 σ2 f2 s2
        exact hb F2 H2 g2 .non (show Fr F' H (fun _ => False) F2 H2 (dU g2) from ⟨f2.sF, fun b z => (f2.fF b z).imp_right fun q => q.imp_right fun ⟨_, q⟩ => absurd rfl q, fun b o q _ => f2.keep b o q fun ⟨_, z⟩ => absurd rfl z, f2.dom, fun b z => (f2.gs b z).imp_left fun ⟨_, q⟩ => absurd rfl q⟩) s2 (e2 F2)
    · intro F2 H2 g2 σ2 cls d f2 s2 hx
      exact he F2 H2 g2 cls d ⟨f2.sF, fun b z => (f2.fF b z).imp_right fun q => q.imp_right fun ⟨_, q⟩ => absurd rfl q, fun b o q _ => f2.keep b o q fun ⟨_, z⟩ => absurd rfl z, f2.dom, fun b z => (f2.gs b z).imp_left fun ⟨_, q⟩ => absurd rfl q⟩ s2 hx

/-! ### calls -/
/-- behind a call that owns nothing -/
theorem StOk.call0 {F H F' H' : Hp} {σ : St} {g g' : Nat → Hp} (s : StOk C F H Γ σ g) (f : Fr F H (fun _ => False) F' H' (dU g')) (s' : Same F' H') : StOk C F' H' Γ σ g ∧ Fr F H (dU g) F' H' (dU g) := by
  refine ⟨⟨s.len, fun i S e => (s.slot i S e).mono f.sF, s', fun i b o e => f.keep b o (s.sG i b o e) (fun z => z), fun i b => ?_, s.dG, fun a e => ?_⟩, ⟨f.sF, fun b z => (f.fF b z).imp_right fun q => q.imp_right fun q => q.elim, fun b o q _ => f.keep b o q fun z => z, f.dom, fun b z => .inl z⟩⟩
  · cases q : g i b with
    | none => exact .inr rfl
    | some o =>
      refine .inl ?_
      cases q2 : F' b with
      | none => rfl
      | some u =>
        have hH := s.sG i b o q
        rcases f.fF b (by rw [q2]; simp) with z | z | z
        · rcases s.dF i b with y | y
          · exact absurd y z
          · rw [q] at y; cases y
        · rw [hH] at z; cases z
        · exact z.elim
  · refine s.fr a ?_
    cases q : H a with
    | none => rfl
    | some o => exact absurd e (f.dom a (by rw [q]; simp))
theorem Ev.callA {x : Str} {j n : Nat} {es : List Expr} {τ : Type} {ins : (Addr → Prop) → τ → List Rp} {ρ : (Addr → Prop) → β → Rp} {mf : τ → W β} {mt : W τ} (hf : FnV C.toMc x j n ins ρ mf) (hj : j ≤ C.k) (hg : C.sc.names.lookup x = some .globalImplicit) (ha : EvA C Γ (e :: es) (ins C.fr) mt) (hn : NoStar e) (hpl : ∀ (X : Cx) (pos : Pos), (backTo pos (starEach es X.env)).any (·.1) = false)
    (hd : (x == ("__debug__" : Str)) = false := by decide) (hcm : C.cm = true := by rfl) : Ev C Γ (.Call (.Name x p) (e :: es) [] pos) (ρ C.fr) (do let t ← mt; mf t) :=
  fun X Wx ok tk F H g σ s Q hm => by
    obtain ⟨⟨f, fd, ps, hF, hmg, hk, hb⟩, hl⟩ := hf
    have e1 := ok.prog
    have e2 := ok.w
    have e3 := ok.K
    have e4 := ok.mg
    have e5 := ok.base
    refine WE.of (pe_callS (E := fun σ => L2.WE Wx σ) (by rw [e1, e2, e3, e4, e5]; exact hF) ((ok.room hcm).mono hj) (show X.env.scope.names.lookup x = _ by rw [ok.sc]; exact hg) (by rw [e4]; exact hmg) (by rw [e3]; exact hk) (by rw [e3]; exact hb) (fun σ => by
      have := passAt tk σ
      rw [e1, e2] at this
      exact this) (pa_W (es := e :: es)) hd (hn es X.env) (hpl X pos)) ?_
    refine ha.2 X Wx ok tk F H g σ s _ (mt.mono (fun t ht F1 H1 g1 vs f1 s1 r1 => ?_) (fun e he => he) hm)
    refine ⟨t, F1, C.fr, s1.fr, s1.sF, r1, (mf t).mono (fun b hb F2 H2 g2 v f2 s2 r2 => ?_) (fun e he F2 H2 g2 cls d f2 s2 hx => ?_) ht⟩
    · obtain ⟨s3, f3⟩ := s1.call0 f2 s2
      exact hb F2 H2 g1 v (f1.trans f3) s3 r2
    · obtain ⟨s3, f3⟩ := s1.call0 f2 s2
      exact he F2 H2 g1 cls d (f1.trans f3) s3 ((hx.reg s1.sG).later f1)
end
section
variable {C : Cc} {Γ : List Slot} {α β γ δ ε : Type} {e e1 e2 e3 e4 : Expr} {pos p : Pos} {x : Str} {j : Nat} {ρ : (Addr → Prop) → ε → Rp}
theorem Ev.call1 {ra : (Addr → Prop) → α → Rp} {m1 : W α} {mf : α × Unit → W ε} (hf : FnV C.toMc x j 1 (fun N t => [ra N t.1]) ρ mf) (hj : j ≤ C.k) (hg : C.sc.names.lookup x = some .globalImplicit) (h1 : Ev C Γ e1 (ra C.fr) m1) (n1 : NoStar e1) (hd : (x == ("__debug__" : Str)) = false := by decide) (hcm : C.cm = true := by rfl) :
    Ev C Γ (.Call (.Name x p) [e1] [] pos) (ρ C.fr) (do let a ← m1; mf (a, ())) := by
  have q := Ev.callA (e := e1) (p := p) (pos := pos) hf hj hg (EvA.cons h1 EvA.nil n1) n1 noArgs hd hcm
  exact q
theorem Ev.call2 {ra : (Addr → Prop) → α → Rp} {rb : (Addr → Prop) → β → Rp} {m1 : W α} {m2 : W β} {mf : α × β × Unit → W ε} (hf : FnV C.toMc x j 2 (fun N t => [ra N t.1, rb N t.2.1]) ρ mf) (hj : j ≤ C.k) (hg : C.sc.names.lookup x = some .globalImplicit) (h1 : Ev C Γ e1 (ra C.fr) m1) (h2 : Ev C Γ e2 (rb C.fr) m2) (n1 : NoStar e1) (n2 : NoStar e2) (hd : (x == ("__debug__" : Str)) = false := by decide) (hcm : C.cm = true := by rfl) :
    Ev C Γ (.Call (.Name x p) [e1, e2] [] pos) (ρ C.fr) (do let a ← m1; let b ← m2; mf (a, b, ())) := by
  have q := Ev.callA (e := e1) (p := p) (pos := pos) hf hj hg (EvA.cons h1 (EvA.cons h2 EvA.nil n2) n1) n1 (EvA.cons h2 EvA.nil n2).1 hd hcm
  exact q
theorem Ev.call3 {ra : (Addr → Prop) → α → Rp} {rb : (Addr → Prop) → β → Rp} {rc : (Addr → Prop) → γ → Rp} {m1 : W α} {m2 : W β} {m3 : W γ} {mf : α × β × γ × Unit → W ε} (hf : FnV C.toMc x j 3 (fun N t => [ra N t.1, rb N t.2.1, rc N t.2.2.1]) ρ mf) (hj : j ≤ C.k) (hg : C.sc.names.lookup x = some .globalImplicit) (h1 : Ev C Γ e1 (ra C.fr) m1) (h2 : Ev C Γ e2 (rb C.fr) m2) (h3 : Ev C Γ e3 (rc C.fr) m3) (n1 : NoStar e1) (n2 : NoStar e2) (n3 : NoStar e3) (hd : (x == ("__debug__" : Str)) = false := by decide) (hcm : C.cm = true := by rfl) :
    Ev C Γ (.Call (.Name x p) [e1, e2, e3] [] pos) (ρ C.fr) (do let a ← m1; let b ← m2; let c ← m3; mf (a, b, c, ())) := by
  have q := Ev.callA (e := e1) (p := p) (pos := pos) hf hj hg (EvA.cons h1 (EvA.cons h2 (EvA.cons h3 EvA.nil n3) n2) n1) n1 (EvA.cons h2 (EvA.cons h3 EvA.nil n3) n2).1 hd hcm
  exact q
theorem Ev.call4 {ra : (Addr → Prop) → α → Rp} {rb : (Addr → Prop) → β → Rp} {rc : (Addr → Prop) → γ → Rp} {rd : (Addr → Prop) → δ → Rp} {m1 : W α} {m2 : W β} {m3 : W γ} {m4 : W δ} {mf : α × β × γ × δ × Unit → W ε} (hf : FnV C.toMc x j 4 (fun N t => [ra N t.1, rb N t.2.1, rc N t.2.2.1, rd N t.2.2.2.1]) ρ mf) (hj : j ≤ C.k) (hg : C.sc.names.lookup x = some .globalImplicit) (h1 : Ev C Γ e1 (ra C.fr) m1) (h2 : Ev C Γ e2 (rb C.fr) m2) (h3 : Ev C Γ e3 (rc C.fr) m3) (h4 : Ev C Γ e4 (rd C.fr) m4) (n1 : NoStar e1) (n2 : NoStar e2) (n3 : NoStar e3) (n4 : NoStar e4) (hd : (x == ("__debug__" : Str)) = false := by decide) (hcm : C.cm = true := by rfl) :
    Ev C Γ (.Call (.Name x p) [e1, e2, e3, e4] [] pos) (ρ C.fr) (do let a ← m1; let b ← m2; let c ← m3; let d ← m4; mf (a, b, c, d, ())) := by
  have q := Ev.callA (e := e1) (p := p) (pos := pos) hf hj hg (EvA.cons h1 (EvA.cons h2 (EvA.cons h3 (EvA.cons h4 EvA.nil n4) n3) n2) n1) n1 (EvA.cons h2 (EvA.cons h3 (EvA.cons h4 EvA.nil n4) n3) n2).1 hd hcm
  exact q
end
end Y

/-! Y9: what the top leaves, the end -/
namespace Y
open PySem PySem.Spec L2
/-- a def of the top -/
def FAt (K : PySem.W.Frag) (x : Str) (st : Stmt) (f : Addr) : Prop :=
  PySem.W.nsIn K mainGlobals x = some (some (.ref f)) ∧ (∃ (oc : Value) (od : Option Addr) (sl : Array (Option Value)) (kV dc pm : Value) (an : Option Addr) (cd ct : Value), K.lookup f = some ⟨oc, od, .func (PySem.W.fnOf x x (defArgs st) (defBody st) (defScope st) .none kV dc pm an cd ct), sl⟩ ∧ PySem.W.codeIn K cd x = true) ∧ PySem.W.keepIn K (.ref f) = true
structure FunM (M : Mc) (x : Str) (st : Stmt) (ps : List Str) : Prop where
  ex : ∃ f fd, Fun M.K x x st f fd ∧ M.mg x = some (.ref f) ∧ Binds M.K fd ps []
theorem FAt.m {M : Mc} {h : Heap} {x : Str} {st : Stmt} {f : Addr} {ps : List Str} (X : M.K.In h) (G : h.Ns mainGlobals M.mg) (a : FAt M.K x st f)
    (hb : ∀ (kV doc pm : Value) (an : Option Addr) (cdv ct : Value) (us : List Value), us.length = ps.length → bindArgs (PySem.W.fnOf x x (defArgs st) (defBody st) (defScope st) .none kV doc pm an cdv ct) ⟨us, []⟩ = pure (ps.zip us)) : FunM M x st ps := by
  obtain ⟨a1, ⟨oc, od, sl, kV, dc, pm, an, cd, ct, l, c⟩, k⟩ := a
  have F := fun_mk (st := st) l c k
  exact ⟨f, _, F, PySem.W.mg_of X G a1, F.binds hb⟩
theorem FnV.ofBody {M : Mc} {x : Str} {st : Stmt} {k n : Nat} {N ps : List Str} {τ β : Type} {ins : (Addr → Prop) → τ → List Rp} {ρ : (Addr → Prop) → β → Rp} {m : τ → W β} (F : FunM M x st ps) (S : FnScope N ps (defScope st))
    (hn : ps.length = n) (hl : ∀ N t, (ins N t).length = n) (h : ∀ (fr : Addr → Prop) (t : τ), Ex (initC M N (defScope st) k fr) (Γ0 (ins fr t) N) (defBody st) (fun b => .rt (ρ fr b)) (m t)) : FnV M x (k + 1) n ins ρ m := by
  obtain ⟨f, fd, F, mg, b⟩ := F
  exact FnV.mk' F S mg b hn hl (fun fr b => .rt (ρ fr b)) (fun fr b => .inl rfl) h
/-- a def that falls off its end -/
theorem FnV.ofBodyU {M : Mc} {x : Str} {st : Stmt} {k n : Nat} {N ps : List Str} {τ : Type} {ins : (Addr → Prop) → τ → List Rp} {m : τ → W Unit} (F : FunM M x st ps) (S : FnScope N ps (defScope st))
    (hn : ps.length = n) (hl : ∀ N t, (ins N t).length = n) (h : ∀ (fr : Addr → Prop) (t : τ), Ex (initC M N (defScope st) k fr) (Γ0 (ins fr t) N) (defBody st) (fun _ => .ft) (m t)) : FnV M x (k + 1) n ins (fun _ => rU) m := by
  obtain ⟨f, fd, F, mg, b⟩ := F
  exact FnV.mk' F S mg b hn hl (fun fr b => .ft) (fun fr b => .inr ⟨rfl, fun _ => rfl⟩) h
/-- the ints of a script: their bits -/
def BitsOk (z : Int) : Prop := Builtin.Int.intBits z ≤ 1048576
theorem walk_law {l : PySem.W.OpenLaw} {k : Nat} {q : Program} {loose : List Str} {XP : (Str → Option Value) → Heap → Prop} {YP : World → Heap → Prop} {d : DefRec} {K : Params → PySem.W.Frag} {sx : Str} {m : List Int × Unit → W Bool} {fd : World → FuncData}
    (hn : l.most = some 63) (hdf : d.params.defaults = []) (hr : Room k callerA) (hY : ∀ (w : World) (h : Heap), YP w h → (K w.params).In h)
    (F : ∀ (w : World) (mg : Str → Option Value) (fa : Addr) (h : Heap), (K w.params).In h → h.Ns mainGlobals mg → mg d.name = some (.ref fa) →
      ∃ fd : FuncData, (∀ (s : Shared) (u : Value), BindsTo s fd ⟨[u], []⟩ [(sx, u)]) ∧ ∀ base : Heap, (K w.params).In base → base.Ns mainGlobals mg → FnOk l.prog w (K w.params) mg base (L2.CX l.prog w) k fa fd [sx] (spV ⟨l.prog, w, K w.params, mg, base⟩ (fun _ t => [rL (K w.params) rI t.1]) (fun _ => rB) m))
    (hm : ∀ ns : List Int, ns.length ≤ 63 → (∀ z ∈ ns, BitsOk z) → (m (ns, ())).wp (fun b => b = true) (fun _ => False)) : PySem.W.WalkO q loose XP YP l.row.toRowW d [] (fun f vs => PySem.call f vs) := by
  refine walk_ofB (l := l) (n := 63) (k := k) (x := sx) (CX := fun w => L2.CX l.prog w)
    (sp := fun w => fun vs H Q E => ∃ ns : List Int, ∃ a, ns.length ≤ 63 ∧ (∀ z ∈ ns, BitsOk z) ∧ vs = [.ref a] ∧ SqL (K w.params) H a (ns.map V.int) ∧ (∀ v H', v = V.bl true → Q v H')) hn (by decide) hdf hr hY (fun w mg fa h X G hmg => ?_) (fun w H a ns h1 h2 _ h3 => ⟨ns, a, h1, h2, rfl, h3, fun v _ e => e⟩) (fun w H s e s' z => ?_)
  · obtain ⟨fd, hb, hF⟩ := F w mg fa h X G hmg
    refine ⟨fd, hb, fun base X2 G2 => (hF base X2 G2).imp fun vs H Q E ⟨ns, a, h1, h2, ev, hs, hQ⟩ => ?_⟩
    subst ev
    refine ⟨(ns, ()), H, fun a => H a = none, fun _ z => z, Same.refl _, .cons ⟨a, ns.map V.int, rfl, hs, All2.to_map (R := fun u x => (rI x).p H u) (f := V.int) (fun _ => rfl) ns⟩ .nil, (m (ns, ())).mono (fun b hb F' H' g' v f s r => ?_) (fun e he => he.elim) (hm ns h1 h2)⟩
    exact hQ v H' (by rw [show v = V.bl b from r, hb])
  · obtain ⟨_, _, _, _, _, _, _, _, _, _, _, _, z⟩ := z
    exact z.elim
end Y

/-! Y10: what the printer leans on -/
namespace Y
open PySem PySem.Spec L2
/-! ### names -/
def visB (sc : Scope) (x : Str) : Bool := match sc.names.lookup x with | some .local => true | some .cell => true | some .free => true | _ => false
theorem visOf {sc : Scope} {x : Str} (h : visB sc x = true) : Vis sc x := by
  unfold visB at h
  unfold Vis
  split at h
  · rename_i e; exact .inl e
  · rename_i e; exact .inr (.inl e)
  · rename_i e; exact .inr (.inr e)
  · cases h
def stoB (C : Cc) (x : Str) : Bool := match C.sc.names.lookup x with | some .local => true | some .cell => C.fnc x | _ => false
theorem stoOf {C : Cc} {x : Str} (h : stoB C x = true) : Sto C x := by
  unfold stoB at h
  unfold Sto
  split at h
  · rename_i e; exact .inl e
  · rename_i e; exact .inr ⟨e, h⟩
  · cases h
section
variable {C : Cc}
theorem bt_abs (g : C.sc.names.lookup ("abs" : Str) = some .globalImplicit) (m : C.mg "abs" = none) : Blt C "abs" (.builtin "abs") := ⟨g, m, by decide +kernel, by decide, by decide⟩
theorem bt_len (g : C.sc.names.lookup ("len" : Str) = some .globalImplicit) (m : C.mg "len" = none) : Blt C "len" (.builtin "len") := ⟨g, m, by decide +kernel, by decide, by decide⟩
theorem bt_sum (g : C.sc.names.lookup ("sum" : Str) = some .globalImplicit) (m : C.mg "sum" = none) : Blt C "sum" (.builtin "sum") := ⟨g, m, by decide +kernel, by decide, by decide⟩
theorem bt_all (g : C.sc.names.lookup ("all" : Str) = some .globalImplicit) (m : C.mg "all" = none) : Blt C "all" (.builtin "all") := ⟨g, m, by decide +kernel, by decide, by decide⟩
theorem bt_any (g : C.sc.names.lookup ("any" : Str) = some .globalImplicit) (m : C.mg "any" = none) : Blt C "any" (.builtin "any") := ⟨g, m, by decide +kernel, by decide, by decide⟩
theorem bt_min (g : C.sc.names.lookup ("min" : Str) = some .globalImplicit) (m : C.mg "min" = none) : Blt C "min" (.builtin "min") := ⟨g, m, by decide +kernel, by decide, by decide⟩
theorem bt_max (g : C.sc.names.lookup ("max" : Str) = some .globalImplicit) (m : C.mg "max" = none) : Blt C "max" (.builtin "max") := ⟨g, m, by decide +kernel, by decide, by decide⟩
theorem bt_sorted (g : C.sc.names.lookup ("sorted" : Str) = some .globalImplicit) (m : C.mg "sorted" = none) : Blt C "sorted" (.builtin "sorted") := ⟨g, m, by decide +kernel, by decide, by decide⟩
theorem bt_isinstance (g : C.sc.names.lookup ("isinstance" : Str) = some .globalImplicit) (m : C.mg "isinstance" = none) : Blt C "isinstance" (.builtin "isinstance") := ⟨g, m, by decide +kernel, by decide, by decide⟩
theorem bt_range (g : C.sc.names.lookup ("range" : Str) = some .globalImplicit) (m : C.mg "range" = none) : Blt C "range" (.type "range") := ⟨g, m, by decide +kernel, by decide, by decide⟩
theorem bt_list (g : C.sc.names.lookup ("list" : Str) = some .globalImplicit) (m : C.mg "list" = none) : Blt C "list" (.type "list") := ⟨g, m, by decide +kernel, by decide, by decide⟩
theorem bt_tuple (g : C.sc.names.lookup ("tuple" : Str) = some .globalImplicit) (m : C.mg "tuple" = none) : Blt C "tuple" (.type "tuple") := ⟨g, m, by decide +kernel, by decide, by decide⟩
theorem bt_int (g : C.sc.names.lookup ("int" : Str) = some .globalImplicit) (m : C.mg "int" = none) : Blt C "int" (.type "int") := ⟨g, m, by decide +kernel, by decide, by decide⟩
theorem bt_bool (g : C.sc.names.lookup ("bool" : Str) = some .globalImplicit) (m : C.mg "bool" = none) : Blt C "bool" (.type "bool") := ⟨g, m, by decide +kernel, by decide, by decide⟩
theorem bt_str (g : C.sc.names.lookup ("str" : Str) = some .globalImplicit) (m : C.mg "str" = none) : Blt C "str" (.type "str") := ⟨g, m, by decide +kernel, by decide, by decide⟩
theorem bt_dict (g : C.sc.names.lookup ("dict" : Str) = some .globalImplicit) (m : C.mg "dict" = none) : Blt C "dict" (.type "dict") := ⟨g, m, by decide +kernel, by decide, by decide⟩
theorem bt_zip (g : C.sc.names.lookup ("zip" : Str) = some .globalImplicit) (m : C.mg "zip" = none) : Blt C "zip" (.type "zip") := ⟨g, m, by decide +kernel, by decide, by decide⟩
theorem bt_enumerate (g : C.sc.names.lookup ("enumerate" : Str) = some .globalImplicit) (m : C.mg "enumerate" = none) : Blt C "enumerate" (.type "enumerate") := ⟨g, m, by decide +kernel, by decide, by decide⟩
theorem bt_reversed (g : C.sc.names.lookup ("reversed" : Str) = some .globalImplicit) (m : C.mg "reversed" = none) : Blt C "reversed" (.type "reversed") := ⟨g, m, by decide +kernel, by decide, by decide⟩
end
/-! ### smaller kinds -/
section
variable {K : PySem.W.Frag} {α β γ : Type}
abbrev SubK (r r' : α → Rp) : Prop := ∀ a F v, (r a).p F v → (r' a).p F v
theorem subR {r : α → Rp} : SubK r r := fun _ _ _ h => h
theorem subNL {N : Addr → Prop} {r r' : α → Rp} (h : SubK r r') : SubK (rN N r) (rL K r') := fun a F v x => by
  obtain ⟨q, vs, e, q2, t⟩ := rN_rL (K := K) x
  exact ⟨q, vs, e, q2, t.imp fun _ _ z => h _ _ _ z⟩
theorem subLL {r r' : α → Rp} (h : SubK r r') : SubK (rL K r) (rL K r') := fun a F v x => by
  obtain ⟨q, vs, e, q2, t⟩ := x
  exact ⟨q, vs, e, q2, t.imp fun _ _ z => h _ _ _ z⟩
theorem subNN {N : Addr → Prop} {r r' : α → Rp} (h : SubK r r') : SubK (rN N r) (rN N r') := fun a F v x => by
  obtain ⟨q, vs, e, n, q2, t⟩ := x
  exact ⟨q, vs, e, n, q2, t.imp fun _ _ z => h _ _ _ z⟩
theorem subT2 {r1 r1' : α → Rp} {r2 r2' : β → Rp} (h1 : SubK r1 r1') (h2 : SubK r2 r2') : SubK (rT2 K r1 r2) (rT2 K r1' r2') := fun a F v x => by
  obtain ⟨q, v1, v2, e, q2, t1, t2⟩ := x
  exact ⟨q, v1, v2, e, q2, h1 _ _ _ t1, h2 _ _ _ t2⟩
theorem subT3 {r1 r1' : α → Rp} {r2 r2' : β → Rp} {r3 r3' : γ → Rp} (h1 : SubK r1 r1') (h2 : SubK r2 r2') (h3 : SubK r3 r3') : SubK (rT3 K r1 r2 r3) (rT3 K r1' r2' r3') := fun a F v x => by
  obtain ⟨q, v1, v2, v3, e, q2, t1, t2, t3⟩ := x
  exact ⟨q, v1, v2, v3, e, q2, h1 _ _ _ t1, h2 _ _ _ t2, h3 _ _ _ t3⟩
theorem subO {r r' : α → Rp} (h : SubK r r') : SubK (rO r) (rO r') := fun a F v x => by
  cases a with
  | none => exact x
  | some a => exact h _ _ _ x
theorem subSome {r r' : α → Rp} (h : SubK r r') (a : α) (F : Hp) (v : V) (x : (r a).p F v) : (rO r' (some a)).p F v := h _ _ _ x
/-- heap-free kinds -/
class Fre {α : Type} (r : α → Rp) : Prop where
  fre : ∀ a F v, (r a).p F v → ∀ F', (r a).p F' v
instance : Fre rI := ⟨fun _ _ _ h _ => h⟩
instance : Fre rB := ⟨fun _ _ _ h _ => h⟩
instance : Fre rS := ⟨fun _ _ _ h _ => h⟩
instance : Fre rU := ⟨fun _ _ _ h _ => h⟩
instance {r : α → Rp} [I : Fre r] : Fre (rO r) := ⟨fun a F v h F' => by
  cases a with
  | none => exact h
  | some a => exact I.fre _ _ _ h _⟩
/-! ### what a value is an instance of -/
class TyK {α : Type} (K : PySem.W.Frag) (r : α → Rp) (T : outParam String) : Prop where
  ty : ∀ x F H v, Same F H → (r x).p F v → TyX K H v (.type T)
instance : TyK K rI "int" := ⟨fun x F H v _ h => by have e : v = .int x := h; subst e; exact .base (.int x)⟩
instance : TyK K rB "bool" := ⟨fun x F H v _ h => by have e : v = .bl x := h; subst e; exact .base (.bl x)⟩
instance : TyK K rS "str" := ⟨fun x F H v _ h => by have e : v = .str x := h; subst e; exact .base (.str x)⟩
instance : TyK K rU "NoneType" := ⟨fun x F H v _ h => by have e : v = .non := h; subst e; exact .base .non⟩
theorem SqL.ty {H : Hp} {a : Addr} {xs : List V} (h : SqL K H a xs) : TyX K H (.ref a) (.type "list") := by
  rcases h with (q | ⟨o, q⟩) | ⟨o, its, n, e, c, _⟩
  · exact .base (.lst q)
  · exact .base (.frz q)
  · exact .kList e c
theorem SqT.ty {H : Hp} {a : Addr} {xs : List V} (h : SqT K H a xs) : TyX K H (.ref a) (.type "tuple") := by
  rcases h with (q | ⟨o, q⟩) | ⟨o, its, n, e, c, _⟩
  · exact .base (.tup q)
  · exact .fTuple q
  · exact .kTuple e c
instance {r : α → Rp} : TyK K (rL K r) "list" := ⟨fun x F H v s ⟨a, vs, e, q, _⟩ => by subst e; exact SqL.ty (s.seq q)⟩
instance {N : Addr → Prop} {r : α → Rp} : TyK K (rN N r) "list" := ⟨fun x F H v s ⟨a, vs, e, _, q, _⟩ => by subst e; exact .base (.lst (s _ _ q))⟩
instance {r1 : α → Rp} {r2 : β → Rp} : TyK K (rT2 K r1 r2) "tuple" := ⟨fun x F H v s ⟨a, _, _, e, q, _⟩ => by subst e; exact SqT.ty (Same.seqT s q)⟩
instance {r1 : α → Rp} {r2 : β → Rp} {r3 : γ → Rp} : TyK K (rT3 K r1 r2 r3) "tuple" := ⟨fun x F H v s ⟨a, _, _, _, e, q, _⟩ => by subst e; exact SqT.ty (Same.seqT s q)⟩
end
/-- a class by its name -/
def rTy (n : String) (_ : Unit) : Rp := ⟨fun _ v => v = .ty n, fun _ h => h⟩
section
variable {C : Cc} {Γ : List Slot} {α β γ : Type} {e e1 e2 : Expr} {pos p p2 : Pos}
theorem Ev.tyName {f : Str} {T : String} (hb : Blt C f (.type T)) : Ev C Γ (.Name f p) (rTy T) (pure ()) :=
  fun X Wx ok tk F H g σ s Q hm => WE.of (pe_bltn (v := .ty T) (hb.gl ok) (by rw [ok.mg]; exact hb.m) hb.v rfl hb.n hb.d) (hm F H g _ Fr.refl s rfl)
theorem Ev.isi {ρ : α → Rp} {T : String} {f : Str} {T2 : String} {m : W α} (b : Bool) {K : PySem.W.Frag} (hK : C.K = K) [I : TyK K ρ T] (hb : Blt C "isinstance" (.builtin "isinstance")) (hf : Blt C f (.type T2)) (hk : kitB T T2 = some b) (h : Ev C Γ e ρ m) (hn : NoStar e)  :
    Ev C Γ (.Call (.Name "isinstance" p) [e, .Name f p2] [] pos) rB (do let x ← m; let _ ← (pure () : W Unit); pure b) :=
  Ev.callB2 (fun _ _ => pure b) hb (fun X ok => ⟨_, call_isi, fun x y H v w Q E hv hw q => ⟨v, w, .type T, .type T2, b, rfl, by rw [show w = .ty T2 from hw]; exact .ty T2, by rw [ok.K, hK]; exact I.ty x H H v (Same.refl _) hv, kit_ty hk, q _ fun _ _ => rfl⟩⟩)
    (fun _ _ _ _ _ h => h) (fun y F v h F' => h) h (Ev.tyName hf) hn (fun _ _ => rfl)
theorem Ev.isiP {ρ : α → Rp} {T : String} {f : Str} {T2 : String} {x : α} (b : Bool) {K : PySem.W.Frag} (hK : C.K = K) [I : TyK K ρ T] (hb : Blt C "isinstance" (.builtin "isinstance")) (hf : Blt C f (.type T2)) (hk : kitB T T2 = some b) (h : Ev C Γ e ρ (pure x)) (hn : NoStar e)  :
    Ev C Γ (.Call (.Name "isinstance" p) [e, .Name f p2] [] pos) rB (pure b) := Ev.isi b hK hb hf hk h hn
/-! ### own lists are read for a while -/
inductive Bo (C : Cc) : Slot → Slot → Prop
  | rf {S} : Bo C S S
  | li {α : Type} {r : α → Rp} {xs : List α} {N : Addr → Prop} : Bo C (.own (oL N r xs)) (.val (rN N r xs))
  | no {S} : Bo C S .no
  | ge {O : Op} {R : Rp} (h : ∀ F F' G v, Same F F' → Same G F' → O.p F G v → R.p F' v) : Bo C (.own O) (.val R)
  | sb {R R' : Rp} (h : ∀ F v, R.p F v → R'.p F v) : Bo C (.val R) (.val R')
def noOwn : List Slot → Bool
  | [] => true
  | .own _ :: _ => false
  | _ :: r => noOwn r
theorem noOwn.ok : ∀ {Γ : List Slot}, noOwn Γ = true → ∀ S ∈ Γ, ∀ O, S ≠ .own O
  | [], _, _, h, _, _ => by cases h
  | .own _ :: _, h, _, _, _, _ => by cases h
  | .no :: r, h, S, hS, O, e => by
    rcases List.mem_cons.mp hS with q | q
    · subst q; cases e
    · exact noOwn.ok (Γ := r) h S q O e
  | .val _ :: r, h, S, hS, O, e => by
    rcases List.mem_cons.mp hS with q | q
    · subst q; cases e
    · exact noOwn.ok (Γ := r) h S q O e
/-- all that is owned, frozen -/
noncomputable def frzA (F H : Hp) (g : Nat → Hp) : Hp := fun a => by classical exact if F a ≠ none ∨ dU g a then H a else none
theorem All2.at {α β : Type} {R : α → β → Prop} {as : List α} {bs : List β} (h : All2 R as bs) {i : Nat} {b : β} (e : bs[i]? = some b) : ∃ a, as[i]? = some a ∧ R a b := h.get e
theorem StOk.frzA {F H : Hp} {Γ' : List Slot} {σ : St} {g : Nat → Hp} (s : StOk C F H Γ σ g) (hb : All2 (Bo C) Γ Γ') (hv : ∀ (i : Nat) (O : Op), Γ'[i]? ≠ some (Slot.own O)) : StOk C (Y.frzA F H g) H Γ' σ (fun _ => emp) ∧ Same F (Y.frzA F H g) ∧ (∀ i, Same (g i) (Y.frzA F H g)) ∧ (∀ b, Y.frzA F H g b ≠ none → F b ≠ none ∨ dU g b) := by
  have sF : Same F (Y.frzA F H g) := fun a o q => by
    unfold Y.frzA
    rw [if_pos (.inl (by rw [q]; simp))]
    exact s.sF a o q
  have sG : ∀ i, Same (g i) (Y.frzA F H g) := fun i a o q => by
    unfold Y.frzA
    rw [if_pos (.inr ⟨i, by rw [q]; simp⟩)]
    exact s.sG i a o q
  refine ⟨⟨hb.length.symm.trans s.len, fun i S q => ?_, fun a o q => ?_, fun i a o q => (nomatch q), fun i a => .inr rfl, fun i j _ a => .inr rfl, s.fr⟩, sF, sG, fun b q => ?_⟩
  · obtain ⟨S0, q0, r⟩ := hb.at q
    have x := s.slot i S0 q0
    cases r with
    | rf =>
      cases S with
      | no => trivial
      | val R => exact SlotOk.mono (S := .val R) sF x
      | own O => exact absurd q (hv i O)
    | no => trivial
    | li =>
      obtain ⟨v, e1, a, vs, e2, n, e3, t⟩ := x
      exact ⟨v, e1, a, vs, e2, n, sG i a _ (by rw [e3]; exact one_same), t.imp fun _ _ z => (_ : Rp).mono sF z⟩
    | ge h =>
      obtain ⟨v, e1, r⟩ := x
      exact ⟨v, e1, h _ _ _ _ sF (sG i) r⟩
    | sb h =>
      obtain ⟨v, e1, r⟩ := x
      exact ⟨v, e1, h _ _ (Rp.mono _ sF r)⟩
  · unfold Y.frzA at q
    split at q
    · exact q
    · cases q
  · unfold Y.frzA at q
    split at q
    · assumption
    · exact absurd rfl q
/-- back -/
theorem StOk.unfrz {F H F' H' : Hp} {Γ' : List Slot} {σ : St} {g g' : Nat → Hp} (s : StOk C F H Γ σ g) (hb : All2 (Bo C) Γ Γ') (hv : ∀ (i : Nat) (O : Op), Γ'[i]? ≠ some (Slot.own O)) (f : Fr (Y.frzA F H g) H (dU fun _ => emp) F' H' (dU g')) (s' : StOk C F' H' Γ' σ g') :
    StOk C F H' Γ σ g ∧ Fr F H (dU g) F H' (dU g) := by
  obtain ⟨s1, sF, sG, fF⟩ := s.frzA hb hv
  refine ⟨⟨s.len, s.slot, (sF.trans f.sF).trans s'.sF, fun i => ((sG i).trans f.sF).trans s'.sF, s.dF, s.dG, s'.fr⟩, Same.refl _, fun b q => .inl q, fun b o q n => f.keep b o q fun ⟨_, z⟩ => z rfl, f.dom, fun b q => .inl q⟩
theorem XEnd.frz {F H : Hp} {Γ' : List Slot} {σ : St} {g : Nat → Hp} {Wx : WX} {x : Exn} (s : StOk C F H Γ σ g) (hb : All2 (Bo C) Γ Γ') (hv : ∀ (i : Nat) (O : Op), Γ'[i]? ≠ some (Slot.own O)) (h : XEnd C F H (dU g) Γ σ Wx x) : XEnd C (Y.frzA F H g) H (dU fun _ => emp) Γ' σ Wx x := fun F' H' g' cls d f s' hx => by
  obtain ⟨s2, f2⟩ := s.unfrz hb hv f s'
  exact h F H' g cls d f2 s2 (hx.reg s.sG)
theorem Ev.borrow {Γ' : List Slot} {ρ : α → Rp} [I : Fre ρ] {m : W α} (hb : All2 (Bo C) Γ Γ') (hv : noOwn Γ' = true) (h : Ev C Γ' e ρ m) : Ev C Γ e ρ m := fun X Wx ok tk F H g σ s Q hm => by
  have hv' : ∀ (i : Nat) (O : Op), Γ'[i]? ≠ some (Slot.own O) := fun i O q => noOwn.ok hv _ (List.mem_of_getElem? q) O rfl
  refine h X Wx ok tk _ H _ σ (s.frzA hb hv').1 Q (m.mono (fun a ha F' H' g' v f s' r => ?_) (fun x hx => hx.frz s hb hv') hm)
  obtain ⟨s2, f2⟩ := s.unfrz hb hv' f s'
  exact ha F H' g v f2 s2 (I.fre _ _ _ r _)
theorem EvT.borrow {Γ' : List Slot} {m : W Bool} (hb : All2 (Bo C) Γ Γ') (hv : noOwn Γ' = true) (h : EvT C Γ' e m) : EvT C Γ e m := fun X Wx ok tk F H g σ s Q hm => by
  have hv' : ∀ (i : Nat) (O : Op), Γ'[i]? ≠ some (Slot.own O) := fun i O q => noOwn.ok hv _ (List.mem_of_getElem? q) O rfl
  refine h X Wx ok tk _ H _ σ (s.frzA hb hv').1 Q (m.mono (fun a ha F' H' g' f s' => ?_) (fun x hx => hx.frz s hb hv') hm)
  obtain ⟨s2, f2⟩ := s.unfrz hb hv' f s'
  exact ha F H' g f2 s2
theorem EvO.borrow {Γ' : List Slot} {r : α → Rp} [I : Fre r] {m : W (List α)} (hb : All2 (Bo C) Γ Γ') (hv : noOwn Γ' = true) (h : EvO C Γ' e (oL C.fr r) m) : EvO C Γ e (oL C.fr r) m := fun X Wx ok tk F H g σ s Q hm => by
  have hv' : ∀ (i : Nat) (O : Op), Γ'[i]? ≠ some (Slot.own O) := fun i O q => noOwn.ok hv _ (List.mem_of_getElem? q) O rfl
  obtain ⟨s1, sF, sG, fF⟩ := s.frzA hb hv'
  refine h X Wx ok tk _ H _ σ s1 Q (m.mono (fun a ha F' H' g' G v f s' sG' dF' dG' nG r => ?_) (fun x hx => hx.frz s hb hv') hm)
  have dd : ∀ {A : Hp}, Same A F' → Dis A G := fun {A} z b => by
    rcases dF' b with q | q
    · refine .inl ?_
      cases q2 : A b with
      | none => rfl
      | some o => rw [z b o q2] at q; cases q
    · exact .inr q
  have sFF := sF.trans f.sF
  have sGF := fun i => (sG i).trans f.sF
  refine ha F H' g G v ⟨Same.refl _, fun b q => .inl q, fun b o q n => f.keep b o q fun ⟨_, z⟩ => z rfl, f.dom, fun b q => ?_⟩ ⟨s.len, s.slot, sFF.trans s'.sF, fun i => (sGF i).trans s'.sF, s.dF, s.dG, s'.fr⟩ sG' (dd sFF) (fun i => dd (sGF i)) nG ?_
  · rcases q with q | q
    · exact .inl q
    · rcases f.gs b (.inr q) with ⟨_, z⟩ | z
      · exact absurd rfl z
      · exact .inr z
  · obtain ⟨a1, vs, e1, n1, e2, t⟩ := r
    exact ⟨a1, vs, e1, n1, e2, t.imp fun _ _ z => I.fre _ _ _ z _⟩
/-! ### calls that tell a list of the asker's own -/
theorem EvO.callA {x : Str} {j n : Nat} {es : List Expr} {τ : Type} {ins : (Addr → Prop) → τ → List Rp} {r : β → Rp} [I : Fre r] {mf : τ → W (List β)} {mt : W τ} (hf : FnV C.toMc x j n ins (fun N => rN N r) mf) (hi : ∀ N N' t, ins N t = ins N' t) (hj : j ≤ C.k) (hg : C.sc.names.lookup x = some .globalImplicit) (ha : EvA C Γ (e :: es) (ins C.fr) mt) (hn : NoStar e) (hpl : ∀ (X : Cx) (pos : Pos), (backTo pos (starEach es X.env)).any (·.1) = false)
    (hd : (x == ("__debug__" : Str)) = false := by decide) (hcm : C.cm = true := by rfl) : EvO C Γ (.Call (.Name x p) (e :: es) [] pos) (oL C.fr r) (do let t ← mt; mf t) :=
  fun X Wx ok tk F H g σ s Q hm => by
    obtain ⟨⟨f, fd, ps, hF, hmg, hk, hb⟩, hl⟩ := hf
    have e1 := ok.prog
    have e2 := ok.w
    have e3 := ok.K
    have e4 := ok.mg
    have e5 := ok.base
    refine WE.of (pe_callS (E := fun σ => L2.WE Wx σ) (by rw [e1, e2, e3, e4, e5]; exact hF) ((ok.room hcm).mono hj) (show X.env.scope.names.lookup x = _ by rw [ok.sc]; exact hg) (by rw [e4]; exact hmg) (by rw [e3]; exact hk) (by rw [e3]; exact hb) (fun σ => by
      have := passAt tk σ
      rw [e1, e2] at this
      exact this) (pa_W (es := e :: es)) hd (hn es X.env) (hpl X pos)) ?_
    refine ha.2 X Wx ok tk F H g σ s _ (mt.mono (fun t ht F1 H1 g1 vs f1 s1 r1 => ?_) (fun e he => he) hm)
    refine ⟨t, F1, fun a => H1 a = none, fun _ z => z, s1.sF, by rw [hi _ C.fr t]; exact r1, (mf t).mono (fun b hb F2 H2 g2 v f2 s2 r2 => ?_) (fun e he F2 H2 g2 cls d f2 s2 hx => ?_) ht⟩
    · obtain ⟨s3, f3⟩ := s1.call0 f2 s2
      obtain ⟨a, us, ev, hn1, ha, t2⟩ := r2
      refine hb F1 H2 g1 (one a (.lst us)) v (f1.trans ⟨Same.refl _, fun b q => .inl q, fun b o q _ => f2.keep b o q fun z => z, f2.dom, fun b q => ?_⟩) ⟨s1.len, s1.slot, fun b o q => s2 _ _ (f2.sF b o q), s3.sG, s1.dF, s1.dG, s3.fr⟩ (fun b o q => ?_) (fun b => ?_) (fun i b => ?_) (fun b q => ?_) ⟨a, us, ev, s1.fr a hn1, rfl, t2.imp fun _ _ z => I.fre _ _ _ z _⟩
      · rcases q with q | q
        · exact .inl q
        · by_cases hba : b = a
          · subst hba; exact .inr hn1
          · exact absurd (one_ne hba) q
      · by_cases hba : b = a
        · subst hba; rw [one_same] at q; cases q; exact s2 _ _ ha
        · rw [one_ne hba] at q; cases q
      · by_cases hba : b = a
        · subst hba
          refine .inl ?_
          cases q : F1 b with
          | none => rfl
          | some o => rw [s1.sF b o q] at hn1; cases hn1
        · exact .inr (one_ne hba)
      · by_cases hba : b = a
        · subst hba
          refine .inl ?_
          cases q : g1 i b with
          | none => rfl
          | some o => rw [s1.sG i b o q] at hn1; cases hn1
        · exact .inr (one_ne hba)
      · by_cases hba : b = a
        · subst hba; exact s1.fr b hn1
        · exact absurd (one_ne hba) q
    · obtain ⟨s3, f3⟩ := s1.call0 f2 s2
      exact he F2 H2 g1 cls d (f1.trans f3) s3 ((hx.reg s1.sG).later f1)
variable {e3 e4 : Expr} {δ ε : Type} {x : Str} {j : Nat} {r : ε → Rp} [I : Fre r]
theorem EvO.call1 {ra : α → Rp} {m1 : W α} {mf : α × Unit → W (List ε)} (hf : FnV C.toMc x j 1 (fun N t => [ra t.1]) (fun N => rN N r) mf) (hj : j ≤ C.k) (hg : C.sc.names.lookup x = some .globalImplicit) (h1 : Ev C Γ e1 ra m1) (n1 : NoStar e1) (hd : (x == ("__debug__" : Str)) = false := by decide) (hcm : C.cm = true := by rfl) :
    EvO C Γ (.Call (.Name x p) [e1] [] pos) (oL C.fr r) (do let a ← m1; mf (a, ())) := EvO.callA (mt := do let a ← m1; let t ← pure (); pure (a, t)) hf (fun _ _ _ => rfl) hj hg (EvA.cons h1 EvA.nil n1) n1 noArgs hd hcm
theorem EvO.call2 {ra : α → Rp} {rb : β → Rp} {m1 : W α} {m2 : W β} {mf : α × β × Unit → W (List ε)} (hf : FnV C.toMc x j 2 (fun N t => [ra t.1, rb t.2.1]) (fun N => rN N r) mf) (hj : j ≤ C.k) (hg : C.sc.names.lookup x = some .globalImplicit) (h1 : Ev C Γ e1 ra m1) (h2 : Ev C Γ e2 rb m2) (n1 : NoStar e1) (n2 : NoStar e2) (hd : (x == ("__debug__" : Str)) = false := by decide) (hcm : C.cm = true := by rfl) :
    EvO C Γ (.Call (.Name x p) [e1, e2] [] pos) (oL C.fr r) (do let a ← m1; let b ← m2; mf (a, b, ())) := EvO.callA (mt := do let a ← m1; let t ← (do let b ← m2; let t ← pure (); pure (b, t)); pure (a, t)) hf (fun _ _ _ => rfl) hj hg (EvA.cons h1 (EvA.cons h2 EvA.nil n2) n1) n1 (EvA.cons h2 EvA.nil n2).1 hd hcm
theorem EvO.call3 {ra : α → Rp} {rb : β → Rp} {rc : γ → Rp} {m1 : W α} {m2 : W β} {m3 : W γ} {mf : α × β × γ × Unit → W (List ε)} (hf : FnV C.toMc x j 3 (fun N t => [ra t.1, rb t.2.1, rc t.2.2.1]) (fun N => rN N r) mf) (hj : j ≤ C.k) (hg : C.sc.names.lookup x = some .globalImplicit) (h1 : Ev C Γ e1 ra m1) (h2 : Ev C Γ e2 rb m2) (h3 : Ev C Γ e3 rc m3) (n1 : NoStar e1) (n2 : NoStar e2) (n3 : NoStar e3) (hd : (x == ("__debug__" : Str)) = false := by decide) (hcm : C.cm = true := by rfl) :
    EvO C Γ (.Call (.Name x p) [e1, e2, e3] [] pos) (oL C.fr r) (do let a ← m1; let b ← m2; let c ← m3; mf (a, b, c, ())) :=
  EvO.callA (mt := do let a ← m1; let t ← (do let b ← m2; let t ← (do let c ← m3; let t ← pure (); pure (c, t)); pure (b, t)); pure (a, t)) hf (fun _ _ _ => rfl) hj hg (EvA.cons h1 (EvA.cons h2 (EvA.cons h3 EvA.nil n3) n2) n1) n1 (EvA.cons h2 (EvA.cons h3 EvA.nil n3) n2).1 hd hcm
end
section
variable {C : Cc} {Γ : List Slot} {α β : Type} {e e1 e2 a b : Expr} {pos p : Pos}
/-! ### comparisons as tests -/
theorem wpAny_isTrue_cmp {M : Model} {A : Around} {E : Value → Shared → Prop} {env : Env} {s : Shared} {l r : Expr} {op : CmpOp} {whole : Sem Value} {Q : Bool → Shared → Prop} (h : wpAny M A (eval (.Compare l [op] [r] pos) env) (fun c s' => wpAny M A (truthy c) Q E s') E s) (hm : behindInMarks op r = false) :
    wpAny M A (isTrue (.Compare l [op] [r] pos) env whole) Q E s := fun Γ p hΓ => by
  have h0 := h Γ p hΓ
  simp only [eval_Compare1, isTrue_Compare1, markedBehindIn_of_false hm, Sem.wp_bind', Sem.wp_holding, Sem.wp_cmd_standAt, Sem.wp_operate] at h0 ⊢
  exact Sem.wp_mono M Γ _ (fun a p₁ s₁ h₁ => Sem.wp_mono M Γ _ (fun b p₂ s₂ h₂ => Sem.wp_mono M Γ _ (fun c p₃ s₃ h₃ => h₃ Γ p₃ hΓ) (fun _ _ _ h' => h') _ _ h₂) (fun _ _ _ h' => h') _ _ h₁) (fun _ _ _ h' => h') _ _ h0
theorem EvT.cmp {op : CmpOp} {m : W Bool} (h : Ev C Γ (.Compare a [op] [b] pos) rB m) (hm : behindInMarks op b = false := by with_unfolding_all rfl) : EvT C Γ (.Compare a [op] [b] pos) m := fun X Wx ok tk F H g σ s Q hw => by
  unfold WT
  intro pins s0 I
  refine wpAny_isTrue_cmp (thn (pe_W.run pins s0 σ H (fun v H' => ∃ k, v = .bl k ∧ Q k H') I (h X Wx ok tk F H g σ s (fun v H' => ∃ k, v = .bl k ∧ Q k H') (m.mono (fun x hx F1 H1 g1 v f1 s1 r1 => ⟨x, r1, hx F1 H1 g1 f1 s1⟩) (fun e he => he) hw))) fun c s3 ⟨z, H3, I3, r3, k, e, q3⟩ => ?_) hm
  subst e
  cases r3
  exact wpAny_truthy_bool ⟨H3, I3, q3⟩
/-! ### loops that may return; mixed ifs: S goes on, ρ is told -/
def Fl.out {S ρ : Type} : Fl S ρ → S ⊕ ρ
  | .go s => .inl s
  | .brk s => .inl s
  | .ret r => .inr r
theorem Ex1.map {ω ω' : Type} {J : ω → Out} {J' : ω' → Out} {st : Stmt} {m : W ω} (f : ω → ω') (h : ∀ o, J' (f o) = J o) (x : Ex1 C Γ st J m) : Ex1 C Γ st J' (do let o ← m; pure (f o)) := fun X Wx ok tk F H g σ s D hm =>
  x X Wx ok tk F H g σ s D (m.mono (fun o z => by
    have z' : OutOk C D F H (dU g) (J' (f o)) := z
    rw [h o] at z'
    exact z') (fun _ z => z) hm)
def outX {S ρ : Type} (Γs : S → List Slot) (R : ρ → Rp) : S ⊕ ρ → Out
  | .inl s => .nx (Γs s)
  | .inr r => .rt (R r)
def outF {S ρ : Type} (Γs : S → List Slot) (R : ρ → Rp) : Fl S ρ → Out
  | .go s => .lp (Γs s)
  | .ret r => .rt (R r)
  | .brk s => .bk (Γs s)
theorem Ex1.forX {S ρ : Type} {tg iter : Expr} {body : List Stmt} {r : α → Rp} {t : TG} {up : List Slot → α → List Slot} {m : W (List α)} {f : S → α → W (Fl S ρ)} (Γs : S → List Slot) (R : ρ → Rp) {s0 : S} (hi : EvI C Γ tg iter r m) (hg : EvG C tg r t up) (h0 : All2 Le1 Γ (Γs s0))
    (hb : ∀ s x, Ex C (up (Γs s) x) body (outF Γs R) (f s x))
    (hs : ∀ (env : Env) x, foldedSetIterable iter env x = pure x := by intro _ _; rfl) (hcm : C.cm = true := by rfl) : Ex1 C Γ (.For tg iter body [] pos) (outX Γs R) (do let o ← (do let xs ← m; W.foldR f s0 xs); pure o.out) :=
  Ex1.map (J := fun o : Fl S ρ => match o with | .go s' => .nx (Γs s') | .ret r => .rt (R r) | .brk s' => .nx (Γs s')) Fl.out (fun o => by cases o <;> rfl) (Ex1.forR Γs (fun r => .rt (R r)) (fun x => .inl ⟨_, rfl⟩) hi hg h0 (fun s x => by
    have := hb s x
    rwa [show outF Γs R = (fun o : Fl S ρ => match o with | .go s' => .lp (Γs s') | .ret r => .rt (R r) | .brk s' => .bk (Γs s')) from funext fun o => by cases o <;> rfl] at this) hs hcm)
/-! ### pure forms -/
theorem Ev.absP {x : Int} (hb : Blt C "abs" (.builtin "abs")) (ha : Ev C Γ e rI (pure x)) (hn : NoStar e) : Ev C Γ (.Call (.Name "abs" p) [e] [] pos) rI (pure (absI x)) := Ev.abs hb ha hn
theorem Ev.lenLP {r : α → Rp} {x : List α} (hb : Blt C "len" (.builtin "len")) (ha : Ev C Γ e (rL C.K r) (pure x)) (hn : NoStar e) : Ev C Γ (.Call (.Name "len" p) [e] [] pos) rI (pure (x.length : Int)) := Ev.lenL hb ha hn
theorem Ev.lenSP {x : Str} (hb : Blt C "len" (.builtin "len")) (ha : Ev C Γ e rS (pure x)) (hn : NoStar e) : Ev C Γ (.Call (.Name "len" p) [e] [] pos) rI (lenW x) := Ev.lenS hb ha hn
theorem Ev.sumP {x : List Int} (hb : Blt C "sum" (.builtin "sum")) (ha : Ev C Γ e (rL C.K rI) (pure x)) (hn : NoStar e) (hcm : C.cm = true := by rfl) : Ev C Γ (.Call (.Name "sum" p) [e] [] pos) rI (pure x.sum) := Ev.sum hb ha hn hcm
theorem Ev.notP {x : Bool} (ha : Ev C Γ e rB (pure x)) : Ev C Γ (.UnaryOp .Not e pos) rB (pure (!x)) := Ev.not ha
theorem Ev.intBP {x : Bool} (hb : Blt C "int" (.type "int")) (ha : Ev C Γ e rB (pure x)) (hn : NoStar e) : Ev C Γ (.Call (.Name "int" p) [e] [] pos) rI (pure (if x = true then (1 : Int) else 0)) := Ev.intB hb ha hn
theorem Ev.ixLP {r : α → Rp} {xs : List α} {i : Int} (ha : Ev C Γ a (rL C.K r) (pure xs)) (hb : Ev C Γ b rI (pure i)) (hp : PlainIx b := by intro _ _; rfl) : Ev C Γ (.Subscript a b pos) r (idx xs i) := Ev.ixL ha hb hp
theorem EvO.sliceP {r : α → Rp} {lo hi : Option Expr} {p2 : Pos} {xs : List α} {l h : Option Int} (ha : Ev C Γ a (rL C.K r) (pure xs)) (hl : EvP C Γ lo (pure l)) (hh : EvP C Γ hi (pure h)) : EvO C Γ (.Subscript a (.Slice lo hi Option.none p2) pos) (oL C.fr r) (pure (cut xs l h)) := EvO.slice ha hl hh
theorem Ev.nameP {i : Nat} {x : Str} {ρ : α → Rp} {v : α} (hN : C.N[i]? = some x) (hv : visB C.sc x = true) (hΓ : Γ[i]? = some (.val (ρ v))) (hd : (x == ("__debug__" : Str) || x == ("__classdict__" : Str)) = false) : Ev C Γ (.Name x pos) ρ (pure v) := by
  rw [Bool.or_eq_false_iff] at hd
  exact Ev.name hN (visOf hv) hΓ hd.1 hd.2
theorem Ev.eqK {K : PySem.W.Frag} (hK : C.K = K) {ma mb : W α} {ρa ρb : α → Rp} [I : DatE K ρa] [J : DatE K ρb] [DecidableEq α] (he : I.enc = J.enc) (hda : I.dep ≤ 64) (hdb : J.dep ≤ 64) (ho : I.ok = J.ok) (ha : Ev C Γ a ρa ma) (hb : Ev C Γ b ρb mb) :
    Ev C Γ (.Compare a [.Eq] [b] pos) rB (do let x ← ma; let y ← mb; eqW I.ok x y) := by subst hK; exact Ev.eq he hda hdb ho ha hb
theorem Ev.neK {K : PySem.W.Frag} (hK : C.K = K) {ma mb : W α} {ρa ρb : α → Rp} [I : DatE K ρa] [J : DatE K ρb] [DecidableEq α] (he : I.enc = J.enc) (hda : I.dep ≤ 64) (hdb : J.dep ≤ 64) (ho : I.ok = J.ok) (ha : Ev C Γ a ρa ma) (hb : Ev C Γ b ρb mb) :
    Ev C Γ (.Compare a [.NotEq] [b] pos) rB (do let x ← ma; let y ← mb; neW I.ok x y) := by subst hK; exact Ev.ne he hda hdb ho ha hb
theorem Ev.eqTK {K : PySem.W.Frag} (hK : C.K = K) {ma mb : W α} {ρa ρb : α → Rp} [I : DatE K ρa] [J : DatE K ρb] [T : DatT K ρa] [DecidableEq α] (he : I.enc = J.enc) (hda : I.dep ≤ 64) (hdb : J.dep ≤ 64) (ho : I.ok = J.ok) (ha : Ev C Γ a ρa ma) (hb : Ev C Γ b ρb mb) :
    Ev C Γ (.Compare a [.Eq] [b] pos) rB (do let x ← ma; let y ← mb; pure (decide (x = y))) := by subst hK; exact Ev.eqT he hda hdb ho ha hb
theorem Ev.neTK {K : PySem.W.Frag} (hK : C.K = K) {ma mb : W α} {ρa ρb : α → Rp} [I : DatE K ρa] [J : DatE K ρb] [T : DatT K ρa] [DecidableEq α] (he : I.enc = J.enc) (hda : I.dep ≤ 64) (hdb : J.dep ≤ 64) (ho : I.ok = J.ok) (ha : Ev C Γ a ρa ma) (hb : Ev C Γ b ρb mb) :
    Ev C Γ (.Compare a [.NotEq] [b] pos) rB (do let x ← ma; let y ← mb; pure (!decide (x = y))) := by subst hK; exact Ev.neT he hda hdb ho ha hb
theorem Ev.someV {r r' : α → Rp} {m : W α} (s : SubK r r') (h : Ev C Γ e r m) : Ev C Γ e (rO r') (do let x ← m; pure (some x)) := Ev.map some (fun a F v z => s a F v z) h
end
/-! ### the law's def -/
theorem okBody {M : Mc} {x : Str} {f : Addr} {fd : FuncData} {st : Stmt} {k n : Nat} {N ps : List Str} {τ β : Type} {ins : (Addr → Prop) → τ → List Rp} {ρ : (Addr → Prop) → β → Rp} {m : τ → W β} (F : Fun M.K x x st f fd) (S : FnScope N ps (defScope st))
    (hn : ps.length = n) (hl : ∀ N t, (ins N t).length = n) (h : ∀ (fr : Addr → Prop) (t : τ), Ex (initC M N (defScope st) k fr) (Γ0 (ins fr t) N) (defBody st) (fun b => .rt (ρ fr b)) (m t)) : FnOk M.P M.w M.K M.mg M.base (L2.CX M.P M.w) (k + 1) f fd ps (spV M ins ρ m) := by
  refine F.okX S (fun vs H Q E hsp => ?_) (fun cdv A outer s H vs Q E hr hsp => ?_)
  · obtain ⟨t, F', Nf, _, _, r, _⟩ := hsp
    rw [r.length, hl, hn]
  · obtain ⟨t, F', Nf, hNf, sm, r, w⟩ := hsp
    refine ⟨_, pss_W, ?_⟩
    refine h Nf t (cxOf (L2.CX M.P M.w) M.P M.w M.K M.mg M.base N x (defScope st) f cdv A outer s H E) (fun cls d _ H => E cls d H) ⟨⟨rfl, rfl, rfl, rfl, rfl, rfl, rfl, S.nd, rfl, fun _ => hr, hr.units, fun _ _ _ h => (nomatch h), fun _ _ => rfl⟩, passes_of rfl, rfl, rfl⟩ (takes_of rfl rfl rfl rfl) F' H _ _ (start_ok hNf sm r) _ ((m t).mono (fun b hb => ?_) (fun e he => ?_) w)
    · intro F2 H2 g2 v f2 s2 r2
      exact hb F2 H2 g2 v (show Fr F' H (fun _ => False) F2 H2 (dU g2) from ⟨f2.sF, fun b z => (f2.fF b z).imp_right fun q => q.imp_right fun ⟨_, q⟩ => absurd rfl q, fun b o q _ => f2.keep b o q fun ⟨_, z⟩ => absurd rfl z, f2.dom, fun b z => (f2.gs b z).imp_left fun ⟨_, q⟩ => absurd rfl q⟩) s2 r2
    · intro F2 H2 g2 σ2 cls d f2 s2 hx
      exact he F2 H2 g2 cls d ⟨f2.sF, fun b z => (f2.fF b z).imp_right fun q => q.imp_right fun ⟨_, q⟩ => absurd rfl q, fun b o q _ => f2.keep b o q fun ⟨_, z⟩ => absurd rfl z, f2.dom, fun b z => (f2.gs b z).imp_left fun ⟨_, q⟩ => absurd rfl q⟩ s2 hx
end Y

/-! Y11: more expressions -/
namespace Y
open PySem PySem.Spec L2
section
variable {C : Cc} {Γ : List Slot} {α β γ δ : Type} {e e1 e2 a b c : Expr} {pos p p2 : Pos}
/-! ### lists -/
def catL (x y : List α) : W (List α) := W.req (x.length + y.length ≤ sizeLine) (pure (x ++ y))
theorem EvO.cat {r : α → Rp} {ma mb : W (List α)} (ha : Ev C Γ a (rN C.fr r) ma) (hb : Ev C Γ b (rN C.fr r) mb) : EvO C Γ (.BinOp a .Add b pos) (oL C.fr r) (do let x ← ma; let y ← mb; catL x y) :=
  fun X Wx ok tk F H g σ s Q hm => by
    refine WE.of (pe_op op_cat (pe_W (e := a)) (pe_W (e := b))) ?_
    refine ha X Wx ok tk F H g σ s _ (ma.mono (fun x hx F1 H1 g1 v f1 s1 r1 => ?_) (fun e he => he) hm)
    refine hb X Wx ok tk F1 H1 g1 σ s1 _ (mb.mono (fun y hy F2 H2 g2 w f2 s2 r2 => ?_) (fun e he => XEnd.later f1 he) hx)
    obtain ⟨q1, vs1, e1, n1, h1, t1⟩ := (rN C.fr r x).mono f2.sF r1
    obtain ⟨q2, vs2, e2, n2, h2, t2⟩ := r2
    obtain ⟨hl, hy⟩ := hy
    refine ⟨q1, q2, vs1, vs2, e1, e2, s2.sF _ _ h1, s2.sF _ _ h2, by rw [t1.length, t2.length]; exact hl, fun l hl2 => ?_⟩
    exact EvO.fin (O := oL C.fr r (x ++ y)) (f1.trans f2) s2 hl2 (fun n => ⟨l, _, rfl, n, rfl, t1.append t2⟩) hy
theorem EvO.rev {r : α → Rp} {m : W (List α)} {k : Nat} {p1 p2 p3 : Pos} (ha : Ev C Γ a (rL C.K r) m) : EvO C Γ (.Subscript a (.Slice none none (some (.UnaryOp .USub (.Constant (.int 1) k p1) p2)) p3) pos) (oL C.fr r) (do let x ← m; pure x.reverse) :=
  fun X Wx ok tk F H g σ s Q hm => by
    refine WE.of (pe_revL (pe_W (e := a))) ?_
    refine ha X Wx ok tk F H g σ s _ (m.mono (fun x hx F1 H1 g1 v f1 s1 r1 => ?_) (fun e he => he) hm)
    obtain ⟨q, vs, ev, hq, t⟩ := r1
    exact ⟨q, vs, ev, by rw [ok.K]; exact s1.sF.seq hq, fun l hl => EvO.fin (O := oL C.fr r x.reverse) f1 s1 hl (fun n => ⟨l, _, rfl, n, rfl, t.reverse⟩) hx⟩
theorem inV_int (x : Int) : ∀ xs : List Int, inV (.int x) (xs.map V.int) = decide (x ∈ xs)
  | [] => rfl
  | y :: ys => by
    show ((y == x) || inV (.int x) (ys.map V.int)) = _
    rw [inV_int x ys]
    by_cases h : y = x
    · subst h; simp
    · have h2 : (y == x) = false := by simpa using h
      have h3 : ¬ x = y := fun z => h z.symm
      rw [h2]; simp [h3]
theorem flat_ints : ∀ xs : List Int, (xs.map V.int).all flatV = true
  | [] => rfl
  | _ :: ys => flat_ints ys
theorem Ev.inI {ma : W Int} {mb : W (List Int)} (ha : Ev C Γ a rI ma) (hb : Ev C Γ b (rL C.K rI) mb) (hk : behindInMarks .In b = false := by with_unfolding_all rfl) : Ev C Γ (.Compare a [.In] [b] pos) rB (do let x ← ma; let y ← mb; pure (decide (x ∈ y))) :=
  Ev.cmp (fun x y => decide (x ∈ y)) (fun X ok => ⟨_, op_in_seq, fun x y H v w Q hv hw h => by
    obtain ⟨q, vs, ev, hq, t⟩ := id (α := (rL C.K rI y).p H w) hw
    have e1 : v = .int x := hv
    have e2 := All2.ints t
    subst e1 e2
    exact ⟨q, y.map V.int, ev, .inl (by rw [ok.K]; exact hq), rfl, flat_ints y, by rw [inV_int]; exact h⟩⟩) hk ha hb
theorem Ev.notInI {ma : W Int} {mb : W (List Int)} (ha : Ev C Γ a rI ma) (hb : Ev C Γ b (rL C.K rI) mb) (hk : behindInMarks .NotIn b = false := by with_unfolding_all rfl) : Ev C Γ (.Compare a [.NotIn] [b] pos) rB (do let x ← ma; let y ← mb; pure (!decide (x ∈ y))) :=
  Ev.cmp (fun x y => !decide (x ∈ y)) (fun X ok => ⟨_, op_notIn_seq, fun x y H v w Q hv hw h => by
    obtain ⟨q, vs, ev, hq, t⟩ := id (α := (rL C.K rI y).p H w) hw
    have e1 : v = .int x := hv
    have e2 := All2.ints t
    subst e1 e2
    exact ⟨q, y.map V.int, ev, .inl (by rw [ok.K]; exact hq), rfl, flat_ints y, by rw [inV_int]; exact h⟩⟩) hk ha hb
/-! ### tuples -/
theorem Ev.ixT2_0P {r1 : α → Rp} {r2 : β → Rp} {x : α × β} {j : Nat} (ha : Ev C Γ a (rT2 C.K r1 r2) (pure x)) : Ev C Γ (.Subscript a (.Constant (.int 0) j p2) pos) r1 (pure x.1) := Ev.ixT2_0 ha
theorem Ev.ixT2_1P {r1 : α → Rp} {r2 : β → Rp} {x : α × β} {j : Nat} (ha : Ev C Γ a (rT2 C.K r1 r2) (pure x)) : Ev C Γ (.Subscript a (.Constant (.int 1) j p2) pos) r2 (pure x.2) := Ev.ixT2_1 ha
theorem Ev.ixT3_0P {r1 : α → Rp} {r2 : β → Rp} {r3 : γ → Rp} {x : α × β × γ} {j : Nat} (ha : Ev C Γ a (rT3 C.K r1 r2 r3) (pure x)) : Ev C Γ (.Subscript a (.Constant (.int 0) j p2) pos) r1 (pure x.1) := Ev.ixT3_0 ha
theorem Ev.ixT3_1P {r1 : α → Rp} {r2 : β → Rp} {r3 : γ → Rp} {x : α × β × γ} {j : Nat} (ha : Ev C Γ a (rT3 C.K r1 r2 r3) (pure x)) : Ev C Γ (.Subscript a (.Constant (.int 1) j p2) pos) r2 (pure x.2.1) := Ev.ixT3_1 ha
theorem Ev.ixT3_2P {r1 : α → Rp} {r2 : β → Rp} {r3 : γ → Rp} {x : α × β × γ} {j : Nat} (ha : Ev C Γ a (rT3 C.K r1 r2 r3) (pure x)) : Ev C Γ (.Subscript a (.Constant (.int 2) j p2) pos) r3 (pure x.2.2) := Ev.ixT3_2 ha
theorem Ev.tup2P {k : Nat} {r1 : α → Rp} {r2 : β → Rp} {x : α} {y : β} (h1 : Ev C Γ e1 r1 (pure x)) (h2 : Ev C Γ e2 r2 (pure y)) (n1 : NoStar e1) (n2 : NoStar e2) : Ev C Γ (.Tuple [e1, e2] k pos) (rT2 C.K r1 r2) (pure (x, y)) := Ev.tup2 h1 h2 n1 n2
theorem Ev.tup3P {k : Nat} {r1 : α → Rp} {r2 : β → Rp} {r3 : γ → Rp} {x : α} {y : β} {z : γ} (h1 : Ev C Γ e1 r1 (pure x)) (h2 : Ev C Γ e2 r2 (pure y)) (h3 : Ev C Γ c r3 (pure z)) (n1 : NoStar e1) (n2 : NoStar e2) (n3 : NoStar c) : Ev C Γ (.Tuple [e1, e2, c] k pos) (rT3 C.K r1 r2 r3) (pure (x, y, z)) := Ev.tup3 h1 h2 h3 n1 n2 n3
theorem Ev.lenT {ρ : α → Rp} {m : W α} (n : Nat) (hρ : ∀ x F v, (ρ x).p F v → ∃ q vs, v = .ref q ∧ SqT C.K F q vs ∧ vs.length = n) (hb : Blt C "len" (.builtin "len")) (ha : Ev C Γ e ρ m) (hn : NoStar e) : Ev C Γ (.Call (.Name "len" p) [e] [] pos) rI (do let _ ← m; pure (n : Int)) :=
  Ev.callB1 (fun _ => pure (n : Int)) hb (fun X ok => ⟨_, call_len_seq, fun x H v Q E hv h => by
    obtain ⟨q, vs, ev, hq, hl⟩ := hρ x H v hv
    exact ⟨q, vs, by rw [ev], .inr (by rw [ok.K]; exact hq), by rw [hl]; exact h _ fun _ _ => rfl⟩⟩) (fun _ _ _ _ h => h) (fun y F v h F' => h) ha hn
theorem Ev.lenT2 {r1 : α → Rp} {r2 : β → Rp} {m : W (α × β)} (hb : Blt C "len" (.builtin "len")) (ha : Ev C Γ e (rT2 C.K r1 r2) m) (hn : NoStar e) : Ev C Γ (.Call (.Name "len" p) [e] [] pos) rI (do let _ ← m; pure (2 : Int)) :=
  Ev.lenT (ρ := rT2 C.K r1 r2) 2 (fun x F v ⟨q, v1, v2, ev, hq, _⟩ => ⟨q, _, ev, hq, rfl⟩) hb ha hn
theorem Ev.lenT3 {r1 : α → Rp} {r2 : β → Rp} {r3 : γ → Rp} {m : W (α × β × γ)} (hb : Blt C "len" (.builtin "len")) (ha : Ev C Γ e (rT3 C.K r1 r2 r3) m) (hn : NoStar e) : Ev C Γ (.Call (.Name "len" p) [e] [] pos) rI (do let _ ← m; pure (3 : Int)) :=
  Ev.lenT (ρ := rT3 C.K r1 r2 r3) 3 (fun x F v ⟨q, v1, v2, v3, ev, hq, _⟩ => ⟨q, _, ev, hq, rfl⟩) hb ha hn
/-! ### truths, None -/
theorem Ev.isB {ma mb : W Bool} (ha : Ev C Γ a rB ma) (hb : Ev C Γ b rB mb) : Ev C Γ (.Compare a [.Is] [b] pos) rB (do let x ← ma; let y ← mb; pure (decide (x = y))) :=
  Ev.cmp (fun x y => decide (x = y)) (fun X ok => ⟨_, op_is_bl, fun x y H v w Q hv hw h => ⟨x, y, hv, hw, h⟩⟩) (nomark _) ha hb
theorem Ev.isNotB {ma mb : W Bool} (ha : Ev C Γ a rB ma) (hb : Ev C Γ b rB mb) : Ev C Γ (.Compare a [.IsNot] [b] pos) rB (do let x ← ma; let y ← mb; pure (!decide (x = y))) :=
  Ev.cmp (fun x y => !decide (x = y)) (fun X ok => ⟨_, op_isnot_bl, fun x y H v w Q hv hw h => ⟨x, y, hv, hw, h⟩⟩) (nomark _) ha hb
theorem nnI (x : Int) (F : Hp) (v : V) (h : (rI x).p F v) : v ≠ .non := fun z => by have e : v = .int x := h; rw [z] at e; cases e
theorem nnB (x : Bool) (F : Hp) (v : V) (h : (rB x).p F v) : v ≠ .non := fun z => by have e : v = .bl x := h; rw [z] at e; cases e
theorem nnS (x : Str) (F : Hp) (v : V) (h : (rS x).p F v) : v ≠ .non := fun z => by have e : v = .str x := h; rw [z] at e; cases e
theorem nnL {K : PySem.W.Frag} {r : α → Rp} (x : List α) (F : Hp) (v : V) (h : (rL K r x).p F v) : v ≠ .non := fun z => by obtain ⟨_, _, e, _⟩ := h; rw [z] at e; cases e
theorem nnN {N : Addr → Prop} {r : α → Rp} (x : List α) (F : Hp) (v : V) (h : (rN N r x).p F v) : v ≠ .non := fun z => by obtain ⟨_, _, e, _⟩ := h; rw [z] at e; cases e
theorem nnT2 {K : PySem.W.Frag} {r1 : α → Rp} {r2 : β → Rp} (x : α × β) (F : Hp) (v : V) (h : (rT2 K r1 r2 x).p F v) : v ≠ .non := fun z => by obtain ⟨_, _, _, e, _⟩ := h; rw [z] at e; cases e
theorem nnT3 {K : PySem.W.Frag} {r1 : α → Rp} {r2 : β → Rp} {r3 : γ → Rp} (x : α × β × γ) (F : Hp) (v : V) (h : (rT3 K r1 r2 r3 x).p F v) : v ≠ .non := fun z => by obtain ⟨_, _, _, _, e, _⟩ := h; rw [z] at e; cases e
/-- what is surely not None -/
def theW {α : Type} : Option α → W α
  | some x => pure x
  | none => W.bad
theorem Ev.the {r : α → Rp} {m : W (Option α)} (h : Ev C Γ e (rO r) m) : Ev C Γ e r (do let x ← m; theW x) := fun X Wx ok tk F H g σ s Q hm =>
  h X Wx ok tk F H g σ s Q (m.mono (fun x hx F1 H1 g1 v f1 s1 r1 => by
    cases x with
    | none => exact absurd hx id
    | some x => exact hx F1 H1 g1 v f1 s1 r1) (fun _ h => h) hm)
/-! ### texts -/
def memS (x z : Str) : Bool := match x.cps.toList with
  | [c] => decide (c ∈ z.cps.toList)
  | _ => false
theorem one_sign {x : Str} (h : x.cps.size = 1) : ∃ c, x = ⟨#[c]⟩ ∧ x.cps.toList = [c] := by
  obtain ⟨cps⟩ := x
  obtain ⟨l⟩ := cps
  match l, h with
  | [c], _ => exact ⟨c, rfl, rfl⟩
def inSgn (x z : Str) : W Bool := W.req (x.cps.size = 1) (pure (memS x z))
def notInSgn (x z : Str) : W Bool := W.req (x.cps.size = 1) (pure (!memS x z))
theorem Ev.inS {ma mb : W Str} (ha : Ev C Γ a rS ma) (hb : Ev C Γ b rS mb) (hk : behindInMarks .In b = false := by with_unfolding_all rfl) : Ev C Γ (.Compare a [.In] [b] pos) rB (do let x ← ma; let y ← mb; inSgn x y) :=
  Ev.cmpW inSgn (fun X ok => ⟨_, op_in_sign, fun x y H v w Q E hv hw h => by
    obtain ⟨h1, h2⟩ := h
    obtain ⟨c, ec, el⟩ := one_sign h1
    refine ⟨c, y, by rw [← ec]; exact hv, hw, ?_⟩
    have h3 : Q (.bl (memS x y)) H := h2
    unfold memS at h3
    rw [el] at h3
    exact h3⟩) (fun _ _ _ _ _ h => h) hk ha hb
theorem Ev.notInS {ma mb : W Str} (ha : Ev C Γ a rS ma) (hb : Ev C Γ b rS mb) (hk : behindInMarks .NotIn b = false := by with_unfolding_all rfl) : Ev C Γ (.Compare a [.NotIn] [b] pos) rB (do let x ← ma; let y ← mb; notInSgn x y) :=
  Ev.cmpW notInSgn (fun X ok => ⟨_, op_notIn_sign, fun x y H v w Q E hv hw h => by
    obtain ⟨h1, h2⟩ := h
    obtain ⟨c, ec, el⟩ := one_sign h1
    refine ⟨c, y, by rw [← ec]; exact hv, hw, ?_⟩
    have h3 : Q (.bl (!memS x y)) H := h2
    unfold memS at h3
    rw [el] at h3
    exact h3⟩) (fun _ _ _ _ _ h => h) hk ha hb
def leStr (x y : Str) : Bool := !decide (y.cps.toList < x.cps.toList)
/-! ### chains -/
structure CmpR (C : Cc) (op : CmpOp) (ρa : α → Rp) (ρb : β → Rp) (k : α → β → Bool) : Prop where
  hop : ∀ X, C.Ok X → ∃ r, OpR X (compareOp op) r ∧ ∀ x y H v w Q, (ρa x).p H v → (ρb y).p H w → Q (.bl (k x y)) H → r v w H Q
theorem cr_lt : CmpR C .Lt rI rI (fun x y => decide (x < y)) := ⟨fun X _ => ⟨_, op_lt, fun x y H v w Q hv hw q => ⟨x, y, hv, hw, q⟩⟩⟩
theorem cr_le : CmpR C .LtE rI rI (fun x y => decide (x ≤ y)) := ⟨fun X _ => ⟨_, op_le, fun x y H v w Q hv hw q => ⟨x, y, hv, hw, q⟩⟩⟩
theorem cr_gt : CmpR C .Gt rI rI (fun x y => decide (y < x)) := ⟨fun X _ => ⟨_, op_gt, fun x y H v w Q hv hw q => ⟨x, y, hv, hw, q⟩⟩⟩
theorem cr_ge : CmpR C .GtE rI rI (fun x y => decide (y ≤ x)) := ⟨fun X _ => ⟨_, op_ge, fun x y H v w Q hv hw q => ⟨x, y, hv, hw, q⟩⟩⟩
theorem cr_leS : CmpR C .LtE rS rS leStr := ⟨fun X _ => ⟨_, op_le_str, fun x y H v w Q hv hw q => ⟨x, y, hv, hw, q⟩⟩⟩
def chW {α β γ : Type} (k : α → β → Bool) (k' : β → γ → Bool) (x : α) (y : β) (mc : W γ) : W Bool := if k x y = true then (do let z ← mc; pure (k' y z)) else pure false
theorem wp_chW {k : α → β → Bool} {k' : β → γ → Bool} {x : α} {y : β} {mc : W γ} {P : Bool → Prop} {E : Exn → Prop} : (chW k k' x y mc).wp P E ↔ if k x y = true then mc.wp (fun z => P (k' y z)) E else P false := by
  unfold chW
  split <;> exact Iff.rfl
theorem Ev.chain {op op' : CmpOp} {ρa : α → Rp} {ρb : β → Rp} {ρc : γ → Rp} {ma : W α} {mb : W β} {mc : W γ} {k : α → β → Bool} {k' : β → γ → Bool} (h1 : CmpR C op ρa ρb k) (h2 : CmpR C op' ρb ρc k') (ha : Ev C Γ a ρa ma) (hb : Ev C Γ b ρb mb) (hc : Ev C Γ c ρc mc)
    (hm : lastMarks [op, op'] [b, c] = false := by with_unfolding_all rfl) : Ev C Γ (.Compare a [op, op'] [b, c] pos) rB (do let x ← ma; let y ← mb; chW k k' x y mc) := fun X Wx ok tk F H g σ s Q hw => by
  obtain ⟨r, ho, hr⟩ := h1.hop X ok
  obtain ⟨r', ho', hr'⟩ := h2.hop X ok
  refine WE.of (pe_chain ho ho' (pe_W (e := a)) (pe_W (e := b)) (pe_W (e := c)) hm) ?_
  refine ha X Wx ok tk F H g σ s _ (ma.mono (fun x hx F1 H1 g1 v f1 s1 r1 => ?_) (fun e he => he) hw)
  refine hb X Wx ok tk F1 H1 g1 σ s1 _ (mb.mono (fun y hy F2 H2 g2 w f2 s2 r2 => ?_) (fun e he => XEnd.later f1 he) hx)
  refine hr x y H2 v w _ ((ρa x).mono (f2.sF.trans s2.sF) r1) ((ρb y).mono s2.sF r2) ⟨_, rfl, ?_⟩
  have hy := wp_chW.mp hy
  split
  · rename_i hk
    rw [if_pos hk] at hy
    refine hc X Wx ok tk F2 H2 g2 σ s2 _ (mc.mono (fun z hz F3 H3 g3 u f3 s3 r3 => ?_) (fun e he => XEnd.later (f1.trans f2) he) hy)
    exact hr' y z H3 w u _ ((ρb y).mono (f3.sF.trans s3.sF) r2) ((ρc z).mono s3.sF r3) (hz F3 H3 g3 _ (f1.trans (f2.trans f3)) s3 rfl)
  · rename_i hk
    rw [if_neg hk] at hy
    exact hy F2 H2 g2 _ (f1.trans f2) s2 rfl
theorem EvT.chain {op op' : CmpOp} {ρa : α → Rp} {ρb : β → Rp} {ρc : γ → Rp} {ma : W α} {mb : W β} {mc : W γ} {k : α → β → Bool} {k' : β → γ → Bool} (h1 : CmpR C op ρa ρb k) (h2 : CmpR C op' ρb ρc k') (ha : Ev C Γ a ρa ma) (hb : Ev C Γ b ρb mb) (hc : Ev C Γ c ρc mc)
    (hm : lastMarks [op, op'] [b, c] = false := by with_unfolding_all rfl) : EvT C Γ (.Compare a [op, op'] [b, c] pos) (do let x ← ma; let y ← mb; chW k k' x y mc) := fun X Wx ok tk F H g σ s Q hw => by
  obtain ⟨r, ho, hr⟩ := h1.hop X ok
  obtain ⟨r', ho', hr'⟩ := h2.hop X ok
  refine WT.of (pt_chain ho ho' (pe_W (e := a)) (pe_W (e := b)) (pe_W (e := c)) hm) ?_
  refine ha X Wx ok tk F H g σ s _ (ma.mono (fun x hx F1 H1 g1 v f1 s1 r1 => ?_) (fun e he => he) hw)
  refine hb X Wx ok tk F1 H1 g1 σ s1 _ (mb.mono (fun y hy F2 H2 g2 w f2 s2 r2 => ?_) (fun e he => XEnd.later f1 he) hx)
  refine hr x y H2 v w _ ((ρa x).mono (f2.sF.trans s2.sF) r1) ((ρb y).mono s2.sF r2) ⟨_, rfl, ?_⟩
  have hy := wp_chW.mp hy
  split
  · rename_i hk
    rw [if_pos hk] at hy
    refine hc X Wx ok tk F2 H2 g2 σ s2 _ (mc.mono (fun z hz F3 H3 g3 u f3 s3 r3 => ?_) (fun e he => XEnd.later (f1.trans f2) he) hy)
    exact hr' y z H3 w u _ ((ρb y).mono (f3.sF.trans s3.sF) r2) ((ρc z).mono s3.sF r3) ⟨_, rfl, hz F3 H3 g3 (f1.trans (f2.trans f3)) s3⟩
  · rename_i hk
    rw [if_neg hk] at hy
    exact ⟨_, rfl, hy F2 H2 g2 (f1.trans f2) s2⟩
/-! ### constants of the module -/
theorem Ev.globS {x : Str} {z : Str} (hg : C.sc.names.lookup x = some .globalImplicit) (hm : ∃ t, C.mg x = some (.str z t)) (hd : (x == ("__debug__" : Str)) = false := by rfl) : Ev C Γ (.Name x pos) rS (pure z) := by
  obtain ⟨t, hm⟩ := hm
  exact Ev.glob (v := .str z) hg hm ⟨t, rfl⟩ (fun _ => rfl) hd
theorem Ev.globI {x : Str} {z : Int} (hg : C.sc.names.lookup x = some .globalImplicit) (hm : ∃ t, C.mg x = some (.int z t)) (hd : (x == ("__debug__" : Str)) = false := by rfl) : Ev C Γ (.Name x pos) rI (pure z) := by
  obtain ⟨t, hm⟩ := hm
  exact Ev.glob (v := .int z) hg hm ⟨t, rfl⟩ (fun _ => rfl) hd
end
end Y

/-! Y12: raise, try, isinstance of a caught exception -/
namespace Y
open PySem PySem.Spec L2
/-! ### what the module says of its exceptions -/
/-- x names a class: cv -/
def NamC (M : Mc) (x : Str) (cv : Value) : Prop := (∃ a, cv = .ref a ∧ M.mg x = some (.ref a)) ∨ (∃ T, cv = .type T ∧ M.mg x = none ∧ bootBuiltins x = some (.type T) ∧ x ≠ "__name__")
/-- an exception of class c (an own one) is one of x: b -/
structure IsX (M : Mc) (c x : Str) (b : Bool) : Prop where
  ex : ∃ D cv, M.mg c = some (.ref D) ∧ NamC M x cv ∧ PySem.W.kitOne M.K (.ref D) cv = some b ∧ PySem.W.exmOne M.K (.ref D) cv = some b ∧ ExcC M.K D
def XTab (M : Mc) (tab : List ((Str × Str) × Bool)) : Prop := ∀ p ∈ tab, IsX M p.1.1 p.1.2 p.2
def tabF (tab : List ((Str × Str) × Bool)) (c x : Str) : Option Bool := tab.lookup (c, x)
theorem XTab.of {M : Mc} : ∀ {tab : List ((Str × Str) × Bool)}, XTab M tab → ∀ {c x : Str} {b : Bool}, tabF tab c x = some b → IsX M c x b
  | [], _, _, _, _, e => by cases e
  | (p, d) :: r, h, c, x, b, e => by
    unfold tabF at e
    rw [List.lookup_cons] at e
    split at e
    · rename_i q
      have q' := eq_of_beq q
      cases e
      have := h (p, d) (by simp)
      rw [← q'] at this
      exact this
    · exact XTab.of (fun p hp => h p (List.mem_cons_of_mem _ hp)) e
/-- raise x('..') may be done -/
structure RaiX (M : Mc) (x : Str) : Prop where
  ex : ∃ C, M.mg x = some (.ref C) ∧ PySem.W.excIn M.K C [.type "ValueError", .type "Exception", .type "BaseException", .type "object"] "ValueError.__new__" = true ∧ PySem.W.keepIn M.K (.ref C) = true ∧ PySem.W.subIn M.K (.ref C) (.type "BaseException") = some true ∧ PySem.W.typeIn M.K (.ref C) = some (.type "type")
section
variable {C : Cc} {Γ Γ' : List Slot} {α β ω : Type} {J : ω → Out} {e e1 e2 : Expr} {pos p p2 : Pos} {rest : List Stmt}
theorem Ex.raise {x m : Str} {j : Nat} {p1 : Pos} (hr : RaiX C.toMc x) (hg : C.sc.names.lookup x = some .globalImplicit) (hd : (x == ("__debug__" : Str)) = false := by rfl) (hcm : C.cm = true := by rfl) :
    Ex C Γ (.Raise (some (.Call (.Name x p) [.Constant (.str m) j p2] [] p1)) none pos :: rest) J (W.exc ⟨x, none⟩) :=
  Ex.cons fun X Wx ok tk F H g σ s D hm => by
    obtain ⟨Ca, h1, h2, h3, h4, h5⟩ := hr
    have e3 := ok.toOk.K
    have e4 := ok.toOk.mg
    refine W1.of (ps_raise (ok.toOk.calm.trans hcm) tk (pmk_own PySem.F.excBase_ValueError (by rw [e3]; exact h2) (by rw [e4]; exact h1) (by rw [e3]; exact h3) (raises_own (by rw [e3]; exact h4) (by rw [e3]; exact h5)) (show X.env.scope.names.lookup x = _ by rw [ok.toOk.sc]; exact hg) hd)) ?_
    exact hm F H g σ _ _ Fr.refl s.sF ⟨Ca, h1, rfl, rfl⟩
/-! ### what a try guards: one statement that may raise -/
def ExT (C : Cc) (Γ : List Slot) (sts : List Stmt) {ω : Type} (J : ω → Out) (m : W ω) : Prop :=
  ∀ (X : Cx) (Wx : WX), C.OkS X → Takes X Wx → ∀ (F H : Hp) (g : Nat → Hp) (σ : St), StOk C F H Γ σ g → ∀ D : Ends,
    m.wp (fun o => OutOk C D F H (dU g) (J o)) (XEnd C F H (dU g) Γ σ Wx) → WS X sts D σ H
theorem ExT.cons {st : Stmt} {m : W ω} (h : ∀ (X : Cx) (Wx : WX), C.OkS X → Takes X Wx → ∀ (F H : Hp) (g : Nat → Hp) (σ : St), StOk C F H Γ σ g → ∀ D : Ends,
    m.wp (fun o => OutOk C D F H (dU g) (J o)) (XEnd C F H (dU g) Γ σ Wx) → W1 X st D σ H) : ExT C Γ [st] J m :=
  fun X Wx ok tk F H g σ s D hm => WS.of (pss_one (ps_W (st := st))) (h X Wx ok tk F H g σ s D hm)
theorem ExT.expr {ρ : α → Rp} {m : W α} {f : α → ω} (h : Ev C Γ e ρ m) (hJ : ∀ a, J (f a) = .nx Γ) (hs : ∀ X : Cx, swapsWith e none pos.line X.env = pure false := by intro _; rfl) : ExT C Γ [.Expr e pos] J (do let a ← m; pure (f a)) :=
  ExT.cons fun X Wx ok tk F H g σ s D hm => W1.of (ps_expr (pe_W (e := e)) (hs X))
    (h X Wx ok.toOk tk F H g σ s _ (m.mono (fun a ha F1 H1 g1 v f1 s1 r1 => by
      replace ha : OutOk C D F H (dU g) (J (f a)) := ha
      rw [hJ] at ha
      exact ha F1 H1 g1 σ f1 s1) (fun e he => he) hm))
theorem ExT.ret {ρ : α → Rp} {m : W α} {f : α → ω} (h : Ev C Γ e ρ m) (hJ : ∀ a, J (f a) = .rt (ρ a)) : ExT C Γ [.Return (some e) pos] J (do let a ← m; pure (f a)) :=
  ExT.cons fun X Wx ok tk F H g σ s D hm => W1.of (ps_ret (pe_W (e := e)))
    (h X Wx ok.toOk tk F H g σ s _ (m.mono (fun a ha F1 H1 g1 v f1 s1 r1 => by
      replace ha : OutOk C D F H (dU g) (J (f a)) := ha
      rw [hJ] at ha
      exact ha F1 H1 g1 v f1 s1.sF r1) (fun e he => he) hm))
theorem ExT.set {i : Nat} {x : Str} {px : Pos} {ρ : α → Rp} {m : W α} {f : α → ω} (hN : C.N[i]? = some x) (hx : Sto C x) (h : Ev C Γ e ρ m) (hJ : ∀ a, J (f a) = .nx (Γ.set i (.val (ρ a))))
    (hs : ∀ X : Cx, C.Ok X → swapsWith e (some (.Name x px)) pos.line X.env = pure false := by intro _ _; rfl) : ExT C Γ [.Assign [.Name x px] e pos] J (do let a ← m; pure (f a)) :=
  ExT.cons fun X Wx ok tk F H g σ s D hm => W1.of (ps_set ok.toOk.ndX (by rw [ok.toOk.N]; exact hN) (hx.loc ok.toOk) (pe_W (e := e)) (hs X ok.toOk) (hx.fn ok.toOk))
    (h X Wx ok.toOk tk F H g σ s _ (m.mono (fun a ha F1 H1 g1 v f1 s1 r1 => by
      replace ha : OutOk C D F H (dU g) (J (f a)) := ha
      rw [hJ] at ha
      exact ha F1 H1 g1 _ f1 (s1.set_val r1)) (fun e he => he) hm))
theorem ExT.ite {c : Expr} {a b : List Stmt} {mc : W Bool} {m1 m2 : W ω} (hc : EvT C Γ c mc) (h1 : ExT C Γ a J m1) (h2 : ExT C Γ b J m2) : ExT C Γ [.If c a b pos] J (do let t ← mc; if t = true then m1 else m2) :=
  ExT.cons fun X Wx ok tk F H g σ s D hm => W1.ifs (hc X Wx ok.toOk tk F H g σ s _ (mc.mono (fun t ht F1 H1 g1 f1 s1 => by
    have ht' : (if t = true then m1 else m2).wp (fun o => OutOk C D F H (dU g) (J o)) (XEnd C F H (dU g) Γ σ Wx) := ht
    clear ht
    cases t with
    | true =>
      rw [if_pos rfl]
      rw [if_pos rfl] at ht'
      have ht := ht'
      exact h1 X Wx ok tk F1 H1 g1 σ s1 D (m1.mono (fun o ho => OutOk.later f1 ho) (fun e he => XEnd.later f1 he) ht)
    | false =>
      rw [if_neg Bool.false_ne_true]
      rw [if_neg Bool.false_ne_true] at ht'
      have ht := ht'
      exact h2 X Wx ok tk F1 H1 g1 σ s1 D (m2.mono (fun o ho => OutOk.later f1 ho) (fun e he => XEnd.later f1 he) ht)) (fun e he => he) hm))
/-! ### suites -/
abbrev Cc.suite (C : Cc) (a : Addr) (cls : Value) (d : Option Addr) : Cc := { C with cm := false, ex := some (a, cls, d) }
theorem Cc.OkS.suite {X : Cx} (ok : C.OkS X) {a : Addr} {cls : Value} {d : Option Addr} {pn : List (Addr × Obj)} {oe : Obj} (hz : Zc cls d oe) (hf : ∃ vs, oe.data = .fields vs) (hr : RoomS C.k X.A) : (C.suite a cls d).OkS (X.suite a ((a, oe) :: pn)) where
  prog := ok.toOk.prog
  w := ok.toOk.w
  K := ok.toOk.K
  mg := ok.toOk.mg
  base := ok.toOk.base
  N := ok.toOk.N
  sc := ok.toOk.sc
  nd := ok.toOk.nd
  calm := rfl
  room := fun h => by cases h
  units := ok.toOk.units
  exc := fun a' cls' d' h => by
    have h' : some (a, cls, d) = some (a', cls', d') := h
    cases h'
    exact ⟨⟨hr.dp, hr.un⟩, X, pn, oe, rfl, hz, hf⟩
  fnc := ok.toOk.fnc
  po := PassesOwn.never
  stk := ok.stk
  frm := ok.frm
theorem StOk.suite {F H : Hp} {σ : St} {g : Nat → Hp} {a : Addr} {cls : Value} {d : Option Addr} : StOk (C.suite a cls d) F H Γ σ g ↔ StOk C F H Γ σ g := ⟨fun s => ⟨s.len, s.slot, s.sF, s.sG, s.dF, s.dG, s.fr⟩, fun s => ⟨s.len, s.slot, s.sF, s.sG, s.dF, s.dG, s.fr⟩⟩
/-- the exception that a suite holds -/
def rX (a : Addr) (_ : Unit) : Rp := ⟨fun _ v => v = .ref a, fun _ h => h⟩
instance {a : Addr} : Fre (rX a) := ⟨fun _ _ _ h _ => h⟩
def tryW {ω : Type} (m : W ω) (c : Str → Option Bool) (h : Exn → W ω) : W ω :=
  ⟨fun P E => m.wp P (fun e => match c e.cls with
      | some true => e.pay = none ∧ (h e).wp P (fun _ => False)
      | some false => E e
      | none => False),
   fun hp he x => m.mono hp (fun e y => by
      split <;> rename_i q <;> simp only [q] at y
      · exact ⟨y.1, (h e).mono hp (fun _ z => z) y.2⟩
      · exact he _ y) x⟩
/-- the outcomes of a suite in whose end slot i is emptied -/
def SuJ (i : Nat) (o : Out) : Prop := (∃ R, o = .rt R) ∨ ∃ Γ, o = .nx Γ ∧ Γ[i]? = some .no
theorem OutOk.toSuite {D : Ends} {F H : Hp} {U : Addr → Prop} {o : Out} {i : Nat} {a : Addr} {cls : Value} {d : Option Addr} (hJ : SuJ i o) (h : OutOk C D F H U o) :
    OutOk (C.suite a cls d) { nx := fun σ' H' => D.nx (σ'.set i none) H', rt := D.rt, bk := fun σ' H' => D.bk (σ'.set i none) H', ct := fun σ' H' => D.ct (σ'.set i none) H' } F H U o := by
  rcases hJ with ⟨R, e⟩ | ⟨Γ1, e, hi⟩
  · subst e
    exact h
  · subst e
    intro F' H' g' σ' f s'
    refine h F' H' g' _ f ?_
    have q := (StOk.suite.mp s').set_no (i := i) (o := none)
    have e2 : Γ1.set i .no = Γ1 := by
      apply List.ext_getElem?
      intro j
      by_cases hj : i = j
      · subst hj
        rw [List.getElem?_set_self (List.getElem?_eq_some_iff.mp hi).1]
        exact hi.symm
      · rw [List.getElem?_set_ne hj]
    rw [e2] at q
    exact q
theorem Ex1.tryAs {i : Nat} {n x : Str} {cv : Value} {np pos' : Pos} {body suite : List Stmt} {b₀ : Stmt} {c : Str → Option Bool} {mb : W ω} {mh : Exn → W ω} (hN : C.N[i]? = some n) (hln : C.sc.names.lookup n = some .local) (hg : C.sc.names.lookup x = some .globalImplicit)
    (hx : ∀ cls b, c cls = some b → IsX C.toMc cls x b) (hcv : C.mg x = some cv) (hd : (x == ("__debug__" : Str)) = false)
    (hb : ExT C Γ body J mb) (hs : ∀ (e : Exn) (a D : Addr), c e.cls = some true → C.mg e.cls = some (.ref D) → Ex (C.suite a (.ref D) none) (Γ.set i (.val (rX a ()))) (b₀ :: suite) J (mh e)) (hJ : ∀ o, SuJ i (J o)) (hx0 : C.ex = none := by rfl) (hcm : C.cm = true := by rfl) :
    Ex1 C Γ (.Try body [.ExceptHandler (some (.Name x np)) (some n) (b₀ :: suite) pos'] [] [] pos) J (tryW mb c mh) := fun X Wx ok tk F H g σ s D hm => by
  have hnm : Names X x cv := ⟨show X.env.scope.names.lookup x = _ by rw [ok.toOk.sc]; exact hg, hd, .inl (by rw [ok.toOk.mg]; exact hcv)⟩
  refine W1.of (ps_try_as (i := i) (tb := fun W D σ H => ∀ pn xe, Takes (X.tr pn xe) W → PassesOwn (model X.prog X.w) X.A X.env xe → WS (X.tr pn xe) body D σ H)
    (ts := fun a cls d D σ H => ∀ pn oe, Zc cls d oe → (∃ vs, oe.data = .fields vs) → WS (X.suite a ((a, oe) :: pn)) (b₀ :: suite) D σ H) (Wout := Wx) ok.stk ok.frm ok.toOk.ndX (by rw [ok.toOk.N]; exact hN)
    (show X.env.scope.names.lookup n = _ by rw [ok.toOk.sc]; exact hln) hnm tk (fun W pn xe tkW po => ⟨fun pins s0 σ0 H0 D0 I h => pss_W.run pins s0 σ0 H0 D0 I (h pn xe tkW po)⟩) (fun a oe cls d pn hz hf => ⟨fun pins s0 σ0 H0 D0 I h => pss_W.run pins s0 σ0 H0 D0 I (h pn oe hz hf)⟩)) ?_
  intro pn xe tkW po
  have ok' : C.OkS (X.tr pn xe) := ⟨⟨ok.toOk.prog, ok.toOk.w, ok.toOk.K, ok.toOk.mg, ok.toOk.base, ok.toOk.N, ok.toOk.sc, ok.toOk.nd, ok.toOk.calm, ok.toOk.room, ok.toOk.units, fun a' cls' d' h => ?_, ok.toOk.fnc⟩, po, ok.stk, ok.frm⟩
  · refine hb (X.tr pn xe) _ ok' tkW F H g σ s D (mb.mono (fun o ho => ho) (fun e he F1 H1 g1 cls d f1 s1 hxo => ?_) hm)
    obtain ⟨A, hA, eA, hpay⟩ := hxo
    subst eA
    cases hc : c e.cls with
    | none => simp only [hc] at he
    | some b =>
      obtain ⟨D1, cv1, h1, h2, h3, h4, h5⟩ := (hx e.cls b hc).ex
      have e1 : cv1 = cv := by
        rcases h2 with ⟨a2, e2, m2⟩ | ⟨T, e2, m2, _⟩
        · rw [hcv] at m2; rw [e2]; exact (Option.some.inj m2).symm
        · rw [hcv] at m2; cases m2
      subst e1
      rw [hA] at h1
      cases h1
      refine ⟨b, by rw [ok.toOk.K]; exact h4, fun hbt a ha pn2 oe hz hf => ?_, fun hbf => ?_⟩
      · subst hbt
        simp only [hc] at he
        obtain ⟨hp, he⟩ := he
        have hd0 : d = none := by rw [hp] at hpay; exact hpay
        subst hd0
        refine hs e a A hc hA (X.suite a ((a, oe) :: pn2)) _ (ok.suite hz hf (RoomS.of (ok.toOk.room hcm))) takes0 F1 H1 g1 _ (StOk.suite.mpr (s1.set_val (show (rX a ()).p F1 (.ref a) from rfl))) _ ((mh e).mono (fun o ho => ?_) (fun _ z => z.elim) he)
        exact OutOk.toSuite (hJ o) (OutOk.later f1 ho)
      · subst hbf
        simp only [hc] at he
        exact he F1 H1 g1 σ _ _ f1 s1.sF ⟨A, hA, rfl, hpay⟩
  · rw [hx0] at h
    cases h
/-! ### isinstance -/
def rCl (cv : Value) (_ : Unit) : Rp := ⟨fun _ v => ClsV v cv, fun _ h => h⟩
theorem Ev.clName {x : Str} {cv : Value} (h : NamC C.toMc x cv) (hg : C.sc.names.lookup x = some .globalImplicit) (hd : (x == ("__debug__" : Str)) = false) : Ev C Γ (.Name x p) (rCl cv) (pure ()) := by
  rcases h with ⟨a, e1, e2⟩ | ⟨T, e1, e2, e3, e4⟩
  · subst e1
    exact Ev.glob (v := .ref a) (u := .ref a) hg e2 rfl (fun _ => .own a) hd
  · subst e1
    exact fun X Wx ok tk F H g σ s Q hm => WE.of (pe_bltn (v := .ty T) (show X.env.scope.names.lookup x = _ by rw [ok.sc]; exact hg) (by rw [ok.mg]; exact e2) e3 rfl e4 hd) (hm F H g _ Fr.refl s (.ty T))
def optW (b : Option Bool) : W Bool := match b with
  | some b => pure b
  | none => W.bad
theorem Ev.isE {c x : Str} {a A : Addr} {tab : List ((Str × Str) × Bool)} (hT : XTab C.toMc tab) (hc : C.mg c = some (.ref A)) (hex : C.ex = some (a, .ref A, Option.none)) (hb : Blt C "isinstance" (.builtin "isinstance")) (hg : C.sc.names.lookup x = some .globalImplicit) (hd : (x == ("__debug__" : Str)) = false)
    (h : Ev C Γ e (rX a) (pure ())) (hn : NoStar e) : Ev C Γ (.Call (.Name "isinstance" p) [e, .Name x p2] [] pos) rB (optW (tabF tab c x)) := by
  cases ht : tabF tab c x with
  | none => exact fun X Wx ok tk F H g σ s Q hm => hm.elim
  | some b =>
    obtain ⟨D, cv, h1, h2, h3, h4, h5⟩ := (hT.of ht).ex
    have h1' := hc.symm.trans h1
    cases h1'
    exact Ev.callB2 (ρa := rX a) (ρb := rCl cv) (ma := pure ()) (mb := pure ()) (fun _ _ => pure b) hb (fun X ok => by
      obtain ⟨_, Y, pn, oe, e1, hz, hf⟩ := ok.exc _ _ _ hex
      have eK : Y.K = C.K := by have := ok.K; rw [e1] at this; exact this
      subst e1
      refine ⟨_, call_isE (X := Y) (by rw [eK]; exact h5) hz hf, fun _ _ H v w Q E hv hw q => ⟨w, cv, b, by rw [show v = .ref a from hv], fun u r => (show ClsV w cv from hw).eq r, by rw [eK]; exact h3, q _ fun _ _ => rfl⟩⟩)
      (fun _ _ _ _ _ h => h) (fun y F v h F' => h) h (Ev.clName h2 hg hd) hn (fun _ _ => rfl)
def isXs (tab : List ((Str × Str) × Bool)) (c : Str) : List Str → Option Bool
  | [] => some false
  | x :: r => match tabF tab c x, isXs tab c r with
    | some b, some d => some (b || d)
    | _, _ => none
inductive NmEs (C : Cc) : List Expr → List Str → Prop
  | nil : NmEs C [] []
  | cons {x : Str} {p : Pos} {es : List Expr} {xs : List Str} (hg : C.sc.names.lookup x = some .globalImplicit) (hd : (x == ("__debug__" : Str)) = false) (h : NmEs C es xs) : NmEs C (.Name x p :: es) (x :: xs)
theorem NmEs.get {c : Str} {A : Addr} {tab : List ((Str × Str) × Bool)} (hT : XTab C.toMc tab) (hc : C.mg c = some (.ref A)) : ∀ {es : List Expr} {xs : List Str} {b : Bool}, NmEs C es xs → isXs tab c xs = some b →
    ∃ cvs : List Value, EvA C Γ es (fun _ : Unit => cvs.map fun cv => rCl cv ()) (pure ()) ∧ PySem.W.kitAny C.K (.ref A) cvs = some b ∧ cvs.length = xs.length
  | [], _, b, .nil, e => ⟨[], EvA.nil, by cases e; rfl, rfl⟩
  | _ :: es, x :: xs, b, .cons hg hd h, e => by
    unfold isXs at e
    split at e
    · rename_i b1 d1 q1 q2
      cases e
      obtain ⟨D, cv, h1, h2, h3, h4, h5⟩ := (hT.of q1).ex
      have h1' := hc.symm.trans h1
      cases h1'
      obtain ⟨cvs, g1, g2, g3⟩ := NmEs.get hT hc h q2
      refine ⟨cv :: cvs, EvA.wCons (r := fun cv => rCl cv ()) (Ev.map (ρ := rCl cv) (m := pure ()) (fun _ => cv) (fun _ _ _ z => z) (Ev.clName h2 hg hd)) g1 (fun _ _ => rfl), ?_, by simp [g3]⟩
      unfold PySem.W.kitAny
      rw [h3]
      cases b1 with
      | true => rfl
      | false => show PySem.W.kitAny C.K (.ref A) cvs = _; rw [g2]; rfl
    · cases e
def rClT (cvs : List Value) (_ : Unit) : Rp := ⟨fun F v => ∃ q vs, v = .ref q ∧ F q = some (.tup vs) ∧ Paired ClsV vs cvs, fun h ⟨q, vs, e, e2, t⟩ => ⟨q, vs, e, h _ _ e2, t⟩⟩
theorem All2.toPaired {vs : List V} {cvs : List Value} {F : Hp} (h : All2 (fun v R => R.p F v) vs (cvs.map fun cv => rCl cv ())) : Paired ClsV vs cvs := by
  induction cvs generalizing vs with
  | nil => cases h; exact .nil
  | cons c cs ih =>
    cases h with
    | cons r t => exact .cons r (ih t)
theorem call_isET {X : Cx} {a D : Addr} {oe : Obj} {pn : List (Addr × Obj)} (Cx' : ExcC X.K D) (hz : Zc (.ref D) none oe) (hf : ∃ vs, oe.data = .fields vs) :
    CallR (X.suite a ((a, oe) :: pn)) (.builtin "isinstance") (fun xs H Q => ∃ (tp : Addr) (cs : List V) (us : List Value) (b : Bool), xs = [.ref a, .ref tp] ∧ H tp = some (.tup cs) ∧ Paired ClsV cs us ∧ PySem.W.kitAny X.K (.ref D) us = some b ∧ Q (.bl b) H) := by
  intro pins s σ H xs us Q I r h
  obtain ⟨tp, cs, ws, b, rfl, hT, k, e, q⟩ := h
  obtain ⟨u1, u2, rfl, r1, r2⟩ := vals2 r
  cases (show u1 = Value.ref a from r1)
  cases (show u2 = Value.ref tp from r2)
  obtain ⟨hget, _⟩ := I.pin (a, oe) (List.mem_append.mpr (.inl List.mem_cons_self))
  obtain ⟨vs, hv⟩ := hf
  have J' : PySem.W.InstAt s.heap a oe D none := by
    obtain ⟨oc, od, oda, osl⟩ := oe
    obtain ⟨h1, h2⟩ := hz
    dsimp only at h1 h2 hv
    subst h1 h2 hv
    exact ⟨hget, rfl, rfl, trivial⟩
  obtain ⟨_, its, rv, o, h1, h2, n, h3⟩ := (show ObjOk X.prog X.w H s.heap tp (.tup cs) from I.hok tp _ hT)
  have e3 := ClsV.all k rv
  subst e3
  obtain ⟨oc, od, dt, sl⟩ := o
  simp only at h2 h3
  subst h2 h3
  exact PySem.W.kia_tup (PySem.W.handS_kitx_exc Cx'.hg Cx'.hk Cx'.hs Cx'.hd Cx'.ha Cx'.hn Cx'.ht Cx'.hm) I.kIn J' h1 e (fun z => nomatch z) fun tk => ⟨.bl b, H, I.kept (t' := tk) fun _ _ z => z, rfl, q⟩
theorem Ev.isET {c : Str} {a A : Addr} {tab : List ((Str × Str) × Bool)} {es : List Expr} {xs : List Str} {k : Nat} {p3 : Pos} (hT : XTab C.toMc tab) (hE : ∃ x b, tabF tab c x = some b) (hc : C.mg c = some (.ref A)) (hex : C.ex = some (a, .ref A, Option.none)) (hb : Blt C "isinstance" (.builtin "isinstance")) (hn2 : NmEs C es xs) (hl : xs.length ≤ 1000)
    (h : Ev C Γ e (rX a) (pure ())) (hn : NoStar e) : Ev C Γ (.Call (.Name "isinstance" p) [e, .Tuple es k p3] [] pos) rB (optW (isXs tab c xs)) := by
  cases ht : isXs tab c xs with
  | none => exact fun X Wx ok tk F H g σ s Q hm => hm.elim
  | some b =>
    obtain ⟨cvs, g1, g2, g3⟩ := NmEs.get (Γ := Γ) hT hc hn2 ht
    obtain ⟨x0, b0, hq⟩ := hE
    obtain ⟨D, cv, h1, _, _, _, h5⟩ := (hT.of hq).ex
    have h1' := hc.symm.trans h1
    cases h1'
    have ht2 : Ev C Γ (.Tuple es k p3) (rClT cvs) (pure ()) := Ev.tup (ρs := fun _ : Unit => cvs.map fun cv => rCl cv ()) (mt := pure ()) (fun _ => ()) (fun t F q vs hq hv => ⟨q, vs, rfl, hq, hv.toPaired⟩) (fun _ => by rw [List.length_map, g3]; exact hl) g1
    exact Ev.callB2 (ρa := rX a) (ρb := rClT cvs) (ma := pure ()) (mb := pure ()) (fun _ _ => pure b) hb (fun X ok => by
      obtain ⟨_, Y, pn, oe, e1, hz, hf⟩ := ok.exc _ _ _ hex
      have eK : Y.K = C.K := by have := ok.K; rw [e1] at this; exact this
      subst e1
      refine ⟨_, call_isET (X := Y) (by rw [eK]; exact h5) hz hf, fun _ _ H v w Q E hv hw q => ?_⟩
      obtain ⟨tp, vs, e1, e2, e3⟩ := (show (rClT cvs ()).p H w from hw)
      exact ⟨tp, vs, cvs, b, by rw [show v = .ref a from hv, e1], e2, e3, by rw [eK]; exact g2, q _ fun _ _ => rfl⟩)
      (fun _ _ _ _ _ h => h) (fun y F v h F' => h) h ht2 hn (fun _ _ => rfl)
/-- facts of pairs -/
theorem IsX.own {M : Mc} {c x : Str} {D A : Addr} {b : Bool} (h1 : M.mg c = some (.ref D)) (h2 : M.mg x = some (.ref A)) (hE : ExcC M.K D) (hm : PySem.W.mroIn M.K D (.ref A) = some b) (hs : PySem.W.subIn M.K (.ref A) (.type "BaseException") = some true) (hd : PySem.W.hasDictIn M.K A = true)
    (ht : PySem.W.typeIn M.K (.ref A) = some (.type "type")) (hne : D = A → b = true) : IsX M c x b := by
  have hsub : PySem.W.subIn M.K (.ref D) (.ref A) = some b := hm
  have he := PySem.W.exm_ref (cls := .ref D) hs hd ht hsub
  refine ⟨D, .ref A, h1, .inl ⟨A, rfl, h2⟩, ?_, he, hE⟩
  unfold PySem.W.kitOne
  split
  · rename_i q
    have q' : (Value.ref D) = .ref A := eq_of_beq q
    cases q'
    rw [hne rfl]
  · unfold PySem.W.exmOne at he
    rwa [if_pos (by rw [hs]; rfl)] at he
theorem IsX.blt {M : Mc} {c : Str} {D : Addr} {b : Bool} {T : String} {x : Str} (h1 : M.mg c = some (.ref D)) (h2 : M.mg x = none) (hb : bootBuiltins x = some (.type T)) (hn : x ≠ "__name__") (hE : ExcC M.K D) (hm : PySem.W.mroIn M.K D (.type T) = some b) (hk : PySem.W.kitMeta T = true) (hs : PySem.W.subIn M.K (.type T) (.type "BaseException") = some true) : IsX M c x b := by
  have hsub : PySem.W.subIn M.K (.ref D) (.type T) = some b := hm
  have hkc : PySem.W.kitCls M.K (.ref D) (.type T) = some b := by
    show (if PySem.W.kitMeta T = true then PySem.W.subIn M.K (.ref D) (.type T) else Option.none) = some b
    rw [if_pos hk]
    exact hsub
  refine ⟨D, .type T, h1, .inr ⟨T, rfl, h2, hb, hn⟩, ?_, ?_, hE⟩
  · unfold PySem.W.kitOne
    rw [if_neg (by simp)]
    exact hkc
  · unfold PySem.W.exmOne
    rw [if_pos (by rw [hs]; rfl)]
    exact hkc
/-! ### several clauses, without names -/
abbrev Cc.s0 (C : Cc) : Cc := { C with cm := false, ex := none }
theorem StOk.s0 {F H : Hp} {σ : St} {g : Nat → Hp} : StOk C.s0 F H Γ σ g ↔ StOk C F H Γ σ g := ⟨fun s => ⟨s.len, s.slot, s.sF, s.sG, s.dF, s.dG, s.fr⟩, fun s => ⟨s.len, s.slot, s.sF, s.sG, s.dF, s.dG, s.fr⟩⟩
theorem OutOk.s0 {D : Ends} {F H : Hp} {U : Addr → Prop} {o : Out} (h : OutOk C D F H U o) : OutOk C.s0 D F H U o := by
  cases o with
  | nx Γ => exact fun F' H' g' σ' f s => h F' H' g' σ' f (StOk.s0.mp s)
  | lp Γ => exact ⟨fun F' H' g' σ' f s => h.1 F' H' g' σ' f (StOk.s0.mp s), fun F' H' g' σ' f s => h.2 F' H' g' σ' f (StOk.s0.mp s)⟩
  | ct Γ => exact fun F' H' g' σ' f s => h F' H' g' σ' f (StOk.s0.mp s)
  | bk Γ => exact fun F' H' g' σ' f s => h F' H' g' σ' f (StOk.s0.mp s)
  | rt R => exact h
  | rtG R Γ => exact fun F' H' g' σ' v f s => h F' H' g' σ' v f (StOk.s0.mp s)
  | ft => exact h
  | any => exact h
theorem Cc.OkS.s0 {X : Cx} (ok : C.OkS X) {a : Addr} {pn : List (Addr × Obj)} : C.s0.OkS (X.suite a pn) where
  prog := ok.toOk.prog
  w := ok.toOk.w
  K := ok.toOk.K
  mg := ok.toOk.mg
  base := ok.toOk.base
  N := ok.toOk.N
  sc := ok.toOk.sc
  nd := ok.toOk.nd
  calm := rfl
  room := fun h => by cases h
  units := ok.toOk.units
  exc := fun a' cls' d' h => by cases h
  fnc := ok.toOk.fnc
  po := PassesOwn.never
  stk := ok.stk
  frm := ok.frm
def HdW {ω : Type} (P : ω → Prop) (E : Exn → Prop) (e : Exn) : List ((Str → Option Bool) × (Exn → W ω)) → Prop
  | [] => E e
  | (c, h) :: r => match c e.cls with
    | some true => (h e).wp P (fun _ => False)
    | some false => HdW P E e r
    | none => False
theorem HdW.mono {ω : Type} {P P' : ω → Prop} {E E' : Exn → Prop} {e : Exn} (hp : ∀ o, P o → P' o) (he : E e → E' e) : ∀ {l : List ((Str → Option Bool) × (Exn → W ω))}, HdW P E e l → HdW P' E' e l
  | [], h => he h
  | (c, m) :: r, h => by
    unfold HdW at h ⊢
    split <;> rename_i q <;> simp only [q] at h
    · exact (m e).mono hp (fun _ z => z) h
    · exact HdW.mono hp he h
def tryL {ω : Type} (m : W ω) (l : List ((Str → Option Bool) × (Exn → W ω))) : W ω := ⟨fun P E => m.wp P (fun e => HdW P E e l), fun hp he x => m.mono hp (fun e y => HdW.mono hp (he e) y) x⟩
inductive HdE (C : Cc) (Γ : List Slot) {ω : Type} (J : ω → Out) : List ExceptHandler → List ((Str → Option Bool) × (Exn → W ω)) → Prop
  | nil : HdE C Γ J [] []
  | cons {x : Str} {cv : Value} {b₀ : Stmt} {suite : List Stmt} {np pos' : Pos} {hds : List ExceptHandler} {c : Str → Option Bool} {mh : Exn → W ω} {l : List ((Str → Option Bool) × (Exn → W ω))} (hg : C.sc.names.lookup x = some .globalImplicit) (hx : ∀ cls b, c cls = some b → IsX C.toMc cls x b) (hcv : C.mg x = some cv) (hd : (x == ("__debug__" : Str)) = false)
      (hs : ∀ e : Exn, c e.cls = some true → Ex C.s0 Γ (b₀ :: suite) J (mh e)) (r : HdE C Γ J hds l) : HdE C Γ J (.ExceptHandler (some (.Name x np)) none (b₀ :: suite) pos' :: hds) ((c, mh) :: l)
theorem HdE.ok {X : Cx} (ok : C.OkS X) : ∀ {hds : List ExceptHandler} {l : List ((Str → Option Bool) × (Exn → W ω))}, HdE C Γ J hds l → ∃ l', HdsOk X hds l' ∧ ∀ (Wx : WX) (D : Ends) (F H : Hp) (g : Nat → Hp) (σ : St) (e : Exn) (cls : Value) (d : Option Addr) (F1 H1 : Hp) (g1 : Nat → Hp),
    Fr F H (dU g) F1 H1 (dU g1) → StOk C F1 H1 Γ σ g1 → XOk C.toMc e H H1 (dU g1) cls d → HdW (fun o => OutOk C D F H (dU g) (J o)) (XEndS C F H (dU g) Wx) e l → wMany X.K Wx D l' cls d σ H1
  | _, _, .nil => ⟨[], .nil, fun Wx D F H g σ e cls d F1 H1 g1 f s x h => h F1 H1 g1 σ cls d f s.sF x⟩
  | _, _, .cons (x := x) (cv := cv) (b₀ := b₀) (suite := suite) (c := c) (mh := mh) hg hx hcv hd hs r => by
    obtain ⟨l', h1, h2⟩ := HdE.ok ok r
    have hnm : Names X x cv := ⟨show X.env.scope.names.lookup x = _ by rw [ok.toOk.sc]; exact hg, hd, .inl (by rw [ok.toOk.mg]; exact hcv)⟩
    refine ⟨(cv, fun a cls d D σ H => ∀ pn oe, Zc cls d oe → (∃ vs, oe.data = .fields vs) → WS (X.suite a ((a, oe) :: pn)) (b₀ :: suite) D σ H) :: l', .cons hnm (fun a oe cls d pn hz hf => ⟨fun pins s0 σ0 H0 D0 I h => pss_W.run pins s0 σ0 H0 D0 I (h pn oe hz hf)⟩) h1, fun Wx D F H g σ e cls d F1 H1 g1 f s xo h => ?_⟩
    have xo' := xo
    obtain ⟨A, hA, eA, hpay⟩ := xo
    subst eA
    unfold HdW at h
    cases hc : c e.cls with
    | none => simp only [hc] at h
    | some b =>
      simp only [hc] at h
      obtain ⟨D1, cv1, k1, k2, k3, k4, k5⟩ := (hx e.cls b hc).ex
      have e1 : cv1 = cv := by
        rcases k2 with ⟨a2, e2, m2⟩ | ⟨T, e2, m2, _⟩
        · rw [hcv] at m2; rw [e2]; exact (Option.some.inj m2).symm
        · rw [hcv] at m2; cases m2
      subst e1
      rw [hA] at k1
      cases k1
      refine ⟨b, by rw [ok.toOk.K]; exact k4, fun hbt a ha pn2 oe hz hf => ?_, fun hbf => ?_⟩
      · subst hbt
        exact hs e hc (X.suite a ((a, oe) :: pn2)) _ ok.s0 takes0 F1 H1 g1 σ (StOk.s0.mpr s) D ((mh e).mono (fun o ho => OutOk.s0 (OutOk.later f ho)) (fun _ z => z.elim) h)
      · subst hbf
        exact h2 Wx D F H g σ e _ d F1 H1 g1 f s xo' h
theorem Ex1.tryMany {h₀ : ExceptHandler} {hds : List ExceptHandler} {body : List Stmt} {mb : W ω} {l : List ((Str → Option Bool) × (Exn → W ω))} (hb : ExT C Γ body J mb) (hh : HdE C Γ J (h₀ :: hds) l) (hx0 : C.ex = none := by rfl) :
    Ex1 C Γ (.Try body (h₀ :: hds) [] [] pos) J (tryL mb l) := fun X Wx ok tk F H g σ s D hm => by
  obtain ⟨l', h1, h2⟩ := hh.ok ok
  refine W1.of (ps_try_many (tb := fun W D σ H => ∀ pn xe, Takes (X.tr pn xe) W → PassesOwn (model X.prog X.w) X.A X.env xe → WS (X.tr pn xe) body D σ H) (Wout := Wx) ok.stk ok.frm tk (fun W pn xe tkW po => ⟨fun pins s0 σ0 H0 D0 I h => pss_W.run pins s0 σ0 H0 D0 I (h pn xe tkW po)⟩) h1) ?_
  intro pn xe tkW po
  have ok' : C.OkS (X.tr pn xe) := ⟨⟨ok.toOk.prog, ok.toOk.w, ok.toOk.K, ok.toOk.mg, ok.toOk.base, ok.toOk.N, ok.toOk.sc, ok.toOk.nd, ok.toOk.calm, ok.toOk.room, ok.toOk.units, fun a' cls' d' h => (by rw [hx0] at h; cases h), ok.toOk.fnc⟩, po, ok.stk, ok.frm⟩
  exact hb (X.tr pn xe) _ ok' tkW F H g σ s D (mb.mono (fun o ho => ho) (fun e he F1 H1 g1 cls d f1 s1 hxo => h2 Wx D F H g σ e cls d F1 H1 g1 f1 s1 hxo he) hm)
end
end Y

/-! Y13: texts' methods, lists of unlike kinds -/
namespace Y
open PySem PySem.Spec L2
section
variable {C : Cc} {Γ : List Slot} {α β γ δ : Type} {e e1 e2 e3 e4 a b o : Expr} {pos p p2 apos : Pos}
theorem All2.txts {F : Hp} {vs : List V} {xs : List Str} (t : All2 (fun u x => (rS x).p F u) vs xs) : vs = xs.map V.str := t.of_map (f := V.str) (fun _ _ h => h)
def joinW (z : Str) (ys : List Str) : W Str := W.req ((ys.map (·.length)).sum + ys.length * z.length ≤ 16777216) (pure (Txt.join z ys))
theorem Ev.join {m1 : W Str} {m2 : W (List Str)} (ho : Ev C Γ o rS m1) (he : Ev C Γ e (rL C.K rS) m2) (hn : NoStar e) (hbase : ∀ X : Cx, attributeBase o "join" X.env (eval o X.env) = eval o X.env := by intro _; rfl) (hline : (apos.endLine == pos.line) = true := by rfl) :
    Ev C Γ (.Call (.Attribute o "join" apos) [e] [] pos) rS (do let x ← m1; let y ← m2; joinW x y) := fun X Wx ok tk F H g σ s Q hm => by
  refine WE.of (pe_join (pe_W (e := o)) (pe_W (e := e)) (hn [] X.env) (hbase X) hline) ?_
  refine ho X Wx ok tk F H g σ s _ (m1.mono (fun x hx F1 H1 g1 v f1 s1 r1 => ?_) (fun e he => he) hm)
  refine ⟨⟨x, r1⟩, he X Wx ok tk F1 H1 g1 σ s1 _ (m2.mono (fun y hy F2 H2 g2 w f2 s2 r2 => ?_) (fun e he => XEnd.later f1 he) hx)⟩
  obtain ⟨q, vs, ev, hq, t⟩ := r2
  have t2 := All2.txts t
  subst t2
  obtain ⟨h1, h2⟩ := hy
  exact ⟨x, q, y, r1, by rw [ev], .inl (by rw [ok.K]; exact s2.sF.seq hq), h1, h2 F2 H2 g2 _ (f1.trans f2) s2 rfl⟩
/-! ### lists of two, three, four unlike things -/
def rH2 (K : PySem.W.Frag) (r1 : α → Rp) (r2 : β → Rp) (x : α × β) : Rp :=
  ⟨fun F v => ∃ a v1 v2, v = .ref a ∧ SqL K F a [v1, v2] ∧ (r1 x.1).p F v1 ∧ (r2 x.2).p F v2, fun h ⟨a, v1, v2, e, q, t1, t2⟩ => ⟨a, v1, v2, e, h.seq q, (r1 _).mono h t1, (r2 _).mono h t2⟩⟩
def oH2 (N : Addr → Prop) (r1 : α → Rp) (r2 : β → Rp) (x : α × β) : Op :=
  ⟨fun F G v => ∃ a v1 v2, v = .ref a ∧ N a ∧ G = one a (.lst [v1, v2]) ∧ (r1 x.1).p F v1 ∧ (r2 x.2).p F v2, fun h ⟨a, v1, v2, e, n, q, t1, t2⟩ => ⟨a, v1, v2, e, n, q, (r1 _).mono h t1, (r2 _).mono h t2⟩⟩
theorem EvO.dispO {es : List Expr} {τ : Type} {ρs : τ → List Rp} {mt : W τ} {O : τ → Op} (hf : ∀ t F q vs, C.fr q → All2 (fun v R => R.p F v) vs (ρs t) → (O t).p F (one q (.lst vs)) (.ref q)) (hl : ∀ t, (ρs t).length ≤ 1000) (ha : EvA C Γ es ρs mt) :
    EvO C Γ (.List es pos) O mt :=
  fun X Wx ok tk F H g σ s Q hm => by
    refine WE.of (pe_lst (pa_W (es := es))) ?_
    refine ha.2 X Wx ok tk F H g σ s _ (mt.mono (fun t ht F1 H1 g1 vs f1 s1 r1 => ?_) (fun e he => he) hm)
    exact ⟨by rw [r1.length]; exact Nat.le_trans (hl t) (by decide), fun l hq => EvO.fin (O := O t) f1 s1 hq (fun n => hf t F1 l vs n r1) ht⟩
theorem Ev.hl2 {r1 : α → Rp} {r2 : β → Rp} {m1 : W α} {m2 : W β} (h1 : Ev C Γ e1 r1 m1) (h2 : Ev C Γ e2 r2 m2) (n1 : NoStar e1) (n2 : NoStar e2) : Ev C Γ (.List [e1, e2] pos) (rH2 C.K r1 r2) (do let x ← m1; let y ← m2; pure (x, y)) := by
  have h := EvO.dispO (pos := pos) (O := fun t : α × β × Unit => oH2 C.fr r1 r2 (t.1, t.2.1)) (fun t F q vs n h => by
    cases h with
    | cons h h' => cases h' with
      | cons h' h'' => cases h''; exact ⟨q, _, _, rfl, n, rfl, h, h'⟩) (fun _ => Nat.le_of_ble_eq_true rfl) (EvA.cons h1 (EvA.cons h2 EvA.nil n2) n1)
  have h3 := EvO.ev (ρ := fun t : α × β × Unit => rH2 C.K r1 r2 (t.1, t.2.1)) (fun t F G v d _ hh => by
    obtain ⟨q, v1, v2, e, n, eg, t1, t2⟩ := (show (oH2 C.fr r1 r2 (t.1, t.2.1)).p F G v from hh)
    subst eg
    exact ⟨q, v1, v2, e, SqL.of (uni_r d q _ one_same), (r1 _).mono uni_l t1, (r2 _).mono uni_l t2⟩) h
  exact Ev.map (ρ' := rH2 C.K r1 r2) (fun t : α × β × Unit => (t.1, t.2.1)) (fun _ _ _ z => z) h3
theorem Ev.ixH {ρ : α → Rp} {ρ' : β → Rp} {ma : W α} (f : α → β) (n : Nat) (hρ : ∀ x F v, (ρ x).p F v → ∃ q vs u, v = .ref q ∧ SqL C.K F q vs ∧ vs[n]? = some u ∧ (ρ' (f x)).p F u) {j : Nat} {p2 : Pos} (ha : Ev C Γ a ρ ma) :
    Ev C Γ (.Subscript a (.Constant (.int (n : Int)) j p2) pos) ρ' (do let x ← ma; pure (f x)) :=
  fun X Wx ok tk F H g σ s Q hm => by
    refine WE.of (pe_ix ix_list (pe_W (e := a)) pe_int (fun _ _ => rfl)) ?_
    refine ha X Wx ok tk F H g σ s _ (ma.mono (fun x hx F1 H1 g1 v f1 s1 r1 => ?_) (fun e he => he) hm)
    obtain ⟨q, vs, u, ev, hq, hu, ru⟩ := hρ x F1 v r1
    exact ⟨q, vs, n, u, ev, rfl, by rw [ok.K]; exact s1.sF.seq hq, atI_nat hu, hx F1 H1 g1 u f1 s1 ru⟩
theorem Ev.ixH2_0 {r1 : α → Rp} {r2 : β → Rp} {x : α × β} {j : Nat} {p2 : Pos} (ha : Ev C Γ a (rH2 C.K r1 r2) (pure x)) : Ev C Γ (.Subscript a (.Constant (.int 0) j p2) pos) r1 (pure x.1) :=
  Ev.ixH (ρ := rH2 C.K r1 r2) (ρ' := r1) (·.1) 0 (fun x F v ⟨q, v1, v2, e, h, t1, t2⟩ => ⟨q, _, v1, e, h, rfl, t1⟩) ha
theorem Ev.ixH2_1 {r1 : α → Rp} {r2 : β → Rp} {x : α × β} {j : Nat} {p2 : Pos} (ha : Ev C Γ a (rH2 C.K r1 r2) (pure x)) : Ev C Γ (.Subscript a (.Constant (.int 1) j p2) pos) r2 (pure x.2) :=
  Ev.ixH (ρ := rH2 C.K r1 r2) (ρ' := r2) (·.2) 1 (fun x F v ⟨q, v1, v2, e, h, t1, t2⟩ => ⟨q, _, v2, e, h, rfl, t2⟩) ha
end
section
variable {K : PySem.W.Frag} {α β : Type}
instance {r1 : α → Rp} {r2 : β → Rp} [I : DatE K r1] [J : DatE K r2] : DatE K (rH2 K r1 r2) where
  enc := fun x => .list [I.enc x.1, J.enc x.2]
  dep := I.dep + J.dep + 3
  ok := fun x => I.ok x.1 ∧ J.ok x.2
  dp := fun ⟨a, v1, v2, e, q, t1, t2⟩ => by subst e; exact .lst q (.cons (I.dp t1) (.cons (J.dp t2) .nil))
  can := fun x h => by simp [PyData.canLay0, PyData.canLayAll0, I.can _ h.1, J.can _ h.2]
  deps := fun x => by
    have := I.deps x.1
    have := J.deps x.2
    simp only [PyData.depth, PyData.depthAll]
    omega
  dec := fun x y => by
    obtain ⟨x1, x2⟩ := x
    obtain ⟨y1, y2⟩ := y
    simp [PyData.eqv, PyData.eqvAll, I.dec, J.dec]
theorem subH2 {r1 r1' : α → Rp} {r2 r2' : β → Rp} (h1 : SubK r1 r1') (h2 : SubK r2 r2') : SubK (rH2 K r1 r2) (rH2 K r1' r2') := fun a F v x => by
  obtain ⟨q, v1, v2, e, q2, t1, t2⟩ := x
  exact ⟨q, v1, v2, e, q2, h1 _ _ _ t1, h2 _ _ _ t2⟩
end
end Y

/-! Y14: dicts of texts, instances, methods, making -/
namespace Y
open PySem PySem.Spec L2
/-! ### a dict whose keys are texts, all True -/
def dkv (ks : List Str) : List (Key × V) := ks.map fun k => (.inr k, V.bl true)
def oD (N : Addr → Prop) (ks : List Str) : Op := ⟨fun F G v => ∃ a, v = .ref a ∧ N a ∧ G = one a (.dK (dkv ks)), fun _ h => h⟩
theorem dkv_in (k : Str) : ∀ ks : List Str, (valV (dkv ks) (.inr k)).isSome = decide (k ∈ ks)
  | [] => rfl
  | x :: ks => by
    have ih := dkv_in k ks
    unfold dkv at ih ⊢
    rw [List.map_cons]
    unfold valV at ih ⊢
    rw [List.find?_cons]
    by_cases h : x = k
    · subst h; simp
    · have h2 : ¬ (Sum.inr x : Key) = Sum.inr k := fun z => h (Sum.inr.inj z)
      have h3 : ¬ k = x := fun z => h z.symm
      simp only [decide_eq_false h2]
      rw [ih]
      simp [h3]
def addK (ks : List Str) (k : Str) : List Str := if k ∈ ks then ks else ks ++ [k]
theorem dkv_put (k : Str) (ks : List Str) : putK (dkv ks) (.inr k) (V.bl true) = dkv (addK ks k) := by
  unfold putK addK
  have h1 : ((dkv ks).any fun kv => decide (kv.1 = Sum.inr k)) = decide (k ∈ ks) := by
    unfold dkv
    rw [List.any_map]
    induction ks with
    | nil => rfl
    | cons x ks ih =>
      rw [List.any_cons, ih]
      by_cases h : x = k
      · subst h; simp
      · have h3 : ¬ k = x := fun z => h z.symm
        simp [h, h3]
  rw [h1]
  by_cases h : k ∈ ks
  · rw [if_pos (decide_eq_true h), if_pos h]
    unfold dkv
    rw [List.map_map]
    refine List.map_congr_left fun x _ => ?_
    simp only [Function.comp]
    split <;> rfl
  · rw [if_neg (by simpa using h), if_neg h]
    unfold dkv
    simp
section
variable {C : Cc} {Γ Γ' : List Slot} {α β γ δ ω : Type} {J : ω → Out} {e e1 e2 e3 o : Expr} {pos p p2 apos : Pos} {rest : List Stmt}
theorem EvO.dict0 : EvO C Γ (.Dict [] [] pos) (oD C.fr) (pure []) := fun X Wx ok tk F H g σ s Q hm => by
  refine WE.of pe_dnewK fun l hq => ?_
  exact EvO.fin (O := oD C.fr []) Fr.refl s hq (fun n => ⟨l, rfl, n, rfl⟩) hm
theorem Ev.dGet {i : Nat} {x : Str} {px : Pos} {ks : List Str} {m : W Str} {op : CmpOp} (neg : Bool) (hN : C.N[i]? = some x) (hv : visB C.sc x = true) (hΓ : Γ[i]? = some (.own (oD C.fr ks))) (hd : (x == ("__debug__" : Str) || x == ("__classdict__" : Str)) = false)
    (hop : ∀ X : Cx, X.A.units + 1 < cLine → ∀ {a : Expr} {ty td : TE}, PE X a ty → PE X (.Name x px) td → PE X (.Compare a [op] [.Name x px] pos) (if neg then tDNotIn ty td else tDIn ty td)) (h : Ev C Γ e rS m) :
    Ev C Γ (.Compare e [op] [.Name x px] pos) rB (do let k ← m; pure (if neg then !decide (k ∈ ks) else decide (k ∈ ks))) := fun X Wx ok tk F H g σ s Q hm => by
  rw [Bool.or_eq_false_iff] at hd
  refine WE.of (hop X (Nat.lt_of_le_of_lt (by omega) ok.units) (pe_W (e := e)) (pe_var (i := i) (by rw [ok.N]; exact hN) (by rw [ok.sc]; exact visOf hv) hd.1 hd.2)) ?_
  have key : WE X e σ H fun y H1 => tVar i σ H1 fun x H2 => ∃ a o, x = .ref a ∧ DGet H2 a y o ∧ Q (.bl (if neg then !o.isSome else o.isSome)) H2 := by
    refine h X Wx ok tk F H g σ s _ (m.mono (fun k hk F1 H1 g1 v f1 s1 r1 => ?_) (fun e he => he) hm)
    obtain ⟨v2, eσ, a, ev, na, eg⟩ := s1.get_own hΓ
    have hH : H1 a = some (.dK (dkv ks)) := s1.sG i a _ (by rw [eg]; exact one_same)
    refine ⟨v2, eσ, a, _, ev, by rw [show v = kV (.inr k) from r1]; exact DGet.k hH, ?_⟩
    rw [dkv_in]
    exact hk F1 H1 g1 _ f1 s1 rfl
  cases neg with
  | true => exact key
  | false => exact key
theorem Ev.inD {i : Nat} {x : Str} {px : Pos} {ks : List Str} {m : W Str} (hN : C.N[i]? = some x) (hv : visB C.sc x = true) (hΓ : Γ[i]? = some (.own (oD C.fr ks))) (hd : (x == ("__debug__" : Str) || x == ("__classdict__" : Str)) = false) (h : Ev C Γ e rS m) :
    Ev C Γ (.Compare e [.In] [.Name x px] pos) rB (do let k ← m; pure (decide (k ∈ ks))) := Ev.dGet false hN hv hΓ hd (fun X hu a ty td h1 h2 => pe_cmp (pc_din hu h1 h2) (by rfl)) h
theorem Ev.notInD {i : Nat} {x : Str} {px : Pos} {ks : List Str} {m : W Str} (hN : C.N[i]? = some x) (hv : visB C.sc x = true) (hΓ : Γ[i]? = some (.own (oD C.fr ks))) (hd : (x == ("__debug__" : Str) || x == ("__classdict__" : Str)) = false) (h : Ev C Γ e rS m) :
    Ev C Γ (.Compare e [.NotIn] [.Name x px] pos) rB (do let k ← m; pure (!decide (k ∈ ks))) := Ev.dGet true hN hv hΓ hd (fun X hu a ty td h1 h2 => pe_cmp (pc_dnotin hu h1 h2) (by rfl)) h
/-- d[k] = True -/
theorem Ex.setKey {i : Nat} {x : Str} {px spos cp : Pos} {j : Nat} {ks : List Str} {mi : W Str} {ix : Expr} {k : Str → W ω} (hN : C.N[i]? = some x) (hv : visB C.sc x = true) (hΓ : Γ[i]? = some (.own (oD C.fr ks))) (hi : Ev C Γ ix rS mi) (hr : ∀ z, Ex C (Γ.set i (.own (oD C.fr (addK ks z)))) rest J (k z))
    (hd : (x == ("__debug__" : Str) || x == ("__classdict__" : Str)) = false) (hs : ∀ X : Cx, swapsWithSole [.Subscript (.Name x px) ix spos] (.Constant (.bool true) j cp) pos.line X.env = pure false := by intro _; rfl)
    (hw : ∀ X : Cx, swappedStores [.Subscript (.Name x px) ix spos] (.Constant (.bool true) j cp) X.env = pure none := by intro _; rfl) (h1 : ∀ X : Cx, (assignEach [.Subscript (.Name x px) ix spos] X.env).map (·.2) = [assign (.Subscript (.Name x px) ix spos) X.env] := by intro _; rfl)
    (hpg : ∀ X : Cx, X.A.units + 1 < cLine → PE X (.Name x px) (tVar i) → PG X (.Subscript (.Name x px) ix spos) (gSub (tVar i) (WE X ix) rSetD)) :
    Ex C Γ (.Assign [.Subscript (.Name x px) ix spos] (.Constant (.bool true) j cp) pos :: rest) J (do let z ← mi; W.req (ks.length ≤ 1000000) (k z)) :=
  Ex.cons fun X Wx ok tk F H g σ s D hm => by
    rw [Bool.or_eq_false_iff] at hd
    refine W1.of (ps_asg pe_bl (hpg X (Nat.lt_of_le_of_lt (by omega) ok.units) (pe_var (i := i) (by rw [ok.N]; exact hN) (by rw [ok.sc]; exact visOf hv) hd.1 hd.2)) (hs X) (hw X) (h1 X)) ?_
    obtain ⟨v, eσ, a, ev, na, eg⟩ := s.get_own hΓ
    subst ev
    refine ⟨.ref a, eσ, ?_⟩
    refine hi X Wx ok.toOk tk F H g σ s _ (mi.mono (fun z hz F2 H2 g2 u f2 s2 r2 => ?_) (fun e he => he.ex) hm)
    obtain ⟨v', eσ', a', ev', na', eg'⟩ := s2.get_own hΓ
    rw [eσ] at eσ'
    cases eσ'
    cases ev'
    obtain ⟨hl, hz⟩ := hz
    obtain ⟨s3, f3, hH2⟩ := s2.upd_own (O' := oD C.fr (addK ks z)) (o' := .dK (dkv (addK ks z))) eg' eσ (List.getElem?_eq_some_iff.mp hΓ).1 ⟨a, rfl, na', rfl⟩
    refine ⟨a, _, rfl, by rw [show u = kV (.inr z) from r2]; exact DPut.k hH2 (by unfold dkv; rw [List.length_map]; exact Nat.lt_of_le_of_lt hl (by decide)), ?_⟩
    rw [dkv_put]
    exact (hr z).later ok tk (f2.trans f3) s3 hz
/-! ### instances -/
abbrev Fl2 := List (Str × Rp)
def FldOk (F : Hp) (fs : List (Str × V)) (fl : Fl2) : Prop := All2 (fun (p : Str × V) (q : Str × Rp) => p.1 = q.1 ∧ q.2.p F p.2) fs fl
theorem FldOk.mono {F F' : Hp} (h : Same F F') {fs : List (Str × V)} {fl : Fl2} (x : FldOk F fs fl) : FldOk F' fs fl := x.imp fun _ q z => ⟨z.1, q.2.mono h z.2⟩
theorem FldOk.get {F : Hp} {fs : List (Str × V)} {fl : Fl2} (x : FldOk F fs fl) {f : Str} {R : Rp} (h : fl.lookup f = some R) : ∃ v, fs.lookup f = some v ∧ R.p F v := by
  induction x with
  | nil => cases h
  | @cons a b as bs r _ ih =>
    obtain ⟨a1, a2⟩ := a
    obtain ⟨b1, b2⟩ := b
    obtain ⟨e, r⟩ := r
    have e : a1 = b1 := e
    subst e
    rw [List.lookup_cons] at h ⊢
    split at h
    · cases h; exact ⟨a2, rfl, r⟩
    · exact ih h
theorem FldOk.no {F : Hp} {fs : List (Str × V)} {fl : Fl2} (x : FldOk F fs fl) {f : Str} (h : fl.lookup f = none) : fs.lookup f = none := by
  induction x with
  | nil => rfl
  | @cons a b as bs r _ ih =>
    obtain ⟨a1, a2⟩ := a
    obtain ⟨b1, b2⟩ := b
    obtain ⟨e, r⟩ := r
    have e : a1 = b1 := e
    subst e
    rw [List.lookup_cons] at h ⊢
    split at h
    · cases h
    · exact ih h
theorem FldOk.put {F : Hp} {fs : List (Str × V)} {fl : Fl2} (x : FldOk F fs fl) {f : Str} {R : Rp} {v : V} (h : fl.lookup f = none) (r : R.p F v) : FldOk F (putF f v fs) (fl ++ [(f, R)]) := by
  induction x with
  | nil => exact .cons ⟨rfl, r⟩ .nil
  | @cons a b as bs q t ih =>
    obtain ⟨a1, a2⟩ := a
    obtain ⟨b1, b2⟩ := b
    have e : a1 = b1 := q.1
    subst e
    rw [List.lookup_cons] at h
    split at h
    · cases h
    · rename_i hne
      have hne' : ¬ a1 = f := fun z => by subst z; simp at hne
      show FldOk F (if a1 = f then (a1, v) :: as else (a1, a2) :: putF f v as) ((a1, b2) :: (bs ++ [(f, R)]))
      rw [if_neg hne']
      exact .cons q (ih h)
/-- an instance of the class at A, all of it laid down -/
def rIns (A : Addr) (fl : α → Fl2) (x : α) : Rp := ⟨fun F v => ∃ a dx fs, v = .ref a ∧ F a = some (.ins A dx fs) ∧ F dx = some (.own a) ∧ FldOk F fs (fl x), fun h ⟨a, dx, fs, e, h1, h2, t⟩ => ⟨a, dx, fs, e, h _ _ h1, h _ _ h2, t.mono h⟩⟩
def two (a : Addr) (o : HO) (b : Addr) (u : HO) : Hp := fun c => if c = a then some o else if c = b then some u else none
/-- self, while it is made -/
def oIns (A a dx : Addr) (fl : Fl2) : Op := ⟨fun F G v => ∃ fs, v = .ref a ∧ dx ≠ a ∧ G = two a (.ins A dx fs) dx (.own a) ∧ FldOk F fs fl, fun h ⟨fs, e, n, q, t⟩ => ⟨fs, e, n, q, t.mono h⟩⟩
theorem Ev.fld {A : Addr} {fl : α → Fl2} {m : W α} {f : Str} {g0 : α → β} {r : β → Rp} (hC : Cls C.K A) (hn : NoAttr C.K A f) (hf : ∀ x, (fl x).lookup f = some (r (g0 x))) (h : Ev C Γ e (rIns A fl) m) (hb : ∀ X : Cx, attributeBase e f X.env (eval e X.env) = eval e X.env := by intro _; rfl) :
    Ev C Γ (.Attribute e f pos) r (do let x ← m; pure (g0 x)) := fun X Wx ok tk F H g σ s Q hm => by
  refine WE.of (pe_fld (pe_W (e := e)) (hb X)) ?_
  refine h X Wx ok tk F H g σ s _ (m.mono (fun x hx F1 H1 g1 v f1 s1 r1 => ?_) (fun e he => he) hm)
  obtain ⟨a, dx, fs, ev, h1, h2, t⟩ := r1
  obtain ⟨u, hu, ru⟩ := t.get (hf x)
  exact ⟨a, A, dx, fs, u, ev, s1.sF _ _ h1, by rw [ok.K]; exact hC, by rw [ok.K]; exact hn, hu, hx F1 H1 g1 u f1 s1 ru⟩
/-- self.f = e -/
theorem Ex.fldSet {i : Nat} {x f : Str} {px fp : Pos} {A a dx : Addr} {fl : Fl2} {r : α → Rp} {m : W α} {k : α → W ω} (hN : C.N[i]? = some x) (hv : visB C.sc x = true) (hd : (x == ("__debug__" : Str) || x == ("__classdict__" : Str)) = false) (hΓ : Γ[i]? = some (.own (oIns A a dx fl))) (hC : Cls C.K A) (hn : NoAttr C.K A f) (hf : fl.lookup f = none) (hl : fl.length < 1000)
    (h : Ev C Γ e r m) (hr : ∀ y, Ex C (Γ.set i (.own (oIns A a dx (fl ++ [(f, r y)])))) rest J (k y)) (hs : ∀ X : Cx, swapsWith e (some (.Attribute (.Name x px) f fp)) pos.line X.env = pure false := by intro _; rfl) :
    Ex C Γ (.Assign [.Attribute (.Name x px) f fp] e pos :: rest) J (do let a ← m; k a) :=
  Ex.cons fun X Wx ok tk F H g σ s D hm => by
    rw [Bool.or_eq_false_iff] at hd
    refine W1.of (ps_fld (pe_var (i := i) (by rw [ok.N]; exact hN) (by rw [ok.sc]; exact visOf hv) hd.1 hd.2) (pe_W (e := e)) (hs X)) ?_
    refine h X Wx ok.toOk tk F H g σ s _ (m.mono (fun y hy F1 H1 g1 w f1 s1 r1 => ?_) (fun e he => he.ex) hm)
    obtain ⟨v, eσ, fs, ev, hne, eg, t⟩ := s1.get_own hΓ
    have hga : g1 i a = some (.ins A dx fs) := by rw [eg]; exact if_pos rfl
    have hHa := s1.sG i a _ hga
    refine ⟨v, eσ, a, A, dx, fs, ev, hHa, by rw [ok.K]; exact hC, by rw [ok.K]; exact hn, by rw [t.length]; exact hl, ?_⟩
    have hFa : F1 a = none := by
      rcases s1.dF i a with q | q
      · exact q
      · rw [hga] at q; cases q
    have hgj : ∀ j, j ≠ i → g1 j a = none := fun j hj => by
      rcases s1.dG j i hj a with q | q
      · exact q
      · rw [hga] at q; cases q
    have hset : upd H1 a (.ins A dx (putF f w fs)) = upd H1 a (.ins A dx (putF f w fs)) := rfl
    have hG' : ∀ b, two a (.ins A dx (putF f w fs)) dx (.own a) b ≠ none → g1 i b ≠ none := fun b hb => by
      rw [eg]
      unfold two at hb ⊢
      split at hb
      · rename_i q; rw [if_pos q]; simp
      · rename_i q
        rw [if_neg q]
        split at hb
        · rename_i q2; rw [if_pos q2]; simp
        · exact absurd rfl hb
    have s2 : StOk C F1 (upd H1 a (.ins A dx (putF f w fs))) (Γ.set i (.own (oIns A a dx (fl ++ [(f, r y)])))) σ (setG g1 i (two a (.ins A dx (putF f w fs)) dx (.own a))) := by
      refine ⟨by rw [List.length_set]; exact s1.len, fun j S q => ?_, fun b u q => ?_, fun j b u q => ?_, fun j b => ?_, fun j l hjl b => ?_, fun b q => ?_⟩
      · by_cases hj : i = j
        · subst hj
          rw [List.getElem?_set_self (List.getElem?_eq_some_iff.mp hΓ).1] at q
          cases q
          rw [setG_same]
          exact ⟨v, eσ, _, ev, hne, rfl, t.put hf r1⟩
        · rw [List.getElem?_set_ne hj] at q
          rw [setG_ne (fun z => hj z.symm)]
          exact s1.slot j S q
      · have hb : b ≠ a := fun z => by rw [z, hFa] at q; cases q
        rw [upd_ne hb]; exact s1.sF b u q
      · by_cases hj : j = i
        · subst hj
          rw [setG_same] at q
          by_cases hb : b = a
          · subst hb
            unfold two at q
            rw [if_pos rfl] at q
            rw [upd_same]; exact q
          · rw [upd_ne hb]
            refine s1.sG j b u ?_
            rw [eg]
            unfold two at q ⊢
            rw [if_neg hb] at q ⊢
            exact q
        · rw [setG_ne hj] at q
          have hb : b ≠ a := fun z => by rw [z, hgj j hj] at q; cases q
          rw [upd_ne hb]; exact s1.sG j b u q
      · by_cases hj : j = i
        · subst hj
          rw [setG_same]
          rcases s1.dF j b with q | q
          · exact .inl q
          · refine .inr ?_
            cases z : two a (.ins A dx (putF f w fs)) dx (.own a) b with
            | none => rfl
            | some u => exact absurd q (hG' b (by rw [z]; simp))
        · rw [setG_ne hj]; exact s1.dF j b
      · have key : ∀ l, l ≠ i → two a (.ins A dx (putF f w fs)) dx (.own a) b = none ∨ g1 l b = none := fun l hl => by
          rcases s1.dG i l (fun z => hl z.symm) b with q | q
          · refine .inl ?_
            cases z : two a (.ins A dx (putF f w fs)) dx (.own a) b with
            | none => rfl
            | some u => exact absurd q (hG' b (by rw [z]; simp))
          · exact .inr q
        by_cases hj : j = i
        · subst hj
          rw [setG_same, setG_ne (fun z => hjl z.symm)]
          exact key l (fun z => hjl z.symm)
        · rw [setG_ne hj]
          by_cases hl : l = i
          · subst hl
            rw [setG_same]
            exact (key j hj).symm
          · rw [setG_ne hl]; exact s1.dG j l hjl b
      · refine s1.fr b ?_
        by_cases hb : b = a
        · subst hb; rw [upd_same] at q; cases q
        · rw [upd_ne hb] at q; exact q
    refine (hr y).later ok tk (f1.trans ⟨Same.refl _, fun b q => .inl q, fun b u q n => ?_, fun b q => ?_, fun b ⟨j, q⟩ => ?_⟩) s2 hy
    · have hb : b ≠ a := fun z => n ⟨i, by rw [z, hga]; simp⟩
      rw [upd_ne hb]; exact q
    · by_cases hb : b = a
      · subst hb; rw [upd_same]; simp
      · rw [upd_ne hb]; exact q
    · by_cases hj : j = i
      · subst hj
        rw [setG_same] at q
        exact .inl ⟨j, hG' b q⟩
      · rw [setG_ne hj] at q
        exact .inl ⟨j, q⟩
end
end Y

/-! Y15: methods, making an instance -/
namespace L2
open PySem PySem.Spec PyProof.Rows
section
variable {X : Cx} {CX : CXT} {k : Nat} {f C : Addr} {fd : FuncData} {ps : List Str} {sp : Sp} {E : St → XK} {x m : Str} {p pos apos : Pos} {e o : Expr} {es : List Expr} {ta : TE} {t : TA}
def tMethYS (C : Addr) (m : Str) (sp : Sp) (E : St → XK) (ta : TE) (t : TA) : TE := fun σ H Q => ta σ H fun x H1 => ∃ a dx fs, x = .ref a ∧ H1 a = some (.ins C dx fs) ∧ fs.lookup m = none ∧ t σ H1 fun vs H2 => sp (.ref a :: vs) H2 Q (E σ)
theorem pe_methYX {pl : Sem Bool} (he : PE X o ta) (c : Cls X.K C) (hm : Meth X.K C m f) (F : FnOk X.prog X.w X.K X.mg X.base CX k f fd ps sp) (hr : Room k X.A) (hb : Binds X.K fd ps []) (hx : ∀ σ, PassesAt CX X σ (E σ)) (ha : PA X (e :: es) t)
    (hst : starEach (e :: es) X.env = (false, eval e X.env) :: starEach es X.env := by rfl) (hpl : (backTo pos (starEach es X.env)).any (·.1) = false := by rfl)
    (ht : eval (.Call (.Attribute o m apos) (e :: es) [] pos) X.env = (do
      let ov ← eval o X.env
      standAt apos.atName
      let (f, first) ← holding [ov] (getMethod ov m pl)
      callWith pos f first (backTo pos (starEach (e :: es) X.env)) (backToKw pos (keywordEach [] X.env))) := by rfl) :
    PE X (.Call (.Attribute o m apos) (e :: es) [] pos) (tMethYS C m sp E ta t) := by
  refine ⟨fun pins s σ H Q I h => ?_⟩
  refine PySem.W.methodCall_KW (pl := pl) (thn (he.run pins s σ H _ I h) fun u s1 ⟨x, H1, I1, rx, a, dx, fs, ex, ea, l, q⟩ => ?_) ht
  subst ex
  obtain rfl : u = Value.ref a := rx
  refine getmeth_ok I1 ea c hm l ?_
  refine PySem.W.callWith_K (first := [.ref a]) (h₀ := X.base) I.ok.mod.kin hm.kp (thn (ha.run pos pins s1 σ H1 _ I1 q) fun us s2 ⟨vs, H2, I2, r, q2⟩ => ⟨I2.kIn, ?_⟩) hst hpl
  exact run_fnS (us := .ref a :: us) (vs := .ref a :: vs) F hr hb (hx σ) I2 (.cons rfl r) q2
theorem pe_methYX0 {pl : Sem Bool} (he : PE X o ta) (c : Cls X.K C) (hm : Meth X.K C m f) (F : FnOk X.prog X.w X.K X.mg X.base CX k f fd ps sp) (hr : Room k X.A) (hb : Binds X.K fd ps []) (hx : ∀ σ, PassesAt CX X σ (E σ))
    (ht : eval (.Call (.Attribute o m apos) [] [] pos) X.env = (do
      let ov ← eval o X.env
      standAt apos.atName
      let (f, first) ← holding [ov] (getMethod ov m pl)
      callWith pos f first (backTo pos (starEach [] X.env)) (backToKw pos (keywordEach [] X.env))) := by rfl) :
    PE X (.Call (.Attribute o m apos) [] [] pos) (tMethYS C m sp E ta tNil) := by
  refine ⟨fun pins s σ H Q I h => ?_⟩
  refine PySem.W.methodCall_KW (pl := pl) (thn (he.run pins s σ H _ I h) fun u s1 ⟨x, H1, I1, rx, a, dx, fs, ex, ea, l, q⟩ => ?_) ht
  subst ex
  obtain rfl : u = Value.ref a := rx
  refine getmeth_ok I1 ea c hm l ?_
  exact PySem.W.callWith_K0 (first := [.ref a]) I1.kIn hm.kp (run_fnS (us := [.ref a]) (vs := [.ref a]) F hr hb (hx σ) I1 (.cons rfl .nil) q)
def tMakeYS (C : Addr) (sp : Sp) (E : St → XK) (t : TA) : TE := fun σ H Q => t σ H fun vs H1 => ∀ x dx, H1 x = none → H1 dx = none → dx ≠ x → sp (.ref x :: vs) (upd (upd H1 dx (.own x)) x (.ins C dx [])) (fun v H2 => v = .non ∧ Q (.ref x) H2) (E σ)
theorem run_makeYS {pins : List (Addr × Obj)} {σ : St} {H : Hp} {s : Shared} {Q : VK} {us : List Value} {vs : List V} (M : Mk X.K C f) (F : FnOk X.prog X.w X.K X.mg X.base CX k f fd ps sp) (hr : Room (k + 1) X.A) (hb : Binds X.K fd ps [])
    (hx : PassesAt CX X σ (E σ)) (I : Inv X pins σ H s) (r : Vals vs us)
    (h : ∀ x dx, H x = none → H dx = none → dx ≠ x → sp (.ref x :: vs) (upd (upd H dx (.own x)) x (.ins C dx [])) (fun v H2 => v = .non ∧ Q (.ref x) H2) (E σ)) :
    wpAny (model X.prog X.w) X.A (call (.ref C) us) (EP X pins σ Q) X.xe s := by
  have hq := h (s.heap.objs.size + 1) s.heap.objs.size (I.hok.fresh (Nat.le_succ _)) (I.hok.fresh (Nat.le_refl _)) (Nat.ne_of_lt (Nat.lt_succ_self _))
  have I2 := Inv.made (C := C) I
  have r2 : Vals (V.ref (s.heap.objs.size + 1) :: vs) (Value.ref (s.heap.objs.size + 1) :: us) := .cons rfl r
  have hl : (Value.ref (s.heap.objs.size + 1) :: us ++ []).length = ps.length := by
    have e := r2.length
    rw [F.len _ _ _ _ hq] at e
    rw [List.append_nil]
    exact e.symm
  have hb' := hb _ (Value.ref (s.heap.objs.size + 1) :: us) I2.kIn hl
  rw [List.append_nil] at hb'
  refine wpAny_call (make_map (f := f) I.kIn M.makes M.init (beq_iff_eq.mp M.fn) (codeAny_mono (F.run _ X.stack _ _ ⟨Value.ref (s.heap.objs.size + 1) :: us, []⟩ (Value.ref (s.heap.objs.size + 1) :: us) _ _ (E σ) (hr.make C us [])
    (I2.env0.make C us []) hb' r2 hq) fun r s' hq' => ?_))
  cases r with
  | error e => exact hx pins _ _ e s' I2 hq'
  | ok fl =>
    cases fl with
    | ret u =>
      obtain ⟨v, H', I3, rv, ev, q3⟩ := I2.after hq'
      subst ev
      exact ⟨rv, ⟨V.ref (s.heap.objs.size + 1), H', I3, rfl, q3⟩⟩
    | next => exact False.elim hq'
    | brk => exact False.elim hq'
    | cont => exact False.elim hq'
theorem pe_makeYS (M : Mk X.K C f) (F : FnOk X.prog X.w X.K X.mg X.base CX k f fd ps sp) (hr : Room (k + 1) X.A) (hg : Gl X x) (hm : X.mg x = some (.ref C)) (hb : Binds X.K fd ps []) (hx : ∀ σ, PassesAt CX X σ (E σ))
    (ha : PA X (e :: es) t) (hdb : (x == ("__debug__" : Str)) = false := by decide) (he : starEach (e :: es) X.env = (false, eval e X.env) :: starEach es X.env := by rfl) (hpl : (backTo pos (starEach es X.env)).any (·.1) = false := by rfl) :
    PE X (.Call (.Name x p) (e :: es) [] pos) (tMakeYS C sp E t) := by
  refine ⟨fun pins s σ H Q I h => ?_⟩
  refine wpAny_Call_Name_kw (ld_glob I hg hm ?_ hdb)
  refine PySem.W.callWith_K (h₀ := X.base) I.ok.mod.kin M.kp (thn (ha.run pos pins s σ H _ I h) fun us s1 ⟨vs, H1, I1, r, q⟩ => ⟨I1.kIn, ?_⟩) he hpl
  exact run_makeYS M F hr hb (hx σ) I1 r q
end
end L2
namespace Y
open PySem PySem.Spec L2
/-! ### methods -/
structure MetV (M : Mc) (A : Addr) (x : Str) (j n : Nat) {τ β : Type} (ins : (Addr → Prop) → τ → List Rp) (ρ : (Addr → Prop) → β → Rp) (m : τ → W β) : Prop where
  ex : ∃ f fd ps, FnOk M.P M.w M.K M.mg M.base (L2.CX M.P M.w) j f fd ps (spV M ins ρ m) ∧ Meth M.K A x f ∧ Binds M.K fd ps []
  len : ∀ N t, (ins N t).length = n
/-- what a class must say -/
structure ClsM (M : Mc) (x : Str) (A : Addr) : Prop where
  mg : M.mg x = some (.ref A)
  cls : Cls M.K A
section
variable {C : Cc} {Γ : List Slot} {α β γ δ ε : Type} {e e1 e2 e3 o : Expr} {pos p apos : Pos} {x : Str} {j : Nat} {A : Addr} {fl : α → Fl2}
theorem Ev.methA {n : Nat} {es : List Expr} {τ : Type} {ins : (Addr → Prop) → α × τ → List Rp} {ρ : (Addr → Prop) → β → Rp} {mf : α × τ → W β} {mo : W α} {mt : W τ} {ρs : τ → List Rp} (hf : MetV C.toMc A x j n ins ρ mf) (hj : j ≤ C.k) (hc : Cls C.K A) (hlk : ∀ y, (fl y).lookup x = Option.none)
    (hins : ∀ y t, ins C.fr (y, t) = rIns A fl y :: ρs t) (ho : Ev C Γ o (rIns A fl) mo) (ha : EvA C Γ (e :: es) ρs mt) (hn : NoStar e) (hpl : ∀ (X : Cx) (pos : Pos), (backTo pos (starEach es X.env)).any (·.1) = false)
    (ht : ∀ X : Cx, ∃ pl : Sem Bool, eval (.Call (.Attribute o x apos) (e :: es) [] pos) X.env = (do
      let ov ← eval o X.env
      standAt apos.atName
      let (f, first) ← holding [ov] (getMethod ov x pl)
      callWith pos f first (backTo pos (starEach (e :: es) X.env)) (backToKw pos (keywordEach [] X.env))) := by intro _; exact ⟨_, rfl⟩) (hcm : C.cm = true := by rfl) :
    Ev C Γ (.Call (.Attribute o x apos) (e :: es) [] pos) (ρ C.fr) (do let y ← mo; let t ← mt; mf (y, t)) :=
  fun X Wx ok tk F H g σ s Q hm => by
    obtain ⟨⟨f, fd, ps, hF, hM, hb⟩, hl⟩ := hf
    obtain ⟨pl, hpl2⟩ := ht X
    have e1 := ok.prog
    have e2 := ok.w
    have e3 := ok.K
    have e4 := ok.mg
    have e5 := ok.base
    refine WE.of (pe_methYX (pl := pl) (E := fun σ => L2.WE Wx σ) (pe_W (e := o)) (by rw [e3]; exact hc) (by rw [e3]; exact hM) (by rw [e1, e2, e3, e4, e5]; exact hF) ((ok.room hcm).mono hj) (by rw [e3]; exact hb) (fun σ => by
      have := passAt tk σ
      rw [e1, e2] at this
      exact this) (pa_W (es := e :: es)) (hn es X.env) (hpl X pos) hpl2) ?_
    refine ho X Wx ok tk F H g σ s _ (mo.mono (fun y hy F0 H0 g0 v0 f0 s0 r0 => ?_) (fun e he => he) hm)
    obtain ⟨a, dx, fs, ev, h1, h2, t1⟩ := id r0
    refine ⟨a, dx, fs, ev, s0.sF _ _ h1, t1.no (hlk y), ?_⟩
    refine ha.2 X Wx ok tk F0 H0 g0 σ s0 _ (mt.mono (fun t ht F1 H1 g1 vs f1 s1 r1 => ?_) (fun e he => XEnd.later f0 he) hy)
    refine ⟨(y, t), F1, C.fr, s1.fr, s1.sF, by rw [hins]; exact .cons (by rw [← ev]; exact (rIns A fl y).mono f1.sF r0) r1, (mf (y, t)).mono (fun b hb F2 H2 g2 v f2 s2 r2 => ?_) (fun e he F2 H2 g2 cls d f2 s2 hx => ?_) ht⟩
    · obtain ⟨s3, f3⟩ := s1.call0 f2 s2
      exact hb F2 H2 g1 v ((f0.trans f1).trans f3) s3 r2
    · obtain ⟨s3, f3⟩ := s1.call0 f2 s2
      exact he F2 H2 g1 cls d ((f0.trans f1).trans f3) s3 ((hx.reg s1.sG).later (f0.trans f1))
theorem Ev.meth0 {ρ : (Addr → Prop) → β → Rp} {mf : α × Unit → W β} {mo : W α} (hf : MetV C.toMc A x j 1 (fun N t => [rIns A fl t.1]) ρ mf) (hj : j ≤ C.k) (hc : Cls C.K A) (hlk : ∀ y, (fl y).lookup x = Option.none) (ho : Ev C Γ o (rIns A fl) mo)
    (ht : ∀ X : Cx, ∃ pl : Sem Bool, eval (.Call (.Attribute o x apos) [] [] pos) X.env = (do
      let ov ← eval o X.env
      standAt apos.atName
      let (f, first) ← holding [ov] (getMethod ov x pl)
      callWith pos f first (backTo pos (starEach [] X.env)) (backToKw pos (keywordEach [] X.env))) := by intro _; exact ⟨_, rfl⟩) (hcm : C.cm = true := by rfl) :
    Ev C Γ (.Call (.Attribute o x apos) [] [] pos) (ρ C.fr) (do let y ← mo; mf (y, ())) :=
  fun X Wx ok tk F H g σ s Q hm => by
    obtain ⟨⟨f, fd, ps, hF, hM, hb⟩, hl⟩ := hf
    obtain ⟨pl, hpl2⟩ := ht X
    have e1 := ok.prog
    have e2 := ok.w
    have e3 := ok.K
    have e4 := ok.mg
    have e5 := ok.base
    refine WE.of (pe_methYX0 (pl := pl) (E := fun σ => L2.WE Wx σ) (pe_W (e := o)) (by rw [e3]; exact hc) (by rw [e3]; exact hM) (by rw [e1, e2, e3, e4, e5]; exact hF) ((ok.room hcm).mono hj) (by rw [e3]; exact hb) (fun σ => by
      have := passAt tk σ
      rw [e1, e2] at this
      exact this) hpl2) ?_
    refine ho X Wx ok tk F H g σ s _ (mo.mono (fun y hy F1 H1 g1 v1 f1 s1 r1 => ?_) (fun e he => he) hm)
    obtain ⟨a, dx, fs, ev, h1, h2, t1⟩ := id r1
    refine ⟨a, dx, fs, ev, s1.sF _ _ h1, t1.no (hlk y), ?_⟩
    refine ⟨(y, ()), F1, C.fr, s1.fr, s1.sF, .cons (by rw [← ev]; exact r1) .nil, (mf (y, ())).mono (fun b hb F2 H2 g2 v f2 s2 r2 => ?_) (fun e he F2 H2 g2 cls d f2 s2 hx => ?_) hy⟩
    · obtain ⟨s3, f3⟩ := s1.call0 f2 s2
      exact hb F2 H2 g1 v (f1.trans f3) s3 r2
    · obtain ⟨s3, f3⟩ := s1.call0 f2 s2
      exact he F2 H2 g1 cls d (f1.trans f3) s3 ((hx.reg s1.sG).later f1)
theorem Ev.meth1 {ra : (Addr → Prop) → γ → Rp} {ρ : (Addr → Prop) → β → Rp} {mf : α × γ × Unit → W β} {mo : W α} {m1 : W γ} (hf : MetV C.toMc A x j 2 (fun N t => [rIns A fl t.1, ra N t.2.1]) ρ mf) (hj : j ≤ C.k) (hc : Cls C.K A) (hlk : ∀ y, (fl y).lookup x = Option.none)
    (ho : Ev C Γ o (rIns A fl) mo) (h1 : Ev C Γ e1 (ra C.fr) m1) (n1 : NoStar e1)
    (ht : ∀ X : Cx, ∃ pl : Sem Bool, eval (.Call (.Attribute o x apos) [e1] [] pos) X.env = (do
      let ov ← eval o X.env
      standAt apos.atName
      let (f, first) ← holding [ov] (getMethod ov x pl)
      callWith pos f first (backTo pos (starEach [e1] X.env)) (backToKw pos (keywordEach [] X.env))) := by intro _; exact ⟨_, rfl⟩) (hcm : C.cm = true := by rfl) :
    Ev C Γ (.Call (.Attribute o x apos) [e1] [] pos) (ρ C.fr) (do let y ← mo; let t ← m1; mf (y, t, ())) :=
  Ev.methA (ρs := fun t : γ × Unit => [ra C.fr t.1]) (mt := do let a ← m1; let t ← pure (); pure (a, t)) hf hj hc hlk (fun _ _ => rfl) ho (EvA.cons h1 EvA.nil n1) n1 noArgs ht hcm
end
/-- a method by its body -/
theorem MetV.ofBody {M : Mc} {A f : Addr} {fd : FuncData} {x qual : Str} {st : Stmt} {k n : Nat} {N ps : List Str} {τ β : Type} {ins : (Addr → Prop) → τ → List Rp} {ρ : (Addr → Prop) → β → Rp} {m : τ → W β} (F : Fun M.K x qual st f fd) (hM : Meth M.K A x f) (hb : Binds M.K fd ps []) (S : FnScope N ps (defScope st))
    (hn : ps.length = n) (hl : ∀ N t, (ins N t).length = n) (h : ∀ (fr : Addr → Prop) (t : τ), Ex (initC M N (defScope st) k fr) (Γ0 (ins fr t) N) (defBody st) (fun b => .rt (ρ fr b)) (m t)) : MetV M A x (k + 1) n ins ρ m := by
  refine ⟨⟨f, fd, ps, F.okX S (fun vs H Q E hsp => ?_) (fun cdv A outer s H vs Q E hr hsp => ?_), hM, hb⟩, hl⟩
  · obtain ⟨t, F', Nf, _, _, r, _⟩ := hsp
    rw [r.length, hl, hn]
  · obtain ⟨t, F', Nf, hNf, sm, r, w⟩ := hsp
    refine ⟨_, pss_W, ?_⟩
    refine h Nf t (cxOf (L2.CX M.P M.w) M.P M.w M.K M.mg M.base N qual (defScope st) f cdv A outer s H E) (fun cls d _ H => E cls d H) ⟨⟨rfl, rfl, rfl, rfl, rfl, rfl, rfl, S.nd, rfl, fun _ => hr, hr.units, fun _ _ _ h => (nomatch h), fun _ _ => rfl⟩, passes_of rfl, rfl, rfl⟩ (takes_of rfl rfl rfl rfl) F' H _ _ (start_ok hNf sm r) _ ((m t).mono (fun b hb => ?_) (fun e he => ?_) w)
    · intro F2 H2 g2 v f2 s2 r2
      exact hb F2 H2 g2 v (show Fr F' H (fun _ => False) F2 H2 (dU g2) from ⟨f2.sF, fun b z => (f2.fF b z).imp_right fun q => q.imp_right fun ⟨_, q⟩ => absurd rfl q, fun b o q _ => f2.keep b o q fun ⟨_, z⟩ => absurd rfl z, f2.dom, fun b z => (f2.gs b z).imp_left fun ⟨_, q⟩ => absurd rfl q⟩) s2 r2
    · intro F2 H2 g2 σ2 cls d f2 s2 hx
      exact he F2 H2 g2 cls d ⟨f2.sF, fun b z => (f2.fF b z).imp_right fun q => q.imp_right fun ⟨_, q⟩ => absurd rfl q, fun b o q _ => f2.keep b o q fun ⟨_, z⟩ => absurd rfl z, f2.dom, fun b z => (f2.gs b z).imp_left fun ⟨_, q⟩ => absurd rfl q⟩ s2 hx
/-! ### making -/
def spI (M : Mc) (A : Addr) {τ γ : Type} (ins : (Addr → Prop) → τ → List Rp) (fl : γ → Fl2) (m : τ → W γ) : Sp := fun vs H Q E => ∃ (t : τ) (F : Hp) (N : Addr → Prop) (p dx : Addr) (ws : List V), (∀ a, H a = none → N a) ∧ vs = .ref p :: ws ∧ Same F H ∧ F p = none ∧ F dx = none ∧ dx ≠ p ∧ H p = some (.ins A dx []) ∧ H dx = some (.own p) ∧ All2 (fun v R => R.p F v) ws (ins N t) ∧
  (m t).wp (fun y => ∀ F' H' g', Fr F H (fun b => b = p ∨ b = dx) F' H' (dU g') → Same F' H' → (rIns A fl y).p F' (.ref p) → Q .non H') (fun e => ∀ F' H' g' cls d, Fr F H (fun b => b = p ∨ b = dx) F' H' (dU g') → Same F' H' → XOk M e H H' (dU g') cls d → E cls d H')
structure MakV (M : Mc) (x : Str) (A : Addr) (j n : Nat) {τ γ : Type} (ins : (Addr → Prop) → τ → List Rp) (fl : γ → Fl2) (m : τ → W γ) : Prop where
  ex : ∃ f fd ps, FnOk M.P M.w M.K M.mg M.base (L2.CX M.P M.w) j f fd ps (spI M A ins fl m) ∧ Mk M.K A f ∧ Binds M.K fd ps [] ∧ M.mg x = some (.ref A)
  len : ∀ N t, (ins N t).length = n
/-- an instance's making, by the body of __init__ -/
theorem MakV.ofBody {M : Mc} {x : Str} {A f : Addr} {fd : FuncData} {nm qual : Str} {st : Stmt} {k n : Nat} {N ps : List Str} {τ γ : Type} {ins : (Addr → Prop) → τ → List Rp} {fl : γ → Fl2} {m : τ → W γ} (F : Fun M.K nm qual st f fd) (hM : Mk M.K A f) (hmg : M.mg x = some (.ref A)) (hb : Binds M.K fd ps []) (S : FnScope N ps (defScope st))
    (hn : ps.length = n + 1) (hl : ∀ N t, (ins N t).length = n) (Γf : (Addr → Prop) → Addr → Addr → τ → γ → List Slot) (hΓf : ∀ fr p dx t y, (Γf fr p dx t y)[0]? = some (.own (oIns A p dx (fl y)))) (h : ∀ (fr : Addr → Prop) (p dx : Addr) (t : τ), Ex (initC M N (defScope st) k fr) (.own (oIns A p dx []) :: Γ0 (ins fr t) N.tail) (defBody st) (fun y => .nx (Γf fr p dx t y)) (m t)) : MakV M x A (k + 1) n ins fl m := by
  refine ⟨⟨f, fd, ps, F.okX S (fun vs H Q E hsp => ?_) (fun cdv A' outer s H vs Q E hr hsp => ?_), hM, hb, hmg⟩, hl⟩
  · obtain ⟨t, F', Nf, p, dx, ws, _, e, _, _, _, _, _, _, r, _⟩ := hsp
    rw [e, List.length_cons, r.length, hl, hn]
  · obtain ⟨t, F', Nf, p, dx, ws, hNf, e, sm, hFp, hFd, hne, hHp, hHd, r, w⟩ := hsp
    subst e
    refine ⟨_, pss_W, ?_⟩
    have hNne : N ≠ [] := fun z => by
      have := S.pre
      rw [z] at this
      have h0 : ps.length = 0 := by rw [← this]; simp
      omega
    obtain ⟨n0, N', eN⟩ := List.exists_cons_of_ne_nil hNne
    subst eN
    have st0 := start_ok (M := M) (N := N') (sc := defScope st) (k := k) hNf sm r
    have hst : L2.start (n0 :: N') (V.ref p :: ws) = some (V.ref p) :: L2.start N' ws := by
      unfold L2.start
      simp
    have s0 : StOk (initC M (n0 :: N') (defScope st) k Nf) F' H (.own (oIns A p dx []) :: Γ0 (ins Nf t) N') (L2.start (n0 :: N') (V.ref p :: ws)) (setG (fun _ => emp) 0 (two p (.ins A dx []) dx (.own p))) := by
      rw [hst]
      refine ⟨by simp [st0.len], fun i Sl q => ?_, sm, fun i b u q => ?_, fun i b => ?_, fun i j hij b => ?_, hNf⟩
      · cases i with
        | zero =>
          have q' : some (Slot.own (oIns A p dx [])) = some Sl := q
          cases q'
          rw [setG_same]
          exact ⟨_, rfl, [], rfl, hne, rfl, .nil⟩
        | succ i =>
          rw [setG_ne (Nat.succ_ne_zero i)]
          exact st0.slot i Sl q
      · by_cases hi : i = 0
        · subst hi
          rw [setG_same] at q
          unfold two at q
          split at q
          · rename_i e; cases q; rw [e]; exact hHp
          · split at q
            · rename_i e; cases q; rw [e]; exact hHd
            · cases q
        · rw [setG_ne hi] at q; cases q
      · by_cases hi : i = 0
        · subst hi
          rw [setG_same]
          by_cases h1 : b = p
          · exact .inl (by rw [h1]; exact hFp)
          · by_cases h2 : b = dx
            · exact .inl (by rw [h2]; exact hFd)
            · exact .inr (by unfold two; rw [if_neg h1, if_neg h2])
        · rw [setG_ne hi]; exact .inr rfl
      · by_cases hi : i = 0
        · subst hi
          rw [setG_ne (fun z => hij z.symm)]
          exact .inr rfl
        · rw [setG_ne hi]; exact .inl rfl
    have hU : ∀ b, dU (setG (fun _ => emp) 0 (two p (.ins A dx []) dx (.own p))) b → b = p ∨ b = dx := fun b ⟨i, q⟩ => by
      by_cases hi : i = 0
      · subst hi
        rw [setG_same] at q
        unfold two at q
        split at q
        · rename_i e; exact .inl e
        · split at q
          · rename_i e; exact .inr e
          · exact absurd rfl q
      · rw [setG_ne hi] at q; exact absurd rfl q
    refine h Nf p dx t (cxOf (L2.CX M.P M.w) M.P M.w M.K M.mg M.base (n0 :: N') qual (defScope st) f cdv A' outer s H E) (fun cls d _ H => E cls d H) ⟨⟨rfl, rfl, rfl, rfl, rfl, rfl, rfl, S.nd, rfl, fun _ => hr, hr.units, fun _ _ _ h => (nomatch h), fun _ _ => rfl⟩, passes_of rfl, rfl, rfl⟩ (takes_of rfl rfl rfl rfl) F' H _ _ s0 _ ((m t).mono (fun y hy => ?_) (fun e he => ?_) w)
    · intro F2 H2 g2 σ2 f2 s2
      obtain ⟨v, eσ, fs, ev, _, eg, tf⟩ := s2.get_own (hΓf Nf p dx t y)
      refine hy (uni F2 (g2 0)) H2 g2 ⟨f2.sF.trans uni_l, fun b q => ?_, fun b o q n => f2.keep b o q fun z => n (hU b z), f2.dom, fun b z => (f2.gs b z).imp_left (hU b)⟩ (fun b o q => ?_) ⟨p, dx, fs, rfl, ?_, ?_, tf.mono uni_l⟩
      · cases q2 : F2 b with
        | some o => exact (f2.fF b (by rw [q2]; simp)).imp_right fun z => z.imp_right (hU b)
        | none =>
          have : g2 0 b ≠ none := fun z => q (uni_none q2 z)
          rw [eg] at this
          unfold two at this
          split at this
          · rename_i e; exact .inr (.inr (.inl e))
          · split at this
            · rename_i e; exact .inr (.inr (.inr e))
            · exact absurd rfl this
      · rcases of_uni q with q2 | ⟨_, q2⟩
        · exact s2.sF b o q2
        · exact s2.sG 0 b o q2
      · exact uni_r (s2.dF 0) p _ (by rw [eg]; exact if_pos rfl)
      · refine uni_r (s2.dF 0) dx _ ?_
        rw [eg]
        unfold two
        rw [if_neg (by assumption), if_pos rfl]
    · intro F2 H2 g2 σ2 cls d f2 s2 hx
      exact he F2 H2 g2 cls d ⟨f2.sF, fun b z => (f2.fF b z).imp_right fun q => q.imp_right (hU b), fun b o q n => f2.keep b o q fun z => n (hU b z), f2.dom, fun b z => (f2.gs b z).imp_left (hU b)⟩ s2 hx
section
variable {C : Cc} {Γ : List Slot} {α β γ δ ε : Type} {e e1 e2 e3 o : Expr} {pos p apos : Pos} {x : Str} {j : Nat} {A : Addr} {fl : γ → Fl2}
theorem Ev.makeA {n : Nat} {es : List Expr} {τ : Type} {ins : (Addr → Prop) → τ → List Rp} {mf : τ → W γ} {mt : W τ} (hf : MakV C.toMc x A j n ins fl mf) (hj : j + 1 ≤ C.k) (hg : C.sc.names.lookup x = some .globalImplicit) (ha : EvA C Γ (e :: es) (ins C.fr) mt) (hn : NoStar e) (hpl : ∀ (X : Cx) (pos : Pos), (backTo pos (starEach es X.env)).any (·.1) = false)
    (hd : (x == ("__debug__" : Str)) = false := by decide) (hcm : C.cm = true := by rfl) : Ev C Γ (.Call (.Name x p) (e :: es) [] pos) (rIns A fl) (do let t ← mt; mf t) :=
  fun X Wx ok tk F H g σ s Q hm => by
    obtain ⟨⟨f, fd, ps, hF, hM, hb, hmg⟩, hl⟩ := hf
    have e1 := ok.prog
    have e2 := ok.w
    have e3 := ok.K
    have e4 := ok.mg
    have e5 := ok.base
    refine WE.of (pe_makeYS (k := j) (E := fun σ => L2.WE Wx σ) (by rw [e3]; exact hM) (by rw [e1, e2, e3, e4, e5]; exact hF) ((ok.room hcm).mono hj) (show X.env.scope.names.lookup x = _ by rw [ok.sc]; exact hg) (by rw [e4]; exact hmg) (by rw [e3]; exact hb) (fun σ => by
      have := passAt tk σ
      rw [e1, e2] at this
      exact this) (pa_W (es := e :: es)) hd (hn es X.env) (hpl X pos)) ?_
    refine ha.2 X Wx ok tk F H g σ s _ (mt.mono (fun t ht F1 H1 g1 vs f1 s1 r1 => ?_) (fun e he => he) hm)
    intro q dx hq hdx hne
    have hH : ∀ b, b ≠ q → b ≠ dx → upd (upd H1 dx (.own q)) q (.ins A dx []) b = H1 b := fun b h1 h2 => by rw [upd_ne h1, upd_ne h2]
    have hF1 : ∀ b, H1 b = Option.none → F1 b = Option.none := fun b h => by
      cases z : F1 b with
      | none => rfl
      | some o => rw [s1.sF b o z] at h; cases h
    have hsub : ∀ b, upd (upd H1 dx (.own q)) q (.ins A dx []) b = Option.none → H1 b = Option.none := fun b h => by
      by_cases h1 : b = q
      · rw [h1, upd_same] at h; cases h
      · by_cases h2 : b = dx
        · rw [upd_ne h1, h2, upd_same] at h; cases h
        · rw [hH b h1 h2] at h; exact h
    have hfr : ∀ {F2 H2 : Hp} {U2 : Addr → Prop}, Fr F1 (upd (upd H1 dx (.own q)) q (.ins A dx [])) (fun b => b = q ∨ b = dx) F2 H2 U2 → Fr F1 H1 (fun _ => False) F2 H2 U2 := fun {F2 H2 U2} f => by
      refine ⟨f.sF, fun b z => ?_, fun b o z _ => ?_, fun b z => ?_, fun b z => ?_⟩
      · rcases f.fF b z with y | y | y | y
        · exact .inl y
        · exact .inr (.inl (hsub b y))
        · exact .inr (.inl (by rw [y]; exact hq))
        · exact .inr (.inl (by rw [y]; exact hdx))
      · have h1 : b ≠ q := fun y => by rw [y, hq] at z; cases z
        have h2 : b ≠ dx := fun y => by rw [y, hdx] at z; cases z
        exact f.keep b o (by rw [hH b h1 h2]; exact z) fun y => y.elim h1 h2
      · exact f.dom b fun y => z (hsub b y)
      · rcases f.gs b z with y | y
        · rcases y with y | y
          · exact .inr (by rw [y]; exact hq)
          · exact .inr (by rw [y]; exact hdx)
        · exact .inr (hsub b y)
    refine ⟨t, F1, C.fr, q, dx, vs, fun a h => s1.fr a (hsub a h), rfl, fun b o z => ?_, hF1 q hq, hF1 dx hdx, hne, upd_same, by rw [upd_ne hne, upd_same], r1, (mf t).mono (fun y hy F2 H2 g2 f2 s2 r2 => ?_) (fun e he F2 H2 g2 cls d f2 s2 hx => ?_) ht⟩
    · have h1 : b ≠ q := fun y => by rw [y, hF1 q hq] at z; cases z
      have h2 : b ≠ dx := fun y => by rw [y, hF1 dx hdx] at z; cases z
      rw [hH b h1 h2]
      exact s1.sF b o z
    · obtain ⟨s3, f3⟩ := s1.call0 (hfr f2) s2
      exact ⟨rfl, hy F2 H2 g1 _ (f1.trans f3) s3 r2⟩
    · obtain ⟨s3, f3⟩ := s1.call0 (hfr f2) s2
      exact he F2 H2 g1 cls d (f1.trans f3) s3 (((hx.mp fun b z n => ⟨hsub b z, n⟩).reg s1.sG).later f1)
theorem Ev.make2 {ra : (Addr → Prop) → α → Rp} {rb : (Addr → Prop) → β → Rp} {m1 : W α} {m2 : W β} {mf : α × β × Unit → W γ} (hf : MakV C.toMc x A j 2 (fun N t => [ra N t.1, rb N t.2.1]) fl mf) (hj : j + 1 ≤ C.k) (hg : C.sc.names.lookup x = some .globalImplicit) (h1 : Ev C Γ e1 (ra C.fr) m1) (h2 : Ev C Γ e2 (rb C.fr) m2) (n1 : NoStar e1) (n2 : NoStar e2) (hd : (x == ("__debug__" : Str)) = false := by decide) (hcm : C.cm = true := by rfl) :
    Ev C Γ (.Call (.Name x p) [e1, e2] [] pos) (rIns A fl) (do let a ← m1; let b ← m2; mf (a, b, ())) := by
  have q := Ev.makeA (e := e1) (p := p) (pos := pos) hf hj hg (EvA.cons h1 (EvA.cons h2 EvA.nil n2) n1) n1 (EvA.cons h2 EvA.nil n2).1 hd hcm
  exact q
end
end Y

/-! Y16: the yard's kinds, more lists, calls that read own lists -/
namespace Y
open PySem PySem.Spec L2
abbrev WorkV := Str × List (Str × Int) × List (Str × Int)
abbrev YardV := List Str × List WorkV
abbrev rWk (K : PySem.W.Frag) : WorkV → Rp := rT3 K rS (rL K (rT2 K rS rI)) (rL K (rT2 K rS rI))
def flY (K : PySem.W.Frag) (x : YardV) : Fl2 := [("told_goods", rL K rS x.1), ("told_works", rL K (rWk K) x.2)]
section
variable {C : Cc} {Γ Γ' : List Slot} {α β γ δ ε ω : Type} {J : ω → Out} {e e1 e2 e3 e4 e5 e6 o a b : Expr} {pos p p2 apos : Pos} {rest : List Stmt}
theorem Ev.fldP {A : Addr} {fl : α → Fl2} {x : α} {f : Str} {g0 : α → β} {r : β → Rp} (hC : Cls C.K A) (hn : NoAttr C.K A f) (hf : ∀ x, (fl x).lookup f = Option.some (r (g0 x))) (h : Ev C Γ e (rIns A fl) (pure x)) (hb : ∀ X : Cx, attributeBase e f X.env (eval e X.env) = eval e X.env := by intro _; rfl) :
    Ev C Γ (.Attribute e f pos) r (pure (g0 x)) := Ev.fld hC hn hf h hb
/-! ### displays of four to six -/
theorem EvO.list4 {r : α → Rp} {m1 m2 m3 m4 : W α} (h1 : Ev C Γ e1 r m1) (h2 : Ev C Γ e2 r m2) (h3 : Ev C Γ e3 r m3) (h4 : Ev C Γ e4 r m4) (n1 : NoStar e1) (n2 : NoStar e2) (n3 : NoStar e3) (n4 : NoStar e4) : EvO C Γ (.List [e1, e2, e3, e4] pos) (oL C.fr r) (do let x ← m1; let y ← m2; let z ← m3; let u ← m4; pure [x, y, z, u]) :=
  EvO.disp (fun t : α × α × α × α × Unit => [t.1, t.2.1, t.2.2.1, t.2.2.2.1]) (fun t F vs h => by
    cases h with
    | cons h h' => cases h' with
      | cons h2 h' => cases h' with
        | cons h3 h' => cases h' with
          | cons h4 h' => cases h'; exact .cons h (.cons h2 (.cons h3 (.cons h4 .nil)))) (fun _ => Nat.le_of_ble_eq_true rfl) (EvA.cons h1 (EvA.cons h2 (EvA.cons h3 (EvA.cons h4 EvA.nil n4) n3) n2) n1)
theorem EvO.list5 {r : α → Rp} {m1 m2 m3 m4 m5 : W α} (h1 : Ev C Γ e1 r m1) (h2 : Ev C Γ e2 r m2) (h3 : Ev C Γ e3 r m3) (h4 : Ev C Γ e4 r m4) (h5 : Ev C Γ e5 r m5) (n1 : NoStar e1) (n2 : NoStar e2) (n3 : NoStar e3) (n4 : NoStar e4) (n5 : NoStar e5) : EvO C Γ (.List [e1, e2, e3, e4, e5] pos) (oL C.fr r) (do let x ← m1; let y ← m2; let z ← m3; let u ← m4; let v ← m5; pure [x, y, z, u, v]) :=
  EvO.disp (fun t : α × α × α × α × α × Unit => [t.1, t.2.1, t.2.2.1, t.2.2.2.1, t.2.2.2.2.1]) (fun t F vs h => by
    cases h with
    | cons h h' => cases h' with
      | cons h2 h' => cases h' with
        | cons h3 h' => cases h' with
          | cons h4 h' => cases h' with
            | cons h5 h' => cases h'; exact .cons h (.cons h2 (.cons h3 (.cons h4 (.cons h5 .nil))))) (fun _ => Nat.le_of_ble_eq_true rfl) (EvA.cons h1 (EvA.cons h2 (EvA.cons h3 (EvA.cons h4 (EvA.cons h5 EvA.nil n5) n4) n3) n2) n1)
theorem EvO.list6 {r : α → Rp} {m1 m2 m3 m4 m5 m6 : W α} (h1 : Ev C Γ e1 r m1) (h2 : Ev C Γ e2 r m2) (h3 : Ev C Γ e3 r m3) (h4 : Ev C Γ e4 r m4) (h5 : Ev C Γ e5 r m5) (h6 : Ev C Γ e6 r m6) (n1 : NoStar e1) (n2 : NoStar e2) (n3 : NoStar e3) (n4 : NoStar e4) (n5 : NoStar e5) (n6 : NoStar e6) : EvO C Γ (.List [e1, e2, e3, e4, e5, e6] pos) (oL C.fr r) (do let x ← m1; let y ← m2; let z ← m3; let u ← m4; let v ← m5; let w ← m6; pure [x, y, z, u, v, w]) :=
  EvO.disp (fun t : α × α × α × α × α × α × Unit => [t.1, t.2.1, t.2.2.1, t.2.2.2.1, t.2.2.2.2.1, t.2.2.2.2.2.1]) (fun t F vs h => by
    cases h with
    | cons h h' => cases h' with
      | cons h2 h' => cases h' with
        | cons h3 h' => cases h' with
          | cons h4 h' => cases h' with
            | cons h5 h' => cases h' with
              | cons h6 h' => cases h'; exact .cons h (.cons h2 (.cons h3 (.cons h4 (.cons h5 (.cons h6 .nil)))))) (fun _ => Nat.le_of_ble_eq_true rfl) (EvA.cons h1 (EvA.cons h2 (EvA.cons h3 (EvA.cons h4 (EvA.cons h5 (EvA.cons h6 EvA.nil n6) n5) n4) n3) n2) n1)
/-! ### texts in lists -/
theorem inV_str (x : Str) : ∀ xs : List Str, inV (.str x) (xs.map V.str) = decide (x ∈ xs)
  | [] => rfl
  | y :: ys => by
    show ((y == x) || inV (.str x) (ys.map V.str)) = _
    rw [inV_str x ys]
    by_cases h : y = x
    · subst h; simp
    · have h2 : (y == x) = false := by simpa using h
      have h3 : ¬ x = y := fun z => h z.symm
      rw [h2]; simp [h3]
theorem flat_strs : ∀ xs : List Str, (xs.map V.str).all flatV = true
  | [] => rfl
  | _ :: ys => flat_strs ys
theorem Ev.inSL {ma : W Str} {mb : W (List Str)} (ha : Ev C Γ a rS ma) (hb : Ev C Γ b (rL C.K rS) mb) (hk : behindInMarks .In b = false := by with_unfolding_all rfl) : Ev C Γ (.Compare a [.In] [b] pos) rB (do let x ← ma; let y ← mb; pure (decide (x ∈ y))) :=
  Ev.cmp (fun x y => decide (x ∈ y)) (fun X ok => ⟨_, op_in_seq, fun x y H v w Q hv hw h => by
    obtain ⟨q, vs, ev, hq, t⟩ := (show (rL C.K rS y).p H w from hw)
    have e1 : v = .str x := hv
    have e2 := All2.txts t
    subst e1 e2
    exact ⟨q, y.map V.str, ev, .inl (by rw [ok.K]; exact hq), rfl, flat_strs y, by rw [inV_str]; exact h⟩⟩) hk ha hb
theorem Ev.notInSL {ma : W Str} {mb : W (List Str)} (ha : Ev C Γ a rS ma) (hb : Ev C Γ b (rL C.K rS) mb) (hk : behindInMarks .NotIn b = false := by with_unfolding_all rfl) : Ev C Γ (.Compare a [.NotIn] [b] pos) rB (do let x ← ma; let y ← mb; pure (!decide (x ∈ y))) :=
  Ev.cmp (fun x y => !decide (x ∈ y)) (fun X ok => ⟨_, op_notIn_seq, fun x y H v w Q hv hw h => by
    obtain ⟨q, vs, ev, hq, t⟩ := (show (rL C.K rS y).p H w from hw)
    have e1 : v = .str x := hv
    have e2 := All2.txts t
    subst e1 e2
    exact ⟨q, y.map V.str, ev, .inl (by rw [ok.K]; exact hq), rfl, flat_strs y, by rw [inV_str]; exact h⟩⟩) hk ha hb
/-! ### xs.reverse() -/
theorem Ex.reverse {i : Nat} {x : Str} {px apos cpos : Pos} {r : α → Rp} {xs : List α} {m : W ω} (hN : C.N[i]? = some x) (hv : visB C.sc x = true) (hd : (x == ("__debug__" : Str) || x == ("__classdict__" : Str)) = false) (hΓ : Γ[i]? = some (.own (oL C.fr r xs))) (hr : Ex C (Γ.set i (.own (oL C.fr r xs.reverse))) rest J m)
    (hpe : ∀ X : Cx, PE X (.Name x px) (tVar i) → ∃ t, PE X (.Call (.Attribute (.Name x px) "reverse" apos) [] [] cpos) t ∧ ∀ σ H Q, (∃ a vs, σ[i]? = some (some (.ref a)) ∧ H a = some (.lst vs) ∧ Q .non (upd H a (.lst vs.reverse))) → t σ H Q)
    (hs : ∀ X : Cx, swapsWith (.Call (.Attribute (.Name x px) "reverse" apos) [] [] cpos) none pos.line X.env = pure false := by intro _; rfl) :
    Ex C Γ (.Expr (.Call (.Attribute (.Name x px) "reverse" apos) [] [] cpos) pos :: rest) J m :=
  Ex.cons fun X Wx ok tk F H g σ s D hm => by
    rw [Bool.or_eq_false_iff] at hd
    obtain ⟨t, ht, htr⟩ := hpe X (pe_var (i := i) (by rw [ok.N]; exact hN) (by rw [ok.sc]; exact visOf hv) hd.1 hd.2)
    refine W1.of (ps_expr ht (hs X)) ?_
    obtain ⟨v, eσ, a, vs, ev, na, eg, tt⟩ := s.get_own hΓ
    subst ev
    obtain ⟨s3, f3, hH2⟩ := s.upd_own (O' := oL C.fr r xs.reverse) (o' := .lst vs.reverse) eg eσ (List.getElem?_eq_some_iff.mp hΓ).1 ⟨a, vs.reverse, rfl, na, rfl, tt.reverse⟩
    exact htr _ _ _ ⟨a, vs, eσ, hH2, hr.later ok tk f3 s3 hm⟩
/-! ### a call that reads own lists and tells new things -/
noncomputable def restr (F : Hp) (N : Addr → Prop) : Hp := fun a => by classical exact if N a then F a else none
theorem restr_same {F : Hp} {N : Addr → Prop} : Same (restr F N) F := fun a o h => by
  unfold restr at h
  split at h
  · exact h
  · cases h
theorem restr_at {F : Hp} {N : Addr → Prop} {a : Addr} (h : N a) : restr F N a = F a := if_pos h
/-- all of it is new -/
structure Frs (ρ : (Addr → Prop) → α → Rp) : Prop where
  re : ∀ N b F v, (ρ N b).p F v → (ρ N b).p (restr F N) v
  mo : ∀ N N' b F v, (∀ a, N a → N' a) → (ρ N b).p F v → (ρ N' b).p F v
theorem Frs.fre {r : α → Rp} [I : Fre r] : Frs (fun _ => r) := ⟨fun _ _ _ _ h => I.fre _ _ _ h _, fun _ _ _ _ _ _ h => h⟩
theorem Frs.N {ρ : (Addr → Prop) → α → Rp} (h : Frs ρ) : Frs (fun N => rN N (ρ N)) := ⟨fun N b F v ⟨a, vs, e, n, q, t⟩ => ⟨a, vs, e, n, by rw [restr_at n]; exact q, t.imp fun _ _ z => h.re _ _ _ _ z⟩, fun N N' b F v hn ⟨a, vs, e, n, q, t⟩ => ⟨a, vs, e, hn _ n, q, t.imp fun _ _ z => h.mo _ _ _ _ _ hn z⟩⟩
/-- a new tuple -/
def rX2 (N : Addr → Prop) (r1 : α → Rp) (r2 : β → Rp) (x : α × β) : Rp :=
  ⟨fun F v => ∃ a v1 v2, v = .ref a ∧ N a ∧ F a = some (.tup [v1, v2]) ∧ (r1 x.1).p F v1 ∧ (r2 x.2).p F v2, fun h ⟨a, v1, v2, e, n, q, t1, t2⟩ => ⟨a, v1, v2, e, n, h _ _ q, (r1 _).mono h t1, (r2 _).mono h t2⟩⟩
def rX3 (N : Addr → Prop) (r1 : α → Rp) (r2 : β → Rp) (r3 : γ → Rp) (x : α × β × γ) : Rp :=
  ⟨fun F v => ∃ a v1 v2 v3, v = .ref a ∧ N a ∧ F a = some (.tup [v1, v2, v3]) ∧ (r1 x.1).p F v1 ∧ (r2 x.2.1).p F v2 ∧ (r3 x.2.2).p F v3, fun h ⟨a, v1, v2, v3, e, n, q, t1, t2, t3⟩ => ⟨a, v1, v2, v3, e, n, h _ _ q, (r1 _).mono h t1, (r2 _).mono h t2, (r3 _).mono h t3⟩⟩
theorem Frs.X2 {ρ1 : (Addr → Prop) → α → Rp} {ρ2 : (Addr → Prop) → β → Rp} (h1 : Frs ρ1) (h2 : Frs ρ2) : Frs (fun N => rX2 N (ρ1 N) (ρ2 N)) := ⟨fun N b F v ⟨a, v1, v2, e, n, q, t1, t2⟩ => ⟨a, v1, v2, e, n, by rw [restr_at n]; exact q, h1.re _ _ _ _ t1, h2.re _ _ _ _ t2⟩, fun N N' b F v hn ⟨a, v1, v2, e, n, q, t1, t2⟩ => ⟨a, v1, v2, e, hn _ n, q, h1.mo _ _ _ _ _ hn t1, h2.mo _ _ _ _ _ hn t2⟩⟩
theorem Frs.X3 {ρ1 : (Addr → Prop) → α → Rp} {ρ2 : (Addr → Prop) → β → Rp} {ρ3 : (Addr → Prop) → γ → Rp} (h1 : Frs ρ1) (h2 : Frs ρ2) (h3 : Frs ρ3) : Frs (fun N => rX3 N (ρ1 N) (ρ2 N) (ρ3 N)) := ⟨fun N b F v ⟨a, v1, v2, v3, e, n, q, t1, t2, t3⟩ => ⟨a, v1, v2, v3, e, n, by rw [restr_at n]; exact q, h1.re _ _ _ _ t1, h2.re _ _ _ _ t2, h3.re _ _ _ _ t3⟩, fun N N' b F v hn ⟨a, v1, v2, v3, e, n, q, t1, t2, t3⟩ => ⟨a, v1, v2, v3, e, hn _ n, q, h1.mo _ _ _ _ _ hn t1, h2.mo _ _ _ _ _ hn t2, h3.mo _ _ _ _ _ hn t3⟩⟩
theorem subXT2 {K : PySem.W.Frag} {N : Addr → Prop} {r1 r1' : α → Rp} {r2 r2' : β → Rp} (h1 : SubK r1 r1') (h2 : SubK r2 r2') : SubK (rX2 N r1 r2) (rT2 K r1' r2') := fun a F v ⟨q, v1, v2, e, _, q2, t1, t2⟩ => ⟨q, v1, v2, e, .inl (.inl q2), h1 _ _ _ t1, h2 _ _ _ t2⟩
theorem subXT3 {K : PySem.W.Frag} {N : Addr → Prop} {r1 r1' : α → Rp} {r2 r2' : β → Rp} {r3 r3' : γ → Rp} (h1 : SubK r1 r1') (h2 : SubK r2 r2') (h3 : SubK r3 r3') : SubK (rX3 N r1 r2 r3) (rT3 K r1' r2' r3') := fun a F v ⟨q, v1, v2, v3, e, _, q2, t1, t2, t3⟩ => ⟨q, v1, v2, v3, e, .inl (.inl q2), h1 _ _ _ t1, h2 _ _ _ t2, h3 _ _ _ t3⟩
theorem subXX2 {N : Addr → Prop} {r1 r1' : α → Rp} {r2 r2' : β → Rp} (h1 : SubK r1 r1') (h2 : SubK r2 r2') : SubK (rX2 N r1 r2) (rX2 N r1' r2') := fun a F v ⟨q, v1, v2, e, n, q2, t1, t2⟩ => ⟨q, v1, v2, e, n, q2, h1 _ _ _ t1, h2 _ _ _ t2⟩
theorem subXX3 {N : Addr → Prop} {r1 r1' : α → Rp} {r2 r2' : β → Rp} {r3 r3' : γ → Rp} (h1 : SubK r1 r1') (h2 : SubK r2 r2') (h3 : SubK r3 r3') : SubK (rX3 N r1 r2 r3) (rX3 N r1' r2' r3') := fun a F v ⟨q, v1, v2, v3, e, n, q2, t1, t2, t3⟩ => ⟨q, v1, v2, v3, e, n, q2, h1 _ _ _ t1, h2 _ _ _ t2, h3 _ _ _ t3⟩
/-- new tuples displayed -/
theorem Ev.tupX {es : List Expr} {k : Nat} {τ : Type} {ρs : τ → List Rp} {ρ : β → Rp} {mt : W τ} (f : τ → β) (hf : ∀ t F q vs, C.fr q → F q = some (.tup vs) → All2 (fun v R => R.p F v) vs (ρs t) → (ρ (f t)).p F (.ref q)) (hl : ∀ t, (ρs t).length ≤ 1000) (ha : EvA C Γ es ρs mt) :
    Ev C Γ (.Tuple es k pos) ρ (do let t ← mt; pure (f t)) :=
  fun X Wx ok tk F H g σ s Q hm => by
    refine WE.of (pe_tup (pa_W (es := es))) ?_
    refine ha.2 X Wx ok tk F H g σ s _ (mt.mono (fun t ht F1 H1 g1 vs f1 s1 r1 => ?_) (fun e he => he) hm)
    refine ⟨by rw [r1.length]; exact Nat.le_trans (hl t) (by decide), fun q hq => ?_⟩
    obtain ⟨s2, f2⟩ := s1.grow1 (o := .tup vs) hq
    have hsm : Same F1 (upd F1 q (.tup vs)) := f2.sF
    exact ht _ _ g1 _ (f1.trans f2) s2 (hf t _ q vs (s1.fr q hq) upd_same (r1.imp fun v R z => R.mono hsm z))
theorem Ev.tupX2 {k : Nat} {r1 : α → Rp} {r2 : β → Rp} {m1 : W α} {m2 : W β} (h1 : Ev C Γ e1 r1 m1) (h2 : Ev C Γ e2 r2 m2) (n1 : NoStar e1) (n2 : NoStar e2) : Ev C Γ (.Tuple [e1, e2] k pos) (rX2 C.fr r1 r2) (do let x ← m1; let y ← m2; pure (x, y)) :=
  Ev.tupX (ρ := rX2 C.fr r1 r2) (fun t : α × β × Unit => (t.1, t.2.1)) (fun t F q vs n hq h => by
    cases h with
    | cons h h' => cases h' with
      | cons h' h'' => cases h''; exact ⟨q, _, _, rfl, n, hq, h, h'⟩) (fun _ => Nat.le_of_ble_eq_true rfl) (EvA.cons h1 (EvA.cons h2 EvA.nil n2) n1)
theorem Ev.tupX3 {k : Nat} {r1 : α → Rp} {r2 : β → Rp} {r3 : γ → Rp} {m1 : W α} {m2 : W β} {m3 : W γ} (h1 : Ev C Γ e1 r1 m1) (h2 : Ev C Γ e2 r2 m2) (h3 : Ev C Γ e3 r3 m3) (n1 : NoStar e1) (n2 : NoStar e2) (n3 : NoStar e3) : Ev C Γ (.Tuple [e1, e2, e3] k pos) (rX3 C.fr r1 r2 r3) (do let x ← m1; let y ← m2; let z ← m3; pure (x, y, z)) :=
  Ev.tupX (ρ := rX3 C.fr r1 r2 r3) (fun t : α × β × γ × Unit => (t.1, t.2.1, t.2.2.1)) (fun t F q vs n hq h => by
    cases h with
    | cons h h' => cases h' with
      | cons h2 h' => cases h' with
        | cons h3 h' => cases h'; exact ⟨q, _, _, _, rfl, n, hq, h, h2, h3⟩) (fun _ => Nat.le_of_ble_eq_true rfl) (EvA.cons h1 (EvA.cons h2 (EvA.cons h3 EvA.nil n3) n2) n1)
theorem Ev.tupX2P {k : Nat} {r1 : α → Rp} {r2 : β → Rp} {x : α} {y : β} (h1 : Ev C Γ e1 r1 (pure x)) (h2 : Ev C Γ e2 r2 (pure y)) (n1 : NoStar e1) (n2 : NoStar e2) : Ev C Γ (.Tuple [e1, e2] k pos) (rX2 C.fr r1 r2) (pure (x, y)) := Ev.tupX2 h1 h2 n1 n2
theorem Ev.tupX3P {k : Nat} {r1 : α → Rp} {r2 : β → Rp} {r3 : γ → Rp} {x : α} {y : β} {z : γ} (h1 : Ev C Γ e1 r1 (pure x)) (h2 : Ev C Γ e2 r2 (pure y)) (h3 : Ev C Γ e3 r3 (pure z)) (n1 : NoStar e1) (n2 : NoStar e2) (n3 : NoStar e3) : Ev C Γ (.Tuple [e1, e2, e3] k pos) (rX3 C.fr r1 r2 r3) (pure (x, y, z)) := Ev.tupX3 h1 h2 h3 n1 n2 n3
theorem Ev.callFr {x : Str} {j n : Nat} {es : List Expr} {τ : Type} {ins : (Addr → Prop) → τ → List Rp} {ρ : (Addr → Prop) → β → Rp} {mf : τ → W β} {mt : W τ} (hb : All2 (Bo C) Γ Γ') (hv : noOwn Γ' = true) (hρ : Frs ρ) (hf : FnV C.toMc x j n ins ρ mf) (hi : ∀ N N' t, ins N t = ins N' t) (hj : j ≤ C.k) (hg : C.sc.names.lookup x = some .globalImplicit) (ha : EvA C Γ' (e :: es) (ins C.fr) mt) (hn : NoStar e) (hpl : ∀ (X : Cx) (pos : Pos), (backTo pos (starEach es X.env)).any (·.1) = false)
    (hd : (x == ("__debug__" : Str)) = false := by decide) (hcm : C.cm = true := by rfl) : Ev C Γ (.Call (.Name x p) (e :: es) [] pos) (ρ C.fr) (do let t ← mt; mf t) :=
  fun X Wx ok tk F H g σ s Q hm => by
    obtain ⟨⟨f, fd, ps, hF, hmg, hk, hbd⟩, hl⟩ := hf
    have e1 := ok.prog
    have e2 := ok.w
    have e3 := ok.K
    have e4 := ok.mg
    have e5 := ok.base
    have hv' : ∀ (i : Nat) (O : Op), Γ'[i]? ≠ some (Slot.own O) := fun i O q => noOwn.ok hv _ (List.mem_of_getElem? q) O rfl
    obtain ⟨sz, zF, zG, _⟩ := s.frzA hb hv'
    refine WE.of (pe_callS (E := fun σ => L2.WE Wx σ) (by rw [e1, e2, e3, e4, e5]; exact hF) ((ok.room hcm).mono hj) (show X.env.scope.names.lookup x = _ by rw [ok.sc]; exact hg) (by rw [e4]; exact hmg) (by rw [e3]; exact hk) (by rw [e3]; exact hbd) (fun σ => by
      have := passAt tk σ
      rw [e1, e2] at this
      exact this) (pa_W (es := e :: es)) hd (hn es X.env) (hpl X pos)) ?_
    refine ha.2 X Wx ok tk _ H _ σ sz _ (mt.mono (fun t ht F1 H1 g1 vs f1 s1 r1 => ?_) (fun e he => he.frz s hb hv') hm)
    refine ⟨t, F1, fun a => H1 a = Option.none, fun _ z => z, s1.sF, by rw [hi _ C.fr t]; exact r1, (mf t).mono (fun b hb2 F2 H2 g2 v f2 s2 r2 => ?_) (fun e he F2 H2 g2 cls d f2 s2 hx => ?_) ht⟩
    · obtain ⟨s3, f3⟩ := s1.call0 f2 s2
      obtain ⟨s4, f4⟩ := s.unfrz hb hv' (f1.trans f3) s3
      have hr := hρ.re _ _ _ _ r2
      have hN : ∀ a, restr F2 (fun a => H1 a = Option.none) a ≠ Option.none → H1 a = Option.none := fun a z => by
        unfold restr at z
        split at z
        · assumption
        · exact absurd rfl z
      have hgH : ∀ i a, g i a ≠ Option.none → H1 a ≠ Option.none := fun i a z => by
        cases q : g i a with
        | none => exact absurd q z
        | some u =>
          have := (((zG i).trans f1.sF).trans s1.sF) a u q
          rw [this]; simp
      refine hb2 (uni F (restr F2 fun a => H1 a = Option.none)) H2 g v ⟨uni_l, fun b q => ?_, f4.keep, f4.dom, fun b q => .inl q⟩ ⟨s4.len, fun i S q => (s4.slot i S q).mono uni_l, fun b o q => ?_, s4.sG, fun i b => ?_, s4.dG, s4.fr⟩ ?_
      · cases q2 : F b with
        | some o => exact .inl (by simp)
        | none =>
          have h1 : restr F2 (fun a => H1 a = Option.none) b ≠ Option.none := fun z => q (uni_none q2 z)
          refine .inr (.inl ?_)
          cases q3 : H b with
          | none => rfl
          | some u => exact absurd (hN b h1) (f1.dom b (by rw [q3]; simp))
      · rcases of_uni q with q2 | ⟨_, q2⟩
        · exact s4.sF b o q2
        · exact s2 _ _ (restr_same b o q2)
      · rcases s4.dF i b with q | q
        · cases q2 : restr F2 (fun a => H1 a = Option.none) b with
          | none => exact .inl (uni_none q q2)
          | some u =>
            refine .inr ?_
            cases q3 : g i b with
            | none => rfl
            | some w => exact absurd (hN b (by rw [q2]; simp)) (hgH i b (by rw [q3]; simp))
        · exact .inr q
      · refine (ρ C.fr b).mono (fun a o q => ?_) (hρ.mo _ _ _ _ _ (fun a z => s1.fr a z) hr)
        cases q2 : F a with
        | none => unfold uni; rw [q2]; exact q
        | some u =>
          have h1 := hN a (by rw [q]; simp)
          have := ((zF.trans f1.sF).trans s1.sF) a u q2
          rw [h1] at this; cases this
    · obtain ⟨s3, f3⟩ := s1.call0 f2 s2
      exact (he.frz s hb hv') F2 H2 g1 cls d (f1.trans f3) s3 ((hx.reg s1.sG).later f1)
end
end Y

/-! Y17: reverse, calls in short, methods that tell lists of the asker's own -/
namespace Y
open PySem PySem.Spec L2
section
variable {C : Cc} {Γ Γ' : List Slot} {α β γ δ ε ω : Type} {J : ω → Out} {e e1 e2 e3 e4 o : Expr} {pos p apos cpos : Pos} {rest : List Stmt}
theorem Ex.rev {i : Nat} {x : Str} {px : Pos} {r : α → Rp} {xs : List α} {m : W ω} (hN : C.N[i]? = some x) (hv : visB C.sc x = true) (hd : (x == ("__debug__" : Str) || x == ("__classdict__" : Str)) = false) (hΓ : Γ[i]? = some (.own (oL C.fr r xs))) (hr : Ex C (Γ.set i (.own (oL C.fr r xs.reverse))) rest J m)
    (hline : (apos.endLine == cpos.line) = true := by rfl) (hb : ∀ X : Cx, attributeBase (.Name x px) "reverse" X.env (eval (.Name x px) X.env) = eval (.Name x px) X.env := by intro _; rfl)
    (hs : ∀ X : Cx, swapsWith (.Call (.Attribute (.Name x px) "reverse" apos) [] [] cpos) none pos.line X.env = pure false := by intro _; rfl) :
    Ex C Γ (.Expr (.Call (.Attribute (.Name x px) "reverse" apos) [] [] cpos) pos :: rest) J m :=
  Ex.cons fun X Wx ok tk F H g σ s D hm => by
    rw [Bool.or_eq_false_iff] at hd
    refine W1.of (ps_expr (pe_bm0 PySem.F.plainAttrs_list PySem.F.slot_list_reverse PySem.F.type_list_reverse mt_reverse (pe_var (i := i) (by rw [ok.N]; exact hN) (by rw [ok.sc]; exact visOf hv) hd.1 hd.2) (hb X) hline) (hs X)) ?_
    obtain ⟨v, eσ, a, vs, ev, na, eg, tt⟩ := s.get_own hΓ
    subst ev
    obtain ⟨s3, f3, hH2⟩ := s.upd_own (O' := oL C.fr r xs.reverse) (o' := .lst vs.reverse) eg eσ (List.getElem?_eq_some_iff.mp hΓ).1 ⟨a, vs.reverse, rfl, na, rfl, tt.reverse⟩
    exact ⟨.ref a, eσ, .inl ⟨rfl, _, SqL.of hH2⟩, a, vs, rfl, rfl, hH2, hr.later ok tk f3 s3 hm⟩
variable {x : Str} {j : Nat} {ρ : (Addr → Prop) → ε → Rp}
theorem Ev.callFr1 {ra : α → Rp} {m1 : W α} {mf : α × Unit → W ε} (hb : All2 (Bo C) Γ Γ') (hv : noOwn Γ' = true) (hρ : Frs ρ) (hf : FnV C.toMc x j 1 (fun N t => [ra t.1]) ρ mf) (hj : j ≤ C.k) (hg : C.sc.names.lookup x = some .globalImplicit) (h1 : Ev C Γ' e1 ra m1) (n1 : NoStar e1) (hd : (x == ("__debug__" : Str)) = false := by decide) (hcm : C.cm = true := by rfl) :
    Ev C Γ (.Call (.Name x p) [e1] [] pos) (ρ C.fr) (do let a ← m1; mf (a, ())) := by
  have q := Ev.callFr (e := e1) (p := p) (pos := pos) hb hv hρ hf (fun _ _ _ => rfl) hj hg (EvA.cons h1 EvA.nil n1) n1 noArgs hd hcm
  exact q
theorem Ev.callFr2 {ra : α → Rp} {rb : β → Rp} {m1 : W α} {m2 : W β} {mf : α × β × Unit → W ε} (hb : All2 (Bo C) Γ Γ') (hv : noOwn Γ' = true) (hρ : Frs ρ) (hf : FnV C.toMc x j 2 (fun N t => [ra t.1, rb t.2.1]) ρ mf) (hj : j ≤ C.k) (hg : C.sc.names.lookup x = some .globalImplicit) (h1 : Ev C Γ' e1 ra m1) (h2 : Ev C Γ' e2 rb m2) (n1 : NoStar e1) (n2 : NoStar e2) (hd : (x == ("__debug__" : Str)) = false := by decide) (hcm : C.cm = true := by rfl) :
    Ev C Γ (.Call (.Name x p) [e1, e2] [] pos) (ρ C.fr) (do let a ← m1; let b ← m2; mf (a, b, ())) := by
  have q := Ev.callFr (e := e1) (p := p) (pos := pos) hb hv hρ hf (fun _ _ _ => rfl) hj hg (EvA.cons h1 (EvA.cons h2 EvA.nil n2) n1) n1 (EvA.cons h2 EvA.nil n2).1 hd hcm
  exact q
theorem Ev.callFr3 {ra : α → Rp} {rb : β → Rp} {rc : γ → Rp} {m1 : W α} {m2 : W β} {m3 : W γ} {mf : α × β × γ × Unit → W ε} (hb : All2 (Bo C) Γ Γ') (hv : noOwn Γ' = true) (hρ : Frs ρ) (hf : FnV C.toMc x j 3 (fun N t => [ra t.1, rb t.2.1, rc t.2.2.1]) ρ mf) (hj : j ≤ C.k) (hg : C.sc.names.lookup x = some .globalImplicit) (h1 : Ev C Γ' e1 ra m1) (h2 : Ev C Γ' e2 rb m2) (h3 : Ev C Γ' e3 rc m3) (n1 : NoStar e1) (n2 : NoStar e2) (n3 : NoStar e3) (hd : (x == ("__debug__" : Str)) = false := by decide) (hcm : C.cm = true := by rfl) :
    Ev C Γ (.Call (.Name x p) [e1, e2, e3] [] pos) (ρ C.fr) (do let a ← m1; let b ← m2; let c ← m3; mf (a, b, c, ())) := by
  have q := Ev.callFr (e := e1) (p := p) (pos := pos) hb hv hρ hf (fun _ _ _ => rfl) hj hg (EvA.cons h1 (EvA.cons h2 (EvA.cons h3 EvA.nil n3) n2) n1) n1 (EvA.cons h2 (EvA.cons h3 EvA.nil n3) n2).1 hd hcm
  exact q
theorem Ev.callFr4 {ra : α → Rp} {rb : β → Rp} {rc : γ → Rp} {rd : δ → Rp} {m1 : W α} {m2 : W β} {m3 : W γ} {m4 : W δ} {mf : α × β × γ × δ × Unit → W ε} (hb : All2 (Bo C) Γ Γ') (hv : noOwn Γ' = true) (hρ : Frs ρ) (hf : FnV C.toMc x j 4 (fun N t => [ra t.1, rb t.2.1, rc t.2.2.1, rd t.2.2.2.1]) ρ mf) (hj : j ≤ C.k) (hg : C.sc.names.lookup x = some .globalImplicit) (h1 : Ev C Γ' e1 ra m1) (h2 : Ev C Γ' e2 rb m2) (h3 : Ev C Γ' e3 rc m3) (h4 : Ev C Γ' e4 rd m4) (n1 : NoStar e1) (n2 : NoStar e2) (n3 : NoStar e3) (n4 : NoStar e4) (hd : (x == ("__debug__" : Str)) = false := by decide) (hcm : C.cm = true := by rfl) :
    Ev C Γ (.Call (.Name x p) [e1, e2, e3, e4] [] pos) (ρ C.fr) (do let a ← m1; let b ← m2; let c ← m3; let d ← m4; mf (a, b, c, d, ())) := by
  have q := Ev.callFr (e := e1) (p := p) (pos := pos) hb hv hρ hf (fun _ _ _ => rfl) hj hg (EvA.cons h1 (EvA.cons h2 (EvA.cons h3 (EvA.cons h4 EvA.nil n4) n3) n2) n1) n1 (EvA.cons h2 (EvA.cons h3 (EvA.cons h4 EvA.nil n4) n3) n2).1 hd hcm
  exact q
end
section
variable {C : Cc} {Γ : List Slot} {α β γ δ ε : Type} {e e1 e2 e3 o : Expr} {pos p apos : Pos} {x : Str} {j : Nat} {A : Addr} {fl : α → Fl2}
/-- what a method tells: a new list, as the asker's own -/
theorem EvO.meth1 {ra : γ → Rp} {r : β → Rp} [I : Fre r] {mf : α × γ × Unit → W (List β)} {mo : W α} {m1 : W γ} (hf : MetV C.toMc A x j 2 (fun N t => [rIns A fl t.1, ra t.2.1]) (fun N => rN N r) mf) (hj : j ≤ C.k) (hc : Cls C.K A) (hlk : ∀ y, (fl y).lookup x = Option.none)
    (ho : Ev C Γ o (rIns A fl) mo) (h1 : Ev C Γ e1 ra m1) (n1 : NoStar e1)
    (ht : ∀ X : Cx, ∃ pl : Sem Bool, eval (.Call (.Attribute o x apos) [e1] [] pos) X.env = (do
      let ov ← eval o X.env
      standAt apos.atName
      let (f, first) ← holding [ov] (getMethod ov x pl)
      callWith pos f first (backTo pos (starEach [e1] X.env)) (backToKw pos (keywordEach [] X.env))) := by intro _; exact ⟨_, rfl⟩) (hcm : C.cm = true := by rfl) :
    EvO C Γ (.Call (.Attribute o x apos) [e1] [] pos) (oL C.fr r) (do let y ← mo; let t ← m1; mf (y, t, ())) :=
  fun X Wx ok tk F H g σ s Q hm => by
    obtain ⟨⟨f, fd, ps, hF, hM, hb⟩, hl⟩ := hf
    obtain ⟨pl, hpl2⟩ := ht X
    have e1' := ok.prog
    have e2 := ok.w
    have e3 := ok.K
    have e4 := ok.mg
    have e5 := ok.base
    refine WE.of (pe_methYX (pl := pl) (E := fun σ => L2.WE Wx σ) (pe_W (e := o)) (by rw [e3]; exact hc) (by rw [e3]; exact hM) (by rw [e1', e2, e3, e4, e5]; exact hF) ((ok.room hcm).mono hj) (by rw [e3]; exact hb) (fun σ => by
      have := passAt tk σ
      rw [e1', e2] at this
      exact this) (pa_cons (pe_W (e := e1)) pa_nil (n1 [] X.env)) (n1 [] X.env) (noArgs X pos) hpl2) ?_
    refine ho X Wx ok tk F H g σ s _ (mo.mono (fun y hy F0 H0 g0 v0 f0 s0 r0 => ?_) (fun e he => he) hm)
    obtain ⟨a, dx, fs, ev, q1, q2, t1⟩ := id r0
    refine ⟨a, dx, fs, ev, s0.sF _ _ q1, t1.no (hlk y), ?_⟩
    refine h1 X Wx ok tk F0 H0 g0 σ s0 _ (m1.mono (fun t ht F1 H1 g1 v1 f1 s1 r1 => ?_) (fun e he => XEnd.later f0 he) hy)
    refine ⟨(y, t, ()), F1, fun a => H1 a = Option.none, fun _ z => z, s1.sF, .cons (by rw [← ev]; exact (rIns A fl y).mono f1.sF r0) (.cons r1 .nil), (mf (y, t, ())).mono (fun b hb F2 H2 g2 v f2 s2 r2 => ?_) (fun e he F2 H2 g2 cls d f2 s2 hx => ?_) ht⟩
    · obtain ⟨s3, f3⟩ := s1.call0 f2 s2
      obtain ⟨a2, us, ev2, hn1, ha, t2⟩ := r2
      refine hb F1 H2 g1 (one a2 (.lst us)) v ((f0.trans f1).trans ⟨Same.refl _, fun b q => .inl q, fun b o q _ => f2.keep b o q fun z => z, f2.dom, fun b q => ?_⟩) ⟨s1.len, s1.slot, fun b o q => s2 _ _ (f2.sF b o q), s3.sG, s1.dF, s1.dG, s3.fr⟩ (fun b o q => ?_) (fun b => ?_) (fun i b => ?_) (fun b q => ?_) ⟨a2, us, ev2, s1.fr a2 hn1, rfl, t2.imp fun _ _ z => I.fre _ _ _ z _⟩
      · rcases q with q | q
        · exact .inl q
        · by_cases hba : b = a2
          · subst hba; exact .inr hn1
          · exact absurd (one_ne hba) q
      · by_cases hba : b = a2
        · subst hba; rw [one_same] at q; cases q; exact s2 _ _ ha
        · rw [one_ne hba] at q; cases q
      · by_cases hba : b = a2
        · subst hba
          refine .inl ?_
          cases q : F1 b with
          | none => rfl
          | some o => rw [s1.sF b o q] at hn1; cases hn1
        · exact .inr (one_ne hba)
      · by_cases hba : b = a2
        · subst hba
          refine .inl ?_
          cases q : g1 i b with
          | none => rfl
          | some o => rw [s1.sG i b o q] at hn1; cases hn1
        · exact .inr (one_ne hba)
      · by_cases hba : b = a2
        · subst hba; exact s1.fr b hn1
        · exact absurd (one_ne hba) q
    · obtain ⟨s3, f3⟩ := s1.call0 f2 s2
      exact he F2 H2 g1 cls d ((f0.trans f1).trans f3) s3 ((hx.reg s1.sG).later (f0.trans f1))
end
end Y

/-! Y18: bags: a list of two ints that the asked one may change; items of own lists -/
namespace Y
open PySem PySem.Spec L2
/-- what a bag holds -/
def BagL (l : List Int) : Prop := ∃ x y : Int, l = [x, y] ∧ 0 ≤ x ∧ x < 1000000000000000000000000000000000000000000000000000000000000 ∧ 0 ≤ y ∧ y < 2147483647
def oBag (N : Addr → Prop) : Op :=
  ⟨fun _ G v => ∃ (a : Addr) (l : List Int), v = .ref a ∧ N a ∧ G = one a (.lst (l.map V.int)) ∧ BagL l, fun _ x => x⟩
theorem oBag_of {N : Addr → Prop} {F G : Hp} {v : V} {l : List Int} (hl : BagL l) (h : (oL N rI l).p F G v) : (oBag N).p F G v := by
  obtain ⟨a, vs, ev, na, eg, t⟩ := h
  have e := All2.of_map (f := V.int) (fun b a r => r) t
  exact ⟨a, l, ev, na, by rw [eg, e], hl⟩
theorem oBag_open {N : Addr → Prop} {F G : Hp} {v : V} (h : (oBag N).p F G v) : ∃ l, BagL l ∧ (oL N rI l).p F G v := by
  obtain ⟨a, l, ev, na, eg, hl⟩ := h
  exact ⟨l, hl, a, _, ev, na, eg, All2.to_map (R := fun u x => (rI x).p F u) (f := V.int) (fun b => rfl) l⟩
/-- a kind that may be said of another set of places, where they agree on what is there -/
structure Fd {α : Type} (ρ : (Addr → Prop) → α → Rp) : Prop where
  mo : ∀ N N' b F v, (∀ a, F a ≠ none → N a → N' a) → (ρ N b).p F v → (ρ N' b).p F v
theorem Fd.c {α : Type} {r : α → Rp} : Fd (fun _ => r) := ⟨fun _ _ _ _ _ _ h => h⟩
theorem Fd.N {α : Type} {ρ : (Addr → Prop) → α → Rp} (h : Fd ρ) : Fd (fun N => rN N (ρ N)) := ⟨fun N N' b F v hn ⟨a, vs, e, n, q, t⟩ => ⟨a, vs, e, hn a (by rw [q]; simp) n, q, t.imp fun _ _ z => h.mo _ _ _ _ _ hn z⟩⟩
def spB (M : Mc) {τ β : Type} (ins : τ → List Rp) (ρ : (Addr → Prop) → β → Rp) (m : τ → W β) : Sp := fun vs H Q E => ∃ (t : τ) (F G : Hp) (N : Addr → Prop) (a : Addr) (ws : List V), (∀ b, H b = none → N b) ∧ vs = .ref a :: ws ∧ Same F H ∧ Same G H ∧ Dis F G ∧ (oBag (fun _ => True)).p F G (.ref a) ∧ All2 (fun v R => R.p F v) ws (ins t) ∧
  (m t).wp (fun b => ∀ F' H' G' v, Fr F H (fun b => b = a) F' H' (fun b => b = a) → Same F' H' → Same G' H' → Dis F' G' → (oBag (fun _ => True)).p F' G' (.ref a) → (ρ N b).p F' v → Q v H') (fun _ => False)
structure BagV (M : Mc) (x : Str) (j n : Nat) {τ β : Type} (ins : τ → List Rp) (ρ : (Addr → Prop) → β → Rp) (m : τ → W β) : Prop where
  ex : ∃ f fd ps, FnOk M.P M.w M.K M.mg M.base (L2.CX M.P M.w) j f fd ps (spB M ins ρ m) ∧ M.mg x = some (.ref f) ∧ PySem.W.keepIn M.K (.ref f) = true ∧ Binds M.K fd ps []
  len : ∀ t, (ins t).length = n
/-- a state with a private object in slot 0 -/
theorem start_own {M : Mc} {N' : List Str} {n0 : Str} {sc : Scope} {k : Nat} {F H : Hp} {ws : List V} {R : List Rp} {Nf : Addr → Prop} {O : Op} {a : Addr} {o : HO} (hN : ∀ a, H a = none → Nf a) (sm : Same F H) (sg : Same (one a o) H) (dd : Dis F (one a o)) (r : All2 (fun v R => R.p F v) ws R) (ho : O.p F (one a o) (.ref a)) :
    StOk (initC M (n0 :: N') sc k Nf) F H (.own O :: Γ0 R N') (L2.start (n0 :: N') (V.ref a :: ws)) (setG (fun _ => emp) 0 (one a o)) := by
  have st0 := start_ok (M := M) (N := N') (sc := sc) (k := k) hN sm r
  have hst : L2.start (n0 :: N') (V.ref a :: ws) = some (V.ref a) :: L2.start N' ws := by
    unfold L2.start
    simp
  rw [hst]
  refine ⟨by simp [st0.len], fun i Sl q => ?_, sm, fun i b u q => ?_, fun i b => ?_, fun i j hij b => ?_, hN⟩
  · cases i with
    | zero =>
      have q' : some (Slot.own O) = some Sl := q
      cases q'
      rw [setG_same]
      exact ⟨_, rfl, ho⟩
    | succ i =>
      rw [setG_ne (Nat.succ_ne_zero i)]
      exact st0.slot i Sl q
  · by_cases hi : i = 0
    · subst hi
      rw [setG_same] at q
      exact sg b u q
    · rw [setG_ne hi] at q; cases q
  · by_cases hi : i = 0
    · subst hi
      rw [setG_same]
      exact dd b
    · rw [setG_ne hi]; exact .inr rfl
  · by_cases hi : i = 0
    · subst hi
      rw [setG_ne (fun z => hij z.symm)]
      exact .inr rfl
    · rw [setG_ne hi]; exact .inl rfl
theorem BagV.ofBody {M : Mc} {x : Str} {st : Stmt} {k n : Nat} {N ps : List Str} {τ β : Type} {ins : τ → List Rp} {ρ : (Addr → Prop) → β → Rp} {m : τ → W β} (hρ : Fd ρ) (F : FunM M x st ps) (S : FnScope N ps (defScope st))
    (hn : ps.length = n + 1) (hl : ∀ t, (ins t).length = n) (Γf : Addr → List Slot) (hΓf : ∀ a, (Γf a)[0]? = some (.own (oBag (· = a)))) (h : ∀ (fr : Addr → Prop) (ba : Addr) (t : τ), fr ba → Ex (initC M N (defScope st) k fr) (.own (oBag (· = ba)) :: Γ0 (ins t) N.tail) (defBody st) (fun b => .rtG (ρ fr b) (Γf ba)) (m t)) : BagV M x (k + 1) n ins ρ m := by
  obtain ⟨f, fd, F, hmg, hb⟩ := F
  refine ⟨⟨f, fd, ps, F.okX S (fun vs H Q E hsp => ?_) (fun cdv A' outer s H vs Q E hr hsp => ?_), hmg, F.kp, hb⟩, hl⟩
  · obtain ⟨t, F', G, Nf, a, ws, _, e, _, _, _, _, r, _⟩ := hsp
    rw [e, List.length_cons, r.length, hl, hn]
  · obtain ⟨t, F', G, Nf, a, ws, hNf, e, sm, sg, dd, hB, r, w⟩ := hsp
    subst e
    refine ⟨_, pss_W, ?_⟩
    have hNne : N ≠ [] := fun z => by
      have := S.pre
      rw [z] at this
      have h0 : ps.length = 0 := by rw [← this]; simp
      omega
    obtain ⟨n0, N', eN⟩ := List.exists_cons_of_ne_nil hNne
    subst eN
    obtain ⟨a2, l, ea, _, eg, hl0⟩ := hB
    cases ea
    subst eg
    have hHa : H a = some (.lst (l.map V.int)) := sg a _ one_same
    have s0 := start_own (M := M) (N' := N') (n0 := n0) (sc := defScope st) (k := k) (Nf := fun b => Nf b ∨ b = a) (O := oBag (· = a)) (a := a) (o := .lst (l.map V.int)) (fun b z => .inl (hNf b z)) sm sg dd r ⟨a, l, rfl, rfl, rfl, hl0⟩
    have hU : ∀ b, dU (setG (fun _ => emp) 0 (one a (.lst (l.map V.int)))) b → b = a := fun b ⟨i, q⟩ => by
      by_cases hi : i = 0
      · subst hi
        rw [setG_same] at q
        by_cases z : b = a
        · exact z
        · exact absurd (one_ne z) q
      · rw [setG_ne hi] at q; exact absurd rfl q
    refine h (fun b => Nf b ∨ b = a) a t (.inr rfl) (cxOf (L2.CX M.P M.w) M.P M.w M.K M.mg M.base (n0 :: N') x (defScope st) f cdv A' outer s H E) (fun cls d _ H => E cls d H) ⟨⟨rfl, rfl, rfl, rfl, rfl, rfl, rfl, S.nd, rfl, fun _ => hr, hr.units, fun _ _ _ h => (nomatch h), fun _ _ => rfl⟩, passes_of rfl, rfl, rfl⟩ (takes_of rfl rfl rfl rfl) F' H _ _ s0 _ ((m t).mono (fun y hy => ?_) (fun e he => he.elim) w)
    intro F2 H2 g2 σ2 v f2 s2 r2
    obtain ⟨v2, eσ, a3, l3, ev3, ea3, eg3, hl3⟩ := s2.get_own (hΓf a)
    have ea3' : a3 = a := ea3
    rw [ea3'] at eg3
    have d2 : Dis F2 (g2 0) := s2.dF 0
    have hF2 : F2 a = none := by
      rcases d2 a with q | q
      · exact q
      · rw [eg3, one_same] at q; cases q
    refine hy F2 H2 (g2 0) v ⟨f2.sF, fun b z => (f2.fF b z).imp_right fun q => q.imp_right (hU b), fun b o q n => f2.keep b o q fun z => n (hU b z), f2.dom, fun b z => .inl z⟩ s2.sF (s2.sG 0) d2 ⟨a, l3, rfl, trivial, eg3, hl3⟩ (hρ.mo _ _ _ _ _ (fun b hb q => ?_) r2)
    rcases q with q | q
    · exact q
    · rw [q] at hb; exact absurd hF2 hb
section
variable {C : Cc} {Γ Γ' : List Slot} {α β γ δ ε ω : Type} {J : ω → Out} {e e1 e2 e3 : Expr} {pos p p2 : Pos} {rest : List Stmt} {x : Str} {j : Nat}
/-- behind a call that may change a bag -/
theorem StOk.callB {F H F' H' G' : Hp} {σ : St} {g : Nat → Hp} {i : Nat} {a : Addr} {o : HO} {l' : List Int} {N : Addr → Prop} (s : StOk C F H Γ σ g) (hi : Γ[i]? = some (.own (oBag N))) (hσ : σ[i]? = some (some (.ref a))) (hg : g i = one a o) (na : N a) (hl : BagL l')
    (f : Fr F H (fun b => b = a) F' H' (fun b => b = a)) (sF' : Same F' H') (sG' : Same G' H') (d' : Dis F' G') (eg : G' = one a (.lst (l'.map V.int))) : StOk C F' H' Γ σ (setG g i G') ∧ Fr F H (dU g) F' H' (dU (setG g i G')) := by
  have hga : g i a = some o := by rw [hg]; exact one_same
  have hgj : ∀ j, j ≠ i → g j a = none := fun j hj => by
    rcases s.dG j i hj a with q | q
    · exact q
    · rw [hga] at q; cases q
  have hlt := (List.getElem?_eq_some_iff.mp hi).1
  refine ⟨⟨s.len, fun j S q => ?_, sF', fun j => ?_, fun j => ?_, fun j k hjk => ?_, fun b q => ?_⟩, ⟨f.sF, fun b z => (f.fF b z).imp_right fun q => q.imp_right fun q => ⟨i, by rw [q, hga]; simp⟩, fun b o q n => f.keep b o q fun z => n ⟨i, by rw [z, hga]; simp⟩, f.dom, fun b z => ?_⟩⟩
  · by_cases hj : i = j
    · subst hj
      rw [hi] at q
      cases q
      rw [setG_same]
      exact ⟨.ref a, hσ, a, l', rfl, na, eg, hl⟩
    · rw [setG_ne (fun z => hj z.symm)]
      exact (s.slot j S q).mono f.sF
  · by_cases hj : j = i
    · subst hj; rw [setG_same]; exact sG'
    · rw [setG_ne hj]
      intro b u q
      exact f.keep b u (s.sG j b u q) fun z => by rw [z, hgj j hj] at q; cases q
  · by_cases hj : j = i
    · subst hj; rw [setG_same]; exact d'
    · rw [setG_ne hj]
      intro b
      cases q : g j b with
      | none => exact .inr rfl
      | some u =>
        refine .inl ?_
        cases q2 : F' b with
        | none => rfl
        | some w =>
          have hH := s.sG j b u q
          rcases f.fF b (by rw [q2]; simp) with z | z | z
          · rcases s.dF j b with y | y
            · exact absurd y z
            · rw [q] at y; cases y
          · rw [hH] at z; cases z
          · rw [z, hgj j hj] at q; cases q
  · by_cases hj : j = i
    · subst hj
      rw [setG_same, setG_ne (fun z => hjk z.symm)]
      intro b
      by_cases z : b = a
      · subst z; exact .inr (hgj k (fun z => hjk z.symm))
      · exact .inl (by rw [eg]; exact one_ne z)
    · rw [setG_ne hj]
      by_cases hk : k = i
      · subst hk
        rw [setG_same]
        intro b
        by_cases z : b = a
        · subst z; exact .inl (hgj j hj)
        · exact .inr (by rw [eg]; exact one_ne z)
      · rw [setG_ne hk]; exact s.dG j k hjk
  · refine s.fr b ?_
    cases q2 : H b with
    | none => rfl
    | some u => exact absurd q (f.dom b (by rw [q2]; simp))
  · obtain ⟨j, z⟩ := z
    by_cases hj : j = i
    · subst hj
      rw [setG_same, eg] at z
      by_cases y : b = a
      · exact .inl ⟨j, by rw [y, hga]; simp⟩
      · exact absurd (one_ne y) z
    · rw [setG_ne hj] at z
      exact .inl ⟨j, z⟩
theorem Ev.callB {i n : Nat} {y : Str} {es : List Expr} {τ : Type} {N : Addr → Prop} {ins : τ → List Rp} {ρ : (Addr → Prop) → β → Rp} {mf : τ → W β} {mt : W τ} (hf : BagV C.toMc x j n ins ρ mf) (hj : j ≤ C.k) (hg : C.sc.names.lookup x = some .globalImplicit) (hN : C.N[i]? = some y) (hv : visB C.sc y = true) (hΓ : Γ[i]? = some (.own (oBag N))) (ha : EvA C Γ es ins mt)
    (hdy : (y == ("__debug__" : Str) || y == ("__classdict__" : Str)) = false) (hd : (x == ("__debug__" : Str)) = false := by decide) (hcm : C.cm = true := by rfl) : Ev C Γ (.Call (.Name x p) (.Name y p2 :: es) [] pos) (ρ C.fr) (do let t ← mt; W.noX (mf t)) :=
  fun X Wx ok tk F H g σ s Q hm => by
    obtain ⟨⟨f, fd, ps, hF, hmg, hk, hb⟩, hl⟩ := hf
    have e1 := ok.prog
    have e2 := ok.w
    have e3 := ok.K
    have e4 := ok.mg
    have e5 := ok.base
    rw [Bool.or_eq_false_iff] at hdy
    have hns : NoStar (.Name y p2) := fun _ _ => rfl
    refine WE.of (pe_callS (E := fun σ => L2.WE Wx σ) (by rw [e1, e2, e3, e4, e5]; exact hF) ((ok.room hcm).mono hj) (show X.env.scope.names.lookup x = _ by rw [ok.sc]; exact hg) (by rw [e4]; exact hmg) (by rw [e3]; exact hk) (by rw [e3]; exact hb) (fun σ => by
      have := passAt tk σ
      rw [e1, e2] at this
      exact this) (pa_cons (pe_var (i := i) (by rw [ok.N]; exact hN) (by rw [ok.sc]; exact visOf hv) hdy.1 hdy.2) (pa_W (es := es)) (hns es X.env)) hd (hns es X.env) (ha.1 X pos)) ?_
    obtain ⟨v0, eσ, a, l, ev, na, eg, hl0⟩ := s.get_own hΓ
    subst ev
    refine ⟨.ref a, eσ, ?_⟩
    refine ha.2 X Wx ok tk F H g σ s _ (mt.mono (fun t ht F1 H1 g1 vs f1 s1 r1 => ?_) (fun e he => he) hm)
    obtain ⟨v1, eσ1, a1, l1, ev1, na1, eg1, hl1⟩ := s1.get_own hΓ
    rw [eσ] at eσ1
    cases eσ1
    cases ev1
    refine ⟨t, F1, g1 i, C.fr, a, vs, s1.fr, rfl, s1.sF, s1.sG i, s1.dF i, ⟨a, l1, rfl, trivial, eg1, hl1⟩, r1, (mf t).mono (fun b hb F2 H2 G2 v f2 s2 sg2 d2 hB r2 => ?_) (fun e he => he) (show (mf t).wp _ (fun _ => False) from ht)⟩
    · obtain ⟨a2, l2, ea2, _, eg2, hl2⟩ := hB
      cases ea2
      obtain ⟨s3, f3⟩ := s1.callB hΓ eσ eg1 na hl2 f2 s2 sg2 d2 eg2
      exact hb F2 H2 _ v (f1.trans f3) s3 r2
/-- in short -/
theorem Ev.callG0 {i : Nat} {y : Str} {N : Addr → Prop} {ρ : (Addr → Prop) → β → Rp} {mf : Unit → W β} (hf : BagV C.toMc x j 0 (fun _ => []) ρ mf) (hj : j ≤ C.k) (hg : C.sc.names.lookup x = some .globalImplicit) (hN : C.N[i]? = some y) (hv : visB C.sc y = true) (hΓ : Γ[i]? = some (.own (oBag N)))
    (hdy : (y == ("__debug__" : Str) || y == ("__classdict__" : Str)) = false) (hd : (x == ("__debug__" : Str)) = false := by decide) (hcm : C.cm = true := by rfl) : Ev C Γ (.Call (.Name x p) [.Name y p2] [] pos) (ρ C.fr) (W.noX (mf ())) := by
  have q := Ev.callB (p := p) (p2 := p2) (pos := pos) hf hj hg hN hv hΓ EvA.nil hdy hd hcm
  exact q
theorem Ev.callG1 {i : Nat} {y : Str} {N : Addr → Prop} {ra : α → Rp} {ρ : (Addr → Prop) → β → Rp} {m1 : W α} {mf : α × Unit → W β} (hf : BagV C.toMc x j 1 (fun t => [ra t.1]) ρ mf) (hj : j ≤ C.k) (hg : C.sc.names.lookup x = some .globalImplicit) (hN : C.N[i]? = some y) (hv : visB C.sc y = true) (hΓ : Γ[i]? = some (.own (oBag N))) (h1 : Ev C Γ e1 ra m1) (n1 : NoStar e1)
    (hdy : (y == ("__debug__" : Str) || y == ("__classdict__" : Str)) = false) (hd : (x == ("__debug__" : Str)) = false := by decide) (hcm : C.cm = true := by rfl) : Ev C Γ (.Call (.Name x p) [.Name y p2, e1] [] pos) (ρ C.fr) (do let a ← m1; W.noX (mf (a, ()))) := by
  have q := Ev.callB (p := p) (p2 := p2) (pos := pos) hf hj hg hN hv hΓ (EvA.cons h1 EvA.nil n1) hdy hd hcm
  exact q
theorem Ev.callG2 {i : Nat} {y : Str} {N : Addr → Prop} {ra : α → Rp} {rb : γ → Rp} {ρ : (Addr → Prop) → β → Rp} {m1 : W α} {m2 : W γ} {mf : α × γ × Unit → W β} (hf : BagV C.toMc x j 2 (fun t => [ra t.1, rb t.2.1]) ρ mf) (hj : j ≤ C.k) (hg : C.sc.names.lookup x = some .globalImplicit) (hN : C.N[i]? = some y) (hv : visB C.sc y = true) (hΓ : Γ[i]? = some (.own (oBag N))) (h1 : Ev C Γ e1 ra m1) (h2 : Ev C Γ e2 rb m2) (n1 : NoStar e1) (n2 : NoStar e2)
    (hdy : (y == ("__debug__" : Str) || y == ("__classdict__" : Str)) = false) (hd : (x == ("__debug__" : Str)) = false := by decide) (hcm : C.cm = true := by rfl) : Ev C Γ (.Call (.Name x p) [.Name y p2, e1, e2] [] pos) (ρ C.fr) (do let a ← m1; let b ← m2; W.noX (mf (a, b, ()))) := by
  have q := Ev.callB (p := p) (p2 := p2) (pos := pos) hf hj hg hN hv hΓ (EvA.cons h1 (EvA.cons h2 EvA.nil n2) n1) hdy hd hcm
  exact q
/-- a new bag -/
theorem EvO.bag {m : W (List Int)} (h : EvO C Γ e (oL C.fr rI) m) : EvO C Γ e (fun _ : Unit => oBag C.fr) (do let l ← m; W.req (BagL l) (pure ())) :=
  fun X Wx ok tk F H g σ s Q hm => h X Wx ok tk F H g σ s Q (m.mono (fun l hl F' H' g' G v f s1 sG d dG nG r => by
    obtain ⟨hb, hl⟩ := hl
    exact hl F' H' g' G v f s1 sG d dG nG (oBag_of hb r)) (fun _ z => z) hm)
/-- a bag's content -/
theorem Ex.openBag {i : Nat} {N : Addr → Prop} {sts : List Stmt} {k : List Int → W ω} (hΓ : Γ[i]? = some (.own (oBag N))) (h : ∀ l, Ex C (Γ.set i (.own (oL N rI l))) sts J (k l)) : Ex C Γ sts J (W.any BagL >>= k) :=
  fun X Wx ok tk F H g σ s D hm => by
    obtain ⟨v, eσ, r⟩ := s.get_own hΓ
    obtain ⟨l, hl, r2⟩ := oBag_open r
    refine h l X Wx ok tk F H g σ ⟨by simp [s.len], fun q S e => ?_, s.sF, s.sG, s.dF, s.dG, s.fr⟩ D (hm l hl)
    by_cases hq : i = q
    · subst hq
      rw [List.getElem?_set_self (List.getElem?_eq_some_iff.mp hΓ).1] at e
      cases e
      exact ⟨v, eσ, r2⟩
    · rw [List.getElem?_set_ne hq] at e
      exact s.slot q S e
theorem Ex.retB {i : Nat} {N : Addr → Prop} {l : List Int} {ρ : α → Rp} {m : W α} (f : α → ω) (hΓ : Γ[i]? = some (.own (oL N rI l))) (hJ : ∀ a, J (f a) = .rtG (ρ a) Γ') (hs : All2 Le1 (Γ.set i (.own (oBag N))) Γ') (h : Ev C Γ e ρ m) : Ex C Γ (.Return (some e) pos :: rest) J (do let a ← m; W.req (BagL l) (pure (f a))) :=
  Ex.cons fun X Wx ok tk F H g σ s D hm => W1.of (ps_ret (pe_W (e := e))) (h X Wx ok.toOk tk F H g σ s _ (m.mono (fun a ha F1 H1 g1 v f1 s1 r1 => by
    obtain ⟨hb, ha⟩ := ha
    replace ha : OutOk C D F H (dU g) (J (f a)) := ha
    rw [hJ] at ha
    have s2 : StOk C F1 H1 (Γ.set i (.own (oBag N))) σ g1 := by
      refine ⟨by simp [s1.len], fun q S e => ?_, s1.sF, s1.sG, s1.dF, s1.dG, s1.fr⟩
      by_cases hq : i = q
      · subst hq
        rw [List.getElem?_set_self (List.getElem?_eq_some_iff.mp hΓ).1] at e
        cases e
        obtain ⟨v, eσ, r⟩ := s1.get_own hΓ
        exact ⟨v, eσ, oBag_of hb r⟩
      · rw [List.getElem?_set_ne hq] at e
        exact s1.slot q S e
    exact ha F1 H1 g1 σ v f1 (s2.weak (Sub.of hs)) r1) (fun e he => he.ex) hm))
/-- xs[i] = e, the list at any place -/
theorem Ex.setIxN {i : Nat} {N : Addr → Prop} {px spos : Pos} {r : α → Rp} {xs : List α} {m : W α} {mi : W Int} {ix : Expr} {k : List α → W ω} (hN : C.N[i]? = some x) (hv : visB C.sc x = true) (hΓ : Γ[i]? = some (.own (oL N r xs))) (h : Ev C Γ e r m) (hi : Ev C Γ ix rI mi) (hr : ∀ ys, Ex C (Γ.set i (.own (oL N r ys))) rest J (k ys))
    (hd : (x == ("__debug__" : Str)) = false := by decide) (hcd : (x == ("__classdict__" : Str)) = false := by decide) (hs : ∀ X : Cx, swapsWithSole [.Subscript (.Name x px) ix spos] e pos.line X.env = pure false := by intro _; rfl)
    (hw : ∀ X : Cx, swappedStores [.Subscript (.Name x px) ix spos] e X.env = pure none := by intro _; rfl) (h1 : ∀ X : Cx, (assignEach [.Subscript (.Name x px) ix spos] X.env).map (·.2) = [assign (.Subscript (.Name x px) ix spos) X.env] := by intro _; rfl)
    (hpg : ∀ X : Cx, PE X (.Name x px) (tVar i) → PG X (.Subscript (.Name x px) ix spos) (gSub (tVar i) (WE X ix) rSetL)) :
    Ex C Γ (.Assign [.Subscript (.Name x px) ix spos] e pos :: rest) J (do let a ← m; let j ← mi; let ys ← setI xs j a; k ys) :=
  Ex.cons fun X Wx ok tk F H g σ s D hm => by
    refine W1.of (ps_asg (pe_W (e := e)) (hpg X (pe_var (i := i) (by rw [ok.N]; exact hN) (by rw [ok.sc]; exact visOf hv) hd hcd)) (hs X) (hw X) (h1 X)) ?_
    refine h X Wx ok.toOk tk F H g σ s _ (m.mono (fun y hy F1 H1 g1 w f1 s1 r1 => ?_) (fun e he => he.ex) hm)
    obtain ⟨v, eσ, a, vs, ev, na, eg, t⟩ := s1.get_own hΓ
    subst ev
    refine ⟨.ref a, eσ, ?_⟩
    refine hi X Wx ok.toOk tk F1 H1 g1 σ s1 _ (mi.mono (fun j hj F2 H2 g2 u f2 s2 r2 => ?_) (fun e he => (he.later f1).ex) hy)
    obtain ⟨v', eσ', a', vs', ev', na', eg', t'⟩ := s2.get_own hΓ
    rw [eσ] at eσ'
    cases eσ'
    cases ev'
    replace hj : (W.bind (setI xs j y) k).wp _ _ := hj
    unfold setI at hj
    cases q : ixN xs.length j with
    | none => rw [q] at hj; exact hj.elim
    | some n =>
      rw [q] at hj
      obtain ⟨s3, f3, hH2⟩ := s2.upd_own (O' := oL N r (xs.set n y)) (o' := .lst (vs'.set n w)) eg' eσ (List.getElem?_eq_some_iff.mp hΓ).1 ⟨a, vs'.set n w, rfl, na', rfl, t'.set ((r y).mono f2.sF r1) n⟩
      exact ⟨a, vs', j, n, rfl, r2, hH2, by rw [t'.length]; exact q, (hr _).later ok tk (f1.trans (f2.trans f3)) s3 hj⟩
/-- an item of an own list -/
theorem Ev.ixOwn {i : Nat} {N : Addr → Prop} {px spos : Pos} {r : α → Rp} {xs : List α} {ix : Expr} {mi : W Int} (hN : C.N[i]? = some x) (hv : visB C.sc x = true) (hΓ : Γ[i]? = some (.own (oL N r xs))) (hi : Ev C Γ ix rI mi) (hd : (x == ("__debug__" : Str) || x == ("__classdict__" : Str)) = false) (hp : PlainIx ix := by intro _ _; rfl) :
    Ev C Γ (.Subscript (.Name x px) ix spos) r (do let i ← mi; idx xs i) :=
  fun X Wx ok tk F H g σ s Q hm => by
    rw [Bool.or_eq_false_iff] at hd
    refine WE.of (pe_ix ix_list (pe_var (i := i) (by rw [ok.N]; exact hN) (by rw [ok.sc]; exact visOf hv) hd.1 hd.2) (pe_W (e := ix)) hp) ?_
    obtain ⟨v, eσ, a, vs, ev, na, eg, t⟩ := s.get_own hΓ
    subst ev
    refine ⟨.ref a, eσ, ?_⟩
    refine hi X Wx ok tk F H g σ s _ (mi.mono (fun j hj F2 H2 g2 w f2 s2 r2 => ?_) (fun e he => he) hm)
    obtain ⟨v', eσ', a', vs', ev', na', eg', t'⟩ := s2.get_own hΓ
    rw [eσ] at eσ'
    cases eσ'
    cases ev'
    replace hj : (idx xs j).wp _ _ := hj
    unfold idx at hj
    cases hx : L2.atI xs j with
    | none => rw [hx] at hj; exact hj.elim
    | some y =>
      rw [hx] at hj
      obtain ⟨u, hu, ru⟩ := t'.atI hx
      exact ⟨a, vs', j, u, rfl, r2, SqL.of (s2.sG i a _ (by rw [eg']; exact one_same)), hu, hj F2 H2 g2 u f2 s2 ru⟩
end
end Y

/-! Y19: what may be None, dicts of ints, sorted -/
namespace Y
open PySem PySem.Spec L2
section
variable {α β : Type}
theorem All2.zipL {R : α → β → Prop} : ∀ {as : List α} {bs : List β}, All2 R as bs → ∀ p ∈ as.zip bs, R p.1 p.2
  | _, _, .nil, p, h => by simp at h
  | _, _, .cons r t, p, h => by
    rcases List.mem_cons.mp h with q | q
    · rw [q]; exact r
    · exact All2.zipL t p q
theorem All2.ofMem {γ : Type} {R : α → β → Prop} (f : γ → α) (k : γ → β) : ∀ (zs : List γ), (∀ z ∈ zs, R (f z) (k z)) → All2 R (zs.map f) (zs.map k)
  | [], _ => .nil
  | z :: zs, h => .cons (h z (by simp)) (All2.ofMem f k zs fun y hy => h y (by simp [hy]))
theorem All2.zipFst {R : α → β → Prop} {as : List α} {bs : List β} (h : All2 R as bs) : (as.zip bs).map Prod.fst = as := List.map_fst_zip (by rw [h.length]; exact Nat.le_refl _)
theorem All2.zipSnd {R : α → β → Prop} {as : List α} {bs : List β} (h : All2 R as bs) : (as.zip bs).map Prod.snd = bs := List.map_snd_zip (by rw [h.length]; exact Nat.le_refl _)
end
/-! ### sorted(lists of ints) -/
abbrev leR (p q : List Int) : Bool := decide (p ≤ q)
def rSortedR (K : PySem.W.Frag) : List V → Hp → VK → Prop := fun vs H Q => ∃ (a : Addr) (xs : List V) (ns : List (List Int)), vs = [V.ref a] ∧ SqL K H a xs ∧ All2 (fun u n => ∃ b, u = V.ref b ∧ SqL K H b (n.map V.int)) xs ns ∧
  ∀ (zs : List (V × List Int)) (p : Addr), (∀ z ∈ zs, z ∈ xs.zip ns) → zs.map Prod.snd = ns.mergeSort leR → H p = none → Q (.ref p) (upd H p (.lst (zs.map Prod.fst)))
theorem eachOf {X : Cx} {pins : List (Addr × Obj)} {σ : St} {H : Hp} {s : Shared} (I : Inv X pins σ H s) : ∀ {xs : List V} {ns : List (List Int)} {us : List Value}, All2 (fun u n => ∃ b, u = V.ref b ∧ SqL X.K H b (n.map V.int)) xs ns → Vals xs us →
    PySem.W.EachIs (fun v (b : V × List Int) => RelV b.1 v) us (xs.zip ns) ∧ PySem.W.EachIs (fun v (b : V × List Int) => ∃ as, Reads s.heap v (.list (b.2.map .int)) as) us (xs.zip ns)
  | _, _, _, .nil, r => by cases r; exact ⟨.nil, .nil⟩
  | _, _, _, .cons h t, r => by
    cases r with
    | cons r1 r2 =>
      obtain ⟨e1, e2⟩ := eachOf I t r2
      refine ⟨.cons r1 e1, .cons ?_ e2⟩
      obtain ⟨b, eb, hs⟩ := h
      subst eb
      refine Dp.reads I _ _ _ (Dp.lst hs ?_) r1
      have hints : ∀ n : List Int, DpAll X.K H (n.map V.int) (n.map PyData.int) := fun n => by
        induction n with
        | nil => exact .nil
        | cons x n ih => exact .cons (.int x) ih
      exact hints _
theorem valsOf {zs : List (V × List Int)} {out : List Value} (h : PySem.W.EachIs (fun v (b : V × List Int) => RelV b.1 v) out zs) : Vals (zs.map Prod.fst) out := by
  induction h with
  | nil => exact .nil
  | cons r _ ih => exact .cons r ih
theorem depth_row (n : List Int) : (PyData.list (n.map .int)).depth ≤ 1 := by
  rw [PyData.depth, PySem.W.depth_ints]
  decide
theorem cr_sortedR {X : Cx} (hu : X.A.units + 64 < cLine) : CallR X (.builtin "sorted") (rSortedR X.K) := by
  intro pins s σ H vs us Q I r h
  obtain ⟨a, xs, ns, rfl, hs, t, q⟩ := h
  obtain ⟨its, rv, hl, hz⟩ := I.list hs
  rw [Vals.ref1 r]
  obtain ⟨e1, e2⟩ := eachOf I t rv
  have hlen : (xs.zip ns).length = xs.length := by rw [List.length_zip, t.length, Nat.min_self]
  refine PySem.W.sorted_data (vs := its) (bs := xs.zip ns) (enc := fun b => .list (b.2.map .int)) (R := fun v b => RelV b.1 v) hl.isList e1 e2 (PySem.W.AllAlike.of fun b b' => by
    show PySem.W.alike (.list _) (.list _) = true
    rw [PySem.W.alike]
    exact PySem.W.alike_ints _ _) (PySem.W.Sortable.others fun b => ⟨(by simp), fun ys => by simp⟩) (by rw [hlen]; exact hz) (fun b _ => by have := depth_row b.2; omega) (fun out ho hE => ?_)
  rw [PySem.W.dataLe_rows (fun b : V × List Int => b.2)] at hE
  obtain ⟨ep, he'⟩ := PyProof.Rows.sortedAll_at s.heap its out.toArray
  have hv := valsOf hE
  have hl2 : (((xs.zip ns).mergeSort fun p q => decide (p.2 ≤ q.2)).map Prod.fst).length ≤ sizeLine := by rw [List.length_map, List.length_mergeSort, hlen]; exact hz
  refine ⟨.ref _, upd H (s.heap.objs.size + 1) (.lst (((xs.zip ns).mergeSort fun p q => decide (p.2 ≤ q.2)).map Prod.fst)), I.laid (t' := s.toks) (fun _ _ => PyProof.Rows.sortedAll_old) (Nat.le_succ _) ⟨hl2, out, ep, hv, he'⟩, rfl, q _ _ (fun z hz => (List.mergeSort_perm _ _).mem_iff.mp hz) ?_ (I.hok.fresh (Nat.le_succ _))⟩
  rw [List.map_mergeSort (s := leR) (fun _ _ _ _ => rfl), t.zipSnd]
section
variable {C : Cc} {Γ Γ' : List Slot} {α β γ δ ε ω : Type} {J : ω → Out} {e e1 e2 e3 : Expr} {pos p p2 spos : Pos} {rest : List Stmt} {x : Str}
theorem EvO.sortR {r : List Int → Rp} {m : W (List (List Int))} (hr : SubK r (rL C.K rI)) (hb : Blt C "sorted" (.builtin "sorted")) (ha : Ev C Γ e (rL C.K r) m) (hn : NoStar e) : EvO C Γ (.Call (.Name "sorted" p) [e] [] pos) (oL C.fr r) (do let xs ← m; pure (xs.mergeSort leR)) :=
  fun X Wx ok tk F H g σ s Q hm => by
    refine WE.of (pe_callB (cr_sortedR ok.units) (hb.gl ok) (by rw [ok.mg]; exact hb.m) hb.v (pa_cons (pe_W (e := e)) pa_nil (hn [] X.env)) hb.n hb.d (hn [] X.env) rfl) ?_
    refine ha X Wx ok tk F H g σ s _ (m.mono (fun xs hx F1 H1 g1 v f1 s1 r1 => ?_) (fun e he => he) hm)
    obtain ⟨q, vs, ev, hq, t⟩ := r1
    refine ⟨q, vs, xs, by rw [ev], by rw [ok.K]; exact s1.sF.seq hq, t.imp fun u n z => ?_, fun zs l h1 h2 hl => EvO.fin (O := oL C.fr r (xs.mergeSort leR)) f1 s1 hl (fun n => ⟨l, _, rfl, n, rfl, ?_⟩) hx⟩
    · obtain ⟨b, us, eb, hb2, t2⟩ := (hr _ _ _ z)
      exact ⟨b, eb, by rw [ok.K, ← t2.ints]; exact s1.sF.seq hb2⟩
    · rw [← h2]
      exact All2.ofMem Prod.fst Prod.snd zs fun z hz => t.zipL z (h1 z hz)
/-- sorted(ints) -/
def Srt (xs ys : List Int) : Prop := ys.Perm xs ∧ ys.Pairwise (· ≤ ·)
theorem EvO.sortI {m : W (List Int)} (hb : Blt C "sorted" (.builtin "sorted")) (ha : Ev C Γ e (rL C.K rI) m) (hn : NoStar e) : EvO C Γ (.Call (.Name "sorted" p) [e] [] pos) (oL C.fr rI) (do let xs ← m; W.req (xs.length < 64) (W.any (Srt xs))) :=
  fun X Wx ok tk F H g σ s Q hm => by
    refine WE.of (pe_callB cr_sorted (hb.gl ok) (by rw [ok.mg]; exact hb.m) hb.v (pa_cons (pe_W (e := e)) pa_nil (hn [] X.env)) hb.n hb.d (hn [] X.env) rfl) ?_
    refine ha X Wx ok tk F H g σ s _ (m.mono (fun xs hx F1 H1 g1 v f1 s1 r1 => ?_) (fun e he => he) hm)
    obtain ⟨q, vs, ev, hq, t⟩ := r1
    obtain ⟨h64, hx⟩ := hx
    exact ⟨q, xs, by rw [ev], by rw [ok.K, ← t.ints]; exact s1.sF.seq hq, h64, fun ys l h1 h2 hl => EvO.fin (O := oL C.fr rI ys) f1 s1 hl (fun n => ⟨l, _, rfl, n, rfl, All2.to_map (R := fun u x => (rI x).p F1 u) (f := V.int) (fun b => rfl) ys⟩) (hx ys ⟨h1, h2⟩)⟩
/-! ### what may be None, taken as it is -/
def optG (o : Option α) : W α := match o with
  | some x => pure x
  | none => W.bad
theorem Ev.unO {r : α → Rp} {m : W (Option α)} (h : Ev C Γ e (rO r) m) : Ev C Γ e r (do let o ← m; optG o) :=
  fun X Wx ok tk F H g σ s Q hm => h X Wx ok tk F H g σ s Q (m.mono (fun o ho F1 H1 g1 v f1 s1 r1 => by
    cases o with
    | none => exact ho.elim
    | some x => exact ho F1 H1 g1 v f1 s1 r1) (fun _ z => z) hm)
/-! ### dicts whose keys are ints -/
def kvI (vs : List (Int × V)) : List (Key × V) := vs.map fun q => (.inl q.1, q.2)
def oDI (N : Addr → Prop) (r : α → Rp) (kvs : List (Int × α)) : Op :=
  ⟨fun F G v => ∃ (a : Addr) (vs : List (Int × V)), v = .ref a ∧ N a ∧ G = one a (.dK (kvI vs)) ∧ All2 (fun (q : Int × V) (p : Int × α) => q.1 = p.1 ∧ (r p.2).p F q.2) vs kvs, fun h ⟨a, vs, e, n, q, t⟩ => ⟨a, vs, e, n, q, t.imp fun _ _ z => ⟨z.1, (r _).mono h z.2⟩⟩⟩
def rDI (N : Addr → Prop) (r : α → Rp) (kvs : List (Int × α)) : Rp :=
  ⟨fun F v => ∃ (a : Addr) (vs : List (Int × V)), v = .ref a ∧ N a ∧ F a = some (.dK (kvI vs)) ∧ All2 (fun (q : Int × V) (p : Int × α) => q.1 = p.1 ∧ (r p.2).p F q.2) vs kvs, fun h ⟨a, vs, e, n, q, t⟩ => ⟨a, vs, e, n, h _ _ q, t.imp fun _ _ z => ⟨z.1, (r _).mono h z.2⟩⟩⟩
theorem oDI_rDI {N : Addr → Prop} {r : α → Rp} {xs : List (Int × α)} {F G : Hp} {v : V} (d : Dis F G) (h : (oDI N r xs).p F G v) : (rDI N r xs).p (uni F G) v := by
  obtain ⟨a, vs, e, n, q, t⟩ := h
  refine ⟨a, vs, e, n, ?_, t.imp fun _ _ z => ⟨z.1, (r _).mono uni_l z.2⟩⟩
  subst q
  exact uni_r d a _ one_same
def putI (kvs : List (Int × α)) (k : Int) (x : α) : List (Int × α) := if (kvs.any fun p => decide (p.1 = k)) = true then kvs.map (fun p => if p.1 = k then (k, x) else p) else kvs ++ [(k, x)]
def getI (kvs : List (Int × α)) (k : Int) : Option α := (kvs.find? fun p => decide (p.1 = k)).map (·.2)
theorem kvI_put {vs : List (Int × V)} {k : Int} {u : V} : putK (kvI vs) (.inl k) u = kvI (putI vs k u) := by
  unfold putK putI
  have h1 : ((kvI vs).any fun kv => decide (kv.1 = (Sum.inl k : Key))) = vs.any fun p => decide (p.1 = k) := by
    unfold kvI
    rw [List.any_map]
    congr 1
    funext q
    simp [Function.comp]
  rw [h1]
  split
  · unfold kvI
    rw [List.map_map, List.map_map]
    refine List.map_congr_left fun q _ => ?_
    simp only [Function.comp]
    by_cases h : q.1 = k
    · simp [h]
    · rw [if_neg h, if_neg (fun z => h (Sum.inl.inj z))]
  · unfold kvI
    simp
theorem kvI_get {F : Hp} {r : α → Rp} {vs : List (Int × V)} {kvs : List (Int × α)} (t : All2 (fun (q : Int × V) (p : Int × α) => q.1 = p.1 ∧ (r p.2).p F q.2) vs kvs) {k : Int} {y : α} (h : getI kvs k = some y) : ∃ u, valV (kvI vs) (.inl k) = some u ∧ (r y).p F u := by
  induction t with
  | nil => cases h
  | @cons a b as bs q t ih =>
    unfold getI at h ih
    unfold valV kvI at ih ⊢
    rw [List.map_cons, List.find?_cons]
    rw [List.find?_cons] at h
    by_cases e : b.1 = k
    · have e2 : a.1 = k := q.1.trans e
      simp only [e, decide_true, Option.map_some, Option.some.injEq] at h
      simp only [e2, decide_true, Option.map_some]
      exact ⟨_, rfl, by rw [← h]; exact q.2⟩
    · have e2 : ¬ a.1 = k := fun z => e (q.1.symm.trans z)
      have e3 : ¬ (Sum.inl a.1 : Key) = Sum.inl k := fun z => e2 (Sum.inl.inj z)
      simp only [decide_eq_false e] at h
      simp only [decide_eq_false e3]
      exact ih h
theorem All2.put {F : Hp} {r : α → Rp} {vs : List (Int × V)} {kvs : List (Int × α)} (t : All2 (fun (q : Int × V) (p : Int × α) => q.1 = p.1 ∧ (r p.2).p F q.2) vs kvs) {k : Int} {y : α} {u : V} (h : (r y).p F u) : All2 (fun (q : Int × V) (p : Int × α) => q.1 = p.1 ∧ (r p.2).p F q.2) (putI vs k u) (putI kvs k y) := by
  have e : (vs.any fun p => decide (p.1 = k)) = kvs.any fun p => decide (p.1 = k) := by
    induction t with
    | nil => rfl
    | cons q t ih => rw [List.any_cons, List.any_cons, ih, q.1]
  unfold putI
  rw [e]
  split
  · clear e
    rename_i e
    clear e
    induction t with
    | nil => exact .nil
    | @cons a b as bs q t ih =>
      rw [List.map_cons, List.map_cons]
      refine .cons ?_ ih
      by_cases z : b.1 = k
      · rw [if_pos (q.1.trans z), if_pos z]; exact ⟨rfl, h⟩
      · rw [if_neg (fun y => z (q.1.symm.trans y)), if_neg z]; exact q
  · exact t.append (.cons ⟨rfl, h⟩ .nil)
theorem putI_len {kvs : List (Int × α)} {k : Int} {x : α} : (putI kvs k x).length ≤ kvs.length + 1 := by
  unfold putI
  split <;> simp
theorem EvO.dictI0 {r : α → Rp} : EvO C Γ (.Dict [] [] pos) (oDI C.fr r) (pure []) := fun X Wx ok tk F H g σ s Q hm => by
  refine WE.of pe_dnewK fun l hq => ?_
  exact EvO.fin (O := oDI C.fr r []) Fr.refl s hq (fun n => ⟨l, [], rfl, n, rfl, .nil⟩) hm
theorem Ex.setKeyI {i : Nat} {px : Pos} {r : α → Rp} {kvs : List (Int × α)} {m : W α} {mi : W Int} {ix : Expr} {k : List (Int × α) → W ω} (hN : C.N[i]? = some x) (hv : visB C.sc x = true) (hΓ : Γ[i]? = some (.own (oDI C.fr r kvs))) (h : Ev C Γ e r m) (hi : Ev C Γ ix rI mi) (hr : ∀ z, Ex C (Γ.set i (.own (oDI C.fr r z))) rest J (k z))
    (hd : (x == ("__debug__" : Str) || x == ("__classdict__" : Str)) = false) (hs : ∀ X : Cx, swapsWithSole [.Subscript (.Name x px) ix spos] e pos.line X.env = pure false := by intro _; rfl)
    (hw : ∀ X : Cx, swappedStores [.Subscript (.Name x px) ix spos] e X.env = pure none := by intro _; rfl) (h1 : ∀ X : Cx, (assignEach [.Subscript (.Name x px) ix spos] X.env).map (·.2) = [assign (.Subscript (.Name x px) ix spos) X.env] := by intro _; rfl)
    (hpg : ∀ X : Cx, X.A.units + 1 < cLine → PE X (.Name x px) (tVar i) → PG X (.Subscript (.Name x px) ix spos) (gSub (tVar i) (WE X ix) rSetD)) :
    Ex C Γ (.Assign [.Subscript (.Name x px) ix spos] e pos :: rest) J (do let a ← m; let z ← mi; W.req (kvs.length ≤ 1000000) (pure (putI kvs z a)) >>= k) :=
  Ex.cons fun X Wx ok tk F H g σ s D hm => by
    rw [Bool.or_eq_false_iff] at hd
    refine W1.of (ps_asg (pe_W (e := e)) (hpg X (Nat.lt_of_le_of_lt (by omega) ok.units) (pe_var (i := i) (by rw [ok.N]; exact hN) (by rw [ok.sc]; exact visOf hv) hd.1 hd.2)) (hs X) (hw X) (h1 X)) ?_
    refine h X Wx ok.toOk tk F H g σ s _ (m.mono (fun y hy F1 H1 g1 w f1 s1 r1 => ?_) (fun e he => he.ex) hm)
    obtain ⟨v, eσ, a, vs, ev, na, eg, t⟩ := s1.get_own hΓ
    subst ev
    refine ⟨.ref a, eσ, ?_⟩
    refine hi X Wx ok.toOk tk F1 H1 g1 σ s1 _ (mi.mono (fun z hz F2 H2 g2 u f2 s2 r2 => ?_) (fun e he => (he.later f1).ex) hy)
    obtain ⟨v', eσ', a', vs', ev', na', eg', t'⟩ := s2.get_own hΓ
    rw [eσ] at eσ'
    cases eσ'
    cases ev'
    obtain ⟨hl, hz⟩ := hz
    have hlv : (kvI vs').length = kvs.length := by unfold kvI; rw [List.length_map, t'.length]
    obtain ⟨s3, f3, hH2⟩ := s2.upd_own (O' := oDI C.fr r (putI kvs z y)) (o' := .dK (kvI (putI vs' z w))) eg' eσ (List.getElem?_eq_some_iff.mp hΓ).1 ⟨a, putI vs' z w, rfl, na', rfl, t'.put ((r y).mono f2.sF r1)⟩
    refine ⟨a, _, rfl, by rw [show u = kV (.inl z) from r2]; exact DPut.k hH2 (by rw [hlv]; exact Nat.lt_of_le_of_lt hl (by decide)), ?_⟩
    rw [kvI_put]
    exact (hr _).later ok tk (f1.trans (f2.trans f3)) s3 hz
/-- sorted(d) -/
theorem EvO.sortD {N : Addr → Prop} {r : α → Rp} {m : W (List (Int × α))} (hb : Blt C "sorted" (.builtin "sorted")) (ha : Ev C Γ e (rDI N r) m) (hn : NoStar e) (hcm : C.cm = true := by rfl) : EvO C Γ (.Call (.Name "sorted" p) [e] [] pos) (oL C.fr rI) (do let xs ← m; W.req (xs.length < 64) (W.any (Srt (xs.map Prod.fst)))) :=
  fun X Wx ok tk F H g σ s Q hm => by
    refine WE.of (pe_callB (call_sortedDI (ok.calm.trans hcm)) (hb.gl ok) (by rw [ok.mg]; exact hb.m) hb.v (pa_cons (pe_W (e := e)) pa_nil (hn [] X.env)) hb.n hb.d (hn [] X.env) rfl) ?_
    refine ha X Wx ok tk F H g σ s _ (m.mono (fun xs hx F1 H1 g1 v f1 s1 r1 => ?_) (fun e he => he) hm)
    obtain ⟨q, vs, ev, _, hq, t⟩ := r1
    obtain ⟨h64, hx⟩ := hx
    have ek : (kvI vs).map (·.1) = (xs.map Prod.fst).map Sum.inl := by
      unfold kvI
      rw [List.map_map, List.map_map]
      clear hq hx h64
      induction t with
      | nil => rfl
      | cons q t ih => rw [List.map_cons, List.map_cons, ih]; simp only [Function.comp]; rw [q.1]
    exact ⟨q, kvI vs, xs.map Prod.fst, by rw [ev], .inl (s1.sF _ _ hq), ek, by rw [List.length_map]; exact h64, fun ys l h1 h2 hl => EvO.fin (O := oL C.fr rI ys) f1 s1 hl (fun n => ⟨l, _, rfl, n, rfl, All2.to_map (R := fun u x => (rI x).p F1 u) (f := V.int) (fun b => rfl) ys⟩) (hx ys ⟨h1, h2⟩)⟩
/-- d[k] -/
theorem Ev.dIx {N : Addr → Prop} {r : α → Rp} {a b : Expr} {ma : W (List (Int × α))} {mb : W Int} (ha : Ev C Γ a (rDI N r) ma) (hb : Ev C Γ b rI mb) (hs : NoSl b) : Ev C Γ (.Subscript a b pos) r (do let d ← ma; let k ← mb; optG (getI d k)) :=
  fun X Wx ok tk F H g σ s Q hm => by
    refine WE.of (pe_dget (Nat.lt_of_le_of_lt (by omega) ok.units) (pe_W (e := a)) (pe_W (e := b)) hs) ?_
    refine ha X Wx ok tk F H g σ s _ (ma.mono (fun d hd F1 H1 g1 v f1 s1 r1 => ?_) (fun e he => he) hm)
    refine hb X Wx ok tk F1 H1 g1 σ s1 _ (mb.mono (fun k hk F2 H2 g2 w f2 s2 r2 => ?_) (fun e he => XEnd.later f1 he) hd)
    obtain ⟨q, vs, ev, _, hq, t⟩ := (rDI N r d).mono f2.sF r1
    replace hk : (optG (getI d k)).wp _ _ := hk
    cases h : getI d k with
    | none => rw [h] at hk; exact hk.elim
    | some y =>
      rw [h] at hk
      obtain ⟨u, hu, ru⟩ := kvI_get t h
      exact ⟨q, u, ev, by rw [show w = kV (.inl k) from r2, ← hu]; exact DGet.k (s2.sF _ _ hq), hk F2 H2 g2 u (f1.trans f2) s2 ru⟩
end
end Y
namespace Y
open PySem PySem.Spec L2
section
variable {C : Cc} {Γ Γ' : List Slot} {α β ω : Type} {J : ω → Out}
/-- an own thing joins F -/
theorem StOk.frzOne {F H : Hp} {σ : St} {g : Nat → Hp} (s : StOk C F H Γ σ g) {i : Nat} {O : Op} {R : Rp} (hΓ : Γ[i]? = some (.own O)) (h : ∀ F G v, Dis F G → O.p F G v → R.p (uni F G) v) :
    StOk C (uni F (g i)) H (Γ.set i (.val R)) σ (setG g i emp) ∧ Fr F H (dU g) (uni F (g i)) H (dU (setG g i emp)) := by
  have hlt := (List.getElem?_eq_some_iff.mp hΓ).1
  obtain ⟨v, eσ, r⟩ := s.get_own hΓ
  refine ⟨⟨by simp [s.len], fun j S q => ?_, fun b o q => ?_, fun j => ?_, fun j => ?_, fun j k hjk => ?_, s.fr⟩, ⟨uni_l, fun b q => ?_, fun b o q _ => q, fun b q => q, fun b q => ?_⟩⟩
  · by_cases hj : i = j
    · subst hj
      rw [List.getElem?_set_self hlt] at q
      cases q
      exact ⟨v, eσ, h _ _ _ (s.dF i) r⟩
    · rw [List.getElem?_set_ne hj] at q
      rw [setG_ne (fun z => hj z.symm)]
      exact (s.slot j S q).mono uni_l
  · rcases of_uni q with q | ⟨_, q⟩
    · exact s.sF b o q
    · exact s.sG i b o q
  · by_cases hj : j = i
    · subst hj; rw [setG_same]; exact fun b o q => by cases q
    · rw [setG_ne hj]; exact s.sG j
  · by_cases hj : j = i
    · subst hj; rw [setG_same]; exact Dis.emp
    · rw [setG_ne hj]
      intro b
      rcases s.dF j b with q | q
      · rcases s.dG i j (fun z => hj z.symm) b with q2 | q2
        · exact .inl (uni_none q q2)
        · exact .inr q2
      · exact .inr q
  · by_cases hj : j = i
    · subst hj; rw [setG_same]; exact Dis.emp.symm
    · rw [setG_ne hj]
      by_cases hk : k = i
      · subst hk; rw [setG_same]; exact Dis.emp
      · rw [setG_ne hk]; exact s.dG j k hjk
  · cases q2 : F b with
    | some o => exact .inl (by simp)
    | none =>
      cases q3 : g i b with
      | none => exact absurd (uni_none q2 q3) q
      | some o => exact .inr (.inr ⟨i, by rw [q3]; simp⟩)
  · obtain ⟨j, q⟩ := q
    by_cases hj : j = i
    · subst hj; rw [setG_same] at q; exact absurd rfl q
    · rw [setG_ne hj] at q; exact .inl ⟨j, q⟩
theorem Ex.freezeG {i : Nat} {O : Op} {R : Rp} {sts : List Stmt} {m : W ω} (hΓ : Γ[i]? = some (.own O)) (hR : ∀ F G v, Dis F G → O.p F G v → R.p (uni F G) v) (h : Ex C (Γ.set i (.val R)) sts J m) : Ex C Γ sts J m := fun X Wx ok tk F H g σ s D hm => by
  obtain ⟨s2, f2⟩ := s.frzOne hΓ hR
  exact h.later ok tk f2 s2 hm
theorem Ex.freezeDI {i : Nat} {N : Addr → Prop} {r : α → Rp} {kvs : List (Int × α)} {sts : List Stmt} {m : W ω} (hΓ : Γ[i]? = some (.own (oDI N r kvs))) (h : Ex C (Γ.set i (.val (rDI N r kvs))) sts J m) : Ex C Γ sts J m := Ex.freezeG hΓ (fun _ _ _ d z => oDI_rDI d z) h
end
end Y

/-! Y20: isinstance of what may be None -/
namespace Y
open PySem PySem.Spec L2
section
variable {C : Cc} {Γ : List Slot} {α β γ : Type} {e e1 e2 : Expr} {pos p p2 : Pos}
theorem Ev.isiO {r : α → Rp} {T : String} {f : Str} {T2 : String} {m : W (Option α)} (b bn : Bool) {K : PySem.W.Frag} (hK : C.K = K) [I : TyK K r T] (hb : Blt C "isinstance" (.builtin "isinstance")) (hf : Blt C f (.type T2)) (hk : kitB T T2 = some b) (hkn : kitB "NoneType" T2 = some bn) (h : Ev C Γ e (rO r) m) (hn : NoStar e)  :
    Ev C Γ (.Call (.Name "isinstance" p) [e, .Name f p2] [] pos) rB (do let x ← m; let _ ← (pure () : W Unit); pure (if x.isSome = true then b else bn)) :=
  Ev.callB2 (fun x _ => pure (if x.isSome = true then b else bn)) hb (fun X ok => ⟨_, call_isi, fun x y H v w Q E hv hw q => by
    cases x with
    | none => exact ⟨v, w, .type "NoneType", .type T2, bn, rfl, by rw [show w = .ty T2 from hw]; exact .ty T2, by rw [show v = .non from hv]; exact .base .non, kit_ty hkn, q _ fun _ _ => rfl⟩
    | some x => exact ⟨v, w, .type T, .type T2, b, rfl, by rw [show w = .ty T2 from hw]; exact .ty T2, by rw [ok.K, hK]; exact I.ty x H H v (Same.refl _) hv, kit_ty hk, q _ fun _ _ => rfl⟩⟩)
    (fun _ _ _ _ _ h => h) (fun y F v h F' => h) h (Ev.tyName hf) hn (fun _ _ => rfl)
end
end Y

/-! Y21: things of the asker's own with parts; told things are spoiled -/
namespace Y
open PySem PySem.Spec L2
section
variable {C : Cc} {Γ Γ' : List Slot} {α β γ δ ε ω : Type} {J : ω → Out} {e e1 e2 e3 e4 : Expr} {pos p : Pos} {rest : List Stmt}
/-- a thing all of whose parts are private -/
def oV (ρ : (Addr → Prop) → α → Rp) (N : Addr → Prop) (x : α) : Op := ⟨fun F G v => (∀ b, G b ≠ none → N b) ∧ (ρ N x).p G v, fun _ h => h⟩
theorem oV_val {ρ : (Addr → Prop) → α → Rp} {N : Addr → Prop} {x : α} {R : Rp} (h : ∀ F v, (ρ N x).p F v → R.p F v) : Bo C (.own (oV ρ N x)) (.val R) := .ge fun F F' G v _ s ⟨_, r⟩ => h F' v ((ρ N x).mono s r)
theorem Frs.O {ρ : (Addr → Prop) → α → Rp} (h : Frs ρ) : Frs (fun N => rO (ρ N)) := ⟨fun N b F v x => by
  cases b with
  | none => exact x
  | some b => exact h.re N b F v x, fun N N' b F v hn x => by
  cases b with
  | none => exact x
  | some b => exact h.mo N N' b F v hn x⟩
/-- what is new, by itself -/
theorem newG {F H F0 F' H' : Hp} {g : Nat → Hp} {σ : St} {ρ : (Addr → Prop) → α → Rp} {N : Addr → Prop} {a : α} {v : V} (hρ : Frs ρ) (s : StOk C F H Γ σ g) (zF : Same F F0) (zG : ∀ i, Same (g i) F0) (h0 : Same F0 H)
    (hN : ∀ b, N b → H b = none) (s4 : StOk C F H' Γ σ g) (f4 : Fr F H (dU g) F H' (dU g)) (sF' : Same F' H') (r : (ρ N a).p F' v) :
    ∃ G, Fr F H (dU g) F H' (fun b => dU g b ∨ G b ≠ none) ∧ Same G H' ∧ Dis F G ∧ (∀ i, Dis (g i) G) ∧ (∀ b, G b ≠ none → C.fr b) ∧ (oV ρ C.fr a).p F G v := by
  have hr := hρ.re _ _ _ _ r
  have hG : ∀ b, restr F' N b ≠ none → N b := fun b z => by
    unfold restr at z
    split at z
    · assumption
    · exact absurd rfl z
  have hd : ∀ (A : Hp), Same A H → Dis A (restr F' N) := fun A z b => by
    cases q : restr F' N b with
    | none => exact .inr rfl
    | some u =>
      refine .inl ?_
      cases q2 : A b with
      | none => rfl
      | some w =>
        have h1 := hN b (hG b (by rw [q]; simp))
        rw [z b w q2] at h1; cases h1
  exact ⟨restr F' N, ⟨f4.sF, f4.fF, f4.keep, f4.dom, fun b q => by
      rcases q with q | q
      · exact .inl q
      · exact .inr (hN b (hG b q))⟩, fun b o q => sF' b o (restr_same b o q), hd F s.sF, fun i => hd (g i) (s.sG i), fun b q => s.fr b (hN b (hG b q)), fun b q => s.fr b (hN b (hG b q)), hρ.mo _ _ _ _ _ (fun b z => s.fr b (hN b z)) hr⟩
/-- a call that tells new things, own lists being read -/
theorem EvO.callFr {x : Str} {j n : Nat} {es : List Expr} {τ : Type} {ins : (Addr → Prop) → τ → List Rp} {ρ : (Addr → Prop) → β → Rp} {mf : τ → W β} {mt : W τ} (hb : All2 (Bo C) Γ Γ') (hv : noOwn Γ' = true) (hρ : Frs ρ) (hf : FnV C.toMc x j n ins ρ mf) (hi : ∀ N N' t, ins N t = ins N' t) (hj : j ≤ C.k) (hg : C.sc.names.lookup x = some .globalImplicit) (ha : EvA C Γ' (e :: es) (ins C.fr) mt) (hn : NoStar e) (hpl : ∀ (X : Cx) (pos : Pos), (backTo pos (starEach es X.env)).any (·.1) = false)
    (hd : (x == ("__debug__" : Str)) = false := by decide) (hcm : C.cm = true := by rfl) : EvO C Γ (.Call (.Name x p) (e :: es) [] pos) (oV ρ C.fr) (do let t ← mt; mf t) :=
  fun X Wx ok tk F H g σ s Q hm => by
    obtain ⟨⟨f, fd, ps, hF, hmg, hk, hbd⟩, hl⟩ := hf
    have e1 := ok.prog
    have e2 := ok.w
    have e3 := ok.K
    have e4 := ok.mg
    have e5 := ok.base
    have hv' : ∀ (i : Nat) (O : Op), Γ'[i]? ≠ some (Slot.own O) := fun i O q => noOwn.ok hv _ (List.mem_of_getElem? q) O rfl
    obtain ⟨sz, zF, zG, _⟩ := s.frzA hb hv'
    refine WE.of (pe_callS (E := fun σ => L2.WE Wx σ) (by rw [e1, e2, e3, e4, e5]; exact hF) ((ok.room hcm).mono hj) (show X.env.scope.names.lookup x = _ by rw [ok.sc]; exact hg) (by rw [e4]; exact hmg) (by rw [e3]; exact hk) (by rw [e3]; exact hbd) (fun σ => by
      have := passAt tk σ
      rw [e1, e2] at this
      exact this) (pa_W (es := e :: es)) hd (hn es X.env) (hpl X pos)) ?_
    refine ha.2 X Wx ok tk _ H _ σ sz _ (mt.mono (fun t ht F1 H1 g1 vs f1 s1 r1 => ?_) (fun e he => he.frz s hb hv') hm)
    refine ⟨t, F1, fun a => H1 a = Option.none, fun _ z => z, s1.sF, by rw [hi _ C.fr t]; exact r1, (mf t).mono (fun b hb2 F2 H2 g2 v f2 s2 r2 => ?_) (fun e he F2 H2 g2 cls d f2 s2 hx => ?_) ht⟩
    · obtain ⟨s3, f3⟩ := s1.call0 f2 s2
      obtain ⟨s4, f4⟩ := s.unfrz hb hv' (f1.trans f3) s3
      obtain ⟨G, g1, g2, g3, g4, g5, g6⟩ := newG hρ s zF zG sz.sF (N := fun a => H1 a = Option.none) (fun b z => by
        cases q3 : H b with
        | none => rfl
        | some u => exact absurd z (f1.dom b (by rw [q3]; simp))) s4 f4 s2 r2
      exact hb2 F H2 g G v g1 s4 g2 g3 g4 g5 g6
    · obtain ⟨s3, f3⟩ := s1.call0 f2 s2
      exact (he.frz s hb hv') F2 H2 g1 cls d (f1.trans f3) s3 ((hx.reg s1.sG).later f1)
variable {x : Str} {j : Nat} {ρ : (Addr → Prop) → ε → Rp}
theorem EvO.callFr1 {ra : α → Rp} {m1 : W α} {mf : α × Unit → W ε} (hb : All2 (Bo C) Γ Γ') (hv : noOwn Γ' = true) (hρ : Frs ρ) (hf : FnV C.toMc x j 1 (fun N t => [ra t.1]) ρ mf) (hj : j ≤ C.k) (hg : C.sc.names.lookup x = some .globalImplicit) (h1 : Ev C Γ' e1 ra m1) (n1 : NoStar e1) (hd : (x == ("__debug__" : Str)) = false := by decide) (hcm : C.cm = true := by rfl) :
    EvO C Γ (.Call (.Name x p) [e1] [] pos) (oV ρ C.fr) (do let a ← m1; mf (a, ())) := by
  have q := EvO.callFr (e := e1) (p := p) (pos := pos) hb hv hρ hf (fun _ _ _ => rfl) hj hg (EvA.cons h1 EvA.nil n1) n1 noArgs hd hcm
  exact q
theorem EvO.callFr2 {ra : α → Rp} {rb : β → Rp} {m1 : W α} {m2 : W β} {mf : α × β × Unit → W ε} (hb : All2 (Bo C) Γ Γ') (hv : noOwn Γ' = true) (hρ : Frs ρ) (hf : FnV C.toMc x j 2 (fun N t => [ra t.1, rb t.2.1]) ρ mf) (hj : j ≤ C.k) (hg : C.sc.names.lookup x = some .globalImplicit) (h1 : Ev C Γ' e1 ra m1) (h2 : Ev C Γ' e2 rb m2) (n1 : NoStar e1) (n2 : NoStar e2) (hd : (x == ("__debug__" : Str)) = false := by decide) (hcm : C.cm = true := by rfl) :
    EvO C Γ (.Call (.Name x p) [e1, e2] [] pos) (oV ρ C.fr) (do let a ← m1; let b ← m2; mf (a, b, ())) := by
  have q := EvO.callFr (e := e1) (p := p) (pos := pos) hb hv hρ hf (fun _ _ _ => rfl) hj hg (EvA.cons h1 (EvA.cons h2 EvA.nil n2) n1) n1 (EvA.cons h2 EvA.nil n2).1 hd hcm
  exact q
theorem EvO.callFr3 {ra : α → Rp} {rb : β → Rp} {rc : γ → Rp} {m1 : W α} {m2 : W β} {m3 : W γ} {mf : α × β × γ × Unit → W ε} (hb : All2 (Bo C) Γ Γ') (hv : noOwn Γ' = true) (hρ : Frs ρ) (hf : FnV C.toMc x j 3 (fun N t => [ra t.1, rb t.2.1, rc t.2.2.1]) ρ mf) (hj : j ≤ C.k) (hg : C.sc.names.lookup x = some .globalImplicit) (h1 : Ev C Γ' e1 ra m1) (h2 : Ev C Γ' e2 rb m2) (h3 : Ev C Γ' e3 rc m3) (n1 : NoStar e1) (n2 : NoStar e2) (n3 : NoStar e3) (hd : (x == ("__debug__" : Str)) = false := by decide) (hcm : C.cm = true := by rfl) :
    EvO C Γ (.Call (.Name x p) [e1, e2, e3] [] pos) (oV ρ C.fr) (do let a ← m1; let b ← m2; let c ← m3; mf (a, b, c, ())) := by
  have q := EvO.callFr (e := e1) (p := p) (pos := pos) hb hv hρ hf (fun _ _ _ => rfl) hj hg (EvA.cons h1 (EvA.cons h2 (EvA.cons h3 EvA.nil n3) n2) n1) n1 (EvA.cons h2 (EvA.cons h3 EvA.nil n3) n2).1 hd hcm
  exact q
theorem oL_val {N : Addr → Prop} {r : α → Rp} {xs : List α} {R : Rp} (h : ∀ F v, (rN N r xs).p F v → R.p F v) : Bo C (.own (oL N r xs)) (.val R) :=
  .ge fun F F' G v s s2 ⟨a, vs, e, n, eg, t⟩ => h F' v ⟨a, vs, e, n, s2 a _ (by rw [eg]; exact one_same), t.imp fun _ _ z => (r _).mono s z⟩
/-- the context by which new is new from here on -/
abbrev Cc.wfr (C : Cc) (N : Addr → Prop) : Cc := { C with fr := N }
theorem Cc.Ok.wfr {X : Cx} (ok : C.Ok X) (N : Addr → Prop) : (C.wfr N).Ok X := ⟨ok.prog, ok.w, ok.K, ok.mg, ok.base, ok.N, ok.sc, ok.nd, ok.calm, ok.room, ok.units, ok.exc, ok.fnc⟩
theorem Bo.wfr {N : Addr → Prop} {S S' : Slot} (h : Bo C S S') : Bo (C.wfr N) S S' := by
  cases h with
  | rf => exact .rf
  | li => exact .li
  | no => exact .no
  | ge h => exact .ge h
  | sb h => exact .sb h
theorem EvO.new {ρ : (Addr → Prop) → α → Rp} {m : W α} (hb : All2 (Bo C) Γ Γ') (hv : noOwn Γ' = true) (hρ : Frs ρ) (h : ∀ N, Ev (C.wfr N) Γ' e (ρ N) m) : EvO C Γ e (oV ρ C.fr) m :=
  fun X Wx ok tk F H g σ s Q hm => by
    have hv' : ∀ (i : Nat) (O : Op), Γ'[i]? ≠ some (Slot.own O) := fun i O q => noOwn.ok hv _ (List.mem_of_getElem? q) O rfl
    obtain ⟨sz, zF, zG, _⟩ := s.frzA hb hv'
    refine h (fun a => H a = none) X Wx (ok.wfr _) tk _ H _ σ ⟨sz.len, sz.slot, sz.sF, sz.sG, sz.dF, sz.dG, fun _ z => z⟩ Q (m.mono (fun a ha F' H' g' v f s' r => ?_) (fun x hx => ?_) hm)
    · have sC : StOk C F' H' Γ' σ g' := ⟨s'.len, s'.slot, s'.sF, s'.sG, s'.dF, s'.dG, fun b z => s.fr b (s'.fr b z)⟩
      obtain ⟨s4, f4⟩ := s.unfrz hb hv' f sC
      obtain ⟨G, g1, g2, g3, g4, g5, g6⟩ := newG hρ s zF zG sz.sF (N := fun a => H a = none) (fun b z => z) s4 f4 s'.sF r
      exact ha F H' g G v g1 s4 g2 g3 g4 g5 g6
    · intro F' H' g' cls d f s' hx'
      exact (hx.frz s hb hv') F' H' g' cls d f ⟨s'.len, s'.slot, s'.sF, s'.sG, s'.dF, s'.dG, fun b z => s.fr b (s'.fr b z)⟩ hx'
theorem oV_rp {ρ : (Addr → Prop) → α → Rp} {N : Addr → Prop} {x : α} {F G : Hp} {v : V} (d : Dis F G) (h : (oV ρ N x).p F G v) : (ρ N x).p (uni F G) v := (ρ N x).mono (uni_r d) h.2
/-- own lists are read, what comes is new -/
theorem Ev.new {ρ : (Addr → Prop) → α → Rp} {m : W α} (hb : All2 (Bo C) Γ Γ') (hv : noOwn Γ' = true) (hρ : Frs ρ) (h : ∀ N, Ev (C.wfr N) Γ' e (ρ N) m) : Ev C Γ e (ρ C.fr) m :=
  (EvO.new hb hv hρ h).ev fun _ _ _ _ d _ h => oV_rp d h
/-- a list alone -/
theorem EvO.flat {r : α → Rp} [I : Fre r] {m : W (List α)} (h : EvO C Γ e (oV (fun N => rN N r) C.fr) m) : EvO C Γ e (oL C.fr r) m :=
  fun X Wx ok tk F H g σ s Q hm => h X Wx ok tk F H g σ s Q (m.mono (fun a ha F' H' g' G v f s' sG dF dG nG r => by
    obtain ⟨_, q, vs, ev, nq, hq, t⟩ := r
    have on : ∀ b, one q (HO.lst vs) b ≠ none → b = q := fun b h => by
      by_cases z : b = q
      · exact z
      · exact absurd (one_ne z) h
    have hle : Same (one q (.lst vs)) G := fun b o z => by
      have e := on b (by rw [z]; simp)
      subst e
      rw [one_same] at z
      rw [hq]; exact z
    have hd : ∀ A : Hp, Dis A G → Dis A (one q (.lst vs)) := fun A z b => by
      rcases z b with z | z
      · exact .inl z
      · refine .inr ?_
        cases z2 : one q (.lst vs) b with
        | none => rfl
        | some o => rw [hle b o z2] at z; cases z
    exact ha F' H' g' (one q (.lst vs)) v (f.less fun b z => z.imp_right fun z z2 => by
      have e := on b z
      subst e
      rw [hq] at z2; cases z2) s' (hle.trans sG) (hd _ dF) (fun i => hd _ (dG i)) (fun b z => by rw [on b z]; exact nq) ⟨q, vs, ev, nq, rfl, t.imp fun u y z => I.fre _ _ _ z _⟩) (fun e he => he) hm)
/-- a private thing is laid into F -/
theorem Ex.freezeV {i : Nat} {ρ : (Addr → Prop) → α → Rp} {x : α} {sts : List Stmt} {m : W ω} (hΓ : Γ[i]? = some (.own (oV ρ C.fr x))) (h : Ex C (Γ.set i (.val (ρ C.fr x))) sts J m) : Ex C Γ sts J m := Ex.freezeG hΓ (fun _ _ _ d z => oV_rp d z) h

/-- name = [..], the name a local, own things being read -/
theorem lcSetN {i : Nat} {y : Str} {py : Pos} {tg iter elt : Expr} {ifs : List Expr} {scope : Scope} {own : List (Str × Nat)} {r : α → Rp} {ρ' : (Addr → Prop) → β → Rp} {t : TG} {up : List Slot → α → List Slot} {m : W (List α)} {mt : α → W Bool} {me : α → W β} {k : List β → W ω}
    (hb : All2 (Bo C) Γ Γ') (hv : noOwn Γ' = true) (hρ : Frs ρ') (hN : C.N[i]? = some y) (hy : C.sc.names.lookup y = some .local) (hL : ∀ N, LcOk (C.wfr N) Γ' tg scope own r t up) (hi : ∀ N, EvI (C.wfr N) Γ' tg iter r m)
    (ht : ∀ N x, EvTs ((C.wfr N).blk scope) (up (wipeG Γ' (own.map (·.2))) x) ifs (mt x)) (he : ∀ N x, Ev ((C.wfr N).blk scope) (up (wipeG Γ' (own.map (·.2))) x) elt (ρ' N) (me x)) (hr : ∀ a, Ex C (Γ.set i (.own (oV (fun N => rN N (ρ' N)) C.fr a))) rest J (k a))
    (hsw : ∀ X, C.Ok X → swapsWith (.ListComp elt [⟨tg, iter, ifs, 0⟩] scope p) (some (.Name y py)) pos.line X.env = pure true) (hs : ∀ (env : Env) x, foldedSetIterable iter env x = pure x) (hcm : C.cm = true := by rfl) :
    Ex C Γ (.Assign [.Name y py] (.ListComp elt [⟨tg, iter, ifs, 0⟩] scope p) pos :: rest) J (do let a ← (do let xs ← m; W.noX (compM mt me xs)); k a) :=
  Ex.cons fun X Wx ok tk F H g σ s D hm => by
    have hv' : ∀ (i : Nat) (O : Op), Γ'[i]? ≠ some (Slot.own O) := fun i O q => noOwn.ok hv _ (List.mem_of_getElem? q) O rfl
    obtain ⟨sz, zF, zG, _⟩ := s.frzA hb hv'
    refine W1.of (ps_setLc (i := i) (own := own) (ok.calm.trans hcm) ok.toOk.ndX (by rw [ok.N]; exact hN) (by rw [ok.sc]; exact hy) (hsw X ok.toOk) pi_W (by rw [ok.N, ok.sc]; exact (hL fun a => H a = none).blk) (fun s0 H0 Ca cl fp => (hL fun a => H a = none).g.pg _ ((ok.toOk.wfr _).blk s0 H0 scope cl Ca fp)) (fun s0 H0 Ca cl fp => ⟨fun pins s σ H Q I h => ?_⟩) (fun s0 H0 Ca cl fp => ⟨fun pins s σ H Q I h => pe_W.run pins s σ H Q I (h s0 H0 Ca cl fp)⟩) (hs X.env))
      (tLc_of (hi fun a => H a = none) (hL fun a => H a = none).g (hL fun a => H a = none).up (hL fun a => H a = none).no (hL fun a => H a = none).w (ht fun a => H a = none) (he fun a => H a = none) (ok.toOk.wfr _) tk (⟨sz.len, sz.slot, sz.sF, sz.sG, sz.dF, sz.dG, fun _ z => z⟩ : StOk (C.wfr fun a => H a = none) _ H Γ' σ _) ((do let xs ← m; W.noX (compM mt me xs) : W (List β)).mono (fun a ha F1 H1 g1 G v f1 s1 sG dF dG nG r1 => ?_) (fun x hx => ?_) hm))
    · obtain ⟨tt, h1, h2⟩ := h s0 H0 Ca cl fp
      exact h1.run pins s σ H Q I h2
    · have sC : StOk C F1 H1 Γ' σ g1 := ⟨s1.len, s1.slot, s1.sF, s1.sG, s1.dF, s1.dG, fun b z => s.fr b (s1.fr b z)⟩
      obtain ⟨s4, f4⟩ := s.unfrz hb hv' (f1.less fun b z => .inl z) sC
      obtain ⟨G2, g1, g2, g3, g4, g5, g6⟩ := newG (ρ := fun N => rN N (ρ' N)) hρ.N s zF zG sz.sF (F' := uni F1 G) (N := fun a => H a = none) (fun b z => z) s4 f4 (fun b o q => by
        rcases of_uni q with q | ⟨_, q⟩
        · exact s1.sF b o q
        · exact sG b o q) (oL_rN dF r1)
      exact (hr a).later ok tk (g1.less fun b ⟨j, q⟩ => by
        unfold setG at q
        split at q
        · exact .inr q
        · exact .inl ⟨j, q⟩) (s4.set_own g6 g2 g3 fun j _ => g4 j) ha
    · intro F' H' g' cls d f s' hx'
      exact (hx.ex.frz s hb hv') F' H' g' cls d f ⟨s'.len, s'.slot, s'.sF, s'.sG, s'.dF, s'.dG, fun b z => s.fr b (s'.fr b z)⟩ hx'
/-! ### told things are spoiled -/
/-- one place of a private heap is written -/
theorem StOk.updG {F H : Hp} {σ : St} {g : Nat → Hp} (s : StOk C F H Γ σ g) {i : Nat} {a : Addr} {o o' : HO} {O' : Op} {v : V} (hga : g i a = some o) (hσ : σ[i]? = some (some v)) (hi : i < Γ.length) (r : O'.p F (upd (g i) a o') v) :
    StOk C F (upd H a o') (Γ.set i (.own O')) σ (setG g i (upd (g i) a o')) ∧ Fr F H (dU g) F (upd H a o') (dU (setG g i (upd (g i) a o'))) := by
  have hHa : H a = some o := s.sG i a o hga
  have hFa : F a = none := by
    rcases s.dF i a with q | q
    · exact q
    · rw [hga] at q; cases q
  have hgj : ∀ j, j ≠ i → g j a = none := fun j hj => by
    rcases s.dG j i hj a with q | q
    · exact q
    · rw [hga] at q; cases q
  refine ⟨⟨by rw [List.length_set]; exact s.len, fun j S q => ?_, fun b u q => ?_, fun j => ?_, fun j => ?_, fun j k hjk => ?_, fun b q => ?_⟩, ⟨Same.refl _, fun b q => .inl q, fun b u q n => ?_, fun b q => ?_, fun b q => ?_⟩⟩
  · by_cases hj : i = j
    · subst hj
      rw [List.getElem?_set_self hi] at q
      cases q
      rw [setG_same]
      exact ⟨v, hσ, r⟩
    · rw [List.getElem?_set_ne hj] at q
      rw [setG_ne (fun z => hj z.symm)]
      exact s.slot j S q
  · rw [upd_ne (fun z => by rw [z, hFa] at q; cases q)]; exact s.sF b u q
  · by_cases hj : j = i
    · subst hj
      rw [setG_same]
      intro b u q
      by_cases z : b = a
      · subst z; rw [upd_same] at q; rw [upd_same]; exact q
      · rw [upd_ne z] at q; rw [upd_ne z]; exact s.sG j b u q
    · rw [setG_ne hj]
      intro b u q
      rw [upd_ne (fun z => by rw [z, hgj j hj] at q; cases q)]
      exact s.sG j b u q
  · by_cases hj : j = i
    · subst hj
      rw [setG_same]
      intro b
      by_cases z : b = a
      · subst z; exact .inl hFa
      · rw [upd_ne z]; exact s.dF j b
    · rw [setG_ne hj]; exact s.dF j
  · by_cases hj : j = i
    · subst hj
      rw [setG_same, setG_ne (fun z => hjk z.symm)]
      intro b
      by_cases z : b = a
      · subst z; exact .inr (hgj k (fun z => hjk z.symm))
      · rw [upd_ne z]; exact s.dG j k hjk b
    · rw [setG_ne hj]
      by_cases hk : k = i
      · subst hk
        rw [setG_same]
        intro b
        by_cases z : b = a
        · subst z; exact .inl (hgj j hj)
        · rw [upd_ne z]; exact s.dG j k hjk b
      · rw [setG_ne hk]; exact s.dG j k hjk
  · by_cases z : b = a
    · rw [z, upd_same] at q; cases q
    · rw [upd_ne z] at q; exact s.fr b q
  · by_cases z : b = a
    · subst z; exact absurd ⟨i, by rw [hga]; simp⟩ n
    · rw [upd_ne z]; exact q
  · by_cases z : b = a
    · rw [z, upd_same]; simp
    · rw [upd_ne z]; exact q
  · obtain ⟨j, q⟩ := q
    by_cases hj : j = i
    · subst hj
      rw [setG_same] at q
      by_cases z : b = a
      · subst z; exact .inl ⟨j, by rw [hga]; simp⟩
      · rw [upd_ne z] at q; exact .inl ⟨j, q⟩
    · rw [setG_ne hj] at q; exact .inl ⟨j, q⟩
theorem StOk.reown {F H : Hp} {σ : St} {g : Nat → Hp} (s : StOk C F H Γ σ g) {i : Nat} {O O' : Op} (hΓ : Γ[i]? = some (.own O)) (h : ∀ F G v, O.p F G v → O'.p F G v) : StOk C F H (Γ.set i (.own O')) σ g where
  len := by rw [List.length_set]; exact s.len
  slot := fun j S q => by
    by_cases hj : i = j
    · subst hj
      rw [List.getElem?_set_self (List.getElem?_eq_some_iff.mp hΓ).1] at q
      cases q
      obtain ⟨v, e, r⟩ := s.get_own hΓ
      exact ⟨v, e, h _ _ _ r⟩
    · rw [List.getElem?_set_ne hj] at q
      exact s.slot j S q
  sF := s.sF
  sG := s.sG
  dF := s.dF
  dG := s.dG
  fr := s.fr
/-- a list of which no more is said -/
def oJ (N : Addr → Prop) : Op := ⟨fun F G v => ∃ a vs, v = .ref a ∧ G a = some (.lst vs) ∧ vs.length ≤ 2000000, fun _ h => h⟩
/-- a list beside a -/
def Lst (G : Hp) (a : Addr) (L : Nat) (b : Addr) : Prop := b ≠ a ∧ ∃ ws, G b = some (.lst ws) ∧ ws.length ≤ L
theorem Lst.upd {G : Hp} {a b c : Addr} {L : Nat} {ws : List V} (h : Lst G a L c) (hb : ws.length ≤ L + 1) : Lst (upd G b (.lst ws)) a (L + 1) c := by
  obtain ⟨h1, vs, h2, h3⟩ := h
  by_cases e : c = b
  · subst e; exact ⟨h1, ws, upd_same, hb⟩
  · exact ⟨h1, vs, by rw [upd_ne e]; exact h2, by omega⟩
/-- how an item holds its list: item by item, by pairs' second -/
def Itm1 (G : Hp) (a : Addr) (L : Nat) (u : V) : Prop := ∃ b, u = .ref b ∧ Lst G a L b
def Itm2 (G : Hp) (a : Addr) (L : Nat) (u : V) : Prop := ∃ T v1 b, u = .ref T ∧ T ≠ a ∧ G T = some (.tup [v1, .ref b]) ∧ Lst G a L b
def oJL (It : Hp → Addr → Nat → V → Prop) (a : Addr) (vs : List V) (L : Nat) : Op := ⟨fun F G v => v = .ref a ∧ G a = some (.lst vs) ∧ ∀ u ∈ vs, It G a L u, fun _ h => h⟩
theorem Itm1.upd {G : Hp} {a b : Addr} {L : Nat} {ws : List V} {u : V} (h : Itm1 G a L u) (hb : ws.length ≤ L + 1) : Itm1 (upd G b (.lst ws)) a (L + 1) u := by
  obtain ⟨c, e, h⟩ := h
  exact ⟨c, e, h.upd hb⟩
theorem Itm2.upd {G : Hp} {a b : Addr} {L : Nat} {ws ws0 : List V} {u : V} (h : Itm2 G a L u) (h0 : G b = some (.lst ws0)) (hb : ws.length ≤ L + 1) : Itm2 (upd G b (.lst ws)) a (L + 1) u := by
  obtain ⟨T, v1, c, e, n, eT, h⟩ := h
  exact ⟨T, v1, c, e, n, by rw [upd_ne (fun z => by rw [z, h0] at eT; cases eT)]; exact eT, h.upd hb⟩
/-- values that hold nothing -/
class Flat (r : α → Rp) : Prop where
  no : ∀ z F q, ¬ (r z).p F (.ref q)
instance : Flat rI := ⟨fun z F q h => by have e : V.ref q = .int z := h; cases e⟩
instance : Flat rS := ⟨fun z F q h => by have e : V.ref q = .str z := h; cases e⟩
instance : Flat rB := ⟨fun z F q h => by have e : V.ref q = .bl z := h; cases e⟩
theorem All2.memL {R : α → β → Prop} {as : List α} {bs : List β} (h : All2 R as bs) {a : α} (ha : a ∈ as) : ∃ b ∈ bs, R a b := by
  induction h with
  | nil => cases ha
  | cons r _ ih =>
    rcases List.mem_cons.mp ha with q | q
    · subst q; exact ⟨_, List.mem_cons_self, r⟩
    · obtain ⟨b, hb, hr⟩ := ih q
      exact ⟨b, List.mem_cons_of_mem _ hb, hr⟩
theorem oV_J1 {r : α → Rp} [I : Flat r] {N : Addr → Prop} {xss : List (List α)} {F G : Hp} {v : V} (h1 : ∀ x ∈ xss, x.length ≤ 1000000) (h : (oV (fun N => rN N (rN N r)) N xss).p F G v) :
    ∃ a vs, (oJL Itm1 a vs 1000000).p F G v ∧ vs.length = xss.length := by
  obtain ⟨_, a, vs, ev, _, hq, t⟩ := h
  refine ⟨a, vs, ⟨ev, hq, fun u hu => ?_⟩, t.length⟩
  obtain ⟨x, hx, b, ws, eb, _, hb, tb⟩ := t.memL hu
  refine ⟨b, eb, fun z => ?_, ws, hb, by rw [tb.length]; exact h1 x hx⟩
  rw [z, hq] at hb
  have e : vs = ws := by cases hb; rfl
  rw [e, eb] at hu
  obtain ⟨y, _, hy⟩ := tb.memL hu
  exact I.no _ _ _ hy
theorem oV_J2 {r1 : β → Rp} {r : α → Rp} [I : Flat r] {N : Addr → Prop} {xss : List (β × List α)} {F G : Hp} {v : V} {ρ1 : (Addr → Prop) → β → Rp} (h1 : ∀ x ∈ xss, x.2.length ≤ 1000000) (h : (oV (fun N => rN N (rX2 N (ρ1 N) (rN N r))) N xss).p F G v) :
    ∃ a vs, (oJL Itm2 a vs 1000000).p F G v ∧ vs.length = xss.length := by
  obtain ⟨_, a, vs, ev, _, hq, t⟩ := h
  refine ⟨a, vs, ⟨ev, hq, fun u hu => ?_⟩, t.length⟩
  obtain ⟨x, hx, T, v1, v2, eT, _, hT, t1, b, ws, eb, _, hb, tb⟩ := t.memL hu
  refine ⟨T, v1, b, eT, (fun z => by rw [z, hq] at hT; cases hT), by rw [hT, eb], (fun z => ?_), ws, hb, by rw [tb.length]; exact h1 x hx⟩
  rw [z, hq] at hb
  have e : vs = ws := by cases hb; rfl
  rw [e, eT] at hu
  obtain ⟨y, _, hy⟩ := tb.memL hu
  exact I.no _ _ _ hy
theorem J_app {X : Cx} (hc : PE X e (tC w)) (n : NoStar e) {j : Nat} {y : Str} {p3 apos cpos pos3 : Pos} (hM : X.N[j]? = some y) (hvy : Vis X.env.scope y) (hdy : (y == ("__debug__" : Str) || y == ("__classdict__" : Str)) = false)
    (hline : (apos.endLine == cpos.line) = true) (hb : attributeBase (.Name y p3) "append" X.env (eval (.Name y p3) X.env) = eval (.Name y p3) X.env)
    (hs : swapsWith (.Call (.Attribute (.Name y p3) "append" apos) [e] [] cpos) none pos3.line X.env = pure false) :
    PSs X [.Expr (.Call (.Attribute (.Name y p3) "append" apos) [e] [] cpos) pos3] (fun D σ H => ∃ b ws, σ[j]? = some (some (.ref b)) ∧ H b = some (.lst ws) ∧ ws.length < sizeLine ∧ D.nx σ (upd H b (.lst (ws ++ [w])))) := by
  rw [Bool.or_eq_false_iff] at hdy
  refine ⟨fun pins s σ H D I h => ?_⟩
  obtain ⟨b, ws, h1, h2, h3, h4⟩ := h
  exact (pss_one (ps_expr (pe_bm PySem.F.plainAttrs_list PySem.F.slot_list_append PySem.F.type_list_append mt_append (pe_var (i := j) hM hvy hdy.1 hdy.2) (pa_cons hc pa_nil (n [] X.env)) hb (fewArgs1 n cpos) hline (n [] X.env) rfl) hs)).run pins s σ H D I ⟨.ref b, h1, .inl ⟨rfl, _, SqL.of h2⟩, b, ws, w, rfl, rfl, h2, h3, h4⟩
/-- for y in x: y.append(c) -/
theorem Ex1.spoil1 {i j : Nat} {x y : Str} {px py p3 apos cpos pos3 : Pos} {w : V} {r : α → Rp} [Flat r] {xss : List (List α)} (hN : C.N[i]? = some x) (hM : C.N[j]? = some y) (hij : i ≠ j) (hv : visB C.sc x = true) (hvy : visB C.sc y = true) (hy : Sto C y)
    (hΓ : Γ[i]? = some (.own (oV (fun N => rN N (rN N r)) C.fr xss))) (hd : (x == ("__debug__" : Str) || x == ("__classdict__" : Str)) = false) (hdy : (y == ("__debug__" : Str) || y == ("__classdict__" : Str)) = false) (hjG : Nat.ble (j + 1) Γ.length = true) (hc : ∀ X : Cx, PE X e (tC w)) (n : NoStar e)
    (hline : (apos.endLine == cpos.line) = true := by rfl) (hb : ∀ X : Cx, attributeBase (.Name y p3) "append" X.env (eval (.Name y p3) X.env) = eval (.Name y p3) X.env := by intro _; rfl)
    (hs : ∀ X : Cx, swapsWith (.Call (.Attribute (.Name y p3) "append" apos) [e] [] cpos) none pos3.line X.env = pure false := by intro _; rfl) (hs0 : ∀ (env : Env) z, foldedSetIterable (.Name x px) env z = pure z := by intro _ _; rfl) (hcm : C.cm = true := by rfl) :
    Ex1 C Γ (.For (.Name y py) (.Name x px) [.Expr (.Call (.Attribute (.Name y p3) "append" apos) [e] [] cpos) pos3] [] pos) (fun _ : Unit => .nx ((Γ.set i (.own (oJ C.fr))).set j .no)) (W.req (xss.length ≤ 1000000 ∧ ∀ z ∈ xss, z.length ≤ 1000000) (pure ())) :=
  fun X Wx ok tk F H g σ s D hm => by
    obtain ⟨⟨h1, h2⟩, hm⟩ := hm
    have hd' := hd
    rw [Bool.or_eq_false_iff] at hd
    refine W1.of (ps_for ok.po (ok.calm.trans hcm) (pi_list (pe_var (i := i) (by rw [ok.N]; exact hN) (by rw [ok.sc]; exact visOf hv) hd.1 hd.2)) (pg_name (i := j) ok.toOk.ndX (by rw [ok.N]; exact hM) (hy.loc ok.toOk) (hy.fn ok.toOk))
      (J_app (hc X) n (j := j) (by rw [ok.N]; exact hM) (by rw [ok.sc]; exact visOf hvy) hdy hline (hb X) (hs X)) (hs0 X.env)) ?_
    have hi := (List.getElem?_eq_some_iff.mp hΓ).1
    obtain ⟨v, eσ, r0⟩ := s.get_own hΓ
    obtain ⟨a, vs, r1, hl⟩ := oV_J1 h2 r0
    have sA : StOk C F H ((Γ.set i (.own (oJL Itm1 a vs (1000000 + 0)))).set j .no) σ g := by
      have q := (s.set_own (i := i) (O := oJL Itm1 a vs (1000000 + 0)) (G := g i) (v := v) r1 (s.sG i) (s.dF i) (fun j hj => s.dG j i hj)).set_no (i := j) (o := (σ[j]?).getD none)
      have eg : setG g i (g i) = g := by funext k; unfold setG; split <;> simp_all
      have e1 : σ.set i (some v) = σ := by
        refine List.ext_getElem? fun k => ?_
        by_cases hk : i = k
        · subst hk; rw [List.getElem?_set_self (by rw [← s.len]; exact hi), eσ]
        · rw [List.getElem?_set_ne hk]
      have e2 : σ.set j ((σ[j]?).getD none) = σ := by
        refine List.ext_getElem? fun k => ?_
        by_cases hk : j = k
        · subst hk
          cases q : σ[j]? with
          | none => rw [List.getElem?_eq_none]; rw [List.length_set]; exact List.getElem?_eq_none_iff.mp q
          | some o => rw [List.getElem?_set_self (List.getElem?_eq_some_iff.mp q).1]; rfl
        · rw [List.getElem?_set_ne hk]
      rw [eg, e1, e2] at q
      exact q
    have hHa : H a = some (.lst vs) := s.sG i a _ r1.2.1
    refine ⟨v, eσ, a, r1.1, ⟨vs, SqL.of hHa⟩, fun k n σ2 H2 => n = vs.length - k ∧ k ≤ vs.length ∧ ∃ g2, Fr F H (dU g) F H2 (dU g2) ∧ StOk C F H2 ((Γ.set i (.own (oJL Itm1 a vs (1000000 + k)))).set j .no) σ2 g2, ⟨vs.length, by simp, Nat.zero_le _, g, Fr.refl, sA⟩, ?_⟩
    rintro k n σ2 H2 ⟨rfl, hk, g2, f2, s2⟩
    have hΓ2 : ((Γ.set i (.own (oJL Itm1 a vs (1000000 + k)))).set j .no)[i]? = some (.own (oJL Itm1 a vs (1000000 + k))) := by
      rw [List.getElem?_set_ne (fun z => hij z.symm), List.getElem?_set_self hi]
    obtain ⟨v2, eσ2, ev2, hG2, hit⟩ := s2.get_own hΓ2
    have hH2 : H2 a = some (.lst vs) := s2.sG i a _ hG2
    by_cases hlt : k < vs.length
    · refine .inr ⟨⟨vs, vs[k], SqL.of hH2, List.getElem?_eq_getElem hlt⟩, _, fun σ' H' h => ⟨vs.length - (k + 1), by omega, h⟩, fun u H' y => ?_⟩
      obtain ⟨rfl, y⟩ := y
      have hu := y vs (SqL.of hH2)
      obtain ⟨b, rfl, hba, ws, hws, hwl⟩ := hit u (List.mem_of_getElem? hu)
      have hjl : j < σ2.length := by
        rw [← s2.len, List.length_set, List.length_set]
        exact Nat.le_of_ble_eq_true hjG
      have s3 := s2.set_no (i := j) (o := some (.ref b))
      rw [List.set_set] at s3
      have eσ3 : (σ2.set j (some (V.ref b)))[i]? = some (some v2) := by rw [List.getElem?_set_ne (fun z => hij z.symm)]; exact eσ2
      obtain ⟨s4, f4⟩ := s3.updG (i := i) (a := b) (o := .lst ws) (o' := .lst (ws ++ [w])) (O' := oJL Itm1 a vs (1000000 + (k + 1))) (v := v2) hws eσ3 (by rw [List.length_set, List.length_set]; exact hi)
        ⟨ev2, by rw [upd_ne hba.symm]; exact hG2, fun u hu => (hit u hu).upd (by simp; omega)⟩
      rw [List.set_comm _ _ (fun z => hij z.symm), List.set_set] at s4
      refine ⟨b, ws, by rw [List.getElem?_set_self hjl], s2.sG i b _ hws, by rw [PySem.sizeLine_eq]; omega, rfl, hlt, _, f2.trans f4, ?_⟩
      exact s4
    · have e : k = vs.length := by omega
      subst e
      refine .inl ⟨⟨vs, SqL.of hH2, Nat.le_refl _⟩, ?_⟩
      have s3 := s2.reown hΓ2 (O' := oJ C.fr) (fun F G v ⟨z1, z2, _⟩ => ⟨a, vs, z1, z2, by omega⟩)
      rw [List.set_comm _ _ (fun z => hij z.symm), List.set_set] at s3
      exact hm F H2 g2 σ2 f2 s3
/-- for z, y in x: y.append(c) -/
theorem Ex1.spoil2 {i j l : Nat} {x y z : Str} {px py pz tp p3 apos cpos pos3 : Pos} {kt : Nat} {w : V} {ρ1 : (Addr → Prop) → β → Rp} {r : α → Rp} [Flat r] {xss : List (β × List α)} (hN : C.N[i]? = some x) (hM : C.N[j]? = some y) (hL : C.N[l]? = some z) (hij : i ≠ j) (hil : i ≠ l) (hlj : l ≠ j) (hv : visB C.sc x = true) (hvy : visB C.sc y = true) (hy : Sto C y) (hz : Sto C z)
    (hΓ : Γ[i]? = some (.own (oV (fun N => rN N (rX2 N (ρ1 N) (rN N r))) C.fr xss))) (hd : (x == ("__debug__" : Str) || x == ("__classdict__" : Str)) = false) (hdy : (y == ("__debug__" : Str) || y == ("__classdict__" : Str)) = false) (hjG : Nat.ble (j + 1) Γ.length = true) (hc : ∀ X : Cx, PE X e (tC w)) (n : NoStar e)
    (hline : (apos.endLine == cpos.line) = true := by rfl) (hb : ∀ X : Cx, attributeBase (.Name y p3) "append" X.env (eval (.Name y p3) X.env) = eval (.Name y p3) X.env := by intro _; rfl)
    (hs : ∀ X : Cx, swapsWith (.Call (.Attribute (.Name y p3) "append" apos) [e] [] cpos) none pos3.line X.env = pure false := by intro _; rfl) (hs0 : ∀ (env : Env) z, foldedSetIterable (.Name x px) env z = pure z := by intro _ _; rfl) (hcm : C.cm = true := by rfl) :
    Ex1 C Γ (.For (.Tuple [.Name z pz, .Name y py] kt tp) (.Name x px) [.Expr (.Call (.Attribute (.Name y p3) "append" apos) [e] [] cpos) pos3] [] pos) (fun _ : Unit => .nx (((Γ.set i (.own (oJ C.fr))).set l .no).set j .no)) (W.req (xss.length ≤ 1000000 ∧ ∀ z ∈ xss, z.2.length ≤ 1000000) (pure ())) :=
  fun X Wx ok tk F H g σ s D hm => by
    obtain ⟨⟨h1, h2⟩, hm⟩ := hm
    rw [Bool.or_eq_false_iff] at hd
    refine W1.of (ps_for ok.po (ok.calm.trans hcm) (pi_list (pe_var (i := i) (by rw [ok.N]; exact hN) (by rw [ok.sc]; exact visOf hv) hd.1 hd.2)) (pg_tup (ok.calm.trans hcm) (pgs_cons (pg_name (i := l) ok.toOk.ndX (by rw [ok.N]; exact hL) (hz.loc ok.toOk) (hz.fn ok.toOk)) (pgs_cons (pg_name (i := j) ok.toOk.ndX (by rw [ok.N]; exact hM) (hy.loc ok.toOk) (hy.fn ok.toOk)) pgs_nil)))
      (J_app (hc X) n (j := j) (by rw [ok.N]; exact hM) (by rw [ok.sc]; exact visOf hvy) hdy hline (hb X) (hs X)) (hs0 X.env)) ?_
    have hi := (List.getElem?_eq_some_iff.mp hΓ).1
    obtain ⟨v, eσ, r0⟩ := s.get_own hΓ
    obtain ⟨a, vs, r1, hl⟩ := oV_J2 (r1 := fun _ : β => rU ()) h2 r0
    have stay : ∀ {τ : St} {k : Nat} {u : V}, τ[k]? = some (some u) → τ.set k (some u) = τ := fun {τ k u} h => by
      refine List.ext_getElem? fun m => ?_
      by_cases hk : k = m
      · subst hk; rw [List.getElem?_set_self (List.getElem?_eq_some_iff.mp h).1, h]
      · rw [List.getElem?_set_ne hk]
    have stay2 : ∀ {τ : St} {k : Nat}, τ.set k ((τ[k]?).getD none) = τ := fun {τ k} => by
      refine List.ext_getElem? fun m => ?_
      by_cases hk : k = m
      · subst hk
        cases q : τ[k]? with
        | none => rw [List.getElem?_eq_none]; rw [List.length_set]; exact List.getElem?_eq_none_iff.mp q
        | some o => rw [List.getElem?_set_self (List.getElem?_eq_some_iff.mp q).1]; rfl
      · rw [List.getElem?_set_ne hk]
    have sA : StOk C F H (((Γ.set i (.own (oJL Itm2 a vs (1000000 + 0)))).set l .no).set j .no) σ g := by
      have q := ((s.set_own (i := i) (O := oJL Itm2 a vs (1000000 + 0)) (G := g i) (v := v) r1 (s.sG i) (s.dF i) (fun j hj => s.dG j i hj)).set_no (i := l) (o := (σ[l]?).getD none)).set_no (i := j) (o := (σ[j]?).getD none)
      have eg : setG g i (g i) = g := by funext k; unfold setG; split <;> simp_all
      rw [eg, stay eσ, stay2, stay2] at q
      exact q
    have hHa : H a = some (.lst vs) := s.sG i a _ r1.2.1
    refine ⟨v, eσ, a, r1.1, ⟨vs, SqL.of hHa⟩, fun k n σ2 H2 => n = vs.length - k ∧ k ≤ vs.length ∧ ∃ g2, Fr F H (dU g) F H2 (dU g2) ∧ StOk C F H2 (((Γ.set i (.own (oJL Itm2 a vs (1000000 + k)))).set l .no).set j .no) σ2 g2, ⟨vs.length, by simp, Nat.zero_le _, g, Fr.refl, sA⟩, ?_⟩
    rintro k n σ2 H2 ⟨rfl, hk, g2, f2, s2⟩
    have hΓ2 : (((Γ.set i (.own (oJL Itm2 a vs (1000000 + k)))).set l .no).set j .no)[i]? = some (.own (oJL Itm2 a vs (1000000 + k))) := by
      rw [List.getElem?_set_ne (fun z => hij z.symm), List.getElem?_set_ne (fun z => hil z.symm), List.getElem?_set_self hi]
    have mv : ∀ {A B : Slot}, (((Γ.set i A).set l .no).set j .no).set i B = ((Γ.set i B).set l .no).set j .no := fun {A B} => by
      rw [List.set_comm _ _ (fun z => hij z.symm), List.set_comm _ _ (fun z => hil z.symm), List.set_set]
    have mv2 : ∀ {A : Slot}, (((((Γ.set i A).set l .no).set j .no).set l .no).set j .no) = ((Γ.set i A).set l .no).set j .no := fun {A} => by
      rw [List.set_comm _ _ (fun z => hlj z.symm), List.set_set, List.set_set]
    obtain ⟨v2, eσ2, ev2, hG2, hit⟩ := s2.get_own hΓ2
    have hH2 : H2 a = some (.lst vs) := s2.sG i a _ hG2
    by_cases hlt : k < vs.length
    · refine .inr ⟨⟨vs, vs[k], SqL.of hH2, List.getElem?_eq_getElem hlt⟩, _, fun σ' H' h => ⟨vs.length - (k + 1), by omega, h⟩, fun u H' y => ?_⟩
      obtain ⟨rfl, y⟩ := y
      have hu := y vs (SqL.of hH2)
      obtain ⟨T, v1, b, rfl, hTa, hT, hba, ws, hws, hwl⟩ := hit u (List.mem_of_getElem? hu)
      have hjl : j < (σ2.set l (some v1)).length := by
        rw [List.length_set, ← s2.len, List.length_set, List.length_set, List.length_set]
        exact Nat.le_of_ble_eq_true hjG
      have s3 := (s2.set_no (i := l) (o := some v1)).set_no (i := j) (o := some (.ref b))
      rw [mv2] at s3
      have eσ3 : ((σ2.set l (some v1)).set j (some (V.ref b)))[i]? = some (some v2) := by rw [List.getElem?_set_ne (fun z => hij z.symm), List.getElem?_set_ne (fun z => hil z.symm)]; exact eσ2
      obtain ⟨s4, f4⟩ := s3.updG (i := i) (a := b) (o := .lst ws) (o' := .lst (ws ++ [w])) (O' := oJL Itm2 a vs (1000000 + (k + 1))) (v := v2) hws eσ3 (by rw [List.length_set, List.length_set, List.length_set]; exact hi)
        ⟨ev2, by rw [upd_ne hba.symm]; exact hG2, fun u hu => (hit u hu).upd hws (by simp; omega)⟩
      rw [mv] at s4
      exact ⟨T, [v1, .ref b], rfl, SqT.of (s2.sG i T _ hT), rfl, v1, _, rfl, .ref b, _, rfl, rfl, b, ws, by rw [List.getElem?_set_self hjl], s2.sG i b _ hws, by rw [PySem.sizeLine_eq]; omega, rfl, hlt, _, f2.trans f4, s4⟩
    · have e : k = vs.length := by omega
      subst e
      refine .inl ⟨⟨vs, SqL.of hH2, Nat.le_refl _⟩, ?_⟩
      have s3 := s2.reown hΓ2 (O' := oJ C.fr) (fun F G v ⟨z1, z2, _⟩ => ⟨a, vs, z1, z2, by omega⟩)
      rw [mv] at s3
      exact hm F H2 g2 σ2 f2 s3
theorem StOk.drop {F H : Hp} {σ : St} {g : Nat → Hp} {i : Nat} {S : Slot} (s : StOk C F H (Γ.set i S) σ g) : StOk C F H (Γ.set i .no) σ g :=
  s.weak ⟨by simp, fun k S' h => by
    by_cases hk : i = k
    · subst hk
      by_cases hl : i < Γ.length
      · rw [List.getElem?_set_self hl] at h; exact .inl (Option.some.inj h).symm
      · rw [List.getElem?_eq_none (by rw [List.length_set]; omega)] at h; cases h
    · rw [List.getElem?_set_ne hk] at h
      exact .inr (.inl (by rw [List.getElem?_set_ne hk]; exact h))⟩
def oT : Op := ⟨fun _ _ _ => True, fun _ _ => trivial⟩
/-- a list -/
class IsLst (O : Op) : Prop where
  l : ∀ F G v, O.p F G v → ∃ a vs, v = .ref a ∧ G a = some (.lst vs)
instance {N : Addr → Prop} : IsLst (oJ N) := ⟨fun _ _ _ ⟨a, vs, e, h, _⟩ => ⟨a, vs, e, h⟩⟩
instance {N : Addr → Prop} {r : α → Rp} {xs : List α} : IsLst (oL N r xs) := ⟨fun _ _ _ ⟨a, vs, e, _, h, _⟩ => ⟨a, vs, e, by rw [h]; exact one_same⟩⟩
instance {N : Addr → Prop} {r : (Addr → Prop) → α → Rp} {xs : List α} : IsLst (oV (fun N => rN N (r N)) N xs) := ⟨fun _ _ _ ⟨_, a, vs, e, _, h, _⟩ => ⟨a, vs, e, h⟩⟩
/-- x.clear(), x being looked at no more -/
theorem Ex.spoilClear {i : Nat} {x : Str} {px apos cpos : Pos} {O : Op} [I : IsLst O] {m : W ω} (hN : C.N[i]? = some x) (hv : visB C.sc x = true) (hd : (x == ("__debug__" : Str) || x == ("__classdict__" : Str)) = false) (hΓ : Γ[i]? = some (.own O)) (hr : Ex C (Γ.set i .no) rest J m)
    (hline : (apos.endLine == cpos.line) = true := by rfl) (hb : ∀ X : Cx, attributeBase (.Name x px) "clear" X.env (eval (.Name x px) X.env) = eval (.Name x px) X.env := by intro _; rfl)
    (hs : ∀ X : Cx, swapsWith (.Call (.Attribute (.Name x px) "clear" apos) [] [] cpos) none pos.line X.env = pure false := by intro _; rfl) :
    Ex C Γ (.Expr (.Call (.Attribute (.Name x px) "clear" apos) [] [] cpos) pos :: rest) J m :=
  Ex.cons fun X Wx ok tk F H g σ s D hm => by
    rw [Bool.or_eq_false_iff] at hd
    refine W1.of (ps_expr (pe_bm0 PySem.F.plainAttrs_list PySem.F.slot_list_clear PySem.F.type_list_clear mt_clear (pe_var (i := i) (by rw [ok.N]; exact hN) (by rw [ok.sc]; exact visOf hv) hd.1 hd.2) (hb X) hline) (hs X)) ?_
    obtain ⟨v, eσ, r⟩ := s.get_own hΓ
    obtain ⟨a, vs, ev, hG⟩ := I.l _ _ _ r
    subst ev
    have hH := s.sG i a _ hG
    obtain ⟨s3, f3⟩ := s.updG (O' := oT) (o' := .lst []) hG eσ (List.getElem?_eq_some_iff.mp hΓ).1 trivial
    exact ⟨.ref a, eσ, .inl ⟨rfl, _, SqL.of hH⟩, a, vs, rfl, rfl, hH, hr.later ok tk f3 s3.drop hm⟩
/-- x.append(c), x being looked at no more -/
theorem Ex.spoilApp {i : Nat} {x : Str} {px apos cpos : Pos} {O : Op} {ρ : β → Rp} {me : W β} {cnd : Prop} (hO : cnd → ∀ F G v, O.p F G v → ∃ a vs, v = .ref a ∧ G a = some (.lst vs) ∧ vs.length ≤ 2000000) {m : W ω} (hN : C.N[i]? = some x) (hv : visB C.sc x = true) (hd : (x == ("__debug__" : Str) || x == ("__classdict__" : Str)) = false) (hΓ : Γ[i]? = some (.own O)) (h : Ev C Γ e ρ me) (n : NoStar e) (hr : Ex C (Γ.set i .no) rest J m)
    (hline : (apos.endLine == cpos.line) = true := by rfl) (hb : ∀ X : Cx, attributeBase (.Name x px) "append" X.env (eval (.Name x px) X.env) = eval (.Name x px) X.env := by intro _; rfl)
    (hs : ∀ X : Cx, swapsWith (.Call (.Attribute (.Name x px) "append" apos) [e] [] cpos) none pos.line X.env = pure false := by intro _; rfl) :
    Ex C Γ (.Expr (.Call (.Attribute (.Name x px) "append" apos) [e] [] cpos) pos :: rest) J (W.req cnd (do let _ ← me; m)) :=
  Ex.cons fun X Wx ok tk F H g σ s D hm => by
    rw [Bool.or_eq_false_iff] at hd
    refine W1.of (ps_expr (pe_bm PySem.F.plainAttrs_list PySem.F.slot_list_append PySem.F.type_list_append mt_append (pe_var (i := i) (by rw [ok.N]; exact hN) (by rw [ok.sc]; exact visOf hv) hd.1 hd.2) (pa_cons (pe_W (e := e)) pa_nil (n [] X.env)) (hb X) (fewArgs1 n cpos) hline (n [] X.env) rfl) (hs X)) ?_
    obtain ⟨v, eσ, r⟩ := s.get_own hΓ
    obtain ⟨hcnd, hm⟩ := hm
    obtain ⟨a0, vs0, ev0, hG0, _⟩ := hO hcnd _ _ _ r
    subst ev0
    refine ⟨.ref a0, eσ, .inl ⟨rfl, ⟨_, SqL.of (s.sG i a0 _ hG0)⟩⟩, ?_⟩
    refine h X Wx ok.toOk tk F H g σ s _ (me.mono (fun y hy F1 H1 g1 w f1 s1 r1 => ?_) (fun e he => he.ex) hm)
    obtain ⟨v', eσ', r'⟩ := s1.get_own hΓ
    rw [eσ] at eσ'
    cases eσ'
    obtain ⟨a, vs, ev, hG, hl⟩ := hO hcnd _ _ _ r'
    have ea : a = a0 := by cases ev; rfl
    subst ea
    have hH := s1.sG i a _ hG
    obtain ⟨s3, f3⟩ := s1.updG (O' := oT) (o' := .lst (vs ++ [w])) hG eσ (List.getElem?_eq_some_iff.mp hΓ).1 trivial
    exact ⟨a, vs, w, rfl, rfl, hH, by rw [PySem.sizeLine_eq]; omega, hr.later ok tk (f1.trans f3) s3.drop hy⟩
/-- x[n].append(c), x being looked at no more -/
theorem Ex.spoilAt {i n : Nat} {x : Str} {px pp pk apos cpos : Pos} {jk : Nat} {O : Op} {ρ : β → Rp} {me : W β} {cnd : Prop} (hO : cnd → ∀ F G v, O.p F G v → ∃ T us b ws, v = .ref T ∧ G T = some (.tup us) ∧ us[n]? = some (V.ref b) ∧ G b = some (.lst ws) ∧ ws.length ≤ 2000000) {m : W ω}
    (hN : C.N[i]? = some x) (hv : visB C.sc x = true) (hd : (x == ("__debug__" : Str) || x == ("__classdict__" : Str)) = false) (hΓ : Γ[i]? = some (.own O)) (hbo : All2 (Bo C) Γ Γ') (hvo : noOwn Γ' = true) (h : Ev C Γ' e ρ me) (ns : NoStar e) (hr : Ex C (Γ.set i .no) rest J m)
    (hline : (apos.endLine == cpos.line) = true := by rfl) (hb : ∀ X : Cx, attributeBase (.Subscript (.Name x px) (.Constant (.int (n : Int)) jk pk) pp) "append" X.env (eval (.Subscript (.Name x px) (.Constant (.int (n : Int)) jk pk) pp) X.env) = eval (.Subscript (.Name x px) (.Constant (.int (n : Int)) jk pk) pp) X.env := by intro _; rfl)
    (hs : ∀ X : Cx, swapsWith (.Call (.Attribute (.Subscript (.Name x px) (.Constant (.int (n : Int)) jk pk) pp) "append" apos) [e] [] cpos) none pos.line X.env = pure false := by intro _; rfl) :
    Ex C Γ (.Expr (.Call (.Attribute (.Subscript (.Name x px) (.Constant (.int (n : Int)) jk pk) pp) "append" apos) [e] [] cpos) pos :: rest) J (W.req cnd (do let _ ← me; m)) :=
  Ex.cons fun X Wx ok tk F H g σ s D hm => by
    rw [Bool.or_eq_false_iff] at hd
    refine W1.of (ps_expr (pe_bm PySem.F.plainAttrs_list PySem.F.slot_list_append PySem.F.type_list_append mt_append (pe_ix ix_tup (pe_var (i := i) (by rw [ok.N]; exact hN) (by rw [ok.sc]; exact visOf hv) hd.1 hd.2) pe_int (fun _ _ => rfl)) (pa_cons (pe_W (e := e)) pa_nil (ns [] X.env)) (hb X) (fewArgs1 ns cpos) hline (ns [] X.env) rfl) (hs X)) ?_
    obtain ⟨v, eσ, r⟩ := s.get_own hΓ
    obtain ⟨hcnd, hm⟩ := hm
    obtain ⟨T, us, b, ws, ev, hT, hu, hG, hl⟩ := hO hcnd _ _ _ r
    refine ⟨v, eσ, T, us, n, .ref b, ev, rfl, SqT.of (s.sG i T _ hT), atI_nat hu, .inl ⟨rfl, ⟨_, SqL.of (s.sG i b _ hG)⟩⟩, ?_⟩
    have hv' : ∀ (i : Nat) (O : Op), Γ'[i]? ≠ some (Slot.own O) := fun i O q => noOwn.ok hvo _ (List.mem_of_getElem? q) O rfl
    refine h X Wx ok.toOk tk _ H _ σ (s.frzA hbo hv').1 _ (me.mono (fun y hy F1 H1 g1 w f1 s1 r1 => ?_) (fun x hx => hx.ex.frz s hbo hv') hm)
    obtain ⟨s2, f2⟩ := s.unfrz hbo hv' f1 s1
    have hH := s2.sG i b _ hG
    obtain ⟨s3, f3⟩ := s2.updG (O' := oT) (o' := .lst (ws ++ [w])) hG eσ (List.getElem?_eq_some_iff.mp hΓ).1 trivial
    exact ⟨b, ws, w, rfl, rfl, hH, by rw [PySem.sizeLine_eq]; omega, hr.later ok tk (f2.trans f3) s3.drop hy⟩
end
end Y

/-! Y22: a statement that reads own things -/
namespace Y
open PySem PySem.Spec L2
section
variable {C : Cc} {Γ Γ' : List Slot} {α β γ δ ε ω : Type} {J : ω → Out}
/-- a value that is just u -/
def pin (ρ : α → Rp) (u : V) : α → Rp := fun a => ⟨fun F v => (ρ a).p F v ∧ v = u, fun h ⟨x, e⟩ => ⟨(ρ a).mono h x, e⟩⟩
theorem subPin {ρ : α → Rp} {u : V} : SubK (pin ρ u) ρ := fun _ _ _ h => h.1
def rTop (_ : Unit) : Rp := ⟨fun _ _ => True, fun _ _ => trivial⟩
/-- slots as they are pinned -/
inductive PinB (C : Cc) (pv : Nat → V) : Nat → List Slot → List Slot → Prop
  | nil {n} : PinB C pv n [] []
  | no {n S Γ Γ'} : PinB C pv (n + 1) Γ Γ' → PinB C pv n (S :: Γ) (.no :: Γ')
  | val {n Γ Γ'} {α : Type} {ρ : α → Rp} {a : α} : PinB C pv (n + 1) Γ Γ' → PinB C pv n (.val (ρ a) :: Γ) (.val (pin ρ (pv n) a) :: Γ')
  | own {n Γ Γ'} {α : Type} {O : Op} {ρ : α → Rp} {a : α} (h : Bo C (.own O) (.val (ρ a))) : PinB C pv (n + 1) Γ Γ' → PinB C pv n (.own O :: Γ) (.val (pin ρ (pv n) a) :: Γ')
  | top {n Γ Γ'} {O : Op} : PinB C pv (n + 1) Γ Γ' → PinB C pv n (.own O :: Γ) (.val (pin rTop (pv n) ()) :: Γ')
/-- slots of before, of behind (pinned), what is told behind -/
inductive PinA (pv : Nat → V) : Nat → List Slot → List Slot → List Slot → Prop
  | nil {n} : PinA pv n [] [] []
  | no {n S S' Γ Γ2 Γ3} : PinA pv (n + 1) Γ Γ2 Γ3 → PinA pv n (S :: Γ) (S' :: Γ2) (.no :: Γ3)
  | keep {n S Γ Γ2 Γ3} {α : Type} {ρ : α → Rp} {a : α} : PinA pv (n + 1) Γ Γ2 Γ3 → PinA pv n (S :: Γ) (.val (pin ρ (pv n) a) :: Γ2) (S :: Γ3)
  | fre {n S Γ Γ2 Γ3} {α : Type} {ρ : α → Rp} [I : Fre ρ] {a : α} : PinA pv (n + 1) Γ Γ2 Γ3 → PinA pv n (S :: Γ) (.val (ρ a) :: Γ2) (.val (ρ a) :: Γ3)
theorem PinB.get {pv : Nat → V} {n : Nat} {Γ Γ' : List Slot} (h : PinB C pv n Γ Γ') : ∀ {i : Nat} {S' : Slot}, Γ'[i]? = some S' → ∃ S, Γ[i]? = some S ∧
    (S' = .no ∨ (∃ (α : Type) (ρ : α → Rp) (a : α), S' = .val (pin ρ (pv (n + i)) a) ∧ (S = .val (ρ a) ∨ (∃ O, S = .own O ∧ (Bo C (.own O) (.val (ρ a)) ∨ ∀ F v, (ρ a).p F v))))) := by
  induction h with
  | nil => intro i S' e; simp at e
  | no _ ih =>
    intro i S' e
    cases i with
    | zero => simp at e; exact ⟨_, rfl, .inl e.symm⟩
    | succ i =>
      obtain ⟨S, h1, h2⟩ := ih (i := i) (by simpa using e)
      exact ⟨S, by simpa using h1, by rw [Nat.add_right_comm] at h2; exact h2⟩
  | val _ ih =>
    intro i S' e
    cases i with
    | zero => simp at e; exact ⟨_, rfl, .inr ⟨_, _, _, e.symm, .inl rfl⟩⟩
    | succ i =>
      obtain ⟨S, h1, h2⟩ := ih (i := i) (by simpa using e)
      exact ⟨S, by simpa using h1, by rw [Nat.add_right_comm] at h2; exact h2⟩
  | own hb _ ih =>
    intro i S' e
    cases i with
    | zero => simp at e; exact ⟨_, rfl, .inr ⟨_, _, _, e.symm, .inr ⟨_, rfl, .inl hb⟩⟩⟩
    | succ i =>
      obtain ⟨S, h1, h2⟩ := ih (i := i) (by simpa using e)
      exact ⟨S, by simpa using h1, by rw [Nat.add_right_comm] at h2; exact h2⟩
  | top _ ih =>
    intro i S' e
    cases i with
    | zero => simp at e; exact ⟨_, rfl, .inr ⟨_, _, _, e.symm, .inr ⟨_, rfl, .inr fun _ _ => trivial⟩⟩⟩
    | succ i =>
      obtain ⟨S, h1, h2⟩ := ih (i := i) (by simpa using e)
      exact ⟨S, by simpa using h1, by rw [Nat.add_right_comm] at h2; exact h2⟩
theorem PinB.len {pv : Nat → V} {n : Nat} {Γ Γ' : List Slot} (h : PinB C pv n Γ Γ') : Γ'.length = Γ.length := by
  induction h <;> simp_all
theorem PinA.len {pv : Nat → V} {n : Nat} {Γ Γ2 Γ3 : List Slot} (h : PinA pv n Γ Γ2 Γ3) : Γ3.length = Γ2.length ∧ Γ.length = Γ2.length := by
  induction h <;> simp_all
theorem PinA.get {pv : Nat → V} {n : Nat} {Γ Γ2 Γ3 : List Slot} (h : PinA pv n Γ Γ2 Γ3) : ∀ {i : Nat} {S3 : Slot}, Γ3[i]? = some S3 → S3 = .no ∨ (∃ (α : Type) (ρ : α → Rp) (a : α), Γ[i]? = some S3 ∧ Γ2[i]? = some (.val (pin ρ (pv (n + i)) a))) ∨
    (∃ (α : Type) (ρ : α → Rp) (a : α), Fre ρ ∧ S3 = .val (ρ a) ∧ Γ2[i]? = some (.val (ρ a))) := by
  induction h with
  | nil => intro i S' e; simp at e
  | no _ ih =>
    intro i S' e
    cases i with
    | zero => simp at e; exact .inl e.symm
    | succ i =>
      rcases ih (i := i) (by simpa using e) with q | ⟨α, ρ, a, h1, h2⟩ | ⟨α, ρ, a, h1, h2, h3⟩
      · exact .inl q
      · exact .inr (.inl ⟨α, ρ, a, by simpa using h1, by rw [Nat.add_right_comm] at h2; exact h2⟩)
      · exact .inr (.inr ⟨α, ρ, a, h1, h2, by simpa using h3⟩)
  | keep _ ih =>
    intro i S' e
    cases i with
    | zero => simp at e; subst e; exact .inr (.inl ⟨_, _, _, rfl, rfl⟩)
    | succ i =>
      rcases ih (i := i) (by simpa using e) with q | ⟨α, ρ, a, h1, h2⟩ | ⟨α, ρ, a, h1, h2, h3⟩
      · exact .inl q
      · exact .inr (.inl ⟨α, ρ, a, by simpa using h1, by rw [Nat.add_right_comm] at h2; exact h2⟩)
      · exact .inr (.inr ⟨α, ρ, a, h1, h2, by simpa using h3⟩)
  | @fre _ _ _ _ _ α ρ I a _ ih =>
    intro i S' e
    cases i with
    | zero => simp at e; exact .inr (.inr ⟨α, ρ, a, I, e.symm, rfl⟩)
    | succ i =>
      rcases ih (i := i) (by simpa using e) with q | ⟨α, ρ, a, h1, h2⟩ | ⟨α, ρ, a, h1, h2, h3⟩
      · exact .inl q
      · exact .inr (.inl ⟨α, ρ, a, by simpa using h1, by rw [Nat.add_right_comm] at h2; exact h2⟩)
      · exact .inr (.inr ⟨α, ρ, a, h1, h2, by simpa using h3⟩)
theorem StOk.frzP {F H : Hp} {σ : St} {g : Nat → Hp} {pv : Nat → V} (s : StOk C F H Γ σ g) (hb : PinB C pv 0 Γ Γ') (hpv : ∀ i u, σ[i]? = some (some u) → pv i = u) : StOk C (Y.frzA F H g) H Γ' σ (fun _ => emp) ∧ Same F (Y.frzA F H g) ∧ (∀ i, Same (g i) (Y.frzA F H g)) := by
  have hbn : All2 (Bo C) Γ (List.replicate Γ.length .no) := by
    induction Γ with
    | nil => exact .nil
    | cons S Γ ih =>
      rw [List.length_cons, List.replicate_succ]
      exact .cons .no (by
        clear ih hb s
        induction Γ with
        | nil => exact .nil
        | cons S Γ ih => rw [List.length_cons, List.replicate_succ]; exact .cons .no ih)
  obtain ⟨s0, sF, sG, _⟩ := s.frzA hbn (fun i O q => by
    rw [List.getElem?_replicate] at q
    split at q
    · cases q
    · cases q)
  refine ⟨⟨hb.len.trans s.len, fun i S' q => ?_, s0.sF, s0.sG, s0.dF, s0.dG, s0.fr⟩, sF, sG⟩
  obtain ⟨S, q0, h⟩ := hb.get q
  have x := s.slot i S q0
  rcases h with e | ⟨α, ρ, a, e, h⟩
  · subst e; trivial
  · subst e
    rw [Nat.zero_add]
    rcases h with e | ⟨O, e, h | h⟩
    · subst e
      obtain ⟨v, e1, r⟩ := x
      exact ⟨v, e1, (ρ a).mono sF r, (hpv i v e1).symm⟩
    · subst e
      obtain ⟨v, e1, r⟩ := x
      refine ⟨v, e1, ?_, (hpv i v e1).symm⟩
      generalize eS : Slot.own O = S1 at h
      generalize eR : Slot.val (ρ a) = S2 at h
      cases h with
      | rf => rw [← eR] at eS; cases eS
      | @li α0 r0 xs0 N0 =>
        cases eS
        obtain ⟨a1, vs, e2, n, e3, t⟩ := r
        have eR' : ρ a = rN N0 r0 xs0 := by injection eR
        rw [eR']
        exact ⟨a1, vs, e2, n, sG i a1 _ (by rw [e3]; exact one_same), t.imp fun _ _ z => (r0 _).mono sF z⟩
      | no => cases eR
      | @ge O1 R1 hg =>
        cases eS
        have eR' : ρ a = R1 := by injection eR
        rw [eR']
        exact hg _ _ _ _ sF (sG i) r
      | sb => cases eS
    · subst e
      obtain ⟨v, e1, r⟩ := x
      exact ⟨v, e1, h _ _, (hpv i v e1).symm⟩
theorem StOk.unfrzP {F H F' H' : Hp} {Γ2 Γ3 : List Slot} {σ σ' : St} {g g' : Nat → Hp} {pv : Nat → V} (s : StOk C F H Γ σ g) (sF : Same F (Y.frzA F H g)) (sG : ∀ i, Same (g i) (Y.frzA F H g)) (hpv : ∀ i u, σ[i]? = some (some u) → pv i = u) (f : Fr (Y.frzA F H g) H (dU fun _ => emp) F' H' (dU g')) (s' : StOk C F' H' Γ2 σ' g') (ha : PinA pv 0 Γ Γ2 Γ3) :
    StOk C F H' Γ3 σ' g ∧ Fr F H (dU g) F H' (dU g) := by
  refine ⟨⟨ha.len.1.trans s'.len, fun i S3 q => ?_, (sF.trans f.sF).trans s'.sF, fun i => ((sG i).trans f.sF).trans s'.sF, s.dF, s.dG, s'.fr⟩, Same.refl _, fun b q => .inl q, fun b o q n => f.keep b o q fun ⟨_, z⟩ => z rfl, f.dom, fun b q => .inl q⟩
  rcases ha.get q with e | ⟨α, ρ, a, h1, h2⟩ | ⟨α, ρ, a, I, e, h2⟩
  · subst e; trivial
  · rw [Nat.zero_add] at h2
    obtain ⟨v, e1, r, e2⟩ := s'.get_val h2
    have x := s.slot i S3 h1
    cases S3 with
    | no => trivial
    | val R =>
      obtain ⟨w, e3, r3⟩ := x
      have := hpv i w e3
      exact ⟨v, e1, by rw [e2, this]; exact r3⟩
    | own O =>
      obtain ⟨w, e3, r3⟩ := x
      have := hpv i w e3
      exact ⟨v, e1, by rw [e2, this]; exact r3⟩
  · subst e
    obtain ⟨v, e1, r⟩ := s'.get_val h2
    exact ⟨v, e1, I.fre _ _ _ r _⟩
/-- what a pinned outcome tells -/
def PinO (Γ : List Slot) (pv : Nat → V) : Out → Out → Prop
  | .nx Γ2, .nx Γ3 => PinA pv 0 Γ Γ2 Γ3
  | .rt R, .rt R' => R = R' ∧ ∀ F F' v, R.p F v → R.p F' v
  | _, _ => False
/-- a statement that reads own things -/
theorem Ex1.brw {st : Stmt} {m : W ω} {Γq : (Nat → V) → List Slot} {Jq : (Nat → V) → ω → Out} (hb : ∀ pv, PinB C pv 0 Γ (Γq pv)) (h : ∀ pv, Ex1 C (Γq pv) st (Jq pv) m) (hJ : ∀ pv o, PinO Γ pv (Jq pv o) (J o)) : Ex1 C Γ st J m :=
  fun X Wx ok tk F H g σ s D hm => by
    obtain ⟨pv, hpv⟩ : ∃ pv : Nat → V, ∀ i u, σ[i]? = some (some u) → pv i = u := ⟨fun i => ((σ[i]?).getD none).getD .non, fun i u e => by simp [e]⟩
    obtain ⟨s1, sF, sG⟩ := s.frzP (hb pv) hpv
    refine h pv X Wx ok tk _ H _ σ s1 D (m.mono (fun o ho => ?_) (fun e he => ?_) hm)
    · have hJ' := hJ pv o
      cases e1 : Jq pv o with
      | nx Γ2 =>
        rw [e1] at hJ'
        cases e2 : J o with
        | nx Γ3 =>
          rw [e2] at hJ' ho
          intro F' H' g' σ' f s'
          obtain ⟨s2, f2⟩ := s.unfrzP sF sG hpv f s' hJ'
          exact ho F H' g σ' f2 s2
        | _ => rw [e2] at hJ'; exact hJ'.elim
      | rt R =>
        rw [e1] at hJ'
        cases e2 : J o with
        | rt R' =>
          rw [e2] at hJ' ho
          obtain ⟨eR, hR⟩ := hJ'
          subst eR
          intro F' H' g' v f s' r
          exact ho F H' g v ⟨Same.refl _, fun b q => .inl q, fun b o q n => f.keep b o q fun ⟨_, z⟩ => z rfl, f.dom, fun b q => .inl q⟩ ((sF.trans f.sF).trans s') (hR _ _ _ r)
        | _ => rw [e2] at hJ'; exact hJ'.elim
      | _ => rw [e1] at hJ'; exact hJ'.elim
    · intro F' H' g' σ' cls d f s' hx
      exact he F H' g σ' cls d ⟨Same.refl _, fun b q => .inl q, fun b o q n => f.keep b o q fun ⟨_, z⟩ => z rfl, f.dom, fun b q => .inl q⟩ ((sF.trans f.sF).trans s') (hx.reg s.sG)
end
end Y

/-! Y23: xs[i] += e -/
namespace Y
open PySem PySem.Spec L2
section
variable {C : Cc} {Γ Γ' : List Slot} {α β γ δ ε ω : Type} {J : ω → Out} {e : Expr} {pos : Pos} {rest : List Stmt} {x : Str}
theorem get_list {X : Cx} : PGet X (rIxL X.K) := by
  intro pins s σ H x y v u Q I rx ry h
  obtain ⟨p, xs, i, z, rfl, rfl, hq, he, q⟩ := h
  cases rx
  obtain ⟨t, rfl⟩ := ry
  obtain ⟨its, r, pl, hz⟩ := I.list hq
  obtain ⟨j, h1, h2, h3, h4, h5⟩ := atI_get he
  obtain ⟨w, ew, rw'⟩ := r.get h2
  have hl := r.length
  have hn := line63
  have fin : EP X pins σ Q w s := ⟨z, H, I, rw', q⟩
  by_cases h0 : 0 ≤ i
  · have hj : i.toNat = j := by
      rw [seqIndex_of h0 h5] at h1
      exact Option.some.inj h1
    exact wpAny_getItem_list pl.isList h0 (by omega) (by rw [hj]; simpa using ew) fin
  · have hj : (i + (its.toArray.size : Int)).toNat = j := by
      rw [seqIndex_neg (by omega) h4] at h1
      rw [List.size_toArray, ← hl]
      exact Option.some.inj h1
    exact wpAny_getItem_list_neg pl.isList (by omega) (by rw [List.size_toArray] <;> omega) (by omega) (by rw [hj]; simpa using ew) fin
/-- xs[i] op= e, ints -/
theorem Ex.augIx {i : Nat} {N : Addr → Prop} {px spos : Pos} {op : Operator} {f : Int → Int → Int} {xs : List Int} {m : W Int} {mi : W Int} {ix : Expr} {k : List Int → W ω} (hop : ∀ X : Cx, PIp X op (ipI f)) (hN : C.N[i]? = some x) (hv : visB C.sc x = true) (hΓ : Γ[i]? = some (.own (oL N rI xs))) (hi : Ev C Γ ix rI mi) (h : Ev C Γ e rI m) (hr : ∀ ys, Ex C (Γ.set i (.own (oL N rI ys))) rest J (k ys))
    (hd : (x == ("__debug__" : Str)) = false := by decide) (hcd : (x == ("__classdict__" : Str)) = false := by decide)
    (ha : ∀ ov iv new, augStore ix ov iv new = (do holding [new, ov, iv] (setItem ov iv new); release [new, ov, iv] []; pure .next) := by intros; rfl) :
    Ex C Γ (.AugAssign (.Subscript (.Name x px) ix spos) op e pos :: rest) J (do let j ← mi; let b ← idx xs j; let a ← m; let ys ← setI xs j (f b a); k ys) :=
  Ex.cons fun X Wx ok tk F H g σ s D hm => by
    refine W1.of (ps_augS (pe_var (i := i) (by rw [ok.N]; exact hN) (by rw [ok.sc]; exact visOf hv) hd hcd) (pe_W (e := ix)) get_list (pe_W (e := e)) (hop X) set_list ha) ?_
    obtain ⟨v, eσ, a, vs, ev, na, eg, t⟩ := s.get_own hΓ
    subst ev
    refine ⟨.ref a, eσ, ?_⟩
    refine hi X Wx ok.toOk tk F H g σ s _ (mi.mono (fun j hj F2 H2 g2 w f2 s2 r2 => ?_) (fun e he => he.ex) hm)
    obtain ⟨v', eσ', a', vs', ev', na', eg', t'⟩ := s2.get_own hΓ
    rw [eσ] at eσ'
    cases eσ'
    cases ev'
    replace hj : (W.bind (idx xs j) fun b => do let a ← m; let ys ← setI xs j (f b a); k ys).wp _ _ := hj
    unfold idx at hj
    cases hx : L2.atI xs j with
    | none => rw [hx] at hj; exact hj.elim
    | some y =>
      rw [hx] at hj
      obtain ⟨u, hu, ru⟩ := t'.atI hx
      refine ⟨a, vs', j, u, rfl, r2, SqL.of (s2.sG i a _ (by rw [eg']; exact one_same)), hu, ?_⟩
      refine h X Wx ok.toOk tk F2 H2 g2 σ s2 _ (m.mono (fun z hz F3 H3 g3 w3 f3 s3 r3 => ?_) (fun e he => (he.later f2).ex) hj)
      obtain ⟨v3, eσ3, a3, vs3, ev3, na3, eg3, t3⟩ := s3.get_own hΓ
      rw [eσ] at eσ3
      cases eσ3
      cases ev3
      refine ⟨y, z, ru, r3, ?_⟩
      replace hz : (W.bind (setI xs j (f y z)) k).wp _ _ := hz
      unfold setI at hz
      cases q : ixN xs.length j with
      | none => rw [q] at hz; exact hz.elim
      | some n =>
        rw [q] at hz
        obtain ⟨s4, f4, hH4⟩ := s3.upd_own (O' := oL N rI (xs.set n (f y z))) (o' := .lst (vs3.set n (.int (f y z)))) eg3 eσ (List.getElem?_eq_some_iff.mp hΓ).1 ⟨a, vs3.set n (.int (f y z)), rfl, na3, rfl, t3.set rfl n⟩
        exact ⟨a, vs3, j, n, rfl, r2, hH4, by rw [t3.length]; exact q, (hr _).later ok tk (f2.trans (f3.trans f4)) s4 hz⟩
theorem nnX {N : Addr → Prop} {r1 : α → Rp} {r2 : β → Rp} (x : α × β) (F : Hp) (v : V) (h : (rX2 N r1 r2 x).p F v) : v ≠ .non := fun z => by obtain ⟨_, _, _, e, _⟩ := h; rw [z] at e; cases e
/-- xs.index(k), ints -/
theorem eqV_int (a b : Int) : eqV (.int a) (.int b) = (a == b) := rfl
theorem Ev.indexI {o b : Expr} {apos cpos : Pos} {ma : W (List Int)} {mb : W Int} (ha : Ev C Γ o (rL C.K rI) ma) (hb : Ev C Γ b rI mb) (hn : NoStar b) (hline : (apos.endLine == cpos.line) = true := by rfl) (hbs : ∀ X : Cx, attributeBase o "index" X.env (eval o X.env) = eval o X.env := by intro _; rfl) :
    Ev C Γ (.Call (.Attribute o "index" apos) [b] [] cpos) rI (do let xs ← ma; let k ← mb; W.req (k ∈ xs) (pure (xs.idxOf k : Int))) :=
  fun X Wx ok tk F H g σ s Q hm => by
    refine WE.of (pe_bm PySem.F.plainAttrs_list PySem.F.slot_list_index PySem.F.type_list_index mt_index (pe_W (e := o)) (pa_cons (pe_W (e := b)) pa_nil (hn [] X.env)) (hbs X) (fewArgs1 hn cpos) hline (hn [] X.env) rfl) ?_
    refine ha X Wx ok tk F H g σ s _ (ma.mono (fun xs hx F1 H1 g1 v f1 s1 r1 => ?_) (fun e he => he) hm)
    obtain ⟨q, vs, ev, hq, t⟩ := r1
    refine ⟨by rw [ev]; exact .inl ⟨rfl, _, by rw [ok.K]; exact s1.sF.seq hq⟩, ?_⟩
    refine hb X Wx ok tk F1 H1 g1 σ s1 _ (mb.mono (fun k hk F2 H2 g2 w f2 s2 r2 => ?_) (fun e he => he.later f1) hx)
    have r2 : w = .int k := r2
    subst r2
    obtain ⟨hmem, hk⟩ := hk
    have ev2 : vs = xs.map V.int := t.ints
    have hlt : xs.idxOf k < xs.length := List.idxOf_lt_length_iff.mpr hmem
    refine ⟨q, vs, .int k, xs.idxOf k, .int k, ev, rfl, by rw [ok.K]; exact s2.sF.seq (f2.sF.seq hq), rfl, by rw [ev2]; simp [List.all_eq_true, flatV], by rw [ev2, List.getElem?_map, List.getElem?_eq_getElem hlt, List.getElem_idxOf hlt]; rfl, by rw [eqV_int]; simp, fun m z' hmj hz => ?_, hk F2 H2 g2 _ (f1.trans f2) s2 rfl⟩
    rw [ev2, List.getElem?_map, List.getElem?_eq_getElem (by omega)] at hz
    cases hz
    rw [eqV_int]
    have := List.not_of_lt_findIdx (p := (· == k)) (xs := xs) (i := m) hmj
    simpa using this
end
end Y

/-! Y24: min(xs, default=d) -/
namespace Y
open PySem PySem.Spec L2
section
variable {C : Cc} {Γ Γ' : List Slot} {α β γ δ ε ω : Type} {J : ω → Out} {e e2 : Expr} {p pos : Pos} {rest : List Stmt} {x : Str}
theorem foldl_min_mem : ∀ (ys : List Int) (y : Int), ys.foldl min y ∈ y :: ys ∧ ∀ z ∈ y :: ys, ys.foldl min y ≤ z
  | [], y => by simp
  | a :: ys, y => by
    obtain ⟨h1, h2⟩ := foldl_min_mem ys (min y a)
    rw [List.foldl_cons]
    have h3 := h2 (min y a) (by simp)
    refine ⟨?_, fun z hz => ?_⟩
    · rcases List.mem_cons.mp h1 with q | q
      · rw [q]
        rcases Int.le_total y a with z | z
        · rw [Int.min_eq_left z]; simp
        · rw [Int.min_eq_right z]; simp
      · simp [q]
    · rcases List.mem_cons.mp hz with q | q
      · subst q; have := Int.min_le_left z a; omega
      · rcases List.mem_cons.mp q with q | q
        · subst q; have := Int.min_le_right y z; omega
        · exact h2 z (by simp [q])
def rMinD (K : PySem.W.Frag) : List V → List V → Hp → VK → Prop := fun vs zs H Q => ∃ (a : Addr) (ns : List Int) (d : Int), vs = [V.ref a] ∧ zs = [V.int d] ∧ SqL K H a (ns.map V.int) ∧ ∀ m, (ns = [] ∧ m = d ∨ m ∈ ns ∧ ∀ y, y ∈ ns → m ≤ y) → Q (.int m) H
theorem cr_minD {X : Cx} (hc : X.calm = true) (hu : X.A.units + 64 < cLine) : CallRK X (.builtin "min") [Str.ofString "default"] (rMinD X.K) := by
  intro pins s σ H vs zs us ws Q I r rz h
  obtain ⟨a, ns, d, rfl, rfl, hs, q⟩ := h
  obtain ⟨its, rv, hl, _⟩ := I.list hs
  rw [Vals.ref1 r]
  obtain ⟨w, rfl, rw'⟩ := rz.one
  obtain ⟨t, rfl⟩ := rw'
  have hi := rv.ints
  have hra := PyProof.Rows.ints_readAll s.heap hi
  refine PySem.W.min_list_default (I.ok.hd hc) hl.isList (by simpa using hra) ⟨fun x hx y hy => ?_, fun x hx => ?_⟩ (by rw [PySem.W.depth_ints]; omega) (fun e h' tk hk => ?_) (fun y ys i v h' tk bs e hv hr hk => ?_)
  · obtain ⟨x', _, rfl⟩ := List.mem_map.mp hx
    obtain ⟨y', _, rfl⟩ := List.mem_map.mp hy
    show PySem.W.alike (.int x') (.int y') = true
    simp only [PySem.W.alike]
  · obtain ⟨x', _, rfl⟩ := List.mem_map.mp hx
    exact fun z => by cases z
  · exact ⟨.int d, H, I.kept hk, ⟨_, rfl⟩, q d (.inl ⟨List.map_eq_nil_iff.mp e, rfl⟩)⟩
  · cases ns with
    | nil => cases e
    | cons k ns =>
      rw [List.map_cons] at e
      injection e with e1 e2
      subst e1
      subst e2
      rw [PySem.W.minD_ints] at hr
      obtain ⟨h1, h2⟩ := foldl_min_mem ns k
      cases hr with
      | int i t => exact ⟨.int _, H, I.kept hk, ⟨_, rfl⟩, q _ (.inr ⟨h1, h2⟩)⟩
theorem Ev.minD {m : W (List Int)} {md : W Int} {kpos : Pos} (hb : Blt C "min" (.builtin "min")) (ha : Ev C Γ e (rL C.K rI) m) (hd : Ev C Γ e2 rI md) (hn : NoStar e)
    (hall : ∀ X : Cx, (backToKw pos (keywordEach [⟨some "default", e2, kpos⟩] X.env)).all (·.1.isSome) = true := by intro _; rfl) (hnone : ∀ X : Cx, (backToKw pos (keywordEach [⟨some "default", e2, kpos⟩] X.env)).any (·.1.isNone) = false := by intro _; rfl) (hks : ∀ X : Cx, (backToKw pos (keywordEach [⟨some "default", e2, kpos⟩] X.env)).filterMap (·.1) = [Str.ofString "default"] := by intro _; rfl) (hcm : C.cm = true := by rfl) :
    Ev C Γ (.Call (.Name "min" p) [e] [⟨some "default", e2, kpos⟩] pos) rI (do let xs ← m; let d ← md; W.any fun m => xs = [] ∧ m = d ∨ m ∈ xs ∧ ∀ y ∈ xs, m ≤ y) :=
  fun X Wx ok tk F H g σ s Q hm => by
    refine WE.of (pe_callBK (cr_minD (ok.calm.trans hcm) ok.units) (hb.gl ok) (by rw [ok.mg]; exact hb.m) hb.v (pa_cons (pe_W (e := e)) pa_nil (hn [] X.env)) (pk_cons (pe_W (e := e2)) pk_nil) hb.n hb.d (by rw [hn [] X.env]; rfl) (by rw [hn [] X.env]; rfl) (hall X) (hnone X) (hks X)) ?_
    refine ha X Wx ok tk F H g σ s _ (m.mono (fun xs hx F1 H1 g1 v f1 s1 r1 => ?_) (fun e he => he) hm)
    obtain ⟨q, vs, ev, hq, t⟩ := r1
    refine hd X Wx ok tk F1 H1 g1 σ s1 _ (md.mono (fun d hd2 F2 H2 g2 w f2 s2 r2 => ?_) (fun e he => he.later f1) hx)
    have r2 : w = .int d := r2
    exact ⟨q, xs, d, by rw [ev], by rw [r2], by rw [ok.K, ← t.ints]; exact s2.sF.seq (f2.sF.seq hq), fun z hz => hd2 z hz F2 H2 g2 _ (f1.trans f2) s2 rfl⟩
end
end Y

/-! Y25: zip of three lists -/
namespace Y
open PySem PySem.Spec L2
/-- the lists at a, b, c as they stand at each turn, the items in new tuples -/
def Itz3 (K : PySem.W.Frag) (a b c : Addr) : It :=
  ⟨fun i H => ∃ (xs ys zs : List V) (x y z : V), SqL K H a xs ∧ SqL K H b ys ∧ SqL K H c zs ∧ xs[i]? = some x ∧ ys[i]? = some y ∧ zs[i]? = some z,
    fun i H v H' => ∃ T x y z, v = .ref T ∧ H T = none ∧ H' = upd H T (.tup [x, y, z]) ∧ (∀ xs, SqL K H a xs → xs[i]? = some x) ∧ (∀ ys, SqL K H b ys → ys[i]? = some y) ∧ ∀ zs, SqL K H c zs → zs[i]? = some z,
    fun i H => ∃ xs ys zs : List V, SqL K H a xs ∧ SqL K H b ys ∧ SqL K H c zs ∧ (xs.length ≤ i ∨ ys.length ≤ i ∨ zs.length ≤ i)⟩
theorem drawsX {prog : Program} {w : World} {A : Around} (hh : A.handled = none) (it l : Addr) (hne : l ≠ it) (items : Array Value) (i0 : Nat) :
    Draws prog w A it [it, l] (max i0 items.size) (fun i v => items[i]? = some v) (fun i h => h.IsListIter it l i ∧ h.IsList l items ∧ (items.size < i0 → i = i0)) where
  live := fun _ _ st => let ⟨o, ho, _⟩ := st.1; ⟨o, ho⟩
  frame := fun _ _ _ st hk => ⟨st.1.at fun o e => hk it (by simp) o e, st.2.1.at fun o e => hk l (by simp) o e, st.2.2⟩
  item := fun i s Q E hi st hQ => by
    have hi2 : i < items.size := by
      by_cases h : items.size < i0
      · have := st.2.2 h; omega
      · omega
    refine (Draws.list hh it l hne items).item i s Q E hi2 ⟨st.1, st.2.1⟩ fun x h' tk hx st' sb => hQ x h' tk hx ⟨st'.1, st'.2, fun h => ?_⟩ sb
    have := st.2.2 h
    omega
  done := fun s Q E st hE => by
    by_cases h : items.size < i0
    · have e : max i0 items.size = i0 := by omega
      rw [e] at st
      refine wpAny_nextOf_list_end hh st.1 st.2.1 (by simp; omega) hE
    · have e : max i0 items.size = items.size := by omega
      rw [e] at st
      exact (Draws.list hh it l hne items).done s Q E ⟨st.1, st.2.1⟩ hE
theorem turn_zip3 {P : Program} {w : World} {K : PySem.W.Frag} {elts : List Expr} {kk : Nat} {tpos : Pos} {a b c z TI TO i1 i2 i3 : Addr} (S : ZipSep3 z TI TO i1 i2 i3 [i1, a] [i2, b] [i3, c]) :
    Turn P w K (.Tuple elts kk tpos) (Itz3 K a b c) [z, TI, TO, i1, i2, i3] z (fun i h => IsZip h z TI TO .none ∧ IsTupOf3 h TI (.ref i1) (.ref i2) (.ref i3) ∧ (∃ x y u, IsTupOf3 h TO x y u) ∧ h.IsListIter i1 a i ∧ h.IsListIter i2 b i ∧ h.IsListIter i3 c i) where
  mem := by simp
  obj := fun i h st c hc => by
    obtain ⟨hz, hTI, ⟨x, y, u, hTO⟩, ⟨o1, e1, _, d1⟩, ⟨o2, e2, _, d2⟩, ⟨o3, e3, _, d3⟩⟩ := st
    have e' : c = z ∨ c = TI ∨ c = TO ∨ c = i1 ∨ c = i2 ∨ c = i3 := by simpa using hc
    rcases e' with q | q | q | q | q | q
    · rw [q]; exact ⟨_, hz, fun v q => nomatch q⟩
    · rw [q]; exact ⟨_, hTI, fun v q => nomatch q⟩
    · rw [q]; exact ⟨_, hTO, fun v q => nomatch q⟩
    · rw [q]; exact ⟨o1, e1, fun v q => by rw [d1] at q; cases q⟩
    · rw [q]; exact ⟨o2, e2, fun v q => by rw [d2] at q; cases q⟩
    · rw [q]; exact ⟨o3, e3, fun v q => by rw [d3] at q; cases q⟩
  keep := fun i h h' st k => by
    obtain ⟨hz, hTI, ⟨x, y, u, hTO⟩, h1, h2, h3⟩ := st
    exact ⟨k z (by simp) _ hz, k TI (by simp) _ hTI, ⟨x, y, u, k TO (by simp) _ hTO⟩, h1.at fun o q => k i1 (by simp) o q, h2.at fun o q => k i2 (by simp) o q, h3.at fun o q => k i3 (by simp) o q⟩
  item := by
    intro X hP hw hK hc i pins s σ H E I hf st hg
    subst hP hw hK
    obtain ⟨hz, hTI, ⟨x0, y0, u0, hTO⟩, h1, h2, h3⟩ := st
    obtain ⟨xs, ys, zs, x, y, u, hqx, hqy, hqz, hx, hy, hu⟩ := hg
    obtain ⟨its, rv, p, _⟩ := I.list hqx
    obtain ⟨its2, rv2, p2, _⟩ := I.list hqy
    obtain ⟨its3, rv3, p3, _⟩ := I.list hqz
    obtain ⟨w1, hw1, rw1⟩ := rv.get hx
    obtain ⟨w2, hw2, rw2⟩ := rv2.get hy
    obtain ⟨w3, hw3, rw3⟩ := rv3.get hu
    have hzl : z < s.heap.objs.size := Heap.lt_size hz
    have ne1 : a ≠ i1 := fun q => by
      obtain ⟨o, ho, hc', _⟩ := h1
      obtain ⟨o', ho', hc2, _⟩ := p.isList
      rw [q, ho] at ho'
      cases ho'
      rw [hc'] at hc2; exact absurd hc2 (by decide)
    have ne2 : b ≠ i2 := fun q => by
      obtain ⟨o, ho, hc', _⟩ := h2
      obtain ⟨o', ho', hc2, _⟩ := p2.isList
      rw [q, ho] at ho'
      cases ho'
      rw [hc'] at hc2; exact absurd hc2 (by decide)
    have ne3 : c ≠ i3 := fun q => by
      obtain ⟨o, ho, hc', _⟩ := h3
      obtain ⟨o', ho', hc2, _⟩ := p3.isList
      rw [q, ho] at ho'
      cases ho'
      rw [hc'] at hc2; exact absurd hc2 (by decide)
    have hh : X.A.in1.handled = none := I.ok.hd hc
    have lt : ∀ {l : List Value} {v : Value} {j : Nat}, l[j]? = some v → j < l.toArray.size := fun h => by
      have := (List.getElem?_eq_some_iff.mp h).1
      simpa using this
    refine wpAny_pyNext_zipD3_item S (Draws.list hh i1 a ne1 its.toArray) (Draws.list hh i2 b ne2 its2.toArray) (Draws.list hh i3 c ne3 its3.toArray) hz hTI hTO ⟨h1, p.isList⟩ ⟨h2, p2.isList⟩ ⟨h3, p3.isList⟩ (lt hw1) (lt hw2) (lt hw3) fun v1 v2 v3 h' tk e1 e2 e3 z' TO' h1' h2' h3' hT hsz hk => ?_
    have e1 : v1 = w1 := by have : its[i]? = some v1 := by simpa using e1
                            rw [hw1] at this; exact (Option.some.inj this).symm
    have e2 : v2 = w2 := by have : its2[i]? = some v2 := by simpa using e2
                            rw [hw2] at this; exact (Option.some.inj this).symm
    have e3 : v3 = w3 := by have : its3[i]? = some v3 := by simpa using e3
                            rw [hw3] at this; exact (Option.some.inj this).symm
    subst e1 e2 e3
    refine ⟨_, rfl, wpAny_letOwnedTupleGo_zip (s := { s with heap := h', toks := tk }) z' fun h'' z'' sb => ?_⟩
    have hT2 : h''.get? s.heap.objs.size = some { cls := .type "tuple", data := .seq #[v1, v2, v3] } := (sb.2 _ (Nat.ne_of_gt hzl)).trans hT
    have new : ObjOk X.prog X.w (upd H s.heap.objs.size (.tup [x, y, u])) h'' s.heap.objs.size (.tup [x, y, u]) :=
      ⟨by show 3 ≤ sizeLine; decide, [v1, v2, v3], .cons rw1 (.cons rw2 (.cons rw3 .nil)), ⟨_, hT2, rfl, _, rfl⟩⟩
    have I1 : Inv X pins σ (upd H s.heap.objs.size (.tup [x, y, u])) { s with heap := h'', toks := tk } :=
      I.turnedNew (t' := tk) (ch := [z, TI, TO, i1, i2, i3]) (fun c o hb q => (sb.2 c (fun q' => hb (by simp [q']))).trans (hk c o (fun q' => hb (by simp [q'])) (fun q' => hb (by simp [q'])) (fun q' => hb (by simp [q'])) (fun q' => hb (by simp [q'])) (fun q' => hb (by simp [q'])) q)) hf (Nat.le_refl _) new
    refine ⟨.ref s.heap.objs.size, _, I1, rfl, ⟨_, x, y, u, rfl, I.hok.fresh (Nat.le_refl _), rfl, fun l hl => by rw [I.list_inj hl hqx]; exact hx, fun l hl => by rw [I.list_inj hl hqy]; exact hy, fun l hl => by rw [I.list_inj hl hqz]; exact hu⟩, ⟨z'', ?_, ⟨v1, v2, v3, ?_⟩, ?_, ?_, ?_⟩, fun c hcm => ?_⟩
    · exact (sb.2 _ S.TIz).trans (hk _ _ S.TIz S.TITO S.TIi1 S.TIi2 S.TIi3 hTI)
    · exact (sb.2 _ S.TOz).trans TO'
    · exact h1'.1.at fun o q => (sb.2 _ (fun q' => S.zi1 q'.symm)).trans q
    · exact h2'.1.at fun o q => (sb.2 _ (fun q' => S.zi2 q'.symm)).trans q
    · exact h3'.1.at fun o q => (sb.2 _ (fun q' => S.zi3 q'.symm)).trans q
    · have hlt : c < s.heap.objs.size := by
        have e' : c = z ∨ c = TI ∨ c = TO ∨ c = i1 ∨ c = i2 ∨ c = i3 := by simpa using hcm
        rcases e' with q | q | q | q | q | q
        · rw [q]; exact hzl
        · rw [q]; exact Heap.lt_size hTI
        · rw [q]; exact Heap.lt_size hTO
        · rw [q]; obtain ⟨_, e1, _⟩ := h1; exact Heap.lt_size e1
        · rw [q]; obtain ⟨_, e2, _⟩ := h2; exact Heap.lt_size e2
        · rw [q]; obtain ⟨_, e3, _⟩ := h3; exact Heap.lt_size e3
      rw [upd_ne (Nat.ne_of_lt hlt)]
      exact (hf c hcm).1
  done := by
    intro X hP hw hK hc i pins s σ H E I hf st hg
    subst hP hw hK
    obtain ⟨hz, hTI, ⟨x0, y0, u0, hTO⟩, h1, h2, h3⟩ := st
    obtain ⟨xs, ys, zs, hqx, hqy, hqz, hend⟩ := hg
    obtain ⟨its, rv, p, _⟩ := I.list hqx
    obtain ⟨its2, rv2, p2, _⟩ := I.list hqy
    obtain ⟨its3, rv3, p3, _⟩ := I.list hqz
    have l1 := rv.length
    have l2 := rv2.length
    have l3 := rv3.length
    have ne1 : a ≠ i1 := fun q => by
      obtain ⟨o, ho, hc', _⟩ := h1
      obtain ⟨o', ho', hc2, _⟩ := p.isList
      rw [q, ho] at ho'
      cases ho'
      rw [hc'] at hc2; exact absurd hc2 (by decide)
    have ne2 : b ≠ i2 := fun q => by
      obtain ⟨o, ho, hc', _⟩ := h2
      obtain ⟨o', ho', hc2, _⟩ := p2.isList
      rw [q, ho] at ho'
      cases ho'
      rw [hc'] at hc2; exact absurd hc2 (by decide)
    have ne3 : c ≠ i3 := fun q => by
      obtain ⟨o, ho, hc', _⟩ := h3
      obtain ⟨o', ho', hc2, _⟩ := p3.isList
      rw [q, ho] at ho'
      cases ho'
      rw [hc'] at hc2; exact absurd hc2 (by decide)
    have hh : X.A.in1.handled = none := I.ok.hd hc
    exact wpAny_pyNext_zipD3_end S (drawsX hh i1 a ne1 its.toArray i) (drawsX hh i2 b ne2 its2.toArray i) (drawsX hh i3 c ne3 its3.toArray i) hz hTI hTO ⟨h1, p.isList, fun _ => rfl⟩ ⟨h2, p2.isList, fun _ => rfl⟩ ⟨h3, p3.isList, fun _ => rfl⟩ (Nat.le_max_left _ _) (Nat.le_max_left _ _) (Nat.le_max_left _ _) (by rw [List.size_toArray, List.size_toArray, List.size_toArray]; omega) fun h' tk hk => ⟨rfl, I.turnedL (t' := tk) (ch := [z, TI, TO, i1, i2, i3]) (fun c o hb q =>
      hk c o (fun q' => hb (by simp [q'])) (fun q' => hb (by simp [q'])) (fun q' => hb (by simp [q'])) (fun q' => hb (by simp [q'])) (fun q' => hb (by simp [q'])) q) hf⟩
  self := fun A i s Q E st h => wpAny_pyIter_zip st.1 h
def iZip3 (K : PySem.W.Frag) (ta : TA) : TI := fun σ H R => ta σ H fun vs H1 => ∃ a b c xs ys zs, vs = [.ref a, .ref b, .ref c] ∧ SqL K H1 a xs ∧ SqL K H1 b ys ∧ SqL K H1 c zs ∧ R (Itz3 K a b c) H1
theorem pi_zip3 {X : Cx} {e e2 e3 : Expr} {ta : TA} {p pos tpos : Pos} {elts : List Expr} {kk : Nat} (hg : Gl X "zip") (hm : X.mg "zip" = none) (ha : PA X [e, e2, e3] ta)
    (hs : starEach [e, e2, e3] X.env = (false, eval e X.env) :: starEach [e2, e3] X.env := by rfl) (hpl : (backTo pos (starEach [e2, e3] X.env)).any (·.1) = false := by rfl) :
    PI X (.Tuple elts kk tpos) (.Call (.Name "zip" p) [e, e2, e3] [] pos) (iZip3 X.K ta) := by
  refine ⟨fun pins s σ H R I h => ?_⟩
  refine PyProof.Rows.Call_ (ld_blt I hg hm PyProof.Rows.boot_zip (PyProof.Rows.callWith_type1 (thn (ha.run pos pins s σ H _ I h) fun us s1 ⟨vs, H1, I1, r1, q1⟩ => ?_) hs hpl))
  obtain ⟨a, b, c, xs, ys, zs, ex, hqx, hqy, hqz, q⟩ := q1
  subst ex
  cases r1 with
  | cons r rr =>
    cases rr with
    | cons r' rr =>
      cases rr with
      | cons r'' rr =>
        cases rr
        cases r
        cases r'
        cases r''
        obtain ⟨its, rv, p1, _⟩ := I1.list hqx
        obtain ⟨its2, rv2, p2, _⟩ := I1.list hqy
        obtain ⟨its3, rv3, p3, _⟩ := I1.list hqz
        have la : a < s1.heap.objs.size := p1.lt
        have lb : b < s1.heap.objs.size := p2.lt
        have lc : c < s1.heap.objs.size := p3.lt
        refine zip_begins3 (begins_list a its.toArray) (begins_list b its2.toArray) (begins_list c its3.toArray) p1.isList p2.isList p3.isList fun h' hz hTI hTO h1 h2 h3 hsz hk => wpAny_pyIter_zip hz ?_
        have I2 : Inv X pins σ H1 { s1 with heap := h' } := I1.kept (t' := s1.toks) hk
        refine ⟨s1.heap.objs.size + 5, [s1.heap.objs.size + 5, s1.heap.objs.size + 3, s1.heap.objs.size + 4, s1.heap.objs.size, s1.heap.objs.size + 1, s1.heap.objs.size + 2], _, _, H1, rfl, I2,
          turn_zip3 (zip_sep3 (N := s1.heap.objs.size) (by simpa using la) (by simpa using lb) (by simpa using lc)), ⟨hz, hTI, ⟨_, _, _, hTO⟩, ⟨_, h1, rfl, rfl⟩, ⟨_, h2, rfl, rfl⟩, ⟨_, h3, rfl, rfl⟩⟩, fun d hcm => ?_, q⟩
        have e' : d = s1.heap.objs.size + 5 ∨ d = s1.heap.objs.size + 3 ∨ d = s1.heap.objs.size + 4 ∨ d = s1.heap.objs.size ∨ d = s1.heap.objs.size + 1 ∨ d = s1.heap.objs.size + 2 := by simpa using hcm
        have hle : s1.heap.objs.size ≤ d := by
          rcases e' with z | z | z | z | z | z
          · rw [z]; exact Nat.le_add_right _ _
          · rw [z]; exact Nat.le_add_right _ _
          · rw [z]; exact Nat.le_add_right _ _
          · rw [z]; exact Nat.le_refl _
          · rw [z]; exact Nat.le_add_right _ _
          · rw [z]; exact Nat.le_add_right _ _
        exact I1.fpOk hle (I1.hok.fresh hle)
def zip3 {α β γ : Type} (a : List α) (b : List β) (c : List γ) : List (α × β × γ) := a.zip (b.zip c)
section
variable {C : Cc} {Γ : List Slot} {α β γ : Type} {e e1 e2 e3 tg : Expr} {pos p : Pos}
theorem itTriple {K : PySem.W.Frag} {r1 : α → Rp} {r2 : β → Rp} {r3 : γ → Rp} {F H : Hp} {T : Addr} {x y z : V} {a : α} {b : β} {c : γ} (hF : Same F H) (hT : H T = none) (h1 : (r1 a).p F x) (h2 : (r2 b).p F y) (h3 : (r3 c).p F z) :
    ∃ G : Hp, (∀ a o, G a = some o → H a = none) ∧ upd H T (.tup [x, y, z]) = uni H G ∧ (rT3 K r1 r2 r3 (a, b, c)).p (uni F G) (.ref T) := by
  have hFT : F T = none := by
    cases q : F T with
    | none => rfl
    | some u => rw [hF T u q] at hT; cases hT
  refine ⟨Y.one T (.tup [x, y, z]), fun b o e => ?_, (uni_upd hT).symm, ?_⟩
  · by_cases z : b = T
    · rw [z]; exact hT
    · rw [one_ne z] at e; cases e
  · rw [uni_upd hFT]
    have sm : Same F (upd F T (.tup [x, y, z])) := fun b u e => by rw [upd_ne (ne_of_none e hFT)]; exact e
    exact ⟨T, x, y, z, rfl, SqT.of upd_same, (r1 a).mono sm h1, (r2 b).mono sm h2, (r3 c).mono sm h3⟩
theorem EvI.zip3 {r1 : α → Rp} {r2 : β → Rp} {r3 : γ → Rp} {m1 : W (List α)} {m2 : W (List β)} {m3 : W (List γ)} {elts : List Expr} {kk : Nat} {tpos : Pos} (hb : Blt C "zip" (.type "zip")) (h1 : Ev C Γ e1 (rL C.K r1) m1) (h2 : Ev C Γ e2 (rL C.K r2) m2) (h3 : Ev C Γ e3 (rL C.K r3) m3) (n1 : NoStar e1) (n2 : NoStar e2) (n3 : NoStar e3) :
    EvI C Γ (.Tuple elts kk tpos) (.Call (.Name "zip" p) [e1, e2, e3] [] pos) (rT3 C.K r1 r2 r3) (do let a ← m1; let b ← m2; let c ← m3; pure (Y.zip3 a b c)) :=
  fun X Wx ok tk F H g σ s R hm => by
    refine WI.of (pi_zip3 (hb.gl ok) (by rw [ok.mg]; exact hb.m) (pa_W (es := [e1, e2, e3])) (n1 [e2, e3] X.env) (by rw [n2 [e3] X.env, n3 [] X.env]; rfl)) ?_
    refine WA.len (WA.of (pa_cons (pe_W (e := e1)) (pa_cons (pe_W (e := e2)) (pa_cons (pe_W (e := e3)) pa_nil (n3 [] X.env)) (n2 [e3] X.env)) (n1 [e2, e3] X.env)) ?_)
    refine h1 X Wx ok tk F H g σ s _ (m1.mono (fun a ha F1 H1 g1 v f1 s1 r1' => ?_) (fun e he => he) hm)
    refine h2 X Wx ok tk F1 H1 g1 σ s1 _ (m2.mono (fun b hb F2 H2 g2 w f2 s2 r2' => ?_) (fun e he => XEnd.later f1 he) ha)
    refine h3 X Wx ok tk F2 H2 g2 σ s2 _ (m3.mono (fun c hc F3 H3 g3 w3 f3 s3 r3' => ?_) (fun e he => XEnd.later (f1.trans f2) he) hb)
    intro hl
    obtain ⟨p1, vs, ev, hs1, t1⟩ := (rL C.K r1 a).mono (f2.sF.trans f3.sF) r1'
    obtain ⟨p2, ws, ew, hs2, t2⟩ := (rL C.K r2 b).mono f3.sF r2'
    obtain ⟨p3, us, eu, hs3, t3⟩ := r3'
    have q1 : SqL X.K H3 p1 vs := by rw [ok.K]; exact s3.sF.seq hs1
    have q2 : SqL X.K H3 p2 ws := by rw [ok.K]; exact s3.sF.seq hs2
    have q3 : SqL X.K H3 p3 us := by rw [ok.K]; exact s3.sF.seq hs3
    refine ⟨p1, p2, p3, vs, ws, us, by rw [ev, ew, eu], q1, q2, q3, hc F3 H3 g3 _ ((f1.trans f2).trans f3) s3 ?_⟩
    have l1 := t1.length
    have l2 := t2.length
    have l3 := t3.length
    rw [ok.K]
    unfold Y.zip3
    refine ⟨?_, fun i F' H' f s h => ?_, fun i x F' H' v H3 f s h y => ?_, fun i F' H' f s h => ?_⟩
    · rw [List.length_zip, ← l1]
      exact Nat.le_trans (Nat.min_le_left _ _) (hl p1 vs q1)
    · rw [List.length_zip, List.length_zip] at h
      exact ⟨vs, ws, us, vs[i]'(by omega), ws[i]'(by omega), us[i]'(by omega), (f.trans s).seq hs1, (f.trans s).seq hs2, (f.trans s).seq hs3, List.getElem?_eq_getElem _, List.getElem?_eq_getElem _, List.getElem?_eq_getElem _⟩
    · obtain ⟨T, x', y', z', e1, hT, e2, y1, y2, y3⟩ := y
      subst e1 e2
      obtain ⟨xa, xb, xc⟩ := x
      obtain ⟨ha', hbc⟩ := List.getElem?_zip_eq_some.mp h
      obtain ⟨hb', hc'⟩ := List.getElem?_zip_eq_some.mp hbc
      obtain ⟨u1, hu1, ru1⟩ := t1.get ha'
      obtain ⟨u2, hu2, ru2⟩ := t2.get hb'
      obtain ⟨u3, hu3, ru3⟩ := t3.get hc'
      rw [y1 vs ((f.trans s).seq hs1)] at hu1
      rw [y2 ws ((f.trans s).seq hs2)] at hu2
      rw [y3 us ((f.trans s).seq hs3)] at hu3
      cases hu1
      cases hu2
      cases hu3
      exact itTriple s hT ((r1 xa).mono f ru1) ((r2 xb).mono f ru2) ((r3 xc).mono f ru3)
    · rw [List.length_zip, List.length_zip] at h
      exact ⟨vs, ws, us, (f.trans s).seq hs1, (f.trans s).seq hs2, (f.trans s).seq hs3, by omega⟩
end
end Y

/-! Y26: xs.insert(i, e), y = xs.pop(i) -/
namespace Y
open PySem PySem.Spec L2
section
variable {C : Cc} {Γ Γ' : List Slot} {α β γ δ ε ω : Type} {J : ω → Out} {e ix : Expr} {pos : Pos} {rest : List Stmt} {x : Str}
theorem All2.app' {R : α → β → Prop} {as bs : List α} {xs ys : List β} (h : All2 R as xs) (h' : All2 R bs ys) : All2 R (as ++ bs) (xs ++ ys) := by
  induction h with
  | nil => exact h'
  | cons r _ ih => exact .cons r ih
theorem All2.take' {R : α → β → Prop} {as : List α} {xs : List β} (h : All2 R as xs) : ∀ n, All2 R (as.take n) (xs.take n) := by
  induction h with
  | nil => intro n; simp; exact .nil
  | cons r _ ih =>
    intro n
    cases n with
    | zero => exact .nil
    | succ n => exact .cons r (ih n)
theorem All2.drop' {R : α → β → Prop} {as : List α} {xs : List β} (h : All2 R as xs) : ∀ n, All2 R (as.drop n) (xs.drop n) := by
  induction h with
  | nil => intro n; simp; exact .nil
  | cons r t ih =>
    intro n
    cases n with
    | zero => exact .cons r t
    | succ n => exact ih n
theorem Ex.insert {i : Nat} {px apos cpos : Pos} {r : α → Rp} {xs : List α} {mi : W Int} {m : W α} {k : List α → W ω} (hN : C.N[i]? = some x) (hv : Vis C.sc x) (hΓ : Γ[i]? = some (.own (oL C.fr r xs))) (hi : Ev C Γ ix rI mi) (h : Ev C Γ e r m) (ni : NoStar ix) (n : NoStar e) (hr : ∀ ys, Ex C (Γ.set i (.own (oL C.fr r ys))) rest J (k ys))
    (hline : (apos.endLine == cpos.line) = true := by rfl) (hd : (x == ("__debug__" : Str)) = false := by decide) (hcd : (x == ("__classdict__" : Str)) = false := by decide) (hb : ∀ X : Cx, attributeBase (.Name x px) "insert" X.env (eval (.Name x px) X.env) = eval (.Name x px) X.env := by intro _; rfl)
    (hs : ∀ X : Cx, swapsWith (.Call (.Attribute (.Name x px) "insert" apos) [ix, e] [] cpos) none pos.line X.env = pure false := by intro _; rfl)
    (hfew : ∀ X : Cx, ((backTo cpos (starEach [ix, e] X.env)).all (fun x => !x.1) && (backToKw cpos (keywordEach [] X.env)).all (fun x => x.1.isSome) && decide ([ix, e].length + ([] : List Keyword).length + (if ([] : List Keyword).isEmpty then 0 else 1) < 30)) = true := by intro _; rfl) :
    Ex C Γ (.Expr (.Call (.Attribute (.Name x px) "insert" apos) [ix, e] [] cpos) pos :: rest) J (do let j ← mi; let a ← m; let ys ← W.req (0 ≤ j ∧ j ≤ 1000000 ∧ xs.length ≤ 1000000) (pure (xs.take j.toNat ++ [a] ++ xs.drop j.toNat)); k ys) :=
  Ex.cons fun X Wx ok tk F H g σ s D hm => by
    refine W1.of (ps_expr (pe_bm PySem.F.plainAttrs_list PySem.F.slot_list_insert PySem.F.type_list_insert mt_insert (pe_var (i := i) (by rw [ok.N]; exact hN) (by rw [ok.sc]; exact hv) hd hcd) (pa_cons (pe_W (e := ix)) (pa_cons (pe_W (e := e)) pa_nil (n [] X.env)) (ni [e] X.env)) (hb X) (hfew X) hline (ni [e] X.env) (by rw [n [] X.env]; rfl)) (hs X)) ?_
    obtain ⟨v, eσ, a, vs, ev, na, eg, t⟩ := s.get_own hΓ
    subst ev
    have hHa : H a = some (.lst vs) := s.sG i a _ (by rw [eg]; exact one_same)
    refine ⟨.ref a, eσ, .inl ⟨rfl, _, SqL.of hHa⟩, ?_⟩
    refine hi X Wx ok.toOk tk F H g σ s _ (mi.mono (fun j hj F0 H0 g0 u f0 s0 r0 => ?_) (fun e he => he.ex) hm)
    refine h X Wx ok.toOk tk F0 H0 g0 σ s0 _ (m.mono (fun y hy F1 H1 g1 w f1 s1 r1 => ?_) (fun e he => (he.later f0).ex) hj)
    obtain ⟨v', eσ', a', vs', ev', na', eg', t'⟩ := s1.get_own hΓ
    rw [eσ] at eσ'
    cases eσ'
    cases ev'
    have r0 : u = .int j := r0
    subst r0
    obtain ⟨⟨h1, h2, h3⟩, hy⟩ := hy
    have tt : All2 (fun u x => (r x).p F1 u) (vs'.take j.toNat ++ [w] ++ vs'.drop j.toNat) (xs.take j.toNat ++ [y] ++ xs.drop j.toNat) := by
      exact ((t'.take' j.toNat).app' (.cons r1 .nil)).app' (t'.drop' j.toNat)
    obtain ⟨s2, f2, hH1⟩ := s1.upd_own (O' := oL C.fr r (xs.take j.toNat ++ [y] ++ xs.drop j.toNat)) (o' := .lst (vs'.take j.toNat ++ [w] ++ vs'.drop j.toNat)) eg' eσ (List.getElem?_eq_some_iff.mp hΓ).1 ⟨a, _, rfl, na', rfl, tt⟩
    refine ⟨a, vs', j, w, rfl, rfl, hH1, ?_, h1, by omega, ?_⟩
    · rw [t'.length, PySem.sizeLine_eq]
      omega
    · exact (hr _).later ok tk (f0.trans (f1.trans f2)) s2 hy
end
end Y

/-! Y27: pairs as lists, pairs walked, displays of seven -/
namespace Y
open PySem PySem.Spec L2
section
variable {C : Cc} {Γ Γ' : List Slot} {α β γ δ ε ω : Type} {J : ω → Out} {e e1 e2 e3 e4 e5 e6 e7 tg : Expr} {p pos : Pos} {rest : List Stmt} {x : Str}
theorem EvO.listT2 {r : α → Rp} {m : W (α × α)} (hb : Blt C "list" (.type "list")) (ha : Ev C Γ e (rT2 C.K r r) m) (hn : NoStar e) : EvO C Γ (.Call (.Name "list" p) [e] [] pos) (oL C.fr r) (do let p ← m; pure [p.1, p.2]) :=
  fun X Wx ok tk F H g σ s Q hm => by
    refine WE.of (pe_callTy call_list_of (hb.gl ok) (by rw [ok.mg]; exact hb.m) hb.v (pa_cons (pe_W (e := e)) pa_nil (hn [] X.env)) hb.n hb.d (hn [] X.env) rfl) ?_
    refine ha X Wx ok tk F H g σ s _ (m.mono (fun x hx F1 H1 g1 v f1 s1 r1 => ?_) (fun e he => he) hm)
    obtain ⟨q, v1, v2, ev, hq, t1, t2⟩ := r1
    exact ⟨q, [v1, v2], by rw [ev], .inr (by rw [ok.K]; exact Same.seqT s1.sF hq), fun l hl => EvO.fin (O := oL C.fr r [x.1, x.2]) f1 s1 hl (fun n => ⟨l, _, rfl, n, rfl, .cons t1 (.cons t2 .nil)⟩) hx⟩
theorem itTup2 {K : PySem.W.Frag} {r : α → Rp} {xs : List α} {F : Hp} {a : Addr} {vs : List V} (hs : SqT K F a vs) (t : All2 (fun u x => (r x).p F u) vs xs) (hl : vs.length ≤ sizeLine) : ItOk (Itt K a) r xs F where
  len := by rw [← t.length]; exact hl
  go := fun i F' H f s h => ⟨vs, vs[i]'(by rw [t.length]; exact h), Same.seqT (f.trans s) hs, List.getElem?_eq_getElem _⟩
  yld := fun i x F' H v H' f s h y => by
    obtain ⟨e, y⟩ := y
    refine ⟨emp, fun a o z => (by cases z), by rw [uni_emp]; exact e, ?_⟩
    rw [uni_emp]
    have := y vs (Same.seqT (f.trans s) hs)
    obtain ⟨u, hu, ru⟩ := t.get h
    rw [this] at hu
    cases hu
    exact (r x).mono f ru
  stop := fun i F' H f s h => ⟨vs, Same.seqT (f.trans s) hs, by rw [t.length]; exact h⟩
theorem EvI.tup2 {r : α → Rp} {m : W (α × α)} (h : Ev C Γ e (rT2 C.K r r) m) : EvI C Γ tg e r (do let p ← m; pure [p.1, p.2]) :=
  fun X Wx ok tk F H g σ s R hm => by
    refine WI.of (pi_tup (pe_W (e := e))) ?_
    refine h X Wx ok tk F H g σ s _ (m.mono (fun xs hx F1 H1 g1 v f1 s1 r1 => ?_) (fun e he => he) hm)
    obtain ⟨a, v1, v2, ev, hs, t1, t2⟩ := r1
    have hs2 : SqT X.K H1 a [v1, v2] := by rw [ok.K]; exact Same.seqT s1.sF hs
    refine ⟨a, ev, ⟨_, hs2⟩, hx F1 H1 g1 _ f1 s1 ?_⟩
    rw [ok.K]
    exact itTup2 hs (.cons t1 (.cons t2 .nil)) (by rw [PySem.sizeLine_eq]; simp)
theorem EvO.list7 {r : α → Rp} {m1 m2 m3 m4 m5 m6 m7 : W α} (h1 : Ev C Γ e1 r m1) (h2 : Ev C Γ e2 r m2) (h3 : Ev C Γ e3 r m3) (h4 : Ev C Γ e4 r m4) (h5 : Ev C Γ e5 r m5) (h6 : Ev C Γ e6 r m6) (h7 : Ev C Γ e7 r m7) (n1 : NoStar e1) (n2 : NoStar e2) (n3 : NoStar e3) (n4 : NoStar e4) (n5 : NoStar e5) (n6 : NoStar e6) (n7 : NoStar e7) : EvO C Γ (.List [e1, e2, e3, e4, e5, e6, e7] pos) (oL C.fr r) (do let x ← m1; let y ← m2; let z ← m3; let u ← m4; let v ← m5; let w ← m6; let q ← m7; pure [x, y, z, u, v, w, q]) :=
  EvO.disp (fun t : α × α × α × α × α × α × α × Unit => [t.1, t.2.1, t.2.2.1, t.2.2.2.1, t.2.2.2.2.1, t.2.2.2.2.2.1, t.2.2.2.2.2.2.1]) (fun t F vs h => by
    cases h with
    | cons h h' => cases h' with
      | cons h2 h' => cases h' with
        | cons h3 h' => cases h' with
          | cons h4 h' => cases h' with
            | cons h5 h' => cases h' with
              | cons h6 h' => cases h' with
                | cons h7 h' => cases h'; exact .cons h (.cons h2 (.cons h3 (.cons h4 (.cons h5 (.cons h6 (.cons h7 .nil))))))) (fun _ => Nat.le_of_ble_eq_true rfl) (EvA.cons h1 (EvA.cons h2 (EvA.cons h3 (EvA.cons h4 (EvA.cons h5 (EvA.cons h6 (EvA.cons h7 EvA.nil n7) n6) n5) n4) n3) n2) n1)
end
end Y

/-! Y28: data in lists, one of two kinds, calls of five and six -/
namespace Y
open PySem PySem.Spec L2
section
variable {C : Cc} {Γ Γ' : List Slot} {α β γ δ ε ω : Type} {J : ω → Out} {e e1 e2 e3 e4 e5 e6 a b : Expr} {p pos : Pos} {rest sts : List Stmt} {x : Str}
/-! ### data in lists -/
theorem any_in {K : PySem.W.Frag} [DecidableEq α] {r : α → Rp} (I : DatE K r) (x : α) : ∀ ys : List α, ((ys.map I.enc).any fun z => PyData.eqv z (I.enc x)) = decide (x ∈ ys)
  | [] => by simp
  | y :: ys => by
    rw [List.map_cons, List.any_cons, eqv_dec I, any_in I x ys]
    by_cases h : y = x
    · subst h; simp
    · have h3 : ¬ x = y := fun z => h z.symm
      simp [h, h3]
theorem any_inD {K : PySem.W.Frag} {r : α → Rp} (I : DatE K r) (x : α) (ys : List α) {dec : Decidable (x ∈ ys)} : ((ys.map I.enc).any fun z => PyData.eqv z (I.enc x)) = @decide (x ∈ ys) dec := by
  haveI : DecidableEq α := fun a b => Classical.propDecidable _
  rw [any_in I]
  congr
theorem op_inY {X : Cx} (hu : X.A.units + 64 < cLine) : OpR X (compareOp .In) (fun x y H Q => ∃ d ds, Dp X.K H x d ∧ Dp X.K H y (.list ds) ∧ SeqAt.shaped d = true ∧ SeqAt.shaped (.list ds) = true ∧ d.depth ≤ 60 ∧ Q (.bl (ds.any fun z => PyData.eqv z d)) H) := by
  intro pins s σ H x y v u Q I rx ry h
  obtain ⟨d, ds, hd, he, sd, se, hh, q⟩ := h
  obtain ⟨as, r1⟩ := Dp.reads I d x v hd rx
  obtain ⟨bs, r2⟩ := Dp.reads I (.list ds) y u he ry
  exact SeqAt.in_list_reads r2 r1 (SeqAt.canLay_of_shaped se) (SeqAt.canLay_of_shaped sd) (by have := Nat.min_le_right (PyData.depthAll ds) d.depth; omega) ⟨.bl _, H, I, rfl, q⟩
theorem op_notInY {X : Cx} (hu : X.A.units + 64 < cLine) : OpR X (compareOp .NotIn) (fun x y H Q => ∃ d ds, Dp X.K H x d ∧ Dp X.K H y (.list ds) ∧ SeqAt.shaped d = true ∧ SeqAt.shaped (.list ds) = true ∧ d.depth ≤ 60 ∧ Q (.bl (!ds.any fun z => PyData.eqv z d)) H) := by
  intro pins s σ H x y v u Q I rx ry h
  obtain ⟨d, ds, hd, he, sd, se, hh, q⟩ := h
  obtain ⟨as, r1⟩ := Dp.reads I d x v hd rx
  obtain ⟨bs, r2⟩ := Dp.reads I (.list ds) y u he ry
  exact SeqAt.notIn_list_reads r2 r1 (SeqAt.canLay_of_shaped se) (SeqAt.canLay_of_shaped sd) (by have := Nat.min_le_right (PyData.depthAll ds) d.depth; omega) ⟨.bl _, H, I, rfl, q⟩
theorem Ev.inTK {K : PySem.W.Frag} (hK : C.K = K) {ma : W α} {mb : W (List α)} {ρa ρb : α → Rp} [I : DatE K ρa] [J : DatE K ρb] [T : DatT K ρa] {dec : ∀ (x : α) (ys : List α), Decidable (x ∈ ys)} (he : I.enc = J.enc) (ho : I.ok = J.ok) (hda : I.dep ≤ 60) (hdb : J.dep + 2 ≤ 64) (ha : Ev C Γ a ρa ma) (hb : Ev C Γ b (rL K ρb) mb) (hk : behindInMarks .In b = false := by with_unfolding_all rfl) :
    Ev C Γ (.Compare a [.In] [b] pos) rB (do let x ← ma; let y ← mb; pure (@decide (x ∈ y) (dec x y))) := by
  subst hK
  exact Ev.cmp (fun x y => @decide (x ∈ y) (dec x y)) (fun X ok => ⟨_, op_inY ok.units, fun x y H v w Q hv hw h => by
    refine ⟨I.enc x, y.map J.enc, by rw [ok.K]; exact I.dp hv, by rw [ok.K]; exact (datL ρb J (rL C.K ρb) (fun h => h)).dp hw, shaped_of I (Nat.le_trans hda (by decide)) (T.all x), shaped_of (datL ρb J (rL C.K ρb) (fun h => h)) hdb (fun z _ => by rw [← ho]; exact T.all z), Nat.le_trans (I.deps x) hda, ?_⟩
    rw [← he, any_inD I (dec := dec _ _)]; exact h⟩) hk ha hb
theorem Ev.notInTK {K : PySem.W.Frag} (hK : C.K = K) {ma : W α} {mb : W (List α)} {ρa ρb : α → Rp} [I : DatE K ρa] [J : DatE K ρb] [T : DatT K ρa] {dec : ∀ (x : α) (ys : List α), Decidable (x ∈ ys)} (he : I.enc = J.enc) (ho : I.ok = J.ok) (hda : I.dep ≤ 60) (hdb : J.dep + 2 ≤ 64) (ha : Ev C Γ a ρa ma) (hb : Ev C Γ b (rL K ρb) mb) (hk : behindInMarks .NotIn b = false := by with_unfolding_all rfl) :
    Ev C Γ (.Compare a [.NotIn] [b] pos) rB (do let x ← ma; let y ← mb; pure (!@decide (x ∈ y) (dec x y))) := by
  subst hK
  exact Ev.cmp (fun x y => !@decide (x ∈ y) (dec x y)) (fun X ok => ⟨_, op_notInY ok.units, fun x y H v w Q hv hw h => by
    refine ⟨I.enc x, y.map J.enc, by rw [ok.K]; exact I.dp hv, by rw [ok.K]; exact (datL ρb J (rL C.K ρb) (fun h => h)).dp hw, shaped_of I (Nat.le_trans hda (by decide)) (T.all x), shaped_of (datL ρb J (rL C.K ρb) (fun h => h)) hdb (fun z _ => by rw [← ho]; exact T.all z), Nat.le_trans (I.deps x) hda, ?_⟩
    rw [← he, any_inD I (dec := dec _ _)]; exact h⟩) hk ha hb
/-! ### one of two kinds -/
def rV (ra : α → Rp) (rb : β → Rp) (x : α ⊕ β) : Rp := match x with
  | .inl a => ra a
  | .inr b => rb b
theorem subV {ra ra' : α → Rp} {rb rb' : β → Rp} (h1 : SubK ra ra') (h2 : SubK rb rb') : SubK (rV ra rb) (rV ra' rb') := fun x F v h => by
  cases x with
  | inl a => exact h1 a F v h
  | inr b => exact h2 b F v h
instance {ra : α → Rp} {rb : β → Rp} [I : Fre ra] [J : Fre rb] : Fre (rV ra rb) := ⟨fun x F v h F' => by
  cases x with
  | inl a => exact I.fre a F v h F'
  | inr b => exact J.fre b F v h F'⟩
theorem Frs.V {ρ1 : (Addr → Prop) → α → Rp} {ρ2 : (Addr → Prop) → β → Rp} (h1 : Frs ρ1) (h2 : Frs ρ2) : Frs (fun N => rV (ρ1 N) (ρ2 N)) := ⟨fun N x F v h => by
  cases x with
  | inl a => exact h1.re N a F v h
  | inr b => exact h2.re N b F v h, fun N N' x F v hn h => by
  cases x with
  | inl a => exact h1.mo N N' a F v hn h
  | inr b => exact h2.mo N N' b F v hn h⟩
theorem Ev.inlV {r ra : α → Rp} {rb : β → Rp} {m : W α} (s : SubK r ra) (h : Ev C Γ e r m) : Ev C Γ e (rV ra rb) (do let x ← m; pure (Sum.inl x)) := Ev.map Sum.inl (fun a F v z => s a F v z) h
theorem Ev.inrV {r rb : β → Rp} {ra : α → Rp} {m : W β} (s : SubK r rb) (h : Ev C Γ e r m) : Ev C Γ e (rV ra rb) (do let x ← m; pure (Sum.inr x)) := Ev.map Sum.inr (fun a F v z => s a F v z) h
def unL (x : α ⊕ β) : W α := match x with
  | .inl a => pure a
  | .inr _ => W.bad
def unR (x : α ⊕ β) : W β := match x with
  | .inl _ => W.bad
  | .inr b => pure b
theorem Ev.unL {ra : α → Rp} {rb : β → Rp} {m : W (α ⊕ β)} (h : Ev C Γ e (rV ra rb) m) : Ev C Γ e ra (do let x ← m; unL x) :=
  fun X Wx ok tk F H g σ s Q hm => h X Wx ok tk F H g σ s Q (m.mono (fun o ho F1 H1 g1 v f1 s1 r1 => by
    cases o with
    | inr _ => exact ho.elim
    | inl x => exact ho F1 H1 g1 v f1 s1 r1) (fun _ z => z) hm)
theorem Ev.unR {ra : α → Rp} {rb : β → Rp} {m : W (α ⊕ β)} (h : Ev C Γ e (rV ra rb) m) : Ev C Γ e rb (do let x ← m; unR x) :=
  fun X Wx ok tk F H g σ s Q hm => h X Wx ok tk F H g σ s Q (m.mono (fun o ho F1 H1 g1 v f1 s1 r1 => by
    cases o with
    | inl _ => exact ho.elim
    | inr x => exact ho F1 H1 g1 v f1 s1 r1) (fun _ z => z) hm)
/-- a private thing that must be of the left kind -/
theorem Ex.unL {i : Nat} {ρ1 : (Addr → Prop) → α → Rp} {ρ2 : (Addr → Prop) → β → Rp} {y : α ⊕ β} {k : α → W ω} (hΓ : Γ[i]? = some (.own (oV (fun N => rV (ρ1 N) (ρ2 N)) C.fr y))) (h : ∀ z, Ex C (Γ.set i (.own (oV ρ1 C.fr z))) sts J (k z)) : Ex C Γ sts J (do let z ← unL y; k z) := by
  cases y with
  | inr _ => exact fun X Wx ok tk F H g σ s D hm => hm.elim
  | inl z => exact fun X Wx ok tk F H g σ s D hm => h z X Wx ok tk F H g σ (s.reown hΓ (O' := oV ρ1 C.fr z) (fun F G v q => q)) D hm
/-- .. a value that must be -/
theorem Ex.unLv {i : Nat} {ρ1 : α → Rp} {ρ2 : β → Rp} {y : α ⊕ β} {k : α → W ω} (hΓ : Γ[i]? = some (.val (rV ρ1 ρ2 y))) (h : ∀ z, Ex C (Γ.set i (.val (ρ1 z))) sts J (k z)) : Ex C Γ sts J (do let z ← Y.unL y; k z) := by
  cases y with
  | inr _ => exact fun X Wx ok tk F H g σ s D hm => hm.elim
  | inl z =>
    have hq : Γ.set i (.val (ρ1 z)) = Γ := by
      apply List.ext_getElem?
      intro j
      by_cases hj : i = j
      · subst hj
        rw [List.getElem?_set_self (List.getElem?_eq_some_iff.mp hΓ).1]
        exact hΓ.symm
      · rw [List.getElem?_set_ne hj]
    have h := h z
    rw [hq] at h
    exact h
/-- a private list of scalars, as an own list -/
theorem StOk.flatV {F H : Hp} {σ : St} {g : Nat → Hp} (s : StOk C F H Γ σ g) {i : Nat} {r : α → Rp} [I : Fre r] {x : List α} (hΓ : Γ[i]? = some (.own (oV (fun N => rN N r) C.fr x))) :
    ∃ g', StOk C F H (Γ.set i (.own (oL C.fr r x))) σ g' ∧ Fr F H (dU g) F H (dU g') := by
  have hlt := (List.getElem?_eq_some_iff.mp hΓ).1
  obtain ⟨v, eσ, _, q, vs, ev, nq, hq, t⟩ := s.get_own hΓ
  have on : ∀ b, one q (HO.lst vs) b ≠ none → b = q := fun b h => by
    by_cases z : b = q
    · exact z
    · exact absurd (one_ne z) h
  have hle : Same (one q (HO.lst vs)) (g i) := fun b o z => by
    have e := on b (by rw [z]; simp)
    subst e
    rw [one_same] at z
    rw [hq]; exact z
  have hd : ∀ A : Hp, Dis A (g i) → Dis A (one q (HO.lst vs)) := fun A z b => by
    rcases z b with z | z
    · exact .inl z
    · refine .inr ?_
      cases z2 : one q (HO.lst vs) b with
      | none => rfl
      | some o => rw [hle b o z2] at z; cases z
  refine ⟨setG g i (one q (HO.lst vs)), ⟨by rw [List.length_set]; exact s.len, fun j S z => ?_, s.sF, fun j => ?_, fun j => ?_, fun j k hjk => ?_, s.fr⟩, Fr.refl.less fun b z => ?_⟩
  · by_cases hj : i = j
    · subst hj
      rw [List.getElem?_set_self hlt] at z
      cases z
      rw [setG_same]
      exact ⟨v, eσ, q, vs, ev, nq, rfl, t.imp fun u y z => I.fre _ _ _ z _⟩
    · rw [List.getElem?_set_ne hj] at z
      rw [setG_ne (fun z => hj z.symm)]
      exact s.slot j S z
  · by_cases hj : j = i
    · subst hj; rw [setG_same]; exact hle.trans (s.sG j)
    · rw [setG_ne hj]; exact s.sG j
  · by_cases hj : j = i
    · subst hj; rw [setG_same]; exact hd _ (s.dF j)
    · rw [setG_ne hj]; exact s.dF j
  · by_cases hj : j = i
    · subst hj
      rw [setG_same, setG_ne (fun z => hjk z.symm)]
      exact (hd _ (s.dG k j (fun z => hjk z.symm))).symm
    · rw [setG_ne hj]
      by_cases hk : k = i
      · subst hk; rw [setG_same]; exact hd _ (s.dG j k hjk)
      · rw [setG_ne hk]; exact s.dG j k hjk
  · obtain ⟨j, z⟩ := z
    by_cases hj : j = i
    · subst hj
      rw [setG_same] at z
      exact ⟨j, by rw [on b z, hq]; simp⟩
    · rw [setG_ne hj] at z; exact ⟨j, z⟩
theorem Ex.flatV {i : Nat} {r : α → Rp} [I : Fre r] {x : List α} {m : W ω} (hΓ : Γ[i]? = some (.own (oV (fun N => rN N r) C.fr x))) (h : Ex C (Γ.set i (.own (oL C.fr r x))) sts J m) : Ex C Γ sts J m := fun X Wx ok tk F H g σ s D hm => by
  obtain ⟨g', s2, f2⟩ := s.flatV hΓ
  exact h.later ok tk f2 s2 hm
/-- no text is like these -/
class NoS {K : PySem.W.Frag} (r : α → Rp) [I : DatE K r] : Prop where
  l : ∀ x s, PyData.eqv (I.enc x) (.str s) = false
  r : ∀ x s, PyData.eqv (.str s) (I.enc x) = false
instance {K : PySem.W.Frag} : NoS (K := K) rI := ⟨fun _ _ => rfl, fun _ _ => rfl⟩
instance {K : PySem.W.Frag} : NoS (K := K) rB := ⟨fun _ _ => rfl, fun _ _ => rfl⟩
instance {K : PySem.W.Frag} {r : α → Rp} [I : DatE K r] : NoS (K := K) (rL K r) := ⟨fun _ _ => rfl, fun _ _ => rfl⟩
instance {K : PySem.W.Frag} {N : Addr → Prop} {r : α → Rp} [I : DatE K r] : NoS (K := K) (rN N r) := ⟨fun _ _ => rfl, fun _ _ => rfl⟩
instance {K : PySem.W.Frag} {r : α → Rp} [I : DatE K r] [J : NoS (K := K) r] : DatE K (rV r rS) where
  enc := Sum.elim I.enc PyData.str
  dep := I.dep
  ok := Sum.elim I.ok (fun x => PyData.strOk x = true)
  dp := fun {x F v} h => by
    cases x with
    | inl a => exact I.dp h
    | inr s => have e : v = .str s := h; subst e; exact .str s
  can := fun x h => by
    cases x with
    | inl a => exact I.can a h
    | inr s => exact h
  deps := fun x => by
    cases x with
    | inl a => exact I.deps a
    | inr s => exact Nat.zero_le _
  dec := fun x y => by
    cases x with
    | inl a => cases y with
      | inl c => exact (I.dec a c).trans ⟨fun h => by rw [h], fun h => Sum.inl.inj h⟩
      | inr s => exact ⟨fun h => absurd ((show PyData.eqv (I.enc a) (.str s) = true from h).symm.trans (J.l a s)) (by decide), fun h => by cases h⟩
    | inr t => cases y with
      | inl c => exact ⟨fun h => absurd ((show PyData.eqv (.str t) (I.enc c) = true from h).symm.trans (J.r c t)) (by decide), fun h => by cases h⟩
      | inr s => exact (show PyData.eqv (.str t) (.str s) = true ↔ _ by simp [PyData.eqv])
/-- what of two kinds isinstance of the first's -/
theorem Ev.isiV {ra : α → Rp} {rb : β → Rp} {T T' : String} {f : Str} {T2 : String} {m : W (α ⊕ β)} (b1 b2 : Bool) {K : PySem.W.Frag} (hK : C.K = K) [I : TyK K ra T] [I' : TyK K rb T'] (hb : Blt C "isinstance" (.builtin "isinstance")) (hf : Blt C f (.type T2)) (hk : kitB T T2 = some b1) (hk' : kitB T' T2 = some b2) (h : Ev C Γ e (rV ra rb) m) (hn : NoStar e) {p2 : Pos} :
    Ev C Γ (.Call (.Name "isinstance" p) [e, .Name f p2] [] pos) rB (do let x ← m; let _ ← (pure () : W Unit); pure (if x.isLeft = true then b1 else b2)) :=
  Ev.callB2 (fun x _ => pure (if x.isLeft = true then b1 else b2)) hb (fun X ok => ⟨_, call_isi, fun x y H v w Q E hv hw q => by
    cases x with
    | inl z => exact ⟨v, w, .type T, .type T2, b1, rfl, by rw [show w = .ty T2 from hw]; exact .ty T2, by rw [ok.K, hK]; exact I.ty z H H v (Same.refl _) hv, kit_ty hk, q _ fun _ _ => rfl⟩
    | inr z => exact ⟨v, w, .type T', .type T2, b2, rfl, by rw [show w = .ty T2 from hw]; exact .ty T2, by rw [ok.K, hK]; exact I'.ty z H H v (Same.refl _) hv, kit_ty hk', q _ fun _ _ => rfl⟩⟩)
    (fun _ _ _ _ _ h => h) (fun y F v h F' => h) h (Ev.tyName hf) hn (fun _ _ => rfl)
end
section
variable {C : Cc} {Γ : List Slot} {α β γ : Type}
/-! ### (x, y), z as a target -/
theorem EvG.tup21 {i j l : Nat} {x1 x2 x3 : Str} {p1 p2 p3 : Pos} {k k2 : Nat} {tp tp2 : Pos} {r1 : α → Rp} {r2 : β → Rp} {r3 : γ → Rp} (h1 : C.N[i]? = some x1) (h2 : C.N[j]? = some x2) (h3 : C.N[l]? = some x3) (s1 : Sto C x1) (s2 : Sto C x2) (s3 : Sto C x3) (hcm : C.cm = true := by rfl) :
    EvG C (.Tuple [.Tuple [.Name x1 p1, .Name x2 p2] k2 tp2, .Name x3 p3] k tp) (rT2 C.K (rT2 C.K r1 r2) r3) (gTup C.K 2 (gCons (gTup C.K 2 (gCons (gName i) (gCons (gName j) gNil))) (gCons (gName l) gNil))) (fun Γ x => ((Γ.set i (.val (r1 x.1.1))).set j (.val (r2 x.1.2))).set l (.val (r3 x.2))) where
  pg := fun X ok => by
    rw [← ok.K]
    exact pg_tup (ok.calm.trans hcm) (pgs_cons (pg_tup (ok.calm.trans hcm) (pgs_cons (pg_name ok.ndX (by rw [ok.N]; exact h1) (s1.loc ok) (s1.fn ok)) (pgs_cons (pg_name ok.ndX (by rw [ok.N]; exact h2) (s2.loc ok) (s2.fn ok)) pgs_nil))) (pgs_cons (pg_name ok.ndX (by rw [ok.N]; exact h3) (s3.loc ok) (s3.fn ok)) pgs_nil))
  rd := fun Γ F H g σ x v Q s h kk => by
    obtain ⟨a, v1, v2, e, q, ⟨a', u1, u2, e', q', t1, t2⟩, t3⟩ := h
    exact ⟨a, _, e, Same.seqT s.sF q, rfl, v1, _, rfl, a', _, e', Same.seqT s.sF q', rfl, u1, _, rfl, u2, _, rfl, rfl, v2, _, rfl, rfl, kk _ (((s.set_val t1).set_val t2).set_val t3)⟩
theorem LcOk.tup21 {x y z : Str} {p1 p2 p3 tp tp2 : Pos} {k k2 i j l : Nat} {scope : Scope} {r1 : α → Rp} {r2 : β → Rp} {r3 : γ → Rp} (hb : blkC C.N C.sc scope [(x, i), (y, j), (z, l)] = true) (hN : C.N[i]? = some x) (hM : C.N[j]? = some y) (hL : C.N[l]? = some z) (hx : Sto (C.blk scope) x) (hy : Sto (C.blk scope) y) (hz : Sto (C.blk scope) z) (hij : i ≠ j) (hil : i ≠ l) (hjl : j ≠ l)
    (hn : ∀ O, Γ[i]? ≠ some (.own O)) (hn2 : ∀ O, Γ[j]? ≠ some (.own O)) (hn3 : ∀ O, Γ[l]? ≠ some (.own O)) (hcm : C.cm = true := by rfl) :
    LcOk C Γ (.Tuple [.Tuple [.Name x p1, .Name y p2] k2 tp2, .Name z p3] k tp) scope [(x, i), (y, j), (z, l)] (rT2 C.K (rT2 C.K r1 r2) r3) (gTup C.K 2 (gCons (gTup C.K 2 (gCons (gName i) (gCons (gName j) gNil))) (gCons (gName l) gNil))) (fun Γ x => ((Γ.set i (.val (r1 x.1.1))).set j (.val (r2 x.1.2))).set l (.val (r3 x.2))) where
  blk := blkOk_by hb
  g := EvG.tup21 (C := C.blk scope) hN hM hL hx hy hz hcm
  up := fun a n hl => by
    simp only [List.map_cons, List.map_nil, List.mem_cons, List.not_mem_nil, or_false, not_or] at hl
    show ((((((Γ.set l .no).set j .no).set i .no).set i _).set j _).set l _)[n]? = _
    rw [List.getElem?_set_ne (fun q => hl.2.2 q.symm), List.getElem?_set_ne (fun q => hl.2.1 q.symm), List.getElem?_set_ne (fun q => hl.1 q.symm), List.getElem?_set_ne (fun q => hl.1 q.symm), List.getElem?_set_ne (fun q => hl.2.1 q.symm), List.getElem?_set_ne (fun q => hl.2.2 q.symm)]
  no := fun v hv O => by
    simp only [List.map_cons, List.map_nil, List.mem_cons, List.not_mem_nil, or_false] at hv
    rcases hv with rfl | rfl | rfl
    · exact hn O
    · exact hn2 O
    · exact hn3 O
  w := fun v σ H Q h => by
    obtain ⟨a, xs, e, q, ln, v1, r, e1, a', xs', e', q', ln', u1, r', f1, u2, r'', f2, f3, v3, r3, e3, e4, h⟩ := h
    have e5 : L2.wipe ((((L2.wipe σ [i, j, l]).set i (some u1)).set j (some u2)).set l (some v3)) [i, j, l] = L2.wipe σ [i, j, l] := by
      apply List.ext_getElem?
      intro n
      simp only [List.map_cons, List.map_nil, L2.wipe, List.getElem?_set, List.length_set]
      by_cases h1 : i = n
      · simp only [if_pos h1]
      · by_cases h2 : j = n
        · simp only [if_neg h1, if_pos h2]
        · by_cases h3 : l = n
          · simp only [if_neg h1, if_neg h2, if_pos h3]
          · simp only [if_neg h1, if_neg h2, if_neg h3]
    exact ⟨a, xs, e, q, ln, v1, r, e1, a', xs', e', q', ln', u1, r', f1, u2, r'', f2, f3, v3, r3, e3, e4, e5, h e5⟩
end
section
variable {C : Cc} {Γ : List Slot} {α β γ δ ε ζ η : Type} {e1 e2 e3 e4 e5 e6 : Expr} {pos p : Pos} {x : Str} {j : Nat} {ρ : (Addr → Prop) → ε → Rp}
theorem Ev.call5 {ra : (Addr → Prop) → α → Rp} {rb : (Addr → Prop) → β → Rp} {rc : (Addr → Prop) → γ → Rp} {rd : (Addr → Prop) → δ → Rp} {re : (Addr → Prop) → ζ → Rp} {m1 : W α} {m2 : W β} {m3 : W γ} {m4 : W δ} {m5 : W ζ} {mf : α × β × γ × δ × ζ × Unit → W ε} (hf : FnV C.toMc x j 5 (fun N t => [ra N t.1, rb N t.2.1, rc N t.2.2.1, rd N t.2.2.2.1, re N t.2.2.2.2.1]) ρ mf) (hj : j ≤ C.k) (hg : C.sc.names.lookup x = some .globalImplicit) (h1 : Ev C Γ e1 (ra C.fr) m1) (h2 : Ev C Γ e2 (rb C.fr) m2) (h3 : Ev C Γ e3 (rc C.fr) m3) (h4 : Ev C Γ e4 (rd C.fr) m4) (h5 : Ev C Γ e5 (re C.fr) m5) (n1 : NoStar e1) (n2 : NoStar e2) (n3 : NoStar e3) (n4 : NoStar e4) (n5 : NoStar e5) (hd : (x == ("__debug__" : Str)) = false := by decide) (hcm : C.cm = true := by rfl) :
    Ev C Γ (.Call (.Name x p) [e1, e2, e3, e4, e5] [] pos) (ρ C.fr) (do let a ← m1; let b ← m2; let c ← m3; let d ← m4; let e ← m5; mf (a, b, c, d, e, ())) := by
  have q := Ev.callA (e := e1) (p := p) (pos := pos) hf hj hg (EvA.cons h1 (EvA.cons h2 (EvA.cons h3 (EvA.cons h4 (EvA.cons h5 EvA.nil n5) n4) n3) n2) n1) n1 (EvA.cons h2 (EvA.cons h3 (EvA.cons h4 (EvA.cons h5 EvA.nil n5) n4) n3) n2).1 hd hcm
  exact q
theorem Ev.call6 {ra : (Addr → Prop) → α → Rp} {rb : (Addr → Prop) → β → Rp} {rc : (Addr → Prop) → γ → Rp} {rd : (Addr → Prop) → δ → Rp} {re : (Addr → Prop) → ζ → Rp} {rf : (Addr → Prop) → η → Rp} {m1 : W α} {m2 : W β} {m3 : W γ} {m4 : W δ} {m5 : W ζ} {m6 : W η} {mf : α × β × γ × δ × ζ × η × Unit → W ε} (hf : FnV C.toMc x j 6 (fun N t => [ra N t.1, rb N t.2.1, rc N t.2.2.1, rd N t.2.2.2.1, re N t.2.2.2.2.1, rf N t.2.2.2.2.2.1]) ρ mf) (hj : j ≤ C.k) (hg : C.sc.names.lookup x = some .globalImplicit) (h1 : Ev C Γ e1 (ra C.fr) m1) (h2 : Ev C Γ e2 (rb C.fr) m2) (h3 : Ev C Γ e3 (rc C.fr) m3) (h4 : Ev C Γ e4 (rd C.fr) m4) (h5 : Ev C Γ e5 (re C.fr) m5) (h6 : Ev C Γ e6 (rf C.fr) m6) (n1 : NoStar e1) (n2 : NoStar e2) (n3 : NoStar e3) (n4 : NoStar e4) (n5 : NoStar e5) (n6 : NoStar e6) (hd : (x == ("__debug__" : Str)) = false := by decide) (hcm : C.cm = true := by rfl) :
    Ev C Γ (.Call (.Name x p) [e1, e2, e3, e4, e5, e6] [] pos) (ρ C.fr) (do let a ← m1; let b ← m2; let c ← m3; let d ← m4; let e ← m5; let f ← m6; mf (a, b, c, d, e, f, ())) := by
  have q := Ev.callA (e := e1) (p := p) (pos := pos) hf hj hg (EvA.cons h1 (EvA.cons h2 (EvA.cons h3 (EvA.cons h4 (EvA.cons h5 (EvA.cons h6 EvA.nil n6) n5) n4) n3) n2) n1) n1 (EvA.cons h2 (EvA.cons h3 (EvA.cons h4 (EvA.cons h5 (EvA.cons h6 EvA.nil n6) n5) n4) n3) n2).1 hd hcm
  exact q
end
end Y

/-! Y29: a loop over own things that makes one own list grow -/
namespace Y
open PySem PySem.Spec L2
section
variable {C : Cc} {Γ Γ' : List Slot} {α β γ ω : Type} {J : ω → Out} {e e1 e2 a b : Expr} {p pos : Pos} {rest sts : List Stmt} {x : Str}
theorem StOk.dropG {F H : Hp} {σ : St} {g : Nat → Hp} (s : StOk C F H Γ σ g) (k : Nat) : StOk C F H (Γ.set k .no) σ (setG g k emp) := by
  refine ⟨by rw [List.length_set]; exact s.len, fun i S q => ?_, s.sF, fun i => ?_, fun i => ?_, fun i j h => ?_, s.fr⟩
  · by_cases h : i = k
    · subst h
      rw [List.getElem?_set] at q
      simp only [if_true] at q
      split at q
      · have := Option.some.inj q; subst this; trivial
      · cases q
    · rw [List.getElem?_set, if_neg (fun z => h z.symm)] at q
      rw [setG_ne h]; exact s.slot i S q
  · by_cases h : i = k
    · subst h; rw [setG_same]; exact fun a o q => nomatch q
    · rw [setG_ne h]; exact s.sG i
  · by_cases h : i = k
    · subst h; rw [setG_same]; exact fun a => .inr rfl
    · rw [setG_ne h]; exact s.dF i
  · by_cases h1 : i = k
    · subst h1; rw [setG_same]; exact fun a => .inl rfl
    · by_cases h2 : j = k
      · subst h2; rw [setG_same]; exact fun a => .inr rfl
      · rw [setG_ne h1, setG_ne h2]; exact s.dG i j h
/-- a loop that reads own things and makes one own thing grow, which is dropped behind it -/
theorem Ex1.brwK {st : Stmt} {m : W ω} {k : Nat} {O : Op} {Γq : (Nat → V) → List Slot} {Jq : (Nat → V) → ω → Out} (hk : Γ[k]? = some (.own O)) (hb : ∀ pv, PinB C pv 0 (Γ.set k .no) (Γq pv)) (h : ∀ pv, Ex1 C ((Γq pv).set k (.own O)) st (Jq pv) m) (hJ : ∀ pv o, PinO (Γ.set k .no) pv (Jq pv o) (J o)) : Ex1 C Γ st J m :=
  fun X Wx ok tk F H g σ s D hm => by
    obtain ⟨pv, hpv⟩ : ∃ pv : Nat → V, ∀ i u, σ[i]? = some (some u) → pv i = u := ⟨fun i => ((σ[i]?).getD none).getD .non, fun i u e => by simp [e]⟩
    have s0 := s.dropG k
    obtain ⟨s1, sF, sG⟩ := s0.frzP (hb pv) hpv
    have hdis : Dis (Y.frzA F H (setG g k emp)) (g k) := fun a => by
      by_cases q : (g k) a = none
      · exact .inr q
      · refine .inl ?_
        unfold Y.frzA
        rw [if_neg]
        rintro (z | ⟨i, z⟩)
        · rcases s.dF k a with w | w
          · exact z w
          · exact q w
        · by_cases hi : i = k
          · subst hi; rw [setG_same] at z; exact z rfl
          · rw [setG_ne hi] at z
            rcases s.dG i k hi a with w | w
            · exact z w
            · exact q w
    have s2 : StOk C (Y.frzA F H (setG g k emp)) H ((Γq pv).set k (.own O)) σ (setG (fun _ => emp) k (g k)) := by
      refine ⟨by rw [List.length_set]; exact s1.len, fun i S q => ?_, s1.sF, fun i => ?_, fun i => ?_, fun i j hij => ?_, s1.fr⟩
      · by_cases hi : i = k
        · subst hi
          rw [List.getElem?_set] at q
          simp only [if_true] at q
          split at q
          · have := Option.some.inj q; subst this
            rw [setG_same]
            exact (s.slot i _ hk).mono sF
          · cases q
        · rw [List.getElem?_set, if_neg (fun z => hi z.symm)] at q
          rw [setG_ne hi]; exact s1.slot i S q
      · by_cases hi : i = k
        · subst hi; rw [setG_same]; exact s.sG i
        · rw [setG_ne hi]; exact s1.sG i
      · by_cases hi : i = k
        · subst hi; rw [setG_same]; exact hdis
        · rw [setG_ne hi]; exact s1.dF i
      · by_cases hi : i = k
        · by_cases hj : j = k
          · exact absurd (hi.trans hj.symm) hij
          · rw [setG_ne hj]; exact fun a => .inr rfl
        · rw [setG_ne hi]; exact fun a => .inl rfl
    have hU : ∀ b, dU (setG (fun _ => emp) k (g k)) b → dU g b := fun b ⟨i, q⟩ => by
      by_cases hi : i = k
      · subst hi; rw [setG_same] at q; exact ⟨i, q⟩
      · rw [setG_ne hi] at q; exact absurd rfl q
    have hU0 : ∀ b, dU (setG g k emp) b → dU g b := fun b ⟨i, q⟩ => by
      by_cases hi : i = k
      · subst hi; rw [setG_same] at q; exact absurd rfl q
      · rw [setG_ne hi] at q; exact ⟨i, q⟩
    have fr : ∀ {F' H' : Hp} {U' : Addr → Prop}, Fr (Y.frzA F H (setG g k emp)) H (dU (setG (fun _ => emp) k (g k))) F' H' U' → Fr F H (dU g) F H' (dU (setG g k emp)) := fun f =>
      ⟨Same.refl _, fun b q => .inl q, fun b o q n => f.keep b o q fun z => n (hU b z), f.dom, fun b q => .inl (hU0 b q)⟩
    refine h pv X Wx ok tk _ H _ σ s2 D (m.mono (fun o ho => ?_) (fun e he => ?_) hm)
    · have hJ' := hJ pv o
      cases e1 : Jq pv o with
      | nx Γ2 =>
        rw [e1] at hJ'
        cases e2 : J o with
        | nx Γ3 =>
          rw [e2] at hJ' ho
          intro F' H' g' σ' f s'
          refine ho F H' (setG g k emp) σ' (fr f) ⟨(PinA.len hJ').1.trans s'.len, fun i S3 q => ?_, (sF.trans f.sF).trans s'.sF, fun i => ((sG i).trans f.sF).trans s'.sF, s0.dF, s0.dG, s'.fr⟩
          rcases PinA.get hJ' q with e | ⟨α, ρ, a, h1, h2⟩ | ⟨α, ρ, a, I, e, h2⟩
          · subst e; trivial
          · rw [Nat.zero_add] at h2
            obtain ⟨v, e1, r, e2⟩ := s'.get_val h2
            have x := s0.slot i S3 h1
            cases S3 with
            | no => trivial
            | val R =>
              obtain ⟨w, e3, r3⟩ := x
              have := hpv i w e3
              exact ⟨v, e1, by rw [e2, this]; exact r3⟩
            | own O =>
              obtain ⟨w, e3, r3⟩ := x
              have := hpv i w e3
              exact ⟨v, e1, by rw [e2, this]; exact r3⟩
          · subst e
            obtain ⟨v, e1, r⟩ := s'.get_val h2
            exact ⟨v, e1, I.fre _ _ _ r _⟩
        | _ => rw [e2] at hJ'; exact hJ'.elim
      | rt R =>
        rw [e1] at hJ'
        cases e2 : J o with
        | rt R' =>
          rw [e2] at hJ' ho
          obtain ⟨eR, hR⟩ := hJ'
          subst eR
          intro F' H' g' v f s' r
          exact ho F H' (setG g k emp) v (fr f) ((sF.trans f.sF).trans s') (hR _ _ _ r)
        | _ => rw [e2] at hJ'; exact hJ'.elim
      | _ => rw [e1] at hJ'; exact hJ'.elim
    · intro F' H' g' σ' cls d f s' hx
      exact he F H' (setG g k emp) σ' cls d (fr f) ((sF.trans f.sF).trans s') (hx.mp fun b q _ => ⟨q, fun ⟨i, z⟩ => by
        by_cases hik : i = k
        · subst hik; rw [setG_same] at z; exact z rfl
        · rw [setG_ne hik] at z
          cases w : g i b with
          | none => exact z w
          | some o => rw [s.sG i b o w] at q; cases q⟩)
/-- an element taken out by its place -/
def popI (xs : List α) (q : Int) : W (α × List α) := W.req (0 ≤ q ∧ q ≤ 1000000) (match xs[q.toNat]? with | some a => pure (a, xs.eraseIdx q.toNat) | none => W.bad)
theorem seq_nn {q : Int} {n : Nat} (h0 : 0 ≤ q) (h1 : q.toNat < n) : seqIndex? q n = some q.toNat := by
  unfold seqIndex?
  have e1 : ¬ q < 0 := by omega
  simp only [if_neg e1]
  rw [if_pos]
  simp; omega
theorem Ex.popAt {i j : Nat} {y : Str} {ix : Expr} {px py apos cpos : Pos} {r : α → Rp} {xs : List α} {mi : W Int} {k : α × List α → W ω} (hN : C.N[i]? = some x) (hv : Vis C.sc x) (hΓ : Γ[i]? = some (.own (oL C.fr r xs))) (hM : C.N[j]? = some y) (hy : Sto C y) (hij : i ≠ j) (hi : Ev C Γ ix rI mi) (ni : NoStar ix) (hr : ∀ p : α × List α, Ex C ((Γ.set i (.own (oL C.fr r p.2))).set j (.val (r p.1))) rest J (k p))
    (hline : (apos.endLine == cpos.line) = true := by rfl) (hd : (x == ("__debug__" : Str)) = false := by decide) (hcd : (x == ("__classdict__" : Str)) = false := by decide) (hb : ∀ X : Cx, attributeBase (.Name x px) "pop" X.env (eval (.Name x px) X.env) = eval (.Name x px) X.env := by intro _; rfl)
    (hs : ∀ X : Cx, C.Ok X → swapsWith (.Call (.Attribute (.Name x px) "pop" apos) [ix] [] cpos) (some (.Name y py)) pos.line X.env = pure false := by intro _ _; rfl)
    (hfew : ∀ X : Cx, ((backTo cpos (starEach [ix] X.env)).all (fun x => !x.1) && (backToKw cpos (keywordEach [] X.env)).all (fun x => x.1.isSome) && decide ([ix].length + ([] : List Keyword).length + (if ([] : List Keyword).isEmpty then 0 else 1) < 30)) = true := by intro _; rfl) :
    Ex C Γ (.Assign [.Name y py] (.Call (.Attribute (.Name x px) "pop" apos) [ix] [] cpos) pos :: rest) J (do let q ← mi; let p ← popI xs q; k p) :=
  Ex.cons fun X Wx ok tk F H g σ s D hm => by
    refine W1.of (ps_set ok.toOk.ndX (by rw [ok.N]; exact hM) (hy.loc ok.toOk) (pe_bm PySem.F.plainAttrs_list PySem.F.slot_list_pop PySem.F.type_list_pop mt_popAt (pe_var (i := i) (by rw [ok.N]; exact hN) (by rw [ok.sc]; exact hv) hd hcd) (pa_cons (pe_W (e := ix)) pa_nil (ni [] X.env)) (hb X) (hfew X) hline (ni [] X.env) (by rfl)) (hs X ok.toOk) (hy.fn ok.toOk)) ?_
    obtain ⟨v, eσ, a, vs, ev, na, eg, t⟩ := s.get_own hΓ
    subst ev
    have hHa : H a = some (.lst vs) := s.sG i a _ (by rw [eg]; exact one_same)
    refine ⟨.ref a, eσ, .inl ⟨rfl, _, SqL.of hHa⟩, ?_⟩
    refine hi X Wx ok.toOk tk F H g σ s _ (mi.mono (fun q hq F1 H1 g1 u f1 s1 r1 => ?_) (fun e he => he.ex) hm)
    obtain ⟨v', eσ', a', vs', ev', na', eg', t'⟩ := s1.get_own hΓ
    rw [eσ] at eσ'
    cases eσ'
    cases ev'
    have r1 : u = .int q := r1
    subst r1
    obtain ⟨⟨h1, h2⟩, hq⟩ := hq
    cases hx : xs[q.toNat]? with
    | none => rw [hx] at hq; exact hq.elim
    | some z =>
      rw [hx] at hq
      obtain ⟨w, hw, rw'⟩ := t'.at hx
      have tt : All2 (fun u x => (r x).p F1 u) (vs'.eraseIdx q.toNat) (xs.eraseIdx q.toNat) := by
        rw [List.eraseIdx_eq_take_drop_succ, List.eraseIdx_eq_take_drop_succ]
        exact (t'.take' q.toNat).app' (t'.drop' (q.toNat + 1))
      obtain ⟨s2, f2, hH1⟩ := s1.upd_own (O' := oL C.fr r (xs.eraseIdx q.toNat)) (o' := .lst (vs'.eraseIdx q.toNat)) eg' eσ (List.getElem?_eq_some_iff.mp hΓ).1 ⟨a, _, rfl, na', rfl, tt⟩
      have hlt : q.toNat < vs'.length := (List.getElem?_eq_some_iff.mp hw).1
      exact ⟨a, vs', q, q.toNat, w, rfl, rfl, hH1, by omega, by omega, seq_nn h1 hlt, hw, (hr (z, xs.eraseIdx q.toNat)).later ok tk (f1.trans f2) (s2.set_val rw') hq⟩
/-- a copy of an own list -/
theorem EvO.listOwn {i : Nat} {N : Addr → Prop} {px : Pos} {r : α → Rp} {xs : List α} (hN : C.N[i]? = some x) (hv : visB C.sc x = true) (hΓ : Γ[i]? = some (.own (oL N r xs))) (hb : Blt C "list" (.type "list")) (hd : (x == ("__debug__" : Str)) = false := by decide) (hcd : (x == ("__classdict__" : Str)) = false := by decide) :
    EvO C Γ (.Call (.Name "list" p) [.Name x px] [] pos) (oL C.fr r) (pure xs) := fun X Wx ok tk F H g σ s Q hm => by
  refine WE.of (pe_callTy call_list_of (hb.gl ok) (by rw [ok.mg]; exact hb.m) hb.v (pa_cons (pe_var (i := i) (by rw [ok.N]; exact hN) (by rw [ok.sc]; exact visOf hv) hd hcd) pa_nil rfl) hb.n hb.d rfl rfl) ?_
  obtain ⟨v, eσ, a, vs, ev, na, eg, t⟩ := s.get_own hΓ
  subst ev
  have hHa : H a = some (.lst vs) := s.sG i a _ (by rw [eg]; exact one_same)
  exact ⟨.ref a, eσ, a, vs, rfl, .inl (SqL.of hHa), fun l hl => EvO.fin (O := oL C.fr r xs) Fr.refl s hl (fun n => ⟨l, _, rfl, n, rfl, t⟩) hm⟩
end
end Y

/-! Y30: tuples of four and five -/
namespace Y
open PySem PySem.Spec L2
theorem Fd.X2 {α β : Type} {ρ1 : (Addr → Prop) → α → Rp} {ρ2 : (Addr → Prop) → β → Rp} (h1 : Fd ρ1) (h2 : Fd ρ2) : Fd (fun N => rX2 N (ρ1 N) (ρ2 N)) := ⟨fun N N' b F v hn ⟨a, v1, v2, e, n, q, t1, t2⟩ => ⟨a, v1, v2, e, hn a (by rw [q]; simp) n, q, h1.mo _ _ _ _ _ hn t1, h2.mo _ _ _ _ _ hn t2⟩⟩
theorem Fd.X3 {α β γ : Type} {ρ1 : (Addr → Prop) → α → Rp} {ρ2 : (Addr → Prop) → β → Rp} {ρ3 : (Addr → Prop) → γ → Rp} (h1 : Fd ρ1) (h2 : Fd ρ2) (h3 : Fd ρ3) : Fd (fun N => rX3 N (ρ1 N) (ρ2 N) (ρ3 N)) := ⟨fun N N' b F v hn ⟨a, v1, v2, v3, e, n, q, t1, t2, t3⟩ => ⟨a, v1, v2, v3, e, hn a (by rw [q]; simp) n, q, h1.mo _ _ _ _ _ hn t1, h2.mo _ _ _ _ _ hn t2, h3.mo _ _ _ _ _ hn t3⟩⟩
def rT4 {α β γ δ : Type} (K : PySem.W.Frag) (r1 : α → Rp) (r2 : β → Rp) (r3 : γ → Rp) (r4 : δ → Rp) (x : α × β × γ × δ) : Rp :=
  ⟨fun F v => ∃ a v1 v2 v3 v4, v = .ref a ∧ SqT K F a [v1, v2, v3, v4] ∧ (r1 x.1).p F v1 ∧ (r2 x.2.1).p F v2 ∧ (r3 x.2.2.1).p F v3 ∧ (r4 x.2.2.2).p F v4, fun h ⟨a, v1, v2, v3, v4, e, q, t1, t2, t3, t4⟩ => ⟨a, v1, v2, v3, v4, e, Same.seqT h q, (r1 _).mono h t1, (r2 _).mono h t2, (r3 _).mono h t3, (r4 _).mono h t4⟩⟩
def rX4 {α β γ δ : Type} (N : Addr → Prop) (r1 : α → Rp) (r2 : β → Rp) (r3 : γ → Rp) (r4 : δ → Rp) (x : α × β × γ × δ) : Rp :=
  ⟨fun F v => ∃ a v1 v2 v3 v4, v = .ref a ∧ N a ∧ F a = some (.tup [v1, v2, v3, v4]) ∧ (r1 x.1).p F v1 ∧ (r2 x.2.1).p F v2 ∧ (r3 x.2.2.1).p F v3 ∧ (r4 x.2.2.2).p F v4, fun h ⟨a, v1, v2, v3, v4, e, n, q, t1, t2, t3, t4⟩ => ⟨a, v1, v2, v3, v4, e, n, h _ _ q, (r1 _).mono h t1, (r2 _).mono h t2, (r3 _).mono h t3, (r4 _).mono h t4⟩⟩
theorem Frs.X4 {α β γ δ : Type} {ρ1 : (Addr → Prop) → α → Rp} {ρ2 : (Addr → Prop) → β → Rp} {ρ3 : (Addr → Prop) → γ → Rp} {ρ4 : (Addr → Prop) → δ → Rp} (h1 : Frs ρ1) (h2 : Frs ρ2) (h3 : Frs ρ3) (h4 : Frs ρ4) : Frs (fun N => rX4 N (ρ1 N) (ρ2 N) (ρ3 N) (ρ4 N)) := ⟨fun N b F v ⟨a, v1, v2, v3, v4, e, n, q, t1, t2, t3, t4⟩ => ⟨a, v1, v2, v3, v4, e, n, by rw [restr_at n]; exact q, h1.re _ _ _ _ t1, h2.re _ _ _ _ t2, h3.re _ _ _ _ t3, h4.re _ _ _ _ t4⟩, fun N N' b F v hn ⟨a, v1, v2, v3, v4, e, n, q, t1, t2, t3, t4⟩ => ⟨a, v1, v2, v3, v4, e, hn _ n, q, h1.mo _ _ _ _ _ hn t1, h2.mo _ _ _ _ _ hn t2, h3.mo _ _ _ _ _ hn t3, h4.mo _ _ _ _ _ hn t4⟩⟩
theorem subXT4 {α β γ δ : Type} {K : PySem.W.Frag} {N : Addr → Prop} {r1 r1' : α → Rp} {r2 r2' : β → Rp} {r3 r3' : γ → Rp} {r4 r4' : δ → Rp} (h1 : SubK r1 r1') (h2 : SubK r2 r2') (h3 : SubK r3 r3') (h4 : SubK r4 r4') : SubK (rX4 N r1 r2 r3 r4) (rT4 K r1' r2' r3' r4') := fun a F v ⟨q, v1, v2, v3, v4, e, _, q2, t1, t2, t3, t4⟩ => ⟨q, v1, v2, v3, v4, e, .inl (.inl q2), h1 _ _ _ t1, h2 _ _ _ t2, h3 _ _ _ t3, h4 _ _ _ t4⟩
theorem subXX4 {α β γ δ : Type} {N : Addr → Prop} {r1 r1' : α → Rp} {r2 r2' : β → Rp} {r3 r3' : γ → Rp} {r4 r4' : δ → Rp} (h1 : SubK r1 r1') (h2 : SubK r2 r2') (h3 : SubK r3 r3') (h4 : SubK r4 r4') : SubK (rX4 N r1 r2 r3 r4) (rX4 N r1' r2' r3' r4') := fun a F v ⟨q, v1, v2, v3, v4, e, n, q2, t1, t2, t3, t4⟩ => ⟨q, v1, v2, v3, v4, e, n, q2, h1 _ _ _ t1, h2 _ _ _ t2, h3 _ _ _ t3, h4 _ _ _ t4⟩
theorem subT4 {α β γ δ : Type} {K : PySem.W.Frag} {r1 r1' : α → Rp} {r2 r2' : β → Rp} {r3 r3' : γ → Rp} {r4 r4' : δ → Rp} (h1 : SubK r1 r1') (h2 : SubK r2 r2') (h3 : SubK r3 r3') (h4 : SubK r4 r4') : SubK (rT4 K r1 r2 r3 r4) (rT4 K r1' r2' r3' r4') := fun a F v ⟨q, v1, v2, v3, v4, e, q2, t1, t2, t3, t4⟩ => ⟨q, v1, v2, v3, v4, e, q2, h1 _ _ _ t1, h2 _ _ _ t2, h3 _ _ _ t3, h4 _ _ _ t4⟩
theorem Ev.tupX4 {C : Cc} {Γ : List Slot} {e1 e2 e3 e4 : Expr} {α β γ δ : Type} {pos : Pos} {k : Nat} {r1 : α → Rp} {r2 : β → Rp} {r3 : γ → Rp} {r4 : δ → Rp} {m1 : W α} {m2 : W β} {m3 : W γ} {m4 : W δ} (h1 : Ev C Γ e1 r1 m1) (h2 : Ev C Γ e2 r2 m2) (h3 : Ev C Γ e3 r3 m3) (h4 : Ev C Γ e4 r4 m4) (n1 : NoStar e1) (n2 : NoStar e2) (n3 : NoStar e3) (n4 : NoStar e4) : Ev C Γ (.Tuple [e1, e2, e3, e4] k pos) (rX4 C.fr r1 r2 r3 r4) (do let x1 ← m1; let x2 ← m2; let x3 ← m3; let x4 ← m4; pure (x1, x2, x3, x4)) :=
  Ev.tupX (ρ := rX4 C.fr r1 r2 r3 r4) (fun t : α × β × γ × δ × Unit => (t.1, t.2.1, t.2.2.1, t.2.2.2.1)) (fun t F q vs n hq h0 => by
    cases h0 with
    | cons h1_ q1_ =>
      cases q1_ with
      | cons h2_ q2_ =>
        cases q2_ with
        | cons h3_ q3_ =>
          cases q3_ with
          | cons h4_ q4_ =>
            cases q4_; exact ⟨q, _, _, _, _, rfl, n, hq, h1_, h2_, h3_, h4_⟩) (fun _ => Nat.le_of_ble_eq_true rfl) (EvA.cons h1 (EvA.cons h2 (EvA.cons h3 (EvA.cons h4 EvA.nil n4) n3) n2) n1)
theorem Ev.tupX4P {C : Cc} {Γ : List Slot} {e1 e2 e3 e4 : Expr} {α β γ δ : Type} {pos : Pos} {k : Nat} {r1 : α → Rp} {r2 : β → Rp} {r3 : γ → Rp} {r4 : δ → Rp} {x1 : α} {x2 : β} {x3 : γ} {x4 : δ} (h1 : Ev C Γ e1 r1 (pure x1)) (h2 : Ev C Γ e2 r2 (pure x2)) (h3 : Ev C Γ e3 r3 (pure x3)) (h4 : Ev C Γ e4 r4 (pure x4)) (n1 : NoStar e1) (n2 : NoStar e2) (n3 : NoStar e3) (n4 : NoStar e4) : Ev C Γ (.Tuple [e1, e2, e3, e4] k pos) (rX4 C.fr r1 r2 r3 r4) (pure (x1, x2, x3, x4)) := Ev.tupX4 h1 h2 h3 h4 n1 n2 n3 n4
theorem Ev.ixT4_0 {C : Cc} {Γ : List Slot} {a : Expr} {α β γ δ : Type} {pos : Pos} {r1 : α → Rp} {r2 : β → Rp} {r3 : γ → Rp} {r4 : δ → Rp} {ma : W (α × β × γ × δ)} {j : Nat} {p2 : Pos} (ha : Ev C Γ a (rT4 C.K r1 r2 r3 r4) ma) : Ev C Γ (.Subscript a (.Constant (.int 0) j p2) pos) r1 (do let x ← ma; pure x.1) :=
  Ev.ixT (ρ := rT4 C.K r1 r2 r3 r4) (ρ' := r1) (fun x => x.1) 0 (fun x F v ⟨q, v1, v2, v3, v4, e, h, t1, t2, t3, t4⟩ => ⟨q, _, v1, e, h, rfl, t1⟩) ha
theorem Ev.ixT4_0P {C : Cc} {Γ : List Slot} {a : Expr} {α β γ δ : Type} {pos : Pos} {r1 : α → Rp} {r2 : β → Rp} {r3 : γ → Rp} {r4 : δ → Rp} {x : α × β × γ × δ} {j : Nat} {p2 : Pos} (ha : Ev C Γ a (rT4 C.K r1 r2 r3 r4) (pure x)) : Ev C Γ (.Subscript a (.Constant (.int 0) j p2) pos) r1 (pure x.1) := Ev.ixT4_0 ha
theorem Ev.ixT4_1 {C : Cc} {Γ : List Slot} {a : Expr} {α β γ δ : Type} {pos : Pos} {r1 : α → Rp} {r2 : β → Rp} {r3 : γ → Rp} {r4 : δ → Rp} {ma : W (α × β × γ × δ)} {j : Nat} {p2 : Pos} (ha : Ev C Γ a (rT4 C.K r1 r2 r3 r4) ma) : Ev C Γ (.Subscript a (.Constant (.int 1) j p2) pos) r2 (do let x ← ma; pure x.2.1) :=
  Ev.ixT (ρ := rT4 C.K r1 r2 r3 r4) (ρ' := r2) (fun x => x.2.1) 1 (fun x F v ⟨q, v1, v2, v3, v4, e, h, t1, t2, t3, t4⟩ => ⟨q, _, v2, e, h, rfl, t2⟩) ha
theorem Ev.ixT4_1P {C : Cc} {Γ : List Slot} {a : Expr} {α β γ δ : Type} {pos : Pos} {r1 : α → Rp} {r2 : β → Rp} {r3 : γ → Rp} {r4 : δ → Rp} {x : α × β × γ × δ} {j : Nat} {p2 : Pos} (ha : Ev C Γ a (rT4 C.K r1 r2 r3 r4) (pure x)) : Ev C Γ (.Subscript a (.Constant (.int 1) j p2) pos) r2 (pure x.2.1) := Ev.ixT4_1 ha
theorem Ev.ixT4_2 {C : Cc} {Γ : List Slot} {a : Expr} {α β γ δ : Type} {pos : Pos} {r1 : α → Rp} {r2 : β → Rp} {r3 : γ → Rp} {r4 : δ → Rp} {ma : W (α × β × γ × δ)} {j : Nat} {p2 : Pos} (ha : Ev C Γ a (rT4 C.K r1 r2 r3 r4) ma) : Ev C Γ (.Subscript a (.Constant (.int 2) j p2) pos) r3 (do let x ← ma; pure x.2.2.1) :=
  Ev.ixT (ρ := rT4 C.K r1 r2 r3 r4) (ρ' := r3) (fun x => x.2.2.1) 2 (fun x F v ⟨q, v1, v2, v3, v4, e, h, t1, t2, t3, t4⟩ => ⟨q, _, v3, e, h, rfl, t3⟩) ha
theorem Ev.ixT4_2P {C : Cc} {Γ : List Slot} {a : Expr} {α β γ δ : Type} {pos : Pos} {r1 : α → Rp} {r2 : β → Rp} {r3 : γ → Rp} {r4 : δ → Rp} {x : α × β × γ × δ} {j : Nat} {p2 : Pos} (ha : Ev C Γ a (rT4 C.K r1 r2 r3 r4) (pure x)) : Ev C Γ (.Subscript a (.Constant (.int 2) j p2) pos) r3 (pure x.2.2.1) := Ev.ixT4_2 ha
theorem Ev.ixT4_3 {C : Cc} {Γ : List Slot} {a : Expr} {α β γ δ : Type} {pos : Pos} {r1 : α → Rp} {r2 : β → Rp} {r3 : γ → Rp} {r4 : δ → Rp} {ma : W (α × β × γ × δ)} {j : Nat} {p2 : Pos} (ha : Ev C Γ a (rT4 C.K r1 r2 r3 r4) ma) : Ev C Γ (.Subscript a (.Constant (.int 3) j p2) pos) r4 (do let x ← ma; pure x.2.2.2) :=
  Ev.ixT (ρ := rT4 C.K r1 r2 r3 r4) (ρ' := r4) (fun x => x.2.2.2) 3 (fun x F v ⟨q, v1, v2, v3, v4, e, h, t1, t2, t3, t4⟩ => ⟨q, _, v4, e, h, rfl, t4⟩) ha
theorem Ev.ixT4_3P {C : Cc} {Γ : List Slot} {a : Expr} {α β γ δ : Type} {pos : Pos} {r1 : α → Rp} {r2 : β → Rp} {r3 : γ → Rp} {r4 : δ → Rp} {x : α × β × γ × δ} {j : Nat} {p2 : Pos} (ha : Ev C Γ a (rT4 C.K r1 r2 r3 r4) (pure x)) : Ev C Γ (.Subscript a (.Constant (.int 3) j p2) pos) r4 (pure x.2.2.2) := Ev.ixT4_3 ha
def rT5 {α β γ δ ε : Type} (K : PySem.W.Frag) (r1 : α → Rp) (r2 : β → Rp) (r3 : γ → Rp) (r4 : δ → Rp) (r5 : ε → Rp) (x : α × β × γ × δ × ε) : Rp :=
  ⟨fun F v => ∃ a v1 v2 v3 v4 v5, v = .ref a ∧ SqT K F a [v1, v2, v3, v4, v5] ∧ (r1 x.1).p F v1 ∧ (r2 x.2.1).p F v2 ∧ (r3 x.2.2.1).p F v3 ∧ (r4 x.2.2.2.1).p F v4 ∧ (r5 x.2.2.2.2).p F v5, fun h ⟨a, v1, v2, v3, v4, v5, e, q, t1, t2, t3, t4, t5⟩ => ⟨a, v1, v2, v3, v4, v5, e, Same.seqT h q, (r1 _).mono h t1, (r2 _).mono h t2, (r3 _).mono h t3, (r4 _).mono h t4, (r5 _).mono h t5⟩⟩
def rX5 {α β γ δ ε : Type} (N : Addr → Prop) (r1 : α → Rp) (r2 : β → Rp) (r3 : γ → Rp) (r4 : δ → Rp) (r5 : ε → Rp) (x : α × β × γ × δ × ε) : Rp :=
  ⟨fun F v => ∃ a v1 v2 v3 v4 v5, v = .ref a ∧ N a ∧ F a = some (.tup [v1, v2, v3, v4, v5]) ∧ (r1 x.1).p F v1 ∧ (r2 x.2.1).p F v2 ∧ (r3 x.2.2.1).p F v3 ∧ (r4 x.2.2.2.1).p F v4 ∧ (r5 x.2.2.2.2).p F v5, fun h ⟨a, v1, v2, v3, v4, v5, e, n, q, t1, t2, t3, t4, t5⟩ => ⟨a, v1, v2, v3, v4, v5, e, n, h _ _ q, (r1 _).mono h t1, (r2 _).mono h t2, (r3 _).mono h t3, (r4 _).mono h t4, (r5 _).mono h t5⟩⟩
theorem Frs.X5 {α β γ δ ε : Type} {ρ1 : (Addr → Prop) → α → Rp} {ρ2 : (Addr → Prop) → β → Rp} {ρ3 : (Addr → Prop) → γ → Rp} {ρ4 : (Addr → Prop) → δ → Rp} {ρ5 : (Addr → Prop) → ε → Rp} (h1 : Frs ρ1) (h2 : Frs ρ2) (h3 : Frs ρ3) (h4 : Frs ρ4) (h5 : Frs ρ5) : Frs (fun N => rX5 N (ρ1 N) (ρ2 N) (ρ3 N) (ρ4 N) (ρ5 N)) := ⟨fun N b F v ⟨a, v1, v2, v3, v4, v5, e, n, q, t1, t2, t3, t4, t5⟩ => ⟨a, v1, v2, v3, v4, v5, e, n, by rw [restr_at n]; exact q, h1.re _ _ _ _ t1, h2.re _ _ _ _ t2, h3.re _ _ _ _ t3, h4.re _ _ _ _ t4, h5.re _ _ _ _ t5⟩, fun N N' b F v hn ⟨a, v1, v2, v3, v4, v5, e, n, q, t1, t2, t3, t4, t5⟩ => ⟨a, v1, v2, v3, v4, v5, e, hn _ n, q, h1.mo _ _ _ _ _ hn t1, h2.mo _ _ _ _ _ hn t2, h3.mo _ _ _ _ _ hn t3, h4.mo _ _ _ _ _ hn t4, h5.mo _ _ _ _ _ hn t5⟩⟩
theorem subXT5 {α β γ δ ε : Type} {K : PySem.W.Frag} {N : Addr → Prop} {r1 r1' : α → Rp} {r2 r2' : β → Rp} {r3 r3' : γ → Rp} {r4 r4' : δ → Rp} {r5 r5' : ε → Rp} (h1 : SubK r1 r1') (h2 : SubK r2 r2') (h3 : SubK r3 r3') (h4 : SubK r4 r4') (h5 : SubK r5 r5') : SubK (rX5 N r1 r2 r3 r4 r5) (rT5 K r1' r2' r3' r4' r5') := fun a F v ⟨q, v1, v2, v3, v4, v5, e, _, q2, t1, t2, t3, t4, t5⟩ => ⟨q, v1, v2, v3, v4, v5, e, .inl (.inl q2), h1 _ _ _ t1, h2 _ _ _ t2, h3 _ _ _ t3, h4 _ _ _ t4, h5 _ _ _ t5⟩
theorem subXX5 {α β γ δ ε : Type} {N : Addr → Prop} {r1 r1' : α → Rp} {r2 r2' : β → Rp} {r3 r3' : γ → Rp} {r4 r4' : δ → Rp} {r5 r5' : ε → Rp} (h1 : SubK r1 r1') (h2 : SubK r2 r2') (h3 : SubK r3 r3') (h4 : SubK r4 r4') (h5 : SubK r5 r5') : SubK (rX5 N r1 r2 r3 r4 r5) (rX5 N r1' r2' r3' r4' r5') := fun a F v ⟨q, v1, v2, v3, v4, v5, e, n, q2, t1, t2, t3, t4, t5⟩ => ⟨q, v1, v2, v3, v4, v5, e, n, q2, h1 _ _ _ t1, h2 _ _ _ t2, h3 _ _ _ t3, h4 _ _ _ t4, h5 _ _ _ t5⟩
theorem subT5 {α β γ δ ε : Type} {K : PySem.W.Frag} {r1 r1' : α → Rp} {r2 r2' : β → Rp} {r3 r3' : γ → Rp} {r4 r4' : δ → Rp} {r5 r5' : ε → Rp} (h1 : SubK r1 r1') (h2 : SubK r2 r2') (h3 : SubK r3 r3') (h4 : SubK r4 r4') (h5 : SubK r5 r5') : SubK (rT5 K r1 r2 r3 r4 r5) (rT5 K r1' r2' r3' r4' r5') := fun a F v ⟨q, v1, v2, v3, v4, v5, e, q2, t1, t2, t3, t4, t5⟩ => ⟨q, v1, v2, v3, v4, v5, e, q2, h1 _ _ _ t1, h2 _ _ _ t2, h3 _ _ _ t3, h4 _ _ _ t4, h5 _ _ _ t5⟩
theorem Ev.tupX5 {C : Cc} {Γ : List Slot} {e1 e2 e3 e4 e5 : Expr} {α β γ δ ε : Type} {pos : Pos} {k : Nat} {r1 : α → Rp} {r2 : β → Rp} {r3 : γ → Rp} {r4 : δ → Rp} {r5 : ε → Rp} {m1 : W α} {m2 : W β} {m3 : W γ} {m4 : W δ} {m5 : W ε} (h1 : Ev C Γ e1 r1 m1) (h2 : Ev C Γ e2 r2 m2) (h3 : Ev C Γ e3 r3 m3) (h4 : Ev C Γ e4 r4 m4) (h5 : Ev C Γ e5 r5 m5) (n1 : NoStar e1) (n2 : NoStar e2) (n3 : NoStar e3) (n4 : NoStar e4) (n5 : NoStar e5) : Ev C Γ (.Tuple [e1, e2, e3, e4, e5] k pos) (rX5 C.fr r1 r2 r3 r4 r5) (do let x1 ← m1; let x2 ← m2; let x3 ← m3; let x4 ← m4; let x5 ← m5; pure (x1, x2, x3, x4, x5)) :=
  Ev.tupX (ρ := rX5 C.fr r1 r2 r3 r4 r5) (fun t : α × β × γ × δ × ε × Unit => (t.1, t.2.1, t.2.2.1, t.2.2.2.1, t.2.2.2.2.1)) (fun t F q vs n hq h0 => by
    cases h0 with
    | cons h1_ q1_ =>
      cases q1_ with
      | cons h2_ q2_ =>
        cases q2_ with
        | cons h3_ q3_ =>
          cases q3_ with
          | cons h4_ q4_ =>
            cases q4_ with
            | cons h5_ q5_ =>
              cases q5_; exact ⟨q, _, _, _, _, _, rfl, n, hq, h1_, h2_, h3_, h4_, h5_⟩) (fun _ => Nat.le_of_ble_eq_true rfl) (EvA.cons h1 (EvA.cons h2 (EvA.cons h3 (EvA.cons h4 (EvA.cons h5 EvA.nil n5) n4) n3) n2) n1)
theorem Ev.tupX5P {C : Cc} {Γ : List Slot} {e1 e2 e3 e4 e5 : Expr} {α β γ δ ε : Type} {pos : Pos} {k : Nat} {r1 : α → Rp} {r2 : β → Rp} {r3 : γ → Rp} {r4 : δ → Rp} {r5 : ε → Rp} {x1 : α} {x2 : β} {x3 : γ} {x4 : δ} {x5 : ε} (h1 : Ev C Γ e1 r1 (pure x1)) (h2 : Ev C Γ e2 r2 (pure x2)) (h3 : Ev C Γ e3 r3 (pure x3)) (h4 : Ev C Γ e4 r4 (pure x4)) (h5 : Ev C Γ e5 r5 (pure x5)) (n1 : NoStar e1) (n2 : NoStar e2) (n3 : NoStar e3) (n4 : NoStar e4) (n5 : NoStar e5) : Ev C Γ (.Tuple [e1, e2, e3, e4, e5] k pos) (rX5 C.fr r1 r2 r3 r4 r5) (pure (x1, x2, x3, x4, x5)) := Ev.tupX5 h1 h2 h3 h4 h5 n1 n2 n3 n4 n5
theorem Ev.ixT5_0 {C : Cc} {Γ : List Slot} {a : Expr} {α β γ δ ε : Type} {pos : Pos} {r1 : α → Rp} {r2 : β → Rp} {r3 : γ → Rp} {r4 : δ → Rp} {r5 : ε → Rp} {ma : W (α × β × γ × δ × ε)} {j : Nat} {p2 : Pos} (ha : Ev C Γ a (rT5 C.K r1 r2 r3 r4 r5) ma) : Ev C Γ (.Subscript a (.Constant (.int 0) j p2) pos) r1 (do let x ← ma; pure x.1) :=
  Ev.ixT (ρ := rT5 C.K r1 r2 r3 r4 r5) (ρ' := r1) (fun x => x.1) 0 (fun x F v ⟨q, v1, v2, v3, v4, v5, e, h, t1, t2, t3, t4, t5⟩ => ⟨q, _, v1, e, h, rfl, t1⟩) ha
theorem Ev.ixT5_0P {C : Cc} {Γ : List Slot} {a : Expr} {α β γ δ ε : Type} {pos : Pos} {r1 : α → Rp} {r2 : β → Rp} {r3 : γ → Rp} {r4 : δ → Rp} {r5 : ε → Rp} {x : α × β × γ × δ × ε} {j : Nat} {p2 : Pos} (ha : Ev C Γ a (rT5 C.K r1 r2 r3 r4 r5) (pure x)) : Ev C Γ (.Subscript a (.Constant (.int 0) j p2) pos) r1 (pure x.1) := Ev.ixT5_0 ha
theorem Ev.ixT5_1 {C : Cc} {Γ : List Slot} {a : Expr} {α β γ δ ε : Type} {pos : Pos} {r1 : α → Rp} {r2 : β → Rp} {r3 : γ → Rp} {r4 : δ → Rp} {r5 : ε → Rp} {ma : W (α × β × γ × δ × ε)} {j : Nat} {p2 : Pos} (ha : Ev C Γ a (rT5 C.K r1 r2 r3 r4 r5) ma) : Ev C Γ (.Subscript a (.Constant (.int 1) j p2) pos) r2 (do let x ← ma; pure x.2.1) :=
  Ev.ixT (ρ := rT5 C.K r1 r2 r3 r4 r5) (ρ' := r2) (fun x => x.2.1) 1 (fun x F v ⟨q, v1, v2, v3, v4, v5, e, h, t1, t2, t3, t4, t5⟩ => ⟨q, _, v2, e, h, rfl, t2⟩) ha
theorem Ev.ixT5_1P {C : Cc} {Γ : List Slot} {a : Expr} {α β γ δ ε : Type} {pos : Pos} {r1 : α → Rp} {r2 : β → Rp} {r3 : γ → Rp} {r4 : δ → Rp} {r5 : ε → Rp} {x : α × β × γ × δ × ε} {j : Nat} {p2 : Pos} (ha : Ev C Γ a (rT5 C.K r1 r2 r3 r4 r5) (pure x)) : Ev C Γ (.Subscript a (.Constant (.int 1) j p2) pos) r2 (pure x.2.1) := Ev.ixT5_1 ha
theorem Ev.ixT5_2 {C : Cc} {Γ : List Slot} {a : Expr} {α β γ δ ε : Type} {pos : Pos} {r1 : α → Rp} {r2 : β → Rp} {r3 : γ → Rp} {r4 : δ → Rp} {r5 : ε → Rp} {ma : W (α × β × γ × δ × ε)} {j : Nat} {p2 : Pos} (ha : Ev C Γ a (rT5 C.K r1 r2 r3 r4 r5) ma) : Ev C Γ (.Subscript a (.Constant (.int 2) j p2) pos) r3 (do let x ← ma; pure x.2.2.1) :=
  Ev.ixT (ρ := rT5 C.K r1 r2 r3 r4 r5) (ρ' := r3) (fun x => x.2.2.1) 2 (fun x F v ⟨q, v1, v2, v3, v4, v5, e, h, t1, t2, t3, t4, t5⟩ => ⟨q, _, v3, e, h, rfl, t3⟩) ha
theorem Ev.ixT5_2P {C : Cc} {Γ : List Slot} {a : Expr} {α β γ δ ε : Type} {pos : Pos} {r1 : α → Rp} {r2 : β → Rp} {r3 : γ → Rp} {r4 : δ → Rp} {r5 : ε → Rp} {x : α × β × γ × δ × ε} {j : Nat} {p2 : Pos} (ha : Ev C Γ a (rT5 C.K r1 r2 r3 r4 r5) (pure x)) : Ev C Γ (.Subscript a (.Constant (.int 2) j p2) pos) r3 (pure x.2.2.1) := Ev.ixT5_2 ha
theorem Ev.ixT5_3 {C : Cc} {Γ : List Slot} {a : Expr} {α β γ δ ε : Type} {pos : Pos} {r1 : α → Rp} {r2 : β → Rp} {r3 : γ → Rp} {r4 : δ → Rp} {r5 : ε → Rp} {ma : W (α × β × γ × δ × ε)} {j : Nat} {p2 : Pos} (ha : Ev C Γ a (rT5 C.K r1 r2 r3 r4 r5) ma) : Ev C Γ (.Subscript a (.Constant (.int 3) j p2) pos) r4 (do let x ← ma; pure x.2.2.2.1) :=
  Ev.ixT (ρ := rT5 C.K r1 r2 r3 r4 r5) (ρ' := r4) (fun x => x.2.2.2.1) 3 (fun x F v ⟨q, v1, v2, v3, v4, v5, e, h, t1, t2, t3, t4, t5⟩ => ⟨q, _, v4, e, h, rfl, t4⟩) ha
theorem Ev.ixT5_3P {C : Cc} {Γ : List Slot} {a : Expr} {α β γ δ ε : Type} {pos : Pos} {r1 : α → Rp} {r2 : β → Rp} {r3 : γ → Rp} {r4 : δ → Rp} {r5 : ε → Rp} {x : α × β × γ × δ × ε} {j : Nat} {p2 : Pos} (ha : Ev C Γ a (rT5 C.K r1 r2 r3 r4 r5) (pure x)) : Ev C Γ (.Subscript a (.Constant (.int 3) j p2) pos) r4 (pure x.2.2.2.1) := Ev.ixT5_3 ha
theorem Ev.ixT5_4 {C : Cc} {Γ : List Slot} {a : Expr} {α β γ δ ε : Type} {pos : Pos} {r1 : α → Rp} {r2 : β → Rp} {r3 : γ → Rp} {r4 : δ → Rp} {r5 : ε → Rp} {ma : W (α × β × γ × δ × ε)} {j : Nat} {p2 : Pos} (ha : Ev C Γ a (rT5 C.K r1 r2 r3 r4 r5) ma) : Ev C Γ (.Subscript a (.Constant (.int 4) j p2) pos) r5 (do let x ← ma; pure x.2.2.2.2) :=
  Ev.ixT (ρ := rT5 C.K r1 r2 r3 r4 r5) (ρ' := r5) (fun x => x.2.2.2.2) 4 (fun x F v ⟨q, v1, v2, v3, v4, v5, e, h, t1, t2, t3, t4, t5⟩ => ⟨q, _, v5, e, h, rfl, t5⟩) ha
theorem Ev.ixT5_4P {C : Cc} {Γ : List Slot} {a : Expr} {α β γ δ ε : Type} {pos : Pos} {r1 : α → Rp} {r2 : β → Rp} {r3 : γ → Rp} {r4 : δ → Rp} {r5 : ε → Rp} {x : α × β × γ × δ × ε} {j : Nat} {p2 : Pos} (ha : Ev C Γ a (rT5 C.K r1 r2 r3 r4 r5) (pure x)) : Ev C Γ (.Subscript a (.Constant (.int 4) j p2) pos) r5 (pure x.2.2.2.2) := Ev.ixT5_4 ha
theorem EvG.tup4 {C : Cc} {α β γ δ : Type} {i j l m : Nat} {x1 x2 x3 x4 : Str} {p1 p2 p3 p4 : Pos} {k : Nat} {tp : Pos} {r1 : α → Rp} {r2 : β → Rp} {r3 : γ → Rp} {r4 : δ → Rp} (h1 : C.N[i]? = some x1) (h2 : C.N[j]? = some x2) (h3 : C.N[l]? = some x3) (h4 : C.N[m]? = some x4) (s1 : Sto C x1) (s2 : Sto C x2) (s3 : Sto C x3) (s4 : Sto C x4) (hcm : C.cm = true := by rfl) :
    EvG C (.Tuple [.Name x1 p1, .Name x2 p2, .Name x3 p3, .Name x4 p4] k tp) (rT4 C.K r1 r2 r3 r4) (gTup C.K 4 (gCons (gName i) (gCons (gName j) (gCons (gName l) (gCons (gName m) gNil))))) (fun Γ x => (((Γ.set i (.val (r1 x.1))).set j (.val (r2 x.2.1))).set l (.val (r3 x.2.2.1))).set m (.val (r4 x.2.2.2))) where
  pg := fun X ok => by
    rw [← ok.K]
    exact pg_tup (ok.calm.trans hcm) (pgs_cons (pg_name ok.ndX (by rw [ok.N]; exact h1) (s1.loc ok) (s1.fn ok)) (pgs_cons (pg_name ok.ndX (by rw [ok.N]; exact h2) (s2.loc ok) (s2.fn ok)) (pgs_cons (pg_name ok.ndX (by rw [ok.N]; exact h3) (s3.loc ok) (s3.fn ok)) (pgs_cons (pg_name ok.ndX (by rw [ok.N]; exact h4) (s4.loc ok) (s4.fn ok)) pgs_nil))))
  rd := fun Γ F H g σ x v Q s h kk => by
    obtain ⟨a, v1, v2, v3, v4, e, q, t1, t2, t3, t4⟩ := h
    exact ⟨a, _, e, Same.seqT s.sF q, rfl, v1, _, rfl, v2, _, rfl, v3, _, rfl, v4, _, rfl, rfl, kk _ ((((s.set_val t1).set_val t2).set_val t3).set_val t4)⟩
/-- the word ahead in one of two tuples -/
theorem Ev.ixV0 {C : Cc} {Γ : List Slot} {a : Expr} {α β γ δ ε ζ : Type} {pos : Pos} {r0 : ζ → Rp} {s1 : α → Rp} {r2 : β → Rp} {r3 : γ → Rp} {r4 : δ → Rp} {r5 : ε → Rp} {ma : W ((ζ × α) ⊕ (ζ × β × γ × δ × ε))} {j : Nat} {p2 : Pos} (ha : Ev C Γ a (rV (rT2 C.K r0 s1) (rT5 C.K r0 r2 r3 r4 r5)) ma) : Ev C Γ (.Subscript a (.Constant (.int 0) j p2) pos) r0 (do let x ← ma; pure (Sum.elim (fun z => z.1) (fun z => z.1) x)) :=
  Ev.ixT (ρ := rV (rT2 C.K r0 s1) (rT5 C.K r0 r2 r3 r4 r5)) (ρ' := r0) (fun x => Sum.elim (fun z : ζ × α => z.1) (fun z : ζ × β × γ × δ × ε => z.1) x) 0 (fun x F v h => by
    cases x with
    | inl x => obtain ⟨q, v1, v2, e, h, t1, _⟩ := h; exact ⟨q, _, v1, e, h, rfl, t1⟩
    | inr x => obtain ⟨q, v1, v2, v3, v4, v5, e, h, t1, _⟩ := h; exact ⟨q, _, v1, e, h, rfl, t1⟩) ha
end Y

/-! Y31: bags: a new list told, a new bag handed on -/
namespace Y
open PySem PySem.Spec L2
section
variable {C : Cc} {Γ Γ' : List Slot} {α β γ δ ε ω : Type} {J : ω → Out} {e e0 e1 e2 e3 a b : Expr} {p p2 pos : Pos} {rest sts : List Stmt} {x : Str}
theorem EvO.callB {i n : Nat} {y : Str} {es : List Expr} {τ : Type} {N : Addr → Prop} {ins : τ → List Rp} {r : β → Rp} [I : Fre r] {mf : τ → W (List β)} {mt : W τ} (hf : BagV C.toMc x j n ins (fun N => rN N r) mf) (hj : j ≤ C.k) (hg : C.sc.names.lookup x = some .globalImplicit) (hN : C.N[i]? = some y) (hv : visB C.sc y = true) (hΓ : Γ[i]? = some (.own (oBag N))) (ha : EvA C Γ es ins mt)
    (hdy : (y == ("__debug__" : Str) || y == ("__classdict__" : Str)) = false) (hd : (x == ("__debug__" : Str)) = false := by decide) (hcm : C.cm = true := by rfl) : EvO C Γ (.Call (.Name x p) (.Name y p2 :: es) [] pos) (oL C.fr r) (do let t ← mt; W.noX (mf t)) :=
  fun X Wx ok tk F H g σ s Q hm => by
    obtain ⟨⟨f, fd, ps, hF, hmg, hk, hb⟩, hl⟩ := hf
    have e1 := ok.prog
    have e2 := ok.w
    have e3 := ok.K
    have e4 := ok.mg
    have e5 := ok.base
    rw [Bool.or_eq_false_iff] at hdy
    have hns : NoStar (.Name y p2) := fun _ _ => rfl
    refine WE.of (pe_callS (E := fun σ => L2.WE Wx σ) (by rw [e1, e2, e3, e4, e5]; exact hF) ((ok.room hcm).mono hj) (show X.env.scope.names.lookup x = _ by rw [ok.sc]; exact hg) (by rw [e4]; exact hmg) (by rw [e3]; exact hk) (by rw [e3]; exact hb) (fun σ => by
      have := passAt tk σ
      rw [e1, e2] at this
      exact this) (pa_cons (pe_var (i := i) (by rw [ok.N]; exact hN) (by rw [ok.sc]; exact visOf hv) hdy.1 hdy.2) (pa_W (es := es)) (hns es X.env)) hd (hns es X.env) (ha.1 X pos)) ?_
    obtain ⟨v0, eσ, a, l, ev, na, eg, hl0⟩ := s.get_own hΓ
    subst ev
    refine ⟨.ref a, eσ, ?_⟩
    refine ha.2 X Wx ok tk F H g σ s _ (mt.mono (fun t ht F1 H1 g1 vs f1 s1 r1 => ?_) (fun e he => he) hm)
    obtain ⟨v1, eσ1, a1, l1, ev1, na1, eg1, hl1⟩ := s1.get_own hΓ
    rw [eσ] at eσ1
    cases eσ1
    cases ev1
    refine ⟨t, F1, g1 i, fun b => H1 b = none, a, vs, fun _ z => z, rfl, s1.sF, s1.sG i, s1.dF i, ⟨a, l1, rfl, trivial, eg1, hl1⟩, r1, (mf t).mono (fun b hb F2 H2 G2 v f2 s2 sg2 d2 hB r2 => ?_) (fun e he => he) (show (mf t).wp _ (fun _ => False) from ht)⟩
    obtain ⟨a2, l2, ea2, _, eg2, hl2⟩ := hB
    cases ea2
    obtain ⟨s3, f3⟩ := s1.callB hΓ eσ eg1 na hl2 f2 s2 sg2 d2 eg2
    obtain ⟨c, us, ev, hn1, hc, t2⟩ := r2
    have sF12 : Same F1 F2 := f2.sF
    have hF1c : F1 c = none := by
      cases q : F1 c with
      | none => rfl
      | some o => rw [s1.sF c o q] at hn1; cases hn1
    refine hb F1 H2 (setG g1 i G2) (one c (.lst us)) v (f1.trans ⟨Same.refl _, fun b q => .inl q, f3.keep, f3.dom, fun b q => ?_⟩) ⟨s3.len, fun j S q => ?_, fun b o q => s3.sF b o (sF12 b o q), s3.sG, fun j b => ?_, s3.dG, s3.fr⟩ (fun b o q => ?_) (fun b => ?_) (fun j b => ?_) (fun b q => ?_) ⟨c, us, ev, s1.fr c hn1, rfl, t2.imp fun _ _ z => I.fre _ _ _ z _⟩
    · rcases q with q | q
      · exact f3.gs b q
      · by_cases hbc : b = c
        · subst hbc; exact .inr hn1
        · exact absurd (one_ne hbc) q
    · by_cases hji : j = i
      · subst hji
        rw [hΓ] at q
        cases q
        exact s3.slot j _ hΓ
      · rw [setG_ne hji]; exact s1.slot j S q
    · rcases s3.dF j b with q | q
      · left
        cases w : F1 b with
        | none => rfl
        | some o => rw [sF12 b o w] at q; cases q
      · exact .inr q
    · by_cases hbc : b = c
      · subst hbc; rw [one_same] at q; cases q; exact s3.sF _ _ hc
      · rw [one_ne hbc] at q; cases q
    · by_cases hbc : b = c
      · subst hbc; exact .inl hF1c
      · exact .inr (one_ne hbc)
    · by_cases hbc : b = c
      · subst hbc
        rcases s3.dF j b with q | q
        · rw [hc] at q; cases q
        · exact .inl q
      · exact .inr (one_ne hbc)
    · by_cases hbc : b = c
      · subst hbc; exact s1.fr b hn1
      · exact absurd (one_ne hbc) q
theorem EvO.callG1 {i : Nat} {y : Str} {N : Addr → Prop} {ra : α → Rp} {r : β → Rp} [I : Fre r] {m1 : W α} {mf : α × Unit → W (List β)} (hf : BagV C.toMc x j 1 (fun t => [ra t.1]) (fun N => rN N r) mf) (hj : j ≤ C.k) (hg : C.sc.names.lookup x = some .globalImplicit) (hN : C.N[i]? = some y) (hv : visB C.sc y = true) (hΓ : Γ[i]? = some (.own (oBag N))) (h1 : Ev C Γ e1 ra m1) (n1 : NoStar e1)
    (hdy : (y == ("__debug__" : Str) || y == ("__classdict__" : Str)) = false) (hd : (x == ("__debug__" : Str)) = false := by decide) (hcm : C.cm = true := by rfl) : EvO C Γ (.Call (.Name x p) [.Name y p2, e1] [] pos) (oL C.fr r) (do let a ← m1; W.noX (mf (a, ()))) := by
  have q := EvO.callB (p := p) (p2 := p2) (pos := pos) hf hj hg hN hv hΓ (EvA.cons h1 EvA.nil n1) hdy hd hcm
  exact q
end
end Y

/-! Y32: a def that is handed the exception that a suite holds -/
namespace Y
open PySem PySem.Spec L2 PyProof.Rows
theorem mark_deeper {A : Around} {env : Env} {v : Value} (h : A.handled = some v) : (A.deeper env).mark (some v) = A.deeper env := by
  cases A
  cases h
  rfl
def cxS (P : Program) (w : World) (K : PySem.W.Frag) (mg : Str → Option Value) (base : Heap) (N : List Str) (qual : Str) (scope : Scope) (f : Addr) (cd : Value) (A : Around) (outer : List Env) (s : Shared) (H : Hp) (p : Addr × Obj) : Cx :=
  { cxOf (L2.CX P w) P w K mg base N qual scope f cd A outer s H (fun _ _ _ => False) with calm := false, pn := [p], xe := fun _ _ => False }
theorem inv_startS {P : Program} {w : World} {K : PySem.W.Frag} {mg : Str → Option Value} {base : Heap} {N ps : List Str} {qual : Str} {scope : Scope} {f : Addr} {cd : Value} {A : Around} {outer : List Env} {s s1 : Shared} {H : Hp} {us : List Value} {vs : List V}
    (S : FnScope N ps scope) {p : Addr × Obj} (hpin : L2H.PinOk outer H s p) (e0 : Env0 P w K mg base A outer s H) (hl : vs.length = ps.length) (r : Vals vs us)
    (x : InCallC s s.heap.objs.size (bindL (envOfC qual scope s.heap.objs.size f cd).kindOf (ps.zip us) fun _ => none) (cellsFrom (s.heap.objs.size + 1) scope.names []) (bindC (envOfC qual scope s.heap.objs.size f cd).kindOf (ps.zip us) fun _ => none) s1) :
    Inv (cxS P w K mg base N qual scope f cd A outer s H p) [] (L2.start N vs) H s1 := by
  have q := L2H.inv_startH (CX := L2.CX P w) (E := fun _ _ _ => False) S hpin e0 hl r x
  exact ⟨⟨q.ok.mod, q.ok.kind, q.ok.glob, q.ok.blt, q.ok.above, q.ok.inj, q.ok.has, q.ok.cab, fun z => (nomatch z), q.ok.frames, q.ok.stk, q.ok.exf, q.ok.bs, q.ok.bsz, q.ok.noex, q.ok.exfs, q.ok.funs, q.ok.frf⟩, q.os, q.bare, q.base, q.loc, q.cell, q.free, q.freeC, q.pin, q.hok, q.len⟩
/-- a call's end, nothing raised -/
def CRS (outer : List Env) (P : Program) (w : World) (H : Hp) (s : Shared) (Q : VK) (r : Result) (s' : Shared) : Prop :=
  match r with
  | .ok (.ret u) => CE outer P w H s Q u s'
  | _ => False
/-- what such a def promises: p the exception, of the class D -/
structure FnS (P : Program) (w : World) (K : PySem.W.Frag) (mg : Str → Option Value) (base : Heap) (k : Nat) (f : Addr) (fd : FuncData) (ps : List Str) (D : Addr) (sp : Addr → Hp → VK → Prop) : Prop where
  len : ps.length = 1
  run : ∀ (A : Around) (outer : List Env) (s : Shared) (H : Hp) (args : Args) (us : List Value) (Q : VK) (p : Addr × Obj), RoomS k A → A.handled = some (.ref p.1) → L2H.PinOk outer H s p → Zc (.ref D) none p.2 → (∃ vs, p.2.data = .fields vs) → Env0 P w K mg base A outer s H → BindsTo s fd args (ps.zip us) → Vals [V.ref p.1] us → sp p.1 H Q →
    codeAny (model P w) A (.call (.ref f) args) (CRS outer P w H s Q) s
theorem fn_ofS {P : Program} {w : World} {K : PySem.W.Frag} {mg : Str → Option Value} {base : Heap} {k : Nat} {f : Addr} {name qual : Str} {params : Arguments} {body : List Stmt} {scope : Scope} {dV kV doc pm cdv ct oc : Value} {an od : Option Addr}
    {osl : Array (Option Value)} {N ps : List Str} {D : Addr} {sp : Addr → Hp → VK → Prop} (lk : K.lookup f = some ⟨oc, od, .func (PySem.W.fnOf name qual params body scope dV kV doc pm an cdv ct), osl⟩) (hcd : PySem.W.codeIn K cdv qual = true) (S : FnScope N ps scope)
    (len : ps.length = 1)
    (hbody : ∀ (A : Around) (outer : List Env) (s : Shared) (H : Hp) (Q : VK) (p : Addr × Obj), A.handled = some (.ref p.1) → RoomS k (A.deeper (envOfC qual scope s.heap.objs.size f cdv)) → Zc (.ref D) none p.2 → (∃ vs, p.2.data = .fields vs) → sp p.1 H Q →
      ∃ t, PSs (cxS P w K mg base N qual scope f cdv A outer s H p) body t ∧ t { nx := fun _ H' => Q .non H', rt := Q } (L2.start N [V.ref p.1]) H) :
    FnS P w K mg base (k + 1) f (PySem.W.fnOf name qual params body scope dV kV doc pm an cdv ct) ps D sp := by
  refine ⟨len, fun A outer s H args us Q p hr hot hpin hz hf e0 hb r hsp => ?_⟩
  have KX : K.In s.heap := e0.mod.kin.keeps fun b o e => (e0.bs b o e).1
  have lim : s.heap.NoLimit := e0.mod.nolimit.keeps fun b o e => (e0.bs b o e).1
  have hkind : ∀ y ∈ ps.zip us, scope.names.lookup y.1 = some .local ∨ (scope.names.lookup y.1 = some .cell ∧ ((cellsFrom (s.heap.objs.size + 1) scope.names []).lookup y.1).isSome = true) := fun ⟨n, v⟩ hy => by
    rcases S.par n (List.of_mem_zip hy).1 with q | q
    · exact .inl q
    · exact .inr ⟨q, PySem.W.cellsFrom_some _ _ _ (.inl q)⟩
  have hdep : A.depth < recursionLimit := by have := hr.dp; omega
  have hrd : ∀ env, RoomS k (A.deeper env) := fun env => ⟨by have := hr.dp; show A.depth + 1 + 3 * k + 5 < _; omega, by have := hr.un; show A.units + 3 + 16 * k + 200 < _; omega⟩
  refine codeAny_call_function hdep (KX _ _ lk) rfl S.co S.gen rfl (PySem.W.codeRec_of KX hcd) (hb _ _ _ _ ?_)
  refine wpAny_newFunctionEnv_cells S.kind hkind fun env he s1 x => ?_
  subst he
  refine ⟨lim.keeps x.toInCall.keep, codeAny_func ?_⟩
  obtain ⟨t, ht, hq⟩ := hbody A outer s H Q p hot (hrd _) hz hf hsp
  have I : Inv (cxS P w K mg base N qual scope f cdv A outer s H p) [] (L2.start N [V.ref p.1]) H s1 := inv_startS S hpin e0 (by rw [len]; rfl) r x
  refine wpAny_mono (ht.run [] s1 (L2.start N [V.ref p.1]) H _ I hq) (fun fl s' hs => ?_) fun e s' hs => hs.elim
  have fin : ∀ {σ' : L2.St} {H' : Hp} {v : V} {u : Value}, Inv (cxS P w K mg base N qual scope f cdv A outer s H p) [] σ' H' s' → RelV v u → Q v H' → CE outer P w H s Q u s' :=
    fun {σ' H' v u} J rv q => ⟨v, H', J.os, J.bare, J.base, J.hok, rv, q⟩
  cases fl with
  | ret u =>
    obtain ⟨v, σ', H', J, rv, q⟩ := hs
    exact fin J rv q
  | next =>
    obtain ⟨σ', H', J, q⟩ := hs
    exact fin (v := V.non) (u := Value.none) J rfl q
  | brk =>
    obtain ⟨_, _, _, q⟩ := hs
    exact False.elim q
  | cont =>
    obtain ⟨_, _, _, q⟩ := hs
    exact False.elim q
/-- the promise by a mirror -/
def spS (M : Mc) {β : Type} (ρ : (Addr → Prop) → β → Rp) (m : W β) : Addr → Hp → VK → Prop := fun _ H Q => ∃ (F : Hp) (N : Addr → Prop), (∀ a, H a = none → N a) ∧ Same F H ∧
  m.wp (fun b => ∀ F' H' g' v, Fr F H (fun _ => False) F' H' (dU g') → Same F' H' → (ρ N b).p F' v → Q v H') (fun _ => False)
structure FnE (M : Mc) (x : Str) (j : Nat) {β : Type} (ρ : (Addr → Prop) → β → Rp) (m : Exn → W β) : Prop where
  ex : ∃ f fd ps, (∀ (c : Str) (D : Addr), M.mg c = some (.ref D) → FnS M.P M.w M.K M.mg M.base j f fd ps D (spS M ρ (m ⟨c, none⟩))) ∧ M.mg x = some (.ref f) ∧ PySem.W.keepIn M.K (.ref f) = true ∧ Binds M.K fd ps []
def initE (M : Mc) (N : List Str) (sc : Scope) (k : Nat) (fr : Addr → Prop) (a D : Addr) : Cc := { toMc := M, N := N, sc := sc, k := k, fr := fr, fnc := fun _ => true, cm := false, ex := some (a, .ref D, none) }
theorem FnE.ofBody {M : Mc} {x : Str} {st : Stmt} {k : Nat} {N : List Str} {p0 : Str} {β : Type} {ρ : (Addr → Prop) → β → Rp} {m : Exn → W β} (F : FunM M x st [p0]) (S : FnScope N [p0] (defScope st))
    (h : ∀ (fr : Addr → Prop) (e : Exn) (a D : Addr), e.pay = none → M.mg e.cls = some (.ref D) → Ex (initE M N (defScope st) k fr a D) (Γ0 [rX a ()] N) (defBody st) (fun b => .rt (ρ fr b)) (m e)) : FnE M x (k + 1) ρ m := by
  obtain ⟨f, fd, F, mg, b⟩ := F
  refine ⟨f, fd, [p0], fun c D hD => ?_, mg, F.kp, b⟩
  obtain ⟨oc, od, kV, doc, pm, an, cdv, ct, osl, rfl, lk, hcd⟩ := F.ex
  refine fn_ofS lk hcd S rfl fun A outer s H Q p hot hr hz hf hsp => ?_
  obtain ⟨F', Nf, hNf, sm, w⟩ := hsp
  refine ⟨_, pss_W, ?_⟩
  obtain ⟨a, oe⟩ := p
  have hX : cxS M.P M.w M.K M.mg M.base N x (defScope st) f cdv A outer s H (a, oe) = (cxS M.P M.w M.K M.mg M.base N x (defScope st) f cdv A outer s H (a, oe)).suite a [(a, oe)] := by
    have q := mark_deeper (env := envOfC x (defScope st) s.heap.objs.size f cdv) hot
    unfold Cx.suite
    show _ = { cxS M.P M.w M.K M.mg M.base N x (defScope st) f cdv A outer s H (a, oe) with A := (A.deeper (envOfC x (defScope st) s.heap.objs.size f cdv)).mark (some (.ref a)), calm := false, pn := [(a, oe)], xe := fun _ _ => False }
    rw [q]
    rfl
  have hu := hr.un
  refine h Nf ⟨c, none⟩ a D rfl hD (cxS M.P M.w M.K M.mg M.base N x (defScope st) f cdv A outer s H (a, oe)) (fun _ _ _ _ => False) ⟨⟨rfl, rfl, rfl, rfl, rfl, rfl, rfl, S.nd, rfl, fun h => (nomatch h), show (A.deeper _).units + 64 < _ by omega, fun a' cls' d' h => ?_, fun _ _ => rfl⟩, PassesOwn.never, rfl, rfl⟩ takes0 F' H (fun _ => emp) (L2.start N [V.ref a]) ?_ _ ((m ⟨c, none⟩).mono (fun b hb => ?_) (fun e he => he.elim) w)
  · have h : some (a, Value.ref D, (none : Option Addr)) = some (a', cls', d') := h
    cases h
    exact ⟨hr, _, [], oe, hX, hz, hf⟩
  · have q := start_ok (M := M) (N := N) (sc := defScope st) (k := k) (vs := [V.ref a]) (R := [rX a ()]) hNf sm (.cons rfl .nil)
    exact ⟨q.len, q.slot, q.sF, q.sG, q.dF, q.dG, q.fr⟩
  · intro F2 H2 g2 v f2 s2 r2
    exact hb F2 H2 g2 v (show Fr F' H (fun _ => False) F2 H2 (dU g2) from ⟨f2.sF, fun b z => (f2.fF b z).imp_right fun q => q.imp_right fun ⟨_, q⟩ => absurd rfl q, fun b o q _ => f2.keep b o q fun ⟨_, z⟩ => absurd rfl z, f2.dom, fun b z => (f2.gs b z).imp_left fun ⟨_, q⟩ => absurd rfl q⟩) s2 r2
section
variable {C : Cc} {Γ : List Slot} {β : Type} {e : Expr} {pos p q : Pos} {x : Str} {j : Nat}
/-- f(e), e the exception that the suite holds -/
theorem Ev.callE {c : Str} {a D : Addr} {ρ : (Addr → Prop) → β → Rp} {mf : Exn → W β} (hf : FnE C.toMc x j ρ mf) (hj : j ≤ C.k) (hex : C.ex = some (a, .ref D, Option.none)) (hc : C.mg c = some (.ref D)) (hg : C.sc.names.lookup x = some .globalImplicit) (h1 : Ev C Γ e (rX a) (pure ())) (n1 : NoStar e)
    (hd : (x == ("__debug__" : Str)) = false := by decide) : Ev C Γ (.Call (.Name x q) [e] [] pos) (ρ C.fr) (W.noX (mf ⟨c, Option.none⟩)) :=
  fun X Wx ok tk F H g σ s Q hm => by
    obtain ⟨f, fd, ps, hF, hmg, hk, hb⟩ := hf
    have e1 := ok.prog
    have e2 := ok.w
    have e3 := ok.K
    have e4 := ok.mg
    have e5 := ok.base
    obtain ⟨hr, Y, pn, oe, eX, hz, hfl⟩ := ok.exc _ _ _ hex
    have hF := hF c D hc
    have hh : X.A.handled = some (.ref a) := by rw [eX]; rfl
    have hpn : (a, oe) ∈ X.pn := by rw [eX]; exact List.mem_cons_self
    refine WE.of (t := fun σ H Q => WA X [e] σ H fun vs H1 => vs = [.ref a] ∧ spS C.toMc ρ (mf ⟨c, Option.none⟩) a H1 Q) ⟨fun pins s σ H Q I h => ?_⟩ ?_
    · refine wpAny_Call_Name_kw (ld_glob I (show X.env.scope.names.lookup x = _ by rw [ok.sc]; exact hg) (by rw [e4]; exact hmg) ?_ hd)
      refine PySem.W.callWith_K (h₀ := X.base) I.ok.mod.kin (by rw [e3]; exact hk) (thn ((pa_W (es := [e])).run pos pins s σ H _ I h) fun us s1 ⟨vs, H1, I1, r, qv, q⟩ => ⟨I1.kIn, ?_⟩) (n1 [] X.env) rfl
      subst qv
      have hl : us.length = ps.length := by rw [← r.length, hF.len]; rfl
      have b := hb s1 us (by rw [← e3]; exact I1.kIn) (by rw [List.append_nil]; exact hl)
      rw [List.append_nil] at b
      have P1 := I1.pin (a, oe) (List.mem_append_left _ hpn)
      have hpin : L2H.PinOk X.stack H1 s1 (a, oe) := ⟨P1.1, P1.2.1, fun hm => (List.mem_cons.mp (I1.stkSub a hm)).elim P1.2.2.1 P1.2.2.2.1, P1.2.2.2.2⟩
      rw [e1, e2]
      have env0 := I1.env0
      rw [e1, e2, e3, e4, e5] at env0
      refine wpAny_call (codeAny_mono (hF.run X.A X.stack s1 H1 ⟨us, []⟩ us Q (a, oe) ⟨by have := hr.dp; omega, by have := hr.un; omega⟩ hh hpin hz hfl env0 b r q) fun r s' hq => ?_)
      cases r with
      | error e => exact hq.elim
      | ok fl =>
        cases fl with
        | ret u => exact I1.after (by rw [e1, e2]; exact hq)
        | next => exact False.elim hq
        | brk => exact False.elim hq
        | cont => exact False.elim hq
    · refine (EvA.cons h1 EvA.nil n1).2 X Wx ok tk F H g σ s _ ?_
      show ∀ (F1 H1 : Hp) (g1 : Nat → Hp) (vs : List V), _
      intro F1 H1 g1 vs f1 s1 r1
      refine ⟨?_, F1, C.fr, s1.fr, s1.sF, (mf ⟨c, Option.none⟩).mono (fun b hb F2 H2 g2 v f2 s2 r2 => ?_) (fun e he => he.elim) (show (mf ⟨c, Option.none⟩).wp _ (fun _ => False) from hm)⟩
      · cases r1 with
        | cons r rr =>
          cases rr
          rw [show _ = V.ref a from r]
      · obtain ⟨s3, f3⟩ := s1.call0 f2 s2
        exact hb F2 H2 g1 v (f1.trans f3) s3 r2
theorem Ev.isETn {c : Str} {a A : Addr} {tab : List ((Str × Str) × Bool)} {es : List Expr} {xs : List Str} {k : Nat} {p3 : Pos} (hT : XTab C.toMc tab) (hc : C.mg c = some (.ref A)) (hex : C.ex = some (a, .ref A, Option.none)) (hb : Blt C "isinstance" (.builtin "isinstance")) (hn2 : NmEs C es xs) (hl : 0 < xs.length ∧ xs.length ≤ 1000)
    (h : Ev C Γ e (rX a) (pure ())) (hn : NoStar e) : Ev C Γ (.Call (.Name "isinstance" p) [e, .Tuple es k p3] [] pos) rB (optW (isXs tab c xs)) := by
  cases ht : isXs tab c xs with
  | none => exact fun X Wx ok tk F H g σ s Q hm => hm.elim
  | some b =>
    rw [← ht]
    refine Ev.isET hT ?_ hc hex hb hn2 hl.2 h hn
    cases xs with
    | nil => exact absurd hl.1 (by simp)
    | cons x r =>
      unfold isXs at ht
      split at ht
      · rename_i b1 d1 q1 q2
        exact ⟨x, b1, q1⟩
      · cases ht
end
end Y

/-! Y33: an own exception with a name: raised, caught, its name read -/
namespace Y
open PySem PySem.Spec L2 PyProof.Rows
/-! ### C.__init__(self, ..) of an own class that has it from ValueError -/
structure BaseI (K : PySem.W.Frag) (B : Addr) : Prop where
  ga : PySem.W.specialIn K (.ref B) "__getattribute__" = some (some (.builtin "type.__getattribute__"))
  tB : PySem.W.typeIn K (.ref B) = some (.type "type")
  rd : PySem.W.readsIn K B (.type "type") = true
  fi : PySem.W.findCls K (.ref B) (.type "type") "__init__" = some (.val (.builtin "ValueError.__init__"))
section
variable {X : Cx} {e : Expr} {es : List Expr} {ta : TA} {x : Str} {B : Addr} {p1 p2 pos : Pos}
theorem pe_binit {pl : Sem Bool} (b : BaseI X.K B) (hg : Gl X x) (hm : X.mg x = some (.ref B)) (ha : PA X (e :: es) ta) (hd : (x == ("__debug__" : Str)) = false)
    (hc : eval (.Call (.Attribute (.Name x p1) "__init__" p2) (e :: es) [] pos) X.env = (do
      let ov ← eval (.Name x p1) X.env
      standAt p2.atName
      let (f, first) ← holding [ov] (getMethod ov "__init__" pl)
      callWith pos f first (backTo pos (starEach (e :: es) X.env)) (backToKw pos (keywordEach [] X.env))) := by rfl)
    (he : starEach (e :: es) X.env = (false, eval e X.env) :: starEach es X.env := by rfl) (hpl : (backTo pos (starEach es X.env)).any (·.1) = false := by rfl) :
    PE X (.Call (.Attribute (.Name x p1) "__init__" p2) (e :: es) [] pos) (tVeI X.K ta) := by
  refine ⟨fun pins s σ H Q I h => ?_⟩
  refine PySem.W.methodCall_KW (ld_glob I hg hm ?_ hd) hc
  obtain ⟨m, fr⟩ := I.fr
  refine PySem.W.method_cls I.kIn b.ga (PySem.W.cls_val fr I.ok.mod.kin b.tB b.rd b.fi (by decide +kernel) ?_)
  show wpAny _ _ (callWith pos (Value.builtin "ValueError.__init__") [] (backTo pos (starEach (e :: es) X.env)) []) _ _ _
  refine PyProof.Rows.callWith_method1 (thn (ha.run pos pins _ σ H _ (I.tok _) h) fun us s1 ⟨vs, H1, I1, r1, a, C, ws, ev, hl, T, ea, q⟩ => ?_) he hpl
  subst ev
  cases r1 with
  | @cons _ u0 _ ur ra rw' =>
    obtain rfl : u0 = Value.ref a := ra
    have hlen : ur.length ≤ sizeLine := by
      rw [← Paired.length rw', sizeLine_eq]
      omega
    exact oinit_ok T I1 ea hlen fun s' J => ⟨.non, H1, J, rfl, q⟩
end
/-! ### the class, its __init__ -/
def spN (C : Addr) : Sp := fun vs H Q _ => ∃ (a : Addr) (z : Str), vs = [.ref a, .str z] ∧ H a = some (exo a C none) ∧ ∀ dx, H dx = none → dx ≠ a → Q .non (upd (upd H dx (exd dx [("name", .str z)])) a (exo a C (some dx)))
def InitCall (e : Expr) (es : List Expr) (x : Str) (p1 p2 pos : Pos) : Prop := ∀ env : Env, ∃ pl : Sem Bool, eval (.Call (.Attribute (.Name x p1) "__init__" p2) (e :: es) [] pos) env = (do
      let ov ← eval (.Name x p1) env
      standAt p2.atName
      let (f, first) ← holding [ov] (getMethod ov "__init__" pl)
      callWith pos f first (backTo pos (starEach (e :: es) env)) (backToKw pos (keywordEach [] env)))
theorem noWork_init {M : Mc} {B C : Addr} {m : Str} {st : Stmt} {f : Addr} {fd : FuncData} {x qual : Str} {j : Nat} {p1 p2 p3 p4 p5 p6 p7 p8 p9 p10 : Pos} (F : Fun M.K x qual st f fd) (S : FnScope ["self", "name"] ["self", "name"] (defScope st))
    (hB : defBody st = [.Expr (.Call (.Attribute (.Name "YardError" p1) "__init__" p2) [.Name "self" p3, .Constant (.str m) j p4] [] p5) p6, .Assign [.Attribute (.Name "self" p7) "name" p8] (.Name "name" p9) p10])
    (hc : InitCall (.Name "self" p3) [.Constant (.str m) j p4] "YardError" p1 p2 p5)
    (b : BaseI M.K B) (hm : M.mg "YardError" = some (.ref B)) (hg : (defScope st).names.lookup ("YardError" : Str) = some NameKind.globalImplicit) (hvs : visB (defScope st) "self" = true) (hvn : visB (defScope st) "name" = true) (T : OexC M.K C) (hno : PySem.W.findIn M.K (.ref C) "name" = some none) :
    FnOk M.P M.w M.K M.mg M.base (L2.CX M.P M.w) 1 f fd ["self", "name"] (spN C) := by
  refine F.okX S (fun vs H Q E ⟨a, z, e, _⟩ => by rw [e]; rfl) (fun cdv A outer s H vs Q E hr hsp => ?_)
  obtain ⟨a, z, rfl, ha, hq⟩ := hsp
  rw [hB]
  obtain ⟨pl, hc⟩ := hc (envOfC qual (defScope st) s.heap.objs.size f cdv)
  refine ⟨_, pss_cons (ps_expr (pe_binit (pl := pl) (B := B) b (show Gl _ _ from hg) hm (pa_cons (pv 0 rfl (visOf hvs)) (pa_cons pe_str pa_nil)) rfl hc)) (pss_one (ps_ost (pv 0 rfl (visOf hvs)) (pv 1 rfl (visOf hvn)))), ?_⟩
  refine ⟨.ref a, rfl, ⟨a, C, [.str m], rfl, by simp, T, ha, ?_⟩⟩
  refine ⟨.str z, rfl, .ref a, rfl, a, C, rfl, T, hno, .inl ⟨ha, fun dx n ne => hq dx n ne⟩⟩
/-- raise x(name) may be done -/
structure RaiN (M : Mc) (x : Str) : Prop where
  ex : ∃ C fI fd, M.mg x = some (.ref C) ∧ OexC M.K C ∧ PySem.W.findIn M.K (.ref C) "__init__" = some (some (.ref fI)) ∧ PySem.W.typeIn M.K (.ref fI) = some (.type "function") ∧ Binds M.K fd ["self", "name"] [] ∧
    FnOk M.P M.w M.K M.mg M.base (L2.CX M.P M.w) 1 fI fd ["self", "name"] (spN C)
section
variable {C : Cc} {Γ Γ' : List Slot} {α β ω : Type} {J : ω → Out} {e e1 e2 : Expr} {pos p p2 : Pos} {rest : List Stmt}
theorem Ex.raiseN {x : Str} {p1 : Pos} {m : W Str} (hr : RaiN C.toMc x) (hk : 2 ≤ C.k) (hg : C.sc.names.lookup x = some .globalImplicit) (h : Ev C Γ e rS m) (hn : NoStar e) (hd : (x == ("__debug__" : Str)) = false := by rfl) (hcm : C.cm = true := by rfl) :
    Ex C Γ (.Raise (some (.Call (.Name x p) [e] [] p1)) none pos :: rest) J (do let z ← m; W.exc ⟨x, some z⟩) :=
  Ex.cons fun X Wx ok tk F H g σ s D hm => by
    obtain ⟨Ca, fI, fd, h1, h2, h3, h4, h5, h6⟩ := hr
    have e1 := ok.toOk.prog
    have e2 := ok.toOk.w
    have e3 := ok.toOk.K
    have e4 := ok.toOk.mg
    have e5 := ok.toOk.base
    have hpm := pmk_oex (X := X) (CX := L2.CX X.prog X.w) (x := x) (C := Ca) (fI := fI) (k := 1) (fd := fd) (ps := ["self", "name"]) (sp := spN Ca) (ds := []) (dvs := []) (e := e) (es := []) (ta := WA X [e]) (p := p) (pos := p1)
      (by rw [e3]; exact h2) (by rw [e3]; exact h3) (by rw [e3]; exact h4) (by rw [e1, e2, e3, e4, e5]; exact h6) ((ok.toOk.room hcm).mono hk) (by rw [e3]; exact h5) .nil
      (fun _ _ _ _ _ _ _ z => by obtain ⟨_, _, _, _, _, _, _, _, _, _, _, _, z⟩ := z; exact z.elim) (show X.env.scope.names.lookup x = _ by rw [ok.toOk.sc]; exact hg) (by rw [e4]; exact h1) (pa_W (es := [e])) hd (hn [] X.env) rfl
    refine W1.of (ps_raise (ok.toOk.calm.trans hcm) tk hpm) ?_
    refine (EvA.cons h EvA.nil hn).2 X Wx ok.toOk tk F H g σ s _ (m.mono (fun z hz => ?_) (fun e he => he.ex) hm)
    show ∀ (F1 H1 : Hp) (g1 : Nat → Hp) (vs : List V), _
    intro F1 H1 g1 vs f1 s1 r1
    have hvs : vs = [V.str z] := by
      cases r1 with
      | cons r rr =>
        cases rr
        rw [show _ = V.str z from r]
    subst hvs
    refine ⟨by simp, fun a ha => ⟨a, z, rfl, upd_same, fun dx hdx hne => ⟨rfl, dx, [("name", .str z)], by rw [upd_same], by rw [upd_ne hne, upd_same], ?_, ?_⟩⟩⟩
    · rw [upd_ne hne] at hdx; exact hdx
    · have hdx1 : H1 dx = none := by rw [upd_ne hne] at hdx; exact hdx
      have eH : ∀ b, b ≠ dx → (upd (del (upd (upd (upd H1 a (exo a Ca none)) dx (exd dx [("name", .str z)])) a (exo a Ca (some dx))) a) dx (.xd [("name", .str z)])) b = H1 b := fun b hb => by
        rw [upd_ne hb]
        by_cases hba : b = a
        · rw [hba, del_same, ha]
        · rw [del_ne hba, upd_ne hba, upd_ne hb, upd_ne hba]
      have hs : Same H1 (upd (del (upd (upd (upd H1 a (exo a Ca none)) dx (exd dx [("name", .str z)])) a (exo a Ca (some dx))) a) dx (.xd [("name", .str z)])) := fun b o q => by
        rw [eH b (fun y => by rw [y, hdx1] at q; cases q)]; exact q
      have f2 : Fr F1 H1 (dU g1) F1 (upd (del (upd (upd (upd H1 a (exo a Ca none)) dx (exd dx [("name", .str z)])) a (exo a Ca (some dx))) a) dx (.xd [("name", .str z)])) (dU g1) := ⟨Same.refl _, fun b q => .inl q, fun b o q _ => hs b o q, fun b q => by
        cases w : H1 b with
        | none => exact absurd w q
        | some o => rw [hs b o w]; simp, fun b q => .inl q⟩
      refine (show XEndS C F H (dU g) Wx ⟨x, some z⟩ from hz) F1 _ g1 _ _ _ (f1.trans f2) (s1.sF.trans hs) ⟨Ca, h1, rfl, dx, rfl, ?_, by rw [upd_same], fun ⟨i, q⟩ => ?_⟩
      · cases w : H dx with
        | none => rfl
        | some o => exact absurd hdx1 (f1.dom dx (by rw [w]; simp))
      · cases w : g1 i dx with
        | none => exact q w
        | some o => rw [s1.sG i dx o w] at hdx1; cases hdx1

/-! ### a try whose suite may read the name -/
def PayOk (F : Hp) (pay : Option Str) (d : Option Addr) : Prop := match pay with
  | none => d = none
  | some z => ∃ b, d = some b ∧ F b = some (.xd [("name", .str z)])
theorem PayOk.mono {F F' : Hp} {pay : Option Str} {d : Option Addr} (s : Same F F') (h : PayOk F pay d) : PayOk F' pay d := by
  cases pay with
  | none => exact h
  | some z => obtain ⟨b, e1, e2⟩ := h; exact ⟨b, e1, s _ _ e2⟩
def rXg (a : Addr) (pay : Option Str) (d : Option Addr) (_ : Unit) : Rp := ⟨fun F v => v = .ref a ∧ PayOk F pay d, fun s h => ⟨h.1, h.2.mono s⟩⟩
theorem StOk.addX {F H : Hp} {σ : L2.St} {g : Nat → Hp} (s : StOk C F H Γ σ g) {b : Addr} {o : HO} (hb : H b = some o) (hu : ¬ dU g b) : StOk C (upd F b o) H Γ σ g ∧ Same F (upd F b o) := by
  have hs : Same F (upd F b o) := fun c u q => by
    by_cases hc : c = b
    · subst hc
      have := s.sF _ _ q
      rw [hb] at this
      cases this
      rw [upd_same]
    · rw [upd_ne hc]; exact q
  refine ⟨⟨s.len, fun i S q => (s.slot i S q).mono hs, fun c u q => ?_, s.sG, fun i c => ?_, s.dG, s.fr⟩, hs⟩
  · by_cases hc : c = b
    · subst hc; rw [upd_same] at q; cases q; exact hb
    · rw [upd_ne hc] at q; exact s.sF _ _ q
  · by_cases hc : c = b
    · subst hc
      refine .inr ?_
      cases w : g i c with
      | none => rfl
      | some u => exact absurd ⟨i, by rw [w]; simp⟩ hu
    · rw [upd_ne hc]; exact s.dF i c
theorem XOk.payOk {F H F1 H1 : Hp} {σ : L2.St} {g g1 : Nat → Hp} {M : Mc} {e : Exn} {cls : Value} {d : Option Addr} (s : StOk C F1 H1 Γ σ g1) (f : Fr F H (dU g) F1 H1 (dU g1)) (x : XOk M e H H1 (dU g1) cls d) :
    ∃ F2, StOk C F2 H1 Γ σ g1 ∧ Fr F H (dU g) F2 H1 (dU g1) ∧ PayOk F2 e.pay d := by
  obtain ⟨a, _, _, h3⟩ := x
  cases hp : e.pay with
  | none => rw [hp] at h3; exact ⟨F1, s, f, h3⟩
  | some z =>
    rw [hp] at h3
    obtain ⟨b, e1, e2, e3, e4⟩ := h3
    obtain ⟨s2, sm⟩ := s.addX e3 e4
    refine ⟨_, s2, ⟨f.sF.trans sm, fun c q => ?_, f.keep, f.dom, f.gs⟩, b, e1, upd_same⟩
    by_cases hc : c = b
    · subst hc; exact .inr (.inl e2)
    · rw [upd_ne hc] at q; exact f.fF c q
def tryG {ω : Type} (m : W ω) (c : Str → Option Bool) (h : Exn → W ω) : W ω :=
  ⟨fun P E => m.wp P (fun e => match c e.cls with
      | some true => (h e).wp P (fun _ => False)
      | some false => E e
      | none => False),
   fun hp he x => m.mono hp (fun e y => by
      split <;> rename_i q <;> simp only [q] at y
      · exact (h e).mono hp (fun _ z => z) y
      · exact he _ y) x⟩
theorem Ex1.tryAsG {i : Nat} {n x : Str} {cv : Value} {np pos' : Pos} {body suite : List Stmt} {b₀ : Stmt} {c : Str → Option Bool} {mb : W ω} {mh : Exn → W ω} (hN : C.N[i]? = some n) (hln : C.sc.names.lookup n = some .local) (hg : C.sc.names.lookup x = some .globalImplicit)
    (hx : ∀ cls b, c cls = some b → IsX C.toMc cls x b) (hcv : C.mg x = some cv) (hd : (x == ("__debug__" : Str)) = false)
    (hb : ExT C Γ body J mb) (hs : ∀ (e : Exn) (a D : Addr) (d : Option Addr), c e.cls = some true → C.mg e.cls = some (.ref D) → Ex (C.suite a (.ref D) d) (Γ.set i (.val (rXg a e.pay d ()))) (b₀ :: suite) J (mh e)) (hJ : ∀ o, SuJ i (J o)) (hx0 : C.ex = none := by rfl) (hcm : C.cm = true := by rfl) :
    Ex1 C Γ (.Try body [.ExceptHandler (some (.Name x np)) (some n) (b₀ :: suite) pos'] [] [] pos) J (tryG mb c mh) := fun X Wx ok tk F H g σ s D hm => by
  have hnm : Names X x cv := ⟨show X.env.scope.names.lookup x = _ by rw [ok.toOk.sc]; exact hg, hd, .inl (by rw [ok.toOk.mg]; exact hcv)⟩
  refine W1.of (ps_try_as (i := i) (tb := fun W D σ H => ∀ pn xe, Takes (X.tr pn xe) W → PassesOwn (model X.prog X.w) X.A X.env xe → WS (X.tr pn xe) body D σ H)
    (ts := fun a cls d D σ H => ∀ pn oe, Zc cls d oe → (∃ vs, oe.data = .fields vs) → WS (X.suite a ((a, oe) :: pn)) (b₀ :: suite) D σ H) (Wout := Wx) ok.stk ok.frm ok.toOk.ndX (by rw [ok.toOk.N]; exact hN)
    (show X.env.scope.names.lookup n = _ by rw [ok.toOk.sc]; exact hln) hnm tk (fun W pn xe tkW po => ⟨fun pins s0 σ0 H0 D0 I h => pss_W.run pins s0 σ0 H0 D0 I (h pn xe tkW po)⟩) (fun a oe cls d pn hz hf => ⟨fun pins s0 σ0 H0 D0 I h => pss_W.run pins s0 σ0 H0 D0 I (h pn oe hz hf)⟩)) ?_
  intro pn xe tkW po
  have ok' : C.OkS (X.tr pn xe) := ⟨⟨ok.toOk.prog, ok.toOk.w, ok.toOk.K, ok.toOk.mg, ok.toOk.base, ok.toOk.N, ok.toOk.sc, ok.toOk.nd, ok.toOk.calm, ok.toOk.room, ok.toOk.units, fun a' cls' d' h => ?_, ok.toOk.fnc⟩, po, ok.stk, ok.frm⟩
  · refine hb (X.tr pn xe) _ ok' tkW F H g σ s D (mb.mono (fun o ho => ho) (fun e he F1 H1 g1 cls d f1 s1 hxo => ?_) hm)
    obtain ⟨F2, s2, f2, hpay⟩ := hxo.payOk s1 f1
    obtain ⟨A, hA, eA, hp0⟩ := hxo
    subst eA
    cases hc : c e.cls with
    | none => simp only [hc] at he
    | some b =>
      obtain ⟨D1, cv1, h1, h2, h3, h4, h5⟩ := (hx e.cls b hc).ex
      have e1 : cv1 = cv := by
        rcases h2 with ⟨a2, e2, m2⟩ | ⟨T, e2, m2, _⟩
        · rw [hcv] at m2; rw [e2]; exact (Option.some.inj m2).symm
        · rw [hcv] at m2; cases m2
      subst e1
      rw [hA] at h1
      cases h1
      refine ⟨b, by rw [ok.toOk.K]; exact h4, fun hbt a ha pn2 oe hz hf => ?_, fun hbf => ?_⟩
      · subst hbt
        simp only [hc] at he
        refine hs e a A d hc hA (X.suite a ((a, oe) :: pn2)) _ (ok.suite hz hf (RoomS.of (ok.toOk.room hcm))) takes0 F2 H1 g1 _ (StOk.suite.mpr (s2.set_val (show (rXg a e.pay d ()).p F2 (.ref a) from ⟨rfl, hpay⟩))) _ ((mh e).mono (fun o ho => ?_) (fun _ z => z.elim) he)
        exact OutOk.toSuite (hJ o) (OutOk.later f2 ho)
      · subst hbf
        simp only [hc] at he
        exact he F1 H1 g1 σ _ _ f1 s1.sF ⟨A, hA, rfl, hp0⟩
  · rw [hx0] at h
    cases h
/-! ### isinstance, the name -/
def rIsEg (K : PySem.W.Frag) (D a : Addr) (d : Option Addr) : List V → Hp → VK → Prop := fun xs H Q => ∃ (c : V) (cv : Value) (b : Bool), xs = [.ref a, c] ∧ (∀ q, d = some q → ∃ fs, H q = some (.xd fs)) ∧ (∀ u, RelV c u → u = cv) ∧ PySem.W.kitOne K (.ref D) cv = some b ∧ Q (.bl b) H
theorem instAt_g {X : Cx} {pins : List (Addr × Obj)} {σ : L2.St} {H : Hp} {s : Shared} {a D : Addr} {d : Option Addr} {oe : Obj} {pn : List (Addr × Obj)} (hz : Zc (.ref D) d oe) (hf : ∃ vs, oe.data = .fields vs) (I : Inv (X.suite a ((a, oe) :: pn)) pins σ H s) (hq : ∀ q, d = some q → ∃ fs, H q = some (.xd fs)) :
    ∃ od, PySem.W.InstAt s.heap a oe D od := by
  obtain ⟨hget, _⟩ := I.pin (a, oe) (List.mem_append.mpr (.inl List.mem_cons_self))
  obtain ⟨vs, hv⟩ := hf
  cases d with
  | none =>
    refine ⟨none, ?_⟩
    obtain ⟨oc, od, oda, osl⟩ := oe
    obtain ⟨h1, h2⟩ := hz
    dsimp only at h1 h2 hv
    subst h1 h2 hv
    exact ⟨hget, rfl, rfl, trivial⟩
  | some q =>
    obtain ⟨fs, hfs⟩ := hq q rfl
    have hx : ObjOk X.prog X.w H s.heap q (.xd fs) := I.hok q _ hfs
    obtain ⟨mA, hns, hr⟩ := hx
    obtain ⟨od, ho, hl⟩ := lookIn_ns hns
    exact ⟨some od, hget, hz.1, by unfold PySem.W.notCls; rw [hv] <;> rfl, by rw [hz.2]; exact ho⟩
theorem call_isEg {X : Cx} {a D : Addr} {d : Option Addr} {oe : Obj} {pn : List (Addr × Obj)} (T : ExcC X.K D) (hz : Zc (.ref D) d oe) (hf : ∃ vs, oe.data = .fields vs) : CallR (X.suite a ((a, oe) :: pn)) (.builtin "isinstance") (rIsEg X.K D a d) := by
  intro pins s σ H xs us Q I r h
  obtain ⟨c, cv, b, rfl, hq, hcv, e, q⟩ := h
  cases r with
  | cons rx rr =>
    cases rr with
    | cons rt rr =>
      cases rr
      cases rx
      have ec := hcv _ rt
      subst ec
      obtain ⟨od, J⟩ := instAt_g hz hf I hq
      have hcl : (PySem.W.clsIn X.K D).isSome = true := by obtain ⟨cd, hc, _⟩ := PySem.W.any_some T.hd; rw [hc]; rfl
      exact PySem.W.kia_one (PySem.W.kitx_exc hcl T.hg T.hk T.hs T.ha T.hn T.ht T.hm) I.kIn J e (fun z => nomatch z) fun tk => ⟨.bl b, H, I.kept (t' := tk) fun _ _ z => z, rfl, q⟩
theorem call_isETg {X : Cx} {a D : Addr} {d : Option Addr} {oe : Obj} {pn : List (Addr × Obj)} (T : ExcC X.K D) (hz : Zc (.ref D) d oe) (hf : ∃ vs, oe.data = .fields vs) :
    CallR (X.suite a ((a, oe) :: pn)) (.builtin "isinstance") (fun xs H Q => ∃ (tp : Addr) (cs : List V) (us : List Value) (b : Bool), xs = [.ref a, .ref tp] ∧ (∀ q, d = some q → ∃ fs, H q = some (.xd fs)) ∧ H tp = some (.tup cs) ∧ Paired ClsV cs us ∧ PySem.W.kitAny X.K (.ref D) us = some b ∧ Q (.bl b) H) := by
  intro pins s σ H xs us Q I r h
  obtain ⟨tp, cs, ws, b, rfl, hq, hT, k, e, q⟩ := h
  obtain ⟨u1, u2, rfl, r1, r2⟩ := vals2 r
  cases (show u1 = Value.ref a from r1)
  cases (show u2 = Value.ref tp from r2)
  obtain ⟨od, J⟩ := instAt_g hz hf I hq
  have hcl : (PySem.W.clsIn X.K D).isSome = true := by obtain ⟨cd, hc, _⟩ := PySem.W.any_some T.hd; rw [hc]; rfl
  obtain ⟨_, its, rv, o, h1, h2, n, h3⟩ := (show ObjOk X.prog X.w H s.heap tp (.tup cs) from I.hok tp _ hT)
  have e3 := ClsV.all k rv
  subst e3
  obtain ⟨oc, od2, dt, sl⟩ := o
  simp only at h2 h3
  subst h2 h3
  exact PySem.W.kia_tup (PySem.W.kitx_exc hcl T.hg T.hk T.hs T.ha T.hn T.ht T.hm) I.kIn J h1 e (fun z => nomatch z) fun tk => ⟨.bl b, H, I.kept (t' := tk) fun _ _ z => z, rfl, q⟩
theorem PayOk.xd {F : Hp} {pay : Option Str} {d : Option Addr} (h : PayOk F pay d) : ∀ q, d = some q → ∃ fs, F q = some (.xd fs) := fun q e => by
  cases pay with
  | none => rw [show d = none from h] at e; cases e
  | some z => obtain ⟨b, e1, e2⟩ := h; rw [e1] at e; cases e; exact ⟨_, e2⟩
theorem Ev.isEg {c x : Str} {a A : Addr} {d : Option Addr} {pay : Option Str} {tab : List ((Str × Str) × Bool)} (hT : XTab C.toMc tab) (hc : C.mg c = some (.ref A)) (hex : C.ex = some (a, .ref A, d)) (hb : Blt C "isinstance" (.builtin "isinstance")) (hg : C.sc.names.lookup x = some .globalImplicit) (hd : (x == ("__debug__" : Str)) = false)
    (h : Ev C Γ e (rXg a pay d) (pure ())) (hn : NoStar e) : Ev C Γ (.Call (.Name "isinstance" p) [e, .Name x p2] [] pos) rB (optW (tabF tab c x)) := by
  cases ht : tabF tab c x with
  | none => exact fun X Wx ok tk F H g σ s Q hm => hm.elim
  | some b =>
    obtain ⟨D, cv, h1, h2, h3, h4, h5⟩ := (hT.of ht).ex
    have h1' := hc.symm.trans h1
    cases h1'
    exact Ev.callB2 (ρa := rXg a pay d) (ρb := rCl cv) (ma := pure ()) (mb := pure ()) (fun _ _ => pure b) hb (fun X ok => by
      obtain ⟨_, Y, pn, oe, e1, hz, hf⟩ := ok.exc _ _ _ hex
      have eK : Y.K = C.K := by have := ok.K; rw [e1] at this; exact this
      subst e1
      refine ⟨_, call_isEg (X := Y) (by rw [eK]; exact h5) hz hf, fun _ _ H v w Q E hv hw q => ⟨w, cv, b, by rw [show v = .ref a from hv.1], hv.2.xd, fun u r => (show ClsV w cv from hw).eq r, by rw [eK]; exact h3, q _ fun _ _ => rfl⟩⟩)
      (fun _ _ _ _ _ h => h) (fun y F v h F' => h) h (Ev.clName h2 hg hd) hn (fun _ _ => rfl)
theorem Ev.isETg {c : Str} {a A : Addr} {d : Option Addr} {pay : Option Str} {tab : List ((Str × Str) × Bool)} {es : List Expr} {xs : List Str} {k : Nat} {p3 : Pos} (hT : XTab C.toMc tab) (hc : C.mg c = some (.ref A)) (hex : C.ex = some (a, .ref A, d)) (hb : Blt C "isinstance" (.builtin "isinstance")) (hn2 : NmEs C es xs) (hl : 0 < xs.length ∧ xs.length ≤ 1000)
    (h : Ev C Γ e (rXg a pay d) (pure ())) (hn : NoStar e) : Ev C Γ (.Call (.Name "isinstance" p) [e, .Tuple es k p3] [] pos) rB (optW (isXs tab c xs)) := by
  cases ht : isXs tab c xs with
  | none => exact fun X Wx ok tk F H g σ s Q hm => hm.elim
  | some b =>
    obtain ⟨cvs, g1, g2, g3⟩ := NmEs.get (Γ := Γ) hT hc hn2 ht
    obtain ⟨x0, b0, hq⟩ : ∃ x b, tabF tab c x = some b := by
      cases xs with
      | nil => exact absurd hl.1 (by simp)
      | cons x r =>
        unfold isXs at ht
        split at ht
        · rename_i b1 d1 q1 q2
          exact ⟨x, b1, q1⟩
        · cases ht
    obtain ⟨D, cv, h1, _, _, _, h5⟩ := (hT.of hq).ex
    have h1' := hc.symm.trans h1
    cases h1'
    have ht2 : Ev C Γ (.Tuple es k p3) (rClT cvs) (pure ()) := Ev.tup (ρs := fun _ : Unit => cvs.map fun cv => rCl cv ()) (mt := pure ()) (fun _ => ()) (fun t F q vs hq hv => ⟨q, vs, rfl, hq, hv.toPaired⟩) (fun _ => by rw [List.length_map, g3]; exact hl.2) g1
    exact Ev.callB2 (ρa := rXg a pay d) (ρb := rClT cvs) (ma := pure ()) (mb := pure ()) (fun _ _ => pure b) hb (fun X ok => by
      obtain ⟨_, Y, pn, oe, e1, hz, hf⟩ := ok.exc _ _ _ hex
      have eK : Y.K = C.K := by have := ok.K; rw [e1] at this; exact this
      subst e1
      refine ⟨_, call_isETg (X := Y) (by rw [eK]; exact h5) hz hf, fun _ _ H v w Q E hv hw q => ?_⟩
      obtain ⟨tp, vs, e1, e2, e3⟩ := (show (rClT cvs ()).p H w from hw)
      exact ⟨tp, vs, cvs, b, by rw [show v = .ref a from hv.1, e1], hv.2.xd, e2, e3, by rw [eK]; exact g2, q _ fun _ _ => rfl⟩)
      (fun _ _ _ _ _ h => h) (fun y F v h F' => h) h ht2 hn (fun _ _ => rfl)
def payW (p : Option Str) : W Str := match p with
  | some z => pure z
  | none => W.bad
/-- e.name -/
theorem Ev.excName {c : Str} {a A : Addr} {d : Option Addr} {pay : Option Str} (hT : ∃ D, C.mg c = some (.ref D) ∧ ExcC C.K D) (hno : PySem.W.findIn C.K (.ref A) "name" = some Option.none) (hc : C.mg c = some (.ref A)) (hex : C.ex = some (a, .ref A, d)) (h : Ev C Γ e (rXg a pay d) (pure ())) (hb : ∀ env : Env, attributeBase e "name" env (eval e env) = eval e env) :
    Ev C Γ (.Attribute e "name" pos) rS (payW pay) := by
  cases pay with
  | none => exact fun X Wx ok tk F H g σ s Q hm => hm.elim
  | some z =>
    intro X Wx ok tk F H g σ s Q hm
    obtain ⟨D, h1, h5⟩ := hT
    have h1' := hc.symm.trans h1
    cases h1'
    obtain ⟨_, Y, pn, oe, e1, hz, hf⟩ := ok.exc _ _ _ hex
    have eK : Y.K = C.K := by have := ok.K; rw [e1] at this; exact this
    subst e1
    refine WE.of (pe_xf (X := Y) (C := A) ⟨by rw [eK]; exact h5.hg, by rw [eK]; exact h5.hk, by rw [eK]; exact h5.hs, by rw [eK]; exact h5.hd⟩ (by rw [eK]; exact hno) hz hf (pe_W (e := e)) (hb _)) ?_
    refine h _ Wx ok tk F H g σ s _ ?_
    show ∀ (F1 H1 : Hp) (g1 : Nat → Hp) (v : V), _
    intro F1 H1 g1 v f1 s1 r1
    obtain ⟨ev, b, e1, e2⟩ := r1
    exact ⟨ev, rfl, b, _, .str z, e1, s1.sF _ _ e2, by simp [List.lookup], (show ∀ (F1 H1 : Hp) (g1 : Nat → Hp) (v : V), _ from hm) F1 H1 g1 _ f1 s1 rfl⟩
end
end Y
namespace Y
open PySem PySem.Spec L2 PyProof.Rows
def NmTab (M : Mc) (tab : List ((Str × Str) × Bool)) : Prop := ∀ c x b D, tabF tab c x = some b → M.mg c = some (.ref D) → PySem.W.findIn M.K (.ref D) "name" = some Option.none
theorem NmTab.of {M : Mc} : ∀ {tab : List ((Str × Str) × Bool)}, (∀ p ∈ tab, ∀ D, M.mg p.1.1 = some (.ref D) → PySem.W.findIn M.K (.ref D) "name" = some Option.none) → NmTab M tab
  | [], _, _, _, _, _, e, _ => by cases e
  | (p, d) :: r, h, c, x, b, D, e, hD => by
    unfold tabF at e
    rw [List.lookup_cons] at e
    split at e
    · rename_i q
      have q' := eq_of_beq q
      exact h (p, d) (by simp) D (by rw [← q']; exact hD)
    · exact NmTab.of (fun p hp => h p (List.mem_cons_of_mem _ hp)) c x b D e hD
theorem XTab.excC {M : Mc} {tab : List ((Str × Str) × Bool)} (hT : XTab M tab) {c x : Str} {b : Bool} (h : tabF tab c x = some b) : ∃ D, M.mg c = some (.ref D) ∧ ExcC M.K D := by
  obtain ⟨D, cv, h1, _, _, _, h5⟩ := (hT.of h).ex
  exact ⟨D, h1, h5⟩
end Y

/-! Y34: a call that is handed a new bag -/
namespace Y
open PySem PySem.Spec L2
section
variable {C : Cc} {Γ Γ' : List Slot} {α β γ δ ε ω : Type} {J : ω → Out} {e e0 e1 e2 e3 a b : Expr} {p p2 pos : Pos} {rest sts : List Stmt} {x : Str} {j : Nat}
theorem ev_callNB {n : Nat} {es : List Expr} {τ : Type} {ins : τ → List Rp} {ρ : (Addr → Prop) → β → Rp} {mf : τ → W β} {mt : W τ} {m0 : W Unit} (hf : BagV C.toMc x j n ins ρ mf) (hj : j ≤ C.k) (hg : C.sc.names.lookup x = some .globalImplicit) (h0 : EvO C Γ e0 (fun _ : Unit => oBag C.fr) m0) (n0 : NoStar e0) (ha : EvA C Γ es ins mt)
    (hd : (x == ("__debug__" : Str)) = false := by decide) (hcm : C.cm = true := by rfl) : Ev C Γ (.Call (.Name x p) (e0 :: es) [] pos) (ρ C.fr) (do let _ ← m0; let t ← mt; W.noX (mf t)) :=
  fun X Wx ok tk F H g σ s Q hm => by
    obtain ⟨⟨f, fd, ps, hF, hmg, hk, hb⟩, hl⟩ := hf
    have e1 := ok.prog
    have e2 := ok.w
    have e3 := ok.K
    have e4 := ok.mg
    have e5 := ok.base
    refine WE.of (pe_callS (E := fun σ => L2.WE Wx σ) (by rw [e1, e2, e3, e4, e5]; exact hF) ((ok.room hcm).mono hj) (show X.env.scope.names.lookup x = _ by rw [ok.sc]; exact hg) (by rw [e4]; exact hmg) (by rw [e3]; exact hk) (by rw [e3]; exact hb) (fun σ => by
      have := passAt tk σ
      rw [e1, e2] at this
      exact this) (pa_cons (pe_W (e := e0)) (pa_W (es := es)) (n0 es X.env)) hd (n0 es X.env) (ha.1 X pos)) ?_
    refine h0 X Wx ok tk F H g σ s _ (m0.mono (fun _ h1 F0 H0 g0 G0 v0 f0 s0 sG0 dF0 dG0 nG0 r0 => ?_) (fun e he => he) hm)
    obtain ⟨a, l, ev, na, eg, hl0⟩ := r0
    subst ev
    have hG0a : G0 a = some (.lst (l.map V.int)) := by rw [eg]; exact one_same
    have hH0a : H0 a = some (.lst (l.map V.int)) := sG0 _ _ hG0a
    have f0' : Fr F H (dU g) F0 H0 (dU g0) := ⟨f0.sF, f0.fF, f0.keep, f0.dom, fun b q => f0.gs b (.inl q)⟩
    have hna : ¬ dU g0 a := fun ⟨i, z⟩ => by
      rcases dG0 i a with q | q
      · exact z q
      · rw [hG0a] at q; cases q
    have hF0a : F0 a = none := by
      rcases dF0 a with q | q
      · exact q
      · rw [hG0a] at q; cases q
    have hnew : dU g a ∨ H a = none := f0.gs a (.inr (by rw [hG0a]; simp))
    refine ha.2 X Wx ok tk F0 H0 g0 σ s0 _ (mt.mono (fun t ht F1 H1 g1 vs f1 s1 r1 => ?_) (fun e he => XEnd.later f0' he) h1)
    have hH1a : H1 a = some (.lst (l.map V.int)) := f1.keep a _ hH0a hna
    have hF1a : F1 a = none := by
      cases q : F1 a with
      | none => rfl
      | some o =>
        rcases f1.fF a (by rw [q]; simp) with z | z | z
        · exact absurd hF0a z
        · rw [hH0a] at z; cases z
        · exact absurd z hna
    have hg1a : ∀ i, g1 i a = none := fun i => by
      cases q : g1 i a with
      | none => rfl
      | some o =>
        rcases f1.gs a ⟨i, by rw [q]; simp⟩ with z | z
        · exact absurd z hna
        · rw [hH0a] at z; cases z
    refine ⟨t, F1, one a (.lst (l.map V.int)), C.fr, a, vs, s1.fr, rfl, s1.sF, fun b o q => ?_, fun b => ?_, ⟨a, l, rfl, trivial, rfl, hl0⟩, r1, (mf t).mono (fun b hb F2 H2 G2 v f2 s2 sg2 d2 hB r2 => ?_) (fun e he => he) (show (mf t).wp _ (fun _ => False) from ht)⟩
    · by_cases hba : b = a
      · subst hba; rw [one_same] at q; cases q; exact hH1a
      · rw [one_ne hba] at q; cases q
    · by_cases hba : b = a
      · subst hba; exact .inl hF1a
      · exact .inr (one_ne hba)
    · have hF2a : F2 a = none := by
        obtain ⟨a2, l2, ea2, _, eg2, hl2⟩ := hB
        cases ea2
        rcases d2 a with q | q
        · exact q
        · rw [eg2, one_same] at q; cases q
      have hne : ∀ i b o, g1 i b = some o → b ≠ a := fun i b o q z => by rw [z, hg1a i] at q; cases q
      have fF2 : ∀ b, F2 b ≠ none → F1 b ≠ none ∨ H1 b = none := fun b q => by
        rcases f2.fF b q with z | z | z
        · exact .inl z
        · exact .inr z
        · subst z; exact absurd hF2a q
      have dd : ∀ i, Dis F2 (g1 i) := fun i b => by
        cases q : g1 i b with
        | none => exact .inr rfl
        | some o =>
          left
          cases w : F2 b with
          | none => rfl
          | some u =>
            rcases fF2 b (by rw [w]; simp) with z | z
            · rcases s1.dF i b with y | y
              · exact absurd y z
              · rw [q] at y; cases y
            · rw [s1.sG i b o q] at z; cases z
      have fr2 : ∀ b, H2 b = none → C.fr b := fun b q => s1.fr b (by
        cases w : H1 b with
        | none => rfl
        | some o => exact absurd q (f2.dom b (by rw [w]; simp)))
      have s3 : StOk C F2 H2 Γ σ g1 := ⟨s1.len, fun i S e => (s1.slot i S e).mono f2.sF, s2, fun i b o q => f2.keep b o (s1.sG i b o q) (hne i b o q), dd, s1.dG, fr2⟩
      have H0_of : ∀ b, H1 b = none → H0 b = none := fun b q => by
        cases w : H0 b with
        | none => rfl
        | some o => exact absurd q (f1.dom b (by rw [w]; simp))
      have H_of : ∀ b, H0 b = none → H b = none := fun b q => by
        cases w : H b with
        | none => rfl
        | some o => exact absurd q (f0.dom b (by rw [w]; simp))
      have gs0 : ∀ b, dU g0 b → dU g b ∨ H b = none := fun b q => f0.gs b (.inl q)
      have f3 : Fr F H (dU g) F2 H2 (dU g1) := by
        refine ⟨(f0.sF.trans f1.sF).trans f2.sF, fun b q => ?_, fun b o q n => ?_, fun b q => f2.dom b (f1.dom b (f0.dom b q)), fun b q => ?_⟩
        · rcases fF2 b q with z | z
          · rcases f1.fF b z with y | y | y
            · exact f0.fF b y
            · exact .inr (.inl (H_of b y))
            · rcases gs0 b y with w | w
              · exact .inr (.inr w)
              · exact .inr (.inl w)
          · exact .inr (.inl (H_of b (H0_of b z)))
        · have q0 := f0.keep b o q n
          have n0 : ¬ dU g0 b := fun z => by
            rcases gs0 b z with w | w
            · exact n w
            · rw [q] at w; cases w
          have q1 := f1.keep b o q0 n0
          refine f2.keep b o q1 fun z => ?_
          subst z
          rcases hnew with w | w
          · exact n w
          · rw [q] at w; cases w
        · rcases f1.gs b q with z | z
          · exact gs0 b z
          · exact .inr (H_of b z)
      exact hb F2 H2 g1 v f3 s3 r2
theorem ev_callNB1 {ra : α → Rp} {ρ : (Addr → Prop) → β → Rp} {m0 : W Unit} {m1 : W α} {mf : α × Unit → W β} (hf : BagV C.toMc x j 1 (fun t => [ra t.1]) ρ mf) (hj : j ≤ C.k) (hg : C.sc.names.lookup x = some .globalImplicit) (h0 : EvO C Γ e0 (fun _ : Unit => oBag C.fr) m0) (n0 : NoStar e0) (h1 : Ev C Γ e1 ra m1) (n1 : NoStar e1)
    (hd : (x == ("__debug__" : Str)) = false := by decide) (hcm : C.cm = true := by rfl) : Ev C Γ (.Call (.Name x p) [e0, e1] [] pos) (ρ C.fr) (do let _ ← m0; let a ← m1; W.noX (mf (a, ()))) := by
  have q := ev_callNB (p := p) (pos := pos) hf hj hg h0 n0 (EvA.cons h1 EvA.nil n1) hd hcm
  exact q
theorem ev_callNB2 {ra : α → Rp} {rb : γ → Rp} {ρ : (Addr → Prop) → β → Rp} {m0 : W Unit} {m1 : W α} {m2 : W γ} {mf : α × γ × Unit → W β} (hf : BagV C.toMc x j 2 (fun t => [ra t.1, rb t.2.1]) ρ mf) (hj : j ≤ C.k) (hg : C.sc.names.lookup x = some .globalImplicit) (h0 : EvO C Γ e0 (fun _ : Unit => oBag C.fr) m0) (n0 : NoStar e0) (h1 : Ev C Γ e1 ra m1) (h2 : Ev C Γ e2 rb m2) (n1 : NoStar e1) (n2 : NoStar e2)
    (hd : (x == ("__debug__" : Str)) = false := by decide) (hcm : C.cm = true := by rfl) : Ev C Γ (.Call (.Name x p) [e0, e1, e2] [] pos) (ρ C.fr) (do let _ ← m0; let a ← m1; let b ← m2; W.noX (mf (a, b, ()))) := by
  have q := ev_callNB (p := p) (pos := pos) hf hj hg h0 n0 (EvA.cons h1 (EvA.cons h2 EvA.nil n2) n1) hd hcm
  exact q
theorem ev_callNB3 {ra : α → Rp} {rb : γ → Rp} {rc : δ → Rp} {ρ : (Addr → Prop) → β → Rp} {m0 : W Unit} {m1 : W α} {m2 : W γ} {m3 : W δ} {mf : α × γ × δ × Unit → W β} (hf : BagV C.toMc x j 3 (fun t => [ra t.1, rb t.2.1, rc t.2.2.1]) ρ mf) (hj : j ≤ C.k) (hg : C.sc.names.lookup x = some .globalImplicit) (h0 : EvO C Γ e0 (fun _ : Unit => oBag C.fr) m0) (n0 : NoStar e0) (h1 : Ev C Γ e1 ra m1) (h2 : Ev C Γ e2 rb m2) (h3 : Ev C Γ e3 rc m3) (n1 : NoStar e1) (n2 : NoStar e2) (n3 : NoStar e3)
    (hd : (x == ("__debug__" : Str)) = false := by decide) (hcm : C.cm = true := by rfl) : Ev C Γ (.Call (.Name x p) [e0, e1, e2, e3] [] pos) (ρ C.fr) (do let _ ← m0; let a ← m1; let b ← m2; let c ← m3; W.noX (mf (a, b, c, ()))) := by
  have q := ev_callNB (p := p) (pos := pos) hf hj hg h0 n0 (EvA.cons h1 (EvA.cons h2 (EvA.cons h3 EvA.nil n3) n2) n1) hd hcm
  exact q
/-- t[:2] of a tuple of five -/
theorem sl5_2 {α1 α2 α3 α4 α5 : Type} {r1 : α1 → Rp} {r2 : α2 → Rp} {r3 : α3 → Rp} {r4 : α4 → Rp} {r5 : α5 → Rp} {ma : W (α1 × α2 × α3 × α4 × α5)} {kj : Nat} {p3 : Pos} (ha : Ev C Γ a (rT5 C.K r1 r2 r3 r4 r5) ma) :
    Ev C Γ (.Subscript a (.Slice none (some (.Constant (.int 2) kj p3)) none p2) pos) (rX2 C.fr r1 r2) (do let x ← ma; pure (x.1, x.2.1)) :=
  fun X Wx ok tk F H g σ s Q hm => by
    have hl : EvP C Γ none (pure none) := EvP.none
    have hh : EvP C Γ (some (.Constant (.int 2) kj p3)) (do let x ← (pure (2 : Int)); pure (some x)) := EvP.some Ev.int
    refine WE.of (pe_slice sl_tup (pe_W (e := a)) (po_W (e := none)) (po_W (e := some (.Constant (.int 2) kj p3)))) ?_
    refine ha X Wx ok tk F H g σ s _ (ma.mono (fun x hx F1 H1 g1 v f1 s1 r1' => ?_) (fun e he => he) hm)
    obtain ⟨tl, pl, hl'⟩ := hl X Wx ok tk F1 H1 g1 σ s1
    refine ⟨tl, pl, hl' _ ?_⟩
    show ∀ (F2 H2 : Hp) (g2 : Nat → Hp), _
    intro F2 H2 g2 f2 s2
    obtain ⟨th, ph, hh'⟩ := hh X Wx ok tk F2 H2 g2 σ s2
    refine ⟨th, ph, hh' _ ?_⟩
    show ∀ (F3 H3 : Hp) (g3 : Nat → Hp), _
    intro F3 H3 g3 f3 s3
    obtain ⟨q, v1, v2, v3, v4, v5, ev, hq, t1, t2, t3, t4, t5⟩ := (rT5 C.K r1 r2 r3 r4 r5 x).mono (f2.sF.trans f3.sF) r1'
    refine ⟨q, [v1, v2, v3, v4, v5], ev, by rw [ok.K]; exact Same.seqT s3.sF hq, fun z => absurd (show (2 : Nat) = 5 from z.2) (by decide), fun pn hn => ?_⟩
    obtain ⟨s4, f4⟩ := s3.grow1 (o := .tup [v1, v2]) hn
    have sm : Same F3 (upd F3 pn (.tup [v1, v2])) := f4.sF
    exact (show ∀ (F' H' : Hp) (g' : Nat → Hp) (v : V), _ from hx) (upd F3 pn (.tup [v1, v2])) (upd H3 pn (.tup [v1, v2])) g3 (.ref pn) (f1.trans (f2.trans (f3.trans f4))) s4 ⟨pn, v1, v2, rfl, s3.fr pn hn, upd_same, (r1 x.1).mono sm t1, (r2 x.2.1).mono sm t2⟩
end
end Y

/-! Y35: len of one of two; a def that appends to each list of a tuple it is handed -/
namespace Y
open PySem PySem.Spec L2
section
variable {C : Cc} {Γ Γ' : List Slot} {α β γ δ ε ω : Type} {J : ω → Out} {e e0 e1 e2 e3 a b : Expr} {p p2 pos : Pos} {rest sts : List Stmt} {x : Str} {j : Nat}
theorem Ev.lenTf {ρ : α → Rp} {m : W α} (n : α → Nat) (hρ : ∀ x F v, (ρ x).p F v → ∃ q vs, v = .ref q ∧ SqT C.K F q vs ∧ vs.length = n x) (hb : Blt C "len" (.builtin "len")) (ha : Ev C Γ e ρ m) (hn : NoStar e) : Ev C Γ (.Call (.Name "len" p) [e] [] pos) rI (do let x ← m; pure (n x : Int)) :=
  Ev.callB1 (fun x => pure (n x : Int)) hb (fun X ok => ⟨_, call_len_seq, fun x H v Q E hv h => by
    obtain ⟨q, vs, ev, hq, hl⟩ := hρ x H v hv
    exact ⟨q, vs, by rw [ev], .inr (by rw [ok.K]; exact hq), by rw [hl]; exact h _ fun _ _ => rfl⟩⟩) (fun _ _ _ _ h => h) (fun y F v h F' => h) ha hn
theorem Ev.lenV25 {α1 α2 β1 β2 β3 β4 β5 : Type} {r1 : α1 → Rp} {r2 : α2 → Rp} {s1 : β1 → Rp} {s2 : β2 → Rp} {s3 : β3 → Rp} {s4 : β4 → Rp} {s5 : β5 → Rp} {m : W ((α1 × α2) ⊕ (β1 × β2 × β3 × β4 × β5))} (hb : Blt C "len" (.builtin "len")) (ha : Ev C Γ e (rV (rT2 C.K r1 r2) (rT5 C.K s1 s2 s3 s4 s5)) m) (hn : NoStar e) :
    Ev C Γ (.Call (.Name "len" p) [e] [] pos) rI (do let x ← m; pure ((Sum.elim (fun _ => 2) (fun _ => 5) x : Nat) : Int)) :=
  Ev.lenTf (ρ := rV (rT2 C.K r1 r2) (rT5 C.K s1 s2 s3 s4 s5)) (fun x => Sum.elim (fun _ => 2) (fun _ => 5) x) (fun x F v h => by
    cases x with
    | inl x => obtain ⟨q, v1, v2, ev, hq, _⟩ := h; exact ⟨q, _, ev, hq, rfl⟩
    | inr x => obtain ⟨q, v1, v2, v3, v4, v5, ev, hq, _⟩ := h; exact ⟨q, _, ev, hq, rfl⟩) hb ha hn
end
instance {K : PySem.W.Frag} {α β γ δ ε : Type} {r1 : α → Rp} {r2 : β → Rp} {r3 : γ → Rp} {r4 : δ → Rp} {r5 : ε → Rp} : TyK K (rT5 K r1 r2 r3 r4 r5) "tuple" := ⟨fun x F H v s ⟨a, _, _, _, _, _, e, q, _⟩ => by subst e; exact SqT.ty (Same.seqT s q)⟩
/-! ### a def that appends to each list of a tuple -/
def Keeps (G H : Hp) : Prop := ∀ b o, G b = some o → (∀ ws, o ≠ .lst ws) → H b = some o
inductive PartOk (K : PySem.W.Frag) (G : Hp) (u : V) : Prop
  | other {T : String} (h : kitB T "list" = some false) (ty : ∀ H, Keeps G H → TyX K H u (.type T))
  | list {b : Addr} {ws : List V} (e : u = .ref b) (h : G b = some (.lst ws)) (hl : ws.length ≤ 2000000)
def SpOk (K : PySem.W.Frag) (G : Hp) (v : V) : Prop := ∃ T us, v = .ref T ∧ G T = some (.tup us) ∧ us.length ≤ 5 ∧ ∀ u ∈ us, PartOk K G u
def spSp (M : Mc) : Sp := fun vs H Q E => ∃ (G : Hp) (v : V), vs = [v] ∧ Same G H ∧ SpOk M.K G v ∧ ∀ H', (∀ b o, H b = some o → G b = none → H' b = some o) → (∀ b, H b ≠ none → H' b ≠ none) → Q .non H'
structure SpoilV (M : Mc) (x : Str) (j : Nat) : Prop where
  ex : ∃ f fd ps, FnOk M.P M.w M.K M.mg M.base (L2.CX M.P M.w) j f fd ps (spSp M) ∧ M.mg x = some (.ref f) ∧ PySem.W.keepIn M.K (.ref f) = true ∧ Binds M.K fd ps []
def spoilBody (n0 n1 : Str) (p1 p2 p3 p4 p5 p6 p7 p8 p9 p10 p11 p12 p13 : Pos) (k0 : Nat) : List Stmt :=
  [.For (.Name n1 p1) (.Name n0 p2) [.If (.Call (.Name "isinstance" p3) [.Name n1 p4, .Name "list" p5] [] p6) [.Expr (.Call (.Attribute (.Name n1 p7) "append" p8) [.Constant (.int 1) k0 p9] [] p10) p11] [] p12] [] p13]
theorem SpoilV.ofBody {M : Mc} {x n0 n1 : Str} {st : Stmt} {k : Nat} {p1 p2 p3 p4 p5 p6 p7 p8 p9 p10 p11 p12 p13 : Pos} {k0 : Nat} (F : FunM M x st [n0]) (S : FnScope [n0, n1] [n0] (defScope st)) (hB : defBody st = spoilBody n0 n1 p1 p2 p3 p4 p5 p6 p7 p8 p9 p10 p11 p12 p13 k0)
    (hv0 : visB (defScope st) n0 = true) (hv1 : visB (defScope st) n1 = true) (hs1 : stoB (initC M [n0, n1] (defScope st) k (fun _ => True)) n1 = true) (hd0 : (n0 == ("__debug__" : Str)) = false ∧ (n0 == ("__classdict__" : Str)) = false) (hd1 : (n1 == ("__debug__" : Str)) = false ∧ (n1 == ("__classdict__" : Str)) = false)
    (gi : (defScope st).names.lookup ("isinstance" : Str) = some .globalImplicit) (mi : M.mg "isinstance" = none) (gl : (defScope st).names.lookup ("list" : Str) = some .globalImplicit) (ml : M.mg "list" = none) (hl : (p8.endLine == p10.line) = true) : SpoilV M x (k + 1) := by
  obtain ⟨f, fd, F, hmg, hb⟩ := F
  refine ⟨⟨f, fd, _, F.okX S (fun vs H Q E ⟨G, v, e, _⟩ => by rw [e]; rfl) (fun cdv A' outer s H vs Q E hr ⟨G, v, e, sg, ⟨T, us, ev, hT, hl5, hus⟩, hq⟩ => ?_), hmg, F.kp, hb⟩⟩
  subst e
  subst ev
  refine ⟨_, pss_W, ?_⟩
  rw [hB]
  have ok : (initC M [n0, n1] (defScope st) k (fun _ => True)).OkS (cxOf (L2.CX M.P M.w) M.P M.w M.K M.mg M.base [n0, n1] x (defScope st) f cdv A' outer s H E) := ⟨⟨rfl, rfl, rfl, rfl, rfl, rfl, rfl, S.nd, rfl, fun _ => hr, hr.units, fun _ _ _ h => (nomatch h), fun _ _ => rfl⟩, passes_of rfl, rfl, rfl⟩
  have eK : (cxOf (L2.CX M.P M.w) M.P M.w M.K M.mg M.base [n0, n1] x (defScope st) f cdv A' outer s H E).K = M.K := rfl
  generalize cxOf (L2.CX M.P M.w) M.P M.w M.K M.mg M.base [n0, n1] x (defScope st) f cdv A' outer s H E = X at ok eK ⊢
  have bi : Blt (initC M [n0, n1] (defScope st) k (fun _ => True)) "isinstance" (.builtin "isinstance") := bt_isinstance gi mi
  have bl : Blt (initC M [n0, n1] (defScope st) k (fun _ => True)) "list" (.type "list") := bt_list gl ml
  have hN : X.N = [n0, n1] := ok.N
  have hsc : X.env.scope = defScope st := ok.sc
  have hmg2 : X.mg = M.mg := ok.mg
  have sto := stoOf hs1
  have pv0 : PE X (.Name n0 p2) (tVar 0) := pe_var (i := 0) (by rw [hN]; rfl) (by rw [hsc]; exact visOf hv0) hd0.1 hd0.2
  have pv1 : ∀ p, PE X (.Name n1 p) (tVar 1) := fun p => pe_var (i := 1) (by rw [hN]; rfl) (by rw [hsc]; exact visOf hv1) hd1.1 hd1.2
  have pg1 : PG X (.Name n1 p1) (gName 1) := pg_name ok.ndX (by rw [hN]; rfl) (sto.loc ok.toOk) (sto.fn ok.toOk)
  have pis : PE X (.Call (.Name "isinstance" p3) [.Name n1 p4, .Name "list" p5] [] p6) (tCB (rIsi X.K) (tCons (tVar 1) (tCons (tC (.ty "list")) tNil))) := pe_callB call_isi (bi.gl ok.toOk) (by rw [hmg2]; exact mi) bi.v (pa_cons (pv1 p4) (pa_cons (pe_bltn (v := .ty "list") (bl.gl ok.toOk) (by rw [hmg2]; exact ml) bl.v rfl bl.n bl.d) pa_nil))
  have pap : PE X (.Call (.Attribute (.Name n1 p7) "append" p8) [.Constant (.int 1) k0 p9] [] p10) (tBM X.K "list" rAppend (tVar 1) (tCons (tC (.int 1)) tNil)) :=
    pe_bm PySem.F.plainAttrs_list PySem.F.slot_list_append PySem.F.type_list_append mt_append (pv1 p7) (pa_cons pe_int pa_nil) rfl rfl hl rfl rfl
  refine WS.of (pss_cons (ps_for ok.po (ok.toOk.calm.trans rfl) (pi_tup pv0) pg1 (pss_cons (ps_if (pt_val pis) (pss_cons (ps_expr pap rfl) pss_nil) pss_nil) pss_nil)) pss_nil) ?_
  obtain ⟨hkeep, hdom⟩ : True ∧ True := ⟨trivial, trivial⟩
  have hHT : H T = some (.tup us) := sg T _ hT
  refine ⟨.ref T, rfl, T, rfl, ⟨us, .inl (.inl hHT)⟩, fun i m σ H' => m = us.length - i ∧ i ≤ us.length ∧ σ.length = 2 ∧ σ[0]? = some (some (.ref T)) ∧ (∀ b o, H b = some o → G b = none → H' b = some o) ∧ (∀ b, H b ≠ none → H' b ≠ none) ∧ Keeps G H' ∧ ∀ b ws, G b = some (.lst ws) → ∃ ws', H' b = some (.lst ws') ∧ ws'.length ≤ ws.length + i, ⟨us.length, rfl, Nat.zero_le _, rfl, rfl, fun _ _ h _ => h, fun _ h => h, fun b o h _ => sg b o h, fun b ws h => ⟨ws, sg b _ h, Nat.le_refl _⟩⟩, fun i m σ H' ⟨em, hi, hσl, hσ0, k1, k2, k3, k4⟩ => ?_⟩
  have hT' : H' T = some (.tup us) := k3 T _ hT (fun ws z => by cases z)
  have hsq : SqT X.K H' T us := .inl (.inl hT')
  by_cases hlt : i < us.length
  · refine .inr ⟨⟨us, us[i], hsq, List.getElem?_eq_getElem hlt⟩, fun σ2 H2 => us.length - (i + 1) = us.length - (i + 1) ∧ i + 1 ≤ us.length ∧ σ2.length = 2 ∧ σ2[0]? = some (some (.ref T)) ∧ (∀ b o, H b = some o → G b = none → H2 b = some o) ∧ (∀ b, H b ≠ none → H2 b ≠ none) ∧ Keeps G H2 ∧ ∀ b ws, G b = some (.lst ws) → ∃ ws', H2 b = some (.lst ws') ∧ ws'.length ≤ ws.length + (i + 1), fun σ2 H2 w2 => ⟨_, by omega, w2⟩, fun y H2 ⟨e2, hy⟩ => ?_⟩
    subst e2
    have ey := hy us hsq
    rw [List.getElem?_eq_getElem hlt] at ey
    have ey : us[i] = y := Option.some.inj ey
    have hpart := hus us[i] (List.getElem_mem _)
    rw [ey] at hpart
    have g1 : (σ.set 1 (some y))[1]? = some (some y) := by rw [List.getElem?_set_self (by omega)]
    have g0 : (σ.set 1 (some y))[0]? = some (some (.ref T)) := by rw [List.getElem?_set_ne (by decide)]; exact hσ0
    have gl2 : (σ.set 1 (some y)).length = 2 := by rw [List.length_set]; exact hσl
    show tSeq _ _ _ _ _
    refine ⟨y, g1, ?_⟩
    cases hpart with
    | @other T2 hk ty =>
      refine ⟨y, .ty "list", .type T2, .type "list", false, rfl, .ty "list", by rw [eK]; exact ty _ k3, by rw [eK]; exact kit_ty hk, false, rfl, ?_⟩
      simp only [Bool.false_eq_true, if_false]
      exact ⟨trivial, by omega, gl2, g0, k1, k2, k3, fun b ws h => by obtain ⟨ws', a1, a2⟩ := k4 b ws h; exact ⟨ws', a1, by omega⟩⟩
    | @list b ws e h hl2 =>
      subst e
      obtain ⟨ws', a1, a2⟩ := k4 b ws h
      refine ⟨.ref b, .ty "list", .type "list", .type "list", true, rfl, .ty "list", .base (.lst a1), by rw [eK]; exact kit_ty (by decide +kernel), true, rfl, ?_⟩
      simp only [if_true]
      refine ⟨.ref b, g1, .inl ⟨rfl, _, SqL.of a1⟩, b, ws', .int 1, rfl, rfl, a1, by rw [PySem.sizeLine_eq]; omega, trivial, by omega, gl2, g0, fun c o hc hg => ?_, fun c hc => ?_, fun c o hc hn => ?_, fun c us2 hc => ?_⟩
      · have : c ≠ b := fun z => by rw [z, h] at hg; cases hg
        rw [upd_ne this]; exact k1 c o hc hg
      · by_cases z : c = b
        · rw [z, upd_same]; simp
        · rw [upd_ne z]; exact k2 c hc
      · have : c ≠ b := fun z => by rw [z, h] at hc; exact hn _ (Option.some.inj hc).symm
        rw [upd_ne this]; exact k3 c o hc hn
      · by_cases z : c = b
        · rw [z, upd_same]
          rw [z, h] at hc
          cases hc
          exact ⟨_, rfl, by simp; omega⟩
        · obtain ⟨w3, b1, b2⟩ := k4 c us2 hc
          rw [upd_ne z]; exact ⟨w3, b1, by omega⟩
  · exact .inl ⟨⟨us, hsq, by omega⟩, hq H' k1 k2⟩
section
variable {C : Cc} {Γ Γ' : List Slot} {ω : Type} {J : ω → Out} {p py cpos pos : Pos} {rest : List Stmt} {x y : Str} {i j : Nat}
/-- f(y), f such a def: y is looked at no more -/
theorem Ex.spoilCall {O : Op} {cnd : Prop} {m : W ω} (hf : SpoilV C.toMc x j) (hO : cnd → ∀ F G v, O.p F G v → SpOk C.K G v) (hj : j ≤ C.k) (hg : C.sc.names.lookup x = some .globalImplicit) (hN : C.N[i]? = some y) (hv : visB C.sc y = true) (hd : (y == ("__debug__" : Str)) = false ∧ (y == ("__classdict__" : Str)) = false) (hΓ : Γ[i]? = some (.own O)) (hr : Ex C (Γ.set i .no) rest J m)
    (hdx : (x == ("__debug__" : Str)) = false := by decide) (hcm : C.cm = true := by rfl) (hs : ∀ X : Cx, swapsWith (.Call (.Name x p) [.Name y py] [] cpos) none pos.line X.env = pure false := by intro _; rfl) :
    Ex C Γ (.Expr (.Call (.Name x p) [.Name y py] [] cpos) pos :: rest) J (W.req cnd m) :=
  Ex.cons fun X Wx ok tk F H g σ s D hm => by
    obtain ⟨f, fd, ps, hF, hmg, hk, hb⟩ := hf
    have e1 := ok.toOk.prog
    have e2 := ok.toOk.w
    have e3 := ok.toOk.K
    have e4 := ok.toOk.mg
    have e5 := ok.toOk.base
    obtain ⟨hc, hm⟩ := hm
    refine W1.of (ps_expr (pe_callS (E := fun σ => L2.WE Wx σ) (by rw [e1, e2, e3, e4, e5]; exact hF) ((ok.toOk.room hcm).mono hj) (show X.env.scope.names.lookup x = _ by rw [ok.toOk.sc]; exact hg) (by rw [e4]; exact hmg) (by rw [e3]; exact hk) (by rw [e3]; exact hb) (fun σ => by
      have := passAt tk σ
      rw [e1, e2] at this
      exact this) (pa_cons (pe_var (i := i) (by rw [ok.toOk.N]; exact hN) (by rw [ok.toOk.sc]; exact visOf hv) hd.1 hd.2) pa_nil) hdx) (hs X)) ?_
    obtain ⟨v, eσ, r⟩ := s.get_own hΓ
    refine ⟨v, eσ, g i, v, rfl, s.sG i, hO hc _ _ _ r, fun H' k1 k2 => ?_⟩
    have s0 := s.dropG i
    have hg0 : ∀ j b, setG g i emp j b ≠ none → g j b ≠ none ∧ j ≠ i := fun j b q => by
      by_cases h : j = i
      · subst h; rw [setG_same] at q; exact absurd rfl q
      · rw [setG_ne h] at q; exact ⟨q, h⟩
    have hF0 : ∀ b, F b ≠ none → g i b = none := fun b q => by
      rcases s.dF i b with z | z
      · exact absurd z q
      · exact z
    have s1 : StOk C F H' (Γ.set i .no) σ (setG g i emp) := ⟨s0.len, s0.slot, fun b o q => k1 b o (s.sF b o q) (hF0 b (by rw [q]; simp)), fun j b o q => by
      obtain ⟨q1, q2⟩ := hg0 j b (by rw [q]; simp)
      have q3 : g j b = some o := by rw [setG_ne q2] at q; exact q
      refine k1 b o (s.sG j b o q3) ?_
      rcases s.dG j i q2 b with z | z
      · rw [q3] at z; cases z
      · exact z, s0.dF, s0.dG, fun b q => s.fr b (by
        cases h : H b with
        | none => rfl
        | some o => exact absurd q (k2 b (by rw [h]; simp)))⟩
    exact hr.later ok tk ⟨Same.refl _, fun b q => .inl q, fun b o q n => k1 b o q (by
      cases h : g i b with
      | none => rfl
      | some u => exact absurd ⟨i, by rw [h]; simp⟩ n), k2, fun b ⟨j, q⟩ => .inl ⟨j, (hg0 j b q).1⟩⟩ s1 hm
end
/-- what most tells, as such a tuple -/
theorem spOk_most {K : PySem.W.Frag} {fr : Addr → Prop} {x : (Str × List Int) ⊕ (Str × (Int × Int) × List Int × Int × List Int)} (hx : Sum.elim (fun a => a.2.length ≤ 1000000) (fun b => b.2.2.1.length ≤ 1000000 ∧ b.2.2.2.2.length ≤ 1000000) x) {F G : Hp} {v : V} (h : (oV (fun N => rV (rX2 N rS (rN N rI)) (rX5 N rS (rX2 N rI rI) (rN N rI) rI (rN N rI))) fr x).p F G v) : SpOk K G v := by
  obtain ⟨_, h⟩ := h
  have str : ∀ (z : Str) (u : V), (rS z).p G u → PartOk K G u := fun z u hu => by
    have e : u = .str z := hu
    exact .other (T := "str") (by decide +kernel) fun H _ => by rw [e]; exact .base (.str z)
  have int : ∀ (z : Int) (u : V), (rI z).p G u → PartOk K G u := fun z u hu => by
    have e : u = .int z := hu
    exact .other (T := "int") (by decide +kernel) fun H _ => by rw [e]; exact .base (.int z)
  have lst : ∀ (z : List Int) (u : V), z.length ≤ 1000000 → (rN fr rI z).p G u → PartOk K G u := fun z u hz hu => by
    obtain ⟨a, vs, e, _, q, t⟩ := hu
    exact .list e q (by rw [t.length]; omega)
  cases x with
  | inl x =>
    obtain ⟨a, v1, v2, e, _, q, t1, t2⟩ := h
    refine ⟨a, _, e, q, by simp, fun u hu => ?_⟩
    rcases List.mem_cons.mp hu with z | z
    · rw [z]; exact str _ _ t1
    · rw [List.mem_singleton.mp z]; exact lst _ _ hx t2
  | inr x =>
    obtain ⟨a, v1, v2, v3, v4, v5, e, _, q, t1, t2, t3, t4, t5⟩ := h
    obtain ⟨b, w1, w2, e2, _, q2, _⟩ := t2
    refine ⟨a, _, e, q, by simp, fun u hu => ?_⟩
    simp only [List.mem_cons, List.not_mem_nil, or_false] at hu
    rcases hu with z | z | z | z | z
    · rw [z]; exact str _ _ t1
    · rw [z]
      exact .other (T := "tuple") (by decide +kernel) fun H hk => by rw [e2]; exact .base (.tup (hk b _ q2 (fun ws z => by cases z)))
    · rw [z]; exact lst _ _ hx.1 t3
    · rw [z]; exact int _ _ t4
    · rw [z]; exact lst _ _ hx.2 t5
end Y

/-! Y36: a list of new lists, no two the same; x[k].clear() -/
namespace Y
open PySem PySem.Spec L2
/-- no two the same, none the list itself -/
def Dn (a : Addr) (vs : List V) : Prop := vs.Nodup ∧ ∀ u ∈ vs, ∃ b, u = .ref b ∧ b ≠ a
section
variable {α β γ δ ε ω : Type}
def oLD (N : Addr → Prop) (r : α → Rp) (xs : List α) : Op :=
  ⟨fun F G v => ∃ a vs, v = .ref a ∧ N a ∧ G = one a (.lst vs) ∧ All2 (fun u x => (r x).p F u) vs xs ∧ Dn a vs, fun h ⟨a, vs, e, n, q, t, d⟩ => ⟨a, vs, e, n, q, t.imp fun _ _ z => (r _).mono h z, d⟩⟩
def rDL (N : Addr → Prop) (r : α → Rp) (xs : List α) : Rp :=
  ⟨fun F v => ∃ a vs, v = .ref a ∧ N a ∧ F a = some (.lst vs) ∧ All2 (fun u x => (r x).p F u) vs xs ∧ Dn a vs, fun h ⟨a, vs, e, n, q, t, d⟩ => ⟨a, vs, e, n, h _ _ q, t.imp fun _ _ z => (r _).mono h z, d⟩⟩
theorem subDN {N : Addr → Prop} {r r' : α → Rp} (h : SubK r r') : SubK (rDL N r) (rN N r') := fun a F v ⟨q, vs, e, n, q2, t, _⟩ => ⟨q, vs, e, n, q2, t.imp fun _ _ z => h _ _ _ z⟩
theorem subDL {K : PySem.W.Frag} {N : Addr → Prop} {r r' : α → Rp} (h : SubK r r') : SubK (rDL N r) (rL K r') := fun a F v ⟨q, vs, e, n, q2, t, _⟩ => ⟨q, vs, e, SqL.of q2, t.imp fun _ _ z => h _ _ _ z⟩
theorem Frs.D {ρ : (Addr → Prop) → α → Rp} (h : Frs ρ) : Frs (fun N => rDL N (ρ N)) := ⟨fun N b F v ⟨a, vs, e, n, q, t, d⟩ => ⟨a, vs, e, n, by rw [restr_at n]; exact q, t.imp fun _ _ z => h.re _ _ _ _ z, d⟩, fun N N' b F v hn ⟨a, vs, e, n, q, t, d⟩ => ⟨a, vs, e, hn _ n, q, t.imp fun _ _ z => h.mo _ _ _ _ _ hn z, d⟩⟩
instance {K : PySem.W.Frag} {N : Addr → Prop} {r : α → Rp} : TyK K (rDL N r) "list" := ⟨fun x F H v s ⟨a, vs, e, _, q, _⟩ => by subst e; exact .base (.lst (s _ _ q))⟩
/-- what is new stands at an address of N -/
def AtN (ρ : (Addr → Prop) → β → Rp) : Prop := ∀ N y F v, (ρ N y).p F v → ∃ b, v = .ref b ∧ N b ∧ F b ≠ none
theorem AtN.N {ρ : (Addr → Prop) → β → Rp} : AtN (fun N => rN N (ρ N)) := fun N y F v ⟨a, vs, e, n, q, _⟩ => ⟨a, e, n, by rw [q]; simp⟩
end
section
variable {C : Cc} {Γ Γ' : List Slot} {α β γ δ ε ω : Type} {J : ω → Out}
theorem tLcD_of {tg iter elt : Expr} {ifs : List Expr} {scope : Scope} {vs : List Nat} {r : α → Rp} {r' : (Addr → Prop) → β → Rp} {m : W (List α)} {mt : α → W Bool} {me : α → W β} {t : TG} {up : List Slot → α → List Slot} (hi : EvI C Γ tg iter r m)
    (hg : EvG (C.blk scope) tg r t up) (hup : ∀ x i, i ∉ vs → (up (wipeG Γ vs) x)[i]? = Γ[i]?) (hn : ∀ v ∈ vs, ∀ O, Γ[v]? ≠ some (.own O))
    (hw : ∀ v σ H (Q : St → Hp → Prop), t v (L2.wipe σ vs) H (fun σ2 H2 => L2.wipe σ2 vs = L2.wipe σ vs → Q σ2 H2) → t v (L2.wipe σ vs) H (fun σ2 H2 => L2.wipe σ2 vs = L2.wipe σ vs ∧ Q σ2 H2))
    (ht : ∀ x, EvTs (C.blk scope) (up (wipeG Γ vs) x) ifs (mt x)) (he : ∀ (N : Addr → Prop) x, Ev ((C.blk scope).wfr N) (up (wipeG Γ vs) x) elt (r' N) (me x)) (hA : AtN r') (hF : Frs r')
    {X : Cx} {Wx : WX} (ok : C.Ok X) (tk : Takes X Wx) {F H : Hp} {g : Nat → Hp} {σ : St} (s : StOk C F H Γ σ g) {Q : VK}
    (hm : (do let xs ← m; W.noX (compM mt me xs)).wp (fun a => ∀ (F' H' : Hp) (g' : Nat → Hp) (G : Hp) (v : V), Fr F H (dU g) F' H' (fun b => dU g' b ∨ G b ≠ none) → StOk C F' H' Γ σ g' → Same G H' → Dis F' G → (∀ i, Dis (g' i) G) → (∀ b, G b ≠ none → C.fr b) → (oLD C.fr (r' C.fr) a).p F' G v → Q v H') (XEnd C F H (dU g) Γ σ Wx)) :
    tLc (WI X tg iter) t (fun σ2 H2 Q => ∀ (s0 : Shared) (H0 : Hp) (Ca : Addr) (cl : List (Str × Addr)) (fp : List Addr), ∃ tt, PTs (X.blk s0 H0 scope (compEnvC scope cl Ca X.env) fp) ifs tt ∧ tt σ2 H2 Q)
      (fun σ2 H2 Q => ∀ (s0 : Shared) (H0 : Hp) (Ca : Addr) (cl : List (Str × Addr)) (fp : List Addr), WE (X.blk s0 H0 scope (compEnvC scope cl Ca X.env) fp) elt σ2 H2 Q) vs σ H Q := by
  refine hi X Wx ok tk F H g σ s _ (m.mono (fun xs hx F1 H1 g1 J f1 s1 hJ D hD => ?_) (fun e he => he) hm)
  refine ⟨fun i n Hc => n = xs.length - i ∧ i ≤ xs.length ∧ ∃ Fc gc accV acc, StOk C Fc Hc Γ σ gc ∧ Same F1 Fc ∧ Fr F H (dU g) Fc Hc (fun b => dU gc b ∨ one D (.lst accV) b ≠ none) ∧ Hc D = some (.lst accV) ∧ Fc D = none ∧ (∀ j, gc j D = none) ∧ C.fr D ∧ All2 (fun u y => (r' C.fr y).p Fc u) accV acc ∧ acc.length ≤ i ∧ (accV.Nodup ∧ ∀ u ∈ accV, ∃ b, u = .ref b ∧ b ≠ D ∧ Hc b ≠ none) ∧
      (compM mt me (xs.drop i)).wp (fun zs => ∀ (F' H' : Hp) (g' : Nat → Hp) (G : Hp) (v : V), Fr F H (dU g) F' H' (fun b => dU g' b ∨ G b ≠ none) → StOk C F' H' Γ σ g' → Same G H' → Dis F' G → (∀ i, Dis (g' i) G) → (∀ b, G b ≠ none → C.fr b) → (oLD C.fr (r' C.fr) (acc ++ zs)).p F' G v → Q v H') (fun _ => False), ⟨xs.length, by simp, Nat.zero_le _, ?_⟩, ?_⟩
  · obtain ⟨f2, s2, h3, h4, h5, h6, h7⟩ := new_own (O := oL C.fr (r' C.fr) []) (o := .lst []) s1 hD (fun n => ⟨D, [], rfl, n, rfl, .nil⟩)
    refine ⟨F1, g1, [], [], s2, Same.refl _, f1.trans f2, upd_same, ?_, fun j => ?_, s1.fr D hD, .nil, Nat.zero_le _, ⟨List.nodup_nil, by simp⟩, hx⟩
    · rcases h4 D with q | q
      · exact q
      · rw [one_same] at q; cases q
    · rcases h5 j D with q | q
      · exact q
      · rw [one_same] at q; cases q
  · rintro i n Hc ⟨rfl, hi', Fc, gc, accV, acc, sc, hF1, fc, hD', hFD, hgD, frD, hacc, hlen, hdn, hwp⟩
    by_cases hlt : i < xs.length
    · refine .inr ⟨hJ.go i Fc Hc hF1 sc.sF hlt, _, fun H' h => ⟨xs.length - (i + 1), by omega, h⟩, fun v H' y => ?_⟩
      obtain ⟨x, hxi⟩ : ∃ x, xs[i]? = some x := ⟨_, List.getElem?_eq_getElem hlt⟩
      have hdrop : xs.drop i = x :: xs.drop (i + 1) := by
        rw [List.drop_eq_getElem_cons hlt]
        have := List.getElem?_eq_getElem hlt
        rw [hxi] at this
        rw [← Option.some.inj this]
      obtain ⟨Gy, hGy, eH', ry⟩ := hJ.yld i x Fc Hc v H' hF1 sc.sF hxi y
      subst eH'
      obtain ⟨s3, f3⟩ := sc.grow hGy
      refine hw v σ _ _ ?_
      refine hg.rd _ _ _ gc _ x v _ (StOk.blk.mpr (s3.wipe vs)) ry fun σ2 s4 hwσ => ?_
      intro s0 H0 Ca cl fp
      rw [hdrop] at hwp
      refine (ht x) _ (fun _ _ _ _ => False) (ok.blk s0 H0 scope cl Ca fp) takes0 _ _ gc σ2 s4 _ ((mt x).mono (fun b hb F5 H5 g5 f5 s5 => ?_) (fun e h => h.elim) hwp)
      have back : ∀ {F6 H6 : Hp} {g6 : Nat → Hp}, Fr (uni Fc Gy) (uni Hc Gy) (dU gc) F6 H6 (dU g6) → StOk (C.blk scope) F6 H6 (up (wipeG Γ vs) x) σ2 g6 → StOk C F6 H6 Γ σ g6 := fun {F6 H6 g6} f s6 =>
        s3.unwipe (StOk.blk.mp s6) f.sF (hup x) hwσ hn
      cases b with
      | false =>
        rw [if_neg Bool.false_ne_true]
        obtain ⟨k1, k2, k3, _, _, k4⟩ := lc_step (o' := .lst accV) fc hD' hFD hgD hGy f5 (back f5 s5)
        exact ⟨rfl, hlt, F5, g5, accV, acc, back f5 s5, (hF1.trans uni_l).trans f5.sF, k4, k1, k2, k3, frD, hacc.imp fun u y z => (r' _ y).mono (uni_l.trans f5.sF) z, Nat.le_succ_of_le hlen, ⟨hdn.1, fun u hu => by
          obtain ⟨b, e, n1, n2⟩ := hdn.2 u hu
          refine ⟨b, e, n1, f5.dom b ?_⟩
          cases e4 : Hc b with
          | none => exact absurd e4 n2
          | some w2 => rw [uni_l b _ e4]; simp⟩, hb⟩
      | true =>
        rw [if_pos rfl]
        intro s0 H0 Ca cl fp
        have s5w : StOk ((C.blk scope).wfr (fun b => H5 b = none)) F5 H5 (up (wipeG Γ vs) x) σ2 g5 := ⟨s5.len, s5.slot, s5.sF, s5.sG, s5.dF, s5.dG, fun b q => q⟩
        refine he (fun b => H5 b = none) x _ (fun _ _ _ _ => False) ((ok.blk s0 H0 scope cl Ca fp).wfr _) takes0 F5 H5 g5 σ2 s5w _ ((me x).mono (fun y hy F6 H6 g6 w f6 s6w r6 => ?_) (fun e h => h.elim) hb)
        have hfr5 : ∀ b, H5 b = none → C.fr b := fun b q => s5.fr b q
        have s6 : StOk (C.blk scope) F6 H6 (up (wipeG Γ vs) x) σ2 g6 := ⟨s6w.len, s6w.slot, s6w.sF, s6w.sG, s6w.dF, s6w.dG, fun b q => hfr5 b (by
          cases h : H5 b with
          | none => rfl
          | some o => exact absurd q (f6.dom b (by rw [h]; simp)))⟩
        obtain ⟨wb, ew, nw, nF⟩ := hA _ _ _ _ r6
        have r6' := hF.mo _ _ _ _ _ hfr5 r6
        have f56 := f5.trans f6
        have hup5 : ∀ b, Hc b ≠ none → H5 b ≠ none := fun b q => f5.dom b (by
          cases e4 : Hc b with
          | none => exact absurd e4 q
          | some w2 => rw [uni_l b _ e4]; simp)
        obtain ⟨k1, k2, k3, k4, k5, _⟩ := lc_step (o' := .lst (accV ++ [w])) fc hD' hFD hgD hGy f56 (back f56 s6)
        refine ⟨accV, k1, ?_, rfl, hlt, F6, g6, accV ++ [w], acc ++ [y], k4, (hF1.trans uni_l).trans f56.sF, k5, upd_same, k2, k3, frD, (hacc.imp fun u y z => (r' _ y).mono (uni_l.trans f56.sF) z).snoc r6', ?_, ⟨?_, ?_⟩, ?_⟩
        · rw [hacc.length]
          exact Nat.lt_of_lt_of_le (Nat.lt_of_le_of_lt hlen hlt) hJ.len
        · rw [List.length_append, List.length_singleton]
          exact Nat.succ_le_succ hlen
        · refine List.nodup_append.mpr ⟨hdn.1, by simp, fun u hu z hz e => ?_⟩
          rw [List.mem_singleton.mp hz, ew] at e
          obtain ⟨b, e2, _, n2⟩ := hdn.2 u hu
          rw [e2] at e
          cases e
          exact hup5 _ n2 nw
        · intro u hu
          have dom6 : ∀ b, H6 b ≠ none → (upd H6 D (.lst (accV ++ [w]))) b ≠ none := fun b q => by
            by_cases z : b = D
            · rw [z, upd_same]; simp
            · rw [upd_ne z]; exact q
          rcases List.mem_append.mp hu with q | q
          · obtain ⟨b, e2, n1, n2⟩ := hdn.2 u q
            exact ⟨b, e2, n1, dom6 b (f6.dom b (hup5 b n2))⟩
          · refine ⟨wb, by rw [List.mem_singleton.mp q, ew], fun z => ?_, dom6 wb ?_⟩
            · rw [z] at nw
              exact hup5 D (by rw [hD']; simp) nw
            · cases h : F6 wb with
              | none => exact absurd h nF
              | some o => rw [s6.sF wb o h]; simp
        · refine (compM mt me (xs.drop (i + 1))).mono (fun zs hz => ?_) (fun _ h => h) hy
          rw [List.append_assoc, List.singleton_append]
          exact hz
    · have e : i = xs.length := by omega
      subst e
      refine .inl ⟨hJ.stop _ Fc Hc hF1 sc.sF (Nat.le_refl _), ?_⟩
      rw [List.drop_length] at hwp
      have hend := hwp
      refine hend Fc Hc gc (one D (.lst accV)) (.ref D) fc sc (fun b o q => ?_) (fun b => ?_) (fun j b => ?_) (fun b q => ?_) ⟨D, accV, rfl, frD, rfl, by rw [List.append_nil]; exact hacc, hdn.1, fun u hu => by obtain ⟨b, e, n, _⟩ := hdn.2 u hu; exact ⟨b, e, n⟩⟩
      · by_cases z : b = D
        · subst z; rw [one_same] at q; rw [hD']; exact q
        · rw [one_ne z] at q; cases q
      · by_cases z : b = D
        · subst z; exact .inl hFD
        · exact .inr (one_ne z)
      · by_cases z : b = D
        · subst z; exact .inl (hgD j)
        · exact .inr (one_ne z)
      · by_cases z : b = D
        · subst z; exact frD
        · exact absurd (one_ne z) q
theorem EvO.compD {tg iter elt : Expr} {ifs : List Expr} {scope : Scope} {pos : Pos} {own : List (Str × Nat)} {r : α → Rp} {r' : (Addr → Prop) → β → Rp} {m : W (List α)} {mt : α → W Bool} {me : α → W β} {t : TG} {up : List Slot → α → List Slot} (hA : AtN r') (hF : Frs r') (hL : LcOk C Γ tg scope own r t up) (hi : EvI C Γ tg iter r m)
    (ht : ∀ x, EvTs (C.blk scope) (up (wipeG Γ (own.map (·.2))) x) ifs (mt x)) (he : ∀ (N : Addr → Prop) x, Ev ((C.blk scope).wfr N) (up (wipeG Γ (own.map (·.2))) x) elt (r' N) (me x)) (hs : ∀ (env : Env) x, foldedSetIterable iter env x = pure x := by intro _ _; rfl) (hcm : C.cm = true := by rfl) :
    EvO C Γ (.ListComp elt [⟨tg, iter, ifs, 0⟩] scope pos) (oLD C.fr (r' C.fr)) (do let xs ← m; W.noX (compM mt me xs)) :=
  fun X Wx ok tk F H g σ s Q hm => by
    refine WE.of (pe_lc (own := own) (ok.calm.trans hcm) ok.ndX pi_W (by rw [ok.N, ok.sc]; exact hL.blk) (fun s0 H0 Ca cl fp => hL.g.pg _ (ok.blk s0 H0 scope cl Ca fp)) (fun s0 H0 Ca cl fp => ⟨fun pins s σ H Q I h => ?_⟩) (fun s0 H0 Ca cl fp => ⟨fun pins s σ H Q I h => pe_W.run pins s σ H Q I (h s0 H0 Ca cl fp)⟩) (hs X.env))
      (tLcD_of hi hL.g hL.up hL.no hL.w ht he hA hF ok tk s hm)
    obtain ⟨tt, h1, h2⟩ := h s0 H0 Ca cl fp
    exact h1.run pins s σ H Q I h2
theorem oLD_rDL {N : Addr → Prop} {r : α → Rp} {xs : List α} {F G : Hp} {v : V} (d : Dis F G) (h : (oLD N r xs).p F G v) : (rDL N r xs).p (uni F G) v := by
  obtain ⟨a, vs, e, n, q, t, dn⟩ := h
  refine ⟨a, vs, e, n, ?_, t.imp fun _ _ z => (r _).mono uni_l z, dn⟩
  subst q
  exact uni_r d a _ one_same
theorem EvO.listD {e : Expr} {r : α → Rp} {m : W (List α)} (x : EvO C Γ e (oLD C.fr r) m) : Ev C Γ e (rDL C.fr r) m := x.ev fun _ _ _ _ d _ h => oLD_rDL d h
theorem All2.ofGet {R : α → β → Prop} : ∀ {as : List α} {bs : List β}, as.length = bs.length → (∀ (n : Nat) a b, as[n]? = some a → bs[n]? = some b → R a b) → All2 R as bs
  | [], [], _, _ => .nil
  | a :: as, b :: bs, hl, h => .cons (h 0 a b rfl rfl) (All2.ofGet (by simpa using hl) fun n x y hx hy => h (n + 1) x y (by simpa using hx) (by simpa using hy))
/-- k-th emptied -/
def clrI (xs : List (List α)) (i : Int) : W (List (List α)) := match ixN xs.length i with | some j => pure (xs.set j []) | none => W.bad
theorem Ex.clearAt {i : Nat} {x : Str} {px pp apos cpos pos : Pos} {ix : Expr} {rest : List Stmt} {r : α → Rp} [I : Fre r] {xs : List (List α)} {mi : W Int} {k : List (List α) → W ω} (hN : C.N[i]? = some x) (hv : visB C.sc x = true) (hd : (x == ("__debug__" : Str) || x == ("__classdict__" : Str)) = false) (hΓ : Γ[i]? = some (.own (oV (fun N => rDL N (rN N r)) C.fr xs))) (hi : Ev C Γ ix rI mi)
    (hr : ∀ ys, Ex C (Γ.set i (.own (oV (fun N => rDL N (rN N r)) C.fr ys))) rest J (k ys)) (hp : PlainIx ix := by intro _ _; rfl)
    (hline : (apos.endLine == cpos.line) = true := by rfl) (hb : ∀ X : Cx, attributeBase (.Subscript (.Name x px) ix pp) "clear" X.env (eval (.Subscript (.Name x px) ix pp) X.env) = eval (.Subscript (.Name x px) ix pp) X.env := by intro _; rfl)
    (hs : ∀ X : Cx, swapsWith (.Call (.Attribute (.Subscript (.Name x px) ix pp) "clear" apos) [] [] cpos) none pos.line X.env = pure false := by intro _; rfl) :
    Ex C Γ (.Expr (.Call (.Attribute (.Subscript (.Name x px) ix pp) "clear" apos) [] [] cpos) pos :: rest) J (do let j ← mi; let ys ← clrI xs j; k ys) :=
  Ex.cons fun X Wx ok tk F H g σ s D hm => by
    rw [Bool.or_eq_false_iff] at hd
    refine W1.of (ps_expr (pe_bm0 PySem.F.plainAttrs_list PySem.F.slot_list_clear PySem.F.type_list_clear mt_clear (pe_ix ix_list (pe_var (i := i) (by rw [ok.toOk.N]; exact hN) (by rw [ok.toOk.sc]; exact visOf hv) hd.1 hd.2) (pe_W (e := ix)) hp) (hb X) hline) (hs X)) ?_
    obtain ⟨v, eσ, r0⟩ := s.get_own hΓ
    refine ⟨v, eσ, ?_⟩
    refine hi X Wx ok.toOk tk F H g σ s _ (mi.mono (fun j hj F1 H1 g1 w f1 s1 r1 => ?_) (fun e he => he.ex) hm)
    obtain ⟨v', eσ', hsub, a, vs, ev, na, hGa, t, dn⟩ := s1.get_own hΓ
    rw [eσ] at eσ'
    cases eσ'
    subst ev
    replace hj : (clrI xs j >>= k).wp _ _ := hj
    unfold clrI at hj
    cases hq : ixN xs.length j with
    | none => rw [hq] at hj; exact hj.elim
    | some q =>
      rw [hq] at hj
      have hj : (k (xs.set q [])).wp _ _ := hj
      have hql : q < xs.length := by
        unfold ixN at hq
        split at hq
        · split at hq
          · cases hq; omega
          · cases hq
        · split at hq
          · cases hq; omega
          · cases hq
      have hvl : q < vs.length := by rw [t.length]; exact hql
      obtain ⟨b, eb, bne⟩ := dn.2 vs[q] (List.getElem_mem _)
      have hget : vs[q]? = some (.ref b) := by rw [List.getElem?_eq_getElem hvl, eb]
      obtain ⟨y, hy, rb⟩ : ∃ y, xs[q]? = some y ∧ (rN C.fr r y).p (g1 i) (.ref b) := by
        obtain ⟨u, h1, h2⟩ := t.get (List.getElem?_eq_getElem hql)
        rw [hget] at h1
        cases h1
        exact ⟨_, List.getElem?_eq_getElem hql, h2⟩
      obtain ⟨b2, ws, e2, nb, hGb, tb⟩ := rb
      cases e2
      have hat : atI vs j = some (.ref b) := by
        unfold atI
        rw [t.length, hq]
        exact hget
      have hother : ∀ c, c ≠ b → upd (g1 i) b (.lst []) c = g1 i c := fun c hc => upd_ne hc
      have r' : (oV (fun N => rDL N (rN N r)) C.fr (xs.set q [])).p F1 (upd (g1 i) b (.lst [])) (.ref a) := by
        refine ⟨fun c hc => ?_, a, vs, rfl, na, by rw [hother a (fun z => bne z.symm)]; exact hGa, ?_, dn⟩
        · by_cases z : c = b
          · rw [z]; exact hsub b (by rw [hGb]; simp)
          · rw [hother c z] at hc; exact hsub c hc
        · refine All2.ofGet (by rw [List.length_set, t.length]) fun n u z hu hz => ?_
          by_cases hn : n = q
          · subst hn
            rw [List.getElem?_set_self hql] at hz
            cases hz
            rw [hget] at hu
            cases hu
            exact ⟨b, [], rfl, nb, upd_same, .nil⟩
          · rw [List.getElem?_set_ne (fun e => hn e.symm)] at hz
            obtain ⟨u', h1, c, ws', ec, nc, hc, tc⟩ := t.get hz
            rw [hu] at h1
            cases h1
            subst ec
            have hcb : c ≠ b := fun e => by
              subst e
              exact hn ((List.getElem?_inj (i := n) (j := q) (List.getElem?_eq_some_iff.mp hu).1 dn.1).mp (by rw [hu, hget]))
            exact ⟨c, ws', rfl, nc, by rw [hother c hcb]; exact hc, tc.imp fun _ _ zz => I.fre _ _ _ zz _⟩
      have hHb := s1.sG i b _ hGb
      obtain ⟨s3, f3⟩ := s1.updG (O' := oV (fun N => rDL N (rN N r)) C.fr (xs.set q [])) (o' := .lst []) hGb eσ (List.getElem?_eq_some_iff.mp hΓ).1 r'
      refine ⟨a, vs, j, .ref b, rfl, r1, SqL.of (s1.sG i a _ hGa), hat, .inl ⟨rfl, _, SqL.of hHb⟩, b, ws, rfl, rfl, hHb, ?_⟩
      exact (hr _).later ok tk (f1.trans f3) s3 hj
/-- what a method without arguments tells, all of it the asker's own -/
theorem EvO.methFr0 {A : Addr} {fl : α → Fl2} {o : Expr} {x : Str} {j : Nat} {apos pos : Pos} {ρ : (Addr → Prop) → β → Rp} {mf : α × Unit → W β} {mo : W α} (hb : All2 (Bo C) Γ Γ') (hv : noOwn Γ' = true) (hρ : Frs ρ) (hf : MetV C.toMc A x j 1 (fun N t => [rIns A fl t.1]) ρ mf) (hj : j ≤ C.k) (hc : Cls C.K A) (hlk : ∀ y, (fl y).lookup x = Option.none) (ho : Ev C Γ' o (rIns A fl) mo)
    (ht : ∀ X : Cx, ∃ pl : Sem Bool, eval (.Call (.Attribute o x apos) [] [] pos) X.env = (do
      let ov ← eval o X.env
      standAt apos.atName
      let (f, first) ← holding [ov] (getMethod ov x pl)
      callWith pos f first (backTo pos (starEach [] X.env)) (backToKw pos (keywordEach [] X.env))) := by intro _; exact ⟨_, rfl⟩) (hcm : C.cm = true := by rfl) :
    EvO C Γ (.Call (.Attribute o x apos) [] [] pos) (oV ρ C.fr) (do let y ← mo; mf (y, ())) :=
  fun X Wx ok tk F H g σ s Q hm => by
    obtain ⟨⟨f, fd, ps, hF, hM, hbd⟩, hl⟩ := hf
    obtain ⟨pl, hpl2⟩ := ht X
    have e1 := ok.prog
    have e2 := ok.w
    have e3 := ok.K
    have e4 := ok.mg
    have e5 := ok.base
    have hv' : ∀ (i : Nat) (O : Op), Γ'[i]? ≠ some (Slot.own O) := fun i O q => noOwn.ok hv _ (List.mem_of_getElem? q) O rfl
    obtain ⟨sz, zF, zG, _⟩ := s.frzA hb hv'
    refine WE.of (pe_methYX0 (pl := pl) (E := fun σ => L2.WE Wx σ) (pe_W (e := o)) (by rw [e3]; exact hc) (by rw [e3]; exact hM) (by rw [e1, e2, e3, e4, e5]; exact hF) ((ok.room hcm).mono hj) (by rw [e3]; exact hbd) (fun σ => by
      have := passAt tk σ
      rw [e1, e2] at this
      exact this) hpl2) ?_
    refine ho X Wx ok tk _ H _ σ sz _ (mo.mono (fun y hy F1 H1 g1 v1 f1 s1 r1 => ?_) (fun e he => he.frz s hb hv') hm)
    obtain ⟨a, dx, fs, ev, h1, h2, t1⟩ := id r1
    refine ⟨a, dx, fs, ev, s1.sF _ _ h1, t1.no (hlk y), ?_⟩
    refine ⟨(y, ()), F1, fun a => H1 a = Option.none, fun _ z => z, s1.sF, .cons (by rw [← ev]; exact r1) .nil, (mf (y, ())).mono (fun b hb2 F2 H2 g2 v f2 s2 r2 => ?_) (fun e he F2 H2 g2 cls d f2 s2 hx => ?_) hy⟩
    · obtain ⟨s3, f3⟩ := s1.call0 f2 s2
      obtain ⟨s4, f4⟩ := s.unfrz hb hv' (f1.trans f3) s3
      obtain ⟨G, g1, g2, g3, g4, g5, g6⟩ := newG hρ s zF zG sz.sF (N := fun a => H1 a = Option.none) (fun b z => by
        cases q3 : H b with
        | none => rfl
        | some u => exact absurd z (f1.dom b (by rw [q3]; simp))) s4 f4 s2 r2
      exact hb2 F H2 g G v g1 s4 g2 g3 g4 g5 g6
    · obtain ⟨s3, f3⟩ := s1.call0 f2 s2
      exact (he.frz s hb hv') F2 H2 g1 cls d (f1.trans f3) s3 ((hx.reg s1.sG).later f1)
instance {N : Addr → Prop} {ρ : (Addr → Prop) → α → Rp} {xs : List α} : IsLst (oV (fun N => rDL N (ρ N)) N xs) := ⟨fun _ _ _ ⟨_, a, vs, e, _, q, _⟩ => ⟨a, vs, e, q⟩⟩
end
end Y

/-! Y37: texts read: split, endswith, upper, count, index, int -/
namespace Y
open PySem PySem.Spec L2
/-- list.count of flat values -/
def rCntF (K : PySem.W.Frag) : V → List V → Hp → VK → Prop := fun x xs H Q => ∃ (p : Addr) (ys : List V) (y : V), x = .ref p ∧ xs = [y] ∧ SqL K H p ys ∧ flatV y = true ∧ ys.all flatV = true ∧ Q (.int (ys.countP (fun z => eqV z y) : Nat)) H
theorem countP_eqU {y : V} : ∀ {ys : List V} {us : List Value}, Vals ys us → ys.all flatV = true → us.countP (eqU y) = ys.countP (fun z => eqV z y)
  | _, _, .nil, _ => rfl
  | z :: ys, u :: us, .cons r t, f => by
    rw [List.all_cons, Bool.and_eq_true] at f
    rw [List.countP_cons, List.countP_cons, countP_eqU t f.2, eqU_of r f.1]
theorem mt_lcountF {X : Cx} : MtR X "list.count" (rCntF X.K) := by
  intro pins s σ H x xs v us Q I rx rxs h
  obtain ⟨p, ys, y, rfl, rfl, hs, fy, fys, q⟩ := h
  cases rx
  cases rxs with
  | cons ry rt =>
    rename_i uy ut
    cases rt
    obtain ⟨its, rv, ⟨⟨cls, dd, data, sl⟩, n, ho, hc, hdn, hd⟩, hlen⟩ := I.list hs
    simp only at hc hd
    subst hc hd
    refine call_meets PySem.F.slot_list_count ⟨_, ho, rfl⟩ PySem.F.entry_list_count (PySem.F.args_list_count_2 _ _)
      (SeqAt.list_countAt p its.toArray n dd sl uy (eqU y)) ⟨ho, fun u' hu' => mem_eqAt ry fy rv fys u' (by simpa using hu'), ?_⟩
    have ec : its.toArray.toList.countP (eqU y) = ys.countP (fun z => eqV z y) := countP_eqU rv fys
    refine ⟨.int (ys.countP (fun z => eqV z y) : Nat), H, I.tok _, ⟨s.toks, ?_⟩, q⟩
    show Value.int ((its.toArray.toList.countP (eqU y) : Nat) : Int) s.toks = _
    rw [ec]
section
variable {C : Cc} {Γ Γ' : List Slot} {α β γ δ ε ω : Type} {J : ω → Out} {e o e0 e1 e2 e3 a b : Expr} {p p2 pos apos : Pos} {rest sts : List Stmt} {x : Str} {j : Nat}
/-- a text's method of one text -/
theorem Ev.txt1 {name : Str} {id : String} {ρ : β → Rp} {m1 m2 : W Str} (k : Str → Str → W β) {r : V → List V → Hp → VK → Prop} (slot : PySem.Slot "str" name id) (ty : typeOf (.builtin id) = pure (.type "method_descriptor")) (rule : ∀ X : Cx, MtR X id r) (hk : ∀ (x y : Str) (H : Hp) (Q : VK) (E : Exn → Prop), (k x y).wp (fun b => ∀ v, (∀ F, (ρ b).p F v) → Q v H) E → r (.str x) [.str y] H Q)
    (hr : ∀ b, ∃ v, ∀ F, (ρ b).p F v) (ho : Ev C Γ o rS m1) (he : Ev C Γ e rS m2) (hn : NoStar e) (hs : ∀ x y P (E E' : Exn → Prop), (k x y).wp P E → (k x y).wp P E') (hbase : ∀ X : Cx, attributeBase o name X.env (eval o X.env) = eval o X.env := by intro _; rfl) (hline : (apos.endLine == pos.line) = true := by rfl) :
    Ev C Γ (.Call (.Attribute o name apos) [e] [] pos) ρ (do let x ← m1; let y ← m2; k x y) := fun X Wx ok tk F H g σ s Q hm => by
  refine WE.of (pe_m1 slot ty (rule X) (pe_W (e := o)) (pe_W (e := e)) (hn [] X.env) (hbase X) hline) ?_
  refine ho X Wx ok tk F H g σ s _ (m1.mono (fun x hx F1 H1 g1 v f1 s1 r1 => ?_) (fun e he => he) hm)
  refine ⟨⟨x, r1⟩, he X Wx ok tk F1 H1 g1 σ s1 _ (m2.mono (fun y hy F2 H2 g2 w f2 s2 r2 => ?_) (fun e he => XEnd.later f1 he) hx)⟩
  have e1 : v = .str x := r1
  have e2 : w = .str y := r2
  subst e1 e2
  exact hk x y H2 Q (fun _ => True) (hs _ _ _ _ _ ((k x y).mono (fun b hb v hv => hb F2 H2 g2 v (f1.trans f2) s2 (hv F2)) (fun _ h => h) hy))
theorem Ev.endsw {m1 m2 : W Str} (ho : Ev C Γ o rS m1) (he : Ev C Γ e rS m2) (hn : NoStar e) (hbase : ∀ X : Cx, attributeBase o "endswith" X.env (eval o X.env) = eval o X.env := by intro _; rfl) (hline : (apos.endLine == pos.line) = true := by rfl) :
    Ev C Γ (.Call (.Attribute o "endswith" apos) [e] [] pos) rB (do let x ← m1; let y ← m2; pure (Txt.endswith x y)) :=
  Ev.txt1 (fun x y => pure (Txt.endswith x y)) F.slot_str_endswith F.type_str_endswith (fun _ => mt_endswith) (fun x y H Q E h => ⟨x, y, rfl, rfl, h _ fun _ => rfl⟩) (fun b => ⟨.bl b, fun _ => rfl⟩) ho he hn (fun _ _ _ _ _ h => h) hbase hline
/-- x.split(y), new -/
theorem EvO.split {m1 m2 : W Str} (ho : Ev C Γ o rS m1) (he : Ev C Γ e rS m2) (hn : NoStar e) (hbase : ∀ X : Cx, attributeBase o "split" X.env (eval o X.env) = eval o X.env := by intro _; rfl) (hline : (apos.endLine == pos.line) = true := by rfl) :
    EvO C Γ (.Call (.Attribute o "split" apos) [e] [] pos) (oL C.fr rS) (do let x ← m1; let y ← m2; W.req ((y.length == 0) = false ∧ x.length ≤ 1000000) (pure (Txt.split x y))) := fun X Wx ok tk F H g σ s Q hm => by
  refine WE.of (pe_split (pe_W (e := o)) (pe_W (e := e)) (hn [] X.env) (hbase X) hline) ?_
  refine ho X Wx ok tk F H g σ s _ (m1.mono (fun x hx F1 H1 g1 v f1 s1 r1 => ?_) (fun e he => he) hm)
  refine ⟨⟨x, r1⟩, he X Wx ok tk F1 H1 g1 σ s1 _ (m2.mono (fun y hy F2 H2 g2 w f2 s2 r2 => ?_) (fun e he => XEnd.later f1 he) hx)⟩
  obtain ⟨⟨h1, h2⟩, hy⟩ := hy
  refine ⟨x, y, r1, by rw [show w = .str y from r2], h1, by rw [PySem.sizeLine_eq]; omega, fun p hp => ?_⟩
  have t : All2 (fun u z => (rS z).p F2 u) ((Txt.split x y).map V.str) (Txt.split x y) := All2.ofMem V.str (fun z => z) (Txt.split x y) (fun z _ => rfl) |> fun h => by simpa using h
  exact EvO.fin (O := oL C.fr rS (Txt.split x y)) (f1.trans f2) s2 hp (fun n => ⟨p, _, rfl, n, rfl, t⟩) hy
/-- xs.count(y) of texts -/
theorem Ev.countS {m1 : W (List Str)} {m2 : W Str} (ho : Ev C Γ o (rL C.K rS) m1) (he : Ev C Γ e rS m2) (hn : NoStar e) (hbase : ∀ X : Cx, attributeBase o "count" X.env (eval o X.env) = eval o X.env := by intro _; rfl) (hline : (apos.endLine == pos.line) = true := by rfl) :
    Ev C Γ (.Call (.Attribute o "count" apos) [e] [] pos) rI (do let x ← m1; let y ← m2; pure ((x.countP (fun z => z == y) : Nat) : Int)) := fun X Wx ok tk F H g σ s Q hm => by
  refine WE.of (pe_bm PySem.F.plainAttrs_list PySem.F.slot_list_count PySem.F.type_list_count mt_lcountF (pe_W (e := o)) (pa_cons (pe_W (e := e)) pa_nil (hn [] X.env)) (hbase X) (fewArgs1 hn pos) hline (hn [] X.env) rfl) ?_
  refine ho X Wx ok tk F H g σ s _ (m1.mono (fun x hx F1 H1 g1 v f1 s1 r1 => ?_) (fun e he => he) hm)
  obtain ⟨q, vs, ev, hq, t⟩ := r1
  have t2 := All2.txts t
  subst ev t2
  refine ⟨.inl ⟨rfl, _, by rw [ok.K]; exact s1.sF.seq hq⟩, ?_⟩
  refine he X Wx ok tk F1 H1 g1 σ s1 _ (m2.mono (fun y hy F2 H2 g2 w f2 s2 r2 => ?_) (fun e he => XEnd.later f1 he) hx)
  refine ⟨q, x.map V.str, w, rfl, rfl, by rw [ok.K]; exact s2.sF.seq (f2.sF.seq hq), by rw [show w = .str y from r2]; rfl, flat_strs x, ?_⟩
  have ec : (x.map V.str).countP (fun z => eqV z w) = x.countP (fun z => z == y) := by
    rw [show w = .str y from r2, List.countP_map]
    rfl
  rw [ec]
  exact hy F2 H2 g2 _ (f1.trans f2) s2 rfl
/-- xs.index(y) of texts, y among them -/
theorem Ev.indexS {m1 : W (List Str)} {m2 : W Str} (ho : Ev C Γ o (rL C.K rS) m1) (he : Ev C Γ e rS m2) (hn : NoStar e) (hbase : ∀ X : Cx, attributeBase o "index" X.env (eval o X.env) = eval o X.env := by intro _; rfl) (hline : (apos.endLine == pos.line) = true := by rfl) :
    Ev C Γ (.Call (.Attribute o "index" apos) [e] [] pos) rI (do let x ← m1; let y ← m2; W.req (y ∈ x) (pure ((x.idxOf y : Nat) : Int))) := fun X Wx ok tk F H g σ s Q hm => by
  refine WE.of (pe_bm PySem.F.plainAttrs_list PySem.F.slot_list_index PySem.F.type_list_index mt_index (pe_W (e := o)) (pa_cons (pe_W (e := e)) pa_nil (hn [] X.env)) (hbase X) (fewArgs1 hn pos) hline (hn [] X.env) rfl) ?_
  refine ho X Wx ok tk F H g σ s _ (m1.mono (fun x hx F1 H1 g1 v f1 s1 r1 => ?_) (fun e he => he) hm)
  obtain ⟨q, vs, ev, hq, t⟩ := r1
  have t2 := All2.txts t
  subst ev t2
  refine ⟨.inl ⟨rfl, _, by rw [ok.K]; exact s1.sF.seq hq⟩, ?_⟩
  refine he X Wx ok tk F1 H1 g1 σ s1 _ (m2.mono (fun y hy F2 H2 g2 w f2 s2 r2 => ?_) (fun e he => XEnd.later f1 he) hx)
  obtain ⟨hmem, hy⟩ := hy
  have hlt : x.idxOf y < x.length := List.idxOf_lt_length_iff.mpr hmem
  refine ⟨q, x.map V.str, w, x.idxOf y, .str y, rfl, rfl, by rw [ok.K]; exact s2.sF.seq (f2.sF.seq hq), by rw [show w = .str y from r2]; rfl, flat_strs x, ?_, ?_, fun m z' hm' hz => ?_, hy F2 H2 g2 _ (f1.trans f2) s2 rfl⟩
  · rw [List.getElem?_map, List.getElem?_eq_getElem hlt, List.getElem_idxOf hlt]; rfl
  · rw [show w = .str y from r2]; exact beq_self_eq_true y
  · rw [show w = .str y from r2]
    rw [List.getElem?_map, List.getElem?_eq_getElem (by omega)] at hz
    cases hz
    show (x[m] == y) = false
    have := List.not_of_lt_findIdx (p := fun z => z == y) (xs := x) (i := m) hm'
    simpa using this
end
end Y

/-! Y38: how many unlike texts a list has: len(set(xs)) -/
namespace Y
open PySem PySem.Spec
/-- the unlike ones, in the order in which they come -/
def unl1 (σ : List Str) (x : Str) : List Str := if σ.any (· == x) = true then σ else σ ++ [x]
def unl (xs : List Str) : List Str := xs.foldl unl1 []
theorem unl_snoc (xs : List Str) (x : Str) : unl (xs ++ [x]) = unl1 (unl xs) x := by unfold unl; rw [List.foldl_append]; rfl
theorem unl1_any (σ : List Str) (v k : Str) : (unl1 σ v).any (· == k) = (σ.any (· == k) || decide (k = v)) := by
  unfold unl1
  by_cases e : k = v
  · subst e
    by_cases h : σ.any (· == k) = true
    · rw [if_pos h, h]; simp
    · rw [if_neg h, List.any_append]; simp
  · have hb : (v == k) = false := beq_eq_false_iff_ne.mpr fun z => e z.symm
    split
    · simp [e]
    · rw [List.any_append]; simp [hb, e]
theorem unl1_len (σ : List Str) (v : Str) : (unl1 σ v).length = if σ.any (· == v) then σ.length else σ.length + 1 := by unfold unl1; split <;> simp
theorem unl_le : ∀ xs : List Str, (unl xs).length ≤ xs.length := by
  have : ∀ (xs σ : List Str), (xs.foldl unl1 σ).length ≤ σ.length + xs.length := by
    intro xs
    induction xs with
    | nil => intro σ; simp
    | cons x xs ih =>
      intro σ
      have h1 := ih (unl1 σ x)
      have h2 := unl1_len σ x
      rw [List.foldl_cons, List.length_cons]
      split at h2 <;> omega
  exact fun xs => by simpa [unl] using this xs []
theorem take_next {xs : List Str} {i : Nat} (h : i < xs.length) : xs.take (i + 1) = xs.take i ++ [xs.getD i Str.empty] := by
  rw [List.take_add_one, List.getElem?_eq_getElem h, List.getD_eq_getElem?_getD, List.getElem?_eq_getElem h]; rfl
section
open PyProof.Rows
variable {prog : Program} {w : World} {A : Around} {R : Result → Shared → Prop} {I : Addr} {fp wr : List Addr} {G : Array GenState → Array GenState → Prop} {n : Nat} {P : Nat → Value → Prop} {St : Nat → Shared → Prop}
/-- the set S of the first i texts -/
def SetT (prog : Program) (w : World) (h : Heap) (S : Addr) (xs : List Str) : Prop := h.SetOf (PySem.strKind prog w) S (fun k' => (unl xs).any (· == k')) (unl xs).length
theorem SetT.moved {h h' : Heap} {S : Addr} {xs : List Str} (x : SetT prog w h S xs) (k : ∀ o, h.get? S = some o → h'.get? S = some o) : SetT prog w h' S xs := by
  obtain ⟨o, es, ep, t, ho, rest⟩ := x
  exact ⟨o, es, ep, t, k o ho, rest⟩
theorem set_texts (W : WalksS prog w A.in1 I fp wr G n P St) (S : Addr) (hSf : S ∉ fp) (xs : List Str) (hn : xs.length = n) (hb : xs.length + 1 < scanBound) (hval : ∀ i v, P i v → ∃ t, v = .str (xs.getD i Str.empty) t) :
    ∀ (k i : Nat) (s : Shared), n - i = k → i ≤ n → St i s → SetT prog w s.heap S (xs.take i) → (∀ s', Moved (S :: wr) G s s' → SetT prog w s'.heap S xs → R (.ok (.ret .none)) s') → codeAny (model prog w) A (.builtin "set.update.loop" ⟨[.ref S, .ref I], []⟩) R s := by
  have hSw : S ∉ wr := fun h => hSf (W.sub _ h)
  have up : ∀ b ∈ wr, b ∈ S :: wr := fun b hb => List.mem_cons_of_mem _ hb
  intro k
  induction k with
  | zero =>
    intro i s hk hi hst hS hR
    have ei : xs.take i = xs := List.take_of_length_le (by omega)
    have en : i = n := by omega
    subst en
    rw [ei] at hS
    refine codeAny_builtin PyProof.Rows.F.entry_set_update_loop ?_
    rw [Around.under_plainId PyProof.Rows.F.plain_set_update_loop _]
    exact wpAny_bind (W.done s _ _ hst fun s' hm => wpAny_pure (hR s' (hm.mono up) (hS.moved fun o e => hm.heap S o hSw e)))
  | succ k ih =>
    intro i s hk hi hst hS hR
    have hlt : i < n := by omega
    refine codeAny_builtin PyProof.Rows.F.entry_set_update_loop ?_
    rw [Around.under_plainId PyProof.Rows.F.plain_set_update_loop _]
    refine wpAny_bind (W.item i s _ _ hlt hst fun v s' hP hst' hm => ?_)
    obtain ⟨t, rfl⟩ := hval i v hP
    have hS' := hS.moved (h' := s'.heap) fun o e => hm.heap S o hSw e
    have hle := unl_le (xs.take i)
    rw [List.length_take] at hle
    show wpAny _ A.in1 (holding [Value.str (xs.getD i Str.empty) t] (setAdd S (.str (xs.getD i Str.empty) t)) >>= _) _ _ s'
    refine wpAny_bind (wpAny_holding ?_)
    unfold setAdd
    refine wpAny_holding (wpAny_bind ((PySem.strKind prog w).pyHash (k := xs.getD i Str.empty) (strKind_is _ _ _ _) ?_))
    refine wpAny_setAddHashed_of (knd := PySem.strKind prog w) (s := { s' with toks := s'.toks + 1 }) (strKind_is _ _ _ _) rfl hS' (by omega) fun h' hsb hS2 => ?_
    have hSi : SetT prog w h' S (xs.take (i + 1)) := by
      unfold SetT
      rw [take_next (by omega), unl_snoc]
      exact SetOf_congr hS2 (fun k' => (unl1_any _ _ _).symm) (unl1_len _ _).symm
    refine wpAny_pure ⟨plainId_quiet PyProof.Rows.F.plain_set_update_loop _, ih (i + 1) _ (by omega) hlt (W.frame _ s' _ _ hst' (Nat.le_succ _) fun b hb o e => ?_) hSi fun s'' hm'' hS'' => hR s'' (Moved.trans W.gtrans ((hm.mono up).then_heap (Nat.le_succ _) fun b o hb e => ?_) hm'') hS''⟩
    · rw [hsb.2 b (fun h : b = S => hSf (by rw [← h]; exact hb))]; exact e
    · rw [hsb.2 b (fun h : b = S => hb (by rw [h]; exact List.mem_cons_self))]; exact e
end
section
open PyProof.Rows
variable {prog : Program} {w : World} {A : Around} {E : Value → Shared → Prop} {s : Shared}
theorem texts_at : ∀ {us : List Value} {xs : List Str}, StrsAre us xs → ∀ (i : Nat) (v : Value), us[i]? = some v → ∃ t, v = .str (xs.getD i Str.empty) t
  | _, _, .nil, i, v, h => by cases h
  | _, _, .cons n t hr, 0, v, h => ⟨t, (Option.some.inj h).symm⟩
  | _, _, .cons n t hr, i + 1, v, h => texts_at hr i v h
/-- a new set, without anything in it -/
def set0 (led : Bool) : Obj := { cls := .type "set", dict := none, data := .set #[] 0 (.fresh 0 0 led) }
set_option maxHeartbeats 3200000 in
theorem call_set_texts {l : Addr} {items : Array Value} {xs : List Str} {Q : Value → Shared → Prop} (hh : A.handled = none) (hl : s.heap.IsList l items) (hi : StrsAre items.toList xs) (hb : xs.length + 1 < scanBound)
    (h : ∀ (h' : Heap) (tk : Nat), SetT prog w h' s.heap.objs.size xs → (∀ b o, b < s.heap.objs.size → s.heap.get? b = some o → h'.get? b = some o) → Q (.ref s.heap.objs.size) { s with heap := h', toks := tk }) :
    wpAny (model prog w) A (call (.type "set") [.ref l]) Q E s := by
  obtain ⟨c, tl, hmro⟩ := PySem.F.called_set.mro
  have hmade := PySem.F.called_set.made
  have hsub := PySem.F.called_set.sub
  refine wpAny_call (codeAny_of_tree ?_)
  show wpAny _ _ (callAny (.type "set") _) _ _ _
  refine wpAny_pure ⟨Code.quiet_builtin _ (by decide +kernel), codeAny_builtin PySem.F.entry_type_call ?_⟩
  rw [Around.under_plain (weight_type_call_type "set" [.ref l] []) rfl]
  have h1 := PySem.F.called_set.notType
  have h2 := PySem.F.called_set.canCreate
  have hct := PySem.F.typeCall_set_1 (.ref l)
  repeat (any_goals (first | assumption | wp_step))
  refine codeAny_mono (code_set_new_1 (.ref l) (E := E) (Q₁ := fun obj s₁ => ∃ led : Bool, obj = .ref s.heap.objs.size ∧ s₁ = { s with heap := s.heap.push (set0 led) }) fun led => ⟨led, rfl, rfl⟩) fun r s₁ hr => ?_
  cases r with
  | error e => exact hr
  | ok fl =>
    cases fl with
    | ret obj =>
      obtain ⟨led, rfl, rfl⟩ := hr
      have hS : (s.heap.push (set0 led)).get? s.heap.objs.size = some (set0 led) := Heap.get?_push_size _ rfl
      have hT : Shared.TypeIs { s with heap := s.heap.push (set0 led) } (.ref s.heap.objs.size) "set" := ⟨_, hS, rfl⟩
      have hli := PySem.F.called_set.init.lookup
      have hbi := PySem.F.called_set.init.bind (.ref s.heap.objs.size)
      repeat (any_goals (first | assumption | wp_step))
      refine codeAny_mono (codeAny_call_builtin (R := wants (fun r s₂ => r = .none ∧ ∃ h' tk, s₂ = { s with heap := h', toks := tk } ∧ SetT prog w h' s.heap.objs.size xs ∧ (∀ b o, b < s.heap.objs.size → s.heap.get? b = some o → h'.get? b = some o)) E) PySem.F.called_set.init.plain PySem.F.entry_set_init (check_set_init_1 hT ?_)) fun r₂ s₂ hr₂ => ?_
      · obtain ⟨ol, hol, hcl, nl, hdl⟩ := hl
        obtain ⟨ocls, odict, odata, oslots⟩ := ol
        simp only at hcl hdl
        subst hcl; subst hdl
        have hol' : (s.heap.push (set0 led)).get? l = some { cls := .type "list", dict := odict, data := .seq items nl, slots := oslots } := Heap.get?_push_of_some _ hol
        have hsls := PySem.F.sub_list_set
        have hslf := PySem.F.sub_list_frozenset
        have hne : (Value.type "list" == Value.type "dict") = false := by decide
        have hl1 : (s.heap.push (set0 led)).IsList l items := ⟨_, hol', rfl, nl, rfl⟩
        unfold Builtin.«set.__init__» noKeywords Builtin.Frozenset.updateFrom
        generalize hPI : pyIter = PI
        wp_walk
        subst hPI
        refine wpAny_pyIter_list hl1 (wpAny_bind (wpAny_runValue ?_))
        have hlS : l < s.heap.objs.size := Heap.lt_size hol
        have hsz : (s.heap.push (set0 led)).objs.size = s.heap.objs.size + 1 := Heap.size_push ..
        have hn : xs.length = items.size := by rw [← StrsAre.len_eq hi, Array.length_toList]
        refine set_texts ((Walks.list (by simp [hh]) _ l (by rw [hsz]; exact Nat.ne_of_lt (Nat.lt_succ_of_lt hlS)) items).toS) s.heap.objs.size (by
            rw [hsz]; simp only [List.mem_cons, List.not_mem_nil, or_false, not_or]; exact ⟨Nat.ne_of_lt (Nat.lt_succ_self _), Nat.ne_of_gt hlS⟩) xs hn hb (fun i v hv => texts_at hi i v (by rw [Array.getElem?_toList]; exact hv)) (items.size - 0) 0 _ (by omega) (Nat.zero_le _) ⟨⟨_, Heap.get?_push_size _ rfl, rfl, rfl⟩, (hl1.push _)⟩ ?hS0 ?hR
        case hS0 => exact SetOf_congr ((setObjOf_fresh (knd := PySem.strKind prog w) led).setOf (Heap.get?_push_of_some _ hS) (by unfold scanBound; omega)) (fun _ => rfl) rfl
        case hR =>
          intro s' hm hS'
          obtain ⟨h', g', d', tk', os'⟩ := s'
          have eg : g' = s.gens := hm.gens
          have ed : d' = s.drawn := hm.drawn
          have eo : os' = s.os := hm.os
          subst eg; subst ed; subst eo
          show wpAny _ _ _ _ _ _
          refine wpAny_pure ?_
          show wpAny _ _ (ret Value.none) _ _ _
          refine wpAny_pure ⟨rfl, h', tk', rfl, hS', fun b o hb e => hm.heap b o ?_ (Heap.get?_push_of_some _ (Heap.get?_push_of_some _ e))⟩
          simp only [List.mem_cons, List.not_mem_nil, or_false, not_or]
          exact ⟨Nat.ne_of_lt hb, by rw [hsz]; exact Nat.ne_of_lt (Nat.lt_succ_of_lt hb)⟩
      · cases r₂ with
        | error e => exact hr₂
        | ok fl₂ =>
          cases fl₂ with
          | ret r =>
            obtain ⟨rfl, h', tk, rfl, hS', hk'⟩ := hr₂
            repeat (any_goals (first | assumption | wp_step))
            exact h _ _ hS' hk'
          | _ => exact hr₂.elim
    | _ => exact hr.elim
end
section
open PyProof.Rows L2
def tLenSetT (K : PySem.W.Frag) (ta : TE) : TE := fun σ H Q => ta σ H fun x H1 => ∃ l, ∃ xs : List Str, x = .ref l ∧ SqL K H1 l (xs.map V.str) ∧ xs.length + 1 < scanBound ∧ Q (.int (unl xs).length) H1
theorem strsAre_vals : ∀ {ys : List Str} {us : List Value}, Vals (ys.map V.str) us → StrsAre us ys
  | [], _, .nil => .nil
  | y :: ys, _, .cons r t => by
    obtain ⟨k, rfl⟩ := r
    exact .cons y k (strsAre_vals t)
variable {X : Cx}
theorem pe_lenSetT {a : Expr} {ta : TE} {p p2 q pos : Pos} (hc : X.calm = true) (hg : Gl X "len") (hm : X.mg "len" = none) (hg2 : Gl X "set") (hm2 : X.mg "set" = none) (ha : PE X a ta)
    (na : starEach [a] X.env = (false, eval a X.env) :: starEach [] X.env := by rfl) : PE X (.Call (.Name "len" p) [.Call (.Name "set" p2) [a] [] q] [] pos) (tLenSetT X.K ta) := by
  refine ⟨fun pins s σ H Q I h => ?_⟩
  refine Call_ (ld_blt I hg hm boot_len ?_)
  refine callWith_builtin1 (args_cons ?_ rfl) rfl rfl
  refine Call_ (ld_blt I hg2 hm2 boot_set ?_)
  refine callWith_type1 (args_cons (thn (ha.run pins s σ H _ I h) fun v s1 ⟨x, H1, I1, r1, q1⟩ => args_nil ?_) na) na rfl
  obtain ⟨l, xs, rfl, hq, h1, q1⟩ := q1
  cases r1
  obtain ⟨its, r, pl, hz⟩ := I1.list hq
  refine call_set_texts (I1.ok.hd hc) pl.isList (by simpa using strsAre_vals r) h1 fun h' tk hS hk => args_nil ?_
  obtain ⟨o, es, ep, t, ho, hex, hd, _, _, _, hf, hn⟩ := hS
  have I2 : Inv X pins σ H1 { s1 with heap := h', toks := tk } := I1.kept fun b o e => hk b o (Heap.lt_size e) e
  have hle := unl_le xs
  exact call_len_set ho hex hd hf (by rw [hn]; unfold scanBound at h1; omega) ⟨.int (unl xs).length, H1, I2.tok _, ⟨_, by rw [hn]⟩, q1⟩
end
section
open L2
variable {C : Cc} {Γ : List Slot} {e : Expr} {p p2 q pos : Pos}
/-- len(set(xs)) of texts -/
theorem Ev.lenSet {m : W (List Str)} (hb : Blt C "len" (.builtin "len")) (hb2 : Blt C "set" (.type "set")) (ha : Ev C Γ e (rL C.K rS) m) (hn : NoStar e) (hcm : C.cm = true := by rfl) : Ev C Γ (.Call (.Name "len" p) [.Call (.Name "set" p2) [e] [] q] [] pos) rI (do let x ← m; W.req (x.length ≤ 1000) (pure ((unl x).length : Int))) :=
  fun X Wx ok tk F H g σ s Q hm => by
    refine WE.of (pe_lenSetT (ok.calm.trans hcm) (hb.gl ok) (by rw [ok.mg]; exact hb.m) (hb2.gl ok) (by rw [ok.mg]; exact hb2.m) (pe_W (e := e)) (hn [] X.env)) ?_
    refine ha X Wx ok tk F H g σ s _ (m.mono (fun x hx F1 H1 g1 v f1 s1 r1 => ?_) (fun e he => he) hm)
    obtain ⟨hx1, hx⟩ := hx
    obtain ⟨a, vs, ev, hq, t⟩ := r1
    have t2 := All2.txts t
    subst t2
    exact ⟨a, x, ev, by rw [ok.K]; exact s1.sF.seq hq, by unfold PySem.scanBound; omega, hx F1 H1 g1 _ f1 s1 rfl⟩
theorem bt_set (g : C.sc.names.lookup ("set" : Str) = some .globalImplicit) (m : C.mg "set" = none) : Blt C "set" (.type "set") := ⟨g, m, by decide +kernel, by decide, by decide⟩
/-- x.upper() -/
theorem Ev.upper {o : Expr} {apos : Pos} {m1 : W Str} (ho : Ev C Γ o rS m1) (hbase : ∀ X : Cx, attributeBase o "upper" X.env (eval o X.env) = eval o X.env := by intro _; rfl) (hline : (apos.endLine == pos.line) = true := by rfl) :
    Ev C Γ (.Call (.Attribute o "upper" apos) [] [] pos) rS (do let x ← m1; W.req (x.length ≤ 1000000) (pure (Txt.upper x))) := fun X Wx ok tk F H g σ s Q hm => by
  refine WE.of (pe_upper (pe_W (e := o)) (hbase X) hline) ?_
  refine ho X Wx ok tk F H g σ s _ (m1.mono (fun x hx F1 H1 g1 v f1 s1 r1 => ?_) (fun e he => he) hm)
  exact ⟨⟨x, r1⟩, x, r1, rfl, by have := hx.1; omega, hx.2 F1 H1 g1 _ f1 s1 rfl⟩
end
end Y

/-! Y39: t[1:] of a tuple of three -/
namespace Y
open PySem PySem.Spec L2
section
variable {C : Cc} {Γ Γ' : List Slot} {a : Expr} {p2 pos : Pos}
theorem sl3_1 {α1 α2 α3 : Type} {r1 : α1 → Rp} {r2 : α2 → Rp} {r3 : α3 → Rp} {ma : W (α1 × α2 × α3)} {kj : Nat} {p3 : Pos} (ha : Ev C Γ a (rT3 C.K r1 r2 r3) ma) :
    Ev C Γ (.Subscript a (.Slice (some (.Constant (.int 1) kj p3)) none none p2) pos) (rX2 C.fr r2 r3) (do let x ← ma; pure x.2) :=
  fun X Wx ok tk F H g σ s Q hm => by
    have hl : EvP C Γ (some (.Constant (.int 1) kj p3)) (do let x ← (pure (1 : Int)); pure (some x)) := EvP.some Ev.int
    have hh : EvP C Γ none (pure none) := EvP.none
    refine WE.of (pe_slice sl_tup (pe_W (e := a)) (po_W (e := some (.Constant (.int 1) kj p3))) (po_W (e := none))) ?_
    refine ha X Wx ok tk F H g σ s _ (ma.mono (fun x hx F1 H1 g1 v f1 s1 r1' => ?_) (fun e he => he) hm)
    obtain ⟨tl, pl, hl'⟩ := hl X Wx ok tk F1 H1 g1 σ s1
    refine ⟨tl, pl, hl' _ ?_⟩
    show ∀ (F2 H2 : Hp) (g2 : Nat → Hp), _
    intro F2 H2 g2 f2 s2
    obtain ⟨th, ph, hh'⟩ := hh X Wx ok tk F2 H2 g2 σ s2
    refine ⟨th, ph, hh' _ ?_⟩
    show ∀ (F3 H3 : Hp) (g3 : Nat → Hp), _
    intro F3 H3 g3 f3 s3
    obtain ⟨q, v1, v2, v3, ev, hq, t1, t2, t3⟩ := (rT3 C.K r1 r2 r3 x).mono (f2.sF.trans f3.sF) r1'
    refine ⟨q, [v1, v2, v3], ev, by rw [ok.K]; exact Same.seqT s3.sF hq, fun z => absurd (show (1 : Nat) = 0 from z.1) (by decide), fun pn hn => ?_⟩
    obtain ⟨s4, f4⟩ := s3.grow1 (o := .tup [v2, v3]) hn
    have sm : Same F3 (upd F3 pn (.tup [v2, v3])) := f4.sF
    exact (show ∀ (F' H' : Hp) (g' : Nat → Hp) (v : V), _ from hx) (upd F3 pn (.tup [v2, v3])) (upd H3 pn (.tup [v2, v3])) g3 (.ref pn) (f1.trans (f2.trans (f3.trans f4))) s4 ⟨pn, v2, v3, rfl, s3.fr pn hn, upd_same, (r2 x.2.1).mono sm t2, (r3 x.2.2).mono sm t3⟩
end
end Y

/-! Y40: range of three; a text times a number -/
namespace Y
open PySem PySem.Spec L2
/-- lo, lo + c, .. : n of them -/
def rngC (lo c : Int) (n : Nat) : List Int := (List.range n).map fun (i : Nat) => lo + (i : Int) * c
theorem rngC_length (lo c : Int) (n : Nat) : (rngC lo c n).length = n := by simp [rngC]
theorem rngC_get {lo c : Int} {n i : Nat} {x : Int} (h : (rngC lo c n)[i]? = some x) : x = lo + (i : Int) * c ∧ i < n := by
  unfold rngC at h
  rw [List.getElem?_map] at h
  cases q : (List.range n)[i]? with
  | none => rw [q] at h; cases h
  | some j =>
    rw [q] at h
    obtain ⟨h1, h2⟩ := List.getElem?_eq_some_iff.mp q
    rw [List.getElem_range] at h2
    subst h2
    rw [List.length_range] at h1
    exact ⟨(Option.some.inj h).symm, h1⟩
theorem itRangeC {lo c : Int} {n : Nat} {F : Hp} (hl : n ≤ 1000000) : ItOk (Itc lo c n) rI (rngC lo c n) F where
  len := by rw [rngC_length, PySem.sizeLine_eq]; omega
  go := fun i F' H f s h => by rw [rngC_length] at h; exact h
  yld := fun i x F' H v H' f s h y => by
    obtain ⟨e, y⟩ := y
    refine ⟨emp, fun a o z => (by cases z), by rw [uni_emp]; exact e, ?_⟩
    rw [(rngC_get h).1]
    exact y
  stop := fun i F' H f s h => by rw [rngC_length] at h; exact h
/-- range(0, hi, c) for c from 1 on -/
def range3W (lo hi c : Int) : W (List Int) := W.req (lo = 0 ∧ 0 ≤ hi ∧ hi ≤ 1000000 ∧ 1 ≤ c ∧ c ≤ 1000000) (pure (rngC 0 c ((hi + c - 1) / c).toNat))
theorem rgC_pos {hi c : Int} (h1 : 0 ≤ hi) (h2 : hi ≤ 1000000) (h3 : 1 ≤ c) (h4 : c ≤ 1000000) : RgC 0 hi c ((hi + c - 1) / c).toNat ∧ ((hi + c - 1) / c).toNat ≤ 1000000 := by
  have e := PyProof.Rows.rangeSize_pos (len := hi) (c := c) h3 h1
  have h5 : 0 ≤ (hi + c - 1) / c := Int.ediv_nonneg (by omega) (by omega)
  have h6 : (hi + c - 1) / c ≤ hi := by
    have : (hi + c - 1) / c < hi + 1 := Int.ediv_lt_of_lt_mul (by omega) (by
      have h7 : (hi + 1) * 1 ≤ (hi + 1) * c := Int.mul_le_mul_of_nonneg_left h3 (by omega)
      have h8 : (hi + 1) * c = hi * c + c := by rw [Int.add_mul, Int.one_mul]
      have h9 : hi * 1 ≤ hi * c := Int.mul_le_mul_of_nonneg_left h3 h1
      omega)
    omega
  refine ⟨⟨by omega, by omega, ?_, by rw [e, Int.toNat_of_nonneg h5]⟩, by omega⟩
  unfold Builtin.Range.small
  simp only [e]
  have q1 : -(2 ^ 62 : Int) ≤ 0 := by decide
  have fl : ∀ x : Int, -10000000 ≤ x → x ≤ 10000000 → Builtin.Range.rangeFitsLong x = true := fun x a b => by
    unfold Builtin.Range.rangeFitsLong
    simp
    omega
  simp only [fl 0 (by omega) (by omega), fl hi (by omega) (by omega), fl c (by omega) (by omega), fl ((hi + c - 1) / c) (by omega) (by omega), fl (hi + (c - 1)) (by omega) (by omega), if_pos (show c > 0 by omega)]
  simp
section
variable {C : Cc} {Γ : List Slot} {e1 e2 e3 a b tg : Expr} {p pos : Pos}
theorem EvI.range3 {m1 m2 m3 : W Int} (hb : Blt C "range" (.type "range")) (h1 : Ev C Γ e1 rI m1) (h2 : Ev C Γ e2 rI m2) (h3 : Ev C Γ e3 rI m3) (n1 : NoStar e1) (n2 : NoStar e2) (n3 : NoStar e3) : EvI C Γ tg (.Call (.Name "range" p) [e1, e2, e3] [] pos) rI (do let a ← m1; let b ← m2; let c ← m3; range3W a b c) :=
  fun X Wx ok tk F H g σ s R hm => by
    refine WI.of (pi_range3 (hb.gl ok) (by rw [ok.mg]; exact hb.m) (pa_cons (pe_W (e := e1)) (pa_cons (pe_W (e := e2)) (pa_cons (pe_W (e := e3)) pa_nil (n3 [] X.env)) (n2 [e3] X.env)) (n1 [e2, e3] X.env)) (n1 [e2, e3] X.env) (by rw [n2 [e3] X.env, n3 [] X.env]; rfl)) ?_
    refine h1 X Wx ok tk F H g σ s _ (m1.mono (fun a ha F1 H1 g1 v f1 s1 r1 => ?_) (fun e he => he) hm)
    refine h2 X Wx ok tk F1 H1 g1 σ s1 _ (m2.mono (fun b hb F2 H2 g2 w f2 s2 r2 => ?_) (fun e he => XEnd.later f1 he) ha)
    refine h3 X Wx ok tk F2 H2 g2 σ s2 _ (m3.mono (fun c hc F3 H3 g3 z f3 s3 r3 => ?_) (fun e he => XEnd.later (f1.trans f2) he) hb)
    obtain ⟨⟨q0, q1, q2, q3, q4⟩, hx⟩ := hc
    obtain ⟨q5, q6⟩ := rgC_pos q1 q2 q3 q4
    refine ⟨a, b, c, ((b + c - 1) / c).toNat, by rw [show v = V.int a from r1, show w = V.int b from r2, show z = V.int c from r3], by rw [q0]; exact q5, ?_⟩
    rw [q0]
    exact hx F3 H3 g3 _ (f1.trans (f2.trans f3)) s3 (itRangeC q6)
/-- a text, some times -/
def repT (x : Str) (n : Int) : Str := ⟨(List.replicate n.toNat x.cps).foldl (· ++ ·) #[]⟩
theorem rep_fold (a : Array Nat) : ∀ (n : Nat) (acc : Array Nat), ((List.replicate n a).foldl (· ++ ·) acc).toList = acc.toList ++ (List.replicate n a.toList).flatten
  | 0, acc => by simp
  | n + 1, acc => by
    rw [List.replicate_succ, List.foldl_cons, rep_fold a n (acc ++ a), List.replicate_succ, List.flatten_cons, Array.toList_append, List.append_assoc]
theorem repT_tl (x : Str) (n : Int) : (repT x n).cps.toList = (List.replicate n.toNat x.cps.toList).flatten := by
  unfold repT
  rw [rep_fold]
  simp
theorem repT_len (x : Str) (n : Int) : (repT x n).length = n.toNat * x.length := by
  have h := congrArg List.length (repT_tl x n)
  rw [List.length_flatten, List.map_replicate] at h
  have e : ∀ (n k : Nat), (List.replicate n k).sum = n * k := fun n k => by
    induction n with
    | zero => simp
    | succ n ih => rw [List.replicate_succ, List.sum_cons, ih, Nat.succ_mul]; omega
  rw [e] at h
  simpa [Str.length] using h
theorem op_mulS {X : Cx} : OpR X (binaryOp .Mult) (fun x y H Q => ∃ i n, x = .str i ∧ y = .int n ∧ 2 ≤ n ∧ n ≤ 1000 ∧ 1 ≤ i.length ∧ i.length ≤ 1000 ∧ Q (.str (repT i n)) H) := by
  intro pins s σ H x y v u Q I rx ry h
  obtain ⟨i, n, rfl, rfl, h1, h2, h3, h4, q⟩ := h
  obtain ⟨t, rfl⟩ := rx
  obtain ⟨t', rfl⟩ := ry
  have hb : i.length * n.toNat ≤ 1000 * 1000 := Nat.mul_le_mul h4 (by omega)
  have hl : Builtin.Str.tooLong (i.length * n.toNat) = false := by unfold Builtin.Str.tooLong; rw [PySem.sizeLine_eq]; exact decide_eq_false (by omega)
  refine P.mul_str (by rw [decide_eq_false (by omega), decide_eq_false (by omega)]; rfl) (fun _ _ => ?_) (fun _ _ => hl) ?_
  · have : (2 ^ 63 - 1 : Int) / n ≥ (2 ^ 63 - 1 : Int) / 1000 := by
      refine Int.le_ediv_of_mul_le (by omega) ?_
      have : (2 ^ 63 - 1 : Int) / 1000 * n ≤ (2 ^ 63 - 1 : Int) / 1000 * 1000 := Int.mul_le_mul_of_nonneg_left h2 (by decide)
      have h5 : (2 ^ 63 - 1 : Int) / 1000 * 1000 ≤ 2 ^ 63 - 1 := by decide
      omega
    have h6 : (2 ^ 63 - 1 : Int) / 1000 ≥ 1000 := by decide
    omega
  · rw [if_neg (by omega), if_neg (by simp; omega)]
    refine ⟨?_, ⟨.str (repT i n), H, I.tok _, ⟨_, rfl⟩, q⟩⟩
    show (repT i n).length ≤ _
    rw [repT_len, PySem.sizeLine_eq, Nat.mul_comm]
    omega
def repS (x : Str) (n : Int) : W Str := W.req (2 ≤ n ∧ n ≤ 1000 ∧ 1 ≤ x.length ∧ x.length ≤ 1000) (pure (repT x n))
theorem Ev.rep {ma : W Str} {mb : W Int} (ha : Ev C Γ a rS ma) (hb : Ev C Γ b rI mb) : Ev C Γ (.BinOp a .Mult b pos) rS (do let x ← ma; let y ← mb; repS x y) :=
  Ev.bin _ (fun X _ => ⟨_, op_mulS, fun x y H v w Q E hv hw hk _ => ⟨x, y, hv, hw, hk.1.1, hk.1.2.1, hk.1.2.2.1, hk.1.2.2.2, hk.2 (fun _ => Option.none) _ rfl⟩⟩) (fun x y P E E' h => ⟨h.1, h.2⟩) (fun c F u h F' => h) ha hb
end
/-! ### tuples are no texts -/
instance {K : PySem.W.Frag} {α β : Type} {r1 : α → Rp} {r2 : β → Rp} [I : DatE K r1] [J : DatE K r2] : NoS (K := K) (rT2 K r1 r2) := ⟨fun _ _ => rfl, fun _ _ => rfl⟩
instance {K : PySem.W.Frag} {α β γ : Type} {r1 : α → Rp} {r2 : β → Rp} {r3 : γ → Rp} [I : DatE K r1] [J : DatE K r2] [L : DatE K r3] : NoS (K := K) (rT3 K r1 r2 r3) := ⟨fun _ _ => rfl, fun _ _ => rfl⟩
/-! ### lists of many parts -/
section
variable {C : Cc} {Γ : List Slot} {pos : Pos} {α : Type} {r : α → Rp}
theorem EvO.listP6 {e1 e2 e3 e4 e5 e6 : Expr} {x1 x2 x3 x4 x5 x6 : α} (h1 : Ev C Γ e1 r (pure x1)) (h2 : Ev C Γ e2 r (pure x2)) (h3 : Ev C Γ e3 r (pure x3)) (h4 : Ev C Γ e4 r (pure x4)) (h5 : Ev C Γ e5 r (pure x5)) (h6 : Ev C Γ e6 r (pure x6)) (n1 : NoStar e1) (n2 : NoStar e2) (n3 : NoStar e3) (n4 : NoStar e4) (n5 : NoStar e5) (n6 : NoStar e6) : EvO C Γ (.List [e1, e2, e3, e4, e5, e6] pos) (oL C.fr r) (pure [x1, x2, x3, x4, x5, x6]) :=
  EvO.written (xs := [x1, x2, x3, x4, x5, x6]) (EvA.wCons h1 (EvA.wCons h2 (EvA.wCons h3 (EvA.wCons h4 (EvA.wCons h5 (EvA.wCons h6 EvA.nil n6) n5) n4) n3) n2) n1) (by simp)
theorem EvO.listP7 {e1 e2 e3 e4 e5 e6 e7 : Expr} {x1 x2 x3 x4 x5 x6 x7 : α} (h1 : Ev C Γ e1 r (pure x1)) (h2 : Ev C Γ e2 r (pure x2)) (h3 : Ev C Γ e3 r (pure x3)) (h4 : Ev C Γ e4 r (pure x4)) (h5 : Ev C Γ e5 r (pure x5)) (h6 : Ev C Γ e6 r (pure x6)) (h7 : Ev C Γ e7 r (pure x7)) (n1 : NoStar e1) (n2 : NoStar e2) (n3 : NoStar e3) (n4 : NoStar e4) (n5 : NoStar e5) (n6 : NoStar e6) (n7 : NoStar e7) : EvO C Γ (.List [e1, e2, e3, e4, e5, e6, e7] pos) (oL C.fr r) (pure [x1, x2, x3, x4, x5, x6, x7]) :=
  EvO.written (xs := [x1, x2, x3, x4, x5, x6, x7]) (EvA.wCons h1 (EvA.wCons h2 (EvA.wCons h3 (EvA.wCons h4 (EvA.wCons h5 (EvA.wCons h6 (EvA.wCons h7 EvA.nil n7) n6) n5) n4) n3) n2) n1) (by simp)
theorem EvO.listP8 {e1 e2 e3 e4 e5 e6 e7 e8 : Expr} {x1 x2 x3 x4 x5 x6 x7 x8 : α} (h1 : Ev C Γ e1 r (pure x1)) (h2 : Ev C Γ e2 r (pure x2)) (h3 : Ev C Γ e3 r (pure x3)) (h4 : Ev C Γ e4 r (pure x4)) (h5 : Ev C Γ e5 r (pure x5)) (h6 : Ev C Γ e6 r (pure x6)) (h7 : Ev C Γ e7 r (pure x7)) (h8 : Ev C Γ e8 r (pure x8)) (n1 : NoStar e1) (n2 : NoStar e2) (n3 : NoStar e3) (n4 : NoStar e4) (n5 : NoStar e5) (n6 : NoStar e6) (n7 : NoStar e7) (n8 : NoStar e8) : EvO C Γ (.List [e1, e2, e3, e4, e5, e6, e7, e8] pos) (oL C.fr r) (pure [x1, x2, x3, x4, x5, x6, x7, x8]) :=
  EvO.written (xs := [x1, x2, x3, x4, x5, x6, x7, x8]) (EvA.wCons h1 (EvA.wCons h2 (EvA.wCons h3 (EvA.wCons h4 (EvA.wCons h5 (EvA.wCons h6 (EvA.wCons h7 (EvA.wCons h8 EvA.nil n8) n7) n6) n5) n4) n3) n2) n1) (by simp)
theorem EvO.listP9 {e1 e2 e3 e4 e5 e6 e7 e8 e9 : Expr} {x1 x2 x3 x4 x5 x6 x7 x8 x9 : α} (h1 : Ev C Γ e1 r (pure x1)) (h2 : Ev C Γ e2 r (pure x2)) (h3 : Ev C Γ e3 r (pure x3)) (h4 : Ev C Γ e4 r (pure x4)) (h5 : Ev C Γ e5 r (pure x5)) (h6 : Ev C Γ e6 r (pure x6)) (h7 : Ev C Γ e7 r (pure x7)) (h8 : Ev C Γ e8 r (pure x8)) (h9 : Ev C Γ e9 r (pure x9)) (n1 : NoStar e1) (n2 : NoStar e2) (n3 : NoStar e3) (n4 : NoStar e4) (n5 : NoStar e5) (n6 : NoStar e6) (n7 : NoStar e7) (n8 : NoStar e8) (n9 : NoStar e9) : EvO C Γ (.List [e1, e2, e3, e4, e5, e6, e7, e8, e9] pos) (oL C.fr r) (pure [x1, x2, x3, x4, x5, x6, x7, x8, x9]) :=
  EvO.written (xs := [x1, x2, x3, x4, x5, x6, x7, x8, x9]) (EvA.wCons h1 (EvA.wCons h2 (EvA.wCons h3 (EvA.wCons h4 (EvA.wCons h5 (EvA.wCons h6 (EvA.wCons h7 (EvA.wCons h8 (EvA.wCons h9 EvA.nil n9) n8) n7) n6) n5) n4) n3) n2) n1) (by simp)
theorem EvO.listP10 {e1 e2 e3 e4 e5 e6 e7 e8 e9 e10 : Expr} {x1 x2 x3 x4 x5 x6 x7 x8 x9 x10 : α} (h1 : Ev C Γ e1 r (pure x1)) (h2 : Ev C Γ e2 r (pure x2)) (h3 : Ev C Γ e3 r (pure x3)) (h4 : Ev C Γ e4 r (pure x4)) (h5 : Ev C Γ e5 r (pure x5)) (h6 : Ev C Γ e6 r (pure x6)) (h7 : Ev C Γ e7 r (pure x7)) (h8 : Ev C Γ e8 r (pure x8)) (h9 : Ev C Γ e9 r (pure x9)) (h10 : Ev C Γ e10 r (pure x10)) (n1 : NoStar e1) (n2 : NoStar e2) (n3 : NoStar e3) (n4 : NoStar e4) (n5 : NoStar e5) (n6 : NoStar e6) (n7 : NoStar e7) (n8 : NoStar e8) (n9 : NoStar e9) (n10 : NoStar e10) : EvO C Γ (.List [e1, e2, e3, e4, e5, e6, e7, e8, e9, e10] pos) (oL C.fr r) (pure [x1, x2, x3, x4, x5, x6, x7, x8, x9, x10]) :=
  EvO.written (xs := [x1, x2, x3, x4, x5, x6, x7, x8, x9, x10]) (EvA.wCons h1 (EvA.wCons h2 (EvA.wCons h3 (EvA.wCons h4 (EvA.wCons h5 (EvA.wCons h6 (EvA.wCons h7 (EvA.wCons h8 (EvA.wCons h9 (EvA.wCons h10 EvA.nil n10) n9) n8) n7) n6) n5) n4) n3) n2) n1) (by simp)
theorem EvO.listP11 {e1 e2 e3 e4 e5 e6 e7 e8 e9 e10 e11 : Expr} {x1 x2 x3 x4 x5 x6 x7 x8 x9 x10 x11 : α} (h1 : Ev C Γ e1 r (pure x1)) (h2 : Ev C Γ e2 r (pure x2)) (h3 : Ev C Γ e3 r (pure x3)) (h4 : Ev C Γ e4 r (pure x4)) (h5 : Ev C Γ e5 r (pure x5)) (h6 : Ev C Γ e6 r (pure x6)) (h7 : Ev C Γ e7 r (pure x7)) (h8 : Ev C Γ e8 r (pure x8)) (h9 : Ev C Γ e9 r (pure x9)) (h10 : Ev C Γ e10 r (pure x10)) (h11 : Ev C Γ e11 r (pure x11)) (n1 : NoStar e1) (n2 : NoStar e2) (n3 : NoStar e3) (n4 : NoStar e4) (n5 : NoStar e5) (n6 : NoStar e6) (n7 : NoStar e7) (n8 : NoStar e8) (n9 : NoStar e9) (n10 : NoStar e10) (n11 : NoStar e11) : EvO C Γ (.List [e1, e2, e3, e4, e5, e6, e7, e8, e9, e10, e11] pos) (oL C.fr r) (pure [x1, x2, x3, x4, x5, x6, x7, x8, x9, x10, x11]) :=
  EvO.written (xs := [x1, x2, x3, x4, x5, x6, x7, x8, x9, x10, x11]) (EvA.wCons h1 (EvA.wCons h2 (EvA.wCons h3 (EvA.wCons h4 (EvA.wCons h5 (EvA.wCons h6 (EvA.wCons h7 (EvA.wCons h8 (EvA.wCons h9 (EvA.wCons h10 (EvA.wCons h11 EvA.nil n11) n10) n9) n8) n7) n6) n5) n4) n3) n2) n1) (by simp)
theorem EvO.listP12 {e1 e2 e3 e4 e5 e6 e7 e8 e9 e10 e11 e12 : Expr} {x1 x2 x3 x4 x5 x6 x7 x8 x9 x10 x11 x12 : α} (h1 : Ev C Γ e1 r (pure x1)) (h2 : Ev C Γ e2 r (pure x2)) (h3 : Ev C Γ e3 r (pure x3)) (h4 : Ev C Γ e4 r (pure x4)) (h5 : Ev C Γ e5 r (pure x5)) (h6 : Ev C Γ e6 r (pure x6)) (h7 : Ev C Γ e7 r (pure x7)) (h8 : Ev C Γ e8 r (pure x8)) (h9 : Ev C Γ e9 r (pure x9)) (h10 : Ev C Γ e10 r (pure x10)) (h11 : Ev C Γ e11 r (pure x11)) (h12 : Ev C Γ e12 r (pure x12)) (n1 : NoStar e1) (n2 : NoStar e2) (n3 : NoStar e3) (n4 : NoStar e4) (n5 : NoStar e5) (n6 : NoStar e6) (n7 : NoStar e7) (n8 : NoStar e8) (n9 : NoStar e9) (n10 : NoStar e10) (n11 : NoStar e11) (n12 : NoStar e12) : EvO C Γ (.List [e1, e2, e3, e4, e5, e6, e7, e8, e9, e10, e11, e12] pos) (oL C.fr r) (pure [x1, x2, x3, x4, x5, x6, x7, x8, x9, x10, x11, x12]) :=
  EvO.written (xs := [x1, x2, x3, x4, x5, x6, x7, x8, x9, x10, x11, x12]) (EvA.wCons h1 (EvA.wCons h2 (EvA.wCons h3 (EvA.wCons h4 (EvA.wCons h5 (EvA.wCons h6 (EvA.wCons h7 (EvA.wCons h8 (EvA.wCons h9 (EvA.wCons h10 (EvA.wCons h11 (EvA.wCons h12 EvA.nil n12) n11) n10) n9) n8) n7) n6) n5) n4) n3) n2) n1) (by simp)
theorem EvO.listP13 {e1 e2 e3 e4 e5 e6 e7 e8 e9 e10 e11 e12 e13 : Expr} {x1 x2 x3 x4 x5 x6 x7 x8 x9 x10 x11 x12 x13 : α} (h1 : Ev C Γ e1 r (pure x1)) (h2 : Ev C Γ e2 r (pure x2)) (h3 : Ev C Γ e3 r (pure x3)) (h4 : Ev C Γ e4 r (pure x4)) (h5 : Ev C Γ e5 r (pure x5)) (h6 : Ev C Γ e6 r (pure x6)) (h7 : Ev C Γ e7 r (pure x7)) (h8 : Ev C Γ e8 r (pure x8)) (h9 : Ev C Γ e9 r (pure x9)) (h10 : Ev C Γ e10 r (pure x10)) (h11 : Ev C Γ e11 r (pure x11)) (h12 : Ev C Γ e12 r (pure x12)) (h13 : Ev C Γ e13 r (pure x13)) (n1 : NoStar e1) (n2 : NoStar e2) (n3 : NoStar e3) (n4 : NoStar e4) (n5 : NoStar e5) (n6 : NoStar e6) (n7 : NoStar e7) (n8 : NoStar e8) (n9 : NoStar e9) (n10 : NoStar e10) (n11 : NoStar e11) (n12 : NoStar e12) (n13 : NoStar e13) : EvO C Γ (.List [e1, e2, e3, e4, e5, e6, e7, e8, e9, e10, e11, e12, e13] pos) (oL C.fr r) (pure [x1, x2, x3, x4, x5, x6, x7, x8, x9, x10, x11, x12, x13]) :=
  EvO.written (xs := [x1, x2, x3, x4, x5, x6, x7, x8, x9, x10, x11, x12, x13]) (EvA.wCons h1 (EvA.wCons h2 (EvA.wCons h3 (EvA.wCons h4 (EvA.wCons h5 (EvA.wCons h6 (EvA.wCons h7 (EvA.wCons h8 (EvA.wCons h9 (EvA.wCons h10 (EvA.wCons h11 (EvA.wCons h12 (EvA.wCons h13 EvA.nil n13) n12) n11) n10) n9) n8) n7) n6) n5) n4) n3) n2) n1) (by simp)
theorem EvO.listP14 {e1 e2 e3 e4 e5 e6 e7 e8 e9 e10 e11 e12 e13 e14 : Expr} {x1 x2 x3 x4 x5 x6 x7 x8 x9 x10 x11 x12 x13 x14 : α} (h1 : Ev C Γ e1 r (pure x1)) (h2 : Ev C Γ e2 r (pure x2)) (h3 : Ev C Γ e3 r (pure x3)) (h4 : Ev C Γ e4 r (pure x4)) (h5 : Ev C Γ e5 r (pure x5)) (h6 : Ev C Γ e6 r (pure x6)) (h7 : Ev C Γ e7 r (pure x7)) (h8 : Ev C Γ e8 r (pure x8)) (h9 : Ev C Γ e9 r (pure x9)) (h10 : Ev C Γ e10 r (pure x10)) (h11 : Ev C Γ e11 r (pure x11)) (h12 : Ev C Γ e12 r (pure x12)) (h13 : Ev C Γ e13 r (pure x13)) (h14 : Ev C Γ e14 r (pure x14)) (n1 : NoStar e1) (n2 : NoStar e2) (n3 : NoStar e3) (n4 : NoStar e4) (n5 : NoStar e5) (n6 : NoStar e6) (n7 : NoStar e7) (n8 : NoStar e8) (n9 : NoStar e9) (n10 : NoStar e10) (n11 : NoStar e11) (n12 : NoStar e12) (n13 : NoStar e13) (n14 : NoStar e14) : EvO C Γ (.List [e1, e2, e3, e4, e5, e6, e7, e8, e9, e10, e11, e12, e13, e14] pos) (oL C.fr r) (pure [x1, x2, x3, x4, x5, x6, x7, x8, x9, x10, x11, x12, x13, x14]) :=
  EvO.written (xs := [x1, x2, x3, x4, x5, x6, x7, x8, x9, x10, x11, x12, x13, x14]) (EvA.wCons h1 (EvA.wCons h2 (EvA.wCons h3 (EvA.wCons h4 (EvA.wCons h5 (EvA.wCons h6 (EvA.wCons h7 (EvA.wCons h8 (EvA.wCons h9 (EvA.wCons h10 (EvA.wCons h11 (EvA.wCons h12 (EvA.wCons h13 (EvA.wCons h14 EvA.nil n14) n13) n12) n11) n10) n9) n8) n7) n6) n5) n4) n3) n2) n1) (by simp)
theorem EvO.listP15 {e1 e2 e3 e4 e5 e6 e7 e8 e9 e10 e11 e12 e13 e14 e15 : Expr} {x1 x2 x3 x4 x5 x6 x7 x8 x9 x10 x11 x12 x13 x14 x15 : α} (h1 : Ev C Γ e1 r (pure x1)) (h2 : Ev C Γ e2 r (pure x2)) (h3 : Ev C Γ e3 r (pure x3)) (h4 : Ev C Γ e4 r (pure x4)) (h5 : Ev C Γ e5 r (pure x5)) (h6 : Ev C Γ e6 r (pure x6)) (h7 : Ev C Γ e7 r (pure x7)) (h8 : Ev C Γ e8 r (pure x8)) (h9 : Ev C Γ e9 r (pure x9)) (h10 : Ev C Γ e10 r (pure x10)) (h11 : Ev C Γ e11 r (pure x11)) (h12 : Ev C Γ e12 r (pure x12)) (h13 : Ev C Γ e13 r (pure x13)) (h14 : Ev C Γ e14 r (pure x14)) (h15 : Ev C Γ e15 r (pure x15)) (n1 : NoStar e1) (n2 : NoStar e2) (n3 : NoStar e3) (n4 : NoStar e4) (n5 : NoStar e5) (n6 : NoStar e6) (n7 : NoStar e7) (n8 : NoStar e8) (n9 : NoStar e9) (n10 : NoStar e10) (n11 : NoStar e11) (n12 : NoStar e12) (n13 : NoStar e13) (n14 : NoStar e14) (n15 : NoStar e15) : EvO C Γ (.List [e1, e2, e3, e4, e5, e6, e7, e8, e9, e10, e11, e12, e13, e14, e15] pos) (oL C.fr r) (pure [x1, x2, x3, x4, x5, x6, x7, x8, x9, x10, x11, x12, x13, x14, x15]) :=
  EvO.written (xs := [x1, x2, x3, x4, x5, x6, x7, x8, x9, x10, x11, x12, x13, x14, x15]) (EvA.wCons h1 (EvA.wCons h2 (EvA.wCons h3 (EvA.wCons h4 (EvA.wCons h5 (EvA.wCons h6 (EvA.wCons h7 (EvA.wCons h8 (EvA.wCons h9 (EvA.wCons h10 (EvA.wCons h11 (EvA.wCons h12 (EvA.wCons h13 (EvA.wCons h14 (EvA.wCons h15 EvA.nil n15) n14) n13) n12) n11) n10) n9) n8) n7) n6) n5) n4) n3) n2) n1) (by simp)
theorem EvO.listP26 {e1 e2 e3 e4 e5 e6 e7 e8 e9 e10 e11 e12 e13 e14 e15 e16 e17 e18 e19 e20 e21 e22 e23 e24 e25 e26 : Expr} {x1 x2 x3 x4 x5 x6 x7 x8 x9 x10 x11 x12 x13 x14 x15 x16 x17 x18 x19 x20 x21 x22 x23 x24 x25 x26 : α} (h1 : Ev C Γ e1 r (pure x1)) (h2 : Ev C Γ e2 r (pure x2)) (h3 : Ev C Γ e3 r (pure x3)) (h4 : Ev C Γ e4 r (pure x4)) (h5 : Ev C Γ e5 r (pure x5)) (h6 : Ev C Γ e6 r (pure x6)) (h7 : Ev C Γ e7 r (pure x7)) (h8 : Ev C Γ e8 r (pure x8)) (h9 : Ev C Γ e9 r (pure x9)) (h10 : Ev C Γ e10 r (pure x10)) (h11 : Ev C Γ e11 r (pure x11)) (h12 : Ev C Γ e12 r (pure x12)) (h13 : Ev C Γ e13 r (pure x13)) (h14 : Ev C Γ e14 r (pure x14)) (h15 : Ev C Γ e15 r (pure x15)) (h16 : Ev C Γ e16 r (pure x16)) (h17 : Ev C Γ e17 r (pure x17)) (h18 : Ev C Γ e18 r (pure x18)) (h19 : Ev C Γ e19 r (pure x19)) (h20 : Ev C Γ e20 r (pure x20)) (h21 : Ev C Γ e21 r (pure x21)) (h22 : Ev C Γ e22 r (pure x22)) (h23 : Ev C Γ e23 r (pure x23)) (h24 : Ev C Γ e24 r (pure x24)) (h25 : Ev C Γ e25 r (pure x25)) (h26 : Ev C Γ e26 r (pure x26)) (n1 : NoStar e1) (n2 : NoStar e2) (n3 : NoStar e3) (n4 : NoStar e4) (n5 : NoStar e5) (n6 : NoStar e6) (n7 : NoStar e7) (n8 : NoStar e8) (n9 : NoStar e9) (n10 : NoStar e10) (n11 : NoStar e11) (n12 : NoStar e12) (n13 : NoStar e13) (n14 : NoStar e14) (n15 : NoStar e15) (n16 : NoStar e16) (n17 : NoStar e17) (n18 : NoStar e18) (n19 : NoStar e19) (n20 : NoStar e20) (n21 : NoStar e21) (n22 : NoStar e22) (n23 : NoStar e23) (n24 : NoStar e24) (n25 : NoStar e25) (n26 : NoStar e26) : EvO C Γ (.List [e1, e2, e3, e4, e5, e6, e7, e8, e9, e10, e11, e12, e13, e14, e15, e16, e17, e18, e19, e20, e21, e22, e23, e24, e25, e26] pos) (oL C.fr r) (pure [x1, x2, x3, x4, x5, x6, x7, x8, x9, x10, x11, x12, x13, x14, x15, x16, x17, x18, x19, x20, x21, x22, x23, x24, x25, x26]) :=
  EvO.written (xs := [x1, x2, x3, x4, x5, x6, x7, x8, x9, x10, x11, x12, x13, x14, x15, x16, x17, x18, x19, x20, x21, x22, x23, x24, x25, x26]) (EvA.wCons h1 (EvA.wCons h2 (EvA.wCons h3 (EvA.wCons h4 (EvA.wCons h5 (EvA.wCons h6 (EvA.wCons h7 (EvA.wCons h8 (EvA.wCons h9 (EvA.wCons h10 (EvA.wCons h11 (EvA.wCons h12 (EvA.wCons h13 (EvA.wCons h14 (EvA.wCons h15 (EvA.wCons h16 (EvA.wCons h17 (EvA.wCons h18 (EvA.wCons h19 (EvA.wCons h20 (EvA.wCons h21 (EvA.wCons h22 (EvA.wCons h23 (EvA.wCons h24 (EvA.wCons h25 (EvA.wCons h26 EvA.nil n26) n25) n24) n23) n22) n21) n20) n19) n18) n17) n16) n15) n14) n13) n12) n11) n10) n9) n8) n7) n6) n5) n4) n3) n2) n1) (by simp)
theorem EvO.list8 {e1 e2 e3 e4 e5 e6 e7 e8 : Expr} {m1 m2 m3 m4 m5 m6 m7 m8 : W α} (h1 : Ev C Γ e1 r m1) (h2 : Ev C Γ e2 r m2) (h3 : Ev C Γ e3 r m3) (h4 : Ev C Γ e4 r m4) (h5 : Ev C Γ e5 r m5) (h6 : Ev C Γ e6 r m6) (h7 : Ev C Γ e7 r m7) (h8 : Ev C Γ e8 r m8) (n1 : NoStar e1) (n2 : NoStar e2) (n3 : NoStar e3) (n4 : NoStar e4) (n5 : NoStar e5) (n6 : NoStar e6) (n7 : NoStar e7) (n8 : NoStar e8) : EvO C Γ (.List [e1, e2, e3, e4, e5, e6, e7, e8] pos) (oL C.fr r) (m1 >>= fun x1 => m2 >>= fun x2 => m3 >>= fun x3 => m4 >>= fun x4 => m5 >>= fun x5 => m6 >>= fun x6 => m7 >>= fun x7 => m8 >>= fun x8 => pure [x1, x2, x3, x4, x5, x6, x7, x8]) :=
  EvO.disp (fun t : α × α × α × α × α × α × α × α × Unit => [t.1, t.2.1, t.2.2.1, t.2.2.2.1, t.2.2.2.2.1, t.2.2.2.2.2.1, t.2.2.2.2.2.2.1, t.2.2.2.2.2.2.2.1]) (fun t F vs h => by
    cases h with
    | cons k1 h => cases h with
      | cons k2 h => cases h with
        | cons k3 h => cases h with
          | cons k4 h => cases h with
            | cons k5 h => cases h with
              | cons k6 h => cases h with
                | cons k7 h => cases h with
                  | cons k8 h => cases h; exact (.cons k1 (.cons k2 (.cons k3 (.cons k4 (.cons k5 (.cons k6 (.cons k7 (.cons k8 .nil))))))))) (fun _ => by simp) (EvA.cons h1 (EvA.cons h2 (EvA.cons h3 (EvA.cons h4 (EvA.cons h5 (EvA.cons h6 (EvA.cons h7 (EvA.cons h8 EvA.nil n8) n7) n6) n5) n4) n3) n2) n1)
theorem EvO.list9 {e1 e2 e3 e4 e5 e6 e7 e8 e9 : Expr} {m1 m2 m3 m4 m5 m6 m7 m8 m9 : W α} (h1 : Ev C Γ e1 r m1) (h2 : Ev C Γ e2 r m2) (h3 : Ev C Γ e3 r m3) (h4 : Ev C Γ e4 r m4) (h5 : Ev C Γ e5 r m5) (h6 : Ev C Γ e6 r m6) (h7 : Ev C Γ e7 r m7) (h8 : Ev C Γ e8 r m8) (h9 : Ev C Γ e9 r m9) (n1 : NoStar e1) (n2 : NoStar e2) (n3 : NoStar e3) (n4 : NoStar e4) (n5 : NoStar e5) (n6 : NoStar e6) (n7 : NoStar e7) (n8 : NoStar e8) (n9 : NoStar e9) : EvO C Γ (.List [e1, e2, e3, e4, e5, e6, e7, e8, e9] pos) (oL C.fr r) (m1 >>= fun x1 => m2 >>= fun x2 => m3 >>= fun x3 => m4 >>= fun x4 => m5 >>= fun x5 => m6 >>= fun x6 => m7 >>= fun x7 => m8 >>= fun x8 => m9 >>= fun x9 => pure [x1, x2, x3, x4, x5, x6, x7, x8, x9]) :=
  EvO.disp (fun t : α × α × α × α × α × α × α × α × α × Unit => [t.1, t.2.1, t.2.2.1, t.2.2.2.1, t.2.2.2.2.1, t.2.2.2.2.2.1, t.2.2.2.2.2.2.1, t.2.2.2.2.2.2.2.1, t.2.2.2.2.2.2.2.2.1]) (fun t F vs h => by
    cases h with
    | cons k1 h => cases h with
      | cons k2 h => cases h with
        | cons k3 h => cases h with
          | cons k4 h => cases h with
            | cons k5 h => cases h with
              | cons k6 h => cases h with
                | cons k7 h => cases h with
                  | cons k8 h => cases h with
                    | cons k9 h => cases h; exact (.cons k1 (.cons k2 (.cons k3 (.cons k4 (.cons k5 (.cons k6 (.cons k7 (.cons k8 (.cons k9 .nil)))))))))) (fun _ => by simp) (EvA.cons h1 (EvA.cons h2 (EvA.cons h3 (EvA.cons h4 (EvA.cons h5 (EvA.cons h6 (EvA.cons h7 (EvA.cons h8 (EvA.cons h9 EvA.nil n9) n8) n7) n6) n5) n4) n3) n2) n1)
theorem EvO.list10 {e1 e2 e3 e4 e5 e6 e7 e8 e9 e10 : Expr} {m1 m2 m3 m4 m5 m6 m7 m8 m9 m10 : W α} (h1 : Ev C Γ e1 r m1) (h2 : Ev C Γ e2 r m2) (h3 : Ev C Γ e3 r m3) (h4 : Ev C Γ e4 r m4) (h5 : Ev C Γ e5 r m5) (h6 : Ev C Γ e6 r m6) (h7 : Ev C Γ e7 r m7) (h8 : Ev C Γ e8 r m8) (h9 : Ev C Γ e9 r m9) (h10 : Ev C Γ e10 r m10) (n1 : NoStar e1) (n2 : NoStar e2) (n3 : NoStar e3) (n4 : NoStar e4) (n5 : NoStar e5) (n6 : NoStar e6) (n7 : NoStar e7) (n8 : NoStar e8) (n9 : NoStar e9) (n10 : NoStar e10) : EvO C Γ (.List [e1, e2, e3, e4, e5, e6, e7, e8, e9, e10] pos) (oL C.fr r) (m1 >>= fun x1 => m2 >>= fun x2 => m3 >>= fun x3 => m4 >>= fun x4 => m5 >>= fun x5 => m6 >>= fun x6 => m7 >>= fun x7 => m8 >>= fun x8 => m9 >>= fun x9 => m10 >>= fun x10 => pure [x1, x2, x3, x4, x5, x6, x7, x8, x9, x10]) :=
  EvO.disp (fun t : α × α × α × α × α × α × α × α × α × α × Unit => [t.1, t.2.1, t.2.2.1, t.2.2.2.1, t.2.2.2.2.1, t.2.2.2.2.2.1, t.2.2.2.2.2.2.1, t.2.2.2.2.2.2.2.1, t.2.2.2.2.2.2.2.2.1, t.2.2.2.2.2.2.2.2.2.1]) (fun t F vs h => by
    cases h with
    | cons k1 h => cases h with
      | cons k2 h => cases h with
        | cons k3 h => cases h with
          | cons k4 h => cases h with
            | cons k5 h => cases h with
              | cons k6 h => cases h with
                | cons k7 h => cases h with
                  | cons k8 h => cases h with
                    | cons k9 h => cases h with
                      | cons k10 h => cases h; exact (.cons k1 (.cons k2 (.cons k3 (.cons k4 (.cons k5 (.cons k6 (.cons k7 (.cons k8 (.cons k9 (.cons k10 .nil))))))))))) (fun _ => by simp) (EvA.cons h1 (EvA.cons h2 (EvA.cons h3 (EvA.cons h4 (EvA.cons h5 (EvA.cons h6 (EvA.cons h7 (EvA.cons h8 (EvA.cons h9 (EvA.cons h10 EvA.nil n10) n9) n8) n7) n6) n5) n4) n3) n2) n1)
end
end Y

namespace Y
open PySem PySem.Spec L2
def top (i : Nat) : Stmt := PySem.Challenge.pw_modeyard_k40_texts_read.main.body.getD i (.Pass ⟨0, 0, 0, 0⟩)
def xtab : List ((Str × Str) × Bool) := [((("NoText" : Str), ("YardError" : Str)), true), ((("NoText" : Str), ("NoAmount" : Str)), false), ((("NoText" : Str), ("NoBalance" : Str)), false), ((("NoText" : Str), ("NoFit" : Str)), false), ((("NoText" : Str), ("NoName" : Str)), false), ((("NoText" : Str), ("NoRatio" : Str)), false), ((("NoText" : Str), ("NoRow" : Str)), false), ((("NoText" : Str), ("NoWay" : Str)), false), ((("NoText" : Str), ("NoWeights" : Str)), false), ((("NoText" : Str), ("NoWork" : Str)), false), ((("NoText" : Str), ("TooMany" : Str)), false), ((("NoText" : Str), ("NoText" : Str)), true), ((("NoText" : Str), ("NoGood" : Str)), false), ((("NoText" : Str), ("ValueError" : Str)), true), ((("NoGood" : Str), ("YardError" : Str)), true), ((("NoGood" : Str), ("NoAmount" : Str)), false), ((("NoGood" : Str), ("NoBalance" : Str)), false), ((("NoGood" : Str), ("NoFit" : Str)), false), ((("NoGood" : Str), ("NoName" : Str)), false), ((("NoGood" : Str), ("NoRatio" : Str)), false), ((("NoGood" : Str), ("NoRow" : Str)), false), ((("NoGood" : Str), ("NoWay" : Str)), false), ((("NoGood" : Str), ("NoWeights" : Str)), false), ((("NoGood" : Str), ("NoWork" : Str)), false), ((("NoGood" : Str), ("TooMany" : Str)), false), ((("NoGood" : Str), ("NoText" : Str)), false), ((("NoGood" : Str), ("NoGood" : Str)), true), ((("NoGood" : Str), ("ValueError" : Str)), true)]
def m_is_name_b1 (v_x_8 : Str) : W (Fl (Unit) Bool) :=
  (((pure v_x_8) >>= fun u9 => (pure ("abcdefghijklmnopqrstuvwxyz" : Str)) >>= fun u10 => notInSgn u9 u10) >>= fun u11 => if u11 = true then ((pure false) >>= fun u12 => pure (Fl.ret u12)) else (pure (Fl.go ())))
def m_is_name (t : Str × Unit) : W Bool :=
  ((((pure (1 : Int)) >>= fun u1 => (lenW t.1) >>= fun u2 => chW (fun x y : Int => decide (x ≤ y)) (fun x y : Int => decide (x ≤ y)) u1 u2 (pure (8 : Int))) >>= fun u3 => pure (!u3)) >>= fun u4 => if u4 = true then ((pure false) >>= fun u5 => pure u5) else (((((pure t.1) >>= fun u6 => W.req (u6.length ≤ sizeLine) (pure (signs u6))) >>= fun xs => W.foldR (fun (v_s_7 : Unit) (v_x_8 : Str) => (m_is_name_b1 v_x_8)) () xs) >>= fun o => pure o.out) >>= fun o : (Unit) ⊕ Bool => match o with | .inl v_s_7 => ((pure true) >>= fun u13 => pure u13) | .inr r => (pure r)))
theorem w_is_name {M : Mc} (b_len : M.mg "len" = none) (g_SMALL : ∃ k, M.mg "SMALL" = some (.str ("abcdefghijklmnopqrstuvwxyz" : Str) k)) (F : FunM M "is_name" (top 16) ["text"]) : FnV M "is_name" 1 1 (fun (fr : Addr → Prop) (t : Str × Unit) => [rS t.1]) (fun fr => rB) m_is_name := by
  refine FnV.ofBody (N := ["text", "sign"]) F (⟨rfl, rfl, rfl, by decide +kernel, rfl, by decide +kernel, by decide +kernel⟩ : FnScope ["text", "sign"] ["text"] _) rfl (fun _ _ => rfl) (fun fr t => ?_)
  refine Ex.ifx (EvT.not (EvT.chain cr_le cr_le Ev.int (Ev.lenSP (bt_len rfl b_len) (Ev.nameP (i := 0) rfl rfl rfl rfl) (fun _ _ => rfl)) Ev.int)) ?_ ?_
  ·
    exact Ex.ret (ρ := rB) (fun u5 => u5) (fun _ => rfl) Ev.bool
  refine Ex.seq (J1 := (outX (S := Unit) (ρ := Bool) (fun v_s_7 : Unit => [.val (rS t.1), .no]) (fun r => rB r))) (Ex1.forX (fun v_s_7 : Unit => [.val (rS t.1), .no]) (fun r => rB r) (s0 := ()) (EvI.str (Ev.nameP (i := 0) rfl rfl rfl rfl)) (EvG.name (i := 1) (r := rS) rfl (stoOf rfl)) (.cons .rf (.cons .no .nil)) (fun v_s_7 v_x_8 => ?_)) (fun o => ?_)
  ·
    refine Ex.ifx (EvT.cmp (Ev.notInS (Ev.nameP (i := 1) rfl rfl rfl rfl) (Ev.globS rfl g_SMALL))) ?_ ?_
    ·
      exact Ex.ret (ρ := rB) (fun u12 => (Fl.ret u12)) (fun _ => rfl) Ev.bool
    exact Ex.nilLp rfl (.cons .rf (.cons .no .nil))
  obtain v_s_7 | r := o
  ·
    show Ex _ _ _ _ _
    exact Ex.ret (ρ := rB) (fun u13 => u13) (fun _ => rfl) Ev.bool
  · exact ⟨_, rfl, rfl⟩

def m_is_number_b1 (v_x_8 : Str) : W (Fl (Unit) Bool) :=
  (((pure v_x_8) >>= fun u9 => (pure ("0123456789" : Str)) >>= fun u10 => notInSgn u9 u10) >>= fun u11 => if u11 = true then ((pure false) >>= fun u12 => pure (Fl.ret u12)) else (pure (Fl.go ())))
def m_is_number_j2 (t : Str × Unit) : W Bool :=
  (((((pure t.1) >>= fun u13 => (pure (0 : Int)) >>= fun u14 => idxS u13 u14) >>= fun u15 => (pure ("0" : Str)) >>= fun u16 => pure (!decide (u15 = u16))) >>= fun u19 => if u19 = true then pure true else ((pure t.1) >>= fun u17 => (pure ("0" : Str)) >>= fun u18 => pure (decide (u17 = u18)))) >>= fun u20 => pure u20)
def m_is_number (t : Str × Unit) : W Bool :=
  ((((pure (1 : Int)) >>= fun u1 => (lenW t.1) >>= fun u2 => chW (fun x y : Int => decide (x ≤ y)) (fun x y : Int => decide (x ≤ y)) u1 u2 (pure (30 : Int))) >>= fun u3 => pure (!u3)) >>= fun u4 => if u4 = true then ((pure false) >>= fun u5 => pure u5) else (((((pure t.1) >>= fun u6 => W.req (u6.length ≤ sizeLine) (pure (signs u6))) >>= fun xs => W.foldR (fun (v_s_7 : Unit) (v_x_8 : Str) => (m_is_number_b1 v_x_8)) () xs) >>= fun o => pure o.out) >>= fun o : (Unit) ⊕ Bool => match o with | .inl v_s_7 => (m_is_number_j2 t) | .inr r => (pure r)))
theorem w_is_number {M : Mc} (b_len : M.mg "len" = none) (g_MOST_FIGURES : ∃ k, M.mg "MOST_FIGURES" = some (.int (30 : Int) k)) (g_FIGURES : ∃ k, M.mg "FIGURES" = some (.str ("0123456789" : Str) k)) (F : FunM M "is_number" (top 20) ["text"]) : FnV M "is_number" 1 1 (fun (fr : Addr → Prop) (t : Str × Unit) => [rS t.1]) (fun fr => rB) m_is_number := by
  refine FnV.ofBody (N := ["text", "sign"]) F (⟨rfl, rfl, rfl, by decide +kernel, rfl, by decide +kernel, by decide +kernel⟩ : FnScope ["text", "sign"] ["text"] _) rfl (fun _ _ => rfl) (fun fr t => ?_)
  refine Ex.ifx (EvT.not (EvT.chain cr_le cr_le Ev.int (Ev.lenSP (bt_len rfl b_len) (Ev.nameP (i := 0) rfl rfl rfl rfl) (fun _ _ => rfl)) (Ev.globI rfl g_MOST_FIGURES))) ?_ ?_
  ·
    exact Ex.ret (ρ := rB) (fun u5 => u5) (fun _ => rfl) Ev.bool
  refine Ex.seq (J1 := (outX (S := Unit) (ρ := Bool) (fun v_s_7 : Unit => [.val (rS t.1), .no]) (fun r => rB r))) (Ex1.forX (fun v_s_7 : Unit => [.val (rS t.1), .no]) (fun r => rB r) (s0 := ()) (EvI.str (Ev.nameP (i := 0) rfl rfl rfl rfl)) (EvG.name (i := 1) (r := rS) rfl (stoOf rfl)) (.cons .rf (.cons .no .nil)) (fun v_s_7 v_x_8 => ?_)) (fun o => ?_)
  ·
    refine Ex.ifx (EvT.cmp (Ev.notInS (Ev.nameP (i := 1) rfl rfl rfl rfl) (Ev.globS rfl g_FIGURES))) ?_ ?_
    ·
      exact Ex.ret (ρ := rB) (fun u12 => (Fl.ret u12)) (fun _ => rfl) Ev.bool
    exact Ex.nilLp rfl (.cons .rf (.cons .no .nil))
  obtain v_s_7 | r := o
  ·
    show Ex _ _ _ _ _
    exact Ex.ret (ρ := rB) (fun u20 => u20) (fun _ => rfl) (Ev.or (Ev.neStr (Ev.ixS (Ev.nameP (i := 0) rfl rfl rfl rfl) Ev.int) Ev.str) (Ev.one (Ev.eqStr (Ev.nameP (i := 0) rfl rfl rfl rfl) Ev.str)))
  · exact ⟨_, rfl, rfl⟩

def m_read_pieces_b1 (t : (List Str) × Unit) (v_s_10 : ((List (Str × Int)))) (v_x_11 : Int) : W ((List (Str × Int))) :=
  (((pure t.1) >>= fun u12 => (mulI (2 : Int) v_x_11) >>= fun u13 => idx u12 u13) >>= fun v_amount_14 => (((pure t.1) >>= fun u17 => ((mulI (2 : Int) v_x_11) >>= fun u15 => (pure (1 : Int)) >>= fun u16 => pure (u15 + u16)) >>= fun u18 => idx u17 u18) >>= fun v_good_19 => (((((pure v_amount_14) >>= fun u20 => m_is_number (u20, ())) >>= fun u21 => pure (!u21)) >>= fun u27 => if u27 = true then pure true else (((pure v_amount_14) >>= fun u22 => (pure ("0" : Str)) >>= fun u23 => pure (decide (u22 = u23))) >>= fun u26 => if u26 = true then pure true else (((pure v_good_19) >>= fun u24 => m_is_name (u24, ())) >>= fun u25 => pure (!u25)))) >>= fun u28 => if u28 = true then (W.exc ⟨"NoText", none⟩) else (((pure v_good_19) >>= fun u30 => (((pure v_amount_14) >>= fun u29 => (intW u29)) >>= fun u31 => (pure (u30, u31)))) >>= fun u32 => W.req (v_s_10.length ≤ 1000000) ((pure ((v_s_10 ++ [u32]))))))))
def m_read_pieces (t : (List Str) × Unit) : W (List (Str × Int)) :=
  ((((pure (t.1.length : Int)) >>= fun u3 => ((divI (t.1.length : Int) (2 : Int)) >>= fun u1 => (pure (2 : Int)) >>= fun u2 => mulI u1 u2) >>= fun u4 => pure (u3 - u4)) >>= fun u5 => (pure (0 : Int)) >>= fun u6 => pure (!decide (u5 = u6))) >>= fun u7 => if u7 = true then (W.exc ⟨"NoText", none⟩) else ((pure []) >>= fun v_made_8 => ((((divI (t.1.length : Int) (2 : Int)) >>= fun u9 => rangeW 0 u9) >>= fun xs => W.foldM (fun (v_s_10 : (List (Str × Int))) (v_x_11 : Int) => (m_read_pieces_b1 t v_s_10 v_x_11)) (v_made_8) xs) >>= fun v_s_10 => ((pure v_s_10) >>= fun u34 => pure u34))))
theorem w_read_pieces {M : Mc} (b_len : M.mg "len" = none) (b_range : M.mg "range" = none) (b_int : M.mg "int" = none) (rx_NoText : RaiX M "NoText") (h_is_number : FnV M "is_number" 1 1 (fun (fr : Addr → Prop) (t : Str × Unit) => [rS t.1]) (fun fr => rB) m_is_number) (h_is_name : FnV M "is_name" 1 1 (fun (fr : Addr → Prop) (t : Str × Unit) => [rS t.1]) (fun fr => rB) m_is_name) (F : FunM M "read_pieces" (top 21) ["words"]) : FnV M "read_pieces" 2 1 (fun (fr : Addr → Prop) (t : (List Str) × Unit) => [(rL M.K rS) t.1]) (fun fr => (rN fr (rX2 fr rS rI))) m_read_pieces := by
  refine FnV.ofBody (N := ["words", "made", "k", "amount", "good"]) F (⟨rfl, rfl, rfl, by decide +kernel, rfl, by decide +kernel, by decide +kernel⟩ : FnScope ["words", "made", "k", "amount", "good"] ["words"] _) rfl (fun _ _ => rfl) (fun fr t => ?_)
  refine Ex.ifx (EvT.cmp (Ev.neI (Ev.sub' (Ev.lenLP (bt_len rfl b_len) (Ev.nameP (i := 0) rfl rfl rfl rfl) (fun _ _ => rfl)) (Ev.mul (Ev.divP (Ev.lenLP (bt_len rfl b_len) (Ev.nameP (i := 0) rfl rfl rfl rfl) (fun _ _ => rfl)) Ev.int) Ev.int)) Ev.int)) ?_ ?_
  ·
    exact Ex.raise rx_NoText rfl
  refine Ex.setO (i := 1) (O := oL fr (rX2 fr rS rI)) rfl (stoOf rfl) EvO.nil (fun v_made_8 => ?_)
  refine Ex.seq (J1 := fun v_s_10 : (List (Str × Int)) => .nx [.val ((rL M.K rS) t.1), .own (oL fr (rX2 fr rS rI) v_s_10), .no, .no, .no]) (Ex1.for (fun v_s_10 : (List (Str × Int)) => [.val ((rL M.K rS) t.1), .own (oL fr (rX2 fr rS rI) v_s_10), .no, .no, .no]) (s0 := (v_made_8)) (EvI.range1 (bt_range rfl b_range) (Ev.divP (Ev.lenLP (bt_len rfl b_len) (Ev.nameP (i := 0) rfl rfl rfl rfl) (fun _ _ => rfl)) Ev.int) (fun _ _ => rfl)) (EvG.name (i := 2) (r := rI) rfl (stoOf rfl)) (.cons .rf (.cons .rf (.cons .no (.cons .no (.cons .no .nil))))) (fun v_s_10 v_x_11 => ?_)) (fun v_s_10 => ?_)
  ·
    refine Ex.set (i := 3) (ρ := rS) rfl (stoOf rfl) (Ev.ixL (Ev.nameP (i := 0) rfl rfl rfl rfl) (Ev.mulP Ev.int (Ev.nameP (i := 2) rfl rfl rfl rfl))) (fun v_amount_14 => ?_)
    refine Ex.set (i := 4) (ρ := rS) rfl (stoOf rfl) (Ev.ixL (Ev.nameP (i := 0) rfl rfl rfl rfl) (Ev.add (Ev.mulP Ev.int (Ev.nameP (i := 2) rfl rfl rfl rfl)) Ev.int)) (fun v_good_19 => ?_)
    refine Ex.ifx (EvW.t (EvW.or (EvT.not (EvT.val (Ev.call1 (hd := rfl) (ρ := fun fr => rB) (mf := m_is_number) (ra := fun fr => rS) h_is_number (Nat.le_of_ble_eq_true rfl) rfl (Ev.nameP (i := 3) rfl rfl rfl rfl) (fun _ _ => rfl)))) (EvW.or (EvT.cmp (Ev.eqStr (Ev.nameP (i := 3) rfl rfl rfl rfl) Ev.str)) (EvW.or1 (EvT.not (EvT.val (Ev.call1 (hd := rfl) (ρ := fun fr => rB) (mf := m_is_name) (ra := fun fr => rS) h_is_name (Nat.le_of_ble_eq_true rfl) rfl (Ev.nameP (i := 4) rfl rfl rfl rfl) (fun _ _ => rfl)))))))) ?_ ?_
    ·
      exact Ex.raise rx_NoText rfl
    refine Ex.append (i := 1) (r := (rX2 fr rS rI)) rfl (visOf rfl) rfl (Ev.tupX2 (Ev.nameP (i := 4) rfl rfl rfl rfl) (Ev.intS (bt_int rfl b_int) (Ev.nameP (i := 3) rfl rfl rfl rfl) (fun _ _ => rfl)) (fun _ _ => rfl) (fun _ _ => rfl)) (fun _ _ => rfl) (fun u32 => ?_)
    exact Ex.nilLp rfl (.cons .rf (.cons .rf (.cons .no (.cons .no (.cons .no .nil)))))
  show Ex _ _ _ _ _
  refine Ex.freeze (i := 1) rfl ?_
  exact Ex.ret (ρ := (rN fr (rX2 fr rS rI))) (fun u34 => u34) (fun _ => rfl) (Ev.nameP (i := 1) rfl rfl rfl rfl)

def m_take_once (t : (List (Str × Int)) × Unit) : W Unit :=
  (((pure t.1) >>= fun xs => W.noX (compM (fun v_x_1 => pure true) (fun v_x_1 => (pure v_x_1.1)) xs)) >>= fun v_goods_2 => ((((pure v_goods_2) >>= fun u3 => W.req (u3.length ≤ 1000) (pure ((unl u3).length : Int))) >>= fun u4 => (pure (v_goods_2.length : Int)) >>= fun u5 => pure (decide (u4 < u5))) >>= fun u6 => if u6 = true then (W.exc ⟨"NoGood", none⟩) else (pure ())))
theorem w_take_once {M : Mc} (b_len : M.mg "len" = none) (b_set : M.mg "set" = none) (rx_NoGood : RaiX M "NoGood") (F : FunM M "take_once" (top 22) ["listed"]) : FnV M "take_once" 1 1 (fun (fr : Addr → Prop) (t : (List (Str × Int)) × Unit) => [(rL M.K (rT2 M.K rS rI)) t.1]) (fun fr => rU) m_take_once := by
  refine FnV.ofBodyU (N := ["listed", "goods", "good", "amount"]) F (⟨rfl, rfl, rfl, by decide +kernel, rfl, by decide +kernel, by decide +kernel⟩ : FnScope ["listed", "goods", "good", "amount"] ["listed"] _) rfl (fun _ _ => rfl) (fun fr t => ?_)
  refine lcSet (i := 1) (S := fun a => .val (rN fr rS a)) (hS := lcVal) rfl rfl (LcOk.two (i := 2) (j := 3) rfl rfl rfl (stoOf rfl) (stoOf rfl) (by decide) (fun _ h => nomatch h) (fun _ h => nomatch h)) (EvI.list (Ev.nameP (i := 0) rfl rfl rfl rfl)) (fun v_x_1 => EvTs.nil) (fun v_x_1 => (Ev.nameP (i := 2) rfl rfl rfl rfl)) (fun v_goods_2 => ?_) (swLocal rfl rfl rfl rfl) (by intro _ _; rfl)
  refine Ex.ifx (EvT.cmp (Ev.lt (Ev.lenSet (bt_len rfl b_len) (bt_set rfl b_set) (Ev.sub (subNL subR) (Ev.nameP (i := 1) rfl rfl rfl rfl)) (fun _ _ => rfl)) (Ev.lenLP (bt_len rfl b_len) (Ev.sub (subNL subR) (Ev.nameP (i := 1) rfl rfl rfl rfl)) (fun _ _ => rfl)))) ?_ ?_
  ·
    exact Ex.raise rx_NoGood rfl
  exact Ex.nilFt rfl

def m_read_work (t : Str × Unit) : W (Str × (List (Str × Int)) × (List (Str × Int))) :=
  (((pure t.1) >>= fun u3 => (pure (" " : Str)) >>= fun u4 => W.req ((u4.length == 0) = false ∧ u3.length ≤ 1000000) (pure (Txt.split u3 u4))) >>= fun v_words_5 => ((idx v_words_5 (0 : Int)) >>= fun v_head_6 => (((((pure v_head_6) >>= fun u7 => (pure (":" : Str)) >>= fun u8 => pure (Txt.endswith u7 u8)) >>= fun u9 => pure (!u9)) >>= fun u21 => if u21 = true then pure true else (((((pure v_head_6) >>= fun u11 => (pure none) >>= fun u12 => ((pure (-(1 : Int))) >>= fun u10 => pure (some u10)) >>= fun u13 => cutW u11 u12 u13) >>= fun u14 => m_is_name (u14, ())) >>= fun u15 => pure (!u15)) >>= fun u20 => if u20 = true then pure true else (((pure v_words_5) >>= fun u16 => (pure (">" : Str)) >>= fun u17 => pure ((u16.countP (fun z => z == u17) : Nat) : Int)) >>= fun u18 => (pure (1 : Int)) >>= fun u19 => pure (!decide (u18 = u19))))) >>= fun u22 => if u22 = true then (W.exc ⟨"NoText", none⟩) else (((pure v_words_5) >>= fun u23 => (pure (">" : Str)) >>= fun u24 => W.req (u24 ∈ u23) (pure ((u23.idxOf u24 : Nat) : Int))) >>= fun v_at_25 => ((((pure v_words_5) >>= fun u28 => ((pure (1 : Int)) >>= fun u26 => pure (some u26)) >>= fun u29 => ((pure v_at_25) >>= fun u27 => pure (some u27)) >>= fun u30 => pure (cut u28 u29 u30)) >>= fun u31 => m_read_pieces (u31, ())) >>= fun v_uses_32 => ((((pure v_words_5) >>= fun u34 => ((pure (v_at_25 + (1 : Int))) >>= fun u33 => pure (some u33)) >>= fun u35 => (pure none) >>= fun u36 => pure (cut u34 u35 u36)) >>= fun u37 => m_read_pieces (u37, ())) >>= fun v_makes_38 => (((pure v_uses_32) >>= fun u39 => m_take_once (u39, ())) >>= fun u40 => (((pure v_makes_38) >>= fun u41 => m_take_once (u41, ())) >>= fun u42 => ((((pure v_head_6) >>= fun u44 => (pure none) >>= fun u45 => ((pure (-(1 : Int))) >>= fun u43 => pure (some u43)) >>= fun u46 => cutW u44 u45 u46) >>= fun u47 => ((pure v_uses_32) >>= fun u48 => ((pure v_makes_38) >>= fun u49 => (pure (u47, u48, u49))))) >>= fun u50 => pure u50)))))))))
theorem w_read_work {M : Mc} (rx_NoText : RaiX M "NoText") (h_is_name : FnV M "is_name" 1 1 (fun (fr : Addr → Prop) (t : Str × Unit) => [rS t.1]) (fun fr => rB) m_is_name) (h_read_pieces : FnV M "read_pieces" 2 1 (fun (fr : Addr → Prop) (t : (List Str) × Unit) => [(rL M.K rS) t.1]) (fun fr => (rN fr (rX2 fr rS rI))) m_read_pieces) (h_take_once : FnV M "take_once" 1 1 (fun (fr : Addr → Prop) (t : (List (Str × Int)) × Unit) => [(rL M.K (rT2 M.K rS rI)) t.1]) (fun fr => rU) m_take_once) (F : FunM M "read_work" (top 23) ["text"]) : FnV M "read_work" 3 1 (fun (fr : Addr → Prop) (t : Str × Unit) => [rS t.1]) (fun fr => (rX3 fr rS (rN fr (rX2 fr rS rI)) (rN fr (rX2 fr rS rI)))) m_read_work := by
  refine FnV.ofBody (N := ["text", "words", "head", "at", "uses", "makes"]) F (⟨rfl, rfl, rfl, by decide +kernel, rfl, by decide +kernel, by decide +kernel⟩ : FnScope ["text", "words", "head", "at", "uses", "makes"] ["text"] _) rfl (fun _ _ => rfl) (fun fr t => ?_)
  refine Ex.set (i := 1) (ρ := (rN fr rS)) rfl (stoOf rfl) (EvO.list (EvO.split (Ev.nameP (i := 0) rfl rfl rfl rfl) Ev.str (fun _ _ => rfl))) (fun v_words_5 => ?_)
  refine Ex.set (i := 2) (ρ := rS) rfl (stoOf rfl) (Ev.ixLP (Ev.sub (subNL subR) (Ev.nameP (i := 1) rfl rfl rfl rfl)) Ev.int) (fun v_head_6 => ?_)
  refine Ex.ifx (EvW.t (EvW.or (EvT.not (EvT.val (Ev.endsw (Ev.nameP (i := 2) rfl rfl rfl rfl) Ev.str (fun _ _ => rfl)))) (EvW.or (EvT.not (EvT.val (Ev.call1 (hd := rfl) (ρ := fun fr => rB) (mf := m_is_name) (ra := fun fr => rS) h_is_name (Nat.le_of_ble_eq_true rfl) rfl (Ev.sliceS (Ev.nameP (i := 2) rfl rfl rfl rfl) EvP.none (EvP.some (Ev.negP Ev.int))) (fun _ _ => rfl)))) (EvW.or1 (EvT.cmp (Ev.neI (Ev.countS (Ev.sub (subNL subR) (Ev.nameP (i := 1) rfl rfl rfl rfl)) Ev.str (fun _ _ => rfl)) Ev.int)))))) ?_ ?_
  ·
    exact Ex.raise rx_NoText rfl
  refine Ex.set (i := 3) (ρ := rI) rfl (stoOf rfl) (Ev.indexS (Ev.sub (subNL subR) (Ev.nameP (i := 1) rfl rfl rfl rfl)) Ev.str (fun _ _ => rfl)) (fun v_at_25 => ?_)
  refine Ex.set (i := 4) (ρ := (rN fr (rX2 fr rS rI))) rfl (stoOf rfl) (Ev.call1 (hd := rfl) (ρ := fun fr => (rN fr (rX2 fr rS rI))) (mf := m_read_pieces) (ra := fun fr => (rL M.K rS)) h_read_pieces (Nat.le_of_ble_eq_true rfl) rfl (Ev.sub (subNL subR) (EvO.list (EvO.slice (Ev.sub (subNL subR) (Ev.nameP (i := 1) rfl rfl rfl rfl)) (EvP.some Ev.int) (EvP.some (Ev.nameP (i := 3) rfl rfl rfl rfl))))) (fun _ _ => rfl)) (fun v_uses_32 => ?_)
  refine Ex.set (i := 5) (ρ := (rN fr (rX2 fr rS rI))) rfl (stoOf rfl) (Ev.call1 (hd := rfl) (ρ := fun fr => (rN fr (rX2 fr rS rI))) (mf := m_read_pieces) (ra := fun fr => (rL M.K rS)) h_read_pieces (Nat.le_of_ble_eq_true rfl) rfl (Ev.sub (subNL subR) (EvO.list (EvO.slice (Ev.sub (subNL subR) (Ev.nameP (i := 1) rfl rfl rfl rfl)) (EvP.some (Ev.addP (Ev.nameP (i := 3) rfl rfl rfl rfl) Ev.int)) EvP.none))) (fun _ _ => rfl)) (fun v_makes_38 => ?_)
  refine Ex.expr (ρ := rU) (Ev.call1 (hd := rfl) (ρ := fun fr => rU) (mf := m_take_once) (ra := fun fr => (rL M.K (rT2 M.K rS rI))) h_take_once (Nat.le_of_ble_eq_true rfl) rfl (Ev.sub (subNL (subXT2 subR subR)) (Ev.nameP (i := 4) rfl rfl rfl rfl)) (fun _ _ => rfl)) (fun u40 => ?_)
  refine Ex.expr (ρ := rU) (Ev.call1 (hd := rfl) (ρ := fun fr => rU) (mf := m_take_once) (ra := fun fr => (rL M.K (rT2 M.K rS rI))) h_take_once (Nat.le_of_ble_eq_true rfl) rfl (Ev.sub (subNL (subXT2 subR subR)) (Ev.nameP (i := 5) rfl rfl rfl rfl)) (fun _ _ => rfl)) (fun u42 => ?_)
  exact Ex.ret (ρ := (rX3 fr rS (rN fr (rX2 fr rS rI)) (rN fr (rX2 fr rS rI)))) (fun u50 => u50) (fun _ => rfl) (Ev.tupX3 (Ev.sliceS (Ev.nameP (i := 2) rfl rfl rfl rfl) EvP.none (EvP.some (Ev.negP Ev.int))) (Ev.nameP (i := 4) rfl rfl rfl rfl) (Ev.nameP (i := 5) rfl rfl rfl rfl) (fun _ _ => rfl) (fun _ _ => rfl) (fun _ _ => rfl))

def m__law_cell (t : (List Int) × Int × Unit) : W Int :=
  ((pure (decide (t.2.1 < (t.1.length : Int)))) >>= fun u1 => if u1 = true then ((idx t.1 t.2.1) >>= fun u2 => pure u2) else ((pure (0 : Int)) >>= fun u3 => pure u3))
theorem w__law_cell {M : Mc} (b_len : M.mg "len" = none) (F : FunM M "_law_cell" (top 25) ["_law_script", "_law_k"]) : FnV M "_law_cell" 1 2 (fun (fr : Addr → Prop) (t : (List Int) × Int × Unit) => [(rL M.K rI) t.1, rI t.2.1]) (fun fr => rI) m__law_cell := by
  refine FnV.ofBody (N := ["_law_script", "_law_k"]) F (⟨rfl, rfl, rfl, by decide +kernel, rfl, by decide +kernel, by decide +kernel⟩ : FnScope ["_law_script", "_law_k"] ["_law_script", "_law_k"] _) rfl (fun _ _ => rfl) (fun fr t => ?_)
  refine Ex.ifx (EvT.cmp (Ev.ltP (Ev.nameP (i := 1) rfl rfl rfl rfl) (Ev.lenLP (bt_len rfl b_len) (Ev.nameP (i := 0) rfl rfl rfl rfl) (fun _ _ => rfl)))) ?_ ?_
  ·
    exact Ex.ret (ρ := rI) (fun u2 => u2) (fun _ => rfl) (Ev.ixLP (Ev.nameP (i := 0) rfl rfl rfl rfl) (Ev.nameP (i := 1) rfl rfl rfl rfl))
  exact Ex.ret (ρ := rI) (fun u3 => u3) (fun _ => rfl) Ev.int

def m__law_next (t : Int × Int × Unit) : W Int :=
  ((pure (decide ((2147483648 : Int) ≤ t.1))) >>= fun u1 => if u1 = true then ((divI t.1 (1890 : Int)) >>= fun u2 => pure u2) else ((((((pure t.1) >>= fun u5 => ((pure (48271 : Int)) >>= fun u3 => (mulI (21350 : Int) t.2.1) >>= fun u4 => pure (u3 + u4)) >>= fun u6 => mulI u5 u6) >>= fun u7 => (pure (12345 : Int)) >>= fun u8 => pure (u7 + u8)) >>= fun u9 => (pure t.2.1) >>= fun u10 => pure (u9 + u10)) >>= fun u11 => (pure (2147483647 : Int)) >>= fun u12 => modI u11 u12) >>= fun v_stirred_13 => (((mulI v_stirred_13 (16807 : Int)) >>= fun u14 => (pure (2147483629 : Int)) >>= fun u15 => modI u14 u15) >>= fun u16 => pure u16)))
theorem w__law_next {M : Mc} (F : FunM M "_law_next" (top 26) ["_law_cell_here", "_law_k"]) : FnV M "_law_next" 1 2 (fun (fr : Addr → Prop) (t : Int × Int × Unit) => [rI t.1, rI t.2.1]) (fun fr => rI) m__law_next := by
  refine FnV.ofBody (N := ["_law_cell_here", "_law_k", "_law_stirred"]) F (⟨rfl, rfl, rfl, by decide +kernel, rfl, by decide +kernel, by decide +kernel⟩ : FnScope ["_law_cell_here", "_law_k", "_law_stirred"] ["_law_cell_here", "_law_k"] _) rfl (fun _ _ => rfl) (fun fr t => ?_)
  refine Ex.ifx (EvT.cmp (Ev.geP (Ev.nameP (i := 0) rfl rfl rfl rfl) (Ev.powW (2147483648 : Int) Ev.int Ev.int ⟨by decide, by decide, by decide⟩ (by decide)))) ?_ ?_
  ·
    exact Ex.ret (ρ := rI) (fun u2 => u2) (fun _ => rfl) (Ev.divP (Ev.nameP (i := 0) rfl rfl rfl rfl) Ev.int)
  refine Ex.set (i := 2) (ρ := rI) rfl (stoOf rfl) (Ev.mod (Ev.add (Ev.add (Ev.mul (Ev.nameP (i := 0) rfl rfl rfl rfl) (Ev.add Ev.int (Ev.mulP Ev.int (Ev.nameP (i := 1) rfl rfl rfl rfl)))) Ev.int) (Ev.nameP (i := 1) rfl rfl rfl rfl)) Ev.int) (fun v_stirred_13 => ?_)
  exact Ex.ret (ρ := rI) (fun u16 => u16) (fun _ => rfl) (Ev.mod (Ev.mulP (Ev.nameP (i := 2) rfl rfl rfl rfl) Ev.int) Ev.int)

def m__law_words_b1 (t : Int × Int × Unit) (v_letters_1 : Str) (v_s_7 : (Str)) (v_x_8 : Int) : W (Str) :=
  (((pure v_s_7) >>= fun u17 => ((pure v_letters_1) >>= fun u15 => (((divI t.1 (6 : Int)) >>= fun u11 => ((pure v_x_8) >>= fun u9 => (divI t.1 (156 : Int)) >>= fun u10 => mulI u9 u10) >>= fun u12 => pure (u11 + u12)) >>= fun u13 => (pure (26 : Int)) >>= fun u14 => modI u13 u14) >>= fun u16 => idxS u15 u16) >>= fun u18 => catS u17 u18) >>= fun v_word_19 => (pure (v_word_19)))
def m__law_words_j2 (v_s_25 : ((List Str))) (v_o_53 : (Str)) : W ((List Str)) :=
  ((pure v_o_53) >>= fun u67 => W.req (v_s_25.length ≤ 1000000) ((pure ((v_s_25 ++ [u67])))))
def m__law_words_b3 (t : Int × Int × Unit) (v_letters_1 : Str) (v_s_7 : (Str)) (v_at_22 : Int) (v_s_25 : ((List Str))) (v_x_26 : Int) : W ((List Str)) :=
  (((pure v_letters_1) >>= fun u33 => ((((divI t.1 (6 : Int)) >>= fun u27 => (mulI (3 : Int) v_x_26) >>= fun u28 => pure (u27 + u28)) >>= fun u29 => (pure (1 : Int)) >>= fun u30 => pure (u29 + u30)) >>= fun u31 => (pure (26 : Int)) >>= fun u32 => modI u31 u32) >>= fun u34 => idxS u33 u34) >>= fun v_sign_35 => (((((pure v_s_7) >>= fun u37 => (pure none) >>= fun u38 => ((pure v_at_22) >>= fun u36 => pure (some u36)) >>= fun u39 => cutW u37 u38 u39) >>= fun u40 => (pure v_sign_35) >>= fun u41 => catS u40 u41) >>= fun u46 => ((pure v_s_7) >>= fun u43 => ((pure (v_at_22 + (1 : Int))) >>= fun u42 => pure (some u42)) >>= fun u44 => (pure none) >>= fun u45 => cutW u43 u44 u45) >>= fun u47 => catS u46 u47) >>= fun v_name_here_48 => (((((divI t.1 (5 : Int)) >>= fun u49 => (pure (3 : Int)) >>= fun u50 => modI u49 u50) >>= fun u51 => (pure (1 : Int)) >>= fun u52 => pure (decide (u51 = u52))) >>= fun u54 => if u54 = true then ((((pure v_s_7) >>= fun u59 => (((pure v_s_7) >>= fun u56 => (pure none) >>= fun u57 => ((pure (-(1 : Int))) >>= fun u55 => pure (some u55)) >>= fun u58 => cutW u56 u57 u58) >>= fun u60 => ((catS v_s_7 v_sign_35) >>= fun u61 => (pure [u59, u60, u61])))) >>= fun u64 => ((pure v_x_26) >>= fun u62 => (pure (2 : Int)) >>= fun u63 => pure (if u63 < u62 then u63 else u62)) >>= fun u65 => idx u64 u65) >>= fun v_name_here_66 => (pure (v_name_here_66))) else (pure (v_name_here_48))) >>= fun v_o_53 : Str => (m__law_words_j2 v_s_25 v_o_53))))
def m__law_words_j4 (t : Int × Int × Unit) (v_letters_1 : Str) (v_size_4 : Int) (v_s_7 : (Str)) : W (List Str) :=
  (((divI t.1 (2 : Int)) >>= fun u20 => (pure v_size_4) >>= fun u21 => modI u20 u21) >>= fun v_at_22 => ((pure []) >>= fun v_made_23 => ((((pure t.2.1) >>= fun u24 => rangeW 0 u24) >>= fun xs => W.foldM (fun (v_s_25 : (List Str)) (v_x_26 : Int) => (m__law_words_b3 t v_letters_1 v_s_7 v_at_22 v_s_25 v_x_26)) (v_made_23) xs) >>= fun v_s_25 => ((pure v_s_25) >>= fun u69 => pure u69))))
def m__law_words (t : Int × Int × Unit) : W (List Str) :=
  ((pure ("abcdefghijklmnopqrstuvwxyz" : Str)) >>= fun v_letters_1 => (((pure (2 : Int)) >>= fun u2 => (modI t.1 (6 : Int)) >>= fun u3 => pure (u2 + u3)) >>= fun v_size_4 => ((pure ("" : Str)) >>= fun v_word_5 => ((((pure v_size_4) >>= fun u6 => rangeW 0 u6) >>= fun xs => W.foldM (fun (v_s_7 : Str) (v_x_8 : Int) => (m__law_words_b1 t v_letters_1 v_s_7 v_x_8)) (v_word_5) xs) >>= fun v_s_7 => (m__law_words_j4 t v_letters_1 v_size_4 v_s_7)))))
theorem w__law_words {M : Mc} (b_range : M.mg "range" = none) (b_min : M.mg "min" = none) (F : FunM M "_law_words" (top 27) ["_law_cell_here", "_law_many"]) : FnV M "_law_words" 1 2 (fun (fr : Addr → Prop) (t : Int × Int × Unit) => [rI t.1, rI t.2.1]) (fun fr => (rN fr rS)) m__law_words := by
  refine FnV.ofBody (N := ["_law_cell_here", "_law_many", "_law_letters", "_law_size", "_law_word", "_law_k", "_law_at", "_law_made", "_law_sign", "_law_name_here"]) F (⟨rfl, rfl, rfl, by decide +kernel, rfl, by decide +kernel, by decide +kernel⟩ : FnScope ["_law_cell_here", "_law_many", "_law_letters", "_law_size", "_law_word", "_law_k", "_law_at", "_law_made", "_law_sign", "_law_name_here"] ["_law_cell_here", "_law_many"] _) rfl (fun _ _ => rfl) (fun fr t => ?_)
  refine Ex.set (i := 2) (ρ := rS) rfl (stoOf rfl) Ev.str (fun v_letters_1 => ?_)
  refine Ex.set (i := 3) (ρ := rI) rfl (stoOf rfl) (Ev.add Ev.int (Ev.modP (Ev.nameP (i := 0) rfl rfl rfl rfl) Ev.int)) (fun v_size_4 => ?_)
  refine Ex.set (i := 4) (ρ := rS) rfl (stoOf rfl) Ev.str (fun v_word_5 => ?_)
  refine Ex.seq (J1 := fun v_s_7 : Str => .nx [.val (rI t.1), .val (rI t.2.1), .val (rS v_letters_1), .val (rI v_size_4), .val (rS v_s_7), .no, .no, .no, .no, .no]) (Ex1.for (fun v_s_7 : Str => [.val (rI t.1), .val (rI t.2.1), .val (rS v_letters_1), .val (rI v_size_4), .val (rS v_s_7), .no, .no, .no, .no, .no]) (s0 := (v_word_5)) (EvI.range1 (bt_range rfl b_range) (Ev.nameP (i := 3) rfl rfl rfl rfl) (fun _ _ => rfl)) (EvG.name (i := 5) (r := rI) rfl (stoOf rfl)) (.cons .rf (.cons .rf (.cons .rf (.cons .rf (.cons .rf (.cons .no (.cons .no (.cons .no (.cons .no (.cons .no .nil)))))))))) (fun v_s_7 v_x_8 => ?_)) (fun v_s_7 => ?_)
  ·
    refine Ex.set (i := 4) (ρ := rS) rfl (stoOf rfl) (Ev.cat (Ev.nameP (i := 4) rfl rfl rfl rfl) (Ev.ixS (Ev.nameP (i := 2) rfl rfl rfl rfl) (Ev.mod (Ev.add (Ev.divP (Ev.nameP (i := 0) rfl rfl rfl rfl) Ev.int) (Ev.mul (Ev.nameP (i := 5) rfl rfl rfl rfl) (Ev.divP (Ev.nameP (i := 0) rfl rfl rfl rfl) Ev.int))) Ev.int))) (fun v_word_19 => ?_)
    exact Ex.nilLp rfl (.cons .rf (.cons .rf (.cons .rf (.cons .rf (.cons .rf (.cons .no (.cons .no (.cons .no (.cons .no (.cons .no .nil))))))))))
  show Ex _ _ _ _ _
  refine Ex.set (i := 6) (ρ := rI) rfl (stoOf rfl) (Ev.mod (Ev.divP (Ev.nameP (i := 0) rfl rfl rfl rfl) Ev.int) (Ev.nameP (i := 3) rfl rfl rfl rfl)) (fun v_at_22 => ?_)
  refine Ex.setO (i := 7) (O := oL fr rS) rfl (stoOf rfl) EvO.nil (fun v_made_23 => ?_)
  refine Ex.seq (J1 := fun v_s_25 : (List Str) => .nx [.val (rI t.1), .val (rI t.2.1), .val (rS v_letters_1), .val (rI v_size_4), .val (rS v_s_7), .no, .val (rI v_at_22), .own (oL fr rS v_s_25), .no, .no]) (Ex1.for (fun v_s_25 : (List Str) => [.val (rI t.1), .val (rI t.2.1), .val (rS v_letters_1), .val (rI v_size_4), .val (rS v_s_7), .no, .val (rI v_at_22), .own (oL fr rS v_s_25), .no, .no]) (s0 := (v_made_23)) (EvI.range1 (bt_range rfl b_range) (Ev.nameP (i := 1) rfl rfl rfl rfl) (fun _ _ => rfl)) (EvG.name (i := 5) (r := rI) rfl (stoOf rfl)) (.cons .rf (.cons .rf (.cons .rf (.cons .rf (.cons .rf (.cons .no (.cons .rf (.cons .rf (.cons .no (.cons .no .nil)))))))))) (fun v_s_25 v_x_26 => ?_)) (fun v_s_25 => ?_)
  ·
    refine Ex.set (i := 8) (ρ := rS) rfl (stoOf rfl) (Ev.ixS (Ev.nameP (i := 2) rfl rfl rfl rfl) (Ev.mod (Ev.add (Ev.add (Ev.divP (Ev.nameP (i := 0) rfl rfl rfl rfl) Ev.int) (Ev.mulP Ev.int (Ev.nameP (i := 5) rfl rfl rfl rfl))) Ev.int) Ev.int)) (fun v_sign_35 => ?_)
    refine Ex.set (i := 9) (ρ := rS) rfl (stoOf rfl) (Ev.cat (Ev.cat (Ev.sliceS (Ev.nameP (i := 4) rfl rfl rfl rfl) EvP.none (EvP.some (Ev.nameP (i := 6) rfl rfl rfl rfl))) (Ev.nameP (i := 8) rfl rfl rfl rfl)) (Ev.sliceS (Ev.nameP (i := 4) rfl rfl rfl rfl) (EvP.some (Ev.addP (Ev.nameP (i := 6) rfl rfl rfl rfl) Ev.int)) EvP.none)) (fun v_name_here_48 => ?_)
    refine Ex.seq (J1 := fun v_o_53 : Str => .nx [.val (rI t.1), .val (rI t.2.1), .val (rS v_letters_1), .val (rI v_size_4), .val (rS v_s_7), .val (rI v_x_26), .val (rI v_at_22), .own (oL fr rS v_s_25), .val (rS v_sign_35), .val (rS v_o_53)]) (Ex1.ite (EvT.cmp (Ev.eqI (Ev.mod (Ev.divP (Ev.nameP (i := 0) rfl rfl rfl rfl) Ev.int) Ev.int) Ev.int)) ?_ ?_) (fun v_o_53 => ?_)
    ·
      refine Ex.set (i := 9) (ρ := rS) rfl (stoOf rfl) (Ev.ixL (Ev.sub (subNL subR) (EvO.list (EvO.list3 (Ev.nameP (i := 4) rfl rfl rfl rfl) (Ev.sliceS (Ev.nameP (i := 4) rfl rfl rfl rfl) EvP.none (EvP.some (Ev.negP Ev.int))) (Ev.catP (Ev.nameP (i := 4) rfl rfl rfl rfl) (Ev.nameP (i := 8) rfl rfl rfl rfl)) (fun _ _ => rfl) (fun _ _ => rfl) (fun _ _ => rfl)))) (Ev.min2 (bt_min rfl b_min) (Ev.nameP (i := 5) rfl rfl rfl rfl) Ev.int (fun _ _ => rfl) (fun _ _ => rfl))) (fun v_name_here_66 => ?_)
      exact Ex.nil rfl (.cons .rf (.cons .rf (.cons .rf (.cons .rf (.cons .rf (.cons .rf (.cons .rf (.cons .rf (.cons .rf (.cons .rf .nil))))))))))
    ·
      exact Ex.nil rfl (.cons .rf (.cons .rf (.cons .rf (.cons .rf (.cons .rf (.cons .rf (.cons .rf (.cons .rf (.cons .rf (.cons .rf .nil))))))))))
    show Ex _ _ _ _ _
    refine Ex.append (i := 7) (r := rS) rfl (visOf rfl) rfl (Ev.nameP (i := 9) rfl rfl rfl rfl) (fun _ _ => rfl) (fun u67 => ?_)
    exact Ex.nilLp rfl (.cons .rf (.cons .rf (.cons .rf (.cons .rf (.cons .rf (.cons .no (.cons .rf (.cons .rf (.cons .no (.cons .no .nil))))))))))
  show Ex _ _ _ _ _
  refine Ex.freeze (i := 7) rfl ?_
  show Ex _ [.val (rI t.1), .val (rI t.2.1), .val (rS v_letters_1), .val (rI v_size_4), .val (rS v_s_7), .no, .val (rI v_at_22), .val ((rN fr rS) v_s_25), .no, .no] _ _ _
  exact Ex.ret (ρ := (rN fr rS)) (fun u69 => u69) (fun _ => rfl) (Ev.nameP (i := 7) rfl rfl rfl rfl)

def m__law_work_j1 (v_s_4 : (Int × (List (Str × Int)) × (List (Str × Int)))) (v_x_5 : (Int × Str)) (v_cell_here_8 : Int) (v_o_34 : (Int)) (v_o_46 : ((List (Str × Int)))) : W (Int × (List (Str × Int)) × (List (Str × Int))) :=
  ((((((modI v_cell_here_8 (7 : Int)) >>= fun u50 => (pure (2 : Int)) >>= fun u51 => pure (decide (u51 < u50))) >>= fun u54 => if u54 = true then ((modI v_cell_here_8 (7 : Int)) >>= fun u52 => (pure (5 : Int)) >>= fun u53 => pure (decide (u52 < u53))) else pure false) >>= fun u57 => if u57 = true then pure true else ((modI v_cell_here_8 (7 : Int)) >>= fun u55 => (pure (6 : Int)) >>= fun u56 => pure (decide (u55 = u56)))) >>= fun u59 => if u59 = true then ((pure (v_x_5.2, v_o_34)) >>= fun u60 => W.req (v_s_4.2.2.length ≤ 1000000) ((pure ((v_s_4.2.2 ++ [u60]))))) else (pure (v_s_4.2.2))) >>= fun v_o_58 : (List (Str × Int)) => (pure (v_cell_here_8, v_o_46, v_o_58)))
def m__law_work_j2 (v_s_4 : (Int × (List (Str × Int)) × (List (Str × Int)))) (v_x_5 : (Int × Str)) (v_cell_here_8 : Int) (v_o_23 : (Int)) (v_o_34 : (Int)) : W (Int × (List (Str × Int)) × (List (Str × Int))) :=
  (((((modI v_cell_here_8 (7 : Int)) >>= fun u41 => (pure (3 : Int)) >>= fun u42 => pure (decide (u41 < u42))) >>= fun u45 => if u45 = true then pure true else ((modI v_cell_here_8 (7 : Int)) >>= fun u43 => (pure (6 : Int)) >>= fun u44 => pure (decide (u43 = u44)))) >>= fun u47 => if u47 = true then ((pure (v_x_5.2, v_o_23)) >>= fun u48 => W.req (v_s_4.2.1.length ≤ 1000000) ((pure ((v_s_4.2.1 ++ [u48]))))) else (pure (v_s_4.2.1))) >>= fun v_o_46 : (List (Str × Int)) => (m__law_work_j1 v_s_4 v_x_5 v_cell_here_8 v_o_34 v_o_46))
def m__law_work_j3 (t : Int × Str × (List Str) × Int × Unit) (v_s_4 : (Int × (List (Str × Int)) × (List (Str × Int)))) (v_x_5 : (Int × Str)) (v_cell_here_8 : Int) (v_other_18 : Int) (v_o_23 : (Int)) : W (Int × (List (Str × Int)) × (List (Str × Int))) :=
  (((((divI v_cell_here_8 (63 : Int)) >>= fun u30 => (pure (6 : Int)) >>= fun u31 => modI u30 u31) >>= fun u32 => (pure (1 : Int)) >>= fun u33 => pure (decide (u32 = u33))) >>= fun u35 => if u35 = true then (((mulI v_other_18 t.2.2.2.1) >>= fun u38 => ((divI v_cell_here_8 (378 : Int)) >>= fun u36 => (pure (5 : Int)) >>= fun u37 => modI u36 u37) >>= fun u39 => pure (u38 + u39)) >>= fun v_other_40 => (pure (v_other_40))) else (pure (v_other_18))) >>= fun v_o_34 : Int => (m__law_work_j2 v_s_4 v_x_5 v_cell_here_8 v_o_23 v_o_34))
def m__law_work_b4 (t : Int × Str × (List Str) × Int × Unit) (v_s_4 : (Int × (List (Str × Int)) × (List (Str × Int)))) (v_x_5 : (Int × Str)) : W (Int × (List (Str × Int)) × (List (Str × Int))) :=
  (((pure v_s_4.1) >>= fun u6 => (modI v_x_5.1 (3 : Int)) >>= fun u7 => m__law_next (u6, u7, ())) >>= fun v_cell_here_8 => (((pure (1 : Int)) >>= fun u11 => ((divI v_cell_here_8 (7 : Int)) >>= fun u9 => (pure (3 : Int)) >>= fun u10 => modI u9 u10) >>= fun u12 => pure (u11 + u12)) >>= fun v_one_13 => (((pure (1 : Int)) >>= fun u16 => ((divI v_cell_here_8 (21 : Int)) >>= fun u14 => (pure (3 : Int)) >>= fun u15 => modI u14 u15) >>= fun u17 => pure (u16 + u17)) >>= fun v_other_18 => (((((divI v_cell_here_8 (63 : Int)) >>= fun u19 => (pure (6 : Int)) >>= fun u20 => modI u19 u20) >>= fun u21 => (pure (0 : Int)) >>= fun u22 => pure (decide (u21 = u22))) >>= fun u24 => if u24 = true then (((mulI v_one_13 t.2.2.2.1) >>= fun u27 => ((divI v_cell_here_8 (378 : Int)) >>= fun u25 => (pure (5 : Int)) >>= fun u26 => modI u25 u26) >>= fun u28 => pure (u27 + u28)) >>= fun v_one_29 => (pure (v_one_29))) else (pure (v_one_13))) >>= fun v_o_23 : Int => (m__law_work_j3 t v_s_4 v_x_5 v_cell_here_8 v_other_18 v_o_23)))))
def m__law_work_j5 (t : Int × Str × (List Str) × Int × Unit) (v_s_4 : (Int × (List (Str × Int)) × (List (Str × Int)))) : W (Str × (List (Str × Int)) × (List (Str × Int))) :=
  (((((divI v_s_4.1 (11 : Int)) >>= fun u62 => (pure (2 : Int)) >>= fun u63 => modI u62 u63) >>= fun u64 => (pure (1 : Int)) >>= fun u65 => pure (decide (u64 = u65))) >>= fun u67 => if u67 = true then (pure (v_s_4.2.1.reverse, v_s_4.2.2.reverse)) else (pure (v_s_4.2.1, v_s_4.2.2))) >>= fun v_o_66 : (List (Str × Int)) × (List (Str × Int)) => ((pure (t.2.1, v_o_66.1, v_o_66.2)) >>= fun u68 => pure u68))
def m__law_work (t : Int × Str × (List Str) × Int × Unit) : W (Str × (List (Str × Int)) × (List (Str × Int))) :=
  ((pure []) >>= fun v_uses_1 => ((pure []) >>= fun v_makes_2 => ((((pure t.2.2.1) >>= fun u3 => pure (Y.enum u3)) >>= fun xs => W.foldM (fun (v_s_4 : Int × (List (Str × Int)) × (List (Str × Int))) (v_x_5 : (Int × Str)) => (m__law_work_b4 t v_s_4 v_x_5)) (t.1, v_uses_1, v_makes_2) xs) >>= fun v_s_4 => (m__law_work_j5 t v_s_4))))
theorem w__law_work {M : Mc} (b_enumerate : M.mg "enumerate" = none) (h__law_next : FnV M "_law_next" 1 2 (fun (fr : Addr → Prop) (t : Int × Int × Unit) => [rI t.1, rI t.2.1]) (fun fr => rI) m__law_next) (F : FunM M "_law_work" (top 28) ["_law_cell_here", "_law_name_here", "_law_goods", "_law_wide"]) : FnV M "_law_work" 2 4 (fun (fr : Addr → Prop) (t : Int × Str × (List Str) × Int × Unit) => [rI t.1, rS t.2.1, (rL M.K rS) t.2.2.1, rI t.2.2.2.1]) (fun fr => (rX3 fr rS (rN fr (rX2 fr rS rI)) (rN fr (rX2 fr rS rI)))) m__law_work := by
  refine FnV.ofBody (N := ["_law_cell_here", "_law_name_here", "_law_goods", "_law_wide", "_law_uses", "_law_makes", "_law_k", "_law_good", "_law_one", "_law_other"]) F (⟨rfl, rfl, rfl, by decide +kernel, rfl, by decide +kernel, by decide +kernel⟩ : FnScope ["_law_cell_here", "_law_name_here", "_law_goods", "_law_wide", "_law_uses", "_law_makes", "_law_k", "_law_good", "_law_one", "_law_other"] ["_law_cell_here", "_law_name_here", "_law_goods", "_law_wide"] _) rfl (fun _ _ => rfl) (fun fr t => ?_)
  refine Ex.setO (i := 4) (O := oL fr (rX2 fr rS rI)) rfl (stoOf rfl) EvO.nil (fun v_uses_1 => ?_)
  refine Ex.setO (i := 5) (O := oL fr (rX2 fr rS rI)) rfl (stoOf rfl) EvO.nil (fun v_makes_2 => ?_)
  refine Ex.seq (J1 := fun v_s_4 : Int × (List (Str × Int)) × (List (Str × Int)) => .nx [.val (rI v_s_4.1), .val (rS t.2.1), .val ((rL M.K rS) t.2.2.1), .val (rI t.2.2.2.1), .own (oL fr (rX2 fr rS rI) v_s_4.2.1), .own (oL fr (rX2 fr rS rI) v_s_4.2.2), .no, .no, .no, .no]) (Ex1.for (fun v_s_4 : Int × (List (Str × Int)) × (List (Str × Int)) => [.val (rI v_s_4.1), .val (rS t.2.1), .val ((rL M.K rS) t.2.2.1), .val (rI t.2.2.2.1), .own (oL fr (rX2 fr rS rI) v_s_4.2.1), .own (oL fr (rX2 fr rS rI) v_s_4.2.2), .no, .no, .no, .no]) (s0 := (t.1, v_uses_1, v_makes_2)) (EvI.enum (bt_enumerate rfl b_enumerate) (Ev.nameP (i := 2) rfl rfl rfl rfl) (fun _ _ => rfl)) (EvG.tup2 (i := 6) (j := 7) rfl rfl (stoOf rfl) (stoOf rfl)) (.cons .rf (.cons .rf (.cons .rf (.cons .rf (.cons .rf (.cons .rf (.cons .no (.cons .no (.cons .no (.cons .no .nil)))))))))) (fun v_s_4 v_x_5 => ?_)) (fun v_s_4 => ?_)
  ·
    refine Ex.set (i := 0) (ρ := rI) rfl (stoOf rfl) (Ev.call2 (hd := rfl) (ρ := fun fr => rI) (mf := m__law_next) (ra := fun fr => rI) (rb := fun fr => rI) h__law_next (Nat.le_of_ble_eq_true rfl) rfl (Ev.nameP (i := 0) rfl rfl rfl rfl) (Ev.modP (Ev.nameP (i := 6) rfl rfl rfl rfl) Ev.int) (fun _ _ => rfl) (fun _ _ => rfl)) (fun v_cell_here_8 => ?_)
    refine Ex.set (i := 8) (ρ := rI) rfl (stoOf rfl) (Ev.add Ev.int (Ev.mod (Ev.divP (Ev.nameP (i := 0) rfl rfl rfl rfl) Ev.int) Ev.int)) (fun v_one_13 => ?_)
    refine Ex.set (i := 9) (ρ := rI) rfl (stoOf rfl) (Ev.add Ev.int (Ev.mod (Ev.divP (Ev.nameP (i := 0) rfl rfl rfl rfl) Ev.int) Ev.int)) (fun v_other_18 => ?_)
    refine Ex.seq (J1 := fun v_o_23 : Int => .nx [.val (rI v_cell_here_8), .val (rS t.2.1), .val ((rL M.K rS) t.2.2.1), .val (rI t.2.2.2.1), .own (oL fr (rX2 fr rS rI) v_s_4.2.1), .own (oL fr (rX2 fr rS rI) v_s_4.2.2), .val (rI v_x_5.1), .val (rS v_x_5.2), .val (rI v_o_23), .val (rI v_other_18)]) (Ex1.ite (EvT.cmp (Ev.eqI (Ev.mod (Ev.divP (Ev.nameP (i := 0) rfl rfl rfl rfl) Ev.int) Ev.int) Ev.int)) ?_ ?_) (fun v_o_23 => ?_)
    ·
      refine Ex.set (i := 8) (ρ := rI) rfl (stoOf rfl) (Ev.add (Ev.mulP (Ev.nameP (i := 8) rfl rfl rfl rfl) (Ev.nameP (i := 3) rfl rfl rfl rfl)) (Ev.mod (Ev.divP (Ev.nameP (i := 0) rfl rfl rfl rfl) Ev.int) Ev.int)) (fun v_one_29 => ?_)
      exact Ex.nil rfl (.cons .rf (.cons .rf (.cons .rf (.cons .rf (.cons .rf (.cons .rf (.cons .rf (.cons .rf (.cons .rf (.cons .rf .nil))))))))))
    ·
      exact Ex.nil rfl (.cons .rf (.cons .rf (.cons .rf (.cons .rf (.cons .rf (.cons .rf (.cons .rf (.cons .rf (.cons .rf (.cons .rf .nil))))))))))
    show Ex _ _ _ _ _
    refine Ex.seq (J1 := fun v_o_34 : Int => .nx [.val (rI v_cell_here_8), .val (rS t.2.1), .val ((rL M.K rS) t.2.2.1), .val (rI t.2.2.2.1), .own (oL fr (rX2 fr rS rI) v_s_4.2.1), .own (oL fr (rX2 fr rS rI) v_s_4.2.2), .val (rI v_x_5.1), .val (rS v_x_5.2), .val (rI v_o_23), .val (rI v_o_34)]) (Ex1.ite (EvT.cmp (Ev.eqI (Ev.mod (Ev.divP (Ev.nameP (i := 0) rfl rfl rfl rfl) Ev.int) Ev.int) Ev.int)) ?_ ?_) (fun v_o_34 => ?_)
    ·
      refine Ex.set (i := 9) (ρ := rI) rfl (stoOf rfl) (Ev.add (Ev.mulP (Ev.nameP (i := 9) rfl rfl rfl rfl) (Ev.nameP (i := 3) rfl rfl rfl rfl)) (Ev.mod (Ev.divP (Ev.nameP (i := 0) rfl rfl rfl rfl) Ev.int) Ev.int)) (fun v_other_40 => ?_)
      exact Ex.nil rfl (.cons .rf (.cons .rf (.cons .rf (.cons .rf (.cons .rf (.cons .rf (.cons .rf (.cons .rf (.cons .rf (.cons .rf .nil))))))))))
    ·
      exact Ex.nil rfl (.cons .rf (.cons .rf (.cons .rf (.cons .rf (.cons .rf (.cons .rf (.cons .rf (.cons .rf (.cons .rf (.cons .rf .nil))))))))))
    show Ex _ _ _ _ _
    refine Ex.seq (J1 := fun v_o_46 : (List (Str × Int)) => .nx [.val (rI v_cell_here_8), .val (rS t.2.1), .val ((rL M.K rS) t.2.2.1), .val (rI t.2.2.2.1), .own (oL fr (rX2 fr rS rI) v_o_46), .own (oL fr (rX2 fr rS rI) v_s_4.2.2), .val (rI v_x_5.1), .val (rS v_x_5.2), .val (rI v_o_23), .val (rI v_o_34)]) (Ex1.ite (EvW.t (EvW.or (EvT.cmp (Ev.lt (Ev.modP (Ev.nameP (i := 0) rfl rfl rfl rfl) Ev.int) Ev.int)) (EvW.or1 (EvT.cmp (Ev.eqI (Ev.modP (Ev.nameP (i := 0) rfl rfl rfl rfl) Ev.int) Ev.int))))) ?_ ?_) (fun v_o_46 => ?_)
    ·
      refine Ex.append (i := 4) (r := (rX2 fr rS rI)) rfl (visOf rfl) rfl (Ev.tupX2P (Ev.nameP (i := 7) rfl rfl rfl rfl) (Ev.nameP (i := 8) rfl rfl rfl rfl) (fun _ _ => rfl) (fun _ _ => rfl)) (fun _ _ => rfl) (fun u48 => ?_)
      exact Ex.nil rfl (.cons .rf (.cons .rf (.cons .rf (.cons .rf (.cons .rf (.cons .rf (.cons .rf (.cons .rf (.cons .rf (.cons .rf .nil))))))))))
    ·
      exact Ex.nil rfl (.cons .rf (.cons .rf (.cons .rf (.cons .rf (.cons .rf (.cons .rf (.cons .rf (.cons .rf (.cons .rf (.cons .rf .nil))))))))))
    show Ex _ _ _ _ _
    refine Ex.seq (J1 := fun v_o_58 : (List (Str × Int)) => .nx [.val (rI v_cell_here_8), .val (rS t.2.1), .val ((rL M.K rS) t.2.2.1), .val (rI t.2.2.2.1), .own (oL fr (rX2 fr rS rI) v_o_46), .own (oL fr (rX2 fr rS rI) v_o_58), .val (rI v_x_5.1), .val (rS v_x_5.2), .val (rI v_o_23), .val (rI v_o_34)]) (Ex1.ite (EvW.t (EvW.or (EvW.t (EvW.and (EvT.cmp (Ev.gt (Ev.modP (Ev.nameP (i := 0) rfl rfl rfl rfl) Ev.int) Ev.int)) (EvW.and1 (EvT.cmp (Ev.lt (Ev.modP (Ev.nameP (i := 0) rfl rfl rfl rfl) Ev.int) Ev.int))))) (EvW.or1 (EvT.cmp (Ev.eqI (Ev.modP (Ev.nameP (i := 0) rfl rfl rfl rfl) Ev.int) Ev.int))))) ?_ ?_) (fun v_o_58 => ?_)
    ·
      refine Ex.append (i := 5) (r := (rX2 fr rS rI)) rfl (visOf rfl) rfl (Ev.tupX2P (Ev.nameP (i := 7) rfl rfl rfl rfl) (Ev.nameP (i := 9) rfl rfl rfl rfl) (fun _ _ => rfl) (fun _ _ => rfl)) (fun _ _ => rfl) (fun u60 => ?_)
      exact Ex.nil rfl (.cons .rf (.cons .rf (.cons .rf (.cons .rf (.cons .rf (.cons .rf (.cons .rf (.cons .rf (.cons .rf (.cons .rf .nil))))))))))
    ·
      exact Ex.nil rfl (.cons .rf (.cons .rf (.cons .rf (.cons .rf (.cons .rf (.cons .rf (.cons .rf (.cons .rf (.cons .rf (.cons .rf .nil))))))))))
    show Ex _ _ _ _ _
    exact Ex.nilLp rfl (.cons .rf (.cons .rf (.cons .rf (.cons .rf (.cons .rf (.cons .rf (.cons .no (.cons .no (.cons .no (.cons .no .nil))))))))))
  show Ex _ _ _ _ _
  refine Ex.seq (J1 := fun v_o_66 : (List (Str × Int)) × (List (Str × Int)) => .nx [.val (rI v_s_4.1), .val (rS t.2.1), .val ((rL M.K rS) t.2.2.1), .val (rI t.2.2.2.1), .own (oL fr (rX2 fr rS rI) v_o_66.1), .own (oL fr (rX2 fr rS rI) v_o_66.2), .no, .no, .no, .no]) (Ex1.ite (EvT.cmp (Ev.eqI (Ev.mod (Ev.divP (Ev.nameP (i := 0) rfl rfl rfl rfl) Ev.int) Ev.int) Ev.int)) ?_ ?_) (fun v_o_66 => ?_)
  ·
    refine Ex.rev (i := 4) (r := (rX2 fr rS rI)) rfl rfl rfl rfl ?_
    refine Ex.rev (i := 5) (r := (rX2 fr rS rI)) rfl rfl rfl rfl ?_
    exact Ex.nil rfl (.cons .rf (.cons .rf (.cons .rf (.cons .rf (.cons .rf (.cons .rf (.cons .no (.cons .no (.cons .no (.cons .no .nil))))))))))
  ·
    exact Ex.nil rfl (.cons .rf (.cons .rf (.cons .rf (.cons .rf (.cons .rf (.cons .rf (.cons .no (.cons .no (.cons .no (.cons .no .nil))))))))))
  show Ex _ _ _ _ _
  refine Ex.freeze (i := 4) rfl ?_
  show Ex _ [.val (rI v_s_4.1), .val (rS t.2.1), .val ((rL M.K rS) t.2.2.1), .val (rI t.2.2.2.1), .val ((rN fr (rX2 fr rS rI)) v_o_66.1), .own (oL fr (rX2 fr rS rI) v_o_66.2), .no, .no, .no, .no] _ _ _
  refine Ex.freeze (i := 5) rfl ?_
  show Ex _ [.val (rI v_s_4.1), .val (rS t.2.1), .val ((rL M.K rS) t.2.2.1), .val (rI t.2.2.2.1), .val ((rN fr (rX2 fr rS rI)) v_o_66.1), .val ((rN fr (rX2 fr rS rI)) v_o_66.2), .no, .no, .no, .no] _ _ _
  exact Ex.ret (ρ := (rX3 fr rS (rN fr (rX2 fr rS rI)) (rN fr (rX2 fr rS rI)))) (fun u68 => u68) (fun _ => rfl) (Ev.tupX3P (Ev.nameP (i := 1) rfl rfl rfl rfl) (Ev.nameP (i := 4) rfl rfl rfl rfl) (Ev.nameP (i := 5) rfl rfl rfl rfl) (fun _ _ => rfl) (fun _ _ => rfl) (fun _ _ => rfl))

def m__law_pieces_b1 (v_s_2 : (Str)) (v_x_3 : (Str × Int)) : W (Str) :=
  (((((catS v_s_2 (" " : Str)) >>= fun u5 => ((pure v_x_3.2) >>= fun u4 => (strW u4)) >>= fun u6 => catS u5 u6) >>= fun u7 => (pure (" " : Str)) >>= fun u8 => catS u7 u8) >>= fun u9 => (pure v_x_3.1) >>= fun u10 => catS u9 u10) >>= fun v_made_11 => (pure (v_made_11)))
def m__law_pieces (t : (List (Str × Int)) × Unit) : W Str :=
  ((pure ("" : Str)) >>= fun v_made_1 => (((pure t.1) >>= fun xs => W.foldM (fun (v_s_2 : Str) (v_x_3 : (Str × Int)) => (m__law_pieces_b1 v_s_2 v_x_3)) (v_made_1) xs) >>= fun v_s_2 => ((pure v_s_2) >>= fun u12 => pure u12)))
theorem w__law_pieces {M : Mc} (b_str : M.mg "str" = none) (F : FunM M "_law_pieces" (top 29) ["_law_listed_here"]) : FnV M "_law_pieces" 1 1 (fun (fr : Addr → Prop) (t : (List (Str × Int)) × Unit) => [(rL M.K (rT2 M.K rS rI)) t.1]) (fun fr => rS) m__law_pieces := by
  refine FnV.ofBody (N := ["_law_listed_here", "_law_made", "_law_good", "_law_amount"]) F (⟨rfl, rfl, rfl, by decide +kernel, rfl, by decide +kernel, by decide +kernel⟩ : FnScope ["_law_listed_here", "_law_made", "_law_good", "_law_amount"] ["_law_listed_here"] _) rfl (fun _ _ => rfl) (fun fr t => ?_)
  refine Ex.set (i := 1) (ρ := rS) rfl (stoOf rfl) Ev.str (fun v_made_1 => ?_)
  refine Ex.seq (J1 := fun v_s_2 : Str => .nx [.val ((rL M.K (rT2 M.K rS rI)) t.1), .val (rS v_s_2), .no, .no]) (Ex1.for (fun v_s_2 : Str => [.val ((rL M.K (rT2 M.K rS rI)) t.1), .val (rS v_s_2), .no, .no]) (s0 := (v_made_1)) (EvI.list (Ev.nameP (i := 0) rfl rfl rfl rfl)) (EvG.tup2 (i := 2) (j := 3) rfl rfl (stoOf rfl) (stoOf rfl)) (.cons .rf (.cons .rf (.cons .no (.cons .no .nil)))) (fun v_s_2 v_x_3 => ?_)) (fun v_s_2 => ?_)
  ·
    refine Ex.set (i := 1) (ρ := rS) rfl (stoOf rfl) (Ev.cat (Ev.cat (Ev.cat (Ev.catP (Ev.nameP (i := 1) rfl rfl rfl rfl) Ev.str) (Ev.strI (bt_str rfl b_str) (Ev.nameP (i := 3) rfl rfl rfl rfl) (fun _ _ => rfl))) Ev.str) (Ev.nameP (i := 2) rfl rfl rfl rfl)) (fun v_made_11 => ?_)
    exact Ex.nilLp rfl (.cons .rf (.cons .rf (.cons .no (.cons .no .nil))))
  show Ex _ _ _ _ _
  exact Ex.ret (ρ := rS) (fun u12 => u12) (fun _ => rfl) (Ev.nameP (i := 1) rfl rfl rfl rfl)

def m__law_written (t : (Str × (List (Str × Int)) × (List (Str × Int))) × Unit) : W Str :=
  (((((catS t.1.1 (":" : Str)) >>= fun u2 => ((pure t.1.2.1) >>= fun u1 => m__law_pieces (u1, ())) >>= fun u3 => catS u2 u3) >>= fun u4 => (pure (" >" : Str)) >>= fun u5 => catS u4 u5) >>= fun u7 => ((pure t.1.2.2) >>= fun u6 => m__law_pieces (u6, ())) >>= fun u8 => catS u7 u8) >>= fun u9 => pure u9)
theorem w__law_written {M : Mc} (h__law_pieces : FnV M "_law_pieces" 1 1 (fun (fr : Addr → Prop) (t : (List (Str × Int)) × Unit) => [(rL M.K (rT2 M.K rS rI)) t.1]) (fun fr => rS) m__law_pieces) (F : FunM M "_law_written" (top 30) ["_law_work_here"]) : FnV M "_law_written" 2 1 (fun (fr : Addr → Prop) (t : (Str × (List (Str × Int)) × (List (Str × Int))) × Unit) => [(rT3 M.K rS (rL M.K (rT2 M.K rS rI)) (rL M.K (rT2 M.K rS rI))) t.1]) (fun fr => rS) m__law_written := by
  refine FnV.ofBody (N := ["_law_work_here"]) F (⟨rfl, rfl, rfl, by decide +kernel, rfl, by decide +kernel, by decide +kernel⟩ : FnScope ["_law_work_here"] ["_law_work_here"] _) rfl (fun _ _ => rfl) (fun fr t => ?_)
  exact Ex.ret (ρ := rS) (fun u9 => u9) (fun _ => rfl) (Ev.cat (Ev.cat (Ev.cat (Ev.catP (Ev.ixT3_0P (Ev.nameP (i := 0) rfl rfl rfl rfl)) Ev.str) (Ev.call1 (hd := rfl) (ρ := fun fr => rS) (mf := m__law_pieces) (ra := fun fr => (rL M.K (rT2 M.K rS rI))) h__law_pieces (Nat.le_of_ble_eq_true rfl) rfl (Ev.ixT3_1P (Ev.nameP (i := 0) rfl rfl rfl rfl)) (fun _ _ => rfl))) Ev.str) (Ev.call1 (hd := rfl) (ρ := fun fr => rS) (mf := m__law_pieces) (ra := fun fr => (rL M.K (rT2 M.K rS rI))) h__law_pieces (Nat.le_of_ble_eq_true rfl) rfl (Ev.ixT3_2P (Ev.nameP (i := 0) rfl rfl rfl rfl)) (fun _ _ => rfl)))

def m__law_name (t : Str × Unit) : W Bool :=
  ((((lenW t.1) >>= fun u1 => (pure (1 : Int)) >>= fun u2 => pure (decide (u1 < u2))) >>= fun u5 => if u5 = true then pure true else ((lenW t.1) >>= fun u3 => (pure (8 : Int)) >>= fun u4 => pure (decide (u4 < u3)))) >>= fun u6 => if u6 = true then ((pure false) >>= fun u7 => pure u7) else ((((((pure t.1) >>= fun u8 => W.req (u8.length ≤ sizeLine) (pure (signs u8))) >>= fun xs => W.noX (compM (fun v_x_9 => (((pure ("a" : Str)) >>= fun u10 => (pure v_x_9) >>= fun u11 => chW leStr leStr u10 u11 (pure ("z" : Str))) >>= fun u12 => pure (!u12))) (fun v_x_9 => (pure v_x_9)) xs)) >>= fun u13 => pure (u13.length : Int)) >>= fun u14 => (pure (0 : Int)) >>= fun u15 => pure (decide (u14 = u15))) >>= fun u16 => pure u16))
theorem w__law_name {M : Mc} (b_len : M.mg "len" = none) (F : FunM M "_law_name" (top 31) ["_law_word"]) : FnV M "_law_name" 1 1 (fun (fr : Addr → Prop) (t : Str × Unit) => [rS t.1]) (fun fr => rB) m__law_name := by
  refine FnV.ofBody (N := ["_law_word", "_law_sign"]) F (⟨rfl, rfl, rfl, by decide +kernel, rfl, by decide +kernel, by decide +kernel⟩ : FnScope ["_law_word", "_law_sign"] ["_law_word"] _) rfl (fun _ _ => rfl) (fun fr t => ?_)
  refine Ex.ifx (EvW.t (EvW.or (EvT.cmp (Ev.lt (Ev.lenSP (bt_len rfl b_len) (Ev.nameP (i := 0) rfl rfl rfl rfl) (fun _ _ => rfl)) Ev.int)) (EvW.or1 (EvT.cmp (Ev.gt (Ev.lenSP (bt_len rfl b_len) (Ev.nameP (i := 0) rfl rfl rfl rfl) (fun _ _ => rfl)) Ev.int))))) ?_ ?_
  ·
    exact Ex.ret (ρ := rB) (fun u7 => u7) (fun _ => rfl) Ev.bool
  exact Ex.ret (ρ := rB) (fun u16 => u16) (fun _ => rfl) (Ev.eqI (Ev.lenL (bt_len rfl b_len) (Ev.sub (subNL subR) (EvO.list (EvO.comp (LcOk.one (i := 1) rfl rfl (stoOf rfl) (fun _ h => nomatch h)) (EvI.str (Ev.nameP (i := 0) rfl rfl rfl rfl)) (fun v_x_9 => (EvTs.one (EvT.not (EvT.chain cr_leS cr_leS Ev.str (Ev.nameP (i := 1) rfl rfl rfl rfl) Ev.str)))) (fun v_x_9 => (Ev.nameP (i := 1) rfl rfl rfl rfl))))) (fun _ _ => rfl)) Ev.int)

def m__law_listed_b1 (t : (List Str) × Unit) (v_s_5 : ((List (Str × Int)))) (v_x_6 : Int) : W (Fl ((List (Str × Int))) (Option (List (Str × Int)))) :=
  (((pure (decide ((v_x_6 + (1 : Int)) = (t.1.length : Int)))) >>= fun u9 => if u9 = true then pure true else (((idx t.1 (v_x_6 + (1 : Int))) >>= fun u7 => m__law_name (u7, ())) >>= fun u8 => pure (!u8))) >>= fun u10 => if u10 = true then ((pure none) >>= fun u11 => pure (Fl.ret u11)) else ((idx t.1 v_x_6) >>= fun v_figures_12 => ((((lenW v_figures_12) >>= fun u13 => (pure (1 : Int)) >>= fun u14 => pure (decide (u13 < u14))) >>= fun u22 => if u22 = true then pure true else (((lenW v_figures_12) >>= fun u15 => (pure (30 : Int)) >>= fun u16 => pure (decide (u16 < u15))) >>= fun u21 => if u21 = true then pure true else (((pure v_figures_12) >>= fun u17 => (pure (0 : Int)) >>= fun u18 => idxS u17 u18) >>= fun u19 => (pure ("0" : Str)) >>= fun u20 => pure (decide (u19 = u20))))) >>= fun u23 => if u23 = true then ((pure none) >>= fun u24 => pure (Fl.ret u24)) else ((((((pure v_figures_12) >>= fun u25 => W.req (u25.length ≤ sizeLine) (pure (signs u25))) >>= fun xs => W.noX (compM (fun v_x_26 => ((pure v_x_26) >>= fun u27 => (pure ("0123456789" : Str)) >>= fun u28 => notInSgn u27 u28)) (fun v_x_26 => (pure v_x_26)) xs)) >>= fun u29 => pure (u29.length : Int)) >>= fun u30 => (pure (0 : Int)) >>= fun u31 => pure (decide (u31 < u30))) >>= fun u32 => if u32 = true then ((pure none) >>= fun u33 => pure (Fl.ret u33)) else (((idx t.1 (v_x_6 + (1 : Int))) >>= fun u35 => (((pure v_figures_12) >>= fun u34 => (intW u34)) >>= fun u36 => (pure (u35, u36)))) >>= fun u37 => W.req (v_s_5.length ≤ 1000000) ((pure (Fl.go ((v_s_5 ++ [u37]))))))))))
def m__law_listed (t : (List Str) × Unit) : W (Option (List (Str × Int))) :=
  ((pure []) >>= fun v_made_1 => (((((pure (0 : Int)) >>= fun u2 => (pure (t.1.length : Int)) >>= fun u3 => (pure (2 : Int)) >>= fun u4 => range3W u2 u3 u4) >>= fun xs => W.foldR (fun (v_s_5 : (List (Str × Int))) (v_x_6 : Int) => (m__law_listed_b1 t v_s_5 v_x_6)) (v_made_1) xs) >>= fun o => pure o.out) >>= fun o : ((List (Str × Int))) ⊕ (Option (List (Str × Int))) => match o with | .inl v_s_5 => (((pure v_s_5) >>= fun u39 => pure (some u39)) >>= fun u40 => pure u40) | .inr r => (pure r)))
theorem w__law_listed {M : Mc} (b_len : M.mg "len" = none) (b_range : M.mg "range" = none) (b_int : M.mg "int" = none) (h__law_name : FnV M "_law_name" 1 1 (fun (fr : Addr → Prop) (t : Str × Unit) => [rS t.1]) (fun fr => rB) m__law_name) (F : FunM M "_law_listed" (top 32) ["_law_words_here"]) : FnV M "_law_listed" 2 1 (fun (fr : Addr → Prop) (t : (List Str) × Unit) => [(rL M.K rS) t.1]) (fun fr => (rO (rN fr (rX2 fr rS rI)))) m__law_listed := by
  refine FnV.ofBody (N := ["_law_words_here", "_law_made", "_law_k", "_law_figures", "_law_sign"]) F (⟨rfl, rfl, rfl, by decide +kernel, rfl, by decide +kernel, by decide +kernel⟩ : FnScope ["_law_words_here", "_law_made", "_law_k", "_law_figures", "_law_sign"] ["_law_words_here"] _) rfl (fun _ _ => rfl) (fun fr t => ?_)
  refine Ex.setO (i := 1) (O := oL fr (rX2 fr rS rI)) rfl (stoOf rfl) EvO.nil (fun v_made_1 => ?_)
  refine Ex.seq (J1 := (outX (S := (List (Str × Int))) (ρ := (Option (List (Str × Int)))) (fun v_s_5 : (List (Str × Int)) => [.val ((rL M.K rS) t.1), .own (oL fr (rX2 fr rS rI) v_s_5), .no, .no, .no]) (fun r => (rO (rN fr (rX2 fr rS rI))) r))) (Ex1.forX (fun v_s_5 : (List (Str × Int)) => [.val ((rL M.K rS) t.1), .own (oL fr (rX2 fr rS rI) v_s_5), .no, .no, .no]) (fun r => (rO (rN fr (rX2 fr rS rI))) r) (s0 := (v_made_1)) (EvI.range3 (bt_range rfl b_range) Ev.int (Ev.lenLP (bt_len rfl b_len) (Ev.nameP (i := 0) rfl rfl rfl rfl) (fun _ _ => rfl)) Ev.int (fun _ _ => rfl) (fun _ _ => rfl) (fun _ _ => rfl)) (EvG.name (i := 2) (r := rI) rfl (stoOf rfl)) (.cons .rf (.cons .rf (.cons .no (.cons .no (.cons .no .nil))))) (fun v_s_5 v_x_6 => ?_)) (fun o => ?_)
  ·
    refine Ex.ifx (EvW.t (EvW.or (EvT.cmp (Ev.eqIP (Ev.addP (Ev.nameP (i := 2) rfl rfl rfl rfl) Ev.int) (Ev.lenLP (bt_len rfl b_len) (Ev.nameP (i := 0) rfl rfl rfl rfl) (fun _ _ => rfl)))) (EvW.or1 (EvT.not (EvT.val (Ev.call1 (hd := rfl) (ρ := fun fr => rB) (mf := m__law_name) (ra := fun fr => rS) h__law_name (Nat.le_of_ble_eq_true rfl) rfl (Ev.ixLP (Ev.nameP (i := 0) rfl rfl rfl rfl) (Ev.addP (Ev.nameP (i := 2) rfl rfl rfl rfl) Ev.int)) (fun _ _ => rfl))))))) ?_ ?_
    ·
      exact Ex.ret (ρ := (rO (rN fr (rX2 fr rS rI)))) (fun u11 => (Fl.ret u11)) (fun _ => rfl) Ev.none
    refine Ex.set (i := 3) (ρ := rS) rfl (stoOf rfl) (Ev.ixLP (Ev.nameP (i := 0) rfl rfl rfl rfl) (Ev.nameP (i := 2) rfl rfl rfl rfl)) (fun v_figures_12 => ?_)
    refine Ex.ifx (EvW.t (EvW.or (EvT.cmp (Ev.lt (Ev.lenSP (bt_len rfl b_len) (Ev.nameP (i := 3) rfl rfl rfl rfl) (fun _ _ => rfl)) Ev.int)) (EvW.or (EvT.cmp (Ev.gt (Ev.lenSP (bt_len rfl b_len) (Ev.nameP (i := 3) rfl rfl rfl rfl) (fun _ _ => rfl)) Ev.int)) (EvW.or1 (EvT.cmp (Ev.eqStr (Ev.ixS (Ev.nameP (i := 3) rfl rfl rfl rfl) Ev.int) Ev.str)))))) ?_ ?_
    ·
      exact Ex.ret (ρ := (rO (rN fr (rX2 fr rS rI)))) (fun u24 => (Fl.ret u24)) (fun _ => rfl) Ev.none
    refine Ex.ifx (EvT.cmp (Ev.gt (Ev.lenL (bt_len rfl b_len) (Ev.sub (subNL subR) (EvO.list (EvO.comp (LcOk.one (i := 4) rfl rfl (stoOf rfl) (fun _ h => nomatch h)) (EvI.str (Ev.nameP (i := 3) rfl rfl rfl rfl)) (fun v_x_26 => (EvTs.one (EvT.cmp (Ev.notInS (Ev.nameP (i := 4) rfl rfl rfl rfl) Ev.str)))) (fun v_x_26 => (Ev.nameP (i := 4) rfl rfl rfl rfl))))) (fun _ _ => rfl)) Ev.int)) ?_ ?_
    ·
      exact Ex.ret (ρ := (rO (rN fr (rX2 fr rS rI)))) (fun u33 => (Fl.ret u33)) (fun _ => rfl) Ev.none
    refine Ex.append (i := 1) (r := (rX2 fr rS rI)) rfl (visOf rfl) rfl (Ev.tupX2 (Ev.ixLP (Ev.nameP (i := 0) rfl rfl rfl rfl) (Ev.addP (Ev.nameP (i := 2) rfl rfl rfl rfl) Ev.int)) (Ev.intS (bt_int rfl b_int) (Ev.nameP (i := 3) rfl rfl rfl rfl) (fun _ _ => rfl)) (fun _ _ => rfl) (fun _ _ => rfl)) (fun _ _ => rfl) (fun u37 => ?_)
    exact Ex.nilLp rfl (.cons .rf (.cons .rf (.cons .no (.cons .no (.cons .no .nil)))))
  obtain v_s_5 | r := o
  ·
    show Ex _ _ _ _ _
    refine Ex.freeze (i := 1) rfl ?_
    exact Ex.ret (ρ := (rO (rN fr (rX2 fr rS rI)))) (fun u40 => u40) (fun _ => rfl) (Ev.someV subR (Ev.nameP (i := 1) rfl rfl rfl rfl))
  · exact ⟨_, rfl, rfl⟩

def m__law_due_b1 (v_x_55 : (Option (List (Str × Int)))) : W (Fl (Unit) ((Str × (List (Str × Int)) × (List (Str × Int))) ⊕ Str)) :=
  ((((pure v_x_55) >>= fun u56 => optG u56) >>= fun xs => W.noX (compM (fun v_x_57 => pure true) (fun v_x_57 => (pure v_x_57.1)) xs)) >>= fun v_goods_58 => ((((pure v_goods_58) >>= fun u59 => W.req (u59.length ≤ 1000) (pure ((unl u59).length : Int))) >>= fun u60 => (pure (v_goods_58.length : Int)) >>= fun u61 => pure (decide (u60 < u61))) >>= fun u62 => if u62 = true then (((pure ("good" : Str)) >>= fun u63 => pure (Sum.inr u63)) >>= fun u64 => pure (Fl.ret u64)) else (pure (Fl.go ()))))
def m__law_due_j2 (v_words_here_5 : (List Str)) (v_uses_39 : (Option (List (Str × Int)))) (v_makes_47 : (Option (List (Str × Int)))) : W ((Str × (List (Str × Int)) × (List (Str × Int))) ⊕ Str) :=
  (((((idx v_words_here_5 (0 : Int)) >>= fun u66 => (pure none) >>= fun u67 => ((pure (-(1 : Int))) >>= fun u65 => pure (some u65)) >>= fun u68 => cutW u66 u67 u68) >>= fun u71 => (((pure v_uses_39) >>= fun u69 => optG u69) >>= fun u72 => (((pure v_makes_47) >>= fun u70 => optG u70) >>= fun u73 => (pure (u71, u72, u73))))) >>= fun u74 => pure (Sum.inl u74)) >>= fun u75 => pure u75)
def m__law_due (t : Str × Unit) : W ((Str × (List (Str × Int)) × (List (Str × Int))) ⊕ Str) :=
  (((pure t.1) >>= fun u3 => (pure (" " : Str)) >>= fun u4 => W.req ((u4.length == 0) = false ∧ u3.length ≤ 1000000) (pure (Txt.split u3 u4))) >>= fun v_words_here_5 => (((((idx v_words_here_5 (0 : Int)) >>= fun u7 => ((pure (-(1 : Int))) >>= fun u6 => pure (some u6)) >>= fun u8 => (pure none) >>= fun u9 => cutW u7 u8 u9) >>= fun u10 => (pure (":" : Str)) >>= fun u11 => pure (!decide (u10 = u11))) >>= fun u18 => if u18 = true then pure true else ((((idx v_words_here_5 (0 : Int)) >>= fun u13 => (pure none) >>= fun u14 => ((pure (-(1 : Int))) >>= fun u12 => pure (some u12)) >>= fun u15 => cutW u13 u14 u15) >>= fun u16 => m__law_name (u16, ())) >>= fun u17 => pure (!u17))) >>= fun u19 => if u19 = true then (((pure ("text" : Str)) >>= fun u20 => pure (Sum.inr u20)) >>= fun u21 => pure u21) else ((((pure (v_words_here_5.length : Int)) >>= fun u22 => rangeW 0 u22) >>= fun xs => W.noX (compM (fun v_x_23 => ((idx v_words_here_5 v_x_23) >>= fun u24 => (pure (">" : Str)) >>= fun u25 => pure (decide (u24 = u25)))) (fun v_x_23 => (pure v_x_23)) xs)) >>= fun v_arrows_26 => (((pure (!decide ((v_arrows_26.length : Int) = (1 : Int)))) >>= fun u29 => if u29 = true then pure true else ((idx v_arrows_26 (0 : Int)) >>= fun u27 => (pure (0 : Int)) >>= fun u28 => pure (decide (u27 = u28)))) >>= fun u30 => if u30 = true then (((pure ("text" : Str)) >>= fun u31 => pure (Sum.inr u31)) >>= fun u32 => pure u32) else ((((pure v_words_here_5) >>= fun u35 => ((pure (1 : Int)) >>= fun u33 => pure (some u33)) >>= fun u36 => ((idx v_arrows_26 (0 : Int)) >>= fun u34 => pure (some u34)) >>= fun u37 => pure (cut u35 u36 u37)) >>= fun u38 => m__law_listed (u38, ())) >>= fun v_uses_39 => ((((pure v_words_here_5) >>= fun u43 => (((idx v_arrows_26 (0 : Int)) >>= fun u40 => (pure (1 : Int)) >>= fun u41 => pure (u40 + u41)) >>= fun u42 => pure (some u42)) >>= fun u44 => (pure none) >>= fun u45 => pure (cut u43 u44 u45)) >>= fun u46 => m__law_listed (u46, ())) >>= fun v_makes_47 => ((((pure v_uses_39) >>= fun u48 => pure u48.isNone) >>= fun u50 => if u50 = true then pure true else ((pure v_makes_47) >>= fun u49 => pure u49.isNone)) >>= fun u51 => if u51 = true then (((pure ("text" : Str)) >>= fun u52 => pure (Sum.inr u52)) >>= fun u53 => pure u53) else ((((pure [v_uses_39, v_makes_47]) >>= fun xs => W.foldR (fun (v_s_54 : Unit) (v_x_55 : (Option (List (Str × Int)))) => (m__law_due_b1 v_x_55)) () xs) >>= fun o => pure o.out) >>= fun o : (Unit) ⊕ ((Str × (List (Str × Int)) × (List (Str × Int))) ⊕ Str) => match o with | .inl v_s_54 => (m__law_due_j2 v_words_here_5 v_uses_39 v_makes_47) | .inr r => (pure r)))))))))
theorem w__law_due {M : Mc} (b_len : M.mg "len" = none) (b_range : M.mg "range" = none) (b_set : M.mg "set" = none) (h__law_name : FnV M "_law_name" 1 1 (fun (fr : Addr → Prop) (t : Str × Unit) => [rS t.1]) (fun fr => rB) m__law_name) (h__law_listed : FnV M "_law_listed" 2 1 (fun (fr : Addr → Prop) (t : (List Str) × Unit) => [(rL M.K rS) t.1]) (fun fr => (rO (rN fr (rX2 fr rS rI)))) m__law_listed) (F : FunM M "_law_due" (top 33) ["_law_text"]) : FnV M "_law_due" 3 1 (fun (fr : Addr → Prop) (t : Str × Unit) => [rS t.1]) (fun fr => (rV (rX3 fr rS (rN fr (rX2 fr rS rI)) (rN fr (rX2 fr rS rI))) rS)) m__law_due := by
  refine FnV.ofBody (N := ["_law_text", "_law_words_here", "_law_arrows", "_law_uses", "_law_makes", "_law_listed_here", "_law_goods", "_law_k", "_law_pair"]) F (⟨rfl, rfl, rfl, by decide +kernel, rfl, by decide +kernel, by decide +kernel⟩ : FnScope ["_law_text", "_law_words_here", "_law_arrows", "_law_uses", "_law_makes", "_law_listed_here", "_law_goods", "_law_k", "_law_pair"] ["_law_text"] _) rfl (fun _ _ => rfl) (fun fr t => ?_)
  refine Ex.set (i := 1) (ρ := (rN fr rS)) rfl (stoOf rfl) (EvO.list (EvO.split (Ev.nameP (i := 0) rfl rfl rfl rfl) Ev.str (fun _ _ => rfl))) (fun v_words_here_5 => ?_)
  refine Ex.ifx (EvW.t (EvW.or (EvT.cmp (Ev.neStr (Ev.sliceS (Ev.ixLP (Ev.sub (subNL subR) (Ev.nameP (i := 1) rfl rfl rfl rfl)) Ev.int) (EvP.some (Ev.negP Ev.int)) EvP.none) Ev.str)) (EvW.or1 (EvT.not (EvT.val (Ev.call1 (hd := rfl) (ρ := fun fr => rB) (mf := m__law_name) (ra := fun fr => rS) h__law_name (Nat.le_of_ble_eq_true rfl) rfl (Ev.sliceS (Ev.ixLP (Ev.sub (subNL subR) (Ev.nameP (i := 1) rfl rfl rfl rfl)) Ev.int) EvP.none (EvP.some (Ev.negP Ev.int))) (fun _ _ => rfl))))))) ?_ ?_
  ·
    exact Ex.ret (ρ := (rV (rX3 fr rS (rN fr (rX2 fr rS rI)) (rN fr (rX2 fr rS rI))) rS)) (fun u21 => u21) (fun _ => rfl) (Ev.inrV (ra := (rX3 fr rS (rN fr (rX2 fr rS rI)) (rN fr (rX2 fr rS rI)))) (rb := rS) subR Ev.str)
  refine lcSet (i := 2) (S := fun a => .val (rN fr rI a)) (hS := lcVal) rfl rfl (LcOk.one (i := 7) rfl rfl (stoOf rfl) (fun _ h => nomatch h)) (EvI.range1 (bt_range rfl b_range) (Ev.lenLP (bt_len rfl b_len) (Ev.sub (subNL subR) (Ev.nameP (i := 1) rfl rfl rfl rfl)) (fun _ _ => rfl)) (fun _ _ => rfl)) (fun v_x_23 => (EvTs.one (EvT.cmp (Ev.eqStr (Ev.ixLP (Ev.sub (subNL subR) (Ev.nameP (i := 1) rfl rfl rfl rfl)) (Ev.nameP (i := 7) rfl rfl rfl rfl)) Ev.str)))) (fun v_x_23 => (Ev.nameP (i := 7) rfl rfl rfl rfl)) (fun v_arrows_26 => ?_) (swLocal rfl rfl rfl rfl) (by intro _ _; rfl)
  refine Ex.ifx (EvW.t (EvW.or (EvT.cmp (Ev.neIP (Ev.lenLP (bt_len rfl b_len) (Ev.sub (subNL subR) (Ev.nameP (i := 2) rfl rfl rfl rfl)) (fun _ _ => rfl)) Ev.int)) (EvW.or1 (EvT.cmp (Ev.eqI (Ev.ixLP (Ev.sub (subNL subR) (Ev.nameP (i := 2) rfl rfl rfl rfl)) Ev.int) Ev.int))))) ?_ ?_
  ·
    exact Ex.ret (ρ := (rV (rX3 fr rS (rN fr (rX2 fr rS rI)) (rN fr (rX2 fr rS rI))) rS)) (fun u32 => u32) (fun _ => rfl) (Ev.inrV (ra := (rX3 fr rS (rN fr (rX2 fr rS rI)) (rN fr (rX2 fr rS rI)))) (rb := rS) subR Ev.str)
  refine Ex.set (i := 3) (ρ := (rO (rN fr (rX2 fr rS rI)))) rfl (stoOf rfl) (Ev.call1 (hd := rfl) (ρ := fun fr => (rO (rN fr (rX2 fr rS rI)))) (mf := m__law_listed) (ra := fun fr => (rL M.K rS)) h__law_listed (Nat.le_of_ble_eq_true rfl) rfl (Ev.sub (subNL subR) (EvO.list (EvO.slice (Ev.sub (subNL subR) (Ev.nameP (i := 1) rfl rfl rfl rfl)) (EvP.some Ev.int) (EvP.some (Ev.ixLP (Ev.sub (subNL subR) (Ev.nameP (i := 2) rfl rfl rfl rfl)) Ev.int))))) (fun _ _ => rfl)) (fun v_uses_39 => ?_)
  refine Ex.set (i := 4) (ρ := (rO (rN fr (rX2 fr rS rI)))) rfl (stoOf rfl) (Ev.call1 (hd := rfl) (ρ := fun fr => (rO (rN fr (rX2 fr rS rI)))) (mf := m__law_listed) (ra := fun fr => (rL M.K rS)) h__law_listed (Nat.le_of_ble_eq_true rfl) rfl (Ev.sub (subNL subR) (EvO.list (EvO.slice (Ev.sub (subNL subR) (Ev.nameP (i := 1) rfl rfl rfl rfl)) (EvP.some (Ev.add (Ev.ixLP (Ev.sub (subNL subR) (Ev.nameP (i := 2) rfl rfl rfl rfl)) Ev.int) Ev.int)) EvP.none))) (fun _ _ => rfl)) (fun v_makes_47 => ?_)
  refine Ex.ifx (EvW.t (EvW.or (EvT.cmp (Ev.isNone nnN (Ev.nameP (i := 3) rfl rfl rfl rfl))) (EvW.or1 (EvT.cmp (Ev.isNone nnN (Ev.nameP (i := 4) rfl rfl rfl rfl)))))) ?_ ?_
  ·
    exact Ex.ret (ρ := (rV (rX3 fr rS (rN fr (rX2 fr rS rI)) (rN fr (rX2 fr rS rI))) rS)) (fun u53 => u53) (fun _ => rfl) (Ev.inrV (ra := (rX3 fr rS (rN fr (rX2 fr rS rI)) (rN fr (rX2 fr rS rI)))) (rb := rS) subR Ev.str)
  refine Ex.seq (J1 := (outX (S := Unit) (ρ := ((Str × (List (Str × Int)) × (List (Str × Int))) ⊕ Str)) (fun v_s_54 : Unit => [.val (rS t.1), .val ((rN fr rS) v_words_here_5), .val ((rN fr rI) v_arrows_26), .val ((rO (rN fr (rX2 fr rS rI))) v_uses_39), .val ((rO (rN fr (rX2 fr rS rI))) v_makes_47), .no, .no, .no, .no]) (fun r => (rV (rX3 fr rS (rN fr (rX2 fr rS rI)) (rN fr (rX2 fr rS rI))) rS) r))) (Ex1.forX (fun v_s_54 : Unit => [.val (rS t.1), .val ((rN fr rS) v_words_here_5), .val ((rN fr rI) v_arrows_26), .val ((rO (rN fr (rX2 fr rS rI))) v_uses_39), .val ((rO (rN fr (rX2 fr rS rI))) v_makes_47), .no, .no, .no, .no]) (fun r => (rV (rX3 fr rS (rN fr (rX2 fr rS rI)) (rN fr (rX2 fr rS rI))) rS) r) (s0 := ()) (EvI.list (Ev.sub (subNL subR) (EvO.list (EvO.written (r := (rO (rN fr (rX2 fr rS rI)))) (xs := [v_uses_39, v_makes_47]) (EvA.wCons (r := (rO (rN fr (rX2 fr rS rI)))) (Ev.nameP (i := 3) rfl rfl rfl rfl) (EvA.wCons (r := (rO (rN fr (rX2 fr rS rI)))) (Ev.nameP (i := 4) rfl rfl rfl rfl) EvA.nil (fun _ _ => rfl)) (fun _ _ => rfl)) (Nat.le_of_ble_eq_true rfl))))) (EvG.name (i := 5) (r := (rO (rN fr (rX2 fr rS rI)))) rfl (stoOf rfl)) (.cons .rf (.cons .rf (.cons .rf (.cons .rf (.cons .rf (.cons .no (.cons .no (.cons .no (.cons .no .nil))))))))) (fun v_s_54 v_x_55 => ?_)) (fun o => ?_)
  ·
    refine lcSet (i := 6) (S := fun a => .val (rN fr rS a)) (hS := lcVal) rfl rfl (LcOk.one (i := 8) (r := (rT2 M.K rS rI)) rfl rfl (stoOf rfl) (fun _ h => nomatch h)) (EvI.list (Ev.sub (subNL (subXT2 subR subR)) (Ev.unO (Ev.nameP (i := 5) rfl rfl rfl rfl)))) (fun v_x_57 => EvTs.nil) (fun v_x_57 => (Ev.ixT2_0P (Ev.nameP (i := 8) rfl rfl rfl rfl))) (fun v_goods_58 => ?_) (swLocal rfl rfl rfl rfl) (by intro _ _; rfl)
    refine Ex.ifx (EvT.cmp (Ev.lt (Ev.lenSet (bt_len rfl b_len) (bt_set rfl b_set) (Ev.sub (subNL subR) (Ev.nameP (i := 6) rfl rfl rfl rfl)) (fun _ _ => rfl)) (Ev.lenLP (bt_len rfl b_len) (Ev.sub (subNL subR) (Ev.nameP (i := 6) rfl rfl rfl rfl)) (fun _ _ => rfl)))) ?_ ?_
    ·
      exact Ex.ret (ρ := (rV (rX3 fr rS (rN fr (rX2 fr rS rI)) (rN fr (rX2 fr rS rI))) rS)) (fun u64 => (Fl.ret u64)) (fun _ => rfl) (Ev.inrV (ra := (rX3 fr rS (rN fr (rX2 fr rS rI)) (rN fr (rX2 fr rS rI)))) (rb := rS) subR Ev.str)
    exact Ex.nilLp rfl (.cons .rf (.cons .rf (.cons .rf (.cons .rf (.cons .rf (.cons .no (.cons .no (.cons .no (.cons .no .nil)))))))))
  obtain v_s_54 | r := o
  ·
    show Ex _ _ _ _ _
    exact Ex.ret (ρ := (rV (rX3 fr rS (rN fr (rX2 fr rS rI)) (rN fr (rX2 fr rS rI))) rS)) (fun u75 => u75) (fun _ => rfl) (Ev.inlV (ra := (rX3 fr rS (rN fr (rX2 fr rS rI)) (rN fr (rX2 fr rS rI)))) (rb := rS) subR (Ev.tupX3 (Ev.sliceS (Ev.ixLP (Ev.sub (subNL subR) (Ev.nameP (i := 1) rfl rfl rfl rfl)) Ev.int) EvP.none (EvP.some (Ev.negP Ev.int))) (Ev.unO (Ev.nameP (i := 3) rfl rfl rfl rfl)) (Ev.unO (Ev.nameP (i := 4) rfl rfl rfl rfl)) (fun _ _ => rfl) (fun _ _ => rfl) (fun _ _ => rfl)))
  · exact ⟨_, rfl, rfl⟩

def m__law_told_x1 (e5 : Exn) : W ((Unit) ⊕ ((Str × (List (Str × Int)) × (List (Str × Int))) ⊕ Str)) :=
  ((optW (isXs xtab e5.cls ["NoAmount", "NoBalance", "NoFit", "NoName", "NoRatio", "NoRow", "NoWay", "NoWeights", "NoWork", "TooMany"])) >>= fun u10 => if u10 = true then (((pure ("other" : Str)) >>= fun u11 => pure (Sum.inr u11)) >>= fun u12 => pure (Sum.inr u12)) else ((((optW (tabF xtab e5.cls "NoText")) >>= fun u13 => (optW (tabF xtab e5.cls "NoGood")) >>= fun u14 => pure (decide (u13 = u14))) >>= fun u16 => if u16 = true then pure true else ((optW (tabF xtab e5.cls "ValueError")) >>= fun u15 => pure (!u15))) >>= fun u17 => if u17 = true then (((pure ("other" : Str)) >>= fun u18 => pure (Sum.inr u18)) >>= fun u19 => pure (Sum.inr u19)) else ((((pure [("good" : Str), ("text" : Str)]) >>= fun u21 => ((optW (tabF xtab e5.cls "NoText")) >>= fun u20 => pure (if u20 = true then (1 : Int) else 0)) >>= fun u22 => idx u21 u22) >>= fun u23 => pure (Sum.inr u23)) >>= fun u24 => pure (Sum.inr u24))))
def m__law_told (t : Str × Unit) : W ((Str × (List (Str × Int)) × (List (Str × Int))) ⊕ Str) :=
  ((tryW ((((pure t.1) >>= fun u2 => m_read_work (u2, ())) >>= fun u3 => pure (Sum.inl u3)) >>= fun u4 => pure (Sum.inr u4)) (fun c => tabF xtab c "YardError") (fun e5 => (m__law_told_x1 e5))) >>= fun o : (Unit) ⊕ ((Str × (List (Str × Int)) × (List (Str × Int))) ⊕ Str) => match o with | .inl v_o_1 => W.bad | .inr r => (pure r))
theorem w__law_told {M : Mc} (b_isinstance : M.mg "isinstance" = none) (b_int : M.mg "int" = none) (hT : XTab M xtab) (mc_YardError : ∃ cv, M.mg "YardError" = some cv) (h_read_work : FnV M "read_work" 3 1 (fun (fr : Addr → Prop) (t : Str × Unit) => [rS t.1]) (fun fr => (rX3 fr rS (rN fr (rX2 fr rS rI)) (rN fr (rX2 fr rS rI)))) m_read_work) (F : FunM M "_law_told" (top 34) ["_law_text"]) : FnV M "_law_told" 4 1 (fun (fr : Addr → Prop) (t : Str × Unit) => [rS t.1]) (fun fr => (rV (rX3 fr rS (rN fr (rX2 fr rS rI)) (rN fr (rX2 fr rS rI))) rS)) m__law_told := by
  refine FnV.ofBody (N := ["_law_text", "e"]) F (⟨rfl, rfl, rfl, by decide +kernel, rfl, by decide +kernel, by decide +kernel⟩ : FnScope ["_law_text", "e"] ["_law_text"] _) rfl (fun _ _ => rfl) (fun fr t => ?_)
  obtain ⟨cv_YardError, hcv_YardError⟩ := mc_YardError
  refine Ex.seq (J1 := (fun o : (Unit) ⊕ ((Str × (List (Str × Int)) × (List (Str × Int))) ⊕ Str) => match o with | .inl v_o_1 => .nx [.val (rS t.1), .no] | .inr r => .rt ((rV (rX3 fr rS (rN fr (rX2 fr rS rI)) (rN fr (rX2 fr rS rI))) rS) r))) (Ex1.tryAs (i := 1) (c := fun c => tabF xtab c "YardError") (cv := cv_YardError) rfl rfl rfl (fun _ _ h => hT.of h) hcv_YardError rfl (ExT.ret (f := fun u4 => Sum.inr u4) (ρ := (rV (rX3 fr rS (rN fr (rX2 fr rS rI)) (rN fr (rX2 fr rS rI))) rS)) (Ev.inlV (ra := (rX3 fr rS (rN fr (rX2 fr rS rI)) (rN fr (rX2 fr rS rI)))) (rb := rS) subR (Ev.call1 (hd := rfl) (ρ := fun fr => (rX3 fr rS (rN fr (rX2 fr rS rI)) (rN fr (rX2 fr rS rI)))) (mf := m_read_work) (ra := fun fr => rS) h_read_work (Nat.le_of_ble_eq_true rfl) rfl (Ev.nameP (i := 0) rfl rfl rfl rfl) (fun _ _ => rfl))) (fun _ => rfl)) (fun e5 a6 D7 hc8 hm9 => ?_) (fun o => by cases o <;> first | exact .inr ⟨_, rfl, rfl⟩ | exact .inl ⟨_, rfl⟩)) (fun o => ?_)
  ·
    refine Ex.ifx (EvT.val (Ev.isET hT ⟨_, _, hc8⟩ hm9 rfl (bt_isinstance rfl b_isinstance) (.cons rfl rfl (.cons rfl rfl (.cons rfl rfl (.cons rfl rfl (.cons rfl rfl (.cons rfl rfl (.cons rfl rfl (.cons rfl rfl (.cons rfl rfl (.cons rfl rfl .nil)))))))))) (by decide) (Ev.nameP (i := 1) (ρ := rX a6) (v := ()) rfl rfl rfl rfl) (fun _ _ => rfl))) ?_ ?_
    ·
      exact Ex.ret (ρ := (rV (rX3 fr rS (rN fr (rX2 fr rS rI)) (rN fr (rX2 fr rS rI))) rS)) (fun u12 => (Sum.inr u12)) (fun _ => rfl) (Ev.inrV (ra := (rX3 fr rS (rN fr (rX2 fr rS rI)) (rN fr (rX2 fr rS rI)))) (rb := rS) subR Ev.str)
    refine Ex.ifx (EvW.t (EvW.or (EvT.cmp (Ev.eqB (Ev.isE hT hm9 rfl (bt_isinstance rfl b_isinstance) rfl rfl (Ev.nameP (i := 1) (ρ := rX a6) (v := ()) rfl rfl rfl rfl) (fun _ _ => rfl)) (Ev.isE hT hm9 rfl (bt_isinstance rfl b_isinstance) rfl rfl (Ev.nameP (i := 1) (ρ := rX a6) (v := ()) rfl rfl rfl rfl) (fun _ _ => rfl)))) (EvW.or1 (EvT.not (EvT.val (Ev.isE hT hm9 rfl (bt_isinstance rfl b_isinstance) rfl rfl (Ev.nameP (i := 1) (ρ := rX a6) (v := ()) rfl rfl rfl rfl) (fun _ _ => rfl))))))) ?_ ?_
    ·
      exact Ex.ret (ρ := (rV (rX3 fr rS (rN fr (rX2 fr rS rI)) (rN fr (rX2 fr rS rI))) rS)) (fun u19 => (Sum.inr u19)) (fun _ => rfl) (Ev.inrV (ra := (rX3 fr rS (rN fr (rX2 fr rS rI)) (rN fr (rX2 fr rS rI)))) (rb := rS) subR Ev.str)
    exact Ex.ret (ρ := (rV (rX3 fr rS (rN fr (rX2 fr rS rI)) (rN fr (rX2 fr rS rI))) rS)) (fun u24 => (Sum.inr u24)) (fun _ => rfl) (Ev.inrV (ra := (rX3 fr rS (rN fr (rX2 fr rS rI)) (rN fr (rX2 fr rS rI)))) (rb := rS) subR (Ev.ixL (Ev.sub (subNL subR) (EvO.list (EvO.written (r := rS) (xs := [("good" : Str), ("text" : Str)]) (EvA.wCons (r := rS) Ev.str (EvA.wCons (r := rS) Ev.str EvA.nil (fun _ _ => rfl)) (fun _ _ => rfl)) (Nat.le_of_ble_eq_true rfl)))) (Ev.intB (bt_int rfl b_int) (Ev.isE hT hm9 rfl (bt_isinstance rfl b_isinstance) rfl rfl (Ev.nameP (i := 1) (ρ := rX a6) (v := ()) rfl rfl rfl rfl) (fun _ _ => rfl)) (fun _ _ => rfl))))
  obtain v_o_1 | r := o
  ·
    show Ex _ _ _ _ _
    exact Ex.bad
  · exact ⟨_, rfl, rfl⟩

def m__law_changed (t : Str × Int × Unit) : W Str :=
  (((divI t.2.1 (6 : Int)) >>= fun u3 => ((lenW t.1) >>= fun u1 => (pure (1 : Int)) >>= fun u2 => pure (u1 + u2)) >>= fun u4 => modI u3 u4) >>= fun v_at_5 => (((pure ("0123 >:azAZ-_.,+;" : Str)) >>= fun u8 => ((divI t.2.1 (600 : Int)) >>= fun u6 => (pure (17 : Int)) >>= fun u7 => modI u6 u7) >>= fun u9 => idxS u8 u9) >>= fun v_sign_10 => (((pure t.1) >>= fun u13 => (pure (" " : Str)) >>= fun u14 => W.req ((u14.length == 0) = false ∧ u13.length ≤ 1000000) (pure (Txt.split u13 u14))) >>= fun v_words_here_15 => (((divI t.2.1 (6 : Int)) >>= fun u16 => (pure ((v_words_here_15.length : Int) + (1 : Int))) >>= fun u17 => modI u16 u17) >>= fun v_spot_18 => (((pure [[("0" : Str), ("corn" : Str)], [("1" : Str), ("corn" : Str)], [(">" : Str)], [("x:" : Str)], [("01" : Str), ("corn" : Str)], [("1" : Str)], [("corn" : Str)], [("" : Str)]]) >>= fun u21 => ((divI t.2.1 (60 : Int)) >>= fun u19 => (pure (8 : Int)) >>= fun u20 => modI u19 u20) >>= fun u22 => idx u21 u22) >>= fun v_piece_23 => (((modI t.2.1 (6 : Int)) >>= fun u24 => (pure (0 : Int)) >>= fun u25 => pure (decide (u24 = u25))) >>= fun u26 => if u26 = true then (((((pure t.1) >>= fun u28 => (pure none) >>= fun u29 => ((pure v_at_5) >>= fun u27 => pure (some u27)) >>= fun u30 => cutW u28 u29 u30) >>= fun u31 => (pure v_sign_10) >>= fun u32 => catS u31 u32) >>= fun u37 => ((pure t.1) >>= fun u34 => ((pure v_at_5) >>= fun u33 => pure (some u33)) >>= fun u35 => (pure none) >>= fun u36 => cutW u34 u35 u36) >>= fun u38 => catS u37 u38) >>= fun u39 => pure u39) else (((modI t.2.1 (6 : Int)) >>= fun u40 => (pure (1 : Int)) >>= fun u41 => pure (decide (u40 = u41))) >>= fun u42 => if u42 = true then ((((pure t.1) >>= fun u44 => (pure none) >>= fun u45 => ((pure v_at_5) >>= fun u43 => pure (some u43)) >>= fun u46 => cutW u44 u45 u46) >>= fun u51 => ((pure t.1) >>= fun u48 => ((pure (v_at_5 + (1 : Int))) >>= fun u47 => pure (some u47)) >>= fun u49 => (pure none) >>= fun u50 => cutW u48 u49 u50) >>= fun u52 => catS u51 u52) >>= fun u53 => pure u53) else (((modI t.2.1 (6 : Int)) >>= fun u54 => (pure (2 : Int)) >>= fun u55 => pure (decide (u54 = u55))) >>= fun u56 => if u56 = true then (((((pure t.1) >>= fun u58 => (pure none) >>= fun u59 => ((pure v_at_5) >>= fun u57 => pure (some u57)) >>= fun u60 => cutW u58 u59 u60) >>= fun u61 => (pure v_sign_10) >>= fun u62 => catS u61 u62) >>= fun u67 => ((pure t.1) >>= fun u64 => ((pure (v_at_5 + (1 : Int))) >>= fun u63 => pure (some u63)) >>= fun u65 => (pure none) >>= fun u66 => cutW u64 u65 u66) >>= fun u68 => catS u67 u68) >>= fun u69 => pure u69) else (((modI t.2.1 (6 : Int)) >>= fun u70 => (pure (3 : Int)) >>= fun u71 => pure (decide (u70 = u71))) >>= fun u72 => if u72 = true then (((pure (" " : Str)) >>= fun u73 => ((((pure v_words_here_15) >>= fun u76 => (pure none) >>= fun u77 => ((pure v_spot_18) >>= fun u75 => pure (some u75)) >>= fun u78 => pure (cut u76 u77 u78)) >>= fun u79 => (pure v_piece_23) >>= fun u80 => catL u79 u80) >>= fun u85 => ((pure v_words_here_15) >>= fun u82 => ((pure v_spot_18) >>= fun u81 => pure (some u81)) >>= fun u83 => (pure none) >>= fun u84 => pure (cut u82 u83 u84)) >>= fun u86 => catL u85 u86) >>= fun u74 => joinW u73 u74) >>= fun u87 => pure u87) else (((modI t.2.1 (6 : Int)) >>= fun u88 => (pure (4 : Int)) >>= fun u89 => pure (decide (u88 = u89))) >>= fun u90 => if u90 = true then (((pure (" " : Str)) >>= fun u91 => (((pure v_words_here_15) >>= fun u94 => (pure none) >>= fun u95 => ((pure v_spot_18) >>= fun u93 => pure (some u93)) >>= fun u96 => pure (cut u94 u95 u96)) >>= fun u101 => ((pure v_words_here_15) >>= fun u98 => ((pure (v_spot_18 + (1 : Int))) >>= fun u97 => pure (some u97)) >>= fun u99 => (pure none) >>= fun u100 => pure (cut u98 u99 u100)) >>= fun u102 => catL u101 u102) >>= fun u92 => joinW u91 u92) >>= fun u103 => pure u103) else (((pure (" " : Str)) >>= fun u104 => (((pure v_words_here_15) >>= fun u107 => (pure none) >>= fun u108 => ((pure v_spot_18) >>= fun u106 => pure (some u106)) >>= fun u109 => pure (cut u107 u108 u109)) >>= fun u116 => ((pure v_words_here_15) >>= fun u113 => (((pure (0 : Int)) >>= fun u110 => (pure (v_spot_18 - (2 : Int))) >>= fun u111 => pure (if u110 < u111 then u111 else u110)) >>= fun u112 => pure (some u112)) >>= fun u114 => (pure none) >>= fun u115 => pure (cut u113 u114 u115)) >>= fun u117 => catL u116 u117) >>= fun u105 => joinW u104 u105) >>= fun u118 => pure u118)))))))))))
theorem w__law_changed {M : Mc} (b_len : M.mg "len" = none) (b_max : M.mg "max" = none) (F : FunM M "_law_changed" (top 35) ["_law_text", "_law_cell_here"]) : FnV M "_law_changed" 1 2 (fun (fr : Addr → Prop) (t : Str × Int × Unit) => [rS t.1, rI t.2.1]) (fun fr => rS) m__law_changed := by
  refine FnV.ofBody (N := ["_law_text", "_law_cell_here", "_law_at", "_law_sign", "_law_words_here", "_law_spot", "_law_piece"]) F (⟨rfl, rfl, rfl, by decide +kernel, rfl, by decide +kernel, by decide +kernel⟩ : FnScope ["_law_text", "_law_cell_here", "_law_at", "_law_sign", "_law_words_here", "_law_spot", "_law_piece"] ["_law_text", "_law_cell_here"] _) rfl (fun _ _ => rfl) (fun fr t => ?_)
  refine Ex.set (i := 2) (ρ := rI) rfl (stoOf rfl) (Ev.mod (Ev.divP (Ev.nameP (i := 1) rfl rfl rfl rfl) Ev.int) (Ev.add (Ev.lenSP (bt_len rfl b_len) (Ev.nameP (i := 0) rfl rfl rfl rfl) (fun _ _ => rfl)) Ev.int)) (fun v_at_5 => ?_)
  refine Ex.set (i := 3) (ρ := rS) rfl (stoOf rfl) (Ev.ixS Ev.str (Ev.mod (Ev.divP (Ev.nameP (i := 1) rfl rfl rfl rfl) Ev.int) Ev.int)) (fun v_sign_10 => ?_)
  refine Ex.set (i := 4) (ρ := (rN fr rS)) rfl (stoOf rfl) (EvO.list (EvO.split (Ev.nameP (i := 0) rfl rfl rfl rfl) Ev.str (fun _ _ => rfl))) (fun v_words_here_15 => ?_)
  refine Ex.set (i := 5) (ρ := rI) rfl (stoOf rfl) (Ev.mod (Ev.divP (Ev.nameP (i := 1) rfl rfl rfl rfl) Ev.int) (Ev.addP (Ev.lenLP (bt_len rfl b_len) (Ev.sub (subNL subR) (Ev.nameP (i := 4) rfl rfl rfl rfl)) (fun _ _ => rfl)) Ev.int)) (fun v_spot_18 => ?_)
  refine Ex.set (i := 6) (ρ := (rN fr rS)) rfl (stoOf rfl) (Ev.ixL (Ev.sub (subNL subR) (EvO.list (EvO.listP8 (r := (rN fr rS)) (EvO.list (EvO.written (r := rS) (xs := [("0" : Str), ("corn" : Str)]) (EvA.wCons (r := rS) Ev.str (EvA.wCons (r := rS) Ev.str EvA.nil (fun _ _ => rfl)) (fun _ _ => rfl)) (Nat.le_of_ble_eq_true rfl))) (EvO.list (EvO.written (r := rS) (xs := [("1" : Str), ("corn" : Str)]) (EvA.wCons (r := rS) Ev.str (EvA.wCons (r := rS) Ev.str EvA.nil (fun _ _ => rfl)) (fun _ _ => rfl)) (Nat.le_of_ble_eq_true rfl))) (EvO.list (EvO.written (r := rS) (xs := [(">" : Str)]) (EvA.wCons (r := rS) Ev.str EvA.nil (fun _ _ => rfl)) (Nat.le_of_ble_eq_true rfl))) (EvO.list (EvO.written (r := rS) (xs := [("x:" : Str)]) (EvA.wCons (r := rS) Ev.str EvA.nil (fun _ _ => rfl)) (Nat.le_of_ble_eq_true rfl))) (EvO.list (EvO.written (r := rS) (xs := [("01" : Str), ("corn" : Str)]) (EvA.wCons (r := rS) Ev.str (EvA.wCons (r := rS) Ev.str EvA.nil (fun _ _ => rfl)) (fun _ _ => rfl)) (Nat.le_of_ble_eq_true rfl))) (EvO.list (EvO.written (r := rS) (xs := [("1" : Str)]) (EvA.wCons (r := rS) Ev.str EvA.nil (fun _ _ => rfl)) (Nat.le_of_ble_eq_true rfl))) (EvO.list (EvO.written (r := rS) (xs := [("corn" : Str)]) (EvA.wCons (r := rS) Ev.str EvA.nil (fun _ _ => rfl)) (Nat.le_of_ble_eq_true rfl))) (EvO.list (EvO.written (r := rS) (xs := [("" : Str)]) (EvA.wCons (r := rS) Ev.str EvA.nil (fun _ _ => rfl)) (Nat.le_of_ble_eq_true rfl))) (fun _ _ => rfl) (fun _ _ => rfl) (fun _ _ => rfl) (fun _ _ => rfl) (fun _ _ => rfl) (fun _ _ => rfl) (fun _ _ => rfl) (fun _ _ => rfl)))) (Ev.mod (Ev.divP (Ev.nameP (i := 1) rfl rfl rfl rfl) Ev.int) Ev.int)) (fun v_piece_23 => ?_)
  refine Ex.ifx (EvT.cmp (Ev.eqI (Ev.modP (Ev.nameP (i := 1) rfl rfl rfl rfl) Ev.int) Ev.int)) ?_ ?_
  ·
    exact Ex.ret (ρ := rS) (fun u39 => u39) (fun _ => rfl) (Ev.cat (Ev.cat (Ev.sliceS (Ev.nameP (i := 0) rfl rfl rfl rfl) EvP.none (EvP.some (Ev.nameP (i := 2) rfl rfl rfl rfl))) (Ev.nameP (i := 3) rfl rfl rfl rfl)) (Ev.sliceS (Ev.nameP (i := 0) rfl rfl rfl rfl) (EvP.some (Ev.nameP (i := 2) rfl rfl rfl rfl)) EvP.none))
  refine Ex.ifx (EvT.cmp (Ev.eqI (Ev.modP (Ev.nameP (i := 1) rfl rfl rfl rfl) Ev.int) Ev.int)) ?_ ?_
  ·
    exact Ex.ret (ρ := rS) (fun u53 => u53) (fun _ => rfl) (Ev.cat (Ev.sliceS (Ev.nameP (i := 0) rfl rfl rfl rfl) EvP.none (EvP.some (Ev.nameP (i := 2) rfl rfl rfl rfl))) (Ev.sliceS (Ev.nameP (i := 0) rfl rfl rfl rfl) (EvP.some (Ev.addP (Ev.nameP (i := 2) rfl rfl rfl rfl) Ev.int)) EvP.none))
  refine Ex.ifx (EvT.cmp (Ev.eqI (Ev.modP (Ev.nameP (i := 1) rfl rfl rfl rfl) Ev.int) Ev.int)) ?_ ?_
  ·
    exact Ex.ret (ρ := rS) (fun u69 => u69) (fun _ => rfl) (Ev.cat (Ev.cat (Ev.sliceS (Ev.nameP (i := 0) rfl rfl rfl rfl) EvP.none (EvP.some (Ev.nameP (i := 2) rfl rfl rfl rfl))) (Ev.nameP (i := 3) rfl rfl rfl rfl)) (Ev.sliceS (Ev.nameP (i := 0) rfl rfl rfl rfl) (EvP.some (Ev.addP (Ev.nameP (i := 2) rfl rfl rfl rfl) Ev.int)) EvP.none))
  refine Ex.ifx (EvT.cmp (Ev.eqI (Ev.modP (Ev.nameP (i := 1) rfl rfl rfl rfl) Ev.int) Ev.int)) ?_ ?_
  ·
    exact Ex.ret (ρ := rS) (fun u87 => u87) (fun _ => rfl) (Ev.join Ev.str (Ev.sub (subNL subR) (EvO.list (EvO.cat (EvO.list (EvO.cat (EvO.list (EvO.slice (Ev.sub (subNL subR) (Ev.nameP (i := 4) rfl rfl rfl rfl)) EvP.none (EvP.some (Ev.nameP (i := 5) rfl rfl rfl rfl)))) (Ev.nameP (i := 6) rfl rfl rfl rfl))) (EvO.list (EvO.slice (Ev.sub (subNL subR) (Ev.nameP (i := 4) rfl rfl rfl rfl)) (EvP.some (Ev.nameP (i := 5) rfl rfl rfl rfl)) EvP.none))))) (fun _ _ => rfl))
  refine Ex.ifx (EvT.cmp (Ev.eqI (Ev.modP (Ev.nameP (i := 1) rfl rfl rfl rfl) Ev.int) Ev.int)) ?_ ?_
  ·
    exact Ex.ret (ρ := rS) (fun u103 => u103) (fun _ => rfl) (Ev.join Ev.str (Ev.sub (subNL subR) (EvO.list (EvO.cat (EvO.list (EvO.slice (Ev.sub (subNL subR) (Ev.nameP (i := 4) rfl rfl rfl rfl)) EvP.none (EvP.some (Ev.nameP (i := 5) rfl rfl rfl rfl)))) (EvO.list (EvO.slice (Ev.sub (subNL subR) (Ev.nameP (i := 4) rfl rfl rfl rfl)) (EvP.some (Ev.addP (Ev.nameP (i := 5) rfl rfl rfl rfl) Ev.int)) EvP.none))))) (fun _ _ => rfl))
  exact Ex.ret (ρ := rS) (fun u118 => u118) (fun _ => rfl) (Ev.join Ev.str (Ev.sub (subNL subR) (EvO.list (EvO.cat (EvO.list (EvO.slice (Ev.sub (subNL subR) (Ev.nameP (i := 4) rfl rfl rfl rfl)) EvP.none (EvP.some (Ev.nameP (i := 5) rfl rfl rfl rfl)))) (EvO.list (EvO.slice (Ev.sub (subNL subR) (Ev.nameP (i := 4) rfl rfl rfl rfl)) (EvP.some (Ev.max2 (bt_max rfl b_max) Ev.int (Ev.subP (Ev.nameP (i := 5) rfl rfl rfl rfl) Ev.int) (fun _ _ => rfl) (fun _ _ => rfl))) EvP.none))))) (fun _ _ => rfl))

def m__law_odd (t : Int × Unit) : W Str :=
  ((pure [("" : Str), (":" : Str), (">" : Str), ("mill" : Str), ("mill:" : Str), ("mill >" : Str), (": >" : Str), ("mill: >" : Str), ("mill:>" : Str), ("mill : >" : Str), ("mill: > " : Str), (" mill: >" : Str)]) >>= fun v_some_1 => (((pure v_some_1) >>= fun u2 => (pure [("mill: 1 corn" : Str), ("mill: corn 1 >" : Str), ("mill: 1 corn > > 2 flour" : Str), ("mill: > 1 corn 1 corn" : Str)]) >>= fun u3 => catL u2 u3) >>= fun v_some_4 => (((pure v_some_4) >>= fun u5 => (pure [("mill: 1 corn 2 corn >" : Str), ("mill: 1 corn > 1 corn" : Str), ("mill: 0 corn >" : Str), ("mill: -1 corn >" : Str), ("Mill: >" : Str)]) >>= fun u6 => catL u5 u6) >>= fun v_some_7 => (((pure v_some_7) >>= fun u22 => ((((pure ("mill: " : Str)) >>= fun u10 => ((pure ("9" : Str)) >>= fun u8 => (pure (30 : Int)) >>= fun u9 => repS u8 u9) >>= fun u11 => catS u10 u11) >>= fun u12 => (pure (" corn >" : Str)) >>= fun u13 => catS u12 u13) >>= fun u20 => ((((pure ("mill: > " : Str)) >>= fun u16 => ((pure ("1" : Str)) >>= fun u14 => (pure (31 : Int)) >>= fun u15 => repS u14 u15) >>= fun u17 => catS u16 u17) >>= fun u18 => (pure (" corn" : Str)) >>= fun u19 => catS u18 u19) >>= fun u21 => (pure [u20, u21]))) >>= fun u23 => catL u22 u23) >>= fun v_some_24 => ((((pure v_some_24) >>= fun u25 => (pure [("mills milled: >" : Str), ("millmillm: >" : Str), ("mill: 1 corn 1 corn > 0 flour" : Str)]) >>= fun u26 => catL u25 u26) >>= fun u27 => (modI t.1 (26 : Int)) >>= fun u28 => idx u27 u28) >>= fun u29 => pure u29)))))
theorem w__law_odd {M : Mc} (F : FunM M "_law_odd" (top 36) ["_law_cell_here"]) : FnV M "_law_odd" 1 1 (fun (fr : Addr → Prop) (t : Int × Unit) => [rI t.1]) (fun fr => rS) m__law_odd := by
  refine FnV.ofBody (N := ["_law_cell_here", "_law_some"]) F (⟨rfl, rfl, rfl, by decide +kernel, rfl, by decide +kernel, by decide +kernel⟩ : FnScope ["_law_cell_here", "_law_some"] ["_law_cell_here"] _) rfl (fun _ _ => rfl) (fun fr t => ?_)
  refine Ex.set (i := 1) (ρ := (rN fr rS)) rfl (stoOf rfl) (EvO.list (EvO.listP12 (r := rS) Ev.str Ev.str Ev.str Ev.str Ev.str Ev.str Ev.str Ev.str Ev.str Ev.str Ev.str Ev.str (fun _ _ => rfl) (fun _ _ => rfl) (fun _ _ => rfl) (fun _ _ => rfl) (fun _ _ => rfl) (fun _ _ => rfl) (fun _ _ => rfl) (fun _ _ => rfl) (fun _ _ => rfl) (fun _ _ => rfl) (fun _ _ => rfl) (fun _ _ => rfl))) (fun v_some_1 => ?_)
  refine Ex.set (i := 1) (ρ := (rN fr rS)) rfl (stoOf rfl) (EvO.list (EvO.cat (Ev.nameP (i := 1) rfl rfl rfl rfl) (EvO.list (EvO.written (r := rS) (xs := [("mill: 1 corn" : Str), ("mill: corn 1 >" : Str), ("mill: 1 corn > > 2 flour" : Str), ("mill: > 1 corn 1 corn" : Str)]) (EvA.wCons (r := rS) Ev.str (EvA.wCons (r := rS) Ev.str (EvA.wCons (r := rS) Ev.str (EvA.wCons (r := rS) Ev.str EvA.nil (fun _ _ => rfl)) (fun _ _ => rfl)) (fun _ _ => rfl)) (fun _ _ => rfl)) (by decide +kernel))))) (fun v_some_4 => ?_)
  refine Ex.set (i := 1) (ρ := (rN fr rS)) rfl (stoOf rfl) (EvO.list (EvO.cat (Ev.nameP (i := 1) rfl rfl rfl rfl) (EvO.list (EvO.written (r := rS) (xs := [("mill: 1 corn 2 corn >" : Str), ("mill: 1 corn > 1 corn" : Str), ("mill: 0 corn >" : Str), ("mill: -1 corn >" : Str), ("Mill: >" : Str)]) (EvA.wCons (r := rS) Ev.str (EvA.wCons (r := rS) Ev.str (EvA.wCons (r := rS) Ev.str (EvA.wCons (r := rS) Ev.str (EvA.wCons (r := rS) Ev.str EvA.nil (fun _ _ => rfl)) (fun _ _ => rfl)) (fun _ _ => rfl)) (fun _ _ => rfl)) (fun _ _ => rfl)) (by decide +kernel))))) (fun v_some_7 => ?_)
  refine Ex.set (i := 1) (ρ := (rN fr rS)) rfl (stoOf rfl) (EvO.list (EvO.cat (Ev.nameP (i := 1) rfl rfl rfl rfl) (EvO.list (EvO.list2 (Ev.cat (Ev.cat Ev.str (Ev.rep Ev.str Ev.int)) Ev.str) (Ev.cat (Ev.cat Ev.str (Ev.rep Ev.str Ev.int)) Ev.str) (fun _ _ => rfl) (fun _ _ => rfl))))) (fun v_some_24 => ?_)
  exact Ex.ret (ρ := rS) (fun u29 => u29) (fun _ => rfl) (Ev.ixL (Ev.sub (subNL subR) (EvO.list (EvO.cat (Ev.nameP (i := 1) rfl rfl rfl rfl) (EvO.list (EvO.written (r := rS) (xs := [("mills milled: >" : Str), ("millmillm: >" : Str), ("mill: 1 corn 1 corn > 0 flour" : Str)]) (EvA.wCons (r := rS) Ev.str (EvA.wCons (r := rS) Ev.str (EvA.wCons (r := rS) Ev.str EvA.nil (fun _ _ => rfl)) (fun _ _ => rfl)) (fun _ _ => rfl)) (Nat.le_of_ble_eq_true rfl)))))) (Ev.modP (Ev.nameP (i := 0) rfl rfl rfl rfl) Ev.int))

def m_law_b1 (v_x_52 : Str) : W (Fl (Unit) Bool) :=
  ((((pure v_x_52) >>= fun u53 => m__law_told (u53, ())) >>= fun u55 => ((pure v_x_52) >>= fun u54 => m__law_due (u54, ())) >>= fun u56 => neW (Sum.elim (fun x => (fun x => PyData.strOk x = true) x.1 ∧ (fun xs => ∀ x ∈ xs, (fun x => (fun x => PyData.strOk x = true) x.1 ∧ (fun _ => True) x.2) x) x.2.1 ∧ (fun xs => ∀ x ∈ xs, (fun x => (fun x => PyData.strOk x = true) x.1 ∧ (fun _ => True) x.2) x) x.2.2) (fun x => PyData.strOk x = true)) u55 u56) >>= fun u57 => if u57 = true then ((pure false) >>= fun u58 => pure (Fl.ret u58)) else (pure (Fl.go ())))
def m_law_b2 (v_cells_10 : (List Int)) (v_x_13 : Int) : W (Fl (Unit) Bool) :=
  (((idx v_cells_10 (v_x_13 - (1 : Int))) >>= fun u14 => (pure (2 : Int)) >>= fun u15 => m__law_next (u14, u15, ())) >>= fun v_far_16 => ((((idx v_cells_10 v_x_13) >>= fun u17 => (pure (1000000000000000000000000000000 : Int)) >>= fun u18 => modI u17 u18) >>= fun u19 => (pure (5 : Int)) >>= fun u20 => m__law_words (u19, u20, ())) >>= fun v_words_here_21 => (((pure [(1 : Int), (1 : Int), (10000000000000000000000000000 : Int)]) >>= fun u22 => (modI v_far_16 (3 : Int)) >>= fun u23 => idx u22 u23) >>= fun v_wide_24 => ((((idx v_cells_10 v_x_13) >>= fun u25 => (pure (1000000000000000000000000000000 : Int)) >>= fun u26 => modI u25 u26) >>= fun u33 => (idx v_words_here_21 (4 : Int)) >>= fun u34 => ((pure v_words_here_21) >>= fun u30 => (pure none) >>= fun u31 => (((divI v_far_16 (3 : Int)) >>= fun u27 => (pure (5 : Int)) >>= fun u28 => modI u27 u28) >>= fun u29 => pure (some u29)) >>= fun u32 => pure (cut u30 u31 u32)) >>= fun u35 => (pure v_wide_24) >>= fun u36 => m__law_work (u33, u34, u35, u36, ())) >>= fun v_work_here_37 => (((pure v_work_here_37) >>= fun u38 => m__law_written (u38, ())) >>= fun v_text_39 => (((((pure v_text_39) >>= fun u47 => (((pure v_text_39) >>= fun u40 => (divI v_far_16 (15 : Int)) >>= fun u41 => m__law_changed (u40, u41, ())) >>= fun u48 => (((pure v_text_39) >>= fun u44 => ((pure v_far_16) >>= fun u42 => (pure (1 : Int)) >>= fun u43 => m__law_next (u42, u43, ())) >>= fun u45 => m__law_changed (u44, u45, ())) >>= fun u49 => (((idx v_cells_10 v_x_13) >>= fun u46 => m__law_odd (u46, ())) >>= fun u50 => (pure [u47, u48, u49, u50]))))) >>= fun xs => W.foldR (fun (v_s_51 : Unit) (v_x_52 : Str) => (m_law_b1 v_x_52)) () xs) >>= fun o => pure o.out) >>= fun o : (Unit) ⊕ Bool => match o with | .inl v_s_51 => (pure (Fl.go ())) | .inr r => (pure (Fl.ret r))))))))
def m_law (t : (List Int) × Unit) : W Bool :=
  ((((pure t.1) >>= fun u2 => (pure none) >>= fun u3 => ((pure (20 : Int)) >>= fun u1 => pure (some u1)) >>= fun u4 => pure (cut u2 u3 u4)) >>= fun u8 => (((pure t.1) >>= fun u5 => (pure (0 : Int)) >>= fun u6 => m__law_cell (u5, u6, ())) >>= fun u7 => (pure [u7])) >>= fun u9 => catL u8 u9) >>= fun v_cells_10 => (((((pure (v_cells_10.length : Int)) >>= fun u11 => rangeW 0 u11) >>= fun xs => W.foldR (fun (v_s_12 : Unit) (v_x_13 : Int) => (m_law_b2 v_cells_10 v_x_13)) () xs) >>= fun o => pure o.out) >>= fun o : (Unit) ⊕ Bool => match o with | .inl v_s_12 => ((pure true) >>= fun u59 => pure u59) | .inr r => (pure r)))
theorem w_law {M : Mc} (b_len : M.mg "len" = none) (b_range : M.mg "range" = none) (h__law_cell : FnV M "_law_cell" 1 2 (fun (fr : Addr → Prop) (t : (List Int) × Int × Unit) => [(rL M.K rI) t.1, rI t.2.1]) (fun fr => rI) m__law_cell) (h__law_next : FnV M "_law_next" 1 2 (fun (fr : Addr → Prop) (t : Int × Int × Unit) => [rI t.1, rI t.2.1]) (fun fr => rI) m__law_next) (h__law_words : FnV M "_law_words" 1 2 (fun (fr : Addr → Prop) (t : Int × Int × Unit) => [rI t.1, rI t.2.1]) (fun fr => (rN fr rS)) m__law_words) (h__law_work : FnV M "_law_work" 2 4 (fun (fr : Addr → Prop) (t : Int × Str × (List Str) × Int × Unit) => [rI t.1, rS t.2.1, (rL M.K rS) t.2.2.1, rI t.2.2.2.1]) (fun fr => (rX3 fr rS (rN fr (rX2 fr rS rI)) (rN fr (rX2 fr rS rI)))) m__law_work) (h__law_written : FnV M "_law_written" 2 1 (fun (fr : Addr → Prop) (t : (Str × (List (Str × Int)) × (List (Str × Int))) × Unit) => [(rT3 M.K rS (rL M.K (rT2 M.K rS rI)) (rL M.K (rT2 M.K rS rI))) t.1]) (fun fr => rS) m__law_written) (h__law_changed : FnV M "_law_changed" 1 2 (fun (fr : Addr → Prop) (t : Str × Int × Unit) => [rS t.1, rI t.2.1]) (fun fr => rS) m__law_changed) (h__law_odd : FnV M "_law_odd" 1 1 (fun (fr : Addr → Prop) (t : Int × Unit) => [rI t.1]) (fun fr => rS) m__law_odd) (h__law_told : FnV M "_law_told" 4 1 (fun (fr : Addr → Prop) (t : Str × Unit) => [rS t.1]) (fun fr => (rV (rX3 fr rS (rN fr (rX2 fr rS rI)) (rN fr (rX2 fr rS rI))) rS)) m__law_told) (h__law_due : FnV M "_law_due" 3 1 (fun (fr : Addr → Prop) (t : Str × Unit) => [rS t.1]) (fun fr => (rV (rX3 fr rS (rN fr (rX2 fr rS rI)) (rN fr (rX2 fr rS rI))) rS)) m__law_due) {f : Addr} {fd : FuncData} (F : Fun M.K "law" "law" (top 37) f fd) : FnOk M.P M.w M.K M.mg M.base (L2.CX M.P M.w) 5 f fd ["_law_script"] (spV M (fun (_ : Addr → Prop) (t : (List Int) × Unit) => [rL M.K rI t.1]) (fun _ => rB) m_law) := by
  refine okBody (N := ["_law_script", "_law_cells", "_law_k", "_law_far", "_law_words_here", "_law_wide", "_law_work_here", "_law_text", "_law_one"]) F (⟨rfl, rfl, rfl, by decide +kernel, rfl, by decide +kernel, by decide +kernel⟩ : FnScope ["_law_script", "_law_cells", "_law_k", "_law_far", "_law_words_here", "_law_wide", "_law_work_here", "_law_text", "_law_one"] ["_law_script"] _) rfl (fun _ _ => rfl) (fun fr t => ?_)
  refine Ex.set (i := 1) (ρ := (rN fr rI)) rfl (stoOf rfl) (EvO.list (EvO.cat (EvO.list (EvO.slice (Ev.nameP (i := 0) rfl rfl rfl rfl) EvP.none (EvP.some Ev.int))) (EvO.list (EvO.list1 (Ev.call2 (hd := rfl) (ρ := fun fr => rI) (mf := m__law_cell) (ra := fun fr => (rL M.K rI)) (rb := fun fr => rI) h__law_cell (Nat.le_of_ble_eq_true rfl) rfl (Ev.nameP (i := 0) rfl rfl rfl rfl) Ev.int (fun _ _ => rfl) (fun _ _ => rfl)) (fun _ _ => rfl))))) (fun v_cells_10 => ?_)
  refine Ex.seq (J1 := (outX (S := Unit) (ρ := Bool) (fun v_s_12 : Unit => [.val ((rL M.K rI) t.1), .val ((rN fr rI) v_cells_10), .no, .no, .no, .no, .no, .no, .no]) (fun r => rB r))) (Ex1.forX (fun v_s_12 : Unit => [.val ((rL M.K rI) t.1), .val ((rN fr rI) v_cells_10), .no, .no, .no, .no, .no, .no, .no]) (fun r => rB r) (s0 := ()) (EvI.range1 (bt_range rfl b_range) (Ev.lenLP (bt_len rfl b_len) (Ev.sub (subNL subR) (Ev.nameP (i := 1) rfl rfl rfl rfl)) (fun _ _ => rfl)) (fun _ _ => rfl)) (EvG.name (i := 2) (r := rI) rfl (stoOf rfl)) (.cons .rf (.cons .rf (.cons .no (.cons .no (.cons .no (.cons .no (.cons .no (.cons .no (.cons .no .nil))))))))) (fun v_s_12 v_x_13 => ?_)) (fun o => ?_)
  ·
    refine Ex.set (i := 3) (ρ := rI) rfl (stoOf rfl) (Ev.call2 (hd := rfl) (ρ := fun fr => rI) (mf := m__law_next) (ra := fun fr => rI) (rb := fun fr => rI) h__law_next (Nat.le_of_ble_eq_true rfl) rfl (Ev.ixLP (Ev.sub (subNL subR) (Ev.nameP (i := 1) rfl rfl rfl rfl)) (Ev.subP (Ev.nameP (i := 2) rfl rfl rfl rfl) Ev.int)) Ev.int (fun _ _ => rfl) (fun _ _ => rfl)) (fun v_far_16 => ?_)
    refine Ex.set (i := 4) (ρ := (rN fr rS)) rfl (stoOf rfl) (Ev.call2 (hd := rfl) (ρ := fun fr => (rN fr rS)) (mf := m__law_words) (ra := fun fr => rI) (rb := fun fr => rI) h__law_words (Nat.le_of_ble_eq_true rfl) rfl (Ev.mod (Ev.ixLP (Ev.sub (subNL subR) (Ev.nameP (i := 1) rfl rfl rfl rfl)) (Ev.nameP (i := 2) rfl rfl rfl rfl)) (Ev.powW (1000000000000000000000000000000 : Int) Ev.int Ev.int ⟨by decide, by decide, by decide⟩ (by decide))) Ev.int (fun _ _ => rfl) (fun _ _ => rfl)) (fun v_words_here_21 => ?_)
    refine Ex.set (i := 5) (ρ := rI) rfl (stoOf rfl) (Ev.ixL (Ev.sub (subNL subR) (EvO.list (EvO.written (r := rI) (xs := [(1 : Int), (1 : Int), (10000000000000000000000000000 : Int)]) (EvA.wCons (r := rI) Ev.int (EvA.wCons (r := rI) Ev.int (EvA.wCons (r := rI) (Ev.powW (10000000000000000000000000000 : Int) Ev.int Ev.int ⟨by decide, by decide, by decide⟩ (by decide)) EvA.nil (fun _ _ => rfl)) (fun _ _ => rfl)) (fun _ _ => rfl)) (Nat.le_of_ble_eq_true rfl)))) (Ev.modP (Ev.nameP (i := 3) rfl rfl rfl rfl) Ev.int)) (fun v_wide_24 => ?_)
    refine Ex.set (i := 6) (ρ := (rX3 fr rS (rN fr (rX2 fr rS rI)) (rN fr (rX2 fr rS rI)))) rfl (stoOf rfl) (Ev.call4 (hd := rfl) (ρ := fun fr => (rX3 fr rS (rN fr (rX2 fr rS rI)) (rN fr (rX2 fr rS rI)))) (mf := m__law_work) (ra := fun fr => rI) (rb := fun fr => rS) (rc := fun fr => (rL M.K rS)) (rd := fun fr => rI) h__law_work (Nat.le_of_ble_eq_true rfl) rfl (Ev.mod (Ev.ixLP (Ev.sub (subNL subR) (Ev.nameP (i := 1) rfl rfl rfl rfl)) (Ev.nameP (i := 2) rfl rfl rfl rfl)) (Ev.powW (1000000000000000000000000000000 : Int) Ev.int Ev.int ⟨by decide, by decide, by decide⟩ (by decide))) (Ev.ixLP (Ev.sub (subNL subR) (Ev.nameP (i := 4) rfl rfl rfl rfl)) Ev.int) (Ev.sub (subNL subR) (EvO.list (EvO.slice (Ev.sub (subNL subR) (Ev.nameP (i := 4) rfl rfl rfl rfl)) EvP.none (EvP.some (Ev.mod (Ev.divP (Ev.nameP (i := 3) rfl rfl rfl rfl) Ev.int) Ev.int))))) (Ev.nameP (i := 5) rfl rfl rfl rfl) (fun _ _ => rfl) (fun _ _ => rfl) (fun _ _ => rfl) (fun _ _ => rfl)) (fun v_work_here_37 => ?_)
    refine Ex.set (i := 7) (ρ := rS) rfl (stoOf rfl) (Ev.call1 (hd := rfl) (ρ := fun fr => rS) (mf := m__law_written) (ra := fun fr => (rT3 M.K rS (rL M.K (rT2 M.K rS rI)) (rL M.K (rT2 M.K rS rI)))) h__law_written (Nat.le_of_ble_eq_true rfl) rfl (Ev.sub (subXT3 subR (subNL (subXT2 subR subR)) (subNL (subXT2 subR subR))) (Ev.nameP (i := 6) rfl rfl rfl rfl)) (fun _ _ => rfl)) (fun v_text_39 => ?_)
    refine Ex.seq (J1 := (outX (S := Unit) (ρ := Bool) (fun v_s_51 : Unit => [.val ((rL M.K rI) t.1), .val ((rN fr rI) v_cells_10), .val (rI v_x_13), .val (rI v_far_16), .val ((rN fr rS) v_words_here_21), .val (rI v_wide_24), .val ((rX3 fr rS (rN fr (rX2 fr rS rI)) (rN fr (rX2 fr rS rI))) v_work_here_37), .val (rS v_text_39), .no]) (fun r => rB r))) (Ex1.forX (fun v_s_51 : Unit => [.val ((rL M.K rI) t.1), .val ((rN fr rI) v_cells_10), .val (rI v_x_13), .val (rI v_far_16), .val ((rN fr rS) v_words_here_21), .val (rI v_wide_24), .val ((rX3 fr rS (rN fr (rX2 fr rS rI)) (rN fr (rX2 fr rS rI))) v_work_here_37), .val (rS v_text_39), .no]) (fun r => rB r) (s0 := ()) (EvI.list (Ev.sub (subNL subR) (EvO.list (EvO.list4 (Ev.nameP (i := 7) rfl rfl rfl rfl) (Ev.call2 (hd := rfl) (ρ := fun fr => rS) (mf := m__law_changed) (ra := fun fr => rS) (rb := fun fr => rI) h__law_changed (Nat.le_of_ble_eq_true rfl) rfl (Ev.nameP (i := 7) rfl rfl rfl rfl) (Ev.divP (Ev.nameP (i := 3) rfl rfl rfl rfl) Ev.int) (fun _ _ => rfl) (fun _ _ => rfl)) (Ev.call2 (hd := rfl) (ρ := fun fr => rS) (mf := m__law_changed) (ra := fun fr => rS) (rb := fun fr => rI) h__law_changed (Nat.le_of_ble_eq_true rfl) rfl (Ev.nameP (i := 7) rfl rfl rfl rfl) (Ev.call2 (hd := rfl) (ρ := fun fr => rI) (mf := m__law_next) (ra := fun fr => rI) (rb := fun fr => rI) h__law_next (Nat.le_of_ble_eq_true rfl) rfl (Ev.nameP (i := 3) rfl rfl rfl rfl) Ev.int (fun _ _ => rfl) (fun _ _ => rfl)) (fun _ _ => rfl) (fun _ _ => rfl)) (Ev.call1 (hd := rfl) (ρ := fun fr => rS) (mf := m__law_odd) (ra := fun fr => rI) h__law_odd (Nat.le_of_ble_eq_true rfl) rfl (Ev.ixLP (Ev.sub (subNL subR) (Ev.nameP (i := 1) rfl rfl rfl rfl)) (Ev.nameP (i := 2) rfl rfl rfl rfl)) (fun _ _ => rfl)) (fun _ _ => rfl) (fun _ _ => rfl) (fun _ _ => rfl) (fun _ _ => rfl))))) (EvG.name (i := 8) (r := rS) rfl (stoOf rfl)) (.cons .rf (.cons .rf (.cons .rf (.cons .rf (.cons .rf (.cons .rf (.cons .rf (.cons .rf (.cons .no .nil))))))))) (fun v_s_51 v_x_52 => ?_)) (fun o => ?_)
    ·
      refine Ex.ifx (EvT.cmp (Ev.neK (K := M.K) rfl (ρa := (rV (rT3 M.K rS (rL M.K (rT2 M.K rS rI)) (rL M.K (rT2 M.K rS rI))) rS)) (ρb := (rV (rT3 M.K rS (rL M.K (rT2 M.K rS rI)) (rL M.K (rT2 M.K rS rI))) rS)) rfl (Nat.le_of_ble_eq_true rfl) (Nat.le_of_ble_eq_true rfl) rfl (Ev.sub (subV (subXT3 subR (subNL (subXT2 subR subR)) (subNL (subXT2 subR subR))) subR) (Ev.call1 (hd := rfl) (ρ := fun fr => (rV (rX3 fr rS (rN fr (rX2 fr rS rI)) (rN fr (rX2 fr rS rI))) rS)) (mf := m__law_told) (ra := fun fr => rS) h__law_told (Nat.le_of_ble_eq_true rfl) rfl (Ev.nameP (i := 8) rfl rfl rfl rfl) (fun _ _ => rfl))) (Ev.sub (subV (subXT3 subR (subNL (subXT2 subR subR)) (subNL (subXT2 subR subR))) subR) (Ev.call1 (hd := rfl) (ρ := fun fr => (rV (rX3 fr rS (rN fr (rX2 fr rS rI)) (rN fr (rX2 fr rS rI))) rS)) (mf := m__law_due) (ra := fun fr => rS) h__law_due (Nat.le_of_ble_eq_true rfl) rfl (Ev.nameP (i := 8) rfl rfl rfl rfl) (fun _ _ => rfl))))) ?_ ?_
      ·
        exact Ex.ret (ρ := rB) (fun u58 => (Fl.ret u58)) (fun _ => rfl) Ev.bool
      exact Ex.nilLp rfl (.cons .rf (.cons .rf (.cons .rf (.cons .rf (.cons .rf (.cons .rf (.cons .rf (.cons .rf (.cons .no .nil)))))))))
    obtain v_s_51 | r := o
    ·
      show Ex _ _ _ _ _
      exact Ex.nilLp rfl (.cons .rf (.cons .rf (.cons .no (.cons .no (.cons .no (.cons .no (.cons .no (.cons .no (.cons .no .nil)))))))))
    · exact ⟨_, rfl, rfl⟩
  obtain v_s_12 | r := o
  ·
    show Ex _ _ _ _ _
    exact Ex.ret (ρ := rB) (fun u59 => u59) (fun _ => rfl) Ev.bool
  · exact ⟨_, rfl, rfl⟩
end Y

/-! Z1: plain mathematics of ints; wp of the parts -/
namespace Y
open PySem
namespace W
variable {α β σ : Type} {P : α → Prop} {E : Exn → Prop}
theorem le_req {c : Prop} {v : α} {m : W α} (h : c → ∀ P E, P v → m.wp P E) : W.Le (W.req c (pure v)) m := fun P E ⟨hc, hp⟩ => h hc P E hp
theorem foldM_of {τ : Type} {f : σ → α → W σ} {g : σ → α → σ} (J : σ → Prop) (ok : α → Prop) (h : ∀ s x, J s → ok x → J (g s x) ∧ ∀ (P : σ → Prop) (E : Exn → Prop), P (g s x) → (f s x).wp P E) :
    ∀ (xs : List α) (s : σ) (P : σ → Prop) (E : Exn → Prop), J s → (∀ x ∈ xs, ok x) → P (xs.foldl g s) → (foldM f s xs).wp P E
  | [], s, P, E, _, _, hp => hp
  | x :: xs, s, P, E, hs, hx, hp => by
    obtain ⟨h1, h2⟩ := h s x hs (hx x (by simp))
    exact h2 _ E (foldM_of (τ := τ) J ok h xs (g s x) P E h1 (fun y hy => hx y (by simp [hy])) hp)
/-- a fold by an invariant that knows what is done -/
theorem foldM_inv {f : σ → α → W σ} {E : Exn → Prop} (I : List α → σ → Prop) (xs : List α) (h : ∀ done x rest s, xs = done ++ x :: rest → I done s → (f s x).wp (fun s' => I (done ++ [x]) s') E) {s0 : σ} (h0 : I [] s0) {P : σ → Prop} (hP : ∀ s, I xs s → P s) : (foldM f s0 xs).wp P E := by
  have go : ∀ rest done s, xs = done ++ rest → I done s → (foldM f s rest).wp P E := by
    intro rest
    induction rest with
    | nil =>
      intro done s e hi
      rw [List.append_nil] at e
      subst e
      exact hP s hi
    | cons x rest ih =>
      intro done s e hi
      exact (f s x).mono (fun s' hs' => ih (done ++ [x]) s' (by simp [e]) hs') (fun _ z => z) (h done x rest s e hi)
  exact go xs [] s0 rfl h0
theorem compM_of {t : α → W Bool} {f : α → W β} {tb : α → Bool} {fb : α → β} : ∀ (xs : List α), (∀ x ∈ xs, ∀ (P : Bool → Prop) (E : Exn → Prop), P (tb x) → (t x).wp P E) → (∀ x ∈ xs, tb x = true → ∀ (P : β → Prop) (E : Exn → Prop), P (fb x) → (f x).wp P E) →
    ∀ (P : List β → Prop) (E : Exn → Prop), P ((xs.filter tb).map fb) → (W.noX (compM t f xs)).wp P E
  | [], _, _, P, E, hp => hp
  | x :: xs, h1, h2, P, E, hp => by
    show (t x).wp _ _
    refine h1 x (by simp) _ _ ?_
    have ih := compM_of xs (fun y hy => h1 y (by simp [hy])) (fun y hy => h2 y (by simp [hy]))
    cases e : tb x with
    | false =>
      rw [List.filter_cons_of_neg (by simp [e])] at hp
      exact ih P E hp
    | true =>
      rw [List.filter_cons_of_pos e] at hp
      show (f x).wp _ _
      refine h2 x (by simp) e _ _ ?_
      exact ih (fun ys => P (fb x :: ys)) E hp
/-- without a test -/
theorem compM_map {f : α → W β} {fb : α → β} (xs : List α) (h2 : ∀ x ∈ xs, ∀ (P : β → Prop) (E : Exn → Prop), P (fb x) → (f x).wp P E) (P : List β → Prop) (E : Exn → Prop) (hp : P (xs.map fb)) : (W.noX (compM (fun _ => pure true) f xs)).wp P E :=
  compM_of (tb := fun _ => true) (fb := fb) xs (fun _ _ _ _ h => h) (fun x hx _ => h2 x hx) P E (by rw [List.filter_eq_self.mpr (by simp)]; exact hp)
end W
section
variable {P : Int → Prop} {E : Exn → Prop} {x y : Int}
theorem wp_divI : (divI x y).wp P E = ((y ≠ 0 ∧ y.natAbs.log2 < 9000) ∧ P (x.fdiv y)) := rfl
theorem wp_modI : (modI x y).wp P E = (y ≠ 0 ∧ P (x.fmod y)) := rfl
theorem wp_mulI : (mulI x y).wp P E = (CMulB x y ∧ P (x * y)) := rfl
end
/-! ### sizes -/
def Sz (n : Nat) (x : Int) : Prop := x.natAbs < 2 ^ n
theorem Sz.log {n : Nat} {x : Int} (h : Sz n x) : x.natAbs.log2 ≤ n := by
  unfold Sz at h
  by_cases e : x.natAbs = 0
  · rw [e]; simp
  · exact Nat.le_of_lt ((Nat.log2_lt e).mpr h)
theorem Sz.le {n m : Nat} {x : Int} (h : Sz n x) (hm : n ≤ m) : Sz m x := Nat.lt_of_lt_of_le h (Nat.pow_le_pow_right (by decide) hm)
theorem Sz.of_le {n : Nat} {x y : Int} (h : Sz n x) (hy : y.natAbs ≤ x.natAbs) : Sz n y := Nat.lt_of_le_of_lt hy h
theorem Sz.mul {n m : Nat} {x y : Int} (h : Sz n x) (h' : Sz m y) : Sz (n + m) (x * y) := by
  unfold Sz at *
  rw [Int.natAbs_mul, Nat.pow_add]
  exact Nat.mul_lt_mul_of_lt_of_lt h h'
theorem Sz.add {n : Nat} {x y : Int} (h : Sz n x) (h' : Sz n y) : Sz (n + 1) (x + y) := by
  unfold Sz at *
  rw [Nat.pow_succ]
  omega
theorem Sz.sub {n : Nat} {x y : Int} (h : Sz n x) (h' : Sz n y) : Sz (n + 1) (x - y) := by
  unfold Sz at *
  rw [Nat.pow_succ]
  omega
theorem Sz.cmul {n m : Nat} {x y : Int} (h : Sz n x) (h' : Sz m y) (hs : n + m < 100000000) : CMulB x y := by
  have h1 := h.log
  have h2 := h'.log
  unfold CMulB
  omega
theorem Sz.zero {n : Nat} : Sz n 0 := Nat.pow_pos (by decide)
theorem absI_eq (x : Int) : absI x = (x.natAbs : Int) := by unfold absI; split <;> omega
theorem absI_nonneg (x : Int) : 0 ≤ absI x := by rw [absI_eq]; omega
/-! ### the common measure -/
def gcdL (xs : List Int) : Int := xs.foldl (fun g x => (Int.gcd g x : Int)) 0
theorem gcdL_append (xs : List Int) (x : Int) : gcdL (xs ++ [x]) = (Int.gcd (gcdL xs) x : Int) := by unfold gcdL; rw [List.foldl_append]; rfl
theorem foldl_gcd_nonneg : ∀ (xs : List Int) (g : Int), 0 ≤ g → 0 ≤ xs.foldl (fun g x => (Int.gcd g x : Int)) g
  | [], g, h => h
  | x :: xs, g, _ => foldl_gcd_nonneg xs _ (Int.natCast_nonneg _)
theorem gcdL_nonneg (xs : List Int) : 0 ≤ gcdL xs := foldl_gcd_nonneg xs 0 (Int.le_refl _)
theorem foldl_gcd_dvd : ∀ (xs : List Int) (g d : Int), d ∣ xs.foldl (fun g x => (Int.gcd g x : Int)) g ↔ d ∣ g ∧ ∀ x ∈ xs, d ∣ x
  | [], g, d => by simp
  | x :: xs, g, d => by
    rw [List.foldl_cons, foldl_gcd_dvd xs _ d]
    have : d ∣ (Int.gcd g x : Int) ↔ d ∣ g ∧ d ∣ x := by
      rw [Int.dvd_coe_gcd_iff]
    rw [this]
    simp [and_assoc]
theorem dvd_gcdL {xs : List Int} {d : Int} : d ∣ gcdL xs ↔ ∀ x ∈ xs, d ∣ x := by
  unfold gcdL
  rw [foldl_gcd_dvd]
  simp
theorem gcdL_dvd {xs : List Int} {x : Int} (h : x ∈ xs) : gcdL xs ∣ x := dvd_gcdL.mp (Int.dvd_refl _) x h
theorem gcdL_zero {xs : List Int} : gcdL xs = 0 ↔ ∀ x ∈ xs, x = 0 := by
  constructor
  · intro h x hx
    have := gcdL_dvd hx
    rw [h] at this
    exact Int.zero_dvd.mp this
  · intro h
    have : (0 : Int) ∣ gcdL xs := dvd_gcdL.mpr fun x hx => by rw [h x hx]; exact Int.dvd_refl _
    exact Int.zero_dvd.mp this
def lowL (xs : List Int) : List Int := if gcdL xs = 0 then xs else xs.map fun x => x.fdiv (gcdL xs)
/-- Euclid by /, as measure does it -/
theorem euclid_step {a b : Int} (hb : 0 < b) (ha : 0 ≤ a) : a - a.fdiv b * b = a.fmod b ∧ 0 ≤ a.fmod b ∧ a.fmod b < b ∧ Int.gcd b (a.fmod b) = Int.gcd a b := by
  have h1 : a.fmod b = a % b := Int.fmod_eq_emod_of_nonneg a (Int.le_of_lt hb)
  have h2 := Int.mul_fdiv_add_fmod a b
  refine ⟨?_, ?_, ?_, ?_⟩
  · rw [Int.mul_comm (a.fdiv b) b]; omega
  · rw [h1]; exact Int.emod_nonneg _ (Int.ne_of_gt hb)
  · rw [h1]; exact Int.emod_lt_of_pos _ hb
  · rw [show a.fmod b = a - b * a.fdiv b by omega, Int.gcd_sub_mul_left_right, Int.gcd_comm]
/-- the size of a common measure -/
theorem Sz.gcd {n : Nat} {a b : Int} (ha : Sz n a) (hb : Sz n b) : Sz n (Int.gcd a b : Int) := by
  unfold Sz at *
  rw [Int.natAbs_natCast]
  by_cases e : a = 0
  · subst e; rw [Int.gcd_zero_left]; exact hb
  · have : Int.gcd a b ≤ a.natAbs := Nat.le_of_dvd (by omega) (Nat.gcd_dvd_left _ _)
    omega
theorem Sz.foldl_gcd {n : Nat} : ∀ (xs : List Int) (g : Int), Sz n g → (∀ x ∈ xs, Sz n x) → Sz n (xs.foldl (fun g x => (Int.gcd g x : Int)) g)
  | [], g, h, _ => h
  | x :: xs, g, h, hx => Sz.foldl_gcd xs _ (h.gcd (hx x (by simp))) fun y hy => hx y (by simp [hy])
theorem Sz.gcdL {n : Nat} {xs : List Int} (h : ∀ x ∈ xs, Sz n x) : Sz n (Y.gcdL xs) := Sz.foldl_gcd xs 0 Sz.zero h
theorem fmod_bd {a n : Int} (h : 0 < n) : 0 ≤ a.fmod n ∧ a.fmod n < n := by
  rw [Int.fmod_eq_emod_of_nonneg a (Int.le_of_lt h)]
  exact ⟨Int.emod_nonneg _ (Int.ne_of_gt h), Int.emod_lt_of_pos _ h⟩
theorem idx_of {α : Type} {xs : List α} {i : Int} {x : α} (h0 : 0 ≤ i) (h : xs[i.toNat]? = some x) {P : α → Prop} {E : Exn → Prop} (hp : P x) : (idx xs i).wp P E := by
  have e : L2.atI xs i = some x := by
    have := L2.atI_nat h
    rwa [Int.toNat_of_nonneg h0] at this
  unfold idx
  rw [e]
  exact hp
/-- numbers over their common measure -/
theorem fdiv_mul_self {a g : Int} (hg : g ≠ 0) (h : g ∣ a) : a.fdiv g * g = a := by
  rw [Int.fdiv_eq_ediv_of_dvd h, Int.ediv_mul_cancel h]
theorem gcdL_low {xs : List Int} (h : gcdL xs ≠ 0) : gcdL (xs.map fun x => x.fdiv (gcdL xs)) = 1 := by
  have hg := gcdL_nonneg xs
  have h1 : gcdL (xs.map fun x => x.fdiv (gcdL xs)) * gcdL xs ∣ gcdL xs := by
    apply dvd_gcdL.mpr
    intro x hx
    have h2 : gcdL (xs.map fun x => x.fdiv (gcdL xs)) ∣ x.fdiv (gcdL xs) := gcdL_dvd (List.mem_map_of_mem hx)
    have h3 := Int.mul_dvd_mul_right (gcdL xs) h2
    rwa [fdiv_mul_self h (gcdL_dvd hx)] at h3
  have h4 := gcdL_nonneg (xs.map fun x => x.fdiv (gcdL xs))
  obtain ⟨k, hk⟩ := h1
  have h5 : (gcdL (xs.map fun x => x.fdiv (gcdL xs)) * k) * gcdL xs = 1 * gcdL xs := by
    rw [Int.one_mul, Int.mul_assoc, Int.mul_comm k, ← Int.mul_assoc]; exact hk.symm
  have h6 := Int.eq_of_mul_eq_mul_right h h5
  have h7 : gcdL (xs.map fun x => x.fdiv (gcdL xs)) ∣ 1 := ⟨k, h6.symm⟩
  have h8 := Int.le_of_dvd (by decide) h7
  have h9 : gcdL (xs.map fun x => x.fdiv (gcdL xs)) ≠ 0 := fun z => by rw [z] at h6; simp at h6
  omega
theorem cut_take {α : Type} (xs : List α) (n : Nat) : cut xs none (some (n : Int)) = xs.take n := by
  unfold cut
  rw [HT.sIx_none, HT.sIx_nat, List.drop_zero, Nat.sub_zero]
  rw [List.take_eq_take_iff]
  omega
theorem mem_cut {α : Type} {xs : List α} {a b : Option Int} {x : α} (h : x ∈ cut xs a b) : x ∈ xs := List.mem_of_mem_drop (List.mem_of_mem_take h)
theorem cut_length {α : Type} (xs : List α) (a b : Option Int) : (cut xs a b).length ≤ xs.length := by
  unfold cut
  rw [List.length_take, List.length_drop]
  omega
/-! ### ratios -/
/-- the measure by which a ratio is made plain, with the bottom's sign -/
def sgn (a b : Int) : Int := if b < 0 then -(Int.gcd a b : Int) else (Int.gcd a b : Int)
def nrm (a b : Int) : Int × Int := (a.fdiv (sgn a b), b.fdiv (sgn a b))
theorem gcd_pos_of {a b : Int} (hb : b ≠ 0) : 0 < (Int.gcd a b : Int) := by
  have : Int.gcd a b ≠ 0 := fun h => hb (Int.gcd_eq_zero_iff.mp h).2
  omega
theorem sgn_ne {a b : Int} (hb : b ≠ 0) : sgn a b ≠ 0 := by
  have := gcd_pos_of (a := a) hb
  unfold sgn; split <;> omega
theorem sgn_dvd_l (a b : Int) : sgn a b ∣ a := by
  unfold sgn
  split
  · exact Int.neg_dvd.mpr (Int.gcd_dvd_left ..)
  · exact Int.gcd_dvd_left ..
theorem sgn_dvd_r (a b : Int) : sgn a b ∣ b := by
  unfold sgn
  split
  · exact Int.neg_dvd.mpr (Int.gcd_dvd_right ..)
  · exact Int.gcd_dvd_right ..
theorem nrm_l {a b : Int} (hb : b ≠ 0) : (nrm a b).1 * sgn a b = a := fdiv_mul_self (sgn_ne hb) (sgn_dvd_l a b)
theorem nrm_r {a b : Int} (hb : b ≠ 0) : (nrm a b).2 * sgn a b = b := fdiv_mul_self (sgn_ne hb) (sgn_dvd_r a b)
theorem nrm_pos {a b : Int} (hb : b ≠ 0) : 0 < (nrm a b).2 := by
  have h1 := nrm_r (a := a) hb
  have h2 := gcd_pos_of (a := a) hb
  unfold sgn at h1
  split at h1
  · rename_i hn
    rw [Int.mul_neg] at h1
    exact Int.pos_of_mul_pos_left (b := (Int.gcd a b : Int)) (by omega) h2
  · rename_i hn
    exact Int.pos_of_mul_pos_left (b := (Int.gcd a b : Int)) (by omega) h2
theorem nrm_cross {a b : Int} (hb : b ≠ 0) : (nrm a b).1 * b = a * (nrm a b).2 := by
  have h1 := nrm_l (a := a) hb
  have h2 := nrm_r (a := a) hb
  calc (nrm a b).1 * b = (nrm a b).1 * ((nrm a b).2 * sgn a b) := by rw [h2]
    _ = ((nrm a b).1 * sgn a b) * (nrm a b).2 := by rw [Int.mul_comm (nrm a b).2, Int.mul_assoc]
    _ = a * (nrm a b).2 := by rw [h1]
theorem nrm_cop {a b : Int} (hb : b ≠ 0) : Int.gcd (nrm a b).1 (nrm a b).2 = 1 := by
  have h1 := nrm_l (a := a) hb
  have h2 := nrm_r (a := a) hb
  have h3 := Int.gcd_mul_right (nrm a b).1 (sgn a b) (nrm a b).2
  rw [h1, h2] at h3
  have h4 : (sgn a b).natAbs = Int.gcd a b := by unfold sgn; split <;> omega
  rw [h4] at h3
  have h5 := gcd_pos_of (a := a) hb
  have h6 : Int.gcd a b * 1 = Int.gcd a b * Int.gcd (nrm a b).1 (nrm a b).2 := by rw [Nat.mul_one, Nat.mul_comm]; exact h3
  exact (Nat.eq_of_mul_eq_mul_left (by omega) h6).symm
theorem dvd_of_cop {b a d : Int} (h : b ∣ a * d) (hc : Int.gcd b a = 1) : b ∣ d :=
  Int.natAbs_dvd_natAbs.mp (Nat.Coprime.dvd_of_dvd_mul_left (show Nat.Coprime b.natAbs a.natAbs from hc) (by rw [← Int.natAbs_mul]; exact Int.natAbs_dvd_natAbs.mpr h))
/-- lowest terms are one -/
theorem cop_one {a b c d : Int} (hb : 0 < b) (hd : 0 < d) (h1 : Int.gcd a b = 1) (h2 : Int.gcd c d = 1) (h : a * d = c * b) : (a, b) = (c, d) := by
  have e1 : b ∣ d := by
    have : b ∣ a * d := ⟨c, by rw [h, Int.mul_comm]⟩
    exact dvd_of_cop this (by rw [Int.gcd_comm]; exact h1)
  have e2 : d ∣ b := by
    have : d ∣ c * b := ⟨a, by rw [← h, Int.mul_comm]⟩
    exact dvd_of_cop this (by rw [Int.gcd_comm]; exact h2)
  have e3 : b = d := Int.le_antisymm (Int.le_of_dvd hd e1) (Int.le_of_dvd hb e2)
  subst e3
  have e4 := Int.eq_of_mul_eq_mul_right (by omega) h
  rw [e4]
theorem nrm_eq {a b c d : Int} (hb : b ≠ 0) (hd : d ≠ 0) (h : a * d = c * b) : nrm a b = nrm c d := by
  refine cop_one (nrm_pos hb) (nrm_pos hd) (nrm_cop hb) (nrm_cop hd) ?_
  have h1 := nrm_cross (a := a) hb
  have h2 := nrm_cross (a := c) hd
  have h3 : ((nrm a b).1 * (nrm c d).2) * (b * d) = ((nrm c d).1 * (nrm a b).2) * (b * d) := by
    calc ((nrm a b).1 * (nrm c d).2) * (b * d) = ((nrm a b).1 * b) * ((nrm c d).2 * d) := by ac_rfl
      _ = (a * (nrm a b).2) * ((nrm c d).2 * d) := by rw [h1]
      _ = (a * d) * ((nrm a b).2 * (nrm c d).2) := by ac_rfl
      _ = (c * b) * ((nrm a b).2 * (nrm c d).2) := by rw [h]
      _ = (c * (nrm c d).2) * ((nrm a b).2 * b) := by ac_rfl
      _ = ((nrm c d).1 * d) * ((nrm a b).2 * b) := by rw [h2]
      _ = ((nrm c d).1 * (nrm a b).2) * (b * d) := by ac_rfl
  exact Int.eq_of_mul_eq_mul_right (Int.mul_ne_zero hb hd) h3
theorem natAbs_fdiv_le (a b : Int) (h : b ∣ a) : (a.fdiv b).natAbs ≤ a.natAbs := by
  rw [Int.fdiv_eq_ediv_of_dvd h]
  exact Int.natAbs_ediv_le_natAbs _ _
theorem Sz.nrm {n m : Nat} {a b : Int} (ha : Sz n a) (hb : Sz m b) : Sz n (Y.nrm a b).1 ∧ Sz m (Y.nrm a b).2 := ⟨ha.of_le (natAbs_fdiv_le _ _ (sgn_dvd_l a b)), hb.of_le (natAbs_fdiv_le _ _ (sgn_dvd_r a b))⟩
theorem Sz.neg {n : Nat} {a : Int} (ha : Sz n a) : Sz n (-a) := by unfold Sz at *; omega
theorem Sz.sgn {n m : Nat} {a b : Int} (ha : Sz n a) (hb : Sz n b) : Sz n (Y.sgn a b) := by
  unfold Y.sgn
  split
  · exact (ha.gcd hb).neg
  · exact ha.gcd hb
/-- a number already in lowest terms -/
theorem nrm_self {a b : Int} (hb : 0 < b) (h : Int.gcd a b = 1) : nrm a b = (a, b) := by
  refine cop_one (nrm_pos (by omega)) hb (nrm_cop (by omega)) h ?_
  exact nrm_cross (by omega)
/-! ### loops that may return, ranges -/
theorem W.foldR_all {α ρ : Type} {f : Unit → α → W (Fl Unit ρ)} : ∀ (xs : List α), (∀ x ∈ xs, ∀ (P : Fl Unit ρ → Prop) (E : Exn → Prop), P (.go ()) → (f () x).wp P E) → ∀ (P : Fl Unit ρ → Prop) (E : Exn → Prop), P (.go ()) → (W.foldR f () xs).wp P E
  | [], _, _, _, hp => hp
  | x :: xs, h, P, E, hp => by
    refine h x (by simp) _ _ ?_
    exact W.foldR_all xs (fun y hy => h y (by simp [hy])) P E hp
theorem W.foldR_inv {α σ ρ : Type} {f : σ → α → W (Fl σ ρ)} {E : Exn → Prop} (I : List α → σ → Prop) (xs : List α) (Q : Fl σ ρ → Prop) (h : ∀ done x rest s, xs = done ++ x :: rest → I done s → (f s x).wp (fun o => match o with | .go s' => I (done ++ [x]) s' | o => Q o) E) {s0 : σ} (h0 : I [] s0) (hP : ∀ s, I xs s → Q (.go s)) : (W.foldR f s0 xs).wp Q E := by
  have go : ∀ rest done s, xs = done ++ rest → I done s → (W.foldR f s rest).wp Q E := by
    intro rest
    induction rest with
    | nil =>
      intro done s e hi
      rw [List.append_nil] at e
      subst e
      exact hP s hi
    | cons x rest ih =>
      intro done s e hi
      refine (f s x).mono (fun o ho => ?_) (fun _ z => z) (h done x rest s e hi)
      cases o with
      | go s' => exact ih (done ++ [x]) s' (by simp [e]) ho
      | ret r => exact ho
      | brk s' => exact ho
  exact go xs [] s0 rfl h0
theorem mem_rng {lo hi x : Int} : x ∈ rng lo hi ↔ lo ≤ x ∧ x < hi := by
  unfold rng
  rw [List.mem_map]
  constructor
  · rintro ⟨i, hi, rfl⟩
    have := List.mem_range.mp hi
    omega
  · intro ⟨h1, h2⟩
    exact ⟨(x - lo).toNat, List.mem_range.mpr (by omega), by omega⟩
theorem le_range {n : Int} (h : 0 ≤ n) (h2 : n ≤ 1000000) {P : List Int → Prop} {E : Exn → Prop} (hp : P (rng 0 n)) : (rangeW 0 n).wp P E := ⟨⟨by omega, by omega, by omega, by omega, by omega⟩, hp⟩
/-! ### numbers of a script -/
def Bz (x : Int) : Prop := x.natAbs.log2 ≤ 2000000
theorem BitsOk.bz {x : Int} (h : BitsOk x) : Bz x := by
  unfold BitsOk Builtin.Int.intBits at h
  unfold Bz
  split at h
  · rename_i e
    have : x.natAbs = 0 := by simpa using e
    rw [this]; simp
  · omega
theorem Bz.of_le {x y : Int} (h : Bz x) (hy : y.natAbs ≤ x.natAbs) : Bz y := by
  unfold Bz at *
  by_cases e : y.natAbs = 0
  · rw [e]; simp
  · have h1 : x.natAbs ≠ 0 := by omega
    have h2 : y.natAbs.log2 ≤ x.natAbs.log2 := by
      have := Nat.log2_self_le e
      exact (Nat.le_log2 h1).mpr (by omega)
    omega
theorem Bz.cmul {m : Nat} {x y : Int} (h : Bz x) (h' : Sz m y) (hs : m ≤ 1000000) : CMulB x y := by
  have h2 := h'.log
  unfold CMulB
  unfold Bz at h
  omega
theorem Sz.bz {n : Nat} {x : Int} (h : Sz n x) (hn : n ≤ 2000000) : Bz x := by
  have := h.log
  unfold Bz
  omega
theorem BitsOk.zero : Bz 0 := by unfold Bz; decide
theorem cut_drop {α : Type} (xs : List α) (n : Nat) : cut xs (some (n : Int)) none = xs.drop n := by
  unfold cut
  rw [HT.sIx_none, HT.sIx_nat]
  rw [List.take_of_length_le (by rw [List.length_drop]; omega)]
  by_cases h : n ≤ xs.length
  · rw [Nat.min_eq_left h]
  · rw [Nat.min_eq_right (by omega), List.drop_of_length_le (Nat.le_refl _), List.drop_of_length_le (by omega)]
/-- what a try makes of an exception -/
def TryX {ω : Type} (c : Str → Option Bool) (h : Exn → W ω) (P : ω → Prop) (E : Exn → Prop) (e : Exn) : Prop := match c e.cls with
  | some true => e.pay = none ∧ (h e).wp P (fun _ => False)
  | some false => E e
  | none => False
theorem wp_tryW {ω : Type} {m : W ω} {c : Str → Option Bool} {h : Exn → W ω} {P : ω → Prop} {E : Exn → Prop} : (tryW m c h).wp P E = m.wp P (TryX c h P E) := rfl
theorem TryX.yes {ω : Type} {c : Str → Option Bool} {h : Exn → W ω} {P : ω → Prop} {E : Exn → Prop} {x : Str} (hc : c x = some true) (hh : (h ⟨x, none⟩).wp P (fun _ => False)) : TryX c h P E ⟨x, none⟩ := by
  unfold TryX
  simp only [hc]
  exact ⟨trivial, hh⟩
end Y

namespace Y
open PySem
def cellAt (ns : List Int) (k : Int) : Int := ns.getD k.toNat 0
theorem le_cell {ns : List Int} {k : Int} (hk : 0 ≤ k) {P : Int → Prop} {E : Exn → Prop} (hp : P (cellAt ns k)) : (m__law_cell (ns, k, ())).wp P E := by
  unfold m__law_cell
  simp only [W.wp_bind, W.wp_pure, W.wp_ite]
  unfold cellAt at hp
  split
  · rename_i h
    have h1 : k < (ns.length : Int) := of_decide_eq_true h
    have h2 : k.toNat < ns.length := by omega
    refine idx_of hk (List.getElem?_eq_getElem h2) ?_
    rw [List.getD_eq_getElem?_getD, List.getElem?_eq_getElem h2] at hp
    exact hp
  · rename_i h
    have h1 : ¬ k < (ns.length : Int) := fun z => h (decide_eq_true z)
    have h2 : ns.length ≤ k.toNat := by omega
    rw [List.getD_eq_getElem?_getD, List.getElem?_eq_none h2] at hp
    exact hp
theorem le_next {c k : Int} (hc : Bz c) (hk : 0 ≤ k) (hk2 : k < 1000) {P : Int → Prop} {E : Exn → Prop} (hp : ∀ r, Bz r → (0 ≤ c → 0 ≤ r) → P r) : (m__law_next (c, k, ())).wp P E := by
  unfold m__law_next
  simp only [W.wp_bind, W.wp_pure, W.wp_ite, wp_divI, wp_modI, wp_mulI]
  split
  · rename_i h
    have h1 : 2147483648 ≤ c := of_decide_eq_true h
    have e : c.fdiv 1890 = c / 1890 := Int.fdiv_eq_ediv_of_nonneg _ (by decide)
    refine ⟨⟨by decide, by decide⟩, hp _ (hc.of_le ?_) fun _ => ?_⟩
    · rw [e]; exact Int.natAbs_ediv_le_natAbs _ _
    · rw [e]; exact Int.ediv_nonneg (by omega) (by decide)
  · have z1 : Sz 30 k := by unfold Sz; omega
    have z2 : Sz 60 (48271 + 21350 * k) := by unfold Sz; omega
    have q1 := fmod_bd (a := c * (48271 + 21350 * k) + 12345 + k) (n := 2147483647) (by decide)
    have z3 : Sz 40 ((c * (48271 + 21350 * k) + 12345 + k).fmod 2147483647) := by unfold Sz; omega
    have q2 := fmod_bd (a := (c * (48271 + 21350 * k) + 12345 + k).fmod 2147483647 * 16807) (n := 2147483629) (by decide)
    refine ⟨(show Sz 20 (21350 : Int) by unfold Sz; decide).cmul z1 (by decide), hc.cmul z2 (by decide), by decide, z3.cmul (show Sz 20 (16807 : Int) by unfold Sz; decide) (by decide), by decide, hp _ ?_ fun _ => q2.1⟩
    have z4 : Sz 40 (((c * (48271 + 21350 * k) + 12345 + k).fmod 2147483647 * 16807).fmod 2147483629) := by unfold Sz; omega
    exact z4.bz (by decide)
def small (c : Nat) : Bool := decide (97 ≤ c ∧ c ≤ 122)
def isn (z : Str) : Bool := decide (1 ≤ (z.length : Int)) && decide ((z.length : Int) ≤ 8) && z.cps.toList.all small
theorem small_mem (c : Nat) : memS ⟨#[c]⟩ ("abcdefghijklmnopqrstuvwxyz" : Str) = small c := by
  have e : ("abcdefghijklmnopqrstuvwxyz" : Str).cps.toList = List.range' 97 26 := by decide +kernel
  show decide (c ∈ ("abcdefghijklmnopqrstuvwxyz" : Str).cps.toList) = small c
  rw [e]
  unfold small
  have : c ∈ List.range' 97 26 ↔ 97 ≤ c ∧ c ≤ 122 := by rw [List.mem_range'_1]; omega
  simp only [this]
theorem W.foldR_find {α ρ : Type} {f : Unit → α → W (Fl Unit ρ)} {ok : α → Bool} {r : ρ} {E : Exn → Prop} : ∀ (xs : List α), (∀ x ∈ xs, ∀ (P : Fl Unit ρ → Prop), P (if ok x = true then .go () else .ret r) → (f () x).wp P E) → ∀ (P : Fl Unit ρ → Prop), P (if xs.all ok = true then .go () else .ret r) → (W.foldR f () xs).wp P E
  | [], _, _, hp => hp
  | x :: xs, h, P, hp => by
    refine h x (by simp) _ ?_
    rw [List.all_cons] at hp
    cases e : ok x with
    | false =>
      rw [e, Bool.false_and] at hp
      rw [if_neg (by simp)]
      rw [if_neg (by simp)] at hp
      exact hp
    | true =>
      rw [e, Bool.true_and] at hp
      rw [if_pos rfl]
      exact W.foldR_find xs (fun y hy => h y (by simp [hy])) P hp
theorem all_signs {z : Str} {p : Str → Bool} {q : Nat → Bool} (h : ∀ c, p ⟨#[c]⟩ = q c) : (signs z).all p = z.cps.toList.all q := by
  unfold signs
  rw [List.all_map]
  congr 1
  funext c
  exact h c
def okS (x : Str) : Bool := memS x ("abcdefghijklmnopqrstuvwxyz" : Str)
theorem mem_signs {z x : Str} (h : x ∈ signs z) : ∃ c, x = ⟨#[c]⟩ := by
  obtain ⟨c, _, e⟩ := List.mem_map.mp h
  exact ⟨c, e.symm⟩
theorem isn_strOk {z : Str} (h : isn z = true) : PyData.strOk z = true := by
  unfold isn at h
  rw [Bool.and_eq_true] at h
  have h2 := List.all_eq_true.mp h.2
  unfold PyData.strOk
  rw [← Array.all_toList]
  refine List.all_eq_true.mpr fun c hc => ?_
  have := of_decide_eq_true (h2 c hc)
  simp
  omega
theorem le_isname {z : Str} (hl : z.length ≤ 100000) {P : Bool → Prop} {E : Exn → Prop} (hp : P (isn z)) : (m_is_name (z, ())).wp P E := by
  have hs : z.length ≤ sizeLine := Nat.le_trans hl (by decide)
  unfold m_is_name
  simp only [W.wp_bind, W.wp_pure, W.wp_ite, wp_chW]
  refine ⟨hs, ?_⟩
  simp only [W.wp_pure]
  unfold isn at hp
  have rest : (decide (1 ≤ (z.length : Int)) = true) → (decide ((z.length : Int) ≤ 8) = true) → P (z.cps.toList.all small) := fun h1 h2 => by rw [h1, h2] at hp; exact hp
  by_cases h1 : (1 : Int) ≤ z.length
  · rw [if_pos (decide_eq_true h1)]
    by_cases h2 : (z.length : Int) ≤ 8
    · rw [if_neg (by simp only [h2, decide_true]; decide)]
      have hp := rest (decide_eq_true h1) (decide_eq_true h2)
      refine ⟨hs, ?_⟩
      refine W.foldR_find (ok := okS) (r := false) _ (fun x hx P hp => ?_) _ ?_
      · obtain ⟨c, rfl⟩ := mem_signs hx
        unfold m_is_name_b1
        simp only [W.wp_bind, W.wp_pure, W.wp_ite]
        refine ⟨rfl, ?_⟩
        unfold okS at hp
        cases e : memS ⟨#[c]⟩ ("abcdefghijklmnopqrstuvwxyz" : Str) with
        | true => rw [e] at hp; exact hp
        | false => rw [e] at hp; exact hp
      · rw [all_signs (q := small) small_mem]
        cases e : z.cps.toList.all small with
        | true => rw [e] at hp; exact hp
        | false => rw [e] at hp; exact hp
    · rw [if_pos (by simp only [h2, decide_false]; decide)]
      rw [decide_eq_false h2] at hp
      simpa using hp
  · rw [if_neg (by simpa using h1)]
    rw [decide_eq_false h1] at hp
    simpa using hp
/-! ### names that are told -/
theorem tl_lenX (z : Str) : z.cps.toList.length = z.length := by simp [Str.length]
theorem str_extX {x y : Str} (h : x.cps.toList = y.cps.toList) : x = y := by
  obtain ⟨⟨a⟩⟩ := x
  obtain ⟨⟨b⟩⟩ := y
  have h' : a = b := h
  rw [h']
def stL (l : List Nat) : Str := ⟨l.toArray⟩
theorem stL_tl (l : List Nat) : (stL l).cps.toList = l := rfl
theorem stL_len (l : List Nat) : (stL l).length = l.length := by rw [← tl_lenX, stL_tl]
theorem stL_inj {a b : List Nat} (h : stL a = stL b) : a = b := by rw [← stL_tl a, h, stL_tl]
theorem stL_app (a b : List Nat) : stL a ++ stL b = stL (a ++ b) := by
  refine str_extX ?_
  show ((stL a).cps ++ (stL b).cps).toList = _
  rw [Array.toList_append, stL_tl, stL_tl, stL_tl]
def abc (i : Int) : Nat := 97 + i.toNat
theorem w_abc {i : Int} (h0 : 0 ≤ i) (h : i < 26) {P : Str → Prop} {E : Exn → Prop} (hp : P (stL [abc i])) : (idxS ("abcdefghijklmnopqrstuvwxyz" : Str) i).wp P E := by
  have e0 : ("abcdefghijklmnopqrstuvwxyz" : Str).cps.toList = List.range' 97 26 := by decide +kernel
  have e : L2.atI ("abcdefghijklmnopqrstuvwxyz" : Str).cps.toList i = some (abc i) := by
    rw [e0]
    have h2 : i.toNat < 26 := by omega
    have := L2.atI_nat (xs := List.range' 97 26) (j := i.toNat) (v := abc i) (by rw [List.getElem?_range' h2]; unfold abc; simp)
    rwa [Int.toNat_of_nonneg h0] at this
  refine ⟨by decide, ?_⟩
  rw [e]
  exact hp
theorem w_cat {a b : List Nat} (h : a.length + b.length ≤ 100000) {P : Str → Prop} {E : Exn → Prop} (hp : P (stL (a ++ b))) : (catS (stL a) (stL b)).wp P E := by
  refine ⟨?_, ?_⟩
  · rw [stL_len, stL_len]; exact Nat.le_trans h (by decide)
  · rw [stL_app]; exact hp
theorem w_cut {x : List Nat} {a b : Option Int} (h : x.length ≤ 100000) {P : Str → Prop} {E : Exn → Prop} (hp : P (stL (cut x a b))) : (cutW (stL x) a b).wp P E := by
  refine ⟨by rw [stL_len]; exact Nat.le_trans h (by decide), ?_⟩
  have : L2.cutS (stL x) a b = stL (cut x a b) := by
    unfold L2.cutS cut
    rw [stL_len, stL_tl]
    rfl
  rw [this]
  exact hp
theorem cut_but {α : Type} (xs : List α) : cut xs none (some (-1)) = xs.take (xs.length - 1) := by
  unfold cut
  have e : HT.sIx xs.length xs.length (some (-1)) = xs.length - 1 := by
    show (if (-1 : Int) < 0 then ((-1 : Int) + (xs.length : Int)).toNat else min (-1 : Int).toNat xs.length) = _
    rw [if_pos (by decide)]
    omega
  rw [HT.sIx_none, List.drop_zero, Nat.sub_zero, e]
/-- a name in a list of names: which one, of the word w -/
def nmL (w : List Nat) (at_ : Nat) (b : Bool) (l k : Nat) : List Nat := if b = true then (if k = 0 then w else if k = 1 then w.take (w.length - 1) else w ++ [l]) else w.take at_ ++ [l] ++ w.drop (at_ + 1)
theorem nmL_ok {w : List Nat} {at_ : Nat} {b : Bool} {l k : Nat} (hw : 2 ≤ w.length ∧ w.length ≤ 7) (ha : at_ < w.length) (hs : w.all small = true) (hl : small l = true) : isn (stL (nmL w at_ b l k)) = true := by
  have hs' : ∀ c ∈ w, small c = true := List.all_eq_true.mp hs
  have key : ∀ z : List Nat, 1 ≤ z.length → z.length ≤ 8 → (∀ c ∈ z, small c = true) → isn (stL z) = true := fun z h1 h2 h3 => by
    unfold isn
    rw [stL_len, stL_tl]
    rw [decide_eq_true (by omega), decide_eq_true (by omega), List.all_eq_true.mpr h3]
    rfl
  unfold nmL
  split
  · split
    · exact key _ (by omega) (by omega) hs'
    · split
      · exact key _ (by rw [List.length_take]; omega) (by rw [List.length_take]; omega) fun c hc => hs' c (List.mem_of_mem_take hc)
      · refine key _ (by simp) (by simp; omega) fun c hc => ?_
        rcases List.mem_append.mp hc with q | q
        · exact hs' c q
        · rw [List.mem_singleton.mp q]; exact hl
  · refine key _ (by simp; omega) (by simp [List.length_take, List.length_drop]; omega) fun c hc => ?_
    rcases List.mem_append.mp hc with q | q
    · rcases List.mem_append.mp q with q | q
      · exact hs' c (List.mem_of_mem_take q)
      · rw [List.mem_singleton.mp q]; exact hl
    · exact hs' c (List.mem_of_mem_drop q)
theorem nmL_ne {w : List Nat} {at_ : Nat} {b : Bool} {l1 l2 k1 k2 : Nat} (hw : 2 ≤ w.length) (ha : at_ < w.length) (hk : k1 < k2) (hl : l1 ≠ l2) : nmL w at_ b l1 k1 ≠ nmL w at_ b l2 k2 := by
  intro h
  unfold nmL at h
  split at h
  · rw [if_neg (show ¬ k2 = 0 by omega)] at h
    by_cases h0 : k1 = 0
    · rw [if_pos h0] at h
      have e := congrArg List.length h
      split at e
      · rw [List.length_take] at e; omega
      · simp at e
    · rw [if_neg h0, if_neg (show ¬ k2 = 1 by omega)] at h
      by_cases h1 : k1 = 1
      · rw [if_pos h1] at h
        have e := congrArg List.length h
        rw [List.length_take] at e
        simp at e
      · rw [if_neg h1] at h
        have := List.append_cancel_left h
        simp at this
        exact hl this
  · rw [List.append_assoc, List.append_assoc] at h
    have := List.append_cancel_left h
    simp only [List.cons_append, List.nil_append, List.cons.injEq] at this
    exact hl this.1
/-- the names told of a number: so many, all unlike -/
structure WordsOk (m : Int) (ws : List Str) : Prop where
  len : (ws.length : Int) = m
  isn : ∀ w ∈ ws, Y.isn w = true
  nd : ws.Nodup
def letN (c k : Int) : Nat := abc ((c.fdiv 6 + 3 * k + 1).fmod 26)
theorem letN_small (c k : Int) : small (letN c k) = true := by
  have := fmod_bd (a := c.fdiv 6 + 3 * k + 1) (n := 26) (by decide)
  unfold letN abc small
  exact decide_eq_true (by omega)
theorem letN_ne {c k1 k2 : Int} (h0 : 0 ≤ k1) (h : k1 < k2) (h2 : k2 < 26) : letN c k1 ≠ letN c k2 := by
  have q1 := fmod_bd (a := c.fdiv 6 + 3 * k1 + 1) (n := 26) (by decide)
  have q2 := fmod_bd (a := c.fdiv 6 + 3 * k2 + 1) (n := 26) (by decide)
  unfold letN abc
  have e1 : (c.fdiv 6 + 3 * k1 + 1).fmod 26 = (c.fdiv 6 + 3 * k1 + 1) % 26 := Int.fmod_eq_emod_of_nonneg _ (by decide)
  have e2 : (c.fdiv 6 + 3 * k2 + 1).fmod 26 = (c.fdiv 6 + 3 * k2 + 1) % 26 := Int.fmod_eq_emod_of_nonneg _ (by decide)
  rw [e1] at q1 ⊢
  rw [e2] at q2 ⊢
  omega
theorem le_wordsY {c m : Int} (hc : Bz c) (hm : 0 ≤ m) (hm2 : m ≤ 26) {P : List Str → Prop} {E : Exn → Prop} (hp : ∀ ws : List Str, WordsOk m ws → P ws) : (m__law_words (c, m, ())).wp P E := by
  have h6 := fmod_bd (a := c) (n := 6) (by decide)
  unfold m__law_words
  simp only [W.wp_bind, W.wp_pure, wp_modI]
  refine ⟨by decide, le_range (by omega) (by omega) ?_⟩
  have s156 : Bz (c.fdiv 156) := hc.of_le (by rw [Int.fdiv_eq_ediv_of_nonneg _ (by decide)]; exact Int.natAbs_ediv_le_natAbs _ _)
  refine W.foldM_inv (α := Int) (σ := Str) (s0 := ("" : Str)) (fun (done : List Int) (s : Str) => ∃ l : List Nat, s = stL l ∧ l.length = done.length ∧ l.all small = true) _ ?h ⟨[], rfl, rfl, rfl⟩ ?hP
  · intro done x rest s e ⟨l, es, hl0, hs0⟩
    subst es
    have hl : done.length ≤ 7 ∧ (x : Int) < 10 ∧ 0 ≤ x := by
      have h3 : (done ++ x :: rest).length = (rng 0 (2 + c.fmod 6)).length := by rw [e]
      have h4 : x ∈ rng 0 (2 + c.fmod 6) := by rw [e]; simp
      have h5 := mem_rng.mp h4
      rw [rng_length] at h3
      simp at h3
      omega
    unfold m__law_words_b1
    simp only [W.wp_bind, W.wp_pure, wp_modI, wp_divI, wp_mulI]
    have sx : Sz 10 x := by unfold Sz; omega
    have h26 := fmod_bd (a := c.fdiv 6 + x * c.fdiv 156) (n := 26) (by decide)
    refine ⟨⟨by decide, by decide⟩, ⟨by decide, by decide⟩, (by have := s156.cmul sx (by decide); unfold CMulB at *; omega), by decide, w_abc h26.1 h26.2 (w_cat (by simp; omega) ⟨_, rfl, by simp [hl0], ?_⟩)⟩
    rw [List.all_append, hs0]
    simp only [List.all_cons, List.all_nil, Bool.and_true, Bool.true_and]
    unfold abc small
    exact decide_eq_true (by omega)
  · intro w ⟨l, ew, hl0, hs0⟩
    subst ew
    have hl : 2 ≤ l.length ∧ l.length ≤ 7 := by rw [hl0, rng_length]; omega
    have hlI : (l.length : Int) = 2 + c.fmod 6 := by rw [hl0, rng_length]; omega
    unfold m__law_words_j4
    simp only [W.wp_bind, W.wp_pure, wp_modI, wp_divI]
    have hat := fmod_bd (a := c.fdiv 2) (n := 2 + c.fmod 6) (by omega)
    obtain ⟨at_, eat⟩ : ∃ n : Nat, (c.fdiv 2).fmod (2 + c.fmod 6) = (n : Int) := ⟨((c.fdiv 2).fmod (2 + c.fmod 6)).toNat, by omega⟩
    rw [eat] at hat ⊢
    have hat2 : at_ < l.length := by omega
    obtain ⟨b, hb⟩ : ∃ b : Bool, b = decide ((c.fdiv 5).fmod 3 = 1) := ⟨_, rfl⟩
    refine ⟨⟨by decide, by decide⟩, by omega, le_range hm (by omega) ?_⟩
    have hnm : ∀ x : Int, isn (stL (nmL l at_ b (letN c x) x.toNat)) = true := fun x => nmL_ok hl hat2 hs0 (letN_small c x)
    refine W.foldM_inv (α := Int) (σ := List Str) (P := P) (s0 := ([] : List Str)) (fun done (s : List Str) => s = done.map fun x => stL (nmL l at_ b (letN c x) x.toNat)) (rng 0 m) ?h2 rfl ?hP2
    · intro done x rest s e h1
      have hx : done.length ≤ 100 ∧ (x : Int) < 26 ∧ 0 ≤ x := by
        have h3 : (done ++ x :: rest).length = (rng 0 m).length := by rw [e]
        have h4 : x ∈ rng 0 m := by rw [e]; simp
        have h5 := mem_rng.mp h4
        rw [rng_length] at h3
        simp at h3
        omega
      have fin : ∀ n : Str, n = stL (nmL l at_ b (letN c x) x.toNat) → (m__law_words_j2 s n).wp (fun s' => s' = (done ++ [x]).map fun x => stL (nmL l at_ b (letN c x) x.toNat)) E := fun n hn => by
        unfold m__law_words_j2
        simp only [W.wp_bind, W.wp_pure, W.wp_req]
        subst h1
        exact ⟨by rw [List.length_map]; omega, by rw [hn]; simp⟩
      unfold m__law_words_b3
      simp only [W.wp_bind, W.wp_pure, wp_modI, wp_divI, wp_mulI, W.wp_ite]
      have sx : Sz 10 x := by unfold Sz; omega
      have h26 := fmod_bd (a := c.fdiv 6 + 3 * x + 1) (n := 26) (by decide)
      refine ⟨⟨by decide, by decide⟩, (show Sz 3 3 by unfold Sz; decide).cmul sx (by decide), by decide, w_abc h26.1 h26.2 ?_⟩
      have ecut : cut l (some ((at_ : Int) + 1)) none = l.drop (at_ + 1) := by
        rw [show ((at_ : Int) + 1) = ((at_ + 1 : Nat) : Int) by omega]; exact cut_drop _ _
      refine w_cut (by omega) (w_cat (by have := cut_length l none (some (at_ : Int)); simp; omega) (w_cut (by omega) (w_cat (by have := cut_length l none (some (at_ : Int)); have := cut_length l (some ((at_ : Int) + 1)) none; simp; omega) ⟨⟨by decide, by decide⟩, by decide, ?_⟩)))
      rw [cut_take, ecut]
      split
      · rename_i hbb
        have hbt : b = true := by rw [hb]; exact hbb
        refine w_cut (by omega) (w_cat (by simp; omega) ?_)
        rw [cut_but]
        by_cases k0 : x = 0
        · subst k0
          exact idx_of (i := if (2 : Int) < 0 then 2 else 0) (x := stL l) (by decide) rfl (fin _ (by unfold nmL; rw [if_pos hbt, if_pos (by decide)]))
        · by_cases k1 : x = 1
          · subst k1
            exact idx_of (i := if (2 : Int) < 1 then 2 else 1) (x := stL (l.take (l.length - 1))) (by decide) rfl (fin _ (by unfold nmL; rw [if_pos hbt, if_neg (by decide), if_pos (by decide)]))
          · have e2 : (if (2 : Int) < x then 2 else x) = 2 := by split <;> omega
            rw [e2]
            exact idx_of (x := stL (l ++ [letN c x])) (by decide) rfl (fin _ (by unfold nmL; rw [if_pos hbt, if_neg (by omega), if_neg (by omega)]))
      · rename_i hbb
        have hbt : ¬ b = true := by rw [hb]; exact hbb
        exact fin _ (by unfold nmL; rw [if_neg hbt]; rfl)
    · intro s h1
      refine hp s ⟨?_, fun w hw => ?_, ?_⟩
      · rw [h1, List.length_map, rng_length]; omega
      · rw [h1] at hw
        obtain ⟨x, _, rfl⟩ := List.mem_map.mp hw
        exact hnm x
      · rw [h1]
        unfold rng
        rw [List.map_map]
        refine List.Pairwise.map (R := fun i j : Nat => i < j ∧ j < 26) _ (fun i j ⟨h, h26⟩ e => ?_) ?_
        · have e := stL_inj e
          exact nmL_ne (k1 := (0 + (i : Int)).toNat) (k2 := (0 + (j : Int)).toNat) hl.1 hat2 (by omega) (letN_ne (c := c) (k1 := 0 + (i : Int)) (k2 := 0 + (j : Int)) (by omega) (by omega) (by omega)) e
        · have q : ∀ n, n ≤ 26 → (List.range n).Pairwise (fun i j => i < j ∧ j < 26) := fun n hn => by
            refine List.Pairwise.imp_of_mem (R := fun i j => i < j) (fun {i j} hi hj h => ⟨h, ?_⟩) List.pairwise_lt_range
            have := List.mem_range.mp hj
            omega
          exact q _ (by omega)
theorem nodup_len {α : Type} [DecidableEq α] : ∀ (l m : List α), l.Nodup → (∀ x ∈ l, x ∈ m) → l.length ≤ m.length
  | [], _, _, _ => Nat.zero_le _
  | x :: l, m, h, s => by
    have hx := s x (by simp)
    have h2 := List.nodup_cons.mp h
    have h3 := nodup_len l (m.erase x) h2.2 (fun y hy => (List.mem_erase_of_ne (fun (e : y = x) => h2.1 (by rw [← e]; exact hy))).mpr (s y (by simp [hy])))
    rw [List.length_erase_of_mem hx] at h3
    have h4 : 0 < m.length := List.length_pos_of_mem hx
    simp only [List.length_cons]
    omega
theorem compM_rng {α β : Type} {f : Int → W β} {fb : α → β} (xs : List α) {n : Int} (hn : n = (xs.length : Int)) (h : ∀ (i : Nat) (x : α), xs[i]? = some x → ∀ (P : β → Prop) (E : Exn → Prop), P (fb x) → (f (i : Int)).wp P E) (P : List β → Prop) (E : Exn → Prop) (hp : P (xs.map fb)) : (W.noX (compM (fun _ => pure true) f (rng 0 n))).wp P E := by
  have e : rng 0 n = (List.range xs.length).map fun i => ((i : Nat) : Int) := by
    unfold rng
    rw [hn]
    have : ((xs.length : Int) - 0).toNat = xs.length := by omega
    rw [this]
    exact List.map_congr_left fun i _ => by omega
  rw [e]
  by_cases h0 : xs = []
  · subst h0; exact hp
  have hne : 0 < xs.length := List.length_pos_iff.mpr h0
  refine W.compM_map (fb := fun i : Int => fb (xs.getD i.toNat (xs[0]'hne))) _ (fun x hx P E hp => ?_) P E ?_
  · obtain ⟨i, hi, rfl⟩ := List.mem_map.mp hx
    have hi := List.mem_range.mp hi
    have e2 : xs[i]? = some xs[i] := List.getElem?_eq_getElem hi
    refine h i xs[i] e2 P E ?_
    rw [Int.toNat_natCast, List.getD_eq_getElem?_getD, e2] at hp
    exact hp
  · have : ((List.range xs.length).map fun i => ((i : Nat) : Int)).map (fun i : Int => fb (xs.getD i.toNat (xs[0]'hne))) = xs.map fb := by
      rw [List.map_map]
      refine List.ext_getElem? fun i => ?_
      rw [List.getElem?_map, List.getElem?_map]
      by_cases hi : i < xs.length
      · rw [List.getElem?_range hi, List.getElem?_eq_getElem hi]
        simp only [Option.map_some, Function.comp, Int.toNat_natCast, List.getD_eq_getElem?_getD, List.getElem?_eq_getElem hi, Option.getD_some]
      · rw [List.getElem?_eq_none (by rw [List.length_range]; omega), List.getElem?_eq_none (by omega)]
        rfl
    rw [this]
    exact hp
theorem foldR_first {α ρ : Type} {f : Unit → α → W (Fl Unit ρ)} {q : α → Bool} {r : α → ρ} {E : Exn → Prop} : ∀ (xs : List α), (∀ x ∈ xs, ∀ (P : Fl Unit ρ → Prop), P (if q x = true then .ret (r x) else .go ()) → (f () x).wp P E) → ∀ (P : Fl Unit ρ → Prop), P (match xs.find? q with | some x => .ret (r x) | none => .go ()) → (W.foldR f () xs).wp P E
  | [], _, _, hp => hp
  | x :: xs, h, P, hp => by
    refine h x (by simp) _ ?_
    rw [List.find?_cons] at hp
    cases e : q x with
    | true =>
      rw [e] at hp
      rw [if_pos rfl]
      exact hp
    | false =>
      rw [e] at hp
      rw [if_neg (by simp)]
      exact foldR_first xs (fun y hy => h y (by simp [hy])) P hp
/-! ### what a yard is made of -/
theorem mem_addK {ks : List Str} {k z : Str} : z ∈ addK ks k ↔ z ∈ ks ∨ z = k := by
  unfold addK
  split
  · rename_i h
    exact ⟨.inl, fun q => q.elim id fun e => e ▸ h⟩
  · simp
theorem addK_len (ks : List Str) (k : Str) : (addK ks k).length ≤ ks.length + 1 := by
  unfold addK
  split <;> simp
theorem nodup_mid {α : Type} {a b : List α} {x : α} (h : (a ++ x :: b).Nodup) : x ∉ a := fun hx => by
  have := (List.nodup_append.mp h).2.2 x hx x (by simp)
  exact this rfl
abbrev Ent := Str × Int
abbrev Wk := Str × List Ent × List Ent
theorem isn_len {z : Str} (h : isn z = true) : z.length ≤ 8 := by
  unfold isn at h
  simp only [Bool.and_eq_true, decide_eq_true_eq] at h
  omega
/-- a list of goods and amounts that is right -/
structure EntOk (gs : List Str) (l : List Ent) : Prop where
  mem : ∀ p ∈ l, p.1 ∈ gs ∧ 1 ≤ p.2
  nd : (l.map Prod.fst).Nodup
theorem EntOk.len {gs : List Str} {l : List Ent} (h : EntOk gs l) : l.length ≤ gs.length := by
  have := nodup_len (l.map Prod.fst) gs h.nd (fun z hz => by
    obtain ⟨p, hp, rfl⟩ := List.mem_map.mp hz
    exact (h.mem p hp).1)
  simpa using this
structure YOk (gs : List Str) (ws : List Wk) : Prop where
  gl : gs.length ≤ 10
  wl : ws.length ≤ 10
  gn : ∀ g ∈ gs, isn g = true
  gd : gs.Nodup
  wn : ∀ w ∈ ws, isn w.1 = true
  wd : (ws.map Prod.fst).Nodup
  ents : ∀ w ∈ ws, EntOk gs w.2.1 ∧ EntOk gs w.2.2
/-! ### changes -/
def amt (l : List Ent) (g : Str) : Int := match l.find? (fun p => decide (p.1 = g)) with
  | some p => p.2
  | none => 0
def changeL (gs : List Str) (w : Wk) : List Int := gs.map fun g => amt w.2.2 g - amt w.2.1 g
def rowsL (gs : List Str) (ws : List Wk) : List (List Int) := gs.map fun g => ws.map fun w : Wk => amt w.2.2 g - amt w.2.1 g
def dot (xs ys : List Int) : Int := ((xs.zip ys).map fun p => p.1 * p.2).sum
def leavesL (gs : List Str) (ws : List Wk) (way : List Int) : List Int := gs.map fun g => dot (ws.map fun w : Wk => amt w.2.2 g - amt w.2.1 g) way
/-- a list that is a way of these works -/
def WayOk (ws : List Wk) (way : List Int) : Prop := way.length = ws.length ∧ ∀ n ∈ way, 0 ≤ n
def balL (gs : List Str) (ws : List Wk) (way : List Int) : Bool := (leavesL gs ws way).all fun x => decide (x = 0)
theorem enum_snd {α : Type} (xs : List α) : (Y.enum xs).map Prod.snd = xs := by
  unfold Y.enum
  exact List.map_snd_zip (by rw [rng_length]; omega)
theorem enum_get {α : Type} {xs : List α} {done rest : List (Int × α)} {x : Int × α} (e : Y.enum xs = done ++ x :: rest) : x.1 = (done.length : Int) ∧ xs[done.length]? = some x.2 ∧ xs = done.map Prod.snd ++ x.2 :: rest.map Prod.snd ∧ done.length < xs.length := by
  have h1 : (Y.enum xs)[done.length]? = some x := by rw [e, List.getElem?_append_right (Nat.le_refl _), Nat.sub_self]; rfl
  unfold Y.enum at h1
  obtain ⟨h2, h3⟩ := List.getElem?_zip_eq_some.mp h1
  have hlt : done.length < xs.length := (List.getElem?_eq_some_iff.mp h3).1
  refine ⟨?_, h3, ?_, hlt⟩
  · unfold rng at h2
    rw [List.getElem?_map, List.getElem?_range (by omega)] at h2
    simp only [Option.map_some, Option.some.injEq] at h2
    omega
  · rw [← enum_snd xs, e, List.map_append, List.map_cons]
theorem le_catL {x y : List Int} (h : x.length + y.length ≤ 1000) {P : List Int → Prop} {E : Exn → Prop} (hp : P (x ++ y)) : (catL x y).wp P E := ⟨Nat.le_trans h (by decide), hp⟩
theorem le_pick {α : Type} {a b : α} {c : Prop} [Decidable c] {P : α → Prop} {E : Exn → Prop} (hp : P (if c then b else a)) : (idx [a, b] (if c then (1 : Int) else 0)).wp P E := by
  by_cases h : c
  · rw [if_pos h] at hp ⊢
    exact idx_of (x := b) (by decide) rfl hp
  · rw [if_neg h] at hp ⊢
    exact idx_of (x := a) (by decide) rfl hp
/-! ### a work that is told -/
structure Half (B : Int) (done : List Str) (l : List Ent) : Prop where
  len : l.length ≤ done.length
  mem : ∀ p ∈ l, p.1 ∈ done ∧ 1 ≤ p.2 ∧ p.2 ≤ B
  nd : (l.map Prod.fst).Nodup
theorem Half.skip {B : Int} {done : List Str} {l : List Ent} (h : Half B done l) (x : Str) : Half B (done ++ [x]) l :=
  ⟨Nat.le_trans h.len (by simp), fun p hp => ⟨List.mem_append_left _ (h.mem p hp).1, (h.mem p hp).2⟩, h.nd⟩
theorem Half.step {B : Int} {done : List Str} {l : List Ent} (h : Half B done l) {x : Str} (hx : x ∉ done) {a : Int} (h1 : 1 ≤ a) (h2 : a ≤ B) : Half B (done ++ [x]) (l ++ [(x, a)]) := by
  refine ⟨by have := h.len; simp; omega, fun p hp => ?_, ?_⟩
  · rcases List.mem_append.mp hp with q | q
    · exact (h.skip x).mem p q
    · rw [List.mem_singleton.mp q]; exact ⟨by simp, h1, h2⟩
  · rw [List.map_append]
    refine List.nodup_append.mpr ⟨h.nd, by simp, fun y hy z hz e => ?_⟩
    obtain ⟨p, hp, rfl⟩ := List.mem_map.mp hy
    have ez : z = x := by simpa using hz
    have e2 : p.1 = x := e.trans ez
    exact hx (by rw [← e2]; exact (h.mem p hp).1)
/-- a list of goods and amounts told of a number -/
def EntB (B : Int) (gs : List Str) (l : List Ent) : Prop := EntOk gs l ∧ ∀ p ∈ l, p.2 ≤ B
theorem Half.ent {B : Int} {gs : List Str} {l : List Ent} (h : Half B gs l) : EntB B gs l := ⟨⟨fun p hp => ⟨(h.mem p hp).1, (h.mem p hp).2.1⟩, h.nd⟩, fun p hp => (h.mem p hp).2.2⟩
theorem EntB.rev {B : Int} {gs : List Str} {l : List Ent} (h : EntB B gs l) : EntB B gs l.reverse := ⟨⟨fun p hp => h.1.mem p (List.mem_reverse.mp hp), by rw [List.map_reverse]; exact List.pairwise_reverse.mpr (h.1.nd.imp fun q z => q z.symm)⟩, fun p hp => h.2 p (List.mem_reverse.mp hp)⟩
theorem le_work {c wide : Int} {name : Str} {gs : List Str} (hc : Bz c) (h0 : 0 ≤ c) (hw : 1 ≤ wide) (hw2 : Sz 200 wide) (hnd : gs.Nodup) (hgl : gs.length ≤ 100) {P : Wk → Prop} {E : Exn → Prop} (hp : ∀ w : Wk, w.1 = name → EntB (3 * wide + 4) gs w.2.1 → EntB (3 * wide + 4) gs w.2.2 → P w) : (m__law_work (c, name, gs, wide, ())).wp P E := by
  unfold m__law_work
  simp only [W.wp_bind, W.wp_pure]
  refine W.foldM_inv (α := Int × Str) (σ := Int × List Ent × List Ent) (fun done s => Bz s.1 ∧ 0 ≤ s.1 ∧ Half (3 * wide + 4) (done.map Prod.snd) s.2.1 ∧ Half (3 * wide + 4) (done.map Prod.snd) s.2.2) (Y.enum gs) ?_ ⟨hc, h0, ⟨Nat.le_refl _, by simp, by simp⟩, ⟨Nat.le_refl _, by simp, by simp⟩⟩ (fun s hs => ?_)
  · intro done x rest s e ⟨b1, b2, u1, u2⟩
    obtain ⟨ex, _, eg, hlt⟩ := enum_get e
    have hx : x.2 ∉ done.map Prod.snd := by rw [eg] at hnd; exact nodup_mid hnd
    have hl1 := u1.len
    have hl2 := u2.len
    rw [List.length_map] at hl1 hl2
    have hm3 := fmod_bd (a := x.1) (n := 3) (by decide)
    unfold m__law_work_b4
    simp only [W.wp_bind, W.wp_pure, W.wp_ite, wp_divI, wp_modI, wp_mulI]
    refine ⟨by decide, le_next b1 hm3.1 (by omega) fun r hr hr0 => ?_⟩
    have hr0 := hr0 b2
    have a7 := fmod_bd (a := r.fdiv 7) (n := 3) (by decide)
    have a21 := fmod_bd (a := r.fdiv 21) (n := 3) (by decide)
    have a378 := fmod_bd (a := r.fdiv 378) (n := 5) (by decide)
    have rest3 : ∀ one other : Int, 1 ≤ one → one ≤ 3 * wide + 4 → 1 ≤ other → other ≤ 3 * wide + 4 → (m__law_work_j2 s x r one other).wp (fun s' => Bz s'.1 ∧ 0 ≤ s'.1 ∧ Half (3 * wide + 4) ((done ++ [x]).map Prod.snd) s'.2.1 ∧ Half (3 * wide + 4) ((done ++ [x]).map Prod.snd) s'.2.2) E := fun one other o1 o2 o3 o4 => by
      rw [List.map_append, List.map_cons, List.map_nil]
      have last : ∀ us : List Ent, Half (3 * wide + 4) (done.map Prod.snd ++ [x.2]) us → (m__law_work_j1 s x r other us).wp (fun s' => Bz s'.1 ∧ 0 ≤ s'.1 ∧ Half (3 * wide + 4) (done.map Prod.snd ++ [x.2]) s'.2.1 ∧ Half (3 * wide + 4) (done.map Prod.snd ++ [x.2]) s'.2.2) E := fun us hus => by
        have fin : ∀ ms : List Ent, Half (3 * wide + 4) (done.map Prod.snd ++ [x.2]) ms → (fun s' : Int × List Ent × List Ent => Bz s'.1 ∧ 0 ≤ s'.1 ∧ Half (3 * wide + 4) (done.map Prod.snd ++ [x.2]) s'.2.1 ∧ Half (3 * wide + 4) (done.map Prod.snd ++ [x.2]) s'.2.2) (r, us, ms) := fun ms hms => ⟨hr, hr0, hus, hms⟩
        unfold m__law_work_j1
        simp only [W.wp_bind, W.wp_pure, W.wp_ite, wp_divI, wp_modI, wp_mulI, W.wp_req]
        refine ⟨by decide, ?_⟩
        split
        · refine ⟨by decide, ?_⟩
          split
          · exact ⟨by omega, fin _ (u2.step hx o3 o4)⟩
          · refine ⟨by decide, ?_⟩
            split
            · exact ⟨by omega, fin _ (u2.step hx o3 o4)⟩
            · exact fin _ (u2.skip _)
        · simp only [Bool.false_eq_true, if_false]
          refine ⟨by decide, ?_⟩
          split
          · exact ⟨by omega, fin _ (u2.step hx o3 o4)⟩
          · exact fin _ (u2.skip _)
      unfold m__law_work_j2
      simp only [W.wp_bind, W.wp_pure, W.wp_ite, wp_divI, wp_modI, wp_mulI, W.wp_req]
      refine ⟨by decide, ?_⟩
      split
      · simp only [if_true]
        exact ⟨by omega, last _ (u1.step hx o1 o2)⟩
      · refine ⟨by decide, ?_⟩
        split
        · exact ⟨by omega, last _ (u1.step hx o1 o2)⟩
        · exact last _ (u1.skip _)
    have rest2 : ∀ one : Int, 1 ≤ one → one ≤ 3 * wide + 4 → (m__law_work_j3 (c, name, gs, wide, ()) s x r (1 + (r.fdiv 21).fmod 3) one).wp (fun s' => Bz s'.1 ∧ 0 ≤ s'.1 ∧ Half (3 * wide + 4) ((done ++ [x]).map Prod.snd) s'.2.1 ∧ Half (3 * wide + 4) ((done ++ [x]).map Prod.snd) s'.2.2) E := fun one o1 o2 => by
      unfold m__law_work_j3
      simp only [W.wp_bind, W.wp_pure, W.wp_ite, wp_divI, wp_modI, wp_mulI]
      refine ⟨⟨by decide, by decide⟩, by decide, ?_⟩
      have hb : 1 * wide ≤ (1 + (r.fdiv 21).fmod 3) * wide := Int.mul_le_mul_of_nonneg_right (by omega) (by omega)
      have hb2 : (1 + (r.fdiv 21).fmod 3) * wide ≤ 3 * wide := Int.mul_le_mul_of_nonneg_right (by omega) (by omega)
      split
      · refine ⟨(show Sz 3 (1 + (r.fdiv 21).fmod 3) by unfold Sz; omega).cmul hw2 (by decide), ⟨by decide, by decide⟩, by decide, rest3 _ _ o1 o2 (by omega) (by omega)⟩
      · exact rest3 _ _ o1 o2 (by omega) (by omega)
    refine ⟨⟨by decide, by decide⟩, by decide, ⟨by decide, by decide⟩, by decide, ⟨by decide, by decide⟩, by decide, ?_⟩
    have hb : 1 * wide ≤ (1 + (r.fdiv 7).fmod 3) * wide := Int.mul_le_mul_of_nonneg_right (by omega) (by omega)
    have hb2 : (1 + (r.fdiv 7).fmod 3) * wide ≤ 3 * wide := Int.mul_le_mul_of_nonneg_right (by omega) (by omega)
    split
    · refine ⟨(show Sz 3 (1 + (r.fdiv 7).fmod 3) by unfold Sz; omega).cmul hw2 (by decide), ⟨by decide, by decide⟩, by decide, rest2 _ (by omega) (by omega)⟩
    · exact rest2 _ (by omega) (by omega)
  · obtain ⟨b1, b2, u1, u2⟩ := hs
    rw [enum_snd] at u1 u2
    unfold m__law_work_j5
    simp only [W.wp_bind, W.wp_pure, W.wp_ite, wp_divI, wp_modI]
    refine ⟨⟨by decide, by decide⟩, by decide, ?_⟩
    split
    · exact hp _ rfl u1.ent.rev u2.ent.rev
    · exact hp _ rfl u1.ent u2.ent
theorem amt_bd {B : Int} {gs : List Str} {l : List Ent} (h : EntB B gs l) (hB : 0 ≤ B) (g : Str) : 0 ≤ amt l g ∧ amt l g ≤ B := by
  unfold amt
  split
  · rename_i p hp
    have hm := List.mem_of_find?_eq_some hp
    have := h.1.mem p hm
    have := h.2 p hm
    omega
  · omega
/-! ### works written and read -/
theorem numL_head : ∀ n : Nat, 1 ≤ n → ∃ c r, TL.numL n = c :: r ∧ c ≠ 48 := by
  intro n
  induction n using Nat.strongRecOn with
  | _ n ih =>
    intro h
    by_cases h10 : n < 10
    · exact ⟨48 + n, [], TL.numL_lt h10, by omega⟩
    · obtain ⟨c, r, e, hc⟩ := ih (n / 10) (by omega) (by omega)
      exact ⟨c, r ++ [48 + n % 10], by rw [TL.numL_step (by omega), e]; rfl, hc⟩
def numT (n : Int) : Str := (toString n : Str)
theorem numT_tl {n : Int} (h : 0 ≤ n) : (numT n).cps.toList = TL.numL n.toNat := by
  have := TL.tl_num n.toNat
  rw [Int.toNat_of_nonneg h] at this
  exact this
def AM : Int := 1000000000000000000000000000000
theorem numL_len30 {n : Int} (h0 : 0 ≤ n) (h : n < AM) : (TL.numL n.toNat).length ≤ 30 := TL.numL_len (by decide) (by unfold AM at h; omega)
theorem numT_len {n : Int} (h0 : 0 ≤ n) (h : n < AM) : (numT n).length ≤ 30 := by
  rw [← tl_lenX, numT_tl h0]
  exact numL_len30 h0 h
theorem le_strT {n : Int} (h0 : 0 ≤ n) (h : n < AM) {P : Str → Prop} {E : Exn → Prop} (hp : P (numT n)) : (strW n).wp P E := by
  have hs : Sz 100 n := by unfold Sz; unfold AM at h; omega
  exact ⟨Nat.lt_of_le_of_lt hs.log (by decide), hp⟩
/-- a list of goods and amounts as it is written -/
def wrE (l : List Ent) : List Nat := l.flatMap fun p => 32 :: (TL.numL p.2.toNat ++ 32 :: p.1.cps.toList)
def wdE (l : List Ent) : List (List Nat) := l.flatMap fun p => [TL.numL p.2.toNat, p.1.cps.toList]
def wrW (w : Wk) : List Nat := w.1.cps.toList ++ 58 :: (wrE w.2.1 ++ 32 :: 62 :: wrE w.2.2)
def wdW (w : Wk) : List (List Nat) := (w.1.cps.toList ++ [58]) :: (wdE w.2.1 ++ [62] :: wdE w.2.2)
theorem joinL_cons (p : List Nat) (l : List (List Nat)) : TL.joinL [32] (p :: l) = p ++ l.flatMap fun q => 32 :: q := by
  induction l generalizing p with
  | nil => simp [TL.joinL]
  | cons q l ih =>
    have := ih q
    show p ++ ([32] ++ TL.joinL [32] (q :: l)) = _
    rw [this]
    simp
theorem wdE_wr (l : List Ent) : ((wdE l).flatMap fun q => 32 :: q) = wrE l := by
  induction l with
  | nil => rfl
  | cons p l ih =>
    unfold wdE wrE at *
    rw [List.flatMap_cons, List.flatMap_cons, List.flatMap_append, ih]
    simp
theorem wdW_wr (w : Wk) : TL.joinL [32] (wdW w) = wrW w := by
  unfold wdW wrW
  rw [joinL_cons, List.flatMap_append, List.flatMap_cons, wdE_wr, wdE_wr]
  simp
/-- goods and amounts that can be written and read -/
def EntW (l : List Ent) : Prop := l.length ≤ 1000 ∧ ∀ p ∈ l, Y.isn p.1 = true ∧ 1 ≤ p.2 ∧ p.2 < AM
structure WkW (w : Wk) : Prop where
  nm : Y.isn w.1 = true
  us : EntW w.2.1
  ms : EntW w.2.2
theorem isn_small {z : Str} (h : Y.isn z = true) : ∀ c ∈ z.cps.toList, 97 ≤ c ∧ c ≤ 122 := by
  unfold Y.isn at h
  rw [Bool.and_eq_true] at h
  exact fun c hc => of_decide_eq_true (List.all_eq_true.mp h.2 c hc)
theorem isn_le {z : Str} (h : Y.isn z = true) : 1 ≤ z.length ∧ z.length ≤ 8 := by
  unfold Y.isn at h
  rw [Bool.and_eq_true, Bool.and_eq_true] at h
  have h1 := of_decide_eq_true h.1.1
  have h2 := of_decide_eq_true h.1.2
  omega
theorem wdE_free {l : List Ent} (h : EntW l) : ∀ q ∈ wdE l, 32 ∉ q ∧ 62 ∉ q ∧ q ≠ [] := by
  intro q hq
  obtain ⟨p, hp, hq⟩ := List.mem_flatMap.mp hq
  obtain ⟨h1, h2, h3⟩ := h.2 p hp
  rcases List.mem_cons.mp hq with e | e
  · subst e
    exact ⟨TL.numL_free (by omega), TL.numL_free (by omega), TL.numL_ne _⟩
  · rw [List.mem_singleton.mp e]
    refine ⟨fun z => ?_, fun z => ?_, fun z => ?_⟩
    · have := isn_small h1 _ z; omega
    · have := isn_small h1 _ z; omega
    · have := isn_le h1
      rw [← tl_lenX, z] at this
      simp at this
theorem wrE_len {l : List Ent} (h : EntW l) : (wrE l).length ≤ l.length * 40 := by
  have : ∀ l : List Ent, (∀ p ∈ l, Y.isn p.1 = true ∧ 1 ≤ p.2 ∧ p.2 < AM) → (wrE l).length ≤ l.length * 40 := by
    intro l
    induction l with
    | nil => intro _; simp [wrE]
    | cons p l ih =>
      intro hh
      have h1 := ih fun q hq => hh q (by simp [hq])
      obtain ⟨h2, h3, h4⟩ := hh p (by simp)
      have h5 := isn_le h2
      have h6 := numL_len30 (by omega) h4
      rw [← tl_lenX] at h5
      unfold wrE at *
      rw [List.flatMap_cons, List.length_append]
      simp only [List.length_cons, List.length_append]
      omega
  exact this l h.2
theorem wrW_len {w : Wk} (h : WkW w) : (wrW w).length ≤ 90000 := by
  have h1 := wrE_len h.us
  have h2 := wrE_len h.ms
  have h3 := h.us.1
  have h4 := h.ms.1
  have h5 := isn_le h.nm
  rw [← tl_lenX] at h5
  unfold wrW
  simp only [List.length_cons, List.length_append]
  omega
theorem le_catT {a b : List Nat} {x y : Str} (hx : x = stL a) (hy : y = stL b) (h : a.length + b.length ≤ 100000) {P : Str → Prop} {E : Exn → Prop} (hp : P (stL (a ++ b))) : (catS x y).wp P E := by
  subst hx hy
  exact w_cat h hp
theorem st_of (z : Str) : z = stL z.cps.toList := str_extX rfl
theorem st_num {n : Int} (h : 0 ≤ n) : numT n = stL (TL.numL n.toNat) := str_extX (numT_tl h)
theorem st_sp : (" " : Str) = stL [32] := by decide
theorem st_col : (":" : Str) = stL [58] := by decide
theorem st_gt : (">" : Str) = stL [62] := by decide
theorem st_spgt : (" >" : Str) = stL [32, 62] := by decide
def pieceE (p : Ent) : List Nat := 32 :: (TL.numL p.2.toNat ++ 32 :: p.1.cps.toList)
theorem joinL_nil : ∀ l : List (List Nat), TL.joinL [] l = l.flatten
  | [] => rfl
  | [p] => by simp [TL.joinL]
  | p :: q :: l => by
    show p ++ ([] ++ TL.joinL [] (q :: l)) = _
    rw [joinL_nil (q :: l)]
    simp
theorem join_tlL (s : List Nat) (l : List (List Nat)) : Txt.join (stL s) (l.map stL) = stL (TL.joinL s l) := by
  rw [TL.join_eq]
  apply str_extX
  have h := TL.tl_join (stL s) (l.map stL)
  have e2 : (l.map stL).map TL.tl = l := by rw [List.map_map]; exact List.map_id' _
  rw [e2] at h
  exact h
theorem st_nil : ("" : Str) = stL [] := by decide
theorem st_len_sum (l : List (List Nat)) : ((l.map stL).map (·.length)).sum = l.flatten.length := by
  induction l with
  | nil => rfl
  | cons p l ih =>
    rw [List.map_cons, List.map_cons, List.sum_cons, ih, List.flatten_cons, List.length_append]
    rw [stL_len]
theorem pieceE_flat (l : List Ent) : (l.map pieceE).flatten = wrE l := by
  unfold wrE pieceE
  rw [List.flatMap_def]
/-- the law's own writing -/
theorem le_lpieces {l : List Ent} (h : EntW l) {P : Str → Prop} {E : Exn → Prop} (hp : P (stL (wrE l))) : (m__law_pieces (l, ())).wp P E := by
  unfold m__law_pieces
  simp only [W.wp_bind, W.wp_pure]
  have hw := h.2
  have hlen := h.1
  refine W.foldM_inv (α := Ent) (σ := Str) (fun done (s : Str) => s = stL (wrE done)) l (fun done p rest s e hs => ?_) st_nil (fun s hs => by rw [hs]; exact hp)
  obtain ⟨h1, h2, h3⟩ := h.2 p (by rw [e]; simp)
  have h4 := numL_len30 (by omega) h3
  have h5 := isn_le h1
  rw [← tl_lenX] at h5
  have hd : done.length ≤ 1000 := by rw [e] at hlen; simp at hlen; omega
  have h6 := wrE_len (l := done) ⟨hd, fun q hq => hw q (by rw [e]; simp [hq])⟩
  unfold m__law_pieces_b1
  simp only [W.wp_bind, W.wp_pure]
  refine le_catT hs st_sp (by simp only [List.length_append, List.length_cons, List.length_nil]; omega) (le_strT (by omega) h3 (le_catT rfl (st_num (by omega)) (by simp only [List.length_append, List.length_cons, List.length_nil]; omega) (le_catT rfl st_sp (by simp only [List.length_append, List.length_cons, List.length_nil]; omega) (le_catT rfl (st_of p.1) (by simp only [List.length_append, List.length_cons, List.length_nil]; omega) ?_))))
  have e : wrE done ++ [32] ++ TL.numL p.2.toNat ++ [32] ++ p.1.cps.toList = wrE (done ++ [p]) := by simp [wrE]
  rw [e]
theorem le_lwritten {w : Wk} (h : WkW w) {P : Str → Prop} {E : Exn → Prop} (hp : P (stL (wrW w))) : (m__law_written (w, ())).wp P E := by
  have h1 := wrE_len h.us
  have h2 := wrE_len h.ms
  have h3 := h.us.1
  have h4 := h.ms.1
  have h5 := isn_le h.nm
  rw [← tl_lenX] at h5
  unfold m__law_written
  simp only [W.wp_bind, W.wp_pure]
  refine le_catT (st_of w.1) st_col (by simp only [List.length_append, List.length_cons, List.length_nil]; omega) (le_lpieces h.us (le_catT rfl rfl (by simp only [List.length_append, List.length_cons, List.length_nil]; omega) (le_catT rfl st_spgt (by simp only [List.length_append, List.length_cons, List.length_nil]; omega) (le_lpieces h.ms (le_catT rfl rfl (by simp only [List.length_append, List.length_cons, List.length_nil]; omega) ?_)))))
  have e : w.1.cps.toList ++ [58] ++ wrE w.2.1 ++ [32, 62] ++ wrE w.2.2 = wrW w := by simp [wrW]
  rw [e]
  exact hp
/-! ### numbers read -/
def dig (c : Nat) : Bool := decide (48 ≤ c ∧ c ≤ 57)
def isnum (z : Str) : Bool := decide (1 ≤ (z.length : Int)) && decide ((z.length : Int) ≤ 30) && z.cps.toList.all dig && (!decide (z.cps.toList.head? = some 48) || decide (z = ("0" : Str)))
theorem dig_mem (c : Nat) : memS ⟨#[c]⟩ ("0123456789" : Str) = dig c := by
  have e : ("0123456789" : Str).cps.toList = List.range' 48 10 := by decide +kernel
  show decide (c ∈ ("0123456789" : Str).cps.toList) = dig c
  rw [e]
  unfold dig
  have : c ∈ List.range' 48 10 ↔ 48 ≤ c ∧ c ≤ 57 := by rw [List.mem_range'_1]; omega
  simp only [this]
def okD (x : Str) : Bool := memS x ("0123456789" : Str)
theorem le_isnum {z : Str} (hl : z.length ≤ 100000) {P : Bool → Prop} {E : Exn → Prop} (hp : P (isnum z)) : (m_is_number (z, ())).wp P E := by
  have hs : z.length ≤ sizeLine := Nat.le_trans hl (by decide)
  unfold m_is_number
  simp only [W.wp_bind, W.wp_pure, W.wp_ite, wp_chW]
  refine ⟨hs, ?_⟩
  simp only [W.wp_pure]
  unfold isnum at hp
  by_cases h1 : (1 : Int) ≤ z.length
  · rw [if_pos (decide_eq_true h1)]
    rw [decide_eq_true h1] at hp
    by_cases h2 : (z.length : Int) ≤ 30
    · rw [if_neg (by simp only [h2, decide_true]; decide)]
      rw [decide_eq_true h2] at hp
      refine ⟨hs, ?_⟩
      refine W.foldR_find (ok := okD) (r := false) _ (fun x hx P hp => ?_) _ ?_
      · obtain ⟨c, rfl⟩ := mem_signs hx
        unfold m_is_number_b1
        simp only [W.wp_bind, W.wp_pure, W.wp_ite]
        refine ⟨rfl, ?_⟩
        unfold okD at hp
        cases e : memS ⟨#[c]⟩ ("0123456789" : Str) with
        | true => rw [e] at hp; exact hp
        | false => rw [e] at hp; exact hp
      · rw [all_signs (q := dig) dig_mem]
        cases e : z.cps.toList.all dig with
        | false =>
          rw [e] at hp
          have hp : P false := by simpa using hp
          exact hp
        | true =>
          rw [e] at hp
          rw [if_pos rfl]
          show (m_is_number_j2 (z, ())).wp _ _
          unfold m_is_number_j2
          simp only [W.wp_bind, W.wp_pure, W.wp_ite]
          obtain ⟨c, r, ez⟩ : ∃ c r, z.cps.toList = c :: r := by
            cases ez : z.cps.toList with
            | nil =>
              have := tl_lenX z
              rw [ez] at this
              simp at this
              omega
            | cons c r => exact ⟨c, r, rfl⟩
          refine ⟨hs, ?_⟩
          have ea : L2.atI z.cps.toList 0 = some c := by
            have := L2.atI_nat (xs := z.cps.toList) (j := 0) (v := c) (by rw [ez]; rfl)
            exact this
          rw [ea]
          rw [ez] at hp
          have e0 : (⟨#[c]⟩ : Str) = ("0" : Str) ↔ c = 48 := by
            rw [show (⟨#[c]⟩ : Str) = stL [c] from rfl, show ("0" : Str) = stL [48] by decide]
            exact ⟨fun h => by have := stL_inj h; simpa using this, fun h => by rw [h]⟩
          by_cases hc : c = 48
          · have : decide ((⟨#[c]⟩ : Str) = ("0" : Str)) = true := decide_eq_true (e0.mpr hc)
            simp only [W.wp_pure, this]
            simp only [hc] at hp
            simpa using hp
          · have : decide ((⟨#[c]⟩ : Str) = ("0" : Str)) = false := decide_eq_false (fun h => hc (e0.mp h))
            simp only [W.wp_pure, this]
            simpa [hc] using hp
    · rw [if_pos (by simp only [h2, decide_false]; decide)]
      rw [decide_eq_false h2] at hp
      simpa using hp
  · rw [if_neg (by simpa using h1)]
    rw [decide_eq_false h1] at hp
    simpa using hp
/-! ### pieces read -/
def prs : List Str → List (Str × Str)
  | a :: b :: r => (a, b) :: prs r
  | _ => []
theorem prs_len : ∀ ws : List Str, (prs ws).length = ws.length / 2
  | [] => rfl
  | [a] => by simp [prs]
  | a :: b :: r => by
    show (prs r).length + 1 = (r.length + 1 + 1) / 2
    rw [prs_len r]
    omega
theorem prs_get : ∀ (ws : List Str) (k : Nat), k < ws.length / 2 → ∃ a b, ws[2 * k]? = some a ∧ ws[2 * k + 1]? = some b ∧ (prs ws)[k]? = some (a, b)
  | [], k, h => by simp at h
  | [a], k, h => by simp at h
  | a :: b :: r, 0, _ => ⟨a, b, rfl, rfl, rfl⟩
  | a :: b :: r, k + 1, h => by
    obtain ⟨x, y, h1, h2, h3⟩ := prs_get r k (by simp at h; omega)
    exact ⟨x, y, h1, h2, h3⟩
def okP (p : Str × Str) : Bool := isnum p.1 && !decide (p.1 = ("0" : Str)) && Y.isn p.2
def entP (p : Str × Str) : Ent := (p.2, ((NumText.digitsVal p.1.cps.toList : Nat) : Int))
theorem isnum_len {z : Str} (h : isnum z = true) : 1 ≤ z.length ∧ z.length ≤ 30 := by
  unfold isnum at h
  rw [Bool.and_eq_true, Bool.and_eq_true, Bool.and_eq_true] at h
  have h1 := of_decide_eq_true h.1.1.1
  have h2 := of_decide_eq_true h.1.1.2
  omega
theorem isnum_dig {z : Str} (h : isnum z = true) : ∀ c ∈ z.cps.toList, 48 ≤ c ∧ c ≤ 57 := by
  unfold isnum at h
  rw [Bool.and_eq_true, Bool.and_eq_true] at h
  exact fun c hc => of_decide_eq_true (List.all_eq_true.mp h.1.2 c hc)
theorem isnum_int {z : Str} (h : isnum z = true) : PySem.intText? z = some ((NumText.digitsVal z.cps.toList : Nat) : Int) := by
  have h1 := isnum_len h
  have h2 := isnum_dig h
  refine intText_digits (fun c hc => h2 c hc) (fun e => ?_) (by omega)
  rw [← tl_lenX, e] at h1
  simp at h1
theorem le_intT {z : Str} (h : isnum z = true) {P : Int → Prop} {E : Exn → Prop} (hp : P ((NumText.digitsVal z.cps.toList : Nat) : Int)) : (intW z).wp P E := by
  unfold intW
  rw [isnum_int h]
  exact ⟨by have := isnum_len h; omega, hp⟩
theorem le_pieces {ws : List Str} (hl : ws.length ≤ 100100) (hz : ∀ w ∈ ws, w.length ≤ 100000) (he : ws.length % 2 = 0) (hk : ∀ p ∈ prs ws, okP p = true) {P : List Ent → Prop} {E : Exn → Prop} (hp : P ((prs ws).map entP)) : (m_read_pieces (ws, ())).wp P E := by
  have e2 : (ws.length : Int).fdiv 2 = ((ws.length / 2 : Nat) : Int) := by rw [Int.fdiv_eq_ediv_of_nonneg _ (by decide)]; omega
  unfold m_read_pieces
  simp only [W.wp_bind, W.wp_pure, W.wp_ite, wp_divI, wp_mulI, e2]
  refine ⟨⟨by decide, by decide⟩, (show Sz 20 (((ws.length / 2 : Nat) : Int)) by unfold Sz; omega).cmul (show Sz 3 (2 : Int) by unfold Sz; decide) (by decide), ?_⟩
  rw [if_neg (by simp; omega)]
  refine ⟨⟨by decide, by decide⟩, le_range (by omega) (by omega) ?_⟩
  refine W.foldM_inv (α := Int) (σ := List Ent) (fun done (s : List Ent) => s = ((prs ws).take done.length).map entP) _ (fun done x rest s e hs => ?_) rfl (fun s hs => ?_)
  · have hx : (rng 0 ((ws.length / 2 : Nat) : Int))[done.length]? = some x := by rw [e]; simp
    obtain ⟨ex, hlt⟩ := rng_get hx
    have ex : x = (done.length : Int) := by omega
    have hlt : done.length < ws.length / 2 := by omega
    obtain ⟨a, b, h1, h2, h3⟩ := prs_get ws done.length hlt
    have ok := hk (a, b) (List.mem_of_getElem? h3)
    unfold okP at ok
    rw [Bool.and_eq_true, Bool.and_eq_true] at ok
    obtain ⟨⟨o1, o2⟩, o3⟩ := ok
    subst ex
    unfold m_read_pieces_b1
    simp only [W.wp_bind, W.wp_pure, W.wp_ite, wp_mulI, W.wp_req]
    have s2 : Sz 3 (2 : Int) := by unfold Sz; decide
    have sx : Sz 20 (done.length : Int) := by unfold Sz; omega
    refine ⟨s2.cmul sx (by decide), idx_of (by omega) (x := a) (by rw [← h1]; congr 1) ⟨s2.cmul sx (by decide), idx_of (by omega) (x := b) (by rw [← h2]; congr 1) (le_isnum (hz a (List.mem_of_getElem? h1)) ?_)⟩⟩
    have n0 : ¬ a = ("0" : Str) := by simpa using o2
    rw [o1]
    simp only [Bool.not_true, Bool.false_eq_true, if_false, n0, decide_false]
    refine le_isname (hz b (List.mem_of_getElem? h2)) ?_
    rw [o3]
    simp only [Bool.not_true, Bool.false_eq_true, if_false]
    refine le_intT o1 ⟨?_, ?_⟩
    · rw [hs, List.length_map, List.length_take, prs_len]; omega
    · rw [hs, List.length_append, List.length_singleton, List.take_add_one, h3]
      simp [entP]
  · have hlen : (rng 0 ((ws.length / 2 : Nat) : Int)).length = ws.length / 2 := by rw [rng_length]; omega
    rw [hlen, ← prs_len ws, List.take_of_length_le (Nat.le_refl _)] at hs
    rw [hs]
    exact hp
/-- texts told once -/
theorem unl_len : ∀ (xs acc : List Str), (xs.foldl unl1 acc).length ≤ acc.length + xs.length ∧ ((xs.foldl unl1 acc).length = acc.length + xs.length → (∀ x ∈ xs, x ∉ acc) ∧ xs.Nodup) ∧ ((∀ x ∈ xs, x ∉ acc) → xs.Nodup → xs.foldl unl1 acc = acc ++ xs)
  | [], acc => ⟨Nat.le_refl _, fun _ => ⟨by simp, List.nodup_nil⟩, fun _ _ => by simp⟩
  | x :: xs, acc => by
    rw [List.foldl_cons]
    have hany : acc.any (· == x) = true ↔ x ∈ acc := by
      rw [List.any_eq_true]
      exact ⟨fun ⟨y, hy, e⟩ => by have : y = x := by simpa using e
                                  rw [← this]; exact hy, fun h => ⟨x, h, by simp⟩⟩
    by_cases hx : x ∈ acc
    · have e : unl1 acc x = acc := by unfold unl1; rw [if_pos (hany.mpr hx)]
      rw [e]
      obtain ⟨i1, i2, i3⟩ := unl_len xs acc
      refine ⟨by simp; omega, fun h => ?_, fun h _ => absurd hx (h x (by simp))⟩
      simp at h
      omega
    · have e : unl1 acc x = acc ++ [x] := by unfold unl1; rw [if_neg (fun h => hx (hany.mp h))]
      rw [e]
      obtain ⟨i1, i2, i3⟩ := unl_len xs (acc ++ [x])
      rw [List.length_append, List.length_singleton] at i1 i2
      refine ⟨by simp; omega, fun h => ?_, fun h hn => ?_⟩
      · obtain ⟨h1, h2⟩ := i2 (by simp at h; omega)
        refine ⟨fun y hy => ?_, List.nodup_cons.mpr ⟨fun hm => ?_, h2⟩⟩
        · rcases List.mem_cons.mp hy with q | q
          · rw [q]; exact hx
          · exact fun z => h1 y q (by simp [z])
        · exact h1 x hm (by simp)
      · obtain ⟨n1, n2⟩ := List.nodup_cons.mp hn
        rw [i3 (fun y hy z => ?_) n2]
        · simp
        · rcases List.mem_append.mp z with q | q
          · exact h y (by simp [hy]) q
          · rw [List.mem_singleton.mp q] at hy; exact n1 hy
theorem unl_nd {xs : List Str} : ((unl xs).length < xs.length) ↔ ¬ xs.Nodup := by
  obtain ⟨h1, h2, h3⟩ := unl_len xs []
  simp only [List.length_nil, Nat.zero_add, List.nil_append] at h1 h2 h3
  unfold unl
  constructor
  · intro h hn
    rw [h3 (by simp) hn] at h
    omega
  · intro h
    have : ¬ (xs.foldl unl1 []).length = xs.length := fun e => h (h2 e).2
    omega
theorem le_takeonce {l : List Ent} (hl : l.length ≤ 1000) (hn : (l.map Prod.fst).Nodup) {P : Unit → Prop} {E : Exn → Prop} (hp : P ()) : (m_take_once (l, ())).wp P E := by
  unfold m_take_once
  simp only [W.wp_bind, W.wp_pure, W.wp_ite, W.wp_req]
  refine W.compM_map (fb := Prod.fst) l (fun x _ P E hp => hp) _ _ ?_
  refine ⟨by rw [List.length_map]; exact hl, ?_⟩
  have : ¬ ((unl (l.map Prod.fst)).length < (l.map Prod.fst).length) := fun h => unl_nd.mp h hn
  rw [if_neg (by simpa using this)]
  exact hp
/-- a text that writes a work, read: its words -/
structure RdOk (x : Str) (w : Wk) (us ms : List Str) : Prop where
  ln : x.length ≤ 100000
  sp : Txt.split x (" " : Str) = (w.1 ++ (":" : Str)) :: (us ++ (">" : Str) :: ms)
  nm : Y.isn w.1 = true
  nu : (">" : Str) ∉ us
  nv : (">" : Str) ∉ ms
  eu : us.length % 2 = 0
  em : ms.length % 2 = 0
  ku : ∀ p ∈ prs us, okP p = true
  km : ∀ p ∈ prs ms, okP p = true
  u : w.2.1 = (prs us).map entP
  m : w.2.2 = (prs ms).map entP
  du : (w.2.1.map Prod.fst).Nodup
  dm : (w.2.2.map Prod.fst).Nodup
  lu : w.2.1.length ≤ 1000
  lm : w.2.2.length ≤ 1000
theorem head_gt (z : Str) (h : Y.isn z = true) : ¬ z ++ (":" : Str) = (">" : Str) := fun e => by
  have h1 := isn_le h
  have h2 := congrArg Str.length e
  rw [Str.length_append] at h2
  have h3 : (":" : Str).length = 1 := by decide
  have h4 : (">" : Str).length = 1 := by decide
  omega
theorem ends_col (z : Str) : Txt.endswith (z ++ (":" : Str)) (":" : Str) = true := by
  rw [PySem.W.KAf.ends_right (Nat.le_refl _)]
  decide +kernel
theorem words_cut {α : Type} (a b : α) (us ms : List α) : cut (a :: (us ++ b :: ms)) (some 1) (some ((us.length + 1 : Nat) : Int)) = us ∧ cut (a :: (us ++ b :: ms)) (some (((us.length + 1 : Nat) : Int) + 1)) none = ms := by
  constructor
  · unfold cut
    rw [show (some (1 : Int)) = some ((1 : Nat) : Int) from rfl, HT.sIx_nat, HT.sIx_nat]
    have h1 : min 1 (a :: (us ++ b :: ms)).length = 1 := by simp
    have h2 : min (us.length + 1) (a :: (us ++ b :: ms)).length = us.length + 1 := by simp
    rw [h1, h2]
    simp
  · rw [show (((us.length + 1 : Nat) : Int) + 1) = ((us.length + 2 : Nat) : Int) by omega, cut_drop]
    simp [List.drop_append]
theorem cnt0 {l : List Str} {g : Str} (h : g ∉ l) : l.countP (fun z => z == g) = 0 := by
  refine List.countP_eq_zero.mpr fun z hz e => h ?_
  have e : z = g := by simpa using e
  rw [← e]
  exact hz
theorem le_readwork {x : Str} {w : Wk} {us ms : List Str} (h : RdOk x w us ms) {P : Wk → Prop} {E : Exn → Prop} (hp : P w) : (m_read_work (x, ())).wp P E := by
  have hlen := h.ln
  have hal : ∀ z ∈ Txt.split x (" " : Str), z.length ≤ 100000 := fun z hz => Nat.le_trans (PyProof.Rows.part_short hz) hlen
  have hsl : (Txt.split x (" " : Str)).length ≤ x.length + 2 := PyProof.Rows.split_le x _
  rw [h.sp] at hal hsl
  simp only [List.length_cons, List.length_append] at hsl
  have h58 : (w.1 ++ (":" : Str)) = stL (w.1.cps.toList ++ [58]) := by rw [← stL_app, ← st_of, ← st_col]
  have hn8 := isn_le h.nm
  have hn8' := tl_lenX w.1
  have ecut : cut (w.1.cps.toList ++ [58]) none (some (-1)) = w.1.cps.toList := by
    rw [cut_but]
    simp
  have hg := head_gt w.1 h.nm
  have hidx : List.idxOf (">" : Str) ((w.1 ++ (":" : Str)) :: (us ++ (">" : Str) :: ms)) = us.length + 1 := by
    have hb : ((w.1 ++ (":" : Str)) == (">" : Str)) = false := by simpa using hg
    rw [List.idxOf_cons, hb, List.idxOf_append, if_neg h.nu]
    simp
  have hcnt : ((w.1 ++ (":" : Str)) :: (us ++ (">" : Str) :: ms)).countP (fun z => z == (">" : Str)) = 1 := by
    have c1 := cnt0 h.nu
    have c2 := cnt0 h.nv
    rw [List.countP_cons, List.countP_append, List.countP_cons, c1, c2]
    simp [hg]
  obtain ⟨c1, c2⟩ := words_cut (w.1 ++ (":" : Str)) (">" : Str) us ms
  unfold m_read_work
  simp only [W.wp_bind, W.wp_pure, W.wp_ite, W.wp_req]
  refine ⟨⟨by decide, by omega⟩, ?_⟩
  rw [h.sp]
  refine idx_of (x := w.1 ++ (":" : Str)) (by decide) rfl ?_
  rw [ends_col]
  simp only [Bool.not_true, Bool.false_eq_true, if_false]
  rw [h58]
  refine w_cut (by simp only [List.length_append, List.length_cons, List.length_nil]; omega) ?_
  rw [ecut, ← st_of]
  refine le_isname (by omega) ?_
  rw [h.nm]
  simp only [Bool.not_true, Bool.false_eq_true, if_false]
  rw [← h58, hcnt]
  simp only [Int.natCast_one, decide_true, Bool.not_true, Bool.false_eq_true, if_false]
  refine ⟨by simp, ?_⟩
  rw [hidx, c1, c2]
  refine le_pieces (by omega) (fun z hz => hal z (by simp [hz])) h.eu h.ku (le_pieces (by omega) (fun z hz => hal z (by simp [hz])) h.em h.km ?_)
  rw [← h.u, ← h.m]
  refine le_takeonce h.lu h.du (le_takeonce h.lm h.dm ?_)
  rw [h58]
  refine w_cut (by simp only [List.length_append, List.length_cons, List.length_nil]; omega) ?_
  rw [ecut, ← st_of]
  exact hp
/-- what is written is read -/
theorem isnum_num {n : Int} (h1 : 1 ≤ n) (h : n < AM) : isnum (numT n) = true ∧ ¬ numT n = ("0" : Str) ∧ NumText.digitsVal (numT n).cps.toList = n.toNat := by
  have e := numT_tl (n := n) (by omega)
  have hl := numL_len30 (n := n) (by omega) h
  obtain ⟨c, r, e2, hc⟩ := numL_head n.toNat (by omega)
  have hl2 := tl_lenX (numT n)
  rw [e] at hl2
  have hlen1 : 1 ≤ (TL.numL n.toNat).length := by rw [e2]; simp
  refine ⟨?_, ?_, ?_⟩
  · unfold isnum
    rw [Bool.and_eq_true, Bool.and_eq_true, Bool.and_eq_true]
    refine ⟨⟨⟨decide_eq_true (by omega), decide_eq_true (by omega)⟩, ?_⟩, ?_⟩
    · rw [e]
      exact List.all_eq_true.mpr fun c hc => decide_eq_true (TL.numL_digits n.toNat c hc)
    · rw [e, e2]
      simp [hc]
  · intro z
    rw [z] at e
    rw [show ("0" : Str).cps.toList = [48] by decide, e2] at e
    simp at e
    exact hc e.1.symm
  · rw [e]
    exact TL.numL_val _
theorem prs_wd (l : List Ent) : prs ((wdE l).map stL) = l.map fun p => (stL (TL.numL p.2.toNat), p.1) := by
  induction l with
  | nil => rfl
  | cons p l ih =>
    have e : wdE (p :: l) = TL.numL p.2.toNat :: p.1.cps.toList :: wdE l := by simp [wdE]
    rw [e]
    show (stL (TL.numL p.2.toNat), stL p.1.cps.toList) :: prs ((wdE l).map stL) = _
    rw [ih, ← st_of]
    rfl
theorem wd_even (l : List Ent) : (wdE l).length = 2 * l.length := by
  induction l with
  | nil => rfl
  | cons p l ih =>
    have e : wdE (p :: l) = TL.numL p.2.toNat :: p.1.cps.toList :: wdE l := by simp [wdE]
    rw [e]
    simp [ih]
    omega
theorem prs_ok {l : List Ent} (h : EntW l) : (∀ p ∈ prs ((wdE l).map stL), okP p = true) ∧ (prs ((wdE l).map stL)).map entP = l := by
  rw [prs_wd]
  constructor
  · intro p hp
    obtain ⟨q, hq, rfl⟩ := List.mem_map.mp hp
    obtain ⟨h1, h2, h3⟩ := h.2 q hq
    obtain ⟨i1, i2, _⟩ := isnum_num h2 h3
    rw [st_num (by omega)] at i1 i2
    unfold okP
    rw [Bool.and_eq_true, Bool.and_eq_true]
    exact ⟨⟨i1, by simpa using i2⟩, h1⟩
  · rw [List.map_map]
    have e : ∀ q ∈ l, (entP ∘ fun p : Ent => (stL (TL.numL p.2.toNat), p.1)) q = id q := fun q hq => by
      obtain ⟨h1, h2, h3⟩ := h.2 q hq
      obtain ⟨_, _, i3⟩ := isnum_num h2 h3
      rw [st_num (by omega)] at i3
      show (q.1, ((NumText.digitsVal (stL (TL.numL q.2.toNat)).cps.toList : Nat) : Int)) = q
      rw [i3, Int.toNat_of_nonneg (by omega)]
    rw [List.map_congr_left e]
    exact List.map_id l
theorem wd_gt {l : List Ent} (h : EntW l) : (">" : Str) ∉ (wdE l).map stL := fun z => by
  obtain ⟨q, hq, e⟩ := List.mem_map.mp z
  rw [st_gt] at e
  have := stL_inj e
  rw [this] at hq
  exact (wdE_free h _ hq).2.1 (by simp)
theorem split_wr {w : Wk} (h : WkW w) : Txt.split (stL (wrW w)) (" " : Str) = (w.1 ++ (":" : Str)) :: ((wdE w.2.1).map stL ++ (">" : Str) :: (wdE w.2.2).map stL) := by
  have e : Txt.join (" " : Str) ((wdW w).map stL) = stL (wrW w) := by rw [st_sp, join_tlL, wdW_wr]
  have hs := TL.split_join (y := (" " : Str)) (s := 32) (S := []) (by decide) (by decide +kernel) (parts := (wdW w).map stL) (by simp [wdW]) (fun p hp => by
    obtain ⟨q, hq, rfl⟩ := List.mem_map.mp hp
    show 32 ∉ q
    unfold wdW at hq
    rcases List.mem_cons.mp hq with e | e
    · subst e
      intro z
      rcases List.mem_append.mp z with k | k
      · have := isn_small h.nm _ k; omega
      · simp at k
    · rcases List.mem_append.mp e with k | k
      · exact (wdE_free h.us q k).1
      · rcases List.mem_cons.mp k with k | k
        · subst k; decide
        · exact (wdE_free h.ms q k).1)
  rw [e] at hs
  rw [hs]
  unfold wdW
  rw [List.map_cons, List.map_append, List.map_cons, ← stL_app, ← st_of, ← st_col, ← st_gt]
theorem rd_wr {w : Wk} (h : WkW w) (du : (w.2.1.map Prod.fst).Nodup) (dm : (w.2.2.map Prod.fst).Nodup) : RdOk (stL (wrW w)) w ((wdE w.2.1).map stL) ((wdE w.2.2).map stL) where
  ln := by rw [stL_len]; have := wrW_len h; omega
  sp := split_wr h
  nm := h.nm
  nu := wd_gt h.us
  nv := wd_gt h.ms
  eu := by rw [List.length_map, wd_even]; omega
  em := by rw [List.length_map, wd_even]; omega
  ku := (prs_ok h.us).1
  km := (prs_ok h.ms).1
  u := (prs_ok h.us).2.symm
  m := (prs_ok h.ms).2.symm
  du := du
  dm := dm
  lu := h.us.1
  lm := h.ms.1
theorem le_small (c : Nat) : (if leStr ("a" : Str) ⟨#[c]⟩ = true then leStr ⟨#[c]⟩ ("z" : Str) else false) = small c := by
  have e1 : leStr ("a" : Str) ⟨#[c]⟩ = decide (97 ≤ c) := by
    show (!decide ([c] < [97])) = _
    have : ([c] < [97]) ↔ c < 97 := by simp [List.cons_lt_cons_iff]
    rw [Bool.eq_iff_iff]
    simp [this]
  have e2 : leStr ⟨#[c]⟩ ("z" : Str) = decide (c ≤ 122) := by
    show (!decide ([122] < [c])) = _
    have : ([122] < [c]) ↔ 122 < c := by simp [List.cons_lt_cons_iff]
    rw [Bool.eq_iff_iff]
    simp [this]
  rw [e1, e2]
  unfold small
  by_cases h : 97 ≤ c <;> simp [h]
/-! ### the law's own reader -/
def okSm (x : Str) : Bool := match x.cps.toList with | [c] => small c | _ => false
theorem filt_signs (q : Nat → Bool) (p : Str → Bool) (h : ∀ c, p ⟨#[c]⟩ = !q c) (z : Str) : ((((signs z).filter p).map fun x => x).length : Int) = 0 ↔ z.cps.toList.all q = true := by
  rw [List.map_id']
  unfold signs
  rw [List.filter_map, List.length_map]
  have e : (p ∘ fun c => (⟨#[c]⟩ : Str)) = fun c => !q c := by funext c; exact h c
  rw [e]
  constructor
  · intro h0
    have h1 : z.cps.toList.filter (fun c => !q c) = [] := List.length_eq_zero_iff.mp (by omega)
    refine List.all_eq_true.mpr fun c hc => ?_
    have := List.filter_eq_nil_iff.mp h1 c hc
    simpa using this
  · intro h0
    have : z.cps.toList.filter (fun c => !q c) = [] := List.filter_eq_nil_iff.mpr fun c hc => by
      have := List.all_eq_true.mp h0 c hc
      simp [this]
    rw [this]
    rfl
theorem le_lname {z : Str} (hl : z.length ≤ 100000) {P : Bool → Prop} {E : Exn → Prop} (hp : P (isn z)) : (m__law_name (z, ())).wp P E := by
  have hs : z.length ≤ sizeLine := Nat.le_trans hl (by decide)
  unfold m__law_name
  simp only [W.wp_bind, W.wp_pure, W.wp_ite, if_true, Bool.false_eq_true, if_false]
  unfold isn at hp
  refine ⟨hs, ?_⟩
  simp only [W.wp_pure]
  by_cases h1 : (z.length : Int) < 1
  · rw [if_pos (decide_eq_true h1)]
    rw [decide_eq_false (show ¬ (1 : Int) ≤ z.length by omega)] at hp
    exact hp
  · rw [if_neg (by rw [decide_eq_false h1]; decide)]
    rw [decide_eq_true (show (1 : Int) ≤ z.length by omega)] at hp
    refine ⟨hs, ?_⟩
    simp only [W.wp_pure]
    by_cases h2 : (8 : Int) < z.length
    · rw [if_pos (decide_eq_true h2)]
      rw [decide_eq_false (show ¬ (z.length : Int) ≤ 8 by omega)] at hp
      exact hp
    · rw [if_neg (by rw [decide_eq_false h2]; decide)]
      rw [decide_eq_true (show (z.length : Int) ≤ 8 by omega)] at hp
      refine ⟨hs, ?_⟩
      refine W.compM_of (tb := fun x => !(if leStr ("a" : Str) x = true then leStr x ("z" : Str) else false)) (fb := fun x => x) _ (fun x hx P E hp => ?_) (fun x _ _ P E hp => hp) _ E ?_
      · simp only [W.wp_bind, W.wp_pure]
        rw [wp_chW]
        simp only [W.wp_pure]
        by_cases h : leStr ("a" : Str) x = true
        · rw [if_pos h]; rw [if_pos h] at hp; exact hp
        · rw [if_neg h]; rw [if_neg h] at hp; exact hp
      · have := filt_signs small (fun x => !(if leStr ("a" : Str) x = true then leStr x ("z" : Str) else false)) (fun c => by rw [le_small]) z
        by_cases ha : z.cps.toList.all small = true
        · rw [decide_eq_true (this.mpr ha)]
          rw [ha] at hp
          exact hp
        · rw [decide_eq_false (fun q => ha (this.mp q))]
          rw [Bool.not_eq_true] at ha
          rw [ha] at hp
          exact hp
/-- the words of a list are such that it can be read -/
def RdL (ws : List Str) : Prop := ws.length % 2 = 0 ∧ ∀ p ∈ prs ws, okP p = true
instance (ws : List Str) : Decidable (RdL ws) := by unfold RdL; exact inferInstance
theorem rngC_get' {n : Nat} {done rest : List Int} {x : Int} (e : rngC 0 2 n = done ++ x :: rest) : x = 2 * (done.length : Int) ∧ done.length < n := by
  have hx : (rngC 0 2 n)[done.length]? = some x := by rw [e]; simp
  have := rngC_get hx
  omega
theorem le_llisted {ws : List Str} (hl : ws.length ≤ 100000) (hz : ∀ w ∈ ws, w.length ≤ 100000) {P : Option (List Ent) → Prop} {E : Exn → Prop} (hp : P (if RdL ws then some ((prs ws).map entP) else none)) : (m__law_listed (ws, ())).wp P E := by
  unfold m__law_listed
  simp only [W.wp_bind, W.wp_pure]
  refine ⟨⟨rfl, by omega, by omega, by decide, by decide⟩, ?_⟩
  have en : (((ws.length : Int) + 2 - 1) / 2).toNat = (ws.length + 1) / 2 := by omega
  rw [en]
  show (W.foldR (fun (v_s_5 : List Ent) (v_x_6 : Int) => m__law_listed_b1 (ws, ()) v_s_5 v_x_6) [] (rngC 0 2 ((ws.length + 1) / 2))).wp _ _
  refine W.foldR_inv (α := Int) (σ := List Ent) (fun (done : List Int) (s : List Ent) => s = ((prs ws).take done.length).map entP ∧ ((prs ws).take done.length).length = done.length ∧ ∀ p ∈ (prs ws).take done.length, okP p = true) (rngC 0 2 ((ws.length + 1) / 2)) _ (fun done x rest s e hI => ?_) (s0 := ([] : List Ent)) ⟨by simp, by simp, by simp⟩ (fun s hI => ?_)
  · obtain ⟨h1, h2, h3⟩ := hI
    obtain ⟨ex, hlt⟩ := rngC_get' e
    have no : ¬ RdL ws → P none := fun h => by rw [if_neg h] at hp; exact hp
    unfold m__law_listed_b1
    simp only [W.wp_bind, W.wp_pure, W.wp_ite, if_true, Bool.false_eq_true, if_false]
    by_cases hodd : x + 1 = (ws.length : Int)
    · rw [if_pos (decide_eq_true hodd)]
      exact no fun h => by have := h.1; omega
    · rw [if_neg (by simpa using hodd)]
      obtain ⟨a, b, g1, g2, g3⟩ := prs_get ws done.length (by omega)
      have ka := List.mem_of_getElem? g1
      have kb := List.mem_of_getElem? g2
      have ga : ws[x.toNat]? = some a := by rw [← g1]; congr 1; omega
      have gb : ws[(x + 1).toNat]? = some b := by rw [← g2]; congr 1; omega
      refine idx_of (by omega) gb (le_lname (hz b kb) ?_)
      have bad : okP (a, b) = false → P none := fun q => no fun h => by
        have := h.2 _ (List.mem_of_getElem? g3)
        rw [q] at this
        cases this
      have eok : okP (a, b) = (isnum a && !decide (a = ("0" : Str)) && isn b) := rfl
      cases hb : isn b with
      | false =>
        rw [hb, Bool.and_false] at eok
        exact bad eok
      | true =>
        rw [hb, Bool.and_true] at eok
        simp only [Bool.not_true, Bool.false_eq_true, if_false]
        refine idx_of (by omega) ga ⟨Nat.le_trans (hz a ka) (by decide), ?_⟩
        simp only [W.wp_pure]
        by_cases l1 : (a.length : Int) < 1
        · rw [if_pos (decide_eq_true l1)]
          refine bad ?_
          rw [eok]
          unfold isnum
          rw [decide_eq_false (show ¬ (1 : Int) ≤ a.length by omega)]
          rfl
        · rw [if_neg (by rw [decide_eq_false l1]; decide)]
          refine ⟨Nat.le_trans (hz a ka) (by decide), ?_⟩
          simp only [W.wp_pure]
          by_cases l2 : (30 : Int) < a.length
          · rw [if_pos (decide_eq_true l2)]
            refine bad ?_
            rw [eok]
            unfold isnum
            rw [decide_eq_false (show ¬ (a.length : Int) ≤ 30 by omega), Bool.and_false]
            rfl
          · rw [if_neg (by rw [decide_eq_false l2]; decide)]
            obtain ⟨c, r, ez⟩ : ∃ c r, a.cps.toList = c :: r := by
              cases ez : a.cps.toList with
              | nil =>
                have := tl_lenX a
                rw [ez] at this
                simp at this
                omega
              | cons c r => exact ⟨c, r, rfl⟩
            refine ⟨Nat.le_trans (hz a ka) (by decide), ?_⟩
            have ea : L2.atI a.cps.toList 0 = some c := L2.atI_nat (xs := a.cps.toList) (j := 0) (v := c) (by rw [ez]; rfl)
            rw [ea]
            have e0 : (⟨#[c]⟩ : Str) = ("0" : Str) ↔ c = 48 := by
              rw [show (⟨#[c]⟩ : Str) = stL [c] from rfl, show ("0" : Str) = stL [48] by decide]
              exact ⟨fun h => by have := stL_inj h; simpa using this, fun h => by rw [h]⟩
            have hd : a.cps.toList.head? = some c := by rw [ez]; rfl
            simp only [W.wp_pure]
            by_cases hc : c = 48
            · rw [if_pos (decide_eq_true (e0.mpr hc))]
              refine bad ?_
              rw [eok]
              unfold isnum
              rw [hd, hc]
              by_cases q0 : a = ("0" : Str) <;> simp [q0]
            · rw [if_neg (by simpa using fun z => hc (e0.mp z))]
              refine ⟨Nat.le_trans (hz a ka) (by decide), ?_⟩
              refine W.compM_of (tb := fun x => !memS x ("0123456789" : Str)) (fb := fun x => x) _ (fun x hx P E hp => ?_) (fun x _ _ P E hp => hp) _ E ?_
              · obtain ⟨k, rfl⟩ := mem_signs hx
                exact ⟨rfl, hp⟩
              · have hf := filt_signs dig (fun x => !memS x ("0123456789" : Str)) (fun c => by rw [dig_mem]) a
                have enum : isnum a = a.cps.toList.all dig := by
                  unfold isnum
                  rw [decide_eq_true (show (1 : Int) ≤ a.length by omega), decide_eq_true (show (a.length : Int) ≤ 30 by omega), hd]
                  simp [hc]
                by_cases ha : a.cps.toList.all dig = true
                · rw [if_neg (by have := hf.mpr ha; simp at this ⊢; exact this)]
                  refine idx_of (by omega) gb (le_intT (by rw [enum]; exact ha) ⟨?_, ?_⟩)
                  · rw [h1, List.length_map, h2]; omega
                  · have hn0 : ¬ a = ("0" : Str) := fun z => by
                      rw [z] at ez
                      rw [show ("0" : Str).cps.toList = [48] by decide] at ez
                      simp at ez
                      exact hc ez.1.symm
                    have etk : (prs ws).take (done ++ [x]).length = (prs ws).take done.length ++ [(a, b)] := by
                      rw [List.length_append, List.length_singleton, List.take_add_one, g3]; rfl
                    have okab : okP (a, b) = true := by rw [eok, enum, ha]; simp [hn0]
                    refine ⟨?_, ?_, fun p hp => ?_⟩
                    · rw [etk, h1]; simp [entP]
                    · rw [etk, List.length_append, h2]; simp
                    · rw [etk] at hp
                      rcases List.mem_append.mp hp with q | q
                      · exact h3 p q
                      · rw [List.mem_singleton.mp q]; exact okab
                · rw [if_pos (by
                    have : ¬ (((((signs a).filter fun x => !memS x ("0123456789" : Str)).map fun x => x).length : Int) = 0) := fun q => ha (hf.mp q)
                    exact decide_eq_true (by omega))]
                  refine bad ?_
                  rw [eok, enum]
                  rw [Bool.not_eq_true] at ha
                  rw [ha]
                  rfl
  · obtain ⟨h1, h2, h3⟩ := hI
    rw [rngC_length] at h1 h2 h3
    by_cases he : ws.length % 2 = 0
    · have hh : (ws.length + 1) / 2 = (prs ws).length := by rw [prs_len]; omega
      rw [hh, List.take_of_length_le (Nat.le_refl _)] at h1 h3
      rw [if_pos ⟨he, h3⟩] at hp
      rw [← h1] at hp
      exact hp
    · rw [List.length_take, prs_len] at h2
      omega
/-! ### the program's reader -/
theorem le_piecesX {ws : List Str} (hl : ws.length ≤ 100100) (hz : ∀ w ∈ ws, w.length ≤ 100000) (hn : ¬ RdL ws) {P : List Ent → Prop} {E : Exn → Prop} (hp : E ⟨"NoText", none⟩) : (m_read_pieces (ws, ())).wp P E := by
  have e2 : (ws.length : Int).fdiv 2 = ((ws.length / 2 : Nat) : Int) := by rw [Int.fdiv_eq_ediv_of_nonneg _ (by decide)]; omega
  unfold m_read_pieces
  simp only [W.wp_bind, W.wp_pure, W.wp_ite, wp_divI, wp_mulI, e2]
  refine ⟨⟨by decide, by decide⟩, (show Sz 20 (((ws.length / 2 : Nat) : Int)) by unfold Sz; omega).cmul (show Sz 3 (2 : Int) by unfold Sz; decide) (by decide), ?_⟩
  by_cases he : ws.length % 2 = 0
  · rw [if_neg (by simp; omega)]
    refine ⟨⟨by decide, by decide⟩, le_range (by omega) (by omega) ?_⟩
    refine W.foldM_inv (α := Int) (σ := List Ent) (fun done (s : List Ent) => s.length = done.length ∧ ∀ p ∈ (prs ws).take done.length, okP p = true) _ (fun done x rest s e ⟨hs, hk⟩ => ?_) ⟨rfl, by simp⟩ (fun s ⟨hs, hk⟩ => ?_)
    · have hx : (rng 0 ((ws.length / 2 : Nat) : Int))[done.length]? = some x := by rw [e]; simp
      obtain ⟨ex, hlt⟩ := rng_get hx
      have ex : x = (done.length : Int) := by omega
      have hlt : done.length < ws.length / 2 := by omega
      obtain ⟨a, b, h1, h2, h3⟩ := prs_get ws done.length hlt
      subst ex
      unfold m_read_pieces_b1
      simp only [W.wp_bind, W.wp_pure, W.wp_ite, wp_mulI, W.wp_req, if_true, Bool.false_eq_true, if_false]
      have s2 : Sz 3 (2 : Int) := by unfold Sz; decide
      have sx : Sz 20 (done.length : Int) := by unfold Sz; omega
      have eok : okP (a, b) = (isnum a && !decide (a = ("0" : Str)) && isn b) := rfl
      refine ⟨s2.cmul sx (by decide), idx_of (by omega) (x := a) (by rw [← h1]; congr 1) ⟨s2.cmul sx (by decide), idx_of (by omega) (x := b) (by rw [← h2]; congr 1) (le_isnum (hz a (List.mem_of_getElem? h1)) ?_)⟩⟩
      cases o1 : isnum a with
      | false =>
        simp only [Bool.not_false, if_true]
        exact hp
      | true =>
        simp only [Bool.not_true, Bool.false_eq_true, if_false]
        by_cases n0 : a = ("0" : Str)
        · rw [if_pos (decide_eq_true n0)]
          exact hp
        · rw [if_neg (by simpa using n0)]
          refine le_isname (hz b (List.mem_of_getElem? h2)) ?_
          cases o3 : isn b with
          | false =>
            simp only [Bool.not_false, if_true]
            exact hp
          | true =>
            simp only [Bool.not_true, Bool.false_eq_true, if_false]
            refine le_intT o1 ⟨by omega, by simp [hs], fun p hp2 => ?_⟩
            rw [List.length_append, List.length_singleton, List.take_add_one, h3] at hp2
            rcases List.mem_append.mp hp2 with q | q
            · exact hk p q
            · have : p = (a, b) := by simpa using q
              rw [this, eok, o1, o3, decide_eq_false n0]
              rfl
    · have hlen : (rng 0 ((ws.length / 2 : Nat) : Int)).length = ws.length / 2 := by rw [rng_length]; omega
      rw [hlen, ← prs_len ws, List.take_of_length_le (Nat.le_refl _)] at hk
      exact absurd ⟨he, hk⟩ hn
  · rw [if_pos (by simp; omega)]
    exact hp
theorem le_takeonceX {l : List Ent} (hl : l.length ≤ 1000) (hn : ¬ (l.map Prod.fst).Nodup) {P : Unit → Prop} {E : Exn → Prop} (hp : E ⟨"NoGood", none⟩) : (m_take_once (l, ())).wp P E := by
  unfold m_take_once
  simp only [W.wp_bind, W.wp_pure, W.wp_ite, W.wp_req]
  refine W.compM_map (fb := Prod.fst) l (fun x _ P E hp => hp) _ _ ?_
  refine ⟨by rw [List.length_map]; exact hl, ?_⟩
  rw [if_pos (decide_eq_true (by exact_mod_cast unl_nd.mpr hn))]
  exact hp
/-- the head of a text that writes a work -/
def HdOk (h : Str) : Prop := Txt.endswith h (":" : Str) = true ∧ isn (stL (h.cps.toList.take (h.cps.toList.length - 1))) = true
theorem le_told_text {x : Str} {P : Wk ⊕ Str → Prop} {E : Exn → Prop} (h : ∀ (Q : Wk → Prop) (F : Exn → Prop), F ⟨"NoText", none⟩ → (m_read_work (x, ())).wp Q F) (hp : P (.inr ("text" : Str))) : (m__law_told (x, ())).wp P E := by
  unfold m__law_told
  simp only [W.wp_bind, W.wp_pure, wp_tryW]
  refine h _ _ ?_
  refine TryX.yes (by decide +kernel) ?_
  unfold m__law_told_x1
  have h1 : isXs xtab "NoText" ["NoAmount", "NoBalance", "NoFit", "NoName", "NoRatio", "NoRow", "NoWay", "NoWeights", "NoWork", "TooMany"] = some false := by decide +kernel
  have h2 : tabF xtab "NoText" "NoText" = some true := by decide +kernel
  have h3 : tabF xtab "NoText" "NoGood" = some false := by decide +kernel
  have h4 : tabF xtab "NoText" "ValueError" = some true := by decide +kernel
  simp only [h1, h2, h3, h4, optW, W.wp_bind, W.wp_pure, W.wp_ite, Bool.false_eq_true, if_false, if_true, Bool.not_true, Bool.true_eq_false, decide_false]
  exact idx_of (x := ("text" : Str)) (by decide) rfl hp
theorem le_told_good {x : Str} {P : Wk ⊕ Str → Prop} {E : Exn → Prop} (h : ∀ (Q : Wk → Prop) (F : Exn → Prop), F ⟨"NoGood", none⟩ → (m_read_work (x, ())).wp Q F) (hp : P (.inr ("good" : Str))) : (m__law_told (x, ())).wp P E := by
  unfold m__law_told
  simp only [W.wp_bind, W.wp_pure, wp_tryW]
  refine h _ _ ?_
  refine TryX.yes (by decide +kernel) ?_
  unfold m__law_told_x1
  have h1 : isXs xtab "NoGood" ["NoAmount", "NoBalance", "NoFit", "NoName", "NoRatio", "NoRow", "NoWay", "NoWeights", "NoWork", "TooMany"] = some false := by decide +kernel
  have h2 : tabF xtab "NoGood" "NoText" = some false := by decide +kernel
  have h3 : tabF xtab "NoGood" "NoGood" = some true := by decide +kernel
  have h4 : tabF xtab "NoGood" "ValueError" = some true := by decide +kernel
  simp only [h1, h2, h3, h4, optW, W.wp_bind, W.wp_pure, W.wp_ite, Bool.false_eq_true, if_false, if_true, Bool.not_true, decide_false]
  exact idx_of (x := ("good" : Str)) (by decide) rfl hp
theorem le_told_ok {x : Str} {w : Wk} {P : Wk ⊕ Str → Prop} {E : Exn → Prop} (h : ∀ (Q : Wk → Prop) (F : Exn → Prop), Q w → (m_read_work (x, ())).wp Q F) (hp : P (.inl w)) : (m__law_told (x, ())).wp P E := by
  unfold m__law_told
  simp only [W.wp_bind, W.wp_pure, wp_tryW]
  exact h _ _ hp
theorem lst_cut {α : Type} (xs : List α) : cut xs (some (-1)) none = xs.drop (xs.length - 1) := by
  unfold cut
  have e : HT.sIx xs.length 0 (some (-1)) = xs.length - 1 := by
    show (if (-1 : Int) < 0 then ((-1 : Int) + (xs.length : Int)).toNat else min (-1 : Int).toNat xs.length) = _
    rw [if_pos (by decide)]
    omega
  rw [HT.sIx_none, e, List.take_of_length_le (by rw [List.length_drop]; omega)]
theorem ends_iff (h : Str) : Txt.endswith h (":" : Str) = decide (h.cps.toList.drop (h.cps.toList.length - 1) = [58]) := by
  rcases List.eq_nil_or_concat h.cps.toList with e | ⟨l, c, e⟩
  · have : h = ("" : Str) := by rw [st_of h, e]; decide
    rw [this]
    decide +kernel
  · have : h = stL l ++ stL [c] := by rw [st_of h, e, stL_app]; simp
    rw [e]
    rw [this, PySem.W.KAf.ends_right (by rw [show (":" : Str).length = 1 by decide]; exact Nat.le_refl 1)]
    unfold Txt.endswith
    rw [StrLaws.subAt_eq]
    have e1 : (stL [c]).length = 1 := rfl
    have e2 : (":" : Str).length = 1 := by decide
    have e3 : (":" : Str).cps.toList = [58] := by decide
    rw [e1, e2, e3]
    simp [stL]
    by_cases q : c = 58 <;> simp [q]
theorem wds {x : Str} (hx : x.length ≤ 1000) : ∃ h r, Txt.split x (" " : Str) = h :: r ∧ (∀ w ∈ Txt.split x (" " : Str), w.length ≤ 1000) ∧ (Txt.split x (" " : Str)).length ≤ 1002 := by
  have h1 := PyProof.Rows.split_pos x (" " : Str)
  have h2 := PyProof.Rows.split_le x (" " : Str)
  have h3 : ∀ w ∈ Txt.split x (" " : Str), w.length ≤ 1000 := fun w hw => Nat.le_trans (PyProof.Rows.part_short hw) hx
  cases e : Txt.split x (" " : Str) with
  | nil => rw [e] at h1; simp at h1
  | cons h r => exact ⟨h, r, rfl, by rw [← e]; exact h3, by rw [← e]; omega⟩
/-- the head's name -/
def hnm (h : Str) : Str := stL (h.cps.toList.take (h.cps.toList.length - 1))
def GtOne (ws : List Str) : Prop := ws.countP (fun z => z == (">" : Str)) = 1
theorem hd_name {h : Str} (hd : Txt.endswith h (":" : Str) = true) : h = hnm h ++ (":" : Str) := by
  rw [ends_iff] at hd
  have e := of_decide_eq_true hd
  unfold hnm
  rw [st_col, stL_app, ← e, List.take_append_drop]
  exact st_of h
theorem one_split {g : Str} : ∀ r : List Str, r.countP (fun z => z == g) = 1 → ∃ us ms, r = us ++ g :: ms ∧ g ∉ us ∧ g ∉ ms
  | [], h => by simp at h
  | a :: r, h => by
    by_cases e : a = g
    · subst e
      rw [List.countP_cons_of_pos (by simp)] at h
      refine ⟨[], r, rfl, by simp, fun hm => ?_⟩
      have := List.countP_eq_zero.mp (show r.countP (fun z => z == a) = 0 by omega) a hm
      simp at this
    · rw [List.countP_cons_of_neg (by simpa using e)] at h
      obtain ⟨us, ms, e1, e2, e3⟩ := one_split r h
      refine ⟨a :: us, ms, by rw [e1]; rfl, fun hm => ?_, e3⟩
      rcases List.mem_cons.mp hm with q | q
      · exact e q.symm
      · exact e2 q
/-! ### texts that are not written as told -/
theorem rd_bad {x : Str} (hx : x.length ≤ 1000) {h : Str} {r : List Str} (e : Txt.split x (" " : Str) = h :: r) (hb : ¬ (Txt.endswith h (":" : Str) = true ∧ isn (hnm h) = true ∧ GtOne (h :: r))) (Q : Wk → Prop) (F : Exn → Prop) (hp : F ⟨"NoText", none⟩) : (m_read_work (x, ())).wp Q F := by
  have hl : h.length ≤ 1000 := Nat.le_trans (PyProof.Rows.part_short (x := x) (y := (" " : Str)) (by rw [e]; simp)) hx
  have hl2 := tl_lenX h
  unfold m_read_work
  simp only [W.wp_bind, W.wp_pure, W.wp_ite, W.wp_req, if_true, Bool.false_eq_true, if_false]
  refine ⟨⟨by decide, by omega⟩, ?_⟩
  rw [e]
  refine idx_of (x := h) (by decide) rfl ?_
  cases h1 : Txt.endswith h (":" : Str) with
  | false =>
    simp only [Bool.not_false, if_true]
    exact hp
  | true =>
    simp only [Bool.not_true, Bool.false_eq_true, if_false]
    have hcut : ∀ {P : Str → Prop} {E : Exn → Prop}, P (hnm h) → (cutW h none (some (-1))).wp P E := fun {P E} hp => by
      rw [st_of h]
      refine w_cut (by omega) ?_
      rw [cut_but]
      exact hp
    refine hcut (le_isname (by unfold hnm; rw [stL_len, List.length_take]; omega) ?_)
    cases h2 : isn (hnm h) with
    | false =>
      simp only [Bool.not_false, if_true]
      exact hp
    | true =>
      simp only [Bool.not_true, Bool.false_eq_true, if_false]
      have h3 : ¬ GtOne (h :: r) := fun q => hb ⟨h1, h2, q⟩
      unfold GtOne at h3
      rw [if_pos (by
        have : ¬ ((((h :: r).countP (fun z => z == (">" : Str)) : Nat) : Int) = 1) := by omega
        rw [decide_eq_false this]
        rfl)]
      exact hp
theorem arrows_len (ws : List Str) (g d : Str) : ∀ n, n ≤ ws.length → (((rng 0 (n : Int)).filter fun k => decide (ws.getD k.toNat d = g)).length = (ws.take n).countP fun z => z == g) := by
  intro n
  induction n with
  | zero => intro _; simp [rng]
  | succ n ih =>
    intro hn
    have ih := ih (by omega)
    have e : rng 0 ((n + 1 : Nat) : Int) = rng 0 (n : Int) ++ [(n : Int)] := by
      unfold rng
      rw [show (((n + 1 : Nat) : Int) - 0).toNat = n + 1 by omega, show ((n : Int) - 0).toNat = n by omega, List.range_succ, List.map_append]
      simp
    have e2 : ws[n]? = some (ws[n]'(by omega)) := List.getElem?_eq_getElem _
    rw [e, List.filter_append, List.length_append, ih, List.take_add_one, List.countP_append, e2]
    have e3 : ws.getD ((n : Int)).toNat d = ws[n]'(by omega) := by
      rw [Int.toNat_natCast, List.getD_eq_getElem?_getD, e2]; rfl
    rw [List.filter_cons, List.filter_nil]
    by_cases q : ws[n]'(by omega) = g
    · rw [if_pos (by rw [e3]; exact decide_eq_true q)]
      simp [q]
    · rw [if_neg (by rw [e3]; simpa using q)]
      simp [q]
def arrs (ws : List Str) : List Int := ((rng 0 (ws.length : Int)).filter fun k => decide (ws.getD k.toNat ("" : Str) = (">" : Str))).map fun k => k
theorem arrs_len (ws : List Str) : (arrs ws).length = ws.countP fun z => z == (">" : Str) := by
  unfold arrs
  rw [List.length_map, arrows_len ws _ _ ws.length (Nat.le_refl _), List.take_length]
theorem nodup_one {α : Type} {l : List α} {a : α} (hm : a ∈ l) (hl : l.length = 1) : l = [a] := by
  match l, hl with
  | [b], _ => rw [List.mem_singleton.mp hm]
theorem arrs_one {h : Str} {us ms : List Str} (h1 : GtOne (h :: (us ++ (">" : Str) :: ms))) : arrs (h :: (us ++ (">" : Str) :: ms)) = [((us.length + 1 : Nat) : Int)] := by
  refine nodup_one ?_ (by rw [arrs_len]; exact h1)
  unfold arrs
  rw [List.map_id']
  refine List.mem_filter.mpr ⟨mem_rng.mpr ⟨by omega, by simp; omega⟩, decide_eq_true ?_⟩
  rw [Int.toNat_natCast, List.getD_eq_getElem?_getD]
  simp
theorem le_arrs {ws : List Str} (hl : ws.length ≤ 100000) {P : List Int → Prop} {E : Exn → Prop} (hp : P (arrs ws)) : ((rangeW 0 (ws.length : Int)) >>= fun xs => W.noX (compM (fun v_x_23 => ((idx ws v_x_23) >>= fun u24 => (pure (">" : Str)) >>= fun u25 => pure (decide (u24 = u25)))) (fun v_x_23 => (pure v_x_23)) xs)).wp P E := by
  simp only [W.wp_bind]
  refine le_range (by omega) (by omega) ?_
  refine W.compM_of (tb := fun k : Int => decide (ws.getD k.toNat ("" : Str) = (">" : Str))) (fb := fun k : Int => k) _ (fun x hx P E hp => ?_) (fun x _ _ P E hp => hp) _ E hp
  have hx := mem_rng.mp hx
  have e2 : ws[x.toNat]? = some (ws[x.toNat]'(by omega)) := List.getElem?_eq_getElem _
  simp only [W.wp_bind, W.wp_pure]
  refine idx_of hx.1 e2 ?_
  rw [List.getD_eq_getElem?_getD, e2] at hp
  exact hp
theorem due_bad {x : Str} (hx : x.length ≤ 1000) {h : Str} {r : List Str} (e : Txt.split x (" " : Str) = h :: r) (hb : ¬ (Txt.endswith h (":" : Str) = true ∧ isn (hnm h) = true ∧ GtOne (h :: r))) {P : Wk ⊕ Str → Prop} {E : Exn → Prop} (hp : P (.inr ("text" : Str))) : (m__law_due (x, ())).wp P E := by
  have hl : h.length ≤ 1000 := Nat.le_trans (PyProof.Rows.part_short (x := x) (y := (" " : Str)) (by rw [e]; simp)) hx
  have hl2 := tl_lenX h
  have hsl : (Txt.split x (" " : Str)).length ≤ x.length + 2 := PyProof.Rows.split_le x _
  unfold m__law_due
  simp only [W.wp_bind, W.wp_pure, W.wp_ite, W.wp_req, if_true, Bool.false_eq_true, if_false]
  refine ⟨⟨by decide, by omega⟩, ?_⟩
  rw [e] at hsl ⊢
  have hc1 : ∀ {P : Str → Prop} {E : Exn → Prop}, P (stL (h.cps.toList.drop (h.cps.toList.length - 1))) → (cutW h (some (-1)) none).wp P E := fun {P E} hp => by
    rw [st_of h]
    refine w_cut (by omega) ?_
    rw [lst_cut]
    exact hp
  have hc2 : ∀ {P : Str → Prop} {E : Exn → Prop}, P (hnm h) → (cutW h none (some (-1))).wp P E := fun {P E} hp => by
    rw [st_of h]
    refine w_cut (by omega) ?_
    rw [cut_but]
    exact hp
  refine idx_of (x := h) (by decide) rfl (hc1 ?_)
  have e1 : (stL (h.cps.toList.drop (h.cps.toList.length - 1)) = (":" : Str)) ↔ Txt.endswith h (":" : Str) = true := by
    rw [ends_iff, decide_eq_true_iff, st_col]
    exact ⟨fun q => stL_inj q, fun q => by rw [q]⟩
  by_cases h1 : Txt.endswith h (":" : Str) = true
  · rw [if_neg (by rw [decide_eq_true (e1.mpr h1)]; decide)]
    refine idx_of (x := h) (by decide) rfl (hc2 (le_lname (by unfold hnm; rw [stL_len, List.length_take]; omega) ?_))
    cases h2 : isn (hnm h) with
    | false =>
      simp only [Bool.not_false, if_true]
      exact hp
    | true =>
      simp only [Bool.not_true, Bool.false_eq_true, if_false]
      refine le_arrs (ws := h :: r) (by omega) ?_
      have h3 : ¬ GtOne (h :: r) := fun q => hb ⟨h1, h2, q⟩
      have h4 : ¬ ((arrs (h :: r)).length : Int) = 1 := fun q => h3 (by unfold GtOne; rw [← arrs_len]; omega)
      rw [if_pos (by rw [decide_eq_false h4]; rfl)]
      exact hp
  · rw [if_pos (by rw [decide_eq_false fun q => h1 (e1.mp q)]; rfl)]
    exact hp
/-! ### texts whose pieces are read -/
theorem rd_B {x : Str} (hx : x.length ≤ 1000) {name : Str} {us ms : List Str} (sp : Txt.split x (" " : Str) = (name ++ (":" : Str)) :: (us ++ (">" : Str) :: ms)) (nm : isn name = true) (nu : (">" : Str) ∉ us) (nv : (">" : Str) ∉ ms) {Q : Wk → Prop} {F : Exn → Prop}
    (hq : (m_read_pieces (us, ())).wp (fun u => (m_read_pieces (ms, ())).wp (fun m => (m_take_once (u, ())).wp (fun _ => (m_take_once (m, ())).wp (fun _ => Q (name, u, m)) F) F) F) F) : (m_read_work (x, ())).wp Q F := by
  have hsl : (Txt.split x (" " : Str)).length ≤ x.length + 2 := PyProof.Rows.split_le x _
  rw [sp] at hsl
  simp only [List.length_cons, List.length_append] at hsl
  have h58 : (name ++ (":" : Str)) = stL (name.cps.toList ++ [58]) := by rw [← stL_app, ← st_of, ← st_col]
  have hn8 := isn_le nm
  have hn8' := tl_lenX name
  have ecut : cut (name.cps.toList ++ [58]) none (some (-1)) = name.cps.toList := by
    rw [cut_but]
    simp
  have hg := head_gt name nm
  have hidx : List.idxOf (">" : Str) ((name ++ (":" : Str)) :: (us ++ (">" : Str) :: ms)) = us.length + 1 := by
    have hb : ((name ++ (":" : Str)) == (">" : Str)) = false := by simpa using hg
    rw [List.idxOf_cons, hb, List.idxOf_append, if_neg nu]
    simp
  have hcnt : ((name ++ (":" : Str)) :: (us ++ (">" : Str) :: ms)).countP (fun z => z == (">" : Str)) = 1 := by
    have c1 := cnt0 nu
    have c2 := cnt0 nv
    rw [List.countP_cons, List.countP_append, List.countP_cons, c1, c2]
    simp [hg]
  obtain ⟨c1, c2⟩ := words_cut (name ++ (":" : Str)) (">" : Str) us ms
  unfold m_read_work
  simp only [W.wp_bind, W.wp_pure, W.wp_ite, W.wp_req, if_true, Bool.false_eq_true, if_false]
  refine ⟨⟨by decide, by omega⟩, ?_⟩
  rw [sp]
  refine idx_of (x := name ++ (":" : Str)) (by decide) rfl ?_
  rw [ends_col]
  simp only [Bool.not_true, Bool.false_eq_true, if_false]
  rw [h58]
  refine w_cut (by simp only [List.length_append, List.length_cons, List.length_nil]; omega) ?_
  rw [ecut, ← st_of]
  refine le_isname (by omega) ?_
  rw [nm]
  simp only [Bool.not_true, Bool.false_eq_true, if_false]
  rw [← h58, hcnt]
  simp only [Int.natCast_one, decide_true, Bool.not_true, Bool.false_eq_true, if_false]
  refine ⟨by simp, ?_⟩
  rw [hidx, c1, c2]
  refine (m_read_pieces (us, ())).mono (fun u hu => (m_read_pieces (ms, ())).mono (fun m hm => (m_take_once (u, ())).mono (fun _ h1 => (m_take_once (m, ())).mono (fun _ h2 => ?_) (fun _ z => z) h1) (fun _ z => z) hm) (fun _ z => z) hu) (fun _ z => z) hq
  rw [h58]
  refine w_cut (by simp only [List.length_append, List.length_cons, List.length_nil]; omega) ?_
  rw [ecut, ← st_of]
  exact h2
/-- what the law's reader tells of such a text -/
def dueV (name : Str) (us ms : List Str) : Wk ⊕ Str := if RdL us ∧ RdL ms then (if (((prs us).map entP).map Prod.fst).Nodup ∧ (((prs ms).map entP).map Prod.fst).Nodup then .inl (name, (prs us).map entP, (prs ms).map entP) else .inr ("good" : Str)) else .inr ("text" : Str)
theorem due_once {l : List Ent} (hl : l.length ≤ 1000) {P : Fl Unit (Wk ⊕ Str) → Prop} {E : Exn → Prop} (hp : P (if (l.map Prod.fst).Nodup then .go () else .ret (.inr ("good" : Str)))) : (m__law_due_b1 (some l)).wp P E := by
  unfold m__law_due_b1
  simp only [W.wp_bind, W.wp_pure, W.wp_ite, W.wp_req, optG]
  refine W.compM_map (fb := Prod.fst) l (fun x _ P E hp => hp) _ _ ?_
  refine ⟨by rw [List.length_map]; exact hl, ?_⟩
  by_cases h : (l.map Prod.fst).Nodup
  · rw [if_pos h] at hp
    have : ¬ ((unl (l.map Prod.fst)).length < (l.map Prod.fst).length) := fun q => unl_nd.mp q h
    rw [if_neg (by simpa using this)]
    exact hp
  · rw [if_neg h] at hp
    rw [if_pos (decide_eq_true (by exact_mod_cast unl_nd.mpr h))]
    exact hp
theorem due_B {x : Str} (hx : x.length ≤ 1000) {name : Str} {us ms : List Str} (sp : Txt.split x (" " : Str) = (name ++ (":" : Str)) :: (us ++ (">" : Str) :: ms)) (nm : isn name = true) (nu : (">" : Str) ∉ us) (nv : (">" : Str) ∉ ms) {P : Wk ⊕ Str → Prop} {E : Exn → Prop} (hp : P (dueV name us ms)) : (m__law_due (x, ())).wp P E := by
  have hsl : (Txt.split x (" " : Str)).length ≤ x.length + 2 := PyProof.Rows.split_le x _
  have hal : ∀ z ∈ Txt.split x (" " : Str), z.length ≤ 100000 := fun z hz => Nat.le_trans (PyProof.Rows.part_short hz) (by omega)
  rw [sp] at hsl hal
  simp only [List.length_cons, List.length_append] at hsl
  have h58 : (name ++ (":" : Str)) = stL (name.cps.toList ++ [58]) := by rw [← stL_app, ← st_of, ← st_col]
  have hn8 := isn_le nm
  have hn8' := tl_lenX name
  have hg := head_gt name nm
  have hone : GtOne ((name ++ (":" : Str)) :: (us ++ (">" : Str) :: ms)) := by
    have c1 := cnt0 nu
    have c2 := cnt0 nv
    unfold GtOne
    rw [List.countP_cons, List.countP_append, List.countP_cons, c1, c2]
    simp [hg]
  have hc1 : ∀ {P : Str → Prop} {E : Exn → Prop}, P (":" : Str) → (cutW (name ++ (":" : Str)) (some (-1)) none).wp P E := fun {P E} hp => by
    rw [h58]
    refine w_cut (by simp only [List.length_append, List.length_cons, List.length_nil]; omega) ?_
    rw [lst_cut]
    have : (name.cps.toList ++ [58]).drop ((name.cps.toList ++ [58]).length - 1) = [58] := by simp
    rw [this, ← st_col]
    exact hp
  have hc2 : ∀ {P : Str → Prop} {E : Exn → Prop}, P name → (cutW (name ++ (":" : Str)) none (some (-1))).wp P E := fun {P E} hp => by
    rw [h58]
    refine w_cut (by simp only [List.length_append, List.length_cons, List.length_nil]; omega) ?_
    rw [cut_but]
    have : (name.cps.toList ++ [58]).take ((name.cps.toList ++ [58]).length - 1) = name.cps.toList := by simp
    rw [this, ← st_of]
    exact hp
  obtain ⟨c1, c2⟩ := words_cut (name ++ (":" : Str)) (">" : Str) us ms
  unfold m__law_due
  simp only [W.wp_bind, W.wp_pure, W.wp_ite, W.wp_req, if_true, Bool.false_eq_true, if_false]
  refine ⟨⟨by decide, by omega⟩, ?_⟩
  rw [sp]
  refine idx_of (x := name ++ (":" : Str)) (by decide) rfl (hc1 ?_)
  simp only [decide_true, Bool.not_true, Bool.false_eq_true, if_false]
  refine idx_of (x := name ++ (":" : Str)) (by decide) rfl (hc2 (le_lname (by omega) ?_))
  rw [nm]
  simp only [Bool.not_true, Bool.false_eq_true, if_false]
  refine le_arrs (ws := (name ++ (":" : Str)) :: (us ++ (">" : Str) :: ms)) (by simp only [List.length_cons, List.length_append]; omega) ?_
  rw [arrs_one hone]
  have hd0 : decide (((us.length + 1 : Nat) : Int) = 0) = false := decide_eq_false (by omega)
  simp only [List.length_singleton, Int.natCast_one, decide_true, Bool.not_true, Bool.false_eq_true, if_false]
  refine idx_of (x := ((us.length + 1 : Nat) : Int)) (by decide) rfl ?_
  rw [hd0]
  simp only [Bool.false_eq_true, if_false]
  refine idx_of (x := ((us.length + 1 : Nat) : Int)) (by decide) rfl ?_
  rw [c1]
  refine le_llisted (by omega) (fun z hz => hal z (by simp [hz])) ?_
  refine idx_of (x := ((us.length + 1 : Nat) : Int)) (by decide) rfl ?_
  rw [c2]
  refine le_llisted (by omega) (fun z hz => hal z (by simp [hz])) ?_
  unfold dueV at hp
  by_cases ku : RdL us
  · by_cases km : RdL ms
    · rw [if_pos ⟨ku, km⟩] at hp
      rw [if_pos ku, if_pos km]
      simp only [Option.isNone, Bool.false_eq_true, if_false]
      have lu : ((prs us).map entP).length ≤ 1000 := by rw [List.length_map, prs_len]; omega
      have lm : ((prs ms).map entP).length ≤ 1000 := by rw [List.length_map, prs_len]; omega
      refine due_once lu ?_
      by_cases du : (((prs us).map entP).map Prod.fst).Nodup
      · rw [if_pos du]
        refine due_once lm ?_
        by_cases dm : (((prs ms).map entP).map Prod.fst).Nodup
        · rw [if_pos dm]
          rw [if_pos ⟨du, dm⟩] at hp
          show (m__law_due_j2 _ _ _).wp _ _
          unfold m__law_due_j2
          simp only [W.wp_bind, W.wp_pure, optG]
          exact idx_of (x := name ++ (":" : Str)) (by decide) rfl (hc2 hp)
        · rw [if_neg dm]
          rw [if_neg (fun q => dm q.2)] at hp
          exact hp
      · rw [if_neg du]
        rw [if_neg (fun q => du q.1)] at hp
        exact hp
    · rw [if_neg (fun q => km q.2)] at hp
      rw [if_pos ku, if_neg km]
      simp only [Option.isNone, Bool.false_eq_true, if_false, if_true]
      exact hp
  · rw [if_neg (fun q => ku q.1)] at hp
    rw [if_neg ku]
    simp only [Option.isNone, if_true]
    exact hp
theorem told_B {x : Str} (hx : x.length ≤ 1000) {name : Str} {us ms : List Str} (sp : Txt.split x (" " : Str) = (name ++ (":" : Str)) :: (us ++ (">" : Str) :: ms)) (nm : isn name = true) (nu : (">" : Str) ∉ us) (nv : (">" : Str) ∉ ms) {P : Wk ⊕ Str → Prop} {E : Exn → Prop} (hp : P (dueV name us ms)) : (m__law_told (x, ())).wp P E := by
  have hsl : (Txt.split x (" " : Str)).length ≤ x.length + 2 := PyProof.Rows.split_le x _
  have hal : ∀ z ∈ Txt.split x (" " : Str), z.length ≤ 100000 := fun z hz => Nat.le_trans (PyProof.Rows.part_short hz) (by omega)
  rw [sp] at hsl hal
  simp only [List.length_cons, List.length_append] at hsl
  have zu : ∀ z ∈ us, z.length ≤ 100000 := fun z hz => hal z (by simp [hz])
  have zm : ∀ z ∈ ms, z.length ≤ 100000 := fun z hz => hal z (by simp [hz])
  have lu : ((prs us).map entP).length ≤ 1000 := by rw [List.length_map, prs_len]; omega
  have lm : ((prs ms).map entP).length ≤ 1000 := by rw [List.length_map, prs_len]; omega
  unfold dueV at hp
  by_cases ku : RdL us
  · by_cases km : RdL ms
    · rw [if_pos ⟨ku, km⟩] at hp
      by_cases du : (((prs us).map entP).map Prod.fst).Nodup
      · by_cases dm : (((prs ms).map entP).map Prod.fst).Nodup
        · rw [if_pos ⟨du, dm⟩] at hp
          exact le_told_ok (fun Q F hF => rd_B hx sp nm nu nv (le_pieces (by omega) zu ku.1 ku.2 (le_pieces (by omega) zm km.1 km.2 (le_takeonce lu du (le_takeonce lm dm hF))))) hp
        · rw [if_neg (fun q => dm q.2)] at hp
          exact le_told_good (fun Q F hF => rd_B hx sp nm nu nv (le_pieces (by omega) zu ku.1 ku.2 (le_pieces (by omega) zm km.1 km.2 (le_takeonce lu du (le_takeonceX lm dm hF))))) hp
      · rw [if_neg (fun q => du q.1)] at hp
        exact le_told_good (fun Q F hF => rd_B hx sp nm nu nv (le_pieces (by omega) zu ku.1 ku.2 (le_pieces (by omega) zm km.1 km.2 (le_takeonceX lu du hF)))) hp
    · rw [if_neg (fun q => km q.2)] at hp
      exact le_told_text (fun Q F hF => rd_B hx sp nm nu nv (le_pieces (by omega) zu ku.1 ku.2 (le_piecesX (by omega) zm km hF))) hp
  · rw [if_neg (fun q => ku q.1)] at hp
    exact le_told_text (fun Q F hF => rd_B hx sp nm nu nv (le_piecesX (by omega) zu ku hF)) hp
def okV : Wk ⊕ Str → Prop := Sum.elim (fun x => PyData.strOk x.1 = true ∧ (∀ y ∈ x.2.1, PyData.strOk y.1 = true ∧ True) ∧ (∀ y ∈ x.2.2, PyData.strOk y.1 = true ∧ True)) (fun x => PyData.strOk x = true)
theorem okV_due {name : Str} {us ms : List Str} (nm : isn name = true) : okV (dueV name us ms) := by
  unfold dueV
  split
  · rename_i h
    split
    · have ent : ∀ ws : List Str, RdL ws → ∀ y ∈ (prs ws).map entP, PyData.strOk y.1 = true ∧ True := fun ws h y hy => by
        obtain ⟨p, hp, rfl⟩ := List.mem_map.mp hy
        have := h.2 p hp
        unfold okP at this
        rw [Bool.and_eq_true] at this
        exact ⟨isn_strOk this.2, trivial⟩
      exact ⟨isn_strOk nm, ent _ h.1, ent _ h.2⟩
    · show PyData.strOk ("good" : Str) = true
      decide +kernel
  · show PyData.strOk ("text" : Str) = true
    decide +kernel
theorem k_one {x : Str} (hx : x.length ≤ 1000) {P : Fl Unit Bool → Prop} {E : Exn → Prop} (hp : P (.go ())) : (m_law_b1 x).wp P E := by
  have fin : ∀ v : Wk ⊕ Str, okV v → (∀ {P : Wk ⊕ Str → Prop} {E : Exn → Prop}, P v → (m__law_told (x, ())).wp P E) → (∀ {P : Wk ⊕ Str → Prop} {E : Exn → Prop}, P v → (m__law_due (x, ())).wp P E) → (m_law_b1 x).wp P E := fun v hv h1 h2 => by
    unfold m_law_b1
    simp only [W.wp_bind, W.wp_pure, W.wp_ite, Bool.false_eq_true, if_false]
    refine h1 (h2 ⟨⟨hv, hv⟩, ?_⟩)
    have e1 : (!decide (v = v)) = false := by simp
    simp only [W.wp_pure, e1, Bool.false_eq_true, if_false]
    exact hp
  obtain ⟨h, r, e, _, _⟩ := wds hx
  by_cases hb : Txt.endswith h (":" : Str) = true ∧ isn (hnm h) = true ∧ GtOne (h :: r)
  · obtain ⟨b1, b2, b3⟩ := hb
    have eh := hd_name b1
    have hg := head_gt (hnm h) b2
    unfold GtOne at b3
    rw [List.countP_cons_of_neg (by rw [eh]; simpa using hg)] at b3
    obtain ⟨us, ms, er, nu, nv⟩ := one_split r b3
    rw [er, eh] at e
    exact fin (dueV (hnm h) us ms) (okV_due b2) (fun hp => told_B hx e b2 nu nv hp) (fun hp => due_B hx e b2 nu nv hp)
  · refine fin (.inr ("text" : Str)) ?_ (fun hp => le_told_text (fun Q F hF => rd_bad hx e hb Q F hF) hp) (fun hp => due_bad hx e hb hp)
    show PyData.strOk ("text" : Str) = true
    decide +kernel
/-! ### the text changed -/
def tot (l : List Str) : Nat := (l.map (·.length)).sum + l.length
theorem tot_app (a b : List Str) : tot (a ++ b) = tot a + tot b := by
  unfold tot
  rw [List.map_append, List.sum_append, List.length_append]
  omega
theorem tot_sub {a b : List Str} (h : a.Sublist b) : tot a ≤ tot b := by
  induction h with
  | slnil => exact Nat.le_refl _
  | cons x _ ih => unfold tot at *; simp; omega
  | cons_cons x _ ih => unfold tot at *; simp; omega
theorem tot_cut (l : List Str) (a b : Option Int) : tot (cut l a b) ≤ tot l := by
  unfold cut
  exact tot_sub ((List.take_sublist _ _).trans (List.drop_sublist _ _))
theorem tot_split (x : Str) : tot (Txt.split x (" " : Str)) ≤ x.length + 1 := PyProof.Rows.split_weight x (" " : Str) (by decide)
theorem le_joinT {l : List Str} {n : Nat} (h : tot l ≤ n) (hn : n ≤ 1000) {P : Str → Prop} {E : Exn → Prop} (hp : ∀ y : Str, y.length ≤ n → P y) : (joinW (" " : Str) l).wp P E := by
  have h1 : (" " : Str).length = 1 := by decide
  refine ⟨?_, hp _ ?_⟩
  · rw [h1]; unfold tot at h; omega
  · rw [TL.join_eq]
    have := StrLaws.join_length_le (" " : Str) l
    rw [h1] at this
    unfold tot at h
    omega
theorem le_cutT {x : Str} {n : Nat} {a b : Option Int} (hx : x.length ≤ n) (hn : n ≤ 100000) {P : Str → Prop} {E : Exn → Prop} (hp : ∀ y : Str, y.length ≤ n → P y) : (cutW x a b).wp P E := by
  rw [st_of x]
  refine w_cut (by rw [tl_lenX]; omega) (hp _ ?_)
  rw [stL_len]
  have := cut_length x.cps.toList a b
  rw [tl_lenX] at this
  omega
theorem le_catN {x y : Str} {n m : Nat} (hx : x.length ≤ n) (hy : y.length ≤ m) (h : n + m ≤ 100000) {P : Str → Prop} {E : Exn → Prop} (hp : ∀ z : Str, z.length ≤ n + m → P z) : (catS x y).wp P E := by
  refine ⟨Nat.le_trans (show x.length + y.length ≤ 100000 by omega) (by decide), hp _ ?_⟩
  rw [Str.length_append]
  omega
theorem le_sgn {z : Str} (hz : z.length ≤ 100) {i : Int} (h0 : 0 ≤ i) (h : i < z.length) {P : Str → Prop} {E : Exn → Prop} (hp : ∀ y : Str, y.length ≤ 1 → P y) : (idxS z i).wp P E := by
  have hl := tl_lenX z
  have e : L2.atI z.cps.toList i = some (z.cps.toList[i.toNat]'(by omega)) := by
    have := L2.atI_nat (xs := z.cps.toList) (j := i.toNat) (List.getElem?_eq_getElem (by omega))
    rwa [Int.toNat_of_nonneg h0] at this
  refine ⟨Nat.le_trans hz (by decide), ?_⟩
  rw [e]
  exact hp _ (Nat.le_refl 1)
theorem le_catLS {a b : List Str} (h : a.length + b.length ≤ 2000) {P : List Str → Prop} {E : Exn → Prop} (hp : P (a ++ b)) : (catL a b).wp P E := ⟨Nat.le_trans h (by decide), hp⟩
def pcs : List (List Str) := [[("0" : Str), ("corn" : Str)], [("1" : Str), ("corn" : Str)], [(">" : Str)], [("x:" : Str)], [("01" : Str), ("corn" : Str)], [("1" : Str)], [("corn" : Str)], [("" : Str)]]
theorem le_lchanged {x : Str} (hx : x.length ≤ 400) (c : Int) {P : Str → Prop} {E : Exn → Prop} (hp : ∀ y : Str, y.length ≤ 1000 → P y) : (m__law_changed (x, c, ())).wp P E := by
  have hsl : (Txt.split x (" " : Str)).length ≤ x.length + 2 := PyProof.Rows.split_le x _
  have htt := tot_split x
  have h17 := fmod_bd (a := c.fdiv 600) (n := 17) (by decide)
  have h8 := fmod_bd (a := c.fdiv 60) (n := 8) (by decide)
  have hpc : ∀ p ∈ pcs, tot p ≤ 10 := by decide +kernel
  unfold m__law_changed
  simp only [W.wp_bind, W.wp_pure, W.wp_ite, W.wp_req, wp_divI, wp_modI]
  refine ⟨⟨by decide, by decide⟩, ⟨Nat.le_trans hx (by decide), ?_⟩⟩
  simp only [W.wp_pure]
  have hl17 : ("0123 >:azAZ-_.,+;" : Str).length = 17 := by decide +kernel
  refine ⟨by omega, ⟨by decide, by decide⟩, by decide, le_sgn (z := ("0123 >:azAZ-_.,+;" : Str)) (by rw [hl17]; decide) h17.1 (by rw [hl17]; exact h17.2) fun sg hsg => ⟨⟨by decide, by omega⟩, ⟨by decide, by decide⟩, by omega, ⟨by decide, by decide⟩, by decide, ?_⟩⟩
  obtain ⟨pc, hpcg⟩ : ∃ pc, pcs[((c.fdiv 60).fmod 8).toNat]? = some pc := ⟨_, List.getElem?_eq_getElem (by show _ < 8; omega)⟩
  have hpt := hpc pc (List.mem_of_getElem? hpcg)
  refine idx_of (xs := pcs) h8.1 hpcg ⟨by decide, ?_⟩
  have hws : ∀ a b, tot (cut (Txt.split x (" " : Str)) a b) ≤ 401 := fun a b => by have := tot_cut (Txt.split x (" " : Str)) a b; omega
  have hlen : ∀ a b, (cut (Txt.split x (" " : Str)) a b).length ≤ 402 := fun a b => by have := cut_length (Txt.split x (" " : Str)) a b; omega
  have hpl : pc.length ≤ 10 := by unfold tot at hpt; omega
  have hsz : sizeLine = 16777216 := by decide
  split
  · exact le_cutT hx (by omega) fun y1 h1 => le_catN h1 hsg (by omega) fun y2 h2 => le_cutT hx (by omega) fun y3 h3 => le_catN h2 h3 (by omega) fun y4 h4 => hp _ (by omega)
  · refine ⟨by decide, ?_⟩
    split
    · exact le_cutT hx (by omega) fun y1 h1 => le_cutT hx (by omega) fun y3 h3 => le_catN h1 h3 (by omega) fun y4 h4 => hp _ (by omega)
    · refine ⟨by decide, ?_⟩
      split
      · exact le_cutT hx (by omega) fun y1 h1 => le_catN h1 hsg (by omega) fun y2 h2 => le_cutT hx (by omega) fun y3 h3 => le_catN h2 h3 (by omega) fun y4 h4 => hp _ (by omega)
      · refine ⟨by decide, ?_⟩
        split
        · exact le_catLS (Nat.le_trans (Nat.add_le_add (hlen _ _) hpl) (by decide)) (le_catLS (by rw [List.length_append]; exact Nat.le_trans (Nat.add_le_add (Nat.add_le_add (hlen _ _) hpl) (hlen _ _)) (by decide)) (le_joinT (n := 900) (by rw [tot_app, tot_app]; exact Nat.le_trans (Nat.add_le_add (Nat.add_le_add (hws _ _) hpt) (hws _ _)) (by decide)) (by omega) fun y hy => hp y (by omega)))
        · refine ⟨by decide, ?_⟩
          split
          · exact le_catLS (Nat.le_trans (Nat.add_le_add (hlen _ _) (hlen _ _)) (by decide)) (le_joinT (n := 900) (by rw [tot_app]; exact Nat.le_trans (Nat.add_le_add (hws _ _) (hws _ _)) (by decide)) (by omega) fun y hy => hp y (by omega))
          · exact le_catLS (Nat.le_trans (Nat.add_le_add (hlen _ _) (hlen _ _)) (by decide)) (le_joinT (n := 900) (by rw [tot_app]; exact Nat.le_trans (Nat.add_le_add (hws _ _) (hws _ _)) (by decide)) (by omega) fun y hy => hp y (by omega))
def oddL : List Str := ((([("" : Str), (":" : Str), (">" : Str), ("mill" : Str), ("mill:" : Str), ("mill >" : Str), (": >" : Str), ("mill: >" : Str), ("mill:>" : Str), ("mill : >" : Str), ("mill: > " : Str), (" mill: >" : Str)] ++ [("mill: 1 corn" : Str), ("mill: corn 1 >" : Str), ("mill: 1 corn > > 2 flour" : Str), ("mill: > 1 corn 1 corn" : Str)]) ++ [("mill: 1 corn 2 corn >" : Str), ("mill: 1 corn > 1 corn" : Str), ("mill: 0 corn >" : Str), ("mill: -1 corn >" : Str), ("Mill: >" : Str)]) ++ [("mill: " : Str) ++ repT ("9" : Str) 30 ++ (" corn >" : Str), ("mill: > " : Str) ++ repT ("1" : Str) 31 ++ (" corn" : Str)]) ++ [("mills milled: >" : Str), ("millmillm: >" : Str), ("mill: 1 corn 1 corn > 0 flour" : Str)]
theorem le_lodd (c : Int) {P : Str → Prop} {E : Exn → Prop} (hp : ∀ y : Str, y.length ≤ 1000 → P y) : (m__law_odd (c, ())).wp P E := by
  have h26 := fmod_bd (a := c) (n := 26) (by decide)
  have hall : ∀ y ∈ oddL, y.length ≤ 1000 := by decide +kernel
  have hlen : oddL.length = 26 := by decide +kernel
  unfold m__law_odd
  simp only [W.wp_bind, W.wp_pure, W.wp_ite, W.wp_req, wp_divI, wp_modI]
  refine ⟨by decide +kernel, by decide +kernel, ⟨by decide, by decide, by decide +kernel, by decide +kernel⟩, by decide +kernel, by decide +kernel, ⟨by decide, by decide, by decide +kernel, by decide +kernel⟩, by decide +kernel, by decide +kernel, by decide +kernel, by decide +kernel, by decide, ?_⟩
  obtain ⟨y, hy⟩ : ∃ y, oddL[(c.fmod 26).toNat]? = some y := ⟨_, List.getElem?_eq_getElem (by rw [hlen]; omega)⟩
  exact idx_of (xs := oddL) h26.1 hy (hp y (hall y (List.mem_of_getElem? hy)))
/-! ### the law -/
theorem ent_w {gs : List Str} {l : List Ent} {B : Int} (h : EntB B gs l) (hg : ∀ g ∈ gs, Y.isn g = true) (hl : gs.length ≤ 4) (hB : B < AM) : EntW l ∧ l.length ≤ 4 := by
  have := h.1.len
  refine ⟨⟨by omega, fun p hp => ?_⟩, by omega⟩
  have h1 := h.1.mem p hp
  have h2 := h.2 p hp
  exact ⟨hg _ h1.1, h1.2, by omega⟩
theorem k_cell {cells : List Int} {x c d : Int} (hx : (idx cells x) = pure c) (hx1 : (idx cells (x - 1)) = pure d) (hc : Bz c) (hd : Bz d) {P : Fl Unit Bool → Prop} {E : Exn → Prop} (hp : P (.go ())) : (m_law_b2 cells x).wp P E := by
  have h30 := fmod_bd (a := c) (n := 1000000000000000000000000000000) (by decide)
  unfold m_law_b2
  simp only [W.wp_bind, W.wp_pure, W.wp_ite, wp_divI, wp_modI, hx, hx1]
  refine le_next hd (by decide) (by decide) fun far hfar _ => ⟨by decide, ?_⟩
  have sc : Sz 200 (c.fmod 1000000000000000000000000000000) := by unfold Sz; omega
  have bc : Bz (c.fmod 1000000000000000000000000000000) := sc.bz (by decide)
  refine le_wordsY bc (by decide) (by decide) fun ws hws => ⟨by decide, ?_⟩
  have hwl := hws.len
  have h83 := fmod_bd (a := far.fdiv 3) (n := 5) (by decide)
  have h3 := fmod_bd (a := far) (n := 3) (by decide)
  have hall : ∀ y ∈ [(1 : Int), 1, 10000000000000000000000000000], 1 ≤ y ∧ y ≤ 10000000000000000000000000000 := fun y hy => by
    simp at hy
    omega
  obtain ⟨y, hy⟩ : ∃ y, [(1 : Int), 1, 10000000000000000000000000000][(far.fmod 3).toNat]? = some y := ⟨_, List.getElem?_eq_getElem (by show _ < 3; omega)⟩
  have hyb := hall y (List.mem_of_getElem? hy)
  obtain ⟨name, hname⟩ : ∃ w, ws[(4 : Int).toNat]? = some w := ⟨_, List.getElem?_eq_getElem (by show 4 < _; omega)⟩
  refine idx_of h3.1 hy ⟨by decide, idx_of (by decide) hname ⟨⟨by decide, by decide⟩, by decide, ?_⟩⟩
  have hcn : ∀ g ∈ cut ws none (some ((far.fdiv 3).fmod 5)), Y.isn g = true := fun g hg => hws.isn g (mem_cut hg)
  have hcd : (cut ws none (some ((far.fdiv 3).fmod 5))).Nodup := by
    unfold cut
    exact (hws.nd.sublist (List.drop_sublist _ _)).sublist (List.take_sublist _ _)
  have hcl : (cut ws none (some ((far.fdiv 3).fmod 5))).length ≤ 4 := by
    obtain ⟨k, hk⟩ : ∃ k : Nat, (far.fdiv 3).fmod 5 = (k : Int) := ⟨((far.fdiv 3).fmod 5).toNat, by omega⟩
    rw [hk, cut_take, List.length_take]
    omega
  generalize cut ws none (some ((far.fdiv 3).fmod 5)) = gs at *
  refine le_work bc h30.1 hyb.1 (by unfold Sz; omega) hcd (by omega) fun w hw1 hw2 hw3 => ?_
  obtain ⟨wu, lu⟩ := ent_w hw2 hcn hcl (by unfold AM; omega)
  obtain ⟨wm, lm⟩ := ent_w hw3 hcn hcl (by unfold AM; omega)
  have hW : WkW w := ⟨by rw [hw1]; exact hws.isn _ (List.mem_of_getElem? hname), wu, wm⟩
  have hlen : (stL (wrW w)).length ≤ 400 := by
    have h1 := wrE_len wu
    have h2 := wrE_len wm
    have h5 := isn_le hW.nm
    rw [← tl_lenX] at h5
    rw [stL_len]
    unfold wrW
    simp only [List.length_cons, List.length_append]
    omega
  refine le_lwritten hW ⟨⟨by decide, by decide⟩, le_lchanged hlen _ fun y1 k1 => le_next hfar (by decide) (by decide) fun r hr _ => le_lchanged hlen _ fun y2 k2 => le_lodd _ fun y3 k3 => ?_⟩
  refine W.foldR_all (α := Str) _ (fun z hz P E hp => k_one ?_ hp) _ _ hp
  simp only [List.mem_cons, List.not_mem_nil, or_false] at hz
  rcases hz with q | q | q | q <;> rw [q]
  · omega
  · exact k1
  · exact k2
  · exact k3
theorem k_law (ns : List Int) (hl : ns.length ≤ 63) (hb : ∀ z ∈ ns, BitsOk z) : (m_law (ns, ())).wp (fun b => b = true) (fun _ => False) := by
  unfold m_law
  simp only [W.wp_bind, W.wp_pure]
  have h1 := cut_length ns none (some 20)
  have hsz : sizeLine = 16777216 := by decide
  have hc0 : Bz (cellAt ns 0) := by
    unfold cellAt
    rw [List.getD_eq_getElem?_getD]
    cases h : ns[(0 : Int).toNat]? with
    | none => exact BitsOk.zero
    | some z => exact (hb z (List.mem_of_getElem? h)).bz
  refine le_cell (by decide) ⟨by rw [hsz, List.length_singleton]; omega, ?_⟩
  have hall : ∀ z ∈ cut ns none (some 20) ++ [cellAt ns 0], Bz z := fun z hz => by
    rcases List.mem_append.mp hz with q | q
    · exact (hb z (mem_cut q)).bz
    · rw [List.mem_singleton.mp q]; exact hc0
  have hne : (cut ns none (some 20) ++ [cellAt ns 0]).length = (cut ns none (some 20)).length + 1 := by simp
  have hlast : idx (cut ns none (some 20) ++ [cellAt ns 0]) (-1) = pure (cellAt ns 0) := by
    unfold idx
    rw [L2.atI_last]
  generalize cut ns none (some 20) ++ [cellAt ns 0] = cells at *
  refine le_range (by omega) (by omega) ?_
  refine W.foldR_all (α := Int) _ (fun x hx P E hp => ?_) _ _ rfl
  have hx := mem_rng.mp hx
  have get : ∀ k : Int, 0 ≤ k → k < cells.length → ∃ c, idx cells k = pure c ∧ Bz c := fun k h0 h1 => by
    obtain ⟨c, hc⟩ : ∃ c, cells[k.toNat]? = some c := ⟨_, List.getElem?_eq_getElem (by omega)⟩
    refine ⟨c, ?_, hall c (List.mem_of_getElem? hc)⟩
    have e := L2.atI_nat hc
    rw [Int.toNat_of_nonneg h0] at e
    unfold idx
    rw [e]
  obtain ⟨c, ec, bc⟩ := get x hx.1 hx.2
  by_cases h0 : x = 0
  · exact k_cell ec (d := cellAt ns 0) (by rw [h0]; exact hlast) bc hc0 hp
  · obtain ⟨d, ed, bd⟩ := get (x - 1) (by omega) (by omega)
    exact k_cell ec ed bc bd hp
end Y

namespace Y
open PySem PySem.Spec L2
theorem all_mk {l : PySem.W.OpenLaw} {w : World} {K : PySem.W.Frag} {h : Heap} {mg : Str → Option Value} {fa f0 f1 f2 f3 f4 f5 f6 f7 f8 f9 f10 f11 f12 f13 f14 f15 f16 f17 : Addr} (X : K.In h) (G : h.Ns mainGlobals mg) (hfa : mg "law" = some (.ref fa))
    {od0 od1 od2 od3 od4 od5 od6 od7 od8 od9 od10 od11 od12 od13 od14 od15 od16 od17 an0 an1 an2 an3 an4 an5 an6 an7 an8 an9 an10 an11 an12 an13 an14 an15 an16 an17 : Option Addr} {sl0 sl1 sl2 sl3 sl4 sl5 sl6 sl7 sl8 sl9 sl10 sl11 sl12 sl13 sl14 sl15 sl16 sl17 : Array (Option Value)} {oc0 oc1 oc2 oc3 oc4 oc5 oc6 oc7 oc8 oc9 oc10 oc11 oc12 oc13 oc14 oc15 oc16 oc17 kV0 kV1 kV2 kV3 kV4 kV5 kV6 kV7 kV8 kV9 kV10 kV11 kV12 kV13 kV14 kV15 kV16 kV17 dc0 dc1 dc2 dc3 dc4 dc5 dc6 dc7 dc8 dc9 dc10 dc11 dc12 dc13 dc14 dc15 dc16 dc17 pm0 pm1 pm2 pm3 pm4 pm5 pm6 pm7 pm8 pm9 pm10 pm11 pm12 pm13 pm14 pm15 pm16 pm17 cd0 cd1 cd2 cd3 cd4 cd5 cd6 cd7 cd8 cd9 cd10 cd11 cd12 cd13 cd14 cd15 cd16 cd17 ct0 ct1 ct2 ct3 ct4 ct5 ct6 ct7 ct8 ct9 ct10 ct11 ct12 ct13 ct14 ct15 ct16 ct17 : Value}
    (a0 : PySem.W.nsIn K mainGlobals "is_name" = some (some (.ref f0))) (l0 : K.lookup f0 = some ⟨oc0, od0, .func (PySem.W.fnOf "is_name" "is_name" (defArgs (top 16)) (defBody (top 16)) (defScope (top 16)) .none kV0 dc0 pm0 an0 cd0 ct0), sl0⟩) (c0 : PySem.W.codeIn K cd0 "is_name" = true) (k0 : PySem.W.keepIn K (.ref f0) = true)
    (a1 : PySem.W.nsIn K mainGlobals "is_number" = some (some (.ref f1))) (l1 : K.lookup f1 = some ⟨oc1, od1, .func (PySem.W.fnOf "is_number" "is_number" (defArgs (top 20)) (defBody (top 20)) (defScope (top 20)) .none kV1 dc1 pm1 an1 cd1 ct1), sl1⟩) (c1 : PySem.W.codeIn K cd1 "is_number" = true) (k1 : PySem.W.keepIn K (.ref f1) = true)
    (a2 : PySem.W.nsIn K mainGlobals "read_pieces" = some (some (.ref f2))) (l2 : K.lookup f2 = some ⟨oc2, od2, .func (PySem.W.fnOf "read_pieces" "read_pieces" (defArgs (top 21)) (defBody (top 21)) (defScope (top 21)) .none kV2 dc2 pm2 an2 cd2 ct2), sl2⟩) (c2 : PySem.W.codeIn K cd2 "read_pieces" = true) (k2 : PySem.W.keepIn K (.ref f2) = true)
    (a3 : PySem.W.nsIn K mainGlobals "take_once" = some (some (.ref f3))) (l3 : K.lookup f3 = some ⟨oc3, od3, .func (PySem.W.fnOf "take_once" "take_once" (defArgs (top 22)) (defBody (top 22)) (defScope (top 22)) .none kV3 dc3 pm3 an3 cd3 ct3), sl3⟩) (c3 : PySem.W.codeIn K cd3 "take_once" = true) (k3 : PySem.W.keepIn K (.ref f3) = true)
    (a4 : PySem.W.nsIn K mainGlobals "read_work" = some (some (.ref f4))) (l4 : K.lookup f4 = some ⟨oc4, od4, .func (PySem.W.fnOf "read_work" "read_work" (defArgs (top 23)) (defBody (top 23)) (defScope (top 23)) .none kV4 dc4 pm4 an4 cd4 ct4), sl4⟩) (c4 : PySem.W.codeIn K cd4 "read_work" = true) (k4 : PySem.W.keepIn K (.ref f4) = true)
    (a5 : PySem.W.nsIn K mainGlobals "_law_cell" = some (some (.ref f5))) (l5 : K.lookup f5 = some ⟨oc5, od5, .func (PySem.W.fnOf "_law_cell" "_law_cell" (defArgs (top 25)) (defBody (top 25)) (defScope (top 25)) .none kV5 dc5 pm5 an5 cd5 ct5), sl5⟩) (c5 : PySem.W.codeIn K cd5 "_law_cell" = true) (k5 : PySem.W.keepIn K (.ref f5) = true)
    (a6 : PySem.W.nsIn K mainGlobals "_law_next" = some (some (.ref f6))) (l6 : K.lookup f6 = some ⟨oc6, od6, .func (PySem.W.fnOf "_law_next" "_law_next" (defArgs (top 26)) (defBody (top 26)) (defScope (top 26)) .none kV6 dc6 pm6 an6 cd6 ct6), sl6⟩) (c6 : PySem.W.codeIn K cd6 "_law_next" = true) (k6 : PySem.W.keepIn K (.ref f6) = true)
    (a7 : PySem.W.nsIn K mainGlobals "_law_words" = some (some (.ref f7))) (l7 : K.lookup f7 = some ⟨oc7, od7, .func (PySem.W.fnOf "_law_words" "_law_words" (defArgs (top 27)) (defBody (top 27)) (defScope (top 27)) .none kV7 dc7 pm7 an7 cd7 ct7), sl7⟩) (c7 : PySem.W.codeIn K cd7 "_law_words" = true) (k7 : PySem.W.keepIn K (.ref f7) = true)
    (a8 : PySem.W.nsIn K mainGlobals "_law_work" = some (some (.ref f8))) (l8 : K.lookup f8 = some ⟨oc8, od8, .func (PySem.W.fnOf "_law_work" "_law_work" (defArgs (top 28)) (defBody (top 28)) (defScope (top 28)) .none kV8 dc8 pm8 an8 cd8 ct8), sl8⟩) (c8 : PySem.W.codeIn K cd8 "_law_work" = true) (k8 : PySem.W.keepIn K (.ref f8) = true)
    (a9 : PySem.W.nsIn K mainGlobals "_law_pieces" = some (some (.ref f9))) (l9 : K.lookup f9 = some ⟨oc9, od9, .func (PySem.W.fnOf "_law_pieces" "_law_pieces" (defArgs (top 29)) (defBody (top 29)) (defScope (top 29)) .none kV9 dc9 pm9 an9 cd9 ct9), sl9⟩) (c9 : PySem.W.codeIn K cd9 "_law_pieces" = true) (k9 : PySem.W.keepIn K (.ref f9) = true)
    (a10 : PySem.W.nsIn K mainGlobals "_law_written" = some (some (.ref f10))) (l10 : K.lookup f10 = some ⟨oc10, od10, .func (PySem.W.fnOf "_law_written" "_law_written" (defArgs (top 30)) (defBody (top 30)) (defScope (top 30)) .none kV10 dc10 pm10 an10 cd10 ct10), sl10⟩) (c10 : PySem.W.codeIn K cd10 "_law_written" = true) (k10 : PySem.W.keepIn K (.ref f10) = true)
    (a11 : PySem.W.nsIn K mainGlobals "_law_name" = some (some (.ref f11))) (l11 : K.lookup f11 = some ⟨oc11, od11, .func (PySem.W.fnOf "_law_name" "_law_name" (defArgs (top 31)) (defBody (top 31)) (defScope (top 31)) .none kV11 dc11 pm11 an11 cd11 ct11), sl11⟩) (c11 : PySem.W.codeIn K cd11 "_law_name" = true) (k11 : PySem.W.keepIn K (.ref f11) = true)
    (a12 : PySem.W.nsIn K mainGlobals "_law_listed" = some (some (.ref f12))) (l12 : K.lookup f12 = some ⟨oc12, od12, .func (PySem.W.fnOf "_law_listed" "_law_listed" (defArgs (top 32)) (defBody (top 32)) (defScope (top 32)) .none kV12 dc12 pm12 an12 cd12 ct12), sl12⟩) (c12 : PySem.W.codeIn K cd12 "_law_listed" = true) (k12 : PySem.W.keepIn K (.ref f12) = true)
    (a13 : PySem.W.nsIn K mainGlobals "_law_due" = some (some (.ref f13))) (l13 : K.lookup f13 = some ⟨oc13, od13, .func (PySem.W.fnOf "_law_due" "_law_due" (defArgs (top 33)) (defBody (top 33)) (defScope (top 33)) .none kV13 dc13 pm13 an13 cd13 ct13), sl13⟩) (c13 : PySem.W.codeIn K cd13 "_law_due" = true) (k13 : PySem.W.keepIn K (.ref f13) = true)
    (a14 : PySem.W.nsIn K mainGlobals "_law_told" = some (some (.ref f14))) (l14 : K.lookup f14 = some ⟨oc14, od14, .func (PySem.W.fnOf "_law_told" "_law_told" (defArgs (top 34)) (defBody (top 34)) (defScope (top 34)) .none kV14 dc14 pm14 an14 cd14 ct14), sl14⟩) (c14 : PySem.W.codeIn K cd14 "_law_told" = true) (k14 : PySem.W.keepIn K (.ref f14) = true)
    (a15 : PySem.W.nsIn K mainGlobals "_law_changed" = some (some (.ref f15))) (l15 : K.lookup f15 = some ⟨oc15, od15, .func (PySem.W.fnOf "_law_changed" "_law_changed" (defArgs (top 35)) (defBody (top 35)) (defScope (top 35)) .none kV15 dc15 pm15 an15 cd15 ct15), sl15⟩) (c15 : PySem.W.codeIn K cd15 "_law_changed" = true) (k15 : PySem.W.keepIn K (.ref f15) = true)
    (a16 : PySem.W.nsIn K mainGlobals "_law_odd" = some (some (.ref f16))) (l16 : K.lookup f16 = some ⟨oc16, od16, .func (PySem.W.fnOf "_law_odd" "_law_odd" (defArgs (top 36)) (defBody (top 36)) (defScope (top 36)) .none kV16 dc16 pm16 an16 cd16 ct16), sl16⟩) (c16 : PySem.W.codeIn K cd16 "_law_odd" = true) (k16 : PySem.W.keepIn K (.ref f16) = true)
    (a17 : PySem.W.nsIn K mainGlobals "law" = some (some (.ref f17))) (l17 : K.lookup f17 = some ⟨oc17, od17, .func (PySem.W.fnOf "law" "law" (defArgs (top 37)) (defBody (top 37)) (defScope (top 37)) .none kV17 dc17 pm17 an17 cd17 ct17), sl17⟩) (c17 : PySem.W.codeIn K cd17 "law" = true) (k17 : PySem.W.keepIn K (.ref f17) = true)
    {q_NoText q_NoGood q_YardError q_NoAmount q_NoBalance q_NoFit q_NoName q_NoRatio q_NoRow q_NoWay q_NoWeights q_NoWork q_TooMany : Addr}
    (qa_NoText : PySem.W.nsIn K mainGlobals "NoText" = some (some (.ref q_NoText)))
    (qa_NoGood : PySem.W.nsIn K mainGlobals "NoGood" = some (some (.ref q_NoGood)))
    (qa_YardError : PySem.W.nsIn K mainGlobals "YardError" = some (some (.ref q_YardError)))
    (qa_NoAmount : PySem.W.nsIn K mainGlobals "NoAmount" = some (some (.ref q_NoAmount)))
    (qa_NoBalance : PySem.W.nsIn K mainGlobals "NoBalance" = some (some (.ref q_NoBalance)))
    (qa_NoFit : PySem.W.nsIn K mainGlobals "NoFit" = some (some (.ref q_NoFit)))
    (qa_NoName : PySem.W.nsIn K mainGlobals "NoName" = some (some (.ref q_NoName)))
    (qa_NoRatio : PySem.W.nsIn K mainGlobals "NoRatio" = some (some (.ref q_NoRatio)))
    (qa_NoRow : PySem.W.nsIn K mainGlobals "NoRow" = some (some (.ref q_NoRow)))
    (qa_NoWay : PySem.W.nsIn K mainGlobals "NoWay" = some (some (.ref q_NoWay)))
    (qa_NoWeights : PySem.W.nsIn K mainGlobals "NoWeights" = some (some (.ref q_NoWeights)))
    (qa_NoWork : PySem.W.nsIn K mainGlobals "NoWork" = some (some (.ref q_NoWork)))
    (qa_TooMany : PySem.W.nsIn K mainGlobals "TooMany" = some (some (.ref q_TooMany)))
    (rx1_NoText : PySem.W.excIn K q_NoText [.type "ValueError", .type "Exception", .type "BaseException", .type "object"] "ValueError.__new__" = true)
    (rx2_NoText : PySem.W.keepIn K (.ref q_NoText) = true)
    (rx1_NoGood : PySem.W.excIn K q_NoGood [.type "ValueError", .type "Exception", .type "BaseException", .type "object"] "ValueError.__new__" = true)
    (rx2_NoGood : PySem.W.keepIn K (.ref q_NoGood) = true)
    (qb_NoText : PySem.W.subIn K (.ref q_NoText) (.type "BaseException") = some true)
    (qt_NoText : PySem.W.typeIn K (.ref q_NoText) = some (.type "type"))
    (qb_NoGood : PySem.W.subIn K (.ref q_NoGood) (.type "BaseException") = some true)
    (qt_NoGood : PySem.W.typeIn K (.ref q_NoGood) = some (.type "type"))
    (qb_YardError : PySem.W.subIn K (.ref q_YardError) (.type "BaseException") = some true)
    (qt_YardError : PySem.W.typeIn K (.ref q_YardError) = some (.type "type"))
    (qb_NoAmount : PySem.W.subIn K (.ref q_NoAmount) (.type "BaseException") = some true)
    (qt_NoAmount : PySem.W.typeIn K (.ref q_NoAmount) = some (.type "type"))
    (qb_NoBalance : PySem.W.subIn K (.ref q_NoBalance) (.type "BaseException") = some true)
    (qt_NoBalance : PySem.W.typeIn K (.ref q_NoBalance) = some (.type "type"))
    (qb_NoFit : PySem.W.subIn K (.ref q_NoFit) (.type "BaseException") = some true)
    (qt_NoFit : PySem.W.typeIn K (.ref q_NoFit) = some (.type "type"))
    (qb_NoName : PySem.W.subIn K (.ref q_NoName) (.type "BaseException") = some true)
    (qt_NoName : PySem.W.typeIn K (.ref q_NoName) = some (.type "type"))
    (qb_NoRatio : PySem.W.subIn K (.ref q_NoRatio) (.type "BaseException") = some true)
    (qt_NoRatio : PySem.W.typeIn K (.ref q_NoRatio) = some (.type "type"))
    (qb_NoRow : PySem.W.subIn K (.ref q_NoRow) (.type "BaseException") = some true)
    (qt_NoRow : PySem.W.typeIn K (.ref q_NoRow) = some (.type "type"))
    (qb_NoWay : PySem.W.subIn K (.ref q_NoWay) (.type "BaseException") = some true)
    (qt_NoWay : PySem.W.typeIn K (.ref q_NoWay) = some (.type "type"))
    (qb_NoWeights : PySem.W.subIn K (.ref q_NoWeights) (.type "BaseException") = some true)
    (qt_NoWeights : PySem.W.typeIn K (.ref q_NoWeights) = some (.type "type"))
    (qb_NoWork : PySem.W.subIn K (.ref q_NoWork) (.type "BaseException") = some true)
    (qt_NoWork : PySem.W.typeIn K (.ref q_NoWork) = some (.type "type"))
    (qb_TooMany : PySem.W.subIn K (.ref q_TooMany) (.type "BaseException") = some true)
    (qt_TooMany : PySem.W.typeIn K (.ref q_TooMany) = some (.type "type"))
    (qd_YardError : PySem.W.hasDictIn K q_YardError = true)
    (qd_NoAmount : PySem.W.hasDictIn K q_NoAmount = true)
    (qd_NoBalance : PySem.W.hasDictIn K q_NoBalance = true)
    (qd_NoFit : PySem.W.hasDictIn K q_NoFit = true)
    (qd_NoName : PySem.W.hasDictIn K q_NoName = true)
    (qd_NoRatio : PySem.W.hasDictIn K q_NoRatio = true)
    (qd_NoRow : PySem.W.hasDictIn K q_NoRow = true)
    (qd_NoWay : PySem.W.hasDictIn K q_NoWay = true)
    (qd_NoWeights : PySem.W.hasDictIn K q_NoWeights = true)
    (qd_NoWork : PySem.W.hasDictIn K q_NoWork = true)
    (qd_TooMany : PySem.W.hasDictIn K q_TooMany = true)
    (qd_NoText : PySem.W.hasDictIn K q_NoText = true)
    (qd_NoGood : PySem.W.hasDictIn K q_NoGood = true)
    (sp1 : PySem.W.specialIn K (.builtin "object.__class__") "__get__" = some (some (.builtin "getset_descriptor.__get__")))
    (sp2 : PySem.W.takesIn K (.builtin "object.__class__") = some true)
    (e1_NoText : PySem.W.findIn K (.ref q_NoText) "__getattribute__" = some (some (.builtin "BaseException.__getattribute__")))
    (e2_NoText : PySem.W.findIn K (.ref q_NoText) "__getattr__" = some none)
    (e3_NoText : PySem.W.findIn K (.ref q_NoText) "__class__" = some (some (.builtin "object.__class__")))
    (e4_NoText : PySem.W.mroIn K q_NoText (.type "object") = some true)
    (e1_NoGood : PySem.W.findIn K (.ref q_NoGood) "__getattribute__" = some (some (.builtin "BaseException.__getattribute__")))
    (e2_NoGood : PySem.W.findIn K (.ref q_NoGood) "__getattr__" = some none)
    (e3_NoGood : PySem.W.findIn K (.ref q_NoGood) "__class__" = some (some (.builtin "object.__class__")))
    (e4_NoGood : PySem.W.mroIn K q_NoGood (.type "object") = some true)
    (m_NoText_YardError : PySem.W.mroIn K q_NoText (.ref q_YardError) = some true)
    (m_NoText_NoAmount : PySem.W.mroIn K q_NoText (.ref q_NoAmount) = some false)
    (n_NoText_NoAmount : q_NoText ≠ q_NoAmount)
    (m_NoText_NoBalance : PySem.W.mroIn K q_NoText (.ref q_NoBalance) = some false)
    (n_NoText_NoBalance : q_NoText ≠ q_NoBalance)
    (m_NoText_NoFit : PySem.W.mroIn K q_NoText (.ref q_NoFit) = some false)
    (n_NoText_NoFit : q_NoText ≠ q_NoFit)
    (m_NoText_NoName : PySem.W.mroIn K q_NoText (.ref q_NoName) = some false)
    (n_NoText_NoName : q_NoText ≠ q_NoName)
    (m_NoText_NoRatio : PySem.W.mroIn K q_NoText (.ref q_NoRatio) = some false)
    (n_NoText_NoRatio : q_NoText ≠ q_NoRatio)
    (m_NoText_NoRow : PySem.W.mroIn K q_NoText (.ref q_NoRow) = some false)
    (n_NoText_NoRow : q_NoText ≠ q_NoRow)
    (m_NoText_NoWay : PySem.W.mroIn K q_NoText (.ref q_NoWay) = some false)
    (n_NoText_NoWay : q_NoText ≠ q_NoWay)
    (m_NoText_NoWeights : PySem.W.mroIn K q_NoText (.ref q_NoWeights) = some false)
    (n_NoText_NoWeights : q_NoText ≠ q_NoWeights)
    (m_NoText_NoWork : PySem.W.mroIn K q_NoText (.ref q_NoWork) = some false)
    (n_NoText_NoWork : q_NoText ≠ q_NoWork)
    (m_NoText_TooMany : PySem.W.mroIn K q_NoText (.ref q_TooMany) = some false)
    (n_NoText_TooMany : q_NoText ≠ q_TooMany)
    (m_NoText_NoText : PySem.W.mroIn K q_NoText (.ref q_NoText) = some true)
    (m_NoText_NoGood : PySem.W.mroIn K q_NoText (.ref q_NoGood) = some false)
    (n_NoText_NoGood : q_NoText ≠ q_NoGood)
    (m_NoText_ValueError : PySem.W.mroIn K q_NoText (.type "ValueError") = some true)
    (m_NoGood_YardError : PySem.W.mroIn K q_NoGood (.ref q_YardError) = some true)
    (m_NoGood_NoAmount : PySem.W.mroIn K q_NoGood (.ref q_NoAmount) = some false)
    (n_NoGood_NoAmount : q_NoGood ≠ q_NoAmount)
    (m_NoGood_NoBalance : PySem.W.mroIn K q_NoGood (.ref q_NoBalance) = some false)
    (n_NoGood_NoBalance : q_NoGood ≠ q_NoBalance)
    (m_NoGood_NoFit : PySem.W.mroIn K q_NoGood (.ref q_NoFit) = some false)
    (n_NoGood_NoFit : q_NoGood ≠ q_NoFit)
    (m_NoGood_NoName : PySem.W.mroIn K q_NoGood (.ref q_NoName) = some false)
    (n_NoGood_NoName : q_NoGood ≠ q_NoName)
    (m_NoGood_NoRatio : PySem.W.mroIn K q_NoGood (.ref q_NoRatio) = some false)
    (n_NoGood_NoRatio : q_NoGood ≠ q_NoRatio)
    (m_NoGood_NoRow : PySem.W.mroIn K q_NoGood (.ref q_NoRow) = some false)
    (n_NoGood_NoRow : q_NoGood ≠ q_NoRow)
    (m_NoGood_NoWay : PySem.W.mroIn K q_NoGood (.ref q_NoWay) = some false)
    (n_NoGood_NoWay : q_NoGood ≠ q_NoWay)
    (m_NoGood_NoWeights : PySem.W.mroIn K q_NoGood (.ref q_NoWeights) = some false)
    (n_NoGood_NoWeights : q_NoGood ≠ q_NoWeights)
    (m_NoGood_NoWork : PySem.W.mroIn K q_NoGood (.ref q_NoWork) = some false)
    (n_NoGood_NoWork : q_NoGood ≠ q_NoWork)
    (m_NoGood_TooMany : PySem.W.mroIn K q_NoGood (.ref q_TooMany) = some false)
    (n_NoGood_TooMany : q_NoGood ≠ q_TooMany)
    (m_NoGood_NoText : PySem.W.mroIn K q_NoGood (.ref q_NoText) = some false)
    (n_NoGood_NoText : q_NoGood ≠ q_NoText)
    (m_NoGood_NoGood : PySem.W.mroIn K q_NoGood (.ref q_NoGood) = some true)
    (m_NoGood_ValueError : PySem.W.mroIn K q_NoGood (.type "ValueError") = some true)
    (zb_ValueError : PySem.W.nsIn K mainGlobals "ValueError" = some none)
    {tk_SMALL : Tok} (zg_SMALL : PySem.W.nsIn K mainGlobals "SMALL" = some (some (.str ("abcdefghijklmnopqrstuvwxyz" : Str) tk_SMALL)))
    {tk_MOST_FIGURES : Tok} (zg_MOST_FIGURES : PySem.W.nsIn K mainGlobals "MOST_FIGURES" = some (some (.int (30 : Int) tk_MOST_FIGURES)))
    {tk_FIGURES : Tok} (zg_FIGURES : PySem.W.nsIn K mainGlobals "FIGURES" = some (some (.str ("0123456789" : Str) tk_FIGURES)))
    (z_len : PySem.W.nsIn K mainGlobals "len" = some none)
    (z_range : PySem.W.nsIn K mainGlobals "range" = some none)
    (z_int : PySem.W.nsIn K mainGlobals "int" = some none)
    (z_set : PySem.W.nsIn K mainGlobals "set" = some none)
    (z_min : PySem.W.nsIn K mainGlobals "min" = some none)
    (z_enumerate : PySem.W.nsIn K mainGlobals "enumerate" = some none)
    (z_str : PySem.W.nsIn K mainGlobals "str" = some none)
    (z_isinstance : PySem.W.nsIn K mainGlobals "isinstance" = some none)
    (z_max : PySem.W.nsIn K mainGlobals "max" = some none)
    : ∃ fd : FuncData, (∀ (s : Shared) (v : Value), BindsTo s fd ⟨[v], []⟩ [("_law_script", v)]) ∧ ∀ base : Heap, K.In base → base.Ns mainGlobals mg → FnOk l.prog w K mg base (L2.CX l.prog w) 5 fa fd ["_law_script"] (spV ⟨l.prog, w, K, mg, base⟩ (fun _ t => [rL K rI t.1]) (fun _ => rB) m_law) := by
  have e := hfa.symm.trans (PySem.W.mg_of X G a17)
  cases e
  refine ⟨PySem.W.fnOf "law" "law" (defArgs (top 37)) (defBody (top 37)) (defScope (top 37)) .none kV17 dc17 pm17 an17 cd17 ct17, fun s v => .of_eq rfl, fun base _ _ => ?_⟩
  have b_len : (⟨l.prog, w, K, mg, base⟩ : Mc).mg "len" = none := PySem.W.mg_none_of X G z_len
  have b_range : (⟨l.prog, w, K, mg, base⟩ : Mc).mg "range" = none := PySem.W.mg_none_of X G z_range
  have b_int : (⟨l.prog, w, K, mg, base⟩ : Mc).mg "int" = none := PySem.W.mg_none_of X G z_int
  have b_set : (⟨l.prog, w, K, mg, base⟩ : Mc).mg "set" = none := PySem.W.mg_none_of X G z_set
  have b_min : (⟨l.prog, w, K, mg, base⟩ : Mc).mg "min" = none := PySem.W.mg_none_of X G z_min
  have b_enumerate : (⟨l.prog, w, K, mg, base⟩ : Mc).mg "enumerate" = none := PySem.W.mg_none_of X G z_enumerate
  have b_str : (⟨l.prog, w, K, mg, base⟩ : Mc).mg "str" = none := PySem.W.mg_none_of X G z_str
  have b_isinstance : (⟨l.prog, w, K, mg, base⟩ : Mc).mg "isinstance" = none := PySem.W.mg_none_of X G z_isinstance
  have b_max : (⟨l.prog, w, K, mg, base⟩ : Mc).mg "max" = none := PySem.W.mg_none_of X G z_max
  have rx_NoText : RaiX (⟨l.prog, w, K, mg, base⟩ : Mc) "NoText" := ⟨q_NoText, PySem.W.mg_of X G qa_NoText, rx1_NoText, rx2_NoText, qb_NoText, qt_NoText⟩
  have rx_NoGood : RaiX (⟨l.prog, w, K, mg, base⟩ : Mc) "NoGood" := ⟨q_NoGood, PySem.W.mg_of X G qa_NoGood, rx1_NoGood, rx2_NoGood, qb_NoGood, qt_NoGood⟩
  have mc_YardError : ∃ cv, (⟨l.prog, w, K, mg, base⟩ : Mc).mg "YardError" = some cv := ⟨_, PySem.W.mg_of X G qa_YardError⟩
  have xc_NoText : ExcC K q_NoText := ⟨e1_NoText, e2_NoText, qb_NoText, qd_NoText, e3_NoText, sp1, sp2, e4_NoText⟩
  have xc_NoGood : ExcC K q_NoGood := ⟨e1_NoGood, e2_NoGood, qb_NoGood, qd_NoGood, e3_NoGood, sp1, sp2, e4_NoGood⟩
  have hT : XTab (⟨l.prog, w, K, mg, base⟩ : Mc) xtab := by
    intro p hp
    unfold xtab at hp
    rcases List.mem_cons.mp hp with hp | hp
    · subst hp; exact IsX.own (M := (⟨l.prog, w, K, mg, base⟩ : Mc)) (PySem.W.mg_of X G qa_NoText) (PySem.W.mg_of X G qa_YardError) xc_NoText m_NoText_YardError qb_YardError qd_YardError qt_YardError (fun h => rfl)
    rcases List.mem_cons.mp hp with hp | hp
    · subst hp; exact IsX.own (M := (⟨l.prog, w, K, mg, base⟩ : Mc)) (PySem.W.mg_of X G qa_NoText) (PySem.W.mg_of X G qa_NoAmount) xc_NoText m_NoText_NoAmount qb_NoAmount qd_NoAmount qt_NoAmount (fun h => absurd h n_NoText_NoAmount)
    rcases List.mem_cons.mp hp with hp | hp
    · subst hp; exact IsX.own (M := (⟨l.prog, w, K, mg, base⟩ : Mc)) (PySem.W.mg_of X G qa_NoText) (PySem.W.mg_of X G qa_NoBalance) xc_NoText m_NoText_NoBalance qb_NoBalance qd_NoBalance qt_NoBalance (fun h => absurd h n_NoText_NoBalance)
    rcases List.mem_cons.mp hp with hp | hp
    · subst hp; exact IsX.own (M := (⟨l.prog, w, K, mg, base⟩ : Mc)) (PySem.W.mg_of X G qa_NoText) (PySem.W.mg_of X G qa_NoFit) xc_NoText m_NoText_NoFit qb_NoFit qd_NoFit qt_NoFit (fun h => absurd h n_NoText_NoFit)
    rcases List.mem_cons.mp hp with hp | hp
    · subst hp; exact IsX.own (M := (⟨l.prog, w, K, mg, base⟩ : Mc)) (PySem.W.mg_of X G qa_NoText) (PySem.W.mg_of X G qa_NoName) xc_NoText m_NoText_NoName qb_NoName qd_NoName qt_NoName (fun h => absurd h n_NoText_NoName)
    rcases List.mem_cons.mp hp with hp | hp
    · subst hp; exact IsX.own (M := (⟨l.prog, w, K, mg, base⟩ : Mc)) (PySem.W.mg_of X G qa_NoText) (PySem.W.mg_of X G qa_NoRatio) xc_NoText m_NoText_NoRatio qb_NoRatio qd_NoRatio qt_NoRatio (fun h => absurd h n_NoText_NoRatio)
    rcases List.mem_cons.mp hp with hp | hp
    · subst hp; exact IsX.own (M := (⟨l.prog, w, K, mg, base⟩ : Mc)) (PySem.W.mg_of X G qa_NoText) (PySem.W.mg_of X G qa_NoRow) xc_NoText m_NoText_NoRow qb_NoRow qd_NoRow qt_NoRow (fun h => absurd h n_NoText_NoRow)
    rcases List.mem_cons.mp hp with hp | hp
    · subst hp; exact IsX.own (M := (⟨l.prog, w, K, mg, base⟩ : Mc)) (PySem.W.mg_of X G qa_NoText) (PySem.W.mg_of X G qa_NoWay) xc_NoText m_NoText_NoWay qb_NoWay qd_NoWay qt_NoWay (fun h => absurd h n_NoText_NoWay)
    rcases List.mem_cons.mp hp with hp | hp
    · subst hp; exact IsX.own (M := (⟨l.prog, w, K, mg, base⟩ : Mc)) (PySem.W.mg_of X G qa_NoText) (PySem.W.mg_of X G qa_NoWeights) xc_NoText m_NoText_NoWeights qb_NoWeights qd_NoWeights qt_NoWeights (fun h => absurd h n_NoText_NoWeights)
    rcases List.mem_cons.mp hp with hp | hp
    · subst hp; exact IsX.own (M := (⟨l.prog, w, K, mg, base⟩ : Mc)) (PySem.W.mg_of X G qa_NoText) (PySem.W.mg_of X G qa_NoWork) xc_NoText m_NoText_NoWork qb_NoWork qd_NoWork qt_NoWork (fun h => absurd h n_NoText_NoWork)
    rcases List.mem_cons.mp hp with hp | hp
    · subst hp; exact IsX.own (M := (⟨l.prog, w, K, mg, base⟩ : Mc)) (PySem.W.mg_of X G qa_NoText) (PySem.W.mg_of X G qa_TooMany) xc_NoText m_NoText_TooMany qb_TooMany qd_TooMany qt_TooMany (fun h => absurd h n_NoText_TooMany)
    rcases List.mem_cons.mp hp with hp | hp
    · subst hp; exact IsX.own (M := (⟨l.prog, w, K, mg, base⟩ : Mc)) (PySem.W.mg_of X G qa_NoText) (PySem.W.mg_of X G qa_NoText) xc_NoText m_NoText_NoText qb_NoText qd_NoText qt_NoText (fun h => rfl)
    rcases List.mem_cons.mp hp with hp | hp
    · subst hp; exact IsX.own (M := (⟨l.prog, w, K, mg, base⟩ : Mc)) (PySem.W.mg_of X G qa_NoText) (PySem.W.mg_of X G qa_NoGood) xc_NoText m_NoText_NoGood qb_NoGood qd_NoGood qt_NoGood (fun h => absurd h n_NoText_NoGood)
    rcases List.mem_cons.mp hp with hp | hp
    · subst hp; exact IsX.blt (M := (⟨l.prog, w, K, mg, base⟩ : Mc)) (T := "ValueError") (PySem.W.mg_of X G qa_NoText) (PySem.W.mg_none_of X G zb_ValueError) (by decide +kernel) (by decide) xc_NoText m_NoText_ValueError (by decide +kernel) (show (PySem.fastBuiltinMro "ValueError").map (fun l => l.contains (Value.type "BaseException")) = some true by decide +kernel)
    rcases List.mem_cons.mp hp with hp | hp
    · subst hp; exact IsX.own (M := (⟨l.prog, w, K, mg, base⟩ : Mc)) (PySem.W.mg_of X G qa_NoGood) (PySem.W.mg_of X G qa_YardError) xc_NoGood m_NoGood_YardError qb_YardError qd_YardError qt_YardError (fun h => rfl)
    rcases List.mem_cons.mp hp with hp | hp
    · subst hp; exact IsX.own (M := (⟨l.prog, w, K, mg, base⟩ : Mc)) (PySem.W.mg_of X G qa_NoGood) (PySem.W.mg_of X G qa_NoAmount) xc_NoGood m_NoGood_NoAmount qb_NoAmount qd_NoAmount qt_NoAmount (fun h => absurd h n_NoGood_NoAmount)
    rcases List.mem_cons.mp hp with hp | hp
    · subst hp; exact IsX.own (M := (⟨l.prog, w, K, mg, base⟩ : Mc)) (PySem.W.mg_of X G qa_NoGood) (PySem.W.mg_of X G qa_NoBalance) xc_NoGood m_NoGood_NoBalance qb_NoBalance qd_NoBalance qt_NoBalance (fun h => absurd h n_NoGood_NoBalance)
    rcases List.mem_cons.mp hp with hp | hp
    · subst hp; exact IsX.own (M := (⟨l.prog, w, K, mg, base⟩ : Mc)) (PySem.W.mg_of X G qa_NoGood) (PySem.W.mg_of X G qa_NoFit) xc_NoGood m_NoGood_NoFit qb_NoFit qd_NoFit qt_NoFit (fun h => absurd h n_NoGood_NoFit)
    rcases List.mem_cons.mp hp with hp | hp
    · subst hp; exact IsX.own (M := (⟨l.prog, w, K, mg, base⟩ : Mc)) (PySem.W.mg_of X G qa_NoGood) (PySem.W.mg_of X G qa_NoName) xc_NoGood m_NoGood_NoName qb_NoName qd_NoName qt_NoName (fun h => absurd h n_NoGood_NoName)
    rcases List.mem_cons.mp hp with hp | hp
    · subst hp; exact IsX.own (M := (⟨l.prog, w, K, mg, base⟩ : Mc)) (PySem.W.mg_of X G qa_NoGood) (PySem.W.mg_of X G qa_NoRatio) xc_NoGood m_NoGood_NoRatio qb_NoRatio qd_NoRatio qt_NoRatio (fun h => absurd h n_NoGood_NoRatio)
    rcases List.mem_cons.mp hp with hp | hp
    · subst hp; exact IsX.own (M := (⟨l.prog, w, K, mg, base⟩ : Mc)) (PySem.W.mg_of X G qa_NoGood) (PySem.W.mg_of X G qa_NoRow) xc_NoGood m_NoGood_NoRow qb_NoRow qd_NoRow qt_NoRow (fun h => absurd h n_NoGood_NoRow)
    rcases List.mem_cons.mp hp with hp | hp
    · subst hp; exact IsX.own (M := (⟨l.prog, w, K, mg, base⟩ : Mc)) (PySem.W.mg_of X G qa_NoGood) (PySem.W.mg_of X G qa_NoWay) xc_NoGood m_NoGood_NoWay qb_NoWay qd_NoWay qt_NoWay (fun h => absurd h n_NoGood_NoWay)
    rcases List.mem_cons.mp hp with hp | hp
    · subst hp; exact IsX.own (M := (⟨l.prog, w, K, mg, base⟩ : Mc)) (PySem.W.mg_of X G qa_NoGood) (PySem.W.mg_of X G qa_NoWeights) xc_NoGood m_NoGood_NoWeights qb_NoWeights qd_NoWeights qt_NoWeights (fun h => absurd h n_NoGood_NoWeights)
    rcases List.mem_cons.mp hp with hp | hp
    · subst hp; exact IsX.own (M := (⟨l.prog, w, K, mg, base⟩ : Mc)) (PySem.W.mg_of X G qa_NoGood) (PySem.W.mg_of X G qa_NoWork) xc_NoGood m_NoGood_NoWork qb_NoWork qd_NoWork qt_NoWork (fun h => absurd h n_NoGood_NoWork)
    rcases List.mem_cons.mp hp with hp | hp
    · subst hp; exact IsX.own (M := (⟨l.prog, w, K, mg, base⟩ : Mc)) (PySem.W.mg_of X G qa_NoGood) (PySem.W.mg_of X G qa_TooMany) xc_NoGood m_NoGood_TooMany qb_TooMany qd_TooMany qt_TooMany (fun h => absurd h n_NoGood_TooMany)
    rcases List.mem_cons.mp hp with hp | hp
    · subst hp; exact IsX.own (M := (⟨l.prog, w, K, mg, base⟩ : Mc)) (PySem.W.mg_of X G qa_NoGood) (PySem.W.mg_of X G qa_NoText) xc_NoGood m_NoGood_NoText qb_NoText qd_NoText qt_NoText (fun h => absurd h n_NoGood_NoText)
    rcases List.mem_cons.mp hp with hp | hp
    · subst hp; exact IsX.own (M := (⟨l.prog, w, K, mg, base⟩ : Mc)) (PySem.W.mg_of X G qa_NoGood) (PySem.W.mg_of X G qa_NoGood) xc_NoGood m_NoGood_NoGood qb_NoGood qd_NoGood qt_NoGood (fun h => rfl)
    rcases List.mem_cons.mp hp with hp | hp
    · subst hp; exact IsX.blt (M := (⟨l.prog, w, K, mg, base⟩ : Mc)) (T := "ValueError") (PySem.W.mg_of X G qa_NoGood) (PySem.W.mg_none_of X G zb_ValueError) (by decide +kernel) (by decide) xc_NoGood m_NoGood_ValueError (by decide +kernel) (show (PySem.fastBuiltinMro "ValueError").map (fun l => l.contains (Value.type "BaseException")) = some true by decide +kernel)
    cases hp
  have g_SMALL : ∃ k, (⟨l.prog, w, K, mg, base⟩ : Mc).mg "SMALL" = some (.str ("abcdefghijklmnopqrstuvwxyz" : Str) k) := ⟨_, PySem.W.mg_of X G zg_SMALL⟩
  have g_MOST_FIGURES : ∃ k, (⟨l.prog, w, K, mg, base⟩ : Mc).mg "MOST_FIGURES" = some (.int (30 : Int) k) := ⟨_, PySem.W.mg_of X G zg_MOST_FIGURES⟩
  have g_FIGURES : ∃ k, (⟨l.prog, w, K, mg, base⟩ : Mc).mg "FIGURES" = some (.str ("0123456789" : Str) k) := ⟨_, PySem.W.mg_of X G zg_FIGURES⟩
  have h_is_name := w_is_name (M := ⟨l.prog, w, K, mg, base⟩) b_len g_SMALL (FAt.m X G ⟨a0, ⟨_, _, _, _, _, _, _, _, _, l0, c0⟩, k0⟩ fun _ _ _ _ _ _ us hl => match us, hl with | [_], _ => rfl)
  have h_is_number := w_is_number (M := ⟨l.prog, w, K, mg, base⟩) b_len g_MOST_FIGURES g_FIGURES (FAt.m X G ⟨a1, ⟨_, _, _, _, _, _, _, _, _, l1, c1⟩, k1⟩ fun _ _ _ _ _ _ us hl => match us, hl with | [_], _ => rfl)
  have h_read_pieces := w_read_pieces (M := ⟨l.prog, w, K, mg, base⟩) b_len b_range b_int rx_NoText h_is_number h_is_name (FAt.m X G ⟨a2, ⟨_, _, _, _, _, _, _, _, _, l2, c2⟩, k2⟩ fun _ _ _ _ _ _ us hl => match us, hl with | [_], _ => rfl)
  have h_take_once := w_take_once (M := ⟨l.prog, w, K, mg, base⟩) b_len b_set rx_NoGood (FAt.m X G ⟨a3, ⟨_, _, _, _, _, _, _, _, _, l3, c3⟩, k3⟩ fun _ _ _ _ _ _ us hl => match us, hl with | [_], _ => rfl)
  have h_read_work := w_read_work (M := ⟨l.prog, w, K, mg, base⟩) rx_NoText h_is_name h_read_pieces h_take_once (FAt.m X G ⟨a4, ⟨_, _, _, _, _, _, _, _, _, l4, c4⟩, k4⟩ fun _ _ _ _ _ _ us hl => match us, hl with | [_], _ => rfl)
  have h__law_cell := w__law_cell (M := ⟨l.prog, w, K, mg, base⟩) b_len (FAt.m X G ⟨a5, ⟨_, _, _, _, _, _, _, _, _, l5, c5⟩, k5⟩ fun _ _ _ _ _ _ us hl => match us, hl with | [_, _], _ => rfl)
  have h__law_next := w__law_next (M := ⟨l.prog, w, K, mg, base⟩)  (FAt.m X G ⟨a6, ⟨_, _, _, _, _, _, _, _, _, l6, c6⟩, k6⟩ fun _ _ _ _ _ _ us hl => match us, hl with | [_, _], _ => rfl)
  have h__law_words := w__law_words (M := ⟨l.prog, w, K, mg, base⟩) b_range b_min (FAt.m X G ⟨a7, ⟨_, _, _, _, _, _, _, _, _, l7, c7⟩, k7⟩ fun _ _ _ _ _ _ us hl => match us, hl with | [_, _], _ => rfl)
  have h__law_work := w__law_work (M := ⟨l.prog, w, K, mg, base⟩) b_enumerate h__law_next (FAt.m X G ⟨a8, ⟨_, _, _, _, _, _, _, _, _, l8, c8⟩, k8⟩ fun _ _ _ _ _ _ us hl => match us, hl with | [_, _, _, _], _ => rfl)
  have h__law_pieces := w__law_pieces (M := ⟨l.prog, w, K, mg, base⟩) b_str (FAt.m X G ⟨a9, ⟨_, _, _, _, _, _, _, _, _, l9, c9⟩, k9⟩ fun _ _ _ _ _ _ us hl => match us, hl with | [_], _ => rfl)
  have h__law_written := w__law_written (M := ⟨l.prog, w, K, mg, base⟩) h__law_pieces (FAt.m X G ⟨a10, ⟨_, _, _, _, _, _, _, _, _, l10, c10⟩, k10⟩ fun _ _ _ _ _ _ us hl => match us, hl with | [_], _ => rfl)
  have h__law_name := w__law_name (M := ⟨l.prog, w, K, mg, base⟩) b_len (FAt.m X G ⟨a11, ⟨_, _, _, _, _, _, _, _, _, l11, c11⟩, k11⟩ fun _ _ _ _ _ _ us hl => match us, hl with | [_], _ => rfl)
  have h__law_listed := w__law_listed (M := ⟨l.prog, w, K, mg, base⟩) b_len b_range b_int h__law_name (FAt.m X G ⟨a12, ⟨_, _, _, _, _, _, _, _, _, l12, c12⟩, k12⟩ fun _ _ _ _ _ _ us hl => match us, hl with | [_], _ => rfl)
  have h__law_due := w__law_due (M := ⟨l.prog, w, K, mg, base⟩) b_len b_range b_set h__law_name h__law_listed (FAt.m X G ⟨a13, ⟨_, _, _, _, _, _, _, _, _, l13, c13⟩, k13⟩ fun _ _ _ _ _ _ us hl => match us, hl with | [_], _ => rfl)
  have h__law_told := w__law_told (M := ⟨l.prog, w, K, mg, base⟩) b_isinstance b_int hT mc_YardError h_read_work (FAt.m X G ⟨a14, ⟨_, _, _, _, _, _, _, _, _, l14, c14⟩, k14⟩ fun _ _ _ _ _ _ us hl => match us, hl with | [_], _ => rfl)
  have h__law_changed := w__law_changed (M := ⟨l.prog, w, K, mg, base⟩) b_len b_max (FAt.m X G ⟨a15, ⟨_, _, _, _, _, _, _, _, _, l15, c15⟩, k15⟩ fun _ _ _ _ _ _ us hl => match us, hl with | [_, _], _ => rfl)
  have h__law_odd := w__law_odd (M := ⟨l.prog, w, K, mg, base⟩)  (FAt.m X G ⟨a16, ⟨_, _, _, _, _, _, _, _, _, l16, c16⟩, k16⟩ fun _ _ _ _ _ _ us hl => match us, hl with | [_], _ => rfl)
  exact w_law (M := ⟨l.prog, w, K, mg, base⟩) b_len b_range h__law_cell h__law_next h__law_words h__law_work h__law_written h__law_changed h__law_odd h__law_told h__law_due (fun_mk l17 c17 k17)
theorem walkE {l : PySem.W.OpenLaw} {q : Program} {loose : List Str} {XP : (Str → Option Value) → Heap → Prop} {YP : World → Heap → Prop} {d : DefRec} {K : Params → PySem.W.Frag} (hn : l.most = some 63) (hdf : d.params.defaults = [])
    (hY : ∀ (w : World) (h : Heap), YP w h → (K w.params).In h)
    (F : ∀ (w : World) (mg : Str → Option Value) (fa : Addr) (h : Heap), (K w.params).In h → h.Ns mainGlobals mg → mg d.name = some (.ref fa) →
      ∃ fd : FuncData, (∀ (s : Shared) (u : Value), BindsTo s fd ⟨[u], []⟩ [("_law_script", u)]) ∧ ∀ base : Heap, (K w.params).In base → base.Ns mainGlobals mg → FnOk l.prog w (K w.params) mg base (L2.CX l.prog w) 5 fa fd ["_law_script"] (spV ⟨l.prog, w, K w.params, mg, base⟩ (fun _ t => [rL (K w.params) rI t.1]) (fun _ => rB) m_law)) :
    PySem.W.WalkO q loose XP YP l.row.toRowW d [] (fun f vs => PySem.call f vs) :=
  walk_law (k := 5) (fd := fun _ => default) hn hdf ⟨rfl, by decide, by decide⟩ hY F k_law
end Y
open PySem PySem.W PyProof.Rows in
set_option maxRecDepth 100000 in
set_option maxHeartbeats 0 in
theorem PySem.Challenge.cw_modeyard_k40_texts_read_holds : PySem.Challenge.rw_modeyard_k40_texts_read.Holds := by
  w_on; o_law; k_head; (case hw => w_witness2)
  k_fill
  refine Y.walkE (l := PySem.Challenge.rw_modeyard_k40_texts_read) rfl rfl (fun w h Y => PySem.W.kIn_of Y) ?F
  case F =>
    intro w mg fa h KX G hmg
    refine' Y.all_mk KX G hmg ?a0 ?l0 ?c0 ?k0 ?a1 ?l1 ?c1 ?k1 ?a2 ?l2 ?c2 ?k2 ?a3 ?l3 ?c3 ?k3 ?a4 ?l4 ?c4 ?k4 ?a5 ?l5 ?c5 ?k5 ?a6 ?l6 ?c6 ?k6 ?a7 ?l7 ?c7 ?k7 ?a8 ?l8 ?c8 ?k8 ?a9 ?l9 ?c9 ?k9 ?a10 ?l10 ?c10 ?k10 ?a11 ?l11 ?c11 ?k11 ?a12 ?l12 ?c12 ?k12 ?a13 ?l13 ?c13 ?k13 ?a14 ?l14 ?c14 ?k14 ?a15 ?l15 ?c15 ?k15 ?a16 ?l16 ?c16 ?k16 ?a17 ?l17 ?c17 ?k17 ?qa_NoText ?qa_NoGood ?qa_YardError ?qa_NoAmount ?qa_NoBalance ?qa_NoFit ?qa_NoName ?qa_NoRatio ?qa_NoRow ?qa_NoWay ?qa_NoWeights ?qa_NoWork ?qa_TooMany ?rx1_NoText ?rx2_NoText ?rx1_NoGood ?rx2_NoGood ?qb_NoText ?qt_NoText ?qb_NoGood ?qt_NoGood ?qb_YardError ?qt_YardError ?qb_NoAmount ?qt_NoAmount ?qb_NoBalance ?qt_NoBalance ?qb_NoFit ?qt_NoFit ?qb_NoName ?qt_NoName ?qb_NoRatio ?qt_NoRatio ?qb_NoRow ?qt_NoRow ?qb_NoWay ?qt_NoWay ?qb_NoWeights ?qt_NoWeights ?qb_NoWork ?qt_NoWork ?qb_TooMany ?qt_TooMany ?qd_YardError ?qd_NoAmount ?qd_NoBalance ?qd_NoFit ?qd_NoName ?qd_NoRatio ?qd_NoRow ?qd_NoWay ?qd_NoWeights ?qd_NoWork ?qd_TooMany ?qd_NoText ?qd_NoGood ?sp1 ?sp2 ?e1_NoText ?e2_NoText ?e3_NoText ?e4_NoText ?e1_NoGood ?e2_NoGood ?e3_NoGood ?e4_NoGood ?m_NoText_YardError ?m_NoText_NoAmount ?n_NoText_NoAmount ?m_NoText_NoBalance ?n_NoText_NoBalance ?m_NoText_NoFit ?n_NoText_NoFit ?m_NoText_NoName ?n_NoText_NoName ?m_NoText_NoRatio ?n_NoText_NoRatio ?m_NoText_NoRow ?n_NoText_NoRow ?m_NoText_NoWay ?n_NoText_NoWay ?m_NoText_NoWeights ?n_NoText_NoWeights ?m_NoText_NoWork ?n_NoText_NoWork ?m_NoText_TooMany ?n_NoText_TooMany ?m_NoText_NoText ?m_NoText_NoGood ?n_NoText_NoGood ?m_NoText_ValueError ?m_NoGood_YardError ?m_NoGood_NoAmount ?n_NoGood_NoAmount ?m_NoGood_NoBalance ?n_NoGood_NoBalance ?m_NoGood_NoFit ?n_NoGood_NoFit ?m_NoGood_NoName ?n_NoGood_NoName ?m_NoGood_NoRatio ?n_NoGood_NoRatio ?m_NoGood_NoRow ?n_NoGood_NoRow ?m_NoGood_NoWay ?n_NoGood_NoWay ?m_NoGood_NoWeights ?n_NoGood_NoWeights ?m_NoGood_NoWork ?n_NoGood_NoWork ?m_NoGood_TooMany ?n_NoGood_TooMany ?m_NoGood_NoText ?n_NoGood_NoText ?m_NoGood_NoGood ?m_NoGood_ValueError ?zb_ValueError ?zg_SMALL ?zg_MOST_FIGURES ?zg_FIGURES ?z_len ?z_range ?z_int ?z_set ?z_min ?z_enumerate ?z_str ?z_isinstance ?z_max
    (case a0 => k_is)
    (case l0 => k_is)
    (case c0 => k_is)
    (case k0 => k_is)
    (case a1 => k_is)
    (case l1 => k_is)
    (case c1 => k_is)
    (case k1 => k_is)
    (case a2 => k_is)
    (case l2 => k_is)
    (case c2 => k_is)
    (case k2 => k_is)
    (case a3 => k_is)
    (case l3 => k_is)
    (case c3 => k_is)
    (case k3 => k_is)
    (case a4 => k_is)
    (case l4 => k_is)
    (case c4 => k_is)
    (case k4 => k_is)
    (case a5 => k_is)
    (case l5 => k_is)
    (case c5 => k_is)
    (case k5 => k_is)
    (case a6 => k_is)
    (case l6 => k_is)
    (case c6 => k_is)
    (case k6 => k_is)
    (case a7 => k_is)
    (case l7 => k_is)
    (case c7 => k_is)
    (case k7 => k_is)
    (case a8 => k_is)
    (case l8 => k_is)
    (case c8 => k_is)
    (case k8 => k_is)
    (case a9 => k_is)
    (case l9 => k_is)
    (case c9 => k_is)
    (case k9 => k_is)
    (case a10 => k_is)
    (case l10 => k_is)
    (case c10 => k_is)
    (case k10 => k_is)
    (case a11 => k_is)
    (case l11 => k_is)
    (case c11 => k_is)
    (case k11 => k_is)
    (case a12 => k_is)
    (case l12 => k_is)
    (case c12 => k_is)
    (case k12 => k_is)
    (case a13 => k_is)
    (case l13 => k_is)
    (case c13 => k_is)
    (case k13 => k_is)
    (case a14 => k_is)
    (case l14 => k_is)
    (case c14 => k_is)
    (case k14 => k_is)
    (case a15 => k_is)
    (case l15 => k_is)
    (case c15 => k_is)
    (case k15 => k_is)
    (case a16 => k_is)
    (case l16 => k_is)
    (case c16 => k_is)
    (case k16 => k_is)
    (case a17 => k_is)
    (case l17 => k_is)
    (case c17 => k_is)
    (case k17 => k_is)
    (case qa_NoText => k_is)
    (case qa_NoGood => k_is)
    (case qa_YardError => k_is)
    (case qa_NoAmount => k_is)
    (case qa_NoBalance => k_is)
    (case qa_NoFit => k_is)
    (case qa_NoName => k_is)
    (case qa_NoRatio => k_is)
    (case qa_NoRow => k_is)
    (case qa_NoWay => k_is)
    (case qa_NoWeights => k_is)
    (case qa_NoWork => k_is)
    (case qa_TooMany => k_is)
    (case rx1_NoText => k_exc)
    (case rx2_NoText => k_is)
    (case rx1_NoGood => k_exc)
    (case rx2_NoGood => k_is)
    (case qb_NoText => k_is)
    (case qt_NoText => k_is)
    (case qb_NoGood => k_is)
    (case qt_NoGood => k_is)
    (case qb_YardError => k_is)
    (case qt_YardError => k_is)
    (case qb_NoAmount => k_is)
    (case qt_NoAmount => k_is)
    (case qb_NoBalance => k_is)
    (case qt_NoBalance => k_is)
    (case qb_NoFit => k_is)
    (case qt_NoFit => k_is)
    (case qb_NoName => k_is)
    (case qt_NoName => k_is)
    (case qb_NoRatio => k_is)
    (case qt_NoRatio => k_is)
    (case qb_NoRow => k_is)
    (case qt_NoRow => k_is)
    (case qb_NoWay => k_is)
    (case qt_NoWay => k_is)
    (case qb_NoWeights => k_is)
    (case qt_NoWeights => k_is)
    (case qb_NoWork => k_is)
    (case qt_NoWork => k_is)
    (case qb_TooMany => k_is)
    (case qt_TooMany => k_is)
    (case qd_YardError => k_is)
    (case qd_NoAmount => k_is)
    (case qd_NoBalance => k_is)
    (case qd_NoFit => k_is)
    (case qd_NoName => k_is)
    (case qd_NoRatio => k_is)
    (case qd_NoRow => k_is)
    (case qd_NoWay => k_is)
    (case qd_NoWeights => k_is)
    (case qd_NoWork => k_is)
    (case qd_TooMany => k_is)
    (case qd_NoText => k_is)
    (case qd_NoGood => k_is)
    (case sp1 => k_is)
    (case sp2 => k_is)
    (case e1_NoText => k_is)
    (case e2_NoText => k_is)
    (case e3_NoText => k_is)
    (case e4_NoText => k_is)
    (case e1_NoGood => k_is)
    (case e2_NoGood => k_is)
    (case e3_NoGood => k_is)
    (case e4_NoGood => k_is)
    (case m_NoText_YardError => k_is)
    (case m_NoText_NoAmount => k_is)
    (case n_NoText_NoAmount => decide)
    (case m_NoText_NoBalance => k_is)
    (case n_NoText_NoBalance => decide)
    (case m_NoText_NoFit => k_is)
    (case n_NoText_NoFit => decide)
    (case m_NoText_NoName => k_is)
    (case n_NoText_NoName => decide)
    (case m_NoText_NoRatio => k_is)
    (case n_NoText_NoRatio => decide)
    (case m_NoText_NoRow => k_is)
    (case n_NoText_NoRow => decide)
    (case m_NoText_NoWay => k_is)
    (case n_NoText_NoWay => decide)
    (case m_NoText_NoWeights => k_is)
    (case n_NoText_NoWeights => decide)
    (case m_NoText_NoWork => k_is)
    (case n_NoText_NoWork => decide)
    (case m_NoText_TooMany => k_is)
    (case n_NoText_TooMany => decide)
    (case m_NoText_NoText => k_is)
    (case m_NoText_NoGood => k_is)
    (case n_NoText_NoGood => decide)
    (case m_NoText_ValueError => k_is)
    (case m_NoGood_YardError => k_is)
    (case m_NoGood_NoAmount => k_is)
    (case n_NoGood_NoAmount => decide)
    (case m_NoGood_NoBalance => k_is)
    (case n_NoGood_NoBalance => decide)
    (case m_NoGood_NoFit => k_is)
    (case n_NoGood_NoFit => decide)
    (case m_NoGood_NoName => k_is)
    (case n_NoGood_NoName => decide)
    (case m_NoGood_NoRatio => k_is)
    (case n_NoGood_NoRatio => decide)
    (case m_NoGood_NoRow => k_is)
    (case n_NoGood_NoRow => decide)
    (case m_NoGood_NoWay => k_is)
    (case n_NoGood_NoWay => decide)
    (case m_NoGood_NoWeights => k_is)
    (case n_NoGood_NoWeights => decide)
    (case m_NoGood_NoWork => k_is)
    (case n_NoGood_NoWork => decide)
    (case m_NoGood_TooMany => k_is)
    (case n_NoGood_TooMany => decide)
    (case m_NoGood_NoText => k_is)
    (case n_NoGood_NoText => decide)
    (case m_NoGood_NoGood => k_is)
    (case m_NoGood_ValueError => k_is)
    (case zb_ValueError => k_is)
    (case zg_SMALL => k_is)
    (case zg_MOST_FIGURES => k_is)
    (case zg_FIGURES => k_is)
    (case z_len => k_is)
    (case z_range => k_is)
    (case z_int => k_is)
    (case z_set => k_is)
    (case z_min => k_is)
    (case z_enumerate => k_is)
    (case z_str => k_is)
    (case z_isinstance => k_is)
    (case z_max => k_is)

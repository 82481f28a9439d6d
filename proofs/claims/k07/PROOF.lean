import PyProof.Rows.All
import Wide.All
import OpenK.AllK
import Wide.FinOn
import HandS.ForMost
import HandS.ForExc
import HandS.Wide
import HandS.IsInst
import HandS.Steps
import HandS.EndBits
import HandS.TupLe
import HandS.Style
import HandS.Text
import HandS.ExcIs
import HandS.ExcOwn
import HandS.TryOnly
import HandS.TryMany
import HandS.WordsExc
import HandS.Dict
import HandS.Small
import KE.SortData
import HandS.More
import KE.DataMinMax
import HandS.SortKw
import KE.GoesMore
import KE.GoesEnum
import HandS.WideBits
import HandS.Deep
import HandS.HotCalls
import HandS.ExcInit
import HandS.ExcField
import KE.KExcIs
import KE.KDictKeyed
import PySem.Challenge.RW_modeyard_k07_yards_told
set_option Elab.async false
set_option linter.all false
set_option maxRecDepth 100000
set_option maxHeartbeats 1000000
/-! Y1: an own layer over HandS: the W monad, slots, private heaps, typed judgements -/
namespace Y
open PySem PySem.Spec L2

/-! ### W: predicate transformers with exceptions -/
structure Exn where
  cls : Str
  pay : Option Str
structure W (α : Type) where
  wp : (α → Prop) → (Exn → Prop) → Prop
  mono : ∀ {P P' : α → Prop} {E E' : Exn → Prop}, (∀ a, P a → P' a) → (∀ e, E e → E' e) → wp P E → wp P' E'
namespace W
variable {α β σ : Type}
def ret (a : α) : W α := ⟨fun P _ => P a, fun h _ x => h _ x⟩
def bind (m : W α) (f : α → W β) : W β := ⟨fun P E => m.wp (fun a => (f a).wp P E) E, fun hp he x => m.mono (fun a y => (f a).mono hp he y) he x⟩
instance : Monad W where
  pure := ret
  bind := bind
def bad : W α := ⟨fun _ _ => False, fun _ _ x => x⟩
/-- a condition that must hold -/
def req (c : Prop) (m : W α) : W α := ⟨fun P E => c ∧ m.wp P E, fun hp he x => ⟨x.1, m.mono hp he x.2⟩⟩
def exc (e : Exn) : W α := ⟨fun _ E => E e, fun _ he x => he _ x⟩
/-- some value of which p holds -/
def any (p : α → Prop) : W α := ⟨fun P _ => ∀ a, p a → P a, fun hp _ x a h => hp a (x a h)⟩
def foldM (f : σ → α → W σ) : σ → List α → W σ
  | s, [] => ret s
  | s, x :: xs => bind (f s x) fun s' => foldM f s' xs
def mapM (f : α → W β) : List α → W (List β)
  | [] => ret []
  | x :: xs => bind (f x) fun y => bind (mapM f xs) fun ys => ret (y :: ys)
/-- a while: by an invariant and a measure -/
def whileM (c : σ → W Bool) (b : σ → W σ) (s : σ) : W σ :=
  ⟨fun P E => ∃ (I : σ → Prop) (μ : σ → Nat), I s ∧ ∀ s, I s → (c s).wp (fun t => if t = true then (b s).wp (fun s' => I s' ∧ μ s' < μ s) E else P s) E,
   fun hp he ⟨I, μ, h0, h⟩ => ⟨I, μ, h0, fun s hs => (c s).mono (fun t x => by
      cases t with
      | true => rw [if_pos rfl] at x ⊢; exact (b s).mono (fun _ y => y) he x
      | false => rw [if_neg Bool.false_ne_true] at x ⊢; exact hp _ x) he (h s hs)⟩⟩
/-- m promises more than m' -/
def Le (m m' : W α) : Prop := ∀ P E, m.wp P E → m'.wp P E
theorem ext {m m' : W α} (h : ∀ P E, m.wp P E ↔ m'.wp P E) : m = m' := by
  obtain ⟨w, mo⟩ := m
  obtain ⟨w', mo'⟩ := m'
  have e : w = w' := by funext P E; exact propext (h P E)
  subst e
  rfl
theorem wp_pure (a : α) (P : α → Prop) (E) : (pure a : W α).wp P E = P a := rfl
theorem wp_bind (m : W α) (f : α → W β) (P E) : (m >>= f).wp P E = m.wp (fun a => (f a).wp P E) E := rfl
theorem wp_req (c : Prop) (m : W α) (P E) : (req c m).wp P E = (c ∧ m.wp P E) := rfl
theorem wp_ite (c : Prop) [Decidable c] (m n : W α) (P E) : (if c then m else n).wp P E = if c then m.wp P E else n.wp P E := by split <;> rfl
end W

/-! ### predicates of values, slots -/
structure Rp where
  p : Hp → V → Prop
  mono : ∀ {F F' : Hp} {v : V}, Same F F' → p F v → p F' v
/-- what a private heap holds: F, the private heap, the value -/
structure Op where
  p : Hp → Hp → V → Prop
  mono : ∀ {F F' G : Hp} {v : V}, Same F F' → p F G v → p F' G v
inductive Slot where
  | no
  | val (R : Rp)
  | own (O : Op)
def SlotOk (F G : Hp) : Slot → Option (Option V) → Prop
  | .no, _ => True
  | .val R, o => ∃ v, o = some (some v) ∧ R.p F v
  | .own O, o => ∃ v, o = some (some v) ∧ O.p F G v
theorem SlotOk.mono {F F' G : Hp} {S : Slot} {o : Option (Option V)} (h : Same F F') (x : SlotOk F G S o) : SlotOk F' G S o := by
  cases S with
  | no => trivial
  | val R => obtain ⟨v, e, r⟩ := x; exact ⟨v, e, R.mono h r⟩
  | own O => obtain ⟨v, e, r⟩ := x; exact ⟨v, e, O.mono h r⟩
def Dis (F G : Hp) : Prop := ∀ a, F a = none ∨ G a = none
def emp : Hp := fun _ => none
theorem Dis.emp {F : Hp} : Dis F Y.emp := fun _ => .inr rfl
theorem Dis.symm {F G : Hp} (h : Dis F G) : Dis G F := fun a => (h a).symm
def one (a : Addr) (o : HO) : Hp := fun b => if b = a then some o else none
theorem one_same {a : Addr} {o : HO} : one a o a = some o := if_pos rfl
theorem one_ne {a b : Addr} {o : HO} (h : b ≠ a) : one a o b = none := if_neg h
def uni (F G : Hp) : Hp := fun a => match F a with | some o => some o | none => G a
theorem uni_l {F G : Hp} : Same F (uni F G) := fun a o e => by unfold uni; rw [e]
theorem uni_r {F G : Hp} (d : Dis F G) : Same G (uni F G) := fun a o e => by
  unfold uni
  rcases d a with q | q
  · rw [q]; exact e
  · rw [q] at e; cases e
theorem uni_none {F G : Hp} {a : Addr} (h : F a = none) (h' : G a = none) : uni F G a = none := by unfold uni; rw [h]; exact h'
theorem of_uni {F G : Hp} {a : Addr} {o : HO} (h : uni F G a = some o) : F a = some o ∨ (F a = none ∧ G a = some o) := by
  unfold uni at h
  cases e : F a with
  | none => rw [e] at h; exact .inr ⟨rfl, h⟩
  | some u => rw [e] at h; exact .inl h
def setG (g : Nat → Hp) (i : Nat) (G : Hp) : Nat → Hp := fun j => if j = i then G else g j
theorem setG_same {g : Nat → Hp} {i : Nat} {G : Hp} : setG g i G i = G := if_pos rfl
theorem setG_ne {g : Nat → Hp} {i j : Nat} {G : Hp} (h : j ≠ i) : setG g i G j = g j := if_neg h
def dU (g : Nat → Hp) (a : Addr) : Prop := ∃ i, g i a ≠ none

/-- the module, as it stands behind the top -/
structure Mc where
  P : Program
  w : World
  K : PySem.W.Frag
  mg : Str → Option Value
  base : Heap
/-- the static context of a def's body -/
structure Cc extends Mc where
  N : List Str
  sc : Scope
  k : Nat
  fr : Addr → Prop
  fnc : Str → Bool
  cm : Bool
  /-- the exception that a suite holds -/
  ex : Option (Addr × Value × Option Addr)
/-- room for calls, whatever is handled -/
structure RoomS (k : Nat) (A : Around) : Prop where
  dp : A.depth + 3 * k + 5 < recursionLimit
  un : A.units + 16 * k + 200 < cLine
theorem RoomS.of {k : Nat} {A : Around} (r : Room k A) : RoomS k A := ⟨r.dp, r.un⟩
structure Cc.Ok (C : Cc) (X : Cx) : Prop where
  prog : X.prog = C.P
  w : X.w = C.w
  K : X.K = C.K
  mg : X.mg = C.mg
  base : X.base = C.base
  N : X.N = C.N
  sc : X.env.scope = C.sc
  nd : C.N.Nodup
  calm : X.calm = C.cm
  room : C.cm = true → Room C.k X.A
  units : X.A.units + 64 < cLine
  exc : ∀ a cls d, C.ex = some (a, cls, d) → RoomS C.k X.A ∧ ∃ (Y : Cx) (pn : List (Addr × Obj)) (oe : Obj), X = Y.suite a ((a, oe) :: pn) ∧ Zc cls d oe ∧ ∃ vs, oe.data = .fields vs
  fnc : ∀ x, C.fnc x = true → X.fn x = true
theorem Cc.Ok.ndX {C : Cc} {X : Cx} (h : C.Ok X) : X.N.Nodup := by rw [h.N]; exact h.nd

structure St0 (F H : Hp) (Γ : List Slot) (σ : St) (g : Nat → Hp) : Prop where
  len : Γ.length = σ.length
  slot : ∀ i S, Γ[i]? = some S → SlotOk F (g i) S (σ[i]?)
  sF : Same F H
  sG : ∀ i, Same (g i) H
  dF : ∀ i, Dis F (g i)
  dG : ∀ i j, i ≠ j → Dis (g i) (g j)
structure StOk (C : Cc) (F H : Hp) (Γ : List Slot) (σ : St) (g : Nat → Hp) : Prop where
  len : Γ.length = σ.length
  slot : ∀ i S, Γ[i]? = some S → SlotOk F (g i) S (σ[i]?)
  sF : Same F H
  sG : ∀ i, Same (g i) H
  dF : ∀ i, Dis F (g i)
  dG : ∀ i j, i ≠ j → Dis (g i) (g j)
  fr : ∀ a, H a = none → C.fr a
theorem StOk.st0 {C : Cc} {F H : Hp} {Γ : List Slot} {σ : St} {g : Nat → Hp} (s : StOk C F H Γ σ g) : St0 F H Γ σ g := ⟨s.len, s.slot, s.sF, s.sG, s.dF, s.dG⟩
theorem St0.ok {C : Cc} {F H : Hp} {Γ : List Slot} {σ : St} {g : Nat → Hp} (s : St0 F H Γ σ g) (h : ∀ a, H a = none → C.fr a) : StOk C F H Γ σ g := ⟨s.len, s.slot, s.sF, s.sG, s.dF, s.dG, h⟩

/-- from one point of a run to a later one: F grows, what is not owned stays -/
structure Fr (F H : Hp) (U : Addr → Prop) (F' H' : Hp) (U' : Addr → Prop) : Prop where
  sF : Same F F'
  fF : ∀ b, F' b ≠ none → F b ≠ none ∨ H b = none ∨ U b
  keep : ∀ b o, H b = some o → ¬ U b → H' b = some o
  dom : ∀ b, H b ≠ none → H' b ≠ none
  gs : ∀ b, U' b → U b ∨ H b = none
theorem Fr.refl {F H : Hp} {U : Addr → Prop} : Fr F H U F H U := ⟨Same.refl _, fun _ h => .inl h, fun _ _ h _ => h, fun _ h => h, fun _ h => .inl h⟩
theorem Fr.trans {F H F' H' F'' H'' : Hp} {U U' U'' : Addr → Prop} (a : Fr F H U F' H' U') (b : Fr F' H' U' F'' H'' U'') : Fr F H U F'' H'' U'' where
  sF := a.sF.trans b.sF
  fF := fun c h => by
    rcases b.fF c h with q | q | q
    · exact a.fF c q
    · refine .inr (.inl ?_)
      cases e : H c with
      | none => rfl
      | some o => exact absurd q (a.dom c (by rw [e]; simp))
    · rcases a.gs c q with z | z
      · exact .inr (.inr z)
      · exact .inr (.inl z)
  keep := fun c o h n => b.keep c o (a.keep c o h n) fun z => by
    rcases a.gs c z with q | q
    · exact n q
    · rw [h] at q; cases q
  dom := fun c h => b.dom c (a.dom c h)
  gs := fun c h => by
    rcases b.gs c h with q | q
    · exact a.gs c q
    · refine .inr ?_
      cases e : H c with
      | none => rfl
      | some o => exact absurd q (a.dom c (by rw [e]; simp))
/-- the owned set may be said smaller at the end -/
theorem Fr.less {F H F' H' : Hp} {U U' U'' : Addr → Prop} (a : Fr F H U F' H' U') (h : ∀ b, U'' b → U' b) : Fr F H U F' H' U'' :=
  ⟨a.sF, a.fF, a.keep, a.dom, fun b z => a.gs b (h b z)⟩

section
variable {C : Cc} {F H F' H' : Hp} {Γ Γ' : List Slot} {σ : St} {g : Nat → Hp}
theorem StOk.get_val (s : StOk C F H Γ σ g) {i : Nat} {R : Rp} (h : Γ[i]? = some (.val R)) : ∃ v, σ[i]? = some (some v) ∧ R.p F v := s.slot i _ h
theorem StOk.get_own (s : StOk C F H Γ σ g) {i : Nat} {O : Op} (h : Γ[i]? = some (.own O)) : ∃ v, σ[i]? = some (some v) ∧ O.p F (g i) v := s.slot i _ h
theorem StOk.set_val (s : StOk C F H Γ σ g) {i : Nat} {R : Rp} {v : V} (r : R.p F v) : StOk C F H (Γ.set i (.val R)) (σ.set i (some v)) g where
  len := by simp [s.len]
  slot := fun j S e => by
    by_cases hj : i = j
    · subst hj
      have hl : i < Γ.length := by
        have q := (List.getElem?_eq_some_iff.mp e).1
        simpa using q
      rw [List.getElem?_set_self hl] at e
      cases e
      rw [List.getElem?_set_self (by rw [← s.len]; exact hl)]
      exact ⟨v, rfl, r⟩
    · rw [List.getElem?_set_ne hj] at e ⊢
      exact s.slot j S e
  sF := s.sF
  sG := s.sG
  dF := s.dF
  dG := s.dG
  fr := s.fr
theorem StOk.set_own (s : StOk C F H Γ σ g) {i : Nat} {O : Op} {G : Hp} {v : V} (r : O.p F G v) (sG : Same G H) (dF : Dis F G) (dG : ∀ j, j ≠ i → Dis (g j) G) : StOk C F H (Γ.set i (.own O)) (σ.set i (some v)) (setG g i G) where
  len := by simp [s.len]
  slot := fun j S e => by
    by_cases hj : i = j
    · subst hj
      have hl : i < Γ.length := by
        have q := (List.getElem?_eq_some_iff.mp e).1
        simpa using q
      rw [List.getElem?_set_self hl] at e
      cases e
      rw [List.getElem?_set_self (by rw [← s.len]; exact hl), setG_same]
      exact ⟨v, rfl, r⟩
    · rw [List.getElem?_set_ne hj] at e ⊢
      rw [setG_ne (fun q => hj q.symm)]
      exact s.slot j S e
  sF := s.sF
  sG := fun j => by
    by_cases hj : j = i
    · subst hj; rw [setG_same]; exact sG
    · rw [setG_ne hj]; exact s.sG j
  dF := fun j => by
    by_cases hj : j = i
    · subst hj; rw [setG_same]; exact dF
    · rw [setG_ne hj]; exact s.dF j
  dG := fun j k hjk => by
    by_cases hj : j = i
    · subst hj
      rw [setG_same, setG_ne (fun q => hjk q.symm)]
      exact (dG k (fun q => hjk q.symm)).symm
    · rw [setG_ne hj]
      by_cases hk : k = i
      · subst hk; rw [setG_same]; exact dG j hj
      · rw [setG_ne hk]; exact s.dG j k hjk
  fr := s.fr
theorem StOk.set_no (s : StOk C F H Γ σ g) {i : Nat} {o : Option V} : StOk C F H (Γ.set i .no) (σ.set i o) g where
  len := by simp [s.len]
  slot := fun j S e => by
    by_cases hj : i = j
    · subst hj
      have hl : i < Γ.length := by
        have q := (List.getElem?_eq_some_iff.mp e).1
        simpa using q
      rw [List.getElem?_set_self hl] at e
      cases e
      trivial
    · rw [List.getElem?_set_ne hj] at e ⊢
      exact s.slot j S e
  sF := s.sF
  sG := s.sG
  dF := s.dF
  dG := s.dG
  fr := s.fr
/-- weaker slots -/
def Sub (Γ Γ' : List Slot) : Prop := Γ.length = Γ'.length ∧ ∀ (i : Nat) (S' : Slot), Γ'[i]? = some S' → S' = Slot.no ∨ Γ[i]? = some S' ∨ ∃ R R', S' = Slot.val R' ∧ Γ[i]? = some (Slot.val R) ∧ ∀ F v, R.p F v → R'.p F v
theorem StOk.weak (s : StOk C F H Γ σ g) (h : Sub Γ Γ') : StOk C F H Γ' σ g where
  len := h.1.symm.trans s.len
  slot := fun i S e => by
    rcases h.2 i S e with q | q | ⟨R, R', q, q', hR⟩
    · subst q; trivial
    · exact s.slot i S q
    · subst q
      obtain ⟨v, e1, e2⟩ := s.slot i _ q'
      exact ⟨v, e1, hR _ _ e2⟩
  sF := s.sF
  sG := s.sG
  dF := s.dF
  dG := s.dG
  fr := s.fr
theorem Sub.refl : Sub Γ Γ := ⟨rfl, fun _ _ h => .inr (.inl h)⟩
/-- new objects are laid into F -/
theorem StOk.grow (s : StOk C F H Γ σ g) {G : Hp} (hn : ∀ a o, G a = some o → H a = none) : StOk C (uni F G) (uni H G) Γ σ g ∧ Fr F H (dU g) (uni F G) (uni H G) (dU g) := by
  refine ⟨⟨s.len, fun i S e => (s.slot i S e).mono uni_l, fun a o e => ?_, fun i a o e => uni_l a o (s.sG i a o e), fun i a => ?_, s.dG, fun a e => ?_⟩, uni_l, fun b hb => ?_, fun b o e _ => uni_l b o e, fun b hb => ?_, fun b z => .inl z⟩
  · rcases of_uni e with q | ⟨q, q'⟩
    · exact uni_l a o (s.sF a o q)
    · show uni H G a = some o
      unfold uni; rw [hn a o q']; exact q'
  · rcases s.dF i a with q | q
    · cases e : G a with
      | none => exact .inl (uni_none q e)
      | some o =>
        refine .inr ?_
        cases e2 : g i a with
        | none => rfl
        | some u =>
          have := s.sG i a u e2
          rw [hn a o e] at this; cases this
    · exact .inr q
  · refine s.fr a ?_
    cases q : H a with
    | none => rfl
    | some o => rw [uni_l a o q] at e; cases e
  · cases q : F b with
    | some o => exact .inl (by simp)
    | none =>
      cases q2 : G b with
      | none => exact absurd (uni_none q q2) hb
      | some o => exact .inr (.inl (hn b o q2))
  · cases q : H b with
    | none => exact absurd q hb
    | some o => rw [uni_l b o q]; simp
end

theorem uni_upd {H : Hp} {p : Addr} {o : HO} (h : H p = none) : uni H (one p o) = upd H p o := by
  funext b
  unfold uni upd
  by_cases e : b = p
  · subst e; rw [h, if_pos rfl]; exact one_same
  · rw [if_neg e]
    cases q : H b with
    | none => exact one_ne e
    | some u => rfl
/-- one new object, into F -/
theorem StOk.grow1 {C : Cc} {F H : Hp} {Γ : List Slot} {σ : St} {g : Nat → Hp} (s : StOk C F H Γ σ g) {p : Addr} {o : HO} (hn : H p = none) :
    StOk C (upd F p o) (upd H p o) Γ σ g ∧ Fr F H (dU g) (upd F p o) (upd H p o) (dU g) := by
  have hf : F p = none := by
    cases q : F p with
    | none => rfl
    | some u => rw [s.sF p u q] at hn; cases hn
  have := s.grow (G := one p o) (fun a u e => by
    by_cases h : a = p
    · rw [h]; exact hn
    · rw [one_ne h] at e; cases e)
  rw [uni_upd hn, uni_upd hf] at this
  exact this

/-! ### the semantic judgements -/
section
variable {X : Cx}
@[irreducible] def WE (X : Cx) (e : Expr) : TE := fun σ H Q => ∀ pins s, Inv X pins σ H s → wpAny (model X.prog X.w) X.A (eval e X.env) (EP X pins σ Q) X.xe s
@[irreducible] def WT (X : Cx) (e : Expr) : TT := fun σ H Q => ∀ pins s, Inv X pins σ H s → wpAny (model X.prog X.w) X.A (isTrue e X.env (eval e X.env)) (TP X pins σ Q) X.xe s
@[irreducible] def WW (X : Cx) (e : Expr) : TT := fun σ H Q => ∀ (whole : Sem Value) pins s, Inv X pins σ H s → wpAny (model X.prog X.w) X.A (isTrue e X.env whole) (TP X pins σ Q) X.xe s
@[irreducible] def WA (X : Cx) (es : List Expr) : TA := fun σ H Q => ∀ (pos : Pos) pins s, Inv X pins σ H s → wpAny (model X.prog X.w) X.A (spliced (backTo pos (starEach es X.env))) (AP X pins σ Q) X.xe s
@[irreducible] def WS (X : Cx) (st : List Stmt) : TS := fun D σ H => ∀ pins s, Inv X pins σ H s → wpAny (model X.prog X.w) X.A (execs st X.env) (SP X pins D) X.xe s
@[irreducible] def W1 (X : Cx) (st : Stmt) : TS := fun D σ H => ∀ pins s, Inv X pins σ H s → wpAny (model X.prog X.w) X.A (exec st X.env) (SP X pins D) X.xe s
theorem pe_W {e : Expr} : PE X e (WE X e) := ⟨fun pins s σ H Q I h => by unfold WE at h; exact h pins s I⟩
theorem pt_W {e : Expr} : PT X e (WT X e) := ⟨fun pins s σ H Q I h => by unfold WT at h; exact h pins s I⟩
theorem pw_W {e : Expr} : PW X e (WW X e) := ⟨fun whole pins s σ H Q I h => by unfold WW at h; exact h whole pins s I⟩
theorem pa_W {es : List Expr} : PA X es (WA X es) := ⟨fun pos pins s σ H Q I h => by unfold WA at h; exact h pos pins s I⟩
theorem pss_W {st : List Stmt} : PSs X st (WS X st) := ⟨fun pins s σ H D I h => by unfold WS at h; exact h pins s I⟩
theorem ps_W {st : Stmt} : PS X st (W1 X st) := ⟨fun pins s σ H D I h => by unfold W1 at h; exact h pins s I⟩
theorem WE.of {e : Expr} {t : TE} (h : PE X e t) {σ : St} {H : Hp} {Q : VK} (q : t σ H Q) : WE X e σ H Q := by unfold WE; exact fun pins s I => h.run pins s σ H Q I q
theorem WT.of {e : Expr} {t : TT} (h : PT X e t) {σ : St} {H : Hp} {Q : Bool → Hp → Prop} (q : t σ H Q) : WT X e σ H Q := by unfold WT; exact fun pins s I => h.run pins s σ H Q I q
theorem WW.of {e : Expr} {t : TT} (h : PW X e t) {σ : St} {H : Hp} {Q : Bool → Hp → Prop} (q : t σ H Q) : WW X e σ H Q := by unfold WW; exact fun whole pins s I => h.run whole pins s σ H Q I q
theorem WA.of {es : List Expr} {t : TA} (h : PA X es t) {σ : St} {H : Hp} {Q : List V → Hp → Prop} (q : t σ H Q) : WA X es σ H Q := by unfold WA; exact fun pos pins s I => h.run pos pins s σ H Q I q
theorem WS.of {st : List Stmt} {t : TS} (h : PSs X st t) {D : Ends} {σ : St} {H : Hp} (q : t D σ H) : WS X st D σ H := by unfold WS; exact fun pins s I => h.run pins s σ H D I q
theorem W1.of {st : Stmt} {t : TS} (h : PS X st t) {D : Ends} {σ : St} {H : Hp} (q : t D σ H) : W1 X st D σ H := by unfold W1; exact fun pins s I => h.run pins s σ H D I q
end

/-- how an exception lies: its class, its own dict (new behind H0, owned by none) -/
def XOk (C : Mc) (e : Exn) (H0 H : Hp) (U : Addr → Prop) (cls : Value) (d : Option Addr) : Prop :=
  ∃ a, C.mg e.cls = some (.ref a) ∧ cls = .ref a ∧ match e.pay with
    | none => d = none
    | some x => ∃ b, d = some b ∧ H0 b = none ∧ H b = some (.xd [("name", .str x)]) ∧ ¬ U b
theorem XOk.mp {C : Mc} {e : Exn} {H0 H0' H : Hp} {U U' : Addr → Prop} {cls : Value} {d : Option Addr} (x : XOk C e H0 H U cls d) (h : ∀ b, H0 b = none → ¬ U b → H0' b = none ∧ ¬ U' b) : XOk C e H0' H U' cls d := by
  obtain ⟨a, h1, h2, h3⟩ := x
  refine ⟨a, h1, h2, ?_⟩
  cases hp : e.pay with
  | none => rw [hp] at h3; exact h3
  | some z =>
    rw [hp] at h3
    obtain ⟨b, e1, e2, e3, e4⟩ := h3
    obtain ⟨e5, e6⟩ := h b e2 e4
    exact ⟨b, e1, e5, e3, e6⟩
theorem XOk.later {C : Mc} {e : Exn} {F H F' H' H2 : Hp} {U U' U2 : Addr → Prop} {cls : Value} {d : Option Addr} (f : Fr F H U F' H' U') (x : XOk C e H' H2 U2 cls d) : XOk C e H H2 U2 cls d :=
  x.mp fun b q n => ⟨by
    cases z : H b with
    | none => rfl
    | some o => exact absurd q (f.dom b (by rw [z]; simp)), n⟩
/-- what is owned stood already -/
theorem XOk.reg {C : Mc} {e : Exn} {H0 H : Hp} {U : Addr → Prop} {g : Nat → Hp} {cls : Value} {d : Option Addr} (s : ∀ i, Same (g i) H0) (x : XOk C e H0 H U cls d) : XOk C e H0 H (dU g) cls d :=
  x.mp fun b q _ => ⟨q, fun ⟨i, z⟩ => by
    cases w : g i b with
    | none => exact z w
    | some o => rw [s i b o w] at q; cases q⟩

/-- what is wanted of an exception e behind the point F H U -/
def XEnd (C : Cc) (F H : Hp) (U : Addr → Prop) (Γ : List Slot) (σ : St) (Wx : WX) (e : Exn) : Prop :=
  ∀ F' H' g' cls d, Fr F H U F' H' (dU g') → StOk C F' H' Γ σ g' → XOk C.toMc e H H' (dU g') cls d → Wx cls d σ H'
/-- an expression: its value, by m and ρ -/
def Ev (C : Cc) (Γ : List Slot) (e : Expr) {α : Type} (ρ : α → Rp) (m : W α) : Prop :=
  ∀ (X : Cx) (Wx : WX), C.Ok X → Takes X Wx → ∀ (F H : Hp) (g : Nat → Hp) (σ : St), StOk C F H Γ σ g → ∀ Q : VK,
    m.wp (fun a => ∀ F' H' g' v, Fr F H (dU g) F' H' (dU g') → StOk C F' H' Γ σ g' → (ρ a).p F' v → Q v H') (XEnd C F H (dU g) Γ σ Wx) → WE X e σ H Q
/-- .. a new object of the asker's own -/
def EvO (C : Cc) (Γ : List Slot) (e : Expr) {α : Type} (O : α → Op) (m : W α) : Prop :=
  ∀ (X : Cx) (Wx : WX), C.Ok X → Takes X Wx → ∀ (F H : Hp) (g : Nat → Hp) (σ : St), StOk C F H Γ σ g → ∀ Q : VK,
    m.wp (fun a => ∀ F' H' g' G v, Fr F H (dU g) F' H' (fun b => dU g' b ∨ G b ≠ none) → StOk C F' H' Γ σ g' → Same G H' → Dis F' G → (∀ i, Dis (g' i) G) → (∀ b, G b ≠ none → C.fr b) → (O a).p F' G v → Q v H') (XEnd C F H (dU g) Γ σ Wx) → WE X e σ H Q
/-- a test -/
def EvT (C : Cc) (Γ : List Slot) (e : Expr) (m : W Bool) : Prop :=
  ∀ (X : Cx) (Wx : WX), C.Ok X → Takes X Wx → ∀ (F H : Hp) (g : Nat → Hp) (σ : St), StOk C F H Γ σ g → ∀ Q : Bool → Hp → Prop,
    m.wp (fun a => ∀ F' H' g', Fr F H (dU g) F' H' (dU g') → StOk C F' H' Γ σ g' → Q a H') (XEnd C F H (dU g) Γ σ Wx) → WT X e σ H Q

/-- from later points -/
theorem XEnd.later {C : Cc} {F H F' H' : Hp} {U U' : Addr → Prop} {Γ : List Slot} {σ : St} {Wx : WX} {e : Exn} (f : Fr F H U F' H' U') (h : XEnd C F H U Γ σ Wx e) : XEnd C F' H' U' Γ σ Wx e :=
  fun F2 H2 g2 cls d f2 s x => h F2 H2 g2 cls d (f.trans f2) s (x.later f)

/-! ### kinds of values -/
def rI (i : Int) : Rp := ⟨fun _ v => v = .int i, fun _ h => h⟩
def rB (b : Bool) : Rp := ⟨fun _ v => v = .bl b, fun _ h => h⟩
def rS (z : Str) : Rp := ⟨fun _ v => v = .str z, fun _ h => h⟩
def rU (_ : Unit) : Rp := ⟨fun _ v => v = .non, fun _ h => h⟩
def rO {α : Type} (r : α → Rp) : Option α → Rp
  | none => ⟨fun _ v => v = .non, fun _ h => h⟩
  | some x => r x
inductive All2 {α β : Type} (R : α → β → Prop) : List α → List β → Prop
  | nil : All2 R [] []
  | cons {a b as bs} : R a b → All2 R as bs → All2 R (a :: as) (b :: bs)
namespace All2
variable {α β : Type} {R R' : α → β → Prop}
theorem length {as : List α} {bs : List β} (h : All2 R as bs) : as.length = bs.length := by
  induction h with
  | nil => rfl
  | cons _ _ ih => simp [ih]
theorem imp (f : ∀ a b, R a b → R' a b) {as : List α} {bs : List β} (h : All2 R as bs) : All2 R' as bs := by
  induction h with
  | nil => exact .nil
  | cons r _ ih => exact .cons (f _ _ r) ih
theorem get {as : List α} {bs : List β} (h : All2 R as bs) : ∀ {i : Nat} {b : β}, bs[i]? = some b → ∃ a, as[i]? = some a ∧ R a b := by
  induction h with
  | nil => intro i b e; simp at e
  | cons r _ ih =>
    intro i b e
    cases i with
    | zero => simp at e; subst e; exact ⟨_, rfl, r⟩
    | succ i => simpa using ih (by simpa using e)
theorem append {as as' : List α} {bs bs' : List β} (h : All2 R as bs) (h' : All2 R as' bs') : All2 R (as ++ as') (bs ++ bs') := by
  induction h with
  | nil => exact h'
  | cons r _ ih => exact .cons r ih
theorem snoc {as : List α} {bs : List β} {a : α} {b : β} (h : All2 R as bs) (r : R a b) : All2 R (as ++ [a]) (bs ++ [b]) := h.append (.cons r .nil)
theorem take {as : List α} {bs : List β} (h : All2 R as bs) : ∀ n : Nat, All2 R (as.take n) (bs.take n) := by
  induction h with
  | nil => intro n; simp; exact .nil
  | cons r _ ih =>
    intro n
    cases n with
    | zero => exact .nil
    | succ n => exact .cons r (ih n)
theorem drop {as : List α} {bs : List β} (h : All2 R as bs) : ∀ n : Nat, All2 R (as.drop n) (bs.drop n) := by
  induction h with
  | nil => intro n; simp; exact .nil
  | cons r t ih =>
    intro n
    cases n with
    | zero => exact .cons r t
    | succ n => exact ih n
theorem set {as : List α} {bs : List β} {a : α} {b : β} (h : All2 R as bs) (r : R a b) : ∀ n : Nat, All2 R (as.set n a) (bs.set n b) := by
  induction h with
  | nil => intro n; exact .nil
  | cons q t ih =>
    intro n
    cases n with
    | zero => exact .cons r t
    | succ n => exact .cons q (ih n)
theorem of_map {f : β → α} (h : ∀ b a, R a b → a = f b) {as : List α} {bs : List β} (x : All2 R as bs) : as = bs.map f := by
  induction x with
  | nil => rfl
  | cons r _ ih => simp [ih, h _ _ r]
theorem to_map {f : β → α} (h : ∀ b, R (f b) b) : ∀ bs : List β, All2 R (bs.map f) bs
  | [] => .nil
  | b :: bs => .cons (h b) (to_map h bs)
theorem reverse {as : List α} {bs : List β} (h : All2 R as bs) : All2 R as.reverse bs.reverse := by
  induction h with
  | nil => exact .nil
  | cons r _ ih => simp only [List.reverse_cons]; exact ih.snoc r
end All2

section
variable {K : PySem.W.Frag} {α β γ : Type}
theorem Same.seqT {F F' : Hp} {a : Addr} {xs : List V} (e : Same F F') (h : SqT K F a xs) : SqT K F' a xs := by
  rcases h with q | q
  · refine .inl ?_
    rcases q with q | ⟨o, q⟩
    · exact .inl (e _ _ q)
    · exact .inr ⟨o, e _ _ q⟩
  · exact .inr q
/-- a list, of any place -/
def rL (K : PySem.W.Frag) (r : α → Rp) (xs : List α) : Rp :=
  ⟨fun F v => ∃ a vs, v = .ref a ∧ SqL K F a vs ∧ All2 (fun u x => (r x).p F u) vs xs, fun h ⟨a, vs, e, q, t⟩ => ⟨a, vs, e, h.seq q, t.imp fun _ _ z => (r _).mono h z⟩⟩
/-- a list that is ours: tracked, of our places -/
def rN (N : Addr → Prop) (r : α → Rp) (xs : List α) : Rp :=
  ⟨fun F v => ∃ a vs, v = .ref a ∧ N a ∧ F a = some (.lst vs) ∧ All2 (fun u x => (r x).p F u) vs xs, fun h ⟨a, vs, e, n, q, t⟩ => ⟨a, vs, e, n, h _ _ q, t.imp fun _ _ z => (r _).mono h z⟩⟩
def rT2 (K : PySem.W.Frag) (r1 : α → Rp) (r2 : β → Rp) (x : α × β) : Rp :=
  ⟨fun F v => ∃ a v1 v2, v = .ref a ∧ SqT K F a [v1, v2] ∧ (r1 x.1).p F v1 ∧ (r2 x.2).p F v2, fun h ⟨a, v1, v2, e, q, t1, t2⟩ => ⟨a, v1, v2, e, Same.seqT h q, (r1 _).mono h t1, (r2 _).mono h t2⟩⟩
def rT3 (K : PySem.W.Frag) (r1 : α → Rp) (r2 : β → Rp) (r3 : γ → Rp) (x : α × β × γ) : Rp :=
  ⟨fun F v => ∃ a v1 v2 v3, v = .ref a ∧ SqT K F a [v1, v2, v3] ∧ (r1 x.1).p F v1 ∧ (r2 x.2.1).p F v2 ∧ (r3 x.2.2).p F v3, fun h ⟨a, v1, v2, v3, e, q, t1, t2, t3⟩ => ⟨a, v1, v2, v3, e, Same.seqT h q, (r1 _).mono h t1, (r2 _).mono h t2, (r3 _).mono h t3⟩⟩
/-- an own list: alone in its private heap; the items in F -/
def oL (N : Addr → Prop) (r : α → Rp) (xs : List α) : Op :=
  ⟨fun F G v => ∃ a vs, v = .ref a ∧ N a ∧ G = one a (.lst vs) ∧ All2 (fun u x => (r x).p F u) vs xs, fun h ⟨a, vs, e, n, q, t⟩ => ⟨a, vs, e, n, q, t.imp fun _ _ z => (r _).mono h z⟩⟩
theorem rN_rL {N : Addr → Prop} {r : α → Rp} {xs : List α} {F : Hp} {v : V} (h : (rN N r xs).p F v) : (rL K r xs).p F v := by
  obtain ⟨a, vs, e, _, q, t⟩ := h
  exact ⟨a, vs, e, SqL.of q, t⟩
end
/-- a value of a smaller kind -/
theorem Ev.sub {C : Cc} {Γ : List Slot} {e : Expr} {α : Type} {ρ ρ' : α → Rp} {m : W α} (h : ∀ a F v, (ρ a).p F v → (ρ' a).p F v) (x : Ev C Γ e ρ m) : Ev C Γ e ρ' m :=
  fun X Wx ok tk F H g σ s Q hm => x X Wx ok tk F H g σ s Q (m.mono (fun a z F' H' g' v f s r => z F' H' g' v f s (h a F' v r)) (fun _ z => z) hm)
/-- a function of the value -/
theorem Ev.map {C : Cc} {Γ : List Slot} {e : Expr} {α β : Type} {ρ : α → Rp} {ρ' : β → Rp} {m : W α} (f : α → β) (h : ∀ a F v, (ρ a).p F v → (ρ' (f a)).p F v) (x : Ev C Γ e ρ m) : Ev C Γ e ρ' (m >>= fun a => pure (f a)) :=
  fun X Wx ok tk F H g σ s Q hm => x X Wx ok tk F H g σ s Q (m.mono (fun a z F' H' g' v fr s r => z F' H' g' v fr s (h a F' v r)) (fun _ z => z) hm)
/-- a new object joins F -/
theorem EvO.ev {C : Cc} {Γ : List Slot} {e : Expr} {α : Type} {O : α → Op} {ρ : α → Rp} {m : W α} (h : ∀ a F G v, Dis F G → (∀ b, G b ≠ none → C.fr b) → (O a).p F G v → (ρ a).p (uni F G) v) (x : EvO C Γ e O m) : Ev C Γ e ρ m :=
  fun X Wx ok tk F H g σ s Q hm => x X Wx ok tk F H g σ s Q (m.mono (fun a z F' H' g' G v f s sG dF dG nG r => by
    refine z (uni F' G) H' g' v ⟨f.sF.trans uni_l, fun b hb => ?_, f.keep, f.dom, fun b z => f.gs b (.inl z)⟩ ⟨s.len, fun i S e => (s.slot i S e).mono uni_l, fun b o e => ?_, s.sG, fun i b => ?_, s.dG, s.fr⟩ (h a F' G v dF nG r)
    · cases q : F' b with
      | some o => exact f.fF b (by rw [q]; simp)
      | none =>
        cases q2 : G b with
        | none => exact absurd (uni_none q q2) hb
        | some o => exact .inr ((f.gs b (.inr (by rw [q2]; simp))).symm)
    · rcases of_uni e with q | ⟨_, q⟩
      · exact s.sF b o q
      · exact sG b o q
    · rcases s.dF i b with q | q
      · rcases dG i b with q2 | q2
        · exact .inr q2
        · exact .inl (uni_none q q2)
      · exact .inr q) (fun _ z => z) hm)
theorem oL_rN {N : Addr → Prop} {α : Type} {r : α → Rp} {xs : List α} {F G : Hp} {v : V} (d : Dis F G) (h : (oL N r xs).p F G v) : (rN N r xs).p (uni F G) v := by
  obtain ⟨a, vs, e, n, q, t⟩ := h
  refine ⟨a, vs, e, n, ?_, t.imp fun _ _ z => (r _).mono uni_l z⟩
  subst q
  exact uni_r d a _ one_same
/-- a new list as a value -/
theorem EvO.list {C : Cc} {Γ : List Slot} {e : Expr} {α : Type} {r : α → Rp} {m : W (List α)} (x : EvO C Γ e (oL C.fr r) m) : Ev C Γ e (rN C.fr r) m := x.ev fun _ _ _ _ d _ h => oL_rN d h
end Y

/-! Y2: rules for expressions -/
namespace Y
open PySem PySem.Spec L2
section
variable {C : Cc} {Γ : List Slot} {α β γ : Type}

/-! ### names, constants -/
theorem Ev.name {i : Nat} {x : Str} {pos : Pos} {ρ : α → Rp} {a : α} (hN : C.N[i]? = some x) (hv : Vis C.sc x) (hΓ : Γ[i]? = some (.val (ρ a)))
    (hd : (x == ("__debug__" : Str)) = false := by decide) (hcd : (x == ("__classdict__" : Str)) = false := by decide) : Ev C Γ (.Name x pos) ρ (pure a) :=
  fun X Wx ok tk F H g σ s Q hm => by
    obtain ⟨v, e, r⟩ := s.get_val hΓ
    exact WE.of (pe_var (i := i) (by rw [ok.N]; exact hN) (by rw [ok.sc]; exact hv) hd hcd) ⟨v, e, hm F H g v Fr.refl s r⟩
theorem Ev.const {e : Expr} {v : V} {ρ : α → Rp} {a : α} (h : ∀ X : Cx, PE X e (tC v)) (r : ∀ F, (ρ a).p F v) : Ev C Γ e ρ (pure a) :=
  fun X Wx ok tk F H g σ s Q hm => WE.of (h X) (hm F H g v Fr.refl s (r F))
theorem Ev.int {i : Int} {j pos} : Ev C Γ (.Constant (.int i) j pos) rI (pure i) := Ev.const (fun _ => pe_int) fun _ => rfl
theorem Ev.bool {b : Bool} {j pos} : Ev C Γ (.Constant (.bool b) j pos) rB (pure b) := Ev.const (fun _ => pe_bl) fun _ => rfl
theorem Ev.str {x : Str} {j pos} : Ev C Γ (.Constant (.str x) j pos) rS (pure x) := Ev.const (fun _ => pe_str) fun _ => rfl
theorem Ev.none {r : α → Rp} {j pos} : Ev C Γ (.Constant .none j pos) (rO r) (pure (none : Option α)) := Ev.const (fun _ => pe_non) fun _ => rfl
/-- a constant of the module's -/
theorem Ev.glob {x : Str} {pos : Pos} {ρ : α → Rp} {a : α} {v : V} {u : Value} (hg : C.sc.names.lookup x = some .globalImplicit) (hm : C.mg x = some u) (r : RelV v u) (h : ∀ F, (ρ a).p F v)
    (hd : (x == ("__debug__" : Str)) = false := by decide) : Ev C Γ (.Name x pos) ρ (pure a) :=
  fun X Wx ok tk F H g σ s Q hw => WE.of (pe_glob (v := v) (u := u) (show X.env.scope.names.lookup x = _ by rw [ok.sc]; exact hg) (by rw [ok.mg]; exact hm) r hd) (hw F H g v Fr.refl s (h F))

/-! ### two parts, one part -/
theorem Ev.bin {op : Operator} {a b : Expr} {pos : Pos} {ρa : α → Rp} {ρb : β → Rp} {ρc : γ → Rp} {ma : W α} {mb : W β} (k : α → β → W γ)
    (hop : ∀ X, C.Ok X → ∃ r, OpR X (binaryOp op) r ∧ ∀ x y H v w Q E, (ρa x).p H v → (ρb y).p H w → (k x y).wp (fun c => ∀ F u, (ρc c).p F u → Q u H) E → (∀ e, E e → True) → r v w H Q)
    (hs : ∀ x y P (E E' : Exn → Prop), (k x y).wp P E → (k x y).wp P E') (hp : ∀ c F u, (ρc c).p F u → ∀ F', (ρc c).p F' u) (ha : Ev C Γ a ρa ma) (hb : Ev C Γ b ρb mb) :
    Ev C Γ (.BinOp a op b pos) ρc (do let x ← ma; let y ← mb; k x y) :=
  fun X Wx ok tk F H g σ s Q hm => by
    obtain ⟨r, ho, hr⟩ := hop X ok
    refine WE.of (pe_op ho (pe_W (e := a)) (pe_W (e := b))) ?_
    refine ha X Wx ok tk F H g σ s _ (ma.mono (fun x hx F1 H1 g1 v f1 s1 r1 => ?_) (fun e he => he) hm)
    refine hb X Wx ok tk F1 H1 g1 σ s1 _ (mb.mono (fun y hy F2 H2 g2 w f2 s2 r2 => ?_) (fun e he => XEnd.later f1 he) hx)
    refine hr x y H2 v w Q (fun _ => True) ((ρa x).mono (f2.sF.trans s2.sF) r1) ((ρb y).mono s2.sF r2) ((k x y).mono (fun c hc F3 u h3 => ?_) (fun _ _ => trivial) (hs x y _ _ (fun _ => True) hy)) (fun _ _ => trivial)
    exact hc F2 H2 g2 u (f1.trans f2) s2 (hp c F3 u h3 F2)
theorem Ev.binI {op : Operator} {a b : Expr} {pos : Pos} {ma mb : W Int} (Cnd : Int → Int → Prop) (f : Int → Int → Int) (hop : ∀ X : Cx, OpR X (binaryOp op) (L2.rI Cnd fun i j => .int (f i j)))
    (ha : Ev C Γ a rI ma) (hb : Ev C Γ b rI mb) : Ev C Γ (.BinOp a op b pos) rI (do let x ← ma; let y ← mb; W.req (Cnd x y) (pure (f x y))) :=
  Ev.bin _ (fun X _ => ⟨_, hop X, fun x y H v w Q E hv hw hk _ => ⟨x, y, hv, hw, hk.1, hk.2 (fun _ => Option.none) _ rfl⟩⟩) (fun x y P E E' h => ⟨h.1, h.2⟩) (fun c F u h F' => h) ha hb
theorem Ev.binI0 {op : Operator} {a b : Expr} {pos : Pos} {ma mb : W Int} (f : Int → Int → Int) (hop : ∀ X : Cx, OpR X (binaryOp op) (rI0 fun i j => .int (f i j)))
    (ha : Ev C Γ a rI ma) (hb : Ev C Γ b rI mb) : Ev C Γ (.BinOp a op b pos) rI (do let x ← ma; let y ← mb; pure (f x y)) :=
  Ev.bin _ (fun X _ => ⟨_, hop X, fun x y H v w Q E hv hw hk _ => ⟨x, y, hv, hw, hk (fun _ => Option.none) _ rfl⟩⟩) (fun x y P E E' h => h) (fun c F u h F' => h) ha hb

theorem floordivN (X : Cx) : OpR X (binaryOp .FloorDiv) (L2.rI (fun _ j => j ≠ 0 ∧ j.natAbs.log2 < 9000) fun i j => .int (i.fdiv j)) := opI fun _ _ _ _ _ _ _ hc q => PyProof.Rows.floordiv_int hc.1 q (.inl (PyProof.noPylong_of_log2 hc.2))
end

/-- two factors of together less than 10 ^ 8 bits -/
def CMulB (i j : Int) : Prop := i.natAbs.log2 + j.natAbs.log2 < 100000000
theorem CMulB.ok {i j : Int} (h : CMulB i j) : IntMulOk i j := by
  have b : ∀ x : Int, Builtin.Int.intBits x ≤ x.natAbs.log2 + 1 := fun x => by
    unfold Builtin.Int.intBits
    split <;> omega
  have h1 := b i
  have h2 := b j
  have h3 : i.natAbs.log2 + j.natAbs.log2 < 100000000 := h
  have e : bitsLine = 134217728 := by decide
  intro z
  rw [Bool.and_eq_true] at z
  have z2 : decide (_ < _) = true := z.2
  have z3 := of_decide_eq_true z2
  rw [e] at z3
  omega
theorem op_mulB (X : Cx) : OpR X (binaryOp .Mult) (L2.rI CMulB fun i j => .int (i * j)) := L2.opI fun _ _ _ _ _ _ _ hc q => PyProof.Rows.mul_int q hc.ok
/-- the conditions of great ints -/
def mulI (x y : Int) : W Int := W.req (CMulB x y) (pure (x * y))
def divI (x y : Int) : W Int := W.req (y ≠ 0 ∧ y.natAbs.log2 < 9000) (pure (x.fdiv y))
def modI (x y : Int) : W Int := W.req (y ≠ 0) (pure (x.fmod y))
def powI (x y : Int) : W Int := W.req (CPow x y) (pure (x ^ y.toNat))
def shlI (x y : Int) : W Int := W.req (CPow x y) (pure (x * 2 ^ y.toNat))
def shrI (x y : Int) : W Int := W.req (0 ≤ y) (pure (x / 2 ^ y.toNat))

section
variable {C : Cc} {Γ : List Slot} {α β γ : Type} {a b : Expr} {pos : Pos} {ma mb : W Int} {x y : Int}
theorem Ev.add (ha : Ev C Γ a rI ma) (hb : Ev C Γ b rI mb) : Ev C Γ (.BinOp a .Add b pos) rI (do let x ← ma; let y ← mb; pure (x + y)) := Ev.binI0 (fun i j => i + j) (fun _ => op_add) ha hb
theorem Ev.addP (ha : Ev C Γ a rI (pure x)) (hb : Ev C Γ b rI (pure y)) : Ev C Γ (.BinOp a .Add b pos) rI (pure (x + y)) := Ev.add ha hb
theorem Ev.mul (ha : Ev C Γ a rI ma) (hb : Ev C Γ b rI mb) : Ev C Γ (.BinOp a .Mult b pos) rI (do let x ← ma; let y ← mb; mulI x y) := Ev.binI _ (fun i j => i * j) op_mulB ha hb
theorem Ev.mulP (ha : Ev C Γ a rI (pure x)) (hb : Ev C Γ b rI (pure y)) : Ev C Γ (.BinOp a .Mult b pos) rI (mulI x y) := Ev.mul ha hb
theorem Ev.div (ha : Ev C Γ a rI ma) (hb : Ev C Γ b rI mb) : Ev C Γ (.BinOp a .FloorDiv b pos) rI (do let x ← ma; let y ← mb; divI x y) := Ev.binI _ (fun i j => i.fdiv j) (fun X => floordivN X) ha hb
theorem Ev.divP (ha : Ev C Γ a rI (pure x)) (hb : Ev C Γ b rI (pure y)) : Ev C Γ (.BinOp a .FloorDiv b pos) rI (divI x y) := Ev.div ha hb
theorem Ev.mod (ha : Ev C Γ a rI ma) (hb : Ev C Γ b rI mb) : Ev C Γ (.BinOp a .Mod b pos) rI (do let x ← ma; let y ← mb; modI x y) := Ev.binI _ (fun i j => i.fmod j) (fun _ => op_modN) ha hb
theorem Ev.modP (ha : Ev C Γ a rI (pure x)) (hb : Ev C Γ b rI (pure y)) : Ev C Γ (.BinOp a .Mod b pos) rI (modI x y) := Ev.mod ha hb
theorem Ev.pow (ha : Ev C Γ a rI ma) (hb : Ev C Γ b rI mb) : Ev C Γ (.BinOp a .Pow b pos) rI (do let x ← ma; let y ← mb; powI x y) := Ev.binI _ (fun i j => i ^ j.toNat) (fun _ => op_pow) ha hb
theorem Ev.powP (ha : Ev C Γ a rI (pure x)) (hb : Ev C Γ b rI (pure y)) : Ev C Γ (.BinOp a .Pow b pos) rI (powI x y) := Ev.pow ha hb
/-- a power of written numbers -/
theorem Ev.powW (z : Int) (ha : Ev C Γ a rI (pure x)) (hb : Ev C Γ b rI (pure y)) (h : CPow x y) (e : x ^ y.toNat = z) : Ev C Γ (.BinOp a .Pow b pos) rI (pure z) :=
  fun X Wx ok tk F H g σ s Q hm => Ev.powP (pos := pos) ha hb X Wx ok tk F H g σ s Q ⟨h, by show ∀ F' H' g' v, _; rw [e]; exact hm⟩
/-- texts -/
def catS (x y : Str) : W Str := W.req (x.length + y.length ≤ sizeLine) (pure (x ++ y))
theorem Ev.cat {ma mb : W Str} (ha : Ev C Γ a rS ma) (hb : Ev C Γ b rS mb) : Ev C Γ (.BinOp a .Add b pos) rS (do let x ← ma; let y ← mb; catS x y) :=
  Ev.bin _ (fun X _ => ⟨_, op_add_str, fun x y H v w Q E hv hw hk _ => ⟨x, y, hv, hw, hk.1, hk.2 (fun _ => Option.none) _ rfl⟩⟩) (fun x y P E E' h => ⟨h.1, h.2⟩) (fun c F u h F' => h) ha hb
theorem Ev.catP {x y : Str} (ha : Ev C Γ a rS (pure x)) (hb : Ev C Γ b rS (pure y)) : Ev C Γ (.BinOp a .Add b pos) rS (catS x y) := Ev.cat ha hb
theorem Ev.neg (ha : Ev C Γ a rI ma) : Ev C Γ (.UnaryOp .USub a pos) rI (do let x ← ma; pure (-x)) :=
  fun X Wx ok tk F H g σ s Q hm => by
    refine WE.of (pe_un un_neg (pe_W (e := a))) ?_
    exact ha X Wx ok tk F H g σ s _ (ma.mono (fun x hx F1 H1 g1 v f1 s1 r1 => ⟨x, r1, hx F1 H1 g1 _ f1 s1 rfl⟩) (fun e he => he) hm)
theorem Ev.negP (ha : Ev C Γ a rI (pure x)) : Ev C Γ (.UnaryOp .USub a pos) rI (pure (-x)) := Ev.neg ha

/-! ### comparisons -/
theorem Ev.cmp {op : CmpOp} {ρa : α → Rp} {ρb : β → Rp} {ma : W α} {mb : W β} (k : α → β → Bool)
    (hop : ∀ X, C.Ok X → ∃ r, OpR X (compareOp op) r ∧ ∀ x y H v w Q, (ρa x).p H v → (ρb y).p H w → Q (.bl (k x y)) H → r v w H Q) (hk : behindInMarks op b = false)
    (ha : Ev C Γ a ρa ma) (hb : Ev C Γ b ρb mb) : Ev C Γ (.Compare a [op] [b] pos) rB (do let x ← ma; let y ← mb; pure (k x y)) :=
  fun X Wx ok tk F H g σ s Q hm => by
    obtain ⟨r, ho, hr⟩ := hop X ok
    refine WE.of (pe_cmpR ho (pe_W (e := a)) (pe_W (e := b)) hk) ?_
    refine ha X Wx ok tk F H g σ s _ (ma.mono (fun x hx F1 H1 g1 v f1 s1 r1 => ?_) (fun e he => he) hm)
    refine hb X Wx ok tk F1 H1 g1 σ s1 _ (mb.mono (fun y hy F2 H2 g2 w f2 s2 r2 => ?_) (fun e he => XEnd.later f1 he) hx)
    exact hr x y H2 v w Q ((ρa x).mono (f2.sF.trans s2.sF) r1) ((ρb y).mono s2.sF r2) (hy F2 H2 g2 _ (f1.trans f2) s2 rfl)
theorem Ev.cmpI {op : CmpOp} (k : Int → Int → Bool) (hop : ∀ X : Cx, OpR X (compareOp op) (rI0 fun i j => .bl (k i j))) (hk : behindInMarks op b = false)
    (ha : Ev C Γ a rI ma) (hb : Ev C Γ b rI mb) : Ev C Γ (.Compare a [op] [b] pos) rB (do let x ← ma; let y ← mb; pure (k x y)) :=
  Ev.cmp k (fun X _ => ⟨_, hop X, fun x y H v w Q hv hw q => ⟨x, y, hv, hw, q⟩⟩) hk ha hb
theorem Ev.lt (ha : Ev C Γ a rI ma) (hb : Ev C Γ b rI mb) : Ev C Γ (.Compare a [.Lt] [b] pos) rB (do let x ← ma; let y ← mb; pure (decide (x < y))) := Ev.cmpI (fun i j => decide (i < j)) (fun _ => op_lt) (nomark _) ha hb
theorem Ev.gt (ha : Ev C Γ a rI ma) (hb : Ev C Γ b rI mb) : Ev C Γ (.Compare a [.Gt] [b] pos) rB (do let x ← ma; let y ← mb; pure (decide (y < x))) := Ev.cmpI (fun i j => decide (j < i)) (fun _ => op_gt) (nomark _) ha hb
theorem Ev.ge (ha : Ev C Γ a rI ma) (hb : Ev C Γ b rI mb) : Ev C Γ (.Compare a [.GtE] [b] pos) rB (do let x ← ma; let y ← mb; pure (decide (y ≤ x))) := Ev.cmpI (fun i j => decide (j ≤ i)) (fun _ => op_ge) (nomark _) ha hb
theorem Ev.ltP (ha : Ev C Γ a rI (pure x)) (hb : Ev C Γ b rI (pure y)) : Ev C Γ (.Compare a [.Lt] [b] pos) rB (pure (decide (x < y))) := Ev.lt ha hb
theorem Ev.gtP (ha : Ev C Γ a rI (pure x)) (hb : Ev C Γ b rI (pure y)) : Ev C Γ (.Compare a [.Gt] [b] pos) rB (pure (decide (y < x))) := Ev.gt ha hb
theorem Ev.geP (ha : Ev C Γ a rI (pure x)) (hb : Ev C Γ b rI (pure y)) : Ev C Γ (.Compare a [.GtE] [b] pos) rB (pure (decide (y ≤ x))) := Ev.ge ha hb
end

end Y

/-! Y3: data and == -/
namespace Y
open PySem PySem.Spec L2
class DatE {α : Type} (K : PySem.W.Frag) (r : α → Rp) where
  enc : α → PyData
  dep : Nat
  ok : α → Prop
  dp : ∀ {x : α} {F : Hp} {v : V}, (r x).p F v → Dp K F v (enc x)
  can : ∀ x, ok x → (enc x).canLay0 = true
  deps : ∀ x, (enc x).depth ≤ dep
  dec : ∀ x y, PyData.eqv (enc x) (enc y) = true ↔ x = y
section
variable {K : PySem.W.Frag} {α β γ : Type}
instance : DatE K rI := ⟨.int, 0, fun _ => True, fun {x F v} h => by have e : v = .int x := h; subst e; exact .int x, fun _ _ => rfl, fun _ => Nat.le_refl _, fun x y => by simp [PyData.eqv]⟩
instance : DatE K rB := ⟨.bool, 0, fun _ => True, fun {x F v} h => by have e : v = .bl x := h; subst e; exact .bl x, fun _ _ => rfl, fun _ => Nat.le_refl _, fun x y => by simp [PyData.eqv]⟩
instance : DatE K rS := ⟨.str, 0, fun x => PyData.strOk x = true, fun {x F v} h => by have e : v = .str x := h; subst e; exact .str x, fun _ h => h, fun _ => Nat.le_refl _, fun x y => by simp [PyData.eqv]⟩
theorem dpAll_of {r : α → Rp} (I : DatE K r) {F : Hp} : ∀ {vs : List V} {xs : List α}, All2 (fun u x => (r x).p F u) vs xs → DpAll K F vs (xs.map I.enc)
  | _, _, .nil => .nil
  | _, _, .cons h t => .cons (I.dp h) (dpAll_of I t)
theorem canAll_of {e : α → PyData} {ok : α → Prop} (h : ∀ x, ok x → (e x).canLay0 = true) : ∀ xs : List α, (∀ x ∈ xs, ok x) → PyData.canLayAll0 (xs.map e) = true
  | [], _ => rfl
  | x :: xs, hx => by simp [PyData.canLayAll0, h x (hx x List.mem_cons_self), canAll_of h xs fun y hy => hx y (List.mem_cons_of_mem _ hy)]
theorem depAll_of {e : α → PyData} {n : Nat} (h : ∀ x, (e x).depth ≤ n) : ∀ xs : List α, PyData.depthAll (xs.map e) ≤ n + 1
  | [] => by simp [PyData.depthAll]
  | x :: xs => by
    have := depAll_of h xs
    have := h x
    simp only [List.map_cons, PyData.depthAll]
    omega
theorem decAll_of {e : α → PyData} (h : ∀ x y, PyData.eqv (e x) (e y) = true ↔ x = y) : ∀ xs ys : List α, PyData.eqvAll (xs.map e) (ys.map e) = true ↔ xs = ys
  | [], [] => by simp [PyData.eqvAll]
  | [], _ :: _ => by simp [PyData.eqvAll]
  | _ :: _, [] => by simp [PyData.eqvAll]
  | x :: xs, y :: ys => by simp [PyData.eqvAll, h x y, decAll_of h xs ys]
@[reducible] def datL (r : α → Rp) (I : DatE K r) (r' : List α → Rp) (h : ∀ {xs : List α} {F : Hp} {v : V}, (r' xs).p F v → ∃ a vs, v = .ref a ∧ SqL K F a vs ∧ All2 (fun u x => (r x).p F u) vs xs) : DatE K r' where
  enc := fun xs => .list (xs.map I.enc)
  dep := I.dep + 2
  ok := fun xs => ∀ x ∈ xs, I.ok x
  dp := fun hp => by
    obtain ⟨a, vs, e, q, t⟩ := h hp
    subst e
    exact .lst q (dpAll_of I t)
  can := fun xs h => by
    rw [PyData.canLay0]
    exact canAll_of I.can xs h
  deps := fun xs => by
    have := depAll_of I.deps xs
    simp only [PyData.depth]
    omega
  dec := fun xs ys => by
    rw [PyData.eqv]
    exact decAll_of I.dec xs ys
instance {r : α → Rp} [I : DatE K r] : DatE K (rL K r) := datL r I (rL K r) fun h => h
instance {N : Addr → Prop} {r : α → Rp} [I : DatE K r] : DatE K (rN N r) := datL r I (rN N r) fun h => rN_rL h
instance {r1 : α → Rp} {r2 : β → Rp} [I : DatE K r1] [J : DatE K r2] : DatE K (rT2 K r1 r2) where
  enc := fun x => .tuple [I.enc x.1, J.enc x.2]
  dep := I.dep + J.dep + 3
  ok := fun x => I.ok x.1 ∧ J.ok x.2
  dp := fun ⟨a, v1, v2, e, q, t1, t2⟩ => by subst e; exact .tup q (.cons (I.dp t1) (.cons (J.dp t2) .nil))
  can := fun x h => by simp [PyData.canLay0, PyData.canLayAll0, I.can _ h.1, J.can _ h.2]
  deps := fun x => by
    have := I.deps x.1
    have := J.deps x.2
    simp only [PyData.depth, PyData.depthAll]
    omega
  dec := fun x y => by
    obtain ⟨x1, x2⟩ := x
    obtain ⟨y1, y2⟩ := y
    simp [PyData.eqv, PyData.eqvAll, I.dec, J.dec]
instance {r1 : α → Rp} {r2 : β → Rp} {r3 : γ → Rp} [I : DatE K r1] [J : DatE K r2] [L : DatE K r3] : DatE K (rT3 K r1 r2 r3) where
  enc := fun x => .tuple [I.enc x.1, J.enc x.2.1, L.enc x.2.2]
  dep := I.dep + J.dep + L.dep + 3
  ok := fun x => I.ok x.1 ∧ J.ok x.2.1 ∧ L.ok x.2.2
  dp := fun ⟨a, v1, v2, v3, e, q, t1, t2, t3⟩ => by subst e; exact .tup q (.cons (I.dp t1) (.cons (J.dp t2) (.cons (L.dp t3) .nil)))
  can := fun x h => by simp [PyData.canLay0, PyData.canLayAll0, I.can _ h.1, J.can _ h.2.1, L.can _ h.2.2]
  deps := fun x => by
    have := I.deps x.1
    have := J.deps x.2.1
    have := L.deps x.2.2
    simp only [PyData.depth, PyData.depthAll]
    omega
  dec := fun x y => by
    obtain ⟨x1, x2, x3⟩ := x
    obtain ⟨y1, y2, y3⟩ := y
    simp [PyData.eqv, PyData.eqvAll, I.dec, J.dec, L.dec]
/-- no strings within: always comparable -/
class DatT {α : Type} (K : PySem.W.Frag) (r : α → Rp) [I : DatE K r] : Prop where
  all : ∀ x, I.ok x
instance : DatT K rI := ⟨fun _ => trivial⟩
instance : DatT K rB := ⟨fun _ => trivial⟩
instance {r : α → Rp} [I : DatE K r] [J : DatT K r] : DatT K (rL K r) := ⟨fun _ x _ => J.all x⟩
instance {N : Addr → Prop} {r : α → Rp} [I : DatE K r] [J : DatT K r] : DatT K (rN N r) := ⟨fun _ x _ => J.all x⟩
instance {r1 : α → Rp} {r2 : β → Rp} [I : DatE K r1] [J : DatE K r2] [I' : DatT K r1] [J' : DatT K r2] : DatT K (rT2 K r1 r2) := ⟨fun x => ⟨I'.all x.1, J'.all x.2⟩⟩
instance {r1 : α → Rp} {r2 : β → Rp} {r3 : γ → Rp} [I : DatE K r1] [J : DatE K r2] [L : DatE K r3] [I' : DatT K r1] [J' : DatT K r2] [L' : DatT K r3] : DatT K (rT3 K r1 r2 r3) := ⟨fun x => ⟨I'.all x.1, J'.all x.2.1, L'.all x.2.2⟩⟩
end
theorem eqv_dec {K : PySem.W.Frag} {α : Type} [DecidableEq α] {r : α → Rp} (I : DatE K r) (x y : α) : PyData.eqv (I.enc x) (I.enc y) = decide (x = y) := by
  by_cases h : x = y
  · rw [decide_eq_true h]; exact (I.dec x y).mpr h
  · rw [decide_eq_false h]
    cases e : PyData.eqv (I.enc x) (I.enc y) with
    | false => rfl
    | true => exact absurd ((I.dec x y).mp e) h
theorem shaped_of {K : PySem.W.Frag} {α : Type} {r : α → Rp} (I : DatE K r) (hd : I.dep ≤ 64) {x : α} (h : I.ok x) : SeqAt.shaped (I.enc x) = true := by
  unfold SeqAt.shaped
  rw [I.can x h, decide_eq_true (Nat.le_trans (I.deps x) hd)]
  rfl
def eqW {α : Type} [DecidableEq α] (ok : α → Prop) (x y : α) : W Bool := W.req (ok x ∧ ok y) (pure (decide (x = y)))
def neW {α : Type} [DecidableEq α] (ok : α → Prop) (x y : α) : W Bool := W.req (ok x ∧ ok y) (pure (!decide (x = y)))
section
variable {C : Cc} {Γ : List Slot} {α : Type} {a b : Expr} {pos : Pos} {ma mb : W α} {x y : α}
theorem Ev.cmpW {op : CmpOp} {β γ : Type} {ρa : β → Rp} {ρb : γ → Rp} {ma : W β} {mb : W γ} (k : β → γ → W Bool)
    (hop : ∀ X, C.Ok X → ∃ r, OpR X (compareOp op) r ∧ ∀ x y H v w Q E, (ρa x).p H v → (ρb y).p H w → (k x y).wp (fun c => Q (.bl c) H) E → r v w H Q) (hs : ∀ x y P (E E' : Exn → Prop), (k x y).wp P E → (k x y).wp P E') (hk : behindInMarks op b = false)
    (ha : Ev C Γ a ρa ma) (hb : Ev C Γ b ρb mb) : Ev C Γ (.Compare a [op] [b] pos) rB (do let x ← ma; let y ← mb; k x y) :=
  fun X Wx ok tk F H g σ s Q hm => by
    obtain ⟨r, ho, hr⟩ := hop X ok
    refine WE.of (pe_cmpR ho (pe_W (e := a)) (pe_W (e := b)) hk) ?_
    refine ha X Wx ok tk F H g σ s _ (ma.mono (fun x hx F1 H1 g1 v f1 s1 r1 => ?_) (fun e he => he) hm)
    refine hb X Wx ok tk F1 H1 g1 σ s1 _ (mb.mono (fun y hy F2 H2 g2 w f2 s2 r2 => ?_) (fun e he => XEnd.later f1 he) hx)
    refine hr x y H2 v w Q (fun _ => True) ((ρa x).mono (f2.sF.trans s2.sF) r1) ((ρb y).mono s2.sF r2) ?_
    exact hs x y _ _ (fun _ => True) ((k x y).mono (fun c hc => hc F2 H2 g2 _ (f1.trans f2) s2 rfl) (fun _ h => h) hy)
/-- == of data of one kind (perhaps of unlike lists' kinds) -/
theorem Ev.eq {ρa ρb : α → Rp} [I : DatE C.K ρa] [J : DatE C.K ρb] [DecidableEq α] (he : I.enc = J.enc) (hda : I.dep ≤ 64) (hdb : J.dep ≤ 64) (ho : I.ok = J.ok) (ha : Ev C Γ a ρa ma) (hb : Ev C Γ b ρb mb) :
    Ev C Γ (.Compare a [.Eq] [b] pos) rB (do let x ← ma; let y ← mb; eqW I.ok x y) :=
  Ev.cmpW _ (fun X ok => ⟨_, op_eqD ok.units, fun x y H v w Q E hv hw h => ⟨I.enc x, J.enc y, by rw [ok.K]; exact I.dp hv, by rw [ok.K]; exact J.dp hw, shaped_of I hda h.1.1, shaped_of J hdb (by rw [← ho]; exact h.1.2), by rw [← he, eqv_dec I]; exact h.2⟩⟩)
    (fun x y P E E' h => h) (nomark _) ha hb
theorem Ev.ne {ρa ρb : α → Rp} [I : DatE C.K ρa] [J : DatE C.K ρb] [DecidableEq α] (he : I.enc = J.enc) (hda : I.dep ≤ 64) (hdb : J.dep ≤ 64) (ho : I.ok = J.ok) (ha : Ev C Γ a ρa ma) (hb : Ev C Γ b ρb mb) :
    Ev C Γ (.Compare a [.NotEq] [b] pos) rB (do let x ← ma; let y ← mb; neW I.ok x y) :=
  Ev.cmpW _ (fun X ok => ⟨_, op_neD ok.units, fun x y H v w Q E hv hw h => ⟨I.enc x, J.enc y, by rw [ok.K]; exact I.dp hv, by rw [ok.K]; exact J.dp hw, shaped_of I hda h.1.1, shaped_of J hdb (by rw [← ho]; exact h.1.2), by rw [← he, eqv_dec I]; exact h.2⟩⟩)
    (fun x y P E E' h => h) (nomark _) ha hb
/-- scalars: ints, bools, texts -/
theorem Ev.eqS {sc : α → V} {ρ : α → Rp} [DecidableEq α] (hρ : ∀ x F v, (ρ x).p F v → v = sc x) (hs : ∀ x y, scal (sc x) (sc y) = true) (hd : ∀ x y, decide (sc x = sc y) = decide (x = y)) (ha : Ev C Γ a ρ ma) (hb : Ev C Γ b ρ mb) :
    Ev C Γ (.Compare a [.Eq] [b] pos) rB (do let x ← ma; let y ← mb; pure (decide (x = y))) :=
  Ev.cmp _ (fun X ok => ⟨_, op_eq, fun x y H v w Q hv hw h => by rw [hρ _ _ _ hv, hρ _ _ _ hw]; exact ⟨hs x y, by rw [hd]; exact h⟩⟩) (nomark _) ha hb
theorem Ev.neS {sc : α → V} {ρ : α → Rp} [DecidableEq α] (hρ : ∀ x F v, (ρ x).p F v → v = sc x) (hs : ∀ x y, scal (sc x) (sc y) = true) (hd : ∀ x y, decide (sc x = sc y) = decide (x = y)) (ha : Ev C Γ a ρ ma) (hb : Ev C Γ b ρ mb) :
    Ev C Γ (.Compare a [.NotEq] [b] pos) rB (do let x ← ma; let y ← mb; pure (!decide (x = y))) :=
  Ev.cmp _ (fun X ok => ⟨_, op_ne, fun x y H v w Q hv hw h => by rw [hρ _ _ _ hv, hρ _ _ _ hw]; exact ⟨hs x y, by rw [hd]; exact h⟩⟩) (nomark _) ha hb
end
section
variable {C : Cc} {Γ : List Slot} {a b : Expr} {pos : Pos}
theorem Ev.eqI {ma mb : W Int} (ha : Ev C Γ a rI ma) (hb : Ev C Γ b rI mb) : Ev C Γ (.Compare a [.Eq] [b] pos) rB (do let x ← ma; let y ← mb; pure (decide (x = y))) := Ev.eqS (sc := .int) (fun _ _ _ h => h) (fun _ _ => rfl) (fun x y => by rw [dec_int]; exact Bool.beq_eq_decide_eq _ _) ha hb
theorem Ev.neI {ma mb : W Int} (ha : Ev C Γ a rI ma) (hb : Ev C Γ b rI mb) : Ev C Γ (.Compare a [.NotEq] [b] pos) rB (do let x ← ma; let y ← mb; pure (!decide (x = y))) := Ev.neS (sc := .int) (fun _ _ _ h => h) (fun _ _ => rfl) (fun x y => by rw [dec_int]; exact Bool.beq_eq_decide_eq _ _) ha hb
theorem Ev.neIP {x y : Int} (ha : Ev C Γ a rI (pure x)) (hb : Ev C Γ b rI (pure y)) : Ev C Γ (.Compare a [.NotEq] [b] pos) rB (pure (!decide (x = y))) := Ev.neI ha hb
/-! ### truths -/
variable {ma mb : W Bool}
theorem Ev.not (ha : Ev C Γ a rB ma) : Ev C Γ (.UnaryOp .Not a pos) rB (do let x ← ma; pure (!x)) :=
  fun X Wx ok tk F H g σ s Q hm => by
    refine WE.of (pe_not (pe_W (e := a))) ?_
    exact ha X Wx ok tk F H g σ s _ (ma.mono (fun x hx F1 H1 g1 v f1 s1 r1 => ⟨x, r1, hx F1 H1 g1 _ f1 s1 rfl⟩) (fun e he => he) hm)
theorem Ev.one {op : BoolOp} (ha : Ev C Γ a rB ma) : Ev C Γ (.BoolOp op [a] pos) rB ma :=
  fun X Wx ok tk F H g σ s Q hm => WE.of (pe_one (pe_W (e := a))) (ha X Wx ok tk F H g σ s Q hm)
theorem Ev.and {rest : List Expr} (ha : Ev C Γ a rB ma) (hb : Ev C Γ (.BoolOp .And (b :: rest) pos) rB mb) : Ev C Γ (.BoolOp .And (a :: b :: rest) pos) rB (do let x ← ma; if x = true then mb else pure false) :=
  fun X Wx ok tk F H g σ s Q hm => by
    refine WE.of (pe_and (pe_W (e := a)) (pe_W (e := .BoolOp .And (b :: rest) pos))) ?_
    refine ha X Wx ok tk F H g σ s _ (ma.mono (fun x hx F1 H1 g1 v f1 s1 r1 => ⟨x, r1, ?_⟩) (fun e he => he) hm)
    cases x with
    | true =>
      rw [if_pos rfl]
      exact hb X Wx ok tk F1 H1 g1 σ s1 _ (mb.mono (fun y hy F2 H2 g2 v f2 s2 r2 => hy F2 H2 g2 v (f1.trans f2) s2 r2) (fun e he => XEnd.later f1 he) hx)
    | false => exact hx F1 H1 g1 _ f1 s1 rfl
theorem Ev.or {rest : List Expr} (ha : Ev C Γ a rB ma) (hb : Ev C Γ (.BoolOp .Or (b :: rest) pos) rB mb) : Ev C Γ (.BoolOp .Or (a :: b :: rest) pos) rB (do let x ← ma; if x = true then pure true else mb) :=
  fun X Wx ok tk F H g σ s Q hm => by
    refine WE.of (pe_or (pe_W (e := a)) (pe_W (e := .BoolOp .Or (b :: rest) pos))) ?_
    refine ha X Wx ok tk F H g σ s _ (ma.mono (fun x hx F1 H1 g1 v f1 s1 r1 => ⟨x, r1, ?_⟩) (fun e he => he) hm)
    cases x with
    | true => exact hx F1 H1 g1 _ f1 s1 rfl
    | false =>
      rw [if_neg Bool.false_ne_true]
      exact hb X Wx ok tk F1 H1 g1 σ s1 _ (mb.mono (fun y hy F2 H2 g2 v f2 s2 r2 => hy F2 H2 g2 v (f1.trans f2) s2 r2) (fun e he => XEnd.later f1 he) hx)

/-! ### tests -/
theorem EvT.val (ha : Ev C Γ a rB ma) (he : ∀ (X : Cx) whole, isTrue a X.env whole = (do let v ← whole; standAt a.pos; holding [v] (truthy v)) := by intro _ _; rfl) : EvT C Γ a ma :=
  fun X Wx ok tk F H g σ s Q hm => by
    refine WT.of (pt_val (pe_W (e := a)) (he X)) ?_
    exact ha X Wx ok tk F H g σ s _ (ma.mono (fun x hx F1 H1 g1 v f1 s1 r1 => ⟨x, r1, hx F1 H1 g1 f1 s1⟩) (fun e he => he) hm)
theorem EvT.not (ha : EvT C Γ a ma) : EvT C Γ (.UnaryOp .Not a pos) (do let x ← ma; pure (!x)) :=
  fun X Wx ok tk F H g σ s Q hm => by
    refine WT.of (pt_not (pt_W (e := a))) ?_
    exact ha X Wx ok tk F H g σ s _ (ma.mono (fun x hx F1 H1 g1 f1 s1 => hx F1 H1 g1 f1 s1) (fun e he => he) hm)
/-- a test whatever its whole is -/
def EvW (C : Cc) (Γ : List Slot) (e : Expr) (m : W Bool) : Prop :=
  ∀ (X : Cx) (Wx : WX), C.Ok X → Takes X Wx → ∀ (F H : Hp) (g : Nat → Hp) (σ : St), StOk C F H Γ σ g → ∀ Q : Bool → Hp → Prop,
    m.wp (fun a => ∀ F' H' g', Fr F H (dU g) F' H' (dU g') → StOk C F' H' Γ σ g' → Q a H') (XEnd C F H (dU g) Γ σ Wx) → WW X e σ H Q
theorem EvW.t (h : EvW C Γ a ma) : EvT C Γ a ma := fun X Wx ok tk F H g σ s Q hm => WT.of (PW.pt pw_W) (h X Wx ok tk F H g σ s Q hm)
theorem EvW.and1 (ha : EvT C Γ a ma) : EvW C Γ (.BoolOp .And [a] pos) ma := fun X Wx ok tk F H g σ s Q hm => WW.of (pw_and1 (pt_W (e := a))) (ha X Wx ok tk F H g σ s Q hm)
theorem EvW.or1 (ha : EvT C Γ a ma) : EvW C Γ (.BoolOp .Or [a] pos) ma := fun X Wx ok tk F H g σ s Q hm => WW.of (pw_or1 (pt_W (e := a))) (ha X Wx ok tk F H g σ s Q hm)
theorem EvW.and {rest : List Expr} (ha : EvT C Γ a ma) (hb : EvW C Γ (.BoolOp .And (b :: rest) pos) mb) : EvW C Γ (.BoolOp .And (a :: b :: rest) pos) (do let x ← ma; if x = true then mb else pure false) :=
  fun X Wx ok tk F H g σ s Q hm => by
    refine WW.of (pw_and (pt_W (e := a)) (pw_W (e := .BoolOp .And (b :: rest) pos))) ?_
    refine ha X Wx ok tk F H g σ s _ (ma.mono (fun x hx F1 H1 g1 f1 s1 => ?_) (fun e he => he) hm)
    cases x with
    | true =>
      rw [if_pos rfl]
      exact hb X Wx ok tk F1 H1 g1 σ s1 _ (mb.mono (fun y hy F2 H2 g2 f2 s2 => hy F2 H2 g2 (f1.trans f2) s2) (fun e he => XEnd.later f1 he) hx)
    | false => rw [if_neg Bool.false_ne_true]; exact hx F1 H1 g1 f1 s1
theorem EvW.or {rest : List Expr} (ha : EvT C Γ a ma) (hb : EvW C Γ (.BoolOp .Or (b :: rest) pos) mb) : EvW C Γ (.BoolOp .Or (a :: b :: rest) pos) (do let x ← ma; if x = true then pure true else mb) :=
  fun X Wx ok tk F H g σ s Q hm => by
    refine WW.of (pw_or (pt_W (e := a)) (pw_W (e := .BoolOp .Or (b :: rest) pos))) ?_
    refine ha X Wx ok tk F H g σ s _ (ma.mono (fun x hx F1 H1 g1 f1 s1 => ?_) (fun e he => he) hm)
    cases x with
    | true => rw [if_pos rfl]; exact hx F1 H1 g1 f1 s1
    | false =>
      rw [if_neg Bool.false_ne_true]
      exact hb X Wx ok tk F1 H1 g1 σ s1 _ (mb.mono (fun y hy F2 H2 g2 f2 s2 => hy F2 H2 g2 (f1.trans f2) s2) (fun e he => XEnd.later f1 he) hx)
end
end Y

/-! Y4: places, slices, built-in calls, displays, calls of defs -/
namespace Y
open PySem PySem.Spec L2
section
variable {C : Cc} {Γ : List Slot} {α β γ δ ε : Type} {e e1 e2 e3 e4 a b : Expr} {pos p : Pos}

/-! ### places -/
def idx (xs : List α) (i : Int) : W α := match atI xs i with | some x => pure x | none => W.bad
theorem All2.atI {R : V → α → Prop} {vs : List V} {xs : List α} (h : All2 R vs xs) {i : Int} {x : α} (e : L2.atI xs i = some x) : ∃ v, L2.atI vs i = some v ∧ R v x := by
  unfold L2.atI at e ⊢
  rw [h.length]
  cases q : ixN xs.length i with
  | none => rw [q] at e; cases e
  | some j =>
    rw [q] at e
    exact h.get e
theorem Ev.ixL {r : α → Rp} {ma : W (List α)} {mb : W Int} (ha : Ev C Γ a (rL C.K r) ma) (hb : Ev C Γ b rI mb) (hp : PlainIx b := by intro _ _; rfl) : Ev C Γ (.Subscript a b pos) r (do let xs ← ma; let i ← mb; idx xs i) :=
  fun X Wx ok tk F H g σ s Q hm => by
    refine WE.of (pe_ix ix_list (pe_W (e := a)) (pe_W (e := b)) hp) ?_
    refine ha X Wx ok tk F H g σ s _ (ma.mono (fun xs hx F1 H1 g1 v f1 s1 r1 => ?_) (fun e he => he) hm)
    refine hb X Wx ok tk F1 H1 g1 σ s1 _ (mb.mono (fun i hi F2 H2 g2 w f2 s2 r2 => ?_) (fun e he => XEnd.later f1 he) hx)
    obtain ⟨q, vs, ev, hq, t⟩ := (rL C.K r xs).mono f2.sF r1
    replace hi : (idx xs i).wp _ _ := hi
    unfold idx at hi
    cases hx : L2.atI xs i with
    | none => rw [hx] at hi; exact hi.elim
    | some x =>
      rw [hx] at hi
      obtain ⟨u, hu, ru⟩ := t.atI hx
      exact ⟨q, vs, i, u, ev, r2, by rw [ok.K]; exact s2.sF.seq hq, hu, hi F2 H2 g2 u (f1.trans f2) s2 ru⟩
/-- a pair's places, a triple's -/
theorem Ev.ixT {ρ : α → Rp} {ρ' : β → Rp} {ma : W α} (f : α → β) (n : Nat) (hρ : ∀ x F v, (ρ x).p F v → ∃ q vs u, v = .ref q ∧ SqT C.K F q vs ∧ vs[n]? = some u ∧ (ρ' (f x)).p F u) {j : Nat} {p2 : Pos} (ha : Ev C Γ a ρ ma) :
    Ev C Γ (.Subscript a (.Constant (.int (n : Int)) j p2) pos) ρ' (do let x ← ma; pure (f x)) :=
  fun X Wx ok tk F H g σ s Q hm => by
    refine WE.of (pe_ix ix_tup (pe_W (e := a)) pe_int (fun _ _ => rfl)) ?_
    refine ha X Wx ok tk F H g σ s _ (ma.mono (fun x hx F1 H1 g1 v f1 s1 r1 => ?_) (fun e he => he) hm)
    obtain ⟨q, vs, u, ev, hq, hu, ru⟩ := hρ x F1 v r1
    exact ⟨q, vs, n, u, ev, rfl, by rw [ok.K]; exact Same.seqT s1.sF hq, atI_nat hu, hx F1 H1 g1 u f1 s1 ru⟩
theorem Ev.ixT2_1 {r1 : α → Rp} {r2 : β → Rp} {ma : W (α × β)} {j : Nat} {p2 : Pos} (ha : Ev C Γ a (rT2 C.K r1 r2) ma) : Ev C Γ (.Subscript a (.Constant (.int 1) j p2) pos) r2 (do let x ← ma; pure x.2) :=
  Ev.ixT (ρ := rT2 C.K r1 r2) (ρ' := r2) (·.2) 1 (fun x F v ⟨q, v1, v2, e, h, t1, t2⟩ => ⟨q, _, v2, e, h, rfl, t2⟩) ha
theorem Ev.ixT3_0 {r1 : α → Rp} {r2 : β → Rp} {r3 : γ → Rp} {ma : W (α × β × γ)} {j : Nat} {p2 : Pos} (ha : Ev C Γ a (rT3 C.K r1 r2 r3) ma) : Ev C Γ (.Subscript a (.Constant (.int 0) j p2) pos) r1 (do let x ← ma; pure x.1) :=
  Ev.ixT (ρ := rT3 C.K r1 r2 r3) (ρ' := r1) (·.1) 0 (fun x F v ⟨q, v1, v2, v3, e, h, t1, t2, t3⟩ => ⟨q, _, v1, e, h, rfl, t1⟩) ha
theorem Ev.ixT3_1 {r1 : α → Rp} {r2 : β → Rp} {r3 : γ → Rp} {ma : W (α × β × γ)} {j : Nat} {p2 : Pos} (ha : Ev C Γ a (rT3 C.K r1 r2 r3) ma) : Ev C Γ (.Subscript a (.Constant (.int 1) j p2) pos) r2 (do let x ← ma; pure x.2.1) :=
  Ev.ixT (ρ := rT3 C.K r1 r2 r3) (ρ' := r2) (·.2.1) 1 (fun x F v ⟨q, v1, v2, v3, e, h, t1, t2, t3⟩ => ⟨q, _, v2, e, h, rfl, t2⟩) ha
theorem Ev.ixT3_2 {r1 : α → Rp} {r2 : β → Rp} {r3 : γ → Rp} {ma : W (α × β × γ)} {j : Nat} {p2 : Pos} (ha : Ev C Γ a (rT3 C.K r1 r2 r3) ma) : Ev C Γ (.Subscript a (.Constant (.int 2) j p2) pos) r3 (do let x ← ma; pure x.2.2) :=
  Ev.ixT (ρ := rT3 C.K r1 r2 r3) (ρ' := r3) (·.2.2) 2 (fun x F v ⟨q, v1, v2, v3, e, h, t1, t2, t3⟩ => ⟨q, _, v3, e, h, rfl, t3⟩) ha
/-- a text's sign -/
def idxS (z : Str) (i : Int) : W Str := W.req (z.length ≤ sizeLine) (match L2.atI z.cps.toList i with | some c => pure ⟨#[c]⟩ | none => W.bad)
theorem Ev.ixS {ma : W Str} {mb : W Int} (ha : Ev C Γ a rS ma) (hb : Ev C Γ b rI mb) (hp : PlainIx b := by intro _ _; rfl) : Ev C Γ (.Subscript a b pos) rS (do let z ← ma; let i ← mb; idxS z i) :=
  fun X Wx ok tk F H g σ s Q hm => by
    refine WE.of (pe_ix ix_str (pe_W (e := a)) (pe_W (e := b)) hp) ?_
    refine ha X Wx ok tk F H g σ s _ (ma.mono (fun xs hx F1 H1 g1 v f1 s1 r1 => ?_) (fun e he => he) hm)
    refine hb X Wx ok tk F1 H1 g1 σ s1 _ (mb.mono (fun i hi F2 H2 g2 w f2 s2 r2 => ?_) (fun e he => XEnd.later f1 he) hx)
    replace hi : (idxS xs i).wp _ _ := hi
    obtain ⟨hl, hi⟩ := hi
    cases hx : L2.atI xs.cps.toList i with
    | none => rw [hx] at hi; exact hi.elim
    | some c =>
      rw [hx] at hi
      exact ⟨xs, i, c, r1, r2, hl, hx, hi F2 H2 g2 _ (f1.trans f2) s2 rfl⟩

/-! ### slices -/
def EvP (C : Cc) (Γ : List Slot) (e : Option Expr) (m : W (Option Int)) : Prop :=
  ∀ (X : Cx) (Wx : WX), C.Ok X → Takes X Wx → ∀ (F H : Hp) (g : Nat → Hp) (σ : St), StOk C F H Γ σ g → ∃ t, PO X e t ∧ ∀ Q : Option Int → Hp → Prop,
    m.wp (fun a => ∀ F' H' g', Fr F H (dU g) F' H' (dU g') → StOk C F' H' Γ σ g' → Q a H') (XEnd C F H (dU g) Γ σ Wx) → t σ H Q
/-- a part of a slice; its reading holds at any state -/
def WP (X : Cx) (e : Option Expr) : TO := fun σ H Q => ∃ t, PO X e t ∧ t σ H Q
theorem po_W {X : Cx} {e : Option Expr} : PO X e (WP X e) := ⟨fun pins s σ H Q I h => by
  obtain ⟨t, ht, q⟩ := h
  exact ht.run pins s σ H Q I q⟩
theorem EvP.none : EvP C Γ none (pure (none : Option Int)) := fun X Wx ok tk F H g σ s => ⟨_, po_none, fun Q hm => hm F H g Fr.refl s⟩
theorem EvP.some {m : W Int} (h : Ev C Γ e rI m) : EvP C Γ (some e) (do let i ← m; pure (some i)) :=
  fun X Wx ok tk F H g σ s => ⟨_, po_some (pe_W (e := e)), fun Q hm => h X Wx ok tk F H g σ s _ (m.mono (fun i hi F1 H1 g1 v f1 s1 r1 => ⟨i, r1, hi F1 H1 g1 f1 s1⟩) (fun e he => he) hm)⟩
def cut (xs : List α) (lo hi : Option Int) : List α := (xs.drop (HT.sIx xs.length 0 lo)).take (HT.sIx xs.length xs.length hi - HT.sIx xs.length 0 lo)
theorem All2.cut {R : V → α → Prop} {vs : List V} {xs : List α} (h : All2 R vs xs) (lo hi : Option Int) : All2 R (cutV vs lo hi) (Y.cut xs lo hi) := by
  unfold cutV Y.cut
  rw [h.length]
  exact (h.drop _).take _
/-- a new list, as the asker's own -/
theorem new_own {O : Op} {F H : Hp} {g : Nat → Hp} {σ : St} {q : Addr} {o : HO} (s : StOk C F H Γ σ g) (hq : H q = Option.none) (hO : C.fr q → O.p F (one q o) (.ref q)) :
    Fr F H (dU g) F (upd H q o) (fun b => dU g b ∨ one q o b ≠ Option.none) ∧ StOk C F (upd H q o) Γ σ g ∧ Same (one q o) (upd H q o) ∧ Dis F (one q o) ∧ (∀ i, Dis (g i) (one q o)) ∧ (∀ b, one q o b ≠ Option.none → C.fr b) ∧ O.p F (one q o) (.ref q) := by
  have nq : ∀ b u, H b = Option.some u → b ≠ q := fun b u e z => by rw [z, hq] at e; cases e
  have on : ∀ b, one q o b ≠ Option.none → b = q := fun b h => by
    by_cases z : b = q
    · exact z
    · exact absurd (one_ne z) h
  refine ⟨⟨Same.refl _, fun b h => .inl h, fun b u e _ => by rw [upd_ne (nq b u e)]; exact e, fun b h => ?_, fun b h => ?_⟩, ⟨s.len, s.slot, fun b u e => by rw [upd_ne (nq b u (s.sF b u e))]; exact s.sF b u e, fun i b u e => by rw [upd_ne (nq b u (s.sG i b u e))]; exact s.sG i b u e, s.dF, s.dG, fun b h => ?_⟩, fun b u e => ?_, fun b => ?_, fun i b => ?_, fun b h => ?_, hO (s.fr q hq)⟩
  · by_cases z : b = q
    · rw [z, upd_same]; simp
    · rw [upd_ne z]; exact h
  · rcases h with h | h
    · exact .inl h
    · rw [on b h]; exact .inr hq
  · by_cases z : b = q
    · rw [z, upd_same] at h; cases h
    · rw [upd_ne z] at h; exact s.fr b h
  · by_cases z : b = q
    · subst z; rw [one_same] at e; rw [upd_same]; exact e
    · rw [one_ne z] at e; cases e
  · by_cases z : b = q
    · refine .inl ?_
      cases h : F b with
      | none => rfl
      | some u => exact absurd z (nq b u (s.sF b u h))
    · exact .inr (one_ne z)
  · by_cases z : b = q
    · refine .inl ?_
      cases h : g i b with
      | none => rfl
      | some u => exact absurd z (nq b u (s.sG i b u h))
    · exact .inr (one_ne z)
  · rw [on b h]; exact s.fr q hq
/-- the end of an EvO at a new list -/
theorem EvO.fin {F0 H0 : Hp} {g0 : Nat → Hp} {F H : Hp} {g : Nat → Hp} {σ : St} {q : Addr} {o : HO} {O : Op} {Q : VK} (f : Fr F0 H0 (dU g0) F H (dU g)) (s : StOk C F H Γ σ g) (hq : H q = Option.none) (hO : C.fr q → O.p F (one q o) (.ref q))
    (h : ∀ F' H' g' G v, Fr F0 H0 (dU g0) F' H' (fun b => dU g' b ∨ G b ≠ Option.none) → StOk C F' H' Γ σ g' → Same G H' → Dis F' G → (∀ i, Dis (g' i) G) → (∀ b, G b ≠ Option.none → C.fr b) → O.p F' G v → Q v H') : Q (.ref q) (upd H q o) := by
  obtain ⟨f2, s2, h3, h4, h5, h6, h7⟩ := new_own s hq hO
  exact h F (upd H q o) g (one q o) (.ref q) (f.trans f2) s2 h3 h4 h5 h6 h7
theorem EvO.slice {r : α → Rp} {lo hi : Option Expr} {p2 : Pos} {ma : W (List α)} {ml mh : W (Option Int)} (ha : Ev C Γ a (rL C.K r) ma) (hl : EvP C Γ lo ml) (hh : EvP C Γ hi mh) :
    EvO C Γ (.Subscript a (.Slice lo hi Option.none p2) pos) (oL C.fr r) (do let xs ← ma; let i ← ml; let j ← mh; pure (cut xs i j)) :=
  fun X Wx ok tk F H g σ s Q hm => by
    refine WE.of (pe_slice sl_list (pe_W (e := a)) (po_W (e := lo)) (po_W (e := hi))) ?_
    refine ha X Wx ok tk F H g σ s _ (ma.mono (fun xs hx F1 H1 g1 v f1 s1 r1 => ?_) (fun e he => he) hm)
    obtain ⟨tl, pl, hl'⟩ := hl X Wx ok tk F1 H1 g1 σ s1
    refine ⟨tl, pl, hl' _ (ml.mono (fun i hi F2 H2 g2 f2 s2 => ?_) (fun e he => XEnd.later f1 he) hx)⟩
    obtain ⟨th, ph, hh'⟩ := hh X Wx ok tk F2 H2 g2 σ s2
    refine ⟨th, ph, hh' _ (mh.mono (fun j hj F3 H3 g3 f3 s3 => ?_) (fun e he => XEnd.later (f1.trans f2) he) hi)⟩
    obtain ⟨q, vs, ev, hq, t⟩ := (rL C.K r xs).mono (f2.sF.trans f3.sF) r1
    refine ⟨q, vs, ev, by rw [ok.K]; exact s3.sF.seq hq, fun pn hn => ?_⟩
    exact EvO.fin (O := oL C.fr r (Y.cut xs i j)) (f1.trans (f2.trans f3)) s3 hn (fun n => ⟨pn, _, rfl, n, rfl, t.cut i j⟩) hj
/-- texts -/
def cutW (z : Str) (lo hi : Option Int) : W Str := W.req (z.length ≤ sizeLine) (pure (cutS z lo hi))
theorem Ev.sliceS {lo hi : Option Expr} {p2 : Pos} {ma : W Str} {ml mh : W (Option Int)} (ha : Ev C Γ a rS ma) (hl : EvP C Γ lo ml) (hh : EvP C Γ hi mh) :
    Ev C Γ (.Subscript a (.Slice lo hi Option.none p2) pos) rS (do let xs ← ma; let i ← ml; let j ← mh; cutW xs i j) :=
  fun X Wx ok tk F H g σ s Q hm => by
    refine WE.of (pe_slice sl_str (pe_W (e := a)) (po_W (e := lo)) (po_W (e := hi))) ?_
    refine ha X Wx ok tk F H g σ s _ (ma.mono (fun xs hx F1 H1 g1 v f1 s1 r1 => ?_) (fun e he => he) hm)
    obtain ⟨tl, pl, hl'⟩ := hl X Wx ok tk F1 H1 g1 σ s1
    refine ⟨tl, pl, hl' _ (ml.mono (fun i hi F2 H2 g2 f2 s2 => ?_) (fun e he => XEnd.later f1 he) hx)⟩
    obtain ⟨th, ph, hh'⟩ := hh X Wx ok tk F2 H2 g2 σ s2
    refine ⟨th, ph, hh' _ (mh.mono (fun j hj F3 H3 g3 f3 s3 => ?_) (fun e he => XEnd.later (f1.trans f2) he) hi)⟩
    exact ⟨xs, r1, hj.1, hj.2 F3 H3 g3 _ (f1.trans (f2.trans f3)) s3 rfl⟩

/-! ### argument lists -/
def NoStar (e : Expr) : Prop := ∀ (es : List Expr) (env : Env), starEach (e :: es) env = (false, eval e env) :: starEach es env
def EvA (C : Cc) (Γ : List Slot) (es : List Expr) {τ : Type} (ρ : τ → List Rp) (m : W τ) : Prop :=
  (∀ (X : Cx) (pos : Pos), (backTo pos (starEach es X.env)).any (·.1) = false) ∧ ∀ (X : Cx) (Wx : WX), C.Ok X → Takes X Wx → ∀ (F H : Hp) (g : Nat → Hp) (σ : St), StOk C F H Γ σ g → ∀ Q : List V → Hp → Prop,
    m.wp (fun a => ∀ F' H' g' vs, Fr F H (dU g) F' H' (dU g') → StOk C F' H' Γ σ g' → All2 (fun v R => R.p F' v) vs (ρ a) → Q vs H') (XEnd C F H (dU g) Γ σ Wx) → WA X es σ H Q
theorem EvA.nil : EvA C Γ [] (fun _ : Unit => []) (pure ()) := ⟨fun _ _ => rfl, fun X Wx ok tk F H g σ s Q hm => WA.of pa_nil (hm F H g [] Fr.refl s .nil)⟩
theorem EvA.cons {es : List Expr} {τ : Type} {ρ : α → Rp} {ρs : τ → List Rp} {ma : W α} {mt : W τ} (ha : Ev C Γ e ρ ma) (ht : EvA C Γ es ρs mt) (hn : NoStar e) :
    EvA C Γ (e :: es) (fun x : α × τ => ρ x.1 :: ρs x.2) (do let a ← ma; let t ← mt; pure (a, t)) := by
  refine ⟨fun X pos => ?_, fun X Wx ok tk F H g σ s Q hm => ?_⟩
  · have h1 := ht.1 X pos
    rw [hn es X.env]
    unfold backTo at h1 ⊢
    simpa using h1
  · refine WA.of (pa_cons (pe_W (e := e)) (pa_W (es := es)) (hn es X.env)) ?_
    refine ha X Wx ok tk F H g σ s _ (ma.mono (fun x hx F1 H1 g1 v f1 s1 r1 => ?_) (fun e he => he) hm)
    refine ht.2 X Wx ok tk F1 H1 g1 σ s1 _ (mt.mono (fun t hy F2 H2 g2 vs f2 s2 r2 => ?_) (fun e he => XEnd.later f1 he) hx)
    exact hy F2 H2 g2 (v :: vs) (f1.trans f2) s2 (.cons ((ρ x).mono f2.sF r1) r2)

/-! ### built-in functions and types -/
/-- f is the built-in -/
structure Blt (C : Cc) (f : Str) (u : Value) : Prop where
  g : C.sc.names.lookup f = some .globalImplicit
  m : C.mg f = none
  v : bootBuiltins f = some u
  n : f ≠ "__name__"
  d : (f == ("__debug__" : Str)) = false
theorem Blt.gl {f : Str} {u : Value} (h : Blt C f u) {X : Cx} (ok : C.Ok X) : Gl X f := by show X.env.scope.names.lookup f = _; rw [ok.sc]; exact h.g
theorem Ev.callBA {es : List Expr} {τ : Type} {f : Str} {id : String} {ρs : τ → List Rp} {ρ : β → Rp} {mt : W τ} (k : τ → W β) (hb : Blt C f (.builtin id))
    (hc : ∀ X, C.Ok X → ∃ r, CallR X (.builtin id) r ∧ ∀ t H vs Q E, All2 (fun v R => R.p H v) vs (ρs t) → (k t).wp (fun y => ∀ u, (∀ F, Same H F → (ρ y).p F u) → Q u H) E → r vs H Q) (hs : ∀ x P (E E' : Exn → Prop), (k x).wp P E → (k x).wp P E')
    (hd : ∀ y F v, (ρ y).p F v → ∀ F', (ρ y).p F' v) (ha : EvA C Γ (e :: es) ρs mt) (hn : NoStar e) (hpl : EvA C Γ es (fun _ : Unit => []) (pure ()) ∨ ∀ (X : Cx) (pos : Pos), (backTo pos (starEach es X.env)).any (·.1) = false) :
    Ev C Γ (.Call (.Name f p) (e :: es) [] pos) ρ (do let t ← mt; k t) :=
  fun X Wx ok tk F H g σ s Q hm => by
    obtain ⟨r, hr, hk⟩ := hc X ok
    refine WE.of (pe_callB hr (hb.gl ok) (by rw [ok.mg]; exact hb.m) hb.v (pa_W (es := e :: es)) hb.n hb.d (hn es X.env) (by rcases hpl with h | h; exact h.1 X pos; exact h X pos)) ?_
    refine ha.2 X Wx ok tk F H g σ s _ (mt.mono (fun t ht F1 H1 g1 vs f1 s1 r1 => ?_) (fun e he => he) hm)
    refine hk t H1 vs Q (fun _ => True) (r1.imp fun v R z => R.mono s1.sF z) (hs _ _ _ (fun _ => True) ((k t).mono (fun y hy u hu => ?_) (fun _ h => h) ht))
    exact hy F1 H1 g1 u f1 s1 (hd y _ u (hu H1 (Same.refl _)) F1)
theorem noArgs : ∀ (X : Cx) (pos : Pos), (backTo pos (starEach [] X.env)).any (·.1) = false := fun _ _ => rfl
/-- of one argument, the answer a scalar -/
theorem Ev.callB1 {f : Str} {id : String} {ρa : α → Rp} {ρ : β → Rp} {ma : W α} (k : α → W β) (hb : Blt C f (.builtin id))
    (hc : ∀ X, C.Ok X → ∃ r, CallR X (.builtin id) r ∧ ∀ x H v Q E, (ρa x).p H v → (k x).wp (fun y => ∀ u, (∀ F, Same H F → (ρ y).p F u) → Q u H) E → r [v] H Q) (hs : ∀ x P (E E' : Exn → Prop), (k x).wp P E → (k x).wp P E')
    (hd : ∀ y F v, (ρ y).p F v → ∀ F', (ρ y).p F' v) (ha : Ev C Γ e ρa ma) (hn : NoStar e) : Ev C Γ (.Call (.Name f p) [e] [] pos) ρ (do let x ← ma; k x) :=
  Ev.callBA (ρs := fun x : α × Unit => [ρa x.1]) (mt := do let a ← ma; let t ← pure (); pure (a, t)) (fun t => k t.1) hb
    (fun X ok => by
      obtain ⟨r, hr, hk⟩ := hc X ok
      refine ⟨r, hr, fun t H vs Q E h w => ?_⟩
      cases h with
      | cons h h' =>
        cases h'
        exact hk t.1 H _ Q E h w) (fun x => hs x.1) hd (EvA.cons ha EvA.nil hn) hn (.inr noArgs)
def absI (x : Int) : Int := if x < 0 then -x else x
theorem Ev.lenL {r : α → Rp} {m : W (List α)} (hb : Blt C "len" (.builtin "len")) (ha : Ev C Γ e (rL C.K r) m) (hn : NoStar e) : Ev C Γ (.Call (.Name "len" p) [e] [] pos) rI (do let x ← m; pure (x.length : Int)) :=
  Ev.callB1 (fun x => pure (x.length : Int)) hb (fun X ok => ⟨_, call_len_seq, fun x H v Q E hv h => by
    obtain ⟨q, vs, ev, hq, t⟩ := hv
    exact ⟨q, vs, by rw [ev], .inl (by rw [ok.K]; exact hq), h _ fun _ _ => by rw [t.length]; rfl⟩⟩) (fun _ _ _ _ h => h) (fun _ _ _ h _ => h) ha hn
def lenW (x : Str) : W Int := W.req (x.length ≤ sizeLine) (pure (x.length : Int))
theorem Ev.lenS {m : W Str} (hb : Blt C "len" (.builtin "len")) (ha : Ev C Γ e rS m) (hn : NoStar e) : Ev C Γ (.Call (.Name "len" p) [e] [] pos) rI (do let x ← m; lenW x) :=
  Ev.callB1 lenW hb (fun X ok => ⟨_, call_len_str, fun x H v Q E hv h => ⟨x, by rw [show v = V.str x from hv], h.1, h.2 _ fun _ _ => rfl⟩⟩) (fun _ _ _ _ h => ⟨h.1, h.2⟩) (fun _ _ _ h _ => h) ha hn
theorem All2.ints {F : Hp} {vs : List V} {xs : List Int} (t : All2 (fun u x => (rI x).p F u) vs xs) : vs = xs.map V.int := t.of_map fun _ _ h => h
theorem All2.bls {F : Hp} {vs : List V} {xs : List Bool} (t : All2 (fun u x => (rB x).p F u) vs xs) : vs = xs.map V.bl := t.of_map fun _ _ h => h
theorem Ev.sum {m : W (List Int)} (hb : Blt C "sum" (.builtin "sum")) (ha : Ev C Γ e (rL C.K rI) m) (hn : NoStar e) (hcm : C.cm = true := by rfl) : Ev C Γ (.Call (.Name "sum" p) [e] [] pos) rI (do let x ← m; pure x.sum) :=
  Ev.callB1 (fun x => pure x.sum) hb (fun X ok => ⟨_, cr_sum (ok.calm.trans hcm), fun x H v Q E hv h => by
    obtain ⟨q, vs, ev, hq, t⟩ := hv
    exact ⟨q, x, by rw [ev], by rw [ok.K, ← t.ints]; exact hq, h _ fun _ _ => rfl⟩⟩) (fun _ _ _ _ h => h) (fun _ _ _ h _ => h) ha hn
theorem Ev.all {m : W (List Bool)} (hb : Blt C "all" (.builtin "all")) (ha : Ev C Γ e (rL C.K rB) m) (hn : NoStar e) (hcm : C.cm = true := by rfl) : Ev C Γ (.Call (.Name "all" p) [e] [] pos) rB (do let x ← m; pure (x.all id)) :=
  Ev.callB1 (fun x => pure (x.all id)) hb (fun X ok => ⟨_, cr_all (ok.calm.trans hcm), fun x H v Q E hv h => by
    obtain ⟨q, vs, ev, hq, t⟩ := hv
    exact ⟨q, x, by rw [ev], by rw [ok.K, ← t.bls]; exact hq, h _ fun _ _ => rfl⟩⟩) (fun _ _ _ _ h => h) (fun _ _ _ h _ => h) ha hn
theorem Ev.any {m : W (List Bool)} (hb : Blt C "any" (.builtin "any")) (ha : Ev C Γ e (rL C.K rB) m) (hn : NoStar e) (hcm : C.cm = true := by rfl) : Ev C Γ (.Call (.Name "any" p) [e] [] pos) rB (do let x ← m; pure (x.any id)) :=
  Ev.callB1 (fun x => pure (x.any id)) hb (fun X ok => ⟨_, cr_any (ok.calm.trans hcm), fun x H v Q E hv h => by
    obtain ⟨q, vs, ev, hq, t⟩ := hv
    exact ⟨q, x, by rw [ev], by rw [ok.K, ← t.bls]; exact hq, h _ fun _ _ => rfl⟩⟩) (fun _ _ _ _ h => h) (fun _ _ _ h _ => h) ha hn
/-- the least of some ints -/
def minW (xs : List Int) : W Int := W.req (xs ≠ []) (W.any fun m => m ∈ xs ∧ ∀ y ∈ xs, m ≤ y)
def maxW (xs : List Int) : W Int := W.req (xs ≠ []) (W.any fun m => m ∈ xs ∧ ∀ y ∈ xs, y ≤ m)
theorem Ev.min {m : W (List Int)} (hb : Blt C "min" (.builtin "min")) (ha : Ev C Γ e (rL C.K rI) m) (hn : NoStar e) (hcm : C.cm = true := by rfl) : Ev C Γ (.Call (.Name "min" p) [e] [] pos) rI (do let x ← m; minW x) :=
  Ev.callB1 minW hb (fun X ok => ⟨_, cr_min (ok.calm.trans hcm), fun x H v Q E hv h => by
    obtain ⟨q, vs, ev, hq, t⟩ := hv
    exact ⟨q, x, by rw [ev], by rw [ok.K, ← t.ints]; exact hq, List.length_pos_iff.mpr h.1, fun m h1 h2 => h.2 m ⟨h1, h2⟩ _ fun _ _ => rfl⟩⟩) (fun _ _ _ _ h => ⟨h.1, h.2⟩) (fun _ _ _ h _ => h) ha hn
theorem Ev.max {m : W (List Int)} (hb : Blt C "max" (.builtin "max")) (ha : Ev C Γ e (rL C.K rI) m) (hn : NoStar e) (hcm : C.cm = true := by rfl) : Ev C Γ (.Call (.Name "max" p) [e] [] pos) rI (do let x ← m; maxW x) :=
  Ev.callB1 maxW hb (fun X ok => ⟨_, cr_max (ok.calm.trans hcm), fun x H v Q E hv h => by
    obtain ⟨q, vs, ev, hq, t⟩ := hv
    exact ⟨q, x, by rw [ev], by rw [ok.K, ← t.ints]; exact hq, List.length_pos_iff.mpr h.1, fun m h1 h2 => h.2 m ⟨h1, h2⟩ _ fun _ _ => rfl⟩⟩) (fun _ _ _ _ h => ⟨h.1, h.2⟩) (fun _ _ _ h _ => h) ha hn
/-- of two arguments -/
theorem Ev.callB2 {f : Str} {id : String} {ρa : α → Rp} {ρb : β → Rp} {ρ : γ → Rp} {ma : W α} {mb : W β} (k : α → β → W γ) (hb : Blt C f (.builtin id))
    (hc : ∀ X, C.Ok X → ∃ r, CallR X (.builtin id) r ∧ ∀ x y H v w Q E, (ρa x).p H v → (ρb y).p H w → (k x y).wp (fun z => ∀ u, (∀ F, Same H F → (ρ z).p F u) → Q u H) E → r [v, w] H Q) (hs : ∀ x y P (E E' : Exn → Prop), (k x y).wp P E → (k x y).wp P E')
    (hd : ∀ y F v, (ρ y).p F v → ∀ F', (ρ y).p F' v) (h1 : Ev C Γ e1 ρa ma) (h2 : Ev C Γ e2 ρb mb) (n1 : NoStar e1) (n2 : NoStar e2) : Ev C Γ (.Call (.Name f p) [e1, e2] [] pos) ρ (do let x ← ma; let y ← mb; k x y) :=
  Ev.callBA (ρs := fun x : α × β × Unit => [ρa x.1, ρb x.2.1]) (mt := do let a ← ma; let t ← (do let b ← mb; let t ← pure (); pure (b, t)); pure (a, t)) (fun t => k t.1 t.2.1) hb
    (fun X ok => by
      obtain ⟨r, hr, hk⟩ := hc X ok
      refine ⟨r, hr, fun t H vs Q E h w => ?_⟩
      cases h with
      | cons h h' =>
        cases h' with
        | cons h' h'' =>
          cases h''
          exact hk t.1 t.2.1 H _ _ Q E h h' w) (fun x => hs x.1 x.2.1) hd (EvA.cons h1 (EvA.cons h2 EvA.nil n2) n1) n1 (.inr (EvA.cons h2 EvA.nil n2).1)
theorem Ev.min2 {ma mb : W Int} (hb : Blt C "min" (.builtin "min")) (h1 : Ev C Γ e1 rI ma) (h2 : Ev C Γ e2 rI mb) (n1 : NoStar e1) (n2 : NoStar e2) (hcm : C.cm = true := by rfl) : Ev C Γ (.Call (.Name "min" p) [e1, e2] [] pos) rI (do let x ← ma; let y ← mb; pure (if y < x then y else x)) :=
  Ev.callB2 (fun x y => pure (if y < x then y else x)) hb (fun X ok => ⟨_, call_min2 (ok.calm.trans hcm), fun x y H v w Q E hv hw h => ⟨x, y, by rw [show v = V.int x from hv, show w = V.int y from hw], h _ fun _ _ => rfl⟩⟩) (fun _ _ _ _ _ h => h) (fun _ _ _ h _ => h) h1 h2 n1 n2
def strW (x : Int) : W Str := W.req (x.natAbs.log2 < 1920) (pure (toString x : Str))
/-- int(text) -/
def intW (x : Str) : W Int := match PySem.intText? x with | some n => W.req (x.length ≤ 640) (pure n) | none => W.bad
/-- list(xs) -/
theorem EvO.listOf {r : α → Rp} {m : W (List α)} (hb : Blt C "list" (.type "list")) (ha : Ev C Γ e (rL C.K r) m) (hn : NoStar e) : EvO C Γ (.Call (.Name "list" p) [e] [] pos) (oL C.fr r) m :=
  fun X Wx ok tk F H g σ s Q hm => by
    refine WE.of (pe_callTy call_list_of (hb.gl ok) (by rw [ok.mg]; exact hb.m) hb.v (pa_cons (pe_W (e := e)) pa_nil (hn [] X.env)) hb.n hb.d (hn [] X.env) rfl) ?_
    refine ha X Wx ok tk F H g σ s _ (m.mono (fun x hx F1 H1 g1 v f1 s1 r1 => ?_) (fun e he => he) hm)
    obtain ⟨q, vs, ev, hq, t⟩ := r1
    exact ⟨q, vs, by rw [ev], .inl (by rw [ok.K]; exact s1.sF.seq hq), fun l hl => EvO.fin (O := oL C.fr r x) f1 s1 hl (fun n => ⟨l, _, rfl, n, rfl, t⟩) hx⟩

/-! ### displays -/
theorem EvO.disp {es : List Expr} {τ : Type} {ρs : τ → List Rp} {mt : W τ} {r : α → Rp} (f : τ → List α) (hf : ∀ t F vs, All2 (fun v R => R.p F v) vs (ρs t) → All2 (fun v x => (r x).p F v) vs (f t)) (hl : ∀ t, (f t).length ≤ 1000) (ha : EvA C Γ es ρs mt) :
    EvO C Γ (.List es pos) (oL C.fr r) (do let t ← mt; pure (f t)) :=
  fun X Wx ok tk F H g σ s Q hm => by
    refine WE.of (pe_lst (pa_W (es := es))) ?_
    refine ha.2 X Wx ok tk F H g σ s _ (mt.mono (fun t ht F1 H1 g1 vs f1 s1 r1 => ?_) (fun e he => he) hm)
    have t2 := hf t F1 vs r1
    exact ⟨by rw [t2.length]; exact Nat.le_trans (hl t) (by decide), fun l hq => EvO.fin (O := oL C.fr r (f t)) f1 s1 hq (fun n => ⟨l, _, rfl, n, rfl, t2⟩) ht⟩
theorem EvO.nil {r : α → Rp} : EvO C Γ (.List [] pos) (oL C.fr r) (pure ([] : List α)) := EvO.disp (fun _ => []) (fun t F vs h => by cases h; exact .nil) (fun _ => Nat.zero_le _) EvA.nil
/-- a new tuple joins F -/
theorem Ev.tup {es : List Expr} {k : Nat} {τ : Type} {ρs : τ → List Rp} {ρ : β → Rp} {mt : W τ} (f : τ → β) (hf : ∀ t F q vs, F q = some (.tup vs) → All2 (fun v R => R.p F v) vs (ρs t) → (ρ (f t)).p F (.ref q)) (hl : ∀ t, (ρs t).length ≤ 1000) (ha : EvA C Γ es ρs mt) :
    Ev C Γ (.Tuple es k pos) ρ (do let t ← mt; pure (f t)) :=
  fun X Wx ok tk F H g σ s Q hm => by
    refine WE.of (pe_tup (pa_W (es := es))) ?_
    refine ha.2 X Wx ok tk F H g σ s _ (mt.mono (fun t ht F1 H1 g1 vs f1 s1 r1 => ?_) (fun e he => he) hm)
    refine ⟨by rw [r1.length]; exact Nat.le_trans (hl t) (by decide), fun q hq => ?_⟩
    obtain ⟨s2, f2⟩ := s1.grow1 (o := .tup vs) hq
    have hF1 : F1 q = Option.none := by
      cases z : F1 q with
      | none => rfl
      | some u => rw [s1.sF q u z] at hq; cases hq
    exact ht _ _ g1 (.ref q) (f1.trans f2) s2 (hf t _ q vs upd_same (r1.imp fun v R z => R.mono (fun b u e => by rw [upd_ne (ne_of_none e hF1)]; exact e) z))
theorem Ev.tup2 {k : Nat} {r1 : α → Rp} {r2 : β → Rp} {m1 : W α} {m2 : W β} (h1 : Ev C Γ e1 r1 m1) (h2 : Ev C Γ e2 r2 m2) (n1 : NoStar e1) (n2 : NoStar e2) : Ev C Γ (.Tuple [e1, e2] k pos) (rT2 C.K r1 r2) (do let x ← m1; let y ← m2; pure (x, y)) :=
  Ev.tup (ρs := fun x : α × β × Unit => [r1 x.1, r2 x.2.1]) (fun t => (t.1, t.2.1)) (fun t F q vs hq h => by
    cases h with
    | cons h h' =>
      cases h' with
      | cons h' h'' =>
        cases h''
        exact ⟨q, _, _, rfl, SqT.of hq, h, h'⟩) (fun _ => by simp) (EvA.cons h1 (EvA.cons h2 EvA.nil n2) n1)
theorem Ev.tup3 {k : Nat} {r1 : α → Rp} {r2 : β → Rp} {r3 : γ → Rp} {m1 : W α} {m2 : W β} {m3 : W γ} (h1 : Ev C Γ e1 r1 m1) (h2 : Ev C Γ e2 r2 m2) (h3 : Ev C Γ e3 r3 m3) (n1 : NoStar e1) (n2 : NoStar e2) (n3 : NoStar e3) :
    Ev C Γ (.Tuple [e1, e2, e3] k pos) (rT3 C.K r1 r2 r3) (do let x ← m1; let y ← m2; let z ← m3; pure (x, y, z)) :=
  Ev.tup (ρs := fun x : α × β × γ × Unit => [r1 x.1, r2 x.2.1, r3 x.2.2.1]) (fun t => (t.1, t.2.1, t.2.2.1)) (fun t F q vs hq h => by
    cases h with
    | cons h h' =>
      cases h' with
      | cons h' h'' =>
        cases h'' with
        | cons h'' h3 =>
          cases h3
          exact ⟨q, _, _, _, rfl, SqT.of hq, h, h', h''⟩) (fun _ => by simp) (EvA.cons h1 (EvA.cons h2 (EvA.cons h3 EvA.nil n3) n2) n1)
theorem EvO.list3 {r : α → Rp} {m1 m2 m3 : W α} (h1 : Ev C Γ e1 r m1) (h2 : Ev C Γ e2 r m2) (h3 : Ev C Γ e3 r m3) (n1 : NoStar e1) (n2 : NoStar e2) (n3 : NoStar e3) : EvO C Γ (.List [e1, e2, e3] pos) (oL C.fr r) (do let x ← m1; let y ← m2; let z ← m3; pure [x, y, z]) :=
  EvO.disp (ρs := fun x : α × α × α × Unit => [r x.1, r x.2.1, r x.2.2.1]) (fun t => [t.1, t.2.1, t.2.2.1]) (fun t F vs h => by
    cases h with
    | cons h h' =>
      cases h' with
      | cons h' h'' =>
        cases h'' with
        | cons h'' h3 => cases h3; exact .cons h (.cons h' (.cons h'' .nil))) (fun _ => by simp) (EvA.cons h1 (EvA.cons h2 (EvA.cons h3 EvA.nil n3) n2) n1)
/-- written ints and texts, any number -/
theorem EvA.wCons {es : List Expr} {r : α → Rp} {x : α} {xs : List α} (h : Ev C Γ e r (pure x)) (ht : EvA C Γ es (fun _ : Unit => xs.map r) (pure ())) (hn : NoStar e) : EvA C Γ (e :: es) (fun _ : Unit => (x :: xs).map r) (pure ()) := by
  have q := EvA.cons h ht hn
  exact ⟨q.1, fun X Wx ok tk F H g σ s Q hm => q.2 X Wx ok tk F H g σ s Q hm⟩
theorem EvO.written {es : List Expr} {r : α → Rp} {xs : List α} (ha : EvA C Γ es (fun _ : Unit => xs.map r) (pure ())) (hl : xs.length ≤ 1000 := by decide) : EvO C Γ (.List es pos) (oL C.fr r) (pure xs) :=
  EvO.disp (fun _ => xs) (fun t F vs h => by
    have e : All2 (fun v R => R.p F v) vs (xs.map r) := h
    clear ha hl h
    generalize hy : xs.map r = ys at e
    induction e generalizing xs with
    | nil => cases xs with
      | nil => exact .nil
      | cons x xs => cases hy
    | cons q _ ih =>
      cases xs with
      | nil => cases hy
      | cons x xs =>
        cases hy
        exact .cons q (ih rfl)) (fun _ => hl) ha

end
end Y

/-! Y5: what is walked, targets, comprehensions -/
namespace Y
open PySem PySem.Spec L2

/-! ### iterators -/
structure ItOk {α : Type} (J : It) (r : α → Rp) (xs : List α) (F0 : Hp) : Prop where
  len : xs.length ≤ sizeLine
  go : ∀ i F H, Same F0 F → Same F H → i < xs.length → J.go i H
  yld : ∀ i x F H v H', Same F0 F → Same F H → xs[i]? = some x → J.yld i H v H' → ∃ G : Hp, (∀ a o, G a = some o → H a = none) ∧ H' = uni H G ∧ (r x).p (uni F G) v
  stop : ∀ i F H, Same F0 F → Same F H → xs.length ≤ i → J.stop i H
@[irreducible] def WI (X : Cx) (tg iter : Expr) : TI := fun σ H R => ∀ pins s, Inv X pins σ H s → wpAny (model X.prog X.w) X.A (eval iter X.env) (fun v s1 => wpAny (model X.prog X.w) X.A (pyIter v) (PIE X pins σ tg R) X.xe s1) X.xe s
theorem pi_W {X : Cx} {tg iter : Expr} : PI X tg iter (WI X tg iter) := ⟨fun pins s σ H R I h => by unfold WI at h; exact h pins s I⟩
theorem WI.of {X : Cx} {tg iter : Expr} {wi : TI} (h : PI X tg iter wi) {σ : St} {H : Hp} {R : It → Hp → Prop} (q : wi σ H R) : WI X tg iter σ H R := by unfold WI; exact fun pins s I => h.run pins s σ H R I q
def HLen (K : PySem.W.Frag) (H : Hp) : Prop := ∀ a xs, SqL K H a xs → xs.length ≤ sizeLine
/-- the lengths of lists that stand -/
theorem WE.len {X : Cx} {e : Expr} {σ : St} {H : Hp} {Q : VK} (h : WE X e σ H fun v H' => HLen X.K H' → Q v H') : WE X e σ H Q := by
  unfold WE at h ⊢
  exact fun pins s I =>
    thn (h pins s I) fun u s' ⟨v, H', I', r, q⟩ => ⟨v, H', I', r, q fun a xs hs => (I'.list hs).choose_spec.2.2⟩
theorem WA.len {X : Cx} {es : List Expr} {σ : St} {H : Hp} {Q : List V → Hp → Prop} (h : WA X es σ H fun v H' => HLen X.K H' → Q v H') : WA X es σ H Q := by
  unfold WA at h ⊢
  exact fun pos pins s I =>
    thn (h pos pins s I) fun u s' ⟨v, H', I', r, q⟩ => ⟨v, H', I', r, q fun a xs hs => (I'.list hs).choose_spec.2.2⟩
def EvI (C : Cc) (Γ : List Slot) (tg iter : Expr) {α : Type} (r : α → Rp) (m : W (List α)) : Prop :=
  ∀ (X : Cx) (Wx : WX), C.Ok X → Takes X Wx → ∀ (F H : Hp) (g : Nat → Hp) (σ : St), StOk C F H Γ σ g → ∀ R : It → Hp → Prop,
    m.wp (fun xs => ∀ F' H' g' J, Fr F H (dU g) F' H' (dU g') → StOk C F' H' Γ σ g' → ItOk J r xs F' → R J H') (XEnd C F H (dU g) Γ σ Wx) → WI X tg iter σ H R
theorem uni_emp {H : Hp} : uni H emp = H := by
  funext b
  unfold uni
  cases H b <;> rfl
section
variable {C : Cc} {Γ : List Slot} {α β γ : Type} {e e1 e2 tg : Expr} {pos p : Pos}
theorem itList' {K : PySem.W.Frag} {r : α → Rp} {xs : List α} {F : Hp} {a : Addr} {vs : List V} (hs : SqL K F a vs) (t : All2 (fun u x => (r x).p F u) vs xs) (hl : vs.length ≤ sizeLine) : ItOk (Itl K a) r xs F where
  len := by rw [← t.length]; exact hl
  go := fun i F' H f s h => ⟨vs, vs[i]'(by rw [t.length]; exact h), (f.trans s).seq hs, List.getElem?_eq_getElem _⟩
  yld := fun i x F' H v H' f s h y => by
    obtain ⟨e, y⟩ := y
    refine ⟨emp, fun a o z => (by cases z), by rw [uni_emp]; exact e, ?_⟩
    rw [uni_emp]
    have := y vs ((f.trans s).seq hs)
    obtain ⟨u, hu, ru⟩ := t.get h
    rw [this] at hu
    cases hu
    exact (r x).mono f ru
  stop := fun i F' H f s h => ⟨vs, (f.trans s).seq hs, by rw [t.length]; exact h⟩
theorem EvI.list {r : α → Rp} {m : W (List α)} (h : Ev C Γ e (rL C.K r) m) : EvI C Γ tg e r m :=
  fun X Wx ok tk F H g σ s R hm => by
    refine WI.of (pi_list (pe_W (e := e))) ?_
    refine WE.len (h X Wx ok tk F H g σ s _ (m.mono (fun xs hx F1 H1 g1 v f1 s1 r1 hl => ?_) (fun e he => he) hm))
    obtain ⟨a, vs, ev, hs, t⟩ := r1
    have hs2 : SqL X.K H1 a vs := by rw [ok.K]; exact s1.sF.seq hs
    refine ⟨a, ev, ⟨vs, hs2⟩, hx F1 H1 g1 _ f1 s1 ?_⟩
    rw [ok.K]
    exact itList' hs t (hl a vs hs2)
/-- lo, lo + 1, .. below hi -/
def rng (lo hi : Int) : List Int := (List.range (hi - lo).toNat).map fun (i : Nat) => lo + (i : Int)
theorem rng_length (lo hi : Int) : (rng lo hi).length = (hi - lo).toNat := by simp [rng]
theorem rng_get {lo hi : Int} {i : Nat} {x : Int} (h : (rng lo hi)[i]? = some x) : x = lo + (i : Int) ∧ i < (hi - lo).toNat := by
  unfold rng at h
  rw [List.getElem?_map] at h
  cases q : (List.range (hi - lo).toNat)[i]? with
  | none => rw [q] at h; cases h
  | some j =>
    rw [q] at h
    have hi' := (List.getElem?_eq_some_iff.mp q)
    obtain ⟨h1, h2⟩ := hi'
    rw [List.getElem_range] at h2
    subst h2
    rw [List.length_range] at h1
    exact ⟨(Option.some.inj h).symm, h1⟩
theorem itRange {lo hi : Int} {F : Hp} (hl : hi - lo ≤ 1000000) : ItOk (Itr lo (hi - lo).toNat) rI (rng lo hi) F where
  len := by rw [rng_length, PySem.sizeLine_eq]; omega
  go := fun i F' H f s h => by rw [rng_length] at h; exact h
  yld := fun i x F' H v H' f s h y => by
    obtain ⟨e, y⟩ := y
    refine ⟨emp, fun a o z => (by cases z), by rw [uni_emp]; exact e, ?_⟩
    rw [(rng_get h).1]
    exact y
  stop := fun i F' H f s h => by rw [rng_length] at h; exact h
def rangeW (lo hi : Int) : W (List Int) := W.req (-1000000 ≤ lo ∧ lo ≤ 1000000 ∧ -1000000 ≤ hi ∧ hi ≤ 1000000 ∧ hi - lo ≤ 1000000) (pure (rng lo hi))
theorem EvI.range1 {m : W Int} (hb : Blt C "range" (.type "range")) (h : Ev C Γ e rI m) (hn : NoStar e) : EvI C Γ tg (.Call (.Name "range" p) [e] [] pos) rI (do let n ← m; rangeW 0 n) :=
  fun X Wx ok tk F H g σ s R hm => by
    refine WI.of (pi_range1 (hb.gl ok) (by rw [ok.mg]; exact hb.m) (pa_cons (pe_W (e := e)) pa_nil (hn [] X.env)) (hn [] X.env)) ?_
    refine h X Wx ok tk F H g σ s _ (m.mono (fun n hx F1 H1 g1 v f1 s1 r1 => ?_) (fun e he => he) hm)
    obtain ⟨⟨h1, h2, h3, h4, h5⟩, hx⟩ := hx
    refine ⟨n, by rw [show v = V.int n from r1], by omega, by omega, ?_⟩
    have e0 : n.toNat = (n - 0).toNat := by rw [Int.sub_zero]
    rw [e0]
    exact hx F1 H1 g1 _ f1 s1 (itRange h5)
theorem itPair {K : PySem.W.Frag} {r1 : α → Rp} {r2 : β → Rp} {F H : Hp} {T : Addr} {x y : V} {a : α} {b : β} (hF : Same F H) (hT : H T = none) (h1 : (r1 a).p F x) (h2 : (r2 b).p F y) :
    ∃ G : Hp, (∀ a o, G a = some o → H a = none) ∧ upd H T (.tup [x, y]) = uni H G ∧ (rT2 K r1 r2 (a, b)).p (uni F G) (.ref T) := by
  have hFT : F T = none := by
    cases q : F T with
    | none => rfl
    | some u => rw [hF T u q] at hT; cases hT
  refine ⟨Y.one T (.tup [x, y]), fun b o e => ?_, (uni_upd hT).symm, ?_⟩
  · by_cases z : b = T
    · rw [z]; exact hT
    · rw [one_ne z] at e; cases e
  · rw [uni_upd hFT]
    have sm : Same F (upd F T (.tup [x, y])) := fun b u e => by rw [upd_ne (ne_of_none e hFT)]; exact e
    exact ⟨T, x, y, rfl, SqT.of upd_same, (r1 a).mono sm h1, (r2 b).mono sm h2⟩
theorem EvI.zip {r1 : α → Rp} {r2 : β → Rp} {m1 : W (List α)} {m2 : W (List β)} {elts : List Expr} {kk : Nat} {tpos : Pos} (hb : Blt C "zip" (.type "zip")) (h1 : Ev C Γ e1 (rL C.K r1) m1) (h2 : Ev C Γ e2 (rL C.K r2) m2) (n1 : NoStar e1) (n2 : NoStar e2) :
    EvI C Γ (.Tuple elts kk tpos) (.Call (.Name "zip" p) [e1, e2] [] pos) (rT2 C.K r1 r2) (do let a ← m1; let b ← m2; pure (a.zip b)) :=
  fun X Wx ok tk F H g σ s R hm => by
    refine WI.of (pi_zip (hb.gl ok) (by rw [ok.mg]; exact hb.m) (pa_W (es := [e1, e2])) (n1 [e2] X.env) (by rw [n2 [] X.env]; rfl)) ?_
    refine WA.len (WA.of (pa_cons (pe_W (e := e1)) (pa_cons (pe_W (e := e2)) pa_nil (n2 [] X.env)) (n1 [e2] X.env)) ?_)
    refine h1 X Wx ok tk F H g σ s _ (m1.mono (fun a ha F1 H1 g1 v f1 s1 r1' => ?_) (fun e he => he) hm)
    refine h2 X Wx ok tk F1 H1 g1 σ s1 _ (m2.mono (fun b hb F2 H2 g2 w f2 s2 r2' => ?_) (fun e he => XEnd.later f1 he) ha)
    intro hl
    obtain ⟨p1, vs, ev, hs1, t1⟩ := (rL C.K r1 a).mono f2.sF r1'
    obtain ⟨p2, ws, ew, hs2, t2⟩ := r2'
    have q1 : SqL X.K H2 p1 vs := by rw [ok.K]; exact s2.sF.seq hs1
    have q2 : SqL X.K H2 p2 ws := by rw [ok.K]; exact s2.sF.seq hs2
    refine ⟨p1, p2, vs, ws, by rw [ev, ew], q1, q2, hb F2 H2 g2 _ (f1.trans f2) s2 ?_⟩
    have l1 := t1.length
    have l2 := t2.length
    rw [ok.K]
    refine ⟨?_, fun i F' H' f s h => ?_, fun i x F' H' v H3 f s h y => ?_, fun i F' H' f s h => ?_⟩
    · rw [List.length_zip, ← l1]
      exact Nat.le_trans (Nat.min_le_left _ _) (hl p1 vs q1)
    · rw [List.length_zip] at h
      exact ⟨vs, ws, vs[i]'(by omega), ws[i]'(by omega), (f.trans s).seq hs1, (f.trans s).seq hs2, List.getElem?_eq_getElem _, List.getElem?_eq_getElem _⟩
    · obtain ⟨T, x', y', e1, hT, e2, y1, y2⟩ := y
      subst e1 e2
      obtain ⟨xa, xb⟩ := x
      obtain ⟨ha', hb'⟩ := List.getElem?_zip_eq_some.mp h
      obtain ⟨u1, hu1, ru1⟩ := t1.get ha'
      obtain ⟨u2, hu2, ru2⟩ := t2.get hb'
      rw [y1 vs ((f.trans s).seq hs1)] at hu1
      rw [y2 ws ((f.trans s).seq hs2)] at hu2
      cases hu1
      cases hu2
      exact itPair s hT ((r1 xa).mono f ru1) ((r2 xb).mono f ru2)
    · rw [List.length_zip] at h
      exact ⟨vs, ws, (f.trans s).seq hs1, (f.trans s).seq hs2, by omega⟩
/-- the items with their places -/
def enum (xs : List α) : List (Int × α) := (rng 0 xs.length).zip xs
theorem EvI.enum {r : α → Rp} {m : W (List α)} {elts : List Expr} {kk : Nat} {tpos : Pos} (hb : Blt C "enumerate" (.type "enumerate")) (h : Ev C Γ e (rL C.K r) m) (hn : NoStar e) :
    EvI C Γ (.Tuple elts kk tpos) (.Call (.Name "enumerate" p) [e] [] pos) (rT2 C.K rI r) (do let a ← m; pure (Y.enum a)) :=
  fun X Wx ok tk F H g σ s R hm => by
    refine WI.of (pi_enum (hb.gl ok) (by rw [ok.mg]; exact hb.m) (pa_W (es := [e])) (hn [] X.env)) ?_
    refine WA.len (WA.of (pa_cons (pe_W (e := e)) pa_nil (hn [] X.env)) ?_)
    refine h X Wx ok tk F H g σ s _ (m.mono (fun a ha F1 H1 g1 v f1 s1 r1' => ?_) (fun e he => he) hm)
    intro hl
    obtain ⟨p1, vs, ev, hs1, t1⟩ := r1'
    have q1 : SqL X.K H1 p1 vs := by rw [ok.K]; exact s1.sF.seq hs1
    refine ⟨p1, vs, by rw [ev], q1, ha F1 H1 g1 _ f1 s1 ?_⟩
    have l1 := t1.length
    have l2 : (Y.enum a).length = a.length := by
      unfold Y.enum
      rw [List.length_zip, rng_length]
      omega
    rw [ok.K]
    refine ⟨?_, fun i F' H' f s h => ?_, fun i x F' H' v H3 f s h y => ?_, fun i F' H' f s h => ?_⟩
    · rw [l2, ← l1]
      exact hl p1 vs q1
    · rw [l2] at h
      exact ⟨vs, vs[i]'(by omega), (f.trans s).seq hs1, List.getElem?_eq_getElem _⟩
    · obtain ⟨T, x', e1, hT, e2, y1⟩ := y
      subst e1 e2
      obtain ⟨xa, xb⟩ := x
      unfold Y.enum at h
      obtain ⟨ha', hb'⟩ := List.getElem?_zip_eq_some.mp h
      obtain ⟨u1, hu1, ru1⟩ := t1.get hb'
      rw [y1 vs ((f.trans s).seq hs1)] at hu1
      cases hu1
      obtain ⟨ea, _⟩ := rng_get ha'
      exact itPair s hT (show V.int i = V.int xa by
        have ea' : xa = 0 + (i : Int) := ea
        rw [ea', Int.zero_add]) ((r xb).mono f ru1)
    · rw [l2] at h
      exact ⟨vs, (f.trans s).seq hs1, by omega⟩
/-- from the last one back -/
theorem EvI.rev {r : α → Rp} {m : W (List α)} (hb : Blt C "reversed" (.type "reversed")) (h : Ev C Γ e (rL C.K r) m) (hn : NoStar e) : EvI C Γ tg (.Call (.Name "reversed" p) [e] [] pos) r (do let a ← m; pure a.reverse) :=
  fun X Wx ok tk F H g σ s R hm => by
    refine WI.of (pi_reversed (hb.gl ok) (by rw [ok.mg]; exact hb.m) (pa_W (es := [e])) (hn [] X.env)) ?_
    refine WA.len (WA.of (pa_cons (pe_W (e := e)) pa_nil (hn [] X.env)) ?_)
    refine h X Wx ok tk F H g σ s _ (m.mono (fun a ha F1 H1 g1 v f1 s1 r1' => ?_) (fun e he => he) hm)
    intro hl
    obtain ⟨p1, vs, ev, hs1, t1⟩ := r1'
    have q1 : SqL X.K H1 p1 vs := by rw [ok.K]; exact s1.sF.seq hs1
    refine ⟨p1, vs, by rw [ev], q1, ha F1 H1 g1 _ f1 s1 ?_⟩
    have l1 := t1.length
    rw [ok.K]
    refine ⟨?_, fun i F' H' f s h => ?_, fun i x F' H' v H3 f s h y => ?_, fun i F' H' f s h => ?_⟩
    · rw [List.length_reverse, ← l1]
      exact hl p1 vs q1
    · rw [List.length_reverse] at h
      exact ⟨by omega, vs, vs[vs.length - 1 - i]'(by omega), (f.trans s).seq hs1, List.getElem?_eq_getElem _⟩
    · obtain ⟨e1, y1⟩ := y
      have y2 := y1 vs ((f.trans s).seq hs1)
      have hi : i < a.length := by
        have q := (List.getElem?_eq_some_iff.mp h).1
        rwa [List.length_reverse] at q
      rw [List.getElem?_reverse hi] at h
      obtain ⟨u1, hu1, ru1⟩ := t1.get h
      rw [← l1, y2] at hu1
      cases hu1
      refine ⟨emp, fun a o z => (by cases z), by rw [uni_emp]; exact e1, ?_⟩
      rw [uni_emp]
      exact (r x).mono f ru1
    · rw [List.length_reverse] at h
      show vs.length ≤ i
      omega
/-- sign by sign -/
def signs (z : Str) : List Str := z.cps.toList.map fun c => ⟨#[c]⟩
theorem EvI.str {m : W Str} (h : Ev C Γ e rS m) : EvI C Γ tg e rS (do let z ← m; W.req (z.length ≤ sizeLine) (pure (signs z))) :=
  fun X Wx ok tk F H g σ s R hm => by
    refine WI.of (pi_str (pe_W (e := e))) ?_
    refine h X Wx ok tk F H g σ s _ (m.mono (fun z hx F1 H1 g1 v f1 s1 r1 => ?_) (fun e he => he) hm)
    obtain ⟨hz, hx⟩ := hx
    have hl : (signs z).length = z.cps.size := by simp [signs]
    refine ⟨z, r1, hx F1 H1 g1 _ f1 s1 ⟨by rw [hl]; exact hz, fun i F' H' f s h => by rw [hl] at h; exact h, fun i x F' H' v H3 f s h y => ?_, fun i F' H' f s h => by rw [hl] at h; exact h⟩⟩
    obtain ⟨e, c, hc, ev⟩ := y
    refine ⟨emp, fun a o z => (by cases z), by rw [uni_emp]; exact e, ?_⟩
    unfold signs at h
    rw [List.getElem?_map, Array.getElem?_toList, hc] at h
    have h' := Option.some.inj h
    rw [ev, ← h']
    rfl
end

/-! ### targets -/
/-- t is how tg is assigned; up what it makes of the slots, by a value of kind r -/
structure EvG (C : Cc) (tg : Expr) {α : Type} (r : α → Rp) (t : TG) (up : List Slot → α → List Slot) : Prop where
  pg : ∀ X, C.Ok X → PG X tg t
  rd : ∀ (Γ : List Slot) (F H : Hp) (g : Nat → Hp) (σ : St) (x : α) (v : V) (Q : St → Hp → Prop), StOk C F H Γ σ g → (r x).p F v → (∀ σ', StOk C F H (up Γ x) σ' g → Q σ' H) → t v σ H Q
/-- the name may be stored -/
def Sto (C : Cc) (x : Str) : Prop := C.sc.names.lookup x = some .local ∨ (C.sc.names.lookup x = some .cell ∧ C.fnc x = true)
theorem Sto.loc {C : Cc} {x : Str} (h : Sto C x) {X : Cx} (ok : C.Ok X) : Loc X.env.scope x := by
  rw [ok.sc]
  rcases h with h | h
  · exact .inl h
  · exact .inr h.1
theorem Sto.fn {C : Cc} {x : Str} (h : Sto C x) {X : Cx} (ok : C.Ok X) : X.fn x = true ∨ X.env.scope.names.lookup x = some .local := by
  rw [ok.sc]
  rcases h with h | h
  · exact .inr h
  · exact .inl (ok.fnc x h.2)
section
variable {C : Cc} {Γ : List Slot} {α β γ : Type} {pos : Pos}
theorem EvG.name {i : Nat} {x : Str} {r : α → Rp} (hN : C.N[i]? = some x) (hx : Sto C x) : EvG C (.Name x pos) r (gName i) (fun Γ a => Γ.set i (.val (r a))) :=
  ⟨fun X ok => pg_name ok.ndX (by rw [ok.N]; exact hN) (hx.loc ok) (hx.fn ok), fun Γ F H g σ x v Q s h k => k _ (s.set_val h)⟩
theorem EvG.tup2 {i j : Nat} {x1 x2 : Str} {p1 p2 : Pos} {k : Nat} {tp : Pos} {r1 : α → Rp} {r2 : β → Rp} (h1 : C.N[i]? = some x1) (h2 : C.N[j]? = some x2) (s1 : Sto C x1) (s2 : Sto C x2) (hcm : C.cm = true := by rfl) :
    EvG C (.Tuple [.Name x1 p1, .Name x2 p2] k tp) (rT2 C.K r1 r2) (gTup C.K 2 (gCons (gName i) (gCons (gName j) gNil))) (fun Γ x => (Γ.set i (.val (r1 x.1))).set j (.val (r2 x.2))) where
  pg := fun X ok => by
    rw [← ok.K]
    exact pg_tup (ok.calm.trans hcm) (pgs_cons (pg_name ok.ndX (by rw [ok.N]; exact h1) (s1.loc ok) (s1.fn ok)) (pgs_cons (pg_name ok.ndX (by rw [ok.N]; exact h2) (s2.loc ok) (s2.fn ok)) pgs_nil))
  rd := fun Γ F H g σ x v Q s h kk => by
    obtain ⟨a, v1, v2, e, q, t1, t2⟩ := h
    exact ⟨a, _, e, Same.seqT s.sF q, rfl, v1, _, rfl, v2, _, rfl, rfl, kk _ ((s.set_val t1).set_val t2)⟩
theorem EvG.tup3 {i j l : Nat} {x1 x2 x3 : Str} {p1 p2 p3 : Pos} {k : Nat} {tp : Pos} {r1 : α → Rp} {r2 : β → Rp} {r3 : γ → Rp} (h1 : C.N[i]? = some x1) (h2 : C.N[j]? = some x2) (h3 : C.N[l]? = some x3) (s1 : Sto C x1) (s2 : Sto C x2) (s3 : Sto C x3) (hcm : C.cm = true := by rfl) :
    EvG C (.Tuple [.Name x1 p1, .Name x2 p2, .Name x3 p3] k tp) (rT3 C.K r1 r2 r3) (gTup C.K 3 (gCons (gName i) (gCons (gName j) (gCons (gName l) gNil)))) (fun Γ x => ((Γ.set i (.val (r1 x.1))).set j (.val (r2 x.2.1))).set l (.val (r3 x.2.2))) where
  pg := fun X ok => by
    rw [← ok.K]
    exact pg_tup (ok.calm.trans hcm) (pgs_cons (pg_name ok.ndX (by rw [ok.N]; exact h1) (s1.loc ok) (s1.fn ok)) (pgs_cons (pg_name ok.ndX (by rw [ok.N]; exact h2) (s2.loc ok) (s2.fn ok)) (pgs_cons (pg_name ok.ndX (by rw [ok.N]; exact h3) (s3.loc ok) (s3.fn ok)) pgs_nil)))
  rd := fun Γ F H g σ x v Q s h kk => by
    obtain ⟨a, v1, v2, v3, e, q, t1, t2, t3⟩ := h
    exact ⟨a, _, e, Same.seqT s.sF q, rfl, v1, _, rfl, v2, _, rfl, v3, _, rfl, rfl, kk _ (((s.set_val t1).set_val t2).set_val t3)⟩
end
end Y

/-! Y6: comprehensions -/
namespace Y
open PySem PySem.Spec L2
def W.noX {α : Type} (m : W α) : W α := ⟨fun P _ => m.wp P (fun _ => False), fun hp _ x => m.mono hp (fun _ h => h) x⟩
def compM {α β : Type} (t : α → W Bool) (f : α → W β) : List α → W (List β)
  | [] => W.ret []
  | x :: xs => do
    let b ← t x
    if b = true then (do let y ← f x; let ys ← compM t f xs; pure (y :: ys)) else compM t f xs
def wipeG (Γ : List Slot) : List Nat → List Slot
  | [] => Γ
  | v :: vs => (wipeG Γ vs).set v .no
/-- a clause's tests -/
def EvTs (C : Cc) (Γ : List Slot) (ifs : List Expr) (m : W Bool) : Prop :=
  ∀ (X : Cx) (Wx : WX), C.Ok X → Takes X Wx → ∀ (F H : Hp) (g : Nat → Hp) (σ : St), StOk C F H Γ σ g → ∀ Q : Bool → Hp → Prop,
    m.wp (fun a => ∀ F' H' g', Fr F H (dU g) F' H' (dU g') → StOk C F' H' Γ σ g' → Q a H') (XEnd C F H (dU g) Γ σ Wx) → ∃ t, PTs X ifs t ∧ t σ H Q
section
variable {C : Cc} {Γ : List Slot} {α β : Type}
theorem EvTs.nil : EvTs C Γ [] (pure true) := fun X Wx ok tk F H g σ s Q hm => ⟨_, pts_nil, hm F H g Fr.refl s⟩
theorem EvTs.one {c : Expr} {m : W Bool} (h : EvT C Γ c m) : EvTs C Γ [c] m := fun X Wx ok tk F H g σ s Q hm => ⟨_, pts_one (pt_W (e := c)), h X Wx ok tk F H g σ s Q hm⟩
/-- the block's static context -/
abbrev Cc.blk (C : Cc) (scope : Scope) : Cc := { C with sc := relS scope C.sc, fnc := fun x => scope.names.lookup x == some .cell, ex := none }
theorem Cc.Ok.blk {X : Cx} (ok : C.Ok X) (s : Shared) (H : Hp) (scope : Scope) (cl : List (Str × Addr)) (Ca : Addr) (fp : List Addr) : (C.blk scope).Ok (X.blk s H scope (compEnvC scope cl Ca X.env) fp) where
  prog := ok.prog
  w := ok.w
  K := ok.K
  mg := ok.mg
  base := ok.base
  N := ok.N
  sc := by
    show relS scope X.env.scope = relS scope C.sc
    rw [ok.sc]
  nd := ok.nd
  calm := ok.calm
  room := ok.room
  units := ok.units
  exc := fun _ _ _ h => nomatch h
  fnc := fun x h => h
theorem StOk.wipe {F H : Hp} {σ : St} {g : Nat → Hp} (s : StOk C F H Γ σ g) : ∀ vs : List Nat, StOk C F H (wipeG Γ vs) (L2.wipe σ vs) g
  | [] => s
  | v :: vs => (StOk.wipe s vs).set_no
theorem StOk.blk {F H : Hp} {σ : St} {g : Nat → Hp} {scope : Scope} : StOk (C.blk scope) F H Γ σ g ↔ StOk C F H Γ σ g := ⟨fun s => ⟨s.len, s.slot, s.sF, s.sG, s.dF, s.dG, s.fr⟩, fun s => ⟨s.len, s.slot, s.sF, s.sG, s.dF, s.dG, s.fr⟩⟩
theorem wipe_at {σ : St} {i : Nat} : ∀ {vs : List Nat}, i ∉ vs → (L2.wipe σ vs)[i]? = σ[i]?
  | [], _ => rfl
  | v :: vs, h => by
    rw [List.mem_cons, not_or] at h
    unfold L2.wipe
    rw [List.getElem?_set_ne (fun q => h.1 q.symm), wipe_at h.2]
/-- the slots of before, behind a block -/
theorem StOk.unwipe {F H F2 H2 : Hp} {σ σ2 : St} {g g2 : Nat → Hp} {Γ2 : List Slot} {vs : List Nat} (s : StOk C F H Γ σ g) (s2 : StOk C F2 H2 Γ2 σ2 g2) (hF : Same F F2) (hΓ : ∀ i, i ∉ vs → Γ2[i]? = Γ[i]?) (hσ : L2.wipe σ2 vs = L2.wipe σ vs)
    (hn : ∀ v ∈ vs, ∀ O, Γ[v]? ≠ some (.own O)) : StOk C F2 H2 Γ σ g2 where
  len := s.len
  slot := fun i S e => by
    by_cases hi : i ∈ vs
    · cases S with
      | no => trivial
      | val R => exact (s.slot i _ e).mono hF
      | own O => exact absurd e (hn i hi O)
    · have h2 : σ2[i]? = σ[i]? := by rw [← wipe_at (σ := σ2) hi, hσ, wipe_at hi]
      rw [← h2]
      exact s2.slot i S ((hΓ i hi).trans e)
  sF := s2.sF
  sG := s2.sG
  dF := s2.dF
  dG := s2.dG
  fr := s2.fr
/-- the new list's step -/
theorem lc_step {F H : Hp} {U : Addr → Prop} {Fc Hc Gy F6 H6 : Hp} {gc g6 : Nat → Hp} {σ : St} {D : Addr} {o o' : HO} (fc : Fr F H U Fc Hc (fun b => dU gc b ∨ one D o b ≠ none)) (hD : Hc D = some o) (hFD : Fc D = none) (hgD : ∀ j, gc j D = none)
    (hGy : ∀ a o, Gy a = some o → Hc a = none) (f : Fr (uni Fc Gy) (uni Hc Gy) (dU gc) F6 H6 (dU g6)) (s6 : StOk C F6 H6 Γ σ g6) :
    H6 D = some o ∧ F6 D = none ∧ (∀ j, g6 j D = none) ∧ StOk C F6 (upd H6 D o') Γ σ g6 ∧ Fr F H U F6 (upd H6 D o') (fun b => dU g6 b ∨ one D o' b ≠ none) ∧ Fr F H U F6 H6 (fun b => dU g6 b ∨ one D o b ≠ none) := by
  have hDu : (uni Hc Gy) D = some o := uni_l D _ hD
  have ngc : ¬ dU gc D := fun ⟨j, q⟩ => q (hgD j)
  have k1 : H6 D = some o := f.keep D _ hDu ngc
  have k2 : F6 D = none := by
    cases q : F6 D with
    | none => rfl
    | some u =>
      rcases f.fF D (by rw [q]; simp) with z | z | z
      · have gD : Gy D = none := by
          cases e : Gy D with
          | none => rfl
          | some o2 => have := hGy D o2 e; rw [hD] at this; cases this
        exact absurd (uni_none hFD gD) z
      · rw [hDu] at z; cases z
      · exact absurd z ngc
  have k3 : ∀ j, g6 j D = none := fun j => by
    cases q : g6 j D with
    | none => rfl
    | some u =>
      rcases f.gs D ⟨j, by rw [q]; simp⟩ with z | z
      · exact absurd z ngc
      · rw [hDu] at z; cases z
  have oneD : ∀ {o : HO} {b : Addr}, one D o b ≠ none → b = D := fun {o b} q => by
    by_cases z : b = D
    · exact z
    · exact absurd (one_ne z) q
  have HcN : ∀ b, H b = none → Hc b = none ∨ Hc b ≠ none := fun b _ => by
    cases Hc b with
    | none => exact .inl rfl
    | some u => exact .inr (by simp)
  have base : ∀ {o2 : HO} {H7 : Hp}, (∀ b, b ≠ D → H7 b = H6 b) → H7 D ≠ none → Fr F H U F6 H7 (fun b => dU g6 b ∨ one D o2 b ≠ none) := fun {o2 H7} e7 d7 => by
    refine ⟨(fc.sF.trans uni_l).trans f.sF, fun b q => ?_, fun b u q n => ?_, fun b q => ?_, fun b q => ?_⟩
    · rcases f.fF b q with z | z | z
      · cases e : Fc b with
        | some u => exact fc.fF b (by rw [e]; simp)
        | none =>
          cases e2 : Gy b with
          | none => exact absurd (uni_none e e2) z
          | some u =>
            refine .inr (.inl ?_)
            have := hGy b u e2
            cases e3 : H b with
            | none => rfl
            | some w => exact absurd this (fc.dom b (by rw [e3]; simp))
      · refine .inr (.inl ?_)
        cases e3 : H b with
        | none => rfl
        | some w =>
          have h1 := fc.dom b (by rw [e3]; simp)
          cases e4 : Hc b with
          | none => exact absurd e4 h1
          | some w2 => rw [uni_l b _ e4] at z; cases z
      · rcases fc.gs b (.inl z) with y | y
        · exact .inr (.inr y)
        · exact .inr (.inl y)
    · have h1 := fc.keep b u q n
      have nb : ¬ dU gc b := fun z => by
        rcases fc.gs b (.inl z) with y | y
        · exact n y
        · rw [q] at y; cases y
      have bD : b ≠ D := fun z => by
        subst z
        rcases fc.gs b (.inr (by rw [one_same]; simp)) with y | y
        · exact n y
        · rw [q] at y; cases y
      rw [e7 b bD]
      exact f.keep b u (uni_l b _ h1) nb
    · by_cases bD : b = D
      · subst bD; exact d7
      · rw [e7 b bD]
        refine f.dom b ?_
        have h1 := fc.dom b q
        cases e4 : Hc b with
        | none => exact absurd e4 h1
        | some w2 => rw [uni_l b _ e4]; simp
    · rcases q with q | q
      · rcases f.gs b q with z | z
        · exact fc.gs b (.inl z)
        · refine .inr ?_
          cases e3 : H b with
          | none => rfl
          | some w =>
            have h1 := fc.dom b (by rw [e3]; simp)
            cases e4 : Hc b with
            | none => exact absurd e4 h1
            | some w2 => rw [uni_l b _ e4] at z; cases z
      · rw [oneD q]
        exact fc.gs D (.inr (by rw [one_same]; simp))
  refine ⟨k1, k2, k3, ⟨s6.len, s6.slot, fun b u e => ?_, fun j b u e => ?_, s6.dF, s6.dG, fun b e => ?_⟩, base (fun b z => upd_ne z) (by rw [upd_same]; simp), base (fun b z => rfl) (by rw [k1]; simp)⟩
  · rw [upd_ne (fun z => by rw [z, k2] at e; cases e)]; exact s6.sF b u e
  · rw [upd_ne (fun z => by rw [z, k3 j] at e; cases e)]; exact s6.sG j b u e
  · by_cases z : b = D
    · rw [z, upd_same] at e; cases e
    · rw [upd_ne z] at e; exact s6.fr b e
theorem tLc_gen {wi : TI} {tg elt : Expr} {ifs : List Expr} {scope : Scope} {vs : List Nat} {r : α → Rp} {r' : β → Rp} {m : W (List α)} {mt : α → W Bool} {me : α → W β} {t : TG} {up : List Slot → α → List Slot}
    (hg : EvG (C.blk scope) tg r t up) (hup : ∀ x i, i ∉ vs → (up (wipeG Γ vs) x)[i]? = Γ[i]?) (hn : ∀ v ∈ vs, ∀ O, Γ[v]? ≠ some (.own O))
    (hw : ∀ v σ H (Q : St → Hp → Prop), t v (L2.wipe σ vs) H (fun σ2 H2 => L2.wipe σ2 vs = L2.wipe σ vs → Q σ2 H2) → t v (L2.wipe σ vs) H (fun σ2 H2 => L2.wipe σ2 vs = L2.wipe σ vs ∧ Q σ2 H2))
    (ht : ∀ x, EvTs (C.blk scope) (up (wipeG Γ vs) x) ifs (mt x)) (he : ∀ x, Ev (C.blk scope) (up (wipeG Γ vs) x) elt r' (me x))
    {X : Cx} {Wx : WX} (ok : C.Ok X) {F H : Hp} {g : Nat → Hp} {σ : St} (hi : ∀ R : It → Hp → Prop, m.wp (fun xs => ∀ F' H' g' J, Fr F H (dU g) F' H' (dU g') → StOk C F' H' Γ σ g' → ItOk J r xs F' → R J H') (XEnd C F H (dU g) Γ σ Wx) → wi σ H R) {Q : VK}
    (hm : (do let xs ← m; W.noX (compM mt me xs)).wp (fun a => ∀ (F' H' : Hp) (g' : Nat → Hp) (G : Hp) (v : V), Fr F H (dU g) F' H' (fun b => dU g' b ∨ G b ≠ none) → StOk C F' H' Γ σ g' → Same G H' → Dis F' G → (∀ i, Dis (g' i) G) → (∀ b, G b ≠ none → C.fr b) → (oL C.fr r' a).p F' G v → Q v H') (XEnd C F H (dU g) Γ σ Wx)) :
    tLc wi t (fun σ2 H2 Q => ∀ (s0 : Shared) (H0 : Hp) (Ca : Addr) (cl : List (Str × Addr)) (fp : List Addr), ∃ tt, PTs (X.blk s0 H0 scope (compEnvC scope cl Ca X.env) fp) ifs tt ∧ tt σ2 H2 Q)
      (fun σ2 H2 Q => ∀ (s0 : Shared) (H0 : Hp) (Ca : Addr) (cl : List (Str × Addr)) (fp : List Addr), WE (X.blk s0 H0 scope (compEnvC scope cl Ca X.env) fp) elt σ2 H2 Q) vs σ H Q := by
  refine hi _ (m.mono (fun xs hx F1 H1 g1 J f1 s1 hJ D hD => ?_) (fun e he => he) hm)
  refine ⟨fun i n Hc => n = xs.length - i ∧ i ≤ xs.length ∧ ∃ Fc gc accV acc, StOk C Fc Hc Γ σ gc ∧ Same F1 Fc ∧ Fr F H (dU g) Fc Hc (fun b => dU gc b ∨ one D (.lst accV) b ≠ none) ∧ Hc D = some (.lst accV) ∧ Fc D = none ∧ (∀ j, gc j D = none) ∧ C.fr D ∧ All2 (fun u y => (r' y).p Fc u) accV acc ∧ acc.length ≤ i ∧
      (compM mt me (xs.drop i)).wp (fun zs => ∀ (F' H' : Hp) (g' : Nat → Hp) (G : Hp) (v : V), Fr F H (dU g) F' H' (fun b => dU g' b ∨ G b ≠ none) → StOk C F' H' Γ σ g' → Same G H' → Dis F' G → (∀ i, Dis (g' i) G) → (∀ b, G b ≠ none → C.fr b) → (oL C.fr r' (acc ++ zs)).p F' G v → Q v H') (fun _ => False), ⟨xs.length, by simp, Nat.zero_le _, ?_⟩, ?_⟩
  · obtain ⟨f2, s2, h3, h4, h5, h6, h7⟩ := new_own (O := oL C.fr r' []) (o := .lst []) s1 hD (fun n => ⟨D, [], rfl, n, rfl, .nil⟩)
    refine ⟨F1, g1, [], [], s2, Same.refl _, f1.trans f2, upd_same, ?_, fun j => ?_, s1.fr D hD, .nil, Nat.zero_le _, hx⟩
    · rcases h4 D with q | q
      · exact q
      · rw [one_same] at q; cases q
    · rcases h5 j D with q | q
      · exact q
      · rw [one_same] at q; cases q
  · rintro i n Hc ⟨rfl, hi', Fc, gc, accV, acc, sc, hF1, fc, hD', hFD, hgD, frD, hacc, hlen, hwp⟩
    by_cases hlt : i < xs.length
    · refine .inr ⟨hJ.go i Fc Hc hF1 sc.sF hlt, _, fun H' h => ⟨xs.length - (i + 1), by omega, h⟩, fun v H' y => ?_⟩
      obtain ⟨x, hxi⟩ : ∃ x, xs[i]? = some x := ⟨_, List.getElem?_eq_getElem hlt⟩
      have hdrop : xs.drop i = x :: xs.drop (i + 1) := by
        rw [List.drop_eq_getElem_cons hlt]
        have := List.getElem?_eq_getElem hlt
        rw [hxi] at this
        rw [← Option.some.inj this]
      obtain ⟨Gy, hGy, eH', ry⟩ := hJ.yld i x Fc Hc v H' hF1 sc.sF hxi y
      subst eH'
      obtain ⟨s3, f3⟩ := sc.grow hGy
      refine hw v σ _ _ ?_
      refine hg.rd _ _ _ gc _ x v _ (StOk.blk.mpr (s3.wipe vs)) ry fun σ2 s4 hwσ => ?_
      intro s0 H0 Ca cl fp
      rw [hdrop] at hwp
      refine (ht x) _ (fun _ _ _ _ => False) (ok.blk s0 H0 scope cl Ca fp) takes0 _ _ gc σ2 s4 _ ((mt x).mono (fun b hb F5 H5 g5 f5 s5 => ?_) (fun e h => h.elim) hwp)
      have back : ∀ {F6 H6 : Hp} {g6 : Nat → Hp}, Fr (uni Fc Gy) (uni Hc Gy) (dU gc) F6 H6 (dU g6) → StOk (C.blk scope) F6 H6 (up (wipeG Γ vs) x) σ2 g6 → StOk C F6 H6 Γ σ g6 := fun {F6 H6 g6} f s6 =>
        s3.unwipe (StOk.blk.mp s6) f.sF (hup x) hwσ hn
      cases b with
      | false =>
        rw [if_neg Bool.false_ne_true]
        obtain ⟨k1, k2, k3, _, _, k4⟩ := lc_step (o' := .lst accV) fc hD' hFD hgD hGy f5 (back f5 s5)
        exact ⟨rfl, hlt, F5, g5, accV, acc, back f5 s5, (hF1.trans uni_l).trans f5.sF, k4, k1, k2, k3, frD, hacc.imp fun u y z => (r' y).mono (uni_l.trans f5.sF) z, Nat.le_succ_of_le hlen, hb⟩
      | true =>
        rw [if_pos rfl]
        intro s0 H0 Ca cl fp
        refine he x _ (fun _ _ _ _ => False) (ok.blk s0 H0 scope cl Ca fp) takes0 F5 H5 g5 σ2 s5 _ ((me x).mono (fun y hy F6 H6 g6 w f6 s6 r6 => ?_) (fun e h => h.elim) hb)
        have f56 := f5.trans f6
        obtain ⟨k1, k2, k3, k4, k5, _⟩ := lc_step (o' := .lst (accV ++ [w])) fc hD' hFD hgD hGy f56 (back f56 s6)
        refine ⟨accV, k1, ?_, rfl, hlt, F6, g6, accV ++ [w], acc ++ [y], k4, (hF1.trans uni_l).trans f56.sF, k5, upd_same, k2, k3, frD, (hacc.imp fun u y z => (r' y).mono (uni_l.trans f56.sF) z).snoc r6, ?_, ?_⟩
        · rw [hacc.length]
          exact Nat.lt_of_lt_of_le (Nat.lt_of_le_of_lt hlen hlt) hJ.len
        · rw [List.length_append, List.length_singleton]
          exact Nat.succ_le_succ hlen
        · refine (compM mt me (xs.drop (i + 1))).mono (fun zs hz => ?_) (fun _ h => h) hy
          rw [List.append_assoc, List.singleton_append]
          exact hz
    · have e : i = xs.length := by omega
      subst e
      refine .inl ⟨hJ.stop _ Fc Hc hF1 sc.sF (Nat.le_refl _), ?_⟩
      rw [List.drop_length] at hwp
      have hend := hwp
      refine hend Fc Hc gc (one D (.lst accV)) (.ref D) fc sc (fun b o q => ?_) (fun b => ?_) (fun j b => ?_) (fun b q => ?_) ⟨D, accV, rfl, frD, rfl, by rw [List.append_nil]; exact hacc⟩
      · by_cases z : b = D
        · subst z; rw [one_same] at q; rw [hD']; exact q
        · rw [one_ne z] at q; cases q
      · by_cases z : b = D
        · subst z; exact .inl hFD
        · exact .inr (one_ne z)
      · by_cases z : b = D
        · subst z; exact .inl (hgD j)
        · exact .inr (one_ne z)
      · by_cases z : b = D
        · subst z; exact frD
        · exact absurd (one_ne z) q
theorem tLc_of {tg iter elt : Expr} {ifs : List Expr} {scope : Scope} {vs : List Nat} {r : α → Rp} {r' : β → Rp} {m : W (List α)} {mt : α → W Bool} {me : α → W β} {t : TG} {up : List Slot → α → List Slot} (hi : EvI C Γ tg iter r m)
    (hg : EvG (C.blk scope) tg r t up) (hup : ∀ x i, i ∉ vs → (up (wipeG Γ vs) x)[i]? = Γ[i]?) (hn : ∀ v ∈ vs, ∀ O, Γ[v]? ≠ some (.own O))
    (hw : ∀ v σ H (Q : St → Hp → Prop), t v (L2.wipe σ vs) H (fun σ2 H2 => L2.wipe σ2 vs = L2.wipe σ vs → Q σ2 H2) → t v (L2.wipe σ vs) H (fun σ2 H2 => L2.wipe σ2 vs = L2.wipe σ vs ∧ Q σ2 H2))
    (ht : ∀ x, EvTs (C.blk scope) (up (wipeG Γ vs) x) ifs (mt x)) (he : ∀ x, Ev (C.blk scope) (up (wipeG Γ vs) x) elt r' (me x))
    {X : Cx} {Wx : WX} (ok : C.Ok X) (tk : Takes X Wx) {F H : Hp} {g : Nat → Hp} {σ : St} (s : StOk C F H Γ σ g) {Q : VK}
    (hm : (do let xs ← m; W.noX (compM mt me xs)).wp (fun a => ∀ (F' H' : Hp) (g' : Nat → Hp) (G : Hp) (v : V), Fr F H (dU g) F' H' (fun b => dU g' b ∨ G b ≠ none) → StOk C F' H' Γ σ g' → Same G H' → Dis F' G → (∀ i, Dis (g' i) G) → (∀ b, G b ≠ none → C.fr b) → (oL C.fr r' a).p F' G v → Q v H') (XEnd C F H (dU g) Γ σ Wx)) :
    tLc (WI X tg iter) t (fun σ2 H2 Q => ∀ (s0 : Shared) (H0 : Hp) (Ca : Addr) (cl : List (Str × Addr)) (fp : List Addr), ∃ tt, PTs (X.blk s0 H0 scope (compEnvC scope cl Ca X.env) fp) ifs tt ∧ tt σ2 H2 Q)
      (fun σ2 H2 Q => ∀ (s0 : Shared) (H0 : Hp) (Ca : Addr) (cl : List (Str × Addr)) (fp : List Addr), WE (X.blk s0 H0 scope (compEnvC scope cl Ca X.env) fp) elt σ2 H2 Q) vs σ H Q :=
  tLc_gen hg hup hn hw ht he ok (fun R hr => hi X Wx ok tk F H g σ s R hr) hm
/-- what a comprehension wants -/
structure LcOk (C : Cc) (Γ : List Slot) (tg : Expr) (scope : Scope) (own : List (Str × Nat)) {α : Type} (r : α → Rp) (t : TG) (up : List Slot → α → List Slot) : Prop where
  blk : BlkOk C.N C.sc scope own
  g : EvG (C.blk scope) tg r t up
  up : ∀ x i, i ∉ own.map (·.2) → (up (wipeG Γ (own.map (·.2))) x)[i]? = Γ[i]?
  no : ∀ v ∈ own.map (·.2), ∀ O, Γ[v]? ≠ some (.own O)
  w : ∀ v σ H (Q : St → Hp → Prop), t v (L2.wipe σ (own.map (·.2))) H (fun σ2 H2 => L2.wipe σ2 (own.map (·.2)) = L2.wipe σ (own.map (·.2)) → Q σ2 H2) → t v (L2.wipe σ (own.map (·.2))) H (fun σ2 H2 => L2.wipe σ2 (own.map (·.2)) = L2.wipe σ (own.map (·.2)) ∧ Q σ2 H2)
theorem EvO.comp {tg iter elt : Expr} {ifs : List Expr} {scope : Scope} {pos : Pos} {own : List (Str × Nat)} {r : α → Rp} {r' : β → Rp} {m : W (List α)} {mt : α → W Bool} {me : α → W β} {t : TG} {up : List Slot → α → List Slot} (hL : LcOk C Γ tg scope own r t up) (hi : EvI C Γ tg iter r m)
    (ht : ∀ x, EvTs (C.blk scope) (up (wipeG Γ (own.map (·.2))) x) ifs (mt x)) (he : ∀ x, Ev (C.blk scope) (up (wipeG Γ (own.map (·.2))) x) elt r' (me x)) (hs : ∀ (env : Env) x, foldedSetIterable iter env x = pure x := by intro _ _; rfl) (hcm : C.cm = true := by rfl) :
    EvO C Γ (.ListComp elt [⟨tg, iter, ifs, 0⟩] scope pos) (oL C.fr r') (do let xs ← m; W.noX (compM mt me xs)) :=
  fun X Wx ok tk F H g σ s Q hm => by
    refine WE.of (pe_lc (own := own) (ok.calm.trans hcm) ok.ndX pi_W (by rw [ok.N, ok.sc]; exact hL.blk) (fun s0 H0 Ca cl fp => hL.g.pg _ (ok.blk s0 H0 scope cl Ca fp)) (fun s0 H0 Ca cl fp => ⟨fun pins s σ H Q I h => ?_⟩) (fun s0 H0 Ca cl fp => ⟨fun pins s σ H Q I h => pe_W.run pins s σ H Q I (h s0 H0 Ca cl fp)⟩) (hs X.env))
      (tLc_of hi hL.g hL.up hL.no hL.w ht he ok tk s hm)
    obtain ⟨tt, h1, h2⟩ := h s0 H0 Ca cl fp
    exact h1.run pins s σ H Q I h2
/-- the slots of a single name -/
theorem LcOk.one {x : Str} {p : Pos} {i : Nat} {scope : Scope} {r : α → Rp} (hb : blkC C.N C.sc scope [(x, i)] = true) (hN : C.N[i]? = some x) (hx : Sto (C.blk scope) x) (hn : ∀ O, Γ[i]? ≠ some (.own O)) :
    LcOk C Γ (.Name x p) scope [(x, i)] r (gName i) (fun Γ a => Γ.set i (.val (r a))) where
  blk := blkOk_by hb
  g := EvG.name hN hx
  up := fun a j hj => by
    simp only [List.map_cons, List.map_nil, List.mem_singleton] at hj
    show ((Γ.set i .no).set i (.val (r a)))[j]? = _
    rw [List.getElem?_set_ne (fun q => hj q.symm), List.getElem?_set_ne (fun q => hj q.symm)]
  no := fun v hv O => by
    simp only [List.map_cons, List.map_nil, List.mem_singleton] at hv
    subst hv
    exact hn O
  w := fun v σ H Q h => by
    have e : L2.wipe ((L2.wipe σ [i]).set i (some v)) [i] = L2.wipe σ [i] := by
      show ((σ.set i none).set i (some v)).set i none = σ.set i none
      rw [List.set_set, List.set_set]
    exact ⟨e, h e⟩
theorem LcOk.two {x y : Str} {p1 p2 tp : Pos} {k i j : Nat} {scope : Scope} {r1 : α → Rp} {r2 : β → Rp} (hb : blkC C.N C.sc scope [(x, i), (y, j)] = true) (hN : C.N[i]? = some x) (hM : C.N[j]? = some y) (hx : Sto (C.blk scope) x) (hy : Sto (C.blk scope) y) (hij : i ≠ j)
    (hn : ∀ O, Γ[i]? ≠ some (.own O)) (hn2 : ∀ O, Γ[j]? ≠ some (.own O)) (hcm : C.cm = true := by rfl) :
    LcOk C Γ (.Tuple [.Name x p1, .Name y p2] k tp) scope [(x, i), (y, j)] (rT2 C.K r1 r2) (gTup C.K 2 (gCons (gName i) (gCons (gName j) gNil))) (fun Γ x => (Γ.set i (.val (r1 x.1))).set j (.val (r2 x.2))) where
  blk := blkOk_by hb
  g := EvG.tup2 (C := C.blk scope) hN hM hx hy hcm
  up := fun a l hl => by
    simp only [List.map_cons, List.map_nil, List.mem_cons, List.not_mem_nil, or_false, not_or] at hl
    show ((((Γ.set j .no).set i .no).set i _).set j _)[l]? = _
    rw [List.getElem?_set_ne (fun q => hl.2 q.symm), List.getElem?_set_ne (fun q => hl.1 q.symm), List.getElem?_set_ne (fun q => hl.1 q.symm), List.getElem?_set_ne (fun q => hl.2 q.symm)]
  no := fun v hv O => by
    simp only [List.map_cons, List.map_nil, List.mem_cons, List.not_mem_nil, or_false] at hv
    rcases hv with rfl | rfl
    · exact hn O
    · exact hn2 O
  w := fun v σ H Q h => by
    obtain ⟨a, xs, e, q, l, v1, r, e1, v2, r2, e2, e3, h⟩ := h
    have e : L2.wipe (((L2.wipe σ [i, j]).set i (some v1)).set j (some v2)) [i, j] = L2.wipe σ [i, j] := by
      apply List.ext_getElem?
      intro n
      simp only [List.map_cons, List.map_nil, L2.wipe, List.getElem?_set, List.length_set]
      by_cases h1 : i = n
      · simp only [if_pos h1]
      · by_cases h2 : j = n
        · simp only [if_neg h1, if_pos h2]
        · simp only [if_neg h1, if_neg h2]
    refine ⟨a, xs, by assumption, q, l, v1, r, e1, v2, r2, e2, e3, e, h e⟩
theorem LcOk.three {γ : Type} {x y z : Str} {p1 p2 p3 tp : Pos} {k i j l : Nat} {scope : Scope} {r1 : α → Rp} {r2 : β → Rp} {r3 : γ → Rp} (hb : blkC C.N C.sc scope [(x, i), (y, j), (z, l)] = true) (hN : C.N[i]? = some x) (hM : C.N[j]? = some y) (hL : C.N[l]? = some z) (hx : Sto (C.blk scope) x) (hy : Sto (C.blk scope) y) (hz : Sto (C.blk scope) z) (hij : i ≠ j) (hil : i ≠ l) (hjl : j ≠ l)
    (hn : ∀ O, Γ[i]? ≠ some (.own O)) (hn2 : ∀ O, Γ[j]? ≠ some (.own O)) (hn3 : ∀ O, Γ[l]? ≠ some (.own O)) (hcm : C.cm = true := by rfl) :
    LcOk C Γ (.Tuple [.Name x p1, .Name y p2, .Name z p3] k tp) scope [(x, i), (y, j), (z, l)] (rT3 C.K r1 r2 r3) (gTup C.K 3 (gCons (gName i) (gCons (gName j) (gCons (gName l) gNil)))) (fun Γ x => ((Γ.set i (.val (r1 x.1))).set j (.val (r2 x.2.1))).set l (.val (r3 x.2.2))) where
  blk := blkOk_by hb
  g := EvG.tup3 (C := C.blk scope) hN hM hL hx hy hz hcm
  up := fun a n hl => by
    simp only [List.map_cons, List.map_nil, List.mem_cons, List.not_mem_nil, or_false, not_or] at hl
    show ((((((Γ.set l .no).set j .no).set i .no).set i _).set j _).set l _)[n]? = _
    rw [List.getElem?_set_ne (fun q => hl.2.2 q.symm), List.getElem?_set_ne (fun q => hl.2.1 q.symm), List.getElem?_set_ne (fun q => hl.1 q.symm), List.getElem?_set_ne (fun q => hl.1 q.symm), List.getElem?_set_ne (fun q => hl.2.1 q.symm), List.getElem?_set_ne (fun q => hl.2.2 q.symm)]
  no := fun v hv O => by
    simp only [List.map_cons, List.map_nil, List.mem_cons, List.not_mem_nil, or_false] at hv
    rcases hv with rfl | rfl | rfl
    · exact hn O
    · exact hn2 O
    · exact hn3 O
  w := fun v σ H Q h => by
    obtain ⟨a, xs, e, q, ln, v1, r, e1, v2, r2, e2, v3, r3, e3, e4, h⟩ := h
    have e5 : L2.wipe ((((L2.wipe σ [i, j, l]).set i (some v1)).set j (some v2)).set l (some v3)) [i, j, l] = L2.wipe σ [i, j, l] := by
      apply List.ext_getElem?
      intro n
      simp only [List.map_cons, List.map_nil, L2.wipe, List.getElem?_set, List.length_set]
      by_cases h1 : i = n
      · simp only [if_pos h1]
      · by_cases h2 : j = n
        · simp only [if_neg h1, if_pos h2]
        · by_cases h3 : l = n
          · simp only [if_neg h1, if_neg h2, if_pos h3]
          · simp only [if_neg h1, if_neg h2, if_neg h3]
    exact ⟨a, xs, e, q, ln, v1, r, e1, v2, r2, e2, v3, r3, e3, e4, e5, h e5⟩
end
end Y

/-! Y7: statements, loops -/
namespace Y
open PySem PySem.Spec L2
inductive Out where
  /-- falls through, with these slots; .. to a loop's next turn (continue too); continue; break -/
  | nx (Γ : List Slot) | lp (Γ : List Slot) | ct (Γ : List Slot) | bk (Γ : List Slot)
  /-- returns a value; returns, own parameters as said -/
  | rt (R : Rp) | rtG (R : Rp) (Γ : List Slot)
  /-- falls off the end -/
  | ft
  | any
def OutOk (C : Cc) (D : Ends) (F H : Hp) (U : Addr → Prop) : Out → Prop
  | .nx Γ => ∀ F' H' g' σ', Fr F H U F' H' (dU g') → StOk C F' H' Γ σ' g' → D.nx σ' H'
  | .lp Γ => (∀ F' H' g' σ', Fr F H U F' H' (dU g') → StOk C F' H' Γ σ' g' → D.nx σ' H') ∧ ∀ F' H' g' σ', Fr F H U F' H' (dU g') → StOk C F' H' Γ σ' g' → D.ct σ' H'
  | .ct Γ => ∀ F' H' g' σ', Fr F H U F' H' (dU g') → StOk C F' H' Γ σ' g' → D.ct σ' H'
  | .bk Γ => ∀ F' H' g' σ', Fr F H U F' H' (dU g') → StOk C F' H' Γ σ' g' → D.bk σ' H'
  | .rt R => ∀ F' H' g' v, Fr F H U F' H' (dU g') → Same F' H' → R.p F' v → D.rt v H'
  | .rtG R Γ => ∀ F' H' g' σ' v, Fr F H U F' H' (dU g') → StOk C F' H' Γ σ' g' → R.p F' v → D.rt v H'
  | .ft => ∀ F' H' g' σ', Fr F H U F' H' (dU g') → Same F' H' → D.nx σ' H'
  | .any => True
theorem OutOk.later {C : Cc} {D : Ends} {F H F' H' : Hp} {U U' : Addr → Prop} (f : Fr F H U F' H' U') {o : Out} (h : OutOk C D F H U o) : OutOk C D F' H' U' o := by
  cases o with
  | nx Γ => exact fun F2 H2 g2 σ2 f2 s => h F2 H2 g2 σ2 (f.trans f2) s
  | lp Γ => exact ⟨fun F2 H2 g2 σ2 f2 s => h.1 F2 H2 g2 σ2 (f.trans f2) s, fun F2 H2 g2 σ2 f2 s => h.2 F2 H2 g2 σ2 (f.trans f2) s⟩
  | ct Γ => exact fun F2 H2 g2 σ2 f2 s => h F2 H2 g2 σ2 (f.trans f2) s
  | bk Γ => exact fun F2 H2 g2 σ2 f2 s => h F2 H2 g2 σ2 (f.trans f2) s
  | rt R => exact fun F2 H2 g2 v f2 s r => h F2 H2 g2 v (f.trans f2) s r
  | rtG R Γ => exact fun F2 H2 g2 σ2 v f2 s r => h F2 H2 g2 σ2 v (f.trans f2) s r
  | ft => exact fun F2 H2 g2 σ2 f2 s => h F2 H2 g2 σ2 (f.trans f2) s
  | any => trivial
/-- what is wanted of an exception of a statement -/
def XEndS (C : Cc) (F H : Hp) (U : Addr → Prop) (Wx : WX) (e : Exn) : Prop :=
  ∀ F' H' g' σ' cls d, Fr F H U F' H' (dU g') → Same F' H' → XOk C.toMc e H H' (dU g') cls d → Wx cls d σ' H'
theorem XEndS.later {C : Cc} {F H F' H' : Hp} {U U' : Addr → Prop} {Wx : WX} {e : Exn} (f : Fr F H U F' H' U') (h : XEndS C F H U Wx e) : XEndS C F' H' U' Wx e :=
  fun F2 H2 g2 σ2 cls d f2 s x => h F2 H2 g2 σ2 cls d (f.trans f2) s (x.later f)
theorem XEndS.ex {C : Cc} {F H : Hp} {g : Nat → Hp} {Γ : List Slot} {σ : St} {Wx : WX} {e : Exn} (h : XEndS C F H (dU g) Wx e) : XEnd C F H (dU g) Γ σ Wx e :=
  fun F2 H2 g2 cls d f s x => h F2 H2 g2 σ cls d f s.sF x
structure Cc.OkS (C : Cc) (X : Cx) : Prop extends C.Ok X where
  po : PassesOwn (model X.prog X.w) X.A X.env X.xe
  stk : X.stack = X.env :: X.outer
  frm : X.env.frame = some X.env.locals
/-- a block -/
def Ex (C : Cc) (Γ : List Slot) (sts : List Stmt) {ω : Type} (J : ω → Out) (m : W ω) : Prop :=
  ∀ (X : Cx) (Wx : WX), C.OkS X → Takes X Wx → ∀ (F H : Hp) (g : Nat → Hp) (σ : St), StOk C F H Γ σ g → ∀ D : Ends,
    m.wp (fun o => OutOk C D F H (dU g) (J o)) (XEndS C F H (dU g) Wx) → WS X sts D σ H
/-- weaker slots, one by one -/
inductive Le1 : Slot → Slot → Prop
  | no {S} : Le1 S .no
  | rf {S} : Le1 S S
  | sb {R R' : Rp} (h : ∀ F v, R.p F v → R'.p F v) : Le1 (.val R) (.val R')
theorem Sub.of {Γ Γ' : List Slot} (h : All2 Le1 Γ Γ') : Sub Γ Γ' := ⟨h.length, fun i S' e => by
  obtain ⟨S, e1, l⟩ := h.get e
  cases l with
  | no => exact .inl rfl
  | rf => exact .inr (.inl e1)
  | sb hh => exact .inr (.inr ⟨_, _, rfl, e1, hh⟩)⟩
section
variable {C : Cc} {Γ Γ' : List Slot} {α β γ ω ω' : Type} {J : ω → Out} {e e1 e2 : Expr} {pos p : Pos} {rest : List Stmt}

/-! ### ends -/
theorem Ex.nil {o : ω} (hJ : J o = .nx Γ') (hs : All2 Le1 Γ Γ') : Ex C Γ [] J (pure o) := fun X Wx ok tk F H g σ s D hm => by
  replace hm : OutOk C D F H (dU g) (J o) := hm
  rw [hJ] at hm
  exact WS.of pss_nil (hm F H g σ Fr.refl (s.weak (Sub.of hs)))
theorem Ex.nilLp {o : ω} (hJ : J o = .lp Γ') (hs : All2 Le1 Γ Γ') : Ex C Γ [] J (pure o) := fun X Wx ok tk F H g σ s D hm => by
  replace hm : OutOk C D F H (dU g) (J o) := hm
  rw [hJ] at hm
  exact WS.of pss_nil (hm.1 F H g σ Fr.refl (s.weak (Sub.of hs)))
theorem Ex.nilFt {o : ω} (hJ : J o = .ft) : Ex C Γ [] J (pure o) := fun X Wx ok tk F H g σ s D hm => by
  replace hm : OutOk C D F H (dU g) (J o) := hm
  rw [hJ] at hm
  exact WS.of pss_nil (hm F H g σ Fr.refl s.sF)
/-- the first statement, then the others -/
theorem Ex.cons {st : Stmt} {m : W ω} (h : ∀ (X : Cx) (Wx : WX), C.OkS X → Takes X Wx → ∀ (F H : Hp) (g : Nat → Hp) (σ : St), StOk C F H Γ σ g → ∀ D : Ends,
    m.wp (fun o => OutOk C D F H (dU g) (J o)) (XEndS C F H (dU g) Wx) → W1 X st { D with nx := WS X rest D } σ H) : Ex C Γ (st :: rest) J m :=
  fun X Wx ok tk F H g σ s D hm => WS.of (pss_cons (ps_W (st := st)) (pss_W (st := rest))) (h X Wx ok tk F H g σ s D hm)
theorem Ex.ret {ρ : α → Rp} {m : W α} (f : α → ω) (hJ : ∀ a, J (f a) = .rt (ρ a)) (h : Ev C Γ e ρ m) : Ex C Γ (.Return (some e) pos :: rest) J (do let a ← m; pure (f a)) :=
  Ex.cons fun X Wx ok tk F H g σ s D hm => W1.of (ps_ret (pe_W (e := e))) (h X Wx ok.toOk tk F H g σ s _ (m.mono (fun a ha F1 H1 g1 v f1 s1 r1 => by
    replace ha : OutOk C D F H (dU g) (J (f a)) := ha
    rw [hJ] at ha
    exact ha F1 H1 g1 v f1 s1.sF r1) (fun e he => he.ex) hm))
theorem Ex.cont {o : ω} (hJ : J o = .ct Γ') (hs : All2 Le1 Γ Γ') : Ex C Γ (.Continue pos :: rest) J (pure o) :=
  Ex.cons fun X Wx ok tk F H g σ s D hm => W1.of ps_continue (by
    replace hm : OutOk C D F H (dU g) (J o) := hm
    rw [hJ] at hm
    exact hm F H g σ Fr.refl (s.weak (Sub.of hs)))
theorem Ex.brk {o : ω} (hJ : J o = .bk Γ') (hs : All2 Le1 Γ Γ') : Ex C Γ (.Break pos :: rest) J (pure o) :=
  Ex.cons fun X Wx ok tk F H g σ s D hm => W1.of ps_break (by
    replace hm : OutOk C D F H (dU g) (J o) := hm
    rw [hJ] at hm
    exact hm F H g σ Fr.refl (s.weak (Sub.of hs)))
/-! ### stores -/
theorem Ex.later {m : W ω} {X : Cx} {Wx : WX} {D : Ends} {F H F1 H1 : Hp} {g g1 : Nat → Hp} {σ1 : St} {Γ1 : List Slot} (h : Ex C Γ1 rest J m) (ok : C.OkS X) (tk : Takes X Wx) (f : Fr F H (dU g) F1 H1 (dU g1)) (s1 : StOk C F1 H1 Γ1 σ1 g1)
    (hm : m.wp (fun o => OutOk C D F H (dU g) (J o)) (XEndS C F H (dU g) Wx)) : WS X rest D σ1 H1 :=
  h X Wx ok tk F1 H1 g1 σ1 s1 D (m.mono (fun _ z => z.later f) (fun _ z => z.later f) hm)
theorem Ex.set {i : Nat} {x : Str} {px : Pos} {ρ : α → Rp} {m : W α} {k : α → W ω} (hN : C.N[i]? = some x) (hx : Sto C x) (h : Ev C Γ e ρ m) (hr : ∀ a, Ex C (Γ.set i (.val (ρ a))) rest J (k a))
    (hs : ∀ X : Cx, C.Ok X → swapsWith e (some (.Name x px)) pos.line X.env = pure false := by intro _ _; rfl) : Ex C Γ (.Assign [.Name x px] e pos :: rest) J (do let a ← m; k a) :=
  Ex.cons fun X Wx ok tk F H g σ s D hm => W1.of (ps_set ok.toOk.ndX (by rw [ok.N]; exact hN) (hx.loc ok.toOk) (pe_W (e := e)) (hs X ok.toOk) (hx.fn ok.toOk))
    (h X Wx ok.toOk tk F H g σ s _ (m.mono (fun a ha F1 H1 g1 v f1 s1 r1 => (hr a).later ok tk f1 (s1.set_val r1) ha) (fun e he => he.ex) hm))
theorem Ex.setO {i : Nat} {x : Str} {px : Pos} {O : α → Op} {m : W α} {k : α → W ω} (hN : C.N[i]? = some x) (hx : Sto C x) (h : EvO C Γ e O m) (hr : ∀ a, Ex C (Γ.set i (.own (O a))) rest J (k a))
    (hs : ∀ X : Cx, C.Ok X → swapsWith e (some (.Name x px)) pos.line X.env = pure false := by intro _ _; rfl) : Ex C Γ (.Assign [.Name x px] e pos :: rest) J (do let a ← m; k a) :=
  Ex.cons fun X Wx ok tk F H g σ s D hm => W1.of (ps_set ok.toOk.ndX (by rw [ok.N]; exact hN) (hx.loc ok.toOk) (pe_W (e := e)) (hs X ok.toOk) (hx.fn ok.toOk))
    (h X Wx ok.toOk tk F H g σ s _ (m.mono (fun a ha F1 H1 g1 G v f1 s1 sG dF dG nG r1 => (hr a).later ok tk (f1.less fun b ⟨j, q⟩ => by
      unfold setG at q
      split at q
      · exact .inr q
      · exact .inl ⟨j, q⟩) (s1.set_own r1 sG dF fun j _ => dG j) ha) (fun e he => he.ex) hm))
/-- name = [..], the name a local: as a value, as an own list -/
theorem lcSet {i : Nat} {y : Str} {py : Pos} {tg iter elt : Expr} {ifs : List Expr} {scope : Scope} {own : List (Str × Nat)} {r : α → Rp} {r' : β → Rp} {t : TG} {up : List Slot → α → List Slot} {m : W (List α)} {mt : α → W Bool} {me : α → W β} {k : List β → W ω}
    {S : List β → Slot} (hS : ∀ a F H g σ G v, StOk C F H Γ σ g → Same G H → Dis F G → (∀ j, Dis (g j) G) → (oL C.fr r' a).p F G v → ∃ F' g', StOk C F' H (Γ.set i (S a)) (σ.set i (some v)) g' ∧ Fr F H (fun b => dU g b ∨ G b ≠ none) F' H (dU g'))
    (hN : C.N[i]? = some y) (hy : C.sc.names.lookup y = some .local) (hL : LcOk C Γ tg scope own r t up) (hi : EvI C Γ tg iter r m)
    (ht : ∀ x, EvTs (C.blk scope) (up (wipeG Γ (own.map (·.2))) x) ifs (mt x)) (he : ∀ x, Ev (C.blk scope) (up (wipeG Γ (own.map (·.2))) x) elt r' (me x)) (hr : ∀ a, Ex C (Γ.set i (S a)) rest J (k a))
    (hsw : ∀ X, C.Ok X → swapsWith (.ListComp elt [⟨tg, iter, ifs, 0⟩] scope p) (some (.Name y py)) pos.line X.env = pure true) (hs : ∀ (env : Env) x, foldedSetIterable iter env x = pure x) (hcm : C.cm = true := by rfl) :
    Ex C Γ (.Assign [.Name y py] (.ListComp elt [⟨tg, iter, ifs, 0⟩] scope p) pos :: rest) J (do let a ← (do let xs ← m; W.noX (compM mt me xs)); k a) :=
  Ex.cons fun X Wx ok tk F H g σ s D hm => by
    refine W1.of (ps_setLc (i := i) (own := own) (ok.calm.trans hcm) ok.toOk.ndX (by rw [ok.N]; exact hN) (by rw [ok.sc]; exact hy) (hsw X ok.toOk) pi_W (by rw [ok.N, ok.sc]; exact hL.blk) (fun s0 H0 Ca cl fp => hL.g.pg _ (ok.toOk.blk s0 H0 scope cl Ca fp)) (fun s0 H0 Ca cl fp => ⟨fun pins s σ H Q I h => ?_⟩) (fun s0 H0 Ca cl fp => ⟨fun pins s σ H Q I h => pe_W.run pins s σ H Q I (h s0 H0 Ca cl fp)⟩) (hs X.env))
      (tLc_of hi hL.g hL.up hL.no hL.w ht he ok.toOk tk s ((do let xs ← m; W.noX (compM mt me xs) : W (List β)).mono (fun a ha F1 H1 g1 G v f1 s1 sG dF dG nG r1 => ?_) (fun e he => he.ex) hm))
    · obtain ⟨tt, h1, h2⟩ := h s0 H0 Ca cl fp
      exact h1.run pins s σ H Q I h2
    · obtain ⟨F2, g2, s2, f2⟩ := hS a F1 H1 g1 σ G v s1 sG dF dG r1
      exact (hr a).later ok tk (f1.trans f2) s2 ha
theorem lcVal {i : Nat} {r' : β → Rp} (a : List β) (F H : Hp) (g : Nat → Hp) (σ : St) (G : Hp) (v : V) (s : StOk C F H Γ σ g) (sG : Same G H) (dF : Dis F G) (dG : ∀ j, Dis (g j) G) (r : (oL C.fr r' a).p F G v) :
    ∃ F' g', StOk C F' H (Γ.set i (.val (rN C.fr r' a))) (σ.set i (some v)) g' ∧ Fr F H (fun b => dU g b ∨ G b ≠ none) F' H (dU g') := by
  have s2 : StOk C (uni F G) H Γ σ g := ⟨s.len, fun i S e => (s.slot i S e).mono uni_l, fun b o e => by
    rcases of_uni e with q | ⟨_, q⟩
    · exact s.sF b o q
    · exact sG b o q, s.sG, fun j b => by
    rcases s.dF j b with q | q
    · rcases dG j b with q2 | q2
      · exact .inr q2
      · exact .inl (uni_none q q2)
    · exact .inr q, s.dG, s.fr⟩
  refine ⟨uni F G, g, s2.set_val (oL_rN dF r), uni_l, fun b q => ?_, fun b o e _ => e, fun b q => q, fun b q => .inl (.inl q)⟩
  cases e : F b with
  | some o => exact .inl (by simp)
  | none =>
    cases e2 : G b with
    | none => exact absurd (uni_none e e2) q
    | some o => exact .inr (.inr (.inr (by simp)))
theorem swLocal {y : Str} {elt : Expr} {gs : List Comprehension} {scope : Scope} {l : Nat} {py : Pos} (hk : C.sc.kind = .function) (hy : C.sc.names.lookup y = some .local) (hl : (py.line == p.line) = true)
    (ha : (scope.names.any fun (n, k) => n == y && (k == .local || k == .cell)) = false) (X : Cx) (ok : C.Ok X) : swapsWith (.ListComp elt gs scope p) (some (.Name y py)) l X.env = pure true :=
  sw_true (by rw [ok.sc]; exact hk) (by rw [ok.sc]; exact hy) hl ha
/-- an own list joins F -/
theorem Ex.freeze {i : Nat} {r : α → Rp} {xs : List α} {sts : List Stmt} {m : W ω} (hΓ : Γ[i]? = some (.own (oL C.fr r xs))) (h : Ex C (Γ.set i (.val (rN C.fr r xs))) sts J m) : Ex C Γ sts J m := fun X Wx ok tk F H g σ s D hm => by
  obtain ⟨v, e, r1⟩ := s.get_own hΓ
  have s1 : StOk C F H Γ σ (setG g i emp) → True := fun _ => trivial
  have sE : StOk C F H (Γ.set i .no) σ (setG g i emp) := ⟨by rw [List.length_set]; exact s.len, fun j S q => by
    by_cases hj : i = j
    · subst hj
      have hl : i < Γ.length := (List.getElem?_eq_some_iff.mp hΓ).1
      rw [List.getElem?_set_self hl] at q
      cases q
      trivial
    · rw [List.getElem?_set_ne hj] at q
      rw [setG_ne (fun z => hj z.symm)]
      exact s.slot j S q, s.sF, fun j => by
    by_cases hj : j = i
    · subst hj; rw [setG_same]; exact fun b o q => by cases q
    · rw [setG_ne hj]; exact s.sG j, fun j => by
    by_cases hj : j = i
    · subst hj; rw [setG_same]; exact Dis.emp
    · rw [setG_ne hj]; exact s.dF j, fun j k hjk => by
    by_cases hj : j = i
    · subst hj; rw [setG_same]; exact Dis.emp.symm
    · rw [setG_ne hj]
      by_cases hk : k = i
      · subst hk; rw [setG_same]; exact Dis.emp
      · rw [setG_ne hk]; exact s.dG j k hjk, s.fr⟩
  obtain ⟨F2, g2, s2, f2⟩ := lcVal (i := i) xs F H (setG g i emp) σ (g i) v sE (s.sG i) (s.dF i) (fun j => by
    by_cases hj : j = i
    · subst hj; rw [setG_same]; exact Dis.emp.symm
    · rw [setG_ne hj]; exact s.dG j i hj) r1
  have eσ : σ.set i (some v) = σ := by
    apply List.ext_getElem?
    intro j
    by_cases hj : i = j
    · subst hj
      rw [List.getElem?_set_self (by rw [← s.len]; exact (List.getElem?_eq_some_iff.mp hΓ).1)]
      exact e.symm
    · rw [List.getElem?_set_ne hj]
  have eΓ : (Γ.set i .no).set i (.val (rN C.fr r xs)) = Γ.set i (.val (rN C.fr r xs)) := List.set_set ..
  rw [eσ, eΓ] at s2
  refine h.later ok tk (⟨f2.sF, fun b q => ?_, fun b o q n => f2.keep b o q fun z => ?_, f2.dom, fun b q => ?_⟩ : Fr F H (dU g) F2 H (dU g2)) s2 hm
  · rcases f2.fF b q with z | z | z | z
    · exact .inl z
    · exact .inr (.inl z)
    · obtain ⟨j, z⟩ := z
      by_cases hj : j = i
      · subst hj; rw [setG_same] at z; exact absurd rfl z
      · rw [setG_ne hj] at z; exact .inr (.inr ⟨j, z⟩)
    · exact .inr (.inr ⟨i, z⟩)
  · rcases z with ⟨j, z⟩ | z
    · by_cases hj : j = i
      · subst hj; rw [setG_same] at z; exact absurd rfl z
      · rw [setG_ne hj] at z; exact n ⟨j, z⟩
    · exact n ⟨i, z⟩
  · rcases f2.gs b q with z | z
    · rcases z with ⟨j, z⟩ | z
      · by_cases hj : j = i
        · subst hj; rw [setG_same] at z; exact absurd rfl z
        · rw [setG_ne hj] at z; exact .inl ⟨j, z⟩
      · exact .inl ⟨i, z⟩
    · exact .inr z
end
end Y

/-! Y8: more statements, loops, calls -/
namespace Y
open PySem PySem.Spec L2
section
variable {C : Cc} {Γ Γ' : List Slot} {α β γ ω ω' : Type} {J : ω → Out} {e e1 e2 : Expr} {pos p : Pos} {rest : List Stmt}
theorem Ex.expr {ρ : α → Rp} {m : W α} {k : α → W ω} (h : Ev C Γ e ρ m) (hr : ∀ a, Ex C Γ rest J (k a)) (hs : ∀ X : Cx, swapsWith e none pos.line X.env = pure false := by intro _; rfl) : Ex C Γ (.Expr e pos :: rest) J (do let a ← m; k a) :=
  Ex.cons fun X Wx ok tk F H g σ s D hm => W1.of (ps_expr (pe_W (e := e)) (hs X))
    (h X Wx ok.toOk tk F H g σ s _ (m.mono (fun a ha F1 H1 g1 v f1 s1 r1 => (hr a).later ok tk f1 s1 ha) (fun e he => he.ex) hm))
/-- a private heap of one object is written -/
theorem StOk.upd_own {F H : Hp} {σ : St} {g : Nat → Hp} (s : StOk C F H Γ σ g) {i : Nat} {a : Addr} {o o' : HO} {O' : Op} {v : V} (hg : g i = one a o) (hσ : σ[i]? = some (some v)) (hi : i < Γ.length) (r : O'.p F (one a o') v) :
    StOk C F (upd H a o') (Γ.set i (.own O')) σ (setG g i (one a o')) ∧ Fr F H (dU g) F (upd H a o') (dU (setG g i (one a o'))) ∧ H a = some o := by
  have hga : g i a = some o := by rw [hg]; exact one_same
  have hHa : H a = some o := s.sG i a o hga
  have hFa : F a = none := by
    rcases s.dF i a with q | q
    · exact q
    · rw [hga] at q; cases q
  have hgj : ∀ j, j ≠ i → g j a = none := fun j hj => by
    rcases s.dG j i hj a with q | q
    · exact q
    · rw [hga] at q; cases q
  refine ⟨⟨by rw [List.length_set]; exact s.len, fun j S q => ?_, fun b u q => ?_, fun j => ?_, fun j => ?_, fun j k hjk => ?_, fun b q => ?_⟩, ⟨Same.refl _, fun b q => .inl q, fun b u q n => ?_, fun b q => ?_, fun b q => ?_⟩, hHa⟩
  · by_cases hj : i = j
    · subst hj
      rw [List.getElem?_set_self hi] at q
      cases q
      rw [setG_same]
      exact ⟨v, hσ, r⟩
    · rw [List.getElem?_set_ne hj] at q
      rw [setG_ne (fun z => hj z.symm)]
      exact s.slot j S q
  · rw [upd_ne (fun z => by rw [z, hFa] at q; cases q)]; exact s.sF b u q
  · by_cases hj : j = i
    · subst hj
      rw [setG_same]
      intro b u q
      by_cases z : b = a
      · subst z; rw [one_same] at q; rw [upd_same]; exact q
      · rw [one_ne z] at q; cases q
    · rw [setG_ne hj]
      intro b u q
      rw [upd_ne (fun z => by rw [z, hgj j hj] at q; cases q)]
      exact s.sG j b u q
  · by_cases hj : j = i
    · subst hj
      rw [setG_same]
      intro b
      by_cases z : b = a
      · subst z; exact .inl hFa
      · exact .inr (one_ne z)
    · rw [setG_ne hj]; exact s.dF j
  · by_cases hj : j = i
    · subst hj
      rw [setG_same, setG_ne (fun z => hjk z.symm)]
      intro b
      by_cases z : b = a
      · subst z; exact .inr (hgj k (fun z => hjk z.symm))
      · exact .inl (one_ne z)
    · rw [setG_ne hj]
      by_cases hk : k = i
      · subst hk
        rw [setG_same]
        intro b
        by_cases z : b = a
        · subst z; exact .inl (hgj j hj)
        · exact .inr (one_ne z)
      · rw [setG_ne hk]; exact s.dG j k hjk
  · by_cases z : b = a
    · rw [z, upd_same] at q; cases q
    · rw [upd_ne z] at q; exact s.fr b q
  · by_cases z : b = a
    · subst z; exact absurd ⟨i, by rw [hga]; simp⟩ n
    · rw [upd_ne z]; exact q
  · by_cases z : b = a
    · rw [z, upd_same]; simp
    · rw [upd_ne z]; exact q
  · obtain ⟨j, q⟩ := q
    by_cases hj : j = i
    · subst hj
      rw [setG_same] at q
      by_cases z : b = a
      · subst z; exact .inl ⟨j, by rw [hga]; simp⟩
      · exact absurd (one_ne z) q
    · rw [setG_ne hj] at q; exact .inl ⟨j, q⟩
theorem fewArgs1 {X : Cx} (n : NoStar e) (cpos : Pos) : ((backTo cpos (starEach [e] X.env)).all (fun x => !x.1) && (backToKw cpos (keywordEach [] X.env)).all (fun x => x.1.isSome)
      && decide ([e].length + ([] : List Keyword).length + (if ([] : List Keyword).isEmpty then 0 else 1) < 30)) = true := by
  rw [n [] X.env]; rfl
theorem Ex.append {i : Nat} {x : Str} {px apos cpos : Pos} {r : α → Rp} {xs : List α} {m : W α} {k : α → W ω} (hN : C.N[i]? = some x) (hv : Vis C.sc x) (hΓ : Γ[i]? = some (.own (oL C.fr r xs))) (h : Ev C Γ e r m) (n : NoStar e) (hr : ∀ a, Ex C (Γ.set i (.own (oL C.fr r (xs ++ [a])))) rest J (k a))
    (hline : (apos.endLine == cpos.line) = true := by rfl) (hd : (x == ("__debug__" : Str)) = false := by decide) (hcd : (x == ("__classdict__" : Str)) = false := by decide) (hb : ∀ X : Cx, attributeBase (.Name x px) "append" X.env (eval (.Name x px) X.env) = eval (.Name x px) X.env := by intro _; rfl)
    (hs : ∀ X : Cx, swapsWith (.Call (.Attribute (.Name x px) "append" apos) [e] [] cpos) none pos.line X.env = pure false := by intro _; rfl) :
    Ex C Γ (.Expr (.Call (.Attribute (.Name x px) "append" apos) [e] [] cpos) pos :: rest) J (do let a ← m; W.req (xs.length ≤ 1000000) (k a)) :=
  Ex.cons fun X Wx ok tk F H g σ s D hm => by
    refine W1.of (ps_expr (pe_bm PySem.F.plainAttrs_list PySem.F.slot_list_append PySem.F.type_list_append mt_append (pe_var (i := i) (by rw [ok.N]; exact hN) (by rw [ok.sc]; exact hv) hd hcd) (pa_cons (pe_W (e := e)) pa_nil (n [] X.env)) (hb X) (fewArgs1 n cpos) hline (n [] X.env) rfl) (hs X)) ?_
    obtain ⟨v, eσ, a, vs, ev, na, eg, t⟩ := s.get_own hΓ
    subst ev
    have hHa : H a = some (.lst vs) := s.sG i a _ (by rw [eg]; exact one_same)
    refine ⟨.ref a, eσ, .inl ⟨rfl, _, SqL.of hHa⟩, ?_⟩
    refine h X Wx ok.toOk tk F H g σ s _ (m.mono (fun y hy F1 H1 g1 w f1 s1 r1 => ?_) (fun e he => he.ex) hm)
    obtain ⟨v', eσ', a', vs', ev', na', eg', t'⟩ := s1.get_own hΓ
    rw [eσ] at eσ'
    cases eσ'
    cases ev'
    obtain ⟨s2, f2, hH1⟩ := s1.upd_own (O' := oL C.fr r (xs ++ [y])) (o' := .lst (vs' ++ [w])) eg' eσ (List.getElem?_eq_some_iff.mp hΓ).1 ⟨a, vs' ++ [w], rfl, na', rfl, t'.snoc r1⟩
    refine ⟨a, vs', w, rfl, rfl, hH1, ?_, ?_⟩
    · rw [t'.length, PySem.sizeLine_eq]
      have := hy.1
      omega
    · exact (hr y).later ok tk (f1.trans f2) s2 hy.2
/-- xs[i] = e -/
def setI (xs : List α) (i : Int) (a : α) : W (List α) := match ixN xs.length i with | some j => pure (xs.set j a) | none => W.bad
/-- a, b = x, y -/
theorem Ex.par {i j : Nat} {x y : Str} {a b : Expr} {px py pt pt2 : Pos} {kt k2 : Nat} {ρa : α → Rp} {ρb : β → Rp} {ma : W α} {mb : W β} {k : α → β → W ω} (hN : C.N[i]? = some x) (hM : C.N[j]? = some y) (hij : i ≠ j) (hx : C.sc.names.lookup x = some .local) (hy : C.sc.names.lookup y = some .local)
    (ha : Ev C Γ a ρa ma) (hb : Ev C Γ b ρb mb) (n1 : NoStar a) (n2 : NoStar b) (hw : ∀ env : Env, env.scope = C.sc → swappedStores [.Tuple [.Name x px, .Name y py] kt pt] (.Tuple [a, b] k2 pt2) env = pure (some [x, y]))
    (hr : ∀ u v, Ex C ((Γ.set i (.val (ρa u))).set j (.val (ρb v))) rest J (k u v)) (hs : ∀ X : Cx, swapsWithSole [.Tuple [.Name x px, .Name y py] kt pt] (.Tuple [a, b] k2 pt2) pos.line X.env = pure false := by intro _; rfl) (hcm : C.cm = true := by rfl) :
    Ex C Γ (.Assign [.Tuple [.Name x px, .Name y py] kt pt] (.Tuple [a, b] k2 pt2) pos :: rest) J (do let u ← ma; let v ← mb; k u v) :=
  Ex.cons fun X Wx ok tk F H g σ s D hm => by
    refine W1.of (ps_par (i := i) (j := j) (ok.calm.trans hcm) ok.toOk.ndX (by rw [ok.N]; exact hN) (by rw [ok.N]; exact hM) hij (by rw [ok.sc]; exact hx) (by rw [ok.sc]; exact hy) (pa_cons (pe_W (e := a)) (pa_cons (pe_W (e := b)) pa_nil (n2 [] X.env)) (n1 [b] X.env)) (hw X.env ok.sc) (hs X)) ?_
    refine ha X Wx ok.toOk tk F H g σ s _ (ma.mono (fun u hu F1 H1 g1 v f1 s1 r1 => ?_) (fun e he => he.ex) hm)
    refine hb X Wx ok.toOk tk F1 H1 g1 σ s1 _ (mb.mono (fun w hw F2 H2 g2 v2 f2 s2 r2 => ?_) (fun e he => (he.later f1).ex) hu)
    exact ⟨v, v2, rfl, (hr u w).later ok tk (f1.trans f2) ((s2.set_val ((ρa u).mono f2.sF r1)).set_val r2) hw⟩
/-! ### ifs -/
def exOf : Out → Out
  | .lp Γ => .ct Γ
  | .nx _ => .any
  | .ft => .any
  | o => o
theorem OutOk.exOf {D : Ends} {F H : Hp} {U : Addr → Prop} {o : Out} {N : St → Hp → Prop} (h : OutOk C D F H U o) : OutOk C { D with nx := N } F H U (Y.exOf o) := by
  cases o with
  | nx Γ => trivial
  | lp Γ => exact h.2
  | ct Γ => exact h
  | bk Γ => exact h
  | rt R => exact h
  | rtG R Γ => exact h
  | ft => trivial
  | any => trivial
theorem W1.ifs {c : Expr} {a b : List Stmt} {X : Cx} {D : Ends} {σ : St} {H : Hp} (h : WT X c σ H fun t H1 => if t = true then WS X a D σ H1 else WS X b D σ H1) : W1 X (.If c a b pos) D σ H := W1.of (ps_if (pt_W (e := c)) (pss_W (st := a)) (pss_W (st := b))) h
/-- if c: A, A never falls through -/
theorem Ex.ifx {c : Expr} {a : List Stmt} {mc : W Bool} {m1 m2 : W ω} (hc : EvT C Γ c mc) (h1 : Ex C Γ a (fun o => exOf (J o)) m1) (h2 : Ex C Γ rest J m2) : Ex C Γ (.If c a [] pos :: rest) J (do let b ← mc; if b = true then m1 else m2) :=
  Ex.cons fun X Wx ok tk F H g σ s D hm => by
    refine W1.ifs (hc X Wx ok.toOk tk F H g σ s _ (mc.mono (fun b hb F1 H1 g1 f1 s1 => ?_) (fun e he => he.ex) hm))
    cases b with
    | true =>
      rw [if_pos rfl]
      exact h1 X Wx ok tk F1 H1 g1 σ s1 _ (m1.mono (fun o z => (z.later f1).exOf) (fun _ z => z.later f1) hb)
    | false =>
      rw [if_neg Bool.false_ne_true]
      refine WS.of pss_nil ?_
      exact h2.later ok tk f1 s1 hb
/-- one statement -/
def Ex1 (C : Cc) (Γ : List Slot) (st : Stmt) {ω : Type} (J : ω → Out) (m : W ω) : Prop :=
  ∀ (X : Cx) (Wx : WX), C.OkS X → Takes X Wx → ∀ (F H : Hp) (g : Nat → Hp) (σ : St), StOk C F H Γ σ g → ∀ D : Ends,
    m.wp (fun o => OutOk C D F H (dU g) (J o)) (XEndS C F H (dU g) Wx) → W1 X st D σ H
theorem Ex.last {st : Stmt} {m : W ω} (h : Ex1 C Γ st J m) : Ex C Γ [st] J m := fun X Wx ok tk F H g σ s D hm => WS.of (pss_one (ps_W (st := st))) (h X Wx ok tk F H g σ s D hm)
theorem Ex1.ite {c : Expr} {a b : List Stmt} {mc : W Bool} {m1 m2 : W ω} (hc : EvT C Γ c mc) (h1 : Ex C Γ a J m1) (h2 : Ex C Γ b J m2) : Ex1 C Γ (.If c a b pos) J (do let b ← mc; if b = true then m1 else m2) :=
  fun X Wx ok tk F H g σ s D hm => by
    refine W1.ifs (hc X Wx ok.toOk tk F H g σ s _ (mc.mono (fun b hb F1 H1 g1 f1 s1 => ?_) (fun e he => he.ex) hm))
    cases b with
    | true =>
      rw [if_pos rfl]
      exact h1.later ok tk f1 s1 hb
    | false =>
      rw [if_neg Bool.false_ne_true]
      exact h2.later ok tk f1 s1 hb
/-- what follows an outcome -/
def SeqTo (C : Cc) (rest : List Stmt) (J : ω → Out) (m : W ω) : Out → Prop
  | .nx Γ => Ex C Γ rest J m
  | .rt R => ∃ o, m = pure o ∧ J o = .rt R
  | .rtG R Γ => ∃ o, m = pure o ∧ J o = .rtG R Γ
  | .bk Γ => ∃ o, m = pure o ∧ J o = .bk Γ
  | .ct Γ => ∃ o, m = pure o ∧ J o = .ct Γ
  | _ => False
theorem SeqTo.ok {m : W ω} {X : Cx} {Wx : WX} {D : Ends} {F H : Hp} {g : Nat → Hp} (ok : C.OkS X) (tk : Takes X Wx) {o1 : Out} (q : SeqTo C rest J m o1) (hm : m.wp (fun o => OutOk C D F H (dU g) (J o)) (XEndS C F H (dU g) Wx)) :
    OutOk C { D with nx := WS X rest D } F H (dU g) o1 := by
  cases o1 with
  | nx Γ1 =>
    intro F1 H1 g1 σ1 f1 s1
    exact Ex.later q ok tk f1 s1 hm
  | rt R =>
    obtain ⟨o', e1, e2⟩ := q
    rw [e1] at hm
    replace hm : OutOk C D F H (dU g) (J o') := hm
    rw [e2] at hm
    exact hm
  | rtG R Γ1 =>
    obtain ⟨o', e1, e2⟩ := q
    rw [e1] at hm
    replace hm : OutOk C D F H (dU g) (J o') := hm
    rw [e2] at hm
    exact hm
  | bk Γ1 =>
    obtain ⟨o', e1, e2⟩ := q
    rw [e1] at hm
    replace hm : OutOk C D F H (dU g) (J o') := hm
    rw [e2] at hm
    exact hm
  | ct Γ1 =>
    obtain ⟨o', e1, e2⟩ := q
    rw [e1] at hm
    replace hm : OutOk C D F H (dU g) (J o') := hm
    rw [e2] at hm
    exact hm
  | lp Γ1 => exact q.elim
  | ft => exact q.elim
  | any => exact q.elim
/-- a statement, then the others by its outcome -/
theorem Ex.seq {st : Stmt} {J1 : ω' → Out} {m1 : W ω'} {k : ω' → W ω} (h1 : Ex1 C Γ st J1 m1) (h2 : ∀ o, SeqTo C rest J (k o) (J1 o)) : Ex C Γ (st :: rest) J (do let o ← m1; k o) :=
  Ex.cons fun X Wx ok tk F H g σ s D hm => h1 X Wx ok tk F H g σ s _ (m1.mono (fun o ho => (h2 o).ok ok tk ho) (fun _ z => z) hm)

/-! ### loops -/
inductive Fl (S ρ : Type) where
  | go (s : S) | ret (r : ρ) | brk (s : S)
def W.foldR {S ρ α : Type} (f : S → α → W (Fl S ρ)) : S → List α → W (Fl S ρ)
  | s, [] => W.ret (.go s)
  | s, x :: xs => W.bind (f s x) fun o => match o with
    | .go s' => W.foldR f s' xs
    | o => W.ret o
theorem Ex1.forR {S ρ : Type} {tg iter : Expr} {body : List Stmt} {r : α → Rp} {t : TG} {up : List Slot → α → List Slot} {m : W (List α)} {f : S → α → W (Fl S ρ)} (Γs : S → List Slot) (R : ρ → Out) (hR : ∀ x, (∃ R', R x = .rt R') ∨ ∃ R' Γ', R x = .rtG R' Γ') {s0 : S} (hi : EvI C Γ tg iter r m) (hg : EvG C tg r t up) (h0 : All2 Le1 Γ (Γs s0))
    (hb : ∀ s x, Ex C (up (Γs s) x) body (fun o : Fl S ρ => match o with | .go s' => .lp (Γs s') | .ret r => R r | .brk s' => .bk (Γs s')) (f s x))
    (hs : ∀ (env : Env) x, foldedSetIterable iter env x = pure x := by intro _ _; rfl) (hcm : C.cm = true := by rfl) : Ex1 C Γ (.For tg iter body [] pos) (fun o : Fl S ρ => match o with | .go s' => .nx (Γs s') | .ret r => R r | .brk s' => .nx (Γs s')) (do let xs ← m; W.foldR f s0 xs) :=
  fun X Wx ok tk F H g σ s D hm => by
    refine W1.of (ps_for ok.po (ok.calm.trans hcm) (pi_W (tg := tg) (iter := iter)) (hg.pg X ok.toOk) (pss_W (st := body)) (hs X.env)) ?_
    refine hi X Wx ok.toOk tk F H g σ s _ (m.mono (fun xs hx F1 H1 g1 J1 f1 s1 hJ => ?_) (fun e he => he.ex) hm)
    refine ⟨fun i n σ2 H2 => n = xs.length - i ∧ i ≤ xs.length ∧ ∃ st F2 g2, Same F1 F2 ∧ Fr F H (dU g) F2 H2 (dU g2) ∧ StOk C F2 H2 (Γs st) σ2 g2 ∧ (W.foldR f st (xs.drop i)).wp (fun o => OutOk C D F H (dU g) (match o with | .go s' => .nx (Γs s') | .ret r => R r | .brk s' => .nx (Γs s'))) (XEndS C F H (dU g) Wx),
      ⟨xs.length, by simp, Nat.zero_le _, s0, F1, g1, Same.refl _, f1, s1.weak (Sub.of h0), hx⟩, ?_⟩
    rintro i n σ2 H2 ⟨rfl, hi', st, F2, g2, hF, f2, s2, hw⟩
    by_cases hlt : i < xs.length
    · refine .inr ⟨hJ.go i F2 H2 hF s2.sF hlt, _, fun σ' H' h => ⟨xs.length - (i + 1), by omega, h⟩, fun v H' y => ?_⟩
      obtain ⟨x, hxi⟩ : ∃ x, xs[i]? = some x := ⟨_, List.getElem?_eq_getElem hlt⟩
      have hdrop : xs.drop i = x :: xs.drop (i + 1) := by
        rw [List.drop_eq_getElem_cons hlt]
        have := List.getElem?_eq_getElem hlt
        rw [hxi] at this
        rw [← Option.some.inj this]
      obtain ⟨Gy, hGy, eH', ry⟩ := hJ.yld i x F2 H2 v H' hF s2.sF hxi y
      subst eH'
      obtain ⟨s3, f3⟩ := s2.grow hGy
      refine hg.rd _ _ _ g2 σ2 x v _ s3 ry fun σ3 s4 => ?_
      rw [hdrop] at hw
      refine hb st x X Wx ok tk _ _ g2 σ3 s4 _ ((f st x).mono (fun o ho => ?_) (fun e he => he.later (f2.trans f3)) hw)
      cases o with
      | go s' =>
        refine ⟨fun F5 H5 g5 σ5 f5 s5 => ⟨rfl, hlt, s', F5, g5, (hF.trans f3.sF).trans f5.sF, (f2.trans f3).trans f5, s5, ho⟩, fun F5 H5 g5 σ5 f5 s5 => ⟨rfl, hlt, s', F5, g5, (hF.trans f3.sF).trans f5.sF, (f2.trans f3).trans f5, s5, ho⟩⟩
      | ret r =>
        replace ho : OutOk C D F H (dU g) (R r) := ho
        show OutOk C _ _ _ _ (R r)
        rcases hR r with ⟨R', e⟩ | ⟨R', Γ', e⟩
        · rw [e] at ho ⊢
          exact ho.later (o := .rt R') (f2.trans f3)
        · rw [e] at ho ⊢
          exact ho.later (o := .rtG R' Γ') (f2.trans f3)
      | brk s' =>
        replace ho : OutOk C D F H (dU g) (.nx (Γs s')) := ho
        intro F5 H5 g5 σ5 f5 s5
        exact ho F5 H5 g5 σ5 ((f2.trans f3).trans f5) s5
    · have e : i = xs.length := by omega
      subst e
      rw [List.drop_length] at hw
      exact .inl ⟨hJ.stop _ F2 H2 hF s2.sF (Nat.le_refl _), hw F2 H2 g2 σ2 f2 s2⟩
theorem foldR_go {S ρ α : Type} (f : S → α → W S) : ∀ (xs : List α) (s : S), W.foldR (fun s x => W.bind (f s x) fun s' => W.ret (Fl.go s' : Fl S ρ)) s xs = W.bind (W.foldM f s xs) fun s' => W.ret (Fl.go s' : Fl S ρ)
  | [], s => rfl
  | x :: xs, s => by
    show W.bind (W.bind (f s x) fun s' => W.ret (Fl.go s')) _ = W.bind (W.bind (f s x) fun s' => W.foldM f s' xs) _
    have ih := fun s' => foldR_go (ρ := ρ) f xs s'
    show W.bind (f s x) (fun s' => W.foldR _ s' xs) = W.bind (f s x) (fun s' => W.bind (W.foldM f s' xs) _)
    congr 1
    funext s'
    exact ih s'
/-- a loop that is never left -/
theorem Ex1.for {S : Type} {tg iter : Expr} {body : List Stmt} {r : α → Rp} {t : TG} {up : List Slot → α → List Slot} {m : W (List α)} {f : S → α → W S} (Γs : S → List Slot) {s0 : S} (hi : EvI C Γ tg iter r m) (hg : EvG C tg r t up) (h0 : All2 Le1 Γ (Γs s0))
    (hb : ∀ s x, Ex C (up (Γs s) x) body (fun s' => .lp (Γs s')) (f s x)) (hs : ∀ (env : Env) x, foldedSetIterable iter env x = pure x := by intro _ _; rfl) (hcm : C.cm = true := by rfl) : Ex1 C Γ (.For tg iter body [] pos) (fun s' => .nx (Γs s')) (do let xs ← m; W.foldM f s0 xs) :=
  fun X Wx ok tk F H g σ s D hm => by
    refine Ex1.forR (ρ := Empty) Γs (fun r => nomatch r) (fun r => nomatch r) hi hg h0 (f := fun s x => W.bind (f s x) fun s' => W.ret (Fl.go s')) (fun s x => ?_) hs hcm X Wx ok tk F H g σ s D (m.mono (fun xs hx => ?_) (fun _ z => z) hm)
    · intro X Wx ok tk F H g σ s2 D hm
      exact hb s x X Wx ok tk F H g σ s2 D hm
    · show (W.foldR _ s0 xs).wp _ _
      rw [foldR_go]
      exact hx
theorem Ex1.while {S : Type} {c : Expr} {body : List Stmt} {mc : S → W Bool} {f : S → W S} (Γs : S → List Slot) {s0 : S} (h0 : All2 Le1 Γ (Γs s0)) (hc : ∀ s, EvT C (Γs s) c (mc s)) (hb : ∀ s, Ex C (Γs s) body (fun s' => .lp (Γs s')) (f s)) :
    Ex1 C Γ (.While c body [] pos) (fun s' => .nx (Γs s')) (W.whileM mc f s0) :=
  fun X Wx ok tk F H g σ s D hm => by
    refine W1.of (ps_while ok.po (pt_W (e := c)) (pss_W (st := body))) ?_
    obtain ⟨I, μ, hI, hstep⟩ := hm
    refine ⟨fun n σ2 H2 => ∃ st F2 g2, Fr F H (dU g) F2 H2 (dU g2) ∧ StOk C F2 H2 (Γs st) σ2 g2 ∧ I st ∧ n = μ st, ⟨μ s0, s0, F, g, Fr.refl, s.weak (Sub.of h0), hI, rfl⟩, ?_⟩
    rintro n σ2 H2 ⟨st, F2, g2, f2, s2, hI2, rfl⟩
    refine hc st X Wx ok.toOk tk F2 H2 g2 σ2 s2 _ ((mc st).mono (fun b hb' F3 H3 g3 f3 s3 => ?_) (fun e he => (XEndS.later f2 he).ex) (hstep st hI2))
    cases b with
    | false =>
      rw [if_neg Bool.false_ne_true] at hb' ⊢
      exact hb' F3 H3 g3 σ2 (f2.trans f3) s3
    | true =>
      rw [if_pos rfl] at hb' ⊢
      refine ⟨fun σ' H' => ∃ st' F5 g5, Fr F H (dU g) F5 H' (dU g5) ∧ StOk C F5 H' (Γs st') σ' g5 ∧ I st' ∧ μ st' < μ st, fun σ' H' ⟨st', F5, g5, f5, s5, i5, l5⟩ => ⟨μ st', l5, st', F5, g5, f5, s5, i5, rfl⟩, ?_⟩
      refine hb st X Wx ok tk F3 H3 g3 σ2 s3 _ ((f st).mono (fun s' hs' => ⟨fun F5 H5 g5 σ5 f5 s5 => ⟨s', F5, g5, (f2.trans f3).trans f5, s5, hs'.1, hs'.2⟩, fun F5 H5 g5 σ5 f5 s5 => ⟨s', F5, g5, (f2.trans f3).trans f5, s5, hs'.1, hs'.2⟩⟩) (fun e he => he.later (f2.trans f3)) hb')

theorem Ex.bad {C : Cc} {Γ : List Slot} {sts : List Stmt} {ω : Type} {J : ω → Out} : Ex C Γ sts J W.bad := fun X Wx ok tk F H g σ s D hm => hm.elim

/-! ### defs -/
/-- a def's promise: parameters as values; N: any set that has all places that are free at the call -/
def spV (M : Mc) {τ β : Type} (ins : (Addr → Prop) → τ → List Rp) (ρ : (Addr → Prop) → β → Rp) (m : τ → W β) : Sp := fun vs H Q E => ∃ (t : τ) (F : Hp) (N : Addr → Prop), (∀ a, H a = none → N a) ∧ Same F H ∧ All2 (fun v R => R.p F v) vs (ins N t) ∧
  (m t).wp (fun b => ∀ F' H' g' v, Fr F H (fun _ => False) F' H' (dU g') → Same F' H' → (ρ N b).p F' v → Q v H') (fun e => ∀ F' H' g' cls d, Fr F H (fun _ => False) F' H' (dU g') → Same F' H' → XOk M e H H' (dU g') cls d → E cls d H')
/-- a def of the module that keeps it -/
structure FnV (M : Mc) (x : Str) (j n : Nat) {τ β : Type} (ins : (Addr → Prop) → τ → List Rp) (ρ : (Addr → Prop) → β → Rp) (m : τ → W β) : Prop where
  ex : ∃ f fd ps, FnOk M.P M.w M.K M.mg M.base (L2.CX M.P M.w) j f fd ps (spV M ins ρ m) ∧ M.mg x = some (.ref f) ∧ PySem.W.keepIn M.K (.ref f) = true ∧ Binds M.K fd ps []
  len : ∀ N t, (ins N t).length = n
theorem W.Le.refl (m : W α) : W.Le m m := fun _ _ h => h
def initC (M : Mc) (N : List Str) (sc : Scope) (k : Nat) (fr : Addr → Prop) : Cc := { toMc := M, N := N, sc := sc, k := k, fr := fr, fnc := fun _ => true, cm := true, ex := none }
def Γ0 (R : List Rp) (N : List Str) : List Slot := R.map .val ++ List.replicate (N.length - R.length) .no
theorem start_ok {M : Mc} {N : List Str} {sc : Scope} {k : Nat} {F H : Hp} {vs : List V} {R : List Rp} {Nf : Addr → Prop} (hN : ∀ a, H a = none → Nf a) (s : Same F H) (r : All2 (fun v R => R.p F v) vs R) : StOk (initC M N sc k Nf) F H (Γ0 R N) (L2.start N vs) (fun _ => emp) where
  len := by
    unfold Γ0 L2.start
    simp only [List.length_append, List.length_map, List.length_replicate, r.length]
  slot := fun i S e => by
    unfold Γ0 at e
    unfold L2.start
    by_cases h : i < R.length
    · rw [List.getElem?_append_left (by simpa using h), List.getElem?_map] at e
      cases q : R[i]? with
      | none => rw [q] at e; cases e
      | some R' =>
        rw [q] at e
        cases e
        obtain ⟨v, hv, hr⟩ := r.get q
        refine ⟨v, ?_, hr⟩
        rw [List.getElem?_append_left (by rw [List.length_map, r.length]; exact h), List.getElem?_map, hv]
        rfl
    · rw [List.getElem?_append_right (by simpa using Nat.not_lt.mp h)] at e
      have : S = .no := by
        rw [List.getElem?_replicate] at e
        split at e
        · exact (Option.some.inj e).symm
        · cases e
      subst this
      trivial
  sF := s
  sG := fun _ _ _ e => by cases e
  dF := fun _ => Dis.emp
  dG := fun _ _ _ => Dis.emp
  fr := hN
/-- THE RULE for a def -/
theorem FnV.mk' {M : Mc} {x : Str} {f : Addr} {fd : FuncData} {st : Stmt} {k n : Nat} {N ps : List Str} {τ β : Type} {ins : (Addr → Prop) → τ → List Rp} {ρ : (Addr → Prop) → β → Rp} {m : τ → W β} (F : Fun M.K x x st f fd) (S : FnScope N ps (defScope st)) (hmg : M.mg x = some (.ref f)) (hb : Binds M.K fd ps [])
    (hn : ps.length = n) (hl : ∀ N t, (ins N t).length = n)
    (J : (Addr → Prop) → β → Out) (hJ : ∀ fr b, J fr b = .rt (ρ fr b) ∨ (J fr b = .ft ∧ ∀ F, (ρ fr b).p F .non)) (h : ∀ (fr : Addr → Prop) (t : τ), Ex (initC M N (defScope st) k fr) (Γ0 (ins fr t) N) (defBody st) (J fr) (m t)) : FnV M x (k + 1) n ins ρ m := by
  refine ⟨⟨f, fd, ps, F.okX S (fun vs H Q E hsp => ?_) (fun cdv A outer s H vs Q E hr hsp => ?_), hmg, F.kp, hb⟩, hl⟩
  · obtain ⟨t, F', Nf, _, _, r, _⟩ := hsp
    rw [r.length, hl, hn]
  · obtain ⟨t, F', Nf, hNf, sm, r, w⟩ := hsp
    refine ⟨_, pss_W, ?_⟩
    refine h Nf t (cxOf (L2.CX M.P M.w) M.P M.w M.K M.mg M.base N x (defScope st) f cdv A outer s H E) (fun cls d _ H => E cls d H) ⟨⟨rfl, rfl, rfl, rfl, rfl, rfl, rfl, S.nd, rfl, fun _ => hr, hr.units, fun _ _ _ h => (nomatch h), fun _ _ => rfl⟩, passes_of rfl, rfl, rfl⟩ (takes_of rfl rfl rfl rfl) F' H _ _ (start_ok hNf sm r) _ ((m t).mono (fun b hb => ?_) (fun e he => ?_) w)
    · rcases hJ Nf b with e | ⟨e, e2⟩
      · rw [e]
        intro F2 H2 g2 v f2 s2 r2
        exact hb F2 H2 g2 v (show Fr F' H (fun _ => False) F2 H2 (dU g2) from ⟨f2.sF, fun b z => (f2.fF b z).imp_right fun q => q.imp_right fun ⟨_, q⟩ => absurd rfl q, fun b o q _ => f2.keep b o q fun ⟨_, z⟩ => absurd rfl z, f2.dom, fun b z => (f2.gs b z).imp_left fun ⟨_, q⟩ => absurd rfl q⟩) s2 r2
      · rw [e]
        intro F2 H2 g2 σ2 f2 s2
        exact hb F2 H2 g2 .non (show Fr F' H (fun _ => False) F2 H2 (dU g2) from ⟨f2.sF, fun b z => (f2.fF b z).imp_right fun q => q.imp_right fun ⟨_, q⟩ => absurd rfl q, fun b o q _ => f2.keep b o q fun ⟨_, z⟩ => absurd rfl z, f2.dom, fun b z => (f2.gs b z).imp_left fun ⟨_, q⟩ => absurd rfl q⟩) s2 (e2 F2)
    · intro F2 H2 g2 σ2 cls d f2 s2 hx
      exact he F2 H2 g2 cls d ⟨f2.sF, fun b z => (f2.fF b z).imp_right fun q => q.imp_right fun ⟨_, q⟩ => absurd rfl q, fun b o q _ => f2.keep b o q fun ⟨_, z⟩ => absurd rfl z, f2.dom, fun b z => (f2.gs b z).imp_left fun ⟨_, q⟩ => absurd rfl q⟩ s2 hx

/-! ### calls -/
/-- behind a call that owns nothing -/
theorem StOk.call0 {F H F' H' : Hp} {σ : St} {g g' : Nat → Hp} (s : StOk C F H Γ σ g) (f : Fr F H (fun _ => False) F' H' (dU g')) (s' : Same F' H') : StOk C F' H' Γ σ g ∧ Fr F H (dU g) F' H' (dU g) := by
  refine ⟨⟨s.len, fun i S e => (s.slot i S e).mono f.sF, s', fun i b o e => f.keep b o (s.sG i b o e) (fun z => z), fun i b => ?_, s.dG, fun a e => ?_⟩, ⟨f.sF, fun b z => (f.fF b z).imp_right fun q => q.imp_right fun q => q.elim, fun b o q _ => f.keep b o q fun z => z, f.dom, fun b z => .inl z⟩⟩
  · cases q : g i b with
    | none => exact .inr rfl
    | some o =>
      refine .inl ?_
      cases q2 : F' b with
      | none => rfl
      | some u =>
        have hH := s.sG i b o q
        rcases f.fF b (by rw [q2]; simp) with z | z | z
        · rcases s.dF i b with y | y
          · exact absurd y z
          · rw [q] at y; cases y
        · rw [hH] at z; cases z
        · exact z.elim
  · refine s.fr a ?_
    cases q : H a with
    | none => rfl
    | some o => exact absurd e (f.dom a (by rw [q]; simp))
theorem Ev.callA {x : Str} {j n : Nat} {es : List Expr} {τ : Type} {ins : (Addr → Prop) → τ → List Rp} {ρ : (Addr → Prop) → β → Rp} {mf : τ → W β} {mt : W τ} (hf : FnV C.toMc x j n ins ρ mf) (hj : j ≤ C.k) (hg : C.sc.names.lookup x = some .globalImplicit) (ha : EvA C Γ (e :: es) (ins C.fr) mt) (hn : NoStar e) (hpl : ∀ (X : Cx) (pos : Pos), (backTo pos (starEach es X.env)).any (·.1) = false)
    (hd : (x == ("__debug__" : Str)) = false := by decide) (hcm : C.cm = true := by rfl) : Ev C Γ (.Call (.Name x p) (e :: es) [] pos) (ρ C.fr) (do let t ← mt; mf t) :=
  fun X Wx ok tk F H g σ s Q hm => by
    obtain ⟨⟨f, fd, ps, hF, hmg, hk, hb⟩, hl⟩ := hf
    have e1 := ok.prog
    have e2 := ok.w
    have e3 := ok.K
    have e4 := ok.mg
    have e5 := ok.base
    refine WE.of (pe_callS (E := fun σ => L2.WE Wx σ) (by rw [e1, e2, e3, e4, e5]; exact hF) ((ok.room hcm).mono hj) (show X.env.scope.names.lookup x = _ by rw [ok.sc]; exact hg) (by rw [e4]; exact hmg) (by rw [e3]; exact hk) (by rw [e3]; exact hb) (fun σ => by
      have := passAt tk σ
      rw [e1, e2] at this
      exact this) (pa_W (es := e :: es)) hd (hn es X.env) (hpl X pos)) ?_
    refine ha.2 X Wx ok tk F H g σ s _ (mt.mono (fun t ht F1 H1 g1 vs f1 s1 r1 => ?_) (fun e he => he) hm)
    refine ⟨t, F1, C.fr, s1.fr, s1.sF, r1, (mf t).mono (fun b hb F2 H2 g2 v f2 s2 r2 => ?_) (fun e he F2 H2 g2 cls d f2 s2 hx => ?_) ht⟩
    · obtain ⟨s3, f3⟩ := s1.call0 f2 s2
      exact hb F2 H2 g1 v (f1.trans f3) s3 r2
    · obtain ⟨s3, f3⟩ := s1.call0 f2 s2
      exact he F2 H2 g1 cls d (f1.trans f3) s3 ((hx.reg s1.sG).later f1)
end
section
variable {C : Cc} {Γ : List Slot} {α β γ δ ε : Type} {e e1 e2 e3 e4 : Expr} {pos p : Pos} {x : Str} {j : Nat} {ρ : (Addr → Prop) → ε → Rp}
theorem Ev.call1 {ra : (Addr → Prop) → α → Rp} {m1 : W α} {mf : α × Unit → W ε} (hf : FnV C.toMc x j 1 (fun N t => [ra N t.1]) ρ mf) (hj : j ≤ C.k) (hg : C.sc.names.lookup x = some .globalImplicit) (h1 : Ev C Γ e1 (ra C.fr) m1) (n1 : NoStar e1) (hd : (x == ("__debug__" : Str)) = false := by decide) (hcm : C.cm = true := by rfl) :
    Ev C Γ (.Call (.Name x p) [e1] [] pos) (ρ C.fr) (do let a ← m1; mf (a, ())) := by
  have q := Ev.callA (e := e1) (p := p) (pos := pos) hf hj hg (EvA.cons h1 EvA.nil n1) n1 noArgs hd hcm
  exact q
theorem Ev.call2 {ra : (Addr → Prop) → α → Rp} {rb : (Addr → Prop) → β → Rp} {m1 : W α} {m2 : W β} {mf : α × β × Unit → W ε} (hf : FnV C.toMc x j 2 (fun N t => [ra N t.1, rb N t.2.1]) ρ mf) (hj : j ≤ C.k) (hg : C.sc.names.lookup x = some .globalImplicit) (h1 : Ev C Γ e1 (ra C.fr) m1) (h2 : Ev C Γ e2 (rb C.fr) m2) (n1 : NoStar e1) (n2 : NoStar e2) (hd : (x == ("__debug__" : Str)) = false := by decide) (hcm : C.cm = true := by rfl) :
    Ev C Γ (.Call (.Name x p) [e1, e2] [] pos) (ρ C.fr) (do let a ← m1; let b ← m2; mf (a, b, ())) := by
  have q := Ev.callA (e := e1) (p := p) (pos := pos) hf hj hg (EvA.cons h1 (EvA.cons h2 EvA.nil n2) n1) n1 (EvA.cons h2 EvA.nil n2).1 hd hcm
  exact q
theorem Ev.call3 {ra : (Addr → Prop) → α → Rp} {rb : (Addr → Prop) → β → Rp} {rc : (Addr → Prop) → γ → Rp} {m1 : W α} {m2 : W β} {m3 : W γ} {mf : α × β × γ × Unit → W ε} (hf : FnV C.toMc x j 3 (fun N t => [ra N t.1, rb N t.2.1, rc N t.2.2.1]) ρ mf) (hj : j ≤ C.k) (hg : C.sc.names.lookup x = some .globalImplicit) (h1 : Ev C Γ e1 (ra C.fr) m1) (h2 : Ev C Γ e2 (rb C.fr) m2) (h3 : Ev C Γ e3 (rc C.fr) m3) (n1 : NoStar e1) (n2 : NoStar e2) (n3 : NoStar e3) (hd : (x == ("__debug__" : Str)) = false := by decide) (hcm : C.cm = true := by rfl) :
    Ev C Γ (.Call (.Name x p) [e1, e2, e3] [] pos) (ρ C.fr) (do let a ← m1; let b ← m2; let c ← m3; mf (a, b, c, ())) := by
  have q := Ev.callA (e := e1) (p := p) (pos := pos) hf hj hg (EvA.cons h1 (EvA.cons h2 (EvA.cons h3 EvA.nil n3) n2) n1) n1 (EvA.cons h2 (EvA.cons h3 EvA.nil n3) n2).1 hd hcm
  exact q
theorem Ev.call4 {ra : (Addr → Prop) → α → Rp} {rb : (Addr → Prop) → β → Rp} {rc : (Addr → Prop) → γ → Rp} {rd : (Addr → Prop) → δ → Rp} {m1 : W α} {m2 : W β} {m3 : W γ} {m4 : W δ} {mf : α × β × γ × δ × Unit → W ε} (hf : FnV C.toMc x j 4 (fun N t => [ra N t.1, rb N t.2.1, rc N t.2.2.1, rd N t.2.2.2.1]) ρ mf) (hj : j ≤ C.k) (hg : C.sc.names.lookup x = some .globalImplicit) (h1 : Ev C Γ e1 (ra C.fr) m1) (h2 : Ev C Γ e2 (rb C.fr) m2) (h3 : Ev C Γ e3 (rc C.fr) m3) (h4 : Ev C Γ e4 (rd C.fr) m4) (n1 : NoStar e1) (n2 : NoStar e2) (n3 : NoStar e3) (n4 : NoStar e4) (hd : (x == ("__debug__" : Str)) = false := by decide) (hcm : C.cm = true := by rfl) :
    Ev C Γ (.Call (.Name x p) [e1, e2, e3, e4] [] pos) (ρ C.fr) (do let a ← m1; let b ← m2; let c ← m3; let d ← m4; mf (a, b, c, d, ())) := by
  have q := Ev.callA (e := e1) (p := p) (pos := pos) hf hj hg (EvA.cons h1 (EvA.cons h2 (EvA.cons h3 (EvA.cons h4 EvA.nil n4) n3) n2) n1) n1 (EvA.cons h2 (EvA.cons h3 (EvA.cons h4 EvA.nil n4) n3) n2).1 hd hcm
  exact q
end
end Y

/-! Y9: what the top leaves, the end -/
namespace Y
open PySem PySem.Spec L2
/-- a def of the top -/
def FAt (K : PySem.W.Frag) (x : Str) (st : Stmt) (f : Addr) : Prop :=
  PySem.W.nsIn K mainGlobals x = some (some (.ref f)) ∧ (∃ (oc : Value) (od : Option Addr) (sl : Array (Option Value)) (kV dc pm : Value) (an : Option Addr) (cd ct : Value), K.lookup f = some ⟨oc, od, .func (PySem.W.fnOf x x (defArgs st) (defBody st) (defScope st) .none kV dc pm an cd ct), sl⟩ ∧ PySem.W.codeIn K cd x = true) ∧ PySem.W.keepIn K (.ref f) = true
structure FunM (M : Mc) (x : Str) (st : Stmt) (ps : List Str) : Prop where
  ex : ∃ f fd, Fun M.K x x st f fd ∧ M.mg x = some (.ref f) ∧ Binds M.K fd ps []
theorem FAt.m {M : Mc} {h : Heap} {x : Str} {st : Stmt} {f : Addr} {ps : List Str} (X : M.K.In h) (G : h.Ns mainGlobals M.mg) (a : FAt M.K x st f)
    (hb : ∀ (kV doc pm : Value) (an : Option Addr) (cdv ct : Value) (us : List Value), us.length = ps.length → bindArgs (PySem.W.fnOf x x (defArgs st) (defBody st) (defScope st) .none kV doc pm an cdv ct) ⟨us, []⟩ = pure (ps.zip us)) : FunM M x st ps := by
  obtain ⟨a1, ⟨oc, od, sl, kV, dc, pm, an, cd, ct, l, c⟩, k⟩ := a
  have F := fun_mk (st := st) l c k
  exact ⟨f, _, F, PySem.W.mg_of X G a1, F.binds hb⟩
theorem FnV.ofBody {M : Mc} {x : Str} {st : Stmt} {k n : Nat} {N ps : List Str} {τ β : Type} {ins : (Addr → Prop) → τ → List Rp} {ρ : (Addr → Prop) → β → Rp} {m : τ → W β} (F : FunM M x st ps) (S : FnScope N ps (defScope st))
    (hn : ps.length = n) (hl : ∀ N t, (ins N t).length = n) (h : ∀ (fr : Addr → Prop) (t : τ), Ex (initC M N (defScope st) k fr) (Γ0 (ins fr t) N) (defBody st) (fun b => .rt (ρ fr b)) (m t)) : FnV M x (k + 1) n ins ρ m := by
  obtain ⟨f, fd, F, mg, b⟩ := F
  exact FnV.mk' F S mg b hn hl (fun fr b => .rt (ρ fr b)) (fun fr b => .inl rfl) h
/-- a def that falls off its end -/
theorem FnV.ofBodyU {M : Mc} {x : Str} {st : Stmt} {k n : Nat} {N ps : List Str} {τ : Type} {ins : (Addr → Prop) → τ → List Rp} {m : τ → W Unit} (F : FunM M x st ps) (S : FnScope N ps (defScope st))
    (hn : ps.length = n) (hl : ∀ N t, (ins N t).length = n) (h : ∀ (fr : Addr → Prop) (t : τ), Ex (initC M N (defScope st) k fr) (Γ0 (ins fr t) N) (defBody st) (fun _ => .ft) (m t)) : FnV M x (k + 1) n ins (fun _ => rU) m := by
  obtain ⟨f, fd, F, mg, b⟩ := F
  exact FnV.mk' F S mg b hn hl (fun fr b => .ft) (fun fr b => .inr ⟨rfl, fun _ => rfl⟩) h
/-- the ints of a script: their bits -/
def BitsOk (z : Int) : Prop := Builtin.Int.intBits z ≤ 1048576
theorem walk_law {l : PySem.W.OpenLaw} {k : Nat} {q : Program} {loose : List Str} {XP : (Str → Option Value) → Heap → Prop} {YP : World → Heap → Prop} {d : DefRec} {K : Params → PySem.W.Frag} {sx : Str} {m : List Int × Unit → W Bool} {fd : World → FuncData}
    (hn : l.most = some 63) (hdf : d.params.defaults = []) (hr : Room k callerA) (hY : ∀ (w : World) (h : Heap), YP w h → (K w.params).In h)
    (F : ∀ (w : World) (mg : Str → Option Value) (fa : Addr) (h : Heap), (K w.params).In h → h.Ns mainGlobals mg → mg d.name = some (.ref fa) →
      ∃ fd : FuncData, (∀ (s : Shared) (u : Value), BindsTo s fd ⟨[u], []⟩ [(sx, u)]) ∧ ∀ base : Heap, (K w.params).In base → base.Ns mainGlobals mg → FnOk l.prog w (K w.params) mg base (L2.CX l.prog w) k fa fd [sx] (spV ⟨l.prog, w, K w.params, mg, base⟩ (fun _ t => [rL (K w.params) rI t.1]) (fun _ => rB) m))
    (hm : ∀ ns : List Int, ns.length ≤ 63 → (∀ z ∈ ns, BitsOk z) → (m (ns, ())).wp (fun b => b = true) (fun _ => False)) : PySem.W.WalkO q loose XP YP l.row.toRowW d [] (fun f vs => PySem.call f vs) := by
  refine walk_ofB (l := l) (n := 63) (k := k) (x := sx) (CX := fun w => L2.CX l.prog w)
    (sp := fun w => fun vs H Q E => ∃ ns : List Int, ∃ a, ns.length ≤ 63 ∧ (∀ z ∈ ns, BitsOk z) ∧ vs = [.ref a] ∧ SqL (K w.params) H a (ns.map V.int) ∧ (∀ v H', v = V.bl true → Q v H')) hn (by decide) hdf hr hY (fun w mg fa h X G hmg => ?_) (fun w H a ns h1 h2 _ h3 => ⟨ns, a, h1, h2, rfl, h3, fun v _ e => e⟩) (fun w H s e s' z => ?_)
  · obtain ⟨fd, hb, hF⟩ := F w mg fa h X G hmg
    refine ⟨fd, hb, fun base X2 G2 => (hF base X2 G2).imp fun vs H Q E ⟨ns, a, h1, h2, ev, hs, hQ⟩ => ?_⟩
    subst ev
    refine ⟨(ns, ()), H, fun a => H a = none, fun _ z => z, Same.refl _, .cons ⟨a, ns.map V.int, rfl, hs, All2.to_map (R := fun u x => (rI x).p H u) (f := V.int) (fun _ => rfl) ns⟩ .nil, (m (ns, ())).mono (fun b hb F' H' g' v f s r => ?_) (fun e he => he.elim) (hm ns h1 h2)⟩
    exact hQ v H' (by rw [show v = V.bl b from r, hb])
  · obtain ⟨_, _, _, _, _, _, _, _, _, _, _, _, z⟩ := z
    exact z.elim
end Y

/-! Y10: what the printer leans on -/
namespace Y
open PySem PySem.Spec L2
/-! ### names -/
def visB (sc : Scope) (x : Str) : Bool := match sc.names.lookup x with | some .local => true | some .cell => true | some .free => true | _ => false
theorem visOf {sc : Scope} {x : Str} (h : visB sc x = true) : Vis sc x := by
  unfold visB at h
  unfold Vis
  split at h
  · rename_i e; exact .inl e
  · rename_i e; exact .inr (.inl e)
  · rename_i e; exact .inr (.inr e)
  · cases h
def stoB (C : Cc) (x : Str) : Bool := match C.sc.names.lookup x with | some .local => true | some .cell => C.fnc x | _ => false
theorem stoOf {C : Cc} {x : Str} (h : stoB C x = true) : Sto C x := by
  unfold stoB at h
  unfold Sto
  split at h
  · rename_i e; exact .inl e
  · rename_i e; exact .inr ⟨e, h⟩
  · cases h
section
variable {C : Cc}
theorem bt_len (g : C.sc.names.lookup ("len" : Str) = some .globalImplicit) (m : C.mg "len" = none) : Blt C "len" (.builtin "len") := ⟨g, m, by decide +kernel, by decide, by decide⟩
theorem bt_min (g : C.sc.names.lookup ("min" : Str) = some .globalImplicit) (m : C.mg "min" = none) : Blt C "min" (.builtin "min") := ⟨g, m, by decide +kernel, by decide, by decide⟩
theorem bt_isinstance (g : C.sc.names.lookup ("isinstance" : Str) = some .globalImplicit) (m : C.mg "isinstance" = none) : Blt C "isinstance" (.builtin "isinstance") := ⟨g, m, by decide +kernel, by decide, by decide⟩
theorem bt_range (g : C.sc.names.lookup ("range" : Str) = some .globalImplicit) (m : C.mg "range" = none) : Blt C "range" (.type "range") := ⟨g, m, by decide +kernel, by decide, by decide⟩
theorem bt_list (g : C.sc.names.lookup ("list" : Str) = some .globalImplicit) (m : C.mg "list" = none) : Blt C "list" (.type "list") := ⟨g, m, by decide +kernel, by decide, by decide⟩
theorem bt_tuple (g : C.sc.names.lookup ("tuple" : Str) = some .globalImplicit) (m : C.mg "tuple" = none) : Blt C "tuple" (.type "tuple") := ⟨g, m, by decide +kernel, by decide, by decide⟩
theorem bt_int (g : C.sc.names.lookup ("int" : Str) = some .globalImplicit) (m : C.mg "int" = none) : Blt C "int" (.type "int") := ⟨g, m, by decide +kernel, by decide, by decide⟩
theorem bt_bool (g : C.sc.names.lookup ("bool" : Str) = some .globalImplicit) (m : C.mg "bool" = none) : Blt C "bool" (.type "bool") := ⟨g, m, by decide +kernel, by decide, by decide⟩
theorem bt_enumerate (g : C.sc.names.lookup ("enumerate" : Str) = some .globalImplicit) (m : C.mg "enumerate" = none) : Blt C "enumerate" (.type "enumerate") := ⟨g, m, by decide +kernel, by decide, by decide⟩
end
/-! ### smaller kinds -/
section
variable {K : PySem.W.Frag} {α β γ : Type}
abbrev SubK (r r' : α → Rp) : Prop := ∀ a F v, (r a).p F v → (r' a).p F v
theorem subR {r : α → Rp} : SubK r r := fun _ _ _ h => h
theorem subNL {N : Addr → Prop} {r r' : α → Rp} (h : SubK r r') : SubK (rN N r) (rL K r') := fun a F v x => by
  obtain ⟨q, vs, e, q2, t⟩ := rN_rL (K := K) x
  exact ⟨q, vs, e, q2, t.imp fun _ _ z => h _ _ _ z⟩
theorem subNN {N : Addr → Prop} {r r' : α → Rp} (h : SubK r r') : SubK (rN N r) (rN N r') := fun a F v x => by
  obtain ⟨q, vs, e, n, q2, t⟩ := x
  exact ⟨q, vs, e, n, q2, t.imp fun _ _ z => h _ _ _ z⟩
theorem subT3 {r1 r1' : α → Rp} {r2 r2' : β → Rp} {r3 r3' : γ → Rp} (h1 : SubK r1 r1') (h2 : SubK r2 r2') (h3 : SubK r3 r3') : SubK (rT3 K r1 r2 r3) (rT3 K r1' r2' r3') := fun a F v x => by
  obtain ⟨q, v1, v2, v3, e, q2, t1, t2, t3⟩ := x
  exact ⟨q, v1, v2, v3, e, q2, h1 _ _ _ t1, h2 _ _ _ t2, h3 _ _ _ t3⟩
/-- heap-free kinds -/
class Fre {α : Type} (r : α → Rp) : Prop where
  fre : ∀ a F v, (r a).p F v → ∀ F', (r a).p F' v
instance : Fre rI := ⟨fun _ _ _ h _ => h⟩
instance : Fre rB := ⟨fun _ _ _ h _ => h⟩
instance : Fre rS := ⟨fun _ _ _ h _ => h⟩
instance : Fre rU := ⟨fun _ _ _ h _ => h⟩
instance {r : α → Rp} [I : Fre r] : Fre (rO r) := ⟨fun a F v h F' => by
  cases a with
  | none => exact h
  | some a => exact I.fre _ _ _ h _⟩
/-! ### what a value is an instance of -/
class TyK {α : Type} (K : PySem.W.Frag) (r : α → Rp) (T : outParam String) : Prop where
  ty : ∀ x F H v, Same F H → (r x).p F v → TyX K H v (.type T)
instance : TyK K rI "int" := ⟨fun x F H v _ h => by have e : v = .int x := h; subst e; exact .base (.int x)⟩
instance : TyK K rB "bool" := ⟨fun x F H v _ h => by have e : v = .bl x := h; subst e; exact .base (.bl x)⟩
instance : TyK K rS "str" := ⟨fun x F H v _ h => by have e : v = .str x := h; subst e; exact .base (.str x)⟩
instance : TyK K rU "NoneType" := ⟨fun x F H v _ h => by have e : v = .non := h; subst e; exact .base .non⟩
theorem SqL.ty {H : Hp} {a : Addr} {xs : List V} (h : SqL K H a xs) : TyX K H (.ref a) (.type "list") := by
  rcases h with (q | ⟨o, q⟩) | ⟨o, its, n, e, c, _⟩
  · exact .base (.lst q)
  · exact .base (.frz q)
  · exact .kList e c
theorem SqT.ty {H : Hp} {a : Addr} {xs : List V} (h : SqT K H a xs) : TyX K H (.ref a) (.type "tuple") := by
  rcases h with (q | ⟨o, q⟩) | ⟨o, its, n, e, c, _⟩
  · exact .base (.tup q)
  · exact .fTuple q
  · exact .kTuple e c
instance {r : α → Rp} : TyK K (rL K r) "list" := ⟨fun x F H v s ⟨a, vs, e, q, _⟩ => by subst e; exact SqL.ty (s.seq q)⟩
instance {N : Addr → Prop} {r : α → Rp} : TyK K (rN N r) "list" := ⟨fun x F H v s ⟨a, vs, e, _, q, _⟩ => by subst e; exact .base (.lst (s _ _ q))⟩
instance {r1 : α → Rp} {r2 : β → Rp} : TyK K (rT2 K r1 r2) "tuple" := ⟨fun x F H v s ⟨a, _, _, e, q, _⟩ => by subst e; exact SqT.ty (Same.seqT s q)⟩
instance {r1 : α → Rp} {r2 : β → Rp} {r3 : γ → Rp} : TyK K (rT3 K r1 r2 r3) "tuple" := ⟨fun x F H v s ⟨a, _, _, _, e, q, _⟩ => by subst e; exact SqT.ty (Same.seqT s q)⟩
end
/-- a class by its name -/
def rTy (n : String) (_ : Unit) : Rp := ⟨fun _ v => v = .ty n, fun _ h => h⟩
section
variable {C : Cc} {Γ : List Slot} {α β γ : Type} {e e1 e2 : Expr} {pos p p2 : Pos}
theorem Ev.tyName {f : Str} {T : String} (hb : Blt C f (.type T)) : Ev C Γ (.Name f p) (rTy T) (pure ()) :=
  fun X Wx ok tk F H g σ s Q hm => WE.of (pe_bltn (v := .ty T) (hb.gl ok) (by rw [ok.mg]; exact hb.m) hb.v rfl hb.n hb.d) (hm F H g _ Fr.refl s rfl)
theorem Ev.isi {ρ : α → Rp} {T : String} {f : Str} {T2 : String} {m : W α} (b : Bool) {K : PySem.W.Frag} (hK : C.K = K) [I : TyK K ρ T] (hb : Blt C "isinstance" (.builtin "isinstance")) (hf : Blt C f (.type T2)) (hk : kitB T T2 = some b) (h : Ev C Γ e ρ m) (hn : NoStar e)  :
    Ev C Γ (.Call (.Name "isinstance" p) [e, .Name f p2] [] pos) rB (do let x ← m; let _ ← (pure () : W Unit); pure b) :=
  Ev.callB2 (fun _ _ => pure b) hb (fun X ok => ⟨_, call_isi, fun x y H v w Q E hv hw q => ⟨v, w, .type T, .type T2, b, rfl, by rw [show w = .ty T2 from hw]; exact .ty T2, by rw [ok.K, hK]; exact I.ty x H H v (Same.refl _) hv, kit_ty hk, q _ fun _ _ => rfl⟩⟩)
    (fun _ _ _ _ _ h => h) (fun y F v h F' => h) h (Ev.tyName hf) hn (fun _ _ => rfl)
theorem Ev.isiP {ρ : α → Rp} {T : String} {f : Str} {T2 : String} {x : α} (b : Bool) {K : PySem.W.Frag} (hK : C.K = K) [I : TyK K ρ T] (hb : Blt C "isinstance" (.builtin "isinstance")) (hf : Blt C f (.type T2)) (hk : kitB T T2 = some b) (h : Ev C Γ e ρ (pure x)) (hn : NoStar e)  :
    Ev C Γ (.Call (.Name "isinstance" p) [e, .Name f p2] [] pos) rB (pure b) := Ev.isi b hK hb hf hk h hn
/-! ### own lists are read for a while -/
inductive Bo (C : Cc) : Slot → Slot → Prop
  | rf {S} : Bo C S S
  | li {α : Type} {r : α → Rp} {xs : List α} {N : Addr → Prop} : Bo C (.own (oL N r xs)) (.val (rN N r xs))
  | no {S} : Bo C S .no
  | ge {O : Op} {R : Rp} (h : ∀ F F' G v, Same F F' → Same G F' → O.p F G v → R.p F' v) : Bo C (.own O) (.val R)
  | sb {R R' : Rp} (h : ∀ F v, R.p F v → R'.p F v) : Bo C (.val R) (.val R')
def noOwn : List Slot → Bool
  | [] => true
  | .own _ :: _ => false
  | _ :: r => noOwn r
theorem noOwn.ok : ∀ {Γ : List Slot}, noOwn Γ = true → ∀ S ∈ Γ, ∀ O, S ≠ .own O
  | [], _, _, h, _, _ => by cases h
  | .own _ :: _, h, _, _, _, _ => by cases h
  | .no :: r, h, S, hS, O, e => by
    rcases List.mem_cons.mp hS with q | q
    · subst q; cases e
    · exact noOwn.ok (Γ := r) h S q O e
  | .val _ :: r, h, S, hS, O, e => by
    rcases List.mem_cons.mp hS with q | q
    · subst q; cases e
    · exact noOwn.ok (Γ := r) h S q O e
/-- all that is owned, frozen -/
noncomputable def frzA (F H : Hp) (g : Nat → Hp) : Hp := fun a => by classical exact if F a ≠ none ∨ dU g a then H a else none
theorem All2.at {α β : Type} {R : α → β → Prop} {as : List α} {bs : List β} (h : All2 R as bs) {i : Nat} {b : β} (e : bs[i]? = some b) : ∃ a, as[i]? = some a ∧ R a b := h.get e
theorem StOk.frzA {F H : Hp} {Γ' : List Slot} {σ : St} {g : Nat → Hp} (s : StOk C F H Γ σ g) (hb : All2 (Bo C) Γ Γ') (hv : ∀ (i : Nat) (O : Op), Γ'[i]? ≠ some (Slot.own O)) : StOk C (Y.frzA F H g) H Γ' σ (fun _ => emp) ∧ Same F (Y.frzA F H g) ∧ (∀ i, Same (g i) (Y.frzA F H g)) ∧ (∀ b, Y.frzA F H g b ≠ none → F b ≠ none ∨ dU g b) := by
  have sF : Same F (Y.frzA F H g) := fun a o q => by
    unfold Y.frzA
    rw [if_pos (.inl (by rw [q]; simp))]
    exact s.sF a o q
  have sG : ∀ i, Same (g i) (Y.frzA F H g) := fun i a o q => by
    unfold Y.frzA
    rw [if_pos (.inr ⟨i, by rw [q]; simp⟩)]
    exact s.sG i a o q
  refine ⟨⟨hb.length.symm.trans s.len, fun i S q => ?_, fun a o q => ?_, fun i a o q => (nomatch q), fun i a => .inr rfl, fun i j _ a => .inr rfl, s.fr⟩, sF, sG, fun b q => ?_⟩
  · obtain ⟨S0, q0, r⟩ := hb.at q
    have x := s.slot i S0 q0
    cases r with
    | rf =>
      cases S with
      | no => trivial
      | val R => exact SlotOk.mono (S := .val R) sF x
      | own O => exact absurd q (hv i O)
    | no => trivial
    | li =>
      obtain ⟨v, e1, a, vs, e2, n, e3, t⟩ := x
      exact ⟨v, e1, a, vs, e2, n, sG i a _ (by rw [e3]; exact one_same), t.imp fun _ _ z => (_ : Rp).mono sF z⟩
    | ge h =>
      obtain ⟨v, e1, r⟩ := x
      exact ⟨v, e1, h _ _ _ _ sF (sG i) r⟩
    | sb h =>
      obtain ⟨v, e1, r⟩ := x
      exact ⟨v, e1, h _ _ (Rp.mono _ sF r)⟩
  · unfold Y.frzA at q
    split at q
    · exact q
    · cases q
  · unfold Y.frzA at q
    split at q
    · assumption
    · exact absurd rfl q
/-- back -/
theorem StOk.unfrz {F H F' H' : Hp} {Γ' : List Slot} {σ : St} {g g' : Nat → Hp} (s : StOk C F H Γ σ g) (hb : All2 (Bo C) Γ Γ') (hv : ∀ (i : Nat) (O : Op), Γ'[i]? ≠ some (Slot.own O)) (f : Fr (Y.frzA F H g) H (dU fun _ => emp) F' H' (dU g')) (s' : StOk C F' H' Γ' σ g') :
    StOk C F H' Γ σ g ∧ Fr F H (dU g) F H' (dU g) := by
  obtain ⟨s1, sF, sG, fF⟩ := s.frzA hb hv
  refine ⟨⟨s.len, s.slot, (sF.trans f.sF).trans s'.sF, fun i => ((sG i).trans f.sF).trans s'.sF, s.dF, s.dG, s'.fr⟩, Same.refl _, fun b q => .inl q, fun b o q n => f.keep b o q fun ⟨_, z⟩ => z rfl, f.dom, fun b q => .inl q⟩
theorem XEnd.frz {F H : Hp} {Γ' : List Slot} {σ : St} {g : Nat → Hp} {Wx : WX} {x : Exn} (s : StOk C F H Γ σ g) (hb : All2 (Bo C) Γ Γ') (hv : ∀ (i : Nat) (O : Op), Γ'[i]? ≠ some (Slot.own O)) (h : XEnd C F H (dU g) Γ σ Wx x) : XEnd C (Y.frzA F H g) H (dU fun _ => emp) Γ' σ Wx x := fun F' H' g' cls d f s' hx => by
  obtain ⟨s2, f2⟩ := s.unfrz hb hv f s'
  exact h F H' g cls d f2 s2 (hx.reg s.sG)
theorem Ev.borrow {Γ' : List Slot} {ρ : α → Rp} [I : Fre ρ] {m : W α} (hb : All2 (Bo C) Γ Γ') (hv : noOwn Γ' = true) (h : Ev C Γ' e ρ m) : Ev C Γ e ρ m := fun X Wx ok tk F H g σ s Q hm => by
  have hv' : ∀ (i : Nat) (O : Op), Γ'[i]? ≠ some (Slot.own O) := fun i O q => noOwn.ok hv _ (List.mem_of_getElem? q) O rfl
  refine h X Wx ok tk _ H _ σ (s.frzA hb hv').1 Q (m.mono (fun a ha F' H' g' v f s' r => ?_) (fun x hx => hx.frz s hb hv') hm)
  obtain ⟨s2, f2⟩ := s.unfrz hb hv' f s'
  exact ha F H' g v f2 s2 (I.fre _ _ _ r _)
theorem EvT.borrow {Γ' : List Slot} {m : W Bool} (hb : All2 (Bo C) Γ Γ') (hv : noOwn Γ' = true) (h : EvT C Γ' e m) : EvT C Γ e m := fun X Wx ok tk F H g σ s Q hm => by
  have hv' : ∀ (i : Nat) (O : Op), Γ'[i]? ≠ some (Slot.own O) := fun i O q => noOwn.ok hv _ (List.mem_of_getElem? q) O rfl
  refine h X Wx ok tk _ H _ σ (s.frzA hb hv').1 Q (m.mono (fun a ha F' H' g' f s' => ?_) (fun x hx => hx.frz s hb hv') hm)
  obtain ⟨s2, f2⟩ := s.unfrz hb hv' f s'
  exact ha F H' g f2 s2
theorem EvO.borrow {Γ' : List Slot} {r : α → Rp} [I : Fre r] {m : W (List α)} (hb : All2 (Bo C) Γ Γ') (hv : noOwn Γ' = true) (h : EvO C Γ' e (oL C.fr r) m) : EvO C Γ e (oL C.fr r) m := fun X Wx ok tk F H g σ s Q hm => by
  have hv' : ∀ (i : Nat) (O : Op), Γ'[i]? ≠ some (Slot.own O) := fun i O q => noOwn.ok hv _ (List.mem_of_getElem? q) O rfl
  obtain ⟨s1, sF, sG, fF⟩ := s.frzA hb hv'
  refine h X Wx ok tk _ H _ σ s1 Q (m.mono (fun a ha F' H' g' G v f s' sG' dF' dG' nG r => ?_) (fun x hx => hx.frz s hb hv') hm)
  have dd : ∀ {A : Hp}, Same A F' → Dis A G := fun {A} z b => by
    rcases dF' b with q | q
    · refine .inl ?_
      cases q2 : A b with
      | none => rfl
      | some o => rw [z b o q2] at q; cases q
    · exact .inr q
  have sFF := sF.trans f.sF
  have sGF := fun i => (sG i).trans f.sF
  refine ha F H' g G v ⟨Same.refl _, fun b q => .inl q, fun b o q n => f.keep b o q fun ⟨_, z⟩ => z rfl, f.dom, fun b q => ?_⟩ ⟨s.len, s.slot, sFF.trans s'.sF, fun i => (sGF i).trans s'.sF, s.dF, s.dG, s'.fr⟩ sG' (dd sFF) (fun i => dd (sGF i)) nG ?_
  · rcases q with q | q
    · exact .inl q
    · rcases f.gs b (.inr q) with ⟨_, z⟩ | z
      · exact absurd rfl z
      · exact .inr z
  · obtain ⟨a1, vs, e1, n1, e2, t⟩ := r
    exact ⟨a1, vs, e1, n1, e2, t.imp fun _ _ z => I.fre _ _ _ z _⟩
/-! ### calls that tell a list of the asker's own -/
theorem EvO.callA {x : Str} {j n : Nat} {es : List Expr} {τ : Type} {ins : (Addr → Prop) → τ → List Rp} {r : β → Rp} [I : Fre r] {mf : τ → W (List β)} {mt : W τ} (hf : FnV C.toMc x j n ins (fun N => rN N r) mf) (hi : ∀ N N' t, ins N t = ins N' t) (hj : j ≤ C.k) (hg : C.sc.names.lookup x = some .globalImplicit) (ha : EvA C Γ (e :: es) (ins C.fr) mt) (hn : NoStar e) (hpl : ∀ (X : Cx) (pos : Pos), (backTo pos (starEach es X.env)).any (·.1) = false)
    (hd : (x == ("__debug__" : Str)) = false := by decide) (hcm : C.cm = true := by rfl) : EvO C Γ (.Call (.Name x p) (e :: es) [] pos) (oL C.fr r) (do let t ← mt; mf t) :=
  fun X Wx ok tk F H g σ s Q hm => by
    obtain ⟨⟨f, fd, ps, hF, hmg, hk, hb⟩, hl⟩ := hf
    have e1 := ok.prog
    have e2 := ok.w
    have e3 := ok.K
    have e4 := ok.mg
    have e5 := ok.base
    refine WE.of (pe_callS (E := fun σ => L2.WE Wx σ) (by rw [e1, e2, e3, e4, e5]; exact hF) ((ok.room hcm).mono hj) (show X.env.scope.names.lookup x = _ by rw [ok.sc]; exact hg) (by rw [e4]; exact hmg) (by rw [e3]; exact hk) (by rw [e3]; exact hb) (fun σ => by
      have := passAt tk σ
      rw [e1, e2] at this
      exact this) (pa_W (es := e :: es)) hd (hn es X.env) (hpl X pos)) ?_
    refine ha.2 X Wx ok tk F H g σ s _ (mt.mono (fun t ht F1 H1 g1 vs f1 s1 r1 => ?_) (fun e he => he) hm)
    refine ⟨t, F1, fun a => H1 a = none, fun _ z => z, s1.sF, by rw [hi _ C.fr t]; exact r1, (mf t).mono (fun b hb F2 H2 g2 v f2 s2 r2 => ?_) (fun e he F2 H2 g2 cls d f2 s2 hx => ?_) ht⟩
    · obtain ⟨s3, f3⟩ := s1.call0 f2 s2
      obtain ⟨a, us, ev, hn1, ha, t2⟩ := r2
      refine hb F1 H2 g1 (one a (.lst us)) v (f1.trans ⟨Same.refl _, fun b q => .inl q, fun b o q _ => f2.keep b o q fun z => z, f2.dom, fun b q => ?_⟩) ⟨s1.len, s1.slot, fun b o q => s2 _ _ (f2.sF b o q), s3.sG, s1.dF, s1.dG, s3.fr⟩ (fun b o q => ?_) (fun b => ?_) (fun i b => ?_) (fun b q => ?_) ⟨a, us, ev, s1.fr a hn1, rfl, t2.imp fun _ _ z => I.fre _ _ _ z _⟩
      · rcases q with q | q
        · exact .inl q
        · by_cases hba : b = a
          · subst hba; exact .inr hn1
          · exact absurd (one_ne hba) q
      · by_cases hba : b = a
        · subst hba; rw [one_same] at q; cases q; exact s2 _ _ ha
        · rw [one_ne hba] at q; cases q
      · by_cases hba : b = a
        · subst hba
          refine .inl ?_
          cases q : F1 b with
          | none => rfl
          | some o => rw [s1.sF b o q] at hn1; cases hn1
        · exact .inr (one_ne hba)
      · by_cases hba : b = a
        · subst hba
          refine .inl ?_
          cases q : g1 i b with
          | none => rfl
          | some o => rw [s1.sG i b o q] at hn1; cases hn1
        · exact .inr (one_ne hba)
      · by_cases hba : b = a
        · subst hba; exact s1.fr b hn1
        · exact absurd (one_ne hba) q
    · obtain ⟨s3, f3⟩ := s1.call0 f2 s2
      exact he F2 H2 g1 cls d (f1.trans f3) s3 ((hx.reg s1.sG).later f1)
variable {e3 e4 : Expr} {δ ε : Type} {x : Str} {j : Nat} {r : ε → Rp} [I : Fre r]
theorem EvO.call1 {ra : α → Rp} {m1 : W α} {mf : α × Unit → W (List ε)} (hf : FnV C.toMc x j 1 (fun N t => [ra t.1]) (fun N => rN N r) mf) (hj : j ≤ C.k) (hg : C.sc.names.lookup x = some .globalImplicit) (h1 : Ev C Γ e1 ra m1) (n1 : NoStar e1) (hd : (x == ("__debug__" : Str)) = false := by decide) (hcm : C.cm = true := by rfl) :
    EvO C Γ (.Call (.Name x p) [e1] [] pos) (oL C.fr r) (do let a ← m1; mf (a, ())) := EvO.callA (mt := do let a ← m1; let t ← pure (); pure (a, t)) hf (fun _ _ _ => rfl) hj hg (EvA.cons h1 EvA.nil n1) n1 noArgs hd hcm
theorem EvO.call2 {ra : α → Rp} {rb : β → Rp} {m1 : W α} {m2 : W β} {mf : α × β × Unit → W (List ε)} (hf : FnV C.toMc x j 2 (fun N t => [ra t.1, rb t.2.1]) (fun N => rN N r) mf) (hj : j ≤ C.k) (hg : C.sc.names.lookup x = some .globalImplicit) (h1 : Ev C Γ e1 ra m1) (h2 : Ev C Γ e2 rb m2) (n1 : NoStar e1) (n2 : NoStar e2) (hd : (x == ("__debug__" : Str)) = false := by decide) (hcm : C.cm = true := by rfl) :
    EvO C Γ (.Call (.Name x p) [e1, e2] [] pos) (oL C.fr r) (do let a ← m1; let b ← m2; mf (a, b, ())) := EvO.callA (mt := do let a ← m1; let t ← (do let b ← m2; let t ← pure (); pure (b, t)); pure (a, t)) hf (fun _ _ _ => rfl) hj hg (EvA.cons h1 (EvA.cons h2 EvA.nil n2) n1) n1 (EvA.cons h2 EvA.nil n2).1 hd hcm
theorem EvO.call3 {ra : α → Rp} {rb : β → Rp} {rc : γ → Rp} {m1 : W α} {m2 : W β} {m3 : W γ} {mf : α × β × γ × Unit → W (List ε)} (hf : FnV C.toMc x j 3 (fun N t => [ra t.1, rb t.2.1, rc t.2.2.1]) (fun N => rN N r) mf) (hj : j ≤ C.k) (hg : C.sc.names.lookup x = some .globalImplicit) (h1 : Ev C Γ e1 ra m1) (h2 : Ev C Γ e2 rb m2) (h3 : Ev C Γ e3 rc m3) (n1 : NoStar e1) (n2 : NoStar e2) (n3 : NoStar e3) (hd : (x == ("__debug__" : Str)) = false := by decide) (hcm : C.cm = true := by rfl) :
    EvO C Γ (.Call (.Name x p) [e1, e2, e3] [] pos) (oL C.fr r) (do let a ← m1; let b ← m2; let c ← m3; mf (a, b, c, ())) :=
  EvO.callA (mt := do let a ← m1; let t ← (do let b ← m2; let t ← (do let c ← m3; let t ← pure (); pure (c, t)); pure (b, t)); pure (a, t)) hf (fun _ _ _ => rfl) hj hg (EvA.cons h1 (EvA.cons h2 (EvA.cons h3 EvA.nil n3) n2) n1) n1 (EvA.cons h2 (EvA.cons h3 EvA.nil n3) n2).1 hd hcm
end
section
variable {C : Cc} {Γ : List Slot} {α β : Type} {e e1 e2 a b : Expr} {pos p : Pos}
/-! ### comparisons as tests -/
theorem wpAny_isTrue_cmp {M : Model} {A : Around} {E : Value → Shared → Prop} {env : Env} {s : Shared} {l r : Expr} {op : CmpOp} {whole : Sem Value} {Q : Bool → Shared → Prop} (h : wpAny M A (eval (.Compare l [op] [r] pos) env) (fun c s' => wpAny M A (truthy c) Q E s') E s) (hm : behindInMarks op r = false) :
    wpAny M A (isTrue (.Compare l [op] [r] pos) env whole) Q E s := fun Γ p hΓ => by
  have h0 := h Γ p hΓ
  simp only [eval_Compare1, isTrue_Compare1, markedBehindIn_of_false hm, Sem.wp_bind', Sem.wp_holding, Sem.wp_cmd_standAt, Sem.wp_operate] at h0 ⊢
  exact Sem.wp_mono M Γ _ (fun a p₁ s₁ h₁ => Sem.wp_mono M Γ _ (fun b p₂ s₂ h₂ => Sem.wp_mono M Γ _ (fun c p₃ s₃ h₃ => h₃ Γ p₃ hΓ) (fun _ _ _ h' => h') _ _ h₂) (fun _ _ _ h' => h') _ _ h₁) (fun _ _ _ h' => h') _ _ h0
theorem EvT.cmp {op : CmpOp} {m : W Bool} (h : Ev C Γ (.Compare a [op] [b] pos) rB m) (hm : behindInMarks op b = false := by with_unfolding_all rfl) : EvT C Γ (.Compare a [op] [b] pos) m := fun X Wx ok tk F H g σ s Q hw => by
  unfold WT
  intro pins s0 I
  refine wpAny_isTrue_cmp (thn (pe_W.run pins s0 σ H (fun v H' => ∃ k, v = .bl k ∧ Q k H') I (h X Wx ok tk F H g σ s (fun v H' => ∃ k, v = .bl k ∧ Q k H') (m.mono (fun x hx F1 H1 g1 v f1 s1 r1 => ⟨x, r1, hx F1 H1 g1 f1 s1⟩) (fun e he => he) hw))) fun c s3 ⟨z, H3, I3, r3, k, e, q3⟩ => ?_) hm
  subst e
  cases r3
  exact wpAny_truthy_bool ⟨H3, I3, q3⟩
/-! ### loops that may return; mixed ifs: S goes on, ρ is told -/
def Fl.out {S ρ : Type} : Fl S ρ → S ⊕ ρ
  | .go s => .inl s
  | .brk s => .inl s
  | .ret r => .inr r
theorem Ex1.map {ω ω' : Type} {J : ω → Out} {J' : ω' → Out} {st : Stmt} {m : W ω} (f : ω → ω') (h : ∀ o, J' (f o) = J o) (x : Ex1 C Γ st J m) : Ex1 C Γ st J' (do let o ← m; pure (f o)) := fun X Wx ok tk F H g σ s D hm =>
  x X Wx ok tk F H g σ s D (m.mono (fun o z => by
    have z' : OutOk C D F H (dU g) (J' (f o)) := z
    rw [h o] at z'
    exact z') (fun _ z => z) hm)
def outX {S ρ : Type} (Γs : S → List Slot) (R : ρ → Rp) : S ⊕ ρ → Out
  | .inl s => .nx (Γs s)
  | .inr r => .rt (R r)
def outF {S ρ : Type} (Γs : S → List Slot) (R : ρ → Rp) : Fl S ρ → Out
  | .go s => .lp (Γs s)
  | .ret r => .rt (R r)
  | .brk s => .bk (Γs s)
theorem Ex1.forX {S ρ : Type} {tg iter : Expr} {body : List Stmt} {r : α → Rp} {t : TG} {up : List Slot → α → List Slot} {m : W (List α)} {f : S → α → W (Fl S ρ)} (Γs : S → List Slot) (R : ρ → Rp) {s0 : S} (hi : EvI C Γ tg iter r m) (hg : EvG C tg r t up) (h0 : All2 Le1 Γ (Γs s0))
    (hb : ∀ s x, Ex C (up (Γs s) x) body (outF Γs R) (f s x))
    (hs : ∀ (env : Env) x, foldedSetIterable iter env x = pure x := by intro _ _; rfl) (hcm : C.cm = true := by rfl) : Ex1 C Γ (.For tg iter body [] pos) (outX Γs R) (do let o ← (do let xs ← m; W.foldR f s0 xs); pure o.out) :=
  Ex1.map (J := fun o : Fl S ρ => match o with | .go s' => .nx (Γs s') | .ret r => .rt (R r) | .brk s' => .nx (Γs s')) Fl.out (fun o => by cases o <;> rfl) (Ex1.forR Γs (fun r => .rt (R r)) (fun x => .inl ⟨_, rfl⟩) hi hg h0 (fun s x => by
    have := hb s x
    rwa [show outF Γs R = (fun o : Fl S ρ => match o with | .go s' => .lp (Γs s') | .ret r => .rt (R r) | .brk s' => .bk (Γs s')) from funext fun o => by cases o <;> rfl] at this) hs hcm)
/-! ### pure forms -/
theorem Ev.lenLP {r : α → Rp} {x : List α} (hb : Blt C "len" (.builtin "len")) (ha : Ev C Γ e (rL C.K r) (pure x)) (hn : NoStar e) : Ev C Γ (.Call (.Name "len" p) [e] [] pos) rI (pure (x.length : Int)) := Ev.lenL hb ha hn
theorem Ev.lenSP {x : Str} (hb : Blt C "len" (.builtin "len")) (ha : Ev C Γ e rS (pure x)) (hn : NoStar e) : Ev C Γ (.Call (.Name "len" p) [e] [] pos) rI (lenW x) := Ev.lenS hb ha hn
theorem Ev.ixLP {r : α → Rp} {xs : List α} {i : Int} (ha : Ev C Γ a (rL C.K r) (pure xs)) (hb : Ev C Γ b rI (pure i)) (hp : PlainIx b := by intro _ _; rfl) : Ev C Γ (.Subscript a b pos) r (idx xs i) := Ev.ixL ha hb hp
theorem Ev.nameP {i : Nat} {x : Str} {ρ : α → Rp} {v : α} (hN : C.N[i]? = some x) (hv : visB C.sc x = true) (hΓ : Γ[i]? = some (.val (ρ v))) (hd : (x == ("__debug__" : Str) || x == ("__classdict__" : Str)) = false) : Ev C Γ (.Name x pos) ρ (pure v) := by
  rw [Bool.or_eq_false_iff] at hd
  exact Ev.name hN (visOf hv) hΓ hd.1 hd.2
theorem Ev.eqK {K : PySem.W.Frag} (hK : C.K = K) {ma mb : W α} {ρa ρb : α → Rp} [I : DatE K ρa] [J : DatE K ρb] [DecidableEq α] (he : I.enc = J.enc) (hda : I.dep ≤ 64) (hdb : J.dep ≤ 64) (ho : I.ok = J.ok) (ha : Ev C Γ a ρa ma) (hb : Ev C Γ b ρb mb) :
    Ev C Γ (.Compare a [.Eq] [b] pos) rB (do let x ← ma; let y ← mb; eqW I.ok x y) := by subst hK; exact Ev.eq he hda hdb ho ha hb
theorem Ev.neK {K : PySem.W.Frag} (hK : C.K = K) {ma mb : W α} {ρa ρb : α → Rp} [I : DatE K ρa] [J : DatE K ρb] [DecidableEq α] (he : I.enc = J.enc) (hda : I.dep ≤ 64) (hdb : J.dep ≤ 64) (ho : I.ok = J.ok) (ha : Ev C Γ a ρa ma) (hb : Ev C Γ b ρb mb) :
    Ev C Γ (.Compare a [.NotEq] [b] pos) rB (do let x ← ma; let y ← mb; neW I.ok x y) := by subst hK; exact Ev.ne he hda hdb ho ha hb
end
/-! ### the law's def -/
theorem okBody {M : Mc} {x : Str} {f : Addr} {fd : FuncData} {st : Stmt} {k n : Nat} {N ps : List Str} {τ β : Type} {ins : (Addr → Prop) → τ → List Rp} {ρ : (Addr → Prop) → β → Rp} {m : τ → W β} (F : Fun M.K x x st f fd) (S : FnScope N ps (defScope st))
    (hn : ps.length = n) (hl : ∀ N t, (ins N t).length = n) (h : ∀ (fr : Addr → Prop) (t : τ), Ex (initC M N (defScope st) k fr) (Γ0 (ins fr t) N) (defBody st) (fun b => .rt (ρ fr b)) (m t)) : FnOk M.P M.w M.K M.mg M.base (L2.CX M.P M.w) (k + 1) f fd ps (spV M ins ρ m) := by
  refine F.okX S (fun vs H Q E hsp => ?_) (fun cdv A outer s H vs Q E hr hsp => ?_)
  · obtain ⟨t, F', Nf, _, _, r, _⟩ := hsp
    rw [r.length, hl, hn]
  · obtain ⟨t, F', Nf, hNf, sm, r, w⟩ := hsp
    refine ⟨_, pss_W, ?_⟩
    refine h Nf t (cxOf (L2.CX M.P M.w) M.P M.w M.K M.mg M.base N x (defScope st) f cdv A outer s H E) (fun cls d _ H => E cls d H) ⟨⟨rfl, rfl, rfl, rfl, rfl, rfl, rfl, S.nd, rfl, fun _ => hr, hr.units, fun _ _ _ h => (nomatch h), fun _ _ => rfl⟩, passes_of rfl, rfl, rfl⟩ (takes_of rfl rfl rfl rfl) F' H _ _ (start_ok hNf sm r) _ ((m t).mono (fun b hb => ?_) (fun e he => ?_) w)
    · intro F2 H2 g2 v f2 s2 r2
      exact hb F2 H2 g2 v (show Fr F' H (fun _ => False) F2 H2 (dU g2) from ⟨f2.sF, fun b z => (f2.fF b z).imp_right fun q => q.imp_right fun ⟨_, q⟩ => absurd rfl q, fun b o q _ => f2.keep b o q fun ⟨_, z⟩ => absurd rfl z, f2.dom, fun b z => (f2.gs b z).imp_left fun ⟨_, q⟩ => absurd rfl q⟩) s2 r2
    · intro F2 H2 g2 σ2 cls d f2 s2 hx
      exact he F2 H2 g2 cls d ⟨f2.sF, fun b z => (f2.fF b z).imp_right fun q => q.imp_right fun ⟨_, q⟩ => absurd rfl q, fun b o q _ => f2.keep b o q fun ⟨_, z⟩ => absurd rfl z, f2.dom, fun b z => (f2.gs b z).imp_left fun ⟨_, q⟩ => absurd rfl q⟩ s2 hx
end Y

/-! Y11: more expressions -/
namespace Y
open PySem PySem.Spec L2
section
variable {C : Cc} {Γ : List Slot} {α β γ δ : Type} {e e1 e2 a b c : Expr} {pos p p2 : Pos}
/-! ### lists -/
def catL (x y : List α) : W (List α) := W.req (x.length + y.length ≤ sizeLine) (pure (x ++ y))
theorem EvO.cat {r : α → Rp} {ma mb : W (List α)} (ha : Ev C Γ a (rN C.fr r) ma) (hb : Ev C Γ b (rN C.fr r) mb) : EvO C Γ (.BinOp a .Add b pos) (oL C.fr r) (do let x ← ma; let y ← mb; catL x y) :=
  fun X Wx ok tk F H g σ s Q hm => by
    refine WE.of (pe_op op_cat (pe_W (e := a)) (pe_W (e := b))) ?_
    refine ha X Wx ok tk F H g σ s _ (ma.mono (fun x hx F1 H1 g1 v f1 s1 r1 => ?_) (fun e he => he) hm)
    refine hb X Wx ok tk F1 H1 g1 σ s1 _ (mb.mono (fun y hy F2 H2 g2 w f2 s2 r2 => ?_) (fun e he => XEnd.later f1 he) hx)
    obtain ⟨q1, vs1, e1, n1, h1, t1⟩ := (rN C.fr r x).mono f2.sF r1
    obtain ⟨q2, vs2, e2, n2, h2, t2⟩ := r2
    obtain ⟨hl, hy⟩ := hy
    refine ⟨q1, q2, vs1, vs2, e1, e2, s2.sF _ _ h1, s2.sF _ _ h2, by rw [t1.length, t2.length]; exact hl, fun l hl2 => ?_⟩
    exact EvO.fin (O := oL C.fr r (x ++ y)) (f1.trans f2) s2 hl2 (fun n => ⟨l, _, rfl, n, rfl, t1.append t2⟩) hy
theorem EvO.rev {r : α → Rp} {m : W (List α)} {k : Nat} {p1 p2 p3 : Pos} (ha : Ev C Γ a (rL C.K r) m) : EvO C Γ (.Subscript a (.Slice none none (some (.UnaryOp .USub (.Constant (.int 1) k p1) p2)) p3) pos) (oL C.fr r) (do let x ← m; pure x.reverse) :=
  fun X Wx ok tk F H g σ s Q hm => by
    refine WE.of (pe_revL (pe_W (e := a))) ?_
    refine ha X Wx ok tk F H g σ s _ (m.mono (fun x hx F1 H1 g1 v f1 s1 r1 => ?_) (fun e he => he) hm)
    obtain ⟨q, vs, ev, hq, t⟩ := r1
    exact ⟨q, vs, ev, by rw [ok.K]; exact s1.sF.seq hq, fun l hl => EvO.fin (O := oL C.fr r x.reverse) f1 s1 hl (fun n => ⟨l, _, rfl, n, rfl, t.reverse⟩) hx⟩
/-! ### tuples -/
theorem Ev.ixT2_1P {r1 : α → Rp} {r2 : β → Rp} {x : α × β} {j : Nat} (ha : Ev C Γ a (rT2 C.K r1 r2) (pure x)) : Ev C Γ (.Subscript a (.Constant (.int 1) j p2) pos) r2 (pure x.2) := Ev.ixT2_1 ha
theorem Ev.ixT3_0P {r1 : α → Rp} {r2 : β → Rp} {r3 : γ → Rp} {x : α × β × γ} {j : Nat} (ha : Ev C Γ a (rT3 C.K r1 r2 r3) (pure x)) : Ev C Γ (.Subscript a (.Constant (.int 0) j p2) pos) r1 (pure x.1) := Ev.ixT3_0 ha
theorem Ev.ixT3_1P {r1 : α → Rp} {r2 : β → Rp} {r3 : γ → Rp} {x : α × β × γ} {j : Nat} (ha : Ev C Γ a (rT3 C.K r1 r2 r3) (pure x)) : Ev C Γ (.Subscript a (.Constant (.int 1) j p2) pos) r2 (pure x.2.1) := Ev.ixT3_1 ha
theorem Ev.ixT3_2P {r1 : α → Rp} {r2 : β → Rp} {r3 : γ → Rp} {x : α × β × γ} {j : Nat} (ha : Ev C Γ a (rT3 C.K r1 r2 r3) (pure x)) : Ev C Γ (.Subscript a (.Constant (.int 2) j p2) pos) r3 (pure x.2.2) := Ev.ixT3_2 ha
theorem Ev.lenT {ρ : α → Rp} {m : W α} (n : Nat) (hρ : ∀ x F v, (ρ x).p F v → ∃ q vs, v = .ref q ∧ SqT C.K F q vs ∧ vs.length = n) (hb : Blt C "len" (.builtin "len")) (ha : Ev C Γ e ρ m) (hn : NoStar e) : Ev C Γ (.Call (.Name "len" p) [e] [] pos) rI (do let _ ← m; pure (n : Int)) :=
  Ev.callB1 (fun _ => pure (n : Int)) hb (fun X ok => ⟨_, call_len_seq, fun x H v Q E hv h => by
    obtain ⟨q, vs, ev, hq, hl⟩ := hρ x H v hv
    exact ⟨q, vs, by rw [ev], .inr (by rw [ok.K]; exact hq), by rw [hl]; exact h _ fun _ _ => rfl⟩⟩) (fun _ _ _ _ h => h) (fun y F v h F' => h) ha hn
theorem Ev.lenT3 {r1 : α → Rp} {r2 : β → Rp} {r3 : γ → Rp} {m : W (α × β × γ)} (hb : Blt C "len" (.builtin "len")) (ha : Ev C Γ e (rT3 C.K r1 r2 r3) m) (hn : NoStar e) : Ev C Γ (.Call (.Name "len" p) [e] [] pos) rI (do let _ ← m; pure (3 : Int)) :=
  Ev.lenT (ρ := rT3 C.K r1 r2 r3) 3 (fun x F v ⟨q, v1, v2, v3, ev, hq, _⟩ => ⟨q, _, ev, hq, rfl⟩) hb ha hn
/-! ### truths, None -/
/-- what is surely not None -/
def theW {α : Type} : Option α → W α
  | some x => pure x
  | none => W.bad
theorem Ev.the {r : α → Rp} {m : W (Option α)} (h : Ev C Γ e (rO r) m) : Ev C Γ e r (do let x ← m; theW x) := fun X Wx ok tk F H g σ s Q hm =>
  h X Wx ok tk F H g σ s Q (m.mono (fun x hx F1 H1 g1 v f1 s1 r1 => by
    cases x with
    | none => exact absurd hx id
    | some x => exact hx F1 H1 g1 v f1 s1 r1) (fun _ h => h) hm)
/-! ### texts -/
def memS (x z : Str) : Bool := match x.cps.toList with
  | [c] => decide (c ∈ z.cps.toList)
  | _ => false
theorem one_sign {x : Str} (h : x.cps.size = 1) : ∃ c, x = ⟨#[c]⟩ ∧ x.cps.toList = [c] := by
  obtain ⟨cps⟩ := x
  obtain ⟨l⟩ := cps
  match l, h with
  | [c], _ => exact ⟨c, rfl, rfl⟩
def inSgn (x z : Str) : W Bool := W.req (x.cps.size = 1) (pure (memS x z))
def notInSgn (x z : Str) : W Bool := W.req (x.cps.size = 1) (pure (!memS x z))
theorem Ev.notInS {ma mb : W Str} (ha : Ev C Γ a rS ma) (hb : Ev C Γ b rS mb) (hk : behindInMarks .NotIn b = false := by with_unfolding_all rfl) : Ev C Γ (.Compare a [.NotIn] [b] pos) rB (do let x ← ma; let y ← mb; notInSgn x y) :=
  Ev.cmpW notInSgn (fun X ok => ⟨_, op_notIn_sign, fun x y H v w Q E hv hw h => by
    obtain ⟨h1, h2⟩ := h
    obtain ⟨c, ec, el⟩ := one_sign h1
    refine ⟨c, y, by rw [← ec]; exact hv, hw, ?_⟩
    have h3 : Q (.bl (!memS x y)) H := h2
    unfold memS at h3
    rw [el] at h3
    exact h3⟩) (fun _ _ _ _ _ h => h) hk ha hb
def leStr (x y : Str) : Bool := !decide (y.cps.toList < x.cps.toList)
/-! ### chains -/
structure CmpR (C : Cc) (op : CmpOp) (ρa : α → Rp) (ρb : β → Rp) (k : α → β → Bool) : Prop where
  hop : ∀ X, C.Ok X → ∃ r, OpR X (compareOp op) r ∧ ∀ x y H v w Q, (ρa x).p H v → (ρb y).p H w → Q (.bl (k x y)) H → r v w H Q
theorem cr_le : CmpR C .LtE rI rI (fun x y => decide (x ≤ y)) := ⟨fun X _ => ⟨_, op_le, fun x y H v w Q hv hw q => ⟨x, y, hv, hw, q⟩⟩⟩
def chW {α β γ : Type} (k : α → β → Bool) (k' : β → γ → Bool) (x : α) (y : β) (mc : W γ) : W Bool := if k x y = true then (do let z ← mc; pure (k' y z)) else pure false
theorem wp_chW {k : α → β → Bool} {k' : β → γ → Bool} {x : α} {y : β} {mc : W γ} {P : Bool → Prop} {E : Exn → Prop} : (chW k k' x y mc).wp P E ↔ if k x y = true then mc.wp (fun z => P (k' y z)) E else P false := by
  unfold chW
  split <;> exact Iff.rfl
theorem Ev.chain {op op' : CmpOp} {ρa : α → Rp} {ρb : β → Rp} {ρc : γ → Rp} {ma : W α} {mb : W β} {mc : W γ} {k : α → β → Bool} {k' : β → γ → Bool} (h1 : CmpR C op ρa ρb k) (h2 : CmpR C op' ρb ρc k') (ha : Ev C Γ a ρa ma) (hb : Ev C Γ b ρb mb) (hc : Ev C Γ c ρc mc)
    (hm : lastMarks [op, op'] [b, c] = false := by with_unfolding_all rfl) : Ev C Γ (.Compare a [op, op'] [b, c] pos) rB (do let x ← ma; let y ← mb; chW k k' x y mc) := fun X Wx ok tk F H g σ s Q hw => by
  obtain ⟨r, ho, hr⟩ := h1.hop X ok
  obtain ⟨r', ho', hr'⟩ := h2.hop X ok
  refine WE.of (pe_chain ho ho' (pe_W (e := a)) (pe_W (e := b)) (pe_W (e := c)) hm) ?_
  refine ha X Wx ok tk F H g σ s _ (ma.mono (fun x hx F1 H1 g1 v f1 s1 r1 => ?_) (fun e he => he) hw)
  refine hb X Wx ok tk F1 H1 g1 σ s1 _ (mb.mono (fun y hy F2 H2 g2 w f2 s2 r2 => ?_) (fun e he => XEnd.later f1 he) hx)
  refine hr x y H2 v w _ ((ρa x).mono (f2.sF.trans s2.sF) r1) ((ρb y).mono s2.sF r2) ⟨_, rfl, ?_⟩
  have hy := wp_chW.mp hy
  split
  · rename_i hk
    rw [if_pos hk] at hy
    refine hc X Wx ok tk F2 H2 g2 σ s2 _ (mc.mono (fun z hz F3 H3 g3 u f3 s3 r3 => ?_) (fun e he => XEnd.later (f1.trans f2) he) hy)
    exact hr' y z H3 w u _ ((ρb y).mono (f3.sF.trans s3.sF) r2) ((ρc z).mono s3.sF r3) (hz F3 H3 g3 _ (f1.trans (f2.trans f3)) s3 rfl)
  · rename_i hk
    rw [if_neg hk] at hy
    exact hy F2 H2 g2 _ (f1.trans f2) s2 rfl
theorem EvT.chain {op op' : CmpOp} {ρa : α → Rp} {ρb : β → Rp} {ρc : γ → Rp} {ma : W α} {mb : W β} {mc : W γ} {k : α → β → Bool} {k' : β → γ → Bool} (h1 : CmpR C op ρa ρb k) (h2 : CmpR C op' ρb ρc k') (ha : Ev C Γ a ρa ma) (hb : Ev C Γ b ρb mb) (hc : Ev C Γ c ρc mc)
    (hm : lastMarks [op, op'] [b, c] = false := by with_unfolding_all rfl) : EvT C Γ (.Compare a [op, op'] [b, c] pos) (do let x ← ma; let y ← mb; chW k k' x y mc) := fun X Wx ok tk F H g σ s Q hw => by
  obtain ⟨r, ho, hr⟩ := h1.hop X ok
  obtain ⟨r', ho', hr'⟩ := h2.hop X ok
  refine WT.of (pt_chain ho ho' (pe_W (e := a)) (pe_W (e := b)) (pe_W (e := c)) hm) ?_
  refine ha X Wx ok tk F H g σ s _ (ma.mono (fun x hx F1 H1 g1 v f1 s1 r1 => ?_) (fun e he => he) hw)
  refine hb X Wx ok tk F1 H1 g1 σ s1 _ (mb.mono (fun y hy F2 H2 g2 w f2 s2 r2 => ?_) (fun e he => XEnd.later f1 he) hx)
  refine hr x y H2 v w _ ((ρa x).mono (f2.sF.trans s2.sF) r1) ((ρb y).mono s2.sF r2) ⟨_, rfl, ?_⟩
  have hy := wp_chW.mp hy
  split
  · rename_i hk
    rw [if_pos hk] at hy
    refine hc X Wx ok tk F2 H2 g2 σ s2 _ (mc.mono (fun z hz F3 H3 g3 u f3 s3 r3 => ?_) (fun e he => XEnd.later (f1.trans f2) he) hy)
    exact hr' y z H3 w u _ ((ρb y).mono (f3.sF.trans s3.sF) r2) ((ρc z).mono s3.sF r3) ⟨_, rfl, hz F3 H3 g3 (f1.trans (f2.trans f3)) s3⟩
  · rename_i hk
    rw [if_neg hk] at hy
    exact ⟨_, rfl, hy F2 H2 g2 (f1.trans f2) s2⟩
/-! ### constants of the module -/
theorem Ev.globS {x : Str} {z : Str} (hg : C.sc.names.lookup x = some .globalImplicit) (hm : ∃ t, C.mg x = some (.str z t)) (hd : (x == ("__debug__" : Str)) = false := by rfl) : Ev C Γ (.Name x pos) rS (pure z) := by
  obtain ⟨t, hm⟩ := hm
  exact Ev.glob (v := .str z) hg hm ⟨t, rfl⟩ (fun _ => rfl) hd
theorem Ev.globI {x : Str} {z : Int} (hg : C.sc.names.lookup x = some .globalImplicit) (hm : ∃ t, C.mg x = some (.int z t)) (hd : (x == ("__debug__" : Str)) = false := by rfl) : Ev C Γ (.Name x pos) rI (pure z) := by
  obtain ⟨t, hm⟩ := hm
  exact Ev.glob (v := .int z) hg hm ⟨t, rfl⟩ (fun _ => rfl) hd
end
end Y

/-! Y12: raise, try, isinstance of a caught exception -/
namespace Y
open PySem PySem.Spec L2
/-! ### what the module says of its exceptions -/
/-- x names a class: cv -/
def NamC (M : Mc) (x : Str) (cv : Value) : Prop := (∃ a, cv = .ref a ∧ M.mg x = some (.ref a)) ∨ (∃ T, cv = .type T ∧ M.mg x = none ∧ bootBuiltins x = some (.type T) ∧ x ≠ "__name__")
/-- an exception of class c (an own one) is one of x: b -/
structure IsX (M : Mc) (c x : Str) (b : Bool) : Prop where
  ex : ∃ D cv, M.mg c = some (.ref D) ∧ NamC M x cv ∧ PySem.W.kitOne M.K (.ref D) cv = some b ∧ PySem.W.exmOne M.K (.ref D) cv = some b ∧ ExcC M.K D
def XTab (M : Mc) (tab : List ((Str × Str) × Bool)) : Prop := ∀ p ∈ tab, IsX M p.1.1 p.1.2 p.2
def tabF (tab : List ((Str × Str) × Bool)) (c x : Str) : Option Bool := tab.lookup (c, x)
theorem XTab.of {M : Mc} : ∀ {tab : List ((Str × Str) × Bool)}, XTab M tab → ∀ {c x : Str} {b : Bool}, tabF tab c x = some b → IsX M c x b
  | [], _, _, _, _, e => by cases e
  | (p, d) :: r, h, c, x, b, e => by
    unfold tabF at e
    rw [List.lookup_cons] at e
    split at e
    · rename_i q
      have q' := eq_of_beq q
      cases e
      have := h (p, d) (by simp)
      rw [← q'] at this
      exact this
    · exact XTab.of (fun p hp => h p (List.mem_cons_of_mem _ hp)) e
/-- raise x('..') may be done -/
structure RaiX (M : Mc) (x : Str) : Prop where
  ex : ∃ C, M.mg x = some (.ref C) ∧ PySem.W.excIn M.K C [.type "ValueError", .type "Exception", .type "BaseException", .type "object"] "ValueError.__new__" = true ∧ PySem.W.keepIn M.K (.ref C) = true ∧ PySem.W.subIn M.K (.ref C) (.type "BaseException") = some true ∧ PySem.W.typeIn M.K (.ref C) = some (.type "type")
section
variable {C : Cc} {Γ Γ' : List Slot} {α β ω : Type} {J : ω → Out} {e e1 e2 : Expr} {pos p p2 : Pos} {rest : List Stmt}
theorem Ex.raise {x m : Str} {j : Nat} {p1 : Pos} (hr : RaiX C.toMc x) (hg : C.sc.names.lookup x = some .globalImplicit) (hd : (x == ("__debug__" : Str)) = false := by rfl) (hcm : C.cm = true := by rfl) :
    Ex C Γ (.Raise (some (.Call (.Name x p) [.Constant (.str m) j p2] [] p1)) none pos :: rest) J (W.exc ⟨x, none⟩) :=
  Ex.cons fun X Wx ok tk F H g σ s D hm => by
    obtain ⟨Ca, h1, h2, h3, h4, h5⟩ := hr
    have e3 := ok.toOk.K
    have e4 := ok.toOk.mg
    refine W1.of (ps_raise (ok.toOk.calm.trans hcm) tk (pmk_own PySem.F.excBase_ValueError (by rw [e3]; exact h2) (by rw [e4]; exact h1) (by rw [e3]; exact h3) (raises_own (by rw [e3]; exact h4) (by rw [e3]; exact h5)) (show X.env.scope.names.lookup x = _ by rw [ok.toOk.sc]; exact hg) hd)) ?_
    exact hm F H g σ _ _ Fr.refl s.sF ⟨Ca, h1, rfl, rfl⟩
/-! ### what a try guards: one statement that may raise -/
def ExT (C : Cc) (Γ : List Slot) (sts : List Stmt) {ω : Type} (J : ω → Out) (m : W ω) : Prop :=
  ∀ (X : Cx) (Wx : WX), C.OkS X → Takes X Wx → ∀ (F H : Hp) (g : Nat → Hp) (σ : St), StOk C F H Γ σ g → ∀ D : Ends,
    m.wp (fun o => OutOk C D F H (dU g) (J o)) (XEnd C F H (dU g) Γ σ Wx) → WS X sts D σ H
theorem ExT.cons {st : Stmt} {m : W ω} (h : ∀ (X : Cx) (Wx : WX), C.OkS X → Takes X Wx → ∀ (F H : Hp) (g : Nat → Hp) (σ : St), StOk C F H Γ σ g → ∀ D : Ends,
    m.wp (fun o => OutOk C D F H (dU g) (J o)) (XEnd C F H (dU g) Γ σ Wx) → W1 X st D σ H) : ExT C Γ [st] J m :=
  fun X Wx ok tk F H g σ s D hm => WS.of (pss_one (ps_W (st := st))) (h X Wx ok tk F H g σ s D hm)
theorem ExT.expr {ρ : α → Rp} {m : W α} {f : α → ω} (h : Ev C Γ e ρ m) (hJ : ∀ a, J (f a) = .nx Γ) (hs : ∀ X : Cx, swapsWith e none pos.line X.env = pure false := by intro _; rfl) : ExT C Γ [.Expr e pos] J (do let a ← m; pure (f a)) :=
  ExT.cons fun X Wx ok tk F H g σ s D hm => W1.of (ps_expr (pe_W (e := e)) (hs X))
    (h X Wx ok.toOk tk F H g σ s _ (m.mono (fun a ha F1 H1 g1 v f1 s1 r1 => by
      replace ha : OutOk C D F H (dU g) (J (f a)) := ha
      rw [hJ] at ha
      exact ha F1 H1 g1 σ f1 s1) (fun e he => he) hm))
theorem ExT.ret {ρ : α → Rp} {m : W α} {f : α → ω} (h : Ev C Γ e ρ m) (hJ : ∀ a, J (f a) = .rt (ρ a)) : ExT C Γ [.Return (some e) pos] J (do let a ← m; pure (f a)) :=
  ExT.cons fun X Wx ok tk F H g σ s D hm => W1.of (ps_ret (pe_W (e := e)))
    (h X Wx ok.toOk tk F H g σ s _ (m.mono (fun a ha F1 H1 g1 v f1 s1 r1 => by
      replace ha : OutOk C D F H (dU g) (J (f a)) := ha
      rw [hJ] at ha
      exact ha F1 H1 g1 v f1 s1.sF r1) (fun e he => he) hm))
theorem ExT.set {i : Nat} {x : Str} {px : Pos} {ρ : α → Rp} {m : W α} {f : α → ω} (hN : C.N[i]? = some x) (hx : Sto C x) (h : Ev C Γ e ρ m) (hJ : ∀ a, J (f a) = .nx (Γ.set i (.val (ρ a))))
    (hs : ∀ X : Cx, C.Ok X → swapsWith e (some (.Name x px)) pos.line X.env = pure false := by intro _ _; rfl) : ExT C Γ [.Assign [.Name x px] e pos] J (do let a ← m; pure (f a)) :=
  ExT.cons fun X Wx ok tk F H g σ s D hm => W1.of (ps_set ok.toOk.ndX (by rw [ok.toOk.N]; exact hN) (hx.loc ok.toOk) (pe_W (e := e)) (hs X ok.toOk) (hx.fn ok.toOk))
    (h X Wx ok.toOk tk F H g σ s _ (m.mono (fun a ha F1 H1 g1 v f1 s1 r1 => by
      replace ha : OutOk C D F H (dU g) (J (f a)) := ha
      rw [hJ] at ha
      exact ha F1 H1 g1 _ f1 (s1.set_val r1)) (fun e he => he) hm))
theorem ExT.ite {c : Expr} {a b : List Stmt} {mc : W Bool} {m1 m2 : W ω} (hc : EvT C Γ c mc) (h1 : ExT C Γ a J m1) (h2 : ExT C Γ b J m2) : ExT C Γ [.If c a b pos] J (do let t ← mc; if t = true then m1 else m2) :=
  ExT.cons fun X Wx ok tk F H g σ s D hm => W1.ifs (hc X Wx ok.toOk tk F H g σ s _ (mc.mono (fun t ht F1 H1 g1 f1 s1 => by
    have ht' : (if t = true then m1 else m2).wp (fun o => OutOk C D F H (dU g) (J o)) (XEnd C F H (dU g) Γ σ Wx) := ht
    clear ht
    cases t with
    | true =>
      rw [if_pos rfl]
      rw [if_pos rfl] at ht'
      have ht := ht'
      exact h1 X Wx ok tk F1 H1 g1 σ s1 D (m1.mono (fun o ho => OutOk.later f1 ho) (fun e he => XEnd.later f1 he) ht)
    | false =>
      rw [if_neg Bool.false_ne_true]
      rw [if_neg Bool.false_ne_true] at ht'
      have ht := ht'
      exact h2 X Wx ok tk F1 H1 g1 σ s1 D (m2.mono (fun o ho => OutOk.later f1 ho) (fun e he => XEnd.later f1 he) ht)) (fun e he => he) hm))
/-! ### suites -/
abbrev Cc.suite (C : Cc) (a : Addr) (cls : Value) (d : Option Addr) : Cc := { C with cm := false, ex := some (a, cls, d) }
theorem Cc.OkS.suite {X : Cx} (ok : C.OkS X) {a : Addr} {cls : Value} {d : Option Addr} {pn : List (Addr × Obj)} {oe : Obj} (hz : Zc cls d oe) (hf : ∃ vs, oe.data = .fields vs) (hr : RoomS C.k X.A) : (C.suite a cls d).OkS (X.suite a ((a, oe) :: pn)) where
  prog := ok.toOk.prog
  w := ok.toOk.w
  K := ok.toOk.K
  mg := ok.toOk.mg
  base := ok.toOk.base
  N := ok.toOk.N
  sc := ok.toOk.sc
  nd := ok.toOk.nd
  calm := rfl
  room := fun h => by cases h
  units := ok.toOk.units
  exc := fun a' cls' d' h => by
    have h' : some (a, cls, d) = some (a', cls', d') := h
    cases h'
    exact ⟨⟨hr.dp, hr.un⟩, X, pn, oe, rfl, hz, hf⟩
  fnc := ok.toOk.fnc
  po := PassesOwn.never
  stk := ok.stk
  frm := ok.frm
theorem StOk.suite {F H : Hp} {σ : St} {g : Nat → Hp} {a : Addr} {cls : Value} {d : Option Addr} : StOk (C.suite a cls d) F H Γ σ g ↔ StOk C F H Γ σ g := ⟨fun s => ⟨s.len, s.slot, s.sF, s.sG, s.dF, s.dG, s.fr⟩, fun s => ⟨s.len, s.slot, s.sF, s.sG, s.dF, s.dG, s.fr⟩⟩
/-- the exception that a suite holds -/
def rX (a : Addr) (_ : Unit) : Rp := ⟨fun _ v => v = .ref a, fun _ h => h⟩
instance {a : Addr} : Fre (rX a) := ⟨fun _ _ _ h _ => h⟩
def tryW {ω : Type} (m : W ω) (c : Str → Option Bool) (h : Exn → W ω) : W ω :=
  ⟨fun P E => m.wp P (fun e => match c e.cls with
      | some true => e.pay = none ∧ (h e).wp P (fun _ => False)
      | some false => E e
      | none => False),
   fun hp he x => m.mono hp (fun e y => by
      split <;> rename_i q <;> simp only [q] at y
      · exact ⟨y.1, (h e).mono hp (fun _ z => z) y.2⟩
      · exact he _ y) x⟩
/-- the outcomes of a suite in whose end slot i is emptied -/
def SuJ (i : Nat) (o : Out) : Prop := (∃ R, o = .rt R) ∨ ∃ Γ, o = .nx Γ ∧ Γ[i]? = some .no
/-! ### isinstance -/
def rCl (cv : Value) (_ : Unit) : Rp := ⟨fun _ v => ClsV v cv, fun _ h => h⟩
theorem Ev.clName {x : Str} {cv : Value} (h : NamC C.toMc x cv) (hg : C.sc.names.lookup x = some .globalImplicit) (hd : (x == ("__debug__" : Str)) = false) : Ev C Γ (.Name x p) (rCl cv) (pure ()) := by
  rcases h with ⟨a, e1, e2⟩ | ⟨T, e1, e2, e3, e4⟩
  · subst e1
    exact Ev.glob (v := .ref a) (u := .ref a) hg e2 rfl (fun _ => .own a) hd
  · subst e1
    exact fun X Wx ok tk F H g σ s Q hm => WE.of (pe_bltn (v := .ty T) (show X.env.scope.names.lookup x = _ by rw [ok.sc]; exact hg) (by rw [ok.mg]; exact e2) e3 rfl e4 hd) (hm F H g _ Fr.refl s (.ty T))
def optW (b : Option Bool) : W Bool := match b with
  | some b => pure b
  | none => W.bad
def isXs (tab : List ((Str × Str) × Bool)) (c : Str) : List Str → Option Bool
  | [] => some false
  | x :: r => match tabF tab c x, isXs tab c r with
    | some b, some d => some (b || d)
    | _, _ => none
inductive NmEs (C : Cc) : List Expr → List Str → Prop
  | nil : NmEs C [] []
  | cons {x : Str} {p : Pos} {es : List Expr} {xs : List Str} (hg : C.sc.names.lookup x = some .globalImplicit) (hd : (x == ("__debug__" : Str)) = false) (h : NmEs C es xs) : NmEs C (.Name x p :: es) (x :: xs)
theorem NmEs.get {c : Str} {A : Addr} {tab : List ((Str × Str) × Bool)} (hT : XTab C.toMc tab) (hc : C.mg c = some (.ref A)) : ∀ {es : List Expr} {xs : List Str} {b : Bool}, NmEs C es xs → isXs tab c xs = some b →
    ∃ cvs : List Value, EvA C Γ es (fun _ : Unit => cvs.map fun cv => rCl cv ()) (pure ()) ∧ PySem.W.kitAny C.K (.ref A) cvs = some b ∧ cvs.length = xs.length
  | [], _, b, .nil, e => ⟨[], EvA.nil, by cases e; rfl, rfl⟩
  | _ :: es, x :: xs, b, .cons hg hd h, e => by
    unfold isXs at e
    split at e
    · rename_i b1 d1 q1 q2
      cases e
      obtain ⟨D, cv, h1, h2, h3, h4, h5⟩ := (hT.of q1).ex
      have h1' := hc.symm.trans h1
      cases h1'
      obtain ⟨cvs, g1, g2, g3⟩ := NmEs.get hT hc h q2
      refine ⟨cv :: cvs, EvA.wCons (r := fun cv => rCl cv ()) (Ev.map (ρ := rCl cv) (m := pure ()) (fun _ => cv) (fun _ _ _ z => z) (Ev.clName h2 hg hd)) g1 (fun _ _ => rfl), ?_, by simp [g3]⟩
      unfold PySem.W.kitAny
      rw [h3]
      cases b1 with
      | true => rfl
      | false => show PySem.W.kitAny C.K (.ref A) cvs = _; rw [g2]; rfl
    · cases e
def rClT (cvs : List Value) (_ : Unit) : Rp := ⟨fun F v => ∃ q vs, v = .ref q ∧ F q = some (.tup vs) ∧ Paired ClsV vs cvs, fun h ⟨q, vs, e, e2, t⟩ => ⟨q, vs, e, h _ _ e2, t⟩⟩
/-- facts of pairs -/
theorem IsX.own {M : Mc} {c x : Str} {D A : Addr} {b : Bool} (h1 : M.mg c = some (.ref D)) (h2 : M.mg x = some (.ref A)) (hE : ExcC M.K D) (hm : PySem.W.mroIn M.K D (.ref A) = some b) (hs : PySem.W.subIn M.K (.ref A) (.type "BaseException") = some true) (hd : PySem.W.hasDictIn M.K A = true)
    (ht : PySem.W.typeIn M.K (.ref A) = some (.type "type")) (hne : D = A → b = true) : IsX M c x b := by
  have hsub : PySem.W.subIn M.K (.ref D) (.ref A) = some b := hm
  have he := PySem.W.exm_ref (cls := .ref D) hs hd ht hsub
  refine ⟨D, .ref A, h1, .inl ⟨A, rfl, h2⟩, ?_, he, hE⟩
  unfold PySem.W.kitOne
  split
  · rename_i q
    have q' : (Value.ref D) = .ref A := eq_of_beq q
    cases q'
    rw [hne rfl]
  · unfold PySem.W.exmOne at he
    rwa [if_pos (by rw [hs]; rfl)] at he
theorem IsX.blt {M : Mc} {c : Str} {D : Addr} {b : Bool} {T : String} {x : Str} (h1 : M.mg c = some (.ref D)) (h2 : M.mg x = none) (hb : bootBuiltins x = some (.type T)) (hn : x ≠ "__name__") (hE : ExcC M.K D) (hm : PySem.W.mroIn M.K D (.type T) = some b) (hk : PySem.W.kitMeta T = true) (hs : PySem.W.subIn M.K (.type T) (.type "BaseException") = some true) : IsX M c x b := by
  have hsub : PySem.W.subIn M.K (.ref D) (.type T) = some b := hm
  have hkc : PySem.W.kitCls M.K (.ref D) (.type T) = some b := by
    show (if PySem.W.kitMeta T = true then PySem.W.subIn M.K (.ref D) (.type T) else Option.none) = some b
    rw [if_pos hk]
    exact hsub
  refine ⟨D, .type T, h1, .inr ⟨T, rfl, h2, hb, hn⟩, ?_, ?_, hE⟩
  · unfold PySem.W.kitOne
    rw [if_neg (by simp)]
    exact hkc
  · unfold PySem.W.exmOne
    rw [if_pos (by rw [hs]; rfl)]
    exact hkc
/-! ### several clauses, without names -/
abbrev Cc.s0 (C : Cc) : Cc := { C with cm := false, ex := none }
theorem StOk.s0 {F H : Hp} {σ : St} {g : Nat → Hp} : StOk C.s0 F H Γ σ g ↔ StOk C F H Γ σ g := ⟨fun s => ⟨s.len, s.slot, s.sF, s.sG, s.dF, s.dG, s.fr⟩, fun s => ⟨s.len, s.slot, s.sF, s.sG, s.dF, s.dG, s.fr⟩⟩
theorem OutOk.s0 {D : Ends} {F H : Hp} {U : Addr → Prop} {o : Out} (h : OutOk C D F H U o) : OutOk C.s0 D F H U o := by
  cases o with
  | nx Γ => exact fun F' H' g' σ' f s => h F' H' g' σ' f (StOk.s0.mp s)
  | lp Γ => exact ⟨fun F' H' g' σ' f s => h.1 F' H' g' σ' f (StOk.s0.mp s), fun F' H' g' σ' f s => h.2 F' H' g' σ' f (StOk.s0.mp s)⟩
  | ct Γ => exact fun F' H' g' σ' f s => h F' H' g' σ' f (StOk.s0.mp s)
  | bk Γ => exact fun F' H' g' σ' f s => h F' H' g' σ' f (StOk.s0.mp s)
  | rt R => exact h
  | rtG R Γ => exact fun F' H' g' σ' v f s => h F' H' g' σ' v f (StOk.s0.mp s)
  | ft => exact h
  | any => exact h
theorem Cc.OkS.s0 {X : Cx} (ok : C.OkS X) {a : Addr} {pn : List (Addr × Obj)} : C.s0.OkS (X.suite a pn) where
  prog := ok.toOk.prog
  w := ok.toOk.w
  K := ok.toOk.K
  mg := ok.toOk.mg
  base := ok.toOk.base
  N := ok.toOk.N
  sc := ok.toOk.sc
  nd := ok.toOk.nd
  calm := rfl
  room := fun h => by cases h
  units := ok.toOk.units
  exc := fun a' cls' d' h => by cases h
  fnc := ok.toOk.fnc
  po := PassesOwn.never
  stk := ok.stk
  frm := ok.frm
def HdW {ω : Type} (P : ω → Prop) (E : Exn → Prop) (e : Exn) : List ((Str → Option Bool) × (Exn → W ω)) → Prop
  | [] => E e
  | (c, h) :: r => match c e.cls with
    | some true => (h e).wp P (fun _ => False)
    | some false => HdW P E e r
    | none => False
theorem HdW.mono {ω : Type} {P P' : ω → Prop} {E E' : Exn → Prop} {e : Exn} (hp : ∀ o, P o → P' o) (he : E e → E' e) : ∀ {l : List ((Str → Option Bool) × (Exn → W ω))}, HdW P E e l → HdW P' E' e l
  | [], h => he h
  | (c, m) :: r, h => by
    unfold HdW at h ⊢
    split <;> rename_i q <;> simp only [q] at h
    · exact (m e).mono hp (fun _ z => z) h
    · exact HdW.mono hp he h
def tryL {ω : Type} (m : W ω) (l : List ((Str → Option Bool) × (Exn → W ω))) : W ω := ⟨fun P E => m.wp P (fun e => HdW P E e l), fun hp he x => m.mono hp (fun e y => HdW.mono hp (he e) y) x⟩
inductive HdE (C : Cc) (Γ : List Slot) {ω : Type} (J : ω → Out) : List ExceptHandler → List ((Str → Option Bool) × (Exn → W ω)) → Prop
  | nil : HdE C Γ J [] []
  | cons {x : Str} {cv : Value} {b₀ : Stmt} {suite : List Stmt} {np pos' : Pos} {hds : List ExceptHandler} {c : Str → Option Bool} {mh : Exn → W ω} {l : List ((Str → Option Bool) × (Exn → W ω))} (hg : C.sc.names.lookup x = some .globalImplicit) (hx : ∀ cls b, c cls = some b → IsX C.toMc cls x b) (hcv : C.mg x = some cv) (hd : (x == ("__debug__" : Str)) = false)
      (hs : ∀ e : Exn, c e.cls = some true → Ex C.s0 Γ (b₀ :: suite) J (mh e)) (r : HdE C Γ J hds l) : HdE C Γ J (.ExceptHandler (some (.Name x np)) none (b₀ :: suite) pos' :: hds) ((c, mh) :: l)
theorem HdE.ok {X : Cx} (ok : C.OkS X) : ∀ {hds : List ExceptHandler} {l : List ((Str → Option Bool) × (Exn → W ω))}, HdE C Γ J hds l → ∃ l', HdsOk X hds l' ∧ ∀ (Wx : WX) (D : Ends) (F H : Hp) (g : Nat → Hp) (σ : St) (e : Exn) (cls : Value) (d : Option Addr) (F1 H1 : Hp) (g1 : Nat → Hp),
    Fr F H (dU g) F1 H1 (dU g1) → StOk C F1 H1 Γ σ g1 → XOk C.toMc e H H1 (dU g1) cls d → HdW (fun o => OutOk C D F H (dU g) (J o)) (XEndS C F H (dU g) Wx) e l → wMany X.K Wx D l' cls d σ H1
  | _, _, .nil => ⟨[], .nil, fun Wx D F H g σ e cls d F1 H1 g1 f s x h => h F1 H1 g1 σ cls d f s.sF x⟩
  | _, _, .cons (x := x) (cv := cv) (b₀ := b₀) (suite := suite) (c := c) (mh := mh) hg hx hcv hd hs r => by
    obtain ⟨l', h1, h2⟩ := HdE.ok ok r
    have hnm : Names X x cv := ⟨show X.env.scope.names.lookup x = _ by rw [ok.toOk.sc]; exact hg, hd, .inl (by rw [ok.toOk.mg]; exact hcv)⟩
    refine ⟨(cv, fun a cls d D σ H => ∀ pn oe, Zc cls d oe → (∃ vs, oe.data = .fields vs) → WS (X.suite a ((a, oe) :: pn)) (b₀ :: suite) D σ H) :: l', .cons hnm (fun a oe cls d pn hz hf => ⟨fun pins s0 σ0 H0 D0 I h => pss_W.run pins s0 σ0 H0 D0 I (h pn oe hz hf)⟩) h1, fun Wx D F H g σ e cls d F1 H1 g1 f s xo h => ?_⟩
    have xo' := xo
    obtain ⟨A, hA, eA, hpay⟩ := xo
    subst eA
    unfold HdW at h
    cases hc : c e.cls with
    | none => simp only [hc] at h
    | some b =>
      simp only [hc] at h
      obtain ⟨D1, cv1, k1, k2, k3, k4, k5⟩ := (hx e.cls b hc).ex
      have e1 : cv1 = cv := by
        rcases k2 with ⟨a2, e2, m2⟩ | ⟨T, e2, m2, _⟩
        · rw [hcv] at m2; rw [e2]; exact (Option.some.inj m2).symm
        · rw [hcv] at m2; cases m2
      subst e1
      rw [hA] at k1
      cases k1
      refine ⟨b, by rw [ok.toOk.K]; exact k4, fun hbt a ha pn2 oe hz hf => ?_, fun hbf => ?_⟩
      · subst hbt
        exact hs e hc (X.suite a ((a, oe) :: pn2)) _ ok.s0 takes0 F1 H1 g1 σ (StOk.s0.mpr s) D ((mh e).mono (fun o ho => OutOk.s0 (OutOk.later f ho)) (fun _ z => z.elim) h)
      · subst hbf
        exact h2 Wx D F H g σ e _ d F1 H1 g1 f s xo' h
end
end Y

/-! Y13: texts' methods, lists of unlike kinds -/
namespace Y
open PySem PySem.Spec L2
section
variable {C : Cc} {Γ : List Slot} {α β γ δ : Type} {e e1 e2 e3 e4 a b o : Expr} {pos p p2 apos : Pos}
theorem All2.txts {F : Hp} {vs : List V} {xs : List Str} (t : All2 (fun u x => (rS x).p F u) vs xs) : vs = xs.map V.str := t.of_map (f := V.str) (fun _ _ h => h)
def joinW (z : Str) (ys : List Str) : W Str := W.req ((ys.map (·.length)).sum + ys.length * z.length ≤ 16777216) (pure (Txt.join z ys))
theorem Ev.join {m1 : W Str} {m2 : W (List Str)} (ho : Ev C Γ o rS m1) (he : Ev C Γ e (rL C.K rS) m2) (hn : NoStar e) (hbase : ∀ X : Cx, attributeBase o "join" X.env (eval o X.env) = eval o X.env := by intro _; rfl) (hline : (apos.endLine == pos.line) = true := by rfl) :
    Ev C Γ (.Call (.Attribute o "join" apos) [e] [] pos) rS (do let x ← m1; let y ← m2; joinW x y) := fun X Wx ok tk F H g σ s Q hm => by
  refine WE.of (pe_join (pe_W (e := o)) (pe_W (e := e)) (hn [] X.env) (hbase X) hline) ?_
  refine ho X Wx ok tk F H g σ s _ (m1.mono (fun x hx F1 H1 g1 v f1 s1 r1 => ?_) (fun e he => he) hm)
  refine ⟨⟨x, r1⟩, he X Wx ok tk F1 H1 g1 σ s1 _ (m2.mono (fun y hy F2 H2 g2 w f2 s2 r2 => ?_) (fun e he => XEnd.later f1 he) hx)⟩
  obtain ⟨q, vs, ev, hq, t⟩ := r2
  have t2 := All2.txts t
  subst t2
  obtain ⟨h1, h2⟩ := hy
  exact ⟨x, q, y, r1, by rw [ev], .inl (by rw [ok.K]; exact s2.sF.seq hq), h1, h2 F2 H2 g2 _ (f1.trans f2) s2 rfl⟩
/-! ### lists of two, three, four unlike things -/
def rH2 (K : PySem.W.Frag) (r1 : α → Rp) (r2 : β → Rp) (x : α × β) : Rp :=
  ⟨fun F v => ∃ a v1 v2, v = .ref a ∧ SqL K F a [v1, v2] ∧ (r1 x.1).p F v1 ∧ (r2 x.2).p F v2, fun h ⟨a, v1, v2, e, q, t1, t2⟩ => ⟨a, v1, v2, e, h.seq q, (r1 _).mono h t1, (r2 _).mono h t2⟩⟩
def oH2 (N : Addr → Prop) (r1 : α → Rp) (r2 : β → Rp) (x : α × β) : Op :=
  ⟨fun F G v => ∃ a v1 v2, v = .ref a ∧ N a ∧ G = one a (.lst [v1, v2]) ∧ (r1 x.1).p F v1 ∧ (r2 x.2).p F v2, fun h ⟨a, v1, v2, e, n, q, t1, t2⟩ => ⟨a, v1, v2, e, n, q, (r1 _).mono h t1, (r2 _).mono h t2⟩⟩
theorem EvO.dispO {es : List Expr} {τ : Type} {ρs : τ → List Rp} {mt : W τ} {O : τ → Op} (hf : ∀ t F q vs, C.fr q → All2 (fun v R => R.p F v) vs (ρs t) → (O t).p F (one q (.lst vs)) (.ref q)) (hl : ∀ t, (ρs t).length ≤ 1000) (ha : EvA C Γ es ρs mt) :
    EvO C Γ (.List es pos) O mt :=
  fun X Wx ok tk F H g σ s Q hm => by
    refine WE.of (pe_lst (pa_W (es := es))) ?_
    refine ha.2 X Wx ok tk F H g σ s _ (mt.mono (fun t ht F1 H1 g1 vs f1 s1 r1 => ?_) (fun e he => he) hm)
    exact ⟨by rw [r1.length]; exact Nat.le_trans (hl t) (by decide), fun l hq => EvO.fin (O := O t) f1 s1 hq (fun n => hf t F1 l vs n r1) ht⟩
theorem Ev.hl2 {r1 : α → Rp} {r2 : β → Rp} {m1 : W α} {m2 : W β} (h1 : Ev C Γ e1 r1 m1) (h2 : Ev C Γ e2 r2 m2) (n1 : NoStar e1) (n2 : NoStar e2) : Ev C Γ (.List [e1, e2] pos) (rH2 C.K r1 r2) (do let x ← m1; let y ← m2; pure (x, y)) := by
  have h := EvO.dispO (pos := pos) (O := fun t : α × β × Unit => oH2 C.fr r1 r2 (t.1, t.2.1)) (fun t F q vs n h => by
    cases h with
    | cons h h' => cases h' with
      | cons h' h'' => cases h''; exact ⟨q, _, _, rfl, n, rfl, h, h'⟩) (fun _ => Nat.le_of_ble_eq_true rfl) (EvA.cons h1 (EvA.cons h2 EvA.nil n2) n1)
  have h3 := EvO.ev (ρ := fun t : α × β × Unit => rH2 C.K r1 r2 (t.1, t.2.1)) (fun t F G v d _ hh => by
    obtain ⟨q, v1, v2, e, n, eg, t1, t2⟩ := (show (oH2 C.fr r1 r2 (t.1, t.2.1)).p F G v from hh)
    subst eg
    exact ⟨q, v1, v2, e, SqL.of (uni_r d q _ one_same), (r1 _).mono uni_l t1, (r2 _).mono uni_l t2⟩) h
  exact Ev.map (ρ' := rH2 C.K r1 r2) (fun t : α × β × Unit => (t.1, t.2.1)) (fun _ _ _ z => z) h3
theorem Ev.ixH {ρ : α → Rp} {ρ' : β → Rp} {ma : W α} (f : α → β) (n : Nat) (hρ : ∀ x F v, (ρ x).p F v → ∃ q vs u, v = .ref q ∧ SqL C.K F q vs ∧ vs[n]? = some u ∧ (ρ' (f x)).p F u) {j : Nat} {p2 : Pos} (ha : Ev C Γ a ρ ma) :
    Ev C Γ (.Subscript a (.Constant (.int (n : Int)) j p2) pos) ρ' (do let x ← ma; pure (f x)) :=
  fun X Wx ok tk F H g σ s Q hm => by
    refine WE.of (pe_ix ix_list (pe_W (e := a)) pe_int (fun _ _ => rfl)) ?_
    refine ha X Wx ok tk F H g σ s _ (ma.mono (fun x hx F1 H1 g1 v f1 s1 r1 => ?_) (fun e he => he) hm)
    obtain ⟨q, vs, u, ev, hq, hu, ru⟩ := hρ x F1 v r1
    exact ⟨q, vs, n, u, ev, rfl, by rw [ok.K]; exact s1.sF.seq hq, atI_nat hu, hx F1 H1 g1 u f1 s1 ru⟩
end
section
variable {K : PySem.W.Frag} {α β : Type}
instance {r1 : α → Rp} {r2 : β → Rp} [I : DatE K r1] [J : DatE K r2] : DatE K (rH2 K r1 r2) where
  enc := fun x => .list [I.enc x.1, J.enc x.2]
  dep := I.dep + J.dep + 3
  ok := fun x => I.ok x.1 ∧ J.ok x.2
  dp := fun ⟨a, v1, v2, e, q, t1, t2⟩ => by subst e; exact .lst q (.cons (I.dp t1) (.cons (J.dp t2) .nil))
  can := fun x h => by simp [PyData.canLay0, PyData.canLayAll0, I.can _ h.1, J.can _ h.2]
  deps := fun x => by
    have := I.deps x.1
    have := J.deps x.2
    simp only [PyData.depth, PyData.depthAll]
    omega
  dec := fun x y => by
    obtain ⟨x1, x2⟩ := x
    obtain ⟨y1, y2⟩ := y
    simp [PyData.eqv, PyData.eqvAll, I.dec, J.dec]
end
end Y

/-! Y14: dicts of texts, instances, methods, making -/
namespace Y
open PySem PySem.Spec L2
/-! ### a dict whose keys are texts, all True -/
def dkv (ks : List Str) : List (Key × V) := ks.map fun k => (.inr k, V.bl true)
def oD (N : Addr → Prop) (ks : List Str) : Op := ⟨fun F G v => ∃ a, v = .ref a ∧ N a ∧ G = one a (.dK (dkv ks)), fun _ h => h⟩
theorem dkv_in (k : Str) : ∀ ks : List Str, (valV (dkv ks) (.inr k)).isSome = decide (k ∈ ks)
  | [] => rfl
  | x :: ks => by
    have ih := dkv_in k ks
    unfold dkv at ih ⊢
    rw [List.map_cons]
    unfold valV at ih ⊢
    rw [List.find?_cons]
    by_cases h : x = k
    · subst h; simp
    · have h2 : ¬ (Sum.inr x : Key) = Sum.inr k := fun z => h (Sum.inr.inj z)
      have h3 : ¬ k = x := fun z => h z.symm
      simp only [decide_eq_false h2]
      rw [ih]
      simp [h3]
def addK (ks : List Str) (k : Str) : List Str := if k ∈ ks then ks else ks ++ [k]
theorem dkv_put (k : Str) (ks : List Str) : putK (dkv ks) (.inr k) (V.bl true) = dkv (addK ks k) := by
  unfold putK addK
  have h1 : ((dkv ks).any fun kv => decide (kv.1 = Sum.inr k)) = decide (k ∈ ks) := by
    unfold dkv
    rw [List.any_map]
    induction ks with
    | nil => rfl
    | cons x ks ih =>
      rw [List.any_cons, ih]
      by_cases h : x = k
      · subst h; simp
      · have h3 : ¬ k = x := fun z => h z.symm
        simp [h, h3]
  rw [h1]
  by_cases h : k ∈ ks
  · rw [if_pos (decide_eq_true h), if_pos h]
    unfold dkv
    rw [List.map_map]
    refine List.map_congr_left fun x _ => ?_
    simp only [Function.comp]
    split <;> rfl
  · rw [if_neg (by simpa using h), if_neg h]
    unfold dkv
    simp
section
variable {C : Cc} {Γ Γ' : List Slot} {α β γ δ ω : Type} {J : ω → Out} {e e1 e2 e3 o : Expr} {pos p p2 apos : Pos} {rest : List Stmt}
theorem EvO.dict0 : EvO C Γ (.Dict [] [] pos) (oD C.fr) (pure []) := fun X Wx ok tk F H g σ s Q hm => by
  refine WE.of pe_dnewK fun l hq => ?_
  exact EvO.fin (O := oD C.fr []) Fr.refl s hq (fun n => ⟨l, rfl, n, rfl⟩) hm
theorem Ev.dGet {i : Nat} {x : Str} {px : Pos} {ks : List Str} {m : W Str} {op : CmpOp} (neg : Bool) (hN : C.N[i]? = some x) (hv : visB C.sc x = true) (hΓ : Γ[i]? = some (.own (oD C.fr ks))) (hd : (x == ("__debug__" : Str) || x == ("__classdict__" : Str)) = false)
    (hop : ∀ X : Cx, X.A.units + 1 < cLine → ∀ {a : Expr} {ty td : TE}, PE X a ty → PE X (.Name x px) td → PE X (.Compare a [op] [.Name x px] pos) (if neg then tDNotIn ty td else tDIn ty td)) (h : Ev C Γ e rS m) :
    Ev C Γ (.Compare e [op] [.Name x px] pos) rB (do let k ← m; pure (if neg then !decide (k ∈ ks) else decide (k ∈ ks))) := fun X Wx ok tk F H g σ s Q hm => by
  rw [Bool.or_eq_false_iff] at hd
  refine WE.of (hop X (Nat.lt_of_le_of_lt (by omega) ok.units) (pe_W (e := e)) (pe_var (i := i) (by rw [ok.N]; exact hN) (by rw [ok.sc]; exact visOf hv) hd.1 hd.2)) ?_
  have key : WE X e σ H fun y H1 => tVar i σ H1 fun x H2 => ∃ a o, x = .ref a ∧ DGet H2 a y o ∧ Q (.bl (if neg then !o.isSome else o.isSome)) H2 := by
    refine h X Wx ok tk F H g σ s _ (m.mono (fun k hk F1 H1 g1 v f1 s1 r1 => ?_) (fun e he => he) hm)
    obtain ⟨v2, eσ, a, ev, na, eg⟩ := s1.get_own hΓ
    have hH : H1 a = some (.dK (dkv ks)) := s1.sG i a _ (by rw [eg]; exact one_same)
    refine ⟨v2, eσ, a, _, ev, by rw [show v = kV (.inr k) from r1]; exact DGet.k hH, ?_⟩
    rw [dkv_in]
    exact hk F1 H1 g1 _ f1 s1 rfl
  cases neg with
  | true => exact key
  | false => exact key
theorem Ev.inD {i : Nat} {x : Str} {px : Pos} {ks : List Str} {m : W Str} (hN : C.N[i]? = some x) (hv : visB C.sc x = true) (hΓ : Γ[i]? = some (.own (oD C.fr ks))) (hd : (x == ("__debug__" : Str) || x == ("__classdict__" : Str)) = false) (h : Ev C Γ e rS m) :
    Ev C Γ (.Compare e [.In] [.Name x px] pos) rB (do let k ← m; pure (decide (k ∈ ks))) := Ev.dGet false hN hv hΓ hd (fun X hu a ty td h1 h2 => pe_cmp (pc_din hu h1 h2) (by rfl)) h
/-- d[k] = True -/
theorem Ex.setKey {i : Nat} {x : Str} {px spos cp : Pos} {j : Nat} {ks : List Str} {mi : W Str} {ix : Expr} {k : Str → W ω} (hN : C.N[i]? = some x) (hv : visB C.sc x = true) (hΓ : Γ[i]? = some (.own (oD C.fr ks))) (hi : Ev C Γ ix rS mi) (hr : ∀ z, Ex C (Γ.set i (.own (oD C.fr (addK ks z)))) rest J (k z))
    (hd : (x == ("__debug__" : Str) || x == ("__classdict__" : Str)) = false) (hs : ∀ X : Cx, swapsWithSole [.Subscript (.Name x px) ix spos] (.Constant (.bool true) j cp) pos.line X.env = pure false := by intro _; rfl)
    (hw : ∀ X : Cx, swappedStores [.Subscript (.Name x px) ix spos] (.Constant (.bool true) j cp) X.env = pure none := by intro _; rfl) (h1 : ∀ X : Cx, (assignEach [.Subscript (.Name x px) ix spos] X.env).map (·.2) = [assign (.Subscript (.Name x px) ix spos) X.env] := by intro _; rfl)
    (hpg : ∀ X : Cx, X.A.units + 1 < cLine → PE X (.Name x px) (tVar i) → PG X (.Subscript (.Name x px) ix spos) (gSub (tVar i) (WE X ix) rSetD)) :
    Ex C Γ (.Assign [.Subscript (.Name x px) ix spos] (.Constant (.bool true) j cp) pos :: rest) J (do let z ← mi; W.req (ks.length ≤ 1000000) (k z)) :=
  Ex.cons fun X Wx ok tk F H g σ s D hm => by
    rw [Bool.or_eq_false_iff] at hd
    refine W1.of (ps_asg pe_bl (hpg X (Nat.lt_of_le_of_lt (by omega) ok.units) (pe_var (i := i) (by rw [ok.N]; exact hN) (by rw [ok.sc]; exact visOf hv) hd.1 hd.2)) (hs X) (hw X) (h1 X)) ?_
    obtain ⟨v, eσ, a, ev, na, eg⟩ := s.get_own hΓ
    subst ev
    refine ⟨.ref a, eσ, ?_⟩
    refine hi X Wx ok.toOk tk F H g σ s _ (mi.mono (fun z hz F2 H2 g2 u f2 s2 r2 => ?_) (fun e he => he.ex) hm)
    obtain ⟨v', eσ', a', ev', na', eg'⟩ := s2.get_own hΓ
    rw [eσ] at eσ'
    cases eσ'
    cases ev'
    obtain ⟨hl, hz⟩ := hz
    obtain ⟨s3, f3, hH2⟩ := s2.upd_own (O' := oD C.fr (addK ks z)) (o' := .dK (dkv (addK ks z))) eg' eσ (List.getElem?_eq_some_iff.mp hΓ).1 ⟨a, rfl, na', rfl⟩
    refine ⟨a, _, rfl, by rw [show u = kV (.inr z) from r2]; exact DPut.k hH2 (by unfold dkv; rw [List.length_map]; exact Nat.lt_of_le_of_lt hl (by decide)), ?_⟩
    rw [dkv_put]
    exact (hr z).later ok tk (f2.trans f3) s3 hz
/-! ### instances -/
abbrev Fl2 := List (Str × Rp)
def FldOk (F : Hp) (fs : List (Str × V)) (fl : Fl2) : Prop := All2 (fun (p : Str × V) (q : Str × Rp) => p.1 = q.1 ∧ q.2.p F p.2) fs fl
theorem FldOk.mono {F F' : Hp} (h : Same F F') {fs : List (Str × V)} {fl : Fl2} (x : FldOk F fs fl) : FldOk F' fs fl := x.imp fun _ q z => ⟨z.1, q.2.mono h z.2⟩
theorem FldOk.get {F : Hp} {fs : List (Str × V)} {fl : Fl2} (x : FldOk F fs fl) {f : Str} {R : Rp} (h : fl.lookup f = some R) : ∃ v, fs.lookup f = some v ∧ R.p F v := by
  induction x with
  | nil => cases h
  | @cons a b as bs r _ ih =>
    obtain ⟨a1, a2⟩ := a
    obtain ⟨b1, b2⟩ := b
    obtain ⟨e, r⟩ := r
    have e : a1 = b1 := e
    subst e
    rw [List.lookup_cons] at h ⊢
    split at h
    · cases h; exact ⟨a2, rfl, r⟩
    · exact ih h
theorem FldOk.no {F : Hp} {fs : List (Str × V)} {fl : Fl2} (x : FldOk F fs fl) {f : Str} (h : fl.lookup f = none) : fs.lookup f = none := by
  induction x with
  | nil => rfl
  | @cons a b as bs r _ ih =>
    obtain ⟨a1, a2⟩ := a
    obtain ⟨b1, b2⟩ := b
    obtain ⟨e, r⟩ := r
    have e : a1 = b1 := e
    subst e
    rw [List.lookup_cons] at h ⊢
    split at h
    · cases h
    · exact ih h
theorem FldOk.put {F : Hp} {fs : List (Str × V)} {fl : Fl2} (x : FldOk F fs fl) {f : Str} {R : Rp} {v : V} (h : fl.lookup f = none) (r : R.p F v) : FldOk F (putF f v fs) (fl ++ [(f, R)]) := by
  induction x with
  | nil => exact .cons ⟨rfl, r⟩ .nil
  | @cons a b as bs q t ih =>
    obtain ⟨a1, a2⟩ := a
    obtain ⟨b1, b2⟩ := b
    have e : a1 = b1 := q.1
    subst e
    rw [List.lookup_cons] at h
    split at h
    · cases h
    · rename_i hne
      have hne' : ¬ a1 = f := fun z => by subst z; simp at hne
      show FldOk F (if a1 = f then (a1, v) :: as else (a1, a2) :: putF f v as) ((a1, b2) :: (bs ++ [(f, R)]))
      rw [if_neg hne']
      exact .cons q (ih h)
/-- an instance of the class at A, all of it laid down -/
def rIns (A : Addr) (fl : α → Fl2) (x : α) : Rp := ⟨fun F v => ∃ a dx fs, v = .ref a ∧ F a = some (.ins A dx fs) ∧ F dx = some (.own a) ∧ FldOk F fs (fl x), fun h ⟨a, dx, fs, e, h1, h2, t⟩ => ⟨a, dx, fs, e, h _ _ h1, h _ _ h2, t.mono h⟩⟩
def two (a : Addr) (o : HO) (b : Addr) (u : HO) : Hp := fun c => if c = a then some o else if c = b then some u else none
/-- self, while it is made -/
def oIns (A a dx : Addr) (fl : Fl2) : Op := ⟨fun F G v => ∃ fs, v = .ref a ∧ dx ≠ a ∧ G = two a (.ins A dx fs) dx (.own a) ∧ FldOk F fs fl, fun h ⟨fs, e, n, q, t⟩ => ⟨fs, e, n, q, t.mono h⟩⟩
theorem Ev.fld {A : Addr} {fl : α → Fl2} {m : W α} {f : Str} {g0 : α → β} {r : β → Rp} (hC : Cls C.K A) (hn : NoAttr C.K A f) (hf : ∀ x, (fl x).lookup f = some (r (g0 x))) (h : Ev C Γ e (rIns A fl) m) (hb : ∀ X : Cx, attributeBase e f X.env (eval e X.env) = eval e X.env := by intro _; rfl) :
    Ev C Γ (.Attribute e f pos) r (do let x ← m; pure (g0 x)) := fun X Wx ok tk F H g σ s Q hm => by
  refine WE.of (pe_fld (pe_W (e := e)) (hb X)) ?_
  refine h X Wx ok tk F H g σ s _ (m.mono (fun x hx F1 H1 g1 v f1 s1 r1 => ?_) (fun e he => he) hm)
  obtain ⟨a, dx, fs, ev, h1, h2, t⟩ := r1
  obtain ⟨u, hu, ru⟩ := t.get (hf x)
  exact ⟨a, A, dx, fs, u, ev, s1.sF _ _ h1, by rw [ok.K]; exact hC, by rw [ok.K]; exact hn, hu, hx F1 H1 g1 u f1 s1 ru⟩
/-- self.f = e -/
theorem Ex.fldSet {i : Nat} {x f : Str} {px fp : Pos} {A a dx : Addr} {fl : Fl2} {r : α → Rp} {m : W α} {k : α → W ω} (hN : C.N[i]? = some x) (hv : visB C.sc x = true) (hd : (x == ("__debug__" : Str) || x == ("__classdict__" : Str)) = false) (hΓ : Γ[i]? = some (.own (oIns A a dx fl))) (hC : Cls C.K A) (hn : NoAttr C.K A f) (hf : fl.lookup f = none) (hl : fl.length < 1000)
    (h : Ev C Γ e r m) (hr : ∀ y, Ex C (Γ.set i (.own (oIns A a dx (fl ++ [(f, r y)])))) rest J (k y)) (hs : ∀ X : Cx, swapsWith e (some (.Attribute (.Name x px) f fp)) pos.line X.env = pure false := by intro _; rfl) :
    Ex C Γ (.Assign [.Attribute (.Name x px) f fp] e pos :: rest) J (do let a ← m; k a) :=
  Ex.cons fun X Wx ok tk F H g σ s D hm => by
    rw [Bool.or_eq_false_iff] at hd
    refine W1.of (ps_fld (pe_var (i := i) (by rw [ok.N]; exact hN) (by rw [ok.sc]; exact visOf hv) hd.1 hd.2) (pe_W (e := e)) (hs X)) ?_
    refine h X Wx ok.toOk tk F H g σ s _ (m.mono (fun y hy F1 H1 g1 w f1 s1 r1 => ?_) (fun e he => he.ex) hm)
    obtain ⟨v, eσ, fs, ev, hne, eg, t⟩ := s1.get_own hΓ
    have hga : g1 i a = some (.ins A dx fs) := by rw [eg]; exact if_pos rfl
    have hHa := s1.sG i a _ hga
    refine ⟨v, eσ, a, A, dx, fs, ev, hHa, by rw [ok.K]; exact hC, by rw [ok.K]; exact hn, by rw [t.length]; exact hl, ?_⟩
    have hFa : F1 a = none := by
      rcases s1.dF i a with q | q
      · exact q
      · rw [hga] at q; cases q
    have hgj : ∀ j, j ≠ i → g1 j a = none := fun j hj => by
      rcases s1.dG j i hj a with q | q
      · exact q
      · rw [hga] at q; cases q
    have hset : upd H1 a (.ins A dx (putF f w fs)) = upd H1 a (.ins A dx (putF f w fs)) := rfl
    have hG' : ∀ b, two a (.ins A dx (putF f w fs)) dx (.own a) b ≠ none → g1 i b ≠ none := fun b hb => by
      rw [eg]
      unfold two at hb ⊢
      split at hb
      · rename_i q; rw [if_pos q]; simp
      · rename_i q
        rw [if_neg q]
        split at hb
        · rename_i q2; rw [if_pos q2]; simp
        · exact absurd rfl hb
    have s2 : StOk C F1 (upd H1 a (.ins A dx (putF f w fs))) (Γ.set i (.own (oIns A a dx (fl ++ [(f, r y)])))) σ (setG g1 i (two a (.ins A dx (putF f w fs)) dx (.own a))) := by
      refine ⟨by rw [List.length_set]; exact s1.len, fun j S q => ?_, fun b u q => ?_, fun j b u q => ?_, fun j b => ?_, fun j l hjl b => ?_, fun b q => ?_⟩
      · by_cases hj : i = j
        · subst hj
          rw [List.getElem?_set_self (List.getElem?_eq_some_iff.mp hΓ).1] at q
          cases q
          rw [setG_same]
          exact ⟨v, eσ, _, ev, hne, rfl, t.put hf r1⟩
        · rw [List.getElem?_set_ne hj] at q
          rw [setG_ne (fun z => hj z.symm)]
          exact s1.slot j S q
      · have hb : b ≠ a := fun z => by rw [z, hFa] at q; cases q
        rw [upd_ne hb]; exact s1.sF b u q
      · by_cases hj : j = i
        · subst hj
          rw [setG_same] at q
          by_cases hb : b = a
          · subst hb
            unfold two at q
            rw [if_pos rfl] at q
            rw [upd_same]; exact q
          · rw [upd_ne hb]
            refine s1.sG j b u ?_
            rw [eg]
            unfold two at q ⊢
            rw [if_neg hb] at q ⊢
            exact q
        · rw [setG_ne hj] at q
          have hb : b ≠ a := fun z => by rw [z, hgj j hj] at q; cases q
          rw [upd_ne hb]; exact s1.sG j b u q
      · by_cases hj : j = i
        · subst hj
          rw [setG_same]
          rcases s1.dF j b with q | q
          · exact .inl q
          · refine .inr ?_
            cases z : two a (.ins A dx (putF f w fs)) dx (.own a) b with
            | none => rfl
            | some u => exact absurd q (hG' b (by rw [z]; simp))
        · rw [setG_ne hj]; exact s1.dF j b
      · have key : ∀ l, l ≠ i → two a (.ins A dx (putF f w fs)) dx (.own a) b = none ∨ g1 l b = none := fun l hl => by
          rcases s1.dG i l (fun z => hl z.symm) b with q | q
          · refine .inl ?_
            cases z : two a (.ins A dx (putF f w fs)) dx (.own a) b with
            | none => rfl
            | some u => exact absurd q (hG' b (by rw [z]; simp))
          · exact .inr q
        by_cases hj : j = i
        · subst hj
          rw [setG_same, setG_ne (fun z => hjl z.symm)]
          exact key l (fun z => hjl z.symm)
        · rw [setG_ne hj]
          by_cases hl : l = i
          · subst hl
            rw [setG_same]
            exact (key j hj).symm
          · rw [setG_ne hl]; exact s1.dG j l hjl b
      · refine s1.fr b ?_
        by_cases hb : b = a
        · subst hb; rw [upd_same] at q; cases q
        · rw [upd_ne hb] at q; exact q
    refine (hr y).later ok tk (f1.trans ⟨Same.refl _, fun b q => .inl q, fun b u q n => ?_, fun b q => ?_, fun b ⟨j, q⟩ => ?_⟩) s2 hy
    · have hb : b ≠ a := fun z => n ⟨i, by rw [z, hga]; simp⟩
      rw [upd_ne hb]; exact q
    · by_cases hb : b = a
      · subst hb; rw [upd_same]; simp
      · rw [upd_ne hb]; exact q
    · by_cases hj : j = i
      · subst hj
        rw [setG_same] at q
        exact .inl ⟨j, hG' b q⟩
      · rw [setG_ne hj] at q
        exact .inl ⟨j, q⟩
end
end Y

/-! Y15: methods, making an instance -/
namespace L2
open PySem PySem.Spec PyProof.Rows
section
variable {X : Cx} {CX : CXT} {k : Nat} {f C : Addr} {fd : FuncData} {ps : List Str} {sp : Sp} {E : St → XK} {x m : Str} {p pos apos : Pos} {e o : Expr} {es : List Expr} {ta : TE} {t : TA}
def tMethYS (C : Addr) (m : Str) (sp : Sp) (E : St → XK) (ta : TE) (t : TA) : TE := fun σ H Q => ta σ H fun x H1 => ∃ a dx fs, x = .ref a ∧ H1 a = some (.ins C dx fs) ∧ fs.lookup m = none ∧ t σ H1 fun vs H2 => sp (.ref a :: vs) H2 Q (E σ)
theorem pe_methYX {pl : Sem Bool} (he : PE X o ta) (c : Cls X.K C) (hm : Meth X.K C m f) (F : FnOk X.prog X.w X.K X.mg X.base CX k f fd ps sp) (hr : Room k X.A) (hb : Binds X.K fd ps []) (hx : ∀ σ, PassesAt CX X σ (E σ)) (ha : PA X (e :: es) t)
    (hst : starEach (e :: es) X.env = (false, eval e X.env) :: starEach es X.env := by rfl) (hpl : (backTo pos (starEach es X.env)).any (·.1) = false := by rfl)
    (ht : eval (.Call (.Attribute o m apos) (e :: es) [] pos) X.env = (do
      let ov ← eval o X.env
      standAt apos.atName
      let (f, first) ← holding [ov] (getMethod ov m pl)
      callWith pos f first (backTo pos (starEach (e :: es) X.env)) (backToKw pos (keywordEach [] X.env))) := by rfl) :
    PE X (.Call (.Attribute o m apos) (e :: es) [] pos) (tMethYS C m sp E ta t) := by
  refine ⟨fun pins s σ H Q I h => ?_⟩
  refine PySem.W.methodCall_KW (pl := pl) (thn (he.run pins s σ H _ I h) fun u s1 ⟨x, H1, I1, rx, a, dx, fs, ex, ea, l, q⟩ => ?_) ht
  subst ex
  obtain rfl : u = Value.ref a := rx
  refine getmeth_ok I1 ea c hm l ?_
  refine PySem.W.callWith_K (first := [.ref a]) (h₀ := X.base) I.ok.mod.kin hm.kp (thn (ha.run pos pins s1 σ H1 _ I1 q) fun us s2 ⟨vs, H2, I2, r, q2⟩ => ⟨I2.kIn, ?_⟩) hst hpl
  exact run_fnS (us := .ref a :: us) (vs := .ref a :: vs) F hr hb (hx σ) I2 (.cons rfl r) q2
theorem pe_methYX0 {pl : Sem Bool} (he : PE X o ta) (c : Cls X.K C) (hm : Meth X.K C m f) (F : FnOk X.prog X.w X.K X.mg X.base CX k f fd ps sp) (hr : Room k X.A) (hb : Binds X.K fd ps []) (hx : ∀ σ, PassesAt CX X σ (E σ))
    (ht : eval (.Call (.Attribute o m apos) [] [] pos) X.env = (do
      let ov ← eval o X.env
      standAt apos.atName
      let (f, first) ← holding [ov] (getMethod ov m pl)
      callWith pos f first (backTo pos (starEach [] X.env)) (backToKw pos (keywordEach [] X.env))) := by rfl) :
    PE X (.Call (.Attribute o m apos) [] [] pos) (tMethYS C m sp E ta tNil) := by
  refine ⟨fun pins s σ H Q I h => ?_⟩
  refine PySem.W.methodCall_KW (pl := pl) (thn (he.run pins s σ H _ I h) fun u s1 ⟨x, H1, I1, rx, a, dx, fs, ex, ea, l, q⟩ => ?_) ht
  subst ex
  obtain rfl : u = Value.ref a := rx
  refine getmeth_ok I1 ea c hm l ?_
  exact PySem.W.callWith_K0 (first := [.ref a]) I1.kIn hm.kp (run_fnS (us := [.ref a]) (vs := [.ref a]) F hr hb (hx σ) I1 (.cons rfl .nil) q)
def tMakeYS (C : Addr) (sp : Sp) (E : St → XK) (t : TA) : TE := fun σ H Q => t σ H fun vs H1 => ∀ x dx, H1 x = none → H1 dx = none → dx ≠ x → sp (.ref x :: vs) (upd (upd H1 dx (.own x)) x (.ins C dx [])) (fun v H2 => v = .non ∧ Q (.ref x) H2) (E σ)
theorem run_makeYS {pins : List (Addr × Obj)} {σ : St} {H : Hp} {s : Shared} {Q : VK} {us : List Value} {vs : List V} (M : Mk X.K C f) (F : FnOk X.prog X.w X.K X.mg X.base CX k f fd ps sp) (hr : Room (k + 1) X.A) (hb : Binds X.K fd ps [])
    (hx : PassesAt CX X σ (E σ)) (I : Inv X pins σ H s) (r : Vals vs us)
    (h : ∀ x dx, H x = none → H dx = none → dx ≠ x → sp (.ref x :: vs) (upd (upd H dx (.own x)) x (.ins C dx [])) (fun v H2 => v = .non ∧ Q (.ref x) H2) (E σ)) :
    wpAny (model X.prog X.w) X.A (call (.ref C) us) (EP X pins σ Q) X.xe s := by
  have hq := h (s.heap.objs.size + 1) s.heap.objs.size (I.hok.fresh (Nat.le_succ _)) (I.hok.fresh (Nat.le_refl _)) (Nat.ne_of_lt (Nat.lt_succ_self _))
  have I2 := Inv.made (C := C) I
  have r2 : Vals (V.ref (s.heap.objs.size + 1) :: vs) (Value.ref (s.heap.objs.size + 1) :: us) := .cons rfl r
  have hl : (Value.ref (s.heap.objs.size + 1) :: us ++ []).length = ps.length := by
    have e := r2.length
    rw [F.len _ _ _ _ hq] at e
    rw [List.append_nil]
    exact e.symm
  have hb' := hb _ (Value.ref (s.heap.objs.size + 1) :: us) I2.kIn hl
  rw [List.append_nil] at hb'
  refine wpAny_call (make_map (f := f) I.kIn M.makes M.init (beq_iff_eq.mp M.fn) (codeAny_mono (F.run _ X.stack _ _ ⟨Value.ref (s.heap.objs.size + 1) :: us, []⟩ (Value.ref (s.heap.objs.size + 1) :: us) _ _ (E σ) (hr.make C us [])
    (I2.env0.make C us []) hb' r2 hq) fun r s' hq' => ?_))
  cases r with
  | error e => exact hx pins _ _ e s' I2 hq'
  | ok fl =>
    cases fl with
    | ret u =>
      obtain ⟨v, H', I3, rv, ev, q3⟩ := I2.after hq'
      subst ev
      exact ⟨rv, ⟨V.ref (s.heap.objs.size + 1), H', I3, rfl, q3⟩⟩
    | next => exact False.elim hq'
    | brk => exact False.elim hq'
    | cont => exact False.elim hq'
theorem pe_makeYS (M : Mk X.K C f) (F : FnOk X.prog X.w X.K X.mg X.base CX k f fd ps sp) (hr : Room (k + 1) X.A) (hg : Gl X x) (hm : X.mg x = some (.ref C)) (hb : Binds X.K fd ps []) (hx : ∀ σ, PassesAt CX X σ (E σ))
    (ha : PA X (e :: es) t) (hdb : (x == ("__debug__" : Str)) = false := by decide) (he : starEach (e :: es) X.env = (false, eval e X.env) :: starEach es X.env := by rfl) (hpl : (backTo pos (starEach es X.env)).any (·.1) = false := by rfl) :
    PE X (.Call (.Name x p) (e :: es) [] pos) (tMakeYS C sp E t) := by
  refine ⟨fun pins s σ H Q I h => ?_⟩
  refine wpAny_Call_Name_kw (ld_glob I hg hm ?_ hdb)
  refine PySem.W.callWith_K (h₀ := X.base) I.ok.mod.kin M.kp (thn (ha.run pos pins s σ H _ I h) fun us s1 ⟨vs, H1, I1, r, q⟩ => ⟨I1.kIn, ?_⟩) he hpl
  exact run_makeYS M F hr hb (hx σ) I1 r q
end
end L2
namespace Y
open PySem PySem.Spec L2
/-! ### methods -/
structure MetV (M : Mc) (A : Addr) (x : Str) (j n : Nat) {τ β : Type} (ins : (Addr → Prop) → τ → List Rp) (ρ : (Addr → Prop) → β → Rp) (m : τ → W β) : Prop where
  ex : ∃ f fd ps, FnOk M.P M.w M.K M.mg M.base (L2.CX M.P M.w) j f fd ps (spV M ins ρ m) ∧ Meth M.K A x f ∧ Binds M.K fd ps []
  len : ∀ N t, (ins N t).length = n
/-- what a class must say -/
structure ClsM (M : Mc) (x : Str) (A : Addr) : Prop where
  mg : M.mg x = some (.ref A)
  cls : Cls M.K A
section
variable {C : Cc} {Γ : List Slot} {α β γ δ ε : Type} {e e1 e2 e3 o : Expr} {pos p apos : Pos} {x : Str} {j : Nat} {A : Addr} {fl : α → Fl2}
theorem Ev.meth0 {ρ : (Addr → Prop) → β → Rp} {mf : α × Unit → W β} {mo : W α} (hf : MetV C.toMc A x j 1 (fun N t => [rIns A fl t.1]) ρ mf) (hj : j ≤ C.k) (hc : Cls C.K A) (hlk : ∀ y, (fl y).lookup x = Option.none) (ho : Ev C Γ o (rIns A fl) mo)
    (ht : ∀ X : Cx, ∃ pl : Sem Bool, eval (.Call (.Attribute o x apos) [] [] pos) X.env = (do
      let ov ← eval o X.env
      standAt apos.atName
      let (f, first) ← holding [ov] (getMethod ov x pl)
      callWith pos f first (backTo pos (starEach [] X.env)) (backToKw pos (keywordEach [] X.env))) := by intro _; exact ⟨_, rfl⟩) (hcm : C.cm = true := by rfl) :
    Ev C Γ (.Call (.Attribute o x apos) [] [] pos) (ρ C.fr) (do let y ← mo; mf (y, ())) :=
  fun X Wx ok tk F H g σ s Q hm => by
    obtain ⟨⟨f, fd, ps, hF, hM, hb⟩, hl⟩ := hf
    obtain ⟨pl, hpl2⟩ := ht X
    have e1 := ok.prog
    have e2 := ok.w
    have e3 := ok.K
    have e4 := ok.mg
    have e5 := ok.base
    refine WE.of (pe_methYX0 (pl := pl) (E := fun σ => L2.WE Wx σ) (pe_W (e := o)) (by rw [e3]; exact hc) (by rw [e3]; exact hM) (by rw [e1, e2, e3, e4, e5]; exact hF) ((ok.room hcm).mono hj) (by rw [e3]; exact hb) (fun σ => by
      have := passAt tk σ
      rw [e1, e2] at this
      exact this) hpl2) ?_
    refine ho X Wx ok tk F H g σ s _ (mo.mono (fun y hy F1 H1 g1 v1 f1 s1 r1 => ?_) (fun e he => he) hm)
    obtain ⟨a, dx, fs, ev, h1, h2, t1⟩ := id r1
    refine ⟨a, dx, fs, ev, s1.sF _ _ h1, t1.no (hlk y), ?_⟩
    refine ⟨(y, ()), F1, C.fr, s1.fr, s1.sF, .cons (by rw [← ev]; exact r1) .nil, (mf (y, ())).mono (fun b hb F2 H2 g2 v f2 s2 r2 => ?_) (fun e he F2 H2 g2 cls d f2 s2 hx => ?_) hy⟩
    · obtain ⟨s3, f3⟩ := s1.call0 f2 s2
      exact hb F2 H2 g1 v (f1.trans f3) s3 r2
    · obtain ⟨s3, f3⟩ := s1.call0 f2 s2
      exact he F2 H2 g1 cls d (f1.trans f3) s3 ((hx.reg s1.sG).later f1)
end
/-- a method by its body -/
theorem MetV.ofBody {M : Mc} {A f : Addr} {fd : FuncData} {x qual : Str} {st : Stmt} {k n : Nat} {N ps : List Str} {τ β : Type} {ins : (Addr → Prop) → τ → List Rp} {ρ : (Addr → Prop) → β → Rp} {m : τ → W β} (F : Fun M.K x qual st f fd) (hM : Meth M.K A x f) (hb : Binds M.K fd ps []) (S : FnScope N ps (defScope st))
    (hn : ps.length = n) (hl : ∀ N t, (ins N t).length = n) (h : ∀ (fr : Addr → Prop) (t : τ), Ex (initC M N (defScope st) k fr) (Γ0 (ins fr t) N) (defBody st) (fun b => .rt (ρ fr b)) (m t)) : MetV M A x (k + 1) n ins ρ m := by
  refine ⟨⟨f, fd, ps, F.okX S (fun vs H Q E hsp => ?_) (fun cdv A outer s H vs Q E hr hsp => ?_), hM, hb⟩, hl⟩
  · obtain ⟨t, F', Nf, _, _, r, _⟩ := hsp
    rw [r.length, hl, hn]
  · obtain ⟨t, F', Nf, hNf, sm, r, w⟩ := hsp
    refine ⟨_, pss_W, ?_⟩
    refine h Nf t (cxOf (L2.CX M.P M.w) M.P M.w M.K M.mg M.base N qual (defScope st) f cdv A outer s H E) (fun cls d _ H => E cls d H) ⟨⟨rfl, rfl, rfl, rfl, rfl, rfl, rfl, S.nd, rfl, fun _ => hr, hr.units, fun _ _ _ h => (nomatch h), fun _ _ => rfl⟩, passes_of rfl, rfl, rfl⟩ (takes_of rfl rfl rfl rfl) F' H _ _ (start_ok hNf sm r) _ ((m t).mono (fun b hb => ?_) (fun e he => ?_) w)
    · intro F2 H2 g2 v f2 s2 r2
      exact hb F2 H2 g2 v (show Fr F' H (fun _ => False) F2 H2 (dU g2) from ⟨f2.sF, fun b z => (f2.fF b z).imp_right fun q => q.imp_right fun ⟨_, q⟩ => absurd rfl q, fun b o q _ => f2.keep b o q fun ⟨_, z⟩ => absurd rfl z, f2.dom, fun b z => (f2.gs b z).imp_left fun ⟨_, q⟩ => absurd rfl q⟩) s2 r2
    · intro F2 H2 g2 σ2 cls d f2 s2 hx
      exact he F2 H2 g2 cls d ⟨f2.sF, fun b z => (f2.fF b z).imp_right fun q => q.imp_right fun ⟨_, q⟩ => absurd rfl q, fun b o q _ => f2.keep b o q fun ⟨_, z⟩ => absurd rfl z, f2.dom, fun b z => (f2.gs b z).imp_left fun ⟨_, q⟩ => absurd rfl q⟩ s2 hx
/-! ### making -/
def spI (M : Mc) (A : Addr) {τ γ : Type} (ins : (Addr → Prop) → τ → List Rp) (fl : γ → Fl2) (m : τ → W γ) : Sp := fun vs H Q E => ∃ (t : τ) (F : Hp) (N : Addr → Prop) (p dx : Addr) (ws : List V), (∀ a, H a = none → N a) ∧ vs = .ref p :: ws ∧ Same F H ∧ F p = none ∧ F dx = none ∧ dx ≠ p ∧ H p = some (.ins A dx []) ∧ H dx = some (.own p) ∧ All2 (fun v R => R.p F v) ws (ins N t) ∧
  (m t).wp (fun y => ∀ F' H' g', Fr F H (fun b => b = p ∨ b = dx) F' H' (dU g') → Same F' H' → (rIns A fl y).p F' (.ref p) → Q .non H') (fun e => ∀ F' H' g' cls d, Fr F H (fun b => b = p ∨ b = dx) F' H' (dU g') → Same F' H' → XOk M e H H' (dU g') cls d → E cls d H')
structure MakV (M : Mc) (x : Str) (A : Addr) (j n : Nat) {τ γ : Type} (ins : (Addr → Prop) → τ → List Rp) (fl : γ → Fl2) (m : τ → W γ) : Prop where
  ex : ∃ f fd ps, FnOk M.P M.w M.K M.mg M.base (L2.CX M.P M.w) j f fd ps (spI M A ins fl m) ∧ Mk M.K A f ∧ Binds M.K fd ps [] ∧ M.mg x = some (.ref A)
  len : ∀ N t, (ins N t).length = n
/-- an instance's making, by the body of __init__ -/
theorem MakV.ofBody {M : Mc} {x : Str} {A f : Addr} {fd : FuncData} {nm qual : Str} {st : Stmt} {k n : Nat} {N ps : List Str} {τ γ : Type} {ins : (Addr → Prop) → τ → List Rp} {fl : γ → Fl2} {m : τ → W γ} (F : Fun M.K nm qual st f fd) (hM : Mk M.K A f) (hmg : M.mg x = some (.ref A)) (hb : Binds M.K fd ps []) (S : FnScope N ps (defScope st))
    (hn : ps.length = n + 1) (hl : ∀ N t, (ins N t).length = n) (Γf : (Addr → Prop) → Addr → Addr → τ → γ → List Slot) (hΓf : ∀ fr p dx t y, (Γf fr p dx t y)[0]? = some (.own (oIns A p dx (fl y)))) (h : ∀ (fr : Addr → Prop) (p dx : Addr) (t : τ), Ex (initC M N (defScope st) k fr) (.own (oIns A p dx []) :: Γ0 (ins fr t) N.tail) (defBody st) (fun y => .nx (Γf fr p dx t y)) (m t)) : MakV M x A (k + 1) n ins fl m := by
  refine ⟨⟨f, fd, ps, F.okX S (fun vs H Q E hsp => ?_) (fun cdv A' outer s H vs Q E hr hsp => ?_), hM, hb, hmg⟩, hl⟩
  · obtain ⟨t, F', Nf, p, dx, ws, _, e, _, _, _, _, _, _, r, _⟩ := hsp
    rw [e, List.length_cons, r.length, hl, hn]
  · obtain ⟨t, F', Nf, p, dx, ws, hNf, e, sm, hFp, hFd, hne, hHp, hHd, r, w⟩ := hsp
    subst e
    refine ⟨_, pss_W, ?_⟩
    have hNne : N ≠ [] := fun z => by
      have := S.pre
      rw [z] at this
      have h0 : ps.length = 0 := by rw [← this]; simp
      omega
    obtain ⟨n0, N', eN⟩ := List.exists_cons_of_ne_nil hNne
    subst eN
    have st0 := start_ok (M := M) (N := N') (sc := defScope st) (k := k) hNf sm r
    have hst : L2.start (n0 :: N') (V.ref p :: ws) = some (V.ref p) :: L2.start N' ws := by
      unfold L2.start
      simp
    have s0 : StOk (initC M (n0 :: N') (defScope st) k Nf) F' H (.own (oIns A p dx []) :: Γ0 (ins Nf t) N') (L2.start (n0 :: N') (V.ref p :: ws)) (setG (fun _ => emp) 0 (two p (.ins A dx []) dx (.own p))) := by
      rw [hst]
      refine ⟨by simp [st0.len], fun i Sl q => ?_, sm, fun i b u q => ?_, fun i b => ?_, fun i j hij b => ?_, hNf⟩
      · cases i with
        | zero =>
          have q' : some (Slot.own (oIns A p dx [])) = some Sl := q
          cases q'
          rw [setG_same]
          exact ⟨_, rfl, [], rfl, hne, rfl, .nil⟩
        | succ i =>
          rw [setG_ne (Nat.succ_ne_zero i)]
          exact st0.slot i Sl q
      · by_cases hi : i = 0
        · subst hi
          rw [setG_same] at q
          unfold two at q
          split at q
          · rename_i e; cases q; rw [e]; exact hHp
          · split at q
            · rename_i e; cases q; rw [e]; exact hHd
            · cases q
        · rw [setG_ne hi] at q; cases q
      · by_cases hi : i = 0
        · subst hi
          rw [setG_same]
          by_cases h1 : b = p
          · exact .inl (by rw [h1]; exact hFp)
          · by_cases h2 : b = dx
            · exact .inl (by rw [h2]; exact hFd)
            · exact .inr (by unfold two; rw [if_neg h1, if_neg h2])
        · rw [setG_ne hi]; exact .inr rfl
      · by_cases hi : i = 0
        · subst hi
          rw [setG_ne (fun z => hij z.symm)]
          exact .inr rfl
        · rw [setG_ne hi]; exact .inl rfl
    have hU : ∀ b, dU (setG (fun _ => emp) 0 (two p (.ins A dx []) dx (.own p))) b → b = p ∨ b = dx := fun b ⟨i, q⟩ => by
      by_cases hi : i = 0
      · subst hi
        rw [setG_same] at q
        unfold two at q
        split at q
        · rename_i e; exact .inl e
        · split at q
          · rename_i e; exact .inr e
          · exact absurd rfl q
      · rw [setG_ne hi] at q; exact absurd rfl q
    refine h Nf p dx t (cxOf (L2.CX M.P M.w) M.P M.w M.K M.mg M.base (n0 :: N') qual (defScope st) f cdv A' outer s H E) (fun cls d _ H => E cls d H) ⟨⟨rfl, rfl, rfl, rfl, rfl, rfl, rfl, S.nd, rfl, fun _ => hr, hr.units, fun _ _ _ h => (nomatch h), fun _ _ => rfl⟩, passes_of rfl, rfl, rfl⟩ (takes_of rfl rfl rfl rfl) F' H _ _ s0 _ ((m t).mono (fun y hy => ?_) (fun e he => ?_) w)
    · intro F2 H2 g2 σ2 f2 s2
      obtain ⟨v, eσ, fs, ev, _, eg, tf⟩ := s2.get_own (hΓf Nf p dx t y)
      refine hy (uni F2 (g2 0)) H2 g2 ⟨f2.sF.trans uni_l, fun b q => ?_, fun b o q n => f2.keep b o q fun z => n (hU b z), f2.dom, fun b z => (f2.gs b z).imp_left (hU b)⟩ (fun b o q => ?_) ⟨p, dx, fs, rfl, ?_, ?_, tf.mono uni_l⟩
      · cases q2 : F2 b with
        | some o => exact (f2.fF b (by rw [q2]; simp)).imp_right fun z => z.imp_right (hU b)
        | none =>
          have : g2 0 b ≠ none := fun z => q (uni_none q2 z)
          rw [eg] at this
          unfold two at this
          split at this
          · rename_i e; exact .inr (.inr (.inl e))
          · split at this
            · rename_i e; exact .inr (.inr (.inr e))
            · exact absurd rfl this
      · rcases of_uni q with q2 | ⟨_, q2⟩
        · exact s2.sF b o q2
        · exact s2.sG 0 b o q2
      · exact uni_r (s2.dF 0) p _ (by rw [eg]; exact if_pos rfl)
      · refine uni_r (s2.dF 0) dx _ ?_
        rw [eg]
        unfold two
        rw [if_neg (by assumption), if_pos rfl]
    · intro F2 H2 g2 σ2 cls d f2 s2 hx
      exact he F2 H2 g2 cls d ⟨f2.sF, fun b z => (f2.fF b z).imp_right fun q => q.imp_right (hU b), fun b o q n => f2.keep b o q fun z => n (hU b z), f2.dom, fun b z => (f2.gs b z).imp_left (hU b)⟩ s2 hx
section
variable {C : Cc} {Γ : List Slot} {α β γ δ ε : Type} {e e1 e2 e3 o : Expr} {pos p apos : Pos} {x : Str} {j : Nat} {A : Addr} {fl : γ → Fl2}
end
end Y

/-! Y16: the yard's kinds, more lists, calls that read own lists -/
namespace Y
open PySem PySem.Spec L2
abbrev WorkV := Str × List (Str × Int) × List (Str × Int)
abbrev YardV := List Str × List WorkV
abbrev rWk (K : PySem.W.Frag) : WorkV → Rp := rT3 K rS (rL K (rT2 K rS rI)) (rL K (rT2 K rS rI))
def flY (K : PySem.W.Frag) (x : YardV) : Fl2 := [("told_goods", rL K rS x.1), ("told_works", rL K (rWk K) x.2)]
section
variable {C : Cc} {Γ Γ' : List Slot} {α β γ δ ε ω : Type} {J : ω → Out} {e e1 e2 e3 e4 e5 e6 o a b : Expr} {pos p p2 apos : Pos} {rest : List Stmt}
theorem Ev.fldP {A : Addr} {fl : α → Fl2} {x : α} {f : Str} {g0 : α → β} {r : β → Rp} (hC : Cls C.K A) (hn : NoAttr C.K A f) (hf : ∀ x, (fl x).lookup f = Option.some (r (g0 x))) (h : Ev C Γ e (rIns A fl) (pure x)) (hb : ∀ X : Cx, attributeBase e f X.env (eval e X.env) = eval e X.env := by intro _; rfl) :
    Ev C Γ (.Attribute e f pos) r (pure (g0 x)) := Ev.fld hC hn hf h hb
/-! ### displays of four to six -/
/-! ### texts in lists -/
theorem inV_str (x : Str) : ∀ xs : List Str, inV (.str x) (xs.map V.str) = decide (x ∈ xs)
  | [] => rfl
  | y :: ys => by
    show ((y == x) || inV (.str x) (ys.map V.str)) = _
    rw [inV_str x ys]
    by_cases h : y = x
    · subst h; simp
    · have h2 : (y == x) = false := by simpa using h
      have h3 : ¬ x = y := fun z => h z.symm
      rw [h2]; simp [h3]
theorem flat_strs : ∀ xs : List Str, (xs.map V.str).all flatV = true
  | [] => rfl
  | _ :: ys => flat_strs ys
theorem Ev.notInSL {ma : W Str} {mb : W (List Str)} (ha : Ev C Γ a rS ma) (hb : Ev C Γ b (rL C.K rS) mb) (hk : behindInMarks .NotIn b = false := by with_unfolding_all rfl) : Ev C Γ (.Compare a [.NotIn] [b] pos) rB (do let x ← ma; let y ← mb; pure (!decide (x ∈ y))) :=
  Ev.cmp (fun x y => !decide (x ∈ y)) (fun X ok => ⟨_, op_notIn_seq, fun x y H v w Q hv hw h => by
    obtain ⟨q, vs, ev, hq, t⟩ := (show (rL C.K rS y).p H w from hw)
    have e1 : v = .str x := hv
    have e2 := All2.txts t
    subst e1 e2
    exact ⟨q, y.map V.str, ev, .inl (by rw [ok.K]; exact hq), rfl, flat_strs y, by rw [inV_str]; exact h⟩⟩) hk ha hb
/-! ### xs.reverse() -/
theorem Ex.reverse {i : Nat} {x : Str} {px apos cpos : Pos} {r : α → Rp} {xs : List α} {m : W ω} (hN : C.N[i]? = some x) (hv : visB C.sc x = true) (hd : (x == ("__debug__" : Str) || x == ("__classdict__" : Str)) = false) (hΓ : Γ[i]? = some (.own (oL C.fr r xs))) (hr : Ex C (Γ.set i (.own (oL C.fr r xs.reverse))) rest J m)
    (hpe : ∀ X : Cx, PE X (.Name x px) (tVar i) → ∃ t, PE X (.Call (.Attribute (.Name x px) "reverse" apos) [] [] cpos) t ∧ ∀ σ H Q, (∃ a vs, σ[i]? = some (some (.ref a)) ∧ H a = some (.lst vs) ∧ Q .non (upd H a (.lst vs.reverse))) → t σ H Q)
    (hs : ∀ X : Cx, swapsWith (.Call (.Attribute (.Name x px) "reverse" apos) [] [] cpos) none pos.line X.env = pure false := by intro _; rfl) :
    Ex C Γ (.Expr (.Call (.Attribute (.Name x px) "reverse" apos) [] [] cpos) pos :: rest) J m :=
  Ex.cons fun X Wx ok tk F H g σ s D hm => by
    rw [Bool.or_eq_false_iff] at hd
    obtain ⟨t, ht, htr⟩ := hpe X (pe_var (i := i) (by rw [ok.N]; exact hN) (by rw [ok.sc]; exact visOf hv) hd.1 hd.2)
    refine W1.of (ps_expr ht (hs X)) ?_
    obtain ⟨v, eσ, a, vs, ev, na, eg, tt⟩ := s.get_own hΓ
    subst ev
    obtain ⟨s3, f3, hH2⟩ := s.upd_own (O' := oL C.fr r xs.reverse) (o' := .lst vs.reverse) eg eσ (List.getElem?_eq_some_iff.mp hΓ).1 ⟨a, vs.reverse, rfl, na, rfl, tt.reverse⟩
    exact htr _ _ _ ⟨a, vs, eσ, hH2, hr.later ok tk f3 s3 hm⟩
/-! ### a call that reads own lists and tells new things -/
noncomputable def restr (F : Hp) (N : Addr → Prop) : Hp := fun a => by classical exact if N a then F a else none
theorem restr_same {F : Hp} {N : Addr → Prop} : Same (restr F N) F := fun a o h => by
  unfold restr at h
  split at h
  · exact h
  · cases h
theorem restr_at {F : Hp} {N : Addr → Prop} {a : Addr} (h : N a) : restr F N a = F a := if_pos h
/-- all of it is new -/
structure Frs (ρ : (Addr → Prop) → α → Rp) : Prop where
  re : ∀ N b F v, (ρ N b).p F v → (ρ N b).p (restr F N) v
  mo : ∀ N N' b F v, (∀ a, N a → N' a) → (ρ N b).p F v → (ρ N' b).p F v
theorem Frs.fre {r : α → Rp} [I : Fre r] : Frs (fun _ => r) := ⟨fun _ _ _ _ h => I.fre _ _ _ h _, fun _ _ _ _ _ _ h => h⟩
theorem Frs.N {ρ : (Addr → Prop) → α → Rp} (h : Frs ρ) : Frs (fun N => rN N (ρ N)) := ⟨fun N b F v ⟨a, vs, e, n, q, t⟩ => ⟨a, vs, e, n, by rw [restr_at n]; exact q, t.imp fun _ _ z => h.re _ _ _ _ z⟩, fun N N' b F v hn ⟨a, vs, e, n, q, t⟩ => ⟨a, vs, e, hn _ n, q, t.imp fun _ _ z => h.mo _ _ _ _ _ hn z⟩⟩
/-- a new tuple -/
def rX2 (N : Addr → Prop) (r1 : α → Rp) (r2 : β → Rp) (x : α × β) : Rp :=
  ⟨fun F v => ∃ a v1 v2, v = .ref a ∧ N a ∧ F a = some (.tup [v1, v2]) ∧ (r1 x.1).p F v1 ∧ (r2 x.2).p F v2, fun h ⟨a, v1, v2, e, n, q, t1, t2⟩ => ⟨a, v1, v2, e, n, h _ _ q, (r1 _).mono h t1, (r2 _).mono h t2⟩⟩
def rX3 (N : Addr → Prop) (r1 : α → Rp) (r2 : β → Rp) (r3 : γ → Rp) (x : α × β × γ) : Rp :=
  ⟨fun F v => ∃ a v1 v2 v3, v = .ref a ∧ N a ∧ F a = some (.tup [v1, v2, v3]) ∧ (r1 x.1).p F v1 ∧ (r2 x.2.1).p F v2 ∧ (r3 x.2.2).p F v3, fun h ⟨a, v1, v2, v3, e, n, q, t1, t2, t3⟩ => ⟨a, v1, v2, v3, e, n, h _ _ q, (r1 _).mono h t1, (r2 _).mono h t2, (r3 _).mono h t3⟩⟩
theorem Frs.X2 {ρ1 : (Addr → Prop) → α → Rp} {ρ2 : (Addr → Prop) → β → Rp} (h1 : Frs ρ1) (h2 : Frs ρ2) : Frs (fun N => rX2 N (ρ1 N) (ρ2 N)) := ⟨fun N b F v ⟨a, v1, v2, e, n, q, t1, t2⟩ => ⟨a, v1, v2, e, n, by rw [restr_at n]; exact q, h1.re _ _ _ _ t1, h2.re _ _ _ _ t2⟩, fun N N' b F v hn ⟨a, v1, v2, e, n, q, t1, t2⟩ => ⟨a, v1, v2, e, hn _ n, q, h1.mo _ _ _ _ _ hn t1, h2.mo _ _ _ _ _ hn t2⟩⟩
theorem subXT2 {K : PySem.W.Frag} {N : Addr → Prop} {r1 r1' : α → Rp} {r2 r2' : β → Rp} (h1 : SubK r1 r1') (h2 : SubK r2 r2') : SubK (rX2 N r1 r2) (rT2 K r1' r2') := fun a F v ⟨q, v1, v2, e, _, q2, t1, t2⟩ => ⟨q, v1, v2, e, .inl (.inl q2), h1 _ _ _ t1, h2 _ _ _ t2⟩
theorem subXT3 {K : PySem.W.Frag} {N : Addr → Prop} {r1 r1' : α → Rp} {r2 r2' : β → Rp} {r3 r3' : γ → Rp} (h1 : SubK r1 r1') (h2 : SubK r2 r2') (h3 : SubK r3 r3') : SubK (rX3 N r1 r2 r3) (rT3 K r1' r2' r3') := fun a F v ⟨q, v1, v2, v3, e, _, q2, t1, t2, t3⟩ => ⟨q, v1, v2, v3, e, .inl (.inl q2), h1 _ _ _ t1, h2 _ _ _ t2, h3 _ _ _ t3⟩
/-- new tuples displayed -/
theorem Ev.tupX {es : List Expr} {k : Nat} {τ : Type} {ρs : τ → List Rp} {ρ : β → Rp} {mt : W τ} (f : τ → β) (hf : ∀ t F q vs, C.fr q → F q = some (.tup vs) → All2 (fun v R => R.p F v) vs (ρs t) → (ρ (f t)).p F (.ref q)) (hl : ∀ t, (ρs t).length ≤ 1000) (ha : EvA C Γ es ρs mt) :
    Ev C Γ (.Tuple es k pos) ρ (do let t ← mt; pure (f t)) :=
  fun X Wx ok tk F H g σ s Q hm => by
    refine WE.of (pe_tup (pa_W (es := es))) ?_
    refine ha.2 X Wx ok tk F H g σ s _ (mt.mono (fun t ht F1 H1 g1 vs f1 s1 r1 => ?_) (fun e he => he) hm)
    refine ⟨by rw [r1.length]; exact Nat.le_trans (hl t) (by decide), fun q hq => ?_⟩
    obtain ⟨s2, f2⟩ := s1.grow1 (o := .tup vs) hq
    have hsm : Same F1 (upd F1 q (.tup vs)) := f2.sF
    exact ht _ _ g1 _ (f1.trans f2) s2 (hf t _ q vs (s1.fr q hq) upd_same (r1.imp fun v R z => R.mono hsm z))
theorem Ev.tupX2 {k : Nat} {r1 : α → Rp} {r2 : β → Rp} {m1 : W α} {m2 : W β} (h1 : Ev C Γ e1 r1 m1) (h2 : Ev C Γ e2 r2 m2) (n1 : NoStar e1) (n2 : NoStar e2) : Ev C Γ (.Tuple [e1, e2] k pos) (rX2 C.fr r1 r2) (do let x ← m1; let y ← m2; pure (x, y)) :=
  Ev.tupX (ρ := rX2 C.fr r1 r2) (fun t : α × β × Unit => (t.1, t.2.1)) (fun t F q vs n hq h => by
    cases h with
    | cons h h' => cases h' with
      | cons h' h'' => cases h''; exact ⟨q, _, _, rfl, n, hq, h, h'⟩) (fun _ => Nat.le_of_ble_eq_true rfl) (EvA.cons h1 (EvA.cons h2 EvA.nil n2) n1)
theorem Ev.tupX3 {k : Nat} {r1 : α → Rp} {r2 : β → Rp} {r3 : γ → Rp} {m1 : W α} {m2 : W β} {m3 : W γ} (h1 : Ev C Γ e1 r1 m1) (h2 : Ev C Γ e2 r2 m2) (h3 : Ev C Γ e3 r3 m3) (n1 : NoStar e1) (n2 : NoStar e2) (n3 : NoStar e3) : Ev C Γ (.Tuple [e1, e2, e3] k pos) (rX3 C.fr r1 r2 r3) (do let x ← m1; let y ← m2; let z ← m3; pure (x, y, z)) :=
  Ev.tupX (ρ := rX3 C.fr r1 r2 r3) (fun t : α × β × γ × Unit => (t.1, t.2.1, t.2.2.1)) (fun t F q vs n hq h => by
    cases h with
    | cons h h' => cases h' with
      | cons h2 h' => cases h' with
        | cons h3 h' => cases h'; exact ⟨q, _, _, _, rfl, n, hq, h, h2, h3⟩) (fun _ => Nat.le_of_ble_eq_true rfl) (EvA.cons h1 (EvA.cons h2 (EvA.cons h3 EvA.nil n3) n2) n1)
theorem Ev.tupX2P {k : Nat} {r1 : α → Rp} {r2 : β → Rp} {x : α} {y : β} (h1 : Ev C Γ e1 r1 (pure x)) (h2 : Ev C Γ e2 r2 (pure y)) (n1 : NoStar e1) (n2 : NoStar e2) : Ev C Γ (.Tuple [e1, e2] k pos) (rX2 C.fr r1 r2) (pure (x, y)) := Ev.tupX2 h1 h2 n1 n2
theorem Ev.tupX3P {k : Nat} {r1 : α → Rp} {r2 : β → Rp} {r3 : γ → Rp} {x : α} {y : β} {z : γ} (h1 : Ev C Γ e1 r1 (pure x)) (h2 : Ev C Γ e2 r2 (pure y)) (h3 : Ev C Γ e3 r3 (pure z)) (n1 : NoStar e1) (n2 : NoStar e2) (n3 : NoStar e3) : Ev C Γ (.Tuple [e1, e2, e3] k pos) (rX3 C.fr r1 r2 r3) (pure (x, y, z)) := Ev.tupX3 h1 h2 h3 n1 n2 n3
end
end Y

/-! Y17: reverse, calls in short, methods that tell lists of the asker's own -/
namespace Y
open PySem PySem.Spec L2
section
variable {C : Cc} {Γ Γ' : List Slot} {α β γ δ ε ω : Type} {J : ω → Out} {e e1 e2 e3 e4 o : Expr} {pos p apos cpos : Pos} {rest : List Stmt}
theorem Ex.rev {i : Nat} {x : Str} {px : Pos} {r : α → Rp} {xs : List α} {m : W ω} (hN : C.N[i]? = some x) (hv : visB C.sc x = true) (hd : (x == ("__debug__" : Str) || x == ("__classdict__" : Str)) = false) (hΓ : Γ[i]? = some (.own (oL C.fr r xs))) (hr : Ex C (Γ.set i (.own (oL C.fr r xs.reverse))) rest J m)
    (hline : (apos.endLine == cpos.line) = true := by rfl) (hb : ∀ X : Cx, attributeBase (.Name x px) "reverse" X.env (eval (.Name x px) X.env) = eval (.Name x px) X.env := by intro _; rfl)
    (hs : ∀ X : Cx, swapsWith (.Call (.Attribute (.Name x px) "reverse" apos) [] [] cpos) none pos.line X.env = pure false := by intro _; rfl) :
    Ex C Γ (.Expr (.Call (.Attribute (.Name x px) "reverse" apos) [] [] cpos) pos :: rest) J m :=
  Ex.cons fun X Wx ok tk F H g σ s D hm => by
    rw [Bool.or_eq_false_iff] at hd
    refine W1.of (ps_expr (pe_bm0 PySem.F.plainAttrs_list PySem.F.slot_list_reverse PySem.F.type_list_reverse mt_reverse (pe_var (i := i) (by rw [ok.N]; exact hN) (by rw [ok.sc]; exact visOf hv) hd.1 hd.2) (hb X) hline) (hs X)) ?_
    obtain ⟨v, eσ, a, vs, ev, na, eg, tt⟩ := s.get_own hΓ
    subst ev
    obtain ⟨s3, f3, hH2⟩ := s.upd_own (O' := oL C.fr r xs.reverse) (o' := .lst vs.reverse) eg eσ (List.getElem?_eq_some_iff.mp hΓ).1 ⟨a, vs.reverse, rfl, na, rfl, tt.reverse⟩
    exact ⟨.ref a, eσ, .inl ⟨rfl, _, SqL.of hH2⟩, a, vs, rfl, rfl, hH2, hr.later ok tk f3 s3 hm⟩
variable {x : Str} {j : Nat} {ρ : (Addr → Prop) → ε → Rp}
end
section
variable {C : Cc} {Γ : List Slot} {α β γ δ ε : Type} {e e1 e2 e3 o : Expr} {pos p apos : Pos} {x : Str} {j : Nat} {A : Addr} {fl : α → Fl2}
end
end Y

/-! Y18: bags: a list of two ints that the asked one may change; items of own lists -/
namespace Y
open PySem PySem.Spec L2
/-- what a bag holds -/
def BagL (l : List Int) : Prop := ∃ x y : Int, l = [x, y] ∧ 0 ≤ x ∧ x < 1000000000000000000000000000000000000000000000000000000000000 ∧ 0 ≤ y ∧ y < 2147483647
def oBag (N : Addr → Prop) : Op :=
  ⟨fun _ G v => ∃ (a : Addr) (l : List Int), v = .ref a ∧ N a ∧ G = one a (.lst (l.map V.int)) ∧ BagL l, fun _ x => x⟩
theorem oBag_of {N : Addr → Prop} {F G : Hp} {v : V} {l : List Int} (hl : BagL l) (h : (oL N rI l).p F G v) : (oBag N).p F G v := by
  obtain ⟨a, vs, ev, na, eg, t⟩ := h
  have e := All2.of_map (f := V.int) (fun b a r => r) t
  exact ⟨a, l, ev, na, by rw [eg, e], hl⟩
/-- a kind that may be said of another set of places, where they agree on what is there -/
structure Fd {α : Type} (ρ : (Addr → Prop) → α → Rp) : Prop where
  mo : ∀ N N' b F v, (∀ a, F a ≠ none → N a → N' a) → (ρ N b).p F v → (ρ N' b).p F v
theorem Fd.c {α : Type} {r : α → Rp} : Fd (fun _ => r) := ⟨fun _ _ _ _ _ _ h => h⟩
theorem Fd.N {α : Type} {ρ : (Addr → Prop) → α → Rp} (h : Fd ρ) : Fd (fun N => rN N (ρ N)) := ⟨fun N N' b F v hn ⟨a, vs, e, n, q, t⟩ => ⟨a, vs, e, hn a (by rw [q]; simp) n, q, t.imp fun _ _ z => h.mo _ _ _ _ _ hn z⟩⟩
def spB (M : Mc) {τ β : Type} (ins : τ → List Rp) (ρ : (Addr → Prop) → β → Rp) (m : τ → W β) : Sp := fun vs H Q E => ∃ (t : τ) (F G : Hp) (N : Addr → Prop) (a : Addr) (ws : List V), (∀ b, H b = none → N b) ∧ vs = .ref a :: ws ∧ Same F H ∧ Same G H ∧ Dis F G ∧ (oBag (fun _ => True)).p F G (.ref a) ∧ All2 (fun v R => R.p F v) ws (ins t) ∧
  (m t).wp (fun b => ∀ F' H' G' v, Fr F H (fun b => b = a) F' H' (fun b => b = a) → Same F' H' → Same G' H' → Dis F' G' → (oBag (fun _ => True)).p F' G' (.ref a) → (ρ N b).p F' v → Q v H') (fun _ => False)
structure BagV (M : Mc) (x : Str) (j n : Nat) {τ β : Type} (ins : τ → List Rp) (ρ : (Addr → Prop) → β → Rp) (m : τ → W β) : Prop where
  ex : ∃ f fd ps, FnOk M.P M.w M.K M.mg M.base (L2.CX M.P M.w) j f fd ps (spB M ins ρ m) ∧ M.mg x = some (.ref f) ∧ PySem.W.keepIn M.K (.ref f) = true ∧ Binds M.K fd ps []
  len : ∀ t, (ins t).length = n
/-- a state with a private object in slot 0 -/
theorem start_own {M : Mc} {N' : List Str} {n0 : Str} {sc : Scope} {k : Nat} {F H : Hp} {ws : List V} {R : List Rp} {Nf : Addr → Prop} {O : Op} {a : Addr} {o : HO} (hN : ∀ a, H a = none → Nf a) (sm : Same F H) (sg : Same (one a o) H) (dd : Dis F (one a o)) (r : All2 (fun v R => R.p F v) ws R) (ho : O.p F (one a o) (.ref a)) :
    StOk (initC M (n0 :: N') sc k Nf) F H (.own O :: Γ0 R N') (L2.start (n0 :: N') (V.ref a :: ws)) (setG (fun _ => emp) 0 (one a o)) := by
  have st0 := start_ok (M := M) (N := N') (sc := sc) (k := k) hN sm r
  have hst : L2.start (n0 :: N') (V.ref a :: ws) = some (V.ref a) :: L2.start N' ws := by
    unfold L2.start
    simp
  rw [hst]
  refine ⟨by simp [st0.len], fun i Sl q => ?_, sm, fun i b u q => ?_, fun i b => ?_, fun i j hij b => ?_, hN⟩
  · cases i with
    | zero =>
      have q' : some (Slot.own O) = some Sl := q
      cases q'
      rw [setG_same]
      exact ⟨_, rfl, ho⟩
    | succ i =>
      rw [setG_ne (Nat.succ_ne_zero i)]
      exact st0.slot i Sl q
  · by_cases hi : i = 0
    · subst hi
      rw [setG_same] at q
      exact sg b u q
    · rw [setG_ne hi] at q; cases q
  · by_cases hi : i = 0
    · subst hi
      rw [setG_same]
      exact dd b
    · rw [setG_ne hi]; exact .inr rfl
  · by_cases hi : i = 0
    · subst hi
      rw [setG_ne (fun z => hij z.symm)]
      exact .inr rfl
    · rw [setG_ne hi]; exact .inl rfl
theorem BagV.ofBody {M : Mc} {x : Str} {st : Stmt} {k n : Nat} {N ps : List Str} {τ β : Type} {ins : τ → List Rp} {ρ : (Addr → Prop) → β → Rp} {m : τ → W β} (hρ : Fd ρ) (F : FunM M x st ps) (S : FnScope N ps (defScope st))
    (hn : ps.length = n + 1) (hl : ∀ t, (ins t).length = n) (Γf : Addr → List Slot) (hΓf : ∀ a, (Γf a)[0]? = some (.own (oBag (· = a)))) (h : ∀ (fr : Addr → Prop) (ba : Addr) (t : τ), fr ba → Ex (initC M N (defScope st) k fr) (.own (oBag (· = ba)) :: Γ0 (ins t) N.tail) (defBody st) (fun b => .rtG (ρ fr b) (Γf ba)) (m t)) : BagV M x (k + 1) n ins ρ m := by
  obtain ⟨f, fd, F, hmg, hb⟩ := F
  refine ⟨⟨f, fd, ps, F.okX S (fun vs H Q E hsp => ?_) (fun cdv A' outer s H vs Q E hr hsp => ?_), hmg, F.kp, hb⟩, hl⟩
  · obtain ⟨t, F', G, Nf, a, ws, _, e, _, _, _, _, r, _⟩ := hsp
    rw [e, List.length_cons, r.length, hl, hn]
  · obtain ⟨t, F', G, Nf, a, ws, hNf, e, sm, sg, dd, hB, r, w⟩ := hsp
    subst e
    refine ⟨_, pss_W, ?_⟩
    have hNne : N ≠ [] := fun z => by
      have := S.pre
      rw [z] at this
      have h0 : ps.length = 0 := by rw [← this]; simp
      omega
    obtain ⟨n0, N', eN⟩ := List.exists_cons_of_ne_nil hNne
    subst eN
    obtain ⟨a2, l, ea, _, eg, hl0⟩ := hB
    cases ea
    subst eg
    have hHa : H a = some (.lst (l.map V.int)) := sg a _ one_same
    have s0 := start_own (M := M) (N' := N') (n0 := n0) (sc := defScope st) (k := k) (Nf := fun b => Nf b ∨ b = a) (O := oBag (· = a)) (a := a) (o := .lst (l.map V.int)) (fun b z => .inl (hNf b z)) sm sg dd r ⟨a, l, rfl, rfl, rfl, hl0⟩
    have hU : ∀ b, dU (setG (fun _ => emp) 0 (one a (.lst (l.map V.int)))) b → b = a := fun b ⟨i, q⟩ => by
      by_cases hi : i = 0
      · subst hi
        rw [setG_same] at q
        by_cases z : b = a
        · exact z
        · exact absurd (one_ne z) q
      · rw [setG_ne hi] at q; exact absurd rfl q
    refine h (fun b => Nf b ∨ b = a) a t (.inr rfl) (cxOf (L2.CX M.P M.w) M.P M.w M.K M.mg M.base (n0 :: N') x (defScope st) f cdv A' outer s H E) (fun cls d _ H => E cls d H) ⟨⟨rfl, rfl, rfl, rfl, rfl, rfl, rfl, S.nd, rfl, fun _ => hr, hr.units, fun _ _ _ h => (nomatch h), fun _ _ => rfl⟩, passes_of rfl, rfl, rfl⟩ (takes_of rfl rfl rfl rfl) F' H _ _ s0 _ ((m t).mono (fun y hy => ?_) (fun e he => he.elim) w)
    intro F2 H2 g2 σ2 v f2 s2 r2
    obtain ⟨v2, eσ, a3, l3, ev3, ea3, eg3, hl3⟩ := s2.get_own (hΓf a)
    have ea3' : a3 = a := ea3
    rw [ea3'] at eg3
    have d2 : Dis F2 (g2 0) := s2.dF 0
    have hF2 : F2 a = none := by
      rcases d2 a with q | q
      · exact q
      · rw [eg3, one_same] at q; cases q
    refine hy F2 H2 (g2 0) v ⟨f2.sF, fun b z => (f2.fF b z).imp_right fun q => q.imp_right (hU b), fun b o q n => f2.keep b o q fun z => n (hU b z), f2.dom, fun b z => .inl z⟩ s2.sF (s2.sG 0) d2 ⟨a, l3, rfl, trivial, eg3, hl3⟩ (hρ.mo _ _ _ _ _ (fun b hb q => ?_) r2)
    rcases q with q | q
    · exact q
    · rw [q] at hb; exact absurd hF2 hb
section
variable {C : Cc} {Γ Γ' : List Slot} {α β γ δ ε ω : Type} {J : ω → Out} {e e1 e2 e3 : Expr} {pos p p2 : Pos} {rest : List Stmt} {x : Str} {j : Nat}
/-- a new bag -/
theorem EvO.bag {m : W (List Int)} (h : EvO C Γ e (oL C.fr rI) m) : EvO C Γ e (fun _ : Unit => oBag C.fr) (do let l ← m; W.req (BagL l) (pure ())) :=
  fun X Wx ok tk F H g σ s Q hm => h X Wx ok tk F H g σ s Q (m.mono (fun l hl F' H' g' G v f s1 sG d dG nG r => by
    obtain ⟨hb, hl⟩ := hl
    exact hl F' H' g' G v f s1 sG d dG nG (oBag_of hb r)) (fun _ z => z) hm)
end
end Y

/-! Y19: what may be None, dicts of ints, sorted -/
namespace Y
open PySem PySem.Spec L2
section
variable {α β : Type}
theorem All2.ofMem {γ : Type} {R : α → β → Prop} (f : γ → α) (k : γ → β) : ∀ (zs : List γ), (∀ z ∈ zs, R (f z) (k z)) → All2 R (zs.map f) (zs.map k)
  | [], _ => .nil
  | z :: zs, h => .cons (h z (by simp)) (All2.ofMem f k zs fun y hy => h y (by simp [hy]))
end
/-! ### sorted(lists of ints) -/
abbrev leR (p q : List Int) : Bool := decide (p ≤ q)
def rSortedR (K : PySem.W.Frag) : List V → Hp → VK → Prop := fun vs H Q => ∃ (a : Addr) (xs : List V) (ns : List (List Int)), vs = [V.ref a] ∧ SqL K H a xs ∧ All2 (fun u n => ∃ b, u = V.ref b ∧ SqL K H b (n.map V.int)) xs ns ∧
  ∀ (zs : List (V × List Int)) (p : Addr), (∀ z ∈ zs, z ∈ xs.zip ns) → zs.map Prod.snd = ns.mergeSort leR → H p = none → Q (.ref p) (upd H p (.lst (zs.map Prod.fst)))
section
variable {C : Cc} {Γ Γ' : List Slot} {α β γ δ ε ω : Type} {J : ω → Out} {e e1 e2 e3 : Expr} {pos p p2 spos : Pos} {rest : List Stmt} {x : Str}
/-- sorted(ints) -/
def Srt (xs ys : List Int) : Prop := ys.Perm xs ∧ ys.Pairwise (· ≤ ·)
/-! ### what may be None, taken as it is -/
def optG (o : Option α) : W α := match o with
  | some x => pure x
  | none => W.bad
/-! ### dicts whose keys are ints -/
def kvI (vs : List (Int × V)) : List (Key × V) := vs.map fun q => (.inl q.1, q.2)
def oDI (N : Addr → Prop) (r : α → Rp) (kvs : List (Int × α)) : Op :=
  ⟨fun F G v => ∃ (a : Addr) (vs : List (Int × V)), v = .ref a ∧ N a ∧ G = one a (.dK (kvI vs)) ∧ All2 (fun (q : Int × V) (p : Int × α) => q.1 = p.1 ∧ (r p.2).p F q.2) vs kvs, fun h ⟨a, vs, e, n, q, t⟩ => ⟨a, vs, e, n, q, t.imp fun _ _ z => ⟨z.1, (r _).mono h z.2⟩⟩⟩
def rDI (N : Addr → Prop) (r : α → Rp) (kvs : List (Int × α)) : Rp :=
  ⟨fun F v => ∃ (a : Addr) (vs : List (Int × V)), v = .ref a ∧ N a ∧ F a = some (.dK (kvI vs)) ∧ All2 (fun (q : Int × V) (p : Int × α) => q.1 = p.1 ∧ (r p.2).p F q.2) vs kvs, fun h ⟨a, vs, e, n, q, t⟩ => ⟨a, vs, e, n, h _ _ q, t.imp fun _ _ z => ⟨z.1, (r _).mono h z.2⟩⟩⟩
def putI (kvs : List (Int × α)) (k : Int) (x : α) : List (Int × α) := if (kvs.any fun p => decide (p.1 = k)) = true then kvs.map (fun p => if p.1 = k then (k, x) else p) else kvs ++ [(k, x)]
def getI (kvs : List (Int × α)) (k : Int) : Option α := (kvs.find? fun p => decide (p.1 = k)).map (·.2)
theorem All2.put {F : Hp} {r : α → Rp} {vs : List (Int × V)} {kvs : List (Int × α)} (t : All2 (fun (q : Int × V) (p : Int × α) => q.1 = p.1 ∧ (r p.2).p F q.2) vs kvs) {k : Int} {y : α} {u : V} (h : (r y).p F u) : All2 (fun (q : Int × V) (p : Int × α) => q.1 = p.1 ∧ (r p.2).p F q.2) (putI vs k u) (putI kvs k y) := by
  have e : (vs.any fun p => decide (p.1 = k)) = kvs.any fun p => decide (p.1 = k) := by
    induction t with
    | nil => rfl
    | cons q t ih => rw [List.any_cons, List.any_cons, ih, q.1]
  unfold putI
  rw [e]
  split
  · clear e
    rename_i e
    clear e
    induction t with
    | nil => exact .nil
    | @cons a b as bs q t ih =>
      rw [List.map_cons, List.map_cons]
      refine .cons ?_ ih
      by_cases z : b.1 = k
      · rw [if_pos (q.1.trans z), if_pos z]; exact ⟨rfl, h⟩
      · rw [if_neg (fun y => z (q.1.symm.trans y)), if_neg z]; exact q
  · exact t.append (.cons ⟨rfl, h⟩ .nil)
end
end Y
namespace Y
open PySem PySem.Spec L2
section
variable {C : Cc} {Γ Γ' : List Slot} {α β ω : Type} {J : ω → Out}
end
end Y

/-! Y20: isinstance of what may be None -/
namespace Y
open PySem PySem.Spec L2
section
variable {C : Cc} {Γ : List Slot} {α β γ : Type} {e e1 e2 : Expr} {pos p p2 : Pos}
end
end Y

/-! Y21: things of the asker's own with parts; told things are spoiled -/
namespace Y
open PySem PySem.Spec L2
section
variable {C : Cc} {Γ Γ' : List Slot} {α β γ δ ε ω : Type} {J : ω → Out} {e e1 e2 e3 e4 : Expr} {pos p : Pos} {rest : List Stmt}
/-- a thing all of whose parts are private -/
def oV (ρ : (Addr → Prop) → α → Rp) (N : Addr → Prop) (x : α) : Op := ⟨fun F G v => (∀ b, G b ≠ none → N b) ∧ (ρ N x).p G v, fun _ h => h⟩
theorem Frs.O {ρ : (Addr → Prop) → α → Rp} (h : Frs ρ) : Frs (fun N => rO (ρ N)) := ⟨fun N b F v x => by
  cases b with
  | none => exact x
  | some b => exact h.re N b F v x, fun N N' b F v hn x => by
  cases b with
  | none => exact x
  | some b => exact h.mo N N' b F v hn x⟩
/-- what is new, by itself -/
theorem newG {F H F0 F' H' : Hp} {g : Nat → Hp} {σ : St} {ρ : (Addr → Prop) → α → Rp} {N : Addr → Prop} {a : α} {v : V} (hρ : Frs ρ) (s : StOk C F H Γ σ g) (zF : Same F F0) (zG : ∀ i, Same (g i) F0) (h0 : Same F0 H)
    (hN : ∀ b, N b → H b = none) (s4 : StOk C F H' Γ σ g) (f4 : Fr F H (dU g) F H' (dU g)) (sF' : Same F' H') (r : (ρ N a).p F' v) :
    ∃ G, Fr F H (dU g) F H' (fun b => dU g b ∨ G b ≠ none) ∧ Same G H' ∧ Dis F G ∧ (∀ i, Dis (g i) G) ∧ (∀ b, G b ≠ none → C.fr b) ∧ (oV ρ C.fr a).p F G v := by
  have hr := hρ.re _ _ _ _ r
  have hG : ∀ b, restr F' N b ≠ none → N b := fun b z => by
    unfold restr at z
    split at z
    · assumption
    · exact absurd rfl z
  have hd : ∀ (A : Hp), Same A H → Dis A (restr F' N) := fun A z b => by
    cases q : restr F' N b with
    | none => exact .inr rfl
    | some u =>
      refine .inl ?_
      cases q2 : A b with
      | none => rfl
      | some w =>
        have h1 := hN b (hG b (by rw [q]; simp))
        rw [z b w q2] at h1; cases h1
  exact ⟨restr F' N, ⟨f4.sF, f4.fF, f4.keep, f4.dom, fun b q => by
      rcases q with q | q
      · exact .inl q
      · exact .inr (hN b (hG b q))⟩, fun b o q => sF' b o (restr_same b o q), hd F s.sF, fun i => hd (g i) (s.sG i), fun b q => s.fr b (hN b (hG b q)), fun b q => s.fr b (hN b (hG b q)), hρ.mo _ _ _ _ _ (fun b z => s.fr b (hN b z)) hr⟩
variable {x : Str} {j : Nat} {ρ : (Addr → Prop) → ε → Rp}
/-- the context by which new is new from here on -/
abbrev Cc.wfr (C : Cc) (N : Addr → Prop) : Cc := { C with fr := N }
theorem Cc.Ok.wfr {X : Cx} (ok : C.Ok X) (N : Addr → Prop) : (C.wfr N).Ok X := ⟨ok.prog, ok.w, ok.K, ok.mg, ok.base, ok.N, ok.sc, ok.nd, ok.calm, ok.room, ok.units, ok.exc, ok.fnc⟩
theorem Bo.wfr {N : Addr → Prop} {S S' : Slot} (h : Bo C S S') : Bo (C.wfr N) S S' := by
  cases h with
  | rf => exact .rf
  | li => exact .li
  | no => exact .no
  | ge h => exact .ge h
  | sb h => exact .sb h
theorem EvO.new {ρ : (Addr → Prop) → α → Rp} {m : W α} (hb : All2 (Bo C) Γ Γ') (hv : noOwn Γ' = true) (hρ : Frs ρ) (h : ∀ N, Ev (C.wfr N) Γ' e (ρ N) m) : EvO C Γ e (oV ρ C.fr) m :=
  fun X Wx ok tk F H g σ s Q hm => by
    have hv' : ∀ (i : Nat) (O : Op), Γ'[i]? ≠ some (Slot.own O) := fun i O q => noOwn.ok hv _ (List.mem_of_getElem? q) O rfl
    obtain ⟨sz, zF, zG, _⟩ := s.frzA hb hv'
    refine h (fun a => H a = none) X Wx (ok.wfr _) tk _ H _ σ ⟨sz.len, sz.slot, sz.sF, sz.sG, sz.dF, sz.dG, fun _ z => z⟩ Q (m.mono (fun a ha F' H' g' v f s' r => ?_) (fun x hx => ?_) hm)
    · have sC : StOk C F' H' Γ' σ g' := ⟨s'.len, s'.slot, s'.sF, s'.sG, s'.dF, s'.dG, fun b z => s.fr b (s'.fr b z)⟩
      obtain ⟨s4, f4⟩ := s.unfrz hb hv' f sC
      obtain ⟨G, g1, g2, g3, g4, g5, g6⟩ := newG hρ s zF zG sz.sF (N := fun a => H a = none) (fun b z => z) s4 f4 s'.sF r
      exact ha F H' g G v g1 s4 g2 g3 g4 g5 g6
    · intro F' H' g' cls d f s' hx'
      exact (hx.frz s hb hv') F' H' g' cls d f ⟨s'.len, s'.slot, s'.sF, s'.sG, s'.dF, s'.dG, fun b z => s.fr b (s'.fr b z)⟩ hx'
theorem oV_rp {ρ : (Addr → Prop) → α → Rp} {N : Addr → Prop} {x : α} {F G : Hp} {v : V} (d : Dis F G) (h : (oV ρ N x).p F G v) : (ρ N x).p (uni F G) v := (ρ N x).mono (uni_r d) h.2
/-- own lists are read, what comes is new -/
theorem Ev.new {ρ : (Addr → Prop) → α → Rp} {m : W α} (hb : All2 (Bo C) Γ Γ') (hv : noOwn Γ' = true) (hρ : Frs ρ) (h : ∀ N, Ev (C.wfr N) Γ' e (ρ N) m) : Ev C Γ e (ρ C.fr) m :=
  (EvO.new hb hv hρ h).ev fun _ _ _ _ d _ h => oV_rp d h
/-- a list alone -/
theorem EvO.flat {r : α → Rp} [I : Fre r] {m : W (List α)} (h : EvO C Γ e (oV (fun N => rN N r) C.fr) m) : EvO C Γ e (oL C.fr r) m :=
  fun X Wx ok tk F H g σ s Q hm => h X Wx ok tk F H g σ s Q (m.mono (fun a ha F' H' g' G v f s' sG dF dG nG r => by
    obtain ⟨_, q, vs, ev, nq, hq, t⟩ := r
    have on : ∀ b, one q (HO.lst vs) b ≠ none → b = q := fun b h => by
      by_cases z : b = q
      · exact z
      · exact absurd (one_ne z) h
    have hle : Same (one q (.lst vs)) G := fun b o z => by
      have e := on b (by rw [z]; simp)
      subst e
      rw [one_same] at z
      rw [hq]; exact z
    have hd : ∀ A : Hp, Dis A G → Dis A (one q (.lst vs)) := fun A z b => by
      rcases z b with z | z
      · exact .inl z
      · refine .inr ?_
        cases z2 : one q (.lst vs) b with
        | none => rfl
        | some o => rw [hle b o z2] at z; cases z
    exact ha F' H' g' (one q (.lst vs)) v (f.less fun b z => z.imp_right fun z z2 => by
      have e := on b z
      subst e
      rw [hq] at z2; cases z2) s' (hle.trans sG) (hd _ dF) (fun i => hd _ (dG i)) (fun b z => by rw [on b z]; exact nq) ⟨q, vs, ev, nq, rfl, t.imp fun u y z => I.fre _ _ _ z _⟩) (fun e he => he) hm)
/-! ### told things are spoiled -/
/-- one place of a private heap is written -/
theorem StOk.updG {F H : Hp} {σ : St} {g : Nat → Hp} (s : StOk C F H Γ σ g) {i : Nat} {a : Addr} {o o' : HO} {O' : Op} {v : V} (hga : g i a = some o) (hσ : σ[i]? = some (some v)) (hi : i < Γ.length) (r : O'.p F (upd (g i) a o') v) :
    StOk C F (upd H a o') (Γ.set i (.own O')) σ (setG g i (upd (g i) a o')) ∧ Fr F H (dU g) F (upd H a o') (dU (setG g i (upd (g i) a o'))) := by
  have hHa : H a = some o := s.sG i a o hga
  have hFa : F a = none := by
    rcases s.dF i a with q | q
    · exact q
    · rw [hga] at q; cases q
  have hgj : ∀ j, j ≠ i → g j a = none := fun j hj => by
    rcases s.dG j i hj a with q | q
    · exact q
    · rw [hga] at q; cases q
  refine ⟨⟨by rw [List.length_set]; exact s.len, fun j S q => ?_, fun b u q => ?_, fun j => ?_, fun j => ?_, fun j k hjk => ?_, fun b q => ?_⟩, ⟨Same.refl _, fun b q => .inl q, fun b u q n => ?_, fun b q => ?_, fun b q => ?_⟩⟩
  · by_cases hj : i = j
    · subst hj
      rw [List.getElem?_set_self hi] at q
      cases q
      rw [setG_same]
      exact ⟨v, hσ, r⟩
    · rw [List.getElem?_set_ne hj] at q
      rw [setG_ne (fun z => hj z.symm)]
      exact s.slot j S q
  · rw [upd_ne (fun z => by rw [z, hFa] at q; cases q)]; exact s.sF b u q
  · by_cases hj : j = i
    · subst hj
      rw [setG_same]
      intro b u q
      by_cases z : b = a
      · subst z; rw [upd_same] at q; rw [upd_same]; exact q
      · rw [upd_ne z] at q; rw [upd_ne z]; exact s.sG j b u q
    · rw [setG_ne hj]
      intro b u q
      rw [upd_ne (fun z => by rw [z, hgj j hj] at q; cases q)]
      exact s.sG j b u q
  · by_cases hj : j = i
    · subst hj
      rw [setG_same]
      intro b
      by_cases z : b = a
      · subst z; exact .inl hFa
      · rw [upd_ne z]; exact s.dF j b
    · rw [setG_ne hj]; exact s.dF j
  · by_cases hj : j = i
    · subst hj
      rw [setG_same, setG_ne (fun z => hjk z.symm)]
      intro b
      by_cases z : b = a
      · subst z; exact .inr (hgj k (fun z => hjk z.symm))
      · rw [upd_ne z]; exact s.dG j k hjk b
    · rw [setG_ne hj]
      by_cases hk : k = i
      · subst hk
        rw [setG_same]
        intro b
        by_cases z : b = a
        · subst z; exact .inl (hgj j hj)
        · rw [upd_ne z]; exact s.dG j k hjk b
      · rw [setG_ne hk]; exact s.dG j k hjk
  · by_cases z : b = a
    · rw [z, upd_same] at q; cases q
    · rw [upd_ne z] at q; exact s.fr b q
  · by_cases z : b = a
    · subst z; exact absurd ⟨i, by rw [hga]; simp⟩ n
    · rw [upd_ne z]; exact q
  · by_cases z : b = a
    · rw [z, upd_same]; simp
    · rw [upd_ne z]; exact q
  · obtain ⟨j, q⟩ := q
    by_cases hj : j = i
    · subst hj
      rw [setG_same] at q
      by_cases z : b = a
      · subst z; exact .inl ⟨j, by rw [hga]; simp⟩
      · rw [upd_ne z] at q; exact .inl ⟨j, q⟩
    · rw [setG_ne hj] at q; exact .inl ⟨j, q⟩
theorem StOk.reown {F H : Hp} {σ : St} {g : Nat → Hp} (s : StOk C F H Γ σ g) {i : Nat} {O O' : Op} (hΓ : Γ[i]? = some (.own O)) (h : ∀ F G v, O.p F G v → O'.p F G v) : StOk C F H (Γ.set i (.own O')) σ g where
  len := by rw [List.length_set]; exact s.len
  slot := fun j S q => by
    by_cases hj : i = j
    · subst hj
      rw [List.getElem?_set_self (List.getElem?_eq_some_iff.mp hΓ).1] at q
      cases q
      obtain ⟨v, e, r⟩ := s.get_own hΓ
      exact ⟨v, e, h _ _ _ r⟩
    · rw [List.getElem?_set_ne hj] at q
      exact s.slot j S q
  sF := s.sF
  sG := s.sG
  dF := s.dF
  dG := s.dG
  fr := s.fr
/-- a list of which no more is said -/
def oJ (N : Addr → Prop) : Op := ⟨fun F G v => ∃ a vs, v = .ref a ∧ G a = some (.lst vs) ∧ vs.length ≤ 2000000, fun _ h => h⟩
/-- a list beside a -/
def Lst (G : Hp) (a : Addr) (L : Nat) (b : Addr) : Prop := b ≠ a ∧ ∃ ws, G b = some (.lst ws) ∧ ws.length ≤ L
theorem Lst.upd {G : Hp} {a b c : Addr} {L : Nat} {ws : List V} (h : Lst G a L c) (hb : ws.length ≤ L + 1) : Lst (upd G b (.lst ws)) a (L + 1) c := by
  obtain ⟨h1, vs, h2, h3⟩ := h
  by_cases e : c = b
  · subst e; exact ⟨h1, ws, upd_same, hb⟩
  · exact ⟨h1, vs, by rw [upd_ne e]; exact h2, by omega⟩
/-- how an item holds its list: item by item, by pairs' second -/
def Itm1 (G : Hp) (a : Addr) (L : Nat) (u : V) : Prop := ∃ b, u = .ref b ∧ Lst G a L b
def Itm2 (G : Hp) (a : Addr) (L : Nat) (u : V) : Prop := ∃ T v1 b, u = .ref T ∧ T ≠ a ∧ G T = some (.tup [v1, .ref b]) ∧ Lst G a L b
def oJL (It : Hp → Addr → Nat → V → Prop) (a : Addr) (vs : List V) (L : Nat) : Op := ⟨fun F G v => v = .ref a ∧ G a = some (.lst vs) ∧ ∀ u ∈ vs, It G a L u, fun _ h => h⟩
theorem Itm1.upd {G : Hp} {a b : Addr} {L : Nat} {ws : List V} {u : V} (h : Itm1 G a L u) (hb : ws.length ≤ L + 1) : Itm1 (upd G b (.lst ws)) a (L + 1) u := by
  obtain ⟨c, e, h⟩ := h
  exact ⟨c, e, h.upd hb⟩
theorem Itm2.upd {G : Hp} {a b : Addr} {L : Nat} {ws ws0 : List V} {u : V} (h : Itm2 G a L u) (h0 : G b = some (.lst ws0)) (hb : ws.length ≤ L + 1) : Itm2 (upd G b (.lst ws)) a (L + 1) u := by
  obtain ⟨T, v1, c, e, n, eT, h⟩ := h
  exact ⟨T, v1, c, e, n, by rw [upd_ne (fun z => by rw [z, h0] at eT; cases eT)]; exact eT, h.upd hb⟩
/-- values that hold nothing -/
class Flat (r : α → Rp) : Prop where
  no : ∀ z F q, ¬ (r z).p F (.ref q)
instance : Flat rI := ⟨fun z F q h => by have e : V.ref q = .int z := h; cases e⟩
instance : Flat rS := ⟨fun z F q h => by have e : V.ref q = .str z := h; cases e⟩
instance : Flat rB := ⟨fun z F q h => by have e : V.ref q = .bl z := h; cases e⟩
theorem All2.memL {R : α → β → Prop} {as : List α} {bs : List β} (h : All2 R as bs) {a : α} (ha : a ∈ as) : ∃ b ∈ bs, R a b := by
  induction h with
  | nil => cases ha
  | cons r _ ih =>
    rcases List.mem_cons.mp ha with q | q
    · subst q; exact ⟨_, List.mem_cons_self, r⟩
    · obtain ⟨b, hb, hr⟩ := ih q
      exact ⟨b, List.mem_cons_of_mem _ hb, hr⟩
theorem StOk.drop {F H : Hp} {σ : St} {g : Nat → Hp} {i : Nat} {S : Slot} (s : StOk C F H (Γ.set i S) σ g) : StOk C F H (Γ.set i .no) σ g :=
  s.weak ⟨by simp, fun k S' h => by
    by_cases hk : i = k
    · subst hk
      by_cases hl : i < Γ.length
      · rw [List.getElem?_set_self hl] at h; exact .inl (Option.some.inj h).symm
      · rw [List.getElem?_eq_none (by rw [List.length_set]; omega)] at h; cases h
    · rw [List.getElem?_set_ne hk] at h
      exact .inr (.inl (by rw [List.getElem?_set_ne hk]; exact h))⟩
def oT : Op := ⟨fun _ _ _ => True, fun _ _ => trivial⟩
/-- a list -/
class IsLst (O : Op) : Prop where
  l : ∀ F G v, O.p F G v → ∃ a vs, v = .ref a ∧ G a = some (.lst vs)
instance {N : Addr → Prop} : IsLst (oJ N) := ⟨fun _ _ _ ⟨a, vs, e, h, _⟩ => ⟨a, vs, e, h⟩⟩
instance {N : Addr → Prop} {r : α → Rp} {xs : List α} : IsLst (oL N r xs) := ⟨fun _ _ _ ⟨a, vs, e, _, h, _⟩ => ⟨a, vs, e, by rw [h]; exact one_same⟩⟩
instance {N : Addr → Prop} {r : (Addr → Prop) → α → Rp} {xs : List α} : IsLst (oV (fun N => rN N (r N)) N xs) := ⟨fun _ _ _ ⟨_, a, vs, e, _, h, _⟩ => ⟨a, vs, e, h⟩⟩
/-- x.clear(), x being looked at no more -/
theorem Ex.spoilClear {i : Nat} {x : Str} {px apos cpos : Pos} {O : Op} [I : IsLst O] {m : W ω} (hN : C.N[i]? = some x) (hv : visB C.sc x = true) (hd : (x == ("__debug__" : Str) || x == ("__classdict__" : Str)) = false) (hΓ : Γ[i]? = some (.own O)) (hr : Ex C (Γ.set i .no) rest J m)
    (hline : (apos.endLine == cpos.line) = true := by rfl) (hb : ∀ X : Cx, attributeBase (.Name x px) "clear" X.env (eval (.Name x px) X.env) = eval (.Name x px) X.env := by intro _; rfl)
    (hs : ∀ X : Cx, swapsWith (.Call (.Attribute (.Name x px) "clear" apos) [] [] cpos) none pos.line X.env = pure false := by intro _; rfl) :
    Ex C Γ (.Expr (.Call (.Attribute (.Name x px) "clear" apos) [] [] cpos) pos :: rest) J m :=
  Ex.cons fun X Wx ok tk F H g σ s D hm => by
    rw [Bool.or_eq_false_iff] at hd
    refine W1.of (ps_expr (pe_bm0 PySem.F.plainAttrs_list PySem.F.slot_list_clear PySem.F.type_list_clear mt_clear (pe_var (i := i) (by rw [ok.N]; exact hN) (by rw [ok.sc]; exact visOf hv) hd.1 hd.2) (hb X) hline) (hs X)) ?_
    obtain ⟨v, eσ, r⟩ := s.get_own hΓ
    obtain ⟨a, vs, ev, hG⟩ := I.l _ _ _ r
    subst ev
    have hH := s.sG i a _ hG
    obtain ⟨s3, f3⟩ := s.updG (O' := oT) (o' := .lst []) hG eσ (List.getElem?_eq_some_iff.mp hΓ).1 trivial
    exact ⟨.ref a, eσ, .inl ⟨rfl, _, SqL.of hH⟩, a, vs, rfl, rfl, hH, hr.later ok tk f3 s3.drop hm⟩
end
end Y

/-! Y22: a statement that reads own things -/
namespace Y
open PySem PySem.Spec L2
section
variable {C : Cc} {Γ Γ' : List Slot} {α β γ δ ε ω : Type} {J : ω → Out}
/-- a value that is just u -/
def pin (ρ : α → Rp) (u : V) : α → Rp := fun a => ⟨fun F v => (ρ a).p F v ∧ v = u, fun h ⟨x, e⟩ => ⟨(ρ a).mono h x, e⟩⟩
theorem subPin {ρ : α → Rp} {u : V} : SubK (pin ρ u) ρ := fun _ _ _ h => h.1
def rTop (_ : Unit) : Rp := ⟨fun _ _ => True, fun _ _ => trivial⟩
/-- slots as they are pinned -/
inductive PinB (C : Cc) (pv : Nat → V) : Nat → List Slot → List Slot → Prop
  | nil {n} : PinB C pv n [] []
  | no {n S Γ Γ'} : PinB C pv (n + 1) Γ Γ' → PinB C pv n (S :: Γ) (.no :: Γ')
  | val {n Γ Γ'} {α : Type} {ρ : α → Rp} {a : α} : PinB C pv (n + 1) Γ Γ' → PinB C pv n (.val (ρ a) :: Γ) (.val (pin ρ (pv n) a) :: Γ')
  | own {n Γ Γ'} {α : Type} {O : Op} {ρ : α → Rp} {a : α} (h : Bo C (.own O) (.val (ρ a))) : PinB C pv (n + 1) Γ Γ' → PinB C pv n (.own O :: Γ) (.val (pin ρ (pv n) a) :: Γ')
  | top {n Γ Γ'} {O : Op} : PinB C pv (n + 1) Γ Γ' → PinB C pv n (.own O :: Γ) (.val (pin rTop (pv n) ()) :: Γ')
/-- slots of before, of behind (pinned), what is told behind -/
inductive PinA (pv : Nat → V) : Nat → List Slot → List Slot → List Slot → Prop
  | nil {n} : PinA pv n [] [] []
  | no {n S S' Γ Γ2 Γ3} : PinA pv (n + 1) Γ Γ2 Γ3 → PinA pv n (S :: Γ) (S' :: Γ2) (.no :: Γ3)
  | keep {n S Γ Γ2 Γ3} {α : Type} {ρ : α → Rp} {a : α} : PinA pv (n + 1) Γ Γ2 Γ3 → PinA pv n (S :: Γ) (.val (pin ρ (pv n) a) :: Γ2) (S :: Γ3)
  | fre {n S Γ Γ2 Γ3} {α : Type} {ρ : α → Rp} [I : Fre ρ] {a : α} : PinA pv (n + 1) Γ Γ2 Γ3 → PinA pv n (S :: Γ) (.val (ρ a) :: Γ2) (.val (ρ a) :: Γ3)
theorem PinB.get {pv : Nat → V} {n : Nat} {Γ Γ' : List Slot} (h : PinB C pv n Γ Γ') : ∀ {i : Nat} {S' : Slot}, Γ'[i]? = some S' → ∃ S, Γ[i]? = some S ∧
    (S' = .no ∨ (∃ (α : Type) (ρ : α → Rp) (a : α), S' = .val (pin ρ (pv (n + i)) a) ∧ (S = .val (ρ a) ∨ (∃ O, S = .own O ∧ (Bo C (.own O) (.val (ρ a)) ∨ ∀ F v, (ρ a).p F v))))) := by
  induction h with
  | nil => intro i S' e; simp at e
  | no _ ih =>
    intro i S' e
    cases i with
    | zero => simp at e; exact ⟨_, rfl, .inl e.symm⟩
    | succ i =>
      obtain ⟨S, h1, h2⟩ := ih (i := i) (by simpa using e)
      exact ⟨S, by simpa using h1, by rw [Nat.add_right_comm] at h2; exact h2⟩
  | val _ ih =>
    intro i S' e
    cases i with
    | zero => simp at e; exact ⟨_, rfl, .inr ⟨_, _, _, e.symm, .inl rfl⟩⟩
    | succ i =>
      obtain ⟨S, h1, h2⟩ := ih (i := i) (by simpa using e)
      exact ⟨S, by simpa using h1, by rw [Nat.add_right_comm] at h2; exact h2⟩
  | own hb _ ih =>
    intro i S' e
    cases i with
    | zero => simp at e; exact ⟨_, rfl, .inr ⟨_, _, _, e.symm, .inr ⟨_, rfl, .inl hb⟩⟩⟩
    | succ i =>
      obtain ⟨S, h1, h2⟩ := ih (i := i) (by simpa using e)
      exact ⟨S, by simpa using h1, by rw [Nat.add_right_comm] at h2; exact h2⟩
  | top _ ih =>
    intro i S' e
    cases i with
    | zero => simp at e; exact ⟨_, rfl, .inr ⟨_, _, _, e.symm, .inr ⟨_, rfl, .inr fun _ _ => trivial⟩⟩⟩
    | succ i =>
      obtain ⟨S, h1, h2⟩ := ih (i := i) (by simpa using e)
      exact ⟨S, by simpa using h1, by rw [Nat.add_right_comm] at h2; exact h2⟩
theorem PinB.len {pv : Nat → V} {n : Nat} {Γ Γ' : List Slot} (h : PinB C pv n Γ Γ') : Γ'.length = Γ.length := by
  induction h <;> simp_all
theorem PinA.len {pv : Nat → V} {n : Nat} {Γ Γ2 Γ3 : List Slot} (h : PinA pv n Γ Γ2 Γ3) : Γ3.length = Γ2.length ∧ Γ.length = Γ2.length := by
  induction h <;> simp_all
theorem PinA.get {pv : Nat → V} {n : Nat} {Γ Γ2 Γ3 : List Slot} (h : PinA pv n Γ Γ2 Γ3) : ∀ {i : Nat} {S3 : Slot}, Γ3[i]? = some S3 → S3 = .no ∨ (∃ (α : Type) (ρ : α → Rp) (a : α), Γ[i]? = some S3 ∧ Γ2[i]? = some (.val (pin ρ (pv (n + i)) a))) ∨
    (∃ (α : Type) (ρ : α → Rp) (a : α), Fre ρ ∧ S3 = .val (ρ a) ∧ Γ2[i]? = some (.val (ρ a))) := by
  induction h with
  | nil => intro i S' e; simp at e
  | no _ ih =>
    intro i S' e
    cases i with
    | zero => simp at e; exact .inl e.symm
    | succ i =>
      rcases ih (i := i) (by simpa using e) with q | ⟨α, ρ, a, h1, h2⟩ | ⟨α, ρ, a, h1, h2, h3⟩
      · exact .inl q
      · exact .inr (.inl ⟨α, ρ, a, by simpa using h1, by rw [Nat.add_right_comm] at h2; exact h2⟩)
      · exact .inr (.inr ⟨α, ρ, a, h1, h2, by simpa using h3⟩)
  | keep _ ih =>
    intro i S' e
    cases i with
    | zero => simp at e; subst e; exact .inr (.inl ⟨_, _, _, rfl, rfl⟩)
    | succ i =>
      rcases ih (i := i) (by simpa using e) with q | ⟨α, ρ, a, h1, h2⟩ | ⟨α, ρ, a, h1, h2, h3⟩
      · exact .inl q
      · exact .inr (.inl ⟨α, ρ, a, by simpa using h1, by rw [Nat.add_right_comm] at h2; exact h2⟩)
      · exact .inr (.inr ⟨α, ρ, a, h1, h2, by simpa using h3⟩)
  | @fre _ _ _ _ _ α ρ I a _ ih =>
    intro i S' e
    cases i with
    | zero => simp at e; exact .inr (.inr ⟨α, ρ, a, I, e.symm, rfl⟩)
    | succ i =>
      rcases ih (i := i) (by simpa using e) with q | ⟨α, ρ, a, h1, h2⟩ | ⟨α, ρ, a, h1, h2, h3⟩
      · exact .inl q
      · exact .inr (.inl ⟨α, ρ, a, by simpa using h1, by rw [Nat.add_right_comm] at h2; exact h2⟩)
      · exact .inr (.inr ⟨α, ρ, a, h1, h2, by simpa using h3⟩)
theorem StOk.frzP {F H : Hp} {σ : St} {g : Nat → Hp} {pv : Nat → V} (s : StOk C F H Γ σ g) (hb : PinB C pv 0 Γ Γ') (hpv : ∀ i u, σ[i]? = some (some u) → pv i = u) : StOk C (Y.frzA F H g) H Γ' σ (fun _ => emp) ∧ Same F (Y.frzA F H g) ∧ (∀ i, Same (g i) (Y.frzA F H g)) := by
  have hbn : All2 (Bo C) Γ (List.replicate Γ.length .no) := by
    induction Γ with
    | nil => exact .nil
    | cons S Γ ih =>
      rw [List.length_cons, List.replicate_succ]
      exact .cons .no (by
        clear ih hb s
        induction Γ with
        | nil => exact .nil
        | cons S Γ ih => rw [List.length_cons, List.replicate_succ]; exact .cons .no ih)
  obtain ⟨s0, sF, sG, _⟩ := s.frzA hbn (fun i O q => by
    rw [List.getElem?_replicate] at q
    split at q
    · cases q
    · cases q)
  refine ⟨⟨hb.len.trans s.len, fun i S' q => ?_, s0.sF, s0.sG, s0.dF, s0.dG, s0.fr⟩, sF, sG⟩
  obtain ⟨S, q0, h⟩ := hb.get q
  have x := s.slot i S q0
  rcases h with e | ⟨α, ρ, a, e, h⟩
  · subst e; trivial
  · subst e
    rw [Nat.zero_add]
    rcases h with e | ⟨O, e, h | h⟩
    · subst e
      obtain ⟨v, e1, r⟩ := x
      exact ⟨v, e1, (ρ a).mono sF r, (hpv i v e1).symm⟩
    · subst e
      obtain ⟨v, e1, r⟩ := x
      refine ⟨v, e1, ?_, (hpv i v e1).symm⟩
      generalize eS : Slot.own O = S1 at h
      generalize eR : Slot.val (ρ a) = S2 at h
      cases h with
      | rf => rw [← eR] at eS; cases eS
      | @li α0 r0 xs0 N0 =>
        cases eS
        obtain ⟨a1, vs, e2, n, e3, t⟩ := r
        have eR' : ρ a = rN N0 r0 xs0 := by injection eR
        rw [eR']
        exact ⟨a1, vs, e2, n, sG i a1 _ (by rw [e3]; exact one_same), t.imp fun _ _ z => (r0 _).mono sF z⟩
      | no => cases eR
      | @ge O1 R1 hg =>
        cases eS
        have eR' : ρ a = R1 := by injection eR
        rw [eR']
        exact hg _ _ _ _ sF (sG i) r
      | sb => cases eS
    · subst e
      obtain ⟨v, e1, r⟩ := x
      exact ⟨v, e1, h _ _, (hpv i v e1).symm⟩
theorem StOk.unfrzP {F H F' H' : Hp} {Γ2 Γ3 : List Slot} {σ σ' : St} {g g' : Nat → Hp} {pv : Nat → V} (s : StOk C F H Γ σ g) (sF : Same F (Y.frzA F H g)) (sG : ∀ i, Same (g i) (Y.frzA F H g)) (hpv : ∀ i u, σ[i]? = some (some u) → pv i = u) (f : Fr (Y.frzA F H g) H (dU fun _ => emp) F' H' (dU g')) (s' : StOk C F' H' Γ2 σ' g') (ha : PinA pv 0 Γ Γ2 Γ3) :
    StOk C F H' Γ3 σ' g ∧ Fr F H (dU g) F H' (dU g) := by
  refine ⟨⟨ha.len.1.trans s'.len, fun i S3 q => ?_, (sF.trans f.sF).trans s'.sF, fun i => ((sG i).trans f.sF).trans s'.sF, s.dF, s.dG, s'.fr⟩, Same.refl _, fun b q => .inl q, fun b o q n => f.keep b o q fun ⟨_, z⟩ => z rfl, f.dom, fun b q => .inl q⟩
  rcases ha.get q with e | ⟨α, ρ, a, h1, h2⟩ | ⟨α, ρ, a, I, e, h2⟩
  · subst e; trivial
  · rw [Nat.zero_add] at h2
    obtain ⟨v, e1, r, e2⟩ := s'.get_val h2
    have x := s.slot i S3 h1
    cases S3 with
    | no => trivial
    | val R =>
      obtain ⟨w, e3, r3⟩ := x
      have := hpv i w e3
      exact ⟨v, e1, by rw [e2, this]; exact r3⟩
    | own O =>
      obtain ⟨w, e3, r3⟩ := x
      have := hpv i w e3
      exact ⟨v, e1, by rw [e2, this]; exact r3⟩
  · subst e
    obtain ⟨v, e1, r⟩ := s'.get_val h2
    exact ⟨v, e1, I.fre _ _ _ r _⟩
/-- what a pinned outcome tells -/
def PinO (Γ : List Slot) (pv : Nat → V) : Out → Out → Prop
  | .nx Γ2, .nx Γ3 => PinA pv 0 Γ Γ2 Γ3
  | .rt R, .rt R' => R = R' ∧ ∀ F F' v, R.p F v → R.p F' v
  | _, _ => False
/-- a statement that reads own things -/
theorem Ex1.brw {st : Stmt} {m : W ω} {Γq : (Nat → V) → List Slot} {Jq : (Nat → V) → ω → Out} (hb : ∀ pv, PinB C pv 0 Γ (Γq pv)) (h : ∀ pv, Ex1 C (Γq pv) st (Jq pv) m) (hJ : ∀ pv o, PinO Γ pv (Jq pv o) (J o)) : Ex1 C Γ st J m :=
  fun X Wx ok tk F H g σ s D hm => by
    obtain ⟨pv, hpv⟩ : ∃ pv : Nat → V, ∀ i u, σ[i]? = some (some u) → pv i = u := ⟨fun i => ((σ[i]?).getD none).getD .non, fun i u e => by simp [e]⟩
    obtain ⟨s1, sF, sG⟩ := s.frzP (hb pv) hpv
    refine h pv X Wx ok tk _ H _ σ s1 D (m.mono (fun o ho => ?_) (fun e he => ?_) hm)
    · have hJ' := hJ pv o
      cases e1 : Jq pv o with
      | nx Γ2 =>
        rw [e1] at hJ'
        cases e2 : J o with
        | nx Γ3 =>
          rw [e2] at hJ' ho
          intro F' H' g' σ' f s'
          obtain ⟨s2, f2⟩ := s.unfrzP sF sG hpv f s' hJ'
          exact ho F H' g σ' f2 s2
        | _ => rw [e2] at hJ'; exact hJ'.elim
      | rt R =>
        rw [e1] at hJ'
        cases e2 : J o with
        | rt R' =>
          rw [e2] at hJ' ho
          obtain ⟨eR, hR⟩ := hJ'
          subst eR
          intro F' H' g' v f s' r
          exact ho F H' g v ⟨Same.refl _, fun b q => .inl q, fun b o q n => f.keep b o q fun ⟨_, z⟩ => z rfl, f.dom, fun b q => .inl q⟩ ((sF.trans f.sF).trans s') (hR _ _ _ r)
        | _ => rw [e2] at hJ'; exact hJ'.elim
      | _ => rw [e1] at hJ'; exact hJ'.elim
    · intro F' H' g' σ' cls d f s' hx
      exact he F H' g σ' cls d ⟨Same.refl _, fun b q => .inl q, fun b o q n => f.keep b o q fun ⟨_, z⟩ => z rfl, f.dom, fun b q => .inl q⟩ ((sF.trans f.sF).trans s') (hx.reg s.sG)
end
end Y

/-! Y23: xs[i] += e -/
namespace Y
open PySem PySem.Spec L2
section
variable {C : Cc} {Γ Γ' : List Slot} {α β γ δ ε ω : Type} {J : ω → Out} {e : Expr} {pos : Pos} {rest : List Stmt} {x : Str}
end
end Y

/-! Y24: min(xs, default=d) -/
namespace Y
open PySem PySem.Spec L2
section
variable {C : Cc} {Γ Γ' : List Slot} {α β γ δ ε ω : Type} {J : ω → Out} {e e2 : Expr} {p pos : Pos} {rest : List Stmt} {x : Str}
def rMinD (K : PySem.W.Frag) : List V → List V → Hp → VK → Prop := fun vs zs H Q => ∃ (a : Addr) (ns : List Int) (d : Int), vs = [V.ref a] ∧ zs = [V.int d] ∧ SqL K H a (ns.map V.int) ∧ ∀ m, (ns = [] ∧ m = d ∨ m ∈ ns ∧ ∀ y, y ∈ ns → m ≤ y) → Q (.int m) H
end
end Y

/-! Y25: zip of three lists -/
namespace Y
open PySem PySem.Spec L2
/-- the lists at a, b, c as they stand at each turn, the items in new tuples -/
def Itz3 (K : PySem.W.Frag) (a b c : Addr) : It :=
  ⟨fun i H => ∃ (xs ys zs : List V) (x y z : V), SqL K H a xs ∧ SqL K H b ys ∧ SqL K H c zs ∧ xs[i]? = some x ∧ ys[i]? = some y ∧ zs[i]? = some z,
    fun i H v H' => ∃ T x y z, v = .ref T ∧ H T = none ∧ H' = upd H T (.tup [x, y, z]) ∧ (∀ xs, SqL K H a xs → xs[i]? = some x) ∧ (∀ ys, SqL K H b ys → ys[i]? = some y) ∧ ∀ zs, SqL K H c zs → zs[i]? = some z,
    fun i H => ∃ xs ys zs : List V, SqL K H a xs ∧ SqL K H b ys ∧ SqL K H c zs ∧ (xs.length ≤ i ∨ ys.length ≤ i ∨ zs.length ≤ i)⟩
theorem drawsX {prog : Program} {w : World} {A : Around} (hh : A.handled = none) (it l : Addr) (hne : l ≠ it) (items : Array Value) (i0 : Nat) :
    Draws prog w A it [it, l] (max i0 items.size) (fun i v => items[i]? = some v) (fun i h => h.IsListIter it l i ∧ h.IsList l items ∧ (items.size < i0 → i = i0)) where
  live := fun _ _ st => let ⟨o, ho, _⟩ := st.1; ⟨o, ho⟩
  frame := fun _ _ _ st hk => ⟨st.1.at fun o e => hk it (by simp) o e, st.2.1.at fun o e => hk l (by simp) o e, st.2.2⟩
  item := fun i s Q E hi st hQ => by
    have hi2 : i < items.size := by
      by_cases h : items.size < i0
      · have := st.2.2 h; omega
      · omega
    refine (Draws.list hh it l hne items).item i s Q E hi2 ⟨st.1, st.2.1⟩ fun x h' tk hx st' sb => hQ x h' tk hx ⟨st'.1, st'.2, fun h => ?_⟩ sb
    have := st.2.2 h
    omega
  done := fun s Q E st hE => by
    by_cases h : items.size < i0
    · have e : max i0 items.size = i0 := by omega
      rw [e] at st
      refine wpAny_nextOf_list_end hh st.1 st.2.1 (by simp; omega) hE
    · have e : max i0 items.size = items.size := by omega
      rw [e] at st
      exact (Draws.list hh it l hne items).done s Q E ⟨st.1, st.2.1⟩ hE
theorem turn_zip3 {P : Program} {w : World} {K : PySem.W.Frag} {elts : List Expr} {kk : Nat} {tpos : Pos} {a b c z TI TO i1 i2 i3 : Addr} (S : ZipSep3 z TI TO i1 i2 i3 [i1, a] [i2, b] [i3, c]) :
    Turn P w K (.Tuple elts kk tpos) (Itz3 K a b c) [z, TI, TO, i1, i2, i3] z (fun i h => IsZip h z TI TO .none ∧ IsTupOf3 h TI (.ref i1) (.ref i2) (.ref i3) ∧ (∃ x y u, IsTupOf3 h TO x y u) ∧ h.IsListIter i1 a i ∧ h.IsListIter i2 b i ∧ h.IsListIter i3 c i) where
  mem := by simp
  obj := fun i h st c hc => by
    obtain ⟨hz, hTI, ⟨x, y, u, hTO⟩, ⟨o1, e1, _, d1⟩, ⟨o2, e2, _, d2⟩, ⟨o3, e3, _, d3⟩⟩ := st
    have e' : c = z ∨ c = TI ∨ c = TO ∨ c = i1 ∨ c = i2 ∨ c = i3 := by simpa using hc
    rcases e' with q | q | q | q | q | q
    · rw [q]; exact ⟨_, hz, fun v q => nomatch q⟩
    · rw [q]; exact ⟨_, hTI, fun v q => nomatch q⟩
    · rw [q]; exact ⟨_, hTO, fun v q => nomatch q⟩
    · rw [q]; exact ⟨o1, e1, fun v q => by rw [d1] at q; cases q⟩
    · rw [q]; exact ⟨o2, e2, fun v q => by rw [d2] at q; cases q⟩
    · rw [q]; exact ⟨o3, e3, fun v q => by rw [d3] at q; cases q⟩
  keep := fun i h h' st k => by
    obtain ⟨hz, hTI, ⟨x, y, u, hTO⟩, h1, h2, h3⟩ := st
    exact ⟨k z (by simp) _ hz, k TI (by simp) _ hTI, ⟨x, y, u, k TO (by simp) _ hTO⟩, h1.at fun o q => k i1 (by simp) o q, h2.at fun o q => k i2 (by simp) o q, h3.at fun o q => k i3 (by simp) o q⟩
  item := by
    intro X hP hw hK hc i pins s σ H E I hf st hg
    subst hP hw hK
    obtain ⟨hz, hTI, ⟨x0, y0, u0, hTO⟩, h1, h2, h3⟩ := st
    obtain ⟨xs, ys, zs, x, y, u, hqx, hqy, hqz, hx, hy, hu⟩ := hg
    obtain ⟨its, rv, p, _⟩ := I.list hqx
    obtain ⟨its2, rv2, p2, _⟩ := I.list hqy
    obtain ⟨its3, rv3, p3, _⟩ := I.list hqz
    obtain ⟨w1, hw1, rw1⟩ := rv.get hx
    obtain ⟨w2, hw2, rw2⟩ := rv2.get hy
    obtain ⟨w3, hw3, rw3⟩ := rv3.get hu
    have hzl : z < s.heap.objs.size := Heap.lt_size hz
    have ne1 : a ≠ i1 := fun q => by
      obtain ⟨o, ho, hc', _⟩ := h1
      obtain ⟨o', ho', hc2, _⟩ := p.isList
      rw [q, ho] at ho'
      cases ho'
      rw [hc'] at hc2; exact absurd hc2 (by decide)
    have ne2 : b ≠ i2 := fun q => by
      obtain ⟨o, ho, hc', _⟩ := h2
      obtain ⟨o', ho', hc2, _⟩ := p2.isList
      rw [q, ho] at ho'
      cases ho'
      rw [hc'] at hc2; exact absurd hc2 (by decide)
    have ne3 : c ≠ i3 := fun q => by
      obtain ⟨o, ho, hc', _⟩ := h3
      obtain ⟨o', ho', hc2, _⟩ := p3.isList
      rw [q, ho] at ho'
      cases ho'
      rw [hc'] at hc2; exact absurd hc2 (by decide)
    have hh : X.A.in1.handled = none := I.ok.hd hc
    have lt : ∀ {l : List Value} {v : Value} {j : Nat}, l[j]? = some v → j < l.toArray.size := fun h => by
      have := (List.getElem?_eq_some_iff.mp h).1
      simpa using this
    refine wpAny_pyNext_zipD3_item S (Draws.list hh i1 a ne1 its.toArray) (Draws.list hh i2 b ne2 its2.toArray) (Draws.list hh i3 c ne3 its3.toArray) hz hTI hTO ⟨h1, p.isList⟩ ⟨h2, p2.isList⟩ ⟨h3, p3.isList⟩ (lt hw1) (lt hw2) (lt hw3) fun v1 v2 v3 h' tk e1 e2 e3 z' TO' h1' h2' h3' hT hsz hk => ?_
    have e1 : v1 = w1 := by have : its[i]? = some v1 := by simpa using e1
                            rw [hw1] at this; exact (Option.some.inj this).symm
    have e2 : v2 = w2 := by have : its2[i]? = some v2 := by simpa using e2
                            rw [hw2] at this; exact (Option.some.inj this).symm
    have e3 : v3 = w3 := by have : its3[i]? = some v3 := by simpa using e3
                            rw [hw3] at this; exact (Option.some.inj this).symm
    subst e1 e2 e3
    refine ⟨_, rfl, wpAny_letOwnedTupleGo_zip (s := { s with heap := h', toks := tk }) z' fun h'' z'' sb => ?_⟩
    have hT2 : h''.get? s.heap.objs.size = some { cls := .type "tuple", data := .seq #[v1, v2, v3] } := (sb.2 _ (Nat.ne_of_gt hzl)).trans hT
    have new : ObjOk X.prog X.w (upd H s.heap.objs.size (.tup [x, y, u])) h'' s.heap.objs.size (.tup [x, y, u]) :=
      ⟨by show 3 ≤ sizeLine; decide, [v1, v2, v3], .cons rw1 (.cons rw2 (.cons rw3 .nil)), ⟨_, hT2, rfl, _, rfl⟩⟩
    have I1 : Inv X pins σ (upd H s.heap.objs.size (.tup [x, y, u])) { s with heap := h'', toks := tk } :=
      I.turnedNew (t' := tk) (ch := [z, TI, TO, i1, i2, i3]) (fun c o hb q => (sb.2 c (fun q' => hb (by simp [q']))).trans (hk c o (fun q' => hb (by simp [q'])) (fun q' => hb (by simp [q'])) (fun q' => hb (by simp [q'])) (fun q' => hb (by simp [q'])) (fun q' => hb (by simp [q'])) q)) hf (Nat.le_refl _) new
    refine ⟨.ref s.heap.objs.size, _, I1, rfl, ⟨_, x, y, u, rfl, I.hok.fresh (Nat.le_refl _), rfl, fun l hl => by rw [I.list_inj hl hqx]; exact hx, fun l hl => by rw [I.list_inj hl hqy]; exact hy, fun l hl => by rw [I.list_inj hl hqz]; exact hu⟩, ⟨z'', ?_, ⟨v1, v2, v3, ?_⟩, ?_, ?_, ?_⟩, fun c hcm => ?_⟩
    · exact (sb.2 _ S.TIz).trans (hk _ _ S.TIz S.TITO S.TIi1 S.TIi2 S.TIi3 hTI)
    · exact (sb.2 _ S.TOz).trans TO'
    · exact h1'.1.at fun o q => (sb.2 _ (fun q' => S.zi1 q'.symm)).trans q
    · exact h2'.1.at fun o q => (sb.2 _ (fun q' => S.zi2 q'.symm)).trans q
    · exact h3'.1.at fun o q => (sb.2 _ (fun q' => S.zi3 q'.symm)).trans q
    · have hlt : c < s.heap.objs.size := by
        have e' : c = z ∨ c = TI ∨ c = TO ∨ c = i1 ∨ c = i2 ∨ c = i3 := by simpa using hcm
        rcases e' with q | q | q | q | q | q
        · rw [q]; exact hzl
        · rw [q]; exact Heap.lt_size hTI
        · rw [q]; exact Heap.lt_size hTO
        · rw [q]; obtain ⟨_, e1, _⟩ := h1; exact Heap.lt_size e1
        · rw [q]; obtain ⟨_, e2, _⟩ := h2; exact Heap.lt_size e2
        · rw [q]; obtain ⟨_, e3, _⟩ := h3; exact Heap.lt_size e3
      rw [upd_ne (Nat.ne_of_lt hlt)]
      exact (hf c hcm).1
  done := by
    intro X hP hw hK hc i pins s σ H E I hf st hg
    subst hP hw hK
    obtain ⟨hz, hTI, ⟨x0, y0, u0, hTO⟩, h1, h2, h3⟩ := st
    obtain ⟨xs, ys, zs, hqx, hqy, hqz, hend⟩ := hg
    obtain ⟨its, rv, p, _⟩ := I.list hqx
    obtain ⟨its2, rv2, p2, _⟩ := I.list hqy
    obtain ⟨its3, rv3, p3, _⟩ := I.list hqz
    have l1 := rv.length
    have l2 := rv2.length
    have l3 := rv3.length
    have ne1 : a ≠ i1 := fun q => by
      obtain ⟨o, ho, hc', _⟩ := h1
      obtain ⟨o', ho', hc2, _⟩ := p.isList
      rw [q, ho] at ho'
      cases ho'
      rw [hc'] at hc2; exact absurd hc2 (by decide)
    have ne2 : b ≠ i2 := fun q => by
      obtain ⟨o, ho, hc', _⟩ := h2
      obtain ⟨o', ho', hc2, _⟩ := p2.isList
      rw [q, ho] at ho'
      cases ho'
      rw [hc'] at hc2; exact absurd hc2 (by decide)
    have ne3 : c ≠ i3 := fun q => by
      obtain ⟨o, ho, hc', _⟩ := h3
      obtain ⟨o', ho', hc2, _⟩ := p3.isList
      rw [q, ho] at ho'
      cases ho'
      rw [hc'] at hc2; exact absurd hc2 (by decide)
    have hh : X.A.in1.handled = none := I.ok.hd hc
    exact wpAny_pyNext_zipD3_end S (drawsX hh i1 a ne1 its.toArray i) (drawsX hh i2 b ne2 its2.toArray i) (drawsX hh i3 c ne3 its3.toArray i) hz hTI hTO ⟨h1, p.isList, fun _ => rfl⟩ ⟨h2, p2.isList, fun _ => rfl⟩ ⟨h3, p3.isList, fun _ => rfl⟩ (Nat.le_max_left _ _) (Nat.le_max_left _ _) (Nat.le_max_left _ _) (by rw [List.size_toArray, List.size_toArray, List.size_toArray]; omega) fun h' tk hk => ⟨rfl, I.turnedL (t' := tk) (ch := [z, TI, TO, i1, i2, i3]) (fun c o hb q =>
      hk c o (fun q' => hb (by simp [q'])) (fun q' => hb (by simp [q'])) (fun q' => hb (by simp [q'])) (fun q' => hb (by simp [q'])) (fun q' => hb (by simp [q'])) q) hf⟩
  self := fun A i s Q E st h => wpAny_pyIter_zip st.1 h
def iZip3 (K : PySem.W.Frag) (ta : TA) : TI := fun σ H R => ta σ H fun vs H1 => ∃ a b c xs ys zs, vs = [.ref a, .ref b, .ref c] ∧ SqL K H1 a xs ∧ SqL K H1 b ys ∧ SqL K H1 c zs ∧ R (Itz3 K a b c) H1
theorem pi_zip3 {X : Cx} {e e2 e3 : Expr} {ta : TA} {p pos tpos : Pos} {elts : List Expr} {kk : Nat} (hg : Gl X "zip") (hm : X.mg "zip" = none) (ha : PA X [e, e2, e3] ta)
    (hs : starEach [e, e2, e3] X.env = (false, eval e X.env) :: starEach [e2, e3] X.env := by rfl) (hpl : (backTo pos (starEach [e2, e3] X.env)).any (·.1) = false := by rfl) :
    PI X (.Tuple elts kk tpos) (.Call (.Name "zip" p) [e, e2, e3] [] pos) (iZip3 X.K ta) := by
  refine ⟨fun pins s σ H R I h => ?_⟩
  refine PyProof.Rows.Call_ (ld_blt I hg hm PyProof.Rows.boot_zip (PyProof.Rows.callWith_type1 (thn (ha.run pos pins s σ H _ I h) fun us s1 ⟨vs, H1, I1, r1, q1⟩ => ?_) hs hpl))
  obtain ⟨a, b, c, xs, ys, zs, ex, hqx, hqy, hqz, q⟩ := q1
  subst ex
  cases r1 with
  | cons r rr =>
    cases rr with
    | cons r' rr =>
      cases rr with
      | cons r'' rr =>
        cases rr
        cases r
        cases r'
        cases r''
        obtain ⟨its, rv, p1, _⟩ := I1.list hqx
        obtain ⟨its2, rv2, p2, _⟩ := I1.list hqy
        obtain ⟨its3, rv3, p3, _⟩ := I1.list hqz
        have la : a < s1.heap.objs.size := p1.lt
        have lb : b < s1.heap.objs.size := p2.lt
        have lc : c < s1.heap.objs.size := p3.lt
        refine zip_begins3 (begins_list a its.toArray) (begins_list b its2.toArray) (begins_list c its3.toArray) p1.isList p2.isList p3.isList fun h' hz hTI hTO h1 h2 h3 hsz hk => wpAny_pyIter_zip hz ?_
        have I2 : Inv X pins σ H1 { s1 with heap := h' } := I1.kept (t' := s1.toks) hk
        refine ⟨s1.heap.objs.size + 5, [s1.heap.objs.size + 5, s1.heap.objs.size + 3, s1.heap.objs.size + 4, s1.heap.objs.size, s1.heap.objs.size + 1, s1.heap.objs.size + 2], _, _, H1, rfl, I2,
          turn_zip3 (zip_sep3 (N := s1.heap.objs.size) (by simpa using la) (by simpa using lb) (by simpa using lc)), ⟨hz, hTI, ⟨_, _, _, hTO⟩, ⟨_, h1, rfl, rfl⟩, ⟨_, h2, rfl, rfl⟩, ⟨_, h3, rfl, rfl⟩⟩, fun d hcm => ?_, q⟩
        have e' : d = s1.heap.objs.size + 5 ∨ d = s1.heap.objs.size + 3 ∨ d = s1.heap.objs.size + 4 ∨ d = s1.heap.objs.size ∨ d = s1.heap.objs.size + 1 ∨ d = s1.heap.objs.size + 2 := by simpa using hcm
        have hle : s1.heap.objs.size ≤ d := by
          rcases e' with z | z | z | z | z | z
          · rw [z]; exact Nat.le_add_right _ _
          · rw [z]; exact Nat.le_add_right _ _
          · rw [z]; exact Nat.le_add_right _ _
          · rw [z]; exact Nat.le_refl _
          · rw [z]; exact Nat.le_add_right _ _
          · rw [z]; exact Nat.le_add_right _ _
        exact I1.fpOk hle (I1.hok.fresh hle)
def zip3 {α β γ : Type} (a : List α) (b : List β) (c : List γ) : List (α × β × γ) := a.zip (b.zip c)
section
variable {C : Cc} {Γ : List Slot} {α β γ : Type} {e e1 e2 e3 tg : Expr} {pos p : Pos}
theorem itTriple {K : PySem.W.Frag} {r1 : α → Rp} {r2 : β → Rp} {r3 : γ → Rp} {F H : Hp} {T : Addr} {x y z : V} {a : α} {b : β} {c : γ} (hF : Same F H) (hT : H T = none) (h1 : (r1 a).p F x) (h2 : (r2 b).p F y) (h3 : (r3 c).p F z) :
    ∃ G : Hp, (∀ a o, G a = some o → H a = none) ∧ upd H T (.tup [x, y, z]) = uni H G ∧ (rT3 K r1 r2 r3 (a, b, c)).p (uni F G) (.ref T) := by
  have hFT : F T = none := by
    cases q : F T with
    | none => rfl
    | some u => rw [hF T u q] at hT; cases hT
  refine ⟨Y.one T (.tup [x, y, z]), fun b o e => ?_, (uni_upd hT).symm, ?_⟩
  · by_cases z : b = T
    · rw [z]; exact hT
    · rw [one_ne z] at e; cases e
  · rw [uni_upd hFT]
    have sm : Same F (upd F T (.tup [x, y, z])) := fun b u e => by rw [upd_ne (ne_of_none e hFT)]; exact e
    exact ⟨T, x, y, z, rfl, SqT.of upd_same, (r1 a).mono sm h1, (r2 b).mono sm h2, (r3 c).mono sm h3⟩
theorem EvI.zip3 {r1 : α → Rp} {r2 : β → Rp} {r3 : γ → Rp} {m1 : W (List α)} {m2 : W (List β)} {m3 : W (List γ)} {elts : List Expr} {kk : Nat} {tpos : Pos} (hb : Blt C "zip" (.type "zip")) (h1 : Ev C Γ e1 (rL C.K r1) m1) (h2 : Ev C Γ e2 (rL C.K r2) m2) (h3 : Ev C Γ e3 (rL C.K r3) m3) (n1 : NoStar e1) (n2 : NoStar e2) (n3 : NoStar e3) :
    EvI C Γ (.Tuple elts kk tpos) (.Call (.Name "zip" p) [e1, e2, e3] [] pos) (rT3 C.K r1 r2 r3) (do let a ← m1; let b ← m2; let c ← m3; pure (Y.zip3 a b c)) :=
  fun X Wx ok tk F H g σ s R hm => by
    refine WI.of (pi_zip3 (hb.gl ok) (by rw [ok.mg]; exact hb.m) (pa_W (es := [e1, e2, e3])) (n1 [e2, e3] X.env) (by rw [n2 [e3] X.env, n3 [] X.env]; rfl)) ?_
    refine WA.len (WA.of (pa_cons (pe_W (e := e1)) (pa_cons (pe_W (e := e2)) (pa_cons (pe_W (e := e3)) pa_nil (n3 [] X.env)) (n2 [e3] X.env)) (n1 [e2, e3] X.env)) ?_)
    refine h1 X Wx ok tk F H g σ s _ (m1.mono (fun a ha F1 H1 g1 v f1 s1 r1' => ?_) (fun e he => he) hm)
    refine h2 X Wx ok tk F1 H1 g1 σ s1 _ (m2.mono (fun b hb F2 H2 g2 w f2 s2 r2' => ?_) (fun e he => XEnd.later f1 he) ha)
    refine h3 X Wx ok tk F2 H2 g2 σ s2 _ (m3.mono (fun c hc F3 H3 g3 w3 f3 s3 r3' => ?_) (fun e he => XEnd.later (f1.trans f2) he) hb)
    intro hl
    obtain ⟨p1, vs, ev, hs1, t1⟩ := (rL C.K r1 a).mono (f2.sF.trans f3.sF) r1'
    obtain ⟨p2, ws, ew, hs2, t2⟩ := (rL C.K r2 b).mono f3.sF r2'
    obtain ⟨p3, us, eu, hs3, t3⟩ := r3'
    have q1 : SqL X.K H3 p1 vs := by rw [ok.K]; exact s3.sF.seq hs1
    have q2 : SqL X.K H3 p2 ws := by rw [ok.K]; exact s3.sF.seq hs2
    have q3 : SqL X.K H3 p3 us := by rw [ok.K]; exact s3.sF.seq hs3
    refine ⟨p1, p2, p3, vs, ws, us, by rw [ev, ew, eu], q1, q2, q3, hc F3 H3 g3 _ ((f1.trans f2).trans f3) s3 ?_⟩
    have l1 := t1.length
    have l2 := t2.length
    have l3 := t3.length
    rw [ok.K]
    unfold Y.zip3
    refine ⟨?_, fun i F' H' f s h => ?_, fun i x F' H' v H3 f s h y => ?_, fun i F' H' f s h => ?_⟩
    · rw [List.length_zip, ← l1]
      exact Nat.le_trans (Nat.min_le_left _ _) (hl p1 vs q1)
    · rw [List.length_zip, List.length_zip] at h
      exact ⟨vs, ws, us, vs[i]'(by omega), ws[i]'(by omega), us[i]'(by omega), (f.trans s).seq hs1, (f.trans s).seq hs2, (f.trans s).seq hs3, List.getElem?_eq_getElem _, List.getElem?_eq_getElem _, List.getElem?_eq_getElem _⟩
    · obtain ⟨T, x', y', z', e1, hT, e2, y1, y2, y3⟩ := y
      subst e1 e2
      obtain ⟨xa, xb, xc⟩ := x
      obtain ⟨ha', hbc⟩ := List.getElem?_zip_eq_some.mp h
      obtain ⟨hb', hc'⟩ := List.getElem?_zip_eq_some.mp hbc
      obtain ⟨u1, hu1, ru1⟩ := t1.get ha'
      obtain ⟨u2, hu2, ru2⟩ := t2.get hb'
      obtain ⟨u3, hu3, ru3⟩ := t3.get hc'
      rw [y1 vs ((f.trans s).seq hs1)] at hu1
      rw [y2 ws ((f.trans s).seq hs2)] at hu2
      rw [y3 us ((f.trans s).seq hs3)] at hu3
      cases hu1
      cases hu2
      cases hu3
      exact itTriple s hT ((r1 xa).mono f ru1) ((r2 xb).mono f ru2) ((r3 xc).mono f ru3)
    · rw [List.length_zip, List.length_zip] at h
      exact ⟨vs, ws, us, (f.trans s).seq hs1, (f.trans s).seq hs2, (f.trans s).seq hs3, by omega⟩
end
end Y

/-! Y26: xs.insert(i, e), y = xs.pop(i) -/
namespace Y
open PySem PySem.Spec L2
section
variable {C : Cc} {Γ Γ' : List Slot} {α β γ δ ε ω : Type} {J : ω → Out} {e ix : Expr} {pos : Pos} {rest : List Stmt} {x : Str}
theorem All2.app' {R : α → β → Prop} {as bs : List α} {xs ys : List β} (h : All2 R as xs) (h' : All2 R bs ys) : All2 R (as ++ bs) (xs ++ ys) := by
  induction h with
  | nil => exact h'
  | cons r _ ih => exact .cons r ih
theorem All2.take' {R : α → β → Prop} {as : List α} {xs : List β} (h : All2 R as xs) : ∀ n, All2 R (as.take n) (xs.take n) := by
  induction h with
  | nil => intro n; simp; exact .nil
  | cons r _ ih =>
    intro n
    cases n with
    | zero => exact .nil
    | succ n => exact .cons r (ih n)
theorem All2.drop' {R : α → β → Prop} {as : List α} {xs : List β} (h : All2 R as xs) : ∀ n, All2 R (as.drop n) (xs.drop n) := by
  induction h with
  | nil => intro n; simp; exact .nil
  | cons r t ih =>
    intro n
    cases n with
    | zero => exact .cons r t
    | succ n => exact ih n
theorem Ex.insert {i : Nat} {px apos cpos : Pos} {r : α → Rp} {xs : List α} {mi : W Int} {m : W α} {k : List α → W ω} (hN : C.N[i]? = some x) (hv : Vis C.sc x) (hΓ : Γ[i]? = some (.own (oL C.fr r xs))) (hi : Ev C Γ ix rI mi) (h : Ev C Γ e r m) (ni : NoStar ix) (n : NoStar e) (hr : ∀ ys, Ex C (Γ.set i (.own (oL C.fr r ys))) rest J (k ys))
    (hline : (apos.endLine == cpos.line) = true := by rfl) (hd : (x == ("__debug__" : Str)) = false := by decide) (hcd : (x == ("__classdict__" : Str)) = false := by decide) (hb : ∀ X : Cx, attributeBase (.Name x px) "insert" X.env (eval (.Name x px) X.env) = eval (.Name x px) X.env := by intro _; rfl)
    (hs : ∀ X : Cx, swapsWith (.Call (.Attribute (.Name x px) "insert" apos) [ix, e] [] cpos) none pos.line X.env = pure false := by intro _; rfl)
    (hfew : ∀ X : Cx, ((backTo cpos (starEach [ix, e] X.env)).all (fun x => !x.1) && (backToKw cpos (keywordEach [] X.env)).all (fun x => x.1.isSome) && decide ([ix, e].length + ([] : List Keyword).length + (if ([] : List Keyword).isEmpty then 0 else 1) < 30)) = true := by intro _; rfl) :
    Ex C Γ (.Expr (.Call (.Attribute (.Name x px) "insert" apos) [ix, e] [] cpos) pos :: rest) J (do let j ← mi; let a ← m; let ys ← W.req (0 ≤ j ∧ j ≤ 1000000 ∧ xs.length ≤ 1000000) (pure (xs.take j.toNat ++ [a] ++ xs.drop j.toNat)); k ys) :=
  Ex.cons fun X Wx ok tk F H g σ s D hm => by
    refine W1.of (ps_expr (pe_bm PySem.F.plainAttrs_list PySem.F.slot_list_insert PySem.F.type_list_insert mt_insert (pe_var (i := i) (by rw [ok.N]; exact hN) (by rw [ok.sc]; exact hv) hd hcd) (pa_cons (pe_W (e := ix)) (pa_cons (pe_W (e := e)) pa_nil (n [] X.env)) (ni [e] X.env)) (hb X) (hfew X) hline (ni [e] X.env) (by rw [n [] X.env]; rfl)) (hs X)) ?_
    obtain ⟨v, eσ, a, vs, ev, na, eg, t⟩ := s.get_own hΓ
    subst ev
    have hHa : H a = some (.lst vs) := s.sG i a _ (by rw [eg]; exact one_same)
    refine ⟨.ref a, eσ, .inl ⟨rfl, _, SqL.of hHa⟩, ?_⟩
    refine hi X Wx ok.toOk tk F H g σ s _ (mi.mono (fun j hj F0 H0 g0 u f0 s0 r0 => ?_) (fun e he => he.ex) hm)
    refine h X Wx ok.toOk tk F0 H0 g0 σ s0 _ (m.mono (fun y hy F1 H1 g1 w f1 s1 r1 => ?_) (fun e he => (he.later f0).ex) hj)
    obtain ⟨v', eσ', a', vs', ev', na', eg', t'⟩ := s1.get_own hΓ
    rw [eσ] at eσ'
    cases eσ'
    cases ev'
    have r0 : u = .int j := r0
    subst r0
    obtain ⟨⟨h1, h2, h3⟩, hy⟩ := hy
    have tt : All2 (fun u x => (r x).p F1 u) (vs'.take j.toNat ++ [w] ++ vs'.drop j.toNat) (xs.take j.toNat ++ [y] ++ xs.drop j.toNat) := by
      exact ((t'.take' j.toNat).app' (.cons r1 .nil)).app' (t'.drop' j.toNat)
    obtain ⟨s2, f2, hH1⟩ := s1.upd_own (O' := oL C.fr r (xs.take j.toNat ++ [y] ++ xs.drop j.toNat)) (o' := .lst (vs'.take j.toNat ++ [w] ++ vs'.drop j.toNat)) eg' eσ (List.getElem?_eq_some_iff.mp hΓ).1 ⟨a, _, rfl, na', rfl, tt⟩
    refine ⟨a, vs', j, w, rfl, rfl, hH1, ?_, h1, by omega, ?_⟩
    · rw [t'.length, PySem.sizeLine_eq]
      omega
    · exact (hr _).later ok tk (f0.trans (f1.trans f2)) s2 hy
end
end Y

/-! Y27: pairs as lists, pairs walked, displays of seven -/
namespace Y
open PySem PySem.Spec L2
section
variable {C : Cc} {Γ Γ' : List Slot} {α β γ δ ε ω : Type} {J : ω → Out} {e e1 e2 e3 e4 e5 e6 e7 tg : Expr} {p pos : Pos} {rest : List Stmt} {x : Str}
theorem itTup2 {K : PySem.W.Frag} {r : α → Rp} {xs : List α} {F : Hp} {a : Addr} {vs : List V} (hs : SqT K F a vs) (t : All2 (fun u x => (r x).p F u) vs xs) (hl : vs.length ≤ sizeLine) : ItOk (Itt K a) r xs F where
  len := by rw [← t.length]; exact hl
  go := fun i F' H f s h => ⟨vs, vs[i]'(by rw [t.length]; exact h), Same.seqT (f.trans s) hs, List.getElem?_eq_getElem _⟩
  yld := fun i x F' H v H' f s h y => by
    obtain ⟨e, y⟩ := y
    refine ⟨emp, fun a o z => (by cases z), by rw [uni_emp]; exact e, ?_⟩
    rw [uni_emp]
    have := y vs (Same.seqT (f.trans s) hs)
    obtain ⟨u, hu, ru⟩ := t.get h
    rw [this] at hu
    cases hu
    exact (r x).mono f ru
  stop := fun i F' H f s h => ⟨vs, Same.seqT (f.trans s) hs, by rw [t.length]; exact h⟩
theorem EvI.tup2 {r : α → Rp} {m : W (α × α)} (h : Ev C Γ e (rT2 C.K r r) m) : EvI C Γ tg e r (do let p ← m; pure [p.1, p.2]) :=
  fun X Wx ok tk F H g σ s R hm => by
    refine WI.of (pi_tup (pe_W (e := e))) ?_
    refine h X Wx ok tk F H g σ s _ (m.mono (fun xs hx F1 H1 g1 v f1 s1 r1 => ?_) (fun e he => he) hm)
    obtain ⟨a, v1, v2, ev, hs, t1, t2⟩ := r1
    have hs2 : SqT X.K H1 a [v1, v2] := by rw [ok.K]; exact Same.seqT s1.sF hs
    refine ⟨a, ev, ⟨_, hs2⟩, hx F1 H1 g1 _ f1 s1 ?_⟩
    rw [ok.K]
    exact itTup2 hs (.cons t1 (.cons t2 .nil)) (by rw [PySem.sizeLine_eq]; simp)
end
end Y

/-! Y28: data in lists, one of two kinds, calls of five and six -/
namespace Y
open PySem PySem.Spec L2
section
variable {C : Cc} {Γ Γ' : List Slot} {α β γ δ ε ω : Type} {J : ω → Out} {e e1 e2 e3 e4 e5 e6 a b : Expr} {p pos : Pos} {rest sts : List Stmt} {x : Str}
/-! ### data in lists -/
/-! ### one of two kinds -/
def rV (ra : α → Rp) (rb : β → Rp) (x : α ⊕ β) : Rp := match x with
  | .inl a => ra a
  | .inr b => rb b
instance {ra : α → Rp} {rb : β → Rp} [I : Fre ra] [J : Fre rb] : Fre (rV ra rb) := ⟨fun x F v h F' => by
  cases x with
  | inl a => exact I.fre a F v h F'
  | inr b => exact J.fre b F v h F'⟩
theorem Frs.V {ρ1 : (Addr → Prop) → α → Rp} {ρ2 : (Addr → Prop) → β → Rp} (h1 : Frs ρ1) (h2 : Frs ρ2) : Frs (fun N => rV (ρ1 N) (ρ2 N)) := ⟨fun N x F v h => by
  cases x with
  | inl a => exact h1.re N a F v h
  | inr b => exact h2.re N b F v h, fun N N' x F v hn h => by
  cases x with
  | inl a => exact h1.mo N N' a F v hn h
  | inr b => exact h2.mo N N' b F v hn h⟩
def unL (x : α ⊕ β) : W α := match x with
  | .inl a => pure a
  | .inr _ => W.bad
def unR (x : α ⊕ β) : W β := match x with
  | .inl _ => W.bad
  | .inr b => pure b
theorem Ev.unL {ra : α → Rp} {rb : β → Rp} {m : W (α ⊕ β)} (h : Ev C Γ e (rV ra rb) m) : Ev C Γ e ra (do let x ← m; unL x) :=
  fun X Wx ok tk F H g σ s Q hm => h X Wx ok tk F H g σ s Q (m.mono (fun o ho F1 H1 g1 v f1 s1 r1 => by
    cases o with
    | inr _ => exact ho.elim
    | inl x => exact ho F1 H1 g1 v f1 s1 r1) (fun _ z => z) hm)
theorem Ev.unR {ra : α → Rp} {rb : β → Rp} {m : W (α ⊕ β)} (h : Ev C Γ e (rV ra rb) m) : Ev C Γ e rb (do let x ← m; unR x) :=
  fun X Wx ok tk F H g σ s Q hm => h X Wx ok tk F H g σ s Q (m.mono (fun o ho F1 H1 g1 v f1 s1 r1 => by
    cases o with
    | inl _ => exact ho.elim
    | inr x => exact ho F1 H1 g1 v f1 s1 r1) (fun _ z => z) hm)
/-- a private thing that must be of the left kind -/
theorem Ex.unL {i : Nat} {ρ1 : (Addr → Prop) → α → Rp} {ρ2 : (Addr → Prop) → β → Rp} {y : α ⊕ β} {k : α → W ω} (hΓ : Γ[i]? = some (.own (oV (fun N => rV (ρ1 N) (ρ2 N)) C.fr y))) (h : ∀ z, Ex C (Γ.set i (.own (oV ρ1 C.fr z))) sts J (k z)) : Ex C Γ sts J (do let z ← unL y; k z) := by
  cases y with
  | inr _ => exact fun X Wx ok tk F H g σ s D hm => hm.elim
  | inl z => exact fun X Wx ok tk F H g σ s D hm => h z X Wx ok tk F H g σ (s.reown hΓ (O' := oV ρ1 C.fr z) (fun F G v q => q)) D hm
/-- a private list of scalars, as an own list -/
theorem StOk.flatV {F H : Hp} {σ : St} {g : Nat → Hp} (s : StOk C F H Γ σ g) {i : Nat} {r : α → Rp} [I : Fre r] {x : List α} (hΓ : Γ[i]? = some (.own (oV (fun N => rN N r) C.fr x))) :
    ∃ g', StOk C F H (Γ.set i (.own (oL C.fr r x))) σ g' ∧ Fr F H (dU g) F H (dU g') := by
  have hlt := (List.getElem?_eq_some_iff.mp hΓ).1
  obtain ⟨v, eσ, _, q, vs, ev, nq, hq, t⟩ := s.get_own hΓ
  have on : ∀ b, one q (HO.lst vs) b ≠ none → b = q := fun b h => by
    by_cases z : b = q
    · exact z
    · exact absurd (one_ne z) h
  have hle : Same (one q (HO.lst vs)) (g i) := fun b o z => by
    have e := on b (by rw [z]; simp)
    subst e
    rw [one_same] at z
    rw [hq]; exact z
  have hd : ∀ A : Hp, Dis A (g i) → Dis A (one q (HO.lst vs)) := fun A z b => by
    rcases z b with z | z
    · exact .inl z
    · refine .inr ?_
      cases z2 : one q (HO.lst vs) b with
      | none => rfl
      | some o => rw [hle b o z2] at z; cases z
  refine ⟨setG g i (one q (HO.lst vs)), ⟨by rw [List.length_set]; exact s.len, fun j S z => ?_, s.sF, fun j => ?_, fun j => ?_, fun j k hjk => ?_, s.fr⟩, Fr.refl.less fun b z => ?_⟩
  · by_cases hj : i = j
    · subst hj
      rw [List.getElem?_set_self hlt] at z
      cases z
      rw [setG_same]
      exact ⟨v, eσ, q, vs, ev, nq, rfl, t.imp fun u y z => I.fre _ _ _ z _⟩
    · rw [List.getElem?_set_ne hj] at z
      rw [setG_ne (fun z => hj z.symm)]
      exact s.slot j S z
  · by_cases hj : j = i
    · subst hj; rw [setG_same]; exact hle.trans (s.sG j)
    · rw [setG_ne hj]; exact s.sG j
  · by_cases hj : j = i
    · subst hj; rw [setG_same]; exact hd _ (s.dF j)
    · rw [setG_ne hj]; exact s.dF j
  · by_cases hj : j = i
    · subst hj
      rw [setG_same, setG_ne (fun z => hjk z.symm)]
      exact (hd _ (s.dG k j (fun z => hjk z.symm))).symm
    · rw [setG_ne hj]
      by_cases hk : k = i
      · subst hk; rw [setG_same]; exact hd _ (s.dG j k hjk)
      · rw [setG_ne hk]; exact s.dG j k hjk
  · obtain ⟨j, z⟩ := z
    by_cases hj : j = i
    · subst hj
      rw [setG_same] at z
      exact ⟨j, by rw [on b z, hq]; simp⟩
    · rw [setG_ne hj] at z; exact ⟨j, z⟩
theorem Ex.flatV {i : Nat} {r : α → Rp} [I : Fre r] {x : List α} {m : W ω} (hΓ : Γ[i]? = some (.own (oV (fun N => rN N r) C.fr x))) (h : Ex C (Γ.set i (.own (oL C.fr r x))) sts J m) : Ex C Γ sts J m := fun X Wx ok tk F H g σ s D hm => by
  obtain ⟨g', s2, f2⟩ := s.flatV hΓ
  exact h.later ok tk f2 s2 hm
/-- no text is like these -/
class NoS {K : PySem.W.Frag} (r : α → Rp) [I : DatE K r] : Prop where
  l : ∀ x s, PyData.eqv (I.enc x) (.str s) = false
  r : ∀ x s, PyData.eqv (.str s) (I.enc x) = false
instance {K : PySem.W.Frag} : NoS (K := K) rI := ⟨fun _ _ => rfl, fun _ _ => rfl⟩
instance {K : PySem.W.Frag} : NoS (K := K) rB := ⟨fun _ _ => rfl, fun _ _ => rfl⟩
instance {K : PySem.W.Frag} {r : α → Rp} [I : DatE K r] : NoS (K := K) (rL K r) := ⟨fun _ _ => rfl, fun _ _ => rfl⟩
instance {K : PySem.W.Frag} {N : Addr → Prop} {r : α → Rp} [I : DatE K r] : NoS (K := K) (rN N r) := ⟨fun _ _ => rfl, fun _ _ => rfl⟩
instance {K : PySem.W.Frag} {r : α → Rp} [I : DatE K r] [J : NoS (K := K) r] : DatE K (rV r rS) where
  enc := Sum.elim I.enc PyData.str
  dep := I.dep
  ok := Sum.elim I.ok (fun x => PyData.strOk x = true)
  dp := fun {x F v} h => by
    cases x with
    | inl a => exact I.dp h
    | inr s => have e : v = .str s := h; subst e; exact .str s
  can := fun x h => by
    cases x with
    | inl a => exact I.can a h
    | inr s => exact h
  deps := fun x => by
    cases x with
    | inl a => exact I.deps a
    | inr s => exact Nat.zero_le _
  dec := fun x y => by
    cases x with
    | inl a => cases y with
      | inl c => exact (I.dec a c).trans ⟨fun h => by rw [h], fun h => Sum.inl.inj h⟩
      | inr s => exact ⟨fun h => absurd ((show PyData.eqv (I.enc a) (.str s) = true from h).symm.trans (J.l a s)) (by decide), fun h => by cases h⟩
    | inr t => cases y with
      | inl c => exact ⟨fun h => absurd ((show PyData.eqv (.str t) (I.enc c) = true from h).symm.trans (J.r c t)) (by decide), fun h => by cases h⟩
      | inr s => exact (show PyData.eqv (.str t) (.str s) = true ↔ _ by simp [PyData.eqv])
end
section
variable {C : Cc} {Γ : List Slot} {α β γ : Type}
/-! ### (x, y), z as a target -/
end
section
variable {C : Cc} {Γ : List Slot} {α β γ δ ε ζ η : Type} {e1 e2 e3 e4 e5 e6 : Expr} {pos p : Pos} {x : Str} {j : Nat} {ρ : (Addr → Prop) → ε → Rp}
end
end Y

/-! Y29: a loop over own things that makes one own list grow -/
namespace Y
open PySem PySem.Spec L2
section
variable {C : Cc} {Γ Γ' : List Slot} {α β γ ω : Type} {J : ω → Out} {e e1 e2 a b : Expr} {p pos : Pos} {rest sts : List Stmt} {x : Str}
/-- an element taken out by its place -/
def popI (xs : List α) (q : Int) : W (α × List α) := W.req (0 ≤ q ∧ q ≤ 1000000) (match xs[q.toNat]? with | some a => pure (a, xs.eraseIdx q.toNat) | none => W.bad)
end
end Y

/-! Y30: tuples of four and five -/
namespace Y
open PySem PySem.Spec L2
theorem Fd.X2 {α β : Type} {ρ1 : (Addr → Prop) → α → Rp} {ρ2 : (Addr → Prop) → β → Rp} (h1 : Fd ρ1) (h2 : Fd ρ2) : Fd (fun N => rX2 N (ρ1 N) (ρ2 N)) := ⟨fun N N' b F v hn ⟨a, v1, v2, e, n, q, t1, t2⟩ => ⟨a, v1, v2, e, hn a (by rw [q]; simp) n, q, h1.mo _ _ _ _ _ hn t1, h2.mo _ _ _ _ _ hn t2⟩⟩
def rT4 {α β γ δ : Type} (K : PySem.W.Frag) (r1 : α → Rp) (r2 : β → Rp) (r3 : γ → Rp) (r4 : δ → Rp) (x : α × β × γ × δ) : Rp :=
  ⟨fun F v => ∃ a v1 v2 v3 v4, v = .ref a ∧ SqT K F a [v1, v2, v3, v4] ∧ (r1 x.1).p F v1 ∧ (r2 x.2.1).p F v2 ∧ (r3 x.2.2.1).p F v3 ∧ (r4 x.2.2.2).p F v4, fun h ⟨a, v1, v2, v3, v4, e, q, t1, t2, t3, t4⟩ => ⟨a, v1, v2, v3, v4, e, Same.seqT h q, (r1 _).mono h t1, (r2 _).mono h t2, (r3 _).mono h t3, (r4 _).mono h t4⟩⟩
def rX4 {α β γ δ : Type} (N : Addr → Prop) (r1 : α → Rp) (r2 : β → Rp) (r3 : γ → Rp) (r4 : δ → Rp) (x : α × β × γ × δ) : Rp :=
  ⟨fun F v => ∃ a v1 v2 v3 v4, v = .ref a ∧ N a ∧ F a = some (.tup [v1, v2, v3, v4]) ∧ (r1 x.1).p F v1 ∧ (r2 x.2.1).p F v2 ∧ (r3 x.2.2.1).p F v3 ∧ (r4 x.2.2.2).p F v4, fun h ⟨a, v1, v2, v3, v4, e, n, q, t1, t2, t3, t4⟩ => ⟨a, v1, v2, v3, v4, e, n, h _ _ q, (r1 _).mono h t1, (r2 _).mono h t2, (r3 _).mono h t3, (r4 _).mono h t4⟩⟩
def rT5 {α β γ δ ε : Type} (K : PySem.W.Frag) (r1 : α → Rp) (r2 : β → Rp) (r3 : γ → Rp) (r4 : δ → Rp) (r5 : ε → Rp) (x : α × β × γ × δ × ε) : Rp :=
  ⟨fun F v => ∃ a v1 v2 v3 v4 v5, v = .ref a ∧ SqT K F a [v1, v2, v3, v4, v5] ∧ (r1 x.1).p F v1 ∧ (r2 x.2.1).p F v2 ∧ (r3 x.2.2.1).p F v3 ∧ (r4 x.2.2.2.1).p F v4 ∧ (r5 x.2.2.2.2).p F v5, fun h ⟨a, v1, v2, v3, v4, v5, e, q, t1, t2, t3, t4, t5⟩ => ⟨a, v1, v2, v3, v4, v5, e, Same.seqT h q, (r1 _).mono h t1, (r2 _).mono h t2, (r3 _).mono h t3, (r4 _).mono h t4, (r5 _).mono h t5⟩⟩
def rX5 {α β γ δ ε : Type} (N : Addr → Prop) (r1 : α → Rp) (r2 : β → Rp) (r3 : γ → Rp) (r4 : δ → Rp) (r5 : ε → Rp) (x : α × β × γ × δ × ε) : Rp :=
  ⟨fun F v => ∃ a v1 v2 v3 v4 v5, v = .ref a ∧ N a ∧ F a = some (.tup [v1, v2, v3, v4, v5]) ∧ (r1 x.1).p F v1 ∧ (r2 x.2.1).p F v2 ∧ (r3 x.2.2.1).p F v3 ∧ (r4 x.2.2.2.1).p F v4 ∧ (r5 x.2.2.2.2).p F v5, fun h ⟨a, v1, v2, v3, v4, v5, e, n, q, t1, t2, t3, t4, t5⟩ => ⟨a, v1, v2, v3, v4, v5, e, n, h _ _ q, (r1 _).mono h t1, (r2 _).mono h t2, (r3 _).mono h t3, (r4 _).mono h t4, (r5 _).mono h t5⟩⟩
end Y

/-! Y31: bags: a new list told, a new bag handed on -/
namespace Y
open PySem PySem.Spec L2
section
variable {C : Cc} {Γ Γ' : List Slot} {α β γ δ ε ω : Type} {J : ω → Out} {e e0 e1 e2 e3 a b : Expr} {p p2 pos : Pos} {rest sts : List Stmt} {x : Str}
end
end Y

/-! Y32: a def that is handed the exception that a suite holds -/
namespace Y
open PySem PySem.Spec L2 PyProof.Rows
theorem mark_deeper {A : Around} {env : Env} {v : Value} (h : A.handled = some v) : (A.deeper env).mark (some v) = A.deeper env := by
  cases A
  cases h
  rfl
def cxS (P : Program) (w : World) (K : PySem.W.Frag) (mg : Str → Option Value) (base : Heap) (N : List Str) (qual : Str) (scope : Scope) (f : Addr) (cd : Value) (A : Around) (outer : List Env) (s : Shared) (H : Hp) (p : Addr × Obj) : Cx :=
  { cxOf (L2.CX P w) P w K mg base N qual scope f cd A outer s H (fun _ _ _ => False) with calm := false, pn := [p], xe := fun _ _ => False }
theorem inv_startS {P : Program} {w : World} {K : PySem.W.Frag} {mg : Str → Option Value} {base : Heap} {N ps : List Str} {qual : Str} {scope : Scope} {f : Addr} {cd : Value} {A : Around} {outer : List Env} {s s1 : Shared} {H : Hp} {us : List Value} {vs : List V}
    (S : FnScope N ps scope) {p : Addr × Obj} (hpin : L2H.PinOk outer H s p) (e0 : Env0 P w K mg base A outer s H) (hl : vs.length = ps.length) (r : Vals vs us)
    (x : InCallC s s.heap.objs.size (bindL (envOfC qual scope s.heap.objs.size f cd).kindOf (ps.zip us) fun _ => none) (cellsFrom (s.heap.objs.size + 1) scope.names []) (bindC (envOfC qual scope s.heap.objs.size f cd).kindOf (ps.zip us) fun _ => none) s1) :
    Inv (cxS P w K mg base N qual scope f cd A outer s H p) [] (L2.start N vs) H s1 := by
  have q := L2H.inv_startH (CX := L2.CX P w) (E := fun _ _ _ => False) S hpin e0 hl r x
  exact ⟨⟨q.ok.mod, q.ok.kind, q.ok.glob, q.ok.blt, q.ok.above, q.ok.inj, q.ok.has, q.ok.cab, fun z => (nomatch z), q.ok.frames, q.ok.stk, q.ok.exf, q.ok.bs, q.ok.bsz, q.ok.noex, q.ok.exfs, q.ok.funs, q.ok.frf⟩, q.os, q.bare, q.base, q.loc, q.cell, q.free, q.freeC, q.pin, q.hok, q.len⟩
/-- a call's end, nothing raised -/
def CRS (outer : List Env) (P : Program) (w : World) (H : Hp) (s : Shared) (Q : VK) (r : Result) (s' : Shared) : Prop :=
  match r with
  | .ok (.ret u) => CE outer P w H s Q u s'
  | _ => False
/-- what such a def promises: p the exception, of the class D -/
structure FnS (P : Program) (w : World) (K : PySem.W.Frag) (mg : Str → Option Value) (base : Heap) (k : Nat) (f : Addr) (fd : FuncData) (ps : List Str) (D : Addr) (sp : Addr → Hp → VK → Prop) : Prop where
  len : ps.length = 1
  run : ∀ (A : Around) (outer : List Env) (s : Shared) (H : Hp) (args : Args) (us : List Value) (Q : VK) (p : Addr × Obj), RoomS k A → A.handled = some (.ref p.1) → L2H.PinOk outer H s p → Zc (.ref D) none p.2 → (∃ vs, p.2.data = .fields vs) → Env0 P w K mg base A outer s H → BindsTo s fd args (ps.zip us) → Vals [V.ref p.1] us → sp p.1 H Q →
    codeAny (model P w) A (.call (.ref f) args) (CRS outer P w H s Q) s
theorem fn_ofS {P : Program} {w : World} {K : PySem.W.Frag} {mg : Str → Option Value} {base : Heap} {k : Nat} {f : Addr} {name qual : Str} {params : Arguments} {body : List Stmt} {scope : Scope} {dV kV doc pm cdv ct oc : Value} {an od : Option Addr}
    {osl : Array (Option Value)} {N ps : List Str} {D : Addr} {sp : Addr → Hp → VK → Prop} (lk : K.lookup f = some ⟨oc, od, .func (PySem.W.fnOf name qual params body scope dV kV doc pm an cdv ct), osl⟩) (hcd : PySem.W.codeIn K cdv qual = true) (S : FnScope N ps scope)
    (len : ps.length = 1)
    (hbody : ∀ (A : Around) (outer : List Env) (s : Shared) (H : Hp) (Q : VK) (p : Addr × Obj), A.handled = some (.ref p.1) → RoomS k (A.deeper (envOfC qual scope s.heap.objs.size f cdv)) → Zc (.ref D) none p.2 → (∃ vs, p.2.data = .fields vs) → sp p.1 H Q →
      ∃ t, PSs (cxS P w K mg base N qual scope f cdv A outer s H p) body t ∧ t { nx := fun _ H' => Q .non H', rt := Q } (L2.start N [V.ref p.1]) H) :
    FnS P w K mg base (k + 1) f (PySem.W.fnOf name qual params body scope dV kV doc pm an cdv ct) ps D sp := by
  refine ⟨len, fun A outer s H args us Q p hr hot hpin hz hf e0 hb r hsp => ?_⟩
  have KX : K.In s.heap := e0.mod.kin.keeps fun b o e => (e0.bs b o e).1
  have lim : s.heap.NoLimit := e0.mod.nolimit.keeps fun b o e => (e0.bs b o e).1
  have hkind : ∀ y ∈ ps.zip us, scope.names.lookup y.1 = some .local ∨ (scope.names.lookup y.1 = some .cell ∧ ((cellsFrom (s.heap.objs.size + 1) scope.names []).lookup y.1).isSome = true) := fun ⟨n, v⟩ hy => by
    rcases S.par n (List.of_mem_zip hy).1 with q | q
    · exact .inl q
    · exact .inr ⟨q, PySem.W.cellsFrom_some _ _ _ (.inl q)⟩
  have hdep : A.depth < recursionLimit := by have := hr.dp; omega
  have hrd : ∀ env, RoomS k (A.deeper env) := fun env => ⟨by have := hr.dp; show A.depth + 1 + 3 * k + 5 < _; omega, by have := hr.un; show A.units + 3 + 16 * k + 200 < _; omega⟩
  refine codeAny_call_function hdep (KX _ _ lk) rfl S.co S.gen rfl (PySem.W.codeRec_of KX hcd) (hb _ _ _ _ ?_)
  refine wpAny_newFunctionEnv_cells S.kind hkind fun env he s1 x => ?_
  subst he
  refine ⟨lim.keeps x.toInCall.keep, codeAny_func ?_⟩
  obtain ⟨t, ht, hq⟩ := hbody A outer s H Q p hot (hrd _) hz hf hsp
  have I : Inv (cxS P w K mg base N qual scope f cdv A outer s H p) [] (L2.start N [V.ref p.1]) H s1 := inv_startS S hpin e0 (by rw [len]; rfl) r x
  refine wpAny_mono (ht.run [] s1 (L2.start N [V.ref p.1]) H _ I hq) (fun fl s' hs => ?_) fun e s' hs => hs.elim
  have fin : ∀ {σ' : L2.St} {H' : Hp} {v : V} {u : Value}, Inv (cxS P w K mg base N qual scope f cdv A outer s H p) [] σ' H' s' → RelV v u → Q v H' → CE outer P w H s Q u s' :=
    fun {σ' H' v u} J rv q => ⟨v, H', J.os, J.bare, J.base, J.hok, rv, q⟩
  cases fl with
  | ret u =>
    obtain ⟨v, σ', H', J, rv, q⟩ := hs
    exact fin J rv q
  | next =>
    obtain ⟨σ', H', J, q⟩ := hs
    exact fin (v := V.non) (u := Value.none) J rfl q
  | brk =>
    obtain ⟨_, _, _, q⟩ := hs
    exact False.elim q
  | cont =>
    obtain ⟨_, _, _, q⟩ := hs
    exact False.elim q
/-- the promise by a mirror -/
def spS (M : Mc) {β : Type} (ρ : (Addr → Prop) → β → Rp) (m : W β) : Addr → Hp → VK → Prop := fun _ H Q => ∃ (F : Hp) (N : Addr → Prop), (∀ a, H a = none → N a) ∧ Same F H ∧
  m.wp (fun b => ∀ F' H' g' v, Fr F H (fun _ => False) F' H' (dU g') → Same F' H' → (ρ N b).p F' v → Q v H') (fun _ => False)
structure FnE (M : Mc) (x : Str) (j : Nat) {β : Type} (ρ : (Addr → Prop) → β → Rp) (m : Exn → W β) : Prop where
  ex : ∃ f fd ps, (∀ (c : Str) (D : Addr), M.mg c = some (.ref D) → FnS M.P M.w M.K M.mg M.base j f fd ps D (spS M ρ (m ⟨c, none⟩))) ∧ M.mg x = some (.ref f) ∧ PySem.W.keepIn M.K (.ref f) = true ∧ Binds M.K fd ps []
def initE (M : Mc) (N : List Str) (sc : Scope) (k : Nat) (fr : Addr → Prop) (a D : Addr) : Cc := { toMc := M, N := N, sc := sc, k := k, fr := fr, fnc := fun _ => true, cm := false, ex := some (a, .ref D, none) }
theorem FnE.ofBody {M : Mc} {x : Str} {st : Stmt} {k : Nat} {N : List Str} {p0 : Str} {β : Type} {ρ : (Addr → Prop) → β → Rp} {m : Exn → W β} (F : FunM M x st [p0]) (S : FnScope N [p0] (defScope st))
    (h : ∀ (fr : Addr → Prop) (e : Exn) (a D : Addr), e.pay = none → M.mg e.cls = some (.ref D) → Ex (initE M N (defScope st) k fr a D) (Γ0 [rX a ()] N) (defBody st) (fun b => .rt (ρ fr b)) (m e)) : FnE M x (k + 1) ρ m := by
  obtain ⟨f, fd, F, mg, b⟩ := F
  refine ⟨f, fd, [p0], fun c D hD => ?_, mg, F.kp, b⟩
  obtain ⟨oc, od, kV, doc, pm, an, cdv, ct, osl, rfl, lk, hcd⟩ := F.ex
  refine fn_ofS lk hcd S rfl fun A outer s H Q p hot hr hz hf hsp => ?_
  obtain ⟨F', Nf, hNf, sm, w⟩ := hsp
  refine ⟨_, pss_W, ?_⟩
  obtain ⟨a, oe⟩ := p
  have hX : cxS M.P M.w M.K M.mg M.base N x (defScope st) f cdv A outer s H (a, oe) = (cxS M.P M.w M.K M.mg M.base N x (defScope st) f cdv A outer s H (a, oe)).suite a [(a, oe)] := by
    have q := mark_deeper (env := envOfC x (defScope st) s.heap.objs.size f cdv) hot
    unfold Cx.suite
    show _ = { cxS M.P M.w M.K M.mg M.base N x (defScope st) f cdv A outer s H (a, oe) with A := (A.deeper (envOfC x (defScope st) s.heap.objs.size f cdv)).mark (some (.ref a)), calm := false, pn := [(a, oe)], xe := fun _ _ => False }
    rw [q]
    rfl
  have hu := hr.un
  refine h Nf ⟨c, none⟩ a D rfl hD (cxS M.P M.w M.K M.mg M.base N x (defScope st) f cdv A outer s H (a, oe)) (fun _ _ _ _ => False) ⟨⟨rfl, rfl, rfl, rfl, rfl, rfl, rfl, S.nd, rfl, fun h => (nomatch h), show (A.deeper _).units + 64 < _ by omega, fun a' cls' d' h => ?_, fun _ _ => rfl⟩, PassesOwn.never, rfl, rfl⟩ takes0 F' H (fun _ => emp) (L2.start N [V.ref a]) ?_ _ ((m ⟨c, none⟩).mono (fun b hb => ?_) (fun e he => he.elim) w)
  · have h : some (a, Value.ref D, (none : Option Addr)) = some (a', cls', d') := h
    cases h
    exact ⟨hr, _, [], oe, hX, hz, hf⟩
  · have q := start_ok (M := M) (N := N) (sc := defScope st) (k := k) (vs := [V.ref a]) (R := [rX a ()]) hNf sm (.cons rfl .nil)
    exact ⟨q.len, q.slot, q.sF, q.sG, q.dF, q.dG, q.fr⟩
  · intro F2 H2 g2 v f2 s2 r2
    exact hb F2 H2 g2 v (show Fr F' H (fun _ => False) F2 H2 (dU g2) from ⟨f2.sF, fun b z => (f2.fF b z).imp_right fun q => q.imp_right fun ⟨_, q⟩ => absurd rfl q, fun b o q _ => f2.keep b o q fun ⟨_, z⟩ => absurd rfl z, f2.dom, fun b z => (f2.gs b z).imp_left fun ⟨_, q⟩ => absurd rfl q⟩) s2 r2
section
variable {C : Cc} {Γ : List Slot} {β : Type} {e : Expr} {pos p q : Pos} {x : Str} {j : Nat}
end
end Y

/-! Y33: an own exception with a name: raised, caught, its name read -/
namespace Y
open PySem PySem.Spec L2 PyProof.Rows
/-! ### C.__init__(self, ..) of an own class that has it from ValueError -/
structure BaseI (K : PySem.W.Frag) (B : Addr) : Prop where
  ga : PySem.W.specialIn K (.ref B) "__getattribute__" = some (some (.builtin "type.__getattribute__"))
  tB : PySem.W.typeIn K (.ref B) = some (.type "type")
  rd : PySem.W.readsIn K B (.type "type") = true
  fi : PySem.W.findCls K (.ref B) (.type "type") "__init__" = some (.val (.builtin "ValueError.__init__"))
section
variable {X : Cx} {e : Expr} {es : List Expr} {ta : TA} {x : Str} {B : Addr} {p1 p2 pos : Pos}
end
/-! ### the class, its __init__ -/
def spN (C : Addr) : Sp := fun vs H Q _ => ∃ (a : Addr) (z : Str), vs = [.ref a, .str z] ∧ H a = some (exo a C none) ∧ ∀ dx, H dx = none → dx ≠ a → Q .non (upd (upd H dx (exd dx [("name", .str z)])) a (exo a C (some dx)))
def InitCall (e : Expr) (es : List Expr) (x : Str) (p1 p2 pos : Pos) : Prop := ∀ env : Env, ∃ pl : Sem Bool, eval (.Call (.Attribute (.Name x p1) "__init__" p2) (e :: es) [] pos) env = (do
      let ov ← eval (.Name x p1) env
      standAt p2.atName
      let (f, first) ← holding [ov] (getMethod ov "__init__" pl)
      callWith pos f first (backTo pos (starEach (e :: es) env)) (backToKw pos (keywordEach [] env)))
/-- raise x(name) may be done -/
structure RaiN (M : Mc) (x : Str) : Prop where
  ex : ∃ C fI fd, M.mg x = some (.ref C) ∧ OexC M.K C ∧ PySem.W.findIn M.K (.ref C) "__init__" = some (some (.ref fI)) ∧ PySem.W.typeIn M.K (.ref fI) = some (.type "function") ∧ Binds M.K fd ["self", "name"] [] ∧
    FnOk M.P M.w M.K M.mg M.base (L2.CX M.P M.w) 1 fI fd ["self", "name"] (spN C)
section
variable {C : Cc} {Γ Γ' : List Slot} {α β ω : Type} {J : ω → Out} {e e1 e2 : Expr} {pos p p2 : Pos} {rest : List Stmt}
/-! ### a try whose suite may read the name -/
def PayOk (F : Hp) (pay : Option Str) (d : Option Addr) : Prop := match pay with
  | none => d = none
  | some z => ∃ b, d = some b ∧ F b = some (.xd [("name", .str z)])
theorem PayOk.mono {F F' : Hp} {pay : Option Str} {d : Option Addr} (s : Same F F') (h : PayOk F pay d) : PayOk F' pay d := by
  cases pay with
  | none => exact h
  | some z => obtain ⟨b, e1, e2⟩ := h; exact ⟨b, e1, s _ _ e2⟩
def rXg (a : Addr) (pay : Option Str) (d : Option Addr) (_ : Unit) : Rp := ⟨fun F v => v = .ref a ∧ PayOk F pay d, fun s h => ⟨h.1, h.2.mono s⟩⟩
def tryG {ω : Type} (m : W ω) (c : Str → Option Bool) (h : Exn → W ω) : W ω :=
  ⟨fun P E => m.wp P (fun e => match c e.cls with
      | some true => (h e).wp P (fun _ => False)
      | some false => E e
      | none => False),
   fun hp he x => m.mono hp (fun e y => by
      split <;> rename_i q <;> simp only [q] at y
      · exact (h e).mono hp (fun _ z => z) y
      · exact he _ y) x⟩
/-! ### isinstance, the name -/
def rIsEg (K : PySem.W.Frag) (D a : Addr) (d : Option Addr) : List V → Hp → VK → Prop := fun xs H Q => ∃ (c : V) (cv : Value) (b : Bool), xs = [.ref a, c] ∧ (∀ q, d = some q → ∃ fs, H q = some (.xd fs)) ∧ (∀ u, RelV c u → u = cv) ∧ PySem.W.kitOne K (.ref D) cv = some b ∧ Q (.bl b) H
theorem PayOk.xd {F : Hp} {pay : Option Str} {d : Option Addr} (h : PayOk F pay d) : ∀ q, d = some q → ∃ fs, F q = some (.xd fs) := fun q e => by
  cases pay with
  | none => rw [show d = none from h] at e; cases e
  | some z => obtain ⟨b, e1, e2⟩ := h; rw [e1] at e; cases e; exact ⟨_, e2⟩
def payW (p : Option Str) : W Str := match p with
  | some z => pure z
  | none => W.bad
end
end Y
namespace Y
open PySem PySem.Spec L2 PyProof.Rows
def NmTab (M : Mc) (tab : List ((Str × Str) × Bool)) : Prop := ∀ c x b D, tabF tab c x = some b → M.mg c = some (.ref D) → PySem.W.findIn M.K (.ref D) "name" = some Option.none
theorem NmTab.of {M : Mc} : ∀ {tab : List ((Str × Str) × Bool)}, (∀ p ∈ tab, ∀ D, M.mg p.1.1 = some (.ref D) → PySem.W.findIn M.K (.ref D) "name" = some Option.none) → NmTab M tab
  | [], _, _, _, _, _, e, _ => by cases e
  | (p, d) :: r, h, c, x, b, D, e, hD => by
    unfold tabF at e
    rw [List.lookup_cons] at e
    split at e
    · rename_i q
      have q' := eq_of_beq q
      exact h (p, d) (by simp) D (by rw [← q']; exact hD)
    · exact NmTab.of (fun p hp => h p (List.mem_cons_of_mem _ hp)) c x b D e hD
end Y

/-! Y34: a call that is handed a new bag -/
namespace Y
open PySem PySem.Spec L2
section
variable {C : Cc} {Γ Γ' : List Slot} {α β γ δ ε ω : Type} {J : ω → Out} {e e0 e1 e2 e3 a b : Expr} {p p2 pos : Pos} {rest sts : List Stmt} {x : Str} {j : Nat}
end
end Y

/-! Y35: len of one of two; a def that appends to each list of a tuple it is handed -/
namespace Y
open PySem PySem.Spec L2
section
variable {C : Cc} {Γ Γ' : List Slot} {α β γ δ ε ω : Type} {J : ω → Out} {e e0 e1 e2 e3 a b : Expr} {p p2 pos : Pos} {rest sts : List Stmt} {x : Str} {j : Nat}
end
instance {K : PySem.W.Frag} {α β γ δ ε : Type} {r1 : α → Rp} {r2 : β → Rp} {r3 : γ → Rp} {r4 : δ → Rp} {r5 : ε → Rp} : TyK K (rT5 K r1 r2 r3 r4 r5) "tuple" := ⟨fun x F H v s ⟨a, _, _, _, _, _, e, q, _⟩ => by subst e; exact SqT.ty (Same.seqT s q)⟩
/-! ### a def that appends to each list of a tuple -/
def Keeps (G H : Hp) : Prop := ∀ b o, G b = some o → (∀ ws, o ≠ .lst ws) → H b = some o
inductive PartOk (K : PySem.W.Frag) (G : Hp) (u : V) : Prop
  | other {T : String} (h : kitB T "list" = some false) (ty : ∀ H, Keeps G H → TyX K H u (.type T))
  | list {b : Addr} {ws : List V} (e : u = .ref b) (h : G b = some (.lst ws)) (hl : ws.length ≤ 2000000)
def SpOk (K : PySem.W.Frag) (G : Hp) (v : V) : Prop := ∃ T us, v = .ref T ∧ G T = some (.tup us) ∧ us.length ≤ 5 ∧ ∀ u ∈ us, PartOk K G u
def spSp (M : Mc) : Sp := fun vs H Q E => ∃ (G : Hp) (v : V), vs = [v] ∧ Same G H ∧ SpOk M.K G v ∧ ∀ H', (∀ b o, H b = some o → G b = none → H' b = some o) → (∀ b, H b ≠ none → H' b ≠ none) → Q .non H'
structure SpoilV (M : Mc) (x : Str) (j : Nat) : Prop where
  ex : ∃ f fd ps, FnOk M.P M.w M.K M.mg M.base (L2.CX M.P M.w) j f fd ps (spSp M) ∧ M.mg x = some (.ref f) ∧ PySem.W.keepIn M.K (.ref f) = true ∧ Binds M.K fd ps []
def spoilBody (n0 n1 : Str) (p1 p2 p3 p4 p5 p6 p7 p8 p9 p10 p11 p12 p13 : Pos) (k0 : Nat) : List Stmt :=
  [.For (.Name n1 p1) (.Name n0 p2) [.If (.Call (.Name "isinstance" p3) [.Name n1 p4, .Name "list" p5] [] p6) [.Expr (.Call (.Attribute (.Name n1 p7) "append" p8) [.Constant (.int 1) k0 p9] [] p10) p11] [] p12] [] p13]
theorem SpoilV.ofBody {M : Mc} {x n0 n1 : Str} {st : Stmt} {k : Nat} {p1 p2 p3 p4 p5 p6 p7 p8 p9 p10 p11 p12 p13 : Pos} {k0 : Nat} (F : FunM M x st [n0]) (S : FnScope [n0, n1] [n0] (defScope st)) (hB : defBody st = spoilBody n0 n1 p1 p2 p3 p4 p5 p6 p7 p8 p9 p10 p11 p12 p13 k0)
    (hv0 : visB (defScope st) n0 = true) (hv1 : visB (defScope st) n1 = true) (hs1 : stoB (initC M [n0, n1] (defScope st) k (fun _ => True)) n1 = true) (hd0 : (n0 == ("__debug__" : Str)) = false ∧ (n0 == ("__classdict__" : Str)) = false) (hd1 : (n1 == ("__debug__" : Str)) = false ∧ (n1 == ("__classdict__" : Str)) = false)
    (gi : (defScope st).names.lookup ("isinstance" : Str) = some .globalImplicit) (mi : M.mg "isinstance" = none) (gl : (defScope st).names.lookup ("list" : Str) = some .globalImplicit) (ml : M.mg "list" = none) (hl : (p8.endLine == p10.line) = true) : SpoilV M x (k + 1) := by
  obtain ⟨f, fd, F, hmg, hb⟩ := F
  refine ⟨⟨f, fd, _, F.okX S (fun vs H Q E ⟨G, v, e, _⟩ => by rw [e]; rfl) (fun cdv A' outer s H vs Q E hr ⟨G, v, e, sg, ⟨T, us, ev, hT, hl5, hus⟩, hq⟩ => ?_), hmg, F.kp, hb⟩⟩
  subst e
  subst ev
  refine ⟨_, pss_W, ?_⟩
  rw [hB]
  have ok : (initC M [n0, n1] (defScope st) k (fun _ => True)).OkS (cxOf (L2.CX M.P M.w) M.P M.w M.K M.mg M.base [n0, n1] x (defScope st) f cdv A' outer s H E) := ⟨⟨rfl, rfl, rfl, rfl, rfl, rfl, rfl, S.nd, rfl, fun _ => hr, hr.units, fun _ _ _ h => (nomatch h), fun _ _ => rfl⟩, passes_of rfl, rfl, rfl⟩
  have eK : (cxOf (L2.CX M.P M.w) M.P M.w M.K M.mg M.base [n0, n1] x (defScope st) f cdv A' outer s H E).K = M.K := rfl
  generalize cxOf (L2.CX M.P M.w) M.P M.w M.K M.mg M.base [n0, n1] x (defScope st) f cdv A' outer s H E = X at ok eK ⊢
  have bi : Blt (initC M [n0, n1] (defScope st) k (fun _ => True)) "isinstance" (.builtin "isinstance") := bt_isinstance gi mi
  have bl : Blt (initC M [n0, n1] (defScope st) k (fun _ => True)) "list" (.type "list") := bt_list gl ml
  have hN : X.N = [n0, n1] := ok.N
  have hsc : X.env.scope = defScope st := ok.sc
  have hmg2 : X.mg = M.mg := ok.mg
  have sto := stoOf hs1
  have pv0 : PE X (.Name n0 p2) (tVar 0) := pe_var (i := 0) (by rw [hN]; rfl) (by rw [hsc]; exact visOf hv0) hd0.1 hd0.2
  have pv1 : ∀ p, PE X (.Name n1 p) (tVar 1) := fun p => pe_var (i := 1) (by rw [hN]; rfl) (by rw [hsc]; exact visOf hv1) hd1.1 hd1.2
  have pg1 : PG X (.Name n1 p1) (gName 1) := pg_name ok.ndX (by rw [hN]; rfl) (sto.loc ok.toOk) (sto.fn ok.toOk)
  have pis : PE X (.Call (.Name "isinstance" p3) [.Name n1 p4, .Name "list" p5] [] p6) (tCB (rIsi X.K) (tCons (tVar 1) (tCons (tC (.ty "list")) tNil))) := pe_callB call_isi (bi.gl ok.toOk) (by rw [hmg2]; exact mi) bi.v (pa_cons (pv1 p4) (pa_cons (pe_bltn (v := .ty "list") (bl.gl ok.toOk) (by rw [hmg2]; exact ml) bl.v rfl bl.n bl.d) pa_nil))
  have pap : PE X (.Call (.Attribute (.Name n1 p7) "append" p8) [.Constant (.int 1) k0 p9] [] p10) (tBM X.K "list" rAppend (tVar 1) (tCons (tC (.int 1)) tNil)) :=
    pe_bm PySem.F.plainAttrs_list PySem.F.slot_list_append PySem.F.type_list_append mt_append (pv1 p7) (pa_cons pe_int pa_nil) rfl rfl hl rfl rfl
  refine WS.of (pss_cons (ps_for ok.po (ok.toOk.calm.trans rfl) (pi_tup pv0) pg1 (pss_cons (ps_if (pt_val pis) (pss_cons (ps_expr pap rfl) pss_nil) pss_nil) pss_nil)) pss_nil) ?_
  obtain ⟨hkeep, hdom⟩ : True ∧ True := ⟨trivial, trivial⟩
  have hHT : H T = some (.tup us) := sg T _ hT
  refine ⟨.ref T, rfl, T, rfl, ⟨us, .inl (.inl hHT)⟩, fun i m σ H' => m = us.length - i ∧ i ≤ us.length ∧ σ.length = 2 ∧ σ[0]? = some (some (.ref T)) ∧ (∀ b o, H b = some o → G b = none → H' b = some o) ∧ (∀ b, H b ≠ none → H' b ≠ none) ∧ Keeps G H' ∧ ∀ b ws, G b = some (.lst ws) → ∃ ws', H' b = some (.lst ws') ∧ ws'.length ≤ ws.length + i, ⟨us.length, rfl, Nat.zero_le _, rfl, rfl, fun _ _ h _ => h, fun _ h => h, fun b o h _ => sg b o h, fun b ws h => ⟨ws, sg b _ h, Nat.le_refl _⟩⟩, fun i m σ H' ⟨em, hi, hσl, hσ0, k1, k2, k3, k4⟩ => ?_⟩
  have hT' : H' T = some (.tup us) := k3 T _ hT (fun ws z => by cases z)
  have hsq : SqT X.K H' T us := .inl (.inl hT')
  by_cases hlt : i < us.length
  · refine .inr ⟨⟨us, us[i], hsq, List.getElem?_eq_getElem hlt⟩, fun σ2 H2 => us.length - (i + 1) = us.length - (i + 1) ∧ i + 1 ≤ us.length ∧ σ2.length = 2 ∧ σ2[0]? = some (some (.ref T)) ∧ (∀ b o, H b = some o → G b = none → H2 b = some o) ∧ (∀ b, H b ≠ none → H2 b ≠ none) ∧ Keeps G H2 ∧ ∀ b ws, G b = some (.lst ws) → ∃ ws', H2 b = some (.lst ws') ∧ ws'.length ≤ ws.length + (i + 1), fun σ2 H2 w2 => ⟨_, by omega, w2⟩, fun y H2 ⟨e2, hy⟩ => ?_⟩
    subst e2
    have ey := hy us hsq
    rw [List.getElem?_eq_getElem hlt] at ey
    have ey : us[i] = y := Option.some.inj ey
    have hpart := hus us[i] (List.getElem_mem _)
    rw [ey] at hpart
    have g1 : (σ.set 1 (some y))[1]? = some (some y) := by rw [List.getElem?_set_self (by omega)]
    have g0 : (σ.set 1 (some y))[0]? = some (some (.ref T)) := by rw [List.getElem?_set_ne (by decide)]; exact hσ0
    have gl2 : (σ.set 1 (some y)).length = 2 := by rw [List.length_set]; exact hσl
    show tSeq _ _ _ _ _
    refine ⟨y, g1, ?_⟩
    cases hpart with
    | @other T2 hk ty =>
      refine ⟨y, .ty "list", .type T2, .type "list", false, rfl, .ty "list", by rw [eK]; exact ty _ k3, by rw [eK]; exact kit_ty hk, false, rfl, ?_⟩
      simp only [Bool.false_eq_true, if_false]
      exact ⟨trivial, by omega, gl2, g0, k1, k2, k3, fun b ws h => by obtain ⟨ws', a1, a2⟩ := k4 b ws h; exact ⟨ws', a1, by omega⟩⟩
    | @list b ws e h hl2 =>
      subst e
      obtain ⟨ws', a1, a2⟩ := k4 b ws h
      refine ⟨.ref b, .ty "list", .type "list", .type "list", true, rfl, .ty "list", .base (.lst a1), by rw [eK]; exact kit_ty (by decide +kernel), true, rfl, ?_⟩
      simp only [if_true]
      refine ⟨.ref b, g1, .inl ⟨rfl, _, SqL.of a1⟩, b, ws', .int 1, rfl, rfl, a1, by rw [PySem.sizeLine_eq]; omega, trivial, by omega, gl2, g0, fun c o hc hg => ?_, fun c hc => ?_, fun c o hc hn => ?_, fun c us2 hc => ?_⟩
      · have : c ≠ b := fun z => by rw [z, h] at hg; cases hg
        rw [upd_ne this]; exact k1 c o hc hg
      · by_cases z : c = b
        · rw [z, upd_same]; simp
        · rw [upd_ne z]; exact k2 c hc
      · have : c ≠ b := fun z => by rw [z, h] at hc; exact hn _ (Option.some.inj hc).symm
        rw [upd_ne this]; exact k3 c o hc hn
      · by_cases z : c = b
        · rw [z, upd_same]
          rw [z, h] at hc
          cases hc
          exact ⟨_, rfl, by simp; omega⟩
        · obtain ⟨w3, b1, b2⟩ := k4 c us2 hc
          rw [upd_ne z]; exact ⟨w3, b1, by omega⟩
  · exact .inl ⟨⟨us, hsq, by omega⟩, hq H' k1 k2⟩
section
variable {C : Cc} {Γ Γ' : List Slot} {ω : Type} {J : ω → Out} {p py cpos pos : Pos} {rest : List Stmt} {x y : Str} {i j : Nat}
end
end Y

/-! Y36: a list of new lists, no two the same; x[k].clear() -/
namespace Y
open PySem PySem.Spec L2
/-- no two the same, none the list itself -/
def Dn (a : Addr) (vs : List V) : Prop := vs.Nodup ∧ ∀ u ∈ vs, ∃ b, u = .ref b ∧ b ≠ a
section
variable {α β γ δ ε ω : Type}
def oLD (N : Addr → Prop) (r : α → Rp) (xs : List α) : Op :=
  ⟨fun F G v => ∃ a vs, v = .ref a ∧ N a ∧ G = one a (.lst vs) ∧ All2 (fun u x => (r x).p F u) vs xs ∧ Dn a vs, fun h ⟨a, vs, e, n, q, t, d⟩ => ⟨a, vs, e, n, q, t.imp fun _ _ z => (r _).mono h z, d⟩⟩
def rDL (N : Addr → Prop) (r : α → Rp) (xs : List α) : Rp :=
  ⟨fun F v => ∃ a vs, v = .ref a ∧ N a ∧ F a = some (.lst vs) ∧ All2 (fun u x => (r x).p F u) vs xs ∧ Dn a vs, fun h ⟨a, vs, e, n, q, t, d⟩ => ⟨a, vs, e, n, h _ _ q, t.imp fun _ _ z => (r _).mono h z, d⟩⟩
theorem Frs.D {ρ : (Addr → Prop) → α → Rp} (h : Frs ρ) : Frs (fun N => rDL N (ρ N)) := ⟨fun N b F v ⟨a, vs, e, n, q, t, d⟩ => ⟨a, vs, e, n, by rw [restr_at n]; exact q, t.imp fun _ _ z => h.re _ _ _ _ z, d⟩, fun N N' b F v hn ⟨a, vs, e, n, q, t, d⟩ => ⟨a, vs, e, hn _ n, q, t.imp fun _ _ z => h.mo _ _ _ _ _ hn z, d⟩⟩
instance {K : PySem.W.Frag} {N : Addr → Prop} {r : α → Rp} : TyK K (rDL N r) "list" := ⟨fun x F H v s ⟨a, vs, e, _, q, _⟩ => by subst e; exact .base (.lst (s _ _ q))⟩
/-- what is new stands at an address of N -/
def AtN (ρ : (Addr → Prop) → β → Rp) : Prop := ∀ N y F v, (ρ N y).p F v → ∃ b, v = .ref b ∧ N b ∧ F b ≠ none
theorem AtN.N {ρ : (Addr → Prop) → β → Rp} : AtN (fun N => rN N (ρ N)) := fun N y F v ⟨a, vs, e, n, q, _⟩ => ⟨a, e, n, by rw [q]; simp⟩
end
section
variable {C : Cc} {Γ Γ' : List Slot} {α β γ δ ε ω : Type} {J : ω → Out}
/-- k-th emptied -/
def clrI (xs : List (List α)) (i : Int) : W (List (List α)) := match ixN xs.length i with | some j => pure (xs.set j []) | none => W.bad
/-- what a method without arguments tells, all of it the asker's own -/
theorem EvO.methFr0 {A : Addr} {fl : α → Fl2} {o : Expr} {x : Str} {j : Nat} {apos pos : Pos} {ρ : (Addr → Prop) → β → Rp} {mf : α × Unit → W β} {mo : W α} (hb : All2 (Bo C) Γ Γ') (hv : noOwn Γ' = true) (hρ : Frs ρ) (hf : MetV C.toMc A x j 1 (fun N t => [rIns A fl t.1]) ρ mf) (hj : j ≤ C.k) (hc : Cls C.K A) (hlk : ∀ y, (fl y).lookup x = Option.none) (ho : Ev C Γ' o (rIns A fl) mo)
    (ht : ∀ X : Cx, ∃ pl : Sem Bool, eval (.Call (.Attribute o x apos) [] [] pos) X.env = (do
      let ov ← eval o X.env
      standAt apos.atName
      let (f, first) ← holding [ov] (getMethod ov x pl)
      callWith pos f first (backTo pos (starEach [] X.env)) (backToKw pos (keywordEach [] X.env))) := by intro _; exact ⟨_, rfl⟩) (hcm : C.cm = true := by rfl) :
    EvO C Γ (.Call (.Attribute o x apos) [] [] pos) (oV ρ C.fr) (do let y ← mo; mf (y, ())) :=
  fun X Wx ok tk F H g σ s Q hm => by
    obtain ⟨⟨f, fd, ps, hF, hM, hbd⟩, hl⟩ := hf
    obtain ⟨pl, hpl2⟩ := ht X
    have e1 := ok.prog
    have e2 := ok.w
    have e3 := ok.K
    have e4 := ok.mg
    have e5 := ok.base
    have hv' : ∀ (i : Nat) (O : Op), Γ'[i]? ≠ some (Slot.own O) := fun i O q => noOwn.ok hv _ (List.mem_of_getElem? q) O rfl
    obtain ⟨sz, zF, zG, _⟩ := s.frzA hb hv'
    refine WE.of (pe_methYX0 (pl := pl) (E := fun σ => L2.WE Wx σ) (pe_W (e := o)) (by rw [e3]; exact hc) (by rw [e3]; exact hM) (by rw [e1, e2, e3, e4, e5]; exact hF) ((ok.room hcm).mono hj) (by rw [e3]; exact hbd) (fun σ => by
      have := passAt tk σ
      rw [e1, e2] at this
      exact this) hpl2) ?_
    refine ho X Wx ok tk _ H _ σ sz _ (mo.mono (fun y hy F1 H1 g1 v1 f1 s1 r1 => ?_) (fun e he => he.frz s hb hv') hm)
    obtain ⟨a, dx, fs, ev, h1, h2, t1⟩ := id r1
    refine ⟨a, dx, fs, ev, s1.sF _ _ h1, t1.no (hlk y), ?_⟩
    refine ⟨(y, ()), F1, fun a => H1 a = Option.none, fun _ z => z, s1.sF, .cons (by rw [← ev]; exact r1) .nil, (mf (y, ())).mono (fun b hb2 F2 H2 g2 v f2 s2 r2 => ?_) (fun e he F2 H2 g2 cls d f2 s2 hx => ?_) hy⟩
    · obtain ⟨s3, f3⟩ := s1.call0 f2 s2
      obtain ⟨s4, f4⟩ := s.unfrz hb hv' (f1.trans f3) s3
      obtain ⟨G, g1, g2, g3, g4, g5, g6⟩ := newG hρ s zF zG sz.sF (N := fun a => H1 a = Option.none) (fun b z => by
        cases q3 : H b with
        | none => rfl
        | some u => exact absurd z (f1.dom b (by rw [q3]; simp))) s4 f4 s2 r2
      exact hb2 F H2 g G v g1 s4 g2 g3 g4 g5 g6
    · obtain ⟨s3, f3⟩ := s1.call0 f2 s2
      exact (he.frz s hb hv') F2 H2 g1 cls d (f1.trans f3) s3 ((hx.reg s1.sG).later f1)
instance {N : Addr → Prop} {ρ : (Addr → Prop) → α → Rp} {xs : List α} : IsLst (oV (fun N => rDL N (ρ N)) N xs) := ⟨fun _ _ _ ⟨_, a, vs, e, _, q, _⟩ => ⟨a, vs, e, q⟩⟩
end
end Y

/-! Y37: texts read: split, endswith, upper, count, index, int -/
namespace Y
open PySem PySem.Spec L2
/-- list.count of flat values -/
def rCntF (K : PySem.W.Frag) : V → List V → Hp → VK → Prop := fun x xs H Q => ∃ (p : Addr) (ys : List V) (y : V), x = .ref p ∧ xs = [y] ∧ SqL K H p ys ∧ flatV y = true ∧ ys.all flatV = true ∧ Q (.int (ys.countP (fun z => eqV z y) : Nat)) H
section
variable {C : Cc} {Γ Γ' : List Slot} {α β γ δ ε ω : Type} {J : ω → Out} {e o e0 e1 e2 e3 a b : Expr} {p p2 pos apos : Pos} {rest sts : List Stmt} {x : Str} {j : Nat}
/-- x.split(y), new -/
theorem EvO.split {m1 m2 : W Str} (ho : Ev C Γ o rS m1) (he : Ev C Γ e rS m2) (hn : NoStar e) (hbase : ∀ X : Cx, attributeBase o "split" X.env (eval o X.env) = eval o X.env := by intro _; rfl) (hline : (apos.endLine == pos.line) = true := by rfl) :
    EvO C Γ (.Call (.Attribute o "split" apos) [e] [] pos) (oL C.fr rS) (do let x ← m1; let y ← m2; W.req ((y.length == 0) = false ∧ x.length ≤ 1000000) (pure (Txt.split x y))) := fun X Wx ok tk F H g σ s Q hm => by
  refine WE.of (pe_split (pe_W (e := o)) (pe_W (e := e)) (hn [] X.env) (hbase X) hline) ?_
  refine ho X Wx ok tk F H g σ s _ (m1.mono (fun x hx F1 H1 g1 v f1 s1 r1 => ?_) (fun e he => he) hm)
  refine ⟨⟨x, r1⟩, he X Wx ok tk F1 H1 g1 σ s1 _ (m2.mono (fun y hy F2 H2 g2 w f2 s2 r2 => ?_) (fun e he => XEnd.later f1 he) hx)⟩
  obtain ⟨⟨h1, h2⟩, hy⟩ := hy
  refine ⟨x, y, r1, by rw [show w = .str y from r2], h1, by rw [PySem.sizeLine_eq]; omega, fun p hp => ?_⟩
  have t : All2 (fun u z => (rS z).p F2 u) ((Txt.split x y).map V.str) (Txt.split x y) := All2.ofMem V.str (fun z => z) (Txt.split x y) (fun z _ => rfl) |> fun h => by simpa using h
  exact EvO.fin (O := oL C.fr rS (Txt.split x y)) (f1.trans f2) s2 hp (fun n => ⟨p, _, rfl, n, rfl, t⟩) hy
end
end Y

/-! Y38: how many unlike texts a list has: len(set(xs)) -/
namespace Y
open PySem PySem.Spec
/-- the unlike ones, in the order in which they come -/
def unl1 (σ : List Str) (x : Str) : List Str := if σ.any (· == x) = true then σ else σ ++ [x]
def unl (xs : List Str) : List Str := xs.foldl unl1 []
section
open PyProof.Rows
variable {prog : Program} {w : World} {A : Around} {R : Result → Shared → Prop} {I : Addr} {fp wr : List Addr} {G : Array GenState → Array GenState → Prop} {n : Nat} {P : Nat → Value → Prop} {St : Nat → Shared → Prop}
/-- the set S of the first i texts -/
def SetT (prog : Program) (w : World) (h : Heap) (S : Addr) (xs : List Str) : Prop := h.SetOf (PySem.strKind prog w) S (fun k' => (unl xs).any (· == k')) (unl xs).length
end
section
open PyProof.Rows
variable {prog : Program} {w : World} {A : Around} {E : Value → Shared → Prop} {s : Shared}
/-- a new set, without anything in it -/
def set0 (led : Bool) : Obj := { cls := .type "set", dict := none, data := .set #[] 0 (.fresh 0 0 led) }
end
section
open PyProof.Rows L2
def tLenSetT (K : PySem.W.Frag) (ta : TE) : TE := fun σ H Q => ta σ H fun x H1 => ∃ l, ∃ xs : List Str, x = .ref l ∧ SqL K H1 l (xs.map V.str) ∧ xs.length + 1 < scanBound ∧ Q (.int (unl xs).length) H1
variable {X : Cx}
end
section
open L2
variable {C : Cc} {Γ : List Slot} {e : Expr} {p p2 q pos : Pos}
/-- x.upper() -/
theorem Ev.upper {o : Expr} {apos : Pos} {m1 : W Str} (ho : Ev C Γ o rS m1) (hbase : ∀ X : Cx, attributeBase o "upper" X.env (eval o X.env) = eval o X.env := by intro _; rfl) (hline : (apos.endLine == pos.line) = true := by rfl) :
    Ev C Γ (.Call (.Attribute o "upper" apos) [] [] pos) rS (do let x ← m1; W.req (x.length ≤ 1000000) (pure (Txt.upper x))) := fun X Wx ok tk F H g σ s Q hm => by
  refine WE.of (pe_upper (pe_W (e := o)) (hbase X) hline) ?_
  refine ho X Wx ok tk F H g σ s _ (m1.mono (fun x hx F1 H1 g1 v f1 s1 r1 => ?_) (fun e he => he) hm)
  exact ⟨⟨x, r1⟩, x, r1, rfl, by have := hx.1; omega, hx.2 F1 H1 g1 _ f1 s1 rfl⟩
end
end Y

/-! Y39: t[1:] of a tuple of three -/
namespace Y
open PySem PySem.Spec L2
section
variable {C : Cc} {Γ Γ' : List Slot} {a : Expr} {p2 pos : Pos}
end
end Y

/-! Y40: range of three; a text times a number -/
namespace Y
open PySem PySem.Spec L2
/-- lo, lo + c, .. : n of them -/
def rngC (lo c : Int) (n : Nat) : List Int := (List.range n).map fun (i : Nat) => lo + (i : Int) * c
/-- range(0, hi, c) for c from 1 on -/
def range3W (lo hi c : Int) : W (List Int) := W.req (lo = 0 ∧ 0 ≤ hi ∧ hi ≤ 1000000 ∧ 1 ≤ c ∧ c ≤ 1000000) (pure (rngC 0 c ((hi + c - 1) / c).toNat))
section
variable {C : Cc} {Γ : List Slot} {e1 e2 e3 a b tg : Expr} {p pos : Pos}
/-- a text, some times -/
def repT (x : Str) (n : Int) : Str := ⟨(List.replicate n.toNat x.cps).foldl (· ++ ·) #[]⟩
def repS (x : Str) (n : Int) : W Str := W.req (2 ≤ n ∧ n ≤ 1000 ∧ 1 ≤ x.length ∧ x.length ≤ 1000) (pure (repT x n))
end
/-! ### tuples are no texts -/
instance {K : PySem.W.Frag} {α β : Type} {r1 : α → Rp} {r2 : β → Rp} [I : DatE K r1] [J : DatE K r2] : NoS (K := K) (rT2 K r1 r2) := ⟨fun _ _ => rfl, fun _ _ => rfl⟩
instance {K : PySem.W.Frag} {α β γ : Type} {r1 : α → Rp} {r2 : β → Rp} {r3 : γ → Rp} [I : DatE K r1] [J : DatE K r2] [L : DatE K r3] : NoS (K := K) (rT3 K r1 r2 r3) := ⟨fun _ _ => rfl, fun _ _ => rfl⟩
/-! ### lists of many parts -/
section
variable {C : Cc} {Γ : List Slot} {pos : Pos} {α : Type} {r : α → Rp}
end
end Y

/-! Y41: an object that its own methods change (the clerk); partition; a global tuple of texts -/
namespace L2
open PySem PySem.Spec PyProof.Rows
section
variable {X : Cx} {CX : CXT} {k : Nat} {f C : Addr} {fd : FuncData} {ps : List Str} {sp : Sp} {E : St → XK} {x : Str} {p pos : Pos}
end
end L2
namespace Y
open PySem PySem.Spec L2
/-! ### partition -/
theorem htN {y nm : Str} {p2 : Pos} {apos : _} {pos : Pos} {e : Expr} (n1 : NoStar e) (hl : (apos.endLine == pos.line) = true) : ∀ X : Cx, ∃ pl : Sem Bool, eval (.Call (.Attribute (.Name y p2) nm apos) [e] [] pos) X.env = (do
      let ov ← eval (.Name y p2) X.env
      standAt apos.atName
      let (f', first) ← holding [ov] (getMethod ov nm pl)
      callWith pos f' first (backTo pos (starEach [e] X.env)) (backToKw pos (keywordEach [] X.env))) := by
  intro X
  refine ⟨(do return (← importBound (.Name y p2) X.env).getD true), ?_⟩
  have hs := n1 [] X.env
  show (do
    let ov ← attributeBase (.Name y p2) nm X.env (eval (.Name y p2) X.env)
    standAt apos.atName
    methodCall (.Name y p2) nm apos pos X.env ov ([e].length + ([] : List Keyword).length) (backTo pos (starEach [e] X.env)) (backToKw pos (keywordEach [] X.env))) = _
  rw [hs]
  have e1 : ∀ (f : Bool × Sem Value) , methodCallPos true (.Name y p2) X.env apos pos = pure pos := fun _ => by
    unfold methodCallPos
    rw [hl]
    rfl
  unfold methodCall
  have e2 : ∀ t, methodCallForm ([e].length + ([] : List Keyword).length) (backTo pos ((false, t) :: starEach [] X.env)) (backToKw pos (keywordEach [] X.env)) = true := fun t => rfl
  simp only [e2, e1 (false, eval e X.env)]
  rfl
section
variable {C : Cc} {Γ Γ' : List Slot} {α β γ ω : Type} {J : ω → Out} {e o a b : Expr} {pos p p2 apos : Pos} {rest : List Stmt} {x : Str} {j : Nat}
/-! ### a global tuple of texts -/
def rTS (K : PySem.W.Frag) (zs : List Str) : Rp := ⟨fun F v => ∃ a, v = .ref a ∧ SqT K F a (zs.map V.str), fun h ⟨a, e, q⟩ => ⟨a, e, Same.seqT h q⟩⟩
/-! ### a thing in a slot, changed by a call -/
theorem StOk.callX {F H F' H' G' : Hp} {σ : St} {g : Nat → Hp} {i : Nat} {v : V} {O' : Op} (s : StOk C F H Γ σ g) (hi : i < Γ.length) (hσ : σ[i]? = some (some v)) (f : Fr F H (fun b => g i b ≠ none) F' H' (fun b => g i b ≠ none)) (sF' : Same F' H') (sG' : Same G' H') (d' : Dis F' G') (hd : ∀ b, G' b ≠ none → g i b ≠ none) (r : O'.p F' G' v) :
    StOk C F' H' (Γ.set i (.own O')) σ (setG g i G') ∧ Fr F H (dU g) F' H' (dU (setG g i G')) := by
  have hgj : ∀ j, j ≠ i → ∀ b u, g j b = some u → g i b = none := fun j hj b u q => by
    rcases s.dG j i hj b with z | z
    · rw [q] at z; cases z
    · exact z
  refine ⟨⟨by rw [List.length_set]; exact s.len, fun j S q => ?_, sF', fun j => ?_, fun j => ?_, fun j k hjk => ?_, fun b q => ?_⟩, ⟨f.sF, fun b z => (f.fF b z).imp_right fun q => q.imp_right fun q => ⟨i, q⟩, fun b o q n => f.keep b o q fun z => n ⟨i, z⟩, f.dom, fun b z => ?_⟩⟩
  · by_cases hj : i = j
    · subst hj
      rw [List.getElem?_set_self hi] at q
      cases q
      rw [setG_same]
      exact ⟨v, hσ, r⟩
    · rw [List.getElem?_set_ne hj] at q
      rw [setG_ne (fun z => hj z.symm)]
      exact (s.slot j S q).mono f.sF
  · by_cases hj : j = i
    · subst hj; rw [setG_same]; exact sG'
    · rw [setG_ne hj]
      intro b u q
      exact f.keep b u (s.sG j b u q) fun z => z (hgj j hj b u q)
  · by_cases hj : j = i
    · subst hj; rw [setG_same]; exact d'
    · rw [setG_ne hj]
      intro b
      cases q : g j b with
      | none => exact .inr rfl
      | some u =>
        refine .inl ?_
        cases q2 : F' b with
        | none => rfl
        | some w =>
          have hH := s.sG j b u q
          rcases f.fF b (by rw [q2]; simp) with z | z | z
          · rcases s.dF j b with y | y
            · exact absurd y z
            · rw [q] at y; cases y
          · rw [hH] at z; cases z
          · exact absurd (hgj j hj b u q) z
  · have key : ∀ l, l ≠ i → ∀ b, G' b = none ∨ g l b = none := fun l hl b => by
      cases q : g l b with
      | none => exact .inr rfl
      | some u =>
        refine .inl ?_
        cases q2 : G' b with
        | none => rfl
        | some w => exact absurd (hgj l hl b u q) (hd b (by rw [q2]; simp))
    by_cases hj : j = i
    · subst hj
      rw [setG_same, setG_ne (fun z => hjk z.symm)]
      exact key k (fun z => hjk z.symm)
    · rw [setG_ne hj]
      by_cases hk : k = i
      · subst hk
        rw [setG_same]
        exact fun b => (key j hj b).symm
      · rw [setG_ne hk]; exact s.dG j k hjk
  · refine s.fr b ?_
    cases q2 : H b with
    | none => rfl
    | some u => exact absurd q (f.dom b (by rw [q2]; simp))
  · obtain ⟨j, z⟩ := z
    by_cases hj : j = i
    · subst hj
      rw [setG_same] at z
      exact .inl ⟨j, hd b z⟩
    · rw [setG_ne hj] at z
      exact .inl ⟨j, z⟩
/-- such a thing, at any place -/
def oClk (A : Addr) (fl : Fl2) : Op := ⟨fun F G v => ∃ a dx, (oIns A a dx fl).p F G v, fun h ⟨a, dx, r⟩ => ⟨a, dx, (oIns A a dx fl).mono h r⟩⟩
theorem two_a {a dx : Addr} {o u : HO} : two a o dx u a = some o := if_pos rfl
theorem two_d {a dx : Addr} {o u : HO} (h : dx ≠ a) : two a o dx u dx = some u := by unfold two; rw [if_neg h, if_pos rfl]
theorem two_dom {a dx : Addr} {o u : HO} {b : Addr} : two a o dx u b ≠ none ↔ b = a ∨ b = dx := by
  unfold two
  constructor
  · intro h
    split at h
    · rename_i e; exact .inl e
    · split at h
      · rename_i e; exact .inr e
      · exact absurd rfl h
  · intro h
    split
    · simp
    · rename_i n
      rcases h with q | q
      · exact absurd q n
      · rw [if_pos q]; simp
/-- a method that changes its object -/
def spC (M : Mc) (A : Addr) {δ τ β : Type} (ins : τ → List Rp) (fl : δ → Fl2) (ρ : β → Rp) (m : δ × τ → W (δ × β)) : Sp := fun vs H Q E => ∃ (s : δ) (t : τ) (F : Hp) (N : Addr → Prop) (p dx : Addr) (fs : List (Str × V)) (ws : List V), (∀ a, H a = none → N a) ∧ vs = .ref p :: ws ∧ Same F H ∧ F p = none ∧ F dx = none ∧ dx ≠ p ∧ H p = some (.ins A dx fs) ∧ H dx = some (.own p) ∧ FldOk F fs (fl s) ∧ All2 (fun v R => R.p F v) ws (ins t) ∧
  (m (s, t)).wp (fun y => ∀ F' H' fs' v, Fr F H (fun b => b = p ∨ b = dx) F' H' (fun b => b = p ∨ b = dx) → Same F' H' → F' p = none → F' dx = none → H' p = some (.ins A dx fs') → H' dx = some (.own p) → FldOk F' fs' (fl y.1) → (ρ y.2).p F' v → Q v H') (fun _ => False)
structure CMetV (M : Mc) (A : Addr) (x : Str) (j n : Nat) {δ τ β : Type} (ins : τ → List Rp) (fl : δ → Fl2) (ρ : β → Rp) (m : δ × τ → W (δ × β)) : Prop where
  ex : ∃ f fd ps, FnOk M.P M.w M.K M.mg M.base (L2.CX M.P M.w) j f fd ps (spC M A ins fl ρ m) ∧ Meth M.K A x f ∧ Binds M.K fd ps []
  len : ∀ t, (ins t).length = n
theorem CMetV.ofBody {M : Mc} {A f : Addr} {fd : FuncData} {x qual : Str} {st : Stmt} {k n : Nat} {N ps : List Str} {δ τ β : Type} {ins : τ → List Rp} {fl : δ → Fl2} {ρ : β → Rp} {m : δ × τ → W (δ × β)} (F : Fun M.K x qual st f fd) (hM : Meth M.K A x f) (hb : Binds M.K fd ps []) (S : FnScope N ps (defScope st))
    (hn : ps.length = n + 1) (hl : ∀ t, (ins t).length = n) (Γf : Addr → Addr → δ → List Slot) (hΓf : ∀ p dx s, (Γf p dx s)[0]? = some (.own (oIns A p dx (fl s)))) (h : ∀ (fr : Addr → Prop) (p dx : Addr) (s : δ) (t : τ), Ex (initC M N (defScope st) k fr) (.own (oIns A p dx (fl s)) :: Γ0 (ins t) N.tail) (defBody st) (fun y : δ × β => .rtG (ρ y.2) (Γf p dx y.1)) (m (s, t))) : CMetV M A x (k + 1) n ins fl ρ m := by
  refine ⟨⟨f, fd, ps, F.okX S (fun vs H Q E hsp => ?_) (fun cdv A' outer s H vs Q E hr hsp => ?_), hM, hb⟩, hl⟩
  · obtain ⟨s, t, F', Nf, p, dx, fs, ws, _, e, _, _, _, _, _, _, _, r, _⟩ := hsp
    rw [e, List.length_cons, r.length, hl, hn]
  · obtain ⟨s1, t, F', Nf, p, dx, fs, ws, hNf, e, sm, hFp, hFd, hne, hHp, hHd, hfs, r, w⟩ := hsp
    subst e
    refine ⟨_, pss_W, ?_⟩
    have hNne : N ≠ [] := fun z => by
      have := S.pre
      rw [z] at this
      have h0 : ps.length = 0 := by rw [← this]; simp
      omega
    obtain ⟨n0, N', eN⟩ := List.exists_cons_of_ne_nil hNne
    subst eN
    have st0 := start_ok (M := M) (N := N') (sc := defScope st) (k := k) hNf sm r
    have hst : L2.start (n0 :: N') (V.ref p :: ws) = some (V.ref p) :: L2.start N' ws := by
      unfold L2.start
      simp
    have s0 : StOk (initC M (n0 :: N') (defScope st) k Nf) F' H (.own (oIns A p dx (fl s1)) :: Γ0 (ins t) N') (L2.start (n0 :: N') (V.ref p :: ws)) (setG (fun _ => emp) 0 (two p (.ins A dx fs) dx (.own p))) := by
      rw [hst]
      refine ⟨by simp [st0.len], fun i Sl q => ?_, sm, fun i b u q => ?_, fun i b => ?_, fun i j hij b => ?_, hNf⟩
      · cases i with
        | zero =>
          have q' : some (Slot.own (oIns A p dx (fl s1))) = some Sl := q
          cases q'
          rw [setG_same]
          exact ⟨_, rfl, fs, rfl, hne, rfl, hfs⟩
        | succ i =>
          rw [setG_ne (Nat.succ_ne_zero i)]
          exact st0.slot i Sl q
      · by_cases hi : i = 0
        · subst hi
          rw [setG_same] at q
          unfold two at q
          split at q
          · rename_i e; cases q; rw [e]; exact hHp
          · split at q
            · rename_i e; cases q; rw [e]; exact hHd
            · cases q
        · rw [setG_ne hi] at q; cases q
      · by_cases hi : i = 0
        · subst hi
          rw [setG_same]
          by_cases h1 : b = p
          · exact .inl (by rw [h1]; exact hFp)
          · by_cases h2 : b = dx
            · exact .inl (by rw [h2]; exact hFd)
            · exact .inr (by unfold two; rw [if_neg h1, if_neg h2])
        · rw [setG_ne hi]; exact .inr rfl
      · by_cases hi : i = 0
        · subst hi
          rw [setG_ne (fun z => hij z.symm)]
          exact .inr rfl
        · rw [setG_ne hi]; exact .inl rfl
    have hU : ∀ b, dU (setG (fun _ => emp) 0 (two p (.ins A dx fs) dx (.own p))) b → b = p ∨ b = dx := fun b ⟨i, q⟩ => by
      by_cases hi : i = 0
      · subst hi
        rw [setG_same] at q
        exact two_dom.mp q
      · rw [setG_ne hi] at q; exact absurd rfl q
    refine h Nf p dx s1 t (cxOf (L2.CX M.P M.w) M.P M.w M.K M.mg M.base (n0 :: N') qual (defScope st) f cdv A' outer s H E) (fun cls d _ H => E cls d H) ⟨⟨rfl, rfl, rfl, rfl, rfl, rfl, rfl, S.nd, rfl, fun _ => hr, hr.units, fun _ _ _ h => (nomatch h), fun _ _ => rfl⟩, passes_of rfl, rfl, rfl⟩ (takes_of rfl rfl rfl rfl) F' H _ _ s0 _ ((m (s1, t)).mono (fun y hy => ?_) (fun e he => he.elim) w)
    intro F2 H2 g2 σ2 v f2 s2 r2
    obtain ⟨v2, eσ, fs2, ev, _, eg, tf⟩ := s2.get_own (hΓf p dx y.1)
    have hg : ∀ b, b = p ∨ b = dx → g2 0 b ≠ none := fun b hb => by rw [eg]; exact two_dom.mpr hb
    have hF2 : ∀ b, b = p ∨ b = dx → F2 b = none := fun b hb => by
      rcases s2.dF 0 b with q | q
      · exact q
      · exact absurd q (hg b hb)
    exact hy F2 H2 fs2 v ⟨f2.sF, fun b z => (f2.fF b z).imp_right fun q => q.imp_right (hU b), fun b o q n => f2.keep b o q fun z => n (hU b z), f2.dom, fun b z => .inl z⟩ s2.sF (hF2 p (.inl rfl)) (hF2 dx (.inr rfl)) (s2.sG 0 p _ (by rw [eg]; exact two_a)) (s2.sG 0 dx _ (by rw [eg]; exact two_d hne)) tf r2
/-- an expression that changes what the slots hold -/
def EvX (C : Cc) (Γ : List Slot) (e : Expr) {α : Type} (Γ' : α → List Slot) (ρ : α → Rp) (m : W α) : Prop :=
  ∀ (X : Cx) (Wx : WX), C.Ok X → Takes X Wx → ∀ (F H : Hp) (g : Nat → Hp) (σ : St), StOk C F H Γ σ g → ∀ Q : VK,
    m.wp (fun a => ∀ F' H' g' v, Fr F H (dU g) F' H' (dU g') → StOk C F' H' (Γ' a) σ g' → (ρ a).p F' v → Q v H') (XEnd C F H (dU g) Γ σ Wx) → WE X e σ H Q
/-- what such a thing's kind must be like -/
structure IsClk (A : Addr) {δ : Type} (fl : δ → Fl2) (O : δ → Op) : Prop where
  out : ∀ s F G v, (O s).p F G v → ∃ a dx, (oIns A a dx (fl s)).p F G v ∧ ∀ s' F' fs', FldOk F' fs' (fl s') → (O s').p F' (two a (.ins A dx fs') dx (.own a)) v
theorem EvX.call1 {A : Addr} {i : Nat} {nm y : Str} {δ : Type} {fl : δ → Fl2} {O : δ → Op} {s0 : δ} {ra : α → Rp} {ρ : β → Rp} {mf : δ × (α × Unit) → W (δ × β)} {m1 : W α} (hf : CMetV C.toMc A nm j 1 (fun t : α × Unit => [ra t.1]) fl ρ mf) (hO : IsClk A fl O) (hj : j ≤ C.k) (hc : Cls C.K A) (hlk : ∀ s, (fl s).lookup nm = Option.none) (hN : C.N[i]? = some y) (hv : visB C.sc y = true) (hΓ : Γ[i]? = some (.own (O s0)))
    (hdy : (y == ("__debug__" : Str) || y == ("__classdict__" : Str)) = false) (h1 : Ev C Γ e ra m1) (n1 : NoStar e)
    (hline : (apos.endLine == pos.line) = true := by rfl) (hcm : C.cm = true := by rfl) :
    EvX C Γ (.Call (.Attribute (.Name y p2) nm apos) [e] [] pos) (fun z : δ × β => Γ.set i (.own (O z.1))) (fun z => ρ z.2) (do let a ← m1; W.noX (mf (s0, a, ()))) :=
  fun X Wx ok tk F H g σ s Q hm => by
    obtain ⟨⟨f, fd, ps, hF, hM, hb⟩, hl⟩ := hf
    obtain ⟨pl, hpl2⟩ := htN n1 hline X
    have e1 := ok.prog
    have e2 := ok.w
    have e3 := ok.K
    have e4 := ok.mg
    have e5 := ok.base
    rw [Bool.or_eq_false_iff] at hdy
    refine WE.of (pe_methYX (pl := pl) (E := fun σ => L2.WE Wx σ) (pe_var (i := i) (by rw [ok.N]; exact hN) (by rw [ok.sc]; exact visOf hv) hdy.1 hdy.2) (by rw [e3]; exact hc) (by rw [e3]; exact hM) (by rw [e1, e2, e3, e4, e5]; exact hF) ((ok.room hcm).mono hj) (by rw [e3]; exact hb) (fun σ => by
      have := passAt tk σ
      rw [e1, e2] at this
      exact this) (pa_cons (pe_W (e := e)) pa_nil (n1 [] X.env)) (n1 [] X.env) (by rfl) hpl2) ?_
    obtain ⟨v0, eσ, r0⟩ := s.get_own hΓ
    obtain ⟨a, dx, ⟨fs, ev, hne, eg, t⟩, hput⟩ := hO.out _ _ _ _ r0
    refine ⟨v0, eσ, a, dx, fs, ev, s.sG i a _ (by rw [eg]; exact two_a), t.no (hlk s0), ?_⟩
    refine h1 X Wx ok tk F H g σ s _ (m1.mono (fun x hx F1 H1 g1 v1 f1 s1 r1 => ?_) (fun e he => he) hm)
    obtain ⟨v2, eσ2, r2⟩ := s1.get_own hΓ
    rw [eσ] at eσ2
    cases eσ2
    obtain ⟨a2, dx2, ⟨fs2, ev2, hne2, eg2, t2⟩, hput2⟩ := hO.out _ _ _ _ r2
    have ea : a2 = a := by rw [ev] at ev2; cases ev2; rfl
    subst ea
    have hg : ∀ b, b = a2 ∨ b = dx2 → g1 i b ≠ none := fun b hb => by rw [eg2]; exact two_dom.mpr hb
    have hg' : ∀ b, g1 i b ≠ none → b = a2 ∨ b = dx2 := fun b hb => by rw [eg2] at hb; exact two_dom.mp hb
    have hF1 : ∀ b, b = a2 ∨ b = dx2 → F1 b = none := fun b hb => by
      rcases s1.dF i b with q | q
      · exact q
      · exact absurd q (hg b hb)
    refine ⟨s0, (x, ()), F1, C.fr, a2, dx2, fs2, [v1], s1.fr, rfl, s1.sF, hF1 _ (.inl rfl), hF1 _ (.inr rfl), hne2, s1.sG i a2 _ (by rw [eg2]; exact two_a), s1.sG i dx2 _ (by rw [eg2]; exact two_d hne2), t2, .cons r1 .nil, (mf (s0, x, ())).mono (fun y hy F2 H2 fs3 v3 f3 sF3 q1 q2 q3 q4 t3 r3 => ?_) (fun e he => he) (show (mf (s0, x, ())).wp _ (fun _ => False) from hx)⟩
    obtain ⟨s4, f4⟩ := s1.callX (i := i) (G' := two a2 (.ins A dx2 fs3) dx2 (.own a2)) (O' := O y.1) (v := v0) (List.getElem?_eq_some_iff.mp hΓ).1 eσ ⟨f3.sF, fun b z => (f3.fF b z).imp_right fun q => q.imp_right (hg b), fun b o q n => f3.keep b o q fun z => n (hg b z), f3.dom, fun b z => (f3.gs b (hg' b z)).imp_left (hg b)⟩ sF3 (fun b u q => by
        unfold two at q
        split at q
        · rename_i e; cases q; rw [e]; exact q3
        · split at q
          · rename_i e; cases q; rw [e]; exact q4
          · cases q) (fun b => by
        by_cases z : b = a2 ∨ b = dx2
        · rcases z with z | z
          · exact .inl (by rw [z]; exact q1)
          · exact .inl (by rw [z]; exact q2)
        · refine .inr ?_
          cases w : two a2 (.ins A dx2 fs3) dx2 (.own a2) b with
          | none => rfl
          | some u => exact absurd (two_dom.mp (by rw [w]; simp)) z) (fun b z => hg b (two_dom.mp z)) (hput2 y.1 F2 fs3 t3)
    exact hy F2 H2 _ v3 (f1.trans f4) s4 r3
/-! ### statements -/
end
end Y

/-! Y42: making such an object; its fields within its own methods; tests that change it -/
namespace Y
open PySem PySem.Spec L2
/-! ### making -/
def spO (M : Mc) (A : Addr) (fl : Fl2) : Sp := fun vs H Q E => ∃ (F : Hp) (N : Addr → Prop) (p dx : Addr), (∀ a, H a = none → N a) ∧ vs = [.ref p] ∧ Same F H ∧ F p = none ∧ F dx = none ∧ dx ≠ p ∧ H p = some (.ins A dx []) ∧ H dx = some (.own p) ∧
  (∀ F' H' fs', Fr F H (fun b => b = p ∨ b = dx) F' H' (fun b => b = p ∨ b = dx) → Same F' H' → F' p = none → F' dx = none → H' p = some (.ins A dx fs') → H' dx = some (.own p) → FldOk F' fs' fl → Q .non H')
structure MakC (M : Mc) (x : Str) (A : Addr) (j : Nat) (fl : Fl2) : Prop where
  ex : ∃ f fd ps, FnOk M.P M.w M.K M.mg M.base (L2.CX M.P M.w) j f fd ps (spO M A fl) ∧ Mk M.K A f ∧ Binds M.K fd ps [] ∧ M.mg x = some (.ref A)
theorem MakC.ofBody {M : Mc} {x : Str} {A f : Addr} {fd : FuncData} {nm qual : Str} {st : Stmt} {k : Nat} {N ps : List Str} {γ : Type} {fl : γ → Fl2} {m : W γ} (y0 : γ) (hm : ∀ (P : γ → Prop) (E : Exn → Prop), P y0 → m.wp P E) (F : Fun M.K nm qual st f fd) (hM : Mk M.K A f) (hmg : M.mg x = some (.ref A)) (hb : Binds M.K fd ps []) (S : FnScope N ps (defScope st))
    (hn : ps.length = 1) (Γf : Addr → Addr → γ → List Slot) (hΓf : ∀ p dx y, (Γf p dx y)[0]? = some (.own (oIns A p dx (fl y)))) (h : ∀ (fr : Addr → Prop) (p dx : Addr), Ex (initC M N (defScope st) k fr) (.own (oIns A p dx []) :: Γ0 [] N.tail) (defBody st) (fun y : γ => .nx (Γf p dx y)) m) : MakC M x A (k + 1) (fl y0) := by
  refine ⟨⟨f, fd, ps, F.okX S (fun vs H Q E hsp => ?_) (fun cdv A' outer s H vs Q E hr hsp => ?_), hM, hb, hmg⟩⟩
  · obtain ⟨F', Nf, p, dx, _, e, _⟩ := hsp
    rw [e, hn]
    rfl
  · obtain ⟨F', Nf, p, dx, hNf, e, sm, hFp, hFd, hne, hHp, hHd, w⟩ := hsp
    subst e
    refine ⟨_, pss_W, ?_⟩
    have hNne : N ≠ [] := fun z => by
      have := S.pre
      rw [z] at this
      have h0 : ps.length = 0 := by rw [← this]; simp
      omega
    obtain ⟨n0, N', eN⟩ := List.exists_cons_of_ne_nil hNne
    subst eN
    have st0 := start_ok (M := M) (N := N') (sc := defScope st) (k := k) hNf sm (.nil : All2 (fun (v : V) (R : Rp) => R.p F' v) [] [])
    have hst : L2.start (n0 :: N') [V.ref p] = some (V.ref p) :: L2.start N' [] := by
      unfold L2.start
      simp
    have s0 : StOk (initC M (n0 :: N') (defScope st) k Nf) F' H (.own (oIns A p dx []) :: Γ0 [] N') (L2.start (n0 :: N') [V.ref p]) (setG (fun _ => emp) 0 (two p (.ins A dx []) dx (.own p))) := by
      rw [hst]
      refine ⟨by simp [st0.len], fun i Sl q => ?_, sm, fun i b u q => ?_, fun i b => ?_, fun i j hij b => ?_, hNf⟩
      · cases i with
        | zero =>
          have q' : some (Slot.own (oIns A p dx [])) = some Sl := q
          cases q'
          rw [setG_same]
          exact ⟨_, rfl, [], rfl, hne, rfl, .nil⟩
        | succ i =>
          rw [setG_ne (Nat.succ_ne_zero i)]
          exact st0.slot i Sl q
      · by_cases hi : i = 0
        · subst hi
          rw [setG_same] at q
          unfold two at q
          split at q
          · rename_i e; cases q; rw [e]; exact hHp
          · split at q
            · rename_i e; cases q; rw [e]; exact hHd
            · cases q
        · rw [setG_ne hi] at q; cases q
      · by_cases hi : i = 0
        · subst hi
          rw [setG_same]
          by_cases h1 : b = p
          · exact .inl (by rw [h1]; exact hFp)
          · by_cases h2 : b = dx
            · exact .inl (by rw [h2]; exact hFd)
            · exact .inr (by unfold two; rw [if_neg h1, if_neg h2])
        · rw [setG_ne hi]; exact .inr rfl
      · by_cases hi : i = 0
        · subst hi
          rw [setG_ne (fun z => hij z.symm)]
          exact .inr rfl
        · rw [setG_ne hi]; exact .inl rfl
    have hU : ∀ b, dU (setG (fun _ => emp) 0 (two p (.ins A dx []) dx (.own p))) b → b = p ∨ b = dx := fun b ⟨i, q⟩ => by
      by_cases hi : i = 0
      · subst hi
        rw [setG_same] at q
        exact two_dom.mp q
      · rw [setG_ne hi] at q; exact absurd rfl q
    refine h Nf p dx (cxOf (L2.CX M.P M.w) M.P M.w M.K M.mg M.base (n0 :: N') qual (defScope st) f cdv A' outer s H E) (fun cls d _ H => E cls d H) ⟨⟨rfl, rfl, rfl, rfl, rfl, rfl, rfl, S.nd, rfl, fun _ => hr, hr.units, fun _ _ _ h => (nomatch h), fun _ _ => rfl⟩, passes_of rfl, rfl, rfl⟩ (takes_of rfl rfl rfl rfl) F' H _ _ s0 _ (hm _ _ ?_)
    intro F2 H2 g2 σ2 f2 s2
    obtain ⟨v2, eσ, fs2, ev, _, eg, tf⟩ := s2.get_own (hΓf p dx y0)
    have hF2 : ∀ b, b = p ∨ b = dx → F2 b = none := fun b hb => by
      rcases s2.dF 0 b with q | q
      · exact q
      · exact absurd q (by rw [eg]; exact two_dom.mpr hb)
    exact w F2 H2 fs2 ⟨f2.sF, fun b z => (f2.fF b z).imp_right fun q => q.imp_right (hU b), fun b o q n => f2.keep b o q fun z => n (hU b z), f2.dom, fun b z => .inl z⟩ s2.sF (hF2 p (.inl rfl)) (hF2 dx (.inr rfl)) (s2.sG 0 p _ (by rw [eg]; exact two_a)) (s2.sG 0 dx _ (by rw [eg]; exact two_d hne)) tf
section
variable {C : Cc} {Γ Γ' : List Slot} {α β γ ω : Type} {J : ω → Out} {e o a b : Expr} {pos p p2 apos : Pos} {rest : List Stmt} {x : Str} {j : Nat}
/-- a test that changes what the slots hold -/
def EvTX (C : Cc) (Γ : List Slot) (e : Expr) {δ : Type} (Γ' : δ → List Slot) (m : W (δ × Bool)) : Prop :=
  ∀ (X : Cx) (Wx : WX), C.Ok X → Takes X Wx → ∀ (F H : Hp) (g : Nat → Hp) (σ : St), StOk C F H Γ σ g → ∀ Q : Bool → Hp → Prop,
    m.wp (fun a => ∀ F' H' g', Fr F H (dU g) F' H' (dU g') → StOk C F' H' (Γ' a.1) σ g' → Q a.2 H') (XEnd C F H (dU g) Γ σ Wx) → WT X e σ H Q
theorem EvTX.cmp {op : CmpOp} {δ : Type} {Γ' : δ → List Slot} {m : W (δ × Bool)} (h : EvX C Γ (.Compare a [op] [b] pos) (fun y : δ × Bool => Γ' y.1) (fun y => rB y.2) m) (hm : behindInMarks op b = false := by with_unfolding_all rfl) : EvTX C Γ (.Compare a [op] [b] pos) Γ' m := fun X Wx ok tk F H g σ s Q hw => by
  unfold WT
  intro pins s0 I
  refine wpAny_isTrue_cmp (thn (pe_W.run pins s0 σ H (fun v H' => ∃ k, v = .bl k ∧ Q k H') I (h X Wx ok tk F H g σ s (fun v H' => ∃ k, v = .bl k ∧ Q k H') (m.mono (fun x hx F1 H1 g1 v f1 s1 r1 => ⟨x.2, r1, hx F1 H1 g1 f1 s1⟩) (fun e he => he) hw))) fun c s3 ⟨z, H3, I3, r3, k, e, q3⟩ => ?_) hm
  subst e
  cases r3
  exact wpAny_truthy_bool ⟨H3, I3, q3⟩
end
/-- the clerk's one field -/
def flK (K : PySem.W.Frag) (s : List WorkV) : Fl2 := [("kept_works", rL K (rWk K) s)]
end Y

/-! Y43: every second of a list; list of a dict; dicts of texts -/
namespace Y
open PySem PySem.Spec L2 PyProof.Rows
/-- the first, the third, .. -/
def evr {α : Type} : List α → List α
  | [] => []
  | [a] => [a]
  | a :: _ :: r => a :: evr r
theorem evr_len {α : Type} : ∀ l : List α, (evr l).length = (l.length + 1) / 2
  | [] => by simp [evr]
  | [a] => by simp [evr]
  | a :: b :: r => by
    show (evr r).length + 1 = (r.length + 1 + 1 + 1) / 2
    rw [evr_len r]
    omega
theorem evr_get {α : Type} : ∀ (l : List α) (k : Nat), (evr l)[k]? = l[2 * k]?
  | [], k => by simp [evr]
  | [a], 0 => rfl
  | [a], k + 1 => by
    show ([a] : List α)[k + 1]? = [a][2 * (k + 1)]?
    rw [List.getElem?_eq_none (by simp), List.getElem?_eq_none (by simp; omega)]
  | a :: b :: r, 0 => rfl
  | a :: b :: r, k + 1 => by
    show (evr r)[k]? = (a :: b :: r)[2 * k + 1 + 1]?
    rw [evr_get r k]
    rfl
theorem evr_all2 {α β : Type} {R : α → β → Prop} : ∀ {as : List α} {bs : List β}, All2 R as bs → All2 R (evr as) (evr bs)
  | _, _, .nil => .nil
  | _, _, .cons r .nil => .cons r .nil
  | _, _, .cons r (.cons _ t) => .cons r (evr_all2 t)
theorem evr_vals : ∀ {xs : List V} {us : List Value}, Vals xs us → Vals (evr xs) (evr us)
  | _, _, .nil => .nil
  | _, _, .cons r .nil => .cons r .nil
  | _, _, .cons r (.cons _ t) => .cons r (evr_vals t)
theorem vals_drop : ∀ {xs : List V} {us : List Value} (n : Nat), Vals xs us → Vals (xs.drop n) (us.drop n)
  | _, _, 0, h => h
  | _, _, _ + 1, .nil => .nil
  | _, _, n + 1, .cons _ t => vals_drop n t
theorem pick2 (its : List Value) {lo : Int} (h0 : 0 ≤ lo) : slicePick its.toArray (some lo) none (some 2) = (evr (its.drop lo.toNat)).toArray := by
  have hb : sliceBounds (some lo) none (some 2) its.length = (((min lo.toNat its.length : Nat) : Int), (its.length : Int), 2) := by
    unfold sliceBounds
    simp only [Option.getD_some]
    have hn : ¬ lo < 0 := by omega
    have hp : (2 : Int) > 0 := by decide
    simp only [hn, hp, if_true, if_false]
    congr 1
    omega
  unfold slicePick
  rw [List.size_toArray, hb]
  simp only
  congr 1
  have hr : sliceRange ((min lo.toNat its.length : Nat) : Int) (its.length : Int) 2 = (List.range ((its.length - min lo.toNat its.length + 1) / 2)).map fun k => min lo.toNat its.length + 2 * k := by
    unfold sliceRange
    rw [if_pos (by decide)]
    dsimp only
    have e : (if ((min lo.toNat its.length : Nat) : Int) < (its.length : Int) then ((its.length : Int) - ((min lo.toNat its.length : Nat) : Int) + 2 - 1) / 2 else 0).toNat = (its.length - min lo.toNat its.length + 1) / 2 := by
      split <;> omega
    rw [e]
    refine List.map_congr_left fun k _ => ?_
    omega
  rw [hr]
  have hd : its.drop lo.toNat = its.drop (min lo.toNat its.length) := by
    by_cases h : lo.toNat ≤ its.length
    · rw [Nat.min_eq_left h]
    · rw [Nat.min_eq_right (by omega), List.drop_of_length_le (by omega), List.drop_of_length_le (by omega)]
  rw [hd]
  have hm : min lo.toNat its.length ≤ its.length := Nat.min_le_right _ _
  generalize min lo.toNat its.length = a at *
  have key : ∀ n, a + 2 * n ≤ its.length + 1 → ((List.range n).map fun k => a + 2 * k).filterMap (fun i => its.toArray[i]?) = (evr (its.drop a)).take n := by
    intro n
    induction n with
    | zero => intro _; simp
    | succ n ih =>
      intro hn
      have ih := ih (by omega)
      have hlt : a + 2 * n < its.length := by omega
      have e1 : (evr (its.drop a))[n]? = some (its[a + 2 * n]'hlt) := by
        rw [evr_get, List.getElem?_drop]
        exact List.getElem?_eq_getElem hlt
      rw [List.range_succ, List.map_append, List.filterMap_append, ih, List.take_add_one, e1]
      simp [hlt]
  rw [key _ (by omega), List.take_of_length_le]
  rw [evr_len, List.length_drop]
  omega
def tEvr (K : PySem.W.Frag) (te : TE) (tl : TO) : TE := fun σ H Q => te σ H fun x H1 => tl σ H1 fun l H2 => ∃ a xs lo, x = .ref a ∧ l = some lo ∧ 0 ≤ lo ∧ SqL K H2 a xs ∧ ∀ p, H2 p = none → Q (.ref p) (upd H2 p (.lst (evr (xs.drop lo.toNat))))
theorem pe_evr {X : Cx} {e : Expr} {lo : Option Expr} {te : TE} {tl : TO} {k : Nat} {p1 p3 pos : Pos} (he : PE X e te) (hl : PO X lo tl) : PE X (.Subscript e (.Slice lo none (some (.Constant (.int 2) k p1)) p3) pos) (tEvr X.K te tl) := by
  refine ⟨fun pins s σ H Q I h => ?_⟩
  refine Subscript_ (thn (he.run pins s σ H _ I h) fun v s1 ⟨x, H1, I1, r1, q1⟩ => ?_)
  have hst : PO X (some (.Constant (.int 2) k p1)) (tPart (tC (.int 2))) := po_some pe_int
  refine wpAny_Slice (thn (hl.run pins s1 σ H1 _ I1 q1) fun vl s2 ⟨l, H2, I2, pl, a, xs, lo', ex, el, h0, hx, q⟩ => ?_)
  subst ex el
  cases r1
  refine thn (po_none.run pins s2 σ H2 (fun o H3 => o = none ∧ H3 = H2) I2 ⟨rfl, rfl⟩) fun vu s3 ⟨u, H3, I3, pu, eu, e3⟩ => ?_
  subst eu e3
  refine thn (hst.run pins s3 σ H3 (fun o H4 => o = some 2 ∧ H4 = H3) I3 ⟨2, rfl, rfl, rfl⟩) fun vs s4 ⟨o, H4, I4, ps, eo, e4⟩ => ?_
  subst eo e4
  have I5 : Inv X pins σ H4 { s4 with heap := s4.heap.push { cls := .type "slice", data := .fields #[vl, vu, vs] } } := I4.kept (t' := s4.toks) fun b ob q => Heap.get?_push_of_some _ q
  obtain ⟨its, r, ht, hz⟩ := I5.list hx
  have hlen := r.length
  show wpAny (model X.prog X.w) X.A (subscriptTail e (.Slice lo none (some (.Constant (.int 2) k p1)) p3) (.ref a) (.ref s4.heap.objs.size)) (EP X pins σ Q) X.xe { s4 with heap := s4.heap.push { cls := .type "slice", data := .fields #[vl, vu, vs] } }
  refine tail_any (ops := [.ref a, .ref s4.heap.objs.size]) ht.isList.typeIs (PySem.slot_list_getitem.lookup) ?_ (by with_unfolding_all rfl)
  refine wpAny_getItem_list_slice ht.isList (Heap.IsSliceOf.new _ vl vu vs) pl pu ps (by decide) ?_ (by rw [List.size_toArray]; omega)
  rw [pick2 its h0]
  refine ⟨.ref _, _, I5.laid (t' := s4.toks) (o := .lst (evr (xs.drop lo'.toNat))) (fun b ob q => Heap.get?_push_of_some _ q) (Nat.le_refl _) ?_, rfl, q _ (I5.hok.fresh (Nat.le_refl _))⟩
  exact ⟨by rw [evr_len, List.length_drop]; omega, _, 0, evr_vals (vals_drop _ r), Heap.get?_push_size _ rfl⟩
section
variable {C : Cc} {Γ Γ' : List Slot} {α β γ ω : Type} {J : ω → Out} {e o a b : Expr} {pos p p1 p2 p3 spos apos cpos : Pos} {rest : List Stmt} {x : Str} {j : Nat}
theorem EvO.evr {r : α → Rp} {lo : Option Expr} {kc : Nat} {ma : W (List α)} {ml : W (Option Int)} (ha : Ev C Γ a (rL C.K r) ma) (hl : EvP C Γ lo ml) :
    EvO C Γ (.Subscript a (.Slice lo none (some (.Constant (.int 2) kc p1)) p3) pos) (oL C.fr r) (do let xs ← ma; let i ← ml; W.req (0 ≤ i.getD (-1)) (pure (Y.evr (xs.drop (i.getD 0).toNat)))) :=
  fun X Wx ok tk F H g σ s Q hm => by
    refine WE.of (pe_evr (pe_W (e := a)) (po_W (e := lo))) ?_
    refine ha X Wx ok tk F H g σ s _ (ma.mono (fun xs hx F1 H1 g1 v f1 s1 r1 => ?_) (fun e he => he) hm)
    obtain ⟨tl, pl, hl'⟩ := hl X Wx ok tk F1 H1 g1 σ s1
    refine ⟨tl, pl, hl' _ (ml.mono (fun i hi F2 H2 g2 f2 s2 => ?_) (fun e he => XEnd.later f1 he) hx)⟩
    obtain ⟨h0, hi⟩ := hi
    obtain ⟨q, vs, ev, hq, t⟩ := (rL C.K r xs).mono f2.sF r1
    cases i with
    | none => exact absurd h0 (by decide)
    | some i =>
      exact ⟨q, vs, i, ev, rfl, h0, by rw [ok.K]; exact s2.sF.seq hq, fun l hl => EvO.fin (O := oL C.fr r (Y.evr (xs.drop i.toNat))) (f1.trans f2) s2 hl (fun n => ⟨l, _, rfl, n, rfl, evr_all2 (t.drop _)⟩) hi⟩
end
/-! ### dicts whose keys are texts -/
def kvS (vs : List (Str × V)) : List (Key × V) := vs.map fun p => (.inr p.1, p.2)
def oDS (N : Addr → Prop) (r : α → Rp) (kvs : List (Str × α)) : Op :=
  ⟨fun F G v => ∃ (a : Addr) (vs : List (Str × V)), v = .ref a ∧ N a ∧ G = one a (.dK (kvS vs)) ∧ All2 (fun (q : Str × V) (p : Str × α) => q.1 = p.1 ∧ (r p.2).p F q.2) vs kvs, fun h ⟨a, vs, e, n, q, t⟩ => ⟨a, vs, e, n, q, t.imp fun _ _ z => ⟨z.1, (r _).mono h z.2⟩⟩⟩
def rDS (N : Addr → Prop) (r : α → Rp) (kvs : List (Str × α)) : Rp :=
  ⟨fun F v => ∃ (a : Addr) (vs : List (Str × V)), v = .ref a ∧ N a ∧ F a = some (.dK (kvS vs)) ∧ All2 (fun (q : Str × V) (p : Str × α) => q.1 = p.1 ∧ (r p.2).p F q.2) vs kvs, fun h ⟨a, vs, e, n, q, t⟩ => ⟨a, vs, e, n, h _ _ q, t.imp fun _ _ z => ⟨z.1, (r _).mono h z.2⟩⟩⟩
def putS (kvs : List (Str × α)) (k : Str) (x : α) : List (Str × α) := if (kvs.any fun p => decide (p.1 = k)) = true then kvs.map (fun p => if p.1 = k then (k, x) else p) else kvs ++ [(k, x)]
def getS (kvs : List (Str × α)) (k : Str) : Option α := (kvs.find? fun p => decide (p.1 = k)).map (·.2)
theorem All2.putS {F : Hp} {r : α → Rp} {vs : List (Str × V)} {kvs : List (Str × α)} (t : All2 (fun (q : Str × V) (p : Str × α) => q.1 = p.1 ∧ (r p.2).p F q.2) vs kvs) {k : Str} {y : α} {u : V} (h : (r y).p F u) : All2 (fun (q : Str × V) (p : Str × α) => q.1 = p.1 ∧ (r p.2).p F q.2) (Y.putS vs k u) (Y.putS kvs k y) := by
  have e : (vs.any fun p => decide (p.1 = k)) = kvs.any fun p => decide (p.1 = k) := by
    induction t with
    | nil => rfl
    | cons q t ih => rw [List.any_cons, List.any_cons, ih, q.1]
  unfold Y.putS
  rw [e]
  split
  · clear e
    rename_i e
    clear e
    induction t with
    | nil => exact .nil
    | @cons a b as bs q t ih =>
      rw [List.map_cons, List.map_cons]
      refine .cons ?_ ih
      by_cases z : b.1 = k
      · rw [if_pos (q.1.trans z), if_pos z]; exact ⟨rfl, h⟩
      · rw [if_neg (fun y => z (q.1.symm.trans y)), if_neg z]; exact q
  · exact t.append (.cons ⟨rfl, h⟩ .nil)
section
variable {C : Cc} {Γ Γ' : List Slot} {α β γ ω : Type} {J : ω → Out} {e o a b : Expr} {pos p p1 p2 p3 spos apos cpos : Pos} {rest : List Stmt} {x : Str} {j : Nat}
end
end Y

/-! Y44: lists of any place added -/
section
open PySem PySem.AutoSeq1 Builtin
open Sem (wp)
theorem PySem.list_add_gen (l : Addr) (items : Array Value) (n : Nat) (dd : Option Addr) (sl : Array (Option Value)) (b : Addr) (items2 : Array Value) (n2 : Nat) (dd2 : Option Addr) (sl2 : Array (Option Value)) (hc0 : items.size + items2.size ≤ sizeLine) :
    Meets (Builtin.«list.__add__» ⟨[.ref l, .ref b], []⟩) (fun _ R s => s.heap.get? l = some { cls := .type "list", dict := dd, data := .seq items n, slots := sl } ∧ s.heap.get? b = some { cls := .type "list", dict := dd2, data := .seq items2 n2, slots := sl2 } ∧ R (.ok (.ret (Value.ref s.heap.objs.size))) { s with heap := s.heap.push { cls := Value.type "list", data := Data.seq (items ++ items2) }, toks := s.toks }) :=
  .of_wp fun prog w A R s h => by obtain ⟨hp, g, d, tk, os⟩ := s; obtain ⟨hl, hb, h⟩ := h; have f1 := idx_int; have f2 := sub_tuple_tuple; have f3 := sub_list_list; have f4 := sub_tuple_list; have f5 := sub_list_tuple; wp_walk using wpAny_loadPart' hl, wpAny_loadPart' hb; exact ⟨_, rfl, h⟩
end
namespace Y
open PySem PySem.Spec L2
def rCatL (K : PySem.W.Frag) : R2 := fun x y H Q => ∃ l b xs zs, x = .ref l ∧ y = .ref b ∧ SqL K H l xs ∧ SqL K H b zs ∧ xs.length + zs.length ≤ sizeLine ∧ ∀ p, H p = none → Q (.ref p) (upd H p (.lst (xs ++ zs)))
theorem op_catL {X : Cx} : OpR X (binaryOp .Add) (rCatL X.K) := by
  intro pins s σ H x y v u Q I rx ry h
  obtain ⟨l, b, xs, zs, rfl, rfl, hH, hB, hz, q⟩ := h
  cases rx
  cases ry
  obtain ⟨its, r, ⟨⟨cls, dd, data, sl⟩, n, ho, hc, hdn, hd⟩, hl⟩ := I.list hH
  obtain ⟨its2, r2, ⟨⟨cls2, dd2, data2, sl2⟩, n2, ho2, hc2, hdn2, hd2⟩, hl2⟩ := I.list hB
  simp only at hc hd hc2 hd2
  subst hc hd hc2 hd2
  have e1 := r.length
  have e2 := r2.length
  refine concat_meets ⟨_, ho, rfl⟩ ⟨_, ho2, rfl⟩ noFill_list_add seq_list_add PySem.F.slot_list_add PySem.F.entry_list_add (PySem.F.args_list_add_2 _ _) (PySem.list_add_gen l its.toArray n dd sl b its2.toArray n2 dd2 sl2 (by rw [List.size_toArray, List.size_toArray]; omega)) ⟨ho, ho2, ?_⟩
  have ea : its.toArray ++ its2.toArray = (its ++ its2).toArray := by simp
  rw [ea]
  exact ⟨.ref _, _, I.lnew (t' := s.toks) (r.append r2) (by rw [List.length_append]; omega), rfl, q _ I.fresh⟩
section
variable {C : Cc} {Γ : List Slot} {α : Type} {a b : Expr} {pos : Pos}
theorem EvO.catL {r : α → Rp} {ma mb : W (List α)} (ha : Ev C Γ a (rL C.K r) ma) (hb : Ev C Γ b (rL C.K r) mb) : EvO C Γ (.BinOp a .Add b pos) (oL C.fr r) (do let x ← ma; let y ← mb; Y.catL x y) :=
  fun X Wx ok tk F H g σ s Q hm => by
    refine WE.of (pe_op op_catL (pe_W (e := a)) (pe_W (e := b))) ?_
    refine ha X Wx ok tk F H g σ s _ (ma.mono (fun x hx F1 H1 g1 v f1 s1 r1 => ?_) (fun e he => he) hm)
    refine hb X Wx ok tk F1 H1 g1 σ s1 _ (mb.mono (fun y hy F2 H2 g2 w f2 s2 r2 => ?_) (fun e he => XEnd.later f1 he) hx)
    obtain ⟨q1, vs1, e1, h1, t1⟩ := (rL C.K r x).mono f2.sF r1
    obtain ⟨q2, vs2, e2, h2, t2⟩ := r2
    obtain ⟨hl, hy⟩ := hy
    refine ⟨q1, q2, vs1, vs2, e1, e2, by rw [ok.K]; exact s2.sF.seq h1, by rw [ok.K]; exact s2.sF.seq h2, by rw [t1.length, t2.length]; exact hl, fun l hl2 => ?_⟩
    exact EvO.fin (O := oL C.fr r (x ++ y)) (f1.trans f2) s2 hl2 (fun n => ⟨l, _, rfl, n, rfl, t1.append t2⟩) hy
end
end Y

/-! Y45: a method that falls off its end -/
namespace Y
open PySem PySem.Spec L2
theorem MetV.ofBodyU {M : Mc} {A f : Addr} {fd : FuncData} {x qual : Str} {st : Stmt} {k n : Nat} {N ps : List Str} {τ : Type} {ins : (Addr → Prop) → τ → List Rp} {m : τ → W Unit} (F : Fun M.K x qual st f fd) (hM : Meth M.K A x f) (hb : Binds M.K fd ps []) (S : FnScope N ps (defScope st))
    (hn : ps.length = n) (hl : ∀ N t, (ins N t).length = n) (h : ∀ (fr : Addr → Prop) (t : τ), Ex (initC M N (defScope st) k fr) (Γ0 (ins fr t) N) (defBody st) (fun _ => .ft) (m t)) : MetV M A x (k + 1) n ins (fun _ => rU) m := by
  refine ⟨⟨f, fd, ps, F.okX S (fun vs H Q E hsp => ?_) (fun cdv A outer s H vs Q E hr hsp => ?_), hM, hb⟩, hl⟩
  · obtain ⟨t, F', Nf, _, _, r, _⟩ := hsp
    rw [r.length, hl, hn]
  · obtain ⟨t, F', Nf, hNf, sm, r, w⟩ := hsp
    refine ⟨_, pss_W, ?_⟩
    refine h Nf t (cxOf (L2.CX M.P M.w) M.P M.w M.K M.mg M.base N qual (defScope st) f cdv A outer s H E) (fun cls d _ H => E cls d H) ⟨⟨rfl, rfl, rfl, rfl, rfl, rfl, rfl, S.nd, rfl, fun _ => hr, hr.units, fun _ _ _ h => (nomatch h), fun _ _ => rfl⟩, passes_of rfl, rfl, rfl⟩ (takes_of rfl rfl rfl rfl) F' H _ _ (start_ok hNf sm r) _ ((m t).mono (fun b hb => ?_) (fun e he => ?_) w)
    · intro F2 H2 g2 σ2 f2 s2
      exact hb F2 H2 g2 .non (show Fr F' H (fun _ => False) F2 H2 (dU g2) from ⟨f2.sF, fun b z => (f2.fF b z).imp_right fun q => q.imp_right fun ⟨_, q⟩ => absurd rfl q, fun b o q _ => f2.keep b o q fun ⟨_, z⟩ => absurd rfl z, f2.dom, fun b z => (f2.gs b z).imp_left fun ⟨_, q⟩ => absurd rfl q⟩) s2 rfl
    · intro F2 H2 g2 σ2 cls d f2 s2 hx
      exact he F2 H2 g2 cls d ⟨f2.sF, fun b z => (f2.fF b z).imp_right fun q => q.imp_right fun ⟨_, q⟩ => absurd rfl q, fun b o q _ => f2.keep b o q fun ⟨_, z⟩ => absurd rfl z, f2.dom, fun b z => (f2.gs b z).imp_left fun ⟨_, q⟩ => absurd rfl q⟩ s2 hx
end Y

/-! Y46: dicts whose keys are tuples of truths, tracked as one object (HO.ext) -/
namespace Y
open PySem PySem.Spec L2 Builtin
abbrev mKnd (P : Program) (w : World) : HeapKind P w (List Leaf) := tupleKind (leafKind P w)
def bL (b : Bool) : Leaf := .num (if b then 1 else 0)
theorem items_bl {P : Program} {w : World} : ∀ {bs : List Bool} {us : List Value}, Vals (bs.map V.bl) us → ItemsAre (leafKind P w) (bs.map bL) us
  | [], _, .nil => .nil
  | b :: bs, _, .cons h t => by
    have h : _ = Value.bool b := h
    subst h
    refine .cons ?_ (items_bl t)
    cases b <;> rfl
section
variable {X : Cx} {pins : List (Addr × Obj)} {σ : St} {H : Hp} {s : Shared} {q d : Addr} {o : Obj} {es : Array DictEntry} {ep : Nat}
/-- a tuple of truths is a key -/
theorem key_is {bs : List Bool} (I : Inv X pins σ H s) (h : SqT X.K H q (bs.map V.bl)) : (mKnd X.prog X.w).is s.heap (bs.map bL) q := by
  obtain ⟨its, r, ⟨o, e, c, n, dd⟩, _⟩ := I.tuple h
  exact ⟨o, its.toArray, n, e, c, dd, by simpa using items_bl r⟩
/-- the dict at d, by its object -/
def xO (d : Addr) (o : Obj) : HO := .ext fun h => h.get? d = some o
theorem Inv.xO (I : Inv X pins σ H s) (h : H d = some (Y.xO d o)) : s.heap.get? d = some o := (I.hok d _ h).1
/-- its keys' addresses -/
def ItX (d : Addr) (o : Obj) (qs : List Addr) : It :=
  ⟨fun i H => H d = some (Y.xO d o) ∧ i < qs.length, fun i H x H' => H' = H ∧ ∃ q, qs[i]? = some q ∧ x = .ref q, fun i H => H d = some (Y.xO d o) ∧ qs.length ≤ i⟩
/-- the object is a dict with these keys and values -/
structure DX (P : Program) (w : World) (o : Obj) (xs : List (List Leaf × Addr × Value)) : Prop where
  ex : o.ExactDict
  da : ∃ es ep, o.data = .dict es ep ∧ es.toList = xs.map (entryOfKey (mKnd P w))
  nd : (xs.map (·.1)).Nodup
theorem DX.of {P : Program} {w : World} {h : Heap} {xs : List (List Leaf × Addr × Value)} (x : DX P w o xs) (e : h.get? d = some o) (k : ∀ y ∈ xs, (mKnd P w).is h y.1 y.2.1) : h.DictOfH (mKnd P w) d xs := by
  obtain ⟨es, ep, h1, h2⟩ := x.da
  exact ⟨o, es, ep, e, x.ex, h1, h2, k, x.nd⟩
theorem DX.to {P : Program} {w : World} {h : Heap} {xs : List (List Leaf × Addr × Value)} (x : h.DictOfH (mKnd P w) d xs) : ∃ o, h.get? d = some o ∧ DX P w o xs := by
  obtain ⟨o, es, ep, e, ex, h1, h2, _, nd⟩ := x
  exact ⟨o, e, ex, ⟨es, ep, h1, h2⟩, nd⟩
def iX (P : Program) (w : World) (td : TE) : TI := fun σ H R => td σ H fun x H1 => ∃ d o xs, x = .ref d ∧ (d == sysModules) = false ∧ H1 d = some (Y.xO d o) ∧ DX P w o xs ∧ R (ItX d o (xs.map fun y => y.2.1)) H1
end
end Y

/-! Y47: dicts keyed by tuples of truths: made, setdefault, d[k] -/
namespace Y
open PySem PySem.Spec L2 Builtin
section
variable {X : Cx} {pins : List (Addr × Obj)} {σ : St} {H : Hp} {s : Shared} {q d : Addr} {o : Obj}
abbrev XS := List (List Leaf × Addr × Value)
def tXNew (P : Program) (w : World) : TE := fun _ H Q => ∀ p o, H p = none → (p == sysModules) = false → DX P w o [] → Q (.ref p) (upd H p (Y.xO p o))
/-- the keys stand in the heap -/
def KsOk (K : PySem.W.Frag) (H : Hp) (xs : XS) : Prop := ∀ y ∈ xs, ∃ bs : List Bool, y.1 = bs.map bL ∧ SqT K H y.2.1 (bs.map V.bl)
theorem KsOk.is {xs : XS} (I : Inv X pins σ H s) (h : KsOk X.K H xs) : ∀ y ∈ xs, (mKnd X.prog X.w).is s.heap y.1 y.2.1 := fun y hy => by
  obtain ⟨bs, e, hq⟩ := h y hy
  rw [e]
  exact key_is I hq
/-- d.setdefault(k, z) -/
def tSdef (P : Program) (w : World) (K : PySem.W.Frag) (td ty tx : TE) : TE := fun σ H Q => td σ H fun x H1 => ∃ d, x = .ref d ∧ (∃ o xs, H1 d = some (Y.xO d o) ∧ DX P w o xs) ∧ ty σ H1 fun y H2 => tx σ H2 fun z H3 =>
  ∃ (q : Addr) (bs : List Bool) (o : Obj) (xs : XS) (l : Addr), y = .ref q ∧ z = .ref l ∧ (d == sysModules) = false ∧ H3 d = some (Y.xO d o) ∧ DX P w o xs ∧ KsOk K H3 xs ∧ SqT K H3 q (bs.map V.bl) ∧ xs.length ≤ sizeLine ∧
    (∀ a0 u, atKey xs (bs.map bL) = some (a0, u) → ∃ l0, u = .ref l0 ∧ Q (.ref l0) H3) ∧
    (atKey xs (bs.map bL) = none → ∀ o', DX P w o' (xs ++ [(bs.map bL, q, .ref l)]) → Q (.ref l) (upd H3 d (Y.xO d o')))
/-- d[k] -/
def rIxX (P : Program) (w : World) (K : PySem.W.Frag) : R2 := fun x y H Q => ∃ (d q : Addr) (bs : List Bool) (o : Obj) (xs : XS) (a0 l : Addr), x = .ref d ∧ y = .ref q ∧ H d = some (Y.xO d o) ∧ DX P w o xs ∧ KsOk K H xs ∧ SqT K H q (bs.map V.bl) ∧ atKey xs (bs.map bL) = some (a0, .ref l) ∧ Q (.ref l) H
end
end Y

/-! Y48: an own dict from tuples of truths to own lists: {}, d.setdefault(k, []).append(x) -/
namespace Y
open PySem PySem.Spec L2 Builtin
/-- a new place joins a private heap -/
theorem StOk.newG {C : Cc} {Γ : List Slot} {F H : Hp} {σ : St} {g : Nat → Hp} (s : StOk C F H Γ σ g) {i : Nat} {a : Addr} {o' : HO} {O' : Op} {v : V} (hl : H a = none) (hσ : σ[i]? = some (some v)) (hi : i < Γ.length) (r : O'.p F (upd (g i) a o') v) :
    StOk C F (upd H a o') (Γ.set i (.own O')) σ (setG g i (upd (g i) a o')) ∧ Fr F H (dU g) F (upd H a o') (dU (setG g i (upd (g i) a o'))) := by
  have hFa : F a = none := by
    cases q : F a with
    | none => rfl
    | some u => have := s.sF a u q; rw [hl] at this; cases this
  have hga : ∀ j, g j a = none := fun j => by
    cases q : g j a with
    | none => rfl
    | some u => have := s.sG j a u q; rw [hl] at this; cases this
  refine ⟨⟨by rw [List.length_set]; exact s.len, fun j S q => ?_, fun b u q => ?_, fun j => ?_, fun j => ?_, fun j k hjk => ?_, fun b q => ?_⟩, ⟨Same.refl _, fun b q => .inl q, fun b u q n => ?_, fun b q => ?_, fun b q => ?_⟩⟩
  · by_cases hj : i = j
    · subst hj
      rw [List.getElem?_set_self hi] at q
      cases q
      rw [setG_same]
      exact ⟨v, hσ, r⟩
    · rw [List.getElem?_set_ne hj] at q
      rw [setG_ne (fun z => hj z.symm)]
      exact s.slot j S q
  · rw [upd_ne (fun z => by rw [z, hFa] at q; cases q)]; exact s.sF b u q
  · by_cases hj : j = i
    · subst hj
      rw [setG_same]
      intro b u q
      by_cases z : b = a
      · subst z; rw [upd_same] at q; rw [upd_same]; exact q
      · rw [upd_ne z] at q; rw [upd_ne z]; exact s.sG j b u q
    · rw [setG_ne hj]
      intro b u q
      rw [upd_ne (fun z => by rw [z, hga j] at q; cases q)]
      exact s.sG j b u q
  · by_cases hj : j = i
    · subst hj
      rw [setG_same]
      intro b
      by_cases z : b = a
      · subst z; exact .inl hFa
      · rw [upd_ne z]; exact s.dF j b
    · rw [setG_ne hj]; exact s.dF j
  · by_cases hj : j = i
    · subst hj
      rw [setG_same, setG_ne (fun z => hjk z.symm)]
      intro b
      by_cases z : b = a
      · subst z; exact .inr (hga k)
      · rw [upd_ne z]; exact s.dG j k hjk b
    · rw [setG_ne hj]
      by_cases hk : k = i
      · subst hk
        rw [setG_same]
        intro b
        by_cases z : b = a
        · subst z; exact .inl (hga j)
        · rw [upd_ne z]; exact s.dG j k hjk b
      · rw [setG_ne hk]; exact s.dG j k hjk
  · by_cases z : b = a
    · rw [z, upd_same] at q; cases q
    · rw [upd_ne z] at q; exact s.fr b q
  · by_cases z : b = a
    · subst z; rw [hl] at q; cases q
    · rw [upd_ne z]; exact q
  · by_cases z : b = a
    · rw [z, upd_same]; simp
    · rw [upd_ne z]; exact q
  · obtain ⟨j, q⟩ := q
    by_cases hj : j = i
    · subst hj
      rw [setG_same] at q
      by_cases z : b = a
      · subst z; exact .inr hl
      · rw [upd_ne z] at q; exact .inl ⟨j, q⟩
    · rw [setG_ne hj] at q
      exact .inl ⟨j, q⟩
/-- an entry: its marks, the key's address, the list's address, the list -/
abbrev ME := List Bool × Addr × Addr × List V
def mX (e : ME) : List Leaf × Addr × Value := (e.1.map bL, e.2.1, .ref e.2.2.1)
def rBT (K : PySem.W.Frag) (bs : List Bool) : Rp := ⟨fun F v => ∃ a, v = .ref a ∧ SqT K F a (bs.map V.bl), fun h ⟨a, e, q⟩ => ⟨a, e, Same.seqT h q⟩⟩
structure MKp {α : Type} (P : Program) (w : World) (K : PySem.W.Frag) (N : Addr → Prop) (r : α → Rp) (kvs : List (List Bool × List α)) (F G : Hp) (a : Addr) (o : Obj) (es : List ME) : Prop where
  n : N a
  sys : (a == sysModules) = false
  ga : G a = some (xO a o)
  dx : DX P w o (es.map mX)
  ks : ∀ e ∈ es, SqT K F e.2.1 (e.1.map V.bl)
  ls : ∀ e ∈ es, N e.2.2.1 ∧ G e.2.2.1 = some (.lst e.2.2.2)
  nd : (es.map fun e => e.2.2.1).Nodup
  t : All2 (fun (e : ME) (p : List Bool × List α) => e.1 = p.1 ∧ All2 (fun u x => (r x).p F u) e.2.2.2 p.2) es kvs
def oMK {α : Type} (P : Program) (w : World) (K : PySem.W.Frag) (N : Addr → Prop) (r : α → Rp) (kvs : List (List Bool × List α)) : Op :=
  ⟨fun F G v => ∃ a o es, v = .ref a ∧ MKp P w K N r kvs F G a o es, fun h ⟨a, o, es, e, m⟩ => ⟨a, o, es, e, m.n, m.sys, m.ga, m.dx, fun e he => Same.seqT h (m.ks e he), m.ls, m.nd, m.t.imp fun _ _ z => ⟨z.1, z.2.imp fun _ _ q => (r _).mono h q⟩⟩⟩
def sdA {α : Type} (kvs : List (List Bool × List α)) (k : List Bool) (x : α) : List (List Bool × List α) := if (kvs.any fun p => decide (p.1 = k)) = true then kvs.map (fun p => if p.1 = k then (p.1, p.2 ++ [x]) else p) else kvs ++ [(k, [x])]
section
variable {C : Cc} {Γ Γ' : List Slot} {α ω : Type} {J : ω → Out} {pos : Pos} {rest : List Stmt}
/-- the entry of a key -/
theorem ME.put {es : List ME} {bs : List Bool} {e : ME} {w : V} (hn : ((es.map mX).map (·.1)).Nodup) (he : e ∈ es) (hb : e.1 = bs) : ∀ e' ∈ es, e'.1 = bs → e' = e := by
  induction es with
  | nil => cases he
  | cons x es ih =>
    rw [List.map_cons, List.map_cons, List.nodup_cons] at hn
    have key : ∀ y ∈ es, ¬ y.1 = x.1 := fun y hy z => hn.1 (by
      rw [List.map_map]
      exact List.mem_map.mpr ⟨y, hy, by show y.1.map bL = x.1.map bL; rw [z]⟩)
    intro e' h1 h2
    rcases List.mem_cons.mp he with q | q
    · rcases List.mem_cons.mp h1 with z | z
      · rw [z, q]
      · exact absurd (h2.trans (hb.symm.trans (congrArg Prod.fst q))) (key e' z)
    · rcases List.mem_cons.mp h1 with z | z
      · exact absurd (hb.trans (h2.symm.trans (congrArg Prod.fst z))) (key e q)
      · exact ih hn.2 q e' z h2
def putW (es : List ME) (bs : List Bool) (w : V) : List ME := es.map fun e => if e.1 = bs then (e.1, e.2.1, e.2.2.1, e.2.2.2 ++ [w]) else e
theorem MKp.add {P : Program} {w : World} {K : PySem.W.Frag} {N : Addr → Prop} {r : α → Rp} {kvs : List (List Bool × List α)} {F G : Hp} {a : Addr} {o o' : Obj} {es : List ME} (m : MKp P w K N r kvs F G a o es) {bs : List Bool} {q l : Addr} (hn : ∀ e ∈ es, ¬ e.1 = bs) (hl : G l = none) (nl : N l) (hq : SqT K F q (bs.map V.bl)) (dx : DX P w o' (es.map mX ++ [(bs.map bL, q, .ref l)])) {u : V} {x : α} (hx : (r x).p F u) :
    MKp P w K N r (sdA kvs bs x) F (upd (upd (upd G l (.lst [])) a (xO a o')) l (.lst [u])) a o' (es ++ [(bs, q, l, [u])]) := by
  have hal : a ≠ l := fun z => by have := m.ga; rw [z, hl] at this; cases this
  have hel : ∀ e ∈ es, e.2.2.1 ≠ l ∧ e.2.2.1 ≠ a := fun e he => by
    have h1 := (m.ls e he).2
    refine ⟨fun z => ?_, fun z => ?_⟩
    · rw [z, hl] at h1; cases h1
    · rw [z, m.ga] at h1; cases h1
  exact {
    n := m.n
    sys := m.sys
    ga := by rw [upd_ne hal, upd_same]
    dx := by rw [List.map_append]; exact dx
    ks := fun e he => by
      rcases List.mem_append.mp he with z | z
      · exact m.ks e z
      · rw [List.mem_singleton.mp z]; exact hq
    ls := fun e he => by
      rcases List.mem_append.mp he with z | z
      · refine ⟨(m.ls e z).1, ?_⟩
        rw [upd_ne (hel e z).1, upd_ne (hel e z).2, upd_ne (hel e z).1]
        exact (m.ls e z).2
      · rw [List.mem_singleton.mp z]; exact ⟨nl, upd_same⟩
    nd := by
      rw [List.map_append]
      refine List.nodup_append.mpr ⟨m.nd, by simp, fun b hb c hc => ?_⟩
      obtain ⟨e, he, rfl⟩ := List.mem_map.mp hb
      have hc : c = l := by simpa using hc
      rw [hc]
      exact (hel e he).1
    t := by
      have hany : ¬ (kvs.any fun p => decide (p.1 = bs)) = true := fun z => by
        obtain ⟨p, hp, h1⟩ := List.any_eq_true.mp z
        have t := m.t
        have key : ∀ {es2 : List ME} {kvs2 : List (List Bool × List α)}, All2 (fun (e : ME) (p : List Bool × List α) => e.1 = p.1 ∧ All2 (fun u x => (r x).p F u) e.2.2.2 p.2) es2 kvs2 → p ∈ kvs2 → ∃ e ∈ es2, e.1 = p.1 := fun {es2 kvs2} t => by
          induction t with
          | nil => intro h; cases h
          | @cons a b as cs q t ih =>
            intro h
            rcases List.mem_cons.mp h with z | z
            · exact ⟨a, by simp, by rw [z]; exact q.1⟩
            · obtain ⟨e, he, ee⟩ := ih z
              exact ⟨e, by simp [he], ee⟩
        obtain ⟨e, he, ee⟩ := key t hp
        exact hn e he (ee.trans (of_decide_eq_true h1))
      unfold sdA
      rw [if_neg hany]
      exact m.t.append (.cons ⟨rfl, .cons hx .nil⟩ .nil) }
end
end Y

/-! Y49: such a dict read: its keys walked, d[k] -/
namespace Y
open PySem PySem.Spec L2 Builtin
def rMK {α : Type} (P : Program) (w : World) (K : PySem.W.Frag) (N : Addr → Prop) (r : α → Rp) (kvs : List (List Bool × List α)) : Rp :=
  ⟨fun F v => ∃ a o es, v = .ref a ∧ MKp P w K N r kvs F F a o es, fun h ⟨a, o, es, e, m⟩ => ⟨a, o, es, e, m.n, m.sys, h _ _ m.ga, m.dx, fun e he => Same.seqT h (m.ks e he), fun e he => ⟨(m.ls e he).1, h _ _ (m.ls e he).2⟩, m.nd, m.t.imp fun _ _ z => ⟨z.1, z.2.imp fun _ _ q => (r _).mono h q⟩⟩⟩
def getB {α : Type} (d : List (List Bool × List α)) (k : List Bool) : W (List α) := match d.find? fun p => decide (p.1 = k) with | some p => pure p.2 | none => W.bad
section
variable {C : Cc} {Γ Γ' : List Slot} {α ω : Type} {J : ω → Out} {e a b tg : Expr} {pos : Pos} {rest sts : List Stmt}
end
end Y

/-! Y50: tuple([..]) of truths, b in a tuple of truths -/
namespace Y
open PySem PySem.Spec L2 Builtin
section
variable {C : Cc} {Γ Γ' : List Slot} {α ω : Type} {J : ω → Out} {e a b tg : Expr} {p pos : Pos} {rest sts : List Stmt}
end
end Y

/-! Y51: an own list of own lists of numbers: grown, picked of, one of the picked grown -/
namespace Y
open PySem PySem.Spec L2
section
variable {C : Cc} {Γ Γ' : List Slot} {α β γ δ ε ω : Type} {J : ω → Out} {e : Expr} {pos : Pos} {rest : List Stmt}
def rEq (u : V) : Rp := ⟨fun _ v => v = u, fun _ h => h⟩
instance : Fre rEq := ⟨fun _ _ _ h _ => h⟩
def rPV (K : PySem.W.Frag) (p : V × List Int) : Rp := ⟨fun F v => v = p.1 ∧ (rL K rI p.2).p F v, fun h ⟨e, r⟩ => ⟨e, (rL K rI p.2).mono h r⟩⟩
def oQ (N : Addr → Prop) (vs : List V) (xs : List (List Int)) : Op :=
  ⟨fun F G v => (∀ b, G b ≠ none → N b) ∧ ∃ a, v = .ref a ∧ N a ∧ G a = some (.lst vs) ∧ All2 (fun u x => (rN N rI x).p G u) vs xs ∧ Dn a vs, fun _ h => h⟩
abbrev oR (N : Addr → Prop) (xs : List (List Int)) : Op := oV (fun N => rDL N (rN N rI)) N xs
/-- the first of the picked ones grown -/
def aliI (vs us : List V) (xs : List (List Int)) (x : Int) : W (List (List Int)) :=
  W.req (∃ (q : Nat) (u : V) (z : List Int), us[0]? = some u ∧ vs[q]? = some u ∧ xs[q]? = some z ∧ z.length ≤ 1000000) (W.any fun ys => ∃ (q : Nat) (u : V) (z : List Int), us[0]? = some u ∧ vs[q]? = some u ∧ xs[q]? = some z ∧ ys = xs.set q (z ++ [x]))
end
end Y

/-! Y52: k in d, d[k] of a dict told by texts; lists of things or None; extend -/
namespace Y
open PySem PySem.Spec L2
section
variable {C : Cc} {Γ Γ' : List Slot} {α β γ ω : Type} {J : ω → Out} {e o a b : Expr} {pos : Pos} {rest : List Stmt}
/-- none of them is None -/
def unOs (xs : List (Option α)) : W (List α) := W.req (∀ x ∈ xs, x.isSome = true) (pure (xs.filterMap id))
theorem all2_unO {F : Hp} {r : α → Rp} {vs : List V} {xs : List (Option α)} (t : All2 (fun u x => (rO r x).p F u) vs xs) (h : ∀ x ∈ xs, x.isSome = true) : All2 (fun u x => (r x).p F u) vs (xs.filterMap id) := by
  induction t with
  | nil => exact .nil
  | @cons a b as bs q t ih =>
    have h1 := h b (by simp)
    cases b with
    | none => cases h1
    | some y => exact .cons q (ih fun x hx => h x (by simp [hx]))
theorem Ev.unOs {K : PySem.W.Frag} {r : α → Rp} {m : W (List (Option α))} (h : Ev C Γ e (rL K (rO r)) m) : Ev C Γ e (rL K r) (do let o ← m; Y.unOs o) :=
  fun X Wx ok tk F H g σ s Q hm => h X Wx ok tk F H g σ s Q (m.mono (fun xs hx F' H' g' v f s1 r1 => by
    obtain ⟨hs, hx⟩ := hx
    obtain ⟨q, vs, ev, hq, t⟩ := r1
    exact hx F' H' g' v f s1 ⟨q, vs, ev, hq, all2_unO t hs⟩) (fun _ z => z) hm)
/-- nothing is like None -/
class NoNe {K : PySem.W.Frag} (r : α → Rp) [I : DatE K r] : Prop where
  l : ∀ x, PyData.eqv (I.enc x) .none = false
  r : ∀ x, PyData.eqv .none (I.enc x) = false
instance {K : PySem.W.Frag} {r : α → Rp} [I : DatE K r] : NoNe (K := K) (rL K r) := ⟨fun _ => rfl, fun _ => rfl⟩
instance {K : PySem.W.Frag} {N : Addr → Prop} {r : α → Rp} [I : DatE K r] : NoNe (K := K) (rN N r) := ⟨fun _ => rfl, fun _ => rfl⟩
def encO (f : α → PyData) : Option α → PyData
  | none => .none
  | some x => f x
instance {K : PySem.W.Frag} {r : α → Rp} [I : DatE K r] [J : NoNe (K := K) r] : DatE K (rO r) where
  enc := encO I.enc
  dep := I.dep
  ok := fun o => ∀ x, o = some x → I.ok x
  dp := fun {x F v} h => by
    cases x with
    | none =>
      have e : v = .non := h
      subst e
      exact .non
    | some a => exact I.dp h
  can := fun x h => by
    cases x with
    | none => rfl
    | some a => exact I.can a (h a rfl)
  deps := fun x => by
    cases x with
    | none => exact Nat.zero_le _
    | some a => exact I.deps a
  dec := fun x y => by
    cases x with
    | none =>
      cases y with
      | none => simp [encO, PyData.eqv]
      | some b => simp [encO, J.r]
    | some a =>
      cases y with
      | none => simp [encO, J.l]
      | some b => simp [encO, I.dec]
instance {K : PySem.W.Frag} {r : α → Rp} [I : DatE K r] [J : NoNe (K := K) r] [T : DatT K r] : DatT K (rO r) := ⟨fun _ x _ => T.all x⟩
/-- x.extend(y) -/
theorem Ex.extend {i : Nat} {x : Str} {px apos cpos : Pos} {r : α → Rp} {xs : List α} {m : W (List α)} {k : List α → W ω} (hN : C.N[i]? = some x) (hv : Vis C.sc x) (hΓ : Γ[i]? = some (.own (oL C.fr r xs))) (h : Ev C Γ e (rN C.fr r) m) (n : NoStar e) (hr : ∀ a, Ex C (Γ.set i (.own (oL C.fr r (xs ++ a)))) rest J (k a))
    (hline : (apos.endLine == cpos.line) = true := by rfl) (hd : (x == ("__debug__" : Str)) = false := by decide) (hcd : (x == ("__classdict__" : Str)) = false := by decide) (hb : ∀ X : Cx, attributeBase (.Name x px) "extend" X.env (eval (.Name x px) X.env) = eval (.Name x px) X.env := by intro _; rfl)
    (hs : ∀ X : Cx, swapsWith (.Call (.Attribute (.Name x px) "extend" apos) [e] [] cpos) none pos.line X.env = pure false := by intro _; rfl) :
    Ex C Γ (.Expr (.Call (.Attribute (.Name x px) "extend" apos) [e] [] cpos) pos :: rest) J (do let a ← m; W.req (xs.length + a.length ≤ 1000000) (k a)) :=
  Ex.cons fun X Wx ok tk F H g σ s D hm => by
    refine W1.of (ps_expr (pe_bm PySem.F.plainAttrs_list PySem.F.slot_list_extend PySem.F.type_list_extend mt_extend (pe_var (i := i) (by rw [ok.N]; exact hN) (by rw [ok.sc]; exact hv) hd hcd) (pa_cons (pe_W (e := e)) pa_nil (n [] X.env)) (hb X) (fewArgs1 n cpos) hline (n [] X.env) rfl) (hs X)) ?_
    obtain ⟨v, eσ, a, vs, ev, na, eg, t⟩ := s.get_own hΓ
    subst ev
    have hHa : H a = some (.lst vs) := s.sG i a _ (by rw [eg]; exact one_same)
    refine ⟨.ref a, eσ, .inl ⟨rfl, _, SqL.of hHa⟩, ?_⟩
    refine h X Wx ok.toOk tk F H g σ s _ (m.mono (fun y hy F1 H1 g1 w f1 s1 r1 => ?_) (fun e he => he.ex) hm)
    obtain ⟨v', eσ', a', vs', ev', na', eg', t'⟩ := s1.get_own hΓ
    rw [eσ] at eσ'
    cases eσ'
    cases ev'
    obtain ⟨b, us, eb, nb, hb, tb⟩ := r1
    subst eb
    obtain ⟨s2, f2, hH1⟩ := s1.upd_own (O' := oL C.fr r (xs ++ y)) (o' := .lst (vs' ++ us)) eg' eσ (List.getElem?_eq_some_iff.mp hΓ).1 ⟨a, vs' ++ us, rfl, na', rfl, t'.append tb⟩
    refine ⟨a, b, vs', us, rfl, rfl, hH1, s1.sF _ _ hb, ?_, ?_⟩
    · rw [t'.length, tb.length, PySem.sizeLine_eq]
      have := hy.1
      omega
    · exact (hr y).later ok tk (f1.trans f2) s2 hy.2
end
end Y

/-! Y53: .index of truths; two changing calls in one test that is told -/
namespace Y
open PySem PySem.Spec L2
section
variable {C : Cc} {Γ Γ' : List Slot} {α β γ ω : Type} {J : ω → Out} {e o a b : Expr} {pos p p2 apos : Pos} {rest : List Expr} {x : Str} {j : Nat}
theorem EvX.one {op : BoolOp} {Γ' : α → List Slot} {ρ : α → Rp} {m : W α} (h : EvX C Γ a Γ' ρ m) : EvX C Γ (.BoolOp op [a] pos) Γ' ρ m := fun X Wx ok tk F H g σ s Q hm => WE.of (pe_one (pe_W (e := a))) (h X Wx ok tk F H g σ s Q hm)
theorem EvX.and {δ : Type} {Γ' : δ → List Slot} {m1 : W (δ × Bool)} {m2 : δ → W (δ × Bool)} (ha : EvX C Γ a (fun y : δ × Bool => Γ' y.1) (fun y => rB y.2) m1) (hb : ∀ d, EvX C (Γ' d) (.BoolOp .And (b :: rest) pos) (fun y : δ × Bool => Γ' y.1) (fun y => rB y.2) (m2 d)) :
    EvX C Γ (.BoolOp .And (a :: b :: rest) pos) (fun y : δ × Bool => Γ' y.1) (fun y => rB y.2) (do let x ← m1; if x.2 = true then W.noX (m2 x.1) else pure (x.1, false)) := fun X Wx ok tk F H g σ s Q hm => by
  refine WE.of (pe_and (pe_W (e := a)) (pe_W (e := .BoolOp .And (b :: rest) pos))) ?_
  refine ha X Wx ok tk F H g σ s _ (m1.mono (fun x hx F1 H1 g1 v f1 s1 r1 => ⟨x.2, r1, ?_⟩) (fun e he => he) hm)
  obtain ⟨d, k⟩ := x
  cases k with
  | true =>
    replace hx : (m2 d).wp _ (fun _ => False) := hx
    exact hb d X Wx ok tk F1 H1 g1 σ s1 _ ((m2 d).mono (fun y hy F2 H2 g2 v f2 s2 r2 => hy F2 H2 g2 v (f1.trans f2) s2 r2) (fun e he => he.elim) hx)
  | false => exact hx F1 H1 g1 _ f1 s1 rfl
/-- an own thing that is just u -/
def oPin (O : Op) (u : V) : Op := ⟨fun F G v => O.p F G v ∧ v = u, fun h ⟨x, e⟩ => ⟨O.mono h x, e⟩⟩
end
end Y

/-! Y54: own dicts whose keys are ints: read, walked while they stay, told by a call -/
namespace Y
open PySem PySem.Spec L2
section
variable {C : Cc} {Γ Γ' : List Slot} {α β γ ω : Type} {J : ω → Out} {e o a b : Expr} {pos p p2 apos px : Pos} {x : Str} {j : Nat}
def AllD (F : Hp) (r : α → Rp) (vs : List (Int × V)) (kvs : List (Int × α)) : Prop := All2 (fun (q : Int × V) (p : Int × α) => q.1 = p.1 ∧ (r p.2).p F q.2) vs kvs
theorem AllD.mono {F F' : Hp} {r : α → Rp} {vs : List (Int × V)} {kvs : List (Int × α)} (h : Same F F') (t : AllD F r vs kvs) : AllD F' r vs kvs := All2.imp (fun _ _ z => ⟨z.1, (r _).mono h z.2⟩) t
/-- locked at z, just u -/
def oDF (N : Addr → Prop) (r : α → Rp) (kvs : List (Int × α)) (z : HO) (u : V) : Op :=
  ⟨fun F G v => v = u ∧ ∃ (a : Addr) (vs : List (Int × V)) (od : Obj), v = .ref a ∧ N a ∧ z = .frz od (.dK (kvI vs)) ∧ G = one a z ∧ AllD F r vs kvs, fun h ⟨eu, a, vs, od, e, n, ez, q, t⟩ => ⟨eu, a, vs, od, e, n, ez, q, t.mono h⟩⟩
structure IsDI (O : Op) (r : α → Rp) (kvs : List (Int × α)) : Prop where
  out : ∀ F G v, O.p F G v → ∃ (a : Addr) (vs : List (Int × V)), v = .ref a ∧ (G a = some (.dK (kvI vs)) ∨ ∃ od, G a = some (.frz od (.dK (kvI vs)))) ∧ AllD F r vs kvs
theorem IsDI.rd {F H : Hp} {σ : L2.St} {g : Nat → Hp} {i : Nat} {O : Op} {r : α → Rp} {kvs : List (Int × α)} (hO : IsDI O r kvs) (s : StOk C F H Γ σ g) (hΓ : Γ[i]? = some (.own O)) : ∃ (a : Addr) (vs : List (Int × V)), σ[i]? = some (some (.ref a)) ∧ Rd H a (.dK (kvI vs)) ∧ AllD F r vs kvs := by
  obtain ⟨v0, eσ, r0⟩ := s.get_own hΓ
  obtain ⟨a, vs, ev, hG, t⟩ := hO.out _ _ _ r0
  subst ev
  refine ⟨a, vs, eσ, ?_, t⟩
  rcases hG with q | ⟨od, q⟩
  · exact .inl (s.sG i a _ q)
  · exact .inr ⟨od, s.sG i a _ q⟩
/-! ### a call that tells a dict of the asker's own -/
end
end Y

/-! Y57 (for law 07): things whose lists are the asker's own, their tuples anyone's; makers of such things -/
namespace Y
open PySem PySem.Spec L2
def IsL (o : HO) : Prop := ∃ vs, o = .lst vs
def LsO (G : Hp) : Prop := ∀ b o, G b = some o → IsL o
section
variable {α β γ δ : Type}
/-- told of lists of N alone; what else it needs are no lists -/
structure Frl (ρ : (Addr → Prop) → α → Rp) : Prop where
  re : ∀ N x F F' v, (∀ b o, F b = some o → (N b ∨ ¬ IsL o) → F' b = some o) → (ρ N x).p F v → (ρ N x).p F' v
  mo : ∀ N N' x F v, (∀ b o, F b = some o → N b → IsL o → N' b) → (ρ N x).p F v → (ρ N' x).p F v
theorem Frl.fre {r : α → Rp} [I : Fre r] : Frl (fun _ => r) := ⟨fun _ _ _ _ _ _ h => I.fre _ _ _ h _, fun _ _ _ _ _ _ h => h⟩
theorem Frl.N {ρ : (Addr → Prop) → α → Rp} (h : Frl ρ) : Frl (fun N => rN N (ρ N)) :=
  ⟨fun N x F F' v hF ⟨a, vs, e, n, q, t⟩ => ⟨a, vs, e, n, hF a _ q (.inl n), t.imp fun _ _ z => h.re _ _ _ _ _ hF z⟩,
   fun N N' x F v hN ⟨a, vs, e, n, q, t⟩ => ⟨a, vs, e, hN a _ q n ⟨_, rfl⟩, q, t.imp fun _ _ z => h.mo _ _ _ _ _ hN z⟩⟩
theorem SqT.frl {K : PySem.W.Frag} {N : Addr → Prop} {F F' : Hp} {a : Addr} {xs : List V} (hF : ∀ b o, F b = some o → (N b ∨ ¬ IsL o) → F' b = some o) (h : SqT K F a xs) : SqT K F' a xs := by
  rcases h with q | q
  · refine .inl ?_
    rcases q with q | ⟨o, q⟩
    · exact .inl (hF _ _ q (.inr fun ⟨_, z⟩ => nomatch z))
    · exact .inr ⟨o, hF _ _ q (.inr fun ⟨_, z⟩ => nomatch z)⟩
  · exact .inr q
theorem Frl.T2 {K : PySem.W.Frag} {ρ1 : (Addr → Prop) → α → Rp} {ρ2 : (Addr → Prop) → β → Rp} (h1 : Frl ρ1) (h2 : Frl ρ2) : Frl (fun N => rT2 K (ρ1 N) (ρ2 N)) :=
  ⟨fun N x F F' v hF ⟨a, v1, v2, e, q, t1, t2⟩ => ⟨a, v1, v2, e, SqT.frl hF q, h1.re _ _ _ _ _ hF t1, h2.re _ _ _ _ _ hF t2⟩,
   fun N N' x F v hN ⟨a, v1, v2, e, q, t1, t2⟩ => ⟨a, v1, v2, e, q, h1.mo _ _ _ _ _ hN t1, h2.mo _ _ _ _ _ hN t2⟩⟩
theorem Frl.T3 {K : PySem.W.Frag} {ρ1 : (Addr → Prop) → α → Rp} {ρ2 : (Addr → Prop) → β → Rp} {ρ3 : (Addr → Prop) → γ → Rp} (h1 : Frl ρ1) (h2 : Frl ρ2) (h3 : Frl ρ3) : Frl (fun N => rT3 K (ρ1 N) (ρ2 N) (ρ3 N)) :=
  ⟨fun N x F F' v hF ⟨a, v1, v2, v3, e, q, t1, t2, t3⟩ => ⟨a, v1, v2, v3, e, SqT.frl hF q, h1.re _ _ _ _ _ hF t1, h2.re _ _ _ _ _ hF t2, h3.re _ _ _ _ _ hF t3⟩,
   fun N N' x F v hN ⟨a, v1, v2, v3, e, q, t1, t2, t3⟩ => ⟨a, v1, v2, v3, e, q, h1.mo _ _ _ _ _ hN t1, h2.mo _ _ _ _ _ hN t2, h3.mo _ _ _ _ _ hN t3⟩⟩
theorem uni_monoR {G F F' : Hp} (h : Same F F') : Same (uni G F) (uni G F') := fun b o q => by
  unfold uni at q ⊢
  cases e : G b with
  | some u => rw [e] at q; exact q
  | none => rw [e] at q; exact h b o q
/-- a thing all of whose lists are private -/
def oW (ρ : (Addr → Prop) → α → Rp) (N : Addr → Prop) (x : α) : Op := ⟨fun F G v => (∀ b, G b ≠ none → N b) ∧ LsO G ∧ (ρ (fun b => G b ≠ none) x).p (uni G F) v, fun h ⟨n, l, r⟩ => ⟨n, l, (ρ _ x).mono (uni_monoR h) r⟩⟩
/-- four unlike things in a list -/
def rH4 (K : PySem.W.Frag) (r1 : α → Rp) (r2 : β → Rp) (r3 : γ → Rp) (r4 : δ → Rp) (x : α × β × γ × δ) : Rp :=
  ⟨fun F v => ∃ a v1 v2 v3 v4, v = .ref a ∧ SqL K F a [v1, v2, v3, v4] ∧ (r1 x.1).p F v1 ∧ (r2 x.2.1).p F v2 ∧ (r3 x.2.2.1).p F v3 ∧ (r4 x.2.2.2).p F v4, fun h ⟨a, v1, v2, v3, v4, e, q, t1, t2, t3, t4⟩ => ⟨a, v1, v2, v3, v4, e, h.seq q, (r1 _).mono h t1, (r2 _).mono h t2, (r3 _).mono h t3, (r4 _).mono h t4⟩⟩
def rW4 (N : Addr → Prop) (r1 : α → Rp) (r2 : β → Rp) (r3 : γ → Rp) (r4 : δ → Rp) (x : α × β × γ × δ) : Rp :=
  ⟨fun F v => ∃ a v1 v2 v3 v4, v = .ref a ∧ N a ∧ F a = some (.lst [v1, v2, v3, v4]) ∧ (r1 x.1).p F v1 ∧ (r2 x.2.1).p F v2 ∧ (r3 x.2.2.1).p F v3 ∧ (r4 x.2.2.2).p F v4, fun h ⟨a, v1, v2, v3, v4, e, n, q, t1, t2, t3, t4⟩ => ⟨a, v1, v2, v3, v4, e, n, h _ _ q, (r1 _).mono h t1, (r2 _).mono h t2, (r3 _).mono h t3, (r4 _).mono h t4⟩⟩
theorem Frl.W4 {ρ1 : (Addr → Prop) → α → Rp} {ρ2 : (Addr → Prop) → β → Rp} {ρ3 : (Addr → Prop) → γ → Rp} {ρ4 : (Addr → Prop) → δ → Rp} (h1 : Frl ρ1) (h2 : Frl ρ2) (h3 : Frl ρ3) (h4 : Frl ρ4) : Frl (fun N => rW4 N (ρ1 N) (ρ2 N) (ρ3 N) (ρ4 N)) :=
  ⟨fun N x F F' v hF ⟨a, v1, v2, v3, v4, e, n, q, t1, t2, t3, t4⟩ => ⟨a, v1, v2, v3, v4, e, n, hF a _ q (.inl n), h1.re _ _ _ _ _ hF t1, h2.re _ _ _ _ _ hF t2, h3.re _ _ _ _ _ hF t3, h4.re _ _ _ _ _ hF t4⟩,
   fun N N' x F v hN ⟨a, v1, v2, v3, v4, e, n, q, t1, t2, t3, t4⟩ => ⟨a, v1, v2, v3, v4, e, hN a _ q n ⟨_, rfl⟩, q, h1.mo _ _ _ _ _ hN t1, h2.mo _ _ _ _ _ hN t2, h3.mo _ _ _ _ _ hN t3, h4.mo _ _ _ _ _ hN t4⟩⟩
theorem subW4 {K : PySem.W.Frag} {N : Addr → Prop} {r1 r1' : α → Rp} {r2 r2' : β → Rp} {r3 r3' : γ → Rp} {r4 r4' : δ → Rp} (h1 : SubK r1 r1') (h2 : SubK r2 r2') (h3 : SubK r3 r3') (h4 : SubK r4 r4') : SubK (rW4 N r1 r2 r3 r4) (rH4 K r1' r2' r3' r4') := fun x F v ⟨a, v1, v2, v3, v4, e, _, q, t1, t2, t3, t4⟩ => ⟨a, v1, v2, v3, v4, e, SqL.of q, h1 _ _ _ t1, h2 _ _ _ t2, h3 _ _ _ t3, h4 _ _ _ t4⟩
instance {K : PySem.W.Frag} {r1 : α → Rp} {r2 : β → Rp} {r3 : γ → Rp} {r4 : δ → Rp} [I : DatE K r1] [J : DatE K r2] [L : DatE K r3] [M : DatE K r4] : DatE K (rH4 K r1 r2 r3 r4) where
  enc := fun x => .list [I.enc x.1, J.enc x.2.1, L.enc x.2.2.1, M.enc x.2.2.2]
  dep := I.dep + J.dep + L.dep + M.dep + 3
  ok := fun x => I.ok x.1 ∧ J.ok x.2.1 ∧ L.ok x.2.2.1 ∧ M.ok x.2.2.2
  dp := fun ⟨a, v1, v2, v3, v4, e, q, t1, t2, t3, t4⟩ => by subst e; exact .lst q (.cons (I.dp t1) (.cons (J.dp t2) (.cons (L.dp t3) (.cons (M.dp t4) .nil))))
  can := fun x h => by simp [PyData.canLay0, PyData.canLayAll0, I.can _ h.1, J.can _ h.2.1, L.can _ h.2.2.1, M.can _ h.2.2.2]
  deps := fun x => by
    have := I.deps x.1
    have := J.deps x.2.1
    have := L.deps x.2.2.1
    have := M.deps x.2.2.2
    simp only [PyData.depth, PyData.depthAll]
    omega
  dec := fun x y => by
    obtain ⟨x1, x2, x3, x4⟩ := x
    obtain ⟨y1, y2, y3, y4⟩ := y
    simp [PyData.eqv, PyData.eqvAll, I.dec, J.dec, L.dec, M.dec]
/-! ### a yard all of whose lists are new -/
def flYN (K : PySem.W.Frag) (N : Addr → Prop) (x : YardV) : Fl2 := [("told_goods", rN N rS x.1), ("told_works", rN N (rT3 K rS (rN N (rT2 K rS rI)) (rN N (rT2 K rS rI))) x.2)]
theorem Frl.YN {K : PySem.W.Frag} {A : Addr} : Frl (fun N => rIns A (flYN K N)) := by
  have hg : Frl (fun N => rN N rS) := Frl.N Frl.fre
  have hw : Frl (fun N => rN N (rT3 K rS (rN N (rT2 K rS rI)) (rN N (rT2 K rS rI)))) := Frl.N (Frl.T3 Frl.fre (Frl.N (Frl.T2 Frl.fre Frl.fre)) (Frl.N (Frl.T2 Frl.fre Frl.fre)))
  refine ⟨fun N x F F' v hF ⟨a, dx, fs, e, q1, q2, t⟩ => ⟨a, dx, fs, e, hF a _ q1 (.inr fun ⟨_, z⟩ => nomatch z), hF dx _ q2 (.inr fun ⟨_, z⟩ => nomatch z), ?_⟩, fun N N' x F v hN ⟨a, dx, fs, e, q1, q2, t⟩ => ⟨a, dx, fs, e, q1, q2, ?_⟩⟩
  · match fs, t with
    | [_, _], .cons ⟨h1, h2⟩ (.cons ⟨h3, h4⟩ .nil) => exact .cons ⟨h1, hg.re _ _ _ _ _ hF h2⟩ (.cons ⟨h3, hw.re _ _ _ _ _ hF h4⟩ .nil)
  · match fs, t with
    | [_, _], .cons ⟨h1, h2⟩ (.cons ⟨h3, h4⟩ .nil) => exact .cons ⟨h1, hg.mo _ _ _ _ _ hN h2⟩ (.cons ⟨h3, hw.mo _ _ _ _ _ hN h4⟩ .nil)
theorem subYN {K : PySem.W.Frag} {A : Addr} {N : Addr → Prop} : SubK (rIns A (flYN K N)) (rIns A (flY K)) := fun x F v ⟨a, dx, fs, e, q1, q2, t⟩ => by
  refine ⟨a, dx, fs, e, q1, q2, ?_⟩
  match fs, t with
  | [_, _], .cons ⟨h1, h2⟩ (.cons ⟨h3, h4⟩ .nil) => exact .cons ⟨h1, subNL subR _ _ _ h2⟩ (.cons ⟨h3, subNL (subT3 subR (subNL subR) (subNL subR)) _ _ _ h4⟩ .nil)
end
section
variable {C : Cc} {Γ Γ' : List Slot} {α β γ δ ε ω : Type} {J : ω → Out} {e e1 e2 e3 e4 a b : Expr} {p pos : Pos} {rest sts : List Stmt} {x : Str}
theorem oW_val {ρ : (Addr → Prop) → α → Rp} (hρ : Frl ρ) {N : Addr → Prop} {x : α} {R : Rp} (h : ∀ F v, (ρ N x).p F v → R.p F v) : Bo C (.own (oW ρ N x)) (.val R) :=
  .ge fun F F' G v s s2 ⟨n, _, r⟩ => h F' v (hρ.mo _ _ _ _ _ (fun b _ _ q _ => n b q) ((ρ _ x).mono (fun b o q => by
    rcases of_uni q with q | ⟨_, q⟩
    · exact s2 _ _ q
    · exact s _ _ q) r))
theorem oW_read {ρ : (Addr → Prop) → α → Rp} (hρ : Frl ρ) {N : Addr → Prop} {x : α} {R : Rp} (h : ∀ F v, (ρ N x).p F v → R.p F v) (F G : Hp) (v : V) (q : (oW ρ N x).p F G v) : LsO G ∧ R.p (uni G F) v :=
  ⟨q.2.1, h _ _ (hρ.mo _ _ _ _ _ (fun b _ _ z _ => q.1 b z) q.2.2)⟩
/-- own things unseen -/
inductive BoN : Slot → Slot → Prop
  | rf {R : Rp} : BoN (.val R) (.val R)
  | no {S : Slot} : BoN S .no
  | sb {R R' : Rp} (h : ∀ F v, R.p F v → R'.p F v) : BoN (.val R) (.val R')
theorem StOk.pick {F H F0 : Hp} {σ : St} {g : Nat → Hp} (s : StOk C F H Γ σ g) (hb : All2 BoN Γ Γ') (hF : Same F F0) (h0 : Same F0 H) : StOk C F0 H Γ' σ (fun _ => emp) := by
  refine ⟨hb.length.symm.trans s.len, fun i S q => ?_, h0, fun i a o q => (nomatch q), fun i a => .inr rfl, fun i j _ a => .inr rfl, s.fr⟩
  obtain ⟨S0, q0, r⟩ := hb.at q
  have x := (s.slot i S0 q0).mono hF
  cases r with
  | rf => exact x
  | no => trivial
  | sb h => obtain ⟨v, e1, r⟩ := x; exact ⟨v, e1, h _ _ r⟩
/-- what is new: lists, others -/
noncomputable def nwL (H F' : Hp) : Hp := fun a => by classical exact if H a = none ∧ (∃ vs, F' a = some (.lst vs)) then F' a else none
noncomputable def nwR (H F' : Hp) : Hp := fun a => by classical exact if H a = none ∧ ¬ (∃ vs, F' a = some (.lst vs)) then F' a else none
noncomputable def nwA (H F' : Hp) : Hp := fun a => by classical exact if H a = none then F' a else none
theorem nwL_some {H F' : Hp} {a : Addr} {o : HO} (h : nwL H F' a = some o) : H a = none ∧ F' a = some o ∧ IsL o := by
  unfold nwL at h
  split at h
  · rename_i q
    obtain ⟨h1, vs, h2⟩ := q
    rw [h2] at h
    cases h
    exact ⟨h1, h2, vs, rfl⟩
  · cases h
theorem nwR_some {H F' : Hp} {a : Addr} {o : HO} (h : nwR H F' a = some o) : H a = none ∧ F' a = some o ∧ ¬ IsL o := by
  unfold nwR at h
  split at h
  · rename_i q
    obtain ⟨h1, h2⟩ := q
    exact ⟨h1, h, fun ⟨vs, e⟩ => h2 ⟨vs, by rw [h, e]⟩⟩
  · cases h
theorem nwL_of {H F' : Hp} {a : Addr} {o : HO} (h : H a = none) (h2 : F' a = some o) (h3 : IsL o) : nwL H F' a = some o := by
  obtain ⟨vs, e⟩ := h3
  unfold nwL
  rw [if_pos ⟨h, vs, by rw [h2, e]⟩]; exact h2
theorem nwR_of {H F' : Hp} {a : Addr} {o : HO} (h : H a = none) (h2 : F' a = some o) (h3 : ¬ IsL o) : nwR H F' a = some o := by
  unfold nwR
  rw [if_pos ⟨h, fun ⟨vs, e⟩ => h3 ⟨vs, by rw [h2] at e; exact Option.some.inj e⟩⟩]; exact h2
theorem nwA_some {H F' : Hp} {a : Addr} {o : HO} (h : nwA H F' a = some o) : H a = none ∧ F' a = some o := by
  unfold nwA at h
  split at h
  · rename_i q; exact ⟨q, h⟩
  · cases h
theorem nwA_of {H F' : Hp} {a : Addr} {o : HO} (h : H a = none) (h2 : F' a = some o) : nwA H F' a = some o := by
  unfold nwA; rw [if_pos h]; exact h2
theorem none_of {α : Type} {o : Option α} (h : ∀ x, o ≠ some x) : o = none := by
  cases o with
  | none => rfl
  | some x => exact absurd rfl (h x)
/-- a thing all of whose lists are new -/
theorem EvO.newW {ρ : (Addr → Prop) → α → Rp} {m : W α} (hb : All2 BoN Γ Γ') (hρ : Frl ρ) (h : ∀ N, Ev (C.wfr N) Γ' e (ρ N) m) : EvO C Γ e (oW ρ C.fr) m :=
  fun X Wx ok tk F H g σ s Q hm => by
    have s0 := s.pick hb (Same.refl _) s.sF
    refine h (fun a => H a = none) X Wx (ok.wfr _) tk F H _ σ ⟨s0.len, s0.slot, s0.sF, s0.sG, s0.dF, s0.dG, fun _ z => z⟩ Q (m.mono (fun a ha F' H' g' v f s' r => ?_) (fun x hx => ?_) hm)
    · have hH : ∀ b o, H b = some o → H' b = some o := fun b o q => f.keep b o q fun ⟨_, z⟩ => z rfl
      have hFn : ∀ b, H b = none → F b = none := fun b q => none_of fun o z => by rw [s.sF b o z] at q; cases q
      have hgn : ∀ i b, H b = none → g i b = none := fun i b q => none_of fun o z => by rw [s.sG i b o z] at q; cases q
      have hfr : ∀ b, H' b = none → H b = none := fun b q => none_of fun o z => by rw [hH b o z] at q; cases q
      have gN : ∀ b, nwL H F' b ≠ none → H b = none := fun b q => by
        cases e : nwL H F' b with
        | none => exact absurd e q
        | some o => exact (nwL_some e).1
      have d2 : Dis (uni F (nwR H F')) (nwL H F') := fun b => by
        cases e : nwL H F' b with
        | none => exact .inr rfl
        | some o =>
          obtain ⟨h1, h2, h3⟩ := nwL_some e
          refine .inl (uni_none (hFn b h1) (none_of fun u z => ?_))
          obtain ⟨_, k2, k3⟩ := nwR_some z
          rw [h2] at k2
          cases k2
          exact k3 h3
      refine ha (uni F (nwR H F')) H' g (nwL H F') v ⟨uni_l, fun b q => ?_, fun b o q _ => hH b o q, f.dom, fun b q => ?_⟩ ⟨s.len, fun i S q => (s.slot i S q).mono uni_l, fun b o q => ?_, fun i b o q => hH b o (s.sG i b o q), fun i b => ?_, s.dG, fun b z => s.fr b (hfr b z)⟩ (fun b o q => s'.sF b o (nwL_some q).2.1) d2 (fun i b => ?_) (fun b q => s.fr b (gN b q)) ⟨fun b q => s.fr b (gN b q), fun b o q => (nwL_some q).2.2, ?_⟩
      · cases e : F b with
        | some o => exact .inl (by simp)
        | none =>
          cases e2 : nwR H F' b with
          | none => exact absurd (uni_none e e2) q
          | some o => exact .inr (.inl (nwR_some e2).1)
      · exact q.imp_right (gN b)
      · rcases of_uni q with q | ⟨_, q⟩
        · exact hH b o (s.sF b o q)
        · exact s'.sF b o (nwR_some q).2.1
      · cases e : g i b with
        | none => exact .inr rfl
        | some o =>
          refine .inl ?_
          have hb' := s.sG i b o e
          rcases s.dF i b with z | z
          · exact uni_none z (none_of fun u z2 => by rw [(nwR_some z2).1] at hb'; cases hb')
          · rw [z] at e; cases e
      · cases e : nwL H F' b with
        | none => exact .inr rfl
        | some o => exact .inl (hgn i b (nwL_some e).1)
      · refine hρ.mo _ _ _ _ _ (fun b o q hn hl => ?_) (hρ.re _ _ F' _ _ (fun b o q hor => ?_) r)
        · cases e : nwL H F' b with
          | some u => simp
          | none =>
            exfalso
            rcases of_uni q with q | ⟨_, q⟩
            · rw [e] at q; cases q
            · rcases of_uni q with q | ⟨_, q⟩
              · rw [hFn b hn] at q; cases q
              · exact (nwR_some q).2.2 hl
        · by_cases hl : IsL o
          · have hn : H b = none := hor.elim id fun z => absurd hl z
            exact uni_l b o (nwL_of hn q hl)
          · have e : nwL H F' b = none := none_of fun u z => by
              obtain ⟨_, k2, k3⟩ := nwL_some z
              rw [q] at k2; cases k2; exact hl k3
            have : uni F (nwR H F') b = some o := by
              cases eH : H b with
              | none =>
                unfold uni
                rw [hFn b eH]
                exact nwR_of eH q hl
              | some u =>
                have eF : F b ≠ none := by
                  rcases f.fF b (by rw [q]; simp) with z | z | ⟨_, z⟩
                  · exact z
                  · rw [eH] at z; cases z
                  · exact absurd rfl z
                cases eF2 : F b with
                | none => exact absurd eF2 eF
                | some w =>
                  have := f.sF b w eF2
                  rw [q] at this
                  cases this
                  exact uni_l b o eF2
            unfold uni
            rw [e]
            exact this
    · intro F' H' g' cls d f s' hx'
      have hH : ∀ b o, H b = some o → H' b = some o := fun b o q => f.keep b o q fun ⟨_, z⟩ => z rfl
      have hfr : ∀ b, H' b = none → H b = none := fun b q => none_of fun o z => by rw [hH b o z] at q; cases q
      have s2 : StOk C F H' Γ σ g := ⟨s.len, s.slot, fun b o q => hH b o (s.sF b o q), fun i b o q => hH b o (s.sG i b o q), s.dF, s.dG, fun b z => s.fr b (hfr b z)⟩
      exact hx F H' g cls d ⟨Same.refl _, fun b q => .inl q, fun b o q _ => hH b o q, f.dom, fun b q => .inl q⟩ s2 (hx'.reg s.sG)
/-- a new thing made of what one own thing shows: its lists are not that thing's -/
theorem Ev.newW {ρ : (Addr → Prop) → α → Rp} {m : W α} {k : Nat} {O : Op} {R : Rp} (hΓ : Γ[k]? = some (.own O)) (hO : ∀ F G v, O.p F G v → LsO G ∧ R.p (uni G F) v) (hb : All2 BoN (Γ.set k (.val R)) Γ') (hρ : Frl ρ) (h : ∀ N, Ev (C.wfr N) Γ' e (ρ N) m) : Ev C Γ e (ρ C.fr) m :=
  fun X Wx ok tk F H g σ s Q hm => by
    obtain ⟨v0, eσ, r0⟩ := s.get_own hΓ
    obtain ⟨hL, hR⟩ := hO _ _ _ r0
    have hF0 : Same F (uni (g k) F) := fun b o q => by
      unfold uni
      rcases s.dF k b with z | z
      · rw [z] at q; cases q
      · rw [z]; exact q
    have h0 : Same (uni (g k) F) H := fun b o q => by
      rcases of_uni q with q | ⟨_, q⟩
      · exact s.sG k b o q
      · exact s.sF b o q
    have s0 : StOk C (uni (g k) F) H Γ' σ (fun _ => emp) := by
      refine ⟨?_, fun i S q => ?_, h0, fun i a o q => (nomatch q), fun i a => .inr rfl, fun i j _ a => .inr rfl, s.fr⟩
      · have := hb.length; rw [List.length_set] at this; exact this.symm.trans s.len
      · obtain ⟨S0, q0, r⟩ := hb.at q
        have x : SlotOk (uni (g k) F) (g i) S0 (σ[i]?) := by
          by_cases hi : k = i
          · subst hi
            rw [List.getElem?_set_self (List.getElem?_eq_some_iff.mp hΓ).1] at q0
            cases q0
            exact ⟨v0, eσ, hR⟩
          · rw [List.getElem?_set_ne hi] at q0
            exact (s.slot i S0 q0).mono hF0
        cases r with
        | rf => exact x
        | no => trivial
        | sb h => obtain ⟨v, e1, r⟩ := x; exact ⟨v, e1, h _ _ r⟩
    have back : ∀ {F' H' : Hp} {g' : Nat → Hp}, Fr (uni (g k) F) H (dU fun _ => emp) F' H' (dU g') → StOk (C.wfr fun a => H a = Option.none) F' H' Γ' σ g' → (∀ b o, H b = some o → H' b = some o) ∧ (∀ b, H' b = Option.none → H b = Option.none) := fun {F' H' g'} f s' => by
      have hH : ∀ b o, H b = some o → H' b = some o := fun b o q => f.keep b o q fun ⟨_, z⟩ => z rfl
      exact ⟨hH, fun b q => none_of fun o z => by rw [hH b o z] at q; cases q⟩
    refine h (fun a => H a = Option.none) X Wx (ok.wfr _) tk _ H _ σ ⟨s0.len, s0.slot, s0.sF, s0.sG, s0.dF, s0.dG, fun _ z => z⟩ Q (m.mono (fun a ha F' H' g' v f s' r => ?_) (fun x hx => ?_) hm)
    · obtain ⟨hH, hfr⟩ := back f s'
      have hFn : ∀ b, H b = Option.none → F b = Option.none := fun b q => none_of fun o z => by rw [s.sF b o z] at q; cases q
      have hgn : ∀ i b, H b = Option.none → g i b = Option.none := fun i b q => none_of fun o z => by rw [s.sG i b o z] at q; cases q
      refine ha (uni F (nwA H F')) H' g v ⟨uni_l, fun b q => ?_, fun b o q _ => hH b o q, f.dom, fun b q => .inl q⟩ ⟨s.len, fun i S q => (s.slot i S q).mono uni_l, fun b o q => ?_, fun i b o q => hH b o (s.sG i b o q), fun i b => ?_, s.dG, fun b z => s.fr b (hfr b z)⟩ ?_
      · cases e : F b with
        | some o => exact .inl (by simp)
        | none =>
          cases e2 : nwA H F' b with
          | none => exact absurd (uni_none e e2) q
          | some o => exact .inr (.inl (nwA_some e2).1)
      · rcases of_uni q with q | ⟨_, q⟩
        · exact hH b o (s.sF b o q)
        · exact s'.sF b o (nwA_some q).2
      · cases e : g i b with
        | none => exact .inr rfl
        | some o =>
          refine .inl ?_
          have hb' := s.sG i b o e
          rcases s.dF i b with z | z
          · exact uni_none z (none_of fun u z2 => by rw [(nwA_some z2).1] at hb'; cases hb')
          · rw [z] at e; cases e
      · refine hρ.mo _ _ _ _ _ (fun b o q hn hl => s.fr b hn) (hρ.re _ _ F' _ _ (fun b o q hor => ?_) r)
        cases eH : H b with
        | none =>
          unfold uni
          rw [hFn b eH]
          exact nwA_of eH q
        | some u =>
          have hl : ¬ IsL o := hor.elim (fun z => by rw [eH] at z; cases z) id
          have e0 : uni (g k) F b ≠ Option.none := by
            rcases f.fF b (by rw [q]; simp) with z | z | ⟨_, z⟩
            · exact z
            · rw [eH] at z; cases z
            · exact absurd rfl z
          cases e1 : uni (g k) F b with
          | none => exact absurd e1 e0
          | some w =>
            have := f.sF b w e1
            rw [q] at this
            cases this
            rcases of_uni e1 with z | ⟨_, z⟩
            · exact absurd (hL b o z) hl
            · exact uni_l b o z
    · intro F' H' g' cls d f s' hx'
      obtain ⟨hH, hfr⟩ := back f s'
      have s2 : StOk C F H' Γ σ g := ⟨s.len, s.slot, fun b o q => hH b o (s.sF b o q), fun i b o q => hH b o (s.sG i b o q), s.dF, s.dG, fun b z => s.fr b (hfr b z)⟩
      exact hx F H' g cls d ⟨Same.refl _, fun b q => .inl q, fun b o q _ => hH b o q, f.dom, fun b q => .inl q⟩ s2 (hx'.reg s.sG)
/-! ### lists of four unlike things -/
theorem Ev.hlW4 {r1 : α → Rp} {r2 : β → Rp} {r3 : γ → Rp} {r4 : δ → Rp} {m1 : W α} {m2 : W β} {m3 : W γ} {m4 : W δ} (h1 : Ev C Γ e1 r1 m1) (h2 : Ev C Γ e2 r2 m2) (h3 : Ev C Γ e3 r3 m3) (h4 : Ev C Γ e4 r4 m4) (n1 : NoStar e1) (n2 : NoStar e2) (n3 : NoStar e3) (n4 : NoStar e4) : Ev C Γ (.List [e1, e2, e3, e4] pos) (rW4 C.fr r1 r2 r3 r4) (do let x ← m1; let y ← m2; let z ← m3; let u ← m4; pure (x, y, z, u)) := by
  have h := EvO.dispO (pos := pos) (O := fun t : α × β × γ × δ × Unit => (⟨fun F G v => ∃ a v1 v2 v3 v4, v = .ref a ∧ C.fr a ∧ G = Y.one a (.lst [v1, v2, v3, v4]) ∧ (r1 t.1).p F v1 ∧ (r2 t.2.1).p F v2 ∧ (r3 t.2.2.1).p F v3 ∧ (r4 t.2.2.2.1).p F v4, fun h ⟨a, v1, v2, v3, v4, e, n, q, t1, t2, t3, t4⟩ => ⟨a, v1, v2, v3, v4, e, n, q, (r1 _).mono h t1, (r2 _).mono h t2, (r3 _).mono h t3, (r4 _).mono h t4⟩⟩ : Op)) (fun t F q vs n h => by
    cases h with
    | cons h1 h' => cases h' with
      | cons h2 h' => cases h' with
        | cons h3 h' => cases h' with
          | cons h4 h' => cases h'; exact ⟨q, _, _, _, _, rfl, n, rfl, h1, h2, h3, h4⟩) (fun _ => Nat.le_of_ble_eq_true rfl) (EvA.cons h1 (EvA.cons h2 (EvA.cons h3 (EvA.cons h4 EvA.nil n4) n3) n2) n1)
  have h5 := EvO.ev (ρ := fun t : α × β × γ × δ × Unit => rW4 C.fr r1 r2 r3 r4 (t.1, t.2.1, t.2.2.1, t.2.2.2.1)) (fun t F G v d _ hh => by
    obtain ⟨q, v1, v2, v3, v4, e, n, eg, t1, t2, t3, t4⟩ := hh
    subst eg
    exact ⟨q, v1, v2, v3, v4, e, n, uni_r d q _ one_same, (r1 _).mono uni_l t1, (r2 _).mono uni_l t2, (r3 _).mono uni_l t3, (r4 _).mono uni_l t4⟩) h
  exact Ev.map (ρ' := rW4 C.fr r1 r2 r3 r4) (fun t : α × β × γ × δ × Unit => (t.1, t.2.1, t.2.2.1, t.2.2.2.1)) (fun _ _ _ z => z) h5
theorem Ev.ixH4_0 {r1 : α → Rp} {r2 : β → Rp} {r3 : γ → Rp} {r4 : δ → Rp} {x : α × β × γ × δ} {j : Nat} {p2 : Pos} (ha : Ev C Γ a (rH4 C.K r1 r2 r3 r4) (pure x)) : Ev C Γ (.Subscript a (.Constant (.int 0) j p2) pos) r1 (pure x.1) :=
  Ev.ixH (ρ := rH4 C.K r1 r2 r3 r4) (ρ' := r1) (·.1) 0 (fun x F v ⟨q, v1, v2, v3, v4, e, h, t1, t2, t3, t4⟩ => ⟨q, _, v1, e, h, rfl, t1⟩) ha
theorem Ev.ixH4_1 {r1 : α → Rp} {r2 : β → Rp} {r3 : γ → Rp} {r4 : δ → Rp} {x : α × β × γ × δ} {j : Nat} {p2 : Pos} (ha : Ev C Γ a (rH4 C.K r1 r2 r3 r4) (pure x)) : Ev C Γ (.Subscript a (.Constant (.int 1) j p2) pos) r2 (pure x.2.1) :=
  Ev.ixH (ρ := rH4 C.K r1 r2 r3 r4) (ρ' := r2) (·.2.1) 1 (fun x F v ⟨q, v1, v2, v3, v4, e, h, t1, t2, t3, t4⟩ => ⟨q, _, v2, e, h, rfl, t2⟩) ha
theorem Ev.ixH4_2 {r1 : α → Rp} {r2 : β → Rp} {r3 : γ → Rp} {r4 : δ → Rp} {x : α × β × γ × δ} {j : Nat} {p2 : Pos} (ha : Ev C Γ a (rH4 C.K r1 r2 r3 r4) (pure x)) : Ev C Γ (.Subscript a (.Constant (.int 2) j p2) pos) r3 (pure x.2.2.1) :=
  Ev.ixH (ρ := rH4 C.K r1 r2 r3 r4) (ρ' := r3) (·.2.2.1) 2 (fun x F v ⟨q, v1, v2, v3, v4, e, h, t1, t2, t3, t4⟩ => ⟨q, _, v3, e, h, rfl, t3⟩) ha
theorem Ev.ixH4_3 {r1 : α → Rp} {r2 : β → Rp} {r3 : γ → Rp} {r4 : δ → Rp} {x : α × β × γ × δ} {j : Nat} {p2 : Pos} (ha : Ev C Γ a (rH4 C.K r1 r2 r3 r4) (pure x)) : Ev C Γ (.Subscript a (.Constant (.int 3) j p2) pos) r4 (pure x.2.2.2) :=
  Ev.ixH (ρ := rH4 C.K r1 r2 r3 r4) (ρ' := r4) (·.2.2.2) 3 (fun x F v ⟨q, v1, v2, v3, v4, e, h, t1, t2, t3, t4⟩ => ⟨q, _, v4, e, h, rfl, t4⟩) ha
end
/-! ### making a thing all of whose lists are new -/
def spIN (M : Mc) (A : Addr) {τ γ : Type} (ins : (Addr → Prop) → τ → List Rp) (fl : (Addr → Prop) → γ → Fl2) (m : τ → W γ) : Sp := fun vs H Q E => ∃ (t : τ) (F : Hp) (N : Addr → Prop) (p dx : Addr) (ws : List V), (∀ a, H a = none → N a) ∧ vs = .ref p :: ws ∧ Same F H ∧ F p = none ∧ F dx = none ∧ dx ≠ p ∧ H p = some (.ins A dx []) ∧ H dx = some (.own p) ∧ All2 (fun v R => R.p F v) ws (ins N t) ∧
  (m t).wp (fun y => ∀ F' H' g', Fr F H (fun b => b = p ∨ b = dx) F' H' (dU g') → Same F' H' → (rIns A (fl N) y).p F' (.ref p) → Q .non H') (fun e => ∀ F' H' g' cls d, Fr F H (fun b => b = p ∨ b = dx) F' H' (dU g') → Same F' H' → XOk M e H H' (dU g') cls d → E cls d H')
structure MakVN (M : Mc) (x : Str) (A : Addr) (j n : Nat) {τ γ : Type} (ins : (Addr → Prop) → τ → List Rp) (fl : (Addr → Prop) → γ → Fl2) (m : τ → W γ) : Prop where
  ex : ∃ f fd ps, FnOk M.P M.w M.K M.mg M.base (L2.CX M.P M.w) j f fd ps (spIN M A ins fl m) ∧ Mk M.K A f ∧ Binds M.K fd ps [] ∧ M.mg x = some (.ref A)
  len : ∀ N t, (ins N t).length = n
/-- an instance's making, by the body of __init__ -/
theorem MakVN.ofBody {M : Mc} {x : Str} {A f : Addr} {fd : FuncData} {nm qual : Str} {st : Stmt} {k n : Nat} {N ps : List Str} {τ γ : Type} {ins : (Addr → Prop) → τ → List Rp} {fl : (Addr → Prop) → γ → Fl2} {m : τ → W γ} (F : Fun M.K nm qual st f fd) (hM : Mk M.K A f) (hmg : M.mg x = some (.ref A)) (hb : Binds M.K fd ps []) (S : FnScope N ps (defScope st))
    (hn : ps.length = n + 1) (hl : ∀ N t, (ins N t).length = n) (Γf : (Addr → Prop) → Addr → Addr → τ → γ → List Slot) (hΓf : ∀ fr p dx t y, (Γf fr p dx t y)[0]? = some (.own (oIns A p dx (fl fr y)))) (h : ∀ (fr : Addr → Prop) (p dx : Addr) (t : τ), Ex (initC M N (defScope st) k fr) (.own (oIns A p dx []) :: Γ0 (ins fr t) N.tail) (defBody st) (fun y => .nx (Γf fr p dx t y)) (m t)) : MakVN M x A (k + 1) n ins fl m := by
  refine ⟨⟨f, fd, ps, F.okX S (fun vs H Q E hsp => ?_) (fun cdv A' outer s H vs Q E hr hsp => ?_), hM, hb, hmg⟩, hl⟩
  · obtain ⟨t, F', Nf, p, dx, ws, _, e, _, _, _, _, _, _, r, _⟩ := hsp
    rw [e, List.length_cons, r.length, hl, hn]
  · obtain ⟨t, F', Nf, p, dx, ws, hNf, e, sm, hFp, hFd, hne, hHp, hHd, r, w⟩ := hsp
    subst e
    refine ⟨_, pss_W, ?_⟩
    have hNne : N ≠ [] := fun z => by
      have := S.pre
      rw [z] at this
      have h0 : ps.length = 0 := by rw [← this]; simp
      omega
    obtain ⟨n0, N', eN⟩ := List.exists_cons_of_ne_nil hNne
    subst eN
    have st0 := start_ok (M := M) (N := N') (sc := defScope st) (k := k) hNf sm r
    have hst : L2.start (n0 :: N') (V.ref p :: ws) = some (V.ref p) :: L2.start N' ws := by
      unfold L2.start
      simp
    have s0 : StOk (initC M (n0 :: N') (defScope st) k Nf) F' H (.own (oIns A p dx []) :: Γ0 (ins Nf t) N') (L2.start (n0 :: N') (V.ref p :: ws)) (setG (fun _ => emp) 0 (two p (.ins A dx []) dx (.own p))) := by
      rw [hst]
      refine ⟨by simp [st0.len], fun i Sl q => ?_, sm, fun i b u q => ?_, fun i b => ?_, fun i j hij b => ?_, hNf⟩
      · cases i with
        | zero =>
          have q' : some (Slot.own (oIns A p dx [])) = some Sl := q
          cases q'
          rw [setG_same]
          exact ⟨_, rfl, [], rfl, hne, rfl, .nil⟩
        | succ i =>
          rw [setG_ne (Nat.succ_ne_zero i)]
          exact st0.slot i Sl q
      · by_cases hi : i = 0
        · subst hi
          rw [setG_same] at q
          unfold two at q
          split at q
          · rename_i e; cases q; rw [e]; exact hHp
          · split at q
            · rename_i e; cases q; rw [e]; exact hHd
            · cases q
        · rw [setG_ne hi] at q; cases q
      · by_cases hi : i = 0
        · subst hi
          rw [setG_same]
          by_cases h1 : b = p
          · exact .inl (by rw [h1]; exact hFp)
          · by_cases h2 : b = dx
            · exact .inl (by rw [h2]; exact hFd)
            · exact .inr (by unfold two; rw [if_neg h1, if_neg h2])
        · rw [setG_ne hi]; exact .inr rfl
      · by_cases hi : i = 0
        · subst hi
          rw [setG_ne (fun z => hij z.symm)]
          exact .inr rfl
        · rw [setG_ne hi]; exact .inl rfl
    have hU : ∀ b, dU (setG (fun _ => emp) 0 (two p (.ins A dx []) dx (.own p))) b → b = p ∨ b = dx := fun b ⟨i, q⟩ => by
      by_cases hi : i = 0
      · subst hi
        rw [setG_same] at q
        unfold two at q
        split at q
        · rename_i e; exact .inl e
        · split at q
          · rename_i e; exact .inr e
          · exact absurd rfl q
      · rw [setG_ne hi] at q; exact absurd rfl q
    refine h Nf p dx t (cxOf (L2.CX M.P M.w) M.P M.w M.K M.mg M.base (n0 :: N') qual (defScope st) f cdv A' outer s H E) (fun cls d _ H => E cls d H) ⟨⟨rfl, rfl, rfl, rfl, rfl, rfl, rfl, S.nd, rfl, fun _ => hr, hr.units, fun _ _ _ h => (nomatch h), fun _ _ => rfl⟩, passes_of rfl, rfl, rfl⟩ (takes_of rfl rfl rfl rfl) F' H _ _ s0 _ ((m t).mono (fun y hy => ?_) (fun e he => ?_) w)
    · intro F2 H2 g2 σ2 f2 s2
      obtain ⟨v, eσ, fs, ev, _, eg, tf⟩ := s2.get_own (hΓf Nf p dx t y)
      refine hy (uni F2 (g2 0)) H2 g2 ⟨f2.sF.trans uni_l, fun b q => ?_, fun b o q n => f2.keep b o q fun z => n (hU b z), f2.dom, fun b z => (f2.gs b z).imp_left (hU b)⟩ (fun b o q => ?_) ⟨p, dx, fs, rfl, ?_, ?_, tf.mono uni_l⟩
      · cases q2 : F2 b with
        | some o => exact (f2.fF b (by rw [q2]; simp)).imp_right fun z => z.imp_right (hU b)
        | none =>
          have : g2 0 b ≠ none := fun z => q (uni_none q2 z)
          rw [eg] at this
          unfold two at this
          split at this
          · rename_i e; exact .inr (.inr (.inl e))
          · split at this
            · rename_i e; exact .inr (.inr (.inr e))
            · exact absurd rfl this
      · rcases of_uni q with q2 | ⟨_, q2⟩
        · exact s2.sF b o q2
        · exact s2.sG 0 b o q2
      · exact uni_r (s2.dF 0) p _ (by rw [eg]; exact if_pos rfl)
      · refine uni_r (s2.dF 0) dx _ ?_
        rw [eg]
        unfold two
        rw [if_neg (by assumption), if_pos rfl]
    · intro F2 H2 g2 σ2 cls d f2 s2 hx
      exact he F2 H2 g2 cls d ⟨f2.sF, fun b z => (f2.fF b z).imp_right fun q => q.imp_right (hU b), fun b o q n => f2.keep b o q fun z => n (hU b z), f2.dom, fun b z => (f2.gs b z).imp_left (hU b)⟩ s2 hx
section
variable {C : Cc} {Γ : List Slot} {α β γ δ ε : Type} {e e1 e2 e3 o : Expr} {pos p apos : Pos} {x : Str} {j : Nat} {A : Addr} {fl : (Addr → Prop) → γ → Fl2}
theorem Ev.makeNA {n : Nat} {es : List Expr} {τ : Type} {ins : (Addr → Prop) → τ → List Rp} {mf : τ → W γ} {mt : W τ} (hf : MakVN C.toMc x A j n ins fl mf) (hj : j + 1 ≤ C.k) (hg : C.sc.names.lookup x = some .globalImplicit) (ha : EvA C Γ (e :: es) (ins C.fr) mt) (hn : NoStar e) (hpl : ∀ (X : Cx) (pos : Pos), (backTo pos (starEach es X.env)).any (·.1) = false)
    (hd : (x == ("__debug__" : Str)) = false := by decide) (hcm : C.cm = true := by rfl) : Ev C Γ (.Call (.Name x p) (e :: es) [] pos) (rIns A (fl C.fr)) (do let t ← mt; mf t) :=
  fun X Wx ok tk F H g σ s Q hm => by
    obtain ⟨⟨f, fd, ps, hF, hM, hb, hmg⟩, hl⟩ := hf
    have e1 := ok.prog
    have e2 := ok.w
    have e3 := ok.K
    have e4 := ok.mg
    have e5 := ok.base
    refine WE.of (pe_makeYS (k := j) (E := fun σ => L2.WE Wx σ) (by rw [e3]; exact hM) (by rw [e1, e2, e3, e4, e5]; exact hF) ((ok.room hcm).mono hj) (show X.env.scope.names.lookup x = _ by rw [ok.sc]; exact hg) (by rw [e4]; exact hmg) (by rw [e3]; exact hb) (fun σ => by
      have := passAt tk σ
      rw [e1, e2] at this
      exact this) (pa_W (es := e :: es)) hd (hn es X.env) (hpl X pos)) ?_
    refine ha.2 X Wx ok tk F H g σ s _ (mt.mono (fun t ht F1 H1 g1 vs f1 s1 r1 => ?_) (fun e he => he) hm)
    intro q dx hq hdx hne
    have hH : ∀ b, b ≠ q → b ≠ dx → upd (upd H1 dx (.own q)) q (.ins A dx []) b = H1 b := fun b h1 h2 => by rw [upd_ne h1, upd_ne h2]
    have hF1 : ∀ b, H1 b = Option.none → F1 b = Option.none := fun b h => by
      cases z : F1 b with
      | none => rfl
      | some o => rw [s1.sF b o z] at h; cases h
    have hsub : ∀ b, upd (upd H1 dx (.own q)) q (.ins A dx []) b = Option.none → H1 b = Option.none := fun b h => by
      by_cases h1 : b = q
      · rw [h1, upd_same] at h; cases h
      · by_cases h2 : b = dx
        · rw [upd_ne h1, h2, upd_same] at h; cases h
        · rw [hH b h1 h2] at h; exact h
    have hfr : ∀ {F2 H2 : Hp} {U2 : Addr → Prop}, Fr F1 (upd (upd H1 dx (.own q)) q (.ins A dx [])) (fun b => b = q ∨ b = dx) F2 H2 U2 → Fr F1 H1 (fun _ => False) F2 H2 U2 := fun {F2 H2 U2} f => by
      refine ⟨f.sF, fun b z => ?_, fun b o z _ => ?_, fun b z => ?_, fun b z => ?_⟩
      · rcases f.fF b z with y | y | y | y
        · exact .inl y
        · exact .inr (.inl (hsub b y))
        · exact .inr (.inl (by rw [y]; exact hq))
        · exact .inr (.inl (by rw [y]; exact hdx))
      · have h1 : b ≠ q := fun y => by rw [y, hq] at z; cases z
        have h2 : b ≠ dx := fun y => by rw [y, hdx] at z; cases z
        exact f.keep b o (by rw [hH b h1 h2]; exact z) fun y => y.elim h1 h2
      · exact f.dom b fun y => z (hsub b y)
      · rcases f.gs b z with y | y
        · rcases y with y | y
          · exact .inr (by rw [y]; exact hq)
          · exact .inr (by rw [y]; exact hdx)
        · exact .inr (hsub b y)
    refine ⟨t, F1, C.fr, q, dx, vs, fun a h => s1.fr a (hsub a h), rfl, fun b o z => ?_, hF1 q hq, hF1 dx hdx, hne, upd_same, by rw [upd_ne hne, upd_same], r1, (mf t).mono (fun y hy F2 H2 g2 f2 s2 r2 => ?_) (fun e he F2 H2 g2 cls d f2 s2 hx => ?_) ht⟩
    · have h1 : b ≠ q := fun y => by rw [y, hF1 q hq] at z; cases z
      have h2 : b ≠ dx := fun y => by rw [y, hF1 dx hdx] at z; cases z
      rw [hH b h1 h2]
      exact s1.sF b o z
    · obtain ⟨s3, f3⟩ := s1.call0 (hfr f2) s2
      exact ⟨rfl, hy F2 H2 g1 _ (f1.trans f3) s3 r2⟩
    · obtain ⟨s3, f3⟩ := s1.call0 (hfr f2) s2
      exact he F2 H2 g1 cls d (f1.trans f3) s3 (((hx.mp fun b z n => ⟨hsub b z, n⟩).reg s1.sG).later f1)
theorem Ev.makeN2 {ra : (Addr → Prop) → α → Rp} {rb : (Addr → Prop) → β → Rp} {m1 : W α} {m2 : W β} {mf : α × β × Unit → W γ} (hf : MakVN C.toMc x A j 2 (fun N t => [ra N t.1, rb N t.2.1]) fl mf) (hj : j + 1 ≤ C.k) (hg : C.sc.names.lookup x = some .globalImplicit) (h1 : Ev C Γ e1 (ra C.fr) m1) (h2 : Ev C Γ e2 (rb C.fr) m2) (n1 : NoStar e1) (n2 : NoStar e2) (hd : (x == ("__debug__" : Str)) = false := by decide) (hcm : C.cm = true := by rfl) :
    Ev C Γ (.Call (.Name x p) [e1, e2] [] pos) (rIns A (fl C.fr)) (do let a ← m1; let b ← m2; mf (a, b, ())) := by
  have q := Ev.makeNA (e := e1) (p := p) (pos := pos) hf hj hg (EvA.cons h1 (EvA.cons h2 EvA.nil n2) n1) n1 (EvA.cons h2 EvA.nil n2).1 hd hcm
  exact q
end
/-! ### what is spoiled: lists in tuples in a list -/
/-- what stands at an address is one thing -/
def Nice (K : PySem.W.Frag) (H : Hp) : Prop := (∀ T xs ys, SqT K H T xs → SqT K H T ys → xs.length = ys.length) ∧ ∀ T xs ys, SqT K H T xs → SqL K H T ys → False
theorem inv_nice {X : Cx} {pins : List (Addr × Obj)} {σ : L2.St} {H : Hp} {s : Shared} (I : L2.Inv X pins σ H s) : Nice X.K H := by
  refine ⟨fun T xs ys h1 h2 => ?_, fun T xs ys h1 h2 => ?_⟩
  · obtain ⟨i1, v1, ⟨o1, g1, c1, n1, d1⟩, _⟩ := I.tuple h1
    obtain ⟨i2, v2, ⟨o2, g2, c2, n2, d2⟩, _⟩ := I.tuple h2
    rw [g1] at g2
    cases g2
    rw [d1] at d2
    have e : i1.toArray = i2.toArray := by cases d2; rfl
    have e2 : i1 = i2 := by simpa using congrArg Array.toList e
    rw [v1.length, v2.length, e2]
  · obtain ⟨i1, v1, ⟨o1, g1, c1, n1, d1⟩, _⟩ := I.tuple h1
    obtain ⟨i2, v2, p2, _⟩ := I.list h2
    obtain ⟨o2, g2, c2, _⟩ := p2.isList
    rw [g1] at g2
    cases g2
    rw [c1] at c2
    exact absurd c2 (by decide)
theorem W1.nice {X : Cx} {st : Stmt} {D : Ends} {σ : L2.St} {H : Hp} (h : Nice X.K H → W1 X st D σ H) : W1 X st D σ H := by
  unfold W1 at *
  exact fun pins s I => h (inv_nice I) pins s I
theorem uniG_at {G F : Hp} {a : Addr} {o : HO} (h : G a ≠ none) (q : uni G F a = some o) : G a = some o := by
  cases e : G a with
  | none => exact absurd e h
  | some u =>
    have := uni_l (F := G) (G := F) a u e
    rw [q] at this
    exact this.symm
theorem SqT.out {K : PySem.W.Frag} {G F : Hp} {T : Addr} {xs : List V} (hL : LsO G) (h : SqT K (uni G F) T xs) : SqT K F T xs := by
  rcases h with q | q
  · refine .inl ?_
    rcases q with q | ⟨o, q⟩
    · rcases of_uni q with z | ⟨_, z⟩
      · obtain ⟨_, z2⟩ := hL _ _ z; cases z2
      · exact .inl z
    · rcases of_uni q with z | ⟨_, z⟩
      · obtain ⟨_, z2⟩ := hL _ _ z; cases z2
      · exact .inr ⟨o, z⟩
  · exact .inr q
/-- lists that stay, lists of S that change, lists of M, all of at most so many -/
def oK (v0 : V) (fx : List (Addr × List V)) (S M : Addr → Prop) (L : Nat) : Op :=
  ⟨fun F G v => v = v0 ∧ (∀ p ∈ fx, G p.1 = some (.lst p.2)) ∧ (∀ c, S c → (∀ p ∈ fx, c ≠ p.1) ∧ ∃ ws, G c = some (.lst ws) ∧ ws.length ≤ L) ∧ (∀ c, M c → ∃ ws, G c = some (.lst ws) ∧ ws.length ≤ L), fun _ h => h⟩
theorem oK_upd {v0 : V} {fx : List (Addr × List V)} {S M : Addr → Prop} {L L' : Nat} {F F' G : Hp} {v : V} {c : Addr} {ws : List V} (h : (oK v0 fx S M L).p F G v) (hc : S c) (hl : L ≤ L') (hw : ws.length ≤ L') : (oK v0 fx S M L').p F' (upd G c (.lst ws)) v := by
  obtain ⟨h1, h2, h3, h4⟩ := h
  have key : ∀ b ws0, G b = some (.lst ws0) → ws0.length ≤ L → ∃ ws1, upd G c (.lst ws) b = some (.lst ws1) ∧ ws1.length ≤ L' := fun b ws0 e1 e2 => by
    by_cases e : b = c
    · subst e; exact ⟨ws, upd_same, hw⟩
    · exact ⟨ws0, by rw [upd_ne e]; exact e1, by omega⟩
  refine ⟨h1, fun p hp => ?_, fun b hb => ?_, fun b hb => ?_⟩
  · rw [upd_ne (fun z => (h3 c hc).1 p hp z.symm)]; exact h2 p hp
  · obtain ⟨k1, ws0, k2, k3⟩ := h3 b hb
    exact ⟨k1, key b ws0 k2 k3⟩
  · obtain ⟨ws0, k2, k3⟩ := h4 b hb
    exact key b ws0 k2 k3
/-- an item: a tuple whose second and third are lists of S -/
def ItK (K : PySem.W.Frag) (F : Hp) (S : Addr → Prop) (u : V) : Prop := ∃ T v1 c d, u = .ref T ∧ SqT K F T [v1, .ref c, .ref d] ∧ S c ∧ S d
abbrev rPr (K : PySem.W.Frag) : Str × Int → Rp := rT2 K rS rI
abbrev rWN (K : PySem.W.Frag) (N : Addr → Prop) : WorkV → Rp := rT3 K rS (rN N (rPr K)) (rN N (rPr K))
/-- the items of a private list of works -/
theorem items_of {K : PySem.W.Frag} {F G H : Hp} (hN : Nice K H) (hsub : Same (uni G F) H) (hL : LsO G) {b : Addr} {vs : List V} {xs : List WorkV} (hb : G b = some (.lst vs)) (t : All2 (fun u x => (rWN K (fun b => G b ≠ none) x).p (uni G F) u) vs xs) (h2 : ∀ z ∈ xs, z.2.1.length ≤ 1000000 ∧ z.2.2.length ≤ 1000000) :
    ∀ u ∈ vs, ItK K F (fun c => c ≠ b ∧ ∃ ws, G c = some (.lst ws) ∧ ws.length ≤ 1000000 ∧ ∀ w ∈ ws, ∃ T v1 v2, w = .ref T ∧ SqT K H T [v1, v2]) u := fun u hu => by
  obtain ⟨x, hx, T, v1, v2, v3, eu, hT, t1, t2, t3⟩ := t.memL hu
  have one : ∀ {l : List (Str × Int)} {v : V}, l.length ≤ 1000000 → (rN (fun b => G b ≠ none) (rPr K) l).p (uni G F) v → ∃ c, v = .ref c ∧ c ≠ b ∧ ∃ ws, G c = some (.lst ws) ∧ ws.length ≤ 1000000 ∧ ∀ w ∈ ws, ∃ T v1 v2, w = .ref T ∧ SqT K H T [v1, v2] := fun {l v} hl ⟨c, ws, e, n, q, tt⟩ => by
    have hc := uniG_at n q
    have hp : ∀ w ∈ ws, ∃ T v1 v2, w = .ref T ∧ SqT K H T [v1, v2] := fun w hw => by
      obtain ⟨y, _, T', w1, w2, e1, q1, _⟩ := tt.memL hw
      exact ⟨T', w1, w2, e1, Same.seqT hsub q1⟩
    refine ⟨c, e, fun z => ?_, ws, hc, by rw [tt.length]; exact hl, hp⟩
    rw [z, hb] at hc
    have ew : vs = ws := by cases hc; rfl
    obtain ⟨T', w1, w2, e1, q1⟩ := hp u (by rw [← ew]; exact hu)
    rw [eu] at e1
    cases e1
    have := hN.1 T _ _ (Same.seqT hsub hT) q1
    simp at this
  obtain ⟨c, ec, c1, c2⟩ := one (h2 x hx).1 t2
  obtain ⟨d, ed, d1, d2⟩ := one (h2 x hx).2 t3
  subst ec ed
  exact ⟨T, v1, c, d, eu, SqT.out hL hT, ⟨c1, c2⟩, ⟨d1, d2⟩⟩
section
variable {C : Cc} {Γ Γ' : List Slot} {α β γ δ ε ω : Type} {J : ω → Out} {e e1 e2 : Expr} {p pos : Pos} {rest sts : List Stmt}
theorem set_stay {τ : L2.St} {k : Nat} {u : V} (h : τ[k]? = some (some u)) : τ.set k (some u) = τ := by
  refine List.ext_getElem? fun m => ?_
  by_cases hk : k = m
  · subst hk; rw [List.getElem?_set_self (List.getElem?_eq_some_iff.mp h).1, h]
  · rw [List.getElem?_set_ne hk]
theorem set_stay2 {τ : L2.St} {k : Nat} : τ.set k ((τ[k]?).getD none) = τ := by
  refine List.ext_getElem? fun m => ?_
  by_cases hk : k = m
  · subst hk
    cases q : τ[k]? with
    | none => rw [List.getElem?_eq_none]; rw [List.length_set]; exact List.getElem?_eq_none_iff.mp q
    | some o => rw [List.getElem?_set_self (List.getElem?_eq_some_iff.mp q).1]; rfl
  · rw [List.getElem?_set_ne hk]
/-- another Op at a slot, and one slot emptied -/
theorem StOk.reset {F H : Hp} {σ : L2.St} {g : Nat → Hp} (s : StOk C F H Γ σ g) {i j : Nat} {O' : Op} {v : V} (hi : i < Γ.length) (eσ : σ[i]? = some (some v)) (r1 : O'.p F (g i) v) : StOk C F H ((Γ.set i (.own O')).set j .no) σ g := by
  have q := (s.set_own (i := i) (O := O') (G := g i) (v := v) r1 (s.sG i) (s.dF i) (fun j hj => s.dG j i hj)).set_no (i := j) (o := (σ[j]?).getD none)
  have eg : setG g i (g i) = g := by funext k; unfold setG; split <;> simp_all
  rw [eg, set_stay eσ, set_stay2] at q
  exact q
/-- for y in x: y[1].append(e); y[2].clear() -/
theorem Ex1.spoilW2 {i j : Nat} {x y : Str} {px py q1 q2 r1 r2 a1 a2 c1 c2 s1 s2 : Pos} {k1 k2 : Nat} {K : PySem.W.Frag} (hK : C.K = K) {xs : List WorkV} {ρ : β → Rp} {z : β} (hN : C.N[i]? = some x) (hM : C.N[j]? = some y) (hij : i ≠ j) (hv : visB C.sc x = true) (hvy : visB C.sc y = true) (hy : Sto C y)
    (hΓ : Γ[i]? = some (.own (oW (fun N => rN N (rWN K N)) C.fr xs))) (hd : (x == ("__debug__" : Str) || x == ("__classdict__" : Str)) = false) (hdy : (y == ("__debug__" : Str) || y == ("__classdict__" : Str)) = false) (hjG : Nat.ble (j + 1) Γ.length = true) (h : ∀ Γ, Ev C Γ e ρ (pure z)) (n : NoStar e)
    (hline1 : (a1.endLine == c1.line) = true := by rfl) (hline2 : (a2.endLine == c2.line) = true := by rfl)
    (hb1 : ∀ X : Cx, attributeBase (.Subscript (.Name y q1) (.Constant (.int 1) k1 r1) p) "append" X.env (eval (.Subscript (.Name y q1) (.Constant (.int 1) k1 r1) p) X.env) = eval (.Subscript (.Name y q1) (.Constant (.int 1) k1 r1) p) X.env := by intro _; rfl)
    (hb2 : ∀ X : Cx, attributeBase (.Subscript (.Name y q2) (.Constant (.int 2) k2 r2) pos) "clear" X.env (eval (.Subscript (.Name y q2) (.Constant (.int 2) k2 r2) pos) X.env) = eval (.Subscript (.Name y q2) (.Constant (.int 2) k2 r2) pos) X.env := by intro _; rfl)
    (hs1 : ∀ X : Cx, swapsWith (.Call (.Attribute (.Subscript (.Name y q1) (.Constant (.int 1) k1 r1) p) "append" a1) [e] [] c1) none s1.line X.env = pure false := by intro _; rfl)
    (hs2 : ∀ X : Cx, swapsWith (.Call (.Attribute (.Subscript (.Name y q2) (.Constant (.int 2) k2 r2) pos) "clear" a2) [] [] c2) none s2.line X.env = pure false := by intro _; rfl) (hs0 : ∀ (env : Env) z, foldedSetIterable (.Name x px) env z = pure z := by intro _ _; rfl) (hcm : C.cm = true := by rfl) {pos' : Pos} :
    Ex1 C Γ (.For (.Name y py) (.Name x px) [.Expr (.Call (.Attribute (.Subscript (.Name y q1) (.Constant (.int 1) k1 r1) p) "append" a1) [e] [] c1) s1, .Expr (.Call (.Attribute (.Subscript (.Name y q2) (.Constant (.int 2) k2 r2) pos) "clear" a2) [] [] c2) s2] [] pos') (fun _ : Unit => .nx ((Γ.set i (.own (oJ C.fr))).set j .no)) (W.req (xs.length ≤ 1000000 ∧ ∀ z ∈ xs, z.2.1.length ≤ 1000000 ∧ z.2.2.length ≤ 1000000) (pure ())) :=
  fun X Wx ok tk F H g σ s D hm => by
    subst hK
    obtain ⟨⟨h1, h2⟩, hm⟩ := hm
    rw [Bool.or_eq_false_iff] at hd hdy
    refine W1.nice fun hNi => ?_
    rw [ok.K] at hNi
    have pvy : ∀ pp, PE X (.Name y pp) (tVar j) := fun pp => pe_var (i := j) (by rw [ok.N]; exact hM) (by rw [ok.sc]; exact visOf hvy) hdy.1 hdy.2
    refine W1.of (ps_for ok.po (ok.calm.trans hcm) (pi_list (pe_var (i := i) (by rw [ok.N]; exact hN) (by rw [ok.sc]; exact visOf hv) hd.1 hd.2)) (pg_name (i := j) ok.toOk.ndX (by rw [ok.N]; exact hM) (hy.loc ok.toOk) (hy.fn ok.toOk))
      (pss_cons (ps_expr (pe_bm PySem.F.plainAttrs_list PySem.F.slot_list_append PySem.F.type_list_append mt_append (pe_ix ix_tup (pvy q1) pe_int (fun _ _ => rfl)) (pa_cons (pe_W (e := e)) pa_nil (n [] X.env)) (hb1 X) (fewArgs1 n c1) hline1 (n [] X.env) rfl) (hs1 X))
        (pss_one (ps_expr (pe_bm0 PySem.F.plainAttrs_list PySem.F.slot_list_clear PySem.F.type_list_clear mt_clear (pe_ix ix_tup (pvy q2) pe_int (fun _ _ => rfl)) (hb2 X) hline2) (hs2 X)))) (hs0 X.env)) ?_
    have hi := (List.getElem?_eq_some_iff.mp hΓ).1
    obtain ⟨v, eσ, r0⟩ := s.get_own hΓ
    obtain ⟨nG, lsG, a, vs, ev, hGa, hq, t⟩ := r0
    have hga := uniG_at hGa hq
    have hsub : Same (uni (g i) F) H := fun b o q => by
      rcases of_uni q with q | ⟨_, q⟩
      · exact s.sG i b o q
      · exact s.sF b o q
    have hit := items_of hNi hsub lsG hga t h2
    generalize hS : (fun c => c ≠ a ∧ ∃ ws, g i c = some (.lst ws) ∧ ws.length ≤ 1000000 ∧ ∀ w ∈ ws, ∃ T v1 v2, w = V.ref T ∧ SqT C.K H T [v1, v2]) = S at hit
    have r1 : (oK (.ref a) [(a, vs)] S (fun _ => False) (1000000 + 0)).p F (g i) v := by
      refine ⟨ev, fun p hp => ?_, fun c hc => ?_, fun c hc => hc.elim⟩
      · rw [List.mem_singleton.mp hp]; exact hga
      · rw [← hS] at hc
        obtain ⟨k1, ws, k2, k3, _⟩ := hc
        exact ⟨fun p hp => by rw [List.mem_singleton.mp hp]; exact k1, ws, k2, k3⟩
    have sA := s.reset (j := j) hi eσ r1
    have hHa : H a = some (.lst vs) := s.sG i a _ hga
    have hl : vs.length = xs.length := t.length
    have mv : ∀ {A B : Slot}, ((Γ.set i A).set j .no).set i B = (Γ.set i B).set j .no := fun {A B} => by
      rw [List.set_comm _ _ (fun z => hij z.symm), List.set_set]
    refine ⟨v, eσ, a, ev, ⟨vs, SqL.of hHa⟩, fun k n σ2 H2 => n = vs.length - k ∧ k ≤ vs.length ∧ ∃ F2 g2, Same F F2 ∧ Fr F H (dU g) F2 H2 (dU g2) ∧ StOk C F2 H2 ((Γ.set i (.own (oK (.ref a) [(a, vs)] S (fun _ => False) (1000000 + k)))).set j .no) σ2 g2, ⟨vs.length, by simp, Nat.zero_le _, F, g, Same.refl _, Fr.refl, sA⟩, ?_⟩
    rintro k m σ2 H2 ⟨rfl, hk, F2, g2, sm2, f2, s2⟩
    have hΓ2 : ∀ {A : Slot}, ((Γ.set i A).set j .no)[i]? = some A := fun {A} => by
      rw [List.getElem?_set_ne (fun z => hij z.symm), List.getElem?_set_self hi]
    obtain ⟨v2, eσ2, ev2, hfx, hSc, _⟩ := s2.get_own hΓ2
    have hG2 : g2 i a = some (.lst vs) := hfx (a, vs) (by simp)
    have hH2 : H2 a = some (.lst vs) := s2.sG i a _ hG2
    by_cases hlt : k < vs.length
    · refine .inr ⟨⟨vs, vs[k], SqL.of hH2, List.getElem?_eq_getElem hlt⟩, _, fun σ' H' h => ⟨vs.length - (k + 1), by omega, h⟩, fun u H' y => ?_⟩
      obtain ⟨rfl, y⟩ := y
      have hu := y vs (SqL.of hH2)
      obtain ⟨T, v1, c, d, eu, hT, hc, hd2⟩ := hit u (List.mem_of_getElem? hu)
      subst eu
      have hjl : j < σ2.length := by
        rw [← s2.len, List.length_set, List.length_set]
        exact Nat.le_of_ble_eq_true hjG
      have s3 := s2.set_no (i := j) (o := some (.ref T))
      rw [List.set_set] at s3
      have eσj : (σ2.set j (some (V.ref T)))[j]? = some (some (.ref T)) := List.getElem?_set_self hjl
      have eσi : (σ2.set j (some (V.ref T)))[i]? = some (some v2) := by rw [List.getElem?_set_ne (fun z => hij z.symm)]; exact eσ2
      obtain ⟨_, ws0, hws0, _⟩ := hSc c hc
      refine ⟨.ref T, eσj, T, [v1, .ref c, .ref d], 1, .ref c, rfl, rfl, by rw [ok.K]; exact Same.seqT (sm2.trans s2.sF) hT, atI_nat (j := 1) rfl, .inl ⟨rfl, _, SqL.of (s2.sG i c _ hws0)⟩, ?_⟩
      refine h _ X Wx ok.toOk tk F2 _ g2 _ s3 _ ?_
      show ∀ (F' H' : Hp) (g' : Nat → Hp) (v : V), _
      intro F3 H3 g3 w f3 s4 _
      obtain ⟨v4, eσ4, r4⟩ := s4.get_own hΓ2
      rw [eσi] at eσ4
      cases eσ4
      obtain ⟨_, ws, hws, hwl⟩ := r4.2.2.1 c hc
      obtain ⟨s5, f5⟩ := s4.updG (i := i) (a := c) (o := .lst ws) (o' := .lst (ws ++ [w])) (O' := oK (.ref a) [(a, vs)] S (fun _ => False) (1000000 + (k + 1))) (v := v2) hws eσi (by rw [List.length_set, List.length_set]; exact hi) (oK_upd r4 hc (by omega) (by simp; omega))
      rw [mv] at s5
      refine ⟨c, ws, w, rfl, rfl, s4.sG i c _ hws, by rw [PySem.sizeLine_eq]; omega, ?_⟩
      obtain ⟨v5, eσ5, r5⟩ := s5.get_own hΓ2
      rw [eσi] at eσ5
      cases eσ5
      obtain ⟨_, ws', hws', _⟩ := r5.2.2.1 d hd2
      obtain ⟨s6, f6⟩ := s5.updG (i := i) (a := d) (o := .lst ws') (o' := .lst []) (O' := oK (.ref a) [(a, vs)] S (fun _ => False) (1000000 + (k + 1))) (v := v2) hws' eσi (by rw [List.length_set, List.length_set]; exact hi) (oK_upd r5 hd2 (Nat.le_refl _) (Nat.zero_le _))
      rw [mv] at s6
      refine ⟨.ref T, eσj, T, [v1, .ref c, .ref d], 2, .ref d, rfl, rfl, by rw [ok.K]; exact Same.seqT ((sm2.trans f3.sF).trans s5.sF) hT, atI_nat (j := 2) rfl, .inl ⟨rfl, _, SqL.of (s5.sG i d _ hws')⟩, d, ws', rfl, rfl, s5.sG i d _ hws', ?_⟩
      exact ⟨rfl, hlt, F3, _, sm2.trans f3.sF, (f2.trans f3).trans (f5.trans f6), s6⟩
    · have e : k = vs.length := by omega
      subst e
      refine .inl ⟨⟨vs, SqL.of hH2, Nat.le_refl _⟩, ?_⟩
      have s3 := s2.reown hΓ2 (O' := oJ C.fr) (fun F G v ⟨z1, z2, _⟩ => ⟨a, vs, z1, z2 (a, vs) (by simp), by omega⟩)
      rw [mv] at s3
      exact hm F2 H2 g2 σ2 f2 s3
/-! ### a list of three lists and more, of which no more is said -/
def oJ4 (L : Nat) : Op := ⟨fun F G v => ∃ h b0 b1 b2 v4, v = .ref h ∧ G h = some (.lst [.ref b0, .ref b1, .ref b2, v4]) ∧ ∀ b, (b = b0 ∨ b = b1 ∨ b = b2) → b ≠ h ∧ ∃ ws, G b = some (.lst ws) ∧ ws.length ≤ L, fun _ h => h⟩
theorem oJ4_upd {L L' : Nat} {F' G : Hp} {h b0 b1 b2 : Addr} {v4 : V} (hh : G h = some (.lst [.ref b0, .ref b1, .ref b2, v4])) (hb : ∀ b, (b = b0 ∨ b = b1 ∨ b = b2) → b ≠ h ∧ ∃ ws, G b = some (.lst ws) ∧ ws.length ≤ L) {c : Addr} (hc : c = b0 ∨ c = b1 ∨ c = b2) {ws : List V} (hl : L ≤ L') (hw : ws.length ≤ L') : (oJ4 L').p F' (upd G c (.lst ws)) (.ref h) := by
  refine ⟨h, b0, b1, b2, v4, rfl, by rw [upd_ne (hb c hc).1.symm]; exact hh, fun b hb2 => ⟨(hb b hb2).1, ?_⟩⟩
  by_cases e : b = c
  · subst e; exact ⟨ws, upd_same, hw⟩
  · obtain ⟨_, ws0, k2, k3⟩ := hb b hb2
    exact ⟨ws0, by rw [upd_ne e]; exact k2, by omega⟩
theorem nth4 {b0 b1 b2 : Addr} {v4 : V} {n : Nat} (hn : n < 3) : ∃ c, [V.ref b0, .ref b1, .ref b2, v4][n]? = some (.ref c) ∧ (c = b0 ∨ c = b1 ∨ c = b2) := by
  match n, hn with
  | 0, _ => exact ⟨b0, rfl, .inl rfl⟩
  | 1, _ => exact ⟨b1, rfl, .inr (.inl rfl)⟩
  | 2, _ => exact ⟨b2, rfl, .inr (.inr rfl)⟩
/-- for y in x[1]: y[1].append(e) -/
theorem Ex1.spoilW1 {i j : Nat} {x y : Str} {px py p0 pp0 q1 r1 a1 c1 s1 : Pos} {k0 k1 : Nat} {K : PySem.W.Frag} (hK : C.K = K) {xx : List Str × List WorkV × List Str × List WorkV} {ρ : β → Rp} {z : β} (hN : C.N[i]? = some x) (hM : C.N[j]? = some y) (hij : i ≠ j) (hv : visB C.sc x = true) (hvy : visB C.sc y = true) (hy : Sto C y)
    (hΓ : Γ[i]? = some (.own (oW (fun N => rW4 N (rN N rS) (rN N (rWN K N)) (rN N rS) (rN N (rWN K N))) C.fr xx))) (hd : (x == ("__debug__" : Str) || x == ("__classdict__" : Str)) = false) (hdy : (y == ("__debug__" : Str) || y == ("__classdict__" : Str)) = false) (hjG : Nat.ble (j + 1) Γ.length = true) (h : ∀ Γ, Ev C Γ e ρ (pure z)) (n : NoStar e)
    (hline1 : (a1.endLine == c1.line) = true := by rfl)
    (hb1 : ∀ X : Cx, attributeBase (.Subscript (.Name y q1) (.Constant (.int 1) k1 r1) p) "append" X.env (eval (.Subscript (.Name y q1) (.Constant (.int 1) k1 r1) p) X.env) = eval (.Subscript (.Name y q1) (.Constant (.int 1) k1 r1) p) X.env := by intro _; rfl)
    (hs1 : ∀ X : Cx, swapsWith (.Call (.Attribute (.Subscript (.Name y q1) (.Constant (.int 1) k1 r1) p) "append" a1) [e] [] c1) none s1.line X.env = pure false := by intro _; rfl)
    (hs0 : ∀ (env : Env) z, foldedSetIterable (.Subscript (.Name x px) (.Constant (.int 1) k0 p0) pp0) env z = pure z := by intro _ _; rfl) (hcm : C.cm = true := by rfl) {pos' : Pos} :
    Ex1 C Γ (.For (.Name y py) (.Subscript (.Name x px) (.Constant (.int 1) k0 p0) pp0) [.Expr (.Call (.Attribute (.Subscript (.Name y q1) (.Constant (.int 1) k1 r1) p) "append" a1) [e] [] c1) s1] [] pos') (fun _ : Unit => .nx ((Γ.set i (.own (oJ4 2000000))).set j .no)) (W.req ((xx.1.length ≤ 1000000 ∧ xx.2.1.length ≤ 1000000 ∧ xx.2.2.1.length ≤ 1000000) ∧ ∀ z ∈ xx.2.1, z.2.1.length ≤ 1000000 ∧ z.2.2.length ≤ 1000000) (pure ())) :=
  fun X Wx ok tk F H g σ s D hm => by
    subst hK
    obtain ⟨⟨⟨l0, l1, l2⟩, h2⟩, hm⟩ := hm
    rw [Bool.or_eq_false_iff] at hd hdy
    refine W1.nice fun hNi => ?_
    rw [ok.K] at hNi
    have pvy : ∀ pp, PE X (.Name y pp) (tVar j) := fun pp => pe_var (i := j) (by rw [ok.N]; exact hM) (by rw [ok.sc]; exact visOf hvy) hdy.1 hdy.2
    refine W1.of (ps_for ok.po (ok.calm.trans hcm) (pi_list (pe_ix ix_list (pe_var (i := i) (by rw [ok.N]; exact hN) (by rw [ok.sc]; exact visOf hv) hd.1 hd.2) pe_int (fun _ _ => rfl))) (pg_name (i := j) ok.toOk.ndX (by rw [ok.N]; exact hM) (hy.loc ok.toOk) (hy.fn ok.toOk))
      (pss_one (ps_expr (pe_bm PySem.F.plainAttrs_list PySem.F.slot_list_append PySem.F.type_list_append mt_append (pe_ix ix_tup (pvy q1) pe_int (fun _ _ => rfl)) (pa_cons (pe_W (e := e)) pa_nil (n [] X.env)) (hb1 X) (fewArgs1 n c1) hline1 (n [] X.env) rfl) (hs1 X))) (hs0 X.env)) ?_
    have hi := (List.getElem?_eq_some_iff.mp hΓ).1
    obtain ⟨v, eσ, r0⟩ := s.get_own hΓ
    obtain ⟨nG, lsG, hh, w0, w1, w2, v4, ev, hGh, hqh, ⟨b0, us0, e0, n0, q0, t0⟩, ⟨a, vs, ea, hGa, hq, t⟩, ⟨b2, us2, e2, n2, q2, t2⟩, _⟩ := r0
    subst e0 ea e2
    have hga := uniG_at hGa hq
    have hgh := uniG_at hGh hqh
    have hg0 := uniG_at n0 q0
    have hg2 := uniG_at n2 q2
    have hsub : Same (uni (g i) F) H := fun b o q => by
      rcases of_uni q with q | ⟨_, q⟩
      · exact s.sG i b o q
      · exact s.sF b o q
    have hL0 : SqL C.K H b0 us0 := SqL.of (s.sG i b0 _ hg0)
    have hit0 := items_of hNi hsub lsG hga t h2
    -- the outer list is none of the others
    have ne0 : b0 ≠ hh := fun z => by
      rw [z, hgh] at hg0
      have ew : us0 = [V.ref b0, .ref a, .ref b2, v4] := by cases hg0; rfl
      obtain ⟨y, _, hy⟩ := t0.memL (a := .ref b0) (by rw [ew]; simp)
      have hy : V.ref b0 = .str y := hy
      cases hy
    have ne2 : b2 ≠ hh := fun z => by
      rw [z, hgh] at hg2
      have ew : us2 = [V.ref b0, .ref a, .ref b2, v4] := by cases hg2; rfl
      obtain ⟨y, _, hy⟩ := t2.memL (a := .ref b0) (by rw [ew]; simp)
      have hy : V.ref b0 = .str y := hy
      cases hy
    have ne1 : a ≠ hh := fun z => by
      have hga2 := hga
      rw [z, hgh] at hga2
      have ew : vs = [V.ref b0, .ref a, .ref b2, v4] := by cases hga2; rfl
      obtain ⟨T, v1, c, d, eT, hT, _⟩ := hit0 (.ref b0) (by rw [ew]; simp)
      cases eT
      exact hNi.2 b0 _ _ (Same.seqT s.sF hT) hL0
    have hit : ∀ u ∈ vs, ItK C.K F (fun c => (c ≠ hh ∧ c ≠ a) ∧ ∃ ws, g i c = some (.lst ws) ∧ ws.length ≤ 1000000) u := fun u hu => by
      obtain ⟨T, v1, c, d, eu, hT, ⟨c1, ws, c2, c3, c4⟩, ⟨d1, us, d2, d3, d4⟩⟩ := hit0 u hu
      have nh : ∀ {c : Addr} {ws : List V}, g i c = some (.lst ws) → (∀ w ∈ ws, ∃ T v1 v2, w = V.ref T ∧ SqT C.K H T [v1, v2]) → c ≠ hh := fun {c ws} k1 k2 z => by
        rw [z, hgh] at k1
        have ew : ws = [V.ref b0, .ref a, .ref b2, v4] := by cases k1; rfl
        obtain ⟨T, v1, v2, eT, hT⟩ := k2 (.ref b0) (by rw [ew]; simp)
        cases eT
        exact hNi.2 b0 _ _ hT hL0
      exact ⟨T, v1, c, d, eu, hT, ⟨⟨nh c2 c4, c1⟩, ws, c2, c3⟩, ⟨⟨nh d2 d4, d1⟩, us, d2, d3⟩⟩
    generalize hS : (fun c => (c ≠ hh ∧ c ≠ a) ∧ ∃ ws, g i c = some (.lst ws) ∧ ws.length ≤ 1000000) = S at hit
    obtain ⟨O, hO⟩ : ∃ O : Nat → Op, O = fun k => oK (.ref hh) [(hh, [.ref b0, .ref a, .ref b2, v4]), (a, vs)] S (fun c => c = b0 ∨ c = b2) (1000000 + k) := ⟨_, rfl⟩
    have r1 : (O 0).p F (g i) v := by
      rw [hO]
      refine ⟨ev, fun p hp => ?_, fun c hc => ?_, fun c hc => ?_⟩
      · rcases List.mem_cons.mp hp with q | q
        · rw [q]; exact hgh
        · rw [List.mem_singleton.mp q]; exact hga
      · rw [← hS] at hc
        obtain ⟨⟨k0, k1⟩, ws, k2, k3⟩ := hc
        refine ⟨fun p hp => ?_, ws, k2, k3⟩
        rcases List.mem_cons.mp hp with q | q
        · rw [q]; exact k0
        · rw [List.mem_singleton.mp q]; exact k1
      · rcases hc with rfl | rfl
        · exact ⟨us0, hg0, by rw [t0.length]; exact l0⟩
        · exact ⟨us2, hg2, by rw [t2.length]; exact l2⟩
    have sA := s.reset (j := j) hi eσ r1
    have hHa : H a = some (.lst vs) := s.sG i a _ hga
    have hHh : H hh = some (.lst [.ref b0, .ref a, .ref b2, v4]) := s.sG i hh _ hgh
    have hl : vs.length = xx.2.1.length := t.length
    have mv : ∀ {A B : Slot}, ((Γ.set i A).set j .no).set i B = (Γ.set i B).set j .no := fun {A B} => by
      rw [List.set_comm _ _ (fun z => hij z.symm), List.set_set]
    refine ⟨v, eσ, hh, [.ref b0, .ref a, .ref b2, v4], 1, .ref a, ev, rfl, SqL.of hHh, atI_nat (j := 1) rfl, a, rfl, ⟨vs, SqL.of hHa⟩, fun k n σ2 H2 => n = vs.length - k ∧ k ≤ vs.length ∧ ∃ F2 g2, Same F F2 ∧ Fr F H (dU g) F2 H2 (dU g2) ∧ StOk C F2 H2 ((Γ.set i (.own (O k))).set j .no) σ2 g2, ⟨vs.length, by simp, Nat.zero_le _, F, g, Same.refl _, Fr.refl, sA⟩, ?_⟩
    rintro k m σ2 H2 ⟨rfl, hk, F2, g2, sm2, f2, s2⟩
    have hΓ2 : ∀ {A : Slot}, ((Γ.set i A).set j .no)[i]? = some A := fun {A} => by
      rw [List.getElem?_set_ne (fun z => hij z.symm), List.getElem?_set_self hi]
    obtain ⟨v2, eσ2, rO⟩ := s2.get_own hΓ2
    rw [hO] at rO
    obtain ⟨ev2, hfx, hSc, hMc⟩ := id rO
    have hG2 : g2 i a = some (.lst vs) := hfx (a, vs) (by simp)
    have hH2 : H2 a = some (.lst vs) := s2.sG i a _ hG2
    by_cases hlt : k < vs.length
    · refine .inr ⟨⟨vs, vs[k], SqL.of hH2, List.getElem?_eq_getElem hlt⟩, _, fun σ' H' h => ⟨vs.length - (k + 1), by omega, h⟩, fun u H' y => ?_⟩
      obtain ⟨rfl, y⟩ := y
      have hu := y vs (SqL.of hH2)
      obtain ⟨T, v1, c, d, eu, hT, hc, hd2⟩ := hit u (List.mem_of_getElem? hu)
      subst eu
      have hjl : j < σ2.length := by
        rw [← s2.len, List.length_set, List.length_set]
        exact Nat.le_of_ble_eq_true hjG
      have s3 := s2.set_no (i := j) (o := some (.ref T))
      rw [List.set_set] at s3
      have eσj : (σ2.set j (some (V.ref T)))[j]? = some (some (.ref T)) := List.getElem?_set_self hjl
      have eσi : (σ2.set j (some (V.ref T)))[i]? = some (some v2) := by rw [List.getElem?_set_ne (fun z => hij z.symm)]; exact eσ2
      obtain ⟨_, ws0, hws0, _⟩ := hSc c hc
      refine ⟨.ref T, eσj, T, [v1, .ref c, .ref d], 1, .ref c, rfl, rfl, by rw [ok.K]; exact Same.seqT (sm2.trans s2.sF) hT, atI_nat (j := 1) rfl, .inl ⟨rfl, _, SqL.of (s2.sG i c _ hws0)⟩, ?_⟩
      refine h _ X Wx ok.toOk tk F2 _ g2 _ s3 _ ?_
      show ∀ (F' H' : Hp) (g' : Nat → Hp) (v : V), _
      intro F3 H3 g3 w f3 s4 _
      obtain ⟨v4', eσ4, r4⟩ := s4.get_own hΓ2
      rw [eσi] at eσ4
      cases eσ4
      have r4' := r4
      rw [hO] at r4'
      obtain ⟨_, ws, hws, hwl⟩ := r4'.2.2.1 c hc
      obtain ⟨s5, f5⟩ := s4.updG (i := i) (a := c) (o := .lst ws) (o' := .lst (ws ++ [w])) (O' := O (k + 1)) (v := v2) hws eσi (by rw [List.length_set, List.length_set]; exact hi) (by rw [hO]; exact oK_upd r4' hc (by omega) (by simp; omega))
      rw [mv] at s5
      exact ⟨c, ws, w, rfl, rfl, s4.sG i c _ hws, by rw [PySem.sizeLine_eq]; omega, rfl, hlt, F3, _, sm2.trans f3.sF, (f2.trans f3).trans f5, s5⟩
    · have e : k = vs.length := by omega
      subst e
      refine .inl ⟨⟨vs, SqL.of hH2, Nat.le_refl _⟩, ?_⟩
      have s3 := s2.reown hΓ2 (O' := oJ4 2000000) (fun F G v r => by
        rw [hO] at r
        obtain ⟨z1, z2, z3, z4⟩ := r
        refine ⟨hh, b0, a, b2, v4, z1, z2 (hh, [.ref b0, .ref a, .ref b2, v4]) (by simp), fun b hb => ?_⟩
        rcases hb with rfl | rfl | rfl
        · obtain ⟨ws, k1, k2⟩ := z4 b (.inl rfl)
          exact ⟨ne0, ws, k1, by omega⟩
        · exact ⟨ne1, vs, z2 (b, vs) (by simp), by omega⟩
        · obtain ⟨ws, k1, k2⟩ := z4 b (.inr rfl)
          exact ⟨ne2, ws, k1, by omega⟩)
      rw [mv] at s3
      exact hm F2 H2 g2 σ2 f2 s3
/-- x[n].append(c), no more being said of x -/
theorem Ex.appJ4 {i n : Nat} {x : Str} {px pp pk apos cpos : Pos} {jk L : Nat} {w : V} {m : W ω} (hn3 : n < 3) (hL : L ≤ 3000000) (hN : C.N[i]? = some x) (hv : visB C.sc x = true) (hd : (x == ("__debug__" : Str) || x == ("__classdict__" : Str)) = false) (hΓ : Γ[i]? = some (.own (oJ4 L))) (hc : ∀ X : Cx, PE X e (tC w)) (ns : NoStar e) (hr : Ex C (Γ.set i (.own (oJ4 (L + 1)))) rest J m)
    (hline : (apos.endLine == cpos.line) = true := by rfl) (hb : ∀ X : Cx, attributeBase (.Subscript (.Name x px) (.Constant (.int (n : Int)) jk pk) pp) "append" X.env (eval (.Subscript (.Name x px) (.Constant (.int (n : Int)) jk pk) pp) X.env) = eval (.Subscript (.Name x px) (.Constant (.int (n : Int)) jk pk) pp) X.env := by intro _; rfl)
    (hs : ∀ X : Cx, swapsWith (.Call (.Attribute (.Subscript (.Name x px) (.Constant (.int (n : Int)) jk pk) pp) "append" apos) [e] [] cpos) none pos.line X.env = pure false := by intro _; rfl) :
    Ex C Γ (.Expr (.Call (.Attribute (.Subscript (.Name x px) (.Constant (.int (n : Int)) jk pk) pp) "append" apos) [e] [] cpos) pos :: rest) J m :=
  Ex.cons fun X Wx ok tk F H g σ s D hm => by
    rw [Bool.or_eq_false_iff] at hd
    refine W1.of (ps_expr (pe_bm PySem.F.plainAttrs_list PySem.F.slot_list_append PySem.F.type_list_append mt_append (pe_ix ix_list (pe_var (i := i) (by rw [ok.N]; exact hN) (by rw [ok.sc]; exact visOf hv) hd.1 hd.2) pe_int (fun _ _ => rfl)) (pa_cons (hc X) pa_nil (ns [] X.env)) (hb X) (fewArgs1 ns cpos) hline (ns [] X.env) rfl) (hs X)) ?_
    obtain ⟨v, eσ, r⟩ := s.get_own hΓ
    obtain ⟨h0, b0, b1, b2, v4, ev, hh, hbs⟩ := r
    subst ev
    obtain ⟨c, hc1, hc2⟩ := nth4 (b0 := b0) (b1 := b1) (b2 := b2) (v4 := v4) hn3
    obtain ⟨_, ws0, hw0, hwl⟩ := hbs c hc2
    obtain ⟨s3, f3⟩ := s.updG (O' := oJ4 (L + 1)) (o' := .lst (ws0 ++ [w])) hw0 eσ (List.getElem?_eq_some_iff.mp hΓ).1 (oJ4_upd hh hbs hc2 (Nat.le_succ _) (by simp; omega))
    exact ⟨.ref h0, eσ, h0, _, n, .ref c, rfl, rfl, SqL.of (s.sG i h0 _ hh), atI_nat hc1, .inl ⟨rfl, _, SqL.of (s.sG i c _ hw0)⟩, c, ws0, w, rfl, rfl, s.sG i c _ hw0, by rw [PySem.sizeLine_eq]; omega, hr.later ok tk f3 s3 hm⟩
/-- x[n].clear(), no more being said of x -/
theorem Ex.clrJ4 {i n : Nat} {x : Str} {px pp pk apos cpos : Pos} {jk L : Nat} {m : W ω} (hn3 : n < 3) (hN : C.N[i]? = some x) (hv : visB C.sc x = true) (hd : (x == ("__debug__" : Str) || x == ("__classdict__" : Str)) = false) (hΓ : Γ[i]? = some (.own (oJ4 L))) (hr : Ex C Γ rest J m)
    (hline : (apos.endLine == cpos.line) = true := by rfl) (hb : ∀ X : Cx, attributeBase (.Subscript (.Name x px) (.Constant (.int (n : Int)) jk pk) pp) "clear" X.env (eval (.Subscript (.Name x px) (.Constant (.int (n : Int)) jk pk) pp) X.env) = eval (.Subscript (.Name x px) (.Constant (.int (n : Int)) jk pk) pp) X.env := by intro _; rfl)
    (hs : ∀ X : Cx, swapsWith (.Call (.Attribute (.Subscript (.Name x px) (.Constant (.int (n : Int)) jk pk) pp) "clear" apos) [] [] cpos) none pos.line X.env = pure false := by intro _; rfl) :
    Ex C Γ (.Expr (.Call (.Attribute (.Subscript (.Name x px) (.Constant (.int (n : Int)) jk pk) pp) "clear" apos) [] [] cpos) pos :: rest) J m :=
  Ex.cons fun X Wx ok tk F H g σ s D hm => by
    rw [Bool.or_eq_false_iff] at hd
    refine W1.of (ps_expr (pe_bm0 PySem.F.plainAttrs_list PySem.F.slot_list_clear PySem.F.type_list_clear mt_clear (pe_ix ix_list (pe_var (i := i) (by rw [ok.N]; exact hN) (by rw [ok.sc]; exact visOf hv) hd.1 hd.2) pe_int (fun _ _ => rfl)) (hb X) hline) (hs X)) ?_
    obtain ⟨v, eσ, r⟩ := s.get_own hΓ
    obtain ⟨h0, b0, b1, b2, v4, ev, hh, hbs⟩ := r
    subst ev
    obtain ⟨c, hc1, hc2⟩ := nth4 (b0 := b0) (b1 := b1) (b2 := b2) (v4 := v4) hn3
    obtain ⟨_, ws0, hw0, hwl⟩ := hbs c hc2
    obtain ⟨s3, f3⟩ := s.updG (O' := oJ4 L) (o' := .lst []) hw0 eσ (List.getElem?_eq_some_iff.mp hΓ).1 (oJ4_upd hh hbs hc2 (Nat.le_refl _) (Nat.zero_le _))
    have eG : Γ.set i (.own (oJ4 L)) = Γ := by
      refine List.ext_getElem? fun k => ?_
      by_cases hk : i = k
      · subst hk; rw [List.getElem?_set_self (List.getElem?_eq_some_iff.mp hΓ).1, hΓ]
      · rw [List.getElem?_set_ne hk]
    rw [eG] at s3
    exact ⟨.ref h0, eσ, h0, _, n, .ref c, rfl, rfl, SqL.of (s.sG i h0 _ hh), atI_nat hc1, .inl ⟨rfl, _, SqL.of (s.sG i c _ hw0)⟩, c, ws0, rfl, rfl, s.sG i c _ hw0, hr.later ok tk f3 s3 hm⟩
/-! ### a new list that nobody holds is spoiled -/
theorem tmp_upd {F H F1 H1 G : Hp} {g g1 : Nat → Hp} {σ : L2.St} {a : Addr} {o o' : HO} (f1 : Fr F H (dU g) F1 H1 (fun b => dU g1 b ∨ G b ≠ none)) (s1 : StOk C F1 H1 Γ σ g1) (sG : Same G H1) (dF : Dis F1 G) (dG : ∀ i, Dis (g1 i) G) (ha : G a = some o) : StOk C F1 (upd H1 a o') Γ σ g1 ∧ Fr F H (dU g) F1 (upd H1 a o') (dU g1) := by
  have hF : F1 a = none := (dF a).elim id fun z => by rw [ha] at z; cases z
  have hg : ∀ i, g1 i a = none := fun i => (dG i a).elim id fun z => by rw [ha] at z; cases z
  have ne : ∀ {A : Hp} {b : Addr} {u : HO}, A a = none → A b = some u → b ≠ a := fun {A b u} h1 h2 z => by rw [z, h1] at h2; cases h2
  refine ⟨⟨s1.len, s1.slot, fun b u q => ?_, fun i b u q => ?_, s1.dF, s1.dG, fun b q => ?_⟩, ⟨f1.sF, f1.fF, fun b u q n => ?_, fun b q => ?_, fun b q => f1.gs b (.inl q)⟩⟩
  · rw [upd_ne (ne hF q)]; exact s1.sF b u q
  · rw [upd_ne (ne (hg i) q)]; exact s1.sG i b u q
  · by_cases e : b = a
    · rw [e, upd_same] at q; cases q
    · rw [upd_ne e] at q; exact s1.fr b q
  · by_cases e : b = a
    · subst e
      rcases f1.gs b (.inr (by rw [ha]; simp)) with z | z
      · exact absurd z n
      · rw [z] at q; cases q
    · rw [upd_ne e]; exact f1.keep b u q n
  · by_cases e : b = a
    · rw [e, upd_same]; simp
    · rw [upd_ne e]; exact f1.dom b q
/-- e.append(c), e new -/
theorem Ex.tmpApp {o : Expr} {apos cpos : Pos} {w : V} {r : α → Rp} {m : W (List α)} {k : W ω} (h : EvO C Γ o (oV (fun N => rN N r) C.fr) m) (hc : ∀ X : Cx, PE X e (tC w)) (ns : NoStar e) (hr : Ex C Γ rest J k)
    (hline : (apos.endLine == cpos.line) = true := by rfl) (hb : ∀ X : Cx, attributeBase o "append" X.env (eval o X.env) = eval o X.env := by intro _; rfl)
    (hs : ∀ X : Cx, swapsWith (.Call (.Attribute o "append" apos) [e] [] cpos) none pos.line X.env = pure false := by intro _; rfl) :
    Ex C Γ (.Expr (.Call (.Attribute o "append" apos) [e] [] cpos) pos :: rest) J (do let xs ← m; W.req (xs.length ≤ 1000000) k) :=
  Ex.cons fun X Wx ok tk F H g σ s D hm => by
    refine W1.of (ps_expr (pe_bm PySem.F.plainAttrs_list PySem.F.slot_list_append PySem.F.type_list_append mt_append (pe_W (e := o)) (pa_cons (hc X) pa_nil (ns [] X.env)) (hb X) (fewArgs1 ns cpos) hline (ns [] X.env) rfl) (hs X)) ?_
    refine h X Wx ok.toOk tk F H g σ s _ (m.mono (fun xs hx F1 H1 g1 G v f1 s1 sG dF dG nG r1 => ?_) (fun e he => he.ex) hm)
    obtain ⟨_, a, vs, ev, na, hGa, t⟩ := r1
    subst ev
    obtain ⟨s2, f2⟩ := tmp_upd (o' := .lst (vs ++ [w])) f1 s1 sG dF dG hGa
    have hl := t.length
    have hx1 := hx.1
    exact ⟨.inl ⟨rfl, _, SqL.of (sG a _ hGa)⟩, a, vs, w, rfl, rfl, sG a _ hGa, by rw [PySem.sizeLine_eq]; omega, hr.later ok tk f2 s2 hx.2⟩
/-- e.clear(), e new -/
theorem Ex.tmpClr {o : Expr} {apos cpos : Pos} {r : α → Rp} {m : W (List α)} {k : W ω} (h : EvO C Γ o (oV (fun N => rN N r) C.fr) m) (hr : Ex C Γ rest J k)
    (hline : (apos.endLine == cpos.line) = true := by rfl) (hb : ∀ X : Cx, attributeBase o "clear" X.env (eval o X.env) = eval o X.env := by intro _; rfl)
    (hs : ∀ X : Cx, swapsWith (.Call (.Attribute o "clear" apos) [] [] cpos) none pos.line X.env = pure false := by intro _; rfl) :
    Ex C Γ (.Expr (.Call (.Attribute o "clear" apos) [] [] cpos) pos :: rest) J (do let _ ← m; k) :=
  Ex.cons fun X Wx ok tk F H g σ s D hm => by
    refine W1.of (ps_expr (pe_bm0 PySem.F.plainAttrs_list PySem.F.slot_list_clear PySem.F.type_list_clear mt_clear (pe_W (e := o)) (hb X) hline) (hs X)) ?_
    refine h X Wx ok.toOk tk F H g σ s _ (m.mono (fun xs hx F1 H1 g1 G v f1 s1 sG dF dG nG r1 => ?_) (fun e he => he.ex) hm)
    obtain ⟨_, a, vs, ev, na, hGa, t⟩ := r1
    subst ev
    obtain ⟨s2, f2⟩ := tmp_upd (o' := .lst []) f1 s1 sG dF dG hGa
    exact ⟨.inl ⟨rfl, _, SqL.of (sG a _ hGa)⟩, a, vs, rfl, rfl, sG a _ hGa, hr.later ok tk f2 s2 hx⟩
end
instance decWks : DecidableEq (List (Str × List (Str × Int) × List (Str × Int))) := inferInstance
instance decW2 : DecidableEq (List Str × List (Str × List (Str × Int) × List (Str × Int))) := @instDecidableEqProd _ _ inferInstance decWks
instance decW3 : DecidableEq (List (Str × List (Str × Int) × List (Str × Int)) × List Str × List (Str × List (Str × Int) × List (Str × Int))) := @instDecidableEqProd _ _ decWks decW2
instance decW4 : DecidableEq (List Str × List (Str × List (Str × Int) × List (Str × Int)) × List Str × List (Str × List (Str × Int) × List (Str × Int))) := @instDecidableEqProd _ _ inferInstance decW3
end Y

namespace Y
open PySem PySem.Spec L2
def top (i : Nat) : Stmt := PySem.Challenge.pw_modeyard_k07_yards_told.main.body.getD i (.Pass ⟨0, 0, 0, 0⟩)
def m_is_name_b1 (v_x_8 : Str) : W (Fl (Unit) Bool) :=
  (((pure v_x_8) >>= fun u9 => (pure ("abcdefghijklmnopqrstuvwxyz" : Str)) >>= fun u10 => notInSgn u9 u10) >>= fun u11 => if u11 = true then ((pure false) >>= fun u12 => pure (Fl.ret u12)) else (pure (Fl.go ())))
def m_is_name (t : Str × Unit) : W Bool :=
  ((((pure (1 : Int)) >>= fun u1 => (lenW t.1) >>= fun u2 => chW (fun x y : Int => decide (x ≤ y)) (fun x y : Int => decide (x ≤ y)) u1 u2 (pure (8 : Int))) >>= fun u3 => pure (!u3)) >>= fun u4 => if u4 = true then ((pure false) >>= fun u5 => pure u5) else (((((pure t.1) >>= fun u6 => W.req (u6.length ≤ sizeLine) (pure (signs u6))) >>= fun xs => W.foldR (fun (v_s_7 : Unit) (v_x_8 : Str) => (m_is_name_b1 v_x_8)) () xs) >>= fun o => pure o.out) >>= fun o : (Unit) ⊕ Bool => match o with | .inl v_s_7 => ((pure true) >>= fun u13 => pure u13) | .inr r => (pure r)))
theorem w_is_name {M : Mc} (b_len : M.mg "len" = none) (g_SMALL : ∃ k, M.mg "SMALL" = some (.str ("abcdefghijklmnopqrstuvwxyz" : Str) k)) (F : FunM M "is_name" (top 10) ["text"]) : FnV M "is_name" 1 1 (fun (fr : Addr → Prop) (t : Str × Unit) => [rS t.1]) (fun fr => rB) m_is_name := by
  refine FnV.ofBody (N := ["text", "sign"]) F (⟨rfl, rfl, rfl, by decide +kernel, rfl, by decide +kernel, by decide +kernel⟩ : FnScope ["text", "sign"] ["text"] _) rfl (fun _ _ => rfl) (fun fr t => ?_)
  refine Ex.ifx (EvT.not (EvT.chain cr_le cr_le Ev.int (Ev.lenSP (bt_len rfl b_len) (Ev.nameP (i := 0) rfl rfl rfl rfl) (fun _ _ => rfl)) Ev.int)) ?_ ?_
  ·
    exact Ex.ret (ρ := rB) (fun u5 => u5) (fun _ => rfl) Ev.bool
  refine Ex.seq (J1 := (outX (S := Unit) (ρ := Bool) (fun v_s_7 : Unit => [.val (rS t.1), .no]) (fun r => rB r))) (Ex1.forX (fun v_s_7 : Unit => [.val (rS t.1), .no]) (fun r => rB r) (s0 := ()) (EvI.str (Ev.nameP (i := 0) rfl rfl rfl rfl)) (EvG.name (i := 1) (r := rS) rfl (stoOf rfl)) (.cons .rf (.cons .no .nil)) (fun v_s_7 v_x_8 => ?_)) (fun o => ?_)
  ·
    refine Ex.ifx (EvT.cmp (Ev.notInS (Ev.nameP (i := 1) rfl rfl rfl rfl) (Ev.globS rfl g_SMALL))) ?_ ?_
    ·
      exact Ex.ret (ρ := rB) (fun u12 => (Fl.ret u12)) (fun _ => rfl) Ev.bool
    exact Ex.nilLp rfl (.cons .rf (.cons .no .nil))
  obtain v_s_7 | r := o
  ·
    show Ex _ _ _ _ _
    exact Ex.ret (ρ := rB) (fun u13 => u13) (fun _ => rfl) Ev.bool
  · exact ⟨_, rfl, rfl⟩

def m_take_names_b1 (v_s_2 : ((List Str))) (v_x_3 : Str) : W ((List Str)) :=
  (((((pure v_x_3) >>= fun u4 => m_is_name (u4, ())) >>= fun u5 => pure (!u5)) >>= fun u7 => if u7 = true then pure true else ((pure v_x_3) >>= fun u6 => pure (decide (u6 ∈ v_s_2)))) >>= fun u8 => if u8 = true then W.bad else ((pure v_x_3) >>= fun u9 => W.req (v_s_2.length ≤ 1000000) ((pure ((addK v_s_2 u9))))))
def m_take_names (t : (List Str) × Unit) : W Unit :=
  ((pure ([] : List Str)) >>= fun v_seen_1 => (((pure t.1) >>= fun xs => W.foldM (fun (v_s_2 : (List Str)) (v_x_3 : Str) => (m_take_names_b1 v_s_2 v_x_3)) (v_seen_1) xs) >>= fun v_s_2 => (pure ())))
theorem w_take_names {M : Mc} (h_is_name : FnV M "is_name" 1 1 (fun (fr : Addr → Prop) (t : Str × Unit) => [rS t.1]) (fun fr => rB) m_is_name) (F : FunM M "take_names" (top 11) ["texts"]) : FnV M "take_names" 2 1 (fun (fr : Addr → Prop) (t : (List Str) × Unit) => [(rL M.K rS) t.1]) (fun fr => rU) m_take_names := by
  refine FnV.ofBodyU (N := ["texts", "seen", "text"]) F (⟨rfl, rfl, rfl, by decide +kernel, rfl, by decide +kernel, by decide +kernel⟩ : FnScope ["texts", "seen", "text"] ["texts"] _) rfl (fun _ _ => rfl) (fun fr t => ?_)
  refine Ex.setO (i := 1) (O := oD fr) rfl (stoOf rfl) EvO.dict0 (fun v_seen_1 => ?_)
  refine Ex.seq (J1 := fun v_s_2 : (List Str) => .nx [.val ((rL M.K rS) t.1), .own (oD fr v_s_2), .no]) (Ex1.for (fun v_s_2 : (List Str) => [.val ((rL M.K rS) t.1), .own (oD fr v_s_2), .no]) (s0 := (v_seen_1)) (EvI.list (Ev.nameP (i := 0) rfl rfl rfl rfl)) (EvG.name (i := 2) (r := rS) rfl (stoOf rfl)) (.cons .rf (.cons .rf (.cons .no .nil))) (fun v_s_2 v_x_3 => ?_)) (fun v_s_2 => ?_)
  ·
    refine Ex.ifx (EvW.t (EvW.or (EvT.not (EvT.val (Ev.call1 (hd := rfl) (ρ := fun fr => rB) (mf := m_is_name) (ra := fun fr => rS) h_is_name (Nat.le_of_ble_eq_true rfl) rfl (Ev.nameP (i := 2) rfl rfl rfl rfl) (fun _ _ => rfl)))) (EvW.or1 (EvT.cmp (Ev.inD (i := 1) rfl rfl rfl rfl (Ev.nameP (i := 2) rfl rfl rfl rfl)))))) ?_ ?_
    ·
      exact Ex.bad
    refine Ex.setKey (i := 1) rfl rfl rfl (Ev.nameP (i := 2) rfl rfl rfl rfl) (fun u9 => ?_) (by decide) (hpg := fun X hu h => pg_sub h pe_W (set_dict hu) (fun _ => rfl))
    exact Ex.nilLp rfl (.cons .rf (.cons .rf (.cons .no .nil)))
  show Ex _ _ _ _ _
  exact Ex.nilFt rfl

def m_take_amounts_b1 (t : (List Str) × (List (Str × Int)) × Unit) (v_s_2 : ((List Str))) (v_x_3 : (Str × Int)) : W ((List Str)) :=
  ((((pure v_x_3.1) >>= fun u4 => (pure t.1) >>= fun u5 => pure (!decide (u4 ∈ u5))) >>= fun u7 => if u7 = true then pure true else ((pure v_x_3.1) >>= fun u6 => pure (decide (u6 ∈ v_s_2)))) >>= fun u8 => if u8 = true then W.bad else ((pure v_x_3.1) >>= fun u9 => W.req (v_s_2.length ≤ 1000000) (((((pure true) >>= fun u10 => pure (!u10)) >>= fun u12 => if u12 = true then pure true else ((pure false) >>= fun u11 => if u11 = true then pure true else (pure (decide (v_x_3.2 < (1 : Int)))))) >>= fun u13 => if u13 = true then W.bad else (pure ((addK v_s_2 u9)))))))
def m_take_amounts (t : (List Str) × (List (Str × Int)) × Unit) : W Unit :=
  ((pure ([] : List Str)) >>= fun v_seen_1 => (((pure t.2.1) >>= fun xs => W.foldM (fun (v_s_2 : (List Str)) (v_x_3 : (Str × Int)) => (m_take_amounts_b1 t v_s_2 v_x_3)) (v_seen_1) xs) >>= fun v_s_2 => (pure ())))
theorem w_take_amounts {M : Mc} (b_isinstance : M.mg "isinstance" = none) (b_int : M.mg "int" = none) (b_bool : M.mg "bool" = none) (F : FunM M "take_amounts" (top 12) ["goods", "listed"]) : FnV M "take_amounts" 1 2 (fun (fr : Addr → Prop) (t : (List Str) × (List (Str × Int)) × Unit) => [(rL M.K rS) t.1, (rL M.K (rT2 M.K rS rI)) t.2.1]) (fun fr => rU) m_take_amounts := by
  refine FnV.ofBodyU (N := ["goods", "listed", "seen", "good", "amount"]) F (⟨rfl, rfl, rfl, by decide +kernel, rfl, by decide +kernel, by decide +kernel⟩ : FnScope ["goods", "listed", "seen", "good", "amount"] ["goods", "listed"] _) rfl (fun _ _ => rfl) (fun fr t => ?_)
  refine Ex.setO (i := 2) (O := oD fr) rfl (stoOf rfl) EvO.dict0 (fun v_seen_1 => ?_)
  refine Ex.seq (J1 := fun v_s_2 : (List Str) => .nx [.val ((rL M.K rS) t.1), .val ((rL M.K (rT2 M.K rS rI)) t.2.1), .own (oD fr v_s_2), .no, .no]) (Ex1.for (fun v_s_2 : (List Str) => [.val ((rL M.K rS) t.1), .val ((rL M.K (rT2 M.K rS rI)) t.2.1), .own (oD fr v_s_2), .no, .no]) (s0 := (v_seen_1)) (EvI.list (Ev.nameP (i := 1) rfl rfl rfl rfl)) (EvG.tup2 (i := 3) (j := 4) rfl rfl (stoOf rfl) (stoOf rfl)) (.cons .rf (.cons .rf (.cons .rf (.cons .no (.cons .no .nil))))) (fun v_s_2 v_x_3 => ?_)) (fun v_s_2 => ?_)
  ·
    refine Ex.ifx (EvW.t (EvW.or (EvT.cmp (Ev.notInSL (Ev.nameP (i := 3) rfl rfl rfl rfl) (Ev.nameP (i := 0) rfl rfl rfl rfl))) (EvW.or1 (EvT.cmp (Ev.inD (i := 2) rfl rfl rfl rfl (Ev.nameP (i := 3) rfl rfl rfl rfl)))))) ?_ ?_
    ·
      exact Ex.bad
    refine Ex.setKey (i := 2) rfl rfl rfl (Ev.nameP (i := 3) rfl rfl rfl rfl) (fun u9 => ?_) (by decide) (hpg := fun X hu h => pg_sub h pe_W (set_dict hu) (fun _ => rfl))
    refine Ex.ifx (EvW.t (EvW.or (EvT.not (EvT.val (Ev.isiP (K := M.K) (hK := rfl) (ρ := rI) true (bt_isinstance rfl b_isinstance) (bt_int rfl b_int) (by decide +kernel) (Ev.nameP (i := 4) rfl rfl rfl rfl) (fun _ _ => rfl)))) (EvW.or (EvT.val (Ev.isiP (K := M.K) (hK := rfl) (ρ := rI) false (bt_isinstance rfl b_isinstance) (bt_bool rfl b_bool) (by decide +kernel) (Ev.nameP (i := 4) rfl rfl rfl rfl) (fun _ _ => rfl))) (EvW.or1 (EvT.cmp (Ev.ltP (Ev.nameP (i := 4) rfl rfl rfl rfl) Ev.int)))))) ?_ ?_
    ·
      exact Ex.bad
    exact Ex.nilLp rfl (.cons .rf (.cons .rf (.cons .rf (.cons .no (.cons .no .nil)))))
  show Ex _ _ _ _ _
  exact Ex.nilFt rfl

def m_Yard___init___b1 (t : (List Str) × (List (Str × (List (Str × Int)) × (List (Str × Int)))) × Unit) (v_s_6 : ((List Str))) (v_x_7 : (Str × (List (Str × Int)) × (List (Str × Int)))) : W ((List Str)) :=
  (((((pure v_x_7.1) >>= fun u8 => m_is_name (u8, ())) >>= fun u9 => pure (!u9)) >>= fun u11 => if u11 = true then pure true else ((pure v_x_7.1) >>= fun u10 => pure (decide (u10 ∈ v_s_6)))) >>= fun u12 => if u12 = true then W.bad else ((pure v_x_7.1) >>= fun u13 => W.req (v_s_6.length ≤ 1000000) ((((pure t.1) >>= fun u14 => (pure v_x_7.2.1) >>= fun u15 => m_take_amounts (u14, u15, ())) >>= fun u16 => (((pure t.1) >>= fun u17 => (pure v_x_7.2.2) >>= fun u18 => m_take_amounts (u17, u18, ())) >>= fun u19 => (pure ((addK v_s_6 u13))))))))
def m_Yard___init___j2 (t : (List Str) × (List (Str × (List (Str × Int)) × (List (Str × Int)))) × Unit) : W YardV :=
  ((pure t.1) >>= fun v_told_goods_20 => (((pure t.2.1) >>= fun xs => W.noX (compM (fun v_x_21 => pure true) (fun v_x_21 => ((pure v_x_21.1) >>= fun u22 => ((pure v_x_21.2.1) >>= fun u23 => ((pure v_x_21.2.2) >>= fun u24 => (pure (u22, u23, u24)))))) xs)) >>= fun v_told_works_25 => (pure (v_told_goods_20, v_told_works_25))))
def m_Yard___init__ (t : (List Str) × (List (Str × (List (Str × Int)) × (List (Str × Int)))) × Unit) : W YardV :=
  (((pure (decide ((10 : Int) < (t.1.length : Int)))) >>= fun u1 => if u1 = true then pure true else (pure (decide ((10 : Int) < (t.2.1.length : Int))))) >>= fun u2 => if u2 = true then W.bad else (((pure t.1) >>= fun u3 => m_take_names (u3, ())) >>= fun u4 => ((pure ([] : List Str)) >>= fun v_seen_5 => (((pure t.2.1) >>= fun xs => W.foldM (fun (v_s_6 : (List Str)) (v_x_7 : (Str × (List (Str × Int)) × (List (Str × Int)))) => (m_Yard___init___b1 t v_s_6 v_x_7)) (v_seen_5) xs) >>= fun v_s_6 => (m_Yard___init___j2 t)))))
theorem w_Yard___init__ {M : Mc} {cY : Addr} (cC : Cls M.K cY) (nA_told_goods : NoAttr M.K cY "told_goods") (nA_told_works : NoAttr M.K cY "told_works") (b_len : M.mg "len" = none) (b_list : M.mg "list" = none) (h_take_names : FnV M "take_names" 2 1 (fun (fr : Addr → Prop) (t : (List Str) × Unit) => [(rL M.K rS) t.1]) (fun fr => rU) m_take_names) (h_is_name : FnV M "is_name" 1 1 (fun (fr : Addr → Prop) (t : Str × Unit) => [rS t.1]) (fun fr => rB) m_is_name) (h_take_amounts : FnV M "take_amounts" 1 2 (fun (fr : Addr → Prop) (t : (List Str) × (List (Str × Int)) × Unit) => [(rL M.K rS) t.1, (rL M.K (rT2 M.K rS rI)) t.2.1]) (fun fr => rU) m_take_amounts) (g_MOST : ∃ k, M.mg "MOST" = some (.int (10 : Int) k)) {f : Addr} {fd : FuncData} (F : Fun M.K "__init__" "Yard.__init__" (inClass (top 13) 0) f fd) (hM : Mk M.K cY f) (hmg : M.mg "Yard" = some (.ref cY)) (hb : Binds M.K fd ["self", "goods", "works"] []) : MakVN M "Yard" cY 3 2 (fun (fr : Addr → Prop) (t : (List Str) × (List (Str × (List (Str × Int)) × (List (Str × Int)))) × Unit) => [(rL M.K rS) t.1, (rL M.K (rT3 M.K rS (rL M.K (rT2 M.K rS rI)) (rL M.K (rT2 M.K rS rI)))) t.2.1]) (flYN M.K) m_Yard___init__ := by
  refine MakVN.ofBody (N := ["self", "goods", "works", "seen", "name", "uses", "makes"]) F hM hmg hb (⟨rfl, rfl, rfl, by decide +kernel, rfl, by decide +kernel, by decide +kernel⟩ : FnScope ["self", "goods", "works", "seen", "name", "uses", "makes"] ["self", "goods", "works"] _) rfl (fun _ _ => rfl) (fun fr p dx t y => [.own (oIns cY p dx (flYN M.K fr y)), .no, .no, .no, .no, .no, .no]) (fun _ _ _ _ _ => rfl) (fun fr p dx t => ?_)
  refine Ex.ifx (EvW.t (EvW.or (EvT.cmp (Ev.gtP (Ev.lenLP (bt_len rfl b_len) (Ev.nameP (i := 1) rfl rfl rfl rfl) (fun _ _ => rfl)) (Ev.globI rfl g_MOST))) (EvW.or1 (EvT.cmp (Ev.gtP (Ev.lenLP (bt_len rfl b_len) (Ev.nameP (i := 2) rfl rfl rfl rfl) (fun _ _ => rfl)) (Ev.globI rfl g_MOST)))))) ?_ ?_
  ·
    exact Ex.bad
  refine Ex.expr (ρ := rU) (Ev.call1 (hd := rfl) (ρ := fun fr => rU) (mf := m_take_names) (ra := fun fr => (rL M.K rS)) h_take_names (Nat.le_of_ble_eq_true rfl) rfl (Ev.nameP (i := 1) rfl rfl rfl rfl) (fun _ _ => rfl)) (fun u4 => ?_)
  refine Ex.setO (i := 3) (O := oD fr) rfl (stoOf rfl) EvO.dict0 (fun v_seen_5 => ?_)
  refine Ex.seq (J1 := fun v_s_6 : (List Str) => .nx [.own (oIns cY p dx []), .val ((rL M.K rS) t.1), .val ((rL M.K (rT3 M.K rS (rL M.K (rT2 M.K rS rI)) (rL M.K (rT2 M.K rS rI)))) t.2.1), .own (oD fr v_s_6), .no, .no, .no]) (Ex1.for (fun v_s_6 : (List Str) => [.own (oIns cY p dx []), .val ((rL M.K rS) t.1), .val ((rL M.K (rT3 M.K rS (rL M.K (rT2 M.K rS rI)) (rL M.K (rT2 M.K rS rI)))) t.2.1), .own (oD fr v_s_6), .no, .no, .no]) (s0 := (v_seen_5)) (EvI.list (Ev.nameP (i := 2) rfl rfl rfl rfl)) (EvG.tup3 (i := 4) (j := 5) (l := 6) rfl rfl rfl (stoOf rfl) (stoOf rfl) (stoOf rfl)) (.cons .rf (.cons .rf (.cons .rf (.cons .rf (.cons .no (.cons .no (.cons .no .nil))))))) (fun v_s_6 v_x_7 => ?_)) (fun v_s_6 => ?_)
  ·
    refine Ex.ifx (EvW.t (EvW.or (EvT.not (EvT.val (Ev.call1 (hd := rfl) (ρ := fun fr => rB) (mf := m_is_name) (ra := fun fr => rS) h_is_name (Nat.le_of_ble_eq_true rfl) rfl (Ev.nameP (i := 4) rfl rfl rfl rfl) (fun _ _ => rfl)))) (EvW.or1 (EvT.cmp (Ev.inD (i := 3) rfl rfl rfl rfl (Ev.nameP (i := 4) rfl rfl rfl rfl)))))) ?_ ?_
    ·
      exact Ex.bad
    refine Ex.setKey (i := 3) rfl rfl rfl (Ev.nameP (i := 4) rfl rfl rfl rfl) (fun u13 => ?_) (by decide) (hpg := fun X hu h => pg_sub h pe_W (set_dict hu) (fun _ => rfl))
    refine Ex.expr (ρ := rU) (Ev.call2 (hd := rfl) (ρ := fun fr => rU) (mf := m_take_amounts) (ra := fun fr => (rL M.K rS)) (rb := fun fr => (rL M.K (rT2 M.K rS rI))) h_take_amounts (Nat.le_of_ble_eq_true rfl) rfl (Ev.nameP (i := 1) rfl rfl rfl rfl) (Ev.nameP (i := 5) rfl rfl rfl rfl) (fun _ _ => rfl) (fun _ _ => rfl)) (fun u16 => ?_)
    refine Ex.expr (ρ := rU) (Ev.call2 (hd := rfl) (ρ := fun fr => rU) (mf := m_take_amounts) (ra := fun fr => (rL M.K rS)) (rb := fun fr => (rL M.K (rT2 M.K rS rI))) h_take_amounts (Nat.le_of_ble_eq_true rfl) rfl (Ev.nameP (i := 1) rfl rfl rfl rfl) (Ev.nameP (i := 6) rfl rfl rfl rfl) (fun _ _ => rfl) (fun _ _ => rfl)) (fun u19 => ?_)
    exact Ex.nilLp rfl (.cons .rf (.cons .rf (.cons .rf (.cons .rf (.cons .no (.cons .no (.cons .no .nil)))))))
  show Ex _ _ _ _ _
  refine Ex.fldSet (i := 0) (A := cY) (a := p) (dx := dx) (r := (rN fr rS)) rfl rfl rfl rfl cC nA_told_goods rfl (Nat.le_of_ble_eq_true rfl) (EvO.list (EvO.listOf (bt_list rfl b_list) (Ev.nameP (i := 1) rfl rfl rfl rfl) (fun _ _ => rfl))) (fun v_told_goods_20 => ?_)
  refine Ex.fldSet (i := 0) (A := cY) (a := p) (dx := dx) (r := (rN fr (rT3 M.K rS (rN fr (rT2 M.K rS rI)) (rN fr (rT2 M.K rS rI))))) rfl rfl rfl rfl cC nA_told_works rfl (Nat.le_of_ble_eq_true rfl) (EvO.list (EvO.comp (LcOk.three (i := 4) (j := 5) (l := 6) rfl rfl rfl rfl (stoOf rfl) (stoOf rfl) (stoOf rfl) (by decide) (by decide) (by decide) (fun _ h => nomatch h) (fun _ h => nomatch h) (fun _ h => nomatch h)) (EvI.list (Ev.nameP (i := 2) rfl rfl rfl rfl)) (fun v_x_21 => EvTs.nil) (fun v_x_21 => (Ev.sub (subXT3 subR subR subR) (Ev.tupX3 (Ev.nameP (i := 4) rfl rfl rfl rfl) (EvO.list (EvO.listOf (bt_list rfl b_list) (Ev.nameP (i := 5) rfl rfl rfl rfl) (fun _ _ => rfl))) (EvO.list (EvO.listOf (bt_list rfl b_list) (Ev.nameP (i := 6) rfl rfl rfl rfl) (fun _ _ => rfl))) (fun _ _ => rfl) (fun _ _ => rfl) (fun _ _ => rfl)))))) (fun v_told_works_25 => ?_)
  exact Ex.nil rfl (.cons .rf (.cons .no (.cons .no (.cons .no (.cons .no (.cons .no (.cons .no .nil)))))))

def m_Yard_goods (t : YardV × Unit) : W (List Str) :=
  ((pure t.1.1) >>= fun u1 => pure u1)
theorem w_Yard_goods {M : Mc} {cY : Addr} (cC : Cls M.K cY) (nA_told_goods : NoAttr M.K cY "told_goods") (b_list : M.mg "list" = none) {f : Addr} {fd : FuncData} (F : Fun M.K "goods" "Yard.goods" (inClass (top 13) 1) f fd) (hM : Meth M.K cY "goods" f) (hb : Binds M.K fd ["self"] []) : MetV M cY "goods" 1 1 (fun (fr : Addr → Prop) (t : YardV × Unit) => [(rIns cY (flY M.K)) t.1]) (fun fr => (rN fr rS)) m_Yard_goods := by
  refine MetV.ofBody (N := ["self"]) F hM hb (⟨rfl, rfl, rfl, by decide +kernel, rfl, by decide +kernel, by decide +kernel⟩ : FnScope ["self"] ["self"] _) rfl (fun _ _ => rfl) (fun fr t => ?_)
  exact Ex.ret (ρ := (rN fr rS)) (fun u1 => u1) (fun _ => rfl) (EvO.list (EvO.listOf (bt_list rfl b_list) (Ev.fldP (A := cY) (fl := flY M.K) (g0 := (fun x => x.1)) (r := (rL M.K rS)) cC nA_told_goods (fun _ => rfl) (Ev.nameP (i := 0) rfl rfl rfl rfl)) (fun _ _ => rfl)))

def m_Yard_works (t : YardV × Unit) : W (List (Str × (List (Str × Int)) × (List (Str × Int)))) :=
  (((pure t.1.2) >>= fun xs => W.noX (compM (fun v_x_1 => pure true) (fun v_x_1 => ((pure v_x_1.1) >>= fun u2 => ((pure v_x_1.2.1) >>= fun u3 => ((pure v_x_1.2.2) >>= fun u4 => (pure (u2, u3, u4)))))) xs)) >>= fun u5 => pure u5)
theorem w_Yard_works {M : Mc} {cY : Addr} (cC : Cls M.K cY) (nA_told_works : NoAttr M.K cY "told_works") (b_list : M.mg "list" = none) {f : Addr} {fd : FuncData} (F : Fun M.K "works" "Yard.works" (inClass (top 13) 2) f fd) (hM : Meth M.K cY "works" f) (hb : Binds M.K fd ["self"] []) : MetV M cY "works" 1 1 (fun (fr : Addr → Prop) (t : YardV × Unit) => [(rIns cY (flY M.K)) t.1]) (fun fr => (rN fr (rX3 fr rS (rN fr (rT2 M.K rS rI)) (rN fr (rT2 M.K rS rI))))) m_Yard_works := by
  refine MetV.ofBody (N := ["self", "name", "uses", "makes"]) F hM hb (⟨rfl, rfl, rfl, by decide +kernel, rfl, by decide +kernel, by decide +kernel⟩ : FnScope ["self", "name", "uses", "makes"] ["self"] _) rfl (fun _ _ => rfl) (fun fr t => ?_)
  exact Ex.ret (ρ := (rN fr (rX3 fr rS (rN fr (rT2 M.K rS rI)) (rN fr (rT2 M.K rS rI))))) (fun u5 => u5) (fun _ => rfl) (EvO.list (EvO.comp (LcOk.three (i := 1) (j := 2) (l := 3) rfl rfl rfl rfl (stoOf rfl) (stoOf rfl) (stoOf rfl) (by decide) (by decide) (by decide) (fun _ h => nomatch h) (fun _ h => nomatch h) (fun _ h => nomatch h)) (EvI.list (Ev.fldP (A := cY) (fl := flY M.K) (g0 := (fun x => x.2)) (r := (rL M.K (rT3 M.K rS (rL M.K (rT2 M.K rS rI)) (rL M.K (rT2 M.K rS rI))))) cC nA_told_works (fun _ => rfl) (Ev.nameP (i := 0) rfl rfl rfl rfl))) (fun v_x_1 => EvTs.nil) (fun v_x_1 => (Ev.tupX3 (Ev.nameP (i := 1) rfl rfl rfl rfl) (EvO.list (EvO.listOf (bt_list rfl b_list) (Ev.nameP (i := 2) rfl rfl rfl rfl) (fun _ _ => rfl))) (EvO.list (EvO.listOf (bt_list rfl b_list) (Ev.nameP (i := 3) rfl rfl rfl rfl) (fun _ _ => rfl))) (fun _ _ => rfl) (fun _ _ => rfl) (fun _ _ => rfl)))))

def m_Yard_names (t : YardV × Unit) : W (List Str) :=
  (((pure t.1.2) >>= fun xs => W.noX (compM (fun v_x_1 => pure true) (fun v_x_1 => (pure v_x_1.1)) xs)) >>= fun u2 => pure u2)
theorem w_Yard_names {M : Mc} {cY : Addr} (cC : Cls M.K cY) (nA_told_works : NoAttr M.K cY "told_works") {f : Addr} {fd : FuncData} (F : Fun M.K "names" "Yard.names" (inClass (top 13) 3) f fd) (hM : Meth M.K cY "names" f) (hb : Binds M.K fd ["self"] []) : MetV M cY "names" 1 1 (fun (fr : Addr → Prop) (t : YardV × Unit) => [(rIns cY (flY M.K)) t.1]) (fun fr => (rN fr rS)) m_Yard_names := by
  refine MetV.ofBody (N := ["self", "told"]) F hM hb (⟨rfl, rfl, rfl, by decide +kernel, rfl, by decide +kernel, by decide +kernel⟩ : FnScope ["self", "told"] ["self"] _) rfl (fun _ _ => rfl) (fun fr t => ?_)
  exact Ex.ret (ρ := (rN fr rS)) (fun u2 => u2) (fun _ => rfl) (EvO.list (EvO.comp (LcOk.one (i := 1) (r := (rT3 M.K rS (rL M.K (rT2 M.K rS rI)) (rL M.K (rT2 M.K rS rI)))) rfl rfl (stoOf rfl) (fun _ h => nomatch h)) (EvI.list (Ev.fldP (A := cY) (fl := flY M.K) (g0 := (fun x => x.2)) (r := (rL M.K (rT3 M.K rS (rL M.K (rT2 M.K rS rI)) (rL M.K (rT2 M.K rS rI))))) cC nA_told_works (fun _ => rfl) (Ev.nameP (i := 0) rfl rfl rfl rfl))) (fun v_x_1 => EvTs.nil) (fun v_x_1 => (Ev.ixT3_0P (Ev.nameP (i := 1) rfl rfl rfl rfl)))))

def m__law_cell (t : (List Int) × Int × Unit) : W Int :=
  ((pure (decide (t.2.1 < (t.1.length : Int)))) >>= fun u1 => if u1 = true then ((idx t.1 t.2.1) >>= fun u2 => pure u2) else ((pure (0 : Int)) >>= fun u3 => pure u3))
theorem w__law_cell {M : Mc} (b_len : M.mg "len" = none) (F : FunM M "_law_cell" (top 15) ["_law_script", "_law_k"]) : FnV M "_law_cell" 1 2 (fun (fr : Addr → Prop) (t : (List Int) × Int × Unit) => [(rL M.K rI) t.1, rI t.2.1]) (fun fr => rI) m__law_cell := by
  refine FnV.ofBody (N := ["_law_script", "_law_k"]) F (⟨rfl, rfl, rfl, by decide +kernel, rfl, by decide +kernel, by decide +kernel⟩ : FnScope ["_law_script", "_law_k"] ["_law_script", "_law_k"] _) rfl (fun _ _ => rfl) (fun fr t => ?_)
  refine Ex.ifx (EvT.cmp (Ev.ltP (Ev.nameP (i := 1) rfl rfl rfl rfl) (Ev.lenLP (bt_len rfl b_len) (Ev.nameP (i := 0) rfl rfl rfl rfl) (fun _ _ => rfl)))) ?_ ?_
  ·
    exact Ex.ret (ρ := rI) (fun u2 => u2) (fun _ => rfl) (Ev.ixLP (Ev.nameP (i := 0) rfl rfl rfl rfl) (Ev.nameP (i := 1) rfl rfl rfl rfl))
  exact Ex.ret (ρ := rI) (fun u3 => u3) (fun _ => rfl) Ev.int

def m__law_next (t : Int × Int × Unit) : W Int :=
  ((pure (decide ((2147483648 : Int) ≤ t.1))) >>= fun u1 => if u1 = true then ((divI t.1 (1890 : Int)) >>= fun u2 => pure u2) else ((((((pure t.1) >>= fun u5 => ((pure (48271 : Int)) >>= fun u3 => (mulI (21350 : Int) t.2.1) >>= fun u4 => pure (u3 + u4)) >>= fun u6 => mulI u5 u6) >>= fun u7 => (pure (12345 : Int)) >>= fun u8 => pure (u7 + u8)) >>= fun u9 => (pure t.2.1) >>= fun u10 => pure (u9 + u10)) >>= fun u11 => (pure (2147483647 : Int)) >>= fun u12 => modI u11 u12) >>= fun v_stirred_13 => (((mulI v_stirred_13 (16807 : Int)) >>= fun u14 => (pure (2147483629 : Int)) >>= fun u15 => modI u14 u15) >>= fun u16 => pure u16)))
theorem w__law_next {M : Mc} (F : FunM M "_law_next" (top 16) ["_law_cell_here", "_law_k"]) : FnV M "_law_next" 1 2 (fun (fr : Addr → Prop) (t : Int × Int × Unit) => [rI t.1, rI t.2.1]) (fun fr => rI) m__law_next := by
  refine FnV.ofBody (N := ["_law_cell_here", "_law_k", "_law_stirred"]) F (⟨rfl, rfl, rfl, by decide +kernel, rfl, by decide +kernel, by decide +kernel⟩ : FnScope ["_law_cell_here", "_law_k", "_law_stirred"] ["_law_cell_here", "_law_k"] _) rfl (fun _ _ => rfl) (fun fr t => ?_)
  refine Ex.ifx (EvT.cmp (Ev.geP (Ev.nameP (i := 0) rfl rfl rfl rfl) (Ev.powW (2147483648 : Int) Ev.int Ev.int ⟨by decide, by decide, by decide⟩ (by decide)))) ?_ ?_
  ·
    exact Ex.ret (ρ := rI) (fun u2 => u2) (fun _ => rfl) (Ev.divP (Ev.nameP (i := 0) rfl rfl rfl rfl) Ev.int)
  refine Ex.set (i := 2) (ρ := rI) rfl (stoOf rfl) (Ev.mod (Ev.add (Ev.add (Ev.mul (Ev.nameP (i := 0) rfl rfl rfl rfl) (Ev.add Ev.int (Ev.mulP Ev.int (Ev.nameP (i := 1) rfl rfl rfl rfl)))) Ev.int) (Ev.nameP (i := 1) rfl rfl rfl rfl)) Ev.int) (fun v_stirred_13 => ?_)
  exact Ex.ret (ρ := rI) (fun u16 => u16) (fun _ => rfl) (Ev.mod (Ev.mulP (Ev.nameP (i := 2) rfl rfl rfl rfl) Ev.int) Ev.int)

def m__law_words_b1 (t : Int × Int × Unit) (v_letters_1 : Str) (v_s_7 : (Str)) (v_x_8 : Int) : W (Str) :=
  (((pure v_s_7) >>= fun u17 => ((pure v_letters_1) >>= fun u15 => (((divI t.1 (6 : Int)) >>= fun u11 => ((pure v_x_8) >>= fun u9 => (divI t.1 (156 : Int)) >>= fun u10 => mulI u9 u10) >>= fun u12 => pure (u11 + u12)) >>= fun u13 => (pure (26 : Int)) >>= fun u14 => modI u13 u14) >>= fun u16 => idxS u15 u16) >>= fun u18 => catS u17 u18) >>= fun v_word_19 => (pure (v_word_19)))
def m__law_words_j2 (v_s_25 : ((List Str))) (v_o_53 : (Str)) : W ((List Str)) :=
  ((pure v_o_53) >>= fun u67 => W.req (v_s_25.length ≤ 1000000) ((pure ((v_s_25 ++ [u67])))))
def m__law_words_b3 (t : Int × Int × Unit) (v_letters_1 : Str) (v_s_7 : (Str)) (v_at_22 : Int) (v_s_25 : ((List Str))) (v_x_26 : Int) : W ((List Str)) :=
  (((pure v_letters_1) >>= fun u33 => ((((divI t.1 (6 : Int)) >>= fun u27 => (mulI (3 : Int) v_x_26) >>= fun u28 => pure (u27 + u28)) >>= fun u29 => (pure (1 : Int)) >>= fun u30 => pure (u29 + u30)) >>= fun u31 => (pure (26 : Int)) >>= fun u32 => modI u31 u32) >>= fun u34 => idxS u33 u34) >>= fun v_sign_35 => (((((pure v_s_7) >>= fun u37 => (pure none) >>= fun u38 => ((pure v_at_22) >>= fun u36 => pure (some u36)) >>= fun u39 => cutW u37 u38 u39) >>= fun u40 => (pure v_sign_35) >>= fun u41 => catS u40 u41) >>= fun u46 => ((pure v_s_7) >>= fun u43 => ((pure (v_at_22 + (1 : Int))) >>= fun u42 => pure (some u42)) >>= fun u44 => (pure none) >>= fun u45 => cutW u43 u44 u45) >>= fun u47 => catS u46 u47) >>= fun v_name_48 => (((((divI t.1 (5 : Int)) >>= fun u49 => (pure (3 : Int)) >>= fun u50 => modI u49 u50) >>= fun u51 => (pure (1 : Int)) >>= fun u52 => pure (decide (u51 = u52))) >>= fun u54 => if u54 = true then ((((pure v_s_7) >>= fun u59 => (((pure v_s_7) >>= fun u56 => (pure none) >>= fun u57 => ((pure (-(1 : Int))) >>= fun u55 => pure (some u55)) >>= fun u58 => cutW u56 u57 u58) >>= fun u60 => ((catS v_s_7 v_sign_35) >>= fun u61 => (pure [u59, u60, u61])))) >>= fun u64 => ((pure v_x_26) >>= fun u62 => (pure (2 : Int)) >>= fun u63 => pure (if u63 < u62 then u63 else u62)) >>= fun u65 => idx u64 u65) >>= fun v_name_66 => (pure (v_name_66))) else (pure (v_name_48))) >>= fun v_o_53 : Str => (m__law_words_j2 v_s_25 v_o_53))))
def m__law_words_j4 (t : Int × Int × Unit) (v_letters_1 : Str) (v_size_4 : Int) (v_s_7 : (Str)) : W (List Str) :=
  (((divI t.1 (2 : Int)) >>= fun u20 => (pure v_size_4) >>= fun u21 => modI u20 u21) >>= fun v_at_22 => ((pure []) >>= fun v_made_23 => ((((pure t.2.1) >>= fun u24 => rangeW 0 u24) >>= fun xs => W.foldM (fun (v_s_25 : (List Str)) (v_x_26 : Int) => (m__law_words_b3 t v_letters_1 v_s_7 v_at_22 v_s_25 v_x_26)) (v_made_23) xs) >>= fun v_s_25 => ((pure v_s_25) >>= fun u69 => pure u69))))
def m__law_words (t : Int × Int × Unit) : W (List Str) :=
  ((pure ("abcdefghijklmnopqrstuvwxyz" : Str)) >>= fun v_letters_1 => (((pure (2 : Int)) >>= fun u2 => (modI t.1 (6 : Int)) >>= fun u3 => pure (u2 + u3)) >>= fun v_size_4 => ((pure ("" : Str)) >>= fun v_word_5 => ((((pure v_size_4) >>= fun u6 => rangeW 0 u6) >>= fun xs => W.foldM (fun (v_s_7 : Str) (v_x_8 : Int) => (m__law_words_b1 t v_letters_1 v_s_7 v_x_8)) (v_word_5) xs) >>= fun v_s_7 => (m__law_words_j4 t v_letters_1 v_size_4 v_s_7)))))
theorem w__law_words {M : Mc} (b_range : M.mg "range" = none) (b_min : M.mg "min" = none) (F : FunM M "_law_words" (top 17) ["_law_cell_here", "_law_many"]) : FnV M "_law_words" 1 2 (fun (fr : Addr → Prop) (t : Int × Int × Unit) => [rI t.1, rI t.2.1]) (fun fr => (rN fr rS)) m__law_words := by
  refine FnV.ofBody (N := ["_law_cell_here", "_law_many", "_law_letters", "_law_size", "_law_word", "_law_k", "_law_at", "_law_made", "_law_sign", "_law_name"]) F (⟨rfl, rfl, rfl, by decide +kernel, rfl, by decide +kernel, by decide +kernel⟩ : FnScope ["_law_cell_here", "_law_many", "_law_letters", "_law_size", "_law_word", "_law_k", "_law_at", "_law_made", "_law_sign", "_law_name"] ["_law_cell_here", "_law_many"] _) rfl (fun _ _ => rfl) (fun fr t => ?_)
  refine Ex.set (i := 2) (ρ := rS) rfl (stoOf rfl) Ev.str (fun v_letters_1 => ?_)
  refine Ex.set (i := 3) (ρ := rI) rfl (stoOf rfl) (Ev.add Ev.int (Ev.modP (Ev.nameP (i := 0) rfl rfl rfl rfl) Ev.int)) (fun v_size_4 => ?_)
  refine Ex.set (i := 4) (ρ := rS) rfl (stoOf rfl) Ev.str (fun v_word_5 => ?_)
  refine Ex.seq (J1 := fun v_s_7 : Str => .nx [.val (rI t.1), .val (rI t.2.1), .val (rS v_letters_1), .val (rI v_size_4), .val (rS v_s_7), .no, .no, .no, .no, .no]) (Ex1.for (fun v_s_7 : Str => [.val (rI t.1), .val (rI t.2.1), .val (rS v_letters_1), .val (rI v_size_4), .val (rS v_s_7), .no, .no, .no, .no, .no]) (s0 := (v_word_5)) (EvI.range1 (bt_range rfl b_range) (Ev.nameP (i := 3) rfl rfl rfl rfl) (fun _ _ => rfl)) (EvG.name (i := 5) (r := rI) rfl (stoOf rfl)) (.cons .rf (.cons .rf (.cons .rf (.cons .rf (.cons .rf (.cons .no (.cons .no (.cons .no (.cons .no (.cons .no .nil)))))))))) (fun v_s_7 v_x_8 => ?_)) (fun v_s_7 => ?_)
  ·
    refine Ex.set (i := 4) (ρ := rS) rfl (stoOf rfl) (Ev.cat (Ev.nameP (i := 4) rfl rfl rfl rfl) (Ev.ixS (Ev.nameP (i := 2) rfl rfl rfl rfl) (Ev.mod (Ev.add (Ev.divP (Ev.nameP (i := 0) rfl rfl rfl rfl) Ev.int) (Ev.mul (Ev.nameP (i := 5) rfl rfl rfl rfl) (Ev.divP (Ev.nameP (i := 0) rfl rfl rfl rfl) Ev.int))) Ev.int))) (fun v_word_19 => ?_)
    exact Ex.nilLp rfl (.cons .rf (.cons .rf (.cons .rf (.cons .rf (.cons .rf (.cons .no (.cons .no (.cons .no (.cons .no (.cons .no .nil))))))))))
  show Ex _ _ _ _ _
  refine Ex.set (i := 6) (ρ := rI) rfl (stoOf rfl) (Ev.mod (Ev.divP (Ev.nameP (i := 0) rfl rfl rfl rfl) Ev.int) (Ev.nameP (i := 3) rfl rfl rfl rfl)) (fun v_at_22 => ?_)
  refine Ex.setO (i := 7) (O := oL fr rS) rfl (stoOf rfl) EvO.nil (fun v_made_23 => ?_)
  refine Ex.seq (J1 := fun v_s_25 : (List Str) => .nx [.val (rI t.1), .val (rI t.2.1), .val (rS v_letters_1), .val (rI v_size_4), .val (rS v_s_7), .no, .val (rI v_at_22), .own (oL fr rS v_s_25), .no, .no]) (Ex1.for (fun v_s_25 : (List Str) => [.val (rI t.1), .val (rI t.2.1), .val (rS v_letters_1), .val (rI v_size_4), .val (rS v_s_7), .no, .val (rI v_at_22), .own (oL fr rS v_s_25), .no, .no]) (s0 := (v_made_23)) (EvI.range1 (bt_range rfl b_range) (Ev.nameP (i := 1) rfl rfl rfl rfl) (fun _ _ => rfl)) (EvG.name (i := 5) (r := rI) rfl (stoOf rfl)) (.cons .rf (.cons .rf (.cons .rf (.cons .rf (.cons .rf (.cons .no (.cons .rf (.cons .rf (.cons .no (.cons .no .nil)))))))))) (fun v_s_25 v_x_26 => ?_)) (fun v_s_25 => ?_)
  ·
    refine Ex.set (i := 8) (ρ := rS) rfl (stoOf rfl) (Ev.ixS (Ev.nameP (i := 2) rfl rfl rfl rfl) (Ev.mod (Ev.add (Ev.add (Ev.divP (Ev.nameP (i := 0) rfl rfl rfl rfl) Ev.int) (Ev.mulP Ev.int (Ev.nameP (i := 5) rfl rfl rfl rfl))) Ev.int) Ev.int)) (fun v_sign_35 => ?_)
    refine Ex.set (i := 9) (ρ := rS) rfl (stoOf rfl) (Ev.cat (Ev.cat (Ev.sliceS (Ev.nameP (i := 4) rfl rfl rfl rfl) EvP.none (EvP.some (Ev.nameP (i := 6) rfl rfl rfl rfl))) (Ev.nameP (i := 8) rfl rfl rfl rfl)) (Ev.sliceS (Ev.nameP (i := 4) rfl rfl rfl rfl) (EvP.some (Ev.addP (Ev.nameP (i := 6) rfl rfl rfl rfl) Ev.int)) EvP.none)) (fun v_name_48 => ?_)
    refine Ex.seq (J1 := fun v_o_53 : Str => .nx [.val (rI t.1), .val (rI t.2.1), .val (rS v_letters_1), .val (rI v_size_4), .val (rS v_s_7), .val (rI v_x_26), .val (rI v_at_22), .own (oL fr rS v_s_25), .val (rS v_sign_35), .val (rS v_o_53)]) (Ex1.ite (EvT.cmp (Ev.eqI (Ev.mod (Ev.divP (Ev.nameP (i := 0) rfl rfl rfl rfl) Ev.int) Ev.int) Ev.int)) ?_ ?_) (fun v_o_53 => ?_)
    ·
      refine Ex.set (i := 9) (ρ := rS) rfl (stoOf rfl) (Ev.ixL (Ev.sub (subNL subR) (EvO.list (EvO.list3 (Ev.nameP (i := 4) rfl rfl rfl rfl) (Ev.sliceS (Ev.nameP (i := 4) rfl rfl rfl rfl) EvP.none (EvP.some (Ev.negP Ev.int))) (Ev.catP (Ev.nameP (i := 4) rfl rfl rfl rfl) (Ev.nameP (i := 8) rfl rfl rfl rfl)) (fun _ _ => rfl) (fun _ _ => rfl) (fun _ _ => rfl)))) (Ev.min2 (bt_min rfl b_min) (Ev.nameP (i := 5) rfl rfl rfl rfl) Ev.int (fun _ _ => rfl) (fun _ _ => rfl))) (fun v_name_66 => ?_)
      exact Ex.nil rfl (.cons .rf (.cons .rf (.cons .rf (.cons .rf (.cons .rf (.cons .rf (.cons .rf (.cons .rf (.cons .rf (.cons .rf .nil))))))))))
    ·
      exact Ex.nil rfl (.cons .rf (.cons .rf (.cons .rf (.cons .rf (.cons .rf (.cons .rf (.cons .rf (.cons .rf (.cons .rf (.cons .rf .nil))))))))))
    show Ex _ _ _ _ _
    refine Ex.append (i := 7) (r := rS) rfl (visOf rfl) rfl (Ev.nameP (i := 9) rfl rfl rfl rfl) (fun _ _ => rfl) (fun u67 => ?_)
    exact Ex.nilLp rfl (.cons .rf (.cons .rf (.cons .rf (.cons .rf (.cons .rf (.cons .no (.cons .rf (.cons .rf (.cons .no (.cons .no .nil))))))))))
  show Ex _ _ _ _ _
  refine Ex.freeze (i := 7) rfl ?_
  show Ex _ [.val (rI t.1), .val (rI t.2.1), .val (rS v_letters_1), .val (rI v_size_4), .val (rS v_s_7), .no, .val (rI v_at_22), .val ((rN fr rS) v_s_25), .no, .no] _ _ _
  exact Ex.ret (ρ := (rN fr rS)) (fun u69 => u69) (fun _ => rfl) (Ev.nameP (i := 7) rfl rfl rfl rfl)

def m__law_work_j1 (v_s_4 : (Int × (List (Str × Int)) × (List (Str × Int)))) (v_x_5 : (Int × Str)) (v_cell_here_8 : Int) (v_o_34 : (Int)) (v_o_46 : ((List (Str × Int)))) : W (Int × (List (Str × Int)) × (List (Str × Int))) :=
  ((((((modI v_cell_here_8 (7 : Int)) >>= fun u50 => (pure (2 : Int)) >>= fun u51 => pure (decide (u51 < u50))) >>= fun u54 => if u54 = true then ((modI v_cell_here_8 (7 : Int)) >>= fun u52 => (pure (5 : Int)) >>= fun u53 => pure (decide (u52 < u53))) else pure false) >>= fun u57 => if u57 = true then pure true else ((modI v_cell_here_8 (7 : Int)) >>= fun u55 => (pure (6 : Int)) >>= fun u56 => pure (decide (u55 = u56)))) >>= fun u59 => if u59 = true then ((pure (v_x_5.2, v_o_34)) >>= fun u60 => W.req (v_s_4.2.2.length ≤ 1000000) ((pure ((v_s_4.2.2 ++ [u60]))))) else (pure (v_s_4.2.2))) >>= fun v_o_58 : (List (Str × Int)) => (pure (v_cell_here_8, v_o_46, v_o_58)))
def m__law_work_j2 (v_s_4 : (Int × (List (Str × Int)) × (List (Str × Int)))) (v_x_5 : (Int × Str)) (v_cell_here_8 : Int) (v_o_23 : (Int)) (v_o_34 : (Int)) : W (Int × (List (Str × Int)) × (List (Str × Int))) :=
  (((((modI v_cell_here_8 (7 : Int)) >>= fun u41 => (pure (3 : Int)) >>= fun u42 => pure (decide (u41 < u42))) >>= fun u45 => if u45 = true then pure true else ((modI v_cell_here_8 (7 : Int)) >>= fun u43 => (pure (6 : Int)) >>= fun u44 => pure (decide (u43 = u44)))) >>= fun u47 => if u47 = true then ((pure (v_x_5.2, v_o_23)) >>= fun u48 => W.req (v_s_4.2.1.length ≤ 1000000) ((pure ((v_s_4.2.1 ++ [u48]))))) else (pure (v_s_4.2.1))) >>= fun v_o_46 : (List (Str × Int)) => (m__law_work_j1 v_s_4 v_x_5 v_cell_here_8 v_o_34 v_o_46))
def m__law_work_j3 (t : Int × Str × (List Str) × Int × Unit) (v_s_4 : (Int × (List (Str × Int)) × (List (Str × Int)))) (v_x_5 : (Int × Str)) (v_cell_here_8 : Int) (v_other_18 : Int) (v_o_23 : (Int)) : W (Int × (List (Str × Int)) × (List (Str × Int))) :=
  (((((divI v_cell_here_8 (63 : Int)) >>= fun u30 => (pure (6 : Int)) >>= fun u31 => modI u30 u31) >>= fun u32 => (pure (1 : Int)) >>= fun u33 => pure (decide (u32 = u33))) >>= fun u35 => if u35 = true then (((mulI v_other_18 t.2.2.2.1) >>= fun u38 => ((divI v_cell_here_8 (378 : Int)) >>= fun u36 => (pure (5 : Int)) >>= fun u37 => modI u36 u37) >>= fun u39 => pure (u38 + u39)) >>= fun v_other_40 => (pure (v_other_40))) else (pure (v_other_18))) >>= fun v_o_34 : Int => (m__law_work_j2 v_s_4 v_x_5 v_cell_here_8 v_o_23 v_o_34))
def m__law_work_b4 (t : Int × Str × (List Str) × Int × Unit) (v_s_4 : (Int × (List (Str × Int)) × (List (Str × Int)))) (v_x_5 : (Int × Str)) : W (Int × (List (Str × Int)) × (List (Str × Int))) :=
  (((pure v_s_4.1) >>= fun u6 => (modI v_x_5.1 (3 : Int)) >>= fun u7 => m__law_next (u6, u7, ())) >>= fun v_cell_here_8 => (((pure (1 : Int)) >>= fun u11 => ((divI v_cell_here_8 (7 : Int)) >>= fun u9 => (pure (3 : Int)) >>= fun u10 => modI u9 u10) >>= fun u12 => pure (u11 + u12)) >>= fun v_one_13 => (((pure (1 : Int)) >>= fun u16 => ((divI v_cell_here_8 (21 : Int)) >>= fun u14 => (pure (3 : Int)) >>= fun u15 => modI u14 u15) >>= fun u17 => pure (u16 + u17)) >>= fun v_other_18 => (((((divI v_cell_here_8 (63 : Int)) >>= fun u19 => (pure (6 : Int)) >>= fun u20 => modI u19 u20) >>= fun u21 => (pure (0 : Int)) >>= fun u22 => pure (decide (u21 = u22))) >>= fun u24 => if u24 = true then (((mulI v_one_13 t.2.2.2.1) >>= fun u27 => ((divI v_cell_here_8 (378 : Int)) >>= fun u25 => (pure (5 : Int)) >>= fun u26 => modI u25 u26) >>= fun u28 => pure (u27 + u28)) >>= fun v_one_29 => (pure (v_one_29))) else (pure (v_one_13))) >>= fun v_o_23 : Int => (m__law_work_j3 t v_s_4 v_x_5 v_cell_here_8 v_other_18 v_o_23)))))
def m__law_work_j5 (t : Int × Str × (List Str) × Int × Unit) (v_s_4 : (Int × (List (Str × Int)) × (List (Str × Int)))) : W (Str × (List (Str × Int)) × (List (Str × Int))) :=
  (((((divI v_s_4.1 (11 : Int)) >>= fun u62 => (pure (2 : Int)) >>= fun u63 => modI u62 u63) >>= fun u64 => (pure (1 : Int)) >>= fun u65 => pure (decide (u64 = u65))) >>= fun u67 => if u67 = true then (pure (v_s_4.2.1.reverse, v_s_4.2.2.reverse)) else (pure (v_s_4.2.1, v_s_4.2.2))) >>= fun v_o_66 : (List (Str × Int)) × (List (Str × Int)) => ((pure (t.2.1, v_o_66.1, v_o_66.2)) >>= fun u68 => pure u68))
def m__law_work (t : Int × Str × (List Str) × Int × Unit) : W (Str × (List (Str × Int)) × (List (Str × Int))) :=
  ((pure []) >>= fun v_uses_1 => ((pure []) >>= fun v_makes_2 => ((((pure t.2.2.1) >>= fun u3 => pure (Y.enum u3)) >>= fun xs => W.foldM (fun (v_s_4 : Int × (List (Str × Int)) × (List (Str × Int))) (v_x_5 : (Int × Str)) => (m__law_work_b4 t v_s_4 v_x_5)) (t.1, v_uses_1, v_makes_2) xs) >>= fun v_s_4 => (m__law_work_j5 t v_s_4))))
theorem w__law_work {M : Mc} (b_enumerate : M.mg "enumerate" = none) (h__law_next : FnV M "_law_next" 1 2 (fun (fr : Addr → Prop) (t : Int × Int × Unit) => [rI t.1, rI t.2.1]) (fun fr => rI) m__law_next) (F : FunM M "_law_work" (top 18) ["_law_cell_here", "_law_name", "_law_goods", "_law_wide"]) : FnV M "_law_work" 2 4 (fun (fr : Addr → Prop) (t : Int × Str × (List Str) × Int × Unit) => [rI t.1, rS t.2.1, (rL M.K rS) t.2.2.1, rI t.2.2.2.1]) (fun fr => (rX3 fr rS (rN fr (rX2 fr rS rI)) (rN fr (rX2 fr rS rI)))) m__law_work := by
  refine FnV.ofBody (N := ["_law_cell_here", "_law_name", "_law_goods", "_law_wide", "_law_uses", "_law_makes", "_law_k", "_law_good", "_law_one", "_law_other"]) F (⟨rfl, rfl, rfl, by decide +kernel, rfl, by decide +kernel, by decide +kernel⟩ : FnScope ["_law_cell_here", "_law_name", "_law_goods", "_law_wide", "_law_uses", "_law_makes", "_law_k", "_law_good", "_law_one", "_law_other"] ["_law_cell_here", "_law_name", "_law_goods", "_law_wide"] _) rfl (fun _ _ => rfl) (fun fr t => ?_)
  refine Ex.setO (i := 4) (O := oL fr (rX2 fr rS rI)) rfl (stoOf rfl) EvO.nil (fun v_uses_1 => ?_)
  refine Ex.setO (i := 5) (O := oL fr (rX2 fr rS rI)) rfl (stoOf rfl) EvO.nil (fun v_makes_2 => ?_)
  refine Ex.seq (J1 := fun v_s_4 : Int × (List (Str × Int)) × (List (Str × Int)) => .nx [.val (rI v_s_4.1), .val (rS t.2.1), .val ((rL M.K rS) t.2.2.1), .val (rI t.2.2.2.1), .own (oL fr (rX2 fr rS rI) v_s_4.2.1), .own (oL fr (rX2 fr rS rI) v_s_4.2.2), .no, .no, .no, .no]) (Ex1.for (fun v_s_4 : Int × (List (Str × Int)) × (List (Str × Int)) => [.val (rI v_s_4.1), .val (rS t.2.1), .val ((rL M.K rS) t.2.2.1), .val (rI t.2.2.2.1), .own (oL fr (rX2 fr rS rI) v_s_4.2.1), .own (oL fr (rX2 fr rS rI) v_s_4.2.2), .no, .no, .no, .no]) (s0 := (t.1, v_uses_1, v_makes_2)) (EvI.enum (bt_enumerate rfl b_enumerate) (Ev.nameP (i := 2) rfl rfl rfl rfl) (fun _ _ => rfl)) (EvG.tup2 (i := 6) (j := 7) rfl rfl (stoOf rfl) (stoOf rfl)) (.cons .rf (.cons .rf (.cons .rf (.cons .rf (.cons .rf (.cons .rf (.cons .no (.cons .no (.cons .no (.cons .no .nil)))))))))) (fun v_s_4 v_x_5 => ?_)) (fun v_s_4 => ?_)
  ·
    refine Ex.set (i := 0) (ρ := rI) rfl (stoOf rfl) (Ev.call2 (hd := rfl) (ρ := fun fr => rI) (mf := m__law_next) (ra := fun fr => rI) (rb := fun fr => rI) h__law_next (Nat.le_of_ble_eq_true rfl) rfl (Ev.nameP (i := 0) rfl rfl rfl rfl) (Ev.modP (Ev.nameP (i := 6) rfl rfl rfl rfl) Ev.int) (fun _ _ => rfl) (fun _ _ => rfl)) (fun v_cell_here_8 => ?_)
    refine Ex.set (i := 8) (ρ := rI) rfl (stoOf rfl) (Ev.add Ev.int (Ev.mod (Ev.divP (Ev.nameP (i := 0) rfl rfl rfl rfl) Ev.int) Ev.int)) (fun v_one_13 => ?_)
    refine Ex.set (i := 9) (ρ := rI) rfl (stoOf rfl) (Ev.add Ev.int (Ev.mod (Ev.divP (Ev.nameP (i := 0) rfl rfl rfl rfl) Ev.int) Ev.int)) (fun v_other_18 => ?_)
    refine Ex.seq (J1 := fun v_o_23 : Int => .nx [.val (rI v_cell_here_8), .val (rS t.2.1), .val ((rL M.K rS) t.2.2.1), .val (rI t.2.2.2.1), .own (oL fr (rX2 fr rS rI) v_s_4.2.1), .own (oL fr (rX2 fr rS rI) v_s_4.2.2), .val (rI v_x_5.1), .val (rS v_x_5.2), .val (rI v_o_23), .val (rI v_other_18)]) (Ex1.ite (EvT.cmp (Ev.eqI (Ev.mod (Ev.divP (Ev.nameP (i := 0) rfl rfl rfl rfl) Ev.int) Ev.int) Ev.int)) ?_ ?_) (fun v_o_23 => ?_)
    ·
      refine Ex.set (i := 8) (ρ := rI) rfl (stoOf rfl) (Ev.add (Ev.mulP (Ev.nameP (i := 8) rfl rfl rfl rfl) (Ev.nameP (i := 3) rfl rfl rfl rfl)) (Ev.mod (Ev.divP (Ev.nameP (i := 0) rfl rfl rfl rfl) Ev.int) Ev.int)) (fun v_one_29 => ?_)
      exact Ex.nil rfl (.cons .rf (.cons .rf (.cons .rf (.cons .rf (.cons .rf (.cons .rf (.cons .rf (.cons .rf (.cons .rf (.cons .rf .nil))))))))))
    ·
      exact Ex.nil rfl (.cons .rf (.cons .rf (.cons .rf (.cons .rf (.cons .rf (.cons .rf (.cons .rf (.cons .rf (.cons .rf (.cons .rf .nil))))))))))
    show Ex _ _ _ _ _
    refine Ex.seq (J1 := fun v_o_34 : Int => .nx [.val (rI v_cell_here_8), .val (rS t.2.1), .val ((rL M.K rS) t.2.2.1), .val (rI t.2.2.2.1), .own (oL fr (rX2 fr rS rI) v_s_4.2.1), .own (oL fr (rX2 fr rS rI) v_s_4.2.2), .val (rI v_x_5.1), .val (rS v_x_5.2), .val (rI v_o_23), .val (rI v_o_34)]) (Ex1.ite (EvT.cmp (Ev.eqI (Ev.mod (Ev.divP (Ev.nameP (i := 0) rfl rfl rfl rfl) Ev.int) Ev.int) Ev.int)) ?_ ?_) (fun v_o_34 => ?_)
    ·
      refine Ex.set (i := 9) (ρ := rI) rfl (stoOf rfl) (Ev.add (Ev.mulP (Ev.nameP (i := 9) rfl rfl rfl rfl) (Ev.nameP (i := 3) rfl rfl rfl rfl)) (Ev.mod (Ev.divP (Ev.nameP (i := 0) rfl rfl rfl rfl) Ev.int) Ev.int)) (fun v_other_40 => ?_)
      exact Ex.nil rfl (.cons .rf (.cons .rf (.cons .rf (.cons .rf (.cons .rf (.cons .rf (.cons .rf (.cons .rf (.cons .rf (.cons .rf .nil))))))))))
    ·
      exact Ex.nil rfl (.cons .rf (.cons .rf (.cons .rf (.cons .rf (.cons .rf (.cons .rf (.cons .rf (.cons .rf (.cons .rf (.cons .rf .nil))))))))))
    show Ex _ _ _ _ _
    refine Ex.seq (J1 := fun v_o_46 : (List (Str × Int)) => .nx [.val (rI v_cell_here_8), .val (rS t.2.1), .val ((rL M.K rS) t.2.2.1), .val (rI t.2.2.2.1), .own (oL fr (rX2 fr rS rI) v_o_46), .own (oL fr (rX2 fr rS rI) v_s_4.2.2), .val (rI v_x_5.1), .val (rS v_x_5.2), .val (rI v_o_23), .val (rI v_o_34)]) (Ex1.ite (EvW.t (EvW.or (EvT.cmp (Ev.lt (Ev.modP (Ev.nameP (i := 0) rfl rfl rfl rfl) Ev.int) Ev.int)) (EvW.or1 (EvT.cmp (Ev.eqI (Ev.modP (Ev.nameP (i := 0) rfl rfl rfl rfl) Ev.int) Ev.int))))) ?_ ?_) (fun v_o_46 => ?_)
    ·
      refine Ex.append (i := 4) (r := (rX2 fr rS rI)) rfl (visOf rfl) rfl (Ev.tupX2P (Ev.nameP (i := 7) rfl rfl rfl rfl) (Ev.nameP (i := 8) rfl rfl rfl rfl) (fun _ _ => rfl) (fun _ _ => rfl)) (fun _ _ => rfl) (fun u48 => ?_)
      exact Ex.nil rfl (.cons .rf (.cons .rf (.cons .rf (.cons .rf (.cons .rf (.cons .rf (.cons .rf (.cons .rf (.cons .rf (.cons .rf .nil))))))))))
    ·
      exact Ex.nil rfl (.cons .rf (.cons .rf (.cons .rf (.cons .rf (.cons .rf (.cons .rf (.cons .rf (.cons .rf (.cons .rf (.cons .rf .nil))))))))))
    show Ex _ _ _ _ _
    refine Ex.seq (J1 := fun v_o_58 : (List (Str × Int)) => .nx [.val (rI v_cell_here_8), .val (rS t.2.1), .val ((rL M.K rS) t.2.2.1), .val (rI t.2.2.2.1), .own (oL fr (rX2 fr rS rI) v_o_46), .own (oL fr (rX2 fr rS rI) v_o_58), .val (rI v_x_5.1), .val (rS v_x_5.2), .val (rI v_o_23), .val (rI v_o_34)]) (Ex1.ite (EvW.t (EvW.or (EvW.t (EvW.and (EvT.cmp (Ev.gt (Ev.modP (Ev.nameP (i := 0) rfl rfl rfl rfl) Ev.int) Ev.int)) (EvW.and1 (EvT.cmp (Ev.lt (Ev.modP (Ev.nameP (i := 0) rfl rfl rfl rfl) Ev.int) Ev.int))))) (EvW.or1 (EvT.cmp (Ev.eqI (Ev.modP (Ev.nameP (i := 0) rfl rfl rfl rfl) Ev.int) Ev.int))))) ?_ ?_) (fun v_o_58 => ?_)
    ·
      refine Ex.append (i := 5) (r := (rX2 fr rS rI)) rfl (visOf rfl) rfl (Ev.tupX2P (Ev.nameP (i := 7) rfl rfl rfl rfl) (Ev.nameP (i := 9) rfl rfl rfl rfl) (fun _ _ => rfl) (fun _ _ => rfl)) (fun _ _ => rfl) (fun u60 => ?_)
      exact Ex.nil rfl (.cons .rf (.cons .rf (.cons .rf (.cons .rf (.cons .rf (.cons .rf (.cons .rf (.cons .rf (.cons .rf (.cons .rf .nil))))))))))
    ·
      exact Ex.nil rfl (.cons .rf (.cons .rf (.cons .rf (.cons .rf (.cons .rf (.cons .rf (.cons .rf (.cons .rf (.cons .rf (.cons .rf .nil))))))))))
    show Ex _ _ _ _ _
    exact Ex.nilLp rfl (.cons .rf (.cons .rf (.cons .rf (.cons .rf (.cons .rf (.cons .rf (.cons .no (.cons .no (.cons .no (.cons .no .nil))))))))))
  show Ex _ _ _ _ _
  refine Ex.seq (J1 := fun v_o_66 : (List (Str × Int)) × (List (Str × Int)) => .nx [.val (rI v_s_4.1), .val (rS t.2.1), .val ((rL M.K rS) t.2.2.1), .val (rI t.2.2.2.1), .own (oL fr (rX2 fr rS rI) v_o_66.1), .own (oL fr (rX2 fr rS rI) v_o_66.2), .no, .no, .no, .no]) (Ex1.ite (EvT.cmp (Ev.eqI (Ev.mod (Ev.divP (Ev.nameP (i := 0) rfl rfl rfl rfl) Ev.int) Ev.int) Ev.int)) ?_ ?_) (fun v_o_66 => ?_)
  ·
    refine Ex.rev (i := 4) (r := (rX2 fr rS rI)) rfl rfl rfl rfl ?_
    refine Ex.rev (i := 5) (r := (rX2 fr rS rI)) rfl rfl rfl rfl ?_
    exact Ex.nil rfl (.cons .rf (.cons .rf (.cons .rf (.cons .rf (.cons .rf (.cons .rf (.cons .no (.cons .no (.cons .no (.cons .no .nil))))))))))
  ·
    exact Ex.nil rfl (.cons .rf (.cons .rf (.cons .rf (.cons .rf (.cons .rf (.cons .rf (.cons .no (.cons .no (.cons .no (.cons .no .nil))))))))))
  show Ex _ _ _ _ _
  refine Ex.freeze (i := 4) rfl ?_
  show Ex _ [.val (rI v_s_4.1), .val (rS t.2.1), .val ((rL M.K rS) t.2.2.1), .val (rI t.2.2.2.1), .val ((rN fr (rX2 fr rS rI)) v_o_66.1), .own (oL fr (rX2 fr rS rI) v_o_66.2), .no, .no, .no, .no] _ _ _
  refine Ex.freeze (i := 5) rfl ?_
  show Ex _ [.val (rI v_s_4.1), .val (rS t.2.1), .val ((rL M.K rS) t.2.2.1), .val (rI t.2.2.2.1), .val ((rN fr (rX2 fr rS rI)) v_o_66.1), .val ((rN fr (rX2 fr rS rI)) v_o_66.2), .no, .no, .no, .no] _ _ _
  exact Ex.ret (ρ := (rX3 fr rS (rN fr (rX2 fr rS rI)) (rN fr (rX2 fr rS rI)))) (fun u68 => u68) (fun _ => rfl) (Ev.tupX3P (Ev.nameP (i := 1) rfl rfl rfl rfl) (Ev.nameP (i := 4) rfl rfl rfl rfl) (Ev.nameP (i := 5) rfl rfl rfl rfl) (fun _ _ => rfl) (fun _ _ => rfl) (fun _ _ => rfl))

def m__law_change_b1 (v_x_3 : Str) (v_s_5 : (Int)) (v_x_6 : (Str × Int)) : W (Int) :=
  (((pure v_x_6.2) >>= fun u10 => (((pure v_x_6.1) >>= fun u7 => (pure v_x_3) >>= fun u8 => pure (decide (u7 = u8))) >>= fun u9 => pure (if u9 = true then (1 : Int) else 0)) >>= fun u11 => mulI u10 u11) >>= fun u12 => (pure ((v_s_5 - u12))))
def m__law_change_b2 (v_x_3 : Str) (v_s_13 : (Int)) (v_x_14 : (Str × Int)) : W (Int) :=
  (((pure v_x_14.2) >>= fun u18 => (((pure v_x_14.1) >>= fun u15 => (pure v_x_3) >>= fun u16 => pure (decide (u15 = u16))) >>= fun u17 => pure (if u17 = true then (1 : Int) else 0)) >>= fun u19 => mulI u18 u19) >>= fun u20 => (pure ((v_s_13 + u20))))
def m__law_change_j3 (v_s_2 : ((List Int))) (v_s_13 : (Int)) : W ((List Int)) :=
  ((pure v_s_13) >>= fun u21 => W.req (v_s_2.length ≤ 1000000) ((pure ((v_s_2 ++ [u21])))))
def m__law_change_j4 (t : (Str × (List (Str × Int)) × (List (Str × Int))) × (List Str) × Unit) (v_s_2 : ((List Int))) (v_x_3 : Str) (v_s_5 : (Int)) : W ((List Int)) :=
  (((pure t.1.2.2) >>= fun xs => W.foldM (fun (v_s_13 : Int) (v_x_14 : (Str × Int)) => (m__law_change_b2 v_x_3 v_s_13 v_x_14)) (v_s_5) xs) >>= fun v_s_13 => (m__law_change_j3 v_s_2 v_s_13))
def m__law_change_b5 (t : (Str × (List (Str × Int)) × (List (Str × Int))) × (List Str) × Unit) (v_s_2 : ((List Int))) (v_x_3 : Str) : W ((List Int)) :=
  ((pure (0 : Int)) >>= fun v_left_4 => (((pure t.1.2.1) >>= fun xs => W.foldM (fun (v_s_5 : Int) (v_x_6 : (Str × Int)) => (m__law_change_b1 v_x_3 v_s_5 v_x_6)) (v_left_4) xs) >>= fun v_s_5 => (m__law_change_j4 t v_s_2 v_x_3 v_s_5)))
def m__law_change (t : (Str × (List (Str × Int)) × (List (Str × Int))) × (List Str) × Unit) : W (List Int) :=
  ((pure []) >>= fun v_made_1 => (((pure t.2.1) >>= fun xs => W.foldM (fun (v_s_2 : (List Int)) (v_x_3 : Str) => (m__law_change_b5 t v_s_2 v_x_3)) (v_made_1) xs) >>= fun v_s_2 => ((pure v_s_2) >>= fun u23 => pure u23)))
def m__law_closing_b1 (t : (List (Str × (List (Str × Int)) × (List (Str × Int)))) × (List Str) × (List Int) × Str × Unit) (v_x_5 : (Int × Str)) (v_s_9 : (Int)) (v_x_10 : (Int × (Str × (List (Str × Int)) × (List (Str × Int))))) : W (Int) :=
  (((pure v_x_10.1) >>= fun u15 => (((pure v_x_10.2) >>= fun u11 => (pure t.2.1) >>= fun u12 => m__law_change (u11, u12, ())) >>= fun u13 => (pure v_x_5.1) >>= fun u14 => idx u13 u14) >>= fun u16 => mulI u15 u16) >>= fun u17 => (pure ((v_s_9 + u17))))
def m__law_closing_j2 (v_s_4 : ((List (Str × Int)) × (List (Str × Int)))) (v_x_5 : (Int × Str)) (v_s_9 : (Int)) (v_o_18 : ((List (Str × Int)))) : W ((List (Str × Int)) × (List (Str × Int))) :=
  (((pure (decide (v_s_9 < (0 : Int)))) >>= fun u23 => if u23 = true then ((pure (v_x_5.2, (-v_s_9))) >>= fun u24 => W.req (v_s_4.2.length ≤ 1000000) ((pure ((v_s_4.2 ++ [u24]))))) else (pure (v_s_4.2))) >>= fun v_o_22 : (List (Str × Int)) => (pure (v_o_18, v_o_22)))
def m__law_closing_j3 (v_s_4 : ((List (Str × Int)) × (List (Str × Int)))) (v_x_5 : (Int × Str)) (v_s_9 : (Int)) : W ((List (Str × Int)) × (List (Str × Int))) :=
  (((pure (decide ((0 : Int) < v_s_9))) >>= fun u19 => if u19 = true then ((pure (v_x_5.2, v_s_9)) >>= fun u20 => W.req (v_s_4.1.length ≤ 1000000) ((pure ((v_s_4.1 ++ [u20]))))) else (pure (v_s_4.1))) >>= fun v_o_18 : (List (Str × Int)) => (m__law_closing_j2 v_s_4 v_x_5 v_s_9 v_o_18))
def m__law_closing_b4 (t : (List (Str × (List (Str × Int)) × (List (Str × Int)))) × (List Str) × (List Int) × Str × Unit) (v_s_4 : ((List (Str × Int)) × (List (Str × Int)))) (v_x_5 : (Int × Str)) : W ((List (Str × Int)) × (List (Str × Int))) :=
  ((pure (0 : Int)) >>= fun v_left_6 => ((((pure t.2.2.1) >>= fun u7 => (pure t.1) >>= fun u8 => pure (u7.zip u8)) >>= fun xs => W.foldM (fun (v_s_9 : Int) (v_x_10 : (Int × (Str × (List (Str × Int)) × (List (Str × Int))))) => (m__law_closing_b1 t v_x_5 v_s_9 v_x_10)) (v_left_6) xs) >>= fun v_s_9 => (m__law_closing_j3 v_s_4 v_x_5 v_s_9)))
def m__law_closing (t : (List (Str × (List (Str × Int)) × (List (Str × Int)))) × (List Str) × (List Int) × Str × Unit) : W (Str × (List (Str × Int)) × (List (Str × Int))) :=
  ((pure []) >>= fun v_uses_1 => ((pure []) >>= fun v_makes_2 => ((((pure t.2.1) >>= fun u3 => pure (Y.enum u3)) >>= fun xs => W.foldM (fun (v_s_4 : (List (Str × Int)) × (List (Str × Int))) (v_x_5 : (Int × Str)) => (m__law_closing_b4 t v_s_4 v_x_5)) (v_uses_1, v_makes_2) xs) >>= fun v_s_4 => ((pure (t.2.2.2.1, v_s_4.1, v_s_4.2)) >>= fun u26 => pure u26))))
def m__law_copy (t : (List (Str × (List (Str × Int)) × (List (Str × Int)))) × Unit) : W (List (Str × (List (Str × Int)) × (List (Str × Int)))) :=
  (((pure t.1) >>= fun xs => W.noX (compM (fun v_x_1 => pure true) (fun v_x_1 => ((pure v_x_1.1) >>= fun u2 => ((pure v_x_1.2.1) >>= fun u3 => ((pure v_x_1.2.2) >>= fun u4 => (pure (u2, u3, u4)))))) xs)) >>= fun u5 => pure u5)
theorem w__law_copy {M : Mc} (b_list : M.mg "list" = none) (F : FunM M "_law_copy" (top 21) ["_law_works"]) : FnV M "_law_copy" 1 1 (fun (fr : Addr → Prop) (t : (List (Str × (List (Str × Int)) × (List (Str × Int)))) × Unit) => [(rL M.K (rT3 M.K rS (rL M.K (rT2 M.K rS rI)) (rL M.K (rT2 M.K rS rI)))) t.1]) (fun fr => (rN fr (rX3 fr rS (rN fr (rT2 M.K rS rI)) (rN fr (rT2 M.K rS rI))))) m__law_copy := by
  refine FnV.ofBody (N := ["_law_works", "_law_name", "_law_uses", "_law_makes"]) F (⟨rfl, rfl, rfl, by decide +kernel, rfl, by decide +kernel, by decide +kernel⟩ : FnScope ["_law_works", "_law_name", "_law_uses", "_law_makes"] ["_law_works"] _) rfl (fun _ _ => rfl) (fun fr t => ?_)
  exact Ex.ret (ρ := (rN fr (rX3 fr rS (rN fr (rT2 M.K rS rI)) (rN fr (rT2 M.K rS rI))))) (fun u5 => u5) (fun _ => rfl) (EvO.list (EvO.comp (LcOk.three (i := 1) (j := 2) (l := 3) rfl rfl rfl rfl (stoOf rfl) (stoOf rfl) (stoOf rfl) (by decide) (by decide) (by decide) (fun _ h => nomatch h) (fun _ h => nomatch h) (fun _ h => nomatch h)) (EvI.list (Ev.nameP (i := 0) rfl rfl rfl rfl)) (fun v_x_1 => EvTs.nil) (fun v_x_1 => (Ev.tupX3 (Ev.nameP (i := 1) rfl rfl rfl rfl) (EvO.list (EvO.listOf (bt_list rfl b_list) (Ev.nameP (i := 2) rfl rfl rfl rfl) (fun _ _ => rfl))) (EvO.list (EvO.listOf (bt_list rfl b_list) (Ev.nameP (i := 3) rfl rfl rfl rfl) (fun _ _ => rfl))) (fun _ _ => rfl) (fun _ _ => rfl) (fun _ _ => rfl)))))

def m__law_told_b1  : W (Fl (Unit) Bool) :=
  ((((pure true) >>= fun u23 => pure (!u23)) >>= fun u24 => if u24 = true then pure true else (pure false)) >>= fun u25 => if u25 = true then ((pure false) >>= fun u26 => pure (Fl.ret u26)) else (pure (Fl.go ())))
def m__law_told_b2 (v_x_9 : (Str × (List (Str × Int)) × (List (Str × Int)))) : W (Fl (Unit) Bool) :=
  ((((pure true) >>= fun u10 => pure (!u10)) >>= fun u16 => if u16 = true then pure true else ((((pure v_x_9) >>= fun u11 => pure (3 : Int)) >>= fun u12 => (pure (3 : Int)) >>= fun u13 => pure (!decide (u12 = u13))) >>= fun u15 => if u15 = true then pure true else ((pure true) >>= fun u14 => pure (!u14)))) >>= fun u17 => if u17 = true then ((pure false) >>= fun u18 => pure (Fl.ret u18)) else (((((pure v_x_9.2.1) >>= fun u19 => (pure v_x_9.2.2) >>= fun u20 => catL u19 u20) >>= fun xs => W.foldR (fun (v_s_21 : Unit) (v_x_22 : (Str × Int)) => (m__law_told_b1 )) () xs) >>= fun o => pure o.out) >>= fun o : (Unit) ⊕ Bool => match o with | .inl v_s_21 => (pure (Fl.go ())) | .inr r => (pure (Fl.ret r))))
def m__law_told_j3 (t : YardV × (List Str) × (List (Str × (List (Str × Int)) × (List (Str × Int)))) × Unit) : W Bool :=
  (((pure t.1) >>= fun u49 => m_Yard_goods (u49, ())) >>= fun u50 => W.req (u50.length ≤ 1000000) ((((pure t.1) >>= fun u51 => m_Yard_names (u51, ())) >>= fun _ => (((((pure t.1) >>= fun u53 => m_Yard_works (u53, ())) >>= fun u54 => (pure t.2.2.1) >>= fun u55 => eqW (fun xs => ∀ x ∈ xs, (fun x => (fun x => PyData.strOk x = true) x.1 ∧ (fun xs => ∀ x ∈ xs, (fun x => (fun x => PyData.strOk x = true) x.1 ∧ (fun _ => True) x.2) x) x.2.1 ∧ (fun xs => ∀ x ∈ xs, (fun x => (fun x => PyData.strOk x = true) x.1 ∧ (fun _ => True) x.2) x) x.2.2) x) u54 u55) >>= fun u64 => if u64 = true then ((((pure t.1) >>= fun u56 => m_Yard_goods (u56, ())) >>= fun u57 => (pure t.2.1) >>= fun u58 => eqW (fun xs => ∀ x ∈ xs, (fun x => PyData.strOk x = true) x) u57 u58) >>= fun u63 => if u63 = true then (((pure t.1) >>= fun u59 => m_Yard_names (u59, ())) >>= fun u61 => ((pure t.2.2.1) >>= fun xs => W.noX (compM (fun v_x_60 => pure true) (fun v_x_60 => (pure v_x_60.1)) xs)) >>= fun u62 => eqW (fun xs => ∀ x ∈ xs, (fun x => PyData.strOk x = true) x) u61 u62) else pure false) else pure false) >>= fun u65 => pure u65))))
def m__law_told_j4 (t : YardV × (List Str) × (List (Str × (List (Str × Int)) × (List (Str × Int)))) × Unit) (v_found_2 : (List (Str × (List (Str × Int)) × (List (Str × Int))))) : W Bool :=
  ((((pure v_found_2) >>= fun u27 => (pure t.2.2.1) >>= fun u28 => neW (fun xs => ∀ x ∈ xs, (fun x => (fun x => PyData.strOk x = true) x.1 ∧ (fun xs => ∀ x ∈ xs, (fun x => (fun x => PyData.strOk x = true) x.1 ∧ (fun _ => True) x.2) x) x.2.1 ∧ (fun xs => ∀ x ∈ xs, (fun x => (fun x => PyData.strOk x = true) x.1 ∧ (fun _ => True) x.2) x) x.2.2) x) u27 u28) >>= fun u36 => if u36 = true then pure true else (((((pure t.1) >>= fun u29 => m_Yard_goods (u29, ())) >>= fun u30 => (pure () : W Unit) >>= fun _ => pure true) >>= fun u31 => pure (!u31)) >>= fun u35 => if u35 = true then pure true else ((((pure t.1) >>= fun u32 => m_Yard_names (u32, ())) >>= fun u33 => (pure () : W Unit) >>= fun _ => pure true) >>= fun u34 => pure (!u34)))) >>= fun u37 => if u37 = true then ((pure false) >>= fun u38 => pure u38) else (((((pure t.1) >>= fun u39 => m_Yard_goods (u39, ())) >>= fun u40 => (pure t.2.1) >>= fun u41 => neW (fun xs => ∀ x ∈ xs, (fun x => PyData.strOk x = true) x) u40 u41) >>= fun u46 => if u46 = true then pure true else (((pure t.1) >>= fun u42 => m_Yard_names (u42, ())) >>= fun u44 => ((pure t.2.2.1) >>= fun xs => W.noX (compM (fun v_x_43 => pure true) (fun v_x_43 => (pure v_x_43.1)) xs)) >>= fun u45 => neW (fun xs => ∀ x ∈ xs, (fun x => PyData.strOk x = true) x) u44 u45)) >>= fun u47 => if u47 = true then ((pure false) >>= fun u48 => pure u48) else (W.req (v_found_2.length ≤ 1000000 ∧ ∀ z ∈ v_found_2, z.2.1.length ≤ 1000000 ∧ z.2.2.length ≤ 1000000) (pure ()) >>= fun _ : Unit => (m__law_told_j3 t))))
def m__law_told (t : YardV × (List Str) × (List (Str × (List (Str × Int)) × (List (Str × Int)))) × Unit) : W Bool :=
  (((pure t.1) >>= fun u1 => m_Yard_works (u1, ())) >>= fun v_found_2 => ((((pure true) >>= fun u3 => pure (!u3)) >>= fun u4 => if u4 = true then pure true else (pure (!decide ((v_found_2.length : Int) = (t.2.2.1.length : Int))))) >>= fun u5 => if u5 = true then ((pure false) >>= fun u6 => pure u6) else ((((pure v_found_2) >>= fun xs => W.foldR (fun (v_s_8 : Unit) (v_x_9 : (Str × (List (Str × Int)) × (List (Str × Int)))) => (m__law_told_b2 v_x_9)) () xs) >>= fun o => pure o.out) >>= fun o : (Unit) ⊕ Bool => match o with | .inl v_s_8 => (m__law_told_j4 t v_found_2) | .inr r => (pure r))))
theorem w__law_told {M : Mc} {cY : Addr} (cC : Cls M.K cY) (b_isinstance : M.mg "isinstance" = none) (b_list : M.mg "list" = none) (b_len : M.mg "len" = none) (b_tuple : M.mg "tuple" = none) (b_bool : M.mg "bool" = none) (h_Yard_works : MetV M cY "works" 1 1 (fun (fr : Addr → Prop) (t : YardV × Unit) => [(rIns cY (flY M.K)) t.1]) (fun fr => (rN fr (rX3 fr rS (rN fr (rT2 M.K rS rI)) (rN fr (rT2 M.K rS rI))))) m_Yard_works) (h_Yard_goods : MetV M cY "goods" 1 1 (fun (fr : Addr → Prop) (t : YardV × Unit) => [(rIns cY (flY M.K)) t.1]) (fun fr => (rN fr rS)) m_Yard_goods) (h_Yard_names : MetV M cY "names" 1 1 (fun (fr : Addr → Prop) (t : YardV × Unit) => [(rIns cY (flY M.K)) t.1]) (fun fr => (rN fr rS)) m_Yard_names) (F : FunM M "_law_told" (top 22) ["_law_yard", "_law_goods", "_law_works"]) : FnV M "_law_told" 2 3 (fun (fr : Addr → Prop) (t : YardV × (List Str) × (List (Str × (List (Str × Int)) × (List (Str × Int)))) × Unit) => [(rIns cY (flY M.K)) t.1, (rL M.K rS) t.2.1, (rL M.K (rT3 M.K rS (rL M.K (rT2 M.K rS rI)) (rL M.K (rT2 M.K rS rI)))) t.2.2.1]) (fun fr => rB) m__law_told := by
  refine FnV.ofBody (N := ["_law_yard", "_law_goods", "_law_works", "_law_found", "_law_one", "_law_pair", "_law_work_here"]) F (⟨rfl, rfl, rfl, by decide +kernel, rfl, by decide +kernel, by decide +kernel⟩ : FnScope ["_law_yard", "_law_goods", "_law_works", "_law_found", "_law_one", "_law_pair", "_law_work_here"] ["_law_yard", "_law_goods", "_law_works"] _) rfl (fun _ _ => rfl) (fun fr t => ?_)
  refine Ex.setO (i := 3) (O := oW (fun fr => (rN fr (rT3 M.K rS (rN fr (rT2 M.K rS rI)) (rN fr (rT2 M.K rS rI))))) fr) rfl (stoOf rfl) (EvO.newW (Γ' := [.val ((rIns cY (flY M.K)) t.1), .val ((rL M.K rS) t.2.1), .val ((rL M.K (rT3 M.K rS (rL M.K (rT2 M.K rS rI)) (rL M.K (rT2 M.K rS rI)))) t.2.2.1), .no, .no, .no, .no]) (ρ := fun fq => (rN fq (rT3 M.K rS (rN fq (rT2 M.K rS rI)) (rN fq (rT2 M.K rS rI))))) (.cons .rf (.cons .rf (.cons .rf (.cons .no (.cons .no (.cons .no (.cons .no .nil))))))) (Frl.N (Frl.T3 Frl.fre (Frl.N (Frl.T2 Frl.fre Frl.fre)) (Frl.N (Frl.T2 Frl.fre Frl.fre)))) (fun fq => (Ev.sub (subNN (subXT3 subR subR subR)) (Ev.meth0 (A := cY) (fl := flY M.K) (mf := m_Yard_works) (ρ := fun fr => (rN fr (rX3 fr rS (rN fr (rT2 M.K rS rI)) (rN fr (rT2 M.K rS rI)))))  h_Yard_works (Nat.le_of_ble_eq_true rfl) cC (fun _ => rfl) (Ev.nameP (i := 0) rfl rfl rfl rfl)  )))) (fun v_found_2 => ?_)
  refine Ex.ifx (EvT.borrow (.cons .rf (.cons .rf (.cons .rf (.cons (oW_val (ρ := fun fr => (rN fr (rT3 M.K rS (rN fr (rT2 M.K rS rI)) (rN fr (rT2 M.K rS rI))))) (R := (rN fr (rT3 M.K rS (rN fr (rT2 M.K rS rI)) (rN fr (rT2 M.K rS rI)))) v_found_2) (Frl.N (Frl.T3 Frl.fre (Frl.N (Frl.T2 Frl.fre Frl.fre)) (Frl.N (Frl.T2 Frl.fre Frl.fre)))) (fun _ _ h => h)) (.cons .rf (.cons .rf (.cons .rf .nil))))))) rfl (EvW.t (EvW.or (EvT.not (EvT.val (Ev.isiP (K := M.K) (hK := rfl) (ρ := (rN fr (rT3 M.K rS (rN fr (rT2 M.K rS rI)) (rN fr (rT2 M.K rS rI))))) true (bt_isinstance rfl b_isinstance) (bt_list rfl b_list) (by decide +kernel) (Ev.nameP (i := 3) rfl rfl rfl rfl) (fun _ _ => rfl)))) (EvW.or1 (EvT.cmp (Ev.neIP (Ev.lenLP (bt_len rfl b_len) (Ev.sub (subNL subR) (Ev.nameP (i := 3) rfl rfl rfl rfl)) (fun _ _ => rfl)) (Ev.lenLP (bt_len rfl b_len) (Ev.nameP (i := 2) rfl rfl rfl rfl) (fun _ _ => rfl)))))))) ?_ ?_
  ·
    exact Ex.ret (ρ := rB) (fun u6 => u6) (fun _ => rfl) Ev.bool
  refine Ex.seq (J1 := (outX (S := Unit) (ρ := Bool) (fun v_s_8 : Unit => [.val ((rIns cY (flY M.K)) t.1), .val ((rL M.K rS) t.2.1), .val ((rL M.K (rT3 M.K rS (rL M.K (rT2 M.K rS rI)) (rL M.K (rT2 M.K rS rI)))) t.2.2.1), .own (oW (fun fr => (rN fr (rT3 M.K rS (rN fr (rT2 M.K rS rI)) (rN fr (rT2 M.K rS rI))))) fr v_found_2), .no, .no, .no]) (fun r => rB r))) (Ex1.brw (Γq := fun pv7 => [.val (pin (rIns cY (flY M.K)) (pv7 0) t.1), .val (pin (rL M.K rS) (pv7 1) t.2.1), .val (pin (rL M.K (rT3 M.K rS (rL M.K (rT2 M.K rS rI)) (rL M.K (rT2 M.K rS rI)))) (pv7 2) t.2.2.1), .val (pin (rN fr (rT3 M.K rS (rN fr (rT2 M.K rS rI)) (rN fr (rT2 M.K rS rI)))) (pv7 3) v_found_2), .no, .no, .no]) (Jq := fun pv7 => (outX (S := Unit) (ρ := Bool) (fun v_s_8 : Unit => [.val (pin (rIns cY (flY M.K)) (pv7 0) t.1), .val (pin (rL M.K rS) (pv7 1) t.2.1), .val (pin (rL M.K (rT3 M.K rS (rL M.K (rT2 M.K rS rI)) (rL M.K (rT2 M.K rS rI)))) (pv7 2) t.2.2.1), .val (pin (rN fr (rT3 M.K rS (rN fr (rT2 M.K rS rI)) (rN fr (rT2 M.K rS rI)))) (pv7 3) v_found_2), .no, .no, .no]) (fun r => rB r))) (fun pv7 => (.val (.val (.val (.own (oW_val (ρ := fun fr => (rN fr (rT3 M.K rS (rN fr (rT2 M.K rS rI)) (rN fr (rT2 M.K rS rI))))) (Frl.N (Frl.T3 Frl.fre (Frl.N (Frl.T2 Frl.fre Frl.fre)) (Frl.N (Frl.T2 Frl.fre Frl.fre)))) (fun _ _ h => h)) (.no (.no (.no .nil)))))))) (fun pv7 => Ex1.forX (fun v_s_8 : Unit => [.val (pin (rIns cY (flY M.K)) (pv7 0) t.1), .val (pin (rL M.K rS) (pv7 1) t.2.1), .val (pin (rL M.K (rT3 M.K rS (rL M.K (rT2 M.K rS rI)) (rL M.K (rT2 M.K rS rI)))) (pv7 2) t.2.2.1), .val (pin (rN fr (rT3 M.K rS (rN fr (rT2 M.K rS rI)) (rN fr (rT2 M.K rS rI)))) (pv7 3) v_found_2), .no, .no, .no]) (fun r => rB r) (s0 := ()) (EvI.list (Ev.sub (subNL subR) (Ev.sub subPin (Ev.nameP (i := 3) (ρ := pin (rN fr (rT3 M.K rS (rN fr (rT2 M.K rS rI)) (rN fr (rT2 M.K rS rI)))) (pv7 3)) rfl rfl rfl rfl)))) (EvG.name (i := 4) (r := (rT3 M.K rS (rN fr (rT2 M.K rS rI)) (rN fr (rT2 M.K rS rI)))) rfl (stoOf rfl)) (.cons .rf (.cons .rf (.cons .rf (.cons .rf (.cons .no (.cons .no (.cons .no .nil))))))) (fun v_s_8 v_x_9 => ?_)) (by intro pv7 o; cases o with | inl v_s_8 => exact (.keep (.keep (.keep (.keep (.no (.no (.no .nil))))))) | inr r => exact ⟨rfl, fun _ _ _ h => (inferInstance : Fre rB).fre _ _ _ h _⟩)) (fun o => ?_)
  ·
    refine Ex.ifx (EvW.t (EvW.or (EvT.not (EvT.val (Ev.isiP (K := M.K) (hK := rfl) (ρ := (rT3 M.K rS (rN fr (rT2 M.K rS rI)) (rN fr (rT2 M.K rS rI)))) true (bt_isinstance rfl b_isinstance) (bt_tuple rfl b_tuple) (by decide +kernel) (Ev.nameP (i := 4) rfl rfl rfl rfl) (fun _ _ => rfl)))) (EvW.or (EvT.cmp (Ev.neI (Ev.lenT3 (bt_len rfl b_len) (Ev.nameP (i := 4) rfl rfl rfl rfl) (fun _ _ => rfl)) Ev.int)) (EvW.or1 (EvT.not (EvT.val (Ev.isiP (K := M.K) (hK := rfl) (ρ := (rN fr (rT2 M.K rS rI))) true (bt_isinstance rfl b_isinstance) (bt_list rfl b_list) (by decide +kernel) (Ev.ixT3_1P (Ev.nameP (i := 4) rfl rfl rfl rfl)) (fun _ _ => rfl)))))))) ?_ ?_
    ·
      exact Ex.ret (ρ := rB) (fun u18 => (Fl.ret u18)) (fun _ => rfl) Ev.bool
    refine Ex.seq (J1 := (outX (S := Unit) (ρ := Bool) (fun v_s_21 : Unit => [.val (pin (rIns cY (flY M.K)) (pv7 0) t.1), .val (pin (rL M.K rS) (pv7 1) t.2.1), .val (pin (rL M.K (rT3 M.K rS (rL M.K (rT2 M.K rS rI)) (rL M.K (rT2 M.K rS rI)))) (pv7 2) t.2.2.1), .val (pin (rN fr (rT3 M.K rS (rN fr (rT2 M.K rS rI)) (rN fr (rT2 M.K rS rI)))) (pv7 3) v_found_2), .val ((rT3 M.K rS (rN fr (rT2 M.K rS rI)) (rN fr (rT2 M.K rS rI))) v_x_9), .no, .no]) (fun r => rB r))) (Ex1.forX (fun v_s_21 : Unit => [.val (pin (rIns cY (flY M.K)) (pv7 0) t.1), .val (pin (rL M.K rS) (pv7 1) t.2.1), .val (pin (rL M.K (rT3 M.K rS (rL M.K (rT2 M.K rS rI)) (rL M.K (rT2 M.K rS rI)))) (pv7 2) t.2.2.1), .val (pin (rN fr (rT3 M.K rS (rN fr (rT2 M.K rS rI)) (rN fr (rT2 M.K rS rI)))) (pv7 3) v_found_2), .val ((rT3 M.K rS (rN fr (rT2 M.K rS rI)) (rN fr (rT2 M.K rS rI))) v_x_9), .no, .no]) (fun r => rB r) (s0 := ()) (EvI.list (Ev.sub (subNL subR) (EvO.list (EvO.cat (Ev.ixT3_1P (Ev.nameP (i := 4) rfl rfl rfl rfl)) (Ev.ixT3_2P (Ev.nameP (i := 4) rfl rfl rfl rfl)))))) (EvG.name (i := 5) (r := (rT2 M.K rS rI)) rfl (stoOf rfl)) (.cons .rf (.cons .rf (.cons .rf (.cons .rf (.cons .rf (.cons .no (.cons .no .nil))))))) (fun v_s_21 v_x_22 => ?_)) (fun o => ?_)
    ·
      refine Ex.ifx (EvW.t (EvW.or (EvT.not (EvT.val (Ev.isiP (K := M.K) (hK := rfl) (ρ := (rT2 M.K rS rI)) true (bt_isinstance rfl b_isinstance) (bt_tuple rfl b_tuple) (by decide +kernel) (Ev.nameP (i := 5) rfl rfl rfl rfl) (fun _ _ => rfl)))) (EvW.or1 (EvT.val (Ev.isiP (K := M.K) (hK := rfl) (ρ := rI) false (bt_isinstance rfl b_isinstance) (bt_bool rfl b_bool) (by decide +kernel) (Ev.ixT2_1P (Ev.nameP (i := 5) rfl rfl rfl rfl)) (fun _ _ => rfl)))))) ?_ ?_
      ·
        exact Ex.ret (ρ := rB) (fun u26 => (Fl.ret u26)) (fun _ => rfl) Ev.bool
      exact Ex.nilLp rfl (.cons .rf (.cons .rf (.cons .rf (.cons .rf (.cons .rf (.cons .no (.cons .no .nil)))))))
    obtain v_s_21 | r := o
    ·
      show Ex _ _ _ _ _
      exact Ex.nilLp rfl (.cons .rf (.cons .rf (.cons .rf (.cons .rf (.cons .no (.cons .no (.cons .no .nil)))))))
    · exact ⟨_, rfl, rfl⟩
  obtain v_s_8 | r := o
  ·
    show Ex _ _ _ _ _
    refine Ex.ifx (EvT.borrow (.cons .rf (.cons .rf (.cons .rf (.cons (oW_val (ρ := fun fr => (rN fr (rT3 M.K rS (rN fr (rT2 M.K rS rI)) (rN fr (rT2 M.K rS rI))))) (R := (rN fr (rT3 M.K rS (rN fr (rT2 M.K rS rI)) (rN fr (rT2 M.K rS rI)))) v_found_2) (Frl.N (Frl.T3 Frl.fre (Frl.N (Frl.T2 Frl.fre Frl.fre)) (Frl.N (Frl.T2 Frl.fre Frl.fre)))) (fun _ _ h => h)) (.cons .rf (.cons .rf (.cons .rf .nil))))))) rfl (EvW.t (EvW.or (EvT.cmp (Ev.neK (K := M.K) rfl (ρa := (rL M.K (rT3 M.K rS (rL M.K (rT2 M.K rS rI)) (rL M.K (rT2 M.K rS rI))))) (ρb := (rL M.K (rT3 M.K rS (rL M.K (rT2 M.K rS rI)) (rL M.K (rT2 M.K rS rI))))) rfl (Nat.le_of_ble_eq_true rfl) (Nat.le_of_ble_eq_true rfl) rfl (Ev.sub (subNL (subT3 subR (subNL subR) (subNL subR))) (Ev.nameP (i := 3) rfl rfl rfl rfl)) (Ev.nameP (i := 2) rfl rfl rfl rfl))) (EvW.or (EvT.not (EvT.val (Ev.isi (K := M.K) (hK := rfl) (ρ := (rN fr rS)) true (bt_isinstance rfl b_isinstance) (bt_list rfl b_list) (by decide +kernel) (Ev.meth0 (A := cY) (fl := flY M.K) (mf := m_Yard_goods) (ρ := fun fr => (rN fr rS))  h_Yard_goods (Nat.le_of_ble_eq_true rfl) cC (fun _ => rfl) (Ev.nameP (i := 0) rfl rfl rfl rfl)  ) (fun _ _ => rfl)))) (EvW.or1 (EvT.not (EvT.val (Ev.isi (K := M.K) (hK := rfl) (ρ := (rN fr rS)) true (bt_isinstance rfl b_isinstance) (bt_list rfl b_list) (by decide +kernel) (Ev.meth0 (A := cY) (fl := flY M.K) (mf := m_Yard_names) (ρ := fun fr => (rN fr rS))  h_Yard_names (Nat.le_of_ble_eq_true rfl) cC (fun _ => rfl) (Ev.nameP (i := 0) rfl rfl rfl rfl)  ) (fun _ _ => rfl))))))))) ?_ ?_
    ·
      exact Ex.ret (ρ := rB) (fun u38 => u38) (fun _ => rfl) Ev.bool
    refine Ex.ifx (EvW.t (EvW.or (EvT.cmp (Ev.neK (K := M.K) rfl (ρa := (rL M.K rS)) (ρb := (rL M.K rS)) rfl (Nat.le_of_ble_eq_true rfl) (Nat.le_of_ble_eq_true rfl) rfl (Ev.sub (subNL subR) (Ev.meth0 (A := cY) (fl := flY M.K) (mf := m_Yard_goods) (ρ := fun fr => (rN fr rS))  h_Yard_goods (Nat.le_of_ble_eq_true rfl) cC (fun _ => rfl) (Ev.nameP (i := 0) rfl rfl rfl rfl)  )) (Ev.nameP (i := 1) rfl rfl rfl rfl))) (EvW.or1 (EvT.cmp (Ev.neK (K := M.K) rfl (ρa := (rL M.K rS)) (ρb := (rL M.K rS)) rfl (Nat.le_of_ble_eq_true rfl) (Nat.le_of_ble_eq_true rfl) rfl (Ev.sub (subNL subR) (Ev.meth0 (A := cY) (fl := flY M.K) (mf := m_Yard_names) (ρ := fun fr => (rN fr rS))  h_Yard_names (Nat.le_of_ble_eq_true rfl) cC (fun _ => rfl) (Ev.nameP (i := 0) rfl rfl rfl rfl)  )) (Ev.sub (subNL subR) (EvO.list (EvO.comp (LcOk.one (i := 6) (r := (rT3 M.K rS (rL M.K (rT2 M.K rS rI)) (rL M.K (rT2 M.K rS rI)))) rfl rfl (stoOf rfl) (fun _ h => nomatch h)) (EvI.list (Ev.nameP (i := 2) rfl rfl rfl rfl)) (fun v_x_43 => EvTs.nil) (fun v_x_43 => (Ev.ixT3_0P (Ev.nameP (i := 6) rfl rfl rfl rfl))))))))))) ?_ ?_
    ·
      exact Ex.ret (ρ := rB) (fun u48 => u48) (fun _ => rfl) Ev.bool
    refine Ex.seq (J1 := fun _ : Unit => .nx [.val ((rIns cY (flY M.K)) t.1), .val ((rL M.K rS) t.2.1), .val ((rL M.K (rT3 M.K rS (rL M.K (rT2 M.K rS rI)) (rL M.K (rT2 M.K rS rI)))) t.2.2.1), .own (oJ fr), .no, .no, .no]) (Ex1.spoilW2 (i := 3) (j := 4) rfl rfl rfl (by decide) rfl rfl (stoOf rfl) rfl rfl rfl rfl (fun _ => (Ev.tupX2P Ev.str Ev.int (fun _ _ => rfl) (fun _ _ => rfl))) (fun _ _ => rfl)) (fun _ => ?_)
    show Ex _ _ _ _ _
    refine Ex.tmpApp (r := rS) (EvO.methFr0 (ρ := fun fr => (rN fr rS)) (A := cY) (fl := flY M.K) (mf := m_Yard_goods) (.cons .rf (.cons .rf (.cons .rf (.cons .no (.cons .rf (.cons .rf (.cons .rf .nil))))))) rfl (Frs.N Frs.fre) h_Yard_goods (Nat.le_of_ble_eq_true rfl) cC (fun _ => rfl) (Ev.nameP (i := 0) rfl rfl rfl rfl)  ) (fun _ => pe_str) (fun _ _ => rfl) ?_
    refine Ex.tmpClr (r := rS) (EvO.methFr0 (ρ := fun fr => (rN fr rS)) (A := cY) (fl := flY M.K) (mf := m_Yard_names) (.cons .rf (.cons .rf (.cons .rf (.cons .no (.cons .rf (.cons .rf (.cons .rf .nil))))))) rfl (Frs.N Frs.fre) h_Yard_names (Nat.le_of_ble_eq_true rfl) cC (fun _ => rfl) (Ev.nameP (i := 0) rfl rfl rfl rfl)  ) ?_
    refine Ex.spoilClear (i := 3) rfl rfl rfl rfl ?_
    exact Ex.ret (ρ := rB) (fun u65 => u65) (fun _ => rfl) (Ev.and (Ev.eqK (K := M.K) rfl (ρa := (rL M.K (rT3 M.K rS (rL M.K (rT2 M.K rS rI)) (rL M.K (rT2 M.K rS rI))))) (ρb := (rL M.K (rT3 M.K rS (rL M.K (rT2 M.K rS rI)) (rL M.K (rT2 M.K rS rI))))) rfl (Nat.le_of_ble_eq_true rfl) (Nat.le_of_ble_eq_true rfl) rfl (Ev.sub (subNL (subXT3 subR (subNL subR) (subNL subR))) (Ev.meth0 (A := cY) (fl := flY M.K) (mf := m_Yard_works) (ρ := fun fr => (rN fr (rX3 fr rS (rN fr (rT2 M.K rS rI)) (rN fr (rT2 M.K rS rI)))))  h_Yard_works (Nat.le_of_ble_eq_true rfl) cC (fun _ => rfl) (Ev.nameP (i := 0) rfl rfl rfl rfl)  )) (Ev.nameP (i := 2) rfl rfl rfl rfl)) (Ev.and (Ev.eqK (K := M.K) rfl (ρa := (rL M.K rS)) (ρb := (rL M.K rS)) rfl (Nat.le_of_ble_eq_true rfl) (Nat.le_of_ble_eq_true rfl) rfl (Ev.sub (subNL subR) (Ev.meth0 (A := cY) (fl := flY M.K) (mf := m_Yard_goods) (ρ := fun fr => (rN fr rS))  h_Yard_goods (Nat.le_of_ble_eq_true rfl) cC (fun _ => rfl) (Ev.nameP (i := 0) rfl rfl rfl rfl)  )) (Ev.nameP (i := 1) rfl rfl rfl rfl)) (Ev.one (Ev.eqK (K := M.K) rfl (ρa := (rL M.K rS)) (ρb := (rL M.K rS)) rfl (Nat.le_of_ble_eq_true rfl) (Nat.le_of_ble_eq_true rfl) rfl (Ev.sub (subNL subR) (Ev.meth0 (A := cY) (fl := flY M.K) (mf := m_Yard_names) (ρ := fun fr => (rN fr rS))  h_Yard_names (Nat.le_of_ble_eq_true rfl) cC (fun _ => rfl) (Ev.nameP (i := 0) rfl rfl rfl rfl)  )) (Ev.sub (subNL subR) (EvO.list (EvO.comp (LcOk.one (i := 6) (r := (rT3 M.K rS (rL M.K (rT2 M.K rS rI)) (rL M.K (rT2 M.K rS rI)))) rfl rfl (stoOf rfl) (fun _ h => nomatch h)) (EvI.list (Ev.nameP (i := 2) rfl rfl rfl rfl)) (fun v_x_60 => EvTs.nil) (fun v_x_60 => (Ev.ixT3_0P (Ev.nameP (i := 6) rfl rfl rfl rfl))))))))))
  · exact ⟨_, rfl, rfl⟩

def m_law_b1 (v_goods_16 : (List Str)) (v_o_25 : ((List Str))) (v_s_42 : ((List (Str × (List (Str × Int)) × (List (Str × Int)))))) (v_x_43 : (Int × Int)) : W ((List (Str × (List (Str × Int)) × (List (Str × Int))))) :=
  ((((idx v_o_25 v_x_43.1) >>= fun u45 => ((pure v_s_42) >>= fun xs => W.noX (compM (fun v_x_44 => pure true) (fun v_x_44 => (pure v_x_44.1)) xs)) >>= fun u46 => pure (!decide (u45 ∈ u46))) >>= fun u48 => if u48 = true then (((modI v_x_43.2 (1000000000000000000000000000000 : Int)) >>= fun u49 => (idx v_o_25 v_x_43.1) >>= fun u50 => (pure v_goods_16) >>= fun u51 => (pure (10000000000000000000000000 : Int)) >>= fun u52 => m__law_work (u49, u50, u51, u52, ())) >>= fun u53 => W.req (v_s_42.length ≤ 1000000) ((pure ((v_s_42 ++ [u53]))))) else (pure (v_s_42))) >>= fun v_o_47 : (List (Str × (List (Str × Int)) × (List (Str × Int)))) => (pure (v_o_47)))
def m_law_j2 (v_words_here_7 : (List Str)) (v_goods_16 : (List Str)) (v_s_42 : ((List (Str × (List (Str × Int)) × (List (Str × Int)))))) (v_many_59 : Int) (v_yard_77 : YardV) (v_other_80 : YardV) : W Bool :=
  (((((pure v_yard_77) >>= fun u93 => (pure v_goods_16) >>= fun u94 => (pure v_s_42) >>= fun u95 => m__law_told (u93, u94, u95, ())) >>= fun u96 => pure (!u96)) >>= fun u105 => if u105 = true then pure true else (((pure v_other_80) >>= fun u101 => ((pure v_words_here_7) >>= fun u98 => (pure none) >>= fun u99 => ((pure v_many_59) >>= fun u97 => pure (some u97)) >>= fun u100 => pure (cut u98 u99 u100)) >>= fun u102 => (pure []) >>= fun u103 => m__law_told (u101, u102, u103, ())) >>= fun u104 => pure (!u104))) >>= fun u106 => if u106 = true then ((pure false) >>= fun u107 => pure u107) else (((pure v_yard_77) >>= fun u108 => (pure v_goods_16) >>= fun u109 => (pure v_s_42) >>= fun u110 => m__law_told (u108, u109, u110, ())) >>= fun u111 => pure u111))
def m_law_j3 (t : (List Int) × Unit) (v_words_here_7 : (List Str)) (v_goods_16 : (List Str)) (v_s_42 : ((List (Str × (List (Str × Int)) × (List (Str × Int)))))) : W Bool :=
  ((((pure t.1) >>= fun u55 => (pure (3 : Int)) >>= fun u56 => m__law_cell (u55, u56, ())) >>= fun u57 => (pure (9 : Int)) >>= fun u58 => modI u57 u58) >>= fun v_many_59 => (((pure v_goods_16) >>= fun u70 => (((pure v_s_42) >>= fun u60 => m__law_copy (u60, ())) >>= fun u71 => (((pure v_words_here_7) >>= fun u62 => (pure none) >>= fun u63 => ((pure v_many_59) >>= fun u61 => pure (some u61)) >>= fun u64 => pure (cut u62 u63 u64)) >>= fun u72 => ((((pure v_s_42) >>= fun u65 => m__law_copy (u65, ())) >>= fun u67 => (pure none) >>= fun u68 => ((pure (0 : Int)) >>= fun u66 => pure (some u66)) >>= fun u69 => pure (cut u67 u68 u69)) >>= fun u73 => (pure (u70, u71, u72, u73)))))) >>= fun v_handed_74 => (((pure v_handed_74.1) >>= fun u75 => (pure v_handed_74.2.1) >>= fun u76 => m_Yard___init__ (u75, u76, ())) >>= fun v_yard_77 => (((pure v_handed_74.2.2.1) >>= fun u78 => (pure v_handed_74.2.2.2) >>= fun u79 => m_Yard___init__ (u78, u79, ())) >>= fun v_other_80 => (((pure v_handed_74) >>= fun u89 => ((pure v_goods_16) >>= fun u85 => ((pure v_s_42) >>= fun u86 => (((pure v_words_here_7) >>= fun u82 => (pure none) >>= fun u83 => ((pure v_many_59) >>= fun u81 => pure (some u81)) >>= fun u84 => pure (cut u82 u83 u84)) >>= fun u87 => ((pure []) >>= fun u88 => (pure (u85, u86, u87, u88)))))) >>= fun u90 => neW (fun x => (fun xs => ∀ x ∈ xs, (fun x => PyData.strOk x = true) x) x.1 ∧ (fun xs => ∀ x ∈ xs, (fun x => (fun x => PyData.strOk x = true) x.1 ∧ (fun xs => ∀ x ∈ xs, (fun x => (fun x => PyData.strOk x = true) x.1 ∧ (fun _ => True) x.2) x) x.2.1 ∧ (fun xs => ∀ x ∈ xs, (fun x => (fun x => PyData.strOk x = true) x.1 ∧ (fun _ => True) x.2) x) x.2.2) x) x.2.1 ∧ (fun xs => ∀ x ∈ xs, (fun x => PyData.strOk x = true) x) x.2.2.1 ∧ (fun xs => ∀ x ∈ xs, (fun x => (fun x => PyData.strOk x = true) x.1 ∧ (fun xs => ∀ x ∈ xs, (fun x => (fun x => PyData.strOk x = true) x.1 ∧ (fun _ => True) x.2) x) x.2.1 ∧ (fun xs => ∀ x ∈ xs, (fun x => (fun x => PyData.strOk x = true) x.1 ∧ (fun _ => True) x.2) x) x.2.2) x) x.2.2.2) u89 u90) >>= fun u91 => if u91 = true then ((pure false) >>= fun u92 => pure u92) else (W.req ((v_handed_74.1.length ≤ 1000000 ∧ v_handed_74.2.1.length ≤ 1000000 ∧ v_handed_74.2.2.1.length ≤ 1000000) ∧ ∀ z ∈ v_handed_74.2.1, z.2.1.length ≤ 1000000 ∧ z.2.2.length ≤ 1000000) (pure ()) >>= fun _ : Unit => (m_law_j2 v_words_here_7 v_goods_16 v_s_42 v_many_59 v_yard_77 v_other_80)))))))
def m_law_j4 (t : (List Int) × Unit) (v_words_here_7 : (List Str)) (v_goods_16 : (List Str)) (v_o_25 : ((List Str))) : W Bool :=
  ((pure []) >>= fun v_works_35 => (((((pure t.1) >>= fun u38 => ((pure (4 : Int)) >>= fun u36 => pure (some u36)) >>= fun u39 => ((pure (12 : Int)) >>= fun u37 => pure (some u37)) >>= fun u40 => pure (cut u38 u39 u40)) >>= fun u41 => pure (Y.enum u41)) >>= fun xs => W.foldM (fun (v_s_42 : (List (Str × (List (Str × Int)) × (List (Str × Int))))) (v_x_43 : (Int × Int)) => (m_law_b1 v_goods_16 v_o_25 v_s_42 v_x_43)) (v_works_35) xs) >>= fun v_s_42 => (m_law_j3 t v_words_here_7 v_goods_16 v_s_42)))
def m_law (t : (List Int) × Unit) : W Bool :=
  (((((pure t.1) >>= fun u1 => (pure (0 : Int)) >>= fun u2 => m__law_cell (u1, u2, ())) >>= fun u3 => (pure (1000000000000000000000000000000 : Int)) >>= fun u4 => modI u3 u4) >>= fun u5 => (pure (8 : Int)) >>= fun u6 => m__law_words (u5, u6, ())) >>= fun v_words_here_7 => (((pure v_words_here_7) >>= fun u13 => (pure none) >>= fun u14 => ((((pure t.1) >>= fun u8 => (pure (1 : Int)) >>= fun u9 => m__law_cell (u8, u9, ())) >>= fun u10 => (pure (6 : Int)) >>= fun u11 => modI u10 u11) >>= fun u12 => pure (some u12)) >>= fun u15 => pure (cut u13 u14 u15)) >>= fun v_goods_16 => (((pure v_words_here_7) >>= fun u17 => pure u17.reverse) >>= fun v_called_18 => ((((((pure t.1) >>= fun u19 => (pure (2 : Int)) >>= fun u20 => m__law_cell (u19, u20, ())) >>= fun u21 => (pure (2 : Int)) >>= fun u22 => modI u21 u22) >>= fun u23 => (pure (1 : Int)) >>= fun u24 => pure (decide (u23 = u24))) >>= fun u26 => if u26 = true then (((pure v_words_here_7) >>= fun xs => W.noX (compM (fun v_x_27 => pure true) (fun v_x_27 => ((pure ("x" : Str)) >>= fun u32 => ((pure v_x_27) >>= fun u29 => (pure none) >>= fun u30 => ((pure (7 : Int)) >>= fun u28 => pure (some u28)) >>= fun u31 => cutW u29 u30 u31) >>= fun u33 => catS u32 u33)) xs)) >>= fun v_called_34 => (pure (v_called_34))) else (pure (v_called_18))) >>= fun v_o_25 : (List Str) => (m_law_j4 t v_words_here_7 v_goods_16 v_o_25)))))
theorem w_law {M : Mc} {cY : Addr} (cC : Cls M.K cY) (b_enumerate : M.mg "enumerate" = none) (b_list : M.mg "list" = none) (h__law_words : FnV M "_law_words" 1 2 (fun (fr : Addr → Prop) (t : Int × Int × Unit) => [rI t.1, rI t.2.1]) (fun fr => (rN fr rS)) m__law_words) (h__law_cell : FnV M "_law_cell" 1 2 (fun (fr : Addr → Prop) (t : (List Int) × Int × Unit) => [(rL M.K rI) t.1, rI t.2.1]) (fun fr => rI) m__law_cell) (h__law_work : FnV M "_law_work" 2 4 (fun (fr : Addr → Prop) (t : Int × Str × (List Str) × Int × Unit) => [rI t.1, rS t.2.1, (rL M.K rS) t.2.2.1, rI t.2.2.2.1]) (fun fr => (rX3 fr rS (rN fr (rX2 fr rS rI)) (rN fr (rX2 fr rS rI)))) m__law_work) (h__law_copy : FnV M "_law_copy" 1 1 (fun (fr : Addr → Prop) (t : (List (Str × (List (Str × Int)) × (List (Str × Int)))) × Unit) => [(rL M.K (rT3 M.K rS (rL M.K (rT2 M.K rS rI)) (rL M.K (rT2 M.K rS rI)))) t.1]) (fun fr => (rN fr (rX3 fr rS (rN fr (rT2 M.K rS rI)) (rN fr (rT2 M.K rS rI))))) m__law_copy) (h_Yard___init__ : MakVN M "Yard" cY 3 2 (fun (fr : Addr → Prop) (t : (List Str) × (List (Str × (List (Str × Int)) × (List (Str × Int)))) × Unit) => [(rL M.K rS) t.1, (rL M.K (rT3 M.K rS (rL M.K (rT2 M.K rS rI)) (rL M.K (rT2 M.K rS rI)))) t.2.1]) (flYN M.K) m_Yard___init__) (h__law_told : FnV M "_law_told" 2 3 (fun (fr : Addr → Prop) (t : YardV × (List Str) × (List (Str × (List (Str × Int)) × (List (Str × Int)))) × Unit) => [(rIns cY (flY M.K)) t.1, (rL M.K rS) t.2.1, (rL M.K (rT3 M.K rS (rL M.K (rT2 M.K rS rI)) (rL M.K (rT2 M.K rS rI)))) t.2.2.1]) (fun fr => rB) m__law_told) {f : Addr} {fd : FuncData} (F : Fun M.K "law" "law" (top 23) f fd) : FnOk M.P M.w M.K M.mg M.base (L2.CX M.P M.w) 5 f fd ["_law_script"] (spV M (fun (_ : Addr → Prop) (t : (List Int) × Unit) => [rL M.K rI t.1]) (fun _ => rB) m_law) := by
  refine okBody (N := ["_law_script", "_law_words_here", "_law_goods", "_law_called", "_law_works", "_law_k", "_law_cell_here", "_law_many", "_law_handed", "_law_yard", "_law_other", "_law_one", "_law_word", "_law_work_here"]) F (⟨rfl, rfl, rfl, by decide +kernel, rfl, by decide +kernel, by decide +kernel⟩ : FnScope ["_law_script", "_law_words_here", "_law_goods", "_law_called", "_law_works", "_law_k", "_law_cell_here", "_law_many", "_law_handed", "_law_yard", "_law_other", "_law_one", "_law_word", "_law_work_here"] ["_law_script"] _) rfl (fun _ _ => rfl) (fun fr t => ?_)
  refine Ex.set (i := 1) (ρ := (rN fr rS)) rfl (stoOf rfl) (Ev.call2 (hd := rfl) (ρ := fun fr => (rN fr rS)) (mf := m__law_words) (ra := fun fr => rI) (rb := fun fr => rI) h__law_words (Nat.le_of_ble_eq_true rfl) rfl (Ev.mod (Ev.call2 (hd := rfl) (ρ := fun fr => rI) (mf := m__law_cell) (ra := fun fr => (rL M.K rI)) (rb := fun fr => rI) h__law_cell (Nat.le_of_ble_eq_true rfl) rfl (Ev.nameP (i := 0) rfl rfl rfl rfl) Ev.int (fun _ _ => rfl) (fun _ _ => rfl)) (Ev.powW (1000000000000000000000000000000 : Int) Ev.int Ev.int ⟨by decide, by decide, by decide⟩ (by decide))) Ev.int (fun _ _ => rfl) (fun _ _ => rfl)) (fun v_words_here_7 => ?_)
  refine Ex.set (i := 2) (ρ := (rN fr rS)) rfl (stoOf rfl) (EvO.list (EvO.slice (Ev.sub (subNL subR) (Ev.nameP (i := 1) rfl rfl rfl rfl)) EvP.none (EvP.some (Ev.mod (Ev.call2 (hd := rfl) (ρ := fun fr => rI) (mf := m__law_cell) (ra := fun fr => (rL M.K rI)) (rb := fun fr => rI) h__law_cell (Nat.le_of_ble_eq_true rfl) rfl (Ev.nameP (i := 0) rfl rfl rfl rfl) Ev.int (fun _ _ => rfl) (fun _ _ => rfl)) Ev.int)))) (fun v_goods_16 => ?_)
  refine Ex.set (i := 3) (ρ := (rN fr rS)) rfl (stoOf rfl) (EvO.list (EvO.rev (Ev.sub (subNL subR) (Ev.nameP (i := 1) rfl rfl rfl rfl)))) (fun v_called_18 => ?_)
  refine Ex.seq (J1 := fun v_o_25 : (List Str) => .nx [.val ((rL M.K rI) t.1), .val ((rN fr rS) v_words_here_7), .val ((rN fr rS) v_goods_16), .val ((rN fr rS) v_o_25), .no, .no, .no, .no, .no, .no, .no, .no, .no, .no]) (Ex1.ite (EvT.cmp (Ev.eqI (Ev.mod (Ev.call2 (hd := rfl) (ρ := fun fr => rI) (mf := m__law_cell) (ra := fun fr => (rL M.K rI)) (rb := fun fr => rI) h__law_cell (Nat.le_of_ble_eq_true rfl) rfl (Ev.nameP (i := 0) rfl rfl rfl rfl) Ev.int (fun _ _ => rfl) (fun _ _ => rfl)) Ev.int) Ev.int)) ?_ ?_) (fun v_o_25 => ?_)
  ·
    refine lcSet (i := 3) (S := fun a => .val (rN fr rS a)) (hS := lcVal) rfl rfl (LcOk.one (i := 12) rfl rfl (stoOf rfl) (fun _ h => nomatch h)) (EvI.list (Ev.sub (subNL subR) (Ev.nameP (i := 1) rfl rfl rfl rfl))) (fun v_x_27 => EvTs.nil) (fun v_x_27 => (Ev.cat Ev.str (Ev.sliceS (Ev.nameP (i := 12) rfl rfl rfl rfl) EvP.none (EvP.some Ev.int)))) (fun v_called_34 => ?_) (swLocal rfl rfl rfl rfl) (by intro _ _; rfl)
    exact Ex.nil rfl (.cons .rf (.cons .rf (.cons .rf (.cons .rf (.cons .no (.cons .no (.cons .no (.cons .no (.cons .no (.cons .no (.cons .no (.cons .no (.cons .no (.cons .no .nil))))))))))))))
  ·
    exact Ex.nil rfl (.cons .rf (.cons .rf (.cons .rf (.cons .rf (.cons .no (.cons .no (.cons .no (.cons .no (.cons .no (.cons .no (.cons .no (.cons .no (.cons .no (.cons .no .nil))))))))))))))
  show Ex _ _ _ _ _
  refine Ex.setO (i := 4) (O := oL fr (rX3 fr rS (rN fr (rX2 fr rS rI)) (rN fr (rX2 fr rS rI)))) rfl (stoOf rfl) EvO.nil (fun v_works_35 => ?_)
  refine Ex.seq (J1 := fun v_s_42 : (List (Str × (List (Str × Int)) × (List (Str × Int)))) => .nx [.val ((rL M.K rI) t.1), .val ((rN fr rS) v_words_here_7), .val ((rN fr rS) v_goods_16), .val ((rN fr rS) v_o_25), .own (oL fr (rX3 fr rS (rN fr (rX2 fr rS rI)) (rN fr (rX2 fr rS rI))) v_s_42), .no, .no, .no, .no, .no, .no, .no, .no, .no]) (Ex1.for (fun v_s_42 : (List (Str × (List (Str × Int)) × (List (Str × Int)))) => [.val ((rL M.K rI) t.1), .val ((rN fr rS) v_words_here_7), .val ((rN fr rS) v_goods_16), .val ((rN fr rS) v_o_25), .own (oL fr (rX3 fr rS (rN fr (rX2 fr rS rI)) (rN fr (rX2 fr rS rI))) v_s_42), .no, .no, .no, .no, .no, .no, .no, .no, .no]) (s0 := (v_works_35)) (EvI.enum (bt_enumerate rfl b_enumerate) (Ev.sub (subNL subR) (EvO.list (EvO.slice (Ev.nameP (i := 0) rfl rfl rfl rfl) (EvP.some Ev.int) (EvP.some Ev.int)))) (fun _ _ => rfl)) (EvG.tup2 (i := 5) (j := 6) rfl rfl (stoOf rfl) (stoOf rfl)) (.cons .rf (.cons .rf (.cons .rf (.cons .rf (.cons .rf (.cons .no (.cons .no (.cons .no (.cons .no (.cons .no (.cons .no (.cons .no (.cons .no (.cons .no .nil)))))))))))))) (fun v_s_42 v_x_43 => ?_)) (fun v_s_42 => ?_)
  ·
    refine Ex.seq (J1 := fun v_o_47 : (List (Str × (List (Str × Int)) × (List (Str × Int)))) => .nx [.val ((rL M.K rI) t.1), .val ((rN fr rS) v_words_here_7), .val ((rN fr rS) v_goods_16), .val ((rN fr rS) v_o_25), .own (oL fr (rX3 fr rS (rN fr (rX2 fr rS rI)) (rN fr (rX2 fr rS rI))) v_o_47), .val (rI v_x_43.1), .val (rI v_x_43.2), .no, .no, .no, .no, .no, .no, .no]) (Ex1.ite (EvT.borrow (.cons .rf (.cons .rf (.cons .rf (.cons .rf (.cons .li (.cons .rf (.cons .rf (.cons .rf (.cons .rf (.cons .rf (.cons .rf (.cons .rf (.cons .rf (.cons .rf .nil)))))))))))))) rfl (EvT.cmp (Ev.notInSL (Ev.ixLP (Ev.sub (subNL subR) (Ev.nameP (i := 3) rfl rfl rfl rfl)) (Ev.nameP (i := 5) rfl rfl rfl rfl)) (Ev.sub (subNL subR) (EvO.list (EvO.comp (LcOk.one (i := 13) (r := (rT3 M.K rS (rN fr (rX2 fr rS rI)) (rN fr (rX2 fr rS rI)))) rfl rfl (stoOf rfl) (fun _ h => nomatch h)) (EvI.list (Ev.sub (subNL (subXT3 subR subR subR)) (Ev.nameP (i := 4) rfl rfl rfl rfl))) (fun v_x_44 => EvTs.nil) (fun v_x_44 => (Ev.ixT3_0P (Ev.nameP (i := 13) rfl rfl rfl rfl))))))))) ?_ ?_) (fun v_o_47 => ?_)
    ·
      refine Ex.append (i := 4) (r := (rX3 fr rS (rN fr (rX2 fr rS rI)) (rN fr (rX2 fr rS rI)))) rfl (visOf rfl) rfl (Ev.call4 (hd := rfl) (ρ := fun fr => (rX3 fr rS (rN fr (rX2 fr rS rI)) (rN fr (rX2 fr rS rI)))) (mf := m__law_work) (ra := fun fr => rI) (rb := fun fr => rS) (rc := fun fr => (rL M.K rS)) (rd := fun fr => rI) h__law_work (Nat.le_of_ble_eq_true rfl) rfl (Ev.modP (Ev.nameP (i := 6) rfl rfl rfl rfl) (Ev.powW (1000000000000000000000000000000 : Int) Ev.int Ev.int ⟨by decide, by decide, by decide⟩ (by decide))) (Ev.ixLP (Ev.sub (subNL subR) (Ev.nameP (i := 3) rfl rfl rfl rfl)) (Ev.nameP (i := 5) rfl rfl rfl rfl)) (Ev.sub (subNL subR) (Ev.nameP (i := 2) rfl rfl rfl rfl)) (Ev.powW (10000000000000000000000000 : Int) Ev.int Ev.int ⟨by decide, by decide, by decide⟩ (by decide)) (fun _ _ => rfl) (fun _ _ => rfl) (fun _ _ => rfl) (fun _ _ => rfl)) (fun _ _ => rfl) (fun u53 => ?_)
      exact Ex.nil rfl (.cons .rf (.cons .rf (.cons .rf (.cons .rf (.cons .rf (.cons .rf (.cons .rf (.cons .no (.cons .no (.cons .no (.cons .no (.cons .no (.cons .no (.cons .no .nil))))))))))))))
    ·
      exact Ex.nil rfl (.cons .rf (.cons .rf (.cons .rf (.cons .rf (.cons .rf (.cons .rf (.cons .rf (.cons .no (.cons .no (.cons .no (.cons .no (.cons .no (.cons .no (.cons .no .nil))))))))))))))
    show Ex _ _ _ _ _
    exact Ex.nilLp rfl (.cons .rf (.cons .rf (.cons .rf (.cons .rf (.cons .rf (.cons .no (.cons .no (.cons .no (.cons .no (.cons .no (.cons .no (.cons .no (.cons .no (.cons .no .nil))))))))))))))
  show Ex _ _ _ _ _
  refine Ex.freeze (i := 4) rfl ?_
  show Ex _ [.val ((rL M.K rI) t.1), .val ((rN fr rS) v_words_here_7), .val ((rN fr rS) v_goods_16), .val ((rN fr rS) v_o_25), .val ((rN fr (rX3 fr rS (rN fr (rX2 fr rS rI)) (rN fr (rX2 fr rS rI)))) v_s_42), .no, .no, .no, .no, .no, .no, .no, .no, .no] _ _ _
  refine Ex.set (i := 7) (ρ := rI) rfl (stoOf rfl) (Ev.mod (Ev.call2 (hd := rfl) (ρ := fun fr => rI) (mf := m__law_cell) (ra := fun fr => (rL M.K rI)) (rb := fun fr => rI) h__law_cell (Nat.le_of_ble_eq_true rfl) rfl (Ev.nameP (i := 0) rfl rfl rfl rfl) Ev.int (fun _ _ => rfl) (fun _ _ => rfl)) Ev.int) (fun v_many_59 => ?_)
  refine Ex.setO (i := 8) (O := oW (fun fr => (rW4 fr (rN fr rS) (rN fr (rT3 M.K rS (rN fr (rT2 M.K rS rI)) (rN fr (rT2 M.K rS rI)))) (rN fr rS) (rN fr (rT3 M.K rS (rN fr (rT2 M.K rS rI)) (rN fr (rT2 M.K rS rI)))))) fr) rfl (stoOf rfl) (EvO.newW (Γ' := [.val ((rL M.K rI) t.1), .val ((rL M.K rS) v_words_here_7), .val ((rL M.K rS) v_goods_16), .val ((rL M.K rS) v_o_25), .val ((rL M.K (rT3 M.K rS (rL M.K (rT2 M.K rS rI)) (rL M.K (rT2 M.K rS rI)))) v_s_42), .no, .no, .val (rI v_many_59), .no, .no, .no, .no, .no, .no]) (ρ := fun fq => (rW4 fq (rN fq rS) (rN fq (rT3 M.K rS (rN fq (rT2 M.K rS rI)) (rN fq (rT2 M.K rS rI)))) (rN fq rS) (rN fq (rT3 M.K rS (rN fq (rT2 M.K rS rI)) (rN fq (rT2 M.K rS rI)))))) (.cons .rf (.cons (.sb ((subNL subR) _)) (.cons (.sb ((subNL subR) _)) (.cons (.sb ((subNL subR) _)) (.cons (.sb ((subNL (subXT3 subR (subNL (subXT2 subR subR)) (subNL (subXT2 subR subR)))) _)) (.cons .no (.cons .no (.cons .rf (.cons .no (.cons .no (.cons .no (.cons .no (.cons .no (.cons .no .nil)))))))))))))) (Frl.W4 (Frl.N Frl.fre) (Frl.N (Frl.T3 Frl.fre (Frl.N (Frl.T2 Frl.fre Frl.fre)) (Frl.N (Frl.T2 Frl.fre Frl.fre)))) (Frl.N Frl.fre) (Frl.N (Frl.T3 Frl.fre (Frl.N (Frl.T2 Frl.fre Frl.fre)) (Frl.N (Frl.T2 Frl.fre Frl.fre))))) (fun fq => (Ev.hlW4 (EvO.list (EvO.listOf (bt_list rfl b_list) (Ev.nameP (i := 2) rfl rfl rfl rfl) (fun _ _ => rfl))) (Ev.sub (subNN (subXT3 subR subR subR)) (Ev.call1 (hd := rfl) (ρ := fun fr => (rN fr (rX3 fr rS (rN fr (rT2 M.K rS rI)) (rN fr (rT2 M.K rS rI))))) (mf := m__law_copy) (ra := fun fr => (rL M.K (rT3 M.K rS (rL M.K (rT2 M.K rS rI)) (rL M.K (rT2 M.K rS rI))))) h__law_copy (Nat.le_of_ble_eq_true rfl) rfl (Ev.nameP (i := 4) rfl rfl rfl rfl) (fun _ _ => rfl))) (EvO.list (EvO.listOf (bt_list rfl b_list) (Ev.sub (subNL subR) (EvO.list (EvO.slice (Ev.nameP (i := 1) rfl rfl rfl rfl) EvP.none (EvP.some (Ev.nameP (i := 7) rfl rfl rfl rfl))))) (fun _ _ => rfl))) (Ev.sub (subNN (subXT3 subR subR subR)) (EvO.list (EvO.slice (Ev.sub (subNL subR) (Ev.call1 (hd := rfl) (ρ := fun fr => (rN fr (rX3 fr rS (rN fr (rT2 M.K rS rI)) (rN fr (rT2 M.K rS rI))))) (mf := m__law_copy) (ra := fun fr => (rL M.K (rT3 M.K rS (rL M.K (rT2 M.K rS rI)) (rL M.K (rT2 M.K rS rI))))) h__law_copy (Nat.le_of_ble_eq_true rfl) rfl (Ev.nameP (i := 4) rfl rfl rfl rfl) (fun _ _ => rfl))) EvP.none (EvP.some Ev.int)))) (fun _ _ => rfl) (fun _ _ => rfl) (fun _ _ => rfl) (fun _ _ => rfl)))) (fun v_handed_74 => ?_)
  refine Ex.set (i := 9) (ρ := (rIns cY (flYN M.K fr))) rfl (stoOf rfl) (Ev.newW (k := 8) (Γ' := [.val ((rL M.K rI) t.1), .val ((rL M.K rS) v_words_here_7), .val ((rL M.K rS) v_goods_16), .val ((rL M.K rS) v_o_25), .val ((rL M.K (rT3 M.K rS (rL M.K (rT2 M.K rS rI)) (rL M.K (rT2 M.K rS rI)))) v_s_42), .no, .no, .val (rI v_many_59), .val ((rH4 M.K (rL M.K rS) (rL M.K (rT3 M.K rS (rL M.K (rT2 M.K rS rI)) (rL M.K (rT2 M.K rS rI)))) (rL M.K rS) (rL M.K (rT3 M.K rS (rL M.K (rT2 M.K rS rI)) (rL M.K (rT2 M.K rS rI))))) v_handed_74), .no, .no, .no, .no, .no]) (R := (rH4 M.K (rL M.K rS) (rL M.K (rT3 M.K rS (rL M.K (rT2 M.K rS rI)) (rL M.K (rT2 M.K rS rI)))) (rL M.K rS) (rL M.K (rT3 M.K rS (rL M.K (rT2 M.K rS rI)) (rL M.K (rT2 M.K rS rI))))) v_handed_74) (ρ := fun fq => (rIns cY (flYN M.K fq))) rfl (oW_read (ρ := fun fr => (rW4 fr (rN fr rS) (rN fr (rT3 M.K rS (rN fr (rT2 M.K rS rI)) (rN fr (rT2 M.K rS rI)))) (rN fr rS) (rN fr (rT3 M.K rS (rN fr (rT2 M.K rS rI)) (rN fr (rT2 M.K rS rI)))))) (Frl.W4 (Frl.N Frl.fre) (Frl.N (Frl.T3 Frl.fre (Frl.N (Frl.T2 Frl.fre Frl.fre)) (Frl.N (Frl.T2 Frl.fre Frl.fre)))) (Frl.N Frl.fre) (Frl.N (Frl.T3 Frl.fre (Frl.N (Frl.T2 Frl.fre Frl.fre)) (Frl.N (Frl.T2 Frl.fre Frl.fre))))) ((subW4 (subNL subR) (subNL (subT3 subR (subNL subR) (subNL subR))) (subNL subR) (subNL (subT3 subR (subNL subR) (subNL subR)))) _)) (.cons .rf (.cons (.sb ((subNL subR) _)) (.cons (.sb ((subNL subR) _)) (.cons (.sb ((subNL subR) _)) (.cons (.sb ((subNL (subXT3 subR (subNL (subXT2 subR subR)) (subNL (subXT2 subR subR)))) _)) (.cons .no (.cons .no (.cons .rf (.cons .rf (.cons .no (.cons .no (.cons .no (.cons .no (.cons .no .nil)))))))))))))) Frl.YN (fun fq => (Ev.makeN2 (hd := rfl) (A := cY) (fl := flYN M.K) (mf := m_Yard___init__) (ra := fun fr => (rL M.K rS)) (rb := fun fr => (rL M.K (rT3 M.K rS (rL M.K (rT2 M.K rS rI)) (rL M.K (rT2 M.K rS rI))))) h_Yard___init__ (Nat.le_of_ble_eq_true rfl) rfl (Ev.ixH4_0 (Ev.nameP (i := 8) rfl rfl rfl rfl)) (Ev.ixH4_1 (Ev.nameP (i := 8) rfl rfl rfl rfl)) (fun _ _ => rfl) (fun _ _ => rfl)))) (fun v_yard_77 => ?_)
  refine Ex.set (i := 10) (ρ := (rIns cY (flYN M.K fr))) rfl (stoOf rfl) (Ev.newW (k := 8) (Γ' := [.val ((rL M.K rI) t.1), .val ((rL M.K rS) v_words_here_7), .val ((rL M.K rS) v_goods_16), .val ((rL M.K rS) v_o_25), .val ((rL M.K (rT3 M.K rS (rL M.K (rT2 M.K rS rI)) (rL M.K (rT2 M.K rS rI)))) v_s_42), .no, .no, .val (rI v_many_59), .val ((rH4 M.K (rL M.K rS) (rL M.K (rT3 M.K rS (rL M.K (rT2 M.K rS rI)) (rL M.K (rT2 M.K rS rI)))) (rL M.K rS) (rL M.K (rT3 M.K rS (rL M.K (rT2 M.K rS rI)) (rL M.K (rT2 M.K rS rI))))) v_handed_74), .val ((rIns cY (flY M.K)) v_yard_77), .no, .no, .no, .no]) (R := (rH4 M.K (rL M.K rS) (rL M.K (rT3 M.K rS (rL M.K (rT2 M.K rS rI)) (rL M.K (rT2 M.K rS rI)))) (rL M.K rS) (rL M.K (rT3 M.K rS (rL M.K (rT2 M.K rS rI)) (rL M.K (rT2 M.K rS rI))))) v_handed_74) (ρ := fun fq => (rIns cY (flYN M.K fq))) rfl (oW_read (ρ := fun fr => (rW4 fr (rN fr rS) (rN fr (rT3 M.K rS (rN fr (rT2 M.K rS rI)) (rN fr (rT2 M.K rS rI)))) (rN fr rS) (rN fr (rT3 M.K rS (rN fr (rT2 M.K rS rI)) (rN fr (rT2 M.K rS rI)))))) (Frl.W4 (Frl.N Frl.fre) (Frl.N (Frl.T3 Frl.fre (Frl.N (Frl.T2 Frl.fre Frl.fre)) (Frl.N (Frl.T2 Frl.fre Frl.fre)))) (Frl.N Frl.fre) (Frl.N (Frl.T3 Frl.fre (Frl.N (Frl.T2 Frl.fre Frl.fre)) (Frl.N (Frl.T2 Frl.fre Frl.fre))))) ((subW4 (subNL subR) (subNL (subT3 subR (subNL subR) (subNL subR))) (subNL subR) (subNL (subT3 subR (subNL subR) (subNL subR)))) _)) (.cons .rf (.cons (.sb ((subNL subR) _)) (.cons (.sb ((subNL subR) _)) (.cons (.sb ((subNL subR) _)) (.cons (.sb ((subNL (subXT3 subR (subNL (subXT2 subR subR)) (subNL (subXT2 subR subR)))) _)) (.cons .no (.cons .no (.cons .rf (.cons .rf (.cons (.sb (subYN _)) (.cons .no (.cons .no (.cons .no (.cons .no .nil)))))))))))))) Frl.YN (fun fq => (Ev.makeN2 (hd := rfl) (A := cY) (fl := flYN M.K) (mf := m_Yard___init__) (ra := fun fr => (rL M.K rS)) (rb := fun fr => (rL M.K (rT3 M.K rS (rL M.K (rT2 M.K rS rI)) (rL M.K (rT2 M.K rS rI))))) h_Yard___init__ (Nat.le_of_ble_eq_true rfl) rfl (Ev.ixH4_2 (Ev.nameP (i := 8) rfl rfl rfl rfl)) (Ev.ixH4_3 (Ev.nameP (i := 8) rfl rfl rfl rfl)) (fun _ _ => rfl) (fun _ _ => rfl)))) (fun v_other_80 => ?_)
  refine Ex.ifx (EvT.borrow (.cons .rf (.cons .rf (.cons .rf (.cons .rf (.cons .rf (.cons .rf (.cons .rf (.cons .rf (.cons (oW_val (ρ := fun fr => (rW4 fr (rN fr rS) (rN fr (rT3 M.K rS (rN fr (rT2 M.K rS rI)) (rN fr (rT2 M.K rS rI)))) (rN fr rS) (rN fr (rT3 M.K rS (rN fr (rT2 M.K rS rI)) (rN fr (rT2 M.K rS rI)))))) (R := (rW4 fr (rN fr rS) (rN fr (rT3 M.K rS (rN fr (rT2 M.K rS rI)) (rN fr (rT2 M.K rS rI)))) (rN fr rS) (rN fr (rT3 M.K rS (rN fr (rT2 M.K rS rI)) (rN fr (rT2 M.K rS rI))))) v_handed_74) (Frl.W4 (Frl.N Frl.fre) (Frl.N (Frl.T3 Frl.fre (Frl.N (Frl.T2 Frl.fre Frl.fre)) (Frl.N (Frl.T2 Frl.fre Frl.fre)))) (Frl.N Frl.fre) (Frl.N (Frl.T3 Frl.fre (Frl.N (Frl.T2 Frl.fre Frl.fre)) (Frl.N (Frl.T2 Frl.fre Frl.fre))))) (fun _ _ h => h)) (.cons .rf (.cons .rf (.cons .rf (.cons .rf (.cons .rf .nil)))))))))))))) rfl (EvT.cmp (Ev.neK (K := M.K) rfl (ρa := (rH4 M.K (rL M.K rS) (rL M.K (rT3 M.K rS (rL M.K (rT2 M.K rS rI)) (rL M.K (rT2 M.K rS rI)))) (rL M.K rS) (rL M.K (rT3 M.K rS (rL M.K (rT2 M.K rS rI)) (rL M.K (rT2 M.K rS rI)))))) (ρb := (rH4 M.K (rL M.K rS) (rL M.K (rT3 M.K rS (rL M.K (rT2 M.K rS rI)) (rL M.K (rT2 M.K rS rI)))) (rL M.K rS) (rL M.K (rT3 M.K rS (rL M.K (rT2 M.K rS rI)) (rL M.K (rT2 M.K rS rI)))))) rfl (Nat.le_of_ble_eq_true rfl) (Nat.le_of_ble_eq_true rfl) rfl (Ev.sub (subW4 (subNL subR) (subNL (subT3 subR (subNL subR) (subNL subR))) (subNL subR) (subNL (subT3 subR (subNL subR) (subNL subR)))) (Ev.nameP (i := 8) rfl rfl rfl rfl)) (Ev.sub (subW4 subR subR subR subR) (Ev.hlW4 (Ev.sub (subNL subR) (Ev.nameP (i := 2) rfl rfl rfl rfl)) (Ev.sub (subNL (subXT3 subR (subNL (subXT2 subR subR)) (subNL (subXT2 subR subR)))) (Ev.nameP (i := 4) rfl rfl rfl rfl)) (Ev.sub (subNL subR) (EvO.list (EvO.slice (Ev.sub (subNL subR) (Ev.nameP (i := 1) rfl rfl rfl rfl)) EvP.none (EvP.some (Ev.nameP (i := 7) rfl rfl rfl rfl))))) (Ev.sub (subNL subR) (EvO.list EvO.nil)) (fun _ _ => rfl) (fun _ _ => rfl) (fun _ _ => rfl) (fun _ _ => rfl)))))) ?_ ?_
  ·
    exact Ex.ret (ρ := rB) (fun u92 => u92) (fun _ => rfl) Ev.bool
  refine Ex.seq (J1 := fun _ : Unit => .nx [.val ((rL M.K rI) t.1), .val ((rN fr rS) v_words_here_7), .val ((rN fr rS) v_goods_16), .val ((rN fr rS) v_o_25), .val ((rN fr (rX3 fr rS (rN fr (rX2 fr rS rI)) (rN fr (rX2 fr rS rI)))) v_s_42), .no, .no, .val (rI v_many_59), .own (oJ4 2000000), .val ((rIns cY (flYN M.K fr)) v_yard_77), .val ((rIns cY (flYN M.K fr)) v_other_80), .no, .no, .no]) (Ex1.spoilW1 (i := 8) (j := 11) rfl rfl rfl (by decide) rfl rfl (stoOf rfl) rfl rfl rfl rfl (fun _ => (Ev.tupX2P Ev.str Ev.int (fun _ _ => rfl) (fun _ _ => rfl))) (fun _ _ => rfl)) (fun _ => ?_)
  show Ex _ _ _ _ _
  refine Ex.appJ4 (i := 8) (n := 0) (by decide) (by decide) rfl rfl rfl rfl (fun _ => pe_str) (fun _ _ => rfl) ?_
  refine Ex.clrJ4 (i := 8) (n := 1) (by decide) rfl rfl rfl rfl ?_
  refine Ex.clrJ4 (i := 8) (n := 2) (by decide) rfl rfl rfl rfl ?_
  refine Ex.ifx (EvW.t (EvW.or (EvT.not (EvT.val (Ev.call3 (hd := rfl) (ρ := fun fr => rB) (mf := m__law_told) (ra := fun fr => (rIns cY (flY M.K))) (rb := fun fr => (rL M.K rS)) (rc := fun fr => (rL M.K (rT3 M.K rS (rL M.K (rT2 M.K rS rI)) (rL M.K (rT2 M.K rS rI))))) h__law_told (Nat.le_of_ble_eq_true rfl) rfl (Ev.sub subYN (Ev.nameP (i := 9) rfl rfl rfl rfl)) (Ev.sub (subNL subR) (Ev.nameP (i := 2) rfl rfl rfl rfl)) (Ev.sub (subNL (subXT3 subR (subNL (subXT2 subR subR)) (subNL (subXT2 subR subR)))) (Ev.nameP (i := 4) rfl rfl rfl rfl)) (fun _ _ => rfl) (fun _ _ => rfl) (fun _ _ => rfl)))) (EvW.or1 (EvT.not (EvT.val (Ev.call3 (hd := rfl) (ρ := fun fr => rB) (mf := m__law_told) (ra := fun fr => (rIns cY (flY M.K))) (rb := fun fr => (rL M.K rS)) (rc := fun fr => (rL M.K (rT3 M.K rS (rL M.K (rT2 M.K rS rI)) (rL M.K (rT2 M.K rS rI))))) h__law_told (Nat.le_of_ble_eq_true rfl) rfl (Ev.sub subYN (Ev.nameP (i := 10) rfl rfl rfl rfl)) (Ev.sub (subNL subR) (EvO.list (EvO.slice (Ev.sub (subNL subR) (Ev.nameP (i := 1) rfl rfl rfl rfl)) EvP.none (EvP.some (Ev.nameP (i := 7) rfl rfl rfl rfl))))) (Ev.sub (subNL subR) (EvO.list EvO.nil)) (fun _ _ => rfl) (fun _ _ => rfl) (fun _ _ => rfl))))))) ?_ ?_
  ·
    exact Ex.ret (ρ := rB) (fun u107 => u107) (fun _ => rfl) Ev.bool
  exact Ex.ret (ρ := rB) (fun u111 => u111) (fun _ => rfl) (Ev.call3 (hd := rfl) (ρ := fun fr => rB) (mf := m__law_told) (ra := fun fr => (rIns cY (flY M.K))) (rb := fun fr => (rL M.K rS)) (rc := fun fr => (rL M.K (rT3 M.K rS (rL M.K (rT2 M.K rS rI)) (rL M.K (rT2 M.K rS rI))))) h__law_told (Nat.le_of_ble_eq_true rfl) rfl (Ev.sub subYN (Ev.nameP (i := 9) rfl rfl rfl rfl)) (Ev.sub (subNL subR) (Ev.nameP (i := 2) rfl rfl rfl rfl)) (Ev.sub (subNL (subXT3 subR (subNL (subXT2 subR subR)) (subNL (subXT2 subR subR)))) (Ev.nameP (i := 4) rfl rfl rfl rfl)) (fun _ _ => rfl) (fun _ _ => rfl) (fun _ _ => rfl))
end Y

/-! Z1: plain mathematics of ints; wp of the parts -/
namespace Y
open PySem
namespace W
variable {α β σ : Type} {P : α → Prop} {E : Exn → Prop}
/-- a fold by an invariant that knows what is done -/
theorem foldM_inv {f : σ → α → W σ} {E : Exn → Prop} (I : List α → σ → Prop) (xs : List α) (h : ∀ done x rest s, xs = done ++ x :: rest → I done s → (f s x).wp (fun s' => I (done ++ [x]) s') E) {s0 : σ} (h0 : I [] s0) {P : σ → Prop} (hP : ∀ s, I xs s → P s) : (foldM f s0 xs).wp P E := by
  have go : ∀ rest done s, xs = done ++ rest → I done s → (foldM f s rest).wp P E := by
    intro rest
    induction rest with
    | nil =>
      intro done s e hi
      rw [List.append_nil] at e
      subst e
      exact hP s hi
    | cons x rest ih =>
      intro done s e hi
      exact (f s x).mono (fun s' hs' => ih (done ++ [x]) s' (by simp [e]) hs') (fun _ z => z) (h done x rest s e hi)
  exact go xs [] s0 rfl h0
theorem compM_of {t : α → W Bool} {f : α → W β} {tb : α → Bool} {fb : α → β} : ∀ (xs : List α), (∀ x ∈ xs, ∀ (P : Bool → Prop) (E : Exn → Prop), P (tb x) → (t x).wp P E) → (∀ x ∈ xs, tb x = true → ∀ (P : β → Prop) (E : Exn → Prop), P (fb x) → (f x).wp P E) →
    ∀ (P : List β → Prop) (E : Exn → Prop), P ((xs.filter tb).map fb) → (W.noX (compM t f xs)).wp P E
  | [], _, _, P, E, hp => hp
  | x :: xs, h1, h2, P, E, hp => by
    show (t x).wp _ _
    refine h1 x (by simp) _ _ ?_
    have ih := compM_of xs (fun y hy => h1 y (by simp [hy])) (fun y hy => h2 y (by simp [hy]))
    cases e : tb x with
    | false =>
      rw [List.filter_cons_of_neg (by simp [e])] at hp
      exact ih P E hp
    | true =>
      rw [List.filter_cons_of_pos e] at hp
      show (f x).wp _ _
      refine h2 x (by simp) e _ _ ?_
      exact ih (fun ys => P (fb x :: ys)) E hp
/-- without a test -/
theorem compM_map {f : α → W β} {fb : α → β} (xs : List α) (h2 : ∀ x ∈ xs, ∀ (P : β → Prop) (E : Exn → Prop), P (fb x) → (f x).wp P E) (P : List β → Prop) (E : Exn → Prop) (hp : P (xs.map fb)) : (W.noX (compM (fun _ => pure true) f xs)).wp P E :=
  compM_of (tb := fun _ => true) (fb := fb) xs (fun _ _ _ _ h => h) (fun x hx _ => h2 x hx) P E (by rw [List.filter_eq_self.mpr (by simp)]; exact hp)
end W
section
variable {P : Int → Prop} {E : Exn → Prop} {x y : Int}
theorem wp_divI : (divI x y).wp P E = ((y ≠ 0 ∧ y.natAbs.log2 < 9000) ∧ P (x.fdiv y)) := rfl
theorem wp_modI : (modI x y).wp P E = (y ≠ 0 ∧ P (x.fmod y)) := rfl
theorem wp_mulI : (mulI x y).wp P E = (CMulB x y ∧ P (x * y)) := rfl
end
/-! ### sizes -/
def Sz (n : Nat) (x : Int) : Prop := x.natAbs < 2 ^ n
theorem Sz.log {n : Nat} {x : Int} (h : Sz n x) : x.natAbs.log2 ≤ n := by
  unfold Sz at h
  by_cases e : x.natAbs = 0
  · rw [e]; simp
  · exact Nat.le_of_lt ((Nat.log2_lt e).mpr h)
theorem Sz.of_le {n : Nat} {x y : Int} (h : Sz n x) (hy : y.natAbs ≤ x.natAbs) : Sz n y := Nat.lt_of_le_of_lt hy h
theorem Sz.mul {n m : Nat} {x y : Int} (h : Sz n x) (h' : Sz m y) : Sz (n + m) (x * y) := by
  unfold Sz at *
  rw [Int.natAbs_mul, Nat.pow_add]
  exact Nat.mul_lt_mul_of_lt_of_lt h h'
theorem Sz.add {n : Nat} {x y : Int} (h : Sz n x) (h' : Sz n y) : Sz (n + 1) (x + y) := by
  unfold Sz at *
  rw [Nat.pow_succ]
  omega
theorem Sz.sub {n : Nat} {x y : Int} (h : Sz n x) (h' : Sz n y) : Sz (n + 1) (x - y) := by
  unfold Sz at *
  rw [Nat.pow_succ]
  omega
theorem Sz.cmul {n m : Nat} {x y : Int} (h : Sz n x) (h' : Sz m y) (hs : n + m < 100000000) : CMulB x y := by
  have h1 := h.log
  have h2 := h'.log
  unfold CMulB
  omega
theorem Sz.zero {n : Nat} : Sz n 0 := Nat.pow_pos (by decide)
/-! ### the common measure -/
def gcdL (xs : List Int) : Int := xs.foldl (fun g x => (Int.gcd g x : Int)) 0
def lowL (xs : List Int) : List Int := if gcdL xs = 0 then xs else xs.map fun x => x.fdiv (gcdL xs)
/-- the size of a common measure -/
theorem Sz.gcd {n : Nat} {a b : Int} (ha : Sz n a) (hb : Sz n b) : Sz n (Int.gcd a b : Int) := by
  unfold Sz at *
  rw [Int.natAbs_natCast]
  by_cases e : a = 0
  · subst e; rw [Int.gcd_zero_left]; exact hb
  · have : Int.gcd a b ≤ a.natAbs := Nat.le_of_dvd (by omega) (Nat.gcd_dvd_left _ _)
    omega
theorem Sz.foldl_gcd {n : Nat} : ∀ (xs : List Int) (g : Int), Sz n g → (∀ x ∈ xs, Sz n x) → Sz n (xs.foldl (fun g x => (Int.gcd g x : Int)) g)
  | [], g, h, _ => h
  | x :: xs, g, h, hx => Sz.foldl_gcd xs _ (h.gcd (hx x (by simp))) fun y hy => hx y (by simp [hy])
theorem Sz.gcdL {n : Nat} {xs : List Int} (h : ∀ x ∈ xs, Sz n x) : Sz n (Y.gcdL xs) := Sz.foldl_gcd xs 0 Sz.zero h
theorem fmod_bd {a n : Int} (h : 0 < n) : 0 ≤ a.fmod n ∧ a.fmod n < n := by
  rw [Int.fmod_eq_emod_of_nonneg a (Int.le_of_lt h)]
  exact ⟨Int.emod_nonneg _ (Int.ne_of_gt h), Int.emod_lt_of_pos _ h⟩
theorem idx_of {α : Type} {xs : List α} {i : Int} {x : α} (h0 : 0 ≤ i) (h : xs[i.toNat]? = some x) {P : α → Prop} {E : Exn → Prop} (hp : P x) : (idx xs i).wp P E := by
  have e : L2.atI xs i = some x := by
    have := L2.atI_nat h
    rwa [Int.toNat_of_nonneg h0] at this
  unfold idx
  rw [e]
  exact hp
theorem cut_take {α : Type} (xs : List α) (n : Nat) : cut xs none (some (n : Int)) = xs.take n := by
  unfold cut
  rw [HT.sIx_none, HT.sIx_nat, List.drop_zero, Nat.sub_zero]
  rw [List.take_eq_take_iff]
  omega
theorem cut_length {α : Type} (xs : List α) (a b : Option Int) : (cut xs a b).length ≤ xs.length := by
  unfold cut
  rw [List.length_take, List.length_drop]
  omega
/-! ### ratios -/
/-- the measure by which a ratio is made plain, with the bottom's sign -/
def sgn (a b : Int) : Int := if b < 0 then -(Int.gcd a b : Int) else (Int.gcd a b : Int)
def nrm (a b : Int) : Int × Int := (a.fdiv (sgn a b), b.fdiv (sgn a b))
theorem sgn_dvd_l (a b : Int) : sgn a b ∣ a := by
  unfold sgn
  split
  · exact Int.neg_dvd.mpr (Int.gcd_dvd_left ..)
  · exact Int.gcd_dvd_left ..
theorem sgn_dvd_r (a b : Int) : sgn a b ∣ b := by
  unfold sgn
  split
  · exact Int.neg_dvd.mpr (Int.gcd_dvd_right ..)
  · exact Int.gcd_dvd_right ..
theorem natAbs_fdiv_le (a b : Int) (h : b ∣ a) : (a.fdiv b).natAbs ≤ a.natAbs := by
  rw [Int.fdiv_eq_ediv_of_dvd h]
  exact Int.natAbs_ediv_le_natAbs _ _
theorem Sz.nrm {n m : Nat} {a b : Int} (ha : Sz n a) (hb : Sz m b) : Sz n (Y.nrm a b).1 ∧ Sz m (Y.nrm a b).2 := ⟨ha.of_le (natAbs_fdiv_le _ _ (sgn_dvd_l a b)), hb.of_le (natAbs_fdiv_le _ _ (sgn_dvd_r a b))⟩
theorem Sz.neg {n : Nat} {a : Int} (ha : Sz n a) : Sz n (-a) := by unfold Sz at *; omega
theorem Sz.sgn {n m : Nat} {a b : Int} (ha : Sz n a) (hb : Sz n b) : Sz n (Y.sgn a b) := by
  unfold Y.sgn
  split
  · exact (ha.gcd hb).neg
  · exact ha.gcd hb
/-! ### loops that may return, ranges -/
theorem W.foldR_all {α ρ : Type} {f : Unit → α → W (Fl Unit ρ)} : ∀ (xs : List α), (∀ x ∈ xs, ∀ (P : Fl Unit ρ → Prop) (E : Exn → Prop), P (.go ()) → (f () x).wp P E) → ∀ (P : Fl Unit ρ → Prop) (E : Exn → Prop), P (.go ()) → (W.foldR f () xs).wp P E
  | [], _, _, _, hp => hp
  | x :: xs, h, P, E, hp => by
    refine h x (by simp) _ _ ?_
    exact W.foldR_all xs (fun y hy => h y (by simp [hy])) P E hp
theorem mem_rng {lo hi x : Int} : x ∈ rng lo hi ↔ lo ≤ x ∧ x < hi := by
  unfold rng
  rw [List.mem_map]
  constructor
  · rintro ⟨i, hi, rfl⟩
    have := List.mem_range.mp hi
    omega
  · intro ⟨h1, h2⟩
    exact ⟨(x - lo).toNat, List.mem_range.mpr (by omega), by omega⟩
theorem le_range {n : Int} (h : 0 ≤ n) (h2 : n ≤ 1000000) {P : List Int → Prop} {E : Exn → Prop} (hp : P (rng 0 n)) : (rangeW 0 n).wp P E := ⟨⟨by omega, by omega, by omega, by omega, by omega⟩, hp⟩
/-! ### numbers of a script -/
def Bz (x : Int) : Prop := x.natAbs.log2 ≤ 2000000
theorem BitsOk.bz {x : Int} (h : BitsOk x) : Bz x := by
  unfold BitsOk Builtin.Int.intBits at h
  unfold Bz
  split at h
  · rename_i e
    have : x.natAbs = 0 := by simpa using e
    rw [this]; simp
  · omega
theorem Bz.of_le {x y : Int} (h : Bz x) (hy : y.natAbs ≤ x.natAbs) : Bz y := by
  unfold Bz at *
  by_cases e : y.natAbs = 0
  · rw [e]; simp
  · have h1 : x.natAbs ≠ 0 := by omega
    have h2 : y.natAbs.log2 ≤ x.natAbs.log2 := by
      have := Nat.log2_self_le e
      exact (Nat.le_log2 h1).mpr (by omega)
    omega
theorem Bz.cmul {m : Nat} {x y : Int} (h : Bz x) (h' : Sz m y) (hs : m ≤ 1000000) : CMulB x y := by
  have h2 := h'.log
  unfold CMulB
  unfold Bz at h
  omega
theorem Sz.bz {n : Nat} {x : Int} (h : Sz n x) (hn : n ≤ 2000000) : Bz x := by
  have := h.log
  unfold Bz
  omega
theorem BitsOk.zero : Bz 0 := by unfold Bz; decide
theorem cut_drop {α : Type} (xs : List α) (n : Nat) : cut xs (some (n : Int)) none = xs.drop n := by
  unfold cut
  rw [HT.sIx_none, HT.sIx_nat]
  rw [List.take_of_length_le (by rw [List.length_drop]; omega)]
  by_cases h : n ≤ xs.length
  · rw [Nat.min_eq_left h]
  · rw [Nat.min_eq_right (by omega), List.drop_of_length_le (Nat.le_refl _), List.drop_of_length_le (by omega)]
/-- what a try makes of an exception -/
def TryX {ω : Type} (c : Str → Option Bool) (h : Exn → W ω) (P : ω → Prop) (E : Exn → Prop) (e : Exn) : Prop := match c e.cls with
  | some true => e.pay = none ∧ (h e).wp P (fun _ => False)
  | some false => E e
  | none => False
end Y

namespace Y
open PySem
def cellAt (ns : List Int) (k : Int) : Int := ns.getD k.toNat 0
theorem le_cell {ns : List Int} {k : Int} (hk : 0 ≤ k) {P : Int → Prop} {E : Exn → Prop} (hp : P (cellAt ns k)) : (m__law_cell (ns, k, ())).wp P E := by
  unfold m__law_cell
  simp only [W.wp_bind, W.wp_pure, W.wp_ite]
  unfold cellAt at hp
  split
  · rename_i h
    have h1 : k < (ns.length : Int) := of_decide_eq_true h
    have h2 : k.toNat < ns.length := by omega
    refine idx_of hk (List.getElem?_eq_getElem h2) ?_
    rw [List.getD_eq_getElem?_getD, List.getElem?_eq_getElem h2] at hp
    exact hp
  · rename_i h
    have h1 : ¬ k < (ns.length : Int) := fun z => h (decide_eq_true z)
    have h2 : ns.length ≤ k.toNat := by omega
    rw [List.getD_eq_getElem?_getD, List.getElem?_eq_none h2] at hp
    exact hp
theorem le_next {c k : Int} (hc : Bz c) (hk : 0 ≤ k) (hk2 : k < 1000) {P : Int → Prop} {E : Exn → Prop} (hp : ∀ r, Bz r → (0 ≤ c → 0 ≤ r) → P r) : (m__law_next (c, k, ())).wp P E := by
  unfold m__law_next
  simp only [W.wp_bind, W.wp_pure, W.wp_ite, wp_divI, wp_modI, wp_mulI]
  split
  · rename_i h
    have h1 : 2147483648 ≤ c := of_decide_eq_true h
    have e : c.fdiv 1890 = c / 1890 := Int.fdiv_eq_ediv_of_nonneg _ (by decide)
    refine ⟨⟨by decide, by decide⟩, hp _ (hc.of_le ?_) fun _ => ?_⟩
    · rw [e]; exact Int.natAbs_ediv_le_natAbs _ _
    · rw [e]; exact Int.ediv_nonneg (by omega) (by decide)
  · have z1 : Sz 30 k := by unfold Sz; omega
    have z2 : Sz 60 (48271 + 21350 * k) := by unfold Sz; omega
    have q1 := fmod_bd (a := c * (48271 + 21350 * k) + 12345 + k) (n := 2147483647) (by decide)
    have z3 : Sz 40 ((c * (48271 + 21350 * k) + 12345 + k).fmod 2147483647) := by unfold Sz; omega
    have q2 := fmod_bd (a := (c * (48271 + 21350 * k) + 12345 + k).fmod 2147483647 * 16807) (n := 2147483629) (by decide)
    refine ⟨(show Sz 20 (21350 : Int) by unfold Sz; decide).cmul z1 (by decide), hc.cmul z2 (by decide), by decide, z3.cmul (show Sz 20 (16807 : Int) by unfold Sz; decide) (by decide), by decide, hp _ ?_ fun _ => q2.1⟩
    have z4 : Sz 40 (((c * (48271 + 21350 * k) + 12345 + k).fmod 2147483647 * 16807).fmod 2147483629) := by unfold Sz; omega
    exact z4.bz (by decide)
def small (c : Nat) : Bool := decide (97 ≤ c ∧ c ≤ 122)
def isn (z : Str) : Bool := decide (1 ≤ (z.length : Int)) && decide ((z.length : Int) ≤ 8) && z.cps.toList.all small
theorem small_mem (c : Nat) : memS ⟨#[c]⟩ ("abcdefghijklmnopqrstuvwxyz" : Str) = small c := by
  have e : ("abcdefghijklmnopqrstuvwxyz" : Str).cps.toList = List.range' 97 26 := by decide +kernel
  show decide (c ∈ ("abcdefghijklmnopqrstuvwxyz" : Str).cps.toList) = small c
  rw [e]
  unfold small
  have : c ∈ List.range' 97 26 ↔ 97 ≤ c ∧ c ≤ 122 := by rw [List.mem_range'_1]; omega
  simp only [this]
theorem W.foldR_find {α ρ : Type} {f : Unit → α → W (Fl Unit ρ)} {ok : α → Bool} {r : ρ} {E : Exn → Prop} : ∀ (xs : List α), (∀ x ∈ xs, ∀ (P : Fl Unit ρ → Prop), P (if ok x = true then .go () else .ret r) → (f () x).wp P E) → ∀ (P : Fl Unit ρ → Prop), P (if xs.all ok = true then .go () else .ret r) → (W.foldR f () xs).wp P E
  | [], _, _, hp => hp
  | x :: xs, h, P, hp => by
    refine h x (by simp) _ ?_
    rw [List.all_cons] at hp
    cases e : ok x with
    | false =>
      rw [e, Bool.false_and] at hp
      rw [if_neg (by simp)]
      rw [if_neg (by simp)] at hp
      exact hp
    | true =>
      rw [e, Bool.true_and] at hp
      rw [if_pos rfl]
      exact W.foldR_find xs (fun y hy => h y (by simp [hy])) P hp
theorem all_signs {z : Str} {p : Str → Bool} {q : Nat → Bool} (h : ∀ c, p ⟨#[c]⟩ = q c) : (signs z).all p = z.cps.toList.all q := by
  unfold signs
  rw [List.all_map]
  congr 1
  funext c
  exact h c
def okS (x : Str) : Bool := memS x ("abcdefghijklmnopqrstuvwxyz" : Str)
theorem mem_signs {z x : Str} (h : x ∈ signs z) : ∃ c, x = ⟨#[c]⟩ := by
  obtain ⟨c, _, e⟩ := List.mem_map.mp h
  exact ⟨c, e.symm⟩
theorem le_isname {z : Str} (hl : z.length ≤ 100000) {P : Bool → Prop} {E : Exn → Prop} (hp : P (isn z)) : (m_is_name (z, ())).wp P E := by
  have hs : z.length ≤ sizeLine := Nat.le_trans hl (by decide)
  unfold m_is_name
  simp only [W.wp_bind, W.wp_pure, W.wp_ite, wp_chW]
  refine ⟨hs, ?_⟩
  simp only [W.wp_pure]
  unfold isn at hp
  have rest : (decide (1 ≤ (z.length : Int)) = true) → (decide ((z.length : Int) ≤ 8) = true) → P (z.cps.toList.all small) := fun h1 h2 => by rw [h1, h2] at hp; exact hp
  by_cases h1 : (1 : Int) ≤ z.length
  · rw [if_pos (decide_eq_true h1)]
    by_cases h2 : (z.length : Int) ≤ 8
    · rw [if_neg (by simp only [h2, decide_true]; decide)]
      have hp := rest (decide_eq_true h1) (decide_eq_true h2)
      refine ⟨hs, ?_⟩
      refine W.foldR_find (ok := okS) (r := false) _ (fun x hx P hp => ?_) _ ?_
      · obtain ⟨c, rfl⟩ := mem_signs hx
        unfold m_is_name_b1
        simp only [W.wp_bind, W.wp_pure, W.wp_ite]
        refine ⟨rfl, ?_⟩
        unfold okS at hp
        cases e : memS ⟨#[c]⟩ ("abcdefghijklmnopqrstuvwxyz" : Str) with
        | true => rw [e] at hp; exact hp
        | false => rw [e] at hp; exact hp
      · rw [all_signs (q := small) small_mem]
        cases e : z.cps.toList.all small with
        | true => rw [e] at hp; exact hp
        | false => rw [e] at hp; exact hp
    · rw [if_pos (by simp only [h2, decide_false]; decide)]
      rw [decide_eq_false h2] at hp
      simpa using hp
  · rw [if_neg (by simpa using h1)]
    rw [decide_eq_false h1] at hp
    simpa using hp
theorem isn_strOk {z : Str} (h : isn z = true) : PyData.strOk z = true := by
  unfold isn at h
  rw [Bool.and_eq_true] at h
  have h2 := List.all_eq_true.mp h.2
  unfold PyData.strOk
  rw [← Array.all_toList]
  refine List.all_eq_true.mpr fun c hc => ?_
  have := of_decide_eq_true (h2 c hc)
  simp
  omega
/-! ### names that are told -/
theorem tl_lenX (z : Str) : z.cps.toList.length = z.length := by simp [Str.length]
theorem str_extX {x y : Str} (h : x.cps.toList = y.cps.toList) : x = y := by
  obtain ⟨⟨a⟩⟩ := x
  obtain ⟨⟨b⟩⟩ := y
  have h' : a = b := h
  rw [h']
def stL (l : List Nat) : Str := ⟨l.toArray⟩
theorem stL_tl (l : List Nat) : (stL l).cps.toList = l := rfl
theorem stL_len (l : List Nat) : (stL l).length = l.length := by rw [← tl_lenX, stL_tl]
theorem stL_inj {a b : List Nat} (h : stL a = stL b) : a = b := by rw [← stL_tl a, h, stL_tl]
theorem stL_app (a b : List Nat) : stL a ++ stL b = stL (a ++ b) := by
  refine str_extX ?_
  show ((stL a).cps ++ (stL b).cps).toList = _
  rw [Array.toList_append, stL_tl, stL_tl, stL_tl]
def abc (i : Int) : Nat := 97 + i.toNat
theorem w_abc {i : Int} (h0 : 0 ≤ i) (h : i < 26) {P : Str → Prop} {E : Exn → Prop} (hp : P (stL [abc i])) : (idxS ("abcdefghijklmnopqrstuvwxyz" : Str) i).wp P E := by
  have e0 : ("abcdefghijklmnopqrstuvwxyz" : Str).cps.toList = List.range' 97 26 := by decide +kernel
  have e : L2.atI ("abcdefghijklmnopqrstuvwxyz" : Str).cps.toList i = some (abc i) := by
    rw [e0]
    have h2 : i.toNat < 26 := by omega
    have := L2.atI_nat (xs := List.range' 97 26) (j := i.toNat) (v := abc i) (by rw [List.getElem?_range' h2]; unfold abc; simp)
    rwa [Int.toNat_of_nonneg h0] at this
  refine ⟨by decide, ?_⟩
  rw [e]
  exact hp
theorem w_cat {a b : List Nat} (h : a.length + b.length ≤ 100000) {P : Str → Prop} {E : Exn → Prop} (hp : P (stL (a ++ b))) : (catS (stL a) (stL b)).wp P E := by
  refine ⟨?_, ?_⟩
  · rw [stL_len, stL_len]; exact Nat.le_trans h (by decide)
  · rw [stL_app]; exact hp
theorem w_cut {x : List Nat} {a b : Option Int} (h : x.length ≤ 100000) {P : Str → Prop} {E : Exn → Prop} (hp : P (stL (cut x a b))) : (cutW (stL x) a b).wp P E := by
  refine ⟨by rw [stL_len]; exact Nat.le_trans h (by decide), ?_⟩
  have : L2.cutS (stL x) a b = stL (cut x a b) := by
    unfold L2.cutS cut
    rw [stL_len, stL_tl]
    rfl
  rw [this]
  exact hp
theorem cut_but {α : Type} (xs : List α) : cut xs none (some (-1)) = xs.take (xs.length - 1) := by
  unfold cut
  have e : HT.sIx xs.length xs.length (some (-1)) = xs.length - 1 := by
    show (if (-1 : Int) < 0 then ((-1 : Int) + (xs.length : Int)).toNat else min (-1 : Int).toNat xs.length) = _
    rw [if_pos (by decide)]
    omega
  rw [HT.sIx_none, List.drop_zero, Nat.sub_zero, e]
/-- a name in a list of names: which one, of the word w -/
def nmL (w : List Nat) (at_ : Nat) (b : Bool) (l k : Nat) : List Nat := if b = true then (if k = 0 then w else if k = 1 then w.take (w.length - 1) else w ++ [l]) else w.take at_ ++ [l] ++ w.drop (at_ + 1)
theorem nmL_ok {w : List Nat} {at_ : Nat} {b : Bool} {l k : Nat} (hw : 2 ≤ w.length ∧ w.length ≤ 7) (ha : at_ < w.length) (hs : w.all small = true) (hl : small l = true) : isn (stL (nmL w at_ b l k)) = true := by
  have hs' : ∀ c ∈ w, small c = true := List.all_eq_true.mp hs
  have key : ∀ z : List Nat, 1 ≤ z.length → z.length ≤ 8 → (∀ c ∈ z, small c = true) → isn (stL z) = true := fun z h1 h2 h3 => by
    unfold isn
    rw [stL_len, stL_tl]
    rw [decide_eq_true (by omega), decide_eq_true (by omega), List.all_eq_true.mpr h3]
    rfl
  unfold nmL
  split
  · split
    · exact key _ (by omega) (by omega) hs'
    · split
      · exact key _ (by rw [List.length_take]; omega) (by rw [List.length_take]; omega) fun c hc => hs' c (List.mem_of_mem_take hc)
      · refine key _ (by simp) (by simp; omega) fun c hc => ?_
        rcases List.mem_append.mp hc with q | q
        · exact hs' c q
        · rw [List.mem_singleton.mp q]; exact hl
  · refine key _ (by simp; omega) (by simp [List.length_take, List.length_drop]; omega) fun c hc => ?_
    rcases List.mem_append.mp hc with q | q
    · rcases List.mem_append.mp q with q | q
      · exact hs' c (List.mem_of_mem_take q)
      · rw [List.mem_singleton.mp q]; exact hl
    · exact hs' c (List.mem_of_mem_drop q)
theorem nmL_ne {w : List Nat} {at_ : Nat} {b : Bool} {l1 l2 k1 k2 : Nat} (hw : 2 ≤ w.length) (ha : at_ < w.length) (hk : k1 < k2) (hl : l1 ≠ l2) : nmL w at_ b l1 k1 ≠ nmL w at_ b l2 k2 := by
  intro h
  unfold nmL at h
  split at h
  · rw [if_neg (show ¬ k2 = 0 by omega)] at h
    by_cases h0 : k1 = 0
    · rw [if_pos h0] at h
      have e := congrArg List.length h
      split at e
      · rw [List.length_take] at e; omega
      · simp at e
    · rw [if_neg h0, if_neg (show ¬ k2 = 1 by omega)] at h
      by_cases h1 : k1 = 1
      · rw [if_pos h1] at h
        have e := congrArg List.length h
        rw [List.length_take] at e
        simp at e
      · rw [if_neg h1] at h
        have := List.append_cancel_left h
        simp at this
        exact hl this
  · rw [List.append_assoc, List.append_assoc] at h
    have := List.append_cancel_left h
    simp only [List.cons_append, List.nil_append, List.cons.injEq] at this
    exact hl this.1
/-- the names told of a number: so many, all unlike -/
structure WordsOk (m : Int) (ws : List Str) : Prop where
  len : (ws.length : Int) = m
  isn : ∀ w ∈ ws, Y.isn w = true
  nd : ws.Nodup
def letN (c k : Int) : Nat := abc ((c.fdiv 6 + 3 * k + 1).fmod 26)
theorem letN_small (c k : Int) : small (letN c k) = true := by
  have := fmod_bd (a := c.fdiv 6 + 3 * k + 1) (n := 26) (by decide)
  unfold letN abc small
  exact decide_eq_true (by omega)
theorem letN_ne {c k1 k2 : Int} (h0 : 0 ≤ k1) (h : k1 < k2) (h2 : k2 < 26) : letN c k1 ≠ letN c k2 := by
  have q1 := fmod_bd (a := c.fdiv 6 + 3 * k1 + 1) (n := 26) (by decide)
  have q2 := fmod_bd (a := c.fdiv 6 + 3 * k2 + 1) (n := 26) (by decide)
  unfold letN abc
  have e1 : (c.fdiv 6 + 3 * k1 + 1).fmod 26 = (c.fdiv 6 + 3 * k1 + 1) % 26 := Int.fmod_eq_emod_of_nonneg _ (by decide)
  have e2 : (c.fdiv 6 + 3 * k2 + 1).fmod 26 = (c.fdiv 6 + 3 * k2 + 1) % 26 := Int.fmod_eq_emod_of_nonneg _ (by decide)
  rw [e1] at q1 ⊢
  rw [e2] at q2 ⊢
  omega
theorem le_wordsX {c m : Int} (hc : Sz 200 c) (hm : 0 ≤ m) (hm2 : m ≤ 26) {P : List Str → Prop} {E : Exn → Prop} (hp : ∀ ws : List Str, WordsOk m ws → P ws) : (m__law_words (c, m, ())).wp P E := by
  have h6 := fmod_bd (a := c) (n := 6) (by decide)
  unfold m__law_words
  simp only [W.wp_bind, W.wp_pure, wp_modI]
  refine ⟨by decide, le_range (by omega) (by omega) ?_⟩
  have s156 : Sz 200 (c.fdiv 156) := hc.of_le (by rw [Int.fdiv_eq_ediv_of_nonneg _ (by decide)]; exact Int.natAbs_ediv_le_natAbs _ _)
  refine W.foldM_inv (α := Int) (σ := Str) (s0 := ("" : Str)) (fun (done : List Int) (s : Str) => ∃ l : List Nat, s = stL l ∧ l.length = done.length ∧ l.all small = true) _ ?h ⟨[], rfl, rfl, rfl⟩ ?hP
  · intro done x rest s e ⟨l, es, hl0, hs0⟩
    subst es
    have hl : done.length ≤ 7 ∧ (x : Int) < 10 ∧ 0 ≤ x := by
      have h3 : (done ++ x :: rest).length = (rng 0 (2 + c.fmod 6)).length := by rw [e]
      have h4 : x ∈ rng 0 (2 + c.fmod 6) := by rw [e]; simp
      have h5 := mem_rng.mp h4
      rw [rng_length] at h3
      simp at h3
      omega
    unfold m__law_words_b1
    simp only [W.wp_bind, W.wp_pure, wp_modI, wp_divI, wp_mulI]
    have sx : Sz 10 x := by unfold Sz; omega
    have h26 := fmod_bd (a := c.fdiv 6 + x * c.fdiv 156) (n := 26) (by decide)
    refine ⟨⟨by decide, by decide⟩, ⟨by decide, by decide⟩, sx.cmul s156 (by decide), by decide, w_abc h26.1 h26.2 (w_cat (by simp; omega) ⟨_, rfl, by simp [hl0], ?_⟩)⟩
    rw [List.all_append, hs0]
    simp only [List.all_cons, List.all_nil, Bool.and_true, Bool.true_and]
    unfold abc small
    exact decide_eq_true (by omega)
  · intro w ⟨l, ew, hl0, hs0⟩
    subst ew
    have hl : 2 ≤ l.length ∧ l.length ≤ 7 := by rw [hl0, rng_length]; omega
    have hlI : (l.length : Int) = 2 + c.fmod 6 := by rw [hl0, rng_length]; omega
    unfold m__law_words_j4
    simp only [W.wp_bind, W.wp_pure, wp_modI, wp_divI]
    have hat := fmod_bd (a := c.fdiv 2) (n := 2 + c.fmod 6) (by omega)
    obtain ⟨at_, eat⟩ : ∃ n : Nat, (c.fdiv 2).fmod (2 + c.fmod 6) = (n : Int) := ⟨((c.fdiv 2).fmod (2 + c.fmod 6)).toNat, by omega⟩
    rw [eat] at hat ⊢
    have hat2 : at_ < l.length := by omega
    obtain ⟨b, hb⟩ : ∃ b : Bool, b = decide ((c.fdiv 5).fmod 3 = 1) := ⟨_, rfl⟩
    refine ⟨⟨by decide, by decide⟩, by omega, le_range hm (by omega) ?_⟩
    have hnm : ∀ x : Int, isn (stL (nmL l at_ b (letN c x) x.toNat)) = true := fun x => nmL_ok hl hat2 hs0 (letN_small c x)
    refine W.foldM_inv (α := Int) (σ := List Str) (P := P) (s0 := ([] : List Str)) (fun done (s : List Str) => s = done.map fun x => stL (nmL l at_ b (letN c x) x.toNat)) (rng 0 m) ?h2 rfl ?hP2
    · intro done x rest s e h1
      have hx : done.length ≤ 100 ∧ (x : Int) < 26 ∧ 0 ≤ x := by
        have h3 : (done ++ x :: rest).length = (rng 0 m).length := by rw [e]
        have h4 : x ∈ rng 0 m := by rw [e]; simp
        have h5 := mem_rng.mp h4
        rw [rng_length] at h3
        simp at h3
        omega
      have fin : ∀ n : Str, n = stL (nmL l at_ b (letN c x) x.toNat) → (m__law_words_j2 s n).wp (fun s' => s' = (done ++ [x]).map fun x => stL (nmL l at_ b (letN c x) x.toNat)) E := fun n hn => by
        unfold m__law_words_j2
        simp only [W.wp_bind, W.wp_pure, W.wp_req]
        subst h1
        exact ⟨by rw [List.length_map]; omega, by rw [hn]; simp⟩
      unfold m__law_words_b3
      simp only [W.wp_bind, W.wp_pure, wp_modI, wp_divI, wp_mulI, W.wp_ite]
      have sx : Sz 10 x := by unfold Sz; omega
      have h26 := fmod_bd (a := c.fdiv 6 + 3 * x + 1) (n := 26) (by decide)
      refine ⟨⟨by decide, by decide⟩, (show Sz 3 3 by unfold Sz; decide).cmul sx (by decide), by decide, w_abc h26.1 h26.2 ?_⟩
      have ecut : cut l (some ((at_ : Int) + 1)) none = l.drop (at_ + 1) := by
        rw [show ((at_ : Int) + 1) = ((at_ + 1 : Nat) : Int) by omega]; exact cut_drop _ _
      refine w_cut (by omega) (w_cat (by have := cut_length l none (some (at_ : Int)); simp; omega) (w_cut (by omega) (w_cat (by have := cut_length l none (some (at_ : Int)); have := cut_length l (some ((at_ : Int) + 1)) none; simp; omega) ⟨⟨by decide, by decide⟩, by decide, ?_⟩)))
      rw [cut_take, ecut]
      split
      · rename_i hbb
        have hbt : b = true := by rw [hb]; exact hbb
        refine w_cut (by omega) (w_cat (by simp; omega) ?_)
        rw [cut_but]
        by_cases k0 : x = 0
        · subst k0
          exact idx_of (i := if (2 : Int) < 0 then 2 else 0) (x := stL l) (by decide) rfl (fin _ (by unfold nmL; rw [if_pos hbt, if_pos (by decide)]))
        · by_cases k1 : x = 1
          · subst k1
            exact idx_of (i := if (2 : Int) < 1 then 2 else 1) (x := stL (l.take (l.length - 1))) (by decide) rfl (fin _ (by unfold nmL; rw [if_pos hbt, if_neg (by decide), if_pos (by decide)]))
          · have e2 : (if (2 : Int) < x then 2 else x) = 2 := by split <;> omega
            rw [e2]
            exact idx_of (x := stL (l ++ [letN c x])) (by decide) rfl (fin _ (by unfold nmL; rw [if_pos hbt, if_neg (by omega), if_neg (by omega)]))
      · rename_i hbb
        have hbt : ¬ b = true := by rw [hb]; exact hbb
        exact fin _ (by unfold nmL; rw [if_neg hbt]; rfl)
    · intro s h1
      refine hp s ⟨?_, fun w hw => ?_, ?_⟩
      · rw [h1, List.length_map, rng_length]; omega
      · rw [h1] at hw
        obtain ⟨x, _, rfl⟩ := List.mem_map.mp hw
        exact hnm x
      · rw [h1]
        unfold rng
        rw [List.map_map]
        refine List.Pairwise.map (R := fun i j : Nat => i < j ∧ j < 26) _ (fun i j ⟨h, h26⟩ e => ?_) ?_
        · have e := stL_inj e
          exact nmL_ne (k1 := (0 + (i : Int)).toNat) (k2 := (0 + (j : Int)).toNat) hl.1 hat2 (by omega) (letN_ne (c := c) (k1 := 0 + (i : Int)) (k2 := 0 + (j : Int)) (by omega) (by omega) (by omega)) e
        · have q : ∀ n, n ≤ 26 → (List.range n).Pairwise (fun i j => i < j ∧ j < 26) := fun n hn => by
            refine List.Pairwise.imp_of_mem (R := fun i j => i < j) (fun {i j} hi hj h => ⟨h, ?_⟩) List.pairwise_lt_range
            have := List.mem_range.mp hj
            omega
          exact q _ (by omega)
theorem nodup_len {α : Type} [DecidableEq α] : ∀ (l m : List α), l.Nodup → (∀ x ∈ l, x ∈ m) → l.length ≤ m.length
  | [], _, _, _ => Nat.zero_le _
  | x :: l, m, h, s => by
    have hx := s x (by simp)
    have h2 := List.nodup_cons.mp h
    have h3 := nodup_len l (m.erase x) h2.2 (fun y hy => (List.mem_erase_of_ne (fun (e : y = x) => h2.1 (by rw [← e]; exact hy))).mpr (s y (by simp [hy])))
    rw [List.length_erase_of_mem hx] at h3
    have h4 : 0 < m.length := List.length_pos_of_mem hx
    simp only [List.length_cons]
    omega
/-! ### what a yard is made of -/
theorem mem_addK {ks : List Str} {k z : Str} : z ∈ addK ks k ↔ z ∈ ks ∨ z = k := by
  unfold addK
  split
  · rename_i h
    exact ⟨.inl, fun q => q.elim id fun e => e ▸ h⟩
  · simp
theorem addK_len (ks : List Str) (k : Str) : (addK ks k).length ≤ ks.length + 1 := by
  unfold addK
  split <;> simp
theorem nodup_mid {α : Type} {a b : List α} {x : α} (h : (a ++ x :: b).Nodup) : x ∉ a := fun hx => by
  have := (List.nodup_append.mp h).2.2 x hx x (by simp)
  exact this rfl
abbrev Ent := Str × Int
abbrev Wk := Str × List Ent × List Ent
theorem isn_len {z : Str} (h : isn z = true) : z.length ≤ 8 := by
  unfold isn at h
  simp only [Bool.and_eq_true, decide_eq_true_eq] at h
  omega
theorem le_take_names {gs : List Str} (hn : ∀ g ∈ gs, isn g = true) (hd : gs.Nodup) (hl : gs.length ≤ 100) {P : Unit → Prop} {E : Exn → Prop} (hp : P ()) : (m_take_names (gs, ())).wp P E := by
  unfold m_take_names
  simp only [W.wp_bind, W.wp_pure]
  refine W.foldM_inv (α := Str) (σ := List Str) (fun done s => s.length ≤ done.length ∧ ∀ z, z ∈ s → z ∈ done) gs ?_ ⟨Nat.le_refl _, fun _ h => h⟩ (fun s _ => hp)
  intro done x rest s e ⟨h1, h2⟩
  have hx : isn x = true := hn x (by rw [e]; simp)
  have hne : x ∉ s := fun q => by rw [e] at hd; exact nodup_mid hd (h2 x q)
  have hlen : done.length ≤ 100 := by have := congrArg List.length e; simp at this; omega
  unfold m_take_names_b1
  simp only [W.wp_bind, W.wp_pure, W.wp_ite]
  refine le_isname (Nat.le_trans (isn_len hx) (by decide)) ?_
  rw [hx]
  simp only [Bool.not_true, Bool.false_eq_true, if_false]
  rw [if_neg (by simpa using hne)]
  simp only [W.wp_req, W.wp_pure]
  refine ⟨by omega, by have := addK_len s x; simp; omega, fun z hz => ?_⟩
  rcases mem_addK.mp hz with q | q
  · exact List.mem_append_left _ (h2 z q)
  · rw [q]; simp
/-- a list of goods and amounts that is right -/
structure EntOk (gs : List Str) (l : List Ent) : Prop where
  mem : ∀ p ∈ l, p.1 ∈ gs ∧ 1 ≤ p.2
  nd : (l.map Prod.fst).Nodup
theorem EntOk.len {gs : List Str} {l : List Ent} (h : EntOk gs l) : l.length ≤ gs.length := by
  have := nodup_len (l.map Prod.fst) gs h.nd (fun z hz => by
    obtain ⟨p, hp, rfl⟩ := List.mem_map.mp hz
    exact (h.mem p hp).1)
  simpa using this
theorem le_take_amounts {gs : List Str} {l : List Ent} (h : EntOk gs l) (hl : gs.length ≤ 100) {P : Unit → Prop} {E : Exn → Prop} (hp : P ()) : (m_take_amounts (gs, l, ())).wp P E := by
  have hll := h.len
  unfold m_take_amounts
  simp only [W.wp_bind, W.wp_pure]
  refine W.foldM_inv (α := Str × Int) (σ := List Str) (fun done s => s.length ≤ done.length ∧ ∀ z, z ∈ s → z ∈ done.map Prod.fst) l ?_ ⟨Nat.le_refl _, fun _ h => h⟩ (fun s _ => hp)
  intro done x rest s e ⟨h1, h2⟩
  have hx := h.mem x (by rw [e]; simp)
  have hne : x.1 ∉ s := fun q => by
    have hd := h.nd
    rw [e, List.map_append, List.map_cons] at hd
    exact nodup_mid hd (h2 x.1 q)
  have hlen : done.length ≤ 100 := by have := congrArg List.length e; simp at this; omega
  unfold m_take_amounts_b1
  simp only [W.wp_bind, W.wp_pure, W.wp_ite]
  have e1 : decide (x.1 ∈ gs) = true := decide_eq_true hx.1
  have e2 : decide (x.2 < 1) = false := decide_eq_false (by omega)
  have e3 : decide (x.1 ∈ s) = false := decide_eq_false hne
  simp only [e1, e2, e3, Bool.not_true, Bool.false_eq_true, if_false, W.wp_req, W.wp_pure]
  refine ⟨by omega, ?_⟩
  simp only [W.wp_bind, W.wp_pure, W.wp_ite, Bool.not_true, Bool.false_eq_true, if_false]
  refine ⟨by have := addK_len s x.1; simp; omega, fun z hz => ?_⟩
  rw [List.map_append]
  rcases mem_addK.mp hz with q | q
  · exact List.mem_append_left _ (h2 z q)
  · rw [q]; simp
structure YOk (gs : List Str) (ws : List Wk) : Prop where
  gl : gs.length ≤ 10
  wl : ws.length ≤ 10
  gn : ∀ g ∈ gs, isn g = true
  gd : gs.Nodup
  wn : ∀ w ∈ ws, isn w.1 = true
  wd : (ws.map Prod.fst).Nodup
  ents : ∀ w ∈ ws, EntOk gs w.2.1 ∧ EntOk gs w.2.2
theorem le_yard {gs : List Str} {ws : List Wk} (h : YOk gs ws) {P : YardV → Prop} {E : Exn → Prop} (hp : P (gs, ws)) : (m_Yard___init__ (gs, ws, ())).wp P E := by
  have hgl := h.gl
  have hwl := h.wl
  unfold m_Yard___init__
  simp only [W.wp_bind, W.wp_pure, W.wp_ite]
  have e1 : decide ((10 : Int) < (gs.length : Int)) = false := decide_eq_false (by omega)
  have e2 : decide ((10 : Int) < (ws.length : Int)) = false := decide_eq_false (by omega)
  simp only [e1, e2, Bool.false_eq_true, if_false]
  refine le_take_names h.gn h.gd (by omega) ?_
  refine W.foldM_inv (α := Wk) (σ := List Str) (fun done s => s.length ≤ done.length ∧ ∀ z, z ∈ s → z ∈ done.map Prod.fst) ws ?_ ⟨Nat.le_refl _, fun _ h => h⟩ (fun s _ => ?_)
  · intro done x rest s e ⟨h1, h2⟩
    have hx := h.ents x (by rw [e]; simp)
    have hxn := h.wn x (by rw [e]; simp)
    have hne : x.1 ∉ s := fun q => by
      have hd := h.wd
      rw [e, List.map_append, List.map_cons] at hd
      exact nodup_mid hd (h2 x.1 q)
    have hlen : done.length ≤ 100 := by have := congrArg List.length e; simp at this; omega
    unfold m_Yard___init___b1
    simp only [W.wp_bind, W.wp_pure, W.wp_ite]
    refine le_isname (Nat.le_trans (isn_len hxn) (by decide)) ?_
    have e3 : decide (x.1 ∈ s) = false := decide_eq_false hne
    simp only [hxn, e3, Bool.not_true, Bool.false_eq_true, if_false, W.wp_req]
    refine ⟨by omega, ?_⟩
    simp only [W.wp_bind, W.wp_pure]
    refine le_take_amounts hx.1 (by omega) (le_take_amounts hx.2 (by omega) ⟨by have := addK_len s x.1; simp; omega, fun z hz => ?_⟩)
    rw [List.map_append]
    rcases mem_addK.mp hz with q | q
    · exact List.mem_append_left _ (h2 z q)
    · rw [q]; simp
  · unfold m_Yard___init___j2
    simp only [W.wp_bind, W.wp_pure]
    refine W.compM_map (fb := fun x => x) ws (fun x _ P E hp => ?_) _ _ ?_
    · exact hp
    · rw [List.map_id']
      exact hp
/-! ### changes -/
def amt (l : List Ent) (g : Str) : Int := match l.find? (fun p => decide (p.1 = g)) with
  | some p => p.2
  | none => 0
def changeL (gs : List Str) (w : Wk) : List Int := gs.map fun g => amt w.2.2 g - amt w.2.1 g
def rowsL (gs : List Str) (ws : List Wk) : List (List Int) := gs.map fun g => ws.map fun w : Wk => amt w.2.2 g - amt w.2.1 g
def dot (xs ys : List Int) : Int := ((xs.zip ys).map fun p => p.1 * p.2).sum
def leavesL (gs : List Str) (ws : List Wk) (way : List Int) : List Int := gs.map fun g => dot (ws.map fun w : Wk => amt w.2.2 g - amt w.2.1 g) way
/-- a list that is a way of these works -/
def WayOk (ws : List Wk) (way : List Int) : Prop := way.length = ws.length ∧ ∀ n ∈ way, 0 ≤ n
def balL (gs : List Str) (ws : List Wk) (way : List Int) : Bool := (leavesL gs ws way).all fun x => decide (x = 0)
theorem enum_snd {α : Type} (xs : List α) : (Y.enum xs).map Prod.snd = xs := by
  unfold Y.enum
  exact List.map_snd_zip (by rw [rng_length]; omega)
theorem enum_get {α : Type} {xs : List α} {done rest : List (Int × α)} {x : Int × α} (e : Y.enum xs = done ++ x :: rest) : x.1 = (done.length : Int) ∧ xs[done.length]? = some x.2 ∧ xs = done.map Prod.snd ++ x.2 :: rest.map Prod.snd ∧ done.length < xs.length := by
  have h1 : (Y.enum xs)[done.length]? = some x := by rw [e, List.getElem?_append_right (Nat.le_refl _), Nat.sub_self]; rfl
  unfold Y.enum at h1
  obtain ⟨h2, h3⟩ := List.getElem?_zip_eq_some.mp h1
  have hlt : done.length < xs.length := (List.getElem?_eq_some_iff.mp h3).1
  refine ⟨?_, h3, ?_, hlt⟩
  · unfold rng at h2
    rw [List.getElem?_map, List.getElem?_range (by omega)] at h2
    simp only [Option.map_some, Option.some.injEq] at h2
    omega
  · rw [← enum_snd xs, e, List.map_append, List.map_cons]
/-! ### a work that is told -/
structure Half (B : Int) (done : List Str) (l : List Ent) : Prop where
  len : l.length ≤ done.length
  mem : ∀ p ∈ l, p.1 ∈ done ∧ 1 ≤ p.2 ∧ p.2 ≤ B
  nd : (l.map Prod.fst).Nodup
theorem Half.skip {B : Int} {done : List Str} {l : List Ent} (h : Half B done l) (x : Str) : Half B (done ++ [x]) l :=
  ⟨Nat.le_trans h.len (by simp), fun p hp => ⟨List.mem_append_left _ (h.mem p hp).1, (h.mem p hp).2⟩, h.nd⟩
theorem Half.step {B : Int} {done : List Str} {l : List Ent} (h : Half B done l) {x : Str} (hx : x ∉ done) {a : Int} (h1 : 1 ≤ a) (h2 : a ≤ B) : Half B (done ++ [x]) (l ++ [(x, a)]) := by
  refine ⟨by have := h.len; simp; omega, fun p hp => ?_, ?_⟩
  · rcases List.mem_append.mp hp with q | q
    · exact (h.skip x).mem p q
    · rw [List.mem_singleton.mp q]; exact ⟨by simp, h1, h2⟩
  · rw [List.map_append]
    refine List.nodup_append.mpr ⟨h.nd, by simp, fun y hy z hz e => ?_⟩
    obtain ⟨p, hp, rfl⟩ := List.mem_map.mp hy
    have ez : z = x := by simpa using hz
    have e2 : p.1 = x := e.trans ez
    exact hx (by rw [← e2]; exact (h.mem p hp).1)
/-- a list of goods and amounts told of a number -/
def EntB (B : Int) (gs : List Str) (l : List Ent) : Prop := EntOk gs l ∧ ∀ p ∈ l, p.2 ≤ B
theorem Half.ent {B : Int} {gs : List Str} {l : List Ent} (h : Half B gs l) : EntB B gs l := ⟨⟨fun p hp => ⟨(h.mem p hp).1, (h.mem p hp).2.1⟩, h.nd⟩, fun p hp => (h.mem p hp).2.2⟩
theorem EntB.rev {B : Int} {gs : List Str} {l : List Ent} (h : EntB B gs l) : EntB B gs l.reverse := ⟨⟨fun p hp => h.1.mem p (List.mem_reverse.mp hp), by rw [List.map_reverse]; exact List.pairwise_reverse.mpr (h.1.nd.imp fun q z => q z.symm)⟩, fun p hp => h.2 p (List.mem_reverse.mp hp)⟩
theorem le_work {c wide : Int} {name : Str} {gs : List Str} (hc : Bz c) (h0 : 0 ≤ c) (hw : 1 ≤ wide) (hw2 : Sz 200 wide) (hnd : gs.Nodup) (hgl : gs.length ≤ 100) {P : Wk → Prop} {E : Exn → Prop} (hp : ∀ w : Wk, w.1 = name → EntB (3 * wide + 4) gs w.2.1 → EntB (3 * wide + 4) gs w.2.2 → P w) : (m__law_work (c, name, gs, wide, ())).wp P E := by
  unfold m__law_work
  simp only [W.wp_bind, W.wp_pure]
  refine W.foldM_inv (α := Int × Str) (σ := Int × List Ent × List Ent) (fun done s => Bz s.1 ∧ 0 ≤ s.1 ∧ Half (3 * wide + 4) (done.map Prod.snd) s.2.1 ∧ Half (3 * wide + 4) (done.map Prod.snd) s.2.2) (Y.enum gs) ?_ ⟨hc, h0, ⟨Nat.le_refl _, by simp, by simp⟩, ⟨Nat.le_refl _, by simp, by simp⟩⟩ (fun s hs => ?_)
  · intro done x rest s e ⟨b1, b2, u1, u2⟩
    obtain ⟨ex, _, eg, hlt⟩ := enum_get e
    have hx : x.2 ∉ done.map Prod.snd := by rw [eg] at hnd; exact nodup_mid hnd
    have hl1 := u1.len
    have hl2 := u2.len
    rw [List.length_map] at hl1 hl2
    have hm3 := fmod_bd (a := x.1) (n := 3) (by decide)
    unfold m__law_work_b4
    simp only [W.wp_bind, W.wp_pure, W.wp_ite, wp_divI, wp_modI, wp_mulI]
    refine ⟨by decide, le_next b1 hm3.1 (by omega) fun r hr hr0 => ?_⟩
    have hr0 := hr0 b2
    have a7 := fmod_bd (a := r.fdiv 7) (n := 3) (by decide)
    have a21 := fmod_bd (a := r.fdiv 21) (n := 3) (by decide)
    have a378 := fmod_bd (a := r.fdiv 378) (n := 5) (by decide)
    have rest3 : ∀ one other : Int, 1 ≤ one → one ≤ 3 * wide + 4 → 1 ≤ other → other ≤ 3 * wide + 4 → (m__law_work_j2 s x r one other).wp (fun s' => Bz s'.1 ∧ 0 ≤ s'.1 ∧ Half (3 * wide + 4) ((done ++ [x]).map Prod.snd) s'.2.1 ∧ Half (3 * wide + 4) ((done ++ [x]).map Prod.snd) s'.2.2) E := fun one other o1 o2 o3 o4 => by
      rw [List.map_append, List.map_cons, List.map_nil]
      have last : ∀ us : List Ent, Half (3 * wide + 4) (done.map Prod.snd ++ [x.2]) us → (m__law_work_j1 s x r other us).wp (fun s' => Bz s'.1 ∧ 0 ≤ s'.1 ∧ Half (3 * wide + 4) (done.map Prod.snd ++ [x.2]) s'.2.1 ∧ Half (3 * wide + 4) (done.map Prod.snd ++ [x.2]) s'.2.2) E := fun us hus => by
        have fin : ∀ ms : List Ent, Half (3 * wide + 4) (done.map Prod.snd ++ [x.2]) ms → (fun s' : Int × List Ent × List Ent => Bz s'.1 ∧ 0 ≤ s'.1 ∧ Half (3 * wide + 4) (done.map Prod.snd ++ [x.2]) s'.2.1 ∧ Half (3 * wide + 4) (done.map Prod.snd ++ [x.2]) s'.2.2) (r, us, ms) := fun ms hms => ⟨hr, hr0, hus, hms⟩
        unfold m__law_work_j1
        simp only [W.wp_bind, W.wp_pure, W.wp_ite, wp_divI, wp_modI, wp_mulI, W.wp_req]
        refine ⟨by decide, ?_⟩
        split
        · refine ⟨by decide, ?_⟩
          split
          · exact ⟨by omega, fin _ (u2.step hx o3 o4)⟩
          · refine ⟨by decide, ?_⟩
            split
            · exact ⟨by omega, fin _ (u2.step hx o3 o4)⟩
            · exact fin _ (u2.skip _)
        · simp only [Bool.false_eq_true, if_false]
          refine ⟨by decide, ?_⟩
          split
          · exact ⟨by omega, fin _ (u2.step hx o3 o4)⟩
          · exact fin _ (u2.skip _)
      unfold m__law_work_j2
      simp only [W.wp_bind, W.wp_pure, W.wp_ite, wp_divI, wp_modI, wp_mulI, W.wp_req]
      refine ⟨by decide, ?_⟩
      split
      · simp only [if_true]
        exact ⟨by omega, last _ (u1.step hx o1 o2)⟩
      · refine ⟨by decide, ?_⟩
        split
        · exact ⟨by omega, last _ (u1.step hx o1 o2)⟩
        · exact last _ (u1.skip _)
    have rest2 : ∀ one : Int, 1 ≤ one → one ≤ 3 * wide + 4 → (m__law_work_j3 (c, name, gs, wide, ()) s x r (1 + (r.fdiv 21).fmod 3) one).wp (fun s' => Bz s'.1 ∧ 0 ≤ s'.1 ∧ Half (3 * wide + 4) ((done ++ [x]).map Prod.snd) s'.2.1 ∧ Half (3 * wide + 4) ((done ++ [x]).map Prod.snd) s'.2.2) E := fun one o1 o2 => by
      unfold m__law_work_j3
      simp only [W.wp_bind, W.wp_pure, W.wp_ite, wp_divI, wp_modI, wp_mulI]
      refine ⟨⟨by decide, by decide⟩, by decide, ?_⟩
      have hb : 1 * wide ≤ (1 + (r.fdiv 21).fmod 3) * wide := Int.mul_le_mul_of_nonneg_right (by omega) (by omega)
      have hb2 : (1 + (r.fdiv 21).fmod 3) * wide ≤ 3 * wide := Int.mul_le_mul_of_nonneg_right (by omega) (by omega)
      split
      · refine ⟨(show Sz 3 (1 + (r.fdiv 21).fmod 3) by unfold Sz; omega).cmul hw2 (by decide), ⟨by decide, by decide⟩, by decide, rest3 _ _ o1 o2 (by omega) (by omega)⟩
      · exact rest3 _ _ o1 o2 (by omega) (by omega)
    refine ⟨⟨by decide, by decide⟩, by decide, ⟨by decide, by decide⟩, by decide, ⟨by decide, by decide⟩, by decide, ?_⟩
    have hb : 1 * wide ≤ (1 + (r.fdiv 7).fmod 3) * wide := Int.mul_le_mul_of_nonneg_right (by omega) (by omega)
    have hb2 : (1 + (r.fdiv 7).fmod 3) * wide ≤ 3 * wide := Int.mul_le_mul_of_nonneg_right (by omega) (by omega)
    split
    · refine ⟨(show Sz 3 (1 + (r.fdiv 7).fmod 3) by unfold Sz; omega).cmul hw2 (by decide), ⟨by decide, by decide⟩, by decide, rest2 _ (by omega) (by omega)⟩
    · exact rest2 _ (by omega) (by omega)
  · obtain ⟨b1, b2, u1, u2⟩ := hs
    rw [enum_snd] at u1 u2
    unfold m__law_work_j5
    simp only [W.wp_bind, W.wp_pure, W.wp_ite, wp_divI, wp_modI]
    refine ⟨⟨by decide, by decide⟩, by decide, ?_⟩
    split
    · exact hp _ rfl u1.ent.rev u2.ent.rev
    · exact hp _ rfl u1.ent u2.ent
theorem le_copy (ws : List Wk) {P : List Wk → Prop} {E : Exn → Prop} (hp : P ws) : (m__law_copy (ws, ())).wp P E := by
  unfold m__law_copy
  simp only [W.wp_bind, W.wp_pure]
  refine W.compM_map (fb := fun x => x) ws (fun x _ P E hp => ?_) _ _ ?_
  · exact hp
  · rw [List.map_id']
    exact hp
theorem W.compM_all {α β : Type} {f : α → W β} {Q : β → Prop} : ∀ (xs : List α), (∀ x ∈ xs, (f x).wp Q (fun _ => False)) → ∀ (P : List β → Prop) (E : Exn → Prop), (∀ ys : List β, ys.length = xs.length → (∀ y ∈ ys, Q y) → P ys) → (W.noX (compM (fun _ => pure true) f xs)).wp P E
  | [], _, P, E, hp => hp [] rfl (by simp)
  | x :: xs, h, P, E, hp => by
    show (f x).wp _ _
    refine (f x).mono (fun y hy => ?_) (fun e he => he) (h x (by simp))
    exact W.compM_all xs (fun z hz => h z (by simp [hz])) (fun ys => P (y :: ys)) (fun _ => False) fun ys h1 h2 => hp (y :: ys) (by simp [h1]) fun z hz => by
      rcases List.mem_cons.mp hz with q | q
      · rw [q]; exact hy
      · exact h2 z q
theorem le_same {α : Type} [DecidableEq α] {ok : α → Prop} {x : α} (h : ok x) {P : Bool → Prop} {E : Exn → Prop} (hp : P true) : (eqW ok x x).wp P E := ⟨⟨h, h⟩, by
  show P (decide (x = x))
  rw [decide_eq_true rfl]
  exact hp⟩
theorem le_unlike {α : Type} [DecidableEq α] {ok : α → Prop} {x : α} (h : ok x) {P : Bool → Prop} {E : Exn → Prop} (hp : P false) : (neW ok x x).wp P E := ⟨⟨h, h⟩, by
  show P (!decide (x = x))
  rw [decide_eq_true rfl]
  exact hp⟩
theorem le_works7 {gs : List Str} {ws : List Wk} {P : List Wk → Prop} {E : Exn → Prop} (hp : P ws) : (m_Yard_works ((gs, ws), ())).wp P E := by
  unfold m_Yard_works
  simp only [W.wp_bind, W.wp_pure]
  refine W.compM_map (fb := fun x => x) ws (fun x _ P E hp => hp) _ _ ?_
  rw [List.map_id']
  exact hp
theorem le_names7 {gs : List Str} {ws : List Wk} {P : List Str → Prop} {E : Exn → Prop} (hp : P (ws.map Prod.fst)) : (m_Yard_names ((gs, ws), ())).wp P E := by
  unfold m_Yard_names
  simp only [W.wp_bind, W.wp_pure]
  exact W.compM_map (fb := fun x : Wk => x.1) ws (fun x _ P E hp => hp) _ _ hp
theorem le_goods7 {gs : List Str} {ws : List Wk} {P : List Str → Prop} {E : Exn → Prop} (hp : P gs) : (m_Yard_goods ((gs, ws), ())).wp P E := hp
theorem le_catE {x y : List Ent} (h : x.length + y.length ≤ 1000) {P : List Ent → Prop} {E : Exn → Prop} (hp : P (x ++ y)) : (catL x y).wp P E := ⟨Nat.le_trans h (by decide), hp⟩
/-- texts that may be compared -/
theorem ok_ents {gs : List Str} (hg : ∀ g ∈ gs, isn g = true) {l : List Ent} (h : EntOk gs l) : ∀ p ∈ l, PyData.strOk p.1 = true ∧ True := fun p hp => ⟨isn_strOk (hg _ (h.mem p hp).1), trivial⟩
theorem ok_wks {gs : List Str} {ws : List Wk} (h : YOk gs ws) : ∀ w ∈ ws, PyData.strOk w.1 = true ∧ (∀ p ∈ w.2.1, PyData.strOk p.1 = true ∧ True) ∧ (∀ p ∈ w.2.2, PyData.strOk p.1 = true ∧ True) := fun w hw =>
  ⟨isn_strOk (h.wn w hw), ok_ents h.gn (h.ents w hw).1, ok_ents h.gn (h.ents w hw).2⟩
theorem ok_nms {gs : List Str} {ws : List Wk} (h : YOk gs ws) : ∀ z ∈ ws.map Prod.fst, PyData.strOk z = true := fun z hz => by
  obtain ⟨w, hw, rfl⟩ := List.mem_map.mp hz
  exact isn_strOk (h.wn w hw)
theorem le_told7 {gs : List Str} {ws : List Wk} (h : YOk gs ws) {P : Bool → Prop} {E : Exn → Prop} (hp : P true) : (m__law_told ((gs, ws), gs, ws, ())).wp P E := by
  have hgl := h.gl
  have hwl := h.wl
  have hok := ok_wks h
  have hnm := ok_nms h
  have hgn : ∀ z ∈ gs, PyData.strOk z = true := fun z hz => isn_strOk (h.gn z hz)
  have hlen : ∀ w ∈ ws, w.2.1.length ≤ 10 ∧ w.2.2.length ≤ 10 := fun w hw => by
    have := (h.ents w hw).1.len
    have := (h.ents w hw).2.len
    omega
  have names : ∀ {P : List Str → Prop} {E : Exn → Prop}, P (ws.map Prod.fst) → (W.noX (compM (fun _ => pure true) (fun x : Wk => pure x.1) ws)).wp P E := fun {P E} hp => W.compM_map (fb := fun x : Wk => x.1) ws (fun x _ P E hp => hp) _ _ hp
  have j3 : (m__law_told_j3 ((gs, ws), gs, ws, ())).wp P E := by
    unfold m__law_told_j3
    simp only [W.wp_bind, W.wp_pure, W.wp_ite, W.wp_req]
    refine le_goods7 ⟨by omega, le_names7 (le_works7 (le_same hok ?_))⟩
    rw [if_pos rfl]
    refine le_goods7 (le_same hgn ?_)
    rw [if_pos rfl]
    exact le_names7 (names (le_same hnm hp))
  have j4 : (m__law_told_j4 ((gs, ws), gs, ws, ()) ws).wp P E := by
    unfold m__law_told_j4
    simp only [W.wp_bind, W.wp_pure, W.wp_ite, W.wp_req]
    refine le_unlike hok ?_
    rw [if_neg (by simp)]
    refine le_goods7 ?_
    rw [if_neg (by simp)]
    refine le_names7 ?_
    rw [if_neg (by simp)]
    refine le_goods7 (le_unlike hgn ?_)
    rw [if_neg (by simp)]
    refine le_names7 (names (le_unlike hnm ?_))
    rw [if_neg (by simp)]
    exact ⟨⟨by omega, fun z hz => by have := hlen z hz; omega⟩, j3⟩
  unfold m__law_told
  simp only [W.wp_bind, W.wp_pure, W.wp_ite]
  refine le_works7 ?_
  rw [if_neg (by decide)]
  rw [if_neg (by simp)]
  refine W.foldR_all ws (fun w hw P E hP => ?_) _ _ j4
  unfold m__law_told_b2
  simp only [W.wp_bind, W.wp_pure, W.wp_ite]
  rw [if_neg (by decide), if_neg (by decide), if_neg (by decide)]
  have := hlen w hw
  refine le_catE (by omega) (W.foldR_all _ (fun p hp P E hP => ?_) _ _ hP)
  unfold m__law_told_b1
  simp only [W.wp_bind, W.wp_pure, W.wp_ite]
  rw [if_neg (by decide), if_neg (by decide)]
  exact hP
theorem str_stL (z : Str) : z = stL z.cps.toList := str_extX rfl
/-- x and seven signs of a name -/
theorem le_xname {w : Str} (h : isn w = true) {P : Str → Prop} {E : Exn → Prop} (hp : ∀ z, isn z = true → P z) : (cutW w none (some 7)).wp (fun a => (catS ("x" : Str) a).wp P E) E := by
  have hl : 1 ≤ w.length ∧ w.length ≤ 8 ∧ w.cps.toList.all small = true := by
    unfold isn at h
    simp only [Bool.and_eq_true, decide_eq_true_eq] at h
    exact ⟨by omega, by omega, h.2⟩
  have hlen : w.cps.toList.length = w.length := by simp [Str.length]
  have e := str_stL w
  rw [e]
  refine w_cut (by omega) ?_
  rw [show ((7 : Int)) = ((7 : Nat) : Int) from rfl, cut_take]
  have ex : ("x" : Str) = stL [120] := rfl
  rw [ex]
  refine w_cat (by rw [List.length_take]; simp; omega) (hp _ ?_)
  unfold isn
  rw [stL_len, stL_tl]
  have hs : ([120] ++ w.cps.toList.take 7).all small = true := by
    rw [List.all_append]
    have h1 : ([120] : List Nat).all small = true := by decide
    have h2 : (w.cps.toList.take 7).all small = true := List.all_eq_true.mpr fun c hc => List.all_eq_true.mp hl.2.2 c (List.mem_of_mem_take hc)
    rw [h1, h2]
    rfl
  rw [hs]
  simp only [List.length_append, List.length_take, List.length_singleton, Bool.and_true, Bool.and_eq_true, decide_eq_true_eq]
  omega
structure St7 (gs : List Str) (n : Nat) (s : List Wk) : Prop where
  len : s.length ≤ n
  wn : ∀ w ∈ s, isn w.1 = true
  wd : (s.map Prod.fst).Nodup
  ents : ∀ w ∈ s, EntOk gs w.2.1 ∧ EntOk gs w.2.2
theorem k_law : ∀ ns : List Int, ns.length ≤ 63 → (∀ z ∈ ns, BitsOk z) → (m_law (ns, ())).wp (· = true) (fun _ => False) := by
  intro ns hlen hbits
  unfold m_law
  simp only [W.wp_bind, W.wp_pure, W.wp_ite, wp_modI]
  have hmod := fmod_bd (a := cellAt ns 0) (n := 1000000000000000000000000000000) (by decide)
  refine le_cell (by decide) ⟨by decide, le_wordsX (by unfold Sz; omega) (by decide) (by decide) fun words hw => le_cell (by decide) ⟨by decide, le_cell (by decide) ⟨by decide, ?_⟩⟩⟩
  have h6 := fmod_bd (a := cellAt ns 1) (n := 6) (by decide)
  obtain ⟨ng, eng⟩ : ∃ n : Nat, (cellAt ns 1).fmod 6 = (n : Int) := ⟨((cellAt ns 1).fmod 6).toNat, by omega⟩
  rw [eng, cut_take]
  have hwl : words.length = 8 := by have := hw.len; omega
  have hgl : (words.take ng).length ≤ 5 := by rw [List.length_take]; omega
  have hgd : (words.take ng).Nodup := hw.nd.sublist (List.take_sublist _ _)
  have hgn : ∀ g ∈ words.take ng, isn g = true := fun g hg => hw.isn g (List.mem_of_mem_take hg)
  obtain ⟨gs, egs⟩ : ∃ gs, gs = words.take ng := ⟨_, rfl⟩
  rw [← egs] at hgl hgd hgn ⊢
  have hcl : (cut ns (some 4) (some 12)).length ≤ 8 := by
    have e : cut ns (some 4) (some 12) = (ns.drop (min 4 ns.length)).take (min 12 ns.length - min 4 ns.length) := rfl
    rw [e, List.length_take]
    omega
  have hel : (Y.enum (cut ns (some 4) (some 12))).length ≤ 8 := by
    have := congrArg List.length (enum_snd (cut ns (some 4) (some 12)))
    rw [List.length_map] at this
    omega
  have rest : ∀ called : List Str, called.length = 8 → (∀ z ∈ called, isn z = true) → (m_law_j4 (ns, ()) words gs called).wp (· = true) (fun _ => False) := fun called hc1 hc2 => by
    unfold m_law_j4
    simp only [W.wp_bind, W.wp_pure]
    refine W.foldM_inv (α := Int × Int) (σ := List Wk) (fun done s => St7 gs done.length s) (Y.enum (cut ns (some 4) (some 12))) ?_ ⟨Nat.le_refl _, by simp, by simp, by simp⟩ (fun s hs => ?_)
    · intro done x rest s e hS
      obtain ⟨ex, exs, eg, hlt⟩ := enum_get e
      have hmx := fmod_bd (a := x.2) (n := 1000000000000000000000000000000) (by decide)
      have hsl := hS.len
      have eln : (done ++ [x]).length = done.length + 1 := by simp
      rw [eln]
      obtain ⟨nm, hnm⟩ : ∃ nm, called[done.length]? = some nm := ⟨_, List.getElem?_eq_getElem (by omega)⟩
      have hisn := hc2 nm (List.mem_of_getElem? hnm)
      have hix : called[x.1.toNat]? = some nm := by rw [ex, Int.toNat_natCast]; exact hnm
      unfold m_law_b1
      simp only [W.wp_bind, W.wp_pure, W.wp_ite, wp_modI, W.wp_req]
      refine idx_of (by omega) hix (W.compM_map (fb := fun w : Wk => w.1) s (fun w _ P E hp => hp) _ _ ?_)
      by_cases hin : nm ∈ s.map (fun w : Wk => w.1)
      · rw [if_neg (by simpa using hin)]
        exact ⟨by omega, hS.wn, hS.wd, hS.ents⟩
      · rw [if_pos (by simpa using hin)]
        refine ⟨by decide, idx_of (by omega) hix (le_work (Sz.bz (n := 200) (by unfold Sz; omega) (by decide)) hmx.1 (by decide) (by unfold Sz; decide) hgd (by omega) fun w ew h1 h2 => ⟨by omega, ⟨by simp; omega, fun z hz => ?_, ?_, fun z hz => ?_⟩⟩)⟩
        · rcases List.mem_append.mp hz with q | q
          · exact hS.wn z q
          · rw [List.mem_singleton.mp q, ew]; exact hisn
        · rw [List.map_append]
          refine List.nodup_append.mpr ⟨hS.wd, by simp, fun y hy z hz e2 => ?_⟩
          have ez : z = nm := by simpa [ew] using hz
          exact hin (by rw [← ez, ← e2]; exact hy)
        · rcases List.mem_append.mp hz with q | q
          · exact hS.ents z q
          · rw [List.mem_singleton.mp q]; exact ⟨h1.1, h2.1⟩
    · have hsl := hs.len
      have hY : YOk gs s := ⟨by omega, by omega, hgn, hgd, hs.wn, hs.wd, hs.ents⟩
      unfold m_law_j3
      simp only [W.wp_bind, W.wp_pure, W.wp_ite, wp_modI, W.wp_req]
      refine le_cell (by decide) ⟨by decide, ?_⟩
      have h9 := fmod_bd (a := cellAt ns 3) (n := 9) (by decide)
      obtain ⟨k, ek⟩ : ∃ n : Nat, (cellAt ns 3).fmod 9 = (n : Int) := ⟨((cellAt ns 3).fmod 9).toNat, by omega⟩
      rw [ek]
      refine le_copy s (le_copy s ?_)
      rw [cut_take, show (0 : Int) = ((0 : Nat) : Int) from rfl, cut_take, List.take_zero]
      obtain ⟨os, eos⟩ : ∃ os, os = words.take k := ⟨_, rfl⟩
      have hO : YOk os [] := ⟨by rw [eos, List.length_take]; omega, by simp, fun g hg => hw.isn g (by rw [eos] at hg; exact List.mem_of_mem_take hg), by rw [eos]; exact hw.nd.sublist (List.take_sublist _ _), by simp, by simp, by simp⟩
      rw [← eos]
      have hol := hO.gl
      have hok := ok_wks hY
      refine le_yard hY (le_yard hO (le_unlike ⟨fun z hz => isn_strOk (hY.gn z hz), hok, fun z hz => isn_strOk (hO.gn z hz), by simp⟩ ?_))
      rw [if_neg (by simp)]
      refine ⟨⟨⟨by omega, by omega, by omega⟩, fun z hz => ?_⟩, ?_⟩
      · have := (hs.ents z hz).1.len
        have := (hs.ents z hz).2.len
        omega
      · unfold m_law_j2
        simp only [W.wp_bind, W.wp_pure, W.wp_ite]
        refine le_told7 hY ?_
        rw [if_neg (by decide), cut_take, ← eos]
        refine le_told7 hO ?_
        rw [if_neg (by decide)]
        exact le_told7 hY rfl
  split
  · refine W.compM_all (Q := fun z : Str => isn z = true) words (fun w hw' => ?_) _ _ fun ys hyl hyq => rest ys (by rw [hyl]; exact hwl) hyq
    simp only [W.wp_bind, W.wp_pure]
    exact le_xname (hw.isn w hw') fun z hz => hz
  · exact rest words.reverse (by rw [List.length_reverse]; exact hwl) fun z hz => hw.isn z (List.mem_reverse.mp hz)
end Y

namespace Y
open PySem PySem.Spec L2
theorem all_mk {l : PySem.W.OpenLaw} {w : World} {K : PySem.W.Frag} {h : Heap} {mg : Str → Option Value} {fa f0 f1 f2 f3 f4 f5 f6 f7 f8 f9 f10 f11 f12 f13 : Addr} (X : K.In h) (G : h.Ns mainGlobals mg) (hfa : mg "law" = some (.ref fa))
    {od0 od1 od2 od3 od4 od5 od6 od7 od8 od9 od10 od11 od12 od13 an0 an1 an2 an3 an4 an5 an6 an7 an8 an9 an10 an11 an12 an13 : Option Addr} {sl0 sl1 sl2 sl3 sl4 sl5 sl6 sl7 sl8 sl9 sl10 sl11 sl12 sl13 : Array (Option Value)} {oc0 oc1 oc2 oc3 oc4 oc5 oc6 oc7 oc8 oc9 oc10 oc11 oc12 oc13 kV0 kV1 kV2 kV3 kV4 kV5 kV6 kV7 kV8 kV9 kV10 kV11 kV12 kV13 dc0 dc1 dc2 dc3 dc4 dc5 dc6 dc7 dc8 dc9 dc10 dc11 dc12 dc13 pm0 pm1 pm2 pm3 pm4 pm5 pm6 pm7 pm8 pm9 pm10 pm11 pm12 pm13 cd0 cd1 cd2 cd3 cd4 cd5 cd6 cd7 cd8 cd9 cd10 cd11 cd12 cd13 ct0 ct1 ct2 ct3 ct4 ct5 ct6 ct7 ct8 ct9 ct10 ct11 ct12 ct13 : Value}
    {q_Yard : Addr} (qa_Yard : PySem.W.nsIn K mainGlobals "Yard" = some (some (.ref q_Yard)))
    (a0 : PySem.W.nsIn K mainGlobals "is_name" = some (some (.ref f0))) (l0 : K.lookup f0 = some ⟨oc0, od0, .func (PySem.W.fnOf "is_name" "is_name" (defArgs (top 10)) (defBody (top 10)) (defScope (top 10)) .none kV0 dc0 pm0 an0 cd0 ct0), sl0⟩) (c0 : PySem.W.codeIn K cd0 "is_name" = true) (k0 : PySem.W.keepIn K (.ref f0) = true)
    (a1 : PySem.W.nsIn K mainGlobals "take_names" = some (some (.ref f1))) (l1 : K.lookup f1 = some ⟨oc1, od1, .func (PySem.W.fnOf "take_names" "take_names" (defArgs (top 11)) (defBody (top 11)) (defScope (top 11)) .none kV1 dc1 pm1 an1 cd1 ct1), sl1⟩) (c1 : PySem.W.codeIn K cd1 "take_names" = true) (k1 : PySem.W.keepIn K (.ref f1) = true)
    (a2 : PySem.W.nsIn K mainGlobals "take_amounts" = some (some (.ref f2))) (l2 : K.lookup f2 = some ⟨oc2, od2, .func (PySem.W.fnOf "take_amounts" "take_amounts" (defArgs (top 12)) (defBody (top 12)) (defScope (top 12)) .none kV2 dc2 pm2 an2 cd2 ct2), sl2⟩) (c2 : PySem.W.codeIn K cd2 "take_amounts" = true) (k2 : PySem.W.keepIn K (.ref f2) = true)
    (a3 : PySem.W.findIn K (.ref q_Yard) "__init__" = some (some (.ref f3))) (s3 : PySem.W.isFn K (.ref f3) = true) (l3 : K.lookup f3 = some ⟨oc3, od3, .func (PySem.W.fnOf "__init__" "Yard.__init__" (defArgs (inClass (top 13) 0)) (defBody (inClass (top 13) 0)) (defScope (inClass (top 13) 0)) .none kV3 dc3 pm3 an3 cd3 ct3), sl3⟩) (c3 : PySem.W.codeIn K cd3 "Yard.__init__" = true) (k3 : PySem.W.keepIn K (.ref f3) = true)
    (a4 : PySem.W.findIn K (.ref q_Yard) "goods" = some (some (.ref f4))) (s4 : PySem.W.isFn K (.ref f4) = true) (l4 : K.lookup f4 = some ⟨oc4, od4, .func (PySem.W.fnOf "goods" "Yard.goods" (defArgs (inClass (top 13) 1)) (defBody (inClass (top 13) 1)) (defScope (inClass (top 13) 1)) .none kV4 dc4 pm4 an4 cd4 ct4), sl4⟩) (c4 : PySem.W.codeIn K cd4 "Yard.goods" = true) (k4 : PySem.W.keepIn K (.ref f4) = true)
    (a5 : PySem.W.findIn K (.ref q_Yard) "works" = some (some (.ref f5))) (s5 : PySem.W.isFn K (.ref f5) = true) (l5 : K.lookup f5 = some ⟨oc5, od5, .func (PySem.W.fnOf "works" "Yard.works" (defArgs (inClass (top 13) 2)) (defBody (inClass (top 13) 2)) (defScope (inClass (top 13) 2)) .none kV5 dc5 pm5 an5 cd5 ct5), sl5⟩) (c5 : PySem.W.codeIn K cd5 "Yard.works" = true) (k5 : PySem.W.keepIn K (.ref f5) = true)
    (a6 : PySem.W.findIn K (.ref q_Yard) "names" = some (some (.ref f6))) (s6 : PySem.W.isFn K (.ref f6) = true) (l6 : K.lookup f6 = some ⟨oc6, od6, .func (PySem.W.fnOf "names" "Yard.names" (defArgs (inClass (top 13) 3)) (defBody (inClass (top 13) 3)) (defScope (inClass (top 13) 3)) .none kV6 dc6 pm6 an6 cd6 ct6), sl6⟩) (c6 : PySem.W.codeIn K cd6 "Yard.names" = true) (k6 : PySem.W.keepIn K (.ref f6) = true)
    (a7 : PySem.W.nsIn K mainGlobals "_law_cell" = some (some (.ref f7))) (l7 : K.lookup f7 = some ⟨oc7, od7, .func (PySem.W.fnOf "_law_cell" "_law_cell" (defArgs (top 15)) (defBody (top 15)) (defScope (top 15)) .none kV7 dc7 pm7 an7 cd7 ct7), sl7⟩) (c7 : PySem.W.codeIn K cd7 "_law_cell" = true) (k7 : PySem.W.keepIn K (.ref f7) = true)
    (a8 : PySem.W.nsIn K mainGlobals "_law_next" = some (some (.ref f8))) (l8 : K.lookup f8 = some ⟨oc8, od8, .func (PySem.W.fnOf "_law_next" "_law_next" (defArgs (top 16)) (defBody (top 16)) (defScope (top 16)) .none kV8 dc8 pm8 an8 cd8 ct8), sl8⟩) (c8 : PySem.W.codeIn K cd8 "_law_next" = true) (k8 : PySem.W.keepIn K (.ref f8) = true)
    (a9 : PySem.W.nsIn K mainGlobals "_law_words" = some (some (.ref f9))) (l9 : K.lookup f9 = some ⟨oc9, od9, .func (PySem.W.fnOf "_law_words" "_law_words" (defArgs (top 17)) (defBody (top 17)) (defScope (top 17)) .none kV9 dc9 pm9 an9 cd9 ct9), sl9⟩) (c9 : PySem.W.codeIn K cd9 "_law_words" = true) (k9 : PySem.W.keepIn K (.ref f9) = true)
    (a10 : PySem.W.nsIn K mainGlobals "_law_work" = some (some (.ref f10))) (l10 : K.lookup f10 = some ⟨oc10, od10, .func (PySem.W.fnOf "_law_work" "_law_work" (defArgs (top 18)) (defBody (top 18)) (defScope (top 18)) .none kV10 dc10 pm10 an10 cd10 ct10), sl10⟩) (c10 : PySem.W.codeIn K cd10 "_law_work" = true) (k10 : PySem.W.keepIn K (.ref f10) = true)
    (a11 : PySem.W.nsIn K mainGlobals "_law_copy" = some (some (.ref f11))) (l11 : K.lookup f11 = some ⟨oc11, od11, .func (PySem.W.fnOf "_law_copy" "_law_copy" (defArgs (top 21)) (defBody (top 21)) (defScope (top 21)) .none kV11 dc11 pm11 an11 cd11 ct11), sl11⟩) (c11 : PySem.W.codeIn K cd11 "_law_copy" = true) (k11 : PySem.W.keepIn K (.ref f11) = true)
    (a12 : PySem.W.nsIn K mainGlobals "_law_told" = some (some (.ref f12))) (l12 : K.lookup f12 = some ⟨oc12, od12, .func (PySem.W.fnOf "_law_told" "_law_told" (defArgs (top 22)) (defBody (top 22)) (defScope (top 22)) .none kV12 dc12 pm12 an12 cd12 ct12), sl12⟩) (c12 : PySem.W.codeIn K cd12 "_law_told" = true) (k12 : PySem.W.keepIn K (.ref f12) = true)
    (a13 : PySem.W.nsIn K mainGlobals "law" = some (some (.ref f13))) (l13 : K.lookup f13 = some ⟨oc13, od13, .func (PySem.W.fnOf "law" "law" (defArgs (top 23)) (defBody (top 23)) (defScope (top 23)) .none kV13 dc13 pm13 an13 cd13 ct13), sl13⟩) (c13 : PySem.W.codeIn K cd13 "law" = true) (k13 : PySem.W.keepIn K (.ref f13) = true)
    (caYard : PySem.W.plainGet K q_Yard Str.empty = true) (cbYard : PySem.W.hasDictIn K q_Yard = true) (ccYard : PySem.W.plainOver K q_Yard = true) (cdYard : PySem.W.findIn K (.ref q_Yard) "__setattr__" = some (some (.builtin "object.__setattr__"))) (ceYard : PySem.W.makesIn K q_Yard = true) (cfYard : PySem.W.keepIn K (.ref q_Yard) = true)
    (nA_told_goods : PySem.W.findIn K (.ref q_Yard) "told_goods" = some none)
    (nA_told_works : PySem.W.findIn K (.ref q_Yard) "told_works" = some none)
    {tk_SMALL : Tok} (zg_SMALL : PySem.W.nsIn K mainGlobals "SMALL" = some (some (.str ("abcdefghijklmnopqrstuvwxyz" : Str) tk_SMALL)))
    {tk_MOST : Tok} (zg_MOST : PySem.W.nsIn K mainGlobals "MOST" = some (some (.int (10 : Int) tk_MOST)))
    (z_len : PySem.W.nsIn K mainGlobals "len" = some none)
    (z_isinstance : PySem.W.nsIn K mainGlobals "isinstance" = some none)
    (z_int : PySem.W.nsIn K mainGlobals "int" = some none)
    (z_bool : PySem.W.nsIn K mainGlobals "bool" = some none)
    (z_list : PySem.W.nsIn K mainGlobals "list" = some none)
    (z_range : PySem.W.nsIn K mainGlobals "range" = some none)
    (z_min : PySem.W.nsIn K mainGlobals "min" = some none)
    (z_enumerate : PySem.W.nsIn K mainGlobals "enumerate" = some none)
    (z_tuple : PySem.W.nsIn K mainGlobals "tuple" = some none)
    : ∃ fd : FuncData, (∀ (s : Shared) (v : Value), BindsTo s fd ⟨[v], []⟩ [("_law_script", v)]) ∧ ∀ base : Heap, K.In base → base.Ns mainGlobals mg → FnOk l.prog w K mg base (L2.CX l.prog w) 5 fa fd ["_law_script"] (spV ⟨l.prog, w, K, mg, base⟩ (fun _ t => [rL K rI t.1]) (fun _ => rB) m_law) := by
  have e := hfa.symm.trans (PySem.W.mg_of X G a13)
  cases e
  refine ⟨PySem.W.fnOf "law" "law" (defArgs (top 23)) (defBody (top 23)) (defScope (top 23)) .none kV13 dc13 pm13 an13 cd13 ct13, fun s v => .of_eq rfl, fun base _ _ => ?_⟩
  have b_len : (⟨l.prog, w, K, mg, base⟩ : Mc).mg "len" = none := PySem.W.mg_none_of X G z_len
  have b_isinstance : (⟨l.prog, w, K, mg, base⟩ : Mc).mg "isinstance" = none := PySem.W.mg_none_of X G z_isinstance
  have b_int : (⟨l.prog, w, K, mg, base⟩ : Mc).mg "int" = none := PySem.W.mg_none_of X G z_int
  have b_bool : (⟨l.prog, w, K, mg, base⟩ : Mc).mg "bool" = none := PySem.W.mg_none_of X G z_bool
  have b_list : (⟨l.prog, w, K, mg, base⟩ : Mc).mg "list" = none := PySem.W.mg_none_of X G z_list
  have b_range : (⟨l.prog, w, K, mg, base⟩ : Mc).mg "range" = none := PySem.W.mg_none_of X G z_range
  have b_min : (⟨l.prog, w, K, mg, base⟩ : Mc).mg "min" = none := PySem.W.mg_none_of X G z_min
  have b_enumerate : (⟨l.prog, w, K, mg, base⟩ : Mc).mg "enumerate" = none := PySem.W.mg_none_of X G z_enumerate
  have b_tuple : (⟨l.prog, w, K, mg, base⟩ : Mc).mg "tuple" = none := PySem.W.mg_none_of X G z_tuple
  have cC : Cls K q_Yard := ⟨caYard, cbYard, ccYard, cdYard⟩
  have g_SMALL : ∃ k, (⟨l.prog, w, K, mg, base⟩ : Mc).mg "SMALL" = some (.str ("abcdefghijklmnopqrstuvwxyz" : Str) k) := ⟨_, PySem.W.mg_of X G zg_SMALL⟩
  have g_MOST : ∃ k, (⟨l.prog, w, K, mg, base⟩ : Mc).mg "MOST" = some (.int (10 : Int) k) := ⟨_, PySem.W.mg_of X G zg_MOST⟩
  have h_is_name := w_is_name (M := ⟨l.prog, w, K, mg, base⟩) b_len g_SMALL (FAt.m X G ⟨a0, ⟨_, _, _, _, _, _, _, _, _, l0, c0⟩, k0⟩ fun _ _ _ _ _ _ us hl => match us, hl with | [_], _ => rfl)
  have h_take_names := w_take_names (M := ⟨l.prog, w, K, mg, base⟩) h_is_name (FAt.m X G ⟨a1, ⟨_, _, _, _, _, _, _, _, _, l1, c1⟩, k1⟩ fun _ _ _ _ _ _ us hl => match us, hl with | [_], _ => rfl)
  have h_take_amounts := w_take_amounts (M := ⟨l.prog, w, K, mg, base⟩) b_isinstance b_int b_bool (FAt.m X G ⟨a2, ⟨_, _, _, _, _, _, _, _, _, l2, c2⟩, k2⟩ fun _ _ _ _ _ _ us hl => match us, hl with | [_, _], _ => rfl)
  have F3 := fun_mk (st := (inClass (top 13) 0)) l3 c3 k3
  have h_Yard___init__ := w_Yard___init__ (M := ⟨l.prog, w, K, mg, base⟩) cC nA_told_goods nA_told_works b_len b_list h_take_names h_is_name h_take_amounts g_MOST F3 ⟨ceYard, a3, s3, cfYard⟩ (PySem.W.mg_of X G qa_Yard) (F3.binds fun _ _ _ _ _ _ us hl => match us, hl with | [_, _, _], _ => rfl)
  have F4 := fun_mk (st := (inClass (top 13) 1)) l4 c4 k4
  have h_Yard_goods := w_Yard_goods (M := ⟨l.prog, w, K, mg, base⟩) cC nA_told_goods b_list F4 ⟨a4, s4, k4⟩ (F4.binds fun _ _ _ _ _ _ us hl => match us, hl with | [_], _ => rfl)
  have F5 := fun_mk (st := (inClass (top 13) 2)) l5 c5 k5
  have h_Yard_works := w_Yard_works (M := ⟨l.prog, w, K, mg, base⟩) cC nA_told_works b_list F5 ⟨a5, s5, k5⟩ (F5.binds fun _ _ _ _ _ _ us hl => match us, hl with | [_], _ => rfl)
  have F6 := fun_mk (st := (inClass (top 13) 3)) l6 c6 k6
  have h_Yard_names := w_Yard_names (M := ⟨l.prog, w, K, mg, base⟩) cC nA_told_works F6 ⟨a6, s6, k6⟩ (F6.binds fun _ _ _ _ _ _ us hl => match us, hl with | [_], _ => rfl)
  have h__law_cell := w__law_cell (M := ⟨l.prog, w, K, mg, base⟩) b_len (FAt.m X G ⟨a7, ⟨_, _, _, _, _, _, _, _, _, l7, c7⟩, k7⟩ fun _ _ _ _ _ _ us hl => match us, hl with | [_, _], _ => rfl)
  have h__law_next := w__law_next (M := ⟨l.prog, w, K, mg, base⟩)  (FAt.m X G ⟨a8, ⟨_, _, _, _, _, _, _, _, _, l8, c8⟩, k8⟩ fun _ _ _ _ _ _ us hl => match us, hl with | [_, _], _ => rfl)
  have h__law_words := w__law_words (M := ⟨l.prog, w, K, mg, base⟩) b_range b_min (FAt.m X G ⟨a9, ⟨_, _, _, _, _, _, _, _, _, l9, c9⟩, k9⟩ fun _ _ _ _ _ _ us hl => match us, hl with | [_, _], _ => rfl)
  have h__law_work := w__law_work (M := ⟨l.prog, w, K, mg, base⟩) b_enumerate h__law_next (FAt.m X G ⟨a10, ⟨_, _, _, _, _, _, _, _, _, l10, c10⟩, k10⟩ fun _ _ _ _ _ _ us hl => match us, hl with | [_, _, _, _], _ => rfl)
  have h__law_copy := w__law_copy (M := ⟨l.prog, w, K, mg, base⟩) b_list (FAt.m X G ⟨a11, ⟨_, _, _, _, _, _, _, _, _, l11, c11⟩, k11⟩ fun _ _ _ _ _ _ us hl => match us, hl with | [_], _ => rfl)
  have h__law_told := w__law_told (M := ⟨l.prog, w, K, mg, base⟩) cC b_isinstance b_list b_len b_tuple b_bool h_Yard_works h_Yard_goods h_Yard_names (FAt.m X G ⟨a12, ⟨_, _, _, _, _, _, _, _, _, l12, c12⟩, k12⟩ fun _ _ _ _ _ _ us hl => match us, hl with | [_, _, _], _ => rfl)
  exact w_law (M := ⟨l.prog, w, K, mg, base⟩) cC b_enumerate b_list h__law_words h__law_cell h__law_work h__law_copy h_Yard___init__ h__law_told (fun_mk l13 c13 k13)
theorem walkE {l : PySem.W.OpenLaw} {q : Program} {loose : List Str} {XP : (Str → Option Value) → Heap → Prop} {YP : World → Heap → Prop} {d : DefRec} {K : Params → PySem.W.Frag} (hn : l.most = some 63) (hdf : d.params.defaults = [])
    (hY : ∀ (w : World) (h : Heap), YP w h → (K w.params).In h)
    (F : ∀ (w : World) (mg : Str → Option Value) (fa : Addr) (h : Heap), (K w.params).In h → h.Ns mainGlobals mg → mg d.name = some (.ref fa) →
      ∃ fd : FuncData, (∀ (s : Shared) (u : Value), BindsTo s fd ⟨[u], []⟩ [("_law_script", u)]) ∧ ∀ base : Heap, (K w.params).In base → base.Ns mainGlobals mg → FnOk l.prog w (K w.params) mg base (L2.CX l.prog w) 5 fa fd ["_law_script"] (spV ⟨l.prog, w, K w.params, mg, base⟩ (fun _ t => [rL (K w.params) rI t.1]) (fun _ => rB) m_law)) :
    PySem.W.WalkO q loose XP YP l.row.toRowW d [] (fun f vs => PySem.call f vs) :=
  walk_law (k := 5) (fd := fun _ => default) hn hdf ⟨rfl, by decide, by decide⟩ hY F k_law
end Y
open PySem PySem.W PyProof.Rows in
set_option maxRecDepth 100000 in
set_option maxHeartbeats 0 in
theorem PySem.Challenge.cw_modeyard_k07_yards_told_holds : PySem.Challenge.rw_modeyard_k07_yards_told.Holds := by
  w_on; o_law; k_head; (case hw => w_witness2)
  k_fill
  refine Y.walkE (l := PySem.Challenge.rw_modeyard_k07_yards_told) rfl rfl (fun w h Y => PySem.W.kIn_of Y) ?F
  case F =>
    intro w mg fa h KX G hmg
    refine' Y.all_mk KX G hmg ?qa_Yard ?a0 ?l0 ?c0 ?k0 ?a1 ?l1 ?c1 ?k1 ?a2 ?l2 ?c2 ?k2 ?a3 ?s3 ?l3 ?c3 ?k3 ?a4 ?s4 ?l4 ?c4 ?k4 ?a5 ?s5 ?l5 ?c5 ?k5 ?a6 ?s6 ?l6 ?c6 ?k6 ?a7 ?l7 ?c7 ?k7 ?a8 ?l8 ?c8 ?k8 ?a9 ?l9 ?c9 ?k9 ?a10 ?l10 ?c10 ?k10 ?a11 ?l11 ?c11 ?k11 ?a12 ?l12 ?c12 ?k12 ?a13 ?l13 ?c13 ?k13 ?caYard ?cbYard ?ccYard ?cdYard ?ceYard ?cfYard ?nA_told_goods ?nA_told_works ?zg_SMALL ?zg_MOST ?z_len ?z_isinstance ?z_int ?z_bool ?z_list ?z_range ?z_min ?z_enumerate ?z_tuple
    (case qa_Yard => k_is)
    (case a0 => k_is)
    (case l0 => k_is)
    (case c0 => k_is)
    (case k0 => k_is)
    (case a1 => k_is)
    (case l1 => k_is)
    (case c1 => k_is)
    (case k1 => k_is)
    (case a2 => k_is)
    (case l2 => k_is)
    (case c2 => k_is)
    (case k2 => k_is)
    (case a3 => k_is)
    (case s3 => k_is)
    (case l3 => k_is)
    (case c3 => k_is)
    (case k3 => k_is)
    (case a4 => k_is)
    (case s4 => k_is)
    (case l4 => k_is)
    (case c4 => k_is)
    (case k4 => k_is)
    (case a5 => k_is)
    (case s5 => k_is)
    (case l5 => k_is)
    (case c5 => k_is)
    (case k5 => k_is)
    (case a6 => k_is)
    (case s6 => k_is)
    (case l6 => k_is)
    (case c6 => k_is)
    (case k6 => k_is)
    (case a7 => k_is)
    (case l7 => k_is)
    (case c7 => k_is)
    (case k7 => k_is)
    (case a8 => k_is)
    (case l8 => k_is)
    (case c8 => k_is)
    (case k8 => k_is)
    (case a9 => k_is)
    (case l9 => k_is)
    (case c9 => k_is)
    (case k9 => k_is)
    (case a10 => k_is)
    (case l10 => k_is)
    (case c10 => k_is)
    (case k10 => k_is)
    (case a11 => k_is)
    (case l11 => k_is)
    (case c11 => k_is)
    (case k11 => k_is)
    (case a12 => k_is)
    (case l12 => k_is)
    (case c12 => k_is)
    (case k12 => k_is)
    (case a13 => k_is)
    (case l13 => k_is)
    (case c13 => k_is)
    (case k13 => k_is)
    (case caYard => k_is)
    (case cbYard => k_is)
    (case ccYard => k_is)
    (case cdYard => k_is)
    (case ceYard => k_is)
    (case cfYard => k_is)
    (case nA_told_goods => k_is)
    (case nA_told_works => k_is)
    (case zg_SMALL => k_is)
    (case zg_MOST => k_is)
    (case z_len => k_is)
    (case z_isinstance => k_is)
    (case z_int => k_is)
    (case z_bool => k_is)
    (case z_list => k_is)
    (case z_range => k_is)
    (case z_min => k_is)
    (case z_enumerate => k_is)
    (case z_tuple => k_is)

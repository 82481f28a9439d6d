import PyProof.Rows.All
import Wide.All
import OpenK.AllK
import Wide.FinOn
import HandS.ForMost
import HandS.ForExc
import HandS.Wide
import HandS.IsInst
import HandS.Steps
import HandS.EndBits
import HandS.TupLe
import HandS.Style
import HandS.Text
import HandS.ExcIs
import HandS.ExcOwn
import HandS.TryOnly
import HandS.TryMany
import HandS.WordsExc
import HandS.Dict
import HandS.Small
import KE.SortData
import HandS.More
import KE.DataMinMax
import HandS.SortKw
import KE.GoesMore
import KE.GoesEnum
import HandS.WideBits
import HandS.Deep
import HandS.HotCalls
import HandS.ExcInit
import HandS.ExcField
import KE.KExcIs
import KE.KDictKeyed
import PySem.Challenge.RW_modeyard_k20_whole_all_lone_lists
set_option Elab.async false
set_option linter.all false
set_option maxRecDepth 100000
set_option maxHeartbeats 1000000
/-! Y1: an own layer over HandS: the W monad, slots, private heaps, typed judgements -/
namespace Y
open PySem PySem.Spec L2

/-! ### W: predicate transformers with exceptions -/
structure Exn where
  cls : Str
  pay : Option Str
structure W (α : Type) where
  wp : (α → Prop) → (Exn → Prop) → Prop
  mono : ∀ {P P' : α → Prop} {E E' : Exn → Prop}, (∀ a, P a → P' a) → (∀ e, E e → E' e) → wp P E → wp P' E'
namespace W
variable {α β σ : Type}
def ret (a : α) : W α := ⟨fun P _ => P a, fun h _ x => h _ x⟩
def bind (m : W α) (f : α → W β) : W β := ⟨fun P E => m.wp (fun a => (f a).wp P E) E, fun hp he x => m.mono (fun a y => (f a).mono hp he y) he x⟩
instance : Monad W where
  pure := ret
  bind := bind
def bad : W α := ⟨fun _ _ => False, fun _ _ x => x⟩
/-- a condition that must hold -/
def req (c : Prop) (m : W α) : W α := ⟨fun P E => c ∧ m.wp P E, fun hp he x => ⟨x.1, m.mono hp he x.2⟩⟩
def exc (e : Exn) : W α := ⟨fun _ E => E e, fun _ he x => he _ x⟩
/-- some value of which p holds -/
def any (p : α → Prop) : W α := ⟨fun P _ => ∀ a, p a → P a, fun hp _ x a h => hp a (x a h)⟩
def foldM (f : σ → α → W σ) : σ → List α → W σ
  | s, [] => ret s
  | s, x :: xs => bind (f s x) fun s' => foldM f s' xs
def mapM (f : α → W β) : List α → W (List β)
  | [] => ret []
  | x :: xs => bind (f x) fun y => bind (mapM f xs) fun ys => ret (y :: ys)
/-- a while: by an invariant and a measure -/
def whileM (c : σ → W Bool) (b : σ → W σ) (s : σ) : W σ :=
  ⟨fun P E => ∃ (I : σ → Prop) (μ : σ → Nat), I s ∧ ∀ s, I s → (c s).wp (fun t => if t = true then (b s).wp (fun s' => I s' ∧ μ s' < μ s) E else P s) E,
   fun hp he ⟨I, μ, h0, h⟩ => ⟨I, μ, h0, fun s hs => (c s).mono (fun t x => by
      cases t with
      | true => rw [if_pos rfl] at x ⊢; exact (b s).mono (fun _ y => y) he x
      | false => rw [if_neg Bool.false_ne_true] at x ⊢; exact hp _ x) he (h s hs)⟩⟩
/-- m promises more than m' -/
def Le (m m' : W α) : Prop := ∀ P E, m.wp P E → m'.wp P E
theorem ext {m m' : W α} (h : ∀ P E, m.wp P E ↔ m'.wp P E) : m = m' := by
  obtain ⟨w, mo⟩ := m
  obtain ⟨w', mo'⟩ := m'
  have e : w = w' := by funext P E; exact propext (h P E)
  subst e
  rfl
theorem wp_pure (a : α) (P : α → Prop) (E) : (pure a : W α).wp P E = P a := rfl
theorem wp_bind (m : W α) (f : α → W β) (P E) : (m >>= f).wp P E = m.wp (fun a => (f a).wp P E) E := rfl
theorem wp_req (c : Prop) (m : W α) (P E) : (req c m).wp P E = (c ∧ m.wp P E) := rfl
theorem wp_any (p : α → Prop) (P E) : (any p).wp P E = ∀ a, p a → P a := rfl
theorem wp_ite (c : Prop) [Decidable c] (m n : W α) (P E) : (if c then m else n).wp P E = if c then m.wp P E else n.wp P E := by split <;> rfl
end W

/-! ### predicates of values, slots -/
structure Rp where
  p : Hp → V → Prop
  mono : ∀ {F F' : Hp} {v : V}, Same F F' → p F v → p F' v
/-- what a private heap holds: F, the private heap, the value -/
structure Op where
  p : Hp → Hp → V → Prop
  mono : ∀ {F F' G : Hp} {v : V}, Same F F' → p F G v → p F' G v
inductive Slot where
  | no
  | val (R : Rp)
  | own (O : Op)
def SlotOk (F G : Hp) : Slot → Option (Option V) → Prop
  | .no, _ => True
  | .val R, o => ∃ v, o = some (some v) ∧ R.p F v
  | .own O, o => ∃ v, o = some (some v) ∧ O.p F G v
theorem SlotOk.mono {F F' G : Hp} {S : Slot} {o : Option (Option V)} (h : Same F F') (x : SlotOk F G S o) : SlotOk F' G S o := by
  cases S with
  | no => trivial
  | val R => obtain ⟨v, e, r⟩ := x; exact ⟨v, e, R.mono h r⟩
  | own O => obtain ⟨v, e, r⟩ := x; exact ⟨v, e, O.mono h r⟩
def Dis (F G : Hp) : Prop := ∀ a, F a = none ∨ G a = none
def emp : Hp := fun _ => none
theorem Dis.emp {F : Hp} : Dis F Y.emp := fun _ => .inr rfl
theorem Dis.symm {F G : Hp} (h : Dis F G) : Dis G F := fun a => (h a).symm
def one (a : Addr) (o : HO) : Hp := fun b => if b = a then some o else none
theorem one_same {a : Addr} {o : HO} : one a o a = some o := if_pos rfl
theorem one_ne {a b : Addr} {o : HO} (h : b ≠ a) : one a o b = none := if_neg h
def uni (F G : Hp) : Hp := fun a => match F a with | some o => some o | none => G a
theorem uni_l {F G : Hp} : Same F (uni F G) := fun a o e => by unfold uni; rw [e]
theorem uni_r {F G : Hp} (d : Dis F G) : Same G (uni F G) := fun a o e => by
  unfold uni
  rcases d a with q | q
  · rw [q]; exact e
  · rw [q] at e; cases e
theorem uni_none {F G : Hp} {a : Addr} (h : F a = none) (h' : G a = none) : uni F G a = none := by unfold uni; rw [h]; exact h'
theorem of_uni {F G : Hp} {a : Addr} {o : HO} (h : uni F G a = some o) : F a = some o ∨ (F a = none ∧ G a = some o) := by
  unfold uni at h
  cases e : F a with
  | none => rw [e] at h; exact .inr ⟨rfl, h⟩
  | some u => rw [e] at h; exact .inl h
def setG (g : Nat → Hp) (i : Nat) (G : Hp) : Nat → Hp := fun j => if j = i then G else g j
theorem setG_same {g : Nat → Hp} {i : Nat} {G : Hp} : setG g i G i = G := if_pos rfl
theorem setG_ne {g : Nat → Hp} {i j : Nat} {G : Hp} (h : j ≠ i) : setG g i G j = g j := if_neg h
def dU (g : Nat → Hp) (a : Addr) : Prop := ∃ i, g i a ≠ none

/-- the module, as it stands behind the top -/
structure Mc where
  P : Program
  w : World
  K : PySem.W.Frag
  mg : Str → Option Value
  base : Heap
/-- the static context of a def's body -/
structure Cc extends Mc where
  N : List Str
  sc : Scope
  k : Nat
  fr : Addr → Prop
  fnc : Str → Bool
  cm : Bool
  /-- the exception that a suite holds -/
  ex : Option (Addr × Value × Option Addr)
/-- room for calls, whatever is handled -/
structure RoomS (k : Nat) (A : Around) : Prop where
  dp : A.depth + 3 * k + 5 < recursionLimit
  un : A.units + 16 * k + 200 < cLine
theorem RoomS.of {k : Nat} {A : Around} (r : Room k A) : RoomS k A := ⟨r.dp, r.un⟩
structure Cc.Ok (C : Cc) (X : Cx) : Prop where
  prog : X.prog = C.P
  w : X.w = C.w
  K : X.K = C.K
  mg : X.mg = C.mg
  base : X.base = C.base
  N : X.N = C.N
  sc : X.env.scope = C.sc
  nd : C.N.Nodup
  calm : X.calm = C.cm
  room : C.cm = true → Room C.k X.A
  units : X.A.units + 64 < cLine
  exc : ∀ a cls d, C.ex = some (a, cls, d) → RoomS C.k X.A ∧ ∃ (Y : Cx) (pn : List (Addr × Obj)) (oe : Obj), X = Y.suite a ((a, oe) :: pn) ∧ Zc cls d oe ∧ ∃ vs, oe.data = .fields vs
  fnc : ∀ x, C.fnc x = true → X.fn x = true
theorem Cc.Ok.ndX {C : Cc} {X : Cx} (h : C.Ok X) : X.N.Nodup := by rw [h.N]; exact h.nd

structure St0 (F H : Hp) (Γ : List Slot) (σ : St) (g : Nat → Hp) : Prop where
  len : Γ.length = σ.length
  slot : ∀ i S, Γ[i]? = some S → SlotOk F (g i) S (σ[i]?)
  sF : Same F H
  sG : ∀ i, Same (g i) H
  dF : ∀ i, Dis F (g i)
  dG : ∀ i j, i ≠ j → Dis (g i) (g j)
structure StOk (C : Cc) (F H : Hp) (Γ : List Slot) (σ : St) (g : Nat → Hp) : Prop where
  len : Γ.length = σ.length
  slot : ∀ i S, Γ[i]? = some S → SlotOk F (g i) S (σ[i]?)
  sF : Same F H
  sG : ∀ i, Same (g i) H
  dF : ∀ i, Dis F (g i)
  dG : ∀ i j, i ≠ j → Dis (g i) (g j)
  fr : ∀ a, H a = none → C.fr a
theorem StOk.st0 {C : Cc} {F H : Hp} {Γ : List Slot} {σ : St} {g : Nat → Hp} (s : StOk C F H Γ σ g) : St0 F H Γ σ g := ⟨s.len, s.slot, s.sF, s.sG, s.dF, s.dG⟩
theorem St0.ok {C : Cc} {F H : Hp} {Γ : List Slot} {σ : St} {g : Nat → Hp} (s : St0 F H Γ σ g) (h : ∀ a, H a = none → C.fr a) : StOk C F H Γ σ g := ⟨s.len, s.slot, s.sF, s.sG, s.dF, s.dG, h⟩

/-- from one point of a run to a later one: F grows, what is not owned stays -/
structure Fr (F H : Hp) (U : Addr → Prop) (F' H' : Hp) (U' : Addr → Prop) : Prop where
  sF : Same F F'
  fF : ∀ b, F' b ≠ none → F b ≠ none ∨ H b = none ∨ U b
  keep : ∀ b o, H b = some o → ¬ U b → H' b = some o
  dom : ∀ b, H b ≠ none → H' b ≠ none
  gs : ∀ b, U' b → U b ∨ H b = none
theorem Fr.refl {F H : Hp} {U : Addr → Prop} : Fr F H U F H U := ⟨Same.refl _, fun _ h => .inl h, fun _ _ h _ => h, fun _ h => h, fun _ h => .inl h⟩
theorem Fr.trans {F H F' H' F'' H'' : Hp} {U U' U'' : Addr → Prop} (a : Fr F H U F' H' U') (b : Fr F' H' U' F'' H'' U'') : Fr F H U F'' H'' U'' where
  sF := a.sF.trans b.sF
  fF := fun c h => by
    rcases b.fF c h with q | q | q
    · exact a.fF c q
    · refine .inr (.inl ?_)
      cases e : H c with
      | none => rfl
      | some o => exact absurd q (a.dom c (by rw [e]; simp))
    · rcases a.gs c q with z | z
      · exact .inr (.inr z)
      · exact .inr (.inl z)
  keep := fun c o h n => b.keep c o (a.keep c o h n) fun z => by
    rcases a.gs c z with q | q
    · exact n q
    · rw [h] at q; cases q
  dom := fun c h => b.dom c (a.dom c h)
  gs := fun c h => by
    rcases b.gs c h with q | q
    · exact a.gs c q
    · refine .inr ?_
      cases e : H c with
      | none => rfl
      | some o => exact absurd q (a.dom c (by rw [e]; simp))
/-- the owned set may be said smaller at the end -/
theorem Fr.less {F H F' H' : Hp} {U U' U'' : Addr → Prop} (a : Fr F H U F' H' U') (h : ∀ b, U'' b → U' b) : Fr F H U F' H' U'' :=
  ⟨a.sF, a.fF, a.keep, a.dom, fun b z => a.gs b (h b z)⟩

section
variable {C : Cc} {F H F' H' : Hp} {Γ Γ' : List Slot} {σ : St} {g : Nat → Hp}
theorem StOk.get_val (s : StOk C F H Γ σ g) {i : Nat} {R : Rp} (h : Γ[i]? = some (.val R)) : ∃ v, σ[i]? = some (some v) ∧ R.p F v := s.slot i _ h
theorem StOk.get_own (s : StOk C F H Γ σ g) {i : Nat} {O : Op} (h : Γ[i]? = some (.own O)) : ∃ v, σ[i]? = some (some v) ∧ O.p F (g i) v := s.slot i _ h
theorem StOk.set_val (s : StOk C F H Γ σ g) {i : Nat} {R : Rp} {v : V} (r : R.p F v) : StOk C F H (Γ.set i (.val R)) (σ.set i (some v)) g where
  len := by simp [s.len]
  slot := fun j S e => by
    by_cases hj : i = j
    · subst hj
      have hl : i < Γ.length := by
        have q := (List.getElem?_eq_some_iff.mp e).1
        simpa using q
      rw [List.getElem?_set_self hl] at e
      cases e
      rw [List.getElem?_set_self (by rw [← s.len]; exact hl)]
      exact ⟨v, rfl, r⟩
    · rw [List.getElem?_set_ne hj] at e ⊢
      exact s.slot j S e
  sF := s.sF
  sG := s.sG
  dF := s.dF
  dG := s.dG
  fr := s.fr
theorem StOk.set_own (s : StOk C F H Γ σ g) {i : Nat} {O : Op} {G : Hp} {v : V} (r : O.p F G v) (sG : Same G H) (dF : Dis F G) (dG : ∀ j, j ≠ i → Dis (g j) G) : StOk C F H (Γ.set i (.own O)) (σ.set i (some v)) (setG g i G) where
  len := by simp [s.len]
  slot := fun j S e => by
    by_cases hj : i = j
    · subst hj
      have hl : i < Γ.length := by
        have q := (List.getElem?_eq_some_iff.mp e).1
        simpa using q
      rw [List.getElem?_set_self hl] at e
      cases e
      rw [List.getElem?_set_self (by rw [← s.len]; exact hl), setG_same]
      exact ⟨v, rfl, r⟩
    · rw [List.getElem?_set_ne hj] at e ⊢
      rw [setG_ne (fun q => hj q.symm)]
      exact s.slot j S e
  sF := s.sF
  sG := fun j => by
    by_cases hj : j = i
    · subst hj; rw [setG_same]; exact sG
    · rw [setG_ne hj]; exact s.sG j
  dF := fun j => by
    by_cases hj : j = i
    · subst hj; rw [setG_same]; exact dF
    · rw [setG_ne hj]; exact s.dF j
  dG := fun j k hjk => by
    by_cases hj : j = i
    · subst hj
      rw [setG_same, setG_ne (fun q => hjk q.symm)]
      exact (dG k (fun q => hjk q.symm)).symm
    · rw [setG_ne hj]
      by_cases hk : k = i
      · subst hk; rw [setG_same]; exact dG j hj
      · rw [setG_ne hk]; exact s.dG j k hjk
  fr := s.fr
theorem StOk.set_no (s : StOk C F H Γ σ g) {i : Nat} {o : Option V} : StOk C F H (Γ.set i .no) (σ.set i o) g where
  len := by simp [s.len]
  slot := fun j S e => by
    by_cases hj : i = j
    · subst hj
      have hl : i < Γ.length := by
        have q := (List.getElem?_eq_some_iff.mp e).1
        simpa using q
      rw [List.getElem?_set_self hl] at e
      cases e
      trivial
    · rw [List.getElem?_set_ne hj] at e ⊢
      exact s.slot j S e
  sF := s.sF
  sG := s.sG
  dF := s.dF
  dG := s.dG
  fr := s.fr
/-- weaker slots -/
def Sub (Γ Γ' : List Slot) : Prop := Γ.length = Γ'.length ∧ ∀ (i : Nat) (S' : Slot), Γ'[i]? = some S' → S' = Slot.no ∨ Γ[i]? = some S' ∨ ∃ R R', S' = Slot.val R' ∧ Γ[i]? = some (Slot.val R) ∧ ∀ F v, R.p F v → R'.p F v
theorem StOk.weak (s : StOk C F H Γ σ g) (h : Sub Γ Γ') : StOk C F H Γ' σ g where
  len := h.1.symm.trans s.len
  slot := fun i S e => by
    rcases h.2 i S e with q | q | ⟨R, R', q, q', hR⟩
    · subst q; trivial
    · exact s.slot i S q
    · subst q
      obtain ⟨v, e1, e2⟩ := s.slot i _ q'
      exact ⟨v, e1, hR _ _ e2⟩
  sF := s.sF
  sG := s.sG
  dF := s.dF
  dG := s.dG
  fr := s.fr
theorem Sub.refl : Sub Γ Γ := ⟨rfl, fun _ _ h => .inr (.inl h)⟩
/-- new objects are laid into F -/
theorem StOk.grow (s : StOk C F H Γ σ g) {G : Hp} (hn : ∀ a o, G a = some o → H a = none) : StOk C (uni F G) (uni H G) Γ σ g ∧ Fr F H (dU g) (uni F G) (uni H G) (dU g) := by
  refine ⟨⟨s.len, fun i S e => (s.slot i S e).mono uni_l, fun a o e => ?_, fun i a o e => uni_l a o (s.sG i a o e), fun i a => ?_, s.dG, fun a e => ?_⟩, uni_l, fun b hb => ?_, fun b o e _ => uni_l b o e, fun b hb => ?_, fun b z => .inl z⟩
  · rcases of_uni e with q | ⟨q, q'⟩
    · exact uni_l a o (s.sF a o q)
    · show uni H G a = some o
      unfold uni; rw [hn a o q']; exact q'
  · rcases s.dF i a with q | q
    · cases e : G a with
      | none => exact .inl (uni_none q e)
      | some o =>
        refine .inr ?_
        cases e2 : g i a with
        | none => rfl
        | some u =>
          have := s.sG i a u e2
          rw [hn a o e] at this; cases this
    · exact .inr q
  · refine s.fr a ?_
    cases q : H a with
    | none => rfl
    | some o => rw [uni_l a o q] at e; cases e
  · cases q : F b with
    | some o => exact .inl (by simp)
    | none =>
      cases q2 : G b with
      | none => exact absurd (uni_none q q2) hb
      | some o => exact .inr (.inl (hn b o q2))
  · cases q : H b with
    | none => exact absurd q hb
    | some o => rw [uni_l b o q]; simp
end

theorem uni_upd {H : Hp} {p : Addr} {o : HO} (h : H p = none) : uni H (one p o) = upd H p o := by
  funext b
  unfold uni upd
  by_cases e : b = p
  · subst e; rw [h, if_pos rfl]; exact one_same
  · rw [if_neg e]
    cases q : H b with
    | none => exact one_ne e
    | some u => rfl
/-- one new object, into F -/
theorem StOk.grow1 {C : Cc} {F H : Hp} {Γ : List Slot} {σ : St} {g : Nat → Hp} (s : StOk C F H Γ σ g) {p : Addr} {o : HO} (hn : H p = none) :
    StOk C (upd F p o) (upd H p o) Γ σ g ∧ Fr F H (dU g) (upd F p o) (upd H p o) (dU g) := by
  have hf : F p = none := by
    cases q : F p with
    | none => rfl
    | some u => rw [s.sF p u q] at hn; cases hn
  have := s.grow (G := one p o) (fun a u e => by
    by_cases h : a = p
    · rw [h]; exact hn
    · rw [one_ne h] at e; cases e)
  rw [uni_upd hn, uni_upd hf] at this
  exact this

/-! ### the semantic judgements -/
section
variable {X : Cx}
@[irreducible] def WE (X : Cx) (e : Expr) : TE := fun σ H Q => ∀ pins s, Inv X pins σ H s → wpAny (model X.prog X.w) X.A (eval e X.env) (EP X pins σ Q) X.xe s
@[irreducible] def WT (X : Cx) (e : Expr) : TT := fun σ H Q => ∀ pins s, Inv X pins σ H s → wpAny (model X.prog X.w) X.A (isTrue e X.env (eval e X.env)) (TP X pins σ Q) X.xe s
@[irreducible] def WW (X : Cx) (e : Expr) : TT := fun σ H Q => ∀ (whole : Sem Value) pins s, Inv X pins σ H s → wpAny (model X.prog X.w) X.A (isTrue e X.env whole) (TP X pins σ Q) X.xe s
@[irreducible] def WA (X : Cx) (es : List Expr) : TA := fun σ H Q => ∀ (pos : Pos) pins s, Inv X pins σ H s → wpAny (model X.prog X.w) X.A (spliced (backTo pos (starEach es X.env))) (AP X pins σ Q) X.xe s
@[irreducible] def WS (X : Cx) (st : List Stmt) : TS := fun D σ H => ∀ pins s, Inv X pins σ H s → wpAny (model X.prog X.w) X.A (execs st X.env) (SP X pins D) X.xe s
@[irreducible] def W1 (X : Cx) (st : Stmt) : TS := fun D σ H => ∀ pins s, Inv X pins σ H s → wpAny (model X.prog X.w) X.A (exec st X.env) (SP X pins D) X.xe s
theorem pe_W {e : Expr} : PE X e (WE X e) := ⟨fun pins s σ H Q I h => by unfold WE at h; exact h pins s I⟩
theorem pt_W {e : Expr} : PT X e (WT X e) := ⟨fun pins s σ H Q I h => by unfold WT at h; exact h pins s I⟩
theorem pw_W {e : Expr} : PW X e (WW X e) := ⟨fun whole pins s σ H Q I h => by unfold WW at h; exact h whole pins s I⟩
theorem pa_W {es : List Expr} : PA X es (WA X es) := ⟨fun pos pins s σ H Q I h => by unfold WA at h; exact h pos pins s I⟩
theorem pss_W {st : List Stmt} : PSs X st (WS X st) := ⟨fun pins s σ H D I h => by unfold WS at h; exact h pins s I⟩
theorem ps_W {st : Stmt} : PS X st (W1 X st) := ⟨fun pins s σ H D I h => by unfold W1 at h; exact h pins s I⟩
theorem WE.of {e : Expr} {t : TE} (h : PE X e t) {σ : St} {H : Hp} {Q : VK} (q : t σ H Q) : WE X e σ H Q := by unfold WE; exact fun pins s I => h.run pins s σ H Q I q
theorem WT.of {e : Expr} {t : TT} (h : PT X e t) {σ : St} {H : Hp} {Q : Bool → Hp → Prop} (q : t σ H Q) : WT X e σ H Q := by unfold WT; exact fun pins s I => h.run pins s σ H Q I q
theorem WW.of {e : Expr} {t : TT} (h : PW X e t) {σ : St} {H : Hp} {Q : Bool → Hp → Prop} (q : t σ H Q) : WW X e σ H Q := by unfold WW; exact fun whole pins s I => h.run whole pins s σ H Q I q
theorem WA.of {es : List Expr} {t : TA} (h : PA X es t) {σ : St} {H : Hp} {Q : List V → Hp → Prop} (q : t σ H Q) : WA X es σ H Q := by unfold WA; exact fun pos pins s I => h.run pos pins s σ H Q I q
theorem WS.of {st : List Stmt} {t : TS} (h : PSs X st t) {D : Ends} {σ : St} {H : Hp} (q : t D σ H) : WS X st D σ H := by unfold WS; exact fun pins s I => h.run pins s σ H D I q
theorem W1.of {st : Stmt} {t : TS} (h : PS X st t) {D : Ends} {σ : St} {H : Hp} (q : t D σ H) : W1 X st D σ H := by unfold W1; exact fun pins s I => h.run pins s σ H D I q
end

/-- how an exception lies: its class, its own dict (new behind H0, owned by none) -/
def XOk (C : Mc) (e : Exn) (H0 H : Hp) (U : Addr → Prop) (cls : Value) (d : Option Addr) : Prop :=
  ∃ a, C.mg e.cls = some (.ref a) ∧ cls = .ref a ∧ match e.pay with
    | none => d = none
    | some x => ∃ b, d = some b ∧ H0 b = none ∧ H b = some (.xd [("name", .str x)]) ∧ ¬ U b
theorem XOk.mp {C : Mc} {e : Exn} {H0 H0' H : Hp} {U U' : Addr → Prop} {cls : Value} {d : Option Addr} (x : XOk C e H0 H U cls d) (h : ∀ b, H0 b = none → ¬ U b → H0' b = none ∧ ¬ U' b) : XOk C e H0' H U' cls d := by
  obtain ⟨a, h1, h2, h3⟩ := x
  refine ⟨a, h1, h2, ?_⟩
  cases hp : e.pay with
  | none => rw [hp] at h3; exact h3
  | some z =>
    rw [hp] at h3
    obtain ⟨b, e1, e2, e3, e4⟩ := h3
    obtain ⟨e5, e6⟩ := h b e2 e4
    exact ⟨b, e1, e5, e3, e6⟩
theorem XOk.later {C : Mc} {e : Exn} {F H F' H' H2 : Hp} {U U' U2 : Addr → Prop} {cls : Value} {d : Option Addr} (f : Fr F H U F' H' U') (x : XOk C e H' H2 U2 cls d) : XOk C e H H2 U2 cls d :=
  x.mp fun b q n => ⟨by
    cases z : H b with
    | none => rfl
    | some o => exact absurd q (f.dom b (by rw [z]; simp)), n⟩
/-- what is owned stood already -/
theorem XOk.reg {C : Mc} {e : Exn} {H0 H : Hp} {U : Addr → Prop} {g : Nat → Hp} {cls : Value} {d : Option Addr} (s : ∀ i, Same (g i) H0) (x : XOk C e H0 H U cls d) : XOk C e H0 H (dU g) cls d :=
  x.mp fun b q _ => ⟨q, fun ⟨i, z⟩ => by
    cases w : g i b with
    | none => exact z w
    | some o => rw [s i b o w] at q; cases q⟩

/-- what is wanted of an exception e behind the point F H U -/
def XEnd (C : Cc) (F H : Hp) (U : Addr → Prop) (Γ : List Slot) (σ : St) (Wx : WX) (e : Exn) : Prop :=
  ∀ F' H' g' cls d, Fr F H U F' H' (dU g') → StOk C F' H' Γ σ g' → XOk C.toMc e H H' (dU g') cls d → Wx cls d σ H'
/-- an expression: its value, by m and ρ -/
def Ev (C : Cc) (Γ : List Slot) (e : Expr) {α : Type} (ρ : α → Rp) (m : W α) : Prop :=
  ∀ (X : Cx) (Wx : WX), C.Ok X → Takes X Wx → ∀ (F H : Hp) (g : Nat → Hp) (σ : St), StOk C F H Γ σ g → ∀ Q : VK,
    m.wp (fun a => ∀ F' H' g' v, Fr F H (dU g) F' H' (dU g') → StOk C F' H' Γ σ g' → (ρ a).p F' v → Q v H') (XEnd C F H (dU g) Γ σ Wx) → WE X e σ H Q
/-- .. a new object of the asker's own -/
def EvO (C : Cc) (Γ : List Slot) (e : Expr) {α : Type} (O : α → Op) (m : W α) : Prop :=
  ∀ (X : Cx) (Wx : WX), C.Ok X → Takes X Wx → ∀ (F H : Hp) (g : Nat → Hp) (σ : St), StOk C F H Γ σ g → ∀ Q : VK,
    m.wp (fun a => ∀ F' H' g' G v, Fr F H (dU g) F' H' (fun b => dU g' b ∨ G b ≠ none) → StOk C F' H' Γ σ g' → Same G H' → Dis F' G → (∀ i, Dis (g' i) G) → (∀ b, G b ≠ none → C.fr b) → (O a).p F' G v → Q v H') (XEnd C F H (dU g) Γ σ Wx) → WE X e σ H Q
/-- a test -/
def EvT (C : Cc) (Γ : List Slot) (e : Expr) (m : W Bool) : Prop :=
  ∀ (X : Cx) (Wx : WX), C.Ok X → Takes X Wx → ∀ (F H : Hp) (g : Nat → Hp) (σ : St), StOk C F H Γ σ g → ∀ Q : Bool → Hp → Prop,
    m.wp (fun a => ∀ F' H' g', Fr F H (dU g) F' H' (dU g') → StOk C F' H' Γ σ g' → Q a H') (XEnd C F H (dU g) Γ σ Wx) → WT X e σ H Q

/-- from later points -/
theorem XEnd.later {C : Cc} {F H F' H' : Hp} {U U' : Addr → Prop} {Γ : List Slot} {σ : St} {Wx : WX} {e : Exn} (f : Fr F H U F' H' U') (h : XEnd C F H U Γ σ Wx e) : XEnd C F' H' U' Γ σ Wx e :=
  fun F2 H2 g2 cls d f2 s x => h F2 H2 g2 cls d (f.trans f2) s (x.later f)

/-! ### kinds of values -/
def rI (i : Int) : Rp := ⟨fun _ v => v = .int i, fun _ h => h⟩
def rB (b : Bool) : Rp := ⟨fun _ v => v = .bl b, fun _ h => h⟩
def rS (z : Str) : Rp := ⟨fun _ v => v = .str z, fun _ h => h⟩
def rU (_ : Unit) : Rp := ⟨fun _ v => v = .non, fun _ h => h⟩
def rO {α : Type} (r : α → Rp) : Option α → Rp
  | none => ⟨fun _ v => v = .non, fun _ h => h⟩
  | some x => r x
inductive All2 {α β : Type} (R : α → β → Prop) : List α → List β → Prop
  | nil : All2 R [] []
  | cons {a b as bs} : R a b → All2 R as bs → All2 R (a :: as) (b :: bs)
namespace All2
variable {α β : Type} {R R' : α → β → Prop}
theorem length {as : List α} {bs : List β} (h : All2 R as bs) : as.length = bs.length := by
  induction h with
  | nil => rfl
  | cons _ _ ih => simp [ih]
theorem imp (f : ∀ a b, R a b → R' a b) {as : List α} {bs : List β} (h : All2 R as bs) : All2 R' as bs := by
  induction h with
  | nil => exact .nil
  | cons r _ ih => exact .cons (f _ _ r) ih
theorem get {as : List α} {bs : List β} (h : All2 R as bs) : ∀ {i : Nat} {b : β}, bs[i]? = some b → ∃ a, as[i]? = some a ∧ R a b := by
  induction h with
  | nil => intro i b e; simp at e
  | cons r _ ih =>
    intro i b e
    cases i with
    | zero => simp at e; subst e; exact ⟨_, rfl, r⟩
    | succ i => simpa using ih (by simpa using e)
theorem append {as as' : List α} {bs bs' : List β} (h : All2 R as bs) (h' : All2 R as' bs') : All2 R (as ++ as') (bs ++ bs') := by
  induction h with
  | nil => exact h'
  | cons r _ ih => exact .cons r ih
theorem snoc {as : List α} {bs : List β} {a : α} {b : β} (h : All2 R as bs) (r : R a b) : All2 R (as ++ [a]) (bs ++ [b]) := h.append (.cons r .nil)
theorem take {as : List α} {bs : List β} (h : All2 R as bs) : ∀ n : Nat, All2 R (as.take n) (bs.take n) := by
  induction h with
  | nil => intro n; simp; exact .nil
  | cons r _ ih =>
    intro n
    cases n with
    | zero => exact .nil
    | succ n => exact .cons r (ih n)
theorem drop {as : List α} {bs : List β} (h : All2 R as bs) : ∀ n : Nat, All2 R (as.drop n) (bs.drop n) := by
  induction h with
  | nil => intro n; simp; exact .nil
  | cons r t ih =>
    intro n
    cases n with
    | zero => exact .cons r t
    | succ n => exact ih n
theorem set {as : List α} {bs : List β} {a : α} {b : β} (h : All2 R as bs) (r : R a b) : ∀ n : Nat, All2 R (as.set n a) (bs.set n b) := by
  induction h with
  | nil => intro n; exact .nil
  | cons q t ih =>
    intro n
    cases n with
    | zero => exact .cons r t
    | succ n => exact .cons q (ih n)
theorem of_map {f : β → α} (h : ∀ b a, R a b → a = f b) {as : List α} {bs : List β} (x : All2 R as bs) : as = bs.map f := by
  induction x with
  | nil => rfl
  | cons r _ ih => simp [ih, h _ _ r]
theorem to_map {f : β → α} (h : ∀ b, R (f b) b) : ∀ bs : List β, All2 R (bs.map f) bs
  | [] => .nil
  | b :: bs => .cons (h b) (to_map h bs)
theorem reverse {as : List α} {bs : List β} (h : All2 R as bs) : All2 R as.reverse bs.reverse := by
  induction h with
  | nil => exact .nil
  | cons r _ ih => simp only [List.reverse_cons]; exact ih.snoc r
end All2

section
variable {K : PySem.W.Frag} {α β γ : Type}
theorem Same.seqT {F F' : Hp} {a : Addr} {xs : List V} (e : Same F F') (h : SqT K F a xs) : SqT K F' a xs := by
  rcases h with q | q
  · refine .inl ?_
    rcases q with q | ⟨o, q⟩
    · exact .inl (e _ _ q)
    · exact .inr ⟨o, e _ _ q⟩
  · exact .inr q
/-- a list, of any place -/
def rL (K : PySem.W.Frag) (r : α → Rp) (xs : List α) : Rp :=
  ⟨fun F v => ∃ a vs, v = .ref a ∧ SqL K F a vs ∧ All2 (fun u x => (r x).p F u) vs xs, fun h ⟨a, vs, e, q, t⟩ => ⟨a, vs, e, h.seq q, t.imp fun _ _ z => (r _).mono h z⟩⟩
/-- a list that is ours: tracked, of our places -/
def rN (N : Addr → Prop) (r : α → Rp) (xs : List α) : Rp :=
  ⟨fun F v => ∃ a vs, v = .ref a ∧ N a ∧ F a = some (.lst vs) ∧ All2 (fun u x => (r x).p F u) vs xs, fun h ⟨a, vs, e, n, q, t⟩ => ⟨a, vs, e, n, h _ _ q, t.imp fun _ _ z => (r _).mono h z⟩⟩
def rT2 (K : PySem.W.Frag) (r1 : α → Rp) (r2 : β → Rp) (x : α × β) : Rp :=
  ⟨fun F v => ∃ a v1 v2, v = .ref a ∧ SqT K F a [v1, v2] ∧ (r1 x.1).p F v1 ∧ (r2 x.2).p F v2, fun h ⟨a, v1, v2, e, q, t1, t2⟩ => ⟨a, v1, v2, e, Same.seqT h q, (r1 _).mono h t1, (r2 _).mono h t2⟩⟩
def rT3 (K : PySem.W.Frag) (r1 : α → Rp) (r2 : β → Rp) (r3 : γ → Rp) (x : α × β × γ) : Rp :=
  ⟨fun F v => ∃ a v1 v2 v3, v = .ref a ∧ SqT K F a [v1, v2, v3] ∧ (r1 x.1).p F v1 ∧ (r2 x.2.1).p F v2 ∧ (r3 x.2.2).p F v3, fun h ⟨a, v1, v2, v3, e, q, t1, t2, t3⟩ => ⟨a, v1, v2, v3, e, Same.seqT h q, (r1 _).mono h t1, (r2 _).mono h t2, (r3 _).mono h t3⟩⟩
/-- an own list: alone in its private heap; the items in F -/
def oL (N : Addr → Prop) (r : α → Rp) (xs : List α) : Op :=
  ⟨fun F G v => ∃ a vs, v = .ref a ∧ N a ∧ G = one a (.lst vs) ∧ All2 (fun u x => (r x).p F u) vs xs, fun h ⟨a, vs, e, n, q, t⟩ => ⟨a, vs, e, n, q, t.imp fun _ _ z => (r _).mono h z⟩⟩
theorem rN_rL {N : Addr → Prop} {r : α → Rp} {xs : List α} {F : Hp} {v : V} (h : (rN N r xs).p F v) : (rL K r xs).p F v := by
  obtain ⟨a, vs, e, _, q, t⟩ := h
  exact ⟨a, vs, e, SqL.of q, t⟩
end
/-- a value of a smaller kind -/
theorem Ev.sub {C : Cc} {Γ : List Slot} {e : Expr} {α : Type} {ρ ρ' : α → Rp} {m : W α} (h : ∀ a F v, (ρ a).p F v → (ρ' a).p F v) (x : Ev C Γ e ρ m) : Ev C Γ e ρ' m :=
  fun X Wx ok tk F H g σ s Q hm => x X Wx ok tk F H g σ s Q (m.mono (fun a z F' H' g' v f s r => z F' H' g' v f s (h a F' v r)) (fun _ z => z) hm)
/-- a function of the value -/
theorem Ev.map {C : Cc} {Γ : List Slot} {e : Expr} {α β : Type} {ρ : α → Rp} {ρ' : β → Rp} {m : W α} (f : α → β) (h : ∀ a F v, (ρ a).p F v → (ρ' (f a)).p F v) (x : Ev C Γ e ρ m) : Ev C Γ e ρ' (m >>= fun a => pure (f a)) :=
  fun X Wx ok tk F H g σ s Q hm => x X Wx ok tk F H g σ s Q (m.mono (fun a z F' H' g' v fr s r => z F' H' g' v fr s (h a F' v r)) (fun _ z => z) hm)
/-- a new object joins F -/
theorem EvO.ev {C : Cc} {Γ : List Slot} {e : Expr} {α : Type} {O : α → Op} {ρ : α → Rp} {m : W α} (h : ∀ a F G v, Dis F G → (∀ b, G b ≠ none → C.fr b) → (O a).p F G v → (ρ a).p (uni F G) v) (x : EvO C Γ e O m) : Ev C Γ e ρ m :=
  fun X Wx ok tk F H g σ s Q hm => x X Wx ok tk F H g σ s Q (m.mono (fun a z F' H' g' G v f s sG dF dG nG r => by
    refine z (uni F' G) H' g' v ⟨f.sF.trans uni_l, fun b hb => ?_, f.keep, f.dom, fun b z => f.gs b (.inl z)⟩ ⟨s.len, fun i S e => (s.slot i S e).mono uni_l, fun b o e => ?_, s.sG, fun i b => ?_, s.dG, s.fr⟩ (h a F' G v dF nG r)
    · cases q : F' b with
      | some o => exact f.fF b (by rw [q]; simp)
      | none =>
        cases q2 : G b with
        | none => exact absurd (uni_none q q2) hb
        | some o => exact .inr ((f.gs b (.inr (by rw [q2]; simp))).symm)
    · rcases of_uni e with q | ⟨_, q⟩
      · exact s.sF b o q
      · exact sG b o q
    · rcases s.dF i b with q | q
      · rcases dG i b with q2 | q2
        · exact .inr q2
        · exact .inl (uni_none q q2)
      · exact .inr q) (fun _ z => z) hm)
theorem oL_rN {N : Addr → Prop} {α : Type} {r : α → Rp} {xs : List α} {F G : Hp} {v : V} (d : Dis F G) (h : (oL N r xs).p F G v) : (rN N r xs).p (uni F G) v := by
  obtain ⟨a, vs, e, n, q, t⟩ := h
  refine ⟨a, vs, e, n, ?_, t.imp fun _ _ z => (r _).mono uni_l z⟩
  subst q
  exact uni_r d a _ one_same
/-- a new list as a value -/
theorem EvO.list {C : Cc} {Γ : List Slot} {e : Expr} {α : Type} {r : α → Rp} {m : W (List α)} (x : EvO C Γ e (oL C.fr r) m) : Ev C Γ e (rN C.fr r) m := x.ev fun _ _ _ _ d _ h => oL_rN d h
end Y

/-! Y2: rules for expressions -/
namespace Y
open PySem PySem.Spec L2
section
variable {C : Cc} {Γ : List Slot} {α β γ : Type}

/-! ### names, constants -/
theorem Ev.name {i : Nat} {x : Str} {pos : Pos} {ρ : α → Rp} {a : α} (hN : C.N[i]? = some x) (hv : Vis C.sc x) (hΓ : Γ[i]? = some (.val (ρ a)))
    (hd : (x == ("__debug__" : Str)) = false := by decide) (hcd : (x == ("__classdict__" : Str)) = false := by decide) : Ev C Γ (.Name x pos) ρ (pure a) :=
  fun X Wx ok tk F H g σ s Q hm => by
    obtain ⟨v, e, r⟩ := s.get_val hΓ
    exact WE.of (pe_var (i := i) (by rw [ok.N]; exact hN) (by rw [ok.sc]; exact hv) hd hcd) ⟨v, e, hm F H g v Fr.refl s r⟩
theorem Ev.const {e : Expr} {v : V} {ρ : α → Rp} {a : α} (h : ∀ X : Cx, PE X e (tC v)) (r : ∀ F, (ρ a).p F v) : Ev C Γ e ρ (pure a) :=
  fun X Wx ok tk F H g σ s Q hm => WE.of (h X) (hm F H g v Fr.refl s (r F))
theorem Ev.int {i : Int} {j pos} : Ev C Γ (.Constant (.int i) j pos) rI (pure i) := Ev.const (fun _ => pe_int) fun _ => rfl
theorem Ev.bool {b : Bool} {j pos} : Ev C Γ (.Constant (.bool b) j pos) rB (pure b) := Ev.const (fun _ => pe_bl) fun _ => rfl
theorem Ev.str {x : Str} {j pos} : Ev C Γ (.Constant (.str x) j pos) rS (pure x) := Ev.const (fun _ => pe_str) fun _ => rfl
theorem Ev.none {r : α → Rp} {j pos} : Ev C Γ (.Constant .none j pos) (rO r) (pure (none : Option α)) := Ev.const (fun _ => pe_non) fun _ => rfl
theorem Ev.unit {j pos} : Ev C Γ (.Constant .none j pos) rU (pure ()) := Ev.const (fun _ => pe_non) fun _ => rfl
/-- a constant of the module's -/
theorem Ev.glob {x : Str} {pos : Pos} {ρ : α → Rp} {a : α} {v : V} {u : Value} (hg : C.sc.names.lookup x = some .globalImplicit) (hm : C.mg x = some u) (r : RelV v u) (h : ∀ F, (ρ a).p F v)
    (hd : (x == ("__debug__" : Str)) = false := by decide) : Ev C Γ (.Name x pos) ρ (pure a) :=
  fun X Wx ok tk F H g σ s Q hw => WE.of (pe_glob (v := v) (u := u) (show X.env.scope.names.lookup x = _ by rw [ok.sc]; exact hg) (by rw [ok.mg]; exact hm) r hd) (hw F H g v Fr.refl s (h F))

/-! ### two parts, one part -/
theorem Ev.bin {op : Operator} {a b : Expr} {pos : Pos} {ρa : α → Rp} {ρb : β → Rp} {ρc : γ → Rp} {ma : W α} {mb : W β} (k : α → β → W γ)
    (hop : ∀ X, C.Ok X → ∃ r, OpR X (binaryOp op) r ∧ ∀ x y H v w Q E, (ρa x).p H v → (ρb y).p H w → (k x y).wp (fun c => ∀ F u, (ρc c).p F u → Q u H) E → (∀ e, E e → True) → r v w H Q)
    (hs : ∀ x y P (E E' : Exn → Prop), (k x y).wp P E → (k x y).wp P E') (hp : ∀ c F u, (ρc c).p F u → ∀ F', (ρc c).p F' u) (ha : Ev C Γ a ρa ma) (hb : Ev C Γ b ρb mb) :
    Ev C Γ (.BinOp a op b pos) ρc (do let x ← ma; let y ← mb; k x y) :=
  fun X Wx ok tk F H g σ s Q hm => by
    obtain ⟨r, ho, hr⟩ := hop X ok
    refine WE.of (pe_op ho (pe_W (e := a)) (pe_W (e := b))) ?_
    refine ha X Wx ok tk F H g σ s _ (ma.mono (fun x hx F1 H1 g1 v f1 s1 r1 => ?_) (fun e he => he) hm)
    refine hb X Wx ok tk F1 H1 g1 σ s1 _ (mb.mono (fun y hy F2 H2 g2 w f2 s2 r2 => ?_) (fun e he => XEnd.later f1 he) hx)
    refine hr x y H2 v w Q (fun _ => True) ((ρa x).mono (f2.sF.trans s2.sF) r1) ((ρb y).mono s2.sF r2) ((k x y).mono (fun c hc F3 u h3 => ?_) (fun _ _ => trivial) (hs x y _ _ (fun _ => True) hy)) (fun _ _ => trivial)
    exact hc F2 H2 g2 u (f1.trans f2) s2 (hp c F3 u h3 F2)
theorem Ev.binI {op : Operator} {a b : Expr} {pos : Pos} {ma mb : W Int} (Cnd : Int → Int → Prop) (f : Int → Int → Int) (hop : ∀ X : Cx, OpR X (binaryOp op) (L2.rI Cnd fun i j => .int (f i j)))
    (ha : Ev C Γ a rI ma) (hb : Ev C Γ b rI mb) : Ev C Γ (.BinOp a op b pos) rI (do let x ← ma; let y ← mb; W.req (Cnd x y) (pure (f x y))) :=
  Ev.bin _ (fun X _ => ⟨_, hop X, fun x y H v w Q E hv hw hk _ => ⟨x, y, hv, hw, hk.1, hk.2 (fun _ => Option.none) _ rfl⟩⟩) (fun x y P E E' h => ⟨h.1, h.2⟩) (fun c F u h F' => h) ha hb
theorem Ev.binI0 {op : Operator} {a b : Expr} {pos : Pos} {ma mb : W Int} (f : Int → Int → Int) (hop : ∀ X : Cx, OpR X (binaryOp op) (rI0 fun i j => .int (f i j)))
    (ha : Ev C Γ a rI ma) (hb : Ev C Γ b rI mb) : Ev C Γ (.BinOp a op b pos) rI (do let x ← ma; let y ← mb; pure (f x y)) :=
  Ev.bin _ (fun X _ => ⟨_, hop X, fun x y H v w Q E hv hw hk _ => ⟨x, y, hv, hw, hk (fun _ => Option.none) _ rfl⟩⟩) (fun x y P E E' h => h) (fun c F u h F' => h) ha hb

theorem floordivN (X : Cx) : OpR X (binaryOp .FloorDiv) (L2.rI (fun _ j => j ≠ 0 ∧ j.natAbs.log2 < 9000) fun i j => .int (i.fdiv j)) := opI fun _ _ _ _ _ _ _ hc q => PyProof.Rows.floordiv_int hc.1 q (.inl (PyProof.noPylong_of_log2 hc.2))
end

/-- two factors of together less than 10 ^ 8 bits -/
def CMulB (i j : Int) : Prop := i.natAbs.log2 + j.natAbs.log2 < 100000000
theorem CMulB.ok {i j : Int} (h : CMulB i j) : IntMulOk i j := by
  have b : ∀ x : Int, Builtin.Int.intBits x ≤ x.natAbs.log2 + 1 := fun x => by
    unfold Builtin.Int.intBits
    split <;> omega
  have h1 := b i
  have h2 := b j
  have h3 : i.natAbs.log2 + j.natAbs.log2 < 100000000 := h
  have e : bitsLine = 134217728 := by decide
  intro z
  rw [Bool.and_eq_true] at z
  have z2 : decide (_ < _) = true := z.2
  have z3 := of_decide_eq_true z2
  rw [e] at z3
  omega
theorem op_mulB (X : Cx) : OpR X (binaryOp .Mult) (L2.rI CMulB fun i j => .int (i * j)) := L2.opI fun _ _ _ _ _ _ _ hc q => PyProof.Rows.mul_int q hc.ok
/-- the conditions of great ints -/
def mulI (x y : Int) : W Int := W.req (CMulB x y) (pure (x * y))
def divI (x y : Int) : W Int := W.req (y ≠ 0 ∧ y.natAbs.log2 < 9000) (pure (x.fdiv y))
def modI (x y : Int) : W Int := W.req (y ≠ 0) (pure (x.fmod y))
def powI (x y : Int) : W Int := W.req (CPow x y) (pure (x ^ y.toNat))
def shlI (x y : Int) : W Int := W.req (CPow x y) (pure (x * 2 ^ y.toNat))
def shrI (x y : Int) : W Int := W.req (0 ≤ y) (pure (x / 2 ^ y.toNat))

section
variable {C : Cc} {Γ : List Slot} {α β γ : Type} {a b : Expr} {pos : Pos} {ma mb : W Int} {x y : Int}
theorem Ev.add (ha : Ev C Γ a rI ma) (hb : Ev C Γ b rI mb) : Ev C Γ (.BinOp a .Add b pos) rI (do let x ← ma; let y ← mb; pure (x + y)) := Ev.binI0 (fun i j => i + j) (fun _ => op_add) ha hb
theorem Ev.sub' (ha : Ev C Γ a rI ma) (hb : Ev C Γ b rI mb) : Ev C Γ (.BinOp a .Sub b pos) rI (do let x ← ma; let y ← mb; pure (x - y)) := Ev.binI0 (fun i j => i - j) (fun _ => op_sub) ha hb
theorem Ev.subP (ha : Ev C Γ a rI (pure x)) (hb : Ev C Γ b rI (pure y)) : Ev C Γ (.BinOp a .Sub b pos) rI (pure (x - y)) := Ev.sub' ha hb
theorem Ev.mul (ha : Ev C Γ a rI ma) (hb : Ev C Γ b rI mb) : Ev C Γ (.BinOp a .Mult b pos) rI (do let x ← ma; let y ← mb; mulI x y) := Ev.binI _ (fun i j => i * j) op_mulB ha hb
theorem Ev.mulP (ha : Ev C Γ a rI (pure x)) (hb : Ev C Γ b rI (pure y)) : Ev C Γ (.BinOp a .Mult b pos) rI (mulI x y) := Ev.mul ha hb
theorem Ev.div (ha : Ev C Γ a rI ma) (hb : Ev C Γ b rI mb) : Ev C Γ (.BinOp a .FloorDiv b pos) rI (do let x ← ma; let y ← mb; divI x y) := Ev.binI _ (fun i j => i.fdiv j) (fun X => floordivN X) ha hb
theorem Ev.divP (ha : Ev C Γ a rI (pure x)) (hb : Ev C Γ b rI (pure y)) : Ev C Γ (.BinOp a .FloorDiv b pos) rI (divI x y) := Ev.div ha hb
theorem Ev.mod (ha : Ev C Γ a rI ma) (hb : Ev C Γ b rI mb) : Ev C Γ (.BinOp a .Mod b pos) rI (do let x ← ma; let y ← mb; modI x y) := Ev.binI _ (fun i j => i.fmod j) (fun _ => op_modN) ha hb
theorem Ev.modP (ha : Ev C Γ a rI (pure x)) (hb : Ev C Γ b rI (pure y)) : Ev C Γ (.BinOp a .Mod b pos) rI (modI x y) := Ev.mod ha hb
theorem Ev.pow (ha : Ev C Γ a rI ma) (hb : Ev C Γ b rI mb) : Ev C Γ (.BinOp a .Pow b pos) rI (do let x ← ma; let y ← mb; powI x y) := Ev.binI _ (fun i j => i ^ j.toNat) (fun _ => op_pow) ha hb
theorem Ev.powP (ha : Ev C Γ a rI (pure x)) (hb : Ev C Γ b rI (pure y)) : Ev C Γ (.BinOp a .Pow b pos) rI (powI x y) := Ev.pow ha hb
/-- a power of written numbers -/
theorem Ev.powW (z : Int) (ha : Ev C Γ a rI (pure x)) (hb : Ev C Γ b rI (pure y)) (h : CPow x y) (e : x ^ y.toNat = z) : Ev C Γ (.BinOp a .Pow b pos) rI (pure z) :=
  fun X Wx ok tk F H g σ s Q hm => Ev.powP (pos := pos) ha hb X Wx ok tk F H g σ s Q ⟨h, by show ∀ F' H' g' v, _; rw [e]; exact hm⟩
theorem Ev.shl (ha : Ev C Γ a rI ma) (hb : Ev C Γ b rI mb) : Ev C Γ (.BinOp a .LShift b pos) rI (do let x ← ma; let y ← mb; shlI x y) := Ev.binI _ (fun i j => i * 2 ^ j.toNat) (fun _ => op_shl) ha hb
theorem Ev.shr (ha : Ev C Γ a rI ma) (hb : Ev C Γ b rI mb) : Ev C Γ (.BinOp a .RShift b pos) rI (do let x ← ma; let y ← mb; shrI x y) := Ev.binI _ (fun i j => i / 2 ^ j.toNat) (fun _ => op_shr) ha hb
theorem Ev.band (ha : Ev C Γ a rI ma) (hb : Ev C Γ b rI mb) : Ev C Γ (.BinOp a .BitAnd b pos) rI (do let x ← ma; let y ← mb; pure (Builtin.bitAnd x y)) := Ev.binI0 (fun i j => Builtin.bitAnd i j) (fun _ => op_and) ha hb
theorem Ev.bor (ha : Ev C Γ a rI ma) (hb : Ev C Γ b rI mb) : Ev C Γ (.BinOp a .BitOr b pos) rI (do let x ← ma; let y ← mb; pure (Builtin.bitOr x y)) := Ev.binI0 (fun i j => Builtin.bitOr i j) (fun _ => op_or) ha hb
theorem Ev.borP (ha : Ev C Γ a rI (pure x)) (hb : Ev C Γ b rI (pure y)) : Ev C Γ (.BinOp a .BitOr b pos) rI (pure (Builtin.bitOr x y)) := Ev.bor ha hb
theorem Ev.shlP (ha : Ev C Γ a rI (pure x)) (hb : Ev C Γ b rI (pure y)) : Ev C Γ (.BinOp a .LShift b pos) rI (shlI x y) := Ev.shl ha hb
theorem Ev.shrP (ha : Ev C Γ a rI (pure x)) (hb : Ev C Γ b rI (pure y)) : Ev C Γ (.BinOp a .RShift b pos) rI (shrI x y) := Ev.shr ha hb
/-- texts -/
def catS (x y : Str) : W Str := W.req (x.length + y.length ≤ sizeLine) (pure (x ++ y))
theorem Ev.cat {ma mb : W Str} (ha : Ev C Γ a rS ma) (hb : Ev C Γ b rS mb) : Ev C Γ (.BinOp a .Add b pos) rS (do let x ← ma; let y ← mb; catS x y) :=
  Ev.bin _ (fun X _ => ⟨_, op_add_str, fun x y H v w Q E hv hw hk _ => ⟨x, y, hv, hw, hk.1, hk.2 (fun _ => Option.none) _ rfl⟩⟩) (fun x y P E E' h => ⟨h.1, h.2⟩) (fun c F u h F' => h) ha hb
theorem Ev.neg (ha : Ev C Γ a rI ma) : Ev C Γ (.UnaryOp .USub a pos) rI (do let x ← ma; pure (-x)) :=
  fun X Wx ok tk F H g σ s Q hm => by
    refine WE.of (pe_un un_neg (pe_W (e := a))) ?_
    exact ha X Wx ok tk F H g σ s _ (ma.mono (fun x hx F1 H1 g1 v f1 s1 r1 => ⟨x, r1, hx F1 H1 g1 _ f1 s1 rfl⟩) (fun e he => he) hm)
theorem Ev.negP (ha : Ev C Γ a rI (pure x)) : Ev C Γ (.UnaryOp .USub a pos) rI (pure (-x)) := Ev.neg ha

/-! ### comparisons -/
theorem Ev.cmp {op : CmpOp} {ρa : α → Rp} {ρb : β → Rp} {ma : W α} {mb : W β} (k : α → β → Bool)
    (hop : ∀ X, C.Ok X → ∃ r, OpR X (compareOp op) r ∧ ∀ x y H v w Q, (ρa x).p H v → (ρb y).p H w → Q (.bl (k x y)) H → r v w H Q) (hk : behindInMarks op b = false)
    (ha : Ev C Γ a ρa ma) (hb : Ev C Γ b ρb mb) : Ev C Γ (.Compare a [op] [b] pos) rB (do let x ← ma; let y ← mb; pure (k x y)) :=
  fun X Wx ok tk F H g σ s Q hm => by
    obtain ⟨r, ho, hr⟩ := hop X ok
    refine WE.of (pe_cmpR ho (pe_W (e := a)) (pe_W (e := b)) hk) ?_
    refine ha X Wx ok tk F H g σ s _ (ma.mono (fun x hx F1 H1 g1 v f1 s1 r1 => ?_) (fun e he => he) hm)
    refine hb X Wx ok tk F1 H1 g1 σ s1 _ (mb.mono (fun y hy F2 H2 g2 w f2 s2 r2 => ?_) (fun e he => XEnd.later f1 he) hx)
    exact hr x y H2 v w Q ((ρa x).mono (f2.sF.trans s2.sF) r1) ((ρb y).mono s2.sF r2) (hy F2 H2 g2 _ (f1.trans f2) s2 rfl)
theorem Ev.cmpI {op : CmpOp} (k : Int → Int → Bool) (hop : ∀ X : Cx, OpR X (compareOp op) (rI0 fun i j => .bl (k i j))) (hk : behindInMarks op b = false)
    (ha : Ev C Γ a rI ma) (hb : Ev C Γ b rI mb) : Ev C Γ (.Compare a [op] [b] pos) rB (do let x ← ma; let y ← mb; pure (k x y)) :=
  Ev.cmp k (fun X _ => ⟨_, hop X, fun x y H v w Q hv hw q => ⟨x, y, hv, hw, q⟩⟩) hk ha hb
theorem Ev.lt (ha : Ev C Γ a rI ma) (hb : Ev C Γ b rI mb) : Ev C Γ (.Compare a [.Lt] [b] pos) rB (do let x ← ma; let y ← mb; pure (decide (x < y))) := Ev.cmpI (fun i j => decide (i < j)) (fun _ => op_lt) (nomark _) ha hb
theorem Ev.le (ha : Ev C Γ a rI ma) (hb : Ev C Γ b rI mb) : Ev C Γ (.Compare a [.LtE] [b] pos) rB (do let x ← ma; let y ← mb; pure (decide (x ≤ y))) := Ev.cmpI (fun i j => decide (i ≤ j)) (fun _ => op_le) (nomark _) ha hb
theorem Ev.gt (ha : Ev C Γ a rI ma) (hb : Ev C Γ b rI mb) : Ev C Γ (.Compare a [.Gt] [b] pos) rB (do let x ← ma; let y ← mb; pure (decide (y < x))) := Ev.cmpI (fun i j => decide (j < i)) (fun _ => op_gt) (nomark _) ha hb
theorem Ev.ge (ha : Ev C Γ a rI ma) (hb : Ev C Γ b rI mb) : Ev C Γ (.Compare a [.GtE] [b] pos) rB (do let x ← ma; let y ← mb; pure (decide (y ≤ x))) := Ev.cmpI (fun i j => decide (j ≤ i)) (fun _ => op_ge) (nomark _) ha hb
theorem Ev.ltP (ha : Ev C Γ a rI (pure x)) (hb : Ev C Γ b rI (pure y)) : Ev C Γ (.Compare a [.Lt] [b] pos) rB (pure (decide (x < y))) := Ev.lt ha hb
theorem Ev.gtP (ha : Ev C Γ a rI (pure x)) (hb : Ev C Γ b rI (pure y)) : Ev C Γ (.Compare a [.Gt] [b] pos) rB (pure (decide (y < x))) := Ev.gt ha hb
end

end Y

/-! Y3: data and == -/
namespace Y
open PySem PySem.Spec L2
class DatE {α : Type} (K : PySem.W.Frag) (r : α → Rp) where
  enc : α → PyData
  dep : Nat
  ok : α → Prop
  dp : ∀ {x : α} {F : Hp} {v : V}, (r x).p F v → Dp K F v (enc x)
  can : ∀ x, ok x → (enc x).canLay0 = true
  deps : ∀ x, (enc x).depth ≤ dep
  dec : ∀ x y, PyData.eqv (enc x) (enc y) = true ↔ x = y
section
variable {K : PySem.W.Frag} {α β γ : Type}
instance : DatE K rI := ⟨.int, 0, fun _ => True, fun {x F v} h => by have e : v = .int x := h; subst e; exact .int x, fun _ _ => rfl, fun _ => Nat.le_refl _, fun x y => by simp [PyData.eqv]⟩
instance : DatE K rB := ⟨.bool, 0, fun _ => True, fun {x F v} h => by have e : v = .bl x := h; subst e; exact .bl x, fun _ _ => rfl, fun _ => Nat.le_refl _, fun x y => by simp [PyData.eqv]⟩
instance : DatE K rS := ⟨.str, 0, fun x => PyData.strOk x = true, fun {x F v} h => by have e : v = .str x := h; subst e; exact .str x, fun _ h => h, fun _ => Nat.le_refl _, fun x y => by simp [PyData.eqv]⟩
theorem dpAll_of {r : α → Rp} (I : DatE K r) {F : Hp} : ∀ {vs : List V} {xs : List α}, All2 (fun u x => (r x).p F u) vs xs → DpAll K F vs (xs.map I.enc)
  | _, _, .nil => .nil
  | _, _, .cons h t => .cons (I.dp h) (dpAll_of I t)
theorem canAll_of {e : α → PyData} {ok : α → Prop} (h : ∀ x, ok x → (e x).canLay0 = true) : ∀ xs : List α, (∀ x ∈ xs, ok x) → PyData.canLayAll0 (xs.map e) = true
  | [], _ => rfl
  | x :: xs, hx => by simp [PyData.canLayAll0, h x (hx x List.mem_cons_self), canAll_of h xs fun y hy => hx y (List.mem_cons_of_mem _ hy)]
theorem depAll_of {e : α → PyData} {n : Nat} (h : ∀ x, (e x).depth ≤ n) : ∀ xs : List α, PyData.depthAll (xs.map e) ≤ n + 1
  | [] => by simp [PyData.depthAll]
  | x :: xs => by
    have := depAll_of h xs
    have := h x
    simp only [List.map_cons, PyData.depthAll]
    omega
theorem decAll_of {e : α → PyData} (h : ∀ x y, PyData.eqv (e x) (e y) = true ↔ x = y) : ∀ xs ys : List α, PyData.eqvAll (xs.map e) (ys.map e) = true ↔ xs = ys
  | [], [] => by simp [PyData.eqvAll]
  | [], _ :: _ => by simp [PyData.eqvAll]
  | _ :: _, [] => by simp [PyData.eqvAll]
  | x :: xs, y :: ys => by simp [PyData.eqvAll, h x y, decAll_of h xs ys]
@[reducible] def datL (r : α → Rp) (I : DatE K r) (r' : List α → Rp) (h : ∀ {xs : List α} {F : Hp} {v : V}, (r' xs).p F v → ∃ a vs, v = .ref a ∧ SqL K F a vs ∧ All2 (fun u x => (r x).p F u) vs xs) : DatE K r' where
  enc := fun xs => .list (xs.map I.enc)
  dep := I.dep + 2
  ok := fun xs => ∀ x ∈ xs, I.ok x
  dp := fun hp => by
    obtain ⟨a, vs, e, q, t⟩ := h hp
    subst e
    exact .lst q (dpAll_of I t)
  can := fun xs h => by
    rw [PyData.canLay0]
    exact canAll_of I.can xs h
  deps := fun xs => by
    have := depAll_of I.deps xs
    simp only [PyData.depth]
    omega
  dec := fun xs ys => by
    rw [PyData.eqv]
    exact decAll_of I.dec xs ys
instance {r : α → Rp} [I : DatE K r] : DatE K (rL K r) := datL r I (rL K r) fun h => h
instance {N : Addr → Prop} {r : α → Rp} [I : DatE K r] : DatE K (rN N r) := datL r I (rN N r) fun h => rN_rL h
instance {r1 : α → Rp} {r2 : β → Rp} [I : DatE K r1] [J : DatE K r2] : DatE K (rT2 K r1 r2) where
  enc := fun x => .tuple [I.enc x.1, J.enc x.2]
  dep := I.dep + J.dep + 3
  ok := fun x => I.ok x.1 ∧ J.ok x.2
  dp := fun ⟨a, v1, v2, e, q, t1, t2⟩ => by subst e; exact .tup q (.cons (I.dp t1) (.cons (J.dp t2) .nil))
  can := fun x h => by simp [PyData.canLay0, PyData.canLayAll0, I.can _ h.1, J.can _ h.2]
  deps := fun x => by
    have := I.deps x.1
    have := J.deps x.2
    simp only [PyData.depth, PyData.depthAll]
    omega
  dec := fun x y => by
    obtain ⟨x1, x2⟩ := x
    obtain ⟨y1, y2⟩ := y
    simp [PyData.eqv, PyData.eqvAll, I.dec, J.dec]
instance {r1 : α → Rp} {r2 : β → Rp} {r3 : γ → Rp} [I : DatE K r1] [J : DatE K r2] [L : DatE K r3] : DatE K (rT3 K r1 r2 r3) where
  enc := fun x => .tuple [I.enc x.1, J.enc x.2.1, L.enc x.2.2]
  dep := I.dep + J.dep + L.dep + 3
  ok := fun x => I.ok x.1 ∧ J.ok x.2.1 ∧ L.ok x.2.2
  dp := fun ⟨a, v1, v2, v3, e, q, t1, t2, t3⟩ => by subst e; exact .tup q (.cons (I.dp t1) (.cons (J.dp t2) (.cons (L.dp t3) .nil)))
  can := fun x h => by simp [PyData.canLay0, PyData.canLayAll0, I.can _ h.1, J.can _ h.2.1, L.can _ h.2.2]
  deps := fun x => by
    have := I.deps x.1
    have := J.deps x.2.1
    have := L.deps x.2.2
    simp only [PyData.depth, PyData.depthAll]
    omega
  dec := fun x y => by
    obtain ⟨x1, x2, x3⟩ := x
    obtain ⟨y1, y2, y3⟩ := y
    simp [PyData.eqv, PyData.eqvAll, I.dec, J.dec, L.dec]
/-- no strings within: always comparable -/
class DatT {α : Type} (K : PySem.W.Frag) (r : α → Rp) [I : DatE K r] : Prop where
  all : ∀ x, I.ok x
instance : DatT K rI := ⟨fun _ => trivial⟩
instance : DatT K rB := ⟨fun _ => trivial⟩
instance {r : α → Rp} [I : DatE K r] [J : DatT K r] : DatT K (rL K r) := ⟨fun _ x _ => J.all x⟩
instance {N : Addr → Prop} {r : α → Rp} [I : DatE K r] [J : DatT K r] : DatT K (rN N r) := ⟨fun _ x _ => J.all x⟩
instance {r1 : α → Rp} {r2 : β → Rp} [I : DatE K r1] [J : DatE K r2] [I' : DatT K r1] [J' : DatT K r2] : DatT K (rT2 K r1 r2) := ⟨fun x => ⟨I'.all x.1, J'.all x.2⟩⟩
instance {r1 : α → Rp} {r2 : β → Rp} {r3 : γ → Rp} [I : DatE K r1] [J : DatE K r2] [L : DatE K r3] [I' : DatT K r1] [J' : DatT K r2] [L' : DatT K r3] : DatT K (rT3 K r1 r2 r3) := ⟨fun x => ⟨I'.all x.1, J'.all x.2.1, L'.all x.2.2⟩⟩
end
theorem eqv_dec {K : PySem.W.Frag} {α : Type} [DecidableEq α] {r : α → Rp} (I : DatE K r) (x y : α) : PyData.eqv (I.enc x) (I.enc y) = decide (x = y) := by
  by_cases h : x = y
  · rw [decide_eq_true h]; exact (I.dec x y).mpr h
  · rw [decide_eq_false h]
    cases e : PyData.eqv (I.enc x) (I.enc y) with
    | false => rfl
    | true => exact absurd ((I.dec x y).mp e) h
theorem shaped_of {K : PySem.W.Frag} {α : Type} {r : α → Rp} (I : DatE K r) (hd : I.dep ≤ 64) {x : α} (h : I.ok x) : SeqAt.shaped (I.enc x) = true := by
  unfold SeqAt.shaped
  rw [I.can x h, decide_eq_true (Nat.le_trans (I.deps x) hd)]
  rfl
def eqW {α : Type} [DecidableEq α] (ok : α → Prop) (x y : α) : W Bool := W.req (ok x ∧ ok y) (pure (decide (x = y)))
def neW {α : Type} [DecidableEq α] (ok : α → Prop) (x y : α) : W Bool := W.req (ok x ∧ ok y) (pure (!decide (x = y)))
section
variable {C : Cc} {Γ : List Slot} {α : Type} {a b : Expr} {pos : Pos} {ma mb : W α} {x y : α}
theorem Ev.cmpW {op : CmpOp} {β γ : Type} {ρa : β → Rp} {ρb : γ → Rp} {ma : W β} {mb : W γ} (k : β → γ → W Bool)
    (hop : ∀ X, C.Ok X → ∃ r, OpR X (compareOp op) r ∧ ∀ x y H v w Q E, (ρa x).p H v → (ρb y).p H w → (k x y).wp (fun c => Q (.bl c) H) E → r v w H Q) (hs : ∀ x y P (E E' : Exn → Prop), (k x y).wp P E → (k x y).wp P E') (hk : behindInMarks op b = false)
    (ha : Ev C Γ a ρa ma) (hb : Ev C Γ b ρb mb) : Ev C Γ (.Compare a [op] [b] pos) rB (do let x ← ma; let y ← mb; k x y) :=
  fun X Wx ok tk F H g σ s Q hm => by
    obtain ⟨r, ho, hr⟩ := hop X ok
    refine WE.of (pe_cmpR ho (pe_W (e := a)) (pe_W (e := b)) hk) ?_
    refine ha X Wx ok tk F H g σ s _ (ma.mono (fun x hx F1 H1 g1 v f1 s1 r1 => ?_) (fun e he => he) hm)
    refine hb X Wx ok tk F1 H1 g1 σ s1 _ (mb.mono (fun y hy F2 H2 g2 w f2 s2 r2 => ?_) (fun e he => XEnd.later f1 he) hx)
    refine hr x y H2 v w Q (fun _ => True) ((ρa x).mono (f2.sF.trans s2.sF) r1) ((ρb y).mono s2.sF r2) ?_
    exact hs x y _ _ (fun _ => True) ((k x y).mono (fun c hc => hc F2 H2 g2 _ (f1.trans f2) s2 rfl) (fun _ h => h) hy)
/-- == of data of one kind (perhaps of unlike lists' kinds) -/
theorem Ev.eq {ρa ρb : α → Rp} [I : DatE C.K ρa] [J : DatE C.K ρb] [DecidableEq α] (he : I.enc = J.enc) (hda : I.dep ≤ 64) (hdb : J.dep ≤ 64) (ho : I.ok = J.ok) (ha : Ev C Γ a ρa ma) (hb : Ev C Γ b ρb mb) :
    Ev C Γ (.Compare a [.Eq] [b] pos) rB (do let x ← ma; let y ← mb; eqW I.ok x y) :=
  Ev.cmpW _ (fun X ok => ⟨_, op_eqD ok.units, fun x y H v w Q E hv hw h => ⟨I.enc x, J.enc y, by rw [ok.K]; exact I.dp hv, by rw [ok.K]; exact J.dp hw, shaped_of I hda h.1.1, shaped_of J hdb (by rw [← ho]; exact h.1.2), by rw [← he, eqv_dec I]; exact h.2⟩⟩)
    (fun x y P E E' h => h) (nomark _) ha hb
theorem Ev.ne {ρa ρb : α → Rp} [I : DatE C.K ρa] [J : DatE C.K ρb] [DecidableEq α] (he : I.enc = J.enc) (hda : I.dep ≤ 64) (hdb : J.dep ≤ 64) (ho : I.ok = J.ok) (ha : Ev C Γ a ρa ma) (hb : Ev C Γ b ρb mb) :
    Ev C Γ (.Compare a [.NotEq] [b] pos) rB (do let x ← ma; let y ← mb; neW I.ok x y) :=
  Ev.cmpW _ (fun X ok => ⟨_, op_neD ok.units, fun x y H v w Q E hv hw h => ⟨I.enc x, J.enc y, by rw [ok.K]; exact I.dp hv, by rw [ok.K]; exact J.dp hw, shaped_of I hda h.1.1, shaped_of J hdb (by rw [← ho]; exact h.1.2), by rw [← he, eqv_dec I]; exact h.2⟩⟩)
    (fun x y P E E' h => h) (nomark _) ha hb
/-- .. without texts -/
theorem Ev.eqT {ρa ρb : α → Rp} [I : DatE C.K ρa] [J : DatE C.K ρb] [T : DatT C.K ρa] [DecidableEq α] (he : I.enc = J.enc) (hda : I.dep ≤ 64) (hdb : J.dep ≤ 64) (ho : I.ok = J.ok) (ha : Ev C Γ a ρa ma) (hb : Ev C Γ b ρb mb) :
    Ev C Γ (.Compare a [.Eq] [b] pos) rB (do let x ← ma; let y ← mb; pure (decide (x = y))) :=
  fun X Wx ok tk F H g σ s Q hm => Ev.eq (pos := pos) he hda hdb ho ha hb X Wx ok tk F H g σ s Q (ma.mono (fun x h => mb.mono (fun y h => ⟨⟨T.all _, T.all _⟩, h⟩) (fun _ h => h) h) (fun _ h => h) hm)
/-- scalars: ints, bools, texts -/
theorem Ev.eqS {sc : α → V} {ρ : α → Rp} [DecidableEq α] (hρ : ∀ x F v, (ρ x).p F v → v = sc x) (hs : ∀ x y, scal (sc x) (sc y) = true) (hd : ∀ x y, decide (sc x = sc y) = decide (x = y)) (ha : Ev C Γ a ρ ma) (hb : Ev C Γ b ρ mb) :
    Ev C Γ (.Compare a [.Eq] [b] pos) rB (do let x ← ma; let y ← mb; pure (decide (x = y))) :=
  Ev.cmp _ (fun X ok => ⟨_, op_eq, fun x y H v w Q hv hw h => by rw [hρ _ _ _ hv, hρ _ _ _ hw]; exact ⟨hs x y, by rw [hd]; exact h⟩⟩) (nomark _) ha hb
theorem Ev.neS {sc : α → V} {ρ : α → Rp} [DecidableEq α] (hρ : ∀ x F v, (ρ x).p F v → v = sc x) (hs : ∀ x y, scal (sc x) (sc y) = true) (hd : ∀ x y, decide (sc x = sc y) = decide (x = y)) (ha : Ev C Γ a ρ ma) (hb : Ev C Γ b ρ mb) :
    Ev C Γ (.Compare a [.NotEq] [b] pos) rB (do let x ← ma; let y ← mb; pure (!decide (x = y))) :=
  Ev.cmp _ (fun X ok => ⟨_, op_ne, fun x y H v w Q hv hw h => by rw [hρ _ _ _ hv, hρ _ _ _ hw]; exact ⟨hs x y, by rw [hd]; exact h⟩⟩) (nomark _) ha hb
end
section
variable {C : Cc} {Γ : List Slot} {a b : Expr} {pos : Pos}
theorem Ev.eqI {ma mb : W Int} (ha : Ev C Γ a rI ma) (hb : Ev C Γ b rI mb) : Ev C Γ (.Compare a [.Eq] [b] pos) rB (do let x ← ma; let y ← mb; pure (decide (x = y))) := Ev.eqS (sc := .int) (fun _ _ _ h => h) (fun _ _ => rfl) (fun x y => by rw [dec_int]; exact Bool.beq_eq_decide_eq _ _) ha hb
theorem Ev.neI {ma mb : W Int} (ha : Ev C Γ a rI ma) (hb : Ev C Γ b rI mb) : Ev C Γ (.Compare a [.NotEq] [b] pos) rB (do let x ← ma; let y ← mb; pure (!decide (x = y))) := Ev.neS (sc := .int) (fun _ _ _ h => h) (fun _ _ => rfl) (fun x y => by rw [dec_int]; exact Bool.beq_eq_decide_eq _ _) ha hb
theorem Ev.eqIP {x y : Int} (ha : Ev C Γ a rI (pure x)) (hb : Ev C Γ b rI (pure y)) : Ev C Γ (.Compare a [.Eq] [b] pos) rB (pure (decide (x = y))) := Ev.eqI ha hb
theorem Ev.neIP {x y : Int} (ha : Ev C Γ a rI (pure x)) (hb : Ev C Γ b rI (pure y)) : Ev C Γ (.Compare a [.NotEq] [b] pos) rB (pure (!decide (x = y))) := Ev.neI ha hb
theorem Ev.notNone {α : Type} {r : α → Rp} {ma : W (Option α)} {j pos'} (hr : ∀ x F v, (r x).p F v → v ≠ .non) (ha : Ev C Γ a (rO r) ma) : Ev C Γ (.Compare a [.IsNot] [.Constant .none j pos'] pos) rB (do let x ← ma; pure x.isSome) :=
  fun X Wx ok tk F H g σ s Q hm => by
    refine WE.of (pe_cmp (pc_notN (pe_W (e := a)))) ?_
    refine ha X Wx ok tk F H g σ s _ (ma.mono (fun x hx F1 H1 g1 v f1 s1 r1 => ?_) (fun e he => he) hm)
    refine hx F1 H1 g1 _ f1 s1 ?_
    cases x with
    | none => have e : v = .non := r1; subst e; rfl
    | some x => show V.bl _ = V.bl _; rw [decide_eq_false (hr x F1 v r1)]; rfl

/-! ### truths -/
variable {ma mb : W Bool}
theorem Ev.not (ha : Ev C Γ a rB ma) : Ev C Γ (.UnaryOp .Not a pos) rB (do let x ← ma; pure (!x)) :=
  fun X Wx ok tk F H g σ s Q hm => by
    refine WE.of (pe_not (pe_W (e := a))) ?_
    exact ha X Wx ok tk F H g σ s _ (ma.mono (fun x hx F1 H1 g1 v f1 s1 r1 => ⟨x, r1, hx F1 H1 g1 _ f1 s1 rfl⟩) (fun e he => he) hm)
theorem Ev.one {op : BoolOp} (ha : Ev C Γ a rB ma) : Ev C Γ (.BoolOp op [a] pos) rB ma :=
  fun X Wx ok tk F H g σ s Q hm => WE.of (pe_one (pe_W (e := a))) (ha X Wx ok tk F H g σ s Q hm)
theorem Ev.and {rest : List Expr} (ha : Ev C Γ a rB ma) (hb : Ev C Γ (.BoolOp .And (b :: rest) pos) rB mb) : Ev C Γ (.BoolOp .And (a :: b :: rest) pos) rB (do let x ← ma; if x = true then mb else pure false) :=
  fun X Wx ok tk F H g σ s Q hm => by
    refine WE.of (pe_and (pe_W (e := a)) (pe_W (e := .BoolOp .And (b :: rest) pos))) ?_
    refine ha X Wx ok tk F H g σ s _ (ma.mono (fun x hx F1 H1 g1 v f1 s1 r1 => ⟨x, r1, ?_⟩) (fun e he => he) hm)
    cases x with
    | true =>
      rw [if_pos rfl]
      exact hb X Wx ok tk F1 H1 g1 σ s1 _ (mb.mono (fun y hy F2 H2 g2 v f2 s2 r2 => hy F2 H2 g2 v (f1.trans f2) s2 r2) (fun e he => XEnd.later f1 he) hx)
    | false => exact hx F1 H1 g1 _ f1 s1 rfl
theorem Ev.or {rest : List Expr} (ha : Ev C Γ a rB ma) (hb : Ev C Γ (.BoolOp .Or (b :: rest) pos) rB mb) : Ev C Γ (.BoolOp .Or (a :: b :: rest) pos) rB (do let x ← ma; if x = true then pure true else mb) :=
  fun X Wx ok tk F H g σ s Q hm => by
    refine WE.of (pe_or (pe_W (e := a)) (pe_W (e := .BoolOp .Or (b :: rest) pos))) ?_
    refine ha X Wx ok tk F H g σ s _ (ma.mono (fun x hx F1 H1 g1 v f1 s1 r1 => ⟨x, r1, ?_⟩) (fun e he => he) hm)
    cases x with
    | true => exact hx F1 H1 g1 _ f1 s1 rfl
    | false =>
      rw [if_neg Bool.false_ne_true]
      exact hb X Wx ok tk F1 H1 g1 σ s1 _ (mb.mono (fun y hy F2 H2 g2 v f2 s2 r2 => hy F2 H2 g2 v (f1.trans f2) s2 r2) (fun e he => XEnd.later f1 he) hx)

/-! ### tests -/
theorem EvT.val (ha : Ev C Γ a rB ma) (he : ∀ (X : Cx) whole, isTrue a X.env whole = (do let v ← whole; standAt a.pos; holding [v] (truthy v)) := by intro _ _; rfl) : EvT C Γ a ma :=
  fun X Wx ok tk F H g σ s Q hm => by
    refine WT.of (pt_val (pe_W (e := a)) (he X)) ?_
    exact ha X Wx ok tk F H g σ s _ (ma.mono (fun x hx F1 H1 g1 v f1 s1 r1 => ⟨x, r1, hx F1 H1 g1 f1 s1⟩) (fun e he => he) hm)
theorem EvT.not (ha : EvT C Γ a ma) : EvT C Γ (.UnaryOp .Not a pos) (do let x ← ma; pure (!x)) :=
  fun X Wx ok tk F H g σ s Q hm => by
    refine WT.of (pt_not (pt_W (e := a))) ?_
    exact ha X Wx ok tk F H g σ s _ (ma.mono (fun x hx F1 H1 g1 f1 s1 => hx F1 H1 g1 f1 s1) (fun e he => he) hm)
/-- a test whatever its whole is -/
def EvW (C : Cc) (Γ : List Slot) (e : Expr) (m : W Bool) : Prop :=
  ∀ (X : Cx) (Wx : WX), C.Ok X → Takes X Wx → ∀ (F H : Hp) (g : Nat → Hp) (σ : St), StOk C F H Γ σ g → ∀ Q : Bool → Hp → Prop,
    m.wp (fun a => ∀ F' H' g', Fr F H (dU g) F' H' (dU g') → StOk C F' H' Γ σ g' → Q a H') (XEnd C F H (dU g) Γ σ Wx) → WW X e σ H Q
theorem EvW.t (h : EvW C Γ a ma) : EvT C Γ a ma := fun X Wx ok tk F H g σ s Q hm => WT.of (PW.pt pw_W) (h X Wx ok tk F H g σ s Q hm)
theorem EvW.and1 (ha : EvT C Γ a ma) : EvW C Γ (.BoolOp .And [a] pos) ma := fun X Wx ok tk F H g σ s Q hm => WW.of (pw_and1 (pt_W (e := a))) (ha X Wx ok tk F H g σ s Q hm)
theorem EvW.and {rest : List Expr} (ha : EvT C Γ a ma) (hb : EvW C Γ (.BoolOp .And (b :: rest) pos) mb) : EvW C Γ (.BoolOp .And (a :: b :: rest) pos) (do let x ← ma; if x = true then mb else pure false) :=
  fun X Wx ok tk F H g σ s Q hm => by
    refine WW.of (pw_and (pt_W (e := a)) (pw_W (e := .BoolOp .And (b :: rest) pos))) ?_
    refine ha X Wx ok tk F H g σ s _ (ma.mono (fun x hx F1 H1 g1 f1 s1 => ?_) (fun e he => he) hm)
    cases x with
    | true =>
      rw [if_pos rfl]
      exact hb X Wx ok tk F1 H1 g1 σ s1 _ (mb.mono (fun y hy F2 H2 g2 f2 s2 => hy F2 H2 g2 (f1.trans f2) s2) (fun e he => XEnd.later f1 he) hx)
    | false => rw [if_neg Bool.false_ne_true]; exact hx F1 H1 g1 f1 s1
theorem EvW.or {rest : List Expr} (ha : EvT C Γ a ma) (hb : EvW C Γ (.BoolOp .Or (b :: rest) pos) mb) : EvW C Γ (.BoolOp .Or (a :: b :: rest) pos) (do let x ← ma; if x = true then pure true else mb) :=
  fun X Wx ok tk F H g σ s Q hm => by
    refine WW.of (pw_or (pt_W (e := a)) (pw_W (e := .BoolOp .Or (b :: rest) pos))) ?_
    refine ha X Wx ok tk F H g σ s _ (ma.mono (fun x hx F1 H1 g1 f1 s1 => ?_) (fun e he => he) hm)
    cases x with
    | true => rw [if_pos rfl]; exact hx F1 H1 g1 f1 s1
    | false =>
      rw [if_neg Bool.false_ne_true]
      exact hb X Wx ok tk F1 H1 g1 σ s1 _ (mb.mono (fun y hy F2 H2 g2 f2 s2 => hy F2 H2 g2 (f1.trans f2) s2) (fun e he => XEnd.later f1 he) hx)
end
end Y

/-! Y4: places, slices, built-in calls, displays, calls of defs -/
namespace Y
open PySem PySem.Spec L2
section
variable {C : Cc} {Γ : List Slot} {α β γ δ ε : Type} {e e1 e2 e3 e4 a b : Expr} {pos p : Pos}

/-! ### places -/
def idx (xs : List α) (i : Int) : W α := match atI xs i with | some x => pure x | none => W.bad
theorem All2.atI {R : V → α → Prop} {vs : List V} {xs : List α} (h : All2 R vs xs) {i : Int} {x : α} (e : L2.atI xs i = some x) : ∃ v, L2.atI vs i = some v ∧ R v x := by
  unfold L2.atI at e ⊢
  rw [h.length]
  cases q : ixN xs.length i with
  | none => rw [q] at e; cases e
  | some j =>
    rw [q] at e
    exact h.get e
theorem Ev.ixL {r : α → Rp} {ma : W (List α)} {mb : W Int} (ha : Ev C Γ a (rL C.K r) ma) (hb : Ev C Γ b rI mb) (hp : PlainIx b := by intro _ _; rfl) : Ev C Γ (.Subscript a b pos) r (do let xs ← ma; let i ← mb; idx xs i) :=
  fun X Wx ok tk F H g σ s Q hm => by
    refine WE.of (pe_ix ix_list (pe_W (e := a)) (pe_W (e := b)) hp) ?_
    refine ha X Wx ok tk F H g σ s _ (ma.mono (fun xs hx F1 H1 g1 v f1 s1 r1 => ?_) (fun e he => he) hm)
    refine hb X Wx ok tk F1 H1 g1 σ s1 _ (mb.mono (fun i hi F2 H2 g2 w f2 s2 r2 => ?_) (fun e he => XEnd.later f1 he) hx)
    obtain ⟨q, vs, ev, hq, t⟩ := (rL C.K r xs).mono f2.sF r1
    replace hi : (idx xs i).wp _ _ := hi
    unfold idx at hi
    cases hx : L2.atI xs i with
    | none => rw [hx] at hi; exact hi.elim
    | some x =>
      rw [hx] at hi
      obtain ⟨u, hu, ru⟩ := t.atI hx
      exact ⟨q, vs, i, u, ev, r2, by rw [ok.K]; exact s2.sF.seq hq, hu, hi F2 H2 g2 u (f1.trans f2) s2 ru⟩
/-- a text's sign -/
def idxS (z : Str) (i : Int) : W Str := W.req (z.length ≤ sizeLine) (match L2.atI z.cps.toList i with | some c => pure ⟨#[c]⟩ | none => W.bad)
/-! ### slices -/
def EvP (C : Cc) (Γ : List Slot) (e : Option Expr) (m : W (Option Int)) : Prop :=
  ∀ (X : Cx) (Wx : WX), C.Ok X → Takes X Wx → ∀ (F H : Hp) (g : Nat → Hp) (σ : St), StOk C F H Γ σ g → ∃ t, PO X e t ∧ ∀ Q : Option Int → Hp → Prop,
    m.wp (fun a => ∀ F' H' g', Fr F H (dU g) F' H' (dU g') → StOk C F' H' Γ σ g' → Q a H') (XEnd C F H (dU g) Γ σ Wx) → t σ H Q
/-- a part of a slice; its reading holds at any state -/
def WP (X : Cx) (e : Option Expr) : TO := fun σ H Q => ∃ t, PO X e t ∧ t σ H Q
theorem po_W {X : Cx} {e : Option Expr} : PO X e (WP X e) := ⟨fun pins s σ H Q I h => by
  obtain ⟨t, ht, q⟩ := h
  exact ht.run pins s σ H Q I q⟩
theorem EvP.none : EvP C Γ none (pure (none : Option Int)) := fun X Wx ok tk F H g σ s => ⟨_, po_none, fun Q hm => hm F H g Fr.refl s⟩
theorem EvP.some {m : W Int} (h : Ev C Γ e rI m) : EvP C Γ (some e) (do let i ← m; pure (some i)) :=
  fun X Wx ok tk F H g σ s => ⟨_, po_some (pe_W (e := e)), fun Q hm => h X Wx ok tk F H g σ s _ (m.mono (fun i hi F1 H1 g1 v f1 s1 r1 => ⟨i, r1, hi F1 H1 g1 f1 s1⟩) (fun e he => he) hm)⟩
def cut (xs : List α) (lo hi : Option Int) : List α := (xs.drop (HT.sIx xs.length 0 lo)).take (HT.sIx xs.length xs.length hi - HT.sIx xs.length 0 lo)
theorem All2.cut {R : V → α → Prop} {vs : List V} {xs : List α} (h : All2 R vs xs) (lo hi : Option Int) : All2 R (cutV vs lo hi) (Y.cut xs lo hi) := by
  unfold cutV Y.cut
  rw [h.length]
  exact (h.drop _).take _
/-- a new list, as the asker's own -/
theorem new_own {O : Op} {F H : Hp} {g : Nat → Hp} {σ : St} {q : Addr} {o : HO} (s : StOk C F H Γ σ g) (hq : H q = Option.none) (hO : C.fr q → O.p F (one q o) (.ref q)) :
    Fr F H (dU g) F (upd H q o) (fun b => dU g b ∨ one q o b ≠ Option.none) ∧ StOk C F (upd H q o) Γ σ g ∧ Same (one q o) (upd H q o) ∧ Dis F (one q o) ∧ (∀ i, Dis (g i) (one q o)) ∧ (∀ b, one q o b ≠ Option.none → C.fr b) ∧ O.p F (one q o) (.ref q) := by
  have nq : ∀ b u, H b = Option.some u → b ≠ q := fun b u e z => by rw [z, hq] at e; cases e
  have on : ∀ b, one q o b ≠ Option.none → b = q := fun b h => by
    by_cases z : b = q
    · exact z
    · exact absurd (one_ne z) h
  refine ⟨⟨Same.refl _, fun b h => .inl h, fun b u e _ => by rw [upd_ne (nq b u e)]; exact e, fun b h => ?_, fun b h => ?_⟩, ⟨s.len, s.slot, fun b u e => by rw [upd_ne (nq b u (s.sF b u e))]; exact s.sF b u e, fun i b u e => by rw [upd_ne (nq b u (s.sG i b u e))]; exact s.sG i b u e, s.dF, s.dG, fun b h => ?_⟩, fun b u e => ?_, fun b => ?_, fun i b => ?_, fun b h => ?_, hO (s.fr q hq)⟩
  · by_cases z : b = q
    · rw [z, upd_same]; simp
    · rw [upd_ne z]; exact h
  · rcases h with h | h
    · exact .inl h
    · rw [on b h]; exact .inr hq
  · by_cases z : b = q
    · rw [z, upd_same] at h; cases h
    · rw [upd_ne z] at h; exact s.fr b h
  · by_cases z : b = q
    · subst z; rw [one_same] at e; rw [upd_same]; exact e
    · rw [one_ne z] at e; cases e
  · by_cases z : b = q
    · refine .inl ?_
      cases h : F b with
      | none => rfl
      | some u => exact absurd z (nq b u (s.sF b u h))
    · exact .inr (one_ne z)
  · by_cases z : b = q
    · refine .inl ?_
      cases h : g i b with
      | none => rfl
      | some u => exact absurd z (nq b u (s.sG i b u h))
    · exact .inr (one_ne z)
  · rw [on b h]; exact s.fr q hq
/-- the end of an EvO at a new list -/
theorem EvO.fin {F0 H0 : Hp} {g0 : Nat → Hp} {F H : Hp} {g : Nat → Hp} {σ : St} {q : Addr} {o : HO} {O : Op} {Q : VK} (f : Fr F0 H0 (dU g0) F H (dU g)) (s : StOk C F H Γ σ g) (hq : H q = Option.none) (hO : C.fr q → O.p F (one q o) (.ref q))
    (h : ∀ F' H' g' G v, Fr F0 H0 (dU g0) F' H' (fun b => dU g' b ∨ G b ≠ Option.none) → StOk C F' H' Γ σ g' → Same G H' → Dis F' G → (∀ i, Dis (g' i) G) → (∀ b, G b ≠ Option.none → C.fr b) → O.p F' G v → Q v H') : Q (.ref q) (upd H q o) := by
  obtain ⟨f2, s2, h3, h4, h5, h6, h7⟩ := new_own s hq hO
  exact h F (upd H q o) g (one q o) (.ref q) (f.trans f2) s2 h3 h4 h5 h6 h7
theorem EvO.slice {r : α → Rp} {lo hi : Option Expr} {p2 : Pos} {ma : W (List α)} {ml mh : W (Option Int)} (ha : Ev C Γ a (rL C.K r) ma) (hl : EvP C Γ lo ml) (hh : EvP C Γ hi mh) :
    EvO C Γ (.Subscript a (.Slice lo hi Option.none p2) pos) (oL C.fr r) (do let xs ← ma; let i ← ml; let j ← mh; pure (cut xs i j)) :=
  fun X Wx ok tk F H g σ s Q hm => by
    refine WE.of (pe_slice sl_list (pe_W (e := a)) (po_W (e := lo)) (po_W (e := hi))) ?_
    refine ha X Wx ok tk F H g σ s _ (ma.mono (fun xs hx F1 H1 g1 v f1 s1 r1 => ?_) (fun e he => he) hm)
    obtain ⟨tl, pl, hl'⟩ := hl X Wx ok tk F1 H1 g1 σ s1
    refine ⟨tl, pl, hl' _ (ml.mono (fun i hi F2 H2 g2 f2 s2 => ?_) (fun e he => XEnd.later f1 he) hx)⟩
    obtain ⟨th, ph, hh'⟩ := hh X Wx ok tk F2 H2 g2 σ s2
    refine ⟨th, ph, hh' _ (mh.mono (fun j hj F3 H3 g3 f3 s3 => ?_) (fun e he => XEnd.later (f1.trans f2) he) hi)⟩
    obtain ⟨q, vs, ev, hq, t⟩ := (rL C.K r xs).mono (f2.sF.trans f3.sF) r1
    refine ⟨q, vs, ev, by rw [ok.K]; exact s3.sF.seq hq, fun pn hn => ?_⟩
    exact EvO.fin (O := oL C.fr r (Y.cut xs i j)) (f1.trans (f2.trans f3)) s3 hn (fun n => ⟨pn, _, rfl, n, rfl, t.cut i j⟩) hj
/-- texts -/
def cutW (z : Str) (lo hi : Option Int) : W Str := W.req (z.length ≤ sizeLine) (pure (cutS z lo hi))
/-! ### argument lists -/
def NoStar (e : Expr) : Prop := ∀ (es : List Expr) (env : Env), starEach (e :: es) env = (false, eval e env) :: starEach es env
def EvA (C : Cc) (Γ : List Slot) (es : List Expr) {τ : Type} (ρ : τ → List Rp) (m : W τ) : Prop :=
  (∀ (X : Cx) (pos : Pos), (backTo pos (starEach es X.env)).any (·.1) = false) ∧ ∀ (X : Cx) (Wx : WX), C.Ok X → Takes X Wx → ∀ (F H : Hp) (g : Nat → Hp) (σ : St), StOk C F H Γ σ g → ∀ Q : List V → Hp → Prop,
    m.wp (fun a => ∀ F' H' g' vs, Fr F H (dU g) F' H' (dU g') → StOk C F' H' Γ σ g' → All2 (fun v R => R.p F' v) vs (ρ a) → Q vs H') (XEnd C F H (dU g) Γ σ Wx) → WA X es σ H Q
theorem EvA.nil : EvA C Γ [] (fun _ : Unit => []) (pure ()) := ⟨fun _ _ => rfl, fun X Wx ok tk F H g σ s Q hm => WA.of pa_nil (hm F H g [] Fr.refl s .nil)⟩
theorem EvA.cons {es : List Expr} {τ : Type} {ρ : α → Rp} {ρs : τ → List Rp} {ma : W α} {mt : W τ} (ha : Ev C Γ e ρ ma) (ht : EvA C Γ es ρs mt) (hn : NoStar e) :
    EvA C Γ (e :: es) (fun x : α × τ => ρ x.1 :: ρs x.2) (do let a ← ma; let t ← mt; pure (a, t)) := by
  refine ⟨fun X pos => ?_, fun X Wx ok tk F H g σ s Q hm => ?_⟩
  · have h1 := ht.1 X pos
    rw [hn es X.env]
    unfold backTo at h1 ⊢
    simpa using h1
  · refine WA.of (pa_cons (pe_W (e := e)) (pa_W (es := es)) (hn es X.env)) ?_
    refine ha X Wx ok tk F H g σ s _ (ma.mono (fun x hx F1 H1 g1 v f1 s1 r1 => ?_) (fun e he => he) hm)
    refine ht.2 X Wx ok tk F1 H1 g1 σ s1 _ (mt.mono (fun t hy F2 H2 g2 vs f2 s2 r2 => ?_) (fun e he => XEnd.later f1 he) hx)
    exact hy F2 H2 g2 (v :: vs) (f1.trans f2) s2 (.cons ((ρ x).mono f2.sF r1) r2)

/-! ### built-in functions and types -/
/-- f is the built-in -/
structure Blt (C : Cc) (f : Str) (u : Value) : Prop where
  g : C.sc.names.lookup f = some .globalImplicit
  m : C.mg f = none
  v : bootBuiltins f = some u
  n : f ≠ "__name__"
  d : (f == ("__debug__" : Str)) = false
theorem Blt.gl {f : Str} {u : Value} (h : Blt C f u) {X : Cx} (ok : C.Ok X) : Gl X f := by show X.env.scope.names.lookup f = _; rw [ok.sc]; exact h.g
theorem Ev.callBA {es : List Expr} {τ : Type} {f : Str} {id : String} {ρs : τ → List Rp} {ρ : β → Rp} {mt : W τ} (k : τ → W β) (hb : Blt C f (.builtin id))
    (hc : ∀ X, C.Ok X → ∃ r, CallR X (.builtin id) r ∧ ∀ t H vs Q E, All2 (fun v R => R.p H v) vs (ρs t) → (k t).wp (fun y => ∀ u, (∀ F, Same H F → (ρ y).p F u) → Q u H) E → r vs H Q) (hs : ∀ x P (E E' : Exn → Prop), (k x).wp P E → (k x).wp P E')
    (hd : ∀ y F v, (ρ y).p F v → ∀ F', (ρ y).p F' v) (ha : EvA C Γ (e :: es) ρs mt) (hn : NoStar e) (hpl : EvA C Γ es (fun _ : Unit => []) (pure ()) ∨ ∀ (X : Cx) (pos : Pos), (backTo pos (starEach es X.env)).any (·.1) = false) :
    Ev C Γ (.Call (.Name f p) (e :: es) [] pos) ρ (do let t ← mt; k t) :=
  fun X Wx ok tk F H g σ s Q hm => by
    obtain ⟨r, hr, hk⟩ := hc X ok
    refine WE.of (pe_callB hr (hb.gl ok) (by rw [ok.mg]; exact hb.m) hb.v (pa_W (es := e :: es)) hb.n hb.d (hn es X.env) (by rcases hpl with h | h; exact h.1 X pos; exact h X pos)) ?_
    refine ha.2 X Wx ok tk F H g σ s _ (mt.mono (fun t ht F1 H1 g1 vs f1 s1 r1 => ?_) (fun e he => he) hm)
    refine hk t H1 vs Q (fun _ => True) (r1.imp fun v R z => R.mono s1.sF z) (hs _ _ _ (fun _ => True) ((k t).mono (fun y hy u hu => ?_) (fun _ h => h) ht))
    exact hy F1 H1 g1 u f1 s1 (hd y _ u (hu H1 (Same.refl _)) F1)
theorem noArgs : ∀ (X : Cx) (pos : Pos), (backTo pos (starEach [] X.env)).any (·.1) = false := fun _ _ => rfl
/-- of one argument, the answer a scalar -/
theorem Ev.callB1 {f : Str} {id : String} {ρa : α → Rp} {ρ : β → Rp} {ma : W α} (k : α → W β) (hb : Blt C f (.builtin id))
    (hc : ∀ X, C.Ok X → ∃ r, CallR X (.builtin id) r ∧ ∀ x H v Q E, (ρa x).p H v → (k x).wp (fun y => ∀ u, (∀ F, Same H F → (ρ y).p F u) → Q u H) E → r [v] H Q) (hs : ∀ x P (E E' : Exn → Prop), (k x).wp P E → (k x).wp P E')
    (hd : ∀ y F v, (ρ y).p F v → ∀ F', (ρ y).p F' v) (ha : Ev C Γ e ρa ma) (hn : NoStar e) : Ev C Γ (.Call (.Name f p) [e] [] pos) ρ (do let x ← ma; k x) :=
  Ev.callBA (ρs := fun x : α × Unit => [ρa x.1]) (mt := do let a ← ma; let t ← pure (); pure (a, t)) (fun t => k t.1) hb
    (fun X ok => by
      obtain ⟨r, hr, hk⟩ := hc X ok
      refine ⟨r, hr, fun t H vs Q E h w => ?_⟩
      cases h with
      | cons h h' =>
        cases h'
        exact hk t.1 H _ Q E h w) (fun x => hs x.1) hd (EvA.cons ha EvA.nil hn) hn (.inr noArgs)
def absI (x : Int) : Int := if x < 0 then -x else x
theorem Ev.abs {m : W Int} (hb : Blt C "abs" (.builtin "abs")) (ha : Ev C Γ e rI m) (hn : NoStar e) : Ev C Γ (.Call (.Name "abs" p) [e] [] pos) rI (do let x ← m; pure (absI x)) :=
  Ev.callB1 (fun x => pure (absI x)) hb (fun X ok => ⟨_, call_abs, fun x H v Q E hv h => ⟨x, by rw [show v = V.int x from hv], h _ fun _ _ => rfl⟩⟩) (fun _ _ _ _ h => h) (fun _ _ _ h _ => h) ha hn
theorem Ev.lenL {r : α → Rp} {m : W (List α)} (hb : Blt C "len" (.builtin "len")) (ha : Ev C Γ e (rL C.K r) m) (hn : NoStar e) : Ev C Γ (.Call (.Name "len" p) [e] [] pos) rI (do let x ← m; pure (x.length : Int)) :=
  Ev.callB1 (fun x => pure (x.length : Int)) hb (fun X ok => ⟨_, call_len_seq, fun x H v Q E hv h => by
    obtain ⟨q, vs, ev, hq, t⟩ := hv
    exact ⟨q, vs, by rw [ev], .inl (by rw [ok.K]; exact hq), h _ fun _ _ => by rw [t.length]; rfl⟩⟩) (fun _ _ _ _ h => h) (fun _ _ _ h _ => h) ha hn
def lenW (x : Str) : W Int := W.req (x.length ≤ sizeLine) (pure (x.length : Int))
theorem All2.ints {F : Hp} {vs : List V} {xs : List Int} (t : All2 (fun u x => (rI x).p F u) vs xs) : vs = xs.map V.int := t.of_map fun _ _ h => h
theorem All2.bls {F : Hp} {vs : List V} {xs : List Bool} (t : All2 (fun u x => (rB x).p F u) vs xs) : vs = xs.map V.bl := t.of_map fun _ _ h => h
theorem Ev.sum {m : W (List Int)} (hb : Blt C "sum" (.builtin "sum")) (ha : Ev C Γ e (rL C.K rI) m) (hn : NoStar e) (hcm : C.cm = true := by rfl) : Ev C Γ (.Call (.Name "sum" p) [e] [] pos) rI (do let x ← m; pure x.sum) :=
  Ev.callB1 (fun x => pure x.sum) hb (fun X ok => ⟨_, cr_sum (ok.calm.trans hcm), fun x H v Q E hv h => by
    obtain ⟨q, vs, ev, hq, t⟩ := hv
    exact ⟨q, x, by rw [ev], by rw [ok.K, ← t.ints]; exact hq, h _ fun _ _ => rfl⟩⟩) (fun _ _ _ _ h => h) (fun _ _ _ h _ => h) ha hn
theorem Ev.all {m : W (List Bool)} (hb : Blt C "all" (.builtin "all")) (ha : Ev C Γ e (rL C.K rB) m) (hn : NoStar e) (hcm : C.cm = true := by rfl) : Ev C Γ (.Call (.Name "all" p) [e] [] pos) rB (do let x ← m; pure (x.all id)) :=
  Ev.callB1 (fun x => pure (x.all id)) hb (fun X ok => ⟨_, cr_all (ok.calm.trans hcm), fun x H v Q E hv h => by
    obtain ⟨q, vs, ev, hq, t⟩ := hv
    exact ⟨q, x, by rw [ev], by rw [ok.K, ← t.bls]; exact hq, h _ fun _ _ => rfl⟩⟩) (fun _ _ _ _ h => h) (fun _ _ _ h _ => h) ha hn
theorem Ev.any {m : W (List Bool)} (hb : Blt C "any" (.builtin "any")) (ha : Ev C Γ e (rL C.K rB) m) (hn : NoStar e) (hcm : C.cm = true := by rfl) : Ev C Γ (.Call (.Name "any" p) [e] [] pos) rB (do let x ← m; pure (x.any id)) :=
  Ev.callB1 (fun x => pure (x.any id)) hb (fun X ok => ⟨_, cr_any (ok.calm.trans hcm), fun x H v Q E hv h => by
    obtain ⟨q, vs, ev, hq, t⟩ := hv
    exact ⟨q, x, by rw [ev], by rw [ok.K, ← t.bls]; exact hq, h _ fun _ _ => rfl⟩⟩) (fun _ _ _ _ h => h) (fun _ _ _ h _ => h) ha hn
/-- the least of some ints -/
def minW (xs : List Int) : W Int := W.req (xs ≠ []) (W.any fun m => m ∈ xs ∧ ∀ y ∈ xs, m ≤ y)
def maxW (xs : List Int) : W Int := W.req (xs ≠ []) (W.any fun m => m ∈ xs ∧ ∀ y ∈ xs, y ≤ m)
theorem Ev.min {m : W (List Int)} (hb : Blt C "min" (.builtin "min")) (ha : Ev C Γ e (rL C.K rI) m) (hn : NoStar e) (hcm : C.cm = true := by rfl) : Ev C Γ (.Call (.Name "min" p) [e] [] pos) rI (do let x ← m; minW x) :=
  Ev.callB1 minW hb (fun X ok => ⟨_, cr_min (ok.calm.trans hcm), fun x H v Q E hv h => by
    obtain ⟨q, vs, ev, hq, t⟩ := hv
    exact ⟨q, x, by rw [ev], by rw [ok.K, ← t.ints]; exact hq, List.length_pos_iff.mpr h.1, fun m h1 h2 => h.2 m ⟨h1, h2⟩ _ fun _ _ => rfl⟩⟩) (fun _ _ _ _ h => ⟨h.1, h.2⟩) (fun _ _ _ h _ => h) ha hn
theorem Ev.max {m : W (List Int)} (hb : Blt C "max" (.builtin "max")) (ha : Ev C Γ e (rL C.K rI) m) (hn : NoStar e) (hcm : C.cm = true := by rfl) : Ev C Γ (.Call (.Name "max" p) [e] [] pos) rI (do let x ← m; maxW x) :=
  Ev.callB1 maxW hb (fun X ok => ⟨_, cr_max (ok.calm.trans hcm), fun x H v Q E hv h => by
    obtain ⟨q, vs, ev, hq, t⟩ := hv
    exact ⟨q, x, by rw [ev], by rw [ok.K, ← t.ints]; exact hq, List.length_pos_iff.mpr h.1, fun m h1 h2 => h.2 m ⟨h1, h2⟩ _ fun _ _ => rfl⟩⟩) (fun _ _ _ _ h => ⟨h.1, h.2⟩) (fun _ _ _ h _ => h) ha hn
/-- of two arguments -/
theorem Ev.callB2 {f : Str} {id : String} {ρa : α → Rp} {ρb : β → Rp} {ρ : γ → Rp} {ma : W α} {mb : W β} (k : α → β → W γ) (hb : Blt C f (.builtin id))
    (hc : ∀ X, C.Ok X → ∃ r, CallR X (.builtin id) r ∧ ∀ x y H v w Q E, (ρa x).p H v → (ρb y).p H w → (k x y).wp (fun z => ∀ u, (∀ F, Same H F → (ρ z).p F u) → Q u H) E → r [v, w] H Q) (hs : ∀ x y P (E E' : Exn → Prop), (k x y).wp P E → (k x y).wp P E')
    (hd : ∀ y F v, (ρ y).p F v → ∀ F', (ρ y).p F' v) (h1 : Ev C Γ e1 ρa ma) (h2 : Ev C Γ e2 ρb mb) (n1 : NoStar e1) (n2 : NoStar e2) : Ev C Γ (.Call (.Name f p) [e1, e2] [] pos) ρ (do let x ← ma; let y ← mb; k x y) :=
  Ev.callBA (ρs := fun x : α × β × Unit => [ρa x.1, ρb x.2.1]) (mt := do let a ← ma; let t ← (do let b ← mb; let t ← pure (); pure (b, t)); pure (a, t)) (fun t => k t.1 t.2.1) hb
    (fun X ok => by
      obtain ⟨r, hr, hk⟩ := hc X ok
      refine ⟨r, hr, fun t H vs Q E h w => ?_⟩
      cases h with
      | cons h h' =>
        cases h' with
        | cons h' h'' =>
          cases h''
          exact hk t.1 t.2.1 H _ _ Q E h h' w) (fun x => hs x.1 x.2.1) hd (EvA.cons h1 (EvA.cons h2 EvA.nil n2) n1) n1 (.inr (EvA.cons h2 EvA.nil n2).1)
theorem Ev.max2 {ma mb : W Int} (hb : Blt C "max" (.builtin "max")) (h1 : Ev C Γ e1 rI ma) (h2 : Ev C Γ e2 rI mb) (n1 : NoStar e1) (n2 : NoStar e2) (hcm : C.cm = true := by rfl) : Ev C Γ (.Call (.Name "max" p) [e1, e2] [] pos) rI (do let x ← ma; let y ← mb; pure (if x < y then y else x)) :=
  Ev.callB2 (fun x y => pure (if x < y then y else x)) hb (fun X ok => ⟨_, call_max2 (ok.calm.trans hcm), fun x y H v w Q E hv hw h => ⟨x, y, by rw [show v = V.int x from hv, show w = V.int y from hw], h _ fun _ _ => rfl⟩⟩) (fun _ _ _ _ _ h => h) (fun _ _ _ h _ => h) h1 h2 n1 n2
/-- types called: int(x), str(n) -/
theorem Ev.callTy1 {f : Str} {T : String} {ρa : α → Rp} {ρ : β → Rp} {ma : W α} (k : α → W β) (hb : Blt C f (.type T))
    (hc : ∀ X, C.Ok X → ∃ r, CallR X (.type T) r ∧ ∀ x H v Q E, (ρa x).p H v → (k x).wp (fun y => ∀ u, (∀ F, Same H F → (ρ y).p F u) → Q u H) E → r [v] H Q) (hs : ∀ x P (E E' : Exn → Prop), (k x).wp P E → (k x).wp P E')
    (hd : ∀ y F v, (ρ y).p F v → ∀ F', (ρ y).p F' v) (ha : Ev C Γ e ρa ma) (hn : NoStar e) : Ev C Γ (.Call (.Name f p) [e] [] pos) ρ (do let x ← ma; k x) :=
  fun X Wx ok tk F H g σ s Q hm => by
    obtain ⟨r, hr, hk⟩ := hc X ok
    refine WE.of (pe_callTy hr (hb.gl ok) (by rw [ok.mg]; exact hb.m) hb.v (pa_cons (pe_W (e := e)) pa_nil (hn [] X.env)) hb.n hb.d (hn [] X.env) rfl) ?_
    refine ha X Wx ok tk F H g σ s _ (ma.mono (fun x hx F1 H1 g1 v f1 s1 r1 => ?_) (fun e he => he) hm)
    refine hk x H1 v Q (fun _ => True) ((ρa x).mono s1.sF r1) (hs _ _ _ (fun _ => True) ((k x).mono (fun y hy u hu => ?_) (fun _ h => h) hx))
    exact hy F1 H1 g1 u f1 s1 (hd y _ u (hu H1 (Same.refl _)) F1)
theorem Ev.intB {m : W Bool} (hb : Blt C "int" (.type "int")) (ha : Ev C Γ e rB m) (hn : NoStar e) : Ev C Γ (.Call (.Name "int" p) [e] [] pos) rI (do let x ← m; pure (if x = true then (1 : Int) else 0)) :=
  Ev.callTy1 (ρ := rI) (fun x => pure (if x = true then (1 : Int) else 0)) hb (fun X ok => ⟨_, call_int1, fun x H v Q E hv h => .inr ⟨x, by rw [show v = V.bl x from hv], h _ fun _ _ => rfl⟩⟩) (fun _ _ _ _ h => h) (fun _ _ _ h _ => h) ha hn
def strW (x : Int) : W Str := W.req (x.natAbs.log2 < 1920) (pure (toString x : Str))
/-- int(text) -/
def intW (x : Str) : W Int := match PySem.intText? x with | some n => W.req (x.length ≤ 640) (pure n) | none => W.bad
/-- list(xs) -/
theorem EvO.listOf {r : α → Rp} {m : W (List α)} (hb : Blt C "list" (.type "list")) (ha : Ev C Γ e (rL C.K r) m) (hn : NoStar e) : EvO C Γ (.Call (.Name "list" p) [e] [] pos) (oL C.fr r) m :=
  fun X Wx ok tk F H g σ s Q hm => by
    refine WE.of (pe_callTy call_list_of (hb.gl ok) (by rw [ok.mg]; exact hb.m) hb.v (pa_cons (pe_W (e := e)) pa_nil (hn [] X.env)) hb.n hb.d (hn [] X.env) rfl) ?_
    refine ha X Wx ok tk F H g σ s _ (m.mono (fun x hx F1 H1 g1 v f1 s1 r1 => ?_) (fun e he => he) hm)
    obtain ⟨q, vs, ev, hq, t⟩ := r1
    exact ⟨q, vs, by rw [ev], .inl (by rw [ok.K]; exact s1.sF.seq hq), fun l hl => EvO.fin (O := oL C.fr r x) f1 s1 hl (fun n => ⟨l, _, rfl, n, rfl, t⟩) hx⟩

/-! ### displays -/
theorem EvO.disp {es : List Expr} {τ : Type} {ρs : τ → List Rp} {mt : W τ} {r : α → Rp} (f : τ → List α) (hf : ∀ t F vs, All2 (fun v R => R.p F v) vs (ρs t) → All2 (fun v x => (r x).p F v) vs (f t)) (hl : ∀ t, (f t).length ≤ 1000) (ha : EvA C Γ es ρs mt) :
    EvO C Γ (.List es pos) (oL C.fr r) (do let t ← mt; pure (f t)) :=
  fun X Wx ok tk F H g σ s Q hm => by
    refine WE.of (pe_lst (pa_W (es := es))) ?_
    refine ha.2 X Wx ok tk F H g σ s _ (mt.mono (fun t ht F1 H1 g1 vs f1 s1 r1 => ?_) (fun e he => he) hm)
    have t2 := hf t F1 vs r1
    exact ⟨by rw [t2.length]; exact Nat.le_trans (hl t) (by decide), fun l hq => EvO.fin (O := oL C.fr r (f t)) f1 s1 hq (fun n => ⟨l, _, rfl, n, rfl, t2⟩) ht⟩
theorem EvO.nil {r : α → Rp} : EvO C Γ (.List [] pos) (oL C.fr r) (pure ([] : List α)) := EvO.disp (fun _ => []) (fun t F vs h => by cases h; exact .nil) (fun _ => Nat.zero_le _) EvA.nil
/-- a new tuple joins F -/
theorem Ev.tup {es : List Expr} {k : Nat} {τ : Type} {ρs : τ → List Rp} {ρ : β → Rp} {mt : W τ} (f : τ → β) (hf : ∀ t F q vs, F q = some (.tup vs) → All2 (fun v R => R.p F v) vs (ρs t) → (ρ (f t)).p F (.ref q)) (hl : ∀ t, (ρs t).length ≤ 1000) (ha : EvA C Γ es ρs mt) :
    Ev C Γ (.Tuple es k pos) ρ (do let t ← mt; pure (f t)) :=
  fun X Wx ok tk F H g σ s Q hm => by
    refine WE.of (pe_tup (pa_W (es := es))) ?_
    refine ha.2 X Wx ok tk F H g σ s _ (mt.mono (fun t ht F1 H1 g1 vs f1 s1 r1 => ?_) (fun e he => he) hm)
    refine ⟨by rw [r1.length]; exact Nat.le_trans (hl t) (by decide), fun q hq => ?_⟩
    obtain ⟨s2, f2⟩ := s1.grow1 (o := .tup vs) hq
    have hF1 : F1 q = Option.none := by
      cases z : F1 q with
      | none => rfl
      | some u => rw [s1.sF q u z] at hq; cases hq
    exact ht _ _ g1 (.ref q) (f1.trans f2) s2 (hf t _ q vs upd_same (r1.imp fun v R z => R.mono (fun b u e => by rw [upd_ne (ne_of_none e hF1)]; exact e) z))
theorem Ev.tup2 {k : Nat} {r1 : α → Rp} {r2 : β → Rp} {m1 : W α} {m2 : W β} (h1 : Ev C Γ e1 r1 m1) (h2 : Ev C Γ e2 r2 m2) (n1 : NoStar e1) (n2 : NoStar e2) : Ev C Γ (.Tuple [e1, e2] k pos) (rT2 C.K r1 r2) (do let x ← m1; let y ← m2; pure (x, y)) :=
  Ev.tup (ρs := fun x : α × β × Unit => [r1 x.1, r2 x.2.1]) (fun t => (t.1, t.2.1)) (fun t F q vs hq h => by
    cases h with
    | cons h h' =>
      cases h' with
      | cons h' h'' =>
        cases h''
        exact ⟨q, _, _, rfl, SqT.of hq, h, h'⟩) (fun _ => by simp) (EvA.cons h1 (EvA.cons h2 EvA.nil n2) n1)
theorem Ev.tup3 {k : Nat} {r1 : α → Rp} {r2 : β → Rp} {r3 : γ → Rp} {m1 : W α} {m2 : W β} {m3 : W γ} (h1 : Ev C Γ e1 r1 m1) (h2 : Ev C Γ e2 r2 m2) (h3 : Ev C Γ e3 r3 m3) (n1 : NoStar e1) (n2 : NoStar e2) (n3 : NoStar e3) :
    Ev C Γ (.Tuple [e1, e2, e3] k pos) (rT3 C.K r1 r2 r3) (do let x ← m1; let y ← m2; let z ← m3; pure (x, y, z)) :=
  Ev.tup (ρs := fun x : α × β × γ × Unit => [r1 x.1, r2 x.2.1, r3 x.2.2.1]) (fun t => (t.1, t.2.1, t.2.2.1)) (fun t F q vs hq h => by
    cases h with
    | cons h h' =>
      cases h' with
      | cons h' h'' =>
        cases h'' with
        | cons h'' h3 =>
          cases h3
          exact ⟨q, _, _, _, rfl, SqT.of hq, h, h', h''⟩) (fun _ => by simp) (EvA.cons h1 (EvA.cons h2 (EvA.cons h3 EvA.nil n3) n2) n1)
/-- list displays of one to four items -/
theorem EvO.list1 {r : α → Rp} {m1 : W α} (h1 : Ev C Γ e1 r m1) (n1 : NoStar e1) : EvO C Γ (.List [e1] pos) (oL C.fr r) (do let x ← m1; pure [x]) :=
  EvO.disp (ρs := fun x : α × Unit => [r x.1]) (fun t => [t.1]) (fun t F vs h => by
    cases h with
    | cons h h' => cases h'; exact .cons h .nil) (fun _ => by simp) (EvA.cons h1 EvA.nil n1)
theorem EvO.list2 {r : α → Rp} {m1 m2 : W α} (h1 : Ev C Γ e1 r m1) (h2 : Ev C Γ e2 r m2) (n1 : NoStar e1) (n2 : NoStar e2) : EvO C Γ (.List [e1, e2] pos) (oL C.fr r) (do let x ← m1; let y ← m2; pure [x, y]) :=
  EvO.disp (ρs := fun x : α × α × Unit => [r x.1, r x.2.1]) (fun t => [t.1, t.2.1]) (fun t F vs h => by
    cases h with
    | cons h h' =>
      cases h' with
      | cons h' h'' => cases h''; exact .cons h (.cons h' .nil)) (fun _ => by simp) (EvA.cons h1 (EvA.cons h2 EvA.nil n2) n1)
/-- written ints and texts, any number -/
theorem EvA.wCons {es : List Expr} {r : α → Rp} {x : α} {xs : List α} (h : Ev C Γ e r (pure x)) (ht : EvA C Γ es (fun _ : Unit => xs.map r) (pure ())) (hn : NoStar e) : EvA C Γ (e :: es) (fun _ : Unit => (x :: xs).map r) (pure ()) := by
  have q := EvA.cons h ht hn
  exact ⟨q.1, fun X Wx ok tk F H g σ s Q hm => q.2 X Wx ok tk F H g σ s Q hm⟩
theorem EvO.written {es : List Expr} {r : α → Rp} {xs : List α} (ha : EvA C Γ es (fun _ : Unit => xs.map r) (pure ())) (hl : xs.length ≤ 1000 := by decide) : EvO C Γ (.List es pos) (oL C.fr r) (pure xs) :=
  EvO.disp (fun _ => xs) (fun t F vs h => by
    have e : All2 (fun v R => R.p F v) vs (xs.map r) := h
    clear ha hl h
    generalize hy : xs.map r = ys at e
    induction e generalizing xs with
    | nil => cases xs with
      | nil => exact .nil
      | cons x xs => cases hy
    | cons q _ ih =>
      cases xs with
      | nil => cases hy
      | cons x xs =>
        cases hy
        exact .cons q (ih rfl)) (fun _ => hl) ha

end
end Y

/-! Y5: what is walked, targets, comprehensions -/
namespace Y
open PySem PySem.Spec L2

/-! ### iterators -/
structure ItOk {α : Type} (J : It) (r : α → Rp) (xs : List α) (F0 : Hp) : Prop where
  len : xs.length ≤ sizeLine
  go : ∀ i F H, Same F0 F → Same F H → i < xs.length → J.go i H
  yld : ∀ i x F H v H', Same F0 F → Same F H → xs[i]? = some x → J.yld i H v H' → ∃ G : Hp, (∀ a o, G a = some o → H a = none) ∧ H' = uni H G ∧ (r x).p (uni F G) v
  stop : ∀ i F H, Same F0 F → Same F H → xs.length ≤ i → J.stop i H
@[irreducible] def WI (X : Cx) (tg iter : Expr) : TI := fun σ H R => ∀ pins s, Inv X pins σ H s → wpAny (model X.prog X.w) X.A (eval iter X.env) (fun v s1 => wpAny (model X.prog X.w) X.A (pyIter v) (PIE X pins σ tg R) X.xe s1) X.xe s
theorem pi_W {X : Cx} {tg iter : Expr} : PI X tg iter (WI X tg iter) := ⟨fun pins s σ H R I h => by unfold WI at h; exact h pins s I⟩
theorem WI.of {X : Cx} {tg iter : Expr} {wi : TI} (h : PI X tg iter wi) {σ : St} {H : Hp} {R : It → Hp → Prop} (q : wi σ H R) : WI X tg iter σ H R := by unfold WI; exact fun pins s I => h.run pins s σ H R I q
def HLen (K : PySem.W.Frag) (H : Hp) : Prop := ∀ a xs, SqL K H a xs → xs.length ≤ sizeLine
/-- the lengths of lists that stand -/
theorem WE.len {X : Cx} {e : Expr} {σ : St} {H : Hp} {Q : VK} (h : WE X e σ H fun v H' => HLen X.K H' → Q v H') : WE X e σ H Q := by
  unfold WE at h ⊢
  exact fun pins s I =>
    thn (h pins s I) fun u s' ⟨v, H', I', r, q⟩ => ⟨v, H', I', r, q fun a xs hs => (I'.list hs).choose_spec.2.2⟩
theorem WA.len {X : Cx} {es : List Expr} {σ : St} {H : Hp} {Q : List V → Hp → Prop} (h : WA X es σ H fun v H' => HLen X.K H' → Q v H') : WA X es σ H Q := by
  unfold WA at h ⊢
  exact fun pos pins s I =>
    thn (h pos pins s I) fun u s' ⟨v, H', I', r, q⟩ => ⟨v, H', I', r, q fun a xs hs => (I'.list hs).choose_spec.2.2⟩
def EvI (C : Cc) (Γ : List Slot) (tg iter : Expr) {α : Type} (r : α → Rp) (m : W (List α)) : Prop :=
  ∀ (X : Cx) (Wx : WX), C.Ok X → Takes X Wx → ∀ (F H : Hp) (g : Nat → Hp) (σ : St), StOk C F H Γ σ g → ∀ R : It → Hp → Prop,
    m.wp (fun xs => ∀ F' H' g' J, Fr F H (dU g) F' H' (dU g') → StOk C F' H' Γ σ g' → ItOk J r xs F' → R J H') (XEnd C F H (dU g) Γ σ Wx) → WI X tg iter σ H R
theorem uni_emp {H : Hp} : uni H emp = H := by
  funext b
  unfold uni
  cases H b <;> rfl
section
variable {C : Cc} {Γ : List Slot} {α β γ : Type} {e e1 e2 tg : Expr} {pos p : Pos}
theorem itList' {K : PySem.W.Frag} {r : α → Rp} {xs : List α} {F : Hp} {a : Addr} {vs : List V} (hs : SqL K F a vs) (t : All2 (fun u x => (r x).p F u) vs xs) (hl : vs.length ≤ sizeLine) : ItOk (Itl K a) r xs F where
  len := by rw [← t.length]; exact hl
  go := fun i F' H f s h => ⟨vs, vs[i]'(by rw [t.length]; exact h), (f.trans s).seq hs, List.getElem?_eq_getElem _⟩
  yld := fun i x F' H v H' f s h y => by
    obtain ⟨e, y⟩ := y
    refine ⟨emp, fun a o z => (by cases z), by rw [uni_emp]; exact e, ?_⟩
    rw [uni_emp]
    have := y vs ((f.trans s).seq hs)
    obtain ⟨u, hu, ru⟩ := t.get h
    rw [this] at hu
    cases hu
    exact (r x).mono f ru
  stop := fun i F' H f s h => ⟨vs, (f.trans s).seq hs, by rw [t.length]; exact h⟩
theorem EvI.list {r : α → Rp} {m : W (List α)} (h : Ev C Γ e (rL C.K r) m) : EvI C Γ tg e r m :=
  fun X Wx ok tk F H g σ s R hm => by
    refine WI.of (pi_list (pe_W (e := e))) ?_
    refine WE.len (h X Wx ok tk F H g σ s _ (m.mono (fun xs hx F1 H1 g1 v f1 s1 r1 hl => ?_) (fun e he => he) hm))
    obtain ⟨a, vs, ev, hs, t⟩ := r1
    have hs2 : SqL X.K H1 a vs := by rw [ok.K]; exact s1.sF.seq hs
    refine ⟨a, ev, ⟨vs, hs2⟩, hx F1 H1 g1 _ f1 s1 ?_⟩
    rw [ok.K]
    exact itList' hs t (hl a vs hs2)
/-- lo, lo + 1, .. below hi -/
def rng (lo hi : Int) : List Int := (List.range (hi - lo).toNat).map fun (i : Nat) => lo + (i : Int)
theorem rng_length (lo hi : Int) : (rng lo hi).length = (hi - lo).toNat := by simp [rng]
theorem rng_get {lo hi : Int} {i : Nat} {x : Int} (h : (rng lo hi)[i]? = some x) : x = lo + (i : Int) ∧ i < (hi - lo).toNat := by
  unfold rng at h
  rw [List.getElem?_map] at h
  cases q : (List.range (hi - lo).toNat)[i]? with
  | none => rw [q] at h; cases h
  | some j =>
    rw [q] at h
    have hi' := (List.getElem?_eq_some_iff.mp q)
    obtain ⟨h1, h2⟩ := hi'
    rw [List.getElem_range] at h2
    subst h2
    rw [List.length_range] at h1
    exact ⟨(Option.some.inj h).symm, h1⟩
theorem itRange {lo hi : Int} {F : Hp} (hl : hi - lo ≤ 1000000) : ItOk (Itr lo (hi - lo).toNat) rI (rng lo hi) F where
  len := by rw [rng_length, PySem.sizeLine_eq]; omega
  go := fun i F' H f s h => by rw [rng_length] at h; exact h
  yld := fun i x F' H v H' f s h y => by
    obtain ⟨e, y⟩ := y
    refine ⟨emp, fun a o z => (by cases z), by rw [uni_emp]; exact e, ?_⟩
    rw [(rng_get h).1]
    exact y
  stop := fun i F' H f s h => by rw [rng_length] at h; exact h
def rangeW (lo hi : Int) : W (List Int) := W.req (-1000000 ≤ lo ∧ lo ≤ 1000000 ∧ -1000000 ≤ hi ∧ hi ≤ 1000000 ∧ hi - lo ≤ 1000000) (pure (rng lo hi))
theorem EvI.range1 {m : W Int} (hb : Blt C "range" (.type "range")) (h : Ev C Γ e rI m) (hn : NoStar e) : EvI C Γ tg (.Call (.Name "range" p) [e] [] pos) rI (do let n ← m; rangeW 0 n) :=
  fun X Wx ok tk F H g σ s R hm => by
    refine WI.of (pi_range1 (hb.gl ok) (by rw [ok.mg]; exact hb.m) (pa_cons (pe_W (e := e)) pa_nil (hn [] X.env)) (hn [] X.env)) ?_
    refine h X Wx ok tk F H g σ s _ (m.mono (fun n hx F1 H1 g1 v f1 s1 r1 => ?_) (fun e he => he) hm)
    obtain ⟨⟨h1, h2, h3, h4, h5⟩, hx⟩ := hx
    refine ⟨n, by rw [show v = V.int n from r1], by omega, by omega, ?_⟩
    have e0 : n.toNat = (n - 0).toNat := by rw [Int.sub_zero]
    rw [e0]
    exact hx F1 H1 g1 _ f1 s1 (itRange h5)
theorem EvI.range2 {m1 m2 : W Int} (hb : Blt C "range" (.type "range")) (h1 : Ev C Γ e1 rI m1) (h2 : Ev C Γ e2 rI m2) (n1 : NoStar e1) (n2 : NoStar e2) : EvI C Γ tg (.Call (.Name "range" p) [e1, e2] [] pos) rI (do let a ← m1; let b ← m2; rangeW a b) :=
  fun X Wx ok tk F H g σ s R hm => by
    refine WI.of (pi_range2 (hb.gl ok) (by rw [ok.mg]; exact hb.m) (pa_cons (pe_W (e := e1)) (pa_cons (pe_W (e := e2)) pa_nil (n2 [] X.env)) (n1 [e2] X.env)) (by rw [n1 [e2] X.env, n2 [] X.env]; rfl) (n2 [] X.env)) ?_
    refine h1 X Wx ok tk F H g σ s _ (m1.mono (fun a ha F1 H1 g1 v f1 s1 r1 => ?_) (fun e he => he) hm)
    refine h2 X Wx ok tk F1 H1 g1 σ s1 _ (m2.mono (fun b hb F2 H2 g2 w f2 s2 r2 => ?_) (fun e he => XEnd.later f1 he) ha)
    obtain ⟨⟨h1, h2, h3, h4, h5⟩, hx⟩ := hb
    refine ⟨a, b, by rw [show v = V.int a from r1, show w = V.int b from r2], by omega, ?_⟩
    exact hx F2 H2 g2 _ (f1.trans f2) s2 (itRange h5)
theorem itPair {K : PySem.W.Frag} {r1 : α → Rp} {r2 : β → Rp} {F H : Hp} {T : Addr} {x y : V} {a : α} {b : β} (hF : Same F H) (hT : H T = none) (h1 : (r1 a).p F x) (h2 : (r2 b).p F y) :
    ∃ G : Hp, (∀ a o, G a = some o → H a = none) ∧ upd H T (.tup [x, y]) = uni H G ∧ (rT2 K r1 r2 (a, b)).p (uni F G) (.ref T) := by
  have hFT : F T = none := by
    cases q : F T with
    | none => rfl
    | some u => rw [hF T u q] at hT; cases hT
  refine ⟨Y.one T (.tup [x, y]), fun b o e => ?_, (uni_upd hT).symm, ?_⟩
  · by_cases z : b = T
    · rw [z]; exact hT
    · rw [one_ne z] at e; cases e
  · rw [uni_upd hFT]
    have sm : Same F (upd F T (.tup [x, y])) := fun b u e => by rw [upd_ne (ne_of_none e hFT)]; exact e
    exact ⟨T, x, y, rfl, SqT.of upd_same, (r1 a).mono sm h1, (r2 b).mono sm h2⟩
theorem EvI.zip {r1 : α → Rp} {r2 : β → Rp} {m1 : W (List α)} {m2 : W (List β)} {elts : List Expr} {kk : Nat} {tpos : Pos} (hb : Blt C "zip" (.type "zip")) (h1 : Ev C Γ e1 (rL C.K r1) m1) (h2 : Ev C Γ e2 (rL C.K r2) m2) (n1 : NoStar e1) (n2 : NoStar e2) :
    EvI C Γ (.Tuple elts kk tpos) (.Call (.Name "zip" p) [e1, e2] [] pos) (rT2 C.K r1 r2) (do let a ← m1; let b ← m2; pure (a.zip b)) :=
  fun X Wx ok tk F H g σ s R hm => by
    refine WI.of (pi_zip (hb.gl ok) (by rw [ok.mg]; exact hb.m) (pa_W (es := [e1, e2])) (n1 [e2] X.env) (by rw [n2 [] X.env]; rfl)) ?_
    refine WA.len (WA.of (pa_cons (pe_W (e := e1)) (pa_cons (pe_W (e := e2)) pa_nil (n2 [] X.env)) (n1 [e2] X.env)) ?_)
    refine h1 X Wx ok tk F H g σ s _ (m1.mono (fun a ha F1 H1 g1 v f1 s1 r1' => ?_) (fun e he => he) hm)
    refine h2 X Wx ok tk F1 H1 g1 σ s1 _ (m2.mono (fun b hb F2 H2 g2 w f2 s2 r2' => ?_) (fun e he => XEnd.later f1 he) ha)
    intro hl
    obtain ⟨p1, vs, ev, hs1, t1⟩ := (rL C.K r1 a).mono f2.sF r1'
    obtain ⟨p2, ws, ew, hs2, t2⟩ := r2'
    have q1 : SqL X.K H2 p1 vs := by rw [ok.K]; exact s2.sF.seq hs1
    have q2 : SqL X.K H2 p2 ws := by rw [ok.K]; exact s2.sF.seq hs2
    refine ⟨p1, p2, vs, ws, by rw [ev, ew], q1, q2, hb F2 H2 g2 _ (f1.trans f2) s2 ?_⟩
    have l1 := t1.length
    have l2 := t2.length
    rw [ok.K]
    refine ⟨?_, fun i F' H' f s h => ?_, fun i x F' H' v H3 f s h y => ?_, fun i F' H' f s h => ?_⟩
    · rw [List.length_zip, ← l1]
      exact Nat.le_trans (Nat.min_le_left _ _) (hl p1 vs q1)
    · rw [List.length_zip] at h
      exact ⟨vs, ws, vs[i]'(by omega), ws[i]'(by omega), (f.trans s).seq hs1, (f.trans s).seq hs2, List.getElem?_eq_getElem _, List.getElem?_eq_getElem _⟩
    · obtain ⟨T, x', y', e1, hT, e2, y1, y2⟩ := y
      subst e1 e2
      obtain ⟨xa, xb⟩ := x
      obtain ⟨ha', hb'⟩ := List.getElem?_zip_eq_some.mp h
      obtain ⟨u1, hu1, ru1⟩ := t1.get ha'
      obtain ⟨u2, hu2, ru2⟩ := t2.get hb'
      rw [y1 vs ((f.trans s).seq hs1)] at hu1
      rw [y2 ws ((f.trans s).seq hs2)] at hu2
      cases hu1
      cases hu2
      exact itPair s hT ((r1 xa).mono f ru1) ((r2 xb).mono f ru2)
    · rw [List.length_zip] at h
      exact ⟨vs, ws, (f.trans s).seq hs1, (f.trans s).seq hs2, by omega⟩
/-- the items with their places -/
def enum (xs : List α) : List (Int × α) := (rng 0 xs.length).zip xs
theorem EvI.enum {r : α → Rp} {m : W (List α)} {elts : List Expr} {kk : Nat} {tpos : Pos} (hb : Blt C "enumerate" (.type "enumerate")) (h : Ev C Γ e (rL C.K r) m) (hn : NoStar e) :
    EvI C Γ (.Tuple elts kk tpos) (.Call (.Name "enumerate" p) [e] [] pos) (rT2 C.K rI r) (do let a ← m; pure (Y.enum a)) :=
  fun X Wx ok tk F H g σ s R hm => by
    refine WI.of (pi_enum (hb.gl ok) (by rw [ok.mg]; exact hb.m) (pa_W (es := [e])) (hn [] X.env)) ?_
    refine WA.len (WA.of (pa_cons (pe_W (e := e)) pa_nil (hn [] X.env)) ?_)
    refine h X Wx ok tk F H g σ s _ (m.mono (fun a ha F1 H1 g1 v f1 s1 r1' => ?_) (fun e he => he) hm)
    intro hl
    obtain ⟨p1, vs, ev, hs1, t1⟩ := r1'
    have q1 : SqL X.K H1 p1 vs := by rw [ok.K]; exact s1.sF.seq hs1
    refine ⟨p1, vs, by rw [ev], q1, ha F1 H1 g1 _ f1 s1 ?_⟩
    have l1 := t1.length
    have l2 : (Y.enum a).length = a.length := by
      unfold Y.enum
      rw [List.length_zip, rng_length]
      omega
    rw [ok.K]
    refine ⟨?_, fun i F' H' f s h => ?_, fun i x F' H' v H3 f s h y => ?_, fun i F' H' f s h => ?_⟩
    · rw [l2, ← l1]
      exact hl p1 vs q1
    · rw [l2] at h
      exact ⟨vs, vs[i]'(by omega), (f.trans s).seq hs1, List.getElem?_eq_getElem _⟩
    · obtain ⟨T, x', e1, hT, e2, y1⟩ := y
      subst e1 e2
      obtain ⟨xa, xb⟩ := x
      unfold Y.enum at h
      obtain ⟨ha', hb'⟩ := List.getElem?_zip_eq_some.mp h
      obtain ⟨u1, hu1, ru1⟩ := t1.get hb'
      rw [y1 vs ((f.trans s).seq hs1)] at hu1
      cases hu1
      obtain ⟨ea, _⟩ := rng_get ha'
      exact itPair s hT (show V.int i = V.int xa by
        have ea' : xa = 0 + (i : Int) := ea
        rw [ea', Int.zero_add]) ((r xb).mono f ru1)
    · rw [l2] at h
      exact ⟨vs, (f.trans s).seq hs1, by omega⟩
/-- sign by sign -/
def signs (z : Str) : List Str := z.cps.toList.map fun c => ⟨#[c]⟩
theorem EvI.str {m : W Str} (h : Ev C Γ e rS m) : EvI C Γ tg e rS (do let z ← m; W.req (z.length ≤ sizeLine) (pure (signs z))) :=
  fun X Wx ok tk F H g σ s R hm => by
    refine WI.of (pi_str (pe_W (e := e))) ?_
    refine h X Wx ok tk F H g σ s _ (m.mono (fun z hx F1 H1 g1 v f1 s1 r1 => ?_) (fun e he => he) hm)
    obtain ⟨hz, hx⟩ := hx
    have hl : (signs z).length = z.cps.size := by simp [signs]
    refine ⟨z, r1, hx F1 H1 g1 _ f1 s1 ⟨by rw [hl]; exact hz, fun i F' H' f s h => by rw [hl] at h; exact h, fun i x F' H' v H3 f s h y => ?_, fun i F' H' f s h => by rw [hl] at h; exact h⟩⟩
    obtain ⟨e, c, hc, ev⟩ := y
    refine ⟨emp, fun a o z => (by cases z), by rw [uni_emp]; exact e, ?_⟩
    unfold signs at h
    rw [List.getElem?_map, Array.getElem?_toList, hc] at h
    have h' := Option.some.inj h
    rw [ev, ← h']
    rfl
end

/-! ### targets -/
/-- t is how tg is assigned; up what it makes of the slots, by a value of kind r -/
structure EvG (C : Cc) (tg : Expr) {α : Type} (r : α → Rp) (t : TG) (up : List Slot → α → List Slot) : Prop where
  pg : ∀ X, C.Ok X → PG X tg t
  rd : ∀ (Γ : List Slot) (F H : Hp) (g : Nat → Hp) (σ : St) (x : α) (v : V) (Q : St → Hp → Prop), StOk C F H Γ σ g → (r x).p F v → (∀ σ', StOk C F H (up Γ x) σ' g → Q σ' H) → t v σ H Q
/-- the name may be stored -/
def Sto (C : Cc) (x : Str) : Prop := C.sc.names.lookup x = some .local ∨ (C.sc.names.lookup x = some .cell ∧ C.fnc x = true)
theorem Sto.loc {C : Cc} {x : Str} (h : Sto C x) {X : Cx} (ok : C.Ok X) : Loc X.env.scope x := by
  rw [ok.sc]
  rcases h with h | h
  · exact .inl h
  · exact .inr h.1
theorem Sto.fn {C : Cc} {x : Str} (h : Sto C x) {X : Cx} (ok : C.Ok X) : X.fn x = true ∨ X.env.scope.names.lookup x = some .local := by
  rw [ok.sc]
  rcases h with h | h
  · exact .inr h
  · exact .inl (ok.fnc x h.2)
section
variable {C : Cc} {Γ : List Slot} {α β γ : Type} {pos : Pos}
theorem EvG.name {i : Nat} {x : Str} {r : α → Rp} (hN : C.N[i]? = some x) (hx : Sto C x) : EvG C (.Name x pos) r (gName i) (fun Γ a => Γ.set i (.val (r a))) :=
  ⟨fun X ok => pg_name ok.ndX (by rw [ok.N]; exact hN) (hx.loc ok) (hx.fn ok), fun Γ F H g σ x v Q s h k => k _ (s.set_val h)⟩
theorem EvG.tup2 {i j : Nat} {x1 x2 : Str} {p1 p2 : Pos} {k : Nat} {tp : Pos} {r1 : α → Rp} {r2 : β → Rp} (h1 : C.N[i]? = some x1) (h2 : C.N[j]? = some x2) (s1 : Sto C x1) (s2 : Sto C x2) (hcm : C.cm = true := by rfl) :
    EvG C (.Tuple [.Name x1 p1, .Name x2 p2] k tp) (rT2 C.K r1 r2) (gTup C.K 2 (gCons (gName i) (gCons (gName j) gNil))) (fun Γ x => (Γ.set i (.val (r1 x.1))).set j (.val (r2 x.2))) where
  pg := fun X ok => by
    rw [← ok.K]
    exact pg_tup (ok.calm.trans hcm) (pgs_cons (pg_name ok.ndX (by rw [ok.N]; exact h1) (s1.loc ok) (s1.fn ok)) (pgs_cons (pg_name ok.ndX (by rw [ok.N]; exact h2) (s2.loc ok) (s2.fn ok)) pgs_nil))
  rd := fun Γ F H g σ x v Q s h kk => by
    obtain ⟨a, v1, v2, e, q, t1, t2⟩ := h
    exact ⟨a, _, e, Same.seqT s.sF q, rfl, v1, _, rfl, v2, _, rfl, rfl, kk _ ((s.set_val t1).set_val t2)⟩
theorem EvG.tup3 {i j l : Nat} {x1 x2 x3 : Str} {p1 p2 p3 : Pos} {k : Nat} {tp : Pos} {r1 : α → Rp} {r2 : β → Rp} {r3 : γ → Rp} (h1 : C.N[i]? = some x1) (h2 : C.N[j]? = some x2) (h3 : C.N[l]? = some x3) (s1 : Sto C x1) (s2 : Sto C x2) (s3 : Sto C x3) (hcm : C.cm = true := by rfl) :
    EvG C (.Tuple [.Name x1 p1, .Name x2 p2, .Name x3 p3] k tp) (rT3 C.K r1 r2 r3) (gTup C.K 3 (gCons (gName i) (gCons (gName j) (gCons (gName l) gNil)))) (fun Γ x => ((Γ.set i (.val (r1 x.1))).set j (.val (r2 x.2.1))).set l (.val (r3 x.2.2))) where
  pg := fun X ok => by
    rw [← ok.K]
    exact pg_tup (ok.calm.trans hcm) (pgs_cons (pg_name ok.ndX (by rw [ok.N]; exact h1) (s1.loc ok) (s1.fn ok)) (pgs_cons (pg_name ok.ndX (by rw [ok.N]; exact h2) (s2.loc ok) (s2.fn ok)) (pgs_cons (pg_name ok.ndX (by rw [ok.N]; exact h3) (s3.loc ok) (s3.fn ok)) pgs_nil)))
  rd := fun Γ F H g σ x v Q s h kk => by
    obtain ⟨a, v1, v2, v3, e, q, t1, t2, t3⟩ := h
    exact ⟨a, _, e, Same.seqT s.sF q, rfl, v1, _, rfl, v2, _, rfl, v3, _, rfl, rfl, kk _ (((s.set_val t1).set_val t2).set_val t3)⟩
end
end Y

/-! Y6: comprehensions -/
namespace Y
open PySem PySem.Spec L2
def W.noX {α : Type} (m : W α) : W α := ⟨fun P _ => m.wp P (fun _ => False), fun hp _ x => m.mono hp (fun _ h => h) x⟩
def compM {α β : Type} (t : α → W Bool) (f : α → W β) : List α → W (List β)
  | [] => W.ret []
  | x :: xs => do
    let b ← t x
    if b = true then (do let y ← f x; let ys ← compM t f xs; pure (y :: ys)) else compM t f xs
def wipeG (Γ : List Slot) : List Nat → List Slot
  | [] => Γ
  | v :: vs => (wipeG Γ vs).set v .no
/-- a clause's tests -/
def EvTs (C : Cc) (Γ : List Slot) (ifs : List Expr) (m : W Bool) : Prop :=
  ∀ (X : Cx) (Wx : WX), C.Ok X → Takes X Wx → ∀ (F H : Hp) (g : Nat → Hp) (σ : St), StOk C F H Γ σ g → ∀ Q : Bool → Hp → Prop,
    m.wp (fun a => ∀ F' H' g', Fr F H (dU g) F' H' (dU g') → StOk C F' H' Γ σ g' → Q a H') (XEnd C F H (dU g) Γ σ Wx) → ∃ t, PTs X ifs t ∧ t σ H Q
section
variable {C : Cc} {Γ : List Slot} {α β : Type}
theorem EvTs.nil : EvTs C Γ [] (pure true) := fun X Wx ok tk F H g σ s Q hm => ⟨_, pts_nil, hm F H g Fr.refl s⟩
theorem EvTs.one {c : Expr} {m : W Bool} (h : EvT C Γ c m) : EvTs C Γ [c] m := fun X Wx ok tk F H g σ s Q hm => ⟨_, pts_one (pt_W (e := c)), h X Wx ok tk F H g σ s Q hm⟩
/-- the block's static context -/
abbrev Cc.blk (C : Cc) (scope : Scope) : Cc := { C with sc := relS scope C.sc, fnc := fun x => scope.names.lookup x == some .cell, ex := none }
theorem Cc.Ok.blk {X : Cx} (ok : C.Ok X) (s : Shared) (H : Hp) (scope : Scope) (cl : List (Str × Addr)) (Ca : Addr) (fp : List Addr) : (C.blk scope).Ok (X.blk s H scope (compEnvC scope cl Ca X.env) fp) where
  prog := ok.prog
  w := ok.w
  K := ok.K
  mg := ok.mg
  base := ok.base
  N := ok.N
  sc := by
    show relS scope X.env.scope = relS scope C.sc
    rw [ok.sc]
  nd := ok.nd
  calm := ok.calm
  room := ok.room
  units := ok.units
  exc := fun _ _ _ h => nomatch h
  fnc := fun x h => h
theorem StOk.wipe {F H : Hp} {σ : St} {g : Nat → Hp} (s : StOk C F H Γ σ g) : ∀ vs : List Nat, StOk C F H (wipeG Γ vs) (L2.wipe σ vs) g
  | [] => s
  | v :: vs => (StOk.wipe s vs).set_no
theorem StOk.blk {F H : Hp} {σ : St} {g : Nat → Hp} {scope : Scope} : StOk (C.blk scope) F H Γ σ g ↔ StOk C F H Γ σ g := ⟨fun s => ⟨s.len, s.slot, s.sF, s.sG, s.dF, s.dG, s.fr⟩, fun s => ⟨s.len, s.slot, s.sF, s.sG, s.dF, s.dG, s.fr⟩⟩
theorem wipe_at {σ : St} {i : Nat} : ∀ {vs : List Nat}, i ∉ vs → (L2.wipe σ vs)[i]? = σ[i]?
  | [], _ => rfl
  | v :: vs, h => by
    rw [List.mem_cons, not_or] at h
    unfold L2.wipe
    rw [List.getElem?_set_ne (fun q => h.1 q.symm), wipe_at h.2]
/-- the slots of before, behind a block -/
theorem StOk.unwipe {F H F2 H2 : Hp} {σ σ2 : St} {g g2 : Nat → Hp} {Γ2 : List Slot} {vs : List Nat} (s : StOk C F H Γ σ g) (s2 : StOk C F2 H2 Γ2 σ2 g2) (hF : Same F F2) (hΓ : ∀ i, i ∉ vs → Γ2[i]? = Γ[i]?) (hσ : L2.wipe σ2 vs = L2.wipe σ vs)
    (hn : ∀ v ∈ vs, ∀ O, Γ[v]? ≠ some (.own O)) : StOk C F2 H2 Γ σ g2 where
  len := s.len
  slot := fun i S e => by
    by_cases hi : i ∈ vs
    · cases S with
      | no => trivial
      | val R => exact (s.slot i _ e).mono hF
      | own O => exact absurd e (hn i hi O)
    · have h2 : σ2[i]? = σ[i]? := by rw [← wipe_at (σ := σ2) hi, hσ, wipe_at hi]
      rw [← h2]
      exact s2.slot i S ((hΓ i hi).trans e)
  sF := s2.sF
  sG := s2.sG
  dF := s2.dF
  dG := s2.dG
  fr := s2.fr
/-- the new list's step -/
theorem lc_step {F H : Hp} {U : Addr → Prop} {Fc Hc Gy F6 H6 : Hp} {gc g6 : Nat → Hp} {σ : St} {D : Addr} {o o' : HO} (fc : Fr F H U Fc Hc (fun b => dU gc b ∨ one D o b ≠ none)) (hD : Hc D = some o) (hFD : Fc D = none) (hgD : ∀ j, gc j D = none)
    (hGy : ∀ a o, Gy a = some o → Hc a = none) (f : Fr (uni Fc Gy) (uni Hc Gy) (dU gc) F6 H6 (dU g6)) (s6 : StOk C F6 H6 Γ σ g6) :
    H6 D = some o ∧ F6 D = none ∧ (∀ j, g6 j D = none) ∧ StOk C F6 (upd H6 D o') Γ σ g6 ∧ Fr F H U F6 (upd H6 D o') (fun b => dU g6 b ∨ one D o' b ≠ none) ∧ Fr F H U F6 H6 (fun b => dU g6 b ∨ one D o b ≠ none) := by
  have hDu : (uni Hc Gy) D = some o := uni_l D _ hD
  have ngc : ¬ dU gc D := fun ⟨j, q⟩ => q (hgD j)
  have k1 : H6 D = some o := f.keep D _ hDu ngc
  have k2 : F6 D = none := by
    cases q : F6 D with
    | none => rfl
    | some u =>
      rcases f.fF D (by rw [q]; simp) with z | z | z
      · have gD : Gy D = none := by
          cases e : Gy D with
          | none => rfl
          | some o2 => have := hGy D o2 e; rw [hD] at this; cases this
        exact absurd (uni_none hFD gD) z
      · rw [hDu] at z; cases z
      · exact absurd z ngc
  have k3 : ∀ j, g6 j D = none := fun j => by
    cases q : g6 j D with
    | none => rfl
    | some u =>
      rcases f.gs D ⟨j, by rw [q]; simp⟩ with z | z
      · exact absurd z ngc
      · rw [hDu] at z; cases z
  have oneD : ∀ {o : HO} {b : Addr}, one D o b ≠ none → b = D := fun {o b} q => by
    by_cases z : b = D
    · exact z
    · exact absurd (one_ne z) q
  have HcN : ∀ b, H b = none → Hc b = none ∨ Hc b ≠ none := fun b _ => by
    cases Hc b with
    | none => exact .inl rfl
    | some u => exact .inr (by simp)
  have base : ∀ {o2 : HO} {H7 : Hp}, (∀ b, b ≠ D → H7 b = H6 b) → H7 D ≠ none → Fr F H U F6 H7 (fun b => dU g6 b ∨ one D o2 b ≠ none) := fun {o2 H7} e7 d7 => by
    refine ⟨(fc.sF.trans uni_l).trans f.sF, fun b q => ?_, fun b u q n => ?_, fun b q => ?_, fun b q => ?_⟩
    · rcases f.fF b q with z | z | z
      · cases e : Fc b with
        | some u => exact fc.fF b (by rw [e]; simp)
        | none =>
          cases e2 : Gy b with
          | none => exact absurd (uni_none e e2) z
          | some u =>
            refine .inr (.inl ?_)
            have := hGy b u e2
            cases e3 : H b with
            | none => rfl
            | some w => exact absurd this (fc.dom b (by rw [e3]; simp))
      · refine .inr (.inl ?_)
        cases e3 : H b with
        | none => rfl
        | some w =>
          have h1 := fc.dom b (by rw [e3]; simp)
          cases e4 : Hc b with
          | none => exact absurd e4 h1
          | some w2 => rw [uni_l b _ e4] at z; cases z
      · rcases fc.gs b (.inl z) with y | y
        · exact .inr (.inr y)
        · exact .inr (.inl y)
    · have h1 := fc.keep b u q n
      have nb : ¬ dU gc b := fun z => by
        rcases fc.gs b (.inl z) with y | y
        · exact n y
        · rw [q] at y; cases y
      have bD : b ≠ D := fun z => by
        subst z
        rcases fc.gs b (.inr (by rw [one_same]; simp)) with y | y
        · exact n y
        · rw [q] at y; cases y
      rw [e7 b bD]
      exact f.keep b u (uni_l b _ h1) nb
    · by_cases bD : b = D
      · subst bD; exact d7
      · rw [e7 b bD]
        refine f.dom b ?_
        have h1 := fc.dom b q
        cases e4 : Hc b with
        | none => exact absurd e4 h1
        | some w2 => rw [uni_l b _ e4]; simp
    · rcases q with q | q
      · rcases f.gs b q with z | z
        · exact fc.gs b (.inl z)
        · refine .inr ?_
          cases e3 : H b with
          | none => rfl
          | some w =>
            have h1 := fc.dom b (by rw [e3]; simp)
            cases e4 : Hc b with
            | none => exact absurd e4 h1
            | some w2 => rw [uni_l b _ e4] at z; cases z
      · rw [oneD q]
        exact fc.gs D (.inr (by rw [one_same]; simp))
  refine ⟨k1, k2, k3, ⟨s6.len, s6.slot, fun b u e => ?_, fun j b u e => ?_, s6.dF, s6.dG, fun b e => ?_⟩, base (fun b z => upd_ne z) (by rw [upd_same]; simp), base (fun b z => rfl) (by rw [k1]; simp)⟩
  · rw [upd_ne (fun z => by rw [z, k2] at e; cases e)]; exact s6.sF b u e
  · rw [upd_ne (fun z => by rw [z, k3 j] at e; cases e)]; exact s6.sG j b u e
  · by_cases z : b = D
    · rw [z, upd_same] at e; cases e
    · rw [upd_ne z] at e; exact s6.fr b e
theorem tLc_of {tg iter elt : Expr} {ifs : List Expr} {scope : Scope} {vs : List Nat} {r : α → Rp} {r' : β → Rp} {m : W (List α)} {mt : α → W Bool} {me : α → W β} {t : TG} {up : List Slot → α → List Slot} (hi : EvI C Γ tg iter r m)
    (hg : EvG (C.blk scope) tg r t up) (hup : ∀ x i, i ∉ vs → (up (wipeG Γ vs) x)[i]? = Γ[i]?) (hn : ∀ v ∈ vs, ∀ O, Γ[v]? ≠ some (.own O))
    (hw : ∀ v σ H (Q : St → Hp → Prop), t v (L2.wipe σ vs) H (fun σ2 H2 => L2.wipe σ2 vs = L2.wipe σ vs → Q σ2 H2) → t v (L2.wipe σ vs) H (fun σ2 H2 => L2.wipe σ2 vs = L2.wipe σ vs ∧ Q σ2 H2))
    (ht : ∀ x, EvTs (C.blk scope) (up (wipeG Γ vs) x) ifs (mt x)) (he : ∀ x, Ev (C.blk scope) (up (wipeG Γ vs) x) elt r' (me x))
    {X : Cx} {Wx : WX} (ok : C.Ok X) (tk : Takes X Wx) {F H : Hp} {g : Nat → Hp} {σ : St} (s : StOk C F H Γ σ g) {Q : VK}
    (hm : (do let xs ← m; W.noX (compM mt me xs)).wp (fun a => ∀ (F' H' : Hp) (g' : Nat → Hp) (G : Hp) (v : V), Fr F H (dU g) F' H' (fun b => dU g' b ∨ G b ≠ none) → StOk C F' H' Γ σ g' → Same G H' → Dis F' G → (∀ i, Dis (g' i) G) → (∀ b, G b ≠ none → C.fr b) → (oL C.fr r' a).p F' G v → Q v H') (XEnd C F H (dU g) Γ σ Wx)) :
    tLc (WI X tg iter) t (fun σ2 H2 Q => ∀ (s0 : Shared) (H0 : Hp) (Ca : Addr) (cl : List (Str × Addr)) (fp : List Addr), ∃ tt, PTs (X.blk s0 H0 scope (compEnvC scope cl Ca X.env) fp) ifs tt ∧ tt σ2 H2 Q)
      (fun σ2 H2 Q => ∀ (s0 : Shared) (H0 : Hp) (Ca : Addr) (cl : List (Str × Addr)) (fp : List Addr), WE (X.blk s0 H0 scope (compEnvC scope cl Ca X.env) fp) elt σ2 H2 Q) vs σ H Q := by
  refine hi X Wx ok tk F H g σ s _ (m.mono (fun xs hx F1 H1 g1 J f1 s1 hJ D hD => ?_) (fun e he => he) hm)
  refine ⟨fun i n Hc => n = xs.length - i ∧ i ≤ xs.length ∧ ∃ Fc gc accV acc, StOk C Fc Hc Γ σ gc ∧ Same F1 Fc ∧ Fr F H (dU g) Fc Hc (fun b => dU gc b ∨ one D (.lst accV) b ≠ none) ∧ Hc D = some (.lst accV) ∧ Fc D = none ∧ (∀ j, gc j D = none) ∧ C.fr D ∧ All2 (fun u y => (r' y).p Fc u) accV acc ∧ acc.length ≤ i ∧
      (compM mt me (xs.drop i)).wp (fun zs => ∀ (F' H' : Hp) (g' : Nat → Hp) (G : Hp) (v : V), Fr F H (dU g) F' H' (fun b => dU g' b ∨ G b ≠ none) → StOk C F' H' Γ σ g' → Same G H' → Dis F' G → (∀ i, Dis (g' i) G) → (∀ b, G b ≠ none → C.fr b) → (oL C.fr r' (acc ++ zs)).p F' G v → Q v H') (fun _ => False), ⟨xs.length, by simp, Nat.zero_le _, ?_⟩, ?_⟩
  · obtain ⟨f2, s2, h3, h4, h5, h6, h7⟩ := new_own (O := oL C.fr r' []) (o := .lst []) s1 hD (fun n => ⟨D, [], rfl, n, rfl, .nil⟩)
    refine ⟨F1, g1, [], [], s2, Same.refl _, f1.trans f2, upd_same, ?_, fun j => ?_, s1.fr D hD, .nil, Nat.zero_le _, hx⟩
    · rcases h4 D with q | q
      · exact q
      · rw [one_same] at q; cases q
    · rcases h5 j D with q | q
      · exact q
      · rw [one_same] at q; cases q
  · rintro i n Hc ⟨rfl, hi', Fc, gc, accV, acc, sc, hF1, fc, hD', hFD, hgD, frD, hacc, hlen, hwp⟩
    by_cases hlt : i < xs.length
    · refine .inr ⟨hJ.go i Fc Hc hF1 sc.sF hlt, _, fun H' h => ⟨xs.length - (i + 1), by omega, h⟩, fun v H' y => ?_⟩
      obtain ⟨x, hxi⟩ : ∃ x, xs[i]? = some x := ⟨_, List.getElem?_eq_getElem hlt⟩
      have hdrop : xs.drop i = x :: xs.drop (i + 1) := by
        rw [List.drop_eq_getElem_cons hlt]
        have := List.getElem?_eq_getElem hlt
        rw [hxi] at this
        rw [← Option.some.inj this]
      obtain ⟨Gy, hGy, eH', ry⟩ := hJ.yld i x Fc Hc v H' hF1 sc.sF hxi y
      subst eH'
      obtain ⟨s3, f3⟩ := sc.grow hGy
      refine hw v σ _ _ ?_
      refine hg.rd _ _ _ gc _ x v _ (StOk.blk.mpr (s3.wipe vs)) ry fun σ2 s4 hwσ => ?_
      intro s0 H0 Ca cl fp
      rw [hdrop] at hwp
      refine (ht x) _ (fun _ _ _ _ => False) (ok.blk s0 H0 scope cl Ca fp) takes0 _ _ gc σ2 s4 _ ((mt x).mono (fun b hb F5 H5 g5 f5 s5 => ?_) (fun e h => h.elim) hwp)
      have back : ∀ {F6 H6 : Hp} {g6 : Nat → Hp}, Fr (uni Fc Gy) (uni Hc Gy) (dU gc) F6 H6 (dU g6) → StOk (C.blk scope) F6 H6 (up (wipeG Γ vs) x) σ2 g6 → StOk C F6 H6 Γ σ g6 := fun {F6 H6 g6} f s6 =>
        s3.unwipe (StOk.blk.mp s6) f.sF (hup x) hwσ hn
      cases b with
      | false =>
        rw [if_neg Bool.false_ne_true]
        obtain ⟨k1, k2, k3, _, _, k4⟩ := lc_step (o' := .lst accV) fc hD' hFD hgD hGy f5 (back f5 s5)
        exact ⟨rfl, hlt, F5, g5, accV, acc, back f5 s5, (hF1.trans uni_l).trans f5.sF, k4, k1, k2, k3, frD, hacc.imp fun u y z => (r' y).mono (uni_l.trans f5.sF) z, Nat.le_succ_of_le hlen, hb⟩
      | true =>
        rw [if_pos rfl]
        intro s0 H0 Ca cl fp
        refine he x _ (fun _ _ _ _ => False) (ok.blk s0 H0 scope cl Ca fp) takes0 F5 H5 g5 σ2 s5 _ ((me x).mono (fun y hy F6 H6 g6 w f6 s6 r6 => ?_) (fun e h => h.elim) hb)
        have f56 := f5.trans f6
        obtain ⟨k1, k2, k3, k4, k5, _⟩ := lc_step (o' := .lst (accV ++ [w])) fc hD' hFD hgD hGy f56 (back f56 s6)
        refine ⟨accV, k1, ?_, rfl, hlt, F6, g6, accV ++ [w], acc ++ [y], k4, (hF1.trans uni_l).trans f56.sF, k5, upd_same, k2, k3, frD, (hacc.imp fun u y z => (r' y).mono (uni_l.trans f56.sF) z).snoc r6, ?_, ?_⟩
        · rw [hacc.length]
          exact Nat.lt_of_lt_of_le (Nat.lt_of_le_of_lt hlen hlt) hJ.len
        · rw [List.length_append, List.length_singleton]
          exact Nat.succ_le_succ hlen
        · refine (compM mt me (xs.drop (i + 1))).mono (fun zs hz => ?_) (fun _ h => h) hy
          rw [List.append_assoc, List.singleton_append]
          exact hz
    · have e : i = xs.length := by omega
      subst e
      refine .inl ⟨hJ.stop _ Fc Hc hF1 sc.sF (Nat.le_refl _), ?_⟩
      rw [List.drop_length] at hwp
      have hend := hwp
      refine hend Fc Hc gc (one D (.lst accV)) (.ref D) fc sc (fun b o q => ?_) (fun b => ?_) (fun j b => ?_) (fun b q => ?_) ⟨D, accV, rfl, frD, rfl, by rw [List.append_nil]; exact hacc⟩
      · by_cases z : b = D
        · subst z; rw [one_same] at q; rw [hD']; exact q
        · rw [one_ne z] at q; cases q
      · by_cases z : b = D
        · subst z; exact .inl hFD
        · exact .inr (one_ne z)
      · by_cases z : b = D
        · subst z; exact .inl (hgD j)
        · exact .inr (one_ne z)
      · by_cases z : b = D
        · subst z; exact frD
        · exact absurd (one_ne z) q
/-- what a comprehension wants -/
structure LcOk (C : Cc) (Γ : List Slot) (tg : Expr) (scope : Scope) (own : List (Str × Nat)) {α : Type} (r : α → Rp) (t : TG) (up : List Slot → α → List Slot) : Prop where
  blk : BlkOk C.N C.sc scope own
  g : EvG (C.blk scope) tg r t up
  up : ∀ x i, i ∉ own.map (·.2) → (up (wipeG Γ (own.map (·.2))) x)[i]? = Γ[i]?
  no : ∀ v ∈ own.map (·.2), ∀ O, Γ[v]? ≠ some (.own O)
  w : ∀ v σ H (Q : St → Hp → Prop), t v (L2.wipe σ (own.map (·.2))) H (fun σ2 H2 => L2.wipe σ2 (own.map (·.2)) = L2.wipe σ (own.map (·.2)) → Q σ2 H2) → t v (L2.wipe σ (own.map (·.2))) H (fun σ2 H2 => L2.wipe σ2 (own.map (·.2)) = L2.wipe σ (own.map (·.2)) ∧ Q σ2 H2)
theorem EvO.comp {tg iter elt : Expr} {ifs : List Expr} {scope : Scope} {pos : Pos} {own : List (Str × Nat)} {r : α → Rp} {r' : β → Rp} {m : W (List α)} {mt : α → W Bool} {me : α → W β} {t : TG} {up : List Slot → α → List Slot} (hL : LcOk C Γ tg scope own r t up) (hi : EvI C Γ tg iter r m)
    (ht : ∀ x, EvTs (C.blk scope) (up (wipeG Γ (own.map (·.2))) x) ifs (mt x)) (he : ∀ x, Ev (C.blk scope) (up (wipeG Γ (own.map (·.2))) x) elt r' (me x)) (hs : ∀ (env : Env) x, foldedSetIterable iter env x = pure x := by intro _ _; rfl) (hcm : C.cm = true := by rfl) :
    EvO C Γ (.ListComp elt [⟨tg, iter, ifs, 0⟩] scope pos) (oL C.fr r') (do let xs ← m; W.noX (compM mt me xs)) :=
  fun X Wx ok tk F H g σ s Q hm => by
    refine WE.of (pe_lc (own := own) (ok.calm.trans hcm) ok.ndX pi_W (by rw [ok.N, ok.sc]; exact hL.blk) (fun s0 H0 Ca cl fp => hL.g.pg _ (ok.blk s0 H0 scope cl Ca fp)) (fun s0 H0 Ca cl fp => ⟨fun pins s σ H Q I h => ?_⟩) (fun s0 H0 Ca cl fp => ⟨fun pins s σ H Q I h => pe_W.run pins s σ H Q I (h s0 H0 Ca cl fp)⟩) (hs X.env))
      (tLc_of hi hL.g hL.up hL.no hL.w ht he ok tk s hm)
    obtain ⟨tt, h1, h2⟩ := h s0 H0 Ca cl fp
    exact h1.run pins s σ H Q I h2
/-- the slots of a single name -/
theorem LcOk.one {x : Str} {p : Pos} {i : Nat} {scope : Scope} {r : α → Rp} (hb : blkC C.N C.sc scope [(x, i)] = true) (hN : C.N[i]? = some x) (hx : Sto (C.blk scope) x) (hn : ∀ O, Γ[i]? ≠ some (.own O)) :
    LcOk C Γ (.Name x p) scope [(x, i)] r (gName i) (fun Γ a => Γ.set i (.val (r a))) where
  blk := blkOk_by hb
  g := EvG.name hN hx
  up := fun a j hj => by
    simp only [List.map_cons, List.map_nil, List.mem_singleton] at hj
    show ((Γ.set i .no).set i (.val (r a)))[j]? = _
    rw [List.getElem?_set_ne (fun q => hj q.symm), List.getElem?_set_ne (fun q => hj q.symm)]
  no := fun v hv O => by
    simp only [List.map_cons, List.map_nil, List.mem_singleton] at hv
    subst hv
    exact hn O
  w := fun v σ H Q h => by
    have e : L2.wipe ((L2.wipe σ [i]).set i (some v)) [i] = L2.wipe σ [i] := by
      show ((σ.set i none).set i (some v)).set i none = σ.set i none
      rw [List.set_set, List.set_set]
    exact ⟨e, h e⟩
theorem LcOk.two {x y : Str} {p1 p2 tp : Pos} {k i j : Nat} {scope : Scope} {r1 : α → Rp} {r2 : β → Rp} (hb : blkC C.N C.sc scope [(x, i), (y, j)] = true) (hN : C.N[i]? = some x) (hM : C.N[j]? = some y) (hx : Sto (C.blk scope) x) (hy : Sto (C.blk scope) y) (hij : i ≠ j)
    (hn : ∀ O, Γ[i]? ≠ some (.own O)) (hn2 : ∀ O, Γ[j]? ≠ some (.own O)) (hcm : C.cm = true := by rfl) :
    LcOk C Γ (.Tuple [.Name x p1, .Name y p2] k tp) scope [(x, i), (y, j)] (rT2 C.K r1 r2) (gTup C.K 2 (gCons (gName i) (gCons (gName j) gNil))) (fun Γ x => (Γ.set i (.val (r1 x.1))).set j (.val (r2 x.2))) where
  blk := blkOk_by hb
  g := EvG.tup2 (C := C.blk scope) hN hM hx hy hcm
  up := fun a l hl => by
    simp only [List.map_cons, List.map_nil, List.mem_cons, List.not_mem_nil, or_false, not_or] at hl
    show ((((Γ.set j .no).set i .no).set i _).set j _)[l]? = _
    rw [List.getElem?_set_ne (fun q => hl.2 q.symm), List.getElem?_set_ne (fun q => hl.1 q.symm), List.getElem?_set_ne (fun q => hl.1 q.symm), List.getElem?_set_ne (fun q => hl.2 q.symm)]
  no := fun v hv O => by
    simp only [List.map_cons, List.map_nil, List.mem_cons, List.not_mem_nil, or_false] at hv
    rcases hv with rfl | rfl
    · exact hn O
    · exact hn2 O
  w := fun v σ H Q h => by
    obtain ⟨a, xs, e, q, l, v1, r, e1, v2, r2, e2, e3, h⟩ := h
    have e : L2.wipe (((L2.wipe σ [i, j]).set i (some v1)).set j (some v2)) [i, j] = L2.wipe σ [i, j] := by
      apply List.ext_getElem?
      intro n
      simp only [List.map_cons, List.map_nil, L2.wipe, List.getElem?_set, List.length_set]
      by_cases h1 : i = n
      · simp only [if_pos h1]
      · by_cases h2 : j = n
        · simp only [if_neg h1, if_pos h2]
        · simp only [if_neg h1, if_neg h2]
    refine ⟨a, xs, by assumption, q, l, v1, r, e1, v2, r2, e2, e3, e, h e⟩
theorem LcOk.three {γ : Type} {x y z : Str} {p1 p2 p3 tp : Pos} {k i j l : Nat} {scope : Scope} {r1 : α → Rp} {r2 : β → Rp} {r3 : γ → Rp} (hb : blkC C.N C.sc scope [(x, i), (y, j), (z, l)] = true) (hN : C.N[i]? = some x) (hM : C.N[j]? = some y) (hL : C.N[l]? = some z) (hx : Sto (C.blk scope) x) (hy : Sto (C.blk scope) y) (hz : Sto (C.blk scope) z) (hij : i ≠ j) (hil : i ≠ l) (hjl : j ≠ l)
    (hn : ∀ O, Γ[i]? ≠ some (.own O)) (hn2 : ∀ O, Γ[j]? ≠ some (.own O)) (hn3 : ∀ O, Γ[l]? ≠ some (.own O)) (hcm : C.cm = true := by rfl) :
    LcOk C Γ (.Tuple [.Name x p1, .Name y p2, .Name z p3] k tp) scope [(x, i), (y, j), (z, l)] (rT3 C.K r1 r2 r3) (gTup C.K 3 (gCons (gName i) (gCons (gName j) (gCons (gName l) gNil)))) (fun Γ x => ((Γ.set i (.val (r1 x.1))).set j (.val (r2 x.2.1))).set l (.val (r3 x.2.2))) where
  blk := blkOk_by hb
  g := EvG.tup3 (C := C.blk scope) hN hM hL hx hy hz hcm
  up := fun a n hl => by
    simp only [List.map_cons, List.map_nil, List.mem_cons, List.not_mem_nil, or_false, not_or] at hl
    show ((((((Γ.set l .no).set j .no).set i .no).set i _).set j _).set l _)[n]? = _
    rw [List.getElem?_set_ne (fun q => hl.2.2 q.symm), List.getElem?_set_ne (fun q => hl.2.1 q.symm), List.getElem?_set_ne (fun q => hl.1 q.symm), List.getElem?_set_ne (fun q => hl.1 q.symm), List.getElem?_set_ne (fun q => hl.2.1 q.symm), List.getElem?_set_ne (fun q => hl.2.2 q.symm)]
  no := fun v hv O => by
    simp only [List.map_cons, List.map_nil, List.mem_cons, List.not_mem_nil, or_false] at hv
    rcases hv with rfl | rfl | rfl
    · exact hn O
    · exact hn2 O
    · exact hn3 O
  w := fun v σ H Q h => by
    obtain ⟨a, xs, e, q, ln, v1, r, e1, v2, r2, e2, v3, r3, e3, e4, h⟩ := h
    have e5 : L2.wipe ((((L2.wipe σ [i, j, l]).set i (some v1)).set j (some v2)).set l (some v3)) [i, j, l] = L2.wipe σ [i, j, l] := by
      apply List.ext_getElem?
      intro n
      simp only [List.map_cons, List.map_nil, L2.wipe, List.getElem?_set, List.length_set]
      by_cases h1 : i = n
      · simp only [if_pos h1]
      · by_cases h2 : j = n
        · simp only [if_neg h1, if_pos h2]
        · by_cases h3 : l = n
          · simp only [if_neg h1, if_neg h2, if_pos h3]
          · simp only [if_neg h1, if_neg h2, if_neg h3]
    exact ⟨a, xs, e, q, ln, v1, r, e1, v2, r2, e2, v3, r3, e3, e4, e5, h e5⟩
end
end Y

/-! Y7: statements, loops -/
namespace Y
open PySem PySem.Spec L2
inductive Out where
  /-- falls through, with these slots; .. to a loop's next turn (continue too); continue; break -/
  | nx (Γ : List Slot) | lp (Γ : List Slot) | ct (Γ : List Slot) | bk (Γ : List Slot)
  /-- returns a value; returns, own parameters as said -/
  | rt (R : Rp) | rtG (R : Rp) (Γ : List Slot)
  /-- falls off the end -/
  | ft
  | any
def OutOk (C : Cc) (D : Ends) (F H : Hp) (U : Addr → Prop) : Out → Prop
  | .nx Γ => ∀ F' H' g' σ', Fr F H U F' H' (dU g') → StOk C F' H' Γ σ' g' → D.nx σ' H'
  | .lp Γ => (∀ F' H' g' σ', Fr F H U F' H' (dU g') → StOk C F' H' Γ σ' g' → D.nx σ' H') ∧ ∀ F' H' g' σ', Fr F H U F' H' (dU g') → StOk C F' H' Γ σ' g' → D.ct σ' H'
  | .ct Γ => ∀ F' H' g' σ', Fr F H U F' H' (dU g') → StOk C F' H' Γ σ' g' → D.ct σ' H'
  | .bk Γ => ∀ F' H' g' σ', Fr F H U F' H' (dU g') → StOk C F' H' Γ σ' g' → D.bk σ' H'
  | .rt R => ∀ F' H' g' v, Fr F H U F' H' (dU g') → Same F' H' → R.p F' v → D.rt v H'
  | .rtG R Γ => ∀ F' H' g' σ' v, Fr F H U F' H' (dU g') → StOk C F' H' Γ σ' g' → R.p F' v → D.rt v H'
  | .ft => ∀ F' H' g' σ', Fr F H U F' H' (dU g') → Same F' H' → D.nx σ' H'
  | .any => True
theorem OutOk.later {C : Cc} {D : Ends} {F H F' H' : Hp} {U U' : Addr → Prop} (f : Fr F H U F' H' U') {o : Out} (h : OutOk C D F H U o) : OutOk C D F' H' U' o := by
  cases o with
  | nx Γ => exact fun F2 H2 g2 σ2 f2 s => h F2 H2 g2 σ2 (f.trans f2) s
  | lp Γ => exact ⟨fun F2 H2 g2 σ2 f2 s => h.1 F2 H2 g2 σ2 (f.trans f2) s, fun F2 H2 g2 σ2 f2 s => h.2 F2 H2 g2 σ2 (f.trans f2) s⟩
  | ct Γ => exact fun F2 H2 g2 σ2 f2 s => h F2 H2 g2 σ2 (f.trans f2) s
  | bk Γ => exact fun F2 H2 g2 σ2 f2 s => h F2 H2 g2 σ2 (f.trans f2) s
  | rt R => exact fun F2 H2 g2 v f2 s r => h F2 H2 g2 v (f.trans f2) s r
  | rtG R Γ => exact fun F2 H2 g2 σ2 v f2 s r => h F2 H2 g2 σ2 v (f.trans f2) s r
  | ft => exact fun F2 H2 g2 σ2 f2 s => h F2 H2 g2 σ2 (f.trans f2) s
  | any => trivial
/-- what is wanted of an exception of a statement -/
def XEndS (C : Cc) (F H : Hp) (U : Addr → Prop) (Wx : WX) (e : Exn) : Prop :=
  ∀ F' H' g' σ' cls d, Fr F H U F' H' (dU g') → Same F' H' → XOk C.toMc e H H' (dU g') cls d → Wx cls d σ' H'
theorem XEndS.later {C : Cc} {F H F' H' : Hp} {U U' : Addr → Prop} {Wx : WX} {e : Exn} (f : Fr F H U F' H' U') (h : XEndS C F H U Wx e) : XEndS C F' H' U' Wx e :=
  fun F2 H2 g2 σ2 cls d f2 s x => h F2 H2 g2 σ2 cls d (f.trans f2) s (x.later f)
theorem XEndS.ex {C : Cc} {F H : Hp} {g : Nat → Hp} {Γ : List Slot} {σ : St} {Wx : WX} {e : Exn} (h : XEndS C F H (dU g) Wx e) : XEnd C F H (dU g) Γ σ Wx e :=
  fun F2 H2 g2 cls d f s x => h F2 H2 g2 σ cls d f s.sF x
structure Cc.OkS (C : Cc) (X : Cx) : Prop extends C.Ok X where
  po : PassesOwn (model X.prog X.w) X.A X.env X.xe
  stk : X.stack = X.env :: X.outer
  frm : X.env.frame = some X.env.locals
/-- a block -/
def Ex (C : Cc) (Γ : List Slot) (sts : List Stmt) {ω : Type} (J : ω → Out) (m : W ω) : Prop :=
  ∀ (X : Cx) (Wx : WX), C.OkS X → Takes X Wx → ∀ (F H : Hp) (g : Nat → Hp) (σ : St), StOk C F H Γ σ g → ∀ D : Ends,
    m.wp (fun o => OutOk C D F H (dU g) (J o)) (XEndS C F H (dU g) Wx) → WS X sts D σ H
/-- weaker slots, one by one -/
inductive Le1 : Slot → Slot → Prop
  | no {S} : Le1 S .no
  | rf {S} : Le1 S S
  | sb {R R' : Rp} (h : ∀ F v, R.p F v → R'.p F v) : Le1 (.val R) (.val R')
theorem Sub.of {Γ Γ' : List Slot} (h : All2 Le1 Γ Γ') : Sub Γ Γ' := ⟨h.length, fun i S' e => by
  obtain ⟨S, e1, l⟩ := h.get e
  cases l with
  | no => exact .inl rfl
  | rf => exact .inr (.inl e1)
  | sb hh => exact .inr (.inr ⟨_, _, rfl, e1, hh⟩)⟩
section
variable {C : Cc} {Γ Γ' : List Slot} {α β γ ω ω' : Type} {J : ω → Out} {e e1 e2 : Expr} {pos p : Pos} {rest : List Stmt}

/-! ### ends -/
theorem Ex.nil {o : ω} (hJ : J o = .nx Γ') (hs : All2 Le1 Γ Γ') : Ex C Γ [] J (pure o) := fun X Wx ok tk F H g σ s D hm => by
  replace hm : OutOk C D F H (dU g) (J o) := hm
  rw [hJ] at hm
  exact WS.of pss_nil (hm F H g σ Fr.refl (s.weak (Sub.of hs)))
theorem Ex.nilLp {o : ω} (hJ : J o = .lp Γ') (hs : All2 Le1 Γ Γ') : Ex C Γ [] J (pure o) := fun X Wx ok tk F H g σ s D hm => by
  replace hm : OutOk C D F H (dU g) (J o) := hm
  rw [hJ] at hm
  exact WS.of pss_nil (hm.1 F H g σ Fr.refl (s.weak (Sub.of hs)))
/-- the first statement, then the others -/
theorem Ex.cons {st : Stmt} {m : W ω} (h : ∀ (X : Cx) (Wx : WX), C.OkS X → Takes X Wx → ∀ (F H : Hp) (g : Nat → Hp) (σ : St), StOk C F H Γ σ g → ∀ D : Ends,
    m.wp (fun o => OutOk C D F H (dU g) (J o)) (XEndS C F H (dU g) Wx) → W1 X st { D with nx := WS X rest D } σ H) : Ex C Γ (st :: rest) J m :=
  fun X Wx ok tk F H g σ s D hm => WS.of (pss_cons (ps_W (st := st)) (pss_W (st := rest))) (h X Wx ok tk F H g σ s D hm)
theorem Ex.ret {ρ : α → Rp} {m : W α} (f : α → ω) (hJ : ∀ a, J (f a) = .rt (ρ a)) (h : Ev C Γ e ρ m) : Ex C Γ (.Return (some e) pos :: rest) J (do let a ← m; pure (f a)) :=
  Ex.cons fun X Wx ok tk F H g σ s D hm => W1.of (ps_ret (pe_W (e := e))) (h X Wx ok.toOk tk F H g σ s _ (m.mono (fun a ha F1 H1 g1 v f1 s1 r1 => by
    replace ha : OutOk C D F H (dU g) (J (f a)) := ha
    rw [hJ] at ha
    exact ha F1 H1 g1 v f1 s1.sF r1) (fun e he => he.ex) hm))
theorem Ex.retG {ρ : α → Rp} {m : W α} (f : α → ω) (hJ : ∀ a, J (f a) = .rtG (ρ a) Γ') (hs : All2 Le1 Γ Γ') (h : Ev C Γ e ρ m) : Ex C Γ (.Return (some e) pos :: rest) J (do let a ← m; pure (f a)) :=
  Ex.cons fun X Wx ok tk F H g σ s D hm => W1.of (ps_ret (pe_W (e := e))) (h X Wx ok.toOk tk F H g σ s _ (m.mono (fun a ha F1 H1 g1 v f1 s1 r1 => by
    replace ha : OutOk C D F H (dU g) (J (f a)) := ha
    rw [hJ] at ha
    exact ha F1 H1 g1 σ v f1 (s1.weak (Sub.of hs)) r1) (fun e he => he.ex) hm))
theorem Ex.cont {o : ω} (hJ : J o = .ct Γ') (hs : All2 Le1 Γ Γ') : Ex C Γ (.Continue pos :: rest) J (pure o) :=
  Ex.cons fun X Wx ok tk F H g σ s D hm => W1.of ps_continue (by
    replace hm : OutOk C D F H (dU g) (J o) := hm
    rw [hJ] at hm
    exact hm F H g σ Fr.refl (s.weak (Sub.of hs)))
theorem Ex.brk {o : ω} (hJ : J o = .bk Γ') (hs : All2 Le1 Γ Γ') : Ex C Γ (.Break pos :: rest) J (pure o) :=
  Ex.cons fun X Wx ok tk F H g σ s D hm => W1.of ps_break (by
    replace hm : OutOk C D F H (dU g) (J o) := hm
    rw [hJ] at hm
    exact hm F H g σ Fr.refl (s.weak (Sub.of hs)))
/-! ### stores -/
theorem Ex.later {m : W ω} {X : Cx} {Wx : WX} {D : Ends} {F H F1 H1 : Hp} {g g1 : Nat → Hp} {σ1 : St} {Γ1 : List Slot} (h : Ex C Γ1 rest J m) (ok : C.OkS X) (tk : Takes X Wx) (f : Fr F H (dU g) F1 H1 (dU g1)) (s1 : StOk C F1 H1 Γ1 σ1 g1)
    (hm : m.wp (fun o => OutOk C D F H (dU g) (J o)) (XEndS C F H (dU g) Wx)) : WS X rest D σ1 H1 :=
  h X Wx ok tk F1 H1 g1 σ1 s1 D (m.mono (fun _ z => z.later f) (fun _ z => z.later f) hm)
theorem Ex.set {i : Nat} {x : Str} {px : Pos} {ρ : α → Rp} {m : W α} {k : α → W ω} (hN : C.N[i]? = some x) (hx : Sto C x) (h : Ev C Γ e ρ m) (hr : ∀ a, Ex C (Γ.set i (.val (ρ a))) rest J (k a))
    (hs : ∀ X : Cx, C.Ok X → swapsWith e (some (.Name x px)) pos.line X.env = pure false := by intro _ _; rfl) : Ex C Γ (.Assign [.Name x px] e pos :: rest) J (do let a ← m; k a) :=
  Ex.cons fun X Wx ok tk F H g σ s D hm => W1.of (ps_set ok.toOk.ndX (by rw [ok.N]; exact hN) (hx.loc ok.toOk) (pe_W (e := e)) (hs X ok.toOk) (hx.fn ok.toOk))
    (h X Wx ok.toOk tk F H g σ s _ (m.mono (fun a ha F1 H1 g1 v f1 s1 r1 => (hr a).later ok tk f1 (s1.set_val r1) ha) (fun e he => he.ex) hm))
theorem Ex.setO {i : Nat} {x : Str} {px : Pos} {O : α → Op} {m : W α} {k : α → W ω} (hN : C.N[i]? = some x) (hx : Sto C x) (h : EvO C Γ e O m) (hr : ∀ a, Ex C (Γ.set i (.own (O a))) rest J (k a))
    (hs : ∀ X : Cx, C.Ok X → swapsWith e (some (.Name x px)) pos.line X.env = pure false := by intro _ _; rfl) : Ex C Γ (.Assign [.Name x px] e pos :: rest) J (do let a ← m; k a) :=
  Ex.cons fun X Wx ok tk F H g σ s D hm => W1.of (ps_set ok.toOk.ndX (by rw [ok.N]; exact hN) (hx.loc ok.toOk) (pe_W (e := e)) (hs X ok.toOk) (hx.fn ok.toOk))
    (h X Wx ok.toOk tk F H g σ s _ (m.mono (fun a ha F1 H1 g1 G v f1 s1 sG dF dG nG r1 => (hr a).later ok tk (f1.less fun b ⟨j, q⟩ => by
      unfold setG at q
      split at q
      · exact .inr q
      · exact .inl ⟨j, q⟩) (s1.set_own r1 sG dF fun j _ => dG j) ha) (fun e he => he.ex) hm))
/-- name = [..], the name a local: as a value, as an own list -/
theorem lcSet {i : Nat} {y : Str} {py : Pos} {tg iter elt : Expr} {ifs : List Expr} {scope : Scope} {own : List (Str × Nat)} {r : α → Rp} {r' : β → Rp} {t : TG} {up : List Slot → α → List Slot} {m : W (List α)} {mt : α → W Bool} {me : α → W β} {k : List β → W ω}
    {S : List β → Slot} (hS : ∀ a F H g σ G v, StOk C F H Γ σ g → Same G H → Dis F G → (∀ j, Dis (g j) G) → (oL C.fr r' a).p F G v → ∃ F' g', StOk C F' H (Γ.set i (S a)) (σ.set i (some v)) g' ∧ Fr F H (fun b => dU g b ∨ G b ≠ none) F' H (dU g'))
    (hN : C.N[i]? = some y) (hy : C.sc.names.lookup y = some .local) (hL : LcOk C Γ tg scope own r t up) (hi : EvI C Γ tg iter r m)
    (ht : ∀ x, EvTs (C.blk scope) (up (wipeG Γ (own.map (·.2))) x) ifs (mt x)) (he : ∀ x, Ev (C.blk scope) (up (wipeG Γ (own.map (·.2))) x) elt r' (me x)) (hr : ∀ a, Ex C (Γ.set i (S a)) rest J (k a))
    (hsw : ∀ X, C.Ok X → swapsWith (.ListComp elt [⟨tg, iter, ifs, 0⟩] scope p) (some (.Name y py)) pos.line X.env = pure true) (hs : ∀ (env : Env) x, foldedSetIterable iter env x = pure x) (hcm : C.cm = true := by rfl) :
    Ex C Γ (.Assign [.Name y py] (.ListComp elt [⟨tg, iter, ifs, 0⟩] scope p) pos :: rest) J (do let a ← (do let xs ← m; W.noX (compM mt me xs)); k a) :=
  Ex.cons fun X Wx ok tk F H g σ s D hm => by
    refine W1.of (ps_setLc (i := i) (own := own) (ok.calm.trans hcm) ok.toOk.ndX (by rw [ok.N]; exact hN) (by rw [ok.sc]; exact hy) (hsw X ok.toOk) pi_W (by rw [ok.N, ok.sc]; exact hL.blk) (fun s0 H0 Ca cl fp => hL.g.pg _ (ok.toOk.blk s0 H0 scope cl Ca fp)) (fun s0 H0 Ca cl fp => ⟨fun pins s σ H Q I h => ?_⟩) (fun s0 H0 Ca cl fp => ⟨fun pins s σ H Q I h => pe_W.run pins s σ H Q I (h s0 H0 Ca cl fp)⟩) (hs X.env))
      (tLc_of hi hL.g hL.up hL.no hL.w ht he ok.toOk tk s ((do let xs ← m; W.noX (compM mt me xs) : W (List β)).mono (fun a ha F1 H1 g1 G v f1 s1 sG dF dG nG r1 => ?_) (fun e he => he.ex) hm))
    · obtain ⟨tt, h1, h2⟩ := h s0 H0 Ca cl fp
      exact h1.run pins s σ H Q I h2
    · obtain ⟨F2, g2, s2, f2⟩ := hS a F1 H1 g1 σ G v s1 sG dF dG r1
      exact (hr a).later ok tk (f1.trans f2) s2 ha
theorem lcOwn {i : Nat} {r' : β → Rp} (a : List β) (F H : Hp) (g : Nat → Hp) (σ : St) (G : Hp) (v : V) (s : StOk C F H Γ σ g) (sG : Same G H) (dF : Dis F G) (dG : ∀ j, Dis (g j) G) (r : (oL C.fr r' a).p F G v) :
    ∃ F' g', StOk C F' H (Γ.set i (.own (oL C.fr r' a))) (σ.set i (some v)) g' ∧ Fr F H (fun b => dU g b ∨ G b ≠ none) F' H (dU g') :=
  ⟨F, setG g i G, s.set_own r sG dF fun j _ => dG j, Fr.refl.less fun b ⟨j, q⟩ => by
    unfold setG at q
    split at q
    · exact .inr q
    · exact .inl ⟨j, q⟩⟩
theorem lcVal {i : Nat} {r' : β → Rp} (a : List β) (F H : Hp) (g : Nat → Hp) (σ : St) (G : Hp) (v : V) (s : StOk C F H Γ σ g) (sG : Same G H) (dF : Dis F G) (dG : ∀ j, Dis (g j) G) (r : (oL C.fr r' a).p F G v) :
    ∃ F' g', StOk C F' H (Γ.set i (.val (rN C.fr r' a))) (σ.set i (some v)) g' ∧ Fr F H (fun b => dU g b ∨ G b ≠ none) F' H (dU g') := by
  have s2 : StOk C (uni F G) H Γ σ g := ⟨s.len, fun i S e => (s.slot i S e).mono uni_l, fun b o e => by
    rcases of_uni e with q | ⟨_, q⟩
    · exact s.sF b o q
    · exact sG b o q, s.sG, fun j b => by
    rcases s.dF j b with q | q
    · rcases dG j b with q2 | q2
      · exact .inr q2
      · exact .inl (uni_none q q2)
    · exact .inr q, s.dG, s.fr⟩
  refine ⟨uni F G, g, s2.set_val (oL_rN dF r), uni_l, fun b q => ?_, fun b o e _ => e, fun b q => q, fun b q => .inl (.inl q)⟩
  cases e : F b with
  | some o => exact .inl (by simp)
  | none =>
    cases e2 : G b with
    | none => exact absurd (uni_none e e2) q
    | some o => exact .inr (.inr (.inr (by simp)))
theorem swLocal {y : Str} {elt : Expr} {gs : List Comprehension} {scope : Scope} {l : Nat} {py : Pos} (hk : C.sc.kind = .function) (hy : C.sc.names.lookup y = some .local) (hl : (py.line == p.line) = true)
    (ha : (scope.names.any fun (n, k) => n == y && (k == .local || k == .cell)) = false) (X : Cx) (ok : C.Ok X) : swapsWith (.ListComp elt gs scope p) (some (.Name y py)) l X.env = pure true :=
  sw_true (by rw [ok.sc]; exact hk) (by rw [ok.sc]; exact hy) hl ha
theorem swCell {y : Str} {elt : Expr} {gs : List Comprehension} {scope : Scope} {l : Nat} {py : Pos} (hy : C.sc.names.lookup y = some .cell) (X : Cx) (ok : C.Ok X) : swapsWith (.ListComp elt gs scope p) (some (.Name y py)) l X.env = pure false := by
  have ky : X.env.kindOf y = some .cell := by show X.env.scope.names.lookup y = _; rw [ok.sc]; exact hy
  unfold swapsWith
  simp only [ky]
  cases (X.env.blockKind == ScopeKind.function) <;> rfl
/-- an own list joins F -/
theorem Ex.freeze {i : Nat} {r : α → Rp} {xs : List α} {sts : List Stmt} {m : W ω} (hΓ : Γ[i]? = some (.own (oL C.fr r xs))) (h : Ex C (Γ.set i (.val (rN C.fr r xs))) sts J m) : Ex C Γ sts J m := fun X Wx ok tk F H g σ s D hm => by
  obtain ⟨v, e, r1⟩ := s.get_own hΓ
  have s1 : StOk C F H Γ σ (setG g i emp) → True := fun _ => trivial
  have sE : StOk C F H (Γ.set i .no) σ (setG g i emp) := ⟨by rw [List.length_set]; exact s.len, fun j S q => by
    by_cases hj : i = j
    · subst hj
      have hl : i < Γ.length := (List.getElem?_eq_some_iff.mp hΓ).1
      rw [List.getElem?_set_self hl] at q
      cases q
      trivial
    · rw [List.getElem?_set_ne hj] at q
      rw [setG_ne (fun z => hj z.symm)]
      exact s.slot j S q, s.sF, fun j => by
    by_cases hj : j = i
    · subst hj; rw [setG_same]; exact fun b o q => by cases q
    · rw [setG_ne hj]; exact s.sG j, fun j => by
    by_cases hj : j = i
    · subst hj; rw [setG_same]; exact Dis.emp
    · rw [setG_ne hj]; exact s.dF j, fun j k hjk => by
    by_cases hj : j = i
    · subst hj; rw [setG_same]; exact Dis.emp.symm
    · rw [setG_ne hj]
      by_cases hk : k = i
      · subst hk; rw [setG_same]; exact Dis.emp
      · rw [setG_ne hk]; exact s.dG j k hjk, s.fr⟩
  obtain ⟨F2, g2, s2, f2⟩ := lcVal (i := i) xs F H (setG g i emp) σ (g i) v sE (s.sG i) (s.dF i) (fun j => by
    by_cases hj : j = i
    · subst hj; rw [setG_same]; exact Dis.emp.symm
    · rw [setG_ne hj]; exact s.dG j i hj) r1
  have eσ : σ.set i (some v) = σ := by
    apply List.ext_getElem?
    intro j
    by_cases hj : i = j
    · subst hj
      rw [List.getElem?_set_self (by rw [← s.len]; exact (List.getElem?_eq_some_iff.mp hΓ).1)]
      exact e.symm
    · rw [List.getElem?_set_ne hj]
  have eΓ : (Γ.set i .no).set i (.val (rN C.fr r xs)) = Γ.set i (.val (rN C.fr r xs)) := List.set_set ..
  rw [eσ, eΓ] at s2
  refine h.later ok tk (⟨f2.sF, fun b q => ?_, fun b o q n => f2.keep b o q fun z => ?_, f2.dom, fun b q => ?_⟩ : Fr F H (dU g) F2 H (dU g2)) s2 hm
  · rcases f2.fF b q with z | z | z | z
    · exact .inl z
    · exact .inr (.inl z)
    · obtain ⟨j, z⟩ := z
      by_cases hj : j = i
      · subst hj; rw [setG_same] at z; exact absurd rfl z
      · rw [setG_ne hj] at z; exact .inr (.inr ⟨j, z⟩)
    · exact .inr (.inr ⟨i, z⟩)
  · rcases z with ⟨j, z⟩ | z
    · by_cases hj : j = i
      · subst hj; rw [setG_same] at z; exact absurd rfl z
      · rw [setG_ne hj] at z; exact n ⟨j, z⟩
    · exact n ⟨i, z⟩
  · rcases f2.gs b q with z | z
    · rcases z with ⟨j, z⟩ | z
      · by_cases hj : j = i
        · subst hj; rw [setG_same] at z; exact absurd rfl z
        · rw [setG_ne hj] at z; exact .inl ⟨j, z⟩
      · exact .inl ⟨i, z⟩
    · exact .inr z
end
end Y

/-! Y8: more statements, loops, calls -/
namespace Y
open PySem PySem.Spec L2
section
variable {C : Cc} {Γ Γ' : List Slot} {α β γ ω ω' : Type} {J : ω → Out} {e e1 e2 : Expr} {pos p : Pos} {rest : List Stmt}
/-- a private heap of one object is written -/
theorem StOk.upd_own {F H : Hp} {σ : St} {g : Nat → Hp} (s : StOk C F H Γ σ g) {i : Nat} {a : Addr} {o o' : HO} {O' : Op} {v : V} (hg : g i = one a o) (hσ : σ[i]? = some (some v)) (hi : i < Γ.length) (r : O'.p F (one a o') v) :
    StOk C F (upd H a o') (Γ.set i (.own O')) σ (setG g i (one a o')) ∧ Fr F H (dU g) F (upd H a o') (dU (setG g i (one a o'))) ∧ H a = some o := by
  have hga : g i a = some o := by rw [hg]; exact one_same
  have hHa : H a = some o := s.sG i a o hga
  have hFa : F a = none := by
    rcases s.dF i a with q | q
    · exact q
    · rw [hga] at q; cases q
  have hgj : ∀ j, j ≠ i → g j a = none := fun j hj => by
    rcases s.dG j i hj a with q | q
    · exact q
    · rw [hga] at q; cases q
  refine ⟨⟨by rw [List.length_set]; exact s.len, fun j S q => ?_, fun b u q => ?_, fun j => ?_, fun j => ?_, fun j k hjk => ?_, fun b q => ?_⟩, ⟨Same.refl _, fun b q => .inl q, fun b u q n => ?_, fun b q => ?_, fun b q => ?_⟩, hHa⟩
  · by_cases hj : i = j
    · subst hj
      rw [List.getElem?_set_self hi] at q
      cases q
      rw [setG_same]
      exact ⟨v, hσ, r⟩
    · rw [List.getElem?_set_ne hj] at q
      rw [setG_ne (fun z => hj z.symm)]
      exact s.slot j S q
  · rw [upd_ne (fun z => by rw [z, hFa] at q; cases q)]; exact s.sF b u q
  · by_cases hj : j = i
    · subst hj
      rw [setG_same]
      intro b u q
      by_cases z : b = a
      · subst z; rw [one_same] at q; rw [upd_same]; exact q
      · rw [one_ne z] at q; cases q
    · rw [setG_ne hj]
      intro b u q
      rw [upd_ne (fun z => by rw [z, hgj j hj] at q; cases q)]
      exact s.sG j b u q
  · by_cases hj : j = i
    · subst hj
      rw [setG_same]
      intro b
      by_cases z : b = a
      · subst z; exact .inl hFa
      · exact .inr (one_ne z)
    · rw [setG_ne hj]; exact s.dF j
  · by_cases hj : j = i
    · subst hj
      rw [setG_same, setG_ne (fun z => hjk z.symm)]
      intro b
      by_cases z : b = a
      · subst z; exact .inr (hgj k (fun z => hjk z.symm))
      · exact .inl (one_ne z)
    · rw [setG_ne hj]
      by_cases hk : k = i
      · subst hk
        rw [setG_same]
        intro b
        by_cases z : b = a
        · subst z; exact .inl (hgj j hj)
        · exact .inr (one_ne z)
      · rw [setG_ne hk]; exact s.dG j k hjk
  · by_cases z : b = a
    · rw [z, upd_same] at q; cases q
    · rw [upd_ne z] at q; exact s.fr b q
  · by_cases z : b = a
    · subst z; exact absurd ⟨i, by rw [hga]; simp⟩ n
    · rw [upd_ne z]; exact q
  · by_cases z : b = a
    · rw [z, upd_same]; simp
    · rw [upd_ne z]; exact q
  · obtain ⟨j, q⟩ := q
    by_cases hj : j = i
    · subst hj
      rw [setG_same] at q
      by_cases z : b = a
      · subst z; exact .inl ⟨j, by rw [hga]; simp⟩
      · exact absurd (one_ne z) q
    · rw [setG_ne hj] at q; exact .inl ⟨j, q⟩
theorem fewArgs1 {X : Cx} (n : NoStar e) (cpos : Pos) : ((backTo cpos (starEach [e] X.env)).all (fun x => !x.1) && (backToKw cpos (keywordEach [] X.env)).all (fun x => x.1.isSome)
      && decide ([e].length + ([] : List Keyword).length + (if ([] : List Keyword).isEmpty then 0 else 1) < 30)) = true := by
  rw [n [] X.env]; rfl
theorem Ex.append {i : Nat} {x : Str} {px apos cpos : Pos} {r : α → Rp} {xs : List α} {m : W α} {k : α → W ω} (hN : C.N[i]? = some x) (hv : Vis C.sc x) (hΓ : Γ[i]? = some (.own (oL C.fr r xs))) (h : Ev C Γ e r m) (n : NoStar e) (hr : ∀ a, Ex C (Γ.set i (.own (oL C.fr r (xs ++ [a])))) rest J (k a))
    (hline : (apos.endLine == cpos.line) = true := by rfl) (hd : (x == ("__debug__" : Str)) = false := by decide) (hcd : (x == ("__classdict__" : Str)) = false := by decide) (hb : ∀ X : Cx, attributeBase (.Name x px) "append" X.env (eval (.Name x px) X.env) = eval (.Name x px) X.env := by intro _; rfl)
    (hs : ∀ X : Cx, swapsWith (.Call (.Attribute (.Name x px) "append" apos) [e] [] cpos) none pos.line X.env = pure false := by intro _; rfl) :
    Ex C Γ (.Expr (.Call (.Attribute (.Name x px) "append" apos) [e] [] cpos) pos :: rest) J (do let a ← m; W.req (xs.length ≤ 1000000) (k a)) :=
  Ex.cons fun X Wx ok tk F H g σ s D hm => by
    refine W1.of (ps_expr (pe_bm PySem.F.plainAttrs_list PySem.F.slot_list_append PySem.F.type_list_append mt_append (pe_var (i := i) (by rw [ok.N]; exact hN) (by rw [ok.sc]; exact hv) hd hcd) (pa_cons (pe_W (e := e)) pa_nil (n [] X.env)) (hb X) (fewArgs1 n cpos) hline (n [] X.env) rfl) (hs X)) ?_
    obtain ⟨v, eσ, a, vs, ev, na, eg, t⟩ := s.get_own hΓ
    subst ev
    have hHa : H a = some (.lst vs) := s.sG i a _ (by rw [eg]; exact one_same)
    refine ⟨.ref a, eσ, .inl ⟨rfl, _, SqL.of hHa⟩, ?_⟩
    refine h X Wx ok.toOk tk F H g σ s _ (m.mono (fun y hy F1 H1 g1 w f1 s1 r1 => ?_) (fun e he => he.ex) hm)
    obtain ⟨v', eσ', a', vs', ev', na', eg', t'⟩ := s1.get_own hΓ
    rw [eσ] at eσ'
    cases eσ'
    cases ev'
    obtain ⟨s2, f2, hH1⟩ := s1.upd_own (O' := oL C.fr r (xs ++ [y])) (o' := .lst (vs' ++ [w])) eg' eσ (List.getElem?_eq_some_iff.mp hΓ).1 ⟨a, vs' ++ [w], rfl, na', rfl, t'.snoc r1⟩
    refine ⟨a, vs', w, rfl, rfl, hH1, ?_, ?_⟩
    · rw [t'.length, PySem.sizeLine_eq]
      have := hy.1
      omega
    · exact (hr y).later ok tk (f1.trans f2) s2 hy.2
/-- xs[i] = e -/
def setI (xs : List α) (i : Int) (a : α) : W (List α) := match ixN xs.length i with | some j => pure (xs.set j a) | none => W.bad
theorem Ex.setIx {i : Nat} {x : Str} {px spos : Pos} {r : α → Rp} {xs : List α} {m : W α} {mi : W Int} {ix : Expr} {k : List α → W ω} (hN : C.N[i]? = some x) (hv : Vis C.sc x) (hΓ : Γ[i]? = some (.own (oL C.fr r xs))) (h : Ev C Γ e r m) (hi : Ev C Γ ix rI mi) (hr : ∀ ys, Ex C (Γ.set i (.own (oL C.fr r ys))) rest J (k ys))
    (hd : (x == ("__debug__" : Str)) = false := by decide) (hcd : (x == ("__classdict__" : Str)) = false := by decide) (hs : ∀ X : Cx, swapsWithSole [.Subscript (.Name x px) ix spos] e pos.line X.env = pure false := by intro _; rfl)
    (hw : ∀ X : Cx, swappedStores [.Subscript (.Name x px) ix spos] e X.env = pure none := by intro _; rfl) (h1 : ∀ X : Cx, (assignEach [.Subscript (.Name x px) ix spos] X.env).map (·.2) = [assign (.Subscript (.Name x px) ix spos) X.env] := by intro _; rfl)
    (hst : ∀ (X : Cx) (t : TSet), PSet X t → PG X (.Subscript (.Name x px) ix spos) (gSub (tVar i) (WE X ix) t) → True := by intros; trivial) (hpg : ∀ X : Cx, PE X (.Name x px) (tVar i) → PG X (.Subscript (.Name x px) ix spos) (gSub (tVar i) (WE X ix) rSetL)) :
    Ex C Γ (.Assign [.Subscript (.Name x px) ix spos] e pos :: rest) J (do let a ← m; let j ← mi; let ys ← setI xs j a; k ys) :=
  Ex.cons fun X Wx ok tk F H g σ s D hm => by
    refine W1.of (ps_asg (pe_W (e := e)) (hpg X (pe_var (i := i) (by rw [ok.N]; exact hN) (by rw [ok.sc]; exact hv) hd hcd)) (hs X) (hw X) (h1 X)) ?_
    refine h X Wx ok.toOk tk F H g σ s _ (m.mono (fun y hy F1 H1 g1 w f1 s1 r1 => ?_) (fun e he => he.ex) hm)
    obtain ⟨v, eσ, a, vs, ev, na, eg, t⟩ := s1.get_own hΓ
    subst ev
    refine ⟨.ref a, eσ, ?_⟩
    refine hi X Wx ok.toOk tk F1 H1 g1 σ s1 _ (mi.mono (fun j hj F2 H2 g2 u f2 s2 r2 => ?_) (fun e he => (he.later f1).ex) hy)
    obtain ⟨v', eσ', a', vs', ev', na', eg', t'⟩ := s2.get_own hΓ
    rw [eσ] at eσ'
    cases eσ'
    cases ev'
    replace hj : (W.bind (setI xs j y) k).wp _ _ := hj
    unfold setI at hj
    cases q : ixN xs.length j with
    | none => rw [q] at hj; exact hj.elim
    | some n =>
      rw [q] at hj
      obtain ⟨s3, f3, hH2⟩ := s2.upd_own (O' := oL C.fr r (xs.set n y)) (o' := .lst (vs'.set n w)) eg' eσ (List.getElem?_eq_some_iff.mp hΓ).1 ⟨a, vs'.set n w, rfl, na', rfl, t'.set ((r y).mono f2.sF r1) n⟩
      exact ⟨a, vs', j, n, rfl, r2, hH2, by rw [t'.length]; exact q, (hr _).later ok tk (f1.trans (f2.trans f3)) s3 hj⟩
/-- a, b = x, y -/
theorem Ex.par {i j : Nat} {x y : Str} {a b : Expr} {px py pt pt2 : Pos} {kt k2 : Nat} {ρa : α → Rp} {ρb : β → Rp} {ma : W α} {mb : W β} {k : α → β → W ω} (hN : C.N[i]? = some x) (hM : C.N[j]? = some y) (hij : i ≠ j) (hx : C.sc.names.lookup x = some .local) (hy : C.sc.names.lookup y = some .local)
    (ha : Ev C Γ a ρa ma) (hb : Ev C Γ b ρb mb) (n1 : NoStar a) (n2 : NoStar b) (hw : ∀ env : Env, env.scope = C.sc → swappedStores [.Tuple [.Name x px, .Name y py] kt pt] (.Tuple [a, b] k2 pt2) env = pure (some [x, y]))
    (hr : ∀ u v, Ex C ((Γ.set i (.val (ρa u))).set j (.val (ρb v))) rest J (k u v)) (hs : ∀ X : Cx, swapsWithSole [.Tuple [.Name x px, .Name y py] kt pt] (.Tuple [a, b] k2 pt2) pos.line X.env = pure false := by intro _; rfl) (hcm : C.cm = true := by rfl) :
    Ex C Γ (.Assign [.Tuple [.Name x px, .Name y py] kt pt] (.Tuple [a, b] k2 pt2) pos :: rest) J (do let u ← ma; let v ← mb; k u v) :=
  Ex.cons fun X Wx ok tk F H g σ s D hm => by
    refine W1.of (ps_par (i := i) (j := j) (ok.calm.trans hcm) ok.toOk.ndX (by rw [ok.N]; exact hN) (by rw [ok.N]; exact hM) hij (by rw [ok.sc]; exact hx) (by rw [ok.sc]; exact hy) (pa_cons (pe_W (e := a)) (pa_cons (pe_W (e := b)) pa_nil (n2 [] X.env)) (n1 [b] X.env)) (hw X.env ok.sc) (hs X)) ?_
    refine ha X Wx ok.toOk tk F H g σ s _ (ma.mono (fun u hu F1 H1 g1 v f1 s1 r1 => ?_) (fun e he => he.ex) hm)
    refine hb X Wx ok.toOk tk F1 H1 g1 σ s1 _ (mb.mono (fun w hw F2 H2 g2 v2 f2 s2 r2 => ?_) (fun e he => (he.later f1).ex) hu)
    exact ⟨v, v2, rfl, (hr u w).later ok tk (f1.trans f2) ((s2.set_val ((ρa u).mono f2.sF r1)).set_val r2) hw⟩
/-! ### ifs -/
def exOf : Out → Out
  | .lp Γ => .ct Γ
  | .nx _ => .any
  | .ft => .any
  | o => o
theorem OutOk.exOf {D : Ends} {F H : Hp} {U : Addr → Prop} {o : Out} {N : St → Hp → Prop} (h : OutOk C D F H U o) : OutOk C { D with nx := N } F H U (Y.exOf o) := by
  cases o with
  | nx Γ => trivial
  | lp Γ => exact h.2
  | ct Γ => exact h
  | bk Γ => exact h
  | rt R => exact h
  | rtG R Γ => exact h
  | ft => trivial
  | any => trivial
theorem W1.ifs {c : Expr} {a b : List Stmt} {X : Cx} {D : Ends} {σ : St} {H : Hp} (h : WT X c σ H fun t H1 => if t = true then WS X a D σ H1 else WS X b D σ H1) : W1 X (.If c a b pos) D σ H := W1.of (ps_if (pt_W (e := c)) (pss_W (st := a)) (pss_W (st := b))) h
/-- if c: A, A never falls through -/
theorem Ex.ifx {c : Expr} {a : List Stmt} {mc : W Bool} {m1 m2 : W ω} (hc : EvT C Γ c mc) (h1 : Ex C Γ a (fun o => exOf (J o)) m1) (h2 : Ex C Γ rest J m2) : Ex C Γ (.If c a [] pos :: rest) J (do let b ← mc; if b = true then m1 else m2) :=
  Ex.cons fun X Wx ok tk F H g σ s D hm => by
    refine W1.ifs (hc X Wx ok.toOk tk F H g σ s _ (mc.mono (fun b hb F1 H1 g1 f1 s1 => ?_) (fun e he => he.ex) hm))
    cases b with
    | true =>
      rw [if_pos rfl]
      exact h1 X Wx ok tk F1 H1 g1 σ s1 _ (m1.mono (fun o z => (z.later f1).exOf) (fun _ z => z.later f1) hb)
    | false =>
      rw [if_neg Bool.false_ne_true]
      refine WS.of pss_nil ?_
      exact h2.later ok tk f1 s1 hb
/-- one statement -/
def Ex1 (C : Cc) (Γ : List Slot) (st : Stmt) {ω : Type} (J : ω → Out) (m : W ω) : Prop :=
  ∀ (X : Cx) (Wx : WX), C.OkS X → Takes X Wx → ∀ (F H : Hp) (g : Nat → Hp) (σ : St), StOk C F H Γ σ g → ∀ D : Ends,
    m.wp (fun o => OutOk C D F H (dU g) (J o)) (XEndS C F H (dU g) Wx) → W1 X st D σ H
theorem Ex1.ite {c : Expr} {a b : List Stmt} {mc : W Bool} {m1 m2 : W ω} (hc : EvT C Γ c mc) (h1 : Ex C Γ a J m1) (h2 : Ex C Γ b J m2) : Ex1 C Γ (.If c a b pos) J (do let b ← mc; if b = true then m1 else m2) :=
  fun X Wx ok tk F H g σ s D hm => by
    refine W1.ifs (hc X Wx ok.toOk tk F H g σ s _ (mc.mono (fun b hb F1 H1 g1 f1 s1 => ?_) (fun e he => he.ex) hm))
    cases b with
    | true =>
      rw [if_pos rfl]
      exact h1.later ok tk f1 s1 hb
    | false =>
      rw [if_neg Bool.false_ne_true]
      exact h2.later ok tk f1 s1 hb
/-- what follows an outcome -/
def SeqTo (C : Cc) (rest : List Stmt) (J : ω → Out) (m : W ω) : Out → Prop
  | .nx Γ => Ex C Γ rest J m
  | .rt R => ∃ o, m = pure o ∧ J o = .rt R
  | .rtG R Γ => ∃ o, m = pure o ∧ J o = .rtG R Γ
  | .bk Γ => ∃ o, m = pure o ∧ J o = .bk Γ
  | .ct Γ => ∃ o, m = pure o ∧ J o = .ct Γ
  | _ => False
theorem SeqTo.ok {m : W ω} {X : Cx} {Wx : WX} {D : Ends} {F H : Hp} {g : Nat → Hp} (ok : C.OkS X) (tk : Takes X Wx) {o1 : Out} (q : SeqTo C rest J m o1) (hm : m.wp (fun o => OutOk C D F H (dU g) (J o)) (XEndS C F H (dU g) Wx)) :
    OutOk C { D with nx := WS X rest D } F H (dU g) o1 := by
  cases o1 with
  | nx Γ1 =>
    intro F1 H1 g1 σ1 f1 s1
    exact Ex.later q ok tk f1 s1 hm
  | rt R =>
    obtain ⟨o', e1, e2⟩ := q
    rw [e1] at hm
    replace hm : OutOk C D F H (dU g) (J o') := hm
    rw [e2] at hm
    exact hm
  | rtG R Γ1 =>
    obtain ⟨o', e1, e2⟩ := q
    rw [e1] at hm
    replace hm : OutOk C D F H (dU g) (J o') := hm
    rw [e2] at hm
    exact hm
  | bk Γ1 =>
    obtain ⟨o', e1, e2⟩ := q
    rw [e1] at hm
    replace hm : OutOk C D F H (dU g) (J o') := hm
    rw [e2] at hm
    exact hm
  | ct Γ1 =>
    obtain ⟨o', e1, e2⟩ := q
    rw [e1] at hm
    replace hm : OutOk C D F H (dU g) (J o') := hm
    rw [e2] at hm
    exact hm
  | lp Γ1 => exact q.elim
  | ft => exact q.elim
  | any => exact q.elim
/-- a statement, then the others by its outcome -/
theorem Ex.seq {st : Stmt} {J1 : ω' → Out} {m1 : W ω'} {k : ω' → W ω} (h1 : Ex1 C Γ st J1 m1) (h2 : ∀ o, SeqTo C rest J (k o) (J1 o)) : Ex C Γ (st :: rest) J (do let o ← m1; k o) :=
  Ex.cons fun X Wx ok tk F H g σ s D hm => h1 X Wx ok tk F H g σ s _ (m1.mono (fun o ho => (h2 o).ok ok tk ho) (fun _ z => z) hm)

/-! ### loops -/
inductive Fl (S ρ : Type) where
  | go (s : S) | ret (r : ρ) | brk (s : S)
def W.foldR {S ρ α : Type} (f : S → α → W (Fl S ρ)) : S → List α → W (Fl S ρ)
  | s, [] => W.ret (.go s)
  | s, x :: xs => W.bind (f s x) fun o => match o with
    | .go s' => W.foldR f s' xs
    | o => W.ret o
theorem Ex1.forR {S ρ : Type} {tg iter : Expr} {body : List Stmt} {r : α → Rp} {t : TG} {up : List Slot → α → List Slot} {m : W (List α)} {f : S → α → W (Fl S ρ)} (Γs : S → List Slot) (R : ρ → Out) (hR : ∀ x, (∃ R', R x = .rt R') ∨ ∃ R' Γ', R x = .rtG R' Γ') {s0 : S} (hi : EvI C Γ tg iter r m) (hg : EvG C tg r t up) (h0 : All2 Le1 Γ (Γs s0))
    (hb : ∀ s x, Ex C (up (Γs s) x) body (fun o : Fl S ρ => match o with | .go s' => .lp (Γs s') | .ret r => R r | .brk s' => .bk (Γs s')) (f s x))
    (hs : ∀ (env : Env) x, foldedSetIterable iter env x = pure x := by intro _ _; rfl) (hcm : C.cm = true := by rfl) : Ex1 C Γ (.For tg iter body [] pos) (fun o : Fl S ρ => match o with | .go s' => .nx (Γs s') | .ret r => R r | .brk s' => .nx (Γs s')) (do let xs ← m; W.foldR f s0 xs) :=
  fun X Wx ok tk F H g σ s D hm => by
    refine W1.of (ps_for ok.po (ok.calm.trans hcm) (pi_W (tg := tg) (iter := iter)) (hg.pg X ok.toOk) (pss_W (st := body)) (hs X.env)) ?_
    refine hi X Wx ok.toOk tk F H g σ s _ (m.mono (fun xs hx F1 H1 g1 J1 f1 s1 hJ => ?_) (fun e he => he.ex) hm)
    refine ⟨fun i n σ2 H2 => n = xs.length - i ∧ i ≤ xs.length ∧ ∃ st F2 g2, Same F1 F2 ∧ Fr F H (dU g) F2 H2 (dU g2) ∧ StOk C F2 H2 (Γs st) σ2 g2 ∧ (W.foldR f st (xs.drop i)).wp (fun o => OutOk C D F H (dU g) (match o with | .go s' => .nx (Γs s') | .ret r => R r | .brk s' => .nx (Γs s'))) (XEndS C F H (dU g) Wx),
      ⟨xs.length, by simp, Nat.zero_le _, s0, F1, g1, Same.refl _, f1, s1.weak (Sub.of h0), hx⟩, ?_⟩
    rintro i n σ2 H2 ⟨rfl, hi', st, F2, g2, hF, f2, s2, hw⟩
    by_cases hlt : i < xs.length
    · refine .inr ⟨hJ.go i F2 H2 hF s2.sF hlt, _, fun σ' H' h => ⟨xs.length - (i + 1), by omega, h⟩, fun v H' y => ?_⟩
      obtain ⟨x, hxi⟩ : ∃ x, xs[i]? = some x := ⟨_, List.getElem?_eq_getElem hlt⟩
      have hdrop : xs.drop i = x :: xs.drop (i + 1) := by
        rw [List.drop_eq_getElem_cons hlt]
        have := List.getElem?_eq_getElem hlt
        rw [hxi] at this
        rw [← Option.some.inj this]
      obtain ⟨Gy, hGy, eH', ry⟩ := hJ.yld i x F2 H2 v H' hF s2.sF hxi y
      subst eH'
      obtain ⟨s3, f3⟩ := s2.grow hGy
      refine hg.rd _ _ _ g2 σ2 x v _ s3 ry fun σ3 s4 => ?_
      rw [hdrop] at hw
      refine hb st x X Wx ok tk _ _ g2 σ3 s4 _ ((f st x).mono (fun o ho => ?_) (fun e he => he.later (f2.trans f3)) hw)
      cases o with
      | go s' =>
        refine ⟨fun F5 H5 g5 σ5 f5 s5 => ⟨rfl, hlt, s', F5, g5, (hF.trans f3.sF).trans f5.sF, (f2.trans f3).trans f5, s5, ho⟩, fun F5 H5 g5 σ5 f5 s5 => ⟨rfl, hlt, s', F5, g5, (hF.trans f3.sF).trans f5.sF, (f2.trans f3).trans f5, s5, ho⟩⟩
      | ret r =>
        replace ho : OutOk C D F H (dU g) (R r) := ho
        show OutOk C _ _ _ _ (R r)
        rcases hR r with ⟨R', e⟩ | ⟨R', Γ', e⟩
        · rw [e] at ho ⊢
          exact ho.later (o := .rt R') (f2.trans f3)
        · rw [e] at ho ⊢
          exact ho.later (o := .rtG R' Γ') (f2.trans f3)
      | brk s' =>
        replace ho : OutOk C D F H (dU g) (.nx (Γs s')) := ho
        intro F5 H5 g5 σ5 f5 s5
        exact ho F5 H5 g5 σ5 ((f2.trans f3).trans f5) s5
    · have e : i = xs.length := by omega
      subst e
      rw [List.drop_length] at hw
      exact .inl ⟨hJ.stop _ F2 H2 hF s2.sF (Nat.le_refl _), hw F2 H2 g2 σ2 f2 s2⟩
theorem foldR_go {S ρ α : Type} (f : S → α → W S) : ∀ (xs : List α) (s : S), W.foldR (fun s x => W.bind (f s x) fun s' => W.ret (Fl.go s' : Fl S ρ)) s xs = W.bind (W.foldM f s xs) fun s' => W.ret (Fl.go s' : Fl S ρ)
  | [], s => rfl
  | x :: xs, s => by
    show W.bind (W.bind (f s x) fun s' => W.ret (Fl.go s')) _ = W.bind (W.bind (f s x) fun s' => W.foldM f s' xs) _
    have ih := fun s' => foldR_go (ρ := ρ) f xs s'
    show W.bind (f s x) (fun s' => W.foldR _ s' xs) = W.bind (f s x) (fun s' => W.bind (W.foldM f s' xs) _)
    congr 1
    funext s'
    exact ih s'
/-- a loop that is never left -/
theorem Ex1.for {S : Type} {tg iter : Expr} {body : List Stmt} {r : α → Rp} {t : TG} {up : List Slot → α → List Slot} {m : W (List α)} {f : S → α → W S} (Γs : S → List Slot) {s0 : S} (hi : EvI C Γ tg iter r m) (hg : EvG C tg r t up) (h0 : All2 Le1 Γ (Γs s0))
    (hb : ∀ s x, Ex C (up (Γs s) x) body (fun s' => .lp (Γs s')) (f s x)) (hs : ∀ (env : Env) x, foldedSetIterable iter env x = pure x := by intro _ _; rfl) (hcm : C.cm = true := by rfl) : Ex1 C Γ (.For tg iter body [] pos) (fun s' => .nx (Γs s')) (do let xs ← m; W.foldM f s0 xs) :=
  fun X Wx ok tk F H g σ s D hm => by
    refine Ex1.forR (ρ := Empty) Γs (fun r => nomatch r) (fun r => nomatch r) hi hg h0 (f := fun s x => W.bind (f s x) fun s' => W.ret (Fl.go s')) (fun s x => ?_) hs hcm X Wx ok tk F H g σ s D (m.mono (fun xs hx => ?_) (fun _ z => z) hm)
    · intro X Wx ok tk F H g σ s2 D hm
      exact hb s x X Wx ok tk F H g σ s2 D hm
    · show (W.foldR _ s0 xs).wp _ _
      rw [foldR_go]
      exact hx
theorem Ex1.while {S : Type} {c : Expr} {body : List Stmt} {mc : S → W Bool} {f : S → W S} (Γs : S → List Slot) {s0 : S} (h0 : All2 Le1 Γ (Γs s0)) (hc : ∀ s, EvT C (Γs s) c (mc s)) (hb : ∀ s, Ex C (Γs s) body (fun s' => .lp (Γs s')) (f s)) :
    Ex1 C Γ (.While c body [] pos) (fun s' => .nx (Γs s')) (W.whileM mc f s0) :=
  fun X Wx ok tk F H g σ s D hm => by
    refine W1.of (ps_while ok.po (pt_W (e := c)) (pss_W (st := body))) ?_
    obtain ⟨I, μ, hI, hstep⟩ := hm
    refine ⟨fun n σ2 H2 => ∃ st F2 g2, Fr F H (dU g) F2 H2 (dU g2) ∧ StOk C F2 H2 (Γs st) σ2 g2 ∧ I st ∧ n = μ st, ⟨μ s0, s0, F, g, Fr.refl, s.weak (Sub.of h0), hI, rfl⟩, ?_⟩
    rintro n σ2 H2 ⟨st, F2, g2, f2, s2, hI2, rfl⟩
    refine hc st X Wx ok.toOk tk F2 H2 g2 σ2 s2 _ ((mc st).mono (fun b hb' F3 H3 g3 f3 s3 => ?_) (fun e he => (XEndS.later f2 he).ex) (hstep st hI2))
    cases b with
    | false =>
      rw [if_neg Bool.false_ne_true] at hb' ⊢
      exact hb' F3 H3 g3 σ2 (f2.trans f3) s3
    | true =>
      rw [if_pos rfl] at hb' ⊢
      refine ⟨fun σ' H' => ∃ st' F5 g5, Fr F H (dU g) F5 H' (dU g5) ∧ StOk C F5 H' (Γs st') σ' g5 ∧ I st' ∧ μ st' < μ st, fun σ' H' ⟨st', F5, g5, f5, s5, i5, l5⟩ => ⟨μ st', l5, st', F5, g5, f5, s5, i5, rfl⟩, ?_⟩
      refine hb st X Wx ok tk F3 H3 g3 σ2 s3 _ ((f st).mono (fun s' hs' => ⟨fun F5 H5 g5 σ5 f5 s5 => ⟨s', F5, g5, (f2.trans f3).trans f5, s5, hs'.1, hs'.2⟩, fun F5 H5 g5 σ5 f5 s5 => ⟨s', F5, g5, (f2.trans f3).trans f5, s5, hs'.1, hs'.2⟩⟩) (fun e he => he.later (f2.trans f3)) hb')

theorem Ex.bad {C : Cc} {Γ : List Slot} {sts : List Stmt} {ω : Type} {J : ω → Out} : Ex C Γ sts J W.bad := fun X Wx ok tk F H g σ s D hm => hm.elim

/-! ### defs -/
/-- a def's promise: parameters as values; N: any set that has all places that are free at the call -/
def spV (M : Mc) {τ β : Type} (ins : (Addr → Prop) → τ → List Rp) (ρ : (Addr → Prop) → β → Rp) (m : τ → W β) : Sp := fun vs H Q E => ∃ (t : τ) (F : Hp) (N : Addr → Prop), (∀ a, H a = none → N a) ∧ Same F H ∧ All2 (fun v R => R.p F v) vs (ins N t) ∧
  (m t).wp (fun b => ∀ F' H' g' v, Fr F H (fun _ => False) F' H' (dU g') → Same F' H' → (ρ N b).p F' v → Q v H') (fun e => ∀ F' H' g' cls d, Fr F H (fun _ => False) F' H' (dU g') → Same F' H' → XOk M e H H' (dU g') cls d → E cls d H')
/-- a def of the module that keeps it -/
structure FnV (M : Mc) (x : Str) (j n : Nat) {τ β : Type} (ins : (Addr → Prop) → τ → List Rp) (ρ : (Addr → Prop) → β → Rp) (m : τ → W β) : Prop where
  ex : ∃ f fd ps, FnOk M.P M.w M.K M.mg M.base (L2.CX M.P M.w) j f fd ps (spV M ins ρ m) ∧ M.mg x = some (.ref f) ∧ PySem.W.keepIn M.K (.ref f) = true ∧ Binds M.K fd ps []
  len : ∀ N t, (ins N t).length = n
/-- the same def by a spec that its mirror refines -/
theorem FnV.le {M : Mc} {x : Str} {j n : Nat} {τ β : Type} {ins : (Addr → Prop) → τ → List Rp} {ρ : (Addr → Prop) → β → Rp} {m m' : τ → W β} (h : FnV M x j n ins ρ m) (hm : ∀ t, W.Le (m' t) (m t)) : FnV M x j n ins ρ m' := by
  obtain ⟨⟨f, fd, ps, F, h1, h2, h3⟩, hl⟩ := h
  exact ⟨⟨f, fd, ps, F.imp fun vs H Q E ⟨t, F, N, n, s, r, w⟩ => ⟨t, F, N, n, s, r, hm t _ _ w⟩, h1, h2, h3⟩, hl⟩
theorem W.Le.refl (m : W α) : W.Le m m := fun _ _ h => h
def initC (M : Mc) (N : List Str) (sc : Scope) (k : Nat) (fr : Addr → Prop) : Cc := { toMc := M, N := N, sc := sc, k := k, fr := fr, fnc := fun _ => true, cm := true, ex := none }
def Γ0 (R : List Rp) (N : List Str) : List Slot := R.map .val ++ List.replicate (N.length - R.length) .no
theorem start_ok {M : Mc} {N : List Str} {sc : Scope} {k : Nat} {F H : Hp} {vs : List V} {R : List Rp} {Nf : Addr → Prop} (hN : ∀ a, H a = none → Nf a) (s : Same F H) (r : All2 (fun v R => R.p F v) vs R) : StOk (initC M N sc k Nf) F H (Γ0 R N) (L2.start N vs) (fun _ => emp) where
  len := by
    unfold Γ0 L2.start
    simp only [List.length_append, List.length_map, List.length_replicate, r.length]
  slot := fun i S e => by
    unfold Γ0 at e
    unfold L2.start
    by_cases h : i < R.length
    · rw [List.getElem?_append_left (by simpa using h), List.getElem?_map] at e
      cases q : R[i]? with
      | none => rw [q] at e; cases e
      | some R' =>
        rw [q] at e
        cases e
        obtain ⟨v, hv, hr⟩ := r.get q
        refine ⟨v, ?_, hr⟩
        rw [List.getElem?_append_left (by rw [List.length_map, r.length]; exact h), List.getElem?_map, hv]
        rfl
    · rw [List.getElem?_append_right (by simpa using Nat.not_lt.mp h)] at e
      have : S = .no := by
        rw [List.getElem?_replicate] at e
        split at e
        · exact (Option.some.inj e).symm
        · cases e
      subst this
      trivial
  sF := s
  sG := fun _ _ _ e => by cases e
  dF := fun _ => Dis.emp
  dG := fun _ _ _ => Dis.emp
  fr := hN
/-- THE RULE for a def -/
theorem FnV.mk' {M : Mc} {x : Str} {f : Addr} {fd : FuncData} {st : Stmt} {k n : Nat} {N ps : List Str} {τ β : Type} {ins : (Addr → Prop) → τ → List Rp} {ρ : (Addr → Prop) → β → Rp} {m : τ → W β} (F : Fun M.K x x st f fd) (S : FnScope N ps (defScope st)) (hmg : M.mg x = some (.ref f)) (hb : Binds M.K fd ps [])
    (hn : ps.length = n) (hl : ∀ N t, (ins N t).length = n)
    (J : (Addr → Prop) → β → Out) (hJ : ∀ fr b, J fr b = .rt (ρ fr b) ∨ (J fr b = .ft ∧ ∀ F, (ρ fr b).p F .non)) (h : ∀ (fr : Addr → Prop) (t : τ), Ex (initC M N (defScope st) k fr) (Γ0 (ins fr t) N) (defBody st) (J fr) (m t)) : FnV M x (k + 1) n ins ρ m := by
  refine ⟨⟨f, fd, ps, F.okX S (fun vs H Q E hsp => ?_) (fun cdv A outer s H vs Q E hr hsp => ?_), hmg, F.kp, hb⟩, hl⟩
  · obtain ⟨t, F', Nf, _, _, r, _⟩ := hsp
    rw [r.length, hl, hn]
  · obtain ⟨t, F', Nf, hNf, sm, r, w⟩ := hsp
    refine ⟨_, pss_W, ?_⟩
    refine h Nf t (cxOf (L2.CX M.P M.w) M.P M.w M.K M.mg M.base N x (defScope st) f cdv A outer s H E) (fun cls d _ H => E cls d H) ⟨⟨rfl, rfl, rfl, rfl, rfl, rfl, rfl, S.nd, rfl, fun _ => hr, hr.units, fun _ _ _ h => (nomatch h), fun _ _ => rfl⟩, passes_of rfl, rfl, rfl⟩ (takes_of rfl rfl rfl rfl) F' H _ _ (start_ok hNf sm r) _ ((m t).mono (fun b hb => ?_) (fun e he => ?_) w)
    · rcases hJ Nf b with e | ⟨e, e2⟩
      · rw [e]
        intro F2 H2 g2 v f2 s2 r2
        exact hb F2 H2 g2 v (show Fr F' H (fun _ => False) F2 H2 (dU g2) from ⟨f2.sF, fun b z => (f2.fF b z).imp_right fun q => q.imp_right fun ⟨_, q⟩ => absurd rfl q, fun b o q _ => f2.keep b o q fun ⟨_, z⟩ => absurd rfl z, f2.dom, fun b z => (f2.gs b z).imp_left fun ⟨_, q⟩ => absurd rfl q⟩) s2 r2
      · rw [e]
        intro F2 H2 g2 σ2 f2 s2
        exact hb F2 H2 g2 .non (show Fr F' H (fun _ => False) F2 H2 (dU g2) from ⟨f2.sF, fun b z => (f2.fF b z).imp_right fun q => q.imp_right fun ⟨_, q⟩ => absurd rfl q, fun b o q _ => f2.keep b o q fun ⟨_, z⟩ => absurd rfl z, f2.dom, fun b z => (f2.gs b z).imp_left fun ⟨_, q⟩ => absurd rfl q⟩) s2 (e2 F2)
    · intro F2 H2 g2 σ2 cls d f2 s2 hx
      exact he F2 H2 g2 cls d ⟨f2.sF, fun b z => (f2.fF b z).imp_right fun q => q.imp_right fun ⟨_, q⟩ => absurd rfl q, fun b o q _ => f2.keep b o q fun ⟨_, z⟩ => absurd rfl z, f2.dom, fun b z => (f2.gs b z).imp_left fun ⟨_, q⟩ => absurd rfl q⟩ s2 hx

/-! ### calls -/
/-- behind a call that owns nothing -/
theorem StOk.call0 {F H F' H' : Hp} {σ : St} {g g' : Nat → Hp} (s : StOk C F H Γ σ g) (f : Fr F H (fun _ => False) F' H' (dU g')) (s' : Same F' H') : StOk C F' H' Γ σ g ∧ Fr F H (dU g) F' H' (dU g) := by
  refine ⟨⟨s.len, fun i S e => (s.slot i S e).mono f.sF, s', fun i b o e => f.keep b o (s.sG i b o e) (fun z => z), fun i b => ?_, s.dG, fun a e => ?_⟩, ⟨f.sF, fun b z => (f.fF b z).imp_right fun q => q.imp_right fun q => q.elim, fun b o q _ => f.keep b o q fun z => z, f.dom, fun b z => .inl z⟩⟩
  · cases q : g i b with
    | none => exact .inr rfl
    | some o =>
      refine .inl ?_
      cases q2 : F' b with
      | none => rfl
      | some u =>
        have hH := s.sG i b o q
        rcases f.fF b (by rw [q2]; simp) with z | z | z
        · rcases s.dF i b with y | y
          · exact absurd y z
          · rw [q] at y; cases y
        · rw [hH] at z; cases z
        · exact z.elim
  · refine s.fr a ?_
    cases q : H a with
    | none => rfl
    | some o => exact absurd e (f.dom a (by rw [q]; simp))
theorem Ev.callA {x : Str} {j n : Nat} {es : List Expr} {τ : Type} {ins : (Addr → Prop) → τ → List Rp} {ρ : (Addr → Prop) → β → Rp} {mf : τ → W β} {mt : W τ} (hf : FnV C.toMc x j n ins ρ mf) (hj : j ≤ C.k) (hg : C.sc.names.lookup x = some .globalImplicit) (ha : EvA C Γ (e :: es) (ins C.fr) mt) (hn : NoStar e) (hpl : ∀ (X : Cx) (pos : Pos), (backTo pos (starEach es X.env)).any (·.1) = false)
    (hd : (x == ("__debug__" : Str)) = false := by decide) (hcm : C.cm = true := by rfl) : Ev C Γ (.Call (.Name x p) (e :: es) [] pos) (ρ C.fr) (do let t ← mt; mf t) :=
  fun X Wx ok tk F H g σ s Q hm => by
    obtain ⟨⟨f, fd, ps, hF, hmg, hk, hb⟩, hl⟩ := hf
    have e1 := ok.prog
    have e2 := ok.w
    have e3 := ok.K
    have e4 := ok.mg
    have e5 := ok.base
    refine WE.of (pe_callS (E := fun σ => L2.WE Wx σ) (by rw [e1, e2, e3, e4, e5]; exact hF) ((ok.room hcm).mono hj) (show X.env.scope.names.lookup x = _ by rw [ok.sc]; exact hg) (by rw [e4]; exact hmg) (by rw [e3]; exact hk) (by rw [e3]; exact hb) (fun σ => by
      have := passAt tk σ
      rw [e1, e2] at this
      exact this) (pa_W (es := e :: es)) hd (hn es X.env) (hpl X pos)) ?_
    refine ha.2 X Wx ok tk F H g σ s _ (mt.mono (fun t ht F1 H1 g1 vs f1 s1 r1 => ?_) (fun e he => he) hm)
    refine ⟨t, F1, C.fr, s1.fr, s1.sF, r1, (mf t).mono (fun b hb F2 H2 g2 v f2 s2 r2 => ?_) (fun e he F2 H2 g2 cls d f2 s2 hx => ?_) ht⟩
    · obtain ⟨s3, f3⟩ := s1.call0 f2 s2
      exact hb F2 H2 g1 v (f1.trans f3) s3 r2
    · obtain ⟨s3, f3⟩ := s1.call0 f2 s2
      exact he F2 H2 g1 cls d (f1.trans f3) s3 ((hx.reg s1.sG).later f1)
end
section
variable {C : Cc} {Γ : List Slot} {α β γ δ ε : Type} {e e1 e2 e3 e4 : Expr} {pos p : Pos} {x : Str} {j : Nat} {ρ : (Addr → Prop) → ε → Rp}
theorem Ev.call1 {ra : (Addr → Prop) → α → Rp} {m1 : W α} {mf : α × Unit → W ε} (hf : FnV C.toMc x j 1 (fun N t => [ra N t.1]) ρ mf) (hj : j ≤ C.k) (hg : C.sc.names.lookup x = some .globalImplicit) (h1 : Ev C Γ e1 (ra C.fr) m1) (n1 : NoStar e1) (hd : (x == ("__debug__" : Str)) = false := by decide) (hcm : C.cm = true := by rfl) :
    Ev C Γ (.Call (.Name x p) [e1] [] pos) (ρ C.fr) (do let a ← m1; mf (a, ())) := by
  have q := Ev.callA (e := e1) (p := p) (pos := pos) hf hj hg (EvA.cons h1 EvA.nil n1) n1 noArgs hd hcm
  exact q
theorem Ev.call2 {ra : (Addr → Prop) → α → Rp} {rb : (Addr → Prop) → β → Rp} {m1 : W α} {m2 : W β} {mf : α × β × Unit → W ε} (hf : FnV C.toMc x j 2 (fun N t => [ra N t.1, rb N t.2.1]) ρ mf) (hj : j ≤ C.k) (hg : C.sc.names.lookup x = some .globalImplicit) (h1 : Ev C Γ e1 (ra C.fr) m1) (h2 : Ev C Γ e2 (rb C.fr) m2) (n1 : NoStar e1) (n2 : NoStar e2) (hd : (x == ("__debug__" : Str)) = false := by decide) (hcm : C.cm = true := by rfl) :
    Ev C Γ (.Call (.Name x p) [e1, e2] [] pos) (ρ C.fr) (do let a ← m1; let b ← m2; mf (a, b, ())) := by
  have q := Ev.callA (e := e1) (p := p) (pos := pos) hf hj hg (EvA.cons h1 (EvA.cons h2 EvA.nil n2) n1) n1 (EvA.cons h2 EvA.nil n2).1 hd hcm
  exact q
theorem Ev.call3 {ra : (Addr → Prop) → α → Rp} {rb : (Addr → Prop) → β → Rp} {rc : (Addr → Prop) → γ → Rp} {m1 : W α} {m2 : W β} {m3 : W γ} {mf : α × β × γ × Unit → W ε} (hf : FnV C.toMc x j 3 (fun N t => [ra N t.1, rb N t.2.1, rc N t.2.2.1]) ρ mf) (hj : j ≤ C.k) (hg : C.sc.names.lookup x = some .globalImplicit) (h1 : Ev C Γ e1 (ra C.fr) m1) (h2 : Ev C Γ e2 (rb C.fr) m2) (h3 : Ev C Γ e3 (rc C.fr) m3) (n1 : NoStar e1) (n2 : NoStar e2) (n3 : NoStar e3) (hd : (x == ("__debug__" : Str)) = false := by decide) (hcm : C.cm = true := by rfl) :
    Ev C Γ (.Call (.Name x p) [e1, e2, e3] [] pos) (ρ C.fr) (do let a ← m1; let b ← m2; let c ← m3; mf (a, b, c, ())) := by
  have q := Ev.callA (e := e1) (p := p) (pos := pos) hf hj hg (EvA.cons h1 (EvA.cons h2 (EvA.cons h3 EvA.nil n3) n2) n1) n1 (EvA.cons h2 (EvA.cons h3 EvA.nil n3) n2).1 hd hcm
  exact q
theorem Ev.call4 {ra : (Addr → Prop) → α → Rp} {rb : (Addr → Prop) → β → Rp} {rc : (Addr → Prop) → γ → Rp} {rd : (Addr → Prop) → δ → Rp} {m1 : W α} {m2 : W β} {m3 : W γ} {m4 : W δ} {mf : α × β × γ × δ × Unit → W ε} (hf : FnV C.toMc x j 4 (fun N t => [ra N t.1, rb N t.2.1, rc N t.2.2.1, rd N t.2.2.2.1]) ρ mf) (hj : j ≤ C.k) (hg : C.sc.names.lookup x = some .globalImplicit) (h1 : Ev C Γ e1 (ra C.fr) m1) (h2 : Ev C Γ e2 (rb C.fr) m2) (h3 : Ev C Γ e3 (rc C.fr) m3) (h4 : Ev C Γ e4 (rd C.fr) m4) (n1 : NoStar e1) (n2 : NoStar e2) (n3 : NoStar e3) (n4 : NoStar e4) (hd : (x == ("__debug__" : Str)) = false := by decide) (hcm : C.cm = true := by rfl) :
    Ev C Γ (.Call (.Name x p) [e1, e2, e3, e4] [] pos) (ρ C.fr) (do let a ← m1; let b ← m2; let c ← m3; let d ← m4; mf (a, b, c, d, ())) := by
  have q := Ev.callA (e := e1) (p := p) (pos := pos) hf hj hg (EvA.cons h1 (EvA.cons h2 (EvA.cons h3 (EvA.cons h4 EvA.nil n4) n3) n2) n1) n1 (EvA.cons h2 (EvA.cons h3 (EvA.cons h4 EvA.nil n4) n3) n2).1 hd hcm
  exact q
end
end Y

/-! Y9: what the top leaves, the end -/
namespace Y
open PySem PySem.Spec L2
/-- a def of the top -/
def FAt (K : PySem.W.Frag) (x : Str) (st : Stmt) (f : Addr) : Prop :=
  PySem.W.nsIn K mainGlobals x = some (some (.ref f)) ∧ (∃ (oc : Value) (od : Option Addr) (sl : Array (Option Value)) (kV dc pm : Value) (an : Option Addr) (cd ct : Value), K.lookup f = some ⟨oc, od, .func (PySem.W.fnOf x x (defArgs st) (defBody st) (defScope st) .none kV dc pm an cd ct), sl⟩ ∧ PySem.W.codeIn K cd x = true) ∧ PySem.W.keepIn K (.ref f) = true
structure FunM (M : Mc) (x : Str) (st : Stmt) (ps : List Str) : Prop where
  ex : ∃ f fd, Fun M.K x x st f fd ∧ M.mg x = some (.ref f) ∧ Binds M.K fd ps []
theorem FAt.m {M : Mc} {h : Heap} {x : Str} {st : Stmt} {f : Addr} {ps : List Str} (X : M.K.In h) (G : h.Ns mainGlobals M.mg) (a : FAt M.K x st f)
    (hb : ∀ (kV doc pm : Value) (an : Option Addr) (cdv ct : Value) (us : List Value), us.length = ps.length → bindArgs (PySem.W.fnOf x x (defArgs st) (defBody st) (defScope st) .none kV doc pm an cdv ct) ⟨us, []⟩ = pure (ps.zip us)) : FunM M x st ps := by
  obtain ⟨a1, ⟨oc, od, sl, kV, dc, pm, an, cd, ct, l, c⟩, k⟩ := a
  have F := fun_mk (st := st) l c k
  exact ⟨f, _, F, PySem.W.mg_of X G a1, F.binds hb⟩
theorem FnV.ofBody {M : Mc} {x : Str} {st : Stmt} {k n : Nat} {N ps : List Str} {τ β : Type} {ins : (Addr → Prop) → τ → List Rp} {ρ : (Addr → Prop) → β → Rp} {m : τ → W β} (F : FunM M x st ps) (S : FnScope N ps (defScope st))
    (hn : ps.length = n) (hl : ∀ N t, (ins N t).length = n) (h : ∀ (fr : Addr → Prop) (t : τ), Ex (initC M N (defScope st) k fr) (Γ0 (ins fr t) N) (defBody st) (fun b => .rt (ρ fr b)) (m t)) : FnV M x (k + 1) n ins ρ m := by
  obtain ⟨f, fd, F, mg, b⟩ := F
  exact FnV.mk' F S mg b hn hl (fun fr b => .rt (ρ fr b)) (fun fr b => .inl rfl) h
/-- the ints of a script: their bits -/
def BitsOk (z : Int) : Prop := Builtin.Int.intBits z ≤ 1048576
theorem walk_law {l : PySem.W.OpenLaw} {k : Nat} {q : Program} {loose : List Str} {XP : (Str → Option Value) → Heap → Prop} {YP : World → Heap → Prop} {d : DefRec} {K : Params → PySem.W.Frag} {sx : Str} {m : List Int × Unit → W Bool} {fd : World → FuncData}
    (hn : l.most = some 63) (hdf : d.params.defaults = []) (hr : Room k callerA) (hY : ∀ (w : World) (h : Heap), YP w h → (K w.params).In h)
    (F : ∀ (w : World) (mg : Str → Option Value) (fa : Addr) (h : Heap), (K w.params).In h → h.Ns mainGlobals mg → mg d.name = some (.ref fa) →
      ∃ fd : FuncData, (∀ (s : Shared) (u : Value), BindsTo s fd ⟨[u], []⟩ [(sx, u)]) ∧ ∀ base : Heap, (K w.params).In base → base.Ns mainGlobals mg → FnOk l.prog w (K w.params) mg base (L2.CX l.prog w) k fa fd [sx] (spV ⟨l.prog, w, K w.params, mg, base⟩ (fun _ t => [rL (K w.params) rI t.1]) (fun _ => rB) m))
    (hm : ∀ ns : List Int, ns.length ≤ 63 → (∀ z ∈ ns, BitsOk z) → (m (ns, ())).wp (fun b => b = true) (fun _ => False)) : PySem.W.WalkO q loose XP YP l.row.toRowW d [] (fun f vs => PySem.call f vs) := by
  refine walk_ofB (l := l) (n := 63) (k := k) (x := sx) (CX := fun w => L2.CX l.prog w)
    (sp := fun w => fun vs H Q E => ∃ ns : List Int, ∃ a, ns.length ≤ 63 ∧ (∀ z ∈ ns, BitsOk z) ∧ vs = [.ref a] ∧ SqL (K w.params) H a (ns.map V.int) ∧ (∀ v H', v = V.bl true → Q v H')) hn (by decide) hdf hr hY (fun w mg fa h X G hmg => ?_) (fun w H a ns h1 h2 _ h3 => ⟨ns, a, h1, h2, rfl, h3, fun v _ e => e⟩) (fun w H s e s' z => ?_)
  · obtain ⟨fd, hb, hF⟩ := F w mg fa h X G hmg
    refine ⟨fd, hb, fun base X2 G2 => (hF base X2 G2).imp fun vs H Q E ⟨ns, a, h1, h2, ev, hs, hQ⟩ => ?_⟩
    subst ev
    refine ⟨(ns, ()), H, fun a => H a = none, fun _ z => z, Same.refl _, .cons ⟨a, ns.map V.int, rfl, hs, All2.to_map (R := fun u x => (rI x).p H u) (f := V.int) (fun _ => rfl) ns⟩ .nil, (m (ns, ())).mono (fun b hb F' H' g' v f s r => ?_) (fun e he => he.elim) (hm ns h1 h2)⟩
    exact hQ v H' (by rw [show v = V.bl b from r, hb])
  · obtain ⟨_, _, _, _, _, _, _, _, _, _, _, _, z⟩ := z
    exact z.elim
end Y

/-! Y10: what the printer leans on -/
namespace Y
open PySem PySem.Spec L2
/-! ### names -/
def visB (sc : Scope) (x : Str) : Bool := match sc.names.lookup x with | some .local => true | some .cell => true | some .free => true | _ => false
theorem visOf {sc : Scope} {x : Str} (h : visB sc x = true) : Vis sc x := by
  unfold visB at h
  unfold Vis
  split at h
  · rename_i e; exact .inl e
  · rename_i e; exact .inr (.inl e)
  · rename_i e; exact .inr (.inr e)
  · cases h
def stoB (C : Cc) (x : Str) : Bool := match C.sc.names.lookup x with | some .local => true | some .cell => C.fnc x | _ => false
theorem stoOf {C : Cc} {x : Str} (h : stoB C x = true) : Sto C x := by
  unfold stoB at h
  unfold Sto
  split at h
  · rename_i e; exact .inl e
  · rename_i e; exact .inr ⟨e, h⟩
  · cases h
section
variable {C : Cc}
theorem bt_abs (g : C.sc.names.lookup ("abs" : Str) = some .globalImplicit) (m : C.mg "abs" = none) : Blt C "abs" (.builtin "abs") := ⟨g, m, by decide +kernel, by decide, by decide⟩
theorem bt_len (g : C.sc.names.lookup ("len" : Str) = some .globalImplicit) (m : C.mg "len" = none) : Blt C "len" (.builtin "len") := ⟨g, m, by decide +kernel, by decide, by decide⟩
theorem bt_sum (g : C.sc.names.lookup ("sum" : Str) = some .globalImplicit) (m : C.mg "sum" = none) : Blt C "sum" (.builtin "sum") := ⟨g, m, by decide +kernel, by decide, by decide⟩
theorem bt_min (g : C.sc.names.lookup ("min" : Str) = some .globalImplicit) (m : C.mg "min" = none) : Blt C "min" (.builtin "min") := ⟨g, m, by decide +kernel, by decide, by decide⟩
theorem bt_max (g : C.sc.names.lookup ("max" : Str) = some .globalImplicit) (m : C.mg "max" = none) : Blt C "max" (.builtin "max") := ⟨g, m, by decide +kernel, by decide, by decide⟩
theorem bt_sorted (g : C.sc.names.lookup ("sorted" : Str) = some .globalImplicit) (m : C.mg "sorted" = none) : Blt C "sorted" (.builtin "sorted") := ⟨g, m, by decide +kernel, by decide, by decide⟩
theorem bt_isinstance (g : C.sc.names.lookup ("isinstance" : Str) = some .globalImplicit) (m : C.mg "isinstance" = none) : Blt C "isinstance" (.builtin "isinstance") := ⟨g, m, by decide +kernel, by decide, by decide⟩
theorem bt_range (g : C.sc.names.lookup ("range" : Str) = some .globalImplicit) (m : C.mg "range" = none) : Blt C "range" (.type "range") := ⟨g, m, by decide +kernel, by decide, by decide⟩
theorem bt_list (g : C.sc.names.lookup ("list" : Str) = some .globalImplicit) (m : C.mg "list" = none) : Blt C "list" (.type "list") := ⟨g, m, by decide +kernel, by decide, by decide⟩
theorem bt_int (g : C.sc.names.lookup ("int" : Str) = some .globalImplicit) (m : C.mg "int" = none) : Blt C "int" (.type "int") := ⟨g, m, by decide +kernel, by decide, by decide⟩
theorem bt_zip (g : C.sc.names.lookup ("zip" : Str) = some .globalImplicit) (m : C.mg "zip" = none) : Blt C "zip" (.type "zip") := ⟨g, m, by decide +kernel, by decide, by decide⟩
theorem bt_enumerate (g : C.sc.names.lookup ("enumerate" : Str) = some .globalImplicit) (m : C.mg "enumerate" = none) : Blt C "enumerate" (.type "enumerate") := ⟨g, m, by decide +kernel, by decide, by decide⟩
end
/-! ### smaller kinds -/
section
variable {K : PySem.W.Frag} {α β γ : Type}
abbrev SubK (r r' : α → Rp) : Prop := ∀ a F v, (r a).p F v → (r' a).p F v
theorem subR {r : α → Rp} : SubK r r := fun _ _ _ h => h
theorem subNL {N : Addr → Prop} {r r' : α → Rp} (h : SubK r r') : SubK (rN N r) (rL K r') := fun a F v x => by
  obtain ⟨q, vs, e, q2, t⟩ := rN_rL (K := K) x
  exact ⟨q, vs, e, q2, t.imp fun _ _ z => h _ _ _ z⟩
/-- heap-free kinds -/
class Fre {α : Type} (r : α → Rp) : Prop where
  fre : ∀ a F v, (r a).p F v → ∀ F', (r a).p F' v
instance : Fre rI := ⟨fun _ _ _ h _ => h⟩
instance : Fre rB := ⟨fun _ _ _ h _ => h⟩
instance : Fre rS := ⟨fun _ _ _ h _ => h⟩
instance : Fre rU := ⟨fun _ _ _ h _ => h⟩
instance {r : α → Rp} [I : Fre r] : Fre (rO r) := ⟨fun a F v h F' => by
  cases a with
  | none => exact h
  | some a => exact I.fre _ _ _ h _⟩
/-! ### what a value is an instance of -/
class TyK {α : Type} (K : PySem.W.Frag) (r : α → Rp) (T : outParam String) : Prop where
  ty : ∀ x F H v, Same F H → (r x).p F v → TyX K H v (.type T)
instance : TyK K rI "int" := ⟨fun x F H v _ h => by have e : v = .int x := h; subst e; exact .base (.int x)⟩
instance : TyK K rB "bool" := ⟨fun x F H v _ h => by have e : v = .bl x := h; subst e; exact .base (.bl x)⟩
instance : TyK K rS "str" := ⟨fun x F H v _ h => by have e : v = .str x := h; subst e; exact .base (.str x)⟩
instance : TyK K rU "NoneType" := ⟨fun x F H v _ h => by have e : v = .non := h; subst e; exact .base .non⟩
theorem SqL.ty {H : Hp} {a : Addr} {xs : List V} (h : SqL K H a xs) : TyX K H (.ref a) (.type "list") := by
  rcases h with (q | ⟨o, q⟩) | ⟨o, its, n, e, c, _⟩
  · exact .base (.lst q)
  · exact .base (.frz q)
  · exact .kList e c
theorem SqT.ty {H : Hp} {a : Addr} {xs : List V} (h : SqT K H a xs) : TyX K H (.ref a) (.type "tuple") := by
  rcases h with (q | ⟨o, q⟩) | ⟨o, its, n, e, c, _⟩
  · exact .base (.tup q)
  · exact .fTuple q
  · exact .kTuple e c
instance {r : α → Rp} : TyK K (rL K r) "list" := ⟨fun x F H v s ⟨a, vs, e, q, _⟩ => by subst e; exact SqL.ty (s.seq q)⟩
instance {N : Addr → Prop} {r : α → Rp} : TyK K (rN N r) "list" := ⟨fun x F H v s ⟨a, vs, e, _, q, _⟩ => by subst e; exact .base (.lst (s _ _ q))⟩
instance {r1 : α → Rp} {r2 : β → Rp} : TyK K (rT2 K r1 r2) "tuple" := ⟨fun x F H v s ⟨a, _, _, e, q, _⟩ => by subst e; exact SqT.ty (Same.seqT s q)⟩
instance {r1 : α → Rp} {r2 : β → Rp} {r3 : γ → Rp} : TyK K (rT3 K r1 r2 r3) "tuple" := ⟨fun x F H v s ⟨a, _, _, _, e, q, _⟩ => by subst e; exact SqT.ty (Same.seqT s q)⟩
end
/-- a class by its name -/
def rTy (n : String) (_ : Unit) : Rp := ⟨fun _ v => v = .ty n, fun _ h => h⟩
section
variable {C : Cc} {Γ : List Slot} {α β γ : Type} {e e1 e2 : Expr} {pos p p2 : Pos}
/-! ### own lists are read for a while -/
inductive Bo (C : Cc) : Slot → Slot → Prop
  | rf {S} : Bo C S S
  | li {α : Type} {r : α → Rp} {xs : List α} {N : Addr → Prop} : Bo C (.own (oL N r xs)) (.val (rN N r xs))
  | no {S} : Bo C S .no
  | ge {O : Op} {R : Rp} (h : ∀ F F' G v, Same F F' → Same G F' → O.p F G v → R.p F' v) : Bo C (.own O) (.val R)
  | sb {R R' : Rp} (h : ∀ F v, R.p F v → R'.p F v) : Bo C (.val R) (.val R')
def noOwn : List Slot → Bool
  | [] => true
  | .own _ :: _ => false
  | _ :: r => noOwn r
theorem noOwn.ok : ∀ {Γ : List Slot}, noOwn Γ = true → ∀ S ∈ Γ, ∀ O, S ≠ .own O
  | [], _, _, h, _, _ => by cases h
  | .own _ :: _, h, _, _, _, _ => by cases h
  | .no :: r, h, S, hS, O, e => by
    rcases List.mem_cons.mp hS with q | q
    · subst q; cases e
    · exact noOwn.ok (Γ := r) h S q O e
  | .val _ :: r, h, S, hS, O, e => by
    rcases List.mem_cons.mp hS with q | q
    · subst q; cases e
    · exact noOwn.ok (Γ := r) h S q O e
/-- all that is owned, frozen -/
noncomputable def frzA (F H : Hp) (g : Nat → Hp) : Hp := fun a => by classical exact if F a ≠ none ∨ dU g a then H a else none
theorem All2.at {α β : Type} {R : α → β → Prop} {as : List α} {bs : List β} (h : All2 R as bs) {i : Nat} {b : β} (e : bs[i]? = some b) : ∃ a, as[i]? = some a ∧ R a b := h.get e
theorem StOk.frzA {F H : Hp} {Γ' : List Slot} {σ : St} {g : Nat → Hp} (s : StOk C F H Γ σ g) (hb : All2 (Bo C) Γ Γ') (hv : ∀ (i : Nat) (O : Op), Γ'[i]? ≠ some (Slot.own O)) : StOk C (Y.frzA F H g) H Γ' σ (fun _ => emp) ∧ Same F (Y.frzA F H g) ∧ (∀ i, Same (g i) (Y.frzA F H g)) ∧ (∀ b, Y.frzA F H g b ≠ none → F b ≠ none ∨ dU g b) := by
  have sF : Same F (Y.frzA F H g) := fun a o q => by
    unfold Y.frzA
    rw [if_pos (.inl (by rw [q]; simp))]
    exact s.sF a o q
  have sG : ∀ i, Same (g i) (Y.frzA F H g) := fun i a o q => by
    unfold Y.frzA
    rw [if_pos (.inr ⟨i, by rw [q]; simp⟩)]
    exact s.sG i a o q
  refine ⟨⟨hb.length.symm.trans s.len, fun i S q => ?_, fun a o q => ?_, fun i a o q => (nomatch q), fun i a => .inr rfl, fun i j _ a => .inr rfl, s.fr⟩, sF, sG, fun b q => ?_⟩
  · obtain ⟨S0, q0, r⟩ := hb.at q
    have x := s.slot i S0 q0
    cases r with
    | rf =>
      cases S with
      | no => trivial
      | val R => exact SlotOk.mono (S := .val R) sF x
      | own O => exact absurd q (hv i O)
    | no => trivial
    | li =>
      obtain ⟨v, e1, a, vs, e2, n, e3, t⟩ := x
      exact ⟨v, e1, a, vs, e2, n, sG i a _ (by rw [e3]; exact one_same), t.imp fun _ _ z => (_ : Rp).mono sF z⟩
    | ge h =>
      obtain ⟨v, e1, r⟩ := x
      exact ⟨v, e1, h _ _ _ _ sF (sG i) r⟩
    | sb h =>
      obtain ⟨v, e1, r⟩ := x
      exact ⟨v, e1, h _ _ (Rp.mono _ sF r)⟩
  · unfold Y.frzA at q
    split at q
    · exact q
    · cases q
  · unfold Y.frzA at q
    split at q
    · assumption
    · exact absurd rfl q
/-- back -/
theorem StOk.unfrz {F H F' H' : Hp} {Γ' : List Slot} {σ : St} {g g' : Nat → Hp} (s : StOk C F H Γ σ g) (hb : All2 (Bo C) Γ Γ') (hv : ∀ (i : Nat) (O : Op), Γ'[i]? ≠ some (Slot.own O)) (f : Fr (Y.frzA F H g) H (dU fun _ => emp) F' H' (dU g')) (s' : StOk C F' H' Γ' σ g') :
    StOk C F H' Γ σ g ∧ Fr F H (dU g) F H' (dU g) := by
  obtain ⟨s1, sF, sG, fF⟩ := s.frzA hb hv
  refine ⟨⟨s.len, s.slot, (sF.trans f.sF).trans s'.sF, fun i => ((sG i).trans f.sF).trans s'.sF, s.dF, s.dG, s'.fr⟩, Same.refl _, fun b q => .inl q, fun b o q n => f.keep b o q fun ⟨_, z⟩ => z rfl, f.dom, fun b q => .inl q⟩
theorem XEnd.frz {F H : Hp} {Γ' : List Slot} {σ : St} {g : Nat → Hp} {Wx : WX} {x : Exn} (s : StOk C F H Γ σ g) (hb : All2 (Bo C) Γ Γ') (hv : ∀ (i : Nat) (O : Op), Γ'[i]? ≠ some (Slot.own O)) (h : XEnd C F H (dU g) Γ σ Wx x) : XEnd C (Y.frzA F H g) H (dU fun _ => emp) Γ' σ Wx x := fun F' H' g' cls d f s' hx => by
  obtain ⟨s2, f2⟩ := s.unfrz hb hv f s'
  exact h F H' g cls d f2 s2 (hx.reg s.sG)
theorem Ev.borrow {Γ' : List Slot} {ρ : α → Rp} [I : Fre ρ] {m : W α} (hb : All2 (Bo C) Γ Γ') (hv : noOwn Γ' = true) (h : Ev C Γ' e ρ m) : Ev C Γ e ρ m := fun X Wx ok tk F H g σ s Q hm => by
  have hv' : ∀ (i : Nat) (O : Op), Γ'[i]? ≠ some (Slot.own O) := fun i O q => noOwn.ok hv _ (List.mem_of_getElem? q) O rfl
  refine h X Wx ok tk _ H _ σ (s.frzA hb hv').1 Q (m.mono (fun a ha F' H' g' v f s' r => ?_) (fun x hx => hx.frz s hb hv') hm)
  obtain ⟨s2, f2⟩ := s.unfrz hb hv' f s'
  exact ha F H' g v f2 s2 (I.fre _ _ _ r _)
theorem EvT.borrow {Γ' : List Slot} {m : W Bool} (hb : All2 (Bo C) Γ Γ') (hv : noOwn Γ' = true) (h : EvT C Γ' e m) : EvT C Γ e m := fun X Wx ok tk F H g σ s Q hm => by
  have hv' : ∀ (i : Nat) (O : Op), Γ'[i]? ≠ some (Slot.own O) := fun i O q => noOwn.ok hv _ (List.mem_of_getElem? q) O rfl
  refine h X Wx ok tk _ H _ σ (s.frzA hb hv').1 Q (m.mono (fun a ha F' H' g' f s' => ?_) (fun x hx => hx.frz s hb hv') hm)
  obtain ⟨s2, f2⟩ := s.unfrz hb hv' f s'
  exact ha F H' g f2 s2
theorem EvO.borrow {Γ' : List Slot} {r : α → Rp} [I : Fre r] {m : W (List α)} (hb : All2 (Bo C) Γ Γ') (hv : noOwn Γ' = true) (h : EvO C Γ' e (oL C.fr r) m) : EvO C Γ e (oL C.fr r) m := fun X Wx ok tk F H g σ s Q hm => by
  have hv' : ∀ (i : Nat) (O : Op), Γ'[i]? ≠ some (Slot.own O) := fun i O q => noOwn.ok hv _ (List.mem_of_getElem? q) O rfl
  obtain ⟨s1, sF, sG, fF⟩ := s.frzA hb hv'
  refine h X Wx ok tk _ H _ σ s1 Q (m.mono (fun a ha F' H' g' G v f s' sG' dF' dG' nG r => ?_) (fun x hx => hx.frz s hb hv') hm)
  have dd : ∀ {A : Hp}, Same A F' → Dis A G := fun {A} z b => by
    rcases dF' b with q | q
    · refine .inl ?_
      cases q2 : A b with
      | none => rfl
      | some o => rw [z b o q2] at q; cases q
    · exact .inr q
  have sFF := sF.trans f.sF
  have sGF := fun i => (sG i).trans f.sF
  refine ha F H' g G v ⟨Same.refl _, fun b q => .inl q, fun b o q n => f.keep b o q fun ⟨_, z⟩ => z rfl, f.dom, fun b q => ?_⟩ ⟨s.len, s.slot, sFF.trans s'.sF, fun i => (sGF i).trans s'.sF, s.dF, s.dG, s'.fr⟩ sG' (dd sFF) (fun i => dd (sGF i)) nG ?_
  · rcases q with q | q
    · exact .inl q
    · rcases f.gs b (.inr q) with ⟨_, z⟩ | z
      · exact absurd rfl z
      · exact .inr z
  · obtain ⟨a1, vs, e1, n1, e2, t⟩ := r
    exact ⟨a1, vs, e1, n1, e2, t.imp fun _ _ z => I.fre _ _ _ z _⟩
/-! ### calls that tell a list of the asker's own -/
theorem EvO.callA {x : Str} {j n : Nat} {es : List Expr} {τ : Type} {ins : (Addr → Prop) → τ → List Rp} {r : β → Rp} [I : Fre r] {mf : τ → W (List β)} {mt : W τ} (hf : FnV C.toMc x j n ins (fun N => rN N r) mf) (hi : ∀ N N' t, ins N t = ins N' t) (hj : j ≤ C.k) (hg : C.sc.names.lookup x = some .globalImplicit) (ha : EvA C Γ (e :: es) (ins C.fr) mt) (hn : NoStar e) (hpl : ∀ (X : Cx) (pos : Pos), (backTo pos (starEach es X.env)).any (·.1) = false)
    (hd : (x == ("__debug__" : Str)) = false := by decide) (hcm : C.cm = true := by rfl) : EvO C Γ (.Call (.Name x p) (e :: es) [] pos) (oL C.fr r) (do let t ← mt; mf t) :=
  fun X Wx ok tk F H g σ s Q hm => by
    obtain ⟨⟨f, fd, ps, hF, hmg, hk, hb⟩, hl⟩ := hf
    have e1 := ok.prog
    have e2 := ok.w
    have e3 := ok.K
    have e4 := ok.mg
    have e5 := ok.base
    refine WE.of (pe_callS (E := fun σ => L2.WE Wx σ) (by rw [e1, e2, e3, e4, e5]; exact hF) ((ok.room hcm).mono hj) (show X.env.scope.names.lookup x = _ by rw [ok.sc]; exact hg) (by rw [e4]; exact hmg) (by rw [e3]; exact hk) (by rw [e3]; exact hb) (fun σ => by
      have := passAt tk σ
      rw [e1, e2] at this
      exact this) (pa_W (es := e :: es)) hd (hn es X.env) (hpl X pos)) ?_
    refine ha.2 X Wx ok tk F H g σ s _ (mt.mono (fun t ht F1 H1 g1 vs f1 s1 r1 => ?_) (fun e he => he) hm)
    refine ⟨t, F1, fun a => H1 a = none, fun _ z => z, s1.sF, by rw [hi _ C.fr t]; exact r1, (mf t).mono (fun b hb F2 H2 g2 v f2 s2 r2 => ?_) (fun e he F2 H2 g2 cls d f2 s2 hx => ?_) ht⟩
    · obtain ⟨s3, f3⟩ := s1.call0 f2 s2
      obtain ⟨a, us, ev, hn1, ha, t2⟩ := r2
      refine hb F1 H2 g1 (one a (.lst us)) v (f1.trans ⟨Same.refl _, fun b q => .inl q, fun b o q _ => f2.keep b o q fun z => z, f2.dom, fun b q => ?_⟩) ⟨s1.len, s1.slot, fun b o q => s2 _ _ (f2.sF b o q), s3.sG, s1.dF, s1.dG, s3.fr⟩ (fun b o q => ?_) (fun b => ?_) (fun i b => ?_) (fun b q => ?_) ⟨a, us, ev, s1.fr a hn1, rfl, t2.imp fun _ _ z => I.fre _ _ _ z _⟩
      · rcases q with q | q
        · exact .inl q
        · by_cases hba : b = a
          · subst hba; exact .inr hn1
          · exact absurd (one_ne hba) q
      · by_cases hba : b = a
        · subst hba; rw [one_same] at q; cases q; exact s2 _ _ ha
        · rw [one_ne hba] at q; cases q
      · by_cases hba : b = a
        · subst hba
          refine .inl ?_
          cases q : F1 b with
          | none => rfl
          | some o => rw [s1.sF b o q] at hn1; cases hn1
        · exact .inr (one_ne hba)
      · by_cases hba : b = a
        · subst hba
          refine .inl ?_
          cases q : g1 i b with
          | none => rfl
          | some o => rw [s1.sG i b o q] at hn1; cases hn1
        · exact .inr (one_ne hba)
      · by_cases hba : b = a
        · subst hba; exact s1.fr b hn1
        · exact absurd (one_ne hba) q
    · obtain ⟨s3, f3⟩ := s1.call0 f2 s2
      exact he F2 H2 g1 cls d (f1.trans f3) s3 ((hx.reg s1.sG).later f1)
variable {e3 e4 : Expr} {δ ε : Type} {x : Str} {j : Nat} {r : ε → Rp} [I : Fre r]
theorem EvO.call1 {ra : α → Rp} {m1 : W α} {mf : α × Unit → W (List ε)} (hf : FnV C.toMc x j 1 (fun N t => [ra t.1]) (fun N => rN N r) mf) (hj : j ≤ C.k) (hg : C.sc.names.lookup x = some .globalImplicit) (h1 : Ev C Γ e1 ra m1) (n1 : NoStar e1) (hd : (x == ("__debug__" : Str)) = false := by decide) (hcm : C.cm = true := by rfl) :
    EvO C Γ (.Call (.Name x p) [e1] [] pos) (oL C.fr r) (do let a ← m1; mf (a, ())) := EvO.callA (mt := do let a ← m1; let t ← pure (); pure (a, t)) hf (fun _ _ _ => rfl) hj hg (EvA.cons h1 EvA.nil n1) n1 noArgs hd hcm
theorem EvO.call2 {ra : α → Rp} {rb : β → Rp} {m1 : W α} {m2 : W β} {mf : α × β × Unit → W (List ε)} (hf : FnV C.toMc x j 2 (fun N t => [ra t.1, rb t.2.1]) (fun N => rN N r) mf) (hj : j ≤ C.k) (hg : C.sc.names.lookup x = some .globalImplicit) (h1 : Ev C Γ e1 ra m1) (h2 : Ev C Γ e2 rb m2) (n1 : NoStar e1) (n2 : NoStar e2) (hd : (x == ("__debug__" : Str)) = false := by decide) (hcm : C.cm = true := by rfl) :
    EvO C Γ (.Call (.Name x p) [e1, e2] [] pos) (oL C.fr r) (do let a ← m1; let b ← m2; mf (a, b, ())) := EvO.callA (mt := do let a ← m1; let t ← (do let b ← m2; let t ← pure (); pure (b, t)); pure (a, t)) hf (fun _ _ _ => rfl) hj hg (EvA.cons h1 (EvA.cons h2 EvA.nil n2) n1) n1 (EvA.cons h2 EvA.nil n2).1 hd hcm
theorem EvO.call3 {ra : α → Rp} {rb : β → Rp} {rc : γ → Rp} {m1 : W α} {m2 : W β} {m3 : W γ} {mf : α × β × γ × Unit → W (List ε)} (hf : FnV C.toMc x j 3 (fun N t => [ra t.1, rb t.2.1, rc t.2.2.1]) (fun N => rN N r) mf) (hj : j ≤ C.k) (hg : C.sc.names.lookup x = some .globalImplicit) (h1 : Ev C Γ e1 ra m1) (h2 : Ev C Γ e2 rb m2) (h3 : Ev C Γ e3 rc m3) (n1 : NoStar e1) (n2 : NoStar e2) (n3 : NoStar e3) (hd : (x == ("__debug__" : Str)) = false := by decide) (hcm : C.cm = true := by rfl) :
    EvO C Γ (.Call (.Name x p) [e1, e2, e3] [] pos) (oL C.fr r) (do let a ← m1; let b ← m2; let c ← m3; mf (a, b, c, ())) :=
  EvO.callA (mt := do let a ← m1; let t ← (do let b ← m2; let t ← (do let c ← m3; let t ← pure (); pure (c, t)); pure (b, t)); pure (a, t)) hf (fun _ _ _ => rfl) hj hg (EvA.cons h1 (EvA.cons h2 (EvA.cons h3 EvA.nil n3) n2) n1) n1 (EvA.cons h2 (EvA.cons h3 EvA.nil n3) n2).1 hd hcm
end
section
variable {C : Cc} {Γ : List Slot} {α β : Type} {e e1 e2 a b : Expr} {pos p : Pos}
/-! ### comparisons as tests -/
theorem wpAny_isTrue_cmp {M : Model} {A : Around} {E : Value → Shared → Prop} {env : Env} {s : Shared} {l r : Expr} {op : CmpOp} {whole : Sem Value} {Q : Bool → Shared → Prop} (h : wpAny M A (eval (.Compare l [op] [r] pos) env) (fun c s' => wpAny M A (truthy c) Q E s') E s) (hm : behindInMarks op r = false) :
    wpAny M A (isTrue (.Compare l [op] [r] pos) env whole) Q E s := fun Γ p hΓ => by
  have h0 := h Γ p hΓ
  simp only [eval_Compare1, isTrue_Compare1, markedBehindIn_of_false hm, Sem.wp_bind', Sem.wp_holding, Sem.wp_cmd_standAt, Sem.wp_operate] at h0 ⊢
  exact Sem.wp_mono M Γ _ (fun a p₁ s₁ h₁ => Sem.wp_mono M Γ _ (fun b p₂ s₂ h₂ => Sem.wp_mono M Γ _ (fun c p₃ s₃ h₃ => h₃ Γ p₃ hΓ) (fun _ _ _ h' => h') _ _ h₂) (fun _ _ _ h' => h') _ _ h₁) (fun _ _ _ h' => h') _ _ h0
theorem EvT.cmp {op : CmpOp} {m : W Bool} (h : Ev C Γ (.Compare a [op] [b] pos) rB m) (hm : behindInMarks op b = false := by with_unfolding_all rfl) : EvT C Γ (.Compare a [op] [b] pos) m := fun X Wx ok tk F H g σ s Q hw => by
  unfold WT
  intro pins s0 I
  refine wpAny_isTrue_cmp (thn (pe_W.run pins s0 σ H (fun v H' => ∃ k, v = .bl k ∧ Q k H') I (h X Wx ok tk F H g σ s (fun v H' => ∃ k, v = .bl k ∧ Q k H') (m.mono (fun x hx F1 H1 g1 v f1 s1 r1 => ⟨x, r1, hx F1 H1 g1 f1 s1⟩) (fun e he => he) hw))) fun c s3 ⟨z, H3, I3, r3, k, e, q3⟩ => ?_) hm
  subst e
  cases r3
  exact wpAny_truthy_bool ⟨H3, I3, q3⟩
/-! ### loops that may return; mixed ifs: S goes on, ρ is told -/
def Fl.out {S ρ : Type} : Fl S ρ → S ⊕ ρ
  | .go s => .inl s
  | .brk s => .inl s
  | .ret r => .inr r
theorem Ex1.map {ω ω' : Type} {J : ω → Out} {J' : ω' → Out} {st : Stmt} {m : W ω} (f : ω → ω') (h : ∀ o, J' (f o) = J o) (x : Ex1 C Γ st J m) : Ex1 C Γ st J' (do let o ← m; pure (f o)) := fun X Wx ok tk F H g σ s D hm =>
  x X Wx ok tk F H g σ s D (m.mono (fun o z => by
    have z' : OutOk C D F H (dU g) (J' (f o)) := z
    rw [h o] at z'
    exact z') (fun _ z => z) hm)
def outX {S ρ : Type} (Γs : S → List Slot) (R : ρ → Rp) : S ⊕ ρ → Out
  | .inl s => .nx (Γs s)
  | .inr r => .rt (R r)
def outF {S ρ : Type} (Γs : S → List Slot) (R : ρ → Rp) : Fl S ρ → Out
  | .go s => .lp (Γs s)
  | .ret r => .rt (R r)
  | .brk s => .bk (Γs s)
theorem Ex1.forX {S ρ : Type} {tg iter : Expr} {body : List Stmt} {r : α → Rp} {t : TG} {up : List Slot → α → List Slot} {m : W (List α)} {f : S → α → W (Fl S ρ)} (Γs : S → List Slot) (R : ρ → Rp) {s0 : S} (hi : EvI C Γ tg iter r m) (hg : EvG C tg r t up) (h0 : All2 Le1 Γ (Γs s0))
    (hb : ∀ s x, Ex C (up (Γs s) x) body (outF Γs R) (f s x))
    (hs : ∀ (env : Env) x, foldedSetIterable iter env x = pure x := by intro _ _; rfl) (hcm : C.cm = true := by rfl) : Ex1 C Γ (.For tg iter body [] pos) (outX Γs R) (do let o ← (do let xs ← m; W.foldR f s0 xs); pure o.out) :=
  Ex1.map (J := fun o : Fl S ρ => match o with | .go s' => .nx (Γs s') | .ret r => .rt (R r) | .brk s' => .nx (Γs s')) Fl.out (fun o => by cases o <;> rfl) (Ex1.forR Γs (fun r => .rt (R r)) (fun x => .inl ⟨_, rfl⟩) hi hg h0 (fun s x => by
    have := hb s x
    rwa [show outF Γs R = (fun o : Fl S ρ => match o with | .go s' => .lp (Γs s') | .ret r => .rt (R r) | .brk s' => .bk (Γs s')) from funext fun o => by cases o <;> rfl] at this) hs hcm)
/-! ### pure forms -/
theorem Ev.absP {x : Int} (hb : Blt C "abs" (.builtin "abs")) (ha : Ev C Γ e rI (pure x)) (hn : NoStar e) : Ev C Γ (.Call (.Name "abs" p) [e] [] pos) rI (pure (absI x)) := Ev.abs hb ha hn
theorem Ev.lenLP {r : α → Rp} {x : List α} (hb : Blt C "len" (.builtin "len")) (ha : Ev C Γ e (rL C.K r) (pure x)) (hn : NoStar e) : Ev C Γ (.Call (.Name "len" p) [e] [] pos) rI (pure (x.length : Int)) := Ev.lenL hb ha hn
theorem Ev.intBP {x : Bool} (hb : Blt C "int" (.type "int")) (ha : Ev C Γ e rB (pure x)) (hn : NoStar e) : Ev C Γ (.Call (.Name "int" p) [e] [] pos) rI (pure (if x = true then (1 : Int) else 0)) := Ev.intB hb ha hn
theorem Ev.ixLP {r : α → Rp} {xs : List α} {i : Int} (ha : Ev C Γ a (rL C.K r) (pure xs)) (hb : Ev C Γ b rI (pure i)) (hp : PlainIx b := by intro _ _; rfl) : Ev C Γ (.Subscript a b pos) r (idx xs i) := Ev.ixL ha hb hp
theorem Ev.nameP {i : Nat} {x : Str} {ρ : α → Rp} {v : α} (hN : C.N[i]? = some x) (hv : visB C.sc x = true) (hΓ : Γ[i]? = some (.val (ρ v))) (hd : (x == ("__debug__" : Str) || x == ("__classdict__" : Str)) = false) : Ev C Γ (.Name x pos) ρ (pure v) := by
  rw [Bool.or_eq_false_iff] at hd
  exact Ev.name hN (visOf hv) hΓ hd.1 hd.2
theorem Ev.eqTK {K : PySem.W.Frag} (hK : C.K = K) {ma mb : W α} {ρa ρb : α → Rp} [I : DatE K ρa] [J : DatE K ρb] [T : DatT K ρa] [DecidableEq α] (he : I.enc = J.enc) (hda : I.dep ≤ 64) (hdb : J.dep ≤ 64) (ho : I.ok = J.ok) (ha : Ev C Γ a ρa ma) (hb : Ev C Γ b ρb mb) :
    Ev C Γ (.Compare a [.Eq] [b] pos) rB (do let x ← ma; let y ← mb; pure (decide (x = y))) := by subst hK; exact Ev.eqT he hda hdb ho ha hb
theorem Ev.someV {r r' : α → Rp} {m : W α} (s : SubK r r') (h : Ev C Γ e r m) : Ev C Γ e (rO r') (do let x ← m; pure (some x)) := Ev.map some (fun a F v z => s a F v z) h
end
/-! ### the law's def -/
theorem okBody {M : Mc} {x : Str} {f : Addr} {fd : FuncData} {st : Stmt} {k n : Nat} {N ps : List Str} {τ β : Type} {ins : (Addr → Prop) → τ → List Rp} {ρ : (Addr → Prop) → β → Rp} {m : τ → W β} (F : Fun M.K x x st f fd) (S : FnScope N ps (defScope st))
    (hn : ps.length = n) (hl : ∀ N t, (ins N t).length = n) (h : ∀ (fr : Addr → Prop) (t : τ), Ex (initC M N (defScope st) k fr) (Γ0 (ins fr t) N) (defBody st) (fun b => .rt (ρ fr b)) (m t)) : FnOk M.P M.w M.K M.mg M.base (L2.CX M.P M.w) (k + 1) f fd ps (spV M ins ρ m) := by
  refine F.okX S (fun vs H Q E hsp => ?_) (fun cdv A outer s H vs Q E hr hsp => ?_)
  · obtain ⟨t, F', Nf, _, _, r, _⟩ := hsp
    rw [r.length, hl, hn]
  · obtain ⟨t, F', Nf, hNf, sm, r, w⟩ := hsp
    refine ⟨_, pss_W, ?_⟩
    refine h Nf t (cxOf (L2.CX M.P M.w) M.P M.w M.K M.mg M.base N x (defScope st) f cdv A outer s H E) (fun cls d _ H => E cls d H) ⟨⟨rfl, rfl, rfl, rfl, rfl, rfl, rfl, S.nd, rfl, fun _ => hr, hr.units, fun _ _ _ h => (nomatch h), fun _ _ => rfl⟩, passes_of rfl, rfl, rfl⟩ (takes_of rfl rfl rfl rfl) F' H _ _ (start_ok hNf sm r) _ ((m t).mono (fun b hb => ?_) (fun e he => ?_) w)
    · intro F2 H2 g2 v f2 s2 r2
      exact hb F2 H2 g2 v (show Fr F' H (fun _ => False) F2 H2 (dU g2) from ⟨f2.sF, fun b z => (f2.fF b z).imp_right fun q => q.imp_right fun ⟨_, q⟩ => absurd rfl q, fun b o q _ => f2.keep b o q fun ⟨_, z⟩ => absurd rfl z, f2.dom, fun b z => (f2.gs b z).imp_left fun ⟨_, q⟩ => absurd rfl q⟩) s2 r2
    · intro F2 H2 g2 σ2 cls d f2 s2 hx
      exact he F2 H2 g2 cls d ⟨f2.sF, fun b z => (f2.fF b z).imp_right fun q => q.imp_right fun ⟨_, q⟩ => absurd rfl q, fun b o q _ => f2.keep b o q fun ⟨_, z⟩ => absurd rfl z, f2.dom, fun b z => (f2.gs b z).imp_left fun ⟨_, q⟩ => absurd rfl q⟩ s2 hx
end Y

/-! Y11: more expressions -/
namespace Y
open PySem PySem.Spec L2
section
variable {C : Cc} {Γ : List Slot} {α β γ δ : Type} {e e1 e2 a b c : Expr} {pos p p2 : Pos}
/-! ### lists -/
def catL (x y : List α) : W (List α) := W.req (x.length + y.length ≤ sizeLine) (pure (x ++ y))
theorem EvO.cat {r : α → Rp} {ma mb : W (List α)} (ha : Ev C Γ a (rN C.fr r) ma) (hb : Ev C Γ b (rN C.fr r) mb) : EvO C Γ (.BinOp a .Add b pos) (oL C.fr r) (do let x ← ma; let y ← mb; catL x y) :=
  fun X Wx ok tk F H g σ s Q hm => by
    refine WE.of (pe_op op_cat (pe_W (e := a)) (pe_W (e := b))) ?_
    refine ha X Wx ok tk F H g σ s _ (ma.mono (fun x hx F1 H1 g1 v f1 s1 r1 => ?_) (fun e he => he) hm)
    refine hb X Wx ok tk F1 H1 g1 σ s1 _ (mb.mono (fun y hy F2 H2 g2 w f2 s2 r2 => ?_) (fun e he => XEnd.later f1 he) hx)
    obtain ⟨q1, vs1, e1, n1, h1, t1⟩ := (rN C.fr r x).mono f2.sF r1
    obtain ⟨q2, vs2, e2, n2, h2, t2⟩ := r2
    obtain ⟨hl, hy⟩ := hy
    refine ⟨q1, q2, vs1, vs2, e1, e2, s2.sF _ _ h1, s2.sF _ _ h2, by rw [t1.length, t2.length]; exact hl, fun l hl2 => ?_⟩
    exact EvO.fin (O := oL C.fr r (x ++ y)) (f1.trans f2) s2 hl2 (fun n => ⟨l, _, rfl, n, rfl, t1.append t2⟩) hy
/-! ### tuples -/
/-! ### truths, None -/
theorem nnN {N : Addr → Prop} {r : α → Rp} (x : List α) (F : Hp) (v : V) (h : (rN N r x).p F v) : v ≠ .non := fun z => by obtain ⟨_, _, e, _⟩ := h; rw [z] at e; cases e
/-- what is surely not None -/
def theW {α : Type} : Option α → W α
  | some x => pure x
  | none => W.bad
theorem Ev.the {r : α → Rp} {m : W (Option α)} (h : Ev C Γ e (rO r) m) : Ev C Γ e r (do let x ← m; theW x) := fun X Wx ok tk F H g σ s Q hm =>
  h X Wx ok tk F H g σ s Q (m.mono (fun x hx F1 H1 g1 v f1 s1 r1 => by
    cases x with
    | none => exact absurd hx id
    | some x => exact hx F1 H1 g1 v f1 s1 r1) (fun _ h => h) hm)
/-! ### texts -/
def memS (x z : Str) : Bool := match x.cps.toList with
  | [c] => decide (c ∈ z.cps.toList)
  | _ => false
def inSgn (x z : Str) : W Bool := W.req (x.cps.size = 1) (pure (memS x z))
def notInSgn (x z : Str) : W Bool := W.req (x.cps.size = 1) (pure (!memS x z))
def leStr (x y : Str) : Bool := !decide (y.cps.toList < x.cps.toList)
/-! ### chains -/
structure CmpR (C : Cc) (op : CmpOp) (ρa : α → Rp) (ρb : β → Rp) (k : α → β → Bool) : Prop where
  hop : ∀ X, C.Ok X → ∃ r, OpR X (compareOp op) r ∧ ∀ x y H v w Q, (ρa x).p H v → (ρb y).p H w → Q (.bl (k x y)) H → r v w H Q
def chW {α β γ : Type} (k : α → β → Bool) (k' : β → γ → Bool) (x : α) (y : β) (mc : W γ) : W Bool := if k x y = true then (do let z ← mc; pure (k' y z)) else pure false
/-! ### constants of the module -/
end
end Y

/-! Y12: raise, try, isinstance of a caught exception -/
namespace Y
open PySem PySem.Spec L2
/-! ### what the module says of its exceptions -/
/-- x names a class: cv -/
def NamC (M : Mc) (x : Str) (cv : Value) : Prop := (∃ a, cv = .ref a ∧ M.mg x = some (.ref a)) ∨ (∃ T, cv = .type T ∧ M.mg x = none ∧ bootBuiltins x = some (.type T) ∧ x ≠ "__name__")
/-- an exception of class c (an own one) is one of x: b -/
structure IsX (M : Mc) (c x : Str) (b : Bool) : Prop where
  ex : ∃ D cv, M.mg c = some (.ref D) ∧ NamC M x cv ∧ PySem.W.kitOne M.K (.ref D) cv = some b ∧ PySem.W.exmOne M.K (.ref D) cv = some b ∧ ExcC M.K D
def XTab (M : Mc) (tab : List ((Str × Str) × Bool)) : Prop := ∀ p ∈ tab, IsX M p.1.1 p.1.2 p.2
def tabF (tab : List ((Str × Str) × Bool)) (c x : Str) : Option Bool := tab.lookup (c, x)
theorem XTab.of {M : Mc} : ∀ {tab : List ((Str × Str) × Bool)}, XTab M tab → ∀ {c x : Str} {b : Bool}, tabF tab c x = some b → IsX M c x b
  | [], _, _, _, _, e => by cases e
  | (p, d) :: r, h, c, x, b, e => by
    unfold tabF at e
    rw [List.lookup_cons] at e
    split at e
    · rename_i q
      have q' := eq_of_beq q
      cases e
      have := h (p, d) (by simp)
      rw [← q'] at this
      exact this
    · exact XTab.of (fun p hp => h p (List.mem_cons_of_mem _ hp)) e
/-- raise x('..') may be done -/
structure RaiX (M : Mc) (x : Str) : Prop where
  ex : ∃ C, M.mg x = some (.ref C) ∧ PySem.W.excIn M.K C [.type "ValueError", .type "Exception", .type "BaseException", .type "object"] "ValueError.__new__" = true ∧ PySem.W.keepIn M.K (.ref C) = true ∧ PySem.W.subIn M.K (.ref C) (.type "BaseException") = some true ∧ PySem.W.typeIn M.K (.ref C) = some (.type "type")
section
variable {C : Cc} {Γ Γ' : List Slot} {α β ω : Type} {J : ω → Out} {e e1 e2 : Expr} {pos p p2 : Pos} {rest : List Stmt}
theorem Ex.raise {x m : Str} {j : Nat} {p1 : Pos} (hr : RaiX C.toMc x) (hg : C.sc.names.lookup x = some .globalImplicit) (hd : (x == ("__debug__" : Str)) = false := by rfl) (hcm : C.cm = true := by rfl) :
    Ex C Γ (.Raise (some (.Call (.Name x p) [.Constant (.str m) j p2] [] p1)) none pos :: rest) J (W.exc ⟨x, none⟩) :=
  Ex.cons fun X Wx ok tk F H g σ s D hm => by
    obtain ⟨Ca, h1, h2, h3, h4, h5⟩ := hr
    have e3 := ok.toOk.K
    have e4 := ok.toOk.mg
    refine W1.of (ps_raise (ok.toOk.calm.trans hcm) tk (pmk_own PySem.F.excBase_ValueError (by rw [e3]; exact h2) (by rw [e4]; exact h1) (by rw [e3]; exact h3) (raises_own (by rw [e3]; exact h4) (by rw [e3]; exact h5)) (show X.env.scope.names.lookup x = _ by rw [ok.toOk.sc]; exact hg) hd)) ?_
    exact hm F H g σ _ _ Fr.refl s.sF ⟨Ca, h1, rfl, rfl⟩
/-! ### what a try guards: one statement that may raise -/
def ExT (C : Cc) (Γ : List Slot) (sts : List Stmt) {ω : Type} (J : ω → Out) (m : W ω) : Prop :=
  ∀ (X : Cx) (Wx : WX), C.OkS X → Takes X Wx → ∀ (F H : Hp) (g : Nat → Hp) (σ : St), StOk C F H Γ σ g → ∀ D : Ends,
    m.wp (fun o => OutOk C D F H (dU g) (J o)) (XEnd C F H (dU g) Γ σ Wx) → WS X sts D σ H
theorem ExT.cons {st : Stmt} {m : W ω} (h : ∀ (X : Cx) (Wx : WX), C.OkS X → Takes X Wx → ∀ (F H : Hp) (g : Nat → Hp) (σ : St), StOk C F H Γ σ g → ∀ D : Ends,
    m.wp (fun o => OutOk C D F H (dU g) (J o)) (XEnd C F H (dU g) Γ σ Wx) → W1 X st D σ H) : ExT C Γ [st] J m :=
  fun X Wx ok tk F H g σ s D hm => WS.of (pss_one (ps_W (st := st))) (h X Wx ok tk F H g σ s D hm)
theorem ExT.ret {ρ : α → Rp} {m : W α} {f : α → ω} (h : Ev C Γ e ρ m) (hJ : ∀ a, J (f a) = .rt (ρ a)) : ExT C Γ [.Return (some e) pos] J (do let a ← m; pure (f a)) :=
  ExT.cons fun X Wx ok tk F H g σ s D hm => W1.of (ps_ret (pe_W (e := e)))
    (h X Wx ok.toOk tk F H g σ s _ (m.mono (fun a ha F1 H1 g1 v f1 s1 r1 => by
      replace ha : OutOk C D F H (dU g) (J (f a)) := ha
      rw [hJ] at ha
      exact ha F1 H1 g1 v f1 s1.sF r1) (fun e he => he) hm))
theorem ExT.set {i : Nat} {x : Str} {px : Pos} {ρ : α → Rp} {m : W α} {f : α → ω} (hN : C.N[i]? = some x) (hx : Sto C x) (h : Ev C Γ e ρ m) (hJ : ∀ a, J (f a) = .nx (Γ.set i (.val (ρ a))))
    (hs : ∀ X : Cx, C.Ok X → swapsWith e (some (.Name x px)) pos.line X.env = pure false := by intro _ _; rfl) : ExT C Γ [.Assign [.Name x px] e pos] J (do let a ← m; pure (f a)) :=
  ExT.cons fun X Wx ok tk F H g σ s D hm => W1.of (ps_set ok.toOk.ndX (by rw [ok.toOk.N]; exact hN) (hx.loc ok.toOk) (pe_W (e := e)) (hs X ok.toOk) (hx.fn ok.toOk))
    (h X Wx ok.toOk tk F H g σ s _ (m.mono (fun a ha F1 H1 g1 v f1 s1 r1 => by
      replace ha : OutOk C D F H (dU g) (J (f a)) := ha
      rw [hJ] at ha
      exact ha F1 H1 g1 _ f1 (s1.set_val r1)) (fun e he => he) hm))
theorem ExT.ite {c : Expr} {a b : List Stmt} {mc : W Bool} {m1 m2 : W ω} (hc : EvT C Γ c mc) (h1 : ExT C Γ a J m1) (h2 : ExT C Γ b J m2) : ExT C Γ [.If c a b pos] J (do let t ← mc; if t = true then m1 else m2) :=
  ExT.cons fun X Wx ok tk F H g σ s D hm => W1.ifs (hc X Wx ok.toOk tk F H g σ s _ (mc.mono (fun t ht F1 H1 g1 f1 s1 => by
    have ht' : (if t = true then m1 else m2).wp (fun o => OutOk C D F H (dU g) (J o)) (XEnd C F H (dU g) Γ σ Wx) := ht
    clear ht
    cases t with
    | true =>
      rw [if_pos rfl]
      rw [if_pos rfl] at ht'
      have ht := ht'
      exact h1 X Wx ok tk F1 H1 g1 σ s1 D (m1.mono (fun o ho => OutOk.later f1 ho) (fun e he => XEnd.later f1 he) ht)
    | false =>
      rw [if_neg Bool.false_ne_true]
      rw [if_neg Bool.false_ne_true] at ht'
      have ht := ht'
      exact h2 X Wx ok tk F1 H1 g1 σ s1 D (m2.mono (fun o ho => OutOk.later f1 ho) (fun e he => XEnd.later f1 he) ht)) (fun e he => he) hm))
/-! ### suites -/
abbrev Cc.suite (C : Cc) (a : Addr) (cls : Value) (d : Option Addr) : Cc := { C with cm := false, ex := some (a, cls, d) }
theorem Cc.OkS.suite {X : Cx} (ok : C.OkS X) {a : Addr} {cls : Value} {d : Option Addr} {pn : List (Addr × Obj)} {oe : Obj} (hz : Zc cls d oe) (hf : ∃ vs, oe.data = .fields vs) (hr : RoomS C.k X.A) : (C.suite a cls d).OkS (X.suite a ((a, oe) :: pn)) where
  prog := ok.toOk.prog
  w := ok.toOk.w
  K := ok.toOk.K
  mg := ok.toOk.mg
  base := ok.toOk.base
  N := ok.toOk.N
  sc := ok.toOk.sc
  nd := ok.toOk.nd
  calm := rfl
  room := fun h => by cases h
  units := ok.toOk.units
  exc := fun a' cls' d' h => by
    have h' : some (a, cls, d) = some (a', cls', d') := h
    cases h'
    exact ⟨⟨hr.dp, hr.un⟩, X, pn, oe, rfl, hz, hf⟩
  fnc := ok.toOk.fnc
  po := PassesOwn.never
  stk := ok.stk
  frm := ok.frm
theorem StOk.suite {F H : Hp} {σ : St} {g : Nat → Hp} {a : Addr} {cls : Value} {d : Option Addr} : StOk (C.suite a cls d) F H Γ σ g ↔ StOk C F H Γ σ g := ⟨fun s => ⟨s.len, s.slot, s.sF, s.sG, s.dF, s.dG, s.fr⟩, fun s => ⟨s.len, s.slot, s.sF, s.sG, s.dF, s.dG, s.fr⟩⟩
/-- the exception that a suite holds -/
def rX (a : Addr) (_ : Unit) : Rp := ⟨fun _ v => v = .ref a, fun _ h => h⟩
instance {a : Addr} : Fre (rX a) := ⟨fun _ _ _ h _ => h⟩
def tryW {ω : Type} (m : W ω) (c : Str → Option Bool) (h : Exn → W ω) : W ω :=
  ⟨fun P E => m.wp P (fun e => match c e.cls with
      | some true => e.pay = none ∧ (h e).wp P (fun _ => False)
      | some false => E e
      | none => False),
   fun hp he x => m.mono hp (fun e y => by
      split <;> rename_i q <;> simp only [q] at y
      · exact ⟨y.1, (h e).mono hp (fun _ z => z) y.2⟩
      · exact he _ y) x⟩
/-- the outcomes of a suite in whose end slot i is emptied -/
def SuJ (i : Nat) (o : Out) : Prop := (∃ R, o = .rt R) ∨ ∃ Γ, o = .nx Γ ∧ Γ[i]? = some .no
/-! ### isinstance -/
def rCl (cv : Value) (_ : Unit) : Rp := ⟨fun _ v => ClsV v cv, fun _ h => h⟩
theorem Ev.clName {x : Str} {cv : Value} (h : NamC C.toMc x cv) (hg : C.sc.names.lookup x = some .globalImplicit) (hd : (x == ("__debug__" : Str)) = false) : Ev C Γ (.Name x p) (rCl cv) (pure ()) := by
  rcases h with ⟨a, e1, e2⟩ | ⟨T, e1, e2, e3, e4⟩
  · subst e1
    exact Ev.glob (v := .ref a) (u := .ref a) hg e2 rfl (fun _ => .own a) hd
  · subst e1
    exact fun X Wx ok tk F H g σ s Q hm => WE.of (pe_bltn (v := .ty T) (show X.env.scope.names.lookup x = _ by rw [ok.sc]; exact hg) (by rw [ok.mg]; exact e2) e3 rfl e4 hd) (hm F H g _ Fr.refl s (.ty T))
def optW (b : Option Bool) : W Bool := match b with
  | some b => pure b
  | none => W.bad
def isXs (tab : List ((Str × Str) × Bool)) (c : Str) : List Str → Option Bool
  | [] => some false
  | x :: r => match tabF tab c x, isXs tab c r with
    | some b, some d => some (b || d)
    | _, _ => none
inductive NmEs (C : Cc) : List Expr → List Str → Prop
  | nil : NmEs C [] []
  | cons {x : Str} {p : Pos} {es : List Expr} {xs : List Str} (hg : C.sc.names.lookup x = some .globalImplicit) (hd : (x == ("__debug__" : Str)) = false) (h : NmEs C es xs) : NmEs C (.Name x p :: es) (x :: xs)
theorem NmEs.get {c : Str} {A : Addr} {tab : List ((Str × Str) × Bool)} (hT : XTab C.toMc tab) (hc : C.mg c = some (.ref A)) : ∀ {es : List Expr} {xs : List Str} {b : Bool}, NmEs C es xs → isXs tab c xs = some b →
    ∃ cvs : List Value, EvA C Γ es (fun _ : Unit => cvs.map fun cv => rCl cv ()) (pure ()) ∧ PySem.W.kitAny C.K (.ref A) cvs = some b ∧ cvs.length = xs.length
  | [], _, b, .nil, e => ⟨[], EvA.nil, by cases e; rfl, rfl⟩
  | _ :: es, x :: xs, b, .cons hg hd h, e => by
    unfold isXs at e
    split at e
    · rename_i b1 d1 q1 q2
      cases e
      obtain ⟨D, cv, h1, h2, h3, h4, h5⟩ := (hT.of q1).ex
      have h1' := hc.symm.trans h1
      cases h1'
      obtain ⟨cvs, g1, g2, g3⟩ := NmEs.get hT hc h q2
      refine ⟨cv :: cvs, EvA.wCons (r := fun cv => rCl cv ()) (Ev.map (ρ := rCl cv) (m := pure ()) (fun _ => cv) (fun _ _ _ z => z) (Ev.clName h2 hg hd)) g1 (fun _ _ => rfl), ?_, by simp [g3]⟩
      unfold PySem.W.kitAny
      rw [h3]
      cases b1 with
      | true => rfl
      | false => show PySem.W.kitAny C.K (.ref A) cvs = _; rw [g2]; rfl
    · cases e
def rClT (cvs : List Value) (_ : Unit) : Rp := ⟨fun F v => ∃ q vs, v = .ref q ∧ F q = some (.tup vs) ∧ Paired ClsV vs cvs, fun h ⟨q, vs, e, e2, t⟩ => ⟨q, vs, e, h _ _ e2, t⟩⟩
/-- facts of pairs -/
theorem IsX.own {M : Mc} {c x : Str} {D A : Addr} {b : Bool} (h1 : M.mg c = some (.ref D)) (h2 : M.mg x = some (.ref A)) (hE : ExcC M.K D) (hm : PySem.W.mroIn M.K D (.ref A) = some b) (hs : PySem.W.subIn M.K (.ref A) (.type "BaseException") = some true) (hd : PySem.W.hasDictIn M.K A = true)
    (ht : PySem.W.typeIn M.K (.ref A) = some (.type "type")) (hne : D = A → b = true) : IsX M c x b := by
  have hsub : PySem.W.subIn M.K (.ref D) (.ref A) = some b := hm
  have he := PySem.W.exm_ref (cls := .ref D) hs hd ht hsub
  refine ⟨D, .ref A, h1, .inl ⟨A, rfl, h2⟩, ?_, he, hE⟩
  unfold PySem.W.kitOne
  split
  · rename_i q
    have q' : (Value.ref D) = .ref A := eq_of_beq q
    cases q'
    rw [hne rfl]
  · unfold PySem.W.exmOne at he
    rwa [if_pos (by rw [hs]; rfl)] at he
theorem IsX.blt {M : Mc} {c : Str} {D : Addr} {b : Bool} {T : String} {x : Str} (h1 : M.mg c = some (.ref D)) (h2 : M.mg x = none) (hb : bootBuiltins x = some (.type T)) (hn : x ≠ "__name__") (hE : ExcC M.K D) (hm : PySem.W.mroIn M.K D (.type T) = some b) (hk : PySem.W.kitMeta T = true) (hs : PySem.W.subIn M.K (.type T) (.type "BaseException") = some true) : IsX M c x b := by
  have hsub : PySem.W.subIn M.K (.ref D) (.type T) = some b := hm
  have hkc : PySem.W.kitCls M.K (.ref D) (.type T) = some b := by
    show (if PySem.W.kitMeta T = true then PySem.W.subIn M.K (.ref D) (.type T) else Option.none) = some b
    rw [if_pos hk]
    exact hsub
  refine ⟨D, .type T, h1, .inr ⟨T, rfl, h2, hb, hn⟩, ?_, ?_, hE⟩
  · unfold PySem.W.kitOne
    rw [if_neg (by simp)]
    exact hkc
  · unfold PySem.W.exmOne
    rw [if_pos (by rw [hs]; rfl)]
    exact hkc
/-! ### several clauses, without names -/
abbrev Cc.s0 (C : Cc) : Cc := { C with cm := false, ex := none }
theorem StOk.s0 {F H : Hp} {σ : St} {g : Nat → Hp} : StOk C.s0 F H Γ σ g ↔ StOk C F H Γ σ g := ⟨fun s => ⟨s.len, s.slot, s.sF, s.sG, s.dF, s.dG, s.fr⟩, fun s => ⟨s.len, s.slot, s.sF, s.sG, s.dF, s.dG, s.fr⟩⟩
theorem OutOk.s0 {D : Ends} {F H : Hp} {U : Addr → Prop} {o : Out} (h : OutOk C D F H U o) : OutOk C.s0 D F H U o := by
  cases o with
  | nx Γ => exact fun F' H' g' σ' f s => h F' H' g' σ' f (StOk.s0.mp s)
  | lp Γ => exact ⟨fun F' H' g' σ' f s => h.1 F' H' g' σ' f (StOk.s0.mp s), fun F' H' g' σ' f s => h.2 F' H' g' σ' f (StOk.s0.mp s)⟩
  | ct Γ => exact fun F' H' g' σ' f s => h F' H' g' σ' f (StOk.s0.mp s)
  | bk Γ => exact fun F' H' g' σ' f s => h F' H' g' σ' f (StOk.s0.mp s)
  | rt R => exact h
  | rtG R Γ => exact fun F' H' g' σ' v f s => h F' H' g' σ' v f (StOk.s0.mp s)
  | ft => exact h
  | any => exact h
theorem Cc.OkS.s0 {X : Cx} (ok : C.OkS X) {a : Addr} {pn : List (Addr × Obj)} : C.s0.OkS (X.suite a pn) where
  prog := ok.toOk.prog
  w := ok.toOk.w
  K := ok.toOk.K
  mg := ok.toOk.mg
  base := ok.toOk.base
  N := ok.toOk.N
  sc := ok.toOk.sc
  nd := ok.toOk.nd
  calm := rfl
  room := fun h => by cases h
  units := ok.toOk.units
  exc := fun a' cls' d' h => by cases h
  fnc := ok.toOk.fnc
  po := PassesOwn.never
  stk := ok.stk
  frm := ok.frm
def HdW {ω : Type} (P : ω → Prop) (E : Exn → Prop) (e : Exn) : List ((Str → Option Bool) × (Exn → W ω)) → Prop
  | [] => E e
  | (c, h) :: r => match c e.cls with
    | some true => (h e).wp P (fun _ => False)
    | some false => HdW P E e r
    | none => False
theorem HdW.mono {ω : Type} {P P' : ω → Prop} {E E' : Exn → Prop} {e : Exn} (hp : ∀ o, P o → P' o) (he : E e → E' e) : ∀ {l : List ((Str → Option Bool) × (Exn → W ω))}, HdW P E e l → HdW P' E' e l
  | [], h => he h
  | (c, m) :: r, h => by
    unfold HdW at h ⊢
    split <;> rename_i q <;> simp only [q] at h
    · exact (m e).mono hp (fun _ z => z) h
    · exact HdW.mono hp he h
def tryL {ω : Type} (m : W ω) (l : List ((Str → Option Bool) × (Exn → W ω))) : W ω := ⟨fun P E => m.wp P (fun e => HdW P E e l), fun hp he x => m.mono hp (fun e y => HdW.mono hp (he e) y) x⟩
inductive HdE (C : Cc) (Γ : List Slot) {ω : Type} (J : ω → Out) : List ExceptHandler → List ((Str → Option Bool) × (Exn → W ω)) → Prop
  | nil : HdE C Γ J [] []
  | cons {x : Str} {cv : Value} {b₀ : Stmt} {suite : List Stmt} {np pos' : Pos} {hds : List ExceptHandler} {c : Str → Option Bool} {mh : Exn → W ω} {l : List ((Str → Option Bool) × (Exn → W ω))} (hg : C.sc.names.lookup x = some .globalImplicit) (hx : ∀ cls b, c cls = some b → IsX C.toMc cls x b) (hcv : C.mg x = some cv) (hd : (x == ("__debug__" : Str)) = false)
      (hs : ∀ e : Exn, c e.cls = some true → Ex C.s0 Γ (b₀ :: suite) J (mh e)) (r : HdE C Γ J hds l) : HdE C Γ J (.ExceptHandler (some (.Name x np)) none (b₀ :: suite) pos' :: hds) ((c, mh) :: l)
theorem HdE.ok {X : Cx} (ok : C.OkS X) : ∀ {hds : List ExceptHandler} {l : List ((Str → Option Bool) × (Exn → W ω))}, HdE C Γ J hds l → ∃ l', HdsOk X hds l' ∧ ∀ (Wx : WX) (D : Ends) (F H : Hp) (g : Nat → Hp) (σ : St) (e : Exn) (cls : Value) (d : Option Addr) (F1 H1 : Hp) (g1 : Nat → Hp),
    Fr F H (dU g) F1 H1 (dU g1) → StOk C F1 H1 Γ σ g1 → XOk C.toMc e H H1 (dU g1) cls d → HdW (fun o => OutOk C D F H (dU g) (J o)) (XEndS C F H (dU g) Wx) e l → wMany X.K Wx D l' cls d σ H1
  | _, _, .nil => ⟨[], .nil, fun Wx D F H g σ e cls d F1 H1 g1 f s x h => h F1 H1 g1 σ cls d f s.sF x⟩
  | _, _, .cons (x := x) (cv := cv) (b₀ := b₀) (suite := suite) (c := c) (mh := mh) hg hx hcv hd hs r => by
    obtain ⟨l', h1, h2⟩ := HdE.ok ok r
    have hnm : Names X x cv := ⟨show X.env.scope.names.lookup x = _ by rw [ok.toOk.sc]; exact hg, hd, .inl (by rw [ok.toOk.mg]; exact hcv)⟩
    refine ⟨(cv, fun a cls d D σ H => ∀ pn oe, Zc cls d oe → (∃ vs, oe.data = .fields vs) → WS (X.suite a ((a, oe) :: pn)) (b₀ :: suite) D σ H) :: l', .cons hnm (fun a oe cls d pn hz hf => ⟨fun pins s0 σ0 H0 D0 I h => pss_W.run pins s0 σ0 H0 D0 I (h pn oe hz hf)⟩) h1, fun Wx D F H g σ e cls d F1 H1 g1 f s xo h => ?_⟩
    have xo' := xo
    obtain ⟨A, hA, eA, hpay⟩ := xo
    subst eA
    unfold HdW at h
    cases hc : c e.cls with
    | none => simp only [hc] at h
    | some b =>
      simp only [hc] at h
      obtain ⟨D1, cv1, k1, k2, k3, k4, k5⟩ := (hx e.cls b hc).ex
      have e1 : cv1 = cv := by
        rcases k2 with ⟨a2, e2, m2⟩ | ⟨T, e2, m2, _⟩
        · rw [hcv] at m2; rw [e2]; exact (Option.some.inj m2).symm
        · rw [hcv] at m2; cases m2
      subst e1
      rw [hA] at k1
      cases k1
      refine ⟨b, by rw [ok.toOk.K]; exact k4, fun hbt a ha pn2 oe hz hf => ?_, fun hbf => ?_⟩
      · subst hbt
        exact hs e hc (X.suite a ((a, oe) :: pn2)) _ ok.s0 takes0 F1 H1 g1 σ (StOk.s0.mpr s) D ((mh e).mono (fun o ho => OutOk.s0 (OutOk.later f ho)) (fun _ z => z.elim) h)
      · subst hbf
        exact h2 Wx D F H g σ e _ d F1 H1 g1 f s xo' h
end
end Y

/-! Y13: texts' methods, lists of unlike kinds -/
namespace Y
open PySem PySem.Spec L2
section
variable {C : Cc} {Γ : List Slot} {α β γ δ : Type} {e e1 e2 e3 e4 a b o : Expr} {pos p p2 apos : Pos}
theorem All2.txts {F : Hp} {vs : List V} {xs : List Str} (t : All2 (fun u x => (rS x).p F u) vs xs) : vs = xs.map V.str := t.of_map (f := V.str) (fun _ _ h => h)
def joinW (z : Str) (ys : List Str) : W Str := W.req ((ys.map (·.length)).sum + ys.length * z.length ≤ 16777216) (pure (Txt.join z ys))
theorem Ev.join {m1 : W Str} {m2 : W (List Str)} (ho : Ev C Γ o rS m1) (he : Ev C Γ e (rL C.K rS) m2) (hn : NoStar e) (hbase : ∀ X : Cx, attributeBase o "join" X.env (eval o X.env) = eval o X.env := by intro _; rfl) (hline : (apos.endLine == pos.line) = true := by rfl) :
    Ev C Γ (.Call (.Attribute o "join" apos) [e] [] pos) rS (do let x ← m1; let y ← m2; joinW x y) := fun X Wx ok tk F H g σ s Q hm => by
  refine WE.of (pe_join (pe_W (e := o)) (pe_W (e := e)) (hn [] X.env) (hbase X) hline) ?_
  refine ho X Wx ok tk F H g σ s _ (m1.mono (fun x hx F1 H1 g1 v f1 s1 r1 => ?_) (fun e he => he) hm)
  refine ⟨⟨x, r1⟩, he X Wx ok tk F1 H1 g1 σ s1 _ (m2.mono (fun y hy F2 H2 g2 w f2 s2 r2 => ?_) (fun e he => XEnd.later f1 he) hx)⟩
  obtain ⟨q, vs, ev, hq, t⟩ := r2
  have t2 := All2.txts t
  subst t2
  obtain ⟨h1, h2⟩ := hy
  exact ⟨x, q, y, r1, by rw [ev], .inl (by rw [ok.K]; exact s2.sF.seq hq), h1, h2 F2 H2 g2 _ (f1.trans f2) s2 rfl⟩
/-! ### lists of two, three, four unlike things -/
def rH2 (K : PySem.W.Frag) (r1 : α → Rp) (r2 : β → Rp) (x : α × β) : Rp :=
  ⟨fun F v => ∃ a v1 v2, v = .ref a ∧ SqL K F a [v1, v2] ∧ (r1 x.1).p F v1 ∧ (r2 x.2).p F v2, fun h ⟨a, v1, v2, e, q, t1, t2⟩ => ⟨a, v1, v2, e, h.seq q, (r1 _).mono h t1, (r2 _).mono h t2⟩⟩
def oH2 (N : Addr → Prop) (r1 : α → Rp) (r2 : β → Rp) (x : α × β) : Op :=
  ⟨fun F G v => ∃ a v1 v2, v = .ref a ∧ N a ∧ G = one a (.lst [v1, v2]) ∧ (r1 x.1).p F v1 ∧ (r2 x.2).p F v2, fun h ⟨a, v1, v2, e, n, q, t1, t2⟩ => ⟨a, v1, v2, e, n, q, (r1 _).mono h t1, (r2 _).mono h t2⟩⟩
theorem EvO.dispO {es : List Expr} {τ : Type} {ρs : τ → List Rp} {mt : W τ} {O : τ → Op} (hf : ∀ t F q vs, C.fr q → All2 (fun v R => R.p F v) vs (ρs t) → (O t).p F (one q (.lst vs)) (.ref q)) (hl : ∀ t, (ρs t).length ≤ 1000) (ha : EvA C Γ es ρs mt) :
    EvO C Γ (.List es pos) O mt :=
  fun X Wx ok tk F H g σ s Q hm => by
    refine WE.of (pe_lst (pa_W (es := es))) ?_
    refine ha.2 X Wx ok tk F H g σ s _ (mt.mono (fun t ht F1 H1 g1 vs f1 s1 r1 => ?_) (fun e he => he) hm)
    exact ⟨by rw [r1.length]; exact Nat.le_trans (hl t) (by decide), fun l hq => EvO.fin (O := O t) f1 s1 hq (fun n => hf t F1 l vs n r1) ht⟩
theorem Ev.hl2 {r1 : α → Rp} {r2 : β → Rp} {m1 : W α} {m2 : W β} (h1 : Ev C Γ e1 r1 m1) (h2 : Ev C Γ e2 r2 m2) (n1 : NoStar e1) (n2 : NoStar e2) : Ev C Γ (.List [e1, e2] pos) (rH2 C.K r1 r2) (do let x ← m1; let y ← m2; pure (x, y)) := by
  have h := EvO.dispO (pos := pos) (O := fun t : α × β × Unit => oH2 C.fr r1 r2 (t.1, t.2.1)) (fun t F q vs n h => by
    cases h with
    | cons h h' => cases h' with
      | cons h' h'' => cases h''; exact ⟨q, _, _, rfl, n, rfl, h, h'⟩) (fun _ => Nat.le_of_ble_eq_true rfl) (EvA.cons h1 (EvA.cons h2 EvA.nil n2) n1)
  have h3 := EvO.ev (ρ := fun t : α × β × Unit => rH2 C.K r1 r2 (t.1, t.2.1)) (fun t F G v d _ hh => by
    obtain ⟨q, v1, v2, e, n, eg, t1, t2⟩ := (show (oH2 C.fr r1 r2 (t.1, t.2.1)).p F G v from hh)
    subst eg
    exact ⟨q, v1, v2, e, SqL.of (uni_r d q _ one_same), (r1 _).mono uni_l t1, (r2 _).mono uni_l t2⟩) h
  exact Ev.map (ρ' := rH2 C.K r1 r2) (fun t : α × β × Unit => (t.1, t.2.1)) (fun _ _ _ z => z) h3
end
section
variable {K : PySem.W.Frag} {α β : Type}
instance {r1 : α → Rp} {r2 : β → Rp} [I : DatE K r1] [J : DatE K r2] : DatE K (rH2 K r1 r2) where
  enc := fun x => .list [I.enc x.1, J.enc x.2]
  dep := I.dep + J.dep + 3
  ok := fun x => I.ok x.1 ∧ J.ok x.2
  dp := fun ⟨a, v1, v2, e, q, t1, t2⟩ => by subst e; exact .lst q (.cons (I.dp t1) (.cons (J.dp t2) .nil))
  can := fun x h => by simp [PyData.canLay0, PyData.canLayAll0, I.can _ h.1, J.can _ h.2]
  deps := fun x => by
    have := I.deps x.1
    have := J.deps x.2
    simp only [PyData.depth, PyData.depthAll]
    omega
  dec := fun x y => by
    obtain ⟨x1, x2⟩ := x
    obtain ⟨y1, y2⟩ := y
    simp [PyData.eqv, PyData.eqvAll, I.dec, J.dec]
end
end Y

/-! Y14: dicts of texts, instances, methods, making -/
namespace Y
open PySem PySem.Spec L2
/-! ### a dict whose keys are texts, all True -/
def dkv (ks : List Str) : List (Key × V) := ks.map fun k => (.inr k, V.bl true)
def oD (N : Addr → Prop) (ks : List Str) : Op := ⟨fun F G v => ∃ a, v = .ref a ∧ N a ∧ G = one a (.dK (dkv ks)), fun _ h => h⟩
def addK (ks : List Str) (k : Str) : List Str := if k ∈ ks then ks else ks ++ [k]
section
variable {C : Cc} {Γ Γ' : List Slot} {α β γ δ ω : Type} {J : ω → Out} {e e1 e2 e3 o : Expr} {pos p p2 apos : Pos} {rest : List Stmt}
/-! ### instances -/
abbrev Fl2 := List (Str × Rp)
def FldOk (F : Hp) (fs : List (Str × V)) (fl : Fl2) : Prop := All2 (fun (p : Str × V) (q : Str × Rp) => p.1 = q.1 ∧ q.2.p F p.2) fs fl
theorem FldOk.mono {F F' : Hp} (h : Same F F') {fs : List (Str × V)} {fl : Fl2} (x : FldOk F fs fl) : FldOk F' fs fl := x.imp fun _ q z => ⟨z.1, q.2.mono h z.2⟩
theorem FldOk.get {F : Hp} {fs : List (Str × V)} {fl : Fl2} (x : FldOk F fs fl) {f : Str} {R : Rp} (h : fl.lookup f = some R) : ∃ v, fs.lookup f = some v ∧ R.p F v := by
  induction x with
  | nil => cases h
  | @cons a b as bs r _ ih =>
    obtain ⟨a1, a2⟩ := a
    obtain ⟨b1, b2⟩ := b
    obtain ⟨e, r⟩ := r
    have e : a1 = b1 := e
    subst e
    rw [List.lookup_cons] at h ⊢
    split at h
    · cases h; exact ⟨a2, rfl, r⟩
    · exact ih h
theorem FldOk.no {F : Hp} {fs : List (Str × V)} {fl : Fl2} (x : FldOk F fs fl) {f : Str} (h : fl.lookup f = none) : fs.lookup f = none := by
  induction x with
  | nil => rfl
  | @cons a b as bs r _ ih =>
    obtain ⟨a1, a2⟩ := a
    obtain ⟨b1, b2⟩ := b
    obtain ⟨e, r⟩ := r
    have e : a1 = b1 := e
    subst e
    rw [List.lookup_cons] at h ⊢
    split at h
    · cases h
    · exact ih h
theorem FldOk.put {F : Hp} {fs : List (Str × V)} {fl : Fl2} (x : FldOk F fs fl) {f : Str} {R : Rp} {v : V} (h : fl.lookup f = none) (r : R.p F v) : FldOk F (putF f v fs) (fl ++ [(f, R)]) := by
  induction x with
  | nil => exact .cons ⟨rfl, r⟩ .nil
  | @cons a b as bs q t ih =>
    obtain ⟨a1, a2⟩ := a
    obtain ⟨b1, b2⟩ := b
    have e : a1 = b1 := q.1
    subst e
    rw [List.lookup_cons] at h
    split at h
    · cases h
    · rename_i hne
      have hne' : ¬ a1 = f := fun z => by subst z; simp at hne
      show FldOk F (if a1 = f then (a1, v) :: as else (a1, a2) :: putF f v as) ((a1, b2) :: (bs ++ [(f, R)]))
      rw [if_neg hne']
      exact .cons q (ih h)
/-- an instance of the class at A, all of it laid down -/
def rIns (A : Addr) (fl : α → Fl2) (x : α) : Rp := ⟨fun F v => ∃ a dx fs, v = .ref a ∧ F a = some (.ins A dx fs) ∧ F dx = some (.own a) ∧ FldOk F fs (fl x), fun h ⟨a, dx, fs, e, h1, h2, t⟩ => ⟨a, dx, fs, e, h _ _ h1, h _ _ h2, t.mono h⟩⟩
def two (a : Addr) (o : HO) (b : Addr) (u : HO) : Hp := fun c => if c = a then some o else if c = b then some u else none
/-- self, while it is made -/
def oIns (A a dx : Addr) (fl : Fl2) : Op := ⟨fun F G v => ∃ fs, v = .ref a ∧ dx ≠ a ∧ G = two a (.ins A dx fs) dx (.own a) ∧ FldOk F fs fl, fun h ⟨fs, e, n, q, t⟩ => ⟨fs, e, n, q, t.mono h⟩⟩
end
end Y

/-! Y15: methods, making an instance -/
namespace L2
open PySem PySem.Spec PyProof.Rows
section
variable {X : Cx} {CX : CXT} {k : Nat} {f C : Addr} {fd : FuncData} {ps : List Str} {sp : Sp} {E : St → XK} {x m : Str} {p pos apos : Pos} {e o : Expr} {es : List Expr} {ta : TE} {t : TA}
def tMethYS (C : Addr) (m : Str) (sp : Sp) (E : St → XK) (ta : TE) (t : TA) : TE := fun σ H Q => ta σ H fun x H1 => ∃ a dx fs, x = .ref a ∧ H1 a = some (.ins C dx fs) ∧ fs.lookup m = none ∧ t σ H1 fun vs H2 => sp (.ref a :: vs) H2 Q (E σ)
theorem pe_methYX {pl : Sem Bool} (he : PE X o ta) (c : Cls X.K C) (hm : Meth X.K C m f) (F : FnOk X.prog X.w X.K X.mg X.base CX k f fd ps sp) (hr : Room k X.A) (hb : Binds X.K fd ps []) (hx : ∀ σ, PassesAt CX X σ (E σ)) (ha : PA X (e :: es) t)
    (hst : starEach (e :: es) X.env = (false, eval e X.env) :: starEach es X.env := by rfl) (hpl : (backTo pos (starEach es X.env)).any (·.1) = false := by rfl)
    (ht : eval (.Call (.Attribute o m apos) (e :: es) [] pos) X.env = (do
      let ov ← eval o X.env
      standAt apos.atName
      let (f, first) ← holding [ov] (getMethod ov m pl)
      callWith pos f first (backTo pos (starEach (e :: es) X.env)) (backToKw pos (keywordEach [] X.env))) := by rfl) :
    PE X (.Call (.Attribute o m apos) (e :: es) [] pos) (tMethYS C m sp E ta t) := by
  refine ⟨fun pins s σ H Q I h => ?_⟩
  refine PySem.W.methodCall_KW (pl := pl) (thn (he.run pins s σ H _ I h) fun u s1 ⟨x, H1, I1, rx, a, dx, fs, ex, ea, l, q⟩ => ?_) ht
  subst ex
  obtain rfl : u = Value.ref a := rx
  refine getmeth_ok I1 ea c hm l ?_
  refine PySem.W.callWith_K (first := [.ref a]) (h₀ := X.base) I.ok.mod.kin hm.kp (thn (ha.run pos pins s1 σ H1 _ I1 q) fun us s2 ⟨vs, H2, I2, r, q2⟩ => ⟨I2.kIn, ?_⟩) hst hpl
  exact run_fnS (us := .ref a :: us) (vs := .ref a :: vs) F hr hb (hx σ) I2 (.cons rfl r) q2
def tMakeYS (C : Addr) (sp : Sp) (E : St → XK) (t : TA) : TE := fun σ H Q => t σ H fun vs H1 => ∀ x dx, H1 x = none → H1 dx = none → dx ≠ x → sp (.ref x :: vs) (upd (upd H1 dx (.own x)) x (.ins C dx [])) (fun v H2 => v = .non ∧ Q (.ref x) H2) (E σ)
end
end L2
namespace Y
open PySem PySem.Spec L2
/-! ### methods -/
structure MetV (M : Mc) (A : Addr) (x : Str) (j n : Nat) {τ β : Type} (ins : (Addr → Prop) → τ → List Rp) (ρ : (Addr → Prop) → β → Rp) (m : τ → W β) : Prop where
  ex : ∃ f fd ps, FnOk M.P M.w M.K M.mg M.base (L2.CX M.P M.w) j f fd ps (spV M ins ρ m) ∧ Meth M.K A x f ∧ Binds M.K fd ps []
  len : ∀ N t, (ins N t).length = n
/-- what a class must say -/
structure ClsM (M : Mc) (x : Str) (A : Addr) : Prop where
  mg : M.mg x = some (.ref A)
  cls : Cls M.K A
section
variable {C : Cc} {Γ : List Slot} {α β γ δ ε : Type} {e e1 e2 e3 o : Expr} {pos p apos : Pos} {x : Str} {j : Nat} {A : Addr} {fl : α → Fl2}
end
/-- a method by its body -/
theorem MetV.ofBody {M : Mc} {A f : Addr} {fd : FuncData} {x qual : Str} {st : Stmt} {k n : Nat} {N ps : List Str} {τ β : Type} {ins : (Addr → Prop) → τ → List Rp} {ρ : (Addr → Prop) → β → Rp} {m : τ → W β} (F : Fun M.K x qual st f fd) (hM : Meth M.K A x f) (hb : Binds M.K fd ps []) (S : FnScope N ps (defScope st))
    (hn : ps.length = n) (hl : ∀ N t, (ins N t).length = n) (h : ∀ (fr : Addr → Prop) (t : τ), Ex (initC M N (defScope st) k fr) (Γ0 (ins fr t) N) (defBody st) (fun b => .rt (ρ fr b)) (m t)) : MetV M A x (k + 1) n ins ρ m := by
  refine ⟨⟨f, fd, ps, F.okX S (fun vs H Q E hsp => ?_) (fun cdv A outer s H vs Q E hr hsp => ?_), hM, hb⟩, hl⟩
  · obtain ⟨t, F', Nf, _, _, r, _⟩ := hsp
    rw [r.length, hl, hn]
  · obtain ⟨t, F', Nf, hNf, sm, r, w⟩ := hsp
    refine ⟨_, pss_W, ?_⟩
    refine h Nf t (cxOf (L2.CX M.P M.w) M.P M.w M.K M.mg M.base N qual (defScope st) f cdv A outer s H E) (fun cls d _ H => E cls d H) ⟨⟨rfl, rfl, rfl, rfl, rfl, rfl, rfl, S.nd, rfl, fun _ => hr, hr.units, fun _ _ _ h => (nomatch h), fun _ _ => rfl⟩, passes_of rfl, rfl, rfl⟩ (takes_of rfl rfl rfl rfl) F' H _ _ (start_ok hNf sm r) _ ((m t).mono (fun b hb => ?_) (fun e he => ?_) w)
    · intro F2 H2 g2 v f2 s2 r2
      exact hb F2 H2 g2 v (show Fr F' H (fun _ => False) F2 H2 (dU g2) from ⟨f2.sF, fun b z => (f2.fF b z).imp_right fun q => q.imp_right fun ⟨_, q⟩ => absurd rfl q, fun b o q _ => f2.keep b o q fun ⟨_, z⟩ => absurd rfl z, f2.dom, fun b z => (f2.gs b z).imp_left fun ⟨_, q⟩ => absurd rfl q⟩) s2 r2
    · intro F2 H2 g2 σ2 cls d f2 s2 hx
      exact he F2 H2 g2 cls d ⟨f2.sF, fun b z => (f2.fF b z).imp_right fun q => q.imp_right fun ⟨_, q⟩ => absurd rfl q, fun b o q _ => f2.keep b o q fun ⟨_, z⟩ => absurd rfl z, f2.dom, fun b z => (f2.gs b z).imp_left fun ⟨_, q⟩ => absurd rfl q⟩ s2 hx
/-! ### making -/
def spI (M : Mc) (A : Addr) {τ γ : Type} (ins : (Addr → Prop) → τ → List Rp) (fl : γ → Fl2) (m : τ → W γ) : Sp := fun vs H Q E => ∃ (t : τ) (F : Hp) (N : Addr → Prop) (p dx : Addr) (ws : List V), (∀ a, H a = none → N a) ∧ vs = .ref p :: ws ∧ Same F H ∧ F p = none ∧ F dx = none ∧ dx ≠ p ∧ H p = some (.ins A dx []) ∧ H dx = some (.own p) ∧ All2 (fun v R => R.p F v) ws (ins N t) ∧
  (m t).wp (fun y => ∀ F' H' g', Fr F H (fun b => b = p ∨ b = dx) F' H' (dU g') → Same F' H' → (rIns A fl y).p F' (.ref p) → Q .non H') (fun e => ∀ F' H' g' cls d, Fr F H (fun b => b = p ∨ b = dx) F' H' (dU g') → Same F' H' → XOk M e H H' (dU g') cls d → E cls d H')
structure MakV (M : Mc) (x : Str) (A : Addr) (j n : Nat) {τ γ : Type} (ins : (Addr → Prop) → τ → List Rp) (fl : γ → Fl2) (m : τ → W γ) : Prop where
  ex : ∃ f fd ps, FnOk M.P M.w M.K M.mg M.base (L2.CX M.P M.w) j f fd ps (spI M A ins fl m) ∧ Mk M.K A f ∧ Binds M.K fd ps [] ∧ M.mg x = some (.ref A)
  len : ∀ N t, (ins N t).length = n
/-- an instance's making, by the body of __init__ -/
theorem MakV.ofBody {M : Mc} {x : Str} {A f : Addr} {fd : FuncData} {nm qual : Str} {st : Stmt} {k n : Nat} {N ps : List Str} {τ γ : Type} {ins : (Addr → Prop) → τ → List Rp} {fl : γ → Fl2} {m : τ → W γ} (F : Fun M.K nm qual st f fd) (hM : Mk M.K A f) (hmg : M.mg x = some (.ref A)) (hb : Binds M.K fd ps []) (S : FnScope N ps (defScope st))
    (hn : ps.length = n + 1) (hl : ∀ N t, (ins N t).length = n) (Γf : (Addr → Prop) → Addr → Addr → τ → γ → List Slot) (hΓf : ∀ fr p dx t y, (Γf fr p dx t y)[0]? = some (.own (oIns A p dx (fl y)))) (h : ∀ (fr : Addr → Prop) (p dx : Addr) (t : τ), Ex (initC M N (defScope st) k fr) (.own (oIns A p dx []) :: Γ0 (ins fr t) N.tail) (defBody st) (fun y => .nx (Γf fr p dx t y)) (m t)) : MakV M x A (k + 1) n ins fl m := by
  refine ⟨⟨f, fd, ps, F.okX S (fun vs H Q E hsp => ?_) (fun cdv A' outer s H vs Q E hr hsp => ?_), hM, hb, hmg⟩, hl⟩
  · obtain ⟨t, F', Nf, p, dx, ws, _, e, _, _, _, _, _, _, r, _⟩ := hsp
    rw [e, List.length_cons, r.length, hl, hn]
  · obtain ⟨t, F', Nf, p, dx, ws, hNf, e, sm, hFp, hFd, hne, hHp, hHd, r, w⟩ := hsp
    subst e
    refine ⟨_, pss_W, ?_⟩
    have hNne : N ≠ [] := fun z => by
      have := S.pre
      rw [z] at this
      have h0 : ps.length = 0 := by rw [← this]; simp
      omega
    obtain ⟨n0, N', eN⟩ := List.exists_cons_of_ne_nil hNne
    subst eN
    have st0 := start_ok (M := M) (N := N') (sc := defScope st) (k := k) hNf sm r
    have hst : L2.start (n0 :: N') (V.ref p :: ws) = some (V.ref p) :: L2.start N' ws := by
      unfold L2.start
      simp
    have s0 : StOk (initC M (n0 :: N') (defScope st) k Nf) F' H (.own (oIns A p dx []) :: Γ0 (ins Nf t) N') (L2.start (n0 :: N') (V.ref p :: ws)) (setG (fun _ => emp) 0 (two p (.ins A dx []) dx (.own p))) := by
      rw [hst]
      refine ⟨by simp [st0.len], fun i Sl q => ?_, sm, fun i b u q => ?_, fun i b => ?_, fun i j hij b => ?_, hNf⟩
      · cases i with
        | zero =>
          have q' : some (Slot.own (oIns A p dx [])) = some Sl := q
          cases q'
          rw [setG_same]
          exact ⟨_, rfl, [], rfl, hne, rfl, .nil⟩
        | succ i =>
          rw [setG_ne (Nat.succ_ne_zero i)]
          exact st0.slot i Sl q
      · by_cases hi : i = 0
        · subst hi
          rw [setG_same] at q
          unfold two at q
          split at q
          · rename_i e; cases q; rw [e]; exact hHp
          · split at q
            · rename_i e; cases q; rw [e]; exact hHd
            · cases q
        · rw [setG_ne hi] at q; cases q
      · by_cases hi : i = 0
        · subst hi
          rw [setG_same]
          by_cases h1 : b = p
          · exact .inl (by rw [h1]; exact hFp)
          · by_cases h2 : b = dx
            · exact .inl (by rw [h2]; exact hFd)
            · exact .inr (by unfold two; rw [if_neg h1, if_neg h2])
        · rw [setG_ne hi]; exact .inr rfl
      · by_cases hi : i = 0
        · subst hi
          rw [setG_ne (fun z => hij z.symm)]
          exact .inr rfl
        · rw [setG_ne hi]; exact .inl rfl
    have hU : ∀ b, dU (setG (fun _ => emp) 0 (two p (.ins A dx []) dx (.own p))) b → b = p ∨ b = dx := fun b ⟨i, q⟩ => by
      by_cases hi : i = 0
      · subst hi
        rw [setG_same] at q
        unfold two at q
        split at q
        · rename_i e; exact .inl e
        · split at q
          · rename_i e; exact .inr e
          · exact absurd rfl q
      · rw [setG_ne hi] at q; exact absurd rfl q
    refine h Nf p dx t (cxOf (L2.CX M.P M.w) M.P M.w M.K M.mg M.base (n0 :: N') qual (defScope st) f cdv A' outer s H E) (fun cls d _ H => E cls d H) ⟨⟨rfl, rfl, rfl, rfl, rfl, rfl, rfl, S.nd, rfl, fun _ => hr, hr.units, fun _ _ _ h => (nomatch h), fun _ _ => rfl⟩, passes_of rfl, rfl, rfl⟩ (takes_of rfl rfl rfl rfl) F' H _ _ s0 _ ((m t).mono (fun y hy => ?_) (fun e he => ?_) w)
    · intro F2 H2 g2 σ2 f2 s2
      obtain ⟨v, eσ, fs, ev, _, eg, tf⟩ := s2.get_own (hΓf Nf p dx t y)
      refine hy (uni F2 (g2 0)) H2 g2 ⟨f2.sF.trans uni_l, fun b q => ?_, fun b o q n => f2.keep b o q fun z => n (hU b z), f2.dom, fun b z => (f2.gs b z).imp_left (hU b)⟩ (fun b o q => ?_) ⟨p, dx, fs, rfl, ?_, ?_, tf.mono uni_l⟩
      · cases q2 : F2 b with
        | some o => exact (f2.fF b (by rw [q2]; simp)).imp_right fun z => z.imp_right (hU b)
        | none =>
          have : g2 0 b ≠ none := fun z => q (uni_none q2 z)
          rw [eg] at this
          unfold two at this
          split at this
          · rename_i e; exact .inr (.inr (.inl e))
          · split at this
            · rename_i e; exact .inr (.inr (.inr e))
            · exact absurd rfl this
      · rcases of_uni q with q2 | ⟨_, q2⟩
        · exact s2.sF b o q2
        · exact s2.sG 0 b o q2
      · exact uni_r (s2.dF 0) p _ (by rw [eg]; exact if_pos rfl)
      · refine uni_r (s2.dF 0) dx _ ?_
        rw [eg]
        unfold two
        rw [if_neg (by assumption), if_pos rfl]
    · intro F2 H2 g2 σ2 cls d f2 s2 hx
      exact he F2 H2 g2 cls d ⟨f2.sF, fun b z => (f2.fF b z).imp_right fun q => q.imp_right (hU b), fun b o q n => f2.keep b o q fun z => n (hU b z), f2.dom, fun b z => (f2.gs b z).imp_left (hU b)⟩ s2 hx
section
variable {C : Cc} {Γ : List Slot} {α β γ δ ε : Type} {e e1 e2 e3 o : Expr} {pos p apos : Pos} {x : Str} {j : Nat} {A : Addr} {fl : γ → Fl2}
end
end Y

/-! Y16: the yard's kinds, more lists, calls that read own lists -/
namespace Y
open PySem PySem.Spec L2
abbrev WorkV := Str × List (Str × Int) × List (Str × Int)
abbrev YardV := List Str × List WorkV
abbrev rWk (K : PySem.W.Frag) : WorkV → Rp := rT3 K rS (rL K (rT2 K rS rI)) (rL K (rT2 K rS rI))
def flY (K : PySem.W.Frag) (x : YardV) : Fl2 := [("told_goods", rL K rS x.1), ("told_works", rL K (rWk K) x.2)]
section
variable {C : Cc} {Γ Γ' : List Slot} {α β γ δ ε ω : Type} {J : ω → Out} {e e1 e2 e3 e4 e5 e6 o a b : Expr} {pos p p2 apos : Pos} {rest : List Stmt}
/-! ### displays of four to six -/
/-! ### texts in lists -/
/-! ### xs.reverse() -/
theorem Ex.reverse {i : Nat} {x : Str} {px apos cpos : Pos} {r : α → Rp} {xs : List α} {m : W ω} (hN : C.N[i]? = some x) (hv : visB C.sc x = true) (hd : (x == ("__debug__" : Str) || x == ("__classdict__" : Str)) = false) (hΓ : Γ[i]? = some (.own (oL C.fr r xs))) (hr : Ex C (Γ.set i (.own (oL C.fr r xs.reverse))) rest J m)
    (hpe : ∀ X : Cx, PE X (.Name x px) (tVar i) → ∃ t, PE X (.Call (.Attribute (.Name x px) "reverse" apos) [] [] cpos) t ∧ ∀ σ H Q, (∃ a vs, σ[i]? = some (some (.ref a)) ∧ H a = some (.lst vs) ∧ Q .non (upd H a (.lst vs.reverse))) → t σ H Q)
    (hs : ∀ X : Cx, swapsWith (.Call (.Attribute (.Name x px) "reverse" apos) [] [] cpos) none pos.line X.env = pure false := by intro _; rfl) :
    Ex C Γ (.Expr (.Call (.Attribute (.Name x px) "reverse" apos) [] [] cpos) pos :: rest) J m :=
  Ex.cons fun X Wx ok tk F H g σ s D hm => by
    rw [Bool.or_eq_false_iff] at hd
    obtain ⟨t, ht, htr⟩ := hpe X (pe_var (i := i) (by rw [ok.N]; exact hN) (by rw [ok.sc]; exact visOf hv) hd.1 hd.2)
    refine W1.of (ps_expr ht (hs X)) ?_
    obtain ⟨v, eσ, a, vs, ev, na, eg, tt⟩ := s.get_own hΓ
    subst ev
    obtain ⟨s3, f3, hH2⟩ := s.upd_own (O' := oL C.fr r xs.reverse) (o' := .lst vs.reverse) eg eσ (List.getElem?_eq_some_iff.mp hΓ).1 ⟨a, vs.reverse, rfl, na, rfl, tt.reverse⟩
    exact htr _ _ _ ⟨a, vs, eσ, hH2, hr.later ok tk f3 s3 hm⟩
/-! ### a call that reads own lists and tells new things -/
noncomputable def restr (F : Hp) (N : Addr → Prop) : Hp := fun a => by classical exact if N a then F a else none
theorem restr_same {F : Hp} {N : Addr → Prop} : Same (restr F N) F := fun a o h => by
  unfold restr at h
  split at h
  · exact h
  · cases h
theorem restr_at {F : Hp} {N : Addr → Prop} {a : Addr} (h : N a) : restr F N a = F a := if_pos h
/-- all of it is new -/
structure Frs (ρ : (Addr → Prop) → α → Rp) : Prop where
  re : ∀ N b F v, (ρ N b).p F v → (ρ N b).p (restr F N) v
  mo : ∀ N N' b F v, (∀ a, N a → N' a) → (ρ N b).p F v → (ρ N' b).p F v
theorem Frs.fre {r : α → Rp} [I : Fre r] : Frs (fun _ => r) := ⟨fun _ _ _ _ h => I.fre _ _ _ h _, fun _ _ _ _ _ _ h => h⟩
theorem Frs.N {ρ : (Addr → Prop) → α → Rp} (h : Frs ρ) : Frs (fun N => rN N (ρ N)) := ⟨fun N b F v ⟨a, vs, e, n, q, t⟩ => ⟨a, vs, e, n, by rw [restr_at n]; exact q, t.imp fun _ _ z => h.re _ _ _ _ z⟩, fun N N' b F v hn ⟨a, vs, e, n, q, t⟩ => ⟨a, vs, e, hn _ n, q, t.imp fun _ _ z => h.mo _ _ _ _ _ hn z⟩⟩
/-- a new tuple -/
def rX2 (N : Addr → Prop) (r1 : α → Rp) (r2 : β → Rp) (x : α × β) : Rp :=
  ⟨fun F v => ∃ a v1 v2, v = .ref a ∧ N a ∧ F a = some (.tup [v1, v2]) ∧ (r1 x.1).p F v1 ∧ (r2 x.2).p F v2, fun h ⟨a, v1, v2, e, n, q, t1, t2⟩ => ⟨a, v1, v2, e, n, h _ _ q, (r1 _).mono h t1, (r2 _).mono h t2⟩⟩
def rX3 (N : Addr → Prop) (r1 : α → Rp) (r2 : β → Rp) (r3 : γ → Rp) (x : α × β × γ) : Rp :=
  ⟨fun F v => ∃ a v1 v2 v3, v = .ref a ∧ N a ∧ F a = some (.tup [v1, v2, v3]) ∧ (r1 x.1).p F v1 ∧ (r2 x.2.1).p F v2 ∧ (r3 x.2.2).p F v3, fun h ⟨a, v1, v2, v3, e, n, q, t1, t2, t3⟩ => ⟨a, v1, v2, v3, e, n, h _ _ q, (r1 _).mono h t1, (r2 _).mono h t2, (r3 _).mono h t3⟩⟩
theorem Frs.X2 {ρ1 : (Addr → Prop) → α → Rp} {ρ2 : (Addr → Prop) → β → Rp} (h1 : Frs ρ1) (h2 : Frs ρ2) : Frs (fun N => rX2 N (ρ1 N) (ρ2 N)) := ⟨fun N b F v ⟨a, v1, v2, e, n, q, t1, t2⟩ => ⟨a, v1, v2, e, n, by rw [restr_at n]; exact q, h1.re _ _ _ _ t1, h2.re _ _ _ _ t2⟩, fun N N' b F v hn ⟨a, v1, v2, e, n, q, t1, t2⟩ => ⟨a, v1, v2, e, hn _ n, q, h1.mo _ _ _ _ _ hn t1, h2.mo _ _ _ _ _ hn t2⟩⟩
end
end Y

/-! Y17: reverse, calls in short, methods that tell lists of the asker's own -/
namespace Y
open PySem PySem.Spec L2
section
variable {C : Cc} {Γ Γ' : List Slot} {α β γ δ ε ω : Type} {J : ω → Out} {e e1 e2 e3 e4 o : Expr} {pos p apos cpos : Pos} {rest : List Stmt}
variable {x : Str} {j : Nat} {ρ : (Addr → Prop) → ε → Rp}
end
section
variable {C : Cc} {Γ : List Slot} {α β γ δ ε : Type} {e e1 e2 e3 o : Expr} {pos p apos : Pos} {x : Str} {j : Nat} {A : Addr} {fl : α → Fl2}
end
end Y

/-! Y18: bags: a list of two ints that the asked one may change; items of own lists -/
namespace Y
open PySem PySem.Spec L2
/-- what a bag holds -/
def BagL (l : List Int) : Prop := ∃ x y : Int, l = [x, y] ∧ 0 ≤ x ∧ x < 1000000000000000000000000000000000000000000000000000000000000 ∧ 0 ≤ y ∧ y < 2147483647
def oBag (N : Addr → Prop) : Op :=
  ⟨fun _ G v => ∃ (a : Addr) (l : List Int), v = .ref a ∧ N a ∧ G = one a (.lst (l.map V.int)) ∧ BagL l, fun _ x => x⟩
theorem oBag_of {N : Addr → Prop} {F G : Hp} {v : V} {l : List Int} (hl : BagL l) (h : (oL N rI l).p F G v) : (oBag N).p F G v := by
  obtain ⟨a, vs, ev, na, eg, t⟩ := h
  have e := All2.of_map (f := V.int) (fun b a r => r) t
  exact ⟨a, l, ev, na, by rw [eg, e], hl⟩
theorem oBag_open {N : Addr → Prop} {F G : Hp} {v : V} (h : (oBag N).p F G v) : ∃ l, BagL l ∧ (oL N rI l).p F G v := by
  obtain ⟨a, l, ev, na, eg, hl⟩ := h
  exact ⟨l, hl, a, _, ev, na, eg, All2.to_map (R := fun u x => (rI x).p F u) (f := V.int) (fun b => rfl) l⟩
/-- a kind that may be said of another set of places, where they agree on what is there -/
structure Fd {α : Type} (ρ : (Addr → Prop) → α → Rp) : Prop where
  mo : ∀ N N' b F v, (∀ a, F a ≠ none → N a → N' a) → (ρ N b).p F v → (ρ N' b).p F v
theorem Fd.c {α : Type} {r : α → Rp} : Fd (fun _ => r) := ⟨fun _ _ _ _ _ _ h => h⟩
theorem Fd.N {α : Type} {ρ : (Addr → Prop) → α → Rp} (h : Fd ρ) : Fd (fun N => rN N (ρ N)) := ⟨fun N N' b F v hn ⟨a, vs, e, n, q, t⟩ => ⟨a, vs, e, hn a (by rw [q]; simp) n, q, t.imp fun _ _ z => h.mo _ _ _ _ _ hn z⟩⟩
def spB (M : Mc) {τ β : Type} (ins : τ → List Rp) (ρ : (Addr → Prop) → β → Rp) (m : τ → W β) : Sp := fun vs H Q E => ∃ (t : τ) (F G : Hp) (N : Addr → Prop) (a : Addr) (ws : List V), (∀ b, H b = none → N b) ∧ vs = .ref a :: ws ∧ Same F H ∧ Same G H ∧ Dis F G ∧ (oBag (fun _ => True)).p F G (.ref a) ∧ All2 (fun v R => R.p F v) ws (ins t) ∧
  (m t).wp (fun b => ∀ F' H' G' v, Fr F H (fun b => b = a) F' H' (fun b => b = a) → Same F' H' → Same G' H' → Dis F' G' → (oBag (fun _ => True)).p F' G' (.ref a) → (ρ N b).p F' v → Q v H') (fun _ => False)
structure BagV (M : Mc) (x : Str) (j n : Nat) {τ β : Type} (ins : τ → List Rp) (ρ : (Addr → Prop) → β → Rp) (m : τ → W β) : Prop where
  ex : ∃ f fd ps, FnOk M.P M.w M.K M.mg M.base (L2.CX M.P M.w) j f fd ps (spB M ins ρ m) ∧ M.mg x = some (.ref f) ∧ PySem.W.keepIn M.K (.ref f) = true ∧ Binds M.K fd ps []
  len : ∀ t, (ins t).length = n
/-- a state with a private object in slot 0 -/
theorem start_own {M : Mc} {N' : List Str} {n0 : Str} {sc : Scope} {k : Nat} {F H : Hp} {ws : List V} {R : List Rp} {Nf : Addr → Prop} {O : Op} {a : Addr} {o : HO} (hN : ∀ a, H a = none → Nf a) (sm : Same F H) (sg : Same (one a o) H) (dd : Dis F (one a o)) (r : All2 (fun v R => R.p F v) ws R) (ho : O.p F (one a o) (.ref a)) :
    StOk (initC M (n0 :: N') sc k Nf) F H (.own O :: Γ0 R N') (L2.start (n0 :: N') (V.ref a :: ws)) (setG (fun _ => emp) 0 (one a o)) := by
  have st0 := start_ok (M := M) (N := N') (sc := sc) (k := k) hN sm r
  have hst : L2.start (n0 :: N') (V.ref a :: ws) = some (V.ref a) :: L2.start N' ws := by
    unfold L2.start
    simp
  rw [hst]
  refine ⟨by simp [st0.len], fun i Sl q => ?_, sm, fun i b u q => ?_, fun i b => ?_, fun i j hij b => ?_, hN⟩
  · cases i with
    | zero =>
      have q' : some (Slot.own O) = some Sl := q
      cases q'
      rw [setG_same]
      exact ⟨_, rfl, ho⟩
    | succ i =>
      rw [setG_ne (Nat.succ_ne_zero i)]
      exact st0.slot i Sl q
  · by_cases hi : i = 0
    · subst hi
      rw [setG_same] at q
      exact sg b u q
    · rw [setG_ne hi] at q; cases q
  · by_cases hi : i = 0
    · subst hi
      rw [setG_same]
      exact dd b
    · rw [setG_ne hi]; exact .inr rfl
  · by_cases hi : i = 0
    · subst hi
      rw [setG_ne (fun z => hij z.symm)]
      exact .inr rfl
    · rw [setG_ne hi]; exact .inl rfl
theorem BagV.ofBody {M : Mc} {x : Str} {st : Stmt} {k n : Nat} {N ps : List Str} {τ β : Type} {ins : τ → List Rp} {ρ : (Addr → Prop) → β → Rp} {m : τ → W β} (hρ : Fd ρ) (F : FunM M x st ps) (S : FnScope N ps (defScope st))
    (hn : ps.length = n + 1) (hl : ∀ t, (ins t).length = n) (Γf : Addr → List Slot) (hΓf : ∀ a, (Γf a)[0]? = some (.own (oBag (· = a)))) (h : ∀ (fr : Addr → Prop) (ba : Addr) (t : τ), fr ba → Ex (initC M N (defScope st) k fr) (.own (oBag (· = ba)) :: Γ0 (ins t) N.tail) (defBody st) (fun b => .rtG (ρ fr b) (Γf ba)) (m t)) : BagV M x (k + 1) n ins ρ m := by
  obtain ⟨f, fd, F, hmg, hb⟩ := F
  refine ⟨⟨f, fd, ps, F.okX S (fun vs H Q E hsp => ?_) (fun cdv A' outer s H vs Q E hr hsp => ?_), hmg, F.kp, hb⟩, hl⟩
  · obtain ⟨t, F', G, Nf, a, ws, _, e, _, _, _, _, r, _⟩ := hsp
    rw [e, List.length_cons, r.length, hl, hn]
  · obtain ⟨t, F', G, Nf, a, ws, hNf, e, sm, sg, dd, hB, r, w⟩ := hsp
    subst e
    refine ⟨_, pss_W, ?_⟩
    have hNne : N ≠ [] := fun z => by
      have := S.pre
      rw [z] at this
      have h0 : ps.length = 0 := by rw [← this]; simp
      omega
    obtain ⟨n0, N', eN⟩ := List.exists_cons_of_ne_nil hNne
    subst eN
    obtain ⟨a2, l, ea, _, eg, hl0⟩ := hB
    cases ea
    subst eg
    have hHa : H a = some (.lst (l.map V.int)) := sg a _ one_same
    have s0 := start_own (M := M) (N' := N') (n0 := n0) (sc := defScope st) (k := k) (Nf := fun b => Nf b ∨ b = a) (O := oBag (· = a)) (a := a) (o := .lst (l.map V.int)) (fun b z => .inl (hNf b z)) sm sg dd r ⟨a, l, rfl, rfl, rfl, hl0⟩
    have hU : ∀ b, dU (setG (fun _ => emp) 0 (one a (.lst (l.map V.int)))) b → b = a := fun b ⟨i, q⟩ => by
      by_cases hi : i = 0
      · subst hi
        rw [setG_same] at q
        by_cases z : b = a
        · exact z
        · exact absurd (one_ne z) q
      · rw [setG_ne hi] at q; exact absurd rfl q
    refine h (fun b => Nf b ∨ b = a) a t (.inr rfl) (cxOf (L2.CX M.P M.w) M.P M.w M.K M.mg M.base (n0 :: N') x (defScope st) f cdv A' outer s H E) (fun cls d _ H => E cls d H) ⟨⟨rfl, rfl, rfl, rfl, rfl, rfl, rfl, S.nd, rfl, fun _ => hr, hr.units, fun _ _ _ h => (nomatch h), fun _ _ => rfl⟩, passes_of rfl, rfl, rfl⟩ (takes_of rfl rfl rfl rfl) F' H _ _ s0 _ ((m t).mono (fun y hy => ?_) (fun e he => he.elim) w)
    intro F2 H2 g2 σ2 v f2 s2 r2
    obtain ⟨v2, eσ, a3, l3, ev3, ea3, eg3, hl3⟩ := s2.get_own (hΓf a)
    have ea3' : a3 = a := ea3
    rw [ea3'] at eg3
    have d2 : Dis F2 (g2 0) := s2.dF 0
    have hF2 : F2 a = none := by
      rcases d2 a with q | q
      · exact q
      · rw [eg3, one_same] at q; cases q
    refine hy F2 H2 (g2 0) v ⟨f2.sF, fun b z => (f2.fF b z).imp_right fun q => q.imp_right (hU b), fun b o q n => f2.keep b o q fun z => n (hU b z), f2.dom, fun b z => .inl z⟩ s2.sF (s2.sG 0) d2 ⟨a, l3, rfl, trivial, eg3, hl3⟩ (hρ.mo _ _ _ _ _ (fun b hb q => ?_) r2)
    rcases q with q | q
    · exact q
    · rw [q] at hb; exact absurd hF2 hb
section
variable {C : Cc} {Γ Γ' : List Slot} {α β γ δ ε ω : Type} {J : ω → Out} {e e1 e2 e3 : Expr} {pos p p2 : Pos} {rest : List Stmt} {x : Str} {j : Nat}
/-- behind a call that may change a bag -/
theorem StOk.callB {F H F' H' G' : Hp} {σ : St} {g : Nat → Hp} {i : Nat} {a : Addr} {o : HO} {l' : List Int} {N : Addr → Prop} (s : StOk C F H Γ σ g) (hi : Γ[i]? = some (.own (oBag N))) (hσ : σ[i]? = some (some (.ref a))) (hg : g i = one a o) (na : N a) (hl : BagL l')
    (f : Fr F H (fun b => b = a) F' H' (fun b => b = a)) (sF' : Same F' H') (sG' : Same G' H') (d' : Dis F' G') (eg : G' = one a (.lst (l'.map V.int))) : StOk C F' H' Γ σ (setG g i G') ∧ Fr F H (dU g) F' H' (dU (setG g i G')) := by
  have hga : g i a = some o := by rw [hg]; exact one_same
  have hgj : ∀ j, j ≠ i → g j a = none := fun j hj => by
    rcases s.dG j i hj a with q | q
    · exact q
    · rw [hga] at q; cases q
  have hlt := (List.getElem?_eq_some_iff.mp hi).1
  refine ⟨⟨s.len, fun j S q => ?_, sF', fun j => ?_, fun j => ?_, fun j k hjk => ?_, fun b q => ?_⟩, ⟨f.sF, fun b z => (f.fF b z).imp_right fun q => q.imp_right fun q => ⟨i, by rw [q, hga]; simp⟩, fun b o q n => f.keep b o q fun z => n ⟨i, by rw [z, hga]; simp⟩, f.dom, fun b z => ?_⟩⟩
  · by_cases hj : i = j
    · subst hj
      rw [hi] at q
      cases q
      rw [setG_same]
      exact ⟨.ref a, hσ, a, l', rfl, na, eg, hl⟩
    · rw [setG_ne (fun z => hj z.symm)]
      exact (s.slot j S q).mono f.sF
  · by_cases hj : j = i
    · subst hj; rw [setG_same]; exact sG'
    · rw [setG_ne hj]
      intro b u q
      exact f.keep b u (s.sG j b u q) fun z => by rw [z, hgj j hj] at q; cases q
  · by_cases hj : j = i
    · subst hj; rw [setG_same]; exact d'
    · rw [setG_ne hj]
      intro b
      cases q : g j b with
      | none => exact .inr rfl
      | some u =>
        refine .inl ?_
        cases q2 : F' b with
        | none => rfl
        | some w =>
          have hH := s.sG j b u q
          rcases f.fF b (by rw [q2]; simp) with z | z | z
          · rcases s.dF j b with y | y
            · exact absurd y z
            · rw [q] at y; cases y
          · rw [hH] at z; cases z
          · rw [z, hgj j hj] at q; cases q
  · by_cases hj : j = i
    · subst hj
      rw [setG_same, setG_ne (fun z => hjk z.symm)]
      intro b
      by_cases z : b = a
      · subst z; exact .inr (hgj k (fun z => hjk z.symm))
      · exact .inl (by rw [eg]; exact one_ne z)
    · rw [setG_ne hj]
      by_cases hk : k = i
      · subst hk
        rw [setG_same]
        intro b
        by_cases z : b = a
        · subst z; exact .inl (hgj j hj)
        · exact .inr (by rw [eg]; exact one_ne z)
      · rw [setG_ne hk]; exact s.dG j k hjk
  · refine s.fr b ?_
    cases q2 : H b with
    | none => rfl
    | some u => exact absurd q (f.dom b (by rw [q2]; simp))
  · obtain ⟨j, z⟩ := z
    by_cases hj : j = i
    · subst hj
      rw [setG_same, eg] at z
      by_cases y : b = a
      · exact .inl ⟨j, by rw [y, hga]; simp⟩
      · exact absurd (one_ne y) z
    · rw [setG_ne hj] at z
      exact .inl ⟨j, z⟩
theorem Ev.callB {i n : Nat} {y : Str} {es : List Expr} {τ : Type} {N : Addr → Prop} {ins : τ → List Rp} {ρ : (Addr → Prop) → β → Rp} {mf : τ → W β} {mt : W τ} (hf : BagV C.toMc x j n ins ρ mf) (hj : j ≤ C.k) (hg : C.sc.names.lookup x = some .globalImplicit) (hN : C.N[i]? = some y) (hv : visB C.sc y = true) (hΓ : Γ[i]? = some (.own (oBag N))) (ha : EvA C Γ es ins mt)
    (hdy : (y == ("__debug__" : Str) || y == ("__classdict__" : Str)) = false) (hd : (x == ("__debug__" : Str)) = false := by decide) (hcm : C.cm = true := by rfl) : Ev C Γ (.Call (.Name x p) (.Name y p2 :: es) [] pos) (ρ C.fr) (do let t ← mt; W.noX (mf t)) :=
  fun X Wx ok tk F H g σ s Q hm => by
    obtain ⟨⟨f, fd, ps, hF, hmg, hk, hb⟩, hl⟩ := hf
    have e1 := ok.prog
    have e2 := ok.w
    have e3 := ok.K
    have e4 := ok.mg
    have e5 := ok.base
    rw [Bool.or_eq_false_iff] at hdy
    have hns : NoStar (.Name y p2) := fun _ _ => rfl
    refine WE.of (pe_callS (E := fun σ => L2.WE Wx σ) (by rw [e1, e2, e3, e4, e5]; exact hF) ((ok.room hcm).mono hj) (show X.env.scope.names.lookup x = _ by rw [ok.sc]; exact hg) (by rw [e4]; exact hmg) (by rw [e3]; exact hk) (by rw [e3]; exact hb) (fun σ => by
      have := passAt tk σ
      rw [e1, e2] at this
      exact this) (pa_cons (pe_var (i := i) (by rw [ok.N]; exact hN) (by rw [ok.sc]; exact visOf hv) hdy.1 hdy.2) (pa_W (es := es)) (hns es X.env)) hd (hns es X.env) (ha.1 X pos)) ?_
    obtain ⟨v0, eσ, a, l, ev, na, eg, hl0⟩ := s.get_own hΓ
    subst ev
    refine ⟨.ref a, eσ, ?_⟩
    refine ha.2 X Wx ok tk F H g σ s _ (mt.mono (fun t ht F1 H1 g1 vs f1 s1 r1 => ?_) (fun e he => he) hm)
    obtain ⟨v1, eσ1, a1, l1, ev1, na1, eg1, hl1⟩ := s1.get_own hΓ
    rw [eσ] at eσ1
    cases eσ1
    cases ev1
    refine ⟨t, F1, g1 i, C.fr, a, vs, s1.fr, rfl, s1.sF, s1.sG i, s1.dF i, ⟨a, l1, rfl, trivial, eg1, hl1⟩, r1, (mf t).mono (fun b hb F2 H2 G2 v f2 s2 sg2 d2 hB r2 => ?_) (fun e he => he) (show (mf t).wp _ (fun _ => False) from ht)⟩
    · obtain ⟨a2, l2, ea2, _, eg2, hl2⟩ := hB
      cases ea2
      obtain ⟨s3, f3⟩ := s1.callB hΓ eσ eg1 na hl2 f2 s2 sg2 d2 eg2
      exact hb F2 H2 _ v (f1.trans f3) s3 r2
theorem Ev.callG1 {i : Nat} {y : Str} {N : Addr → Prop} {ra : α → Rp} {ρ : (Addr → Prop) → β → Rp} {m1 : W α} {mf : α × Unit → W β} (hf : BagV C.toMc x j 1 (fun t => [ra t.1]) ρ mf) (hj : j ≤ C.k) (hg : C.sc.names.lookup x = some .globalImplicit) (hN : C.N[i]? = some y) (hv : visB C.sc y = true) (hΓ : Γ[i]? = some (.own (oBag N))) (h1 : Ev C Γ e1 ra m1) (n1 : NoStar e1)
    (hdy : (y == ("__debug__" : Str) || y == ("__classdict__" : Str)) = false) (hd : (x == ("__debug__" : Str)) = false := by decide) (hcm : C.cm = true := by rfl) : Ev C Γ (.Call (.Name x p) [.Name y p2, e1] [] pos) (ρ C.fr) (do let a ← m1; W.noX (mf (a, ()))) := by
  have q := Ev.callB (p := p) (p2 := p2) (pos := pos) hf hj hg hN hv hΓ (EvA.cons h1 EvA.nil n1) hdy hd hcm
  exact q
/-- a new bag -/
theorem EvO.bag {m : W (List Int)} (h : EvO C Γ e (oL C.fr rI) m) : EvO C Γ e (fun _ : Unit => oBag C.fr) (do let l ← m; W.req (BagL l) (pure ())) :=
  fun X Wx ok tk F H g σ s Q hm => h X Wx ok tk F H g σ s Q (m.mono (fun l hl F' H' g' G v f s1 sG d dG nG r => by
    obtain ⟨hb, hl⟩ := hl
    exact hl F' H' g' G v f s1 sG d dG nG (oBag_of hb r)) (fun _ z => z) hm)
/-- a bag's content -/
theorem Ex.openBag {i : Nat} {N : Addr → Prop} {sts : List Stmt} {k : List Int → W ω} (hΓ : Γ[i]? = some (.own (oBag N))) (h : ∀ l, Ex C (Γ.set i (.own (oL N rI l))) sts J (k l)) : Ex C Γ sts J (W.any BagL >>= k) :=
  fun X Wx ok tk F H g σ s D hm => by
    obtain ⟨v, eσ, r⟩ := s.get_own hΓ
    obtain ⟨l, hl, r2⟩ := oBag_open r
    refine h l X Wx ok tk F H g σ ⟨by simp [s.len], fun q S e => ?_, s.sF, s.sG, s.dF, s.dG, s.fr⟩ D (hm l hl)
    by_cases hq : i = q
    · subst hq
      rw [List.getElem?_set_self (List.getElem?_eq_some_iff.mp hΓ).1] at e
      cases e
      exact ⟨v, eσ, r2⟩
    · rw [List.getElem?_set_ne hq] at e
      exact s.slot q S e
theorem Ex.retB {i : Nat} {N : Addr → Prop} {l : List Int} {ρ : α → Rp} {m : W α} (f : α → ω) (hΓ : Γ[i]? = some (.own (oL N rI l))) (hJ : ∀ a, J (f a) = .rtG (ρ a) Γ') (hs : All2 Le1 (Γ.set i (.own (oBag N))) Γ') (h : Ev C Γ e ρ m) : Ex C Γ (.Return (some e) pos :: rest) J (do let a ← m; W.req (BagL l) (pure (f a))) :=
  Ex.cons fun X Wx ok tk F H g σ s D hm => W1.of (ps_ret (pe_W (e := e))) (h X Wx ok.toOk tk F H g σ s _ (m.mono (fun a ha F1 H1 g1 v f1 s1 r1 => by
    obtain ⟨hb, ha⟩ := ha
    replace ha : OutOk C D F H (dU g) (J (f a)) := ha
    rw [hJ] at ha
    have s2 : StOk C F1 H1 (Γ.set i (.own (oBag N))) σ g1 := by
      refine ⟨by simp [s1.len], fun q S e => ?_, s1.sF, s1.sG, s1.dF, s1.dG, s1.fr⟩
      by_cases hq : i = q
      · subst hq
        rw [List.getElem?_set_self (List.getElem?_eq_some_iff.mp hΓ).1] at e
        cases e
        obtain ⟨v, eσ, r⟩ := s1.get_own hΓ
        exact ⟨v, eσ, oBag_of hb r⟩
      · rw [List.getElem?_set_ne hq] at e
        exact s1.slot q S e
    exact ha F1 H1 g1 σ v f1 (s2.weak (Sub.of hs)) r1) (fun e he => he.ex) hm))
/-- xs[i] = e, the list at any place -/
theorem Ex.setIxN {i : Nat} {N : Addr → Prop} {px spos : Pos} {r : α → Rp} {xs : List α} {m : W α} {mi : W Int} {ix : Expr} {k : List α → W ω} (hN : C.N[i]? = some x) (hv : visB C.sc x = true) (hΓ : Γ[i]? = some (.own (oL N r xs))) (h : Ev C Γ e r m) (hi : Ev C Γ ix rI mi) (hr : ∀ ys, Ex C (Γ.set i (.own (oL N r ys))) rest J (k ys))
    (hd : (x == ("__debug__" : Str)) = false := by decide) (hcd : (x == ("__classdict__" : Str)) = false := by decide) (hs : ∀ X : Cx, swapsWithSole [.Subscript (.Name x px) ix spos] e pos.line X.env = pure false := by intro _; rfl)
    (hw : ∀ X : Cx, swappedStores [.Subscript (.Name x px) ix spos] e X.env = pure none := by intro _; rfl) (h1 : ∀ X : Cx, (assignEach [.Subscript (.Name x px) ix spos] X.env).map (·.2) = [assign (.Subscript (.Name x px) ix spos) X.env] := by intro _; rfl)
    (hpg : ∀ X : Cx, PE X (.Name x px) (tVar i) → PG X (.Subscript (.Name x px) ix spos) (gSub (tVar i) (WE X ix) rSetL)) :
    Ex C Γ (.Assign [.Subscript (.Name x px) ix spos] e pos :: rest) J (do let a ← m; let j ← mi; let ys ← setI xs j a; k ys) :=
  Ex.cons fun X Wx ok tk F H g σ s D hm => by
    refine W1.of (ps_asg (pe_W (e := e)) (hpg X (pe_var (i := i) (by rw [ok.N]; exact hN) (by rw [ok.sc]; exact visOf hv) hd hcd)) (hs X) (hw X) (h1 X)) ?_
    refine h X Wx ok.toOk tk F H g σ s _ (m.mono (fun y hy F1 H1 g1 w f1 s1 r1 => ?_) (fun e he => he.ex) hm)
    obtain ⟨v, eσ, a, vs, ev, na, eg, t⟩ := s1.get_own hΓ
    subst ev
    refine ⟨.ref a, eσ, ?_⟩
    refine hi X Wx ok.toOk tk F1 H1 g1 σ s1 _ (mi.mono (fun j hj F2 H2 g2 u f2 s2 r2 => ?_) (fun e he => (he.later f1).ex) hy)
    obtain ⟨v', eσ', a', vs', ev', na', eg', t'⟩ := s2.get_own hΓ
    rw [eσ] at eσ'
    cases eσ'
    cases ev'
    replace hj : (W.bind (setI xs j y) k).wp _ _ := hj
    unfold setI at hj
    cases q : ixN xs.length j with
    | none => rw [q] at hj; exact hj.elim
    | some n =>
      rw [q] at hj
      obtain ⟨s3, f3, hH2⟩ := s2.upd_own (O' := oL N r (xs.set n y)) (o' := .lst (vs'.set n w)) eg' eσ (List.getElem?_eq_some_iff.mp hΓ).1 ⟨a, vs'.set n w, rfl, na', rfl, t'.set ((r y).mono f2.sF r1) n⟩
      exact ⟨a, vs', j, n, rfl, r2, hH2, by rw [t'.length]; exact q, (hr _).later ok tk (f1.trans (f2.trans f3)) s3 hj⟩
end
end Y

/-! Y19: what may be None, dicts of ints, sorted -/
namespace Y
open PySem PySem.Spec L2
section
variable {α β : Type}
theorem All2.zipL {R : α → β → Prop} : ∀ {as : List α} {bs : List β}, All2 R as bs → ∀ p ∈ as.zip bs, R p.1 p.2
  | _, _, .nil, p, h => by simp at h
  | _, _, .cons r t, p, h => by
    rcases List.mem_cons.mp h with q | q
    · rw [q]; exact r
    · exact All2.zipL t p q
theorem All2.ofMem {γ : Type} {R : α → β → Prop} (f : γ → α) (k : γ → β) : ∀ (zs : List γ), (∀ z ∈ zs, R (f z) (k z)) → All2 R (zs.map f) (zs.map k)
  | [], _ => .nil
  | z :: zs, h => .cons (h z (by simp)) (All2.ofMem f k zs fun y hy => h y (by simp [hy]))
theorem All2.zipSnd {R : α → β → Prop} {as : List α} {bs : List β} (h : All2 R as bs) : (as.zip bs).map Prod.snd = bs := List.map_snd_zip (by rw [h.length]; exact Nat.le_refl _)
end
/-! ### sorted(lists of ints) -/
abbrev leR (p q : List Int) : Bool := decide (p ≤ q)
def rSortedR (K : PySem.W.Frag) : List V → Hp → VK → Prop := fun vs H Q => ∃ (a : Addr) (xs : List V) (ns : List (List Int)), vs = [V.ref a] ∧ SqL K H a xs ∧ All2 (fun u n => ∃ b, u = V.ref b ∧ SqL K H b (n.map V.int)) xs ns ∧
  ∀ (zs : List (V × List Int)) (p : Addr), (∀ z ∈ zs, z ∈ xs.zip ns) → zs.map Prod.snd = ns.mergeSort leR → H p = none → Q (.ref p) (upd H p (.lst (zs.map Prod.fst)))
theorem eachOf {X : Cx} {pins : List (Addr × Obj)} {σ : St} {H : Hp} {s : Shared} (I : Inv X pins σ H s) : ∀ {xs : List V} {ns : List (List Int)} {us : List Value}, All2 (fun u n => ∃ b, u = V.ref b ∧ SqL X.K H b (n.map V.int)) xs ns → Vals xs us →
    PySem.W.EachIs (fun v (b : V × List Int) => RelV b.1 v) us (xs.zip ns) ∧ PySem.W.EachIs (fun v (b : V × List Int) => ∃ as, Reads s.heap v (.list (b.2.map .int)) as) us (xs.zip ns)
  | _, _, _, .nil, r => by cases r; exact ⟨.nil, .nil⟩
  | _, _, _, .cons h t, r => by
    cases r with
    | cons r1 r2 =>
      obtain ⟨e1, e2⟩ := eachOf I t r2
      refine ⟨.cons r1 e1, .cons ?_ e2⟩
      obtain ⟨b, eb, hs⟩ := h
      subst eb
      refine Dp.reads I _ _ _ (Dp.lst hs ?_) r1
      have hints : ∀ n : List Int, DpAll X.K H (n.map V.int) (n.map PyData.int) := fun n => by
        induction n with
        | nil => exact .nil
        | cons x n ih => exact .cons (.int x) ih
      exact hints _
theorem valsOf {zs : List (V × List Int)} {out : List Value} (h : PySem.W.EachIs (fun v (b : V × List Int) => RelV b.1 v) out zs) : Vals (zs.map Prod.fst) out := by
  induction h with
  | nil => exact .nil
  | cons r _ ih => exact .cons r ih
theorem depth_row (n : List Int) : (PyData.list (n.map .int)).depth ≤ 1 := by
  rw [PyData.depth, PySem.W.depth_ints]
  decide
theorem cr_sortedR {X : Cx} (hu : X.A.units + 64 < cLine) : CallR X (.builtin "sorted") (rSortedR X.K) := by
  intro pins s σ H vs us Q I r h
  obtain ⟨a, xs, ns, rfl, hs, t, q⟩ := h
  obtain ⟨its, rv, hl, hz⟩ := I.list hs
  rw [Vals.ref1 r]
  obtain ⟨e1, e2⟩ := eachOf I t rv
  have hlen : (xs.zip ns).length = xs.length := by rw [List.length_zip, t.length, Nat.min_self]
  refine PySem.W.sorted_data (vs := its) (bs := xs.zip ns) (enc := fun b => .list (b.2.map .int)) (R := fun v b => RelV b.1 v) hl.isList e1 e2 (PySem.W.AllAlike.of fun b b' => by
    show PySem.W.alike (.list _) (.list _) = true
    rw [PySem.W.alike]
    exact PySem.W.alike_ints _ _) (PySem.W.Sortable.others fun b => ⟨(by simp), fun ys => by simp⟩) (by rw [hlen]; exact hz) (fun b _ => by have := depth_row b.2; omega) (fun out ho hE => ?_)
  rw [PySem.W.dataLe_rows (fun b : V × List Int => b.2)] at hE
  obtain ⟨ep, he'⟩ := PyProof.Rows.sortedAll_at s.heap its out.toArray
  have hv := valsOf hE
  have hl2 : (((xs.zip ns).mergeSort fun p q => decide (p.2 ≤ q.2)).map Prod.fst).length ≤ sizeLine := by rw [List.length_map, List.length_mergeSort, hlen]; exact hz
  refine ⟨.ref _, upd H (s.heap.objs.size + 1) (.lst (((xs.zip ns).mergeSort fun p q => decide (p.2 ≤ q.2)).map Prod.fst)), I.laid (t' := s.toks) (fun _ _ => PyProof.Rows.sortedAll_old) (Nat.le_succ _) ⟨hl2, out, ep, hv, he'⟩, rfl, q _ _ (fun z hz => (List.mergeSort_perm _ _).mem_iff.mp hz) ?_ (I.hok.fresh (Nat.le_succ _))⟩
  rw [List.map_mergeSort (s := leR) (fun _ _ _ _ => rfl), t.zipSnd]
section
variable {C : Cc} {Γ Γ' : List Slot} {α β γ δ ε ω : Type} {J : ω → Out} {e e1 e2 e3 : Expr} {pos p p2 spos : Pos} {rest : List Stmt} {x : Str}
theorem EvO.sortR {r : List Int → Rp} {m : W (List (List Int))} (hr : SubK r (rL C.K rI)) (hb : Blt C "sorted" (.builtin "sorted")) (ha : Ev C Γ e (rL C.K r) m) (hn : NoStar e) : EvO C Γ (.Call (.Name "sorted" p) [e] [] pos) (oL C.fr r) (do let xs ← m; pure (xs.mergeSort leR)) :=
  fun X Wx ok tk F H g σ s Q hm => by
    refine WE.of (pe_callB (cr_sortedR ok.units) (hb.gl ok) (by rw [ok.mg]; exact hb.m) hb.v (pa_cons (pe_W (e := e)) pa_nil (hn [] X.env)) hb.n hb.d (hn [] X.env) rfl) ?_
    refine ha X Wx ok tk F H g σ s _ (m.mono (fun xs hx F1 H1 g1 v f1 s1 r1 => ?_) (fun e he => he) hm)
    obtain ⟨q, vs, ev, hq, t⟩ := r1
    refine ⟨q, vs, xs, by rw [ev], by rw [ok.K]; exact s1.sF.seq hq, t.imp fun u n z => ?_, fun zs l h1 h2 hl => EvO.fin (O := oL C.fr r (xs.mergeSort leR)) f1 s1 hl (fun n => ⟨l, _, rfl, n, rfl, ?_⟩) hx⟩
    · obtain ⟨b, us, eb, hb2, t2⟩ := (hr _ _ _ z)
      exact ⟨b, eb, by rw [ok.K, ← t2.ints]; exact s1.sF.seq hb2⟩
    · rw [← h2]
      exact All2.ofMem Prod.fst Prod.snd zs fun z hz => t.zipL z (h1 z hz)
/-- sorted(ints) -/
def Srt (xs ys : List Int) : Prop := ys.Perm xs ∧ ys.Pairwise (· ≤ ·)
/-! ### what may be None, taken as it is -/
def optG (o : Option α) : W α := match o with
  | some x => pure x
  | none => W.bad
theorem Ev.unO {r : α → Rp} {m : W (Option α)} (h : Ev C Γ e (rO r) m) : Ev C Γ e r (do let o ← m; optG o) :=
  fun X Wx ok tk F H g σ s Q hm => h X Wx ok tk F H g σ s Q (m.mono (fun o ho F1 H1 g1 v f1 s1 r1 => by
    cases o with
    | none => exact ho.elim
    | some x => exact ho F1 H1 g1 v f1 s1 r1) (fun _ z => z) hm)
/-! ### dicts whose keys are ints -/
def kvI (vs : List (Int × V)) : List (Key × V) := vs.map fun q => (.inl q.1, q.2)
def oDI (N : Addr → Prop) (r : α → Rp) (kvs : List (Int × α)) : Op :=
  ⟨fun F G v => ∃ (a : Addr) (vs : List (Int × V)), v = .ref a ∧ N a ∧ G = one a (.dK (kvI vs)) ∧ All2 (fun (q : Int × V) (p : Int × α) => q.1 = p.1 ∧ (r p.2).p F q.2) vs kvs, fun h ⟨a, vs, e, n, q, t⟩ => ⟨a, vs, e, n, q, t.imp fun _ _ z => ⟨z.1, (r _).mono h z.2⟩⟩⟩
def rDI (N : Addr → Prop) (r : α → Rp) (kvs : List (Int × α)) : Rp :=
  ⟨fun F v => ∃ (a : Addr) (vs : List (Int × V)), v = .ref a ∧ N a ∧ F a = some (.dK (kvI vs)) ∧ All2 (fun (q : Int × V) (p : Int × α) => q.1 = p.1 ∧ (r p.2).p F q.2) vs kvs, fun h ⟨a, vs, e, n, q, t⟩ => ⟨a, vs, e, n, h _ _ q, t.imp fun _ _ z => ⟨z.1, (r _).mono h z.2⟩⟩⟩
theorem oDI_rDI {N : Addr → Prop} {r : α → Rp} {xs : List (Int × α)} {F G : Hp} {v : V} (d : Dis F G) (h : (oDI N r xs).p F G v) : (rDI N r xs).p (uni F G) v := by
  obtain ⟨a, vs, e, n, q, t⟩ := h
  refine ⟨a, vs, e, n, ?_, t.imp fun _ _ z => ⟨z.1, (r _).mono uni_l z.2⟩⟩
  subst q
  exact uni_r d a _ one_same
def putI (kvs : List (Int × α)) (k : Int) (x : α) : List (Int × α) := if (kvs.any fun p => decide (p.1 = k)) = true then kvs.map (fun p => if p.1 = k then (k, x) else p) else kvs ++ [(k, x)]
def getI (kvs : List (Int × α)) (k : Int) : Option α := (kvs.find? fun p => decide (p.1 = k)).map (·.2)
theorem kvI_put {vs : List (Int × V)} {k : Int} {u : V} : putK (kvI vs) (.inl k) u = kvI (putI vs k u) := by
  unfold putK putI
  have h1 : ((kvI vs).any fun kv => decide (kv.1 = (Sum.inl k : Key))) = vs.any fun p => decide (p.1 = k) := by
    unfold kvI
    rw [List.any_map]
    congr 1
    funext q
    simp [Function.comp]
  rw [h1]
  split
  · unfold kvI
    rw [List.map_map, List.map_map]
    refine List.map_congr_left fun q _ => ?_
    simp only [Function.comp]
    by_cases h : q.1 = k
    · simp [h]
    · rw [if_neg h, if_neg (fun z => h (Sum.inl.inj z))]
  · unfold kvI
    simp
theorem kvI_get {F : Hp} {r : α → Rp} {vs : List (Int × V)} {kvs : List (Int × α)} (t : All2 (fun (q : Int × V) (p : Int × α) => q.1 = p.1 ∧ (r p.2).p F q.2) vs kvs) {k : Int} {y : α} (h : getI kvs k = some y) : ∃ u, valV (kvI vs) (.inl k) = some u ∧ (r y).p F u := by
  induction t with
  | nil => cases h
  | @cons a b as bs q t ih =>
    unfold getI at h ih
    unfold valV kvI at ih ⊢
    rw [List.map_cons, List.find?_cons]
    rw [List.find?_cons] at h
    by_cases e : b.1 = k
    · have e2 : a.1 = k := q.1.trans e
      simp only [e, decide_true, Option.map_some, Option.some.injEq] at h
      simp only [e2, decide_true, Option.map_some]
      exact ⟨_, rfl, by rw [← h]; exact q.2⟩
    · have e2 : ¬ a.1 = k := fun z => e (q.1.symm.trans z)
      have e3 : ¬ (Sum.inl a.1 : Key) = Sum.inl k := fun z => e2 (Sum.inl.inj z)
      simp only [decide_eq_false e] at h
      simp only [decide_eq_false e3]
      exact ih h
theorem All2.put {F : Hp} {r : α → Rp} {vs : List (Int × V)} {kvs : List (Int × α)} (t : All2 (fun (q : Int × V) (p : Int × α) => q.1 = p.1 ∧ (r p.2).p F q.2) vs kvs) {k : Int} {y : α} {u : V} (h : (r y).p F u) : All2 (fun (q : Int × V) (p : Int × α) => q.1 = p.1 ∧ (r p.2).p F q.2) (putI vs k u) (putI kvs k y) := by
  have e : (vs.any fun p => decide (p.1 = k)) = kvs.any fun p => decide (p.1 = k) := by
    induction t with
    | nil => rfl
    | cons q t ih => rw [List.any_cons, List.any_cons, ih, q.1]
  unfold putI
  rw [e]
  split
  · clear e
    rename_i e
    clear e
    induction t with
    | nil => exact .nil
    | @cons a b as bs q t ih =>
      rw [List.map_cons, List.map_cons]
      refine .cons ?_ ih
      by_cases z : b.1 = k
      · rw [if_pos (q.1.trans z), if_pos z]; exact ⟨rfl, h⟩
      · rw [if_neg (fun y => z (q.1.symm.trans y)), if_neg z]; exact q
  · exact t.append (.cons ⟨rfl, h⟩ .nil)
theorem EvO.dictI0 {r : α → Rp} : EvO C Γ (.Dict [] [] pos) (oDI C.fr r) (pure []) := fun X Wx ok tk F H g σ s Q hm => by
  refine WE.of pe_dnewK fun l hq => ?_
  exact EvO.fin (O := oDI C.fr r []) Fr.refl s hq (fun n => ⟨l, [], rfl, n, rfl, .nil⟩) hm
theorem Ex.setKeyI {i : Nat} {px : Pos} {r : α → Rp} {kvs : List (Int × α)} {m : W α} {mi : W Int} {ix : Expr} {k : List (Int × α) → W ω} (hN : C.N[i]? = some x) (hv : visB C.sc x = true) (hΓ : Γ[i]? = some (.own (oDI C.fr r kvs))) (h : Ev C Γ e r m) (hi : Ev C Γ ix rI mi) (hr : ∀ z, Ex C (Γ.set i (.own (oDI C.fr r z))) rest J (k z))
    (hd : (x == ("__debug__" : Str) || x == ("__classdict__" : Str)) = false) (hs : ∀ X : Cx, swapsWithSole [.Subscript (.Name x px) ix spos] e pos.line X.env = pure false := by intro _; rfl)
    (hw : ∀ X : Cx, swappedStores [.Subscript (.Name x px) ix spos] e X.env = pure none := by intro _; rfl) (h1 : ∀ X : Cx, (assignEach [.Subscript (.Name x px) ix spos] X.env).map (·.2) = [assign (.Subscript (.Name x px) ix spos) X.env] := by intro _; rfl)
    (hpg : ∀ X : Cx, X.A.units + 1 < cLine → PE X (.Name x px) (tVar i) → PG X (.Subscript (.Name x px) ix spos) (gSub (tVar i) (WE X ix) rSetD)) :
    Ex C Γ (.Assign [.Subscript (.Name x px) ix spos] e pos :: rest) J (do let a ← m; let z ← mi; W.req (kvs.length ≤ 1000000) (pure (putI kvs z a)) >>= k) :=
  Ex.cons fun X Wx ok tk F H g σ s D hm => by
    rw [Bool.or_eq_false_iff] at hd
    refine W1.of (ps_asg (pe_W (e := e)) (hpg X (Nat.lt_of_le_of_lt (by omega) ok.units) (pe_var (i := i) (by rw [ok.N]; exact hN) (by rw [ok.sc]; exact visOf hv) hd.1 hd.2)) (hs X) (hw X) (h1 X)) ?_
    refine h X Wx ok.toOk tk F H g σ s _ (m.mono (fun y hy F1 H1 g1 w f1 s1 r1 => ?_) (fun e he => he.ex) hm)
    obtain ⟨v, eσ, a, vs, ev, na, eg, t⟩ := s1.get_own hΓ
    subst ev
    refine ⟨.ref a, eσ, ?_⟩
    refine hi X Wx ok.toOk tk F1 H1 g1 σ s1 _ (mi.mono (fun z hz F2 H2 g2 u f2 s2 r2 => ?_) (fun e he => (he.later f1).ex) hy)
    obtain ⟨v', eσ', a', vs', ev', na', eg', t'⟩ := s2.get_own hΓ
    rw [eσ] at eσ'
    cases eσ'
    cases ev'
    obtain ⟨hl, hz⟩ := hz
    have hlv : (kvI vs').length = kvs.length := by unfold kvI; rw [List.length_map, t'.length]
    obtain ⟨s3, f3, hH2⟩ := s2.upd_own (O' := oDI C.fr r (putI kvs z y)) (o' := .dK (kvI (putI vs' z w))) eg' eσ (List.getElem?_eq_some_iff.mp hΓ).1 ⟨a, putI vs' z w, rfl, na', rfl, t'.put ((r y).mono f2.sF r1)⟩
    refine ⟨a, _, rfl, by rw [show u = kV (.inl z) from r2]; exact DPut.k hH2 (by rw [hlv]; exact Nat.lt_of_le_of_lt hl (by decide)), ?_⟩
    rw [kvI_put]
    exact (hr _).later ok tk (f1.trans (f2.trans f3)) s3 hz
end
end Y
namespace Y
open PySem PySem.Spec L2
section
variable {C : Cc} {Γ Γ' : List Slot} {α β ω : Type} {J : ω → Out}
/-- an own thing joins F -/
theorem StOk.frzOne {F H : Hp} {σ : St} {g : Nat → Hp} (s : StOk C F H Γ σ g) {i : Nat} {O : Op} {R : Rp} (hΓ : Γ[i]? = some (.own O)) (h : ∀ F G v, Dis F G → O.p F G v → R.p (uni F G) v) :
    StOk C (uni F (g i)) H (Γ.set i (.val R)) σ (setG g i emp) ∧ Fr F H (dU g) (uni F (g i)) H (dU (setG g i emp)) := by
  have hlt := (List.getElem?_eq_some_iff.mp hΓ).1
  obtain ⟨v, eσ, r⟩ := s.get_own hΓ
  refine ⟨⟨by simp [s.len], fun j S q => ?_, fun b o q => ?_, fun j => ?_, fun j => ?_, fun j k hjk => ?_, s.fr⟩, ⟨uni_l, fun b q => ?_, fun b o q _ => q, fun b q => q, fun b q => ?_⟩⟩
  · by_cases hj : i = j
    · subst hj
      rw [List.getElem?_set_self hlt] at q
      cases q
      exact ⟨v, eσ, h _ _ _ (s.dF i) r⟩
    · rw [List.getElem?_set_ne hj] at q
      rw [setG_ne (fun z => hj z.symm)]
      exact (s.slot j S q).mono uni_l
  · rcases of_uni q with q | ⟨_, q⟩
    · exact s.sF b o q
    · exact s.sG i b o q
  · by_cases hj : j = i
    · subst hj; rw [setG_same]; exact fun b o q => by cases q
    · rw [setG_ne hj]; exact s.sG j
  · by_cases hj : j = i
    · subst hj; rw [setG_same]; exact Dis.emp
    · rw [setG_ne hj]
      intro b
      rcases s.dF j b with q | q
      · rcases s.dG i j (fun z => hj z.symm) b with q2 | q2
        · exact .inl (uni_none q q2)
        · exact .inr q2
      · exact .inr q
  · by_cases hj : j = i
    · subst hj; rw [setG_same]; exact Dis.emp.symm
    · rw [setG_ne hj]
      by_cases hk : k = i
      · subst hk; rw [setG_same]; exact Dis.emp
      · rw [setG_ne hk]; exact s.dG j k hjk
  · cases q2 : F b with
    | some o => exact .inl (by simp)
    | none =>
      cases q3 : g i b with
      | none => exact absurd (uni_none q2 q3) q
      | some o => exact .inr (.inr ⟨i, by rw [q3]; simp⟩)
  · obtain ⟨j, q⟩ := q
    by_cases hj : j = i
    · subst hj; rw [setG_same] at q; exact absurd rfl q
    · rw [setG_ne hj] at q; exact .inl ⟨j, q⟩
theorem Ex.freezeG {i : Nat} {O : Op} {R : Rp} {sts : List Stmt} {m : W ω} (hΓ : Γ[i]? = some (.own O)) (hR : ∀ F G v, Dis F G → O.p F G v → R.p (uni F G) v) (h : Ex C (Γ.set i (.val R)) sts J m) : Ex C Γ sts J m := fun X Wx ok tk F H g σ s D hm => by
  obtain ⟨s2, f2⟩ := s.frzOne hΓ hR
  exact h.later ok tk f2 s2 hm
theorem Ex.freezeDI {i : Nat} {N : Addr → Prop} {r : α → Rp} {kvs : List (Int × α)} {sts : List Stmt} {m : W ω} (hΓ : Γ[i]? = some (.own (oDI N r kvs))) (h : Ex C (Γ.set i (.val (rDI N r kvs))) sts J m) : Ex C Γ sts J m := Ex.freezeG hΓ (fun _ _ _ d z => oDI_rDI d z) h
end
end Y

/-! Y20: isinstance of what may be None -/
namespace Y
open PySem PySem.Spec L2
section
variable {C : Cc} {Γ : List Slot} {α β γ : Type} {e e1 e2 : Expr} {pos p p2 : Pos}
end
end Y

/-! Y21: things of the asker's own with parts; told things are spoiled -/
namespace Y
open PySem PySem.Spec L2
section
variable {C : Cc} {Γ Γ' : List Slot} {α β γ δ ε ω : Type} {J : ω → Out} {e e1 e2 e3 e4 : Expr} {pos p : Pos} {rest : List Stmt}
/-- a thing all of whose parts are private -/
def oV (ρ : (Addr → Prop) → α → Rp) (N : Addr → Prop) (x : α) : Op := ⟨fun F G v => (∀ b, G b ≠ none → N b) ∧ (ρ N x).p G v, fun _ h => h⟩
theorem Frs.O {ρ : (Addr → Prop) → α → Rp} (h : Frs ρ) : Frs (fun N => rO (ρ N)) := ⟨fun N b F v x => by
  cases b with
  | none => exact x
  | some b => exact h.re N b F v x, fun N N' b F v hn x => by
  cases b with
  | none => exact x
  | some b => exact h.mo N N' b F v hn x⟩
/-- what is new, by itself -/
theorem newG {F H F0 F' H' : Hp} {g : Nat → Hp} {σ : St} {ρ : (Addr → Prop) → α → Rp} {N : Addr → Prop} {a : α} {v : V} (hρ : Frs ρ) (s : StOk C F H Γ σ g) (zF : Same F F0) (zG : ∀ i, Same (g i) F0) (h0 : Same F0 H)
    (hN : ∀ b, N b → H b = none) (s4 : StOk C F H' Γ σ g) (f4 : Fr F H (dU g) F H' (dU g)) (sF' : Same F' H') (r : (ρ N a).p F' v) :
    ∃ G, Fr F H (dU g) F H' (fun b => dU g b ∨ G b ≠ none) ∧ Same G H' ∧ Dis F G ∧ (∀ i, Dis (g i) G) ∧ (∀ b, G b ≠ none → C.fr b) ∧ (oV ρ C.fr a).p F G v := by
  have hr := hρ.re _ _ _ _ r
  have hG : ∀ b, restr F' N b ≠ none → N b := fun b z => by
    unfold restr at z
    split at z
    · assumption
    · exact absurd rfl z
  have hd : ∀ (A : Hp), Same A H → Dis A (restr F' N) := fun A z b => by
    cases q : restr F' N b with
    | none => exact .inr rfl
    | some u =>
      refine .inl ?_
      cases q2 : A b with
      | none => rfl
      | some w =>
        have h1 := hN b (hG b (by rw [q]; simp))
        rw [z b w q2] at h1; cases h1
  exact ⟨restr F' N, ⟨f4.sF, f4.fF, f4.keep, f4.dom, fun b q => by
      rcases q with q | q
      · exact .inl q
      · exact .inr (hN b (hG b q))⟩, fun b o q => sF' b o (restr_same b o q), hd F s.sF, fun i => hd (g i) (s.sG i), fun b q => s.fr b (hN b (hG b q)), fun b q => s.fr b (hN b (hG b q)), hρ.mo _ _ _ _ _ (fun b z => s.fr b (hN b z)) hr⟩
variable {x : Str} {j : Nat} {ρ : (Addr → Prop) → ε → Rp}
/-- the context by which new is new from here on -/
abbrev Cc.wfr (C : Cc) (N : Addr → Prop) : Cc := { C with fr := N }
theorem Cc.Ok.wfr {X : Cx} (ok : C.Ok X) (N : Addr → Prop) : (C.wfr N).Ok X := ⟨ok.prog, ok.w, ok.K, ok.mg, ok.base, ok.N, ok.sc, ok.nd, ok.calm, ok.room, ok.units, ok.exc, ok.fnc⟩
theorem Bo.wfr {N : Addr → Prop} {S S' : Slot} (h : Bo C S S') : Bo (C.wfr N) S S' := by
  cases h with
  | rf => exact .rf
  | li => exact .li
  | no => exact .no
  | ge h => exact .ge h
  | sb h => exact .sb h
theorem EvO.new {ρ : (Addr → Prop) → α → Rp} {m : W α} (hb : All2 (Bo C) Γ Γ') (hv : noOwn Γ' = true) (hρ : Frs ρ) (h : ∀ N, Ev (C.wfr N) Γ' e (ρ N) m) : EvO C Γ e (oV ρ C.fr) m :=
  fun X Wx ok tk F H g σ s Q hm => by
    have hv' : ∀ (i : Nat) (O : Op), Γ'[i]? ≠ some (Slot.own O) := fun i O q => noOwn.ok hv _ (List.mem_of_getElem? q) O rfl
    obtain ⟨sz, zF, zG, _⟩ := s.frzA hb hv'
    refine h (fun a => H a = none) X Wx (ok.wfr _) tk _ H _ σ ⟨sz.len, sz.slot, sz.sF, sz.sG, sz.dF, sz.dG, fun _ z => z⟩ Q (m.mono (fun a ha F' H' g' v f s' r => ?_) (fun x hx => ?_) hm)
    · have sC : StOk C F' H' Γ' σ g' := ⟨s'.len, s'.slot, s'.sF, s'.sG, s'.dF, s'.dG, fun b z => s.fr b (s'.fr b z)⟩
      obtain ⟨s4, f4⟩ := s.unfrz hb hv' f sC
      obtain ⟨G, g1, g2, g3, g4, g5, g6⟩ := newG hρ s zF zG sz.sF (N := fun a => H a = none) (fun b z => z) s4 f4 s'.sF r
      exact ha F H' g G v g1 s4 g2 g3 g4 g5 g6
    · intro F' H' g' cls d f s' hx'
      exact (hx.frz s hb hv') F' H' g' cls d f ⟨s'.len, s'.slot, s'.sF, s'.sG, s'.dF, s'.dG, fun b z => s.fr b (s'.fr b z)⟩ hx'
theorem oV_rp {ρ : (Addr → Prop) → α → Rp} {N : Addr → Prop} {x : α} {F G : Hp} {v : V} (d : Dis F G) (h : (oV ρ N x).p F G v) : (ρ N x).p (uni F G) v := (ρ N x).mono (uni_r d) h.2
/-- own lists are read, what comes is new -/
theorem Ev.new {ρ : (Addr → Prop) → α → Rp} {m : W α} (hb : All2 (Bo C) Γ Γ') (hv : noOwn Γ' = true) (hρ : Frs ρ) (h : ∀ N, Ev (C.wfr N) Γ' e (ρ N) m) : Ev C Γ e (ρ C.fr) m :=
  (EvO.new hb hv hρ h).ev fun _ _ _ _ d _ h => oV_rp d h
/-- a list alone -/
theorem EvO.flat {r : α → Rp} [I : Fre r] {m : W (List α)} (h : EvO C Γ e (oV (fun N => rN N r) C.fr) m) : EvO C Γ e (oL C.fr r) m :=
  fun X Wx ok tk F H g σ s Q hm => h X Wx ok tk F H g σ s Q (m.mono (fun a ha F' H' g' G v f s' sG dF dG nG r => by
    obtain ⟨_, q, vs, ev, nq, hq, t⟩ := r
    have on : ∀ b, one q (HO.lst vs) b ≠ none → b = q := fun b h => by
      by_cases z : b = q
      · exact z
      · exact absurd (one_ne z) h
    have hle : Same (one q (.lst vs)) G := fun b o z => by
      have e := on b (by rw [z]; simp)
      subst e
      rw [one_same] at z
      rw [hq]; exact z
    have hd : ∀ A : Hp, Dis A G → Dis A (one q (.lst vs)) := fun A z b => by
      rcases z b with z | z
      · exact .inl z
      · refine .inr ?_
        cases z2 : one q (.lst vs) b with
        | none => rfl
        | some o => rw [hle b o z2] at z; cases z
    exact ha F' H' g' (one q (.lst vs)) v (f.less fun b z => z.imp_right fun z z2 => by
      have e := on b z
      subst e
      rw [hq] at z2; cases z2) s' (hle.trans sG) (hd _ dF) (fun i => hd _ (dG i)) (fun b z => by rw [on b z]; exact nq) ⟨q, vs, ev, nq, rfl, t.imp fun u y z => I.fre _ _ _ z _⟩) (fun e he => he) hm)
/-! ### told things are spoiled -/
theorem StOk.reown {F H : Hp} {σ : St} {g : Nat → Hp} (s : StOk C F H Γ σ g) {i : Nat} {O O' : Op} (hΓ : Γ[i]? = some (.own O)) (h : ∀ F G v, O.p F G v → O'.p F G v) : StOk C F H (Γ.set i (.own O')) σ g where
  len := by rw [List.length_set]; exact s.len
  slot := fun j S q => by
    by_cases hj : i = j
    · subst hj
      rw [List.getElem?_set_self (List.getElem?_eq_some_iff.mp hΓ).1] at q
      cases q
      obtain ⟨v, e, r⟩ := s.get_own hΓ
      exact ⟨v, e, h _ _ _ r⟩
    · rw [List.getElem?_set_ne hj] at q
      exact s.slot j S q
  sF := s.sF
  sG := s.sG
  dF := s.dF
  dG := s.dG
  fr := s.fr
/-- a list of which no more is said -/
def oJ (N : Addr → Prop) : Op := ⟨fun F G v => ∃ a vs, v = .ref a ∧ G a = some (.lst vs) ∧ vs.length ≤ 2000000, fun _ h => h⟩
/-- a list beside a -/
def Lst (G : Hp) (a : Addr) (L : Nat) (b : Addr) : Prop := b ≠ a ∧ ∃ ws, G b = some (.lst ws) ∧ ws.length ≤ L
theorem Lst.upd {G : Hp} {a b c : Addr} {L : Nat} {ws : List V} (h : Lst G a L c) (hb : ws.length ≤ L + 1) : Lst (upd G b (.lst ws)) a (L + 1) c := by
  obtain ⟨h1, vs, h2, h3⟩ := h
  by_cases e : c = b
  · subst e; exact ⟨h1, ws, upd_same, hb⟩
  · exact ⟨h1, vs, by rw [upd_ne e]; exact h2, by omega⟩
/-- how an item holds its list: item by item, by pairs' second -/
def Itm1 (G : Hp) (a : Addr) (L : Nat) (u : V) : Prop := ∃ b, u = .ref b ∧ Lst G a L b
def Itm2 (G : Hp) (a : Addr) (L : Nat) (u : V) : Prop := ∃ T v1 b, u = .ref T ∧ T ≠ a ∧ G T = some (.tup [v1, .ref b]) ∧ Lst G a L b
def oJL (It : Hp → Addr → Nat → V → Prop) (a : Addr) (vs : List V) (L : Nat) : Op := ⟨fun F G v => v = .ref a ∧ G a = some (.lst vs) ∧ ∀ u ∈ vs, It G a L u, fun _ h => h⟩
theorem Itm1.upd {G : Hp} {a b : Addr} {L : Nat} {ws : List V} {u : V} (h : Itm1 G a L u) (hb : ws.length ≤ L + 1) : Itm1 (upd G b (.lst ws)) a (L + 1) u := by
  obtain ⟨c, e, h⟩ := h
  exact ⟨c, e, h.upd hb⟩
theorem Itm2.upd {G : Hp} {a b : Addr} {L : Nat} {ws ws0 : List V} {u : V} (h : Itm2 G a L u) (h0 : G b = some (.lst ws0)) (hb : ws.length ≤ L + 1) : Itm2 (upd G b (.lst ws)) a (L + 1) u := by
  obtain ⟨T, v1, c, e, n, eT, h⟩ := h
  exact ⟨T, v1, c, e, n, by rw [upd_ne (fun z => by rw [z, h0] at eT; cases eT)]; exact eT, h.upd hb⟩
/-- values that hold nothing -/
class Flat (r : α → Rp) : Prop where
  no : ∀ z F q, ¬ (r z).p F (.ref q)
instance : Flat rI := ⟨fun z F q h => by have e : V.ref q = .int z := h; cases e⟩
instance : Flat rS := ⟨fun z F q h => by have e : V.ref q = .str z := h; cases e⟩
instance : Flat rB := ⟨fun z F q h => by have e : V.ref q = .bl z := h; cases e⟩
theorem StOk.drop {F H : Hp} {σ : St} {g : Nat → Hp} {i : Nat} {S : Slot} (s : StOk C F H (Γ.set i S) σ g) : StOk C F H (Γ.set i .no) σ g :=
  s.weak ⟨by simp, fun k S' h => by
    by_cases hk : i = k
    · subst hk
      by_cases hl : i < Γ.length
      · rw [List.getElem?_set_self hl] at h; exact .inl (Option.some.inj h).symm
      · rw [List.getElem?_eq_none (by rw [List.length_set]; omega)] at h; cases h
    · rw [List.getElem?_set_ne hk] at h
      exact .inr (.inl (by rw [List.getElem?_set_ne hk]; exact h))⟩
def oT : Op := ⟨fun _ _ _ => True, fun _ _ => trivial⟩
/-- a list -/
class IsLst (O : Op) : Prop where
  l : ∀ F G v, O.p F G v → ∃ a vs, v = .ref a ∧ G a = some (.lst vs)
instance {N : Addr → Prop} : IsLst (oJ N) := ⟨fun _ _ _ ⟨a, vs, e, h, _⟩ => ⟨a, vs, e, h⟩⟩
instance {N : Addr → Prop} {r : α → Rp} {xs : List α} : IsLst (oL N r xs) := ⟨fun _ _ _ ⟨a, vs, e, _, h, _⟩ => ⟨a, vs, e, by rw [h]; exact one_same⟩⟩
instance {N : Addr → Prop} {r : (Addr → Prop) → α → Rp} {xs : List α} : IsLst (oV (fun N => rN N (r N)) N xs) := ⟨fun _ _ _ ⟨_, a, vs, e, _, h, _⟩ => ⟨a, vs, e, h⟩⟩
end
end Y

/-! Y22: a statement that reads own things -/
namespace Y
open PySem PySem.Spec L2
section
variable {C : Cc} {Γ Γ' : List Slot} {α β γ δ ε ω : Type} {J : ω → Out}
/-- a value that is just u -/
def pin (ρ : α → Rp) (u : V) : α → Rp := fun a => ⟨fun F v => (ρ a).p F v ∧ v = u, fun h ⟨x, e⟩ => ⟨(ρ a).mono h x, e⟩⟩
def rTop (_ : Unit) : Rp := ⟨fun _ _ => True, fun _ _ => trivial⟩
/-- slots as they are pinned -/
inductive PinB (C : Cc) (pv : Nat → V) : Nat → List Slot → List Slot → Prop
  | nil {n} : PinB C pv n [] []
  | no {n S Γ Γ'} : PinB C pv (n + 1) Γ Γ' → PinB C pv n (S :: Γ) (.no :: Γ')
  | val {n Γ Γ'} {α : Type} {ρ : α → Rp} {a : α} : PinB C pv (n + 1) Γ Γ' → PinB C pv n (.val (ρ a) :: Γ) (.val (pin ρ (pv n) a) :: Γ')
  | own {n Γ Γ'} {α : Type} {O : Op} {ρ : α → Rp} {a : α} (h : Bo C (.own O) (.val (ρ a))) : PinB C pv (n + 1) Γ Γ' → PinB C pv n (.own O :: Γ) (.val (pin ρ (pv n) a) :: Γ')
  | top {n Γ Γ'} {O : Op} : PinB C pv (n + 1) Γ Γ' → PinB C pv n (.own O :: Γ) (.val (pin rTop (pv n) ()) :: Γ')
/-- slots of before, of behind (pinned), what is told behind -/
inductive PinA (pv : Nat → V) : Nat → List Slot → List Slot → List Slot → Prop
  | nil {n} : PinA pv n [] [] []
  | no {n S S' Γ Γ2 Γ3} : PinA pv (n + 1) Γ Γ2 Γ3 → PinA pv n (S :: Γ) (S' :: Γ2) (.no :: Γ3)
  | keep {n S Γ Γ2 Γ3} {α : Type} {ρ : α → Rp} {a : α} : PinA pv (n + 1) Γ Γ2 Γ3 → PinA pv n (S :: Γ) (.val (pin ρ (pv n) a) :: Γ2) (S :: Γ3)
  | fre {n S Γ Γ2 Γ3} {α : Type} {ρ : α → Rp} [I : Fre ρ] {a : α} : PinA pv (n + 1) Γ Γ2 Γ3 → PinA pv n (S :: Γ) (.val (ρ a) :: Γ2) (.val (ρ a) :: Γ3)
theorem PinB.get {pv : Nat → V} {n : Nat} {Γ Γ' : List Slot} (h : PinB C pv n Γ Γ') : ∀ {i : Nat} {S' : Slot}, Γ'[i]? = some S' → ∃ S, Γ[i]? = some S ∧
    (S' = .no ∨ (∃ (α : Type) (ρ : α → Rp) (a : α), S' = .val (pin ρ (pv (n + i)) a) ∧ (S = .val (ρ a) ∨ (∃ O, S = .own O ∧ (Bo C (.own O) (.val (ρ a)) ∨ ∀ F v, (ρ a).p F v))))) := by
  induction h with
  | nil => intro i S' e; simp at e
  | no _ ih =>
    intro i S' e
    cases i with
    | zero => simp at e; exact ⟨_, rfl, .inl e.symm⟩
    | succ i =>
      obtain ⟨S, h1, h2⟩ := ih (i := i) (by simpa using e)
      exact ⟨S, by simpa using h1, by rw [Nat.add_right_comm] at h2; exact h2⟩
  | val _ ih =>
    intro i S' e
    cases i with
    | zero => simp at e; exact ⟨_, rfl, .inr ⟨_, _, _, e.symm, .inl rfl⟩⟩
    | succ i =>
      obtain ⟨S, h1, h2⟩ := ih (i := i) (by simpa using e)
      exact ⟨S, by simpa using h1, by rw [Nat.add_right_comm] at h2; exact h2⟩
  | own hb _ ih =>
    intro i S' e
    cases i with
    | zero => simp at e; exact ⟨_, rfl, .inr ⟨_, _, _, e.symm, .inr ⟨_, rfl, .inl hb⟩⟩⟩
    | succ i =>
      obtain ⟨S, h1, h2⟩ := ih (i := i) (by simpa using e)
      exact ⟨S, by simpa using h1, by rw [Nat.add_right_comm] at h2; exact h2⟩
  | top _ ih =>
    intro i S' e
    cases i with
    | zero => simp at e; exact ⟨_, rfl, .inr ⟨_, _, _, e.symm, .inr ⟨_, rfl, .inr fun _ _ => trivial⟩⟩⟩
    | succ i =>
      obtain ⟨S, h1, h2⟩ := ih (i := i) (by simpa using e)
      exact ⟨S, by simpa using h1, by rw [Nat.add_right_comm] at h2; exact h2⟩
theorem PinB.len {pv : Nat → V} {n : Nat} {Γ Γ' : List Slot} (h : PinB C pv n Γ Γ') : Γ'.length = Γ.length := by
  induction h <;> simp_all
theorem PinA.len {pv : Nat → V} {n : Nat} {Γ Γ2 Γ3 : List Slot} (h : PinA pv n Γ Γ2 Γ3) : Γ3.length = Γ2.length ∧ Γ.length = Γ2.length := by
  induction h <;> simp_all
theorem PinA.get {pv : Nat → V} {n : Nat} {Γ Γ2 Γ3 : List Slot} (h : PinA pv n Γ Γ2 Γ3) : ∀ {i : Nat} {S3 : Slot}, Γ3[i]? = some S3 → S3 = .no ∨ (∃ (α : Type) (ρ : α → Rp) (a : α), Γ[i]? = some S3 ∧ Γ2[i]? = some (.val (pin ρ (pv (n + i)) a))) ∨
    (∃ (α : Type) (ρ : α → Rp) (a : α), Fre ρ ∧ S3 = .val (ρ a) ∧ Γ2[i]? = some (.val (ρ a))) := by
  induction h with
  | nil => intro i S' e; simp at e
  | no _ ih =>
    intro i S' e
    cases i with
    | zero => simp at e; exact .inl e.symm
    | succ i =>
      rcases ih (i := i) (by simpa using e) with q | ⟨α, ρ, a, h1, h2⟩ | ⟨α, ρ, a, h1, h2, h3⟩
      · exact .inl q
      · exact .inr (.inl ⟨α, ρ, a, by simpa using h1, by rw [Nat.add_right_comm] at h2; exact h2⟩)
      · exact .inr (.inr ⟨α, ρ, a, h1, h2, by simpa using h3⟩)
  | keep _ ih =>
    intro i S' e
    cases i with
    | zero => simp at e; subst e; exact .inr (.inl ⟨_, _, _, rfl, rfl⟩)
    | succ i =>
      rcases ih (i := i) (by simpa using e) with q | ⟨α, ρ, a, h1, h2⟩ | ⟨α, ρ, a, h1, h2, h3⟩
      · exact .inl q
      · exact .inr (.inl ⟨α, ρ, a, by simpa using h1, by rw [Nat.add_right_comm] at h2; exact h2⟩)
      · exact .inr (.inr ⟨α, ρ, a, h1, h2, by simpa using h3⟩)
  | @fre _ _ _ _ _ α ρ I a _ ih =>
    intro i S' e
    cases i with
    | zero => simp at e; exact .inr (.inr ⟨α, ρ, a, I, e.symm, rfl⟩)
    | succ i =>
      rcases ih (i := i) (by simpa using e) with q | ⟨α, ρ, a, h1, h2⟩ | ⟨α, ρ, a, h1, h2, h3⟩
      · exact .inl q
      · exact .inr (.inl ⟨α, ρ, a, by simpa using h1, by rw [Nat.add_right_comm] at h2; exact h2⟩)
      · exact .inr (.inr ⟨α, ρ, a, h1, h2, by simpa using h3⟩)
/-- what a pinned outcome tells -/
def PinO (Γ : List Slot) (pv : Nat → V) : Out → Out → Prop
  | .nx Γ2, .nx Γ3 => PinA pv 0 Γ Γ2 Γ3
  | .rt R, .rt R' => R = R' ∧ ∀ F F' v, R.p F v → R.p F' v
  | _, _ => False
end
end Y

/-! Y23: xs[i] += e -/
namespace Y
open PySem PySem.Spec L2
section
variable {C : Cc} {Γ Γ' : List Slot} {α β γ δ ε ω : Type} {J : ω → Out} {e : Expr} {pos : Pos} {rest : List Stmt} {x : Str}
end
end Y

/-! Y24: min(xs, default=d) -/
namespace Y
open PySem PySem.Spec L2
section
variable {C : Cc} {Γ Γ' : List Slot} {α β γ δ ε ω : Type} {J : ω → Out} {e e2 : Expr} {p pos : Pos} {rest : List Stmt} {x : Str}
def rMinD (K : PySem.W.Frag) : List V → List V → Hp → VK → Prop := fun vs zs H Q => ∃ (a : Addr) (ns : List Int) (d : Int), vs = [V.ref a] ∧ zs = [V.int d] ∧ SqL K H a (ns.map V.int) ∧ ∀ m, (ns = [] ∧ m = d ∨ m ∈ ns ∧ ∀ y, y ∈ ns → m ≤ y) → Q (.int m) H
end
end Y

/-! Y25: zip of three lists -/
namespace Y
open PySem PySem.Spec L2
/-- the lists at a, b, c as they stand at each turn, the items in new tuples -/
def Itz3 (K : PySem.W.Frag) (a b c : Addr) : It :=
  ⟨fun i H => ∃ (xs ys zs : List V) (x y z : V), SqL K H a xs ∧ SqL K H b ys ∧ SqL K H c zs ∧ xs[i]? = some x ∧ ys[i]? = some y ∧ zs[i]? = some z,
    fun i H v H' => ∃ T x y z, v = .ref T ∧ H T = none ∧ H' = upd H T (.tup [x, y, z]) ∧ (∀ xs, SqL K H a xs → xs[i]? = some x) ∧ (∀ ys, SqL K H b ys → ys[i]? = some y) ∧ ∀ zs, SqL K H c zs → zs[i]? = some z,
    fun i H => ∃ xs ys zs : List V, SqL K H a xs ∧ SqL K H b ys ∧ SqL K H c zs ∧ (xs.length ≤ i ∨ ys.length ≤ i ∨ zs.length ≤ i)⟩
theorem drawsX {prog : Program} {w : World} {A : Around} (hh : A.handled = none) (it l : Addr) (hne : l ≠ it) (items : Array Value) (i0 : Nat) :
    Draws prog w A it [it, l] (max i0 items.size) (fun i v => items[i]? = some v) (fun i h => h.IsListIter it l i ∧ h.IsList l items ∧ (items.size < i0 → i = i0)) where
  live := fun _ _ st => let ⟨o, ho, _⟩ := st.1; ⟨o, ho⟩
  frame := fun _ _ _ st hk => ⟨st.1.at fun o e => hk it (by simp) o e, st.2.1.at fun o e => hk l (by simp) o e, st.2.2⟩
  item := fun i s Q E hi st hQ => by
    have hi2 : i < items.size := by
      by_cases h : items.size < i0
      · have := st.2.2 h; omega
      · omega
    refine (Draws.list hh it l hne items).item i s Q E hi2 ⟨st.1, st.2.1⟩ fun x h' tk hx st' sb => hQ x h' tk hx ⟨st'.1, st'.2, fun h => ?_⟩ sb
    have := st.2.2 h
    omega
  done := fun s Q E st hE => by
    by_cases h : items.size < i0
    · have e : max i0 items.size = i0 := by omega
      rw [e] at st
      refine wpAny_nextOf_list_end hh st.1 st.2.1 (by simp; omega) hE
    · have e : max i0 items.size = items.size := by omega
      rw [e] at st
      exact (Draws.list hh it l hne items).done s Q E ⟨st.1, st.2.1⟩ hE
theorem turn_zip3 {P : Program} {w : World} {K : PySem.W.Frag} {elts : List Expr} {kk : Nat} {tpos : Pos} {a b c z TI TO i1 i2 i3 : Addr} (S : ZipSep3 z TI TO i1 i2 i3 [i1, a] [i2, b] [i3, c]) :
    Turn P w K (.Tuple elts kk tpos) (Itz3 K a b c) [z, TI, TO, i1, i2, i3] z (fun i h => IsZip h z TI TO .none ∧ IsTupOf3 h TI (.ref i1) (.ref i2) (.ref i3) ∧ (∃ x y u, IsTupOf3 h TO x y u) ∧ h.IsListIter i1 a i ∧ h.IsListIter i2 b i ∧ h.IsListIter i3 c i) where
  mem := by simp
  obj := fun i h st c hc => by
    obtain ⟨hz, hTI, ⟨x, y, u, hTO⟩, ⟨o1, e1, _, d1⟩, ⟨o2, e2, _, d2⟩, ⟨o3, e3, _, d3⟩⟩ := st
    have e' : c = z ∨ c = TI ∨ c = TO ∨ c = i1 ∨ c = i2 ∨ c = i3 := by simpa using hc
    rcases e' with q | q | q | q | q | q
    · rw [q]; exact ⟨_, hz, fun v q => nomatch q⟩
    · rw [q]; exact ⟨_, hTI, fun v q => nomatch q⟩
    · rw [q]; exact ⟨_, hTO, fun v q => nomatch q⟩
    · rw [q]; exact ⟨o1, e1, fun v q => by rw [d1] at q; cases q⟩
    · rw [q]; exact ⟨o2, e2, fun v q => by rw [d2] at q; cases q⟩
    · rw [q]; exact ⟨o3, e3, fun v q => by rw [d3] at q; cases q⟩
  keep := fun i h h' st k => by
    obtain ⟨hz, hTI, ⟨x, y, u, hTO⟩, h1, h2, h3⟩ := st
    exact ⟨k z (by simp) _ hz, k TI (by simp) _ hTI, ⟨x, y, u, k TO (by simp) _ hTO⟩, h1.at fun o q => k i1 (by simp) o q, h2.at fun o q => k i2 (by simp) o q, h3.at fun o q => k i3 (by simp) o q⟩
  item := by
    intro X hP hw hK hc i pins s σ H E I hf st hg
    subst hP hw hK
    obtain ⟨hz, hTI, ⟨x0, y0, u0, hTO⟩, h1, h2, h3⟩ := st
    obtain ⟨xs, ys, zs, x, y, u, hqx, hqy, hqz, hx, hy, hu⟩ := hg
    obtain ⟨its, rv, p, _⟩ := I.list hqx
    obtain ⟨its2, rv2, p2, _⟩ := I.list hqy
    obtain ⟨its3, rv3, p3, _⟩ := I.list hqz
    obtain ⟨w1, hw1, rw1⟩ := rv.get hx
    obtain ⟨w2, hw2, rw2⟩ := rv2.get hy
    obtain ⟨w3, hw3, rw3⟩ := rv3.get hu
    have hzl : z < s.heap.objs.size := Heap.lt_size hz
    have ne1 : a ≠ i1 := fun q => by
      obtain ⟨o, ho, hc', _⟩ := h1
      obtain ⟨o', ho', hc2, _⟩ := p.isList
      rw [q, ho] at ho'
      cases ho'
      rw [hc'] at hc2; exact absurd hc2 (by decide)
    have ne2 : b ≠ i2 := fun q => by
      obtain ⟨o, ho, hc', _⟩ := h2
      obtain ⟨o', ho', hc2, _⟩ := p2.isList
      rw [q, ho] at ho'
      cases ho'
      rw [hc'] at hc2; exact absurd hc2 (by decide)
    have ne3 : c ≠ i3 := fun q => by
      obtain ⟨o, ho, hc', _⟩ := h3
      obtain ⟨o', ho', hc2, _⟩ := p3.isList
      rw [q, ho] at ho'
      cases ho'
      rw [hc'] at hc2; exact absurd hc2 (by decide)
    have hh : X.A.in1.handled = none := I.ok.hd hc
    have lt : ∀ {l : List Value} {v : Value} {j : Nat}, l[j]? = some v → j < l.toArray.size := fun h => by
      have := (List.getElem?_eq_some_iff.mp h).1
      simpa using this
    refine wpAny_pyNext_zipD3_item S (Draws.list hh i1 a ne1 its.toArray) (Draws.list hh i2 b ne2 its2.toArray) (Draws.list hh i3 c ne3 its3.toArray) hz hTI hTO ⟨h1, p.isList⟩ ⟨h2, p2.isList⟩ ⟨h3, p3.isList⟩ (lt hw1) (lt hw2) (lt hw3) fun v1 v2 v3 h' tk e1 e2 e3 z' TO' h1' h2' h3' hT hsz hk => ?_
    have e1 : v1 = w1 := by have : its[i]? = some v1 := by simpa using e1
                            rw [hw1] at this; exact (Option.some.inj this).symm
    have e2 : v2 = w2 := by have : its2[i]? = some v2 := by simpa using e2
                            rw [hw2] at this; exact (Option.some.inj this).symm
    have e3 : v3 = w3 := by have : its3[i]? = some v3 := by simpa using e3
                            rw [hw3] at this; exact (Option.some.inj this).symm
    subst e1 e2 e3
    refine ⟨_, rfl, wpAny_letOwnedTupleGo_zip (s := { s with heap := h', toks := tk }) z' fun h'' z'' sb => ?_⟩
    have hT2 : h''.get? s.heap.objs.size = some { cls := .type "tuple", data := .seq #[v1, v2, v3] } := (sb.2 _ (Nat.ne_of_gt hzl)).trans hT
    have new : ObjOk X.prog X.w (upd H s.heap.objs.size (.tup [x, y, u])) h'' s.heap.objs.size (.tup [x, y, u]) :=
      ⟨by show 3 ≤ sizeLine; decide, [v1, v2, v3], .cons rw1 (.cons rw2 (.cons rw3 .nil)), ⟨_, hT2, rfl, _, rfl⟩⟩
    have I1 : Inv X pins σ (upd H s.heap.objs.size (.tup [x, y, u])) { s with heap := h'', toks := tk } :=
      I.turnedNew (t' := tk) (ch := [z, TI, TO, i1, i2, i3]) (fun c o hb q => (sb.2 c (fun q' => hb (by simp [q']))).trans (hk c o (fun q' => hb (by simp [q'])) (fun q' => hb (by simp [q'])) (fun q' => hb (by simp [q'])) (fun q' => hb (by simp [q'])) (fun q' => hb (by simp [q'])) q)) hf (Nat.le_refl _) new
    refine ⟨.ref s.heap.objs.size, _, I1, rfl, ⟨_, x, y, u, rfl, I.hok.fresh (Nat.le_refl _), rfl, fun l hl => by rw [I.list_inj hl hqx]; exact hx, fun l hl => by rw [I.list_inj hl hqy]; exact hy, fun l hl => by rw [I.list_inj hl hqz]; exact hu⟩, ⟨z'', ?_, ⟨v1, v2, v3, ?_⟩, ?_, ?_, ?_⟩, fun c hcm => ?_⟩
    · exact (sb.2 _ S.TIz).trans (hk _ _ S.TIz S.TITO S.TIi1 S.TIi2 S.TIi3 hTI)
    · exact (sb.2 _ S.TOz).trans TO'
    · exact h1'.1.at fun o q => (sb.2 _ (fun q' => S.zi1 q'.symm)).trans q
    · exact h2'.1.at fun o q => (sb.2 _ (fun q' => S.zi2 q'.symm)).trans q
    · exact h3'.1.at fun o q => (sb.2 _ (fun q' => S.zi3 q'.symm)).trans q
    · have hlt : c < s.heap.objs.size := by
        have e' : c = z ∨ c = TI ∨ c = TO ∨ c = i1 ∨ c = i2 ∨ c = i3 := by simpa using hcm
        rcases e' with q | q | q | q | q | q
        · rw [q]; exact hzl
        · rw [q]; exact Heap.lt_size hTI
        · rw [q]; exact Heap.lt_size hTO
        · rw [q]; obtain ⟨_, e1, _⟩ := h1; exact Heap.lt_size e1
        · rw [q]; obtain ⟨_, e2, _⟩ := h2; exact Heap.lt_size e2
        · rw [q]; obtain ⟨_, e3, _⟩ := h3; exact Heap.lt_size e3
      rw [upd_ne (Nat.ne_of_lt hlt)]
      exact (hf c hcm).1
  done := by
    intro X hP hw hK hc i pins s σ H E I hf st hg
    subst hP hw hK
    obtain ⟨hz, hTI, ⟨x0, y0, u0, hTO⟩, h1, h2, h3⟩ := st
    obtain ⟨xs, ys, zs, hqx, hqy, hqz, hend⟩ := hg
    obtain ⟨its, rv, p, _⟩ := I.list hqx
    obtain ⟨its2, rv2, p2, _⟩ := I.list hqy
    obtain ⟨its3, rv3, p3, _⟩ := I.list hqz
    have l1 := rv.length
    have l2 := rv2.length
    have l3 := rv3.length
    have ne1 : a ≠ i1 := fun q => by
      obtain ⟨o, ho, hc', _⟩ := h1
      obtain ⟨o', ho', hc2, _⟩ := p.isList
      rw [q, ho] at ho'
      cases ho'
      rw [hc'] at hc2; exact absurd hc2 (by decide)
    have ne2 : b ≠ i2 := fun q => by
      obtain ⟨o, ho, hc', _⟩ := h2
      obtain ⟨o', ho', hc2, _⟩ := p2.isList
      rw [q, ho] at ho'
      cases ho'
      rw [hc'] at hc2; exact absurd hc2 (by decide)
    have ne3 : c ≠ i3 := fun q => by
      obtain ⟨o, ho, hc', _⟩ := h3
      obtain ⟨o', ho', hc2, _⟩ := p3.isList
      rw [q, ho] at ho'
      cases ho'
      rw [hc'] at hc2; exact absurd hc2 (by decide)
    have hh : X.A.in1.handled = none := I.ok.hd hc
    exact wpAny_pyNext_zipD3_end S (drawsX hh i1 a ne1 its.toArray i) (drawsX hh i2 b ne2 its2.toArray i) (drawsX hh i3 c ne3 its3.toArray i) hz hTI hTO ⟨h1, p.isList, fun _ => rfl⟩ ⟨h2, p2.isList, fun _ => rfl⟩ ⟨h3, p3.isList, fun _ => rfl⟩ (Nat.le_max_left _ _) (Nat.le_max_left _ _) (Nat.le_max_left _ _) (by rw [List.size_toArray, List.size_toArray, List.size_toArray]; omega) fun h' tk hk => ⟨rfl, I.turnedL (t' := tk) (ch := [z, TI, TO, i1, i2, i3]) (fun c o hb q =>
      hk c o (fun q' => hb (by simp [q'])) (fun q' => hb (by simp [q'])) (fun q' => hb (by simp [q'])) (fun q' => hb (by simp [q'])) (fun q' => hb (by simp [q'])) q) hf⟩
  self := fun A i s Q E st h => wpAny_pyIter_zip st.1 h
def iZip3 (K : PySem.W.Frag) (ta : TA) : TI := fun σ H R => ta σ H fun vs H1 => ∃ a b c xs ys zs, vs = [.ref a, .ref b, .ref c] ∧ SqL K H1 a xs ∧ SqL K H1 b ys ∧ SqL K H1 c zs ∧ R (Itz3 K a b c) H1
theorem pi_zip3 {X : Cx} {e e2 e3 : Expr} {ta : TA} {p pos tpos : Pos} {elts : List Expr} {kk : Nat} (hg : Gl X "zip") (hm : X.mg "zip" = none) (ha : PA X [e, e2, e3] ta)
    (hs : starEach [e, e2, e3] X.env = (false, eval e X.env) :: starEach [e2, e3] X.env := by rfl) (hpl : (backTo pos (starEach [e2, e3] X.env)).any (·.1) = false := by rfl) :
    PI X (.Tuple elts kk tpos) (.Call (.Name "zip" p) [e, e2, e3] [] pos) (iZip3 X.K ta) := by
  refine ⟨fun pins s σ H R I h => ?_⟩
  refine PyProof.Rows.Call_ (ld_blt I hg hm PyProof.Rows.boot_zip (PyProof.Rows.callWith_type1 (thn (ha.run pos pins s σ H _ I h) fun us s1 ⟨vs, H1, I1, r1, q1⟩ => ?_) hs hpl))
  obtain ⟨a, b, c, xs, ys, zs, ex, hqx, hqy, hqz, q⟩ := q1
  subst ex
  cases r1 with
  | cons r rr =>
    cases rr with
    | cons r' rr =>
      cases rr with
      | cons r'' rr =>
        cases rr
        cases r
        cases r'
        cases r''
        obtain ⟨its, rv, p1, _⟩ := I1.list hqx
        obtain ⟨its2, rv2, p2, _⟩ := I1.list hqy
        obtain ⟨its3, rv3, p3, _⟩ := I1.list hqz
        have la : a < s1.heap.objs.size := p1.lt
        have lb : b < s1.heap.objs.size := p2.lt
        have lc : c < s1.heap.objs.size := p3.lt
        refine zip_begins3 (begins_list a its.toArray) (begins_list b its2.toArray) (begins_list c its3.toArray) p1.isList p2.isList p3.isList fun h' hz hTI hTO h1 h2 h3 hsz hk => wpAny_pyIter_zip hz ?_
        have I2 : Inv X pins σ H1 { s1 with heap := h' } := I1.kept (t' := s1.toks) hk
        refine ⟨s1.heap.objs.size + 5, [s1.heap.objs.size + 5, s1.heap.objs.size + 3, s1.heap.objs.size + 4, s1.heap.objs.size, s1.heap.objs.size + 1, s1.heap.objs.size + 2], _, _, H1, rfl, I2,
          turn_zip3 (zip_sep3 (N := s1.heap.objs.size) (by simpa using la) (by simpa using lb) (by simpa using lc)), ⟨hz, hTI, ⟨_, _, _, hTO⟩, ⟨_, h1, rfl, rfl⟩, ⟨_, h2, rfl, rfl⟩, ⟨_, h3, rfl, rfl⟩⟩, fun d hcm => ?_, q⟩
        have e' : d = s1.heap.objs.size + 5 ∨ d = s1.heap.objs.size + 3 ∨ d = s1.heap.objs.size + 4 ∨ d = s1.heap.objs.size ∨ d = s1.heap.objs.size + 1 ∨ d = s1.heap.objs.size + 2 := by simpa using hcm
        have hle : s1.heap.objs.size ≤ d := by
          rcases e' with z | z | z | z | z | z
          · rw [z]; exact Nat.le_add_right _ _
          · rw [z]; exact Nat.le_add_right _ _
          · rw [z]; exact Nat.le_add_right _ _
          · rw [z]; exact Nat.le_refl _
          · rw [z]; exact Nat.le_add_right _ _
          · rw [z]; exact Nat.le_add_right _ _
        exact I1.fpOk hle (I1.hok.fresh hle)
def zip3 {α β γ : Type} (a : List α) (b : List β) (c : List γ) : List (α × β × γ) := a.zip (b.zip c)
section
variable {C : Cc} {Γ : List Slot} {α β γ : Type} {e e1 e2 e3 tg : Expr} {pos p : Pos}
theorem itTriple {K : PySem.W.Frag} {r1 : α → Rp} {r2 : β → Rp} {r3 : γ → Rp} {F H : Hp} {T : Addr} {x y z : V} {a : α} {b : β} {c : γ} (hF : Same F H) (hT : H T = none) (h1 : (r1 a).p F x) (h2 : (r2 b).p F y) (h3 : (r3 c).p F z) :
    ∃ G : Hp, (∀ a o, G a = some o → H a = none) ∧ upd H T (.tup [x, y, z]) = uni H G ∧ (rT3 K r1 r2 r3 (a, b, c)).p (uni F G) (.ref T) := by
  have hFT : F T = none := by
    cases q : F T with
    | none => rfl
    | some u => rw [hF T u q] at hT; cases hT
  refine ⟨Y.one T (.tup [x, y, z]), fun b o e => ?_, (uni_upd hT).symm, ?_⟩
  · by_cases z : b = T
    · rw [z]; exact hT
    · rw [one_ne z] at e; cases e
  · rw [uni_upd hFT]
    have sm : Same F (upd F T (.tup [x, y, z])) := fun b u e => by rw [upd_ne (ne_of_none e hFT)]; exact e
    exact ⟨T, x, y, z, rfl, SqT.of upd_same, (r1 a).mono sm h1, (r2 b).mono sm h2, (r3 c).mono sm h3⟩
theorem EvI.zip3 {r1 : α → Rp} {r2 : β → Rp} {r3 : γ → Rp} {m1 : W (List α)} {m2 : W (List β)} {m3 : W (List γ)} {elts : List Expr} {kk : Nat} {tpos : Pos} (hb : Blt C "zip" (.type "zip")) (h1 : Ev C Γ e1 (rL C.K r1) m1) (h2 : Ev C Γ e2 (rL C.K r2) m2) (h3 : Ev C Γ e3 (rL C.K r3) m3) (n1 : NoStar e1) (n2 : NoStar e2) (n3 : NoStar e3) :
    EvI C Γ (.Tuple elts kk tpos) (.Call (.Name "zip" p) [e1, e2, e3] [] pos) (rT3 C.K r1 r2 r3) (do let a ← m1; let b ← m2; let c ← m3; pure (Y.zip3 a b c)) :=
  fun X Wx ok tk F H g σ s R hm => by
    refine WI.of (pi_zip3 (hb.gl ok) (by rw [ok.mg]; exact hb.m) (pa_W (es := [e1, e2, e3])) (n1 [e2, e3] X.env) (by rw [n2 [e3] X.env, n3 [] X.env]; rfl)) ?_
    refine WA.len (WA.of (pa_cons (pe_W (e := e1)) (pa_cons (pe_W (e := e2)) (pa_cons (pe_W (e := e3)) pa_nil (n3 [] X.env)) (n2 [e3] X.env)) (n1 [e2, e3] X.env)) ?_)
    refine h1 X Wx ok tk F H g σ s _ (m1.mono (fun a ha F1 H1 g1 v f1 s1 r1' => ?_) (fun e he => he) hm)
    refine h2 X Wx ok tk F1 H1 g1 σ s1 _ (m2.mono (fun b hb F2 H2 g2 w f2 s2 r2' => ?_) (fun e he => XEnd.later f1 he) ha)
    refine h3 X Wx ok tk F2 H2 g2 σ s2 _ (m3.mono (fun c hc F3 H3 g3 w3 f3 s3 r3' => ?_) (fun e he => XEnd.later (f1.trans f2) he) hb)
    intro hl
    obtain ⟨p1, vs, ev, hs1, t1⟩ := (rL C.K r1 a).mono (f2.sF.trans f3.sF) r1'
    obtain ⟨p2, ws, ew, hs2, t2⟩ := (rL C.K r2 b).mono f3.sF r2'
    obtain ⟨p3, us, eu, hs3, t3⟩ := r3'
    have q1 : SqL X.K H3 p1 vs := by rw [ok.K]; exact s3.sF.seq hs1
    have q2 : SqL X.K H3 p2 ws := by rw [ok.K]; exact s3.sF.seq hs2
    have q3 : SqL X.K H3 p3 us := by rw [ok.K]; exact s3.sF.seq hs3
    refine ⟨p1, p2, p3, vs, ws, us, by rw [ev, ew, eu], q1, q2, q3, hc F3 H3 g3 _ ((f1.trans f2).trans f3) s3 ?_⟩
    have l1 := t1.length
    have l2 := t2.length
    have l3 := t3.length
    rw [ok.K]
    unfold Y.zip3
    refine ⟨?_, fun i F' H' f s h => ?_, fun i x F' H' v H3 f s h y => ?_, fun i F' H' f s h => ?_⟩
    · rw [List.length_zip, ← l1]
      exact Nat.le_trans (Nat.min_le_left _ _) (hl p1 vs q1)
    · rw [List.length_zip, List.length_zip] at h
      exact ⟨vs, ws, us, vs[i]'(by omega), ws[i]'(by omega), us[i]'(by omega), (f.trans s).seq hs1, (f.trans s).seq hs2, (f.trans s).seq hs3, List.getElem?_eq_getElem _, List.getElem?_eq_getElem _, List.getElem?_eq_getElem _⟩
    · obtain ⟨T, x', y', z', e1, hT, e2, y1, y2, y3⟩ := y
      subst e1 e2
      obtain ⟨xa, xb, xc⟩ := x
      obtain ⟨ha', hbc⟩ := List.getElem?_zip_eq_some.mp h
      obtain ⟨hb', hc'⟩ := List.getElem?_zip_eq_some.mp hbc
      obtain ⟨u1, hu1, ru1⟩ := t1.get ha'
      obtain ⟨u2, hu2, ru2⟩ := t2.get hb'
      obtain ⟨u3, hu3, ru3⟩ := t3.get hc'
      rw [y1 vs ((f.trans s).seq hs1)] at hu1
      rw [y2 ws ((f.trans s).seq hs2)] at hu2
      rw [y3 us ((f.trans s).seq hs3)] at hu3
      cases hu1
      cases hu2
      cases hu3
      exact itTriple s hT ((r1 xa).mono f ru1) ((r2 xb).mono f ru2) ((r3 xc).mono f ru3)
    · rw [List.length_zip, List.length_zip] at h
      exact ⟨vs, ws, us, (f.trans s).seq hs1, (f.trans s).seq hs2, (f.trans s).seq hs3, by omega⟩
end
end Y

/-! Y26: xs.insert(i, e), y = xs.pop(i) -/
namespace Y
open PySem PySem.Spec L2
section
variable {C : Cc} {Γ Γ' : List Slot} {α β γ δ ε ω : Type} {J : ω → Out} {e ix : Expr} {pos : Pos} {rest : List Stmt} {x : Str}
theorem All2.app' {R : α → β → Prop} {as bs : List α} {xs ys : List β} (h : All2 R as xs) (h' : All2 R bs ys) : All2 R (as ++ bs) (xs ++ ys) := by
  induction h with
  | nil => exact h'
  | cons r _ ih => exact .cons r ih
theorem All2.take' {R : α → β → Prop} {as : List α} {xs : List β} (h : All2 R as xs) : ∀ n, All2 R (as.take n) (xs.take n) := by
  induction h with
  | nil => intro n; simp; exact .nil
  | cons r _ ih =>
    intro n
    cases n with
    | zero => exact .nil
    | succ n => exact .cons r (ih n)
theorem All2.drop' {R : α → β → Prop} {as : List α} {xs : List β} (h : All2 R as xs) : ∀ n, All2 R (as.drop n) (xs.drop n) := by
  induction h with
  | nil => intro n; simp; exact .nil
  | cons r t ih =>
    intro n
    cases n with
    | zero => exact .cons r t
    | succ n => exact ih n
theorem Ex.insert {i : Nat} {px apos cpos : Pos} {r : α → Rp} {xs : List α} {mi : W Int} {m : W α} {k : List α → W ω} (hN : C.N[i]? = some x) (hv : Vis C.sc x) (hΓ : Γ[i]? = some (.own (oL C.fr r xs))) (hi : Ev C Γ ix rI mi) (h : Ev C Γ e r m) (ni : NoStar ix) (n : NoStar e) (hr : ∀ ys, Ex C (Γ.set i (.own (oL C.fr r ys))) rest J (k ys))
    (hline : (apos.endLine == cpos.line) = true := by rfl) (hd : (x == ("__debug__" : Str)) = false := by decide) (hcd : (x == ("__classdict__" : Str)) = false := by decide) (hb : ∀ X : Cx, attributeBase (.Name x px) "insert" X.env (eval (.Name x px) X.env) = eval (.Name x px) X.env := by intro _; rfl)
    (hs : ∀ X : Cx, swapsWith (.Call (.Attribute (.Name x px) "insert" apos) [ix, e] [] cpos) none pos.line X.env = pure false := by intro _; rfl)
    (hfew : ∀ X : Cx, ((backTo cpos (starEach [ix, e] X.env)).all (fun x => !x.1) && (backToKw cpos (keywordEach [] X.env)).all (fun x => x.1.isSome) && decide ([ix, e].length + ([] : List Keyword).length + (if ([] : List Keyword).isEmpty then 0 else 1) < 30)) = true := by intro _; rfl) :
    Ex C Γ (.Expr (.Call (.Attribute (.Name x px) "insert" apos) [ix, e] [] cpos) pos :: rest) J (do let j ← mi; let a ← m; let ys ← W.req (0 ≤ j ∧ j ≤ 1000000 ∧ xs.length ≤ 1000000) (pure (xs.take j.toNat ++ [a] ++ xs.drop j.toNat)); k ys) :=
  Ex.cons fun X Wx ok tk F H g σ s D hm => by
    refine W1.of (ps_expr (pe_bm PySem.F.plainAttrs_list PySem.F.slot_list_insert PySem.F.type_list_insert mt_insert (pe_var (i := i) (by rw [ok.N]; exact hN) (by rw [ok.sc]; exact hv) hd hcd) (pa_cons (pe_W (e := ix)) (pa_cons (pe_W (e := e)) pa_nil (n [] X.env)) (ni [e] X.env)) (hb X) (hfew X) hline (ni [e] X.env) (by rw [n [] X.env]; rfl)) (hs X)) ?_
    obtain ⟨v, eσ, a, vs, ev, na, eg, t⟩ := s.get_own hΓ
    subst ev
    have hHa : H a = some (.lst vs) := s.sG i a _ (by rw [eg]; exact one_same)
    refine ⟨.ref a, eσ, .inl ⟨rfl, _, SqL.of hHa⟩, ?_⟩
    refine hi X Wx ok.toOk tk F H g σ s _ (mi.mono (fun j hj F0 H0 g0 u f0 s0 r0 => ?_) (fun e he => he.ex) hm)
    refine h X Wx ok.toOk tk F0 H0 g0 σ s0 _ (m.mono (fun y hy F1 H1 g1 w f1 s1 r1 => ?_) (fun e he => (he.later f0).ex) hj)
    obtain ⟨v', eσ', a', vs', ev', na', eg', t'⟩ := s1.get_own hΓ
    rw [eσ] at eσ'
    cases eσ'
    cases ev'
    have r0 : u = .int j := r0
    subst r0
    obtain ⟨⟨h1, h2, h3⟩, hy⟩ := hy
    have tt : All2 (fun u x => (r x).p F1 u) (vs'.take j.toNat ++ [w] ++ vs'.drop j.toNat) (xs.take j.toNat ++ [y] ++ xs.drop j.toNat) := by
      exact ((t'.take' j.toNat).app' (.cons r1 .nil)).app' (t'.drop' j.toNat)
    obtain ⟨s2, f2, hH1⟩ := s1.upd_own (O' := oL C.fr r (xs.take j.toNat ++ [y] ++ xs.drop j.toNat)) (o' := .lst (vs'.take j.toNat ++ [w] ++ vs'.drop j.toNat)) eg' eσ (List.getElem?_eq_some_iff.mp hΓ).1 ⟨a, _, rfl, na', rfl, tt⟩
    refine ⟨a, vs', j, w, rfl, rfl, hH1, ?_, h1, by omega, ?_⟩
    · rw [t'.length, PySem.sizeLine_eq]
      omega
    · exact (hr _).later ok tk (f0.trans (f1.trans f2)) s2 hy
end
end Y

/-! Y27: pairs as lists, pairs walked, displays of seven -/
namespace Y
open PySem PySem.Spec L2
section
variable {C : Cc} {Γ Γ' : List Slot} {α β γ δ ε ω : Type} {J : ω → Out} {e e1 e2 e3 e4 e5 e6 e7 tg : Expr} {p pos : Pos} {rest : List Stmt} {x : Str}
theorem itTup2 {K : PySem.W.Frag} {r : α → Rp} {xs : List α} {F : Hp} {a : Addr} {vs : List V} (hs : SqT K F a vs) (t : All2 (fun u x => (r x).p F u) vs xs) (hl : vs.length ≤ sizeLine) : ItOk (Itt K a) r xs F where
  len := by rw [← t.length]; exact hl
  go := fun i F' H f s h => ⟨vs, vs[i]'(by rw [t.length]; exact h), Same.seqT (f.trans s) hs, List.getElem?_eq_getElem _⟩
  yld := fun i x F' H v H' f s h y => by
    obtain ⟨e, y⟩ := y
    refine ⟨emp, fun a o z => (by cases z), by rw [uni_emp]; exact e, ?_⟩
    rw [uni_emp]
    have := y vs (Same.seqT (f.trans s) hs)
    obtain ⟨u, hu, ru⟩ := t.get h
    rw [this] at hu
    cases hu
    exact (r x).mono f ru
  stop := fun i F' H f s h => ⟨vs, Same.seqT (f.trans s) hs, by rw [t.length]; exact h⟩
theorem EvI.tup2 {r : α → Rp} {m : W (α × α)} (h : Ev C Γ e (rT2 C.K r r) m) : EvI C Γ tg e r (do let p ← m; pure [p.1, p.2]) :=
  fun X Wx ok tk F H g σ s R hm => by
    refine WI.of (pi_tup (pe_W (e := e))) ?_
    refine h X Wx ok tk F H g σ s _ (m.mono (fun xs hx F1 H1 g1 v f1 s1 r1 => ?_) (fun e he => he) hm)
    obtain ⟨a, v1, v2, ev, hs, t1, t2⟩ := r1
    have hs2 : SqT X.K H1 a [v1, v2] := by rw [ok.K]; exact Same.seqT s1.sF hs
    refine ⟨a, ev, ⟨_, hs2⟩, hx F1 H1 g1 _ f1 s1 ?_⟩
    rw [ok.K]
    exact itTup2 hs (.cons t1 (.cons t2 .nil)) (by rw [PySem.sizeLine_eq]; simp)
end
end Y

/-! Y28: data in lists, one of two kinds, calls of five and six -/
namespace Y
open PySem PySem.Spec L2
section
variable {C : Cc} {Γ Γ' : List Slot} {α β γ δ ε ω : Type} {J : ω → Out} {e e1 e2 e3 e4 e5 e6 a b : Expr} {p pos : Pos} {rest sts : List Stmt} {x : Str}
/-! ### data in lists -/
/-! ### one of two kinds -/
def rV (ra : α → Rp) (rb : β → Rp) (x : α ⊕ β) : Rp := match x with
  | .inl a => ra a
  | .inr b => rb b
instance {ra : α → Rp} {rb : β → Rp} [I : Fre ra] [J : Fre rb] : Fre (rV ra rb) := ⟨fun x F v h F' => by
  cases x with
  | inl a => exact I.fre a F v h F'
  | inr b => exact J.fre b F v h F'⟩
theorem Frs.V {ρ1 : (Addr → Prop) → α → Rp} {ρ2 : (Addr → Prop) → β → Rp} (h1 : Frs ρ1) (h2 : Frs ρ2) : Frs (fun N => rV (ρ1 N) (ρ2 N)) := ⟨fun N x F v h => by
  cases x with
  | inl a => exact h1.re N a F v h
  | inr b => exact h2.re N b F v h, fun N N' x F v hn h => by
  cases x with
  | inl a => exact h1.mo N N' a F v hn h
  | inr b => exact h2.mo N N' b F v hn h⟩
def unL (x : α ⊕ β) : W α := match x with
  | .inl a => pure a
  | .inr _ => W.bad
def unR (x : α ⊕ β) : W β := match x with
  | .inl _ => W.bad
  | .inr b => pure b
theorem Ev.unL {ra : α → Rp} {rb : β → Rp} {m : W (α ⊕ β)} (h : Ev C Γ e (rV ra rb) m) : Ev C Γ e ra (do let x ← m; unL x) :=
  fun X Wx ok tk F H g σ s Q hm => h X Wx ok tk F H g σ s Q (m.mono (fun o ho F1 H1 g1 v f1 s1 r1 => by
    cases o with
    | inr _ => exact ho.elim
    | inl x => exact ho F1 H1 g1 v f1 s1 r1) (fun _ z => z) hm)
theorem Ev.unR {ra : α → Rp} {rb : β → Rp} {m : W (α ⊕ β)} (h : Ev C Γ e (rV ra rb) m) : Ev C Γ e rb (do let x ← m; unR x) :=
  fun X Wx ok tk F H g σ s Q hm => h X Wx ok tk F H g σ s Q (m.mono (fun o ho F1 H1 g1 v f1 s1 r1 => by
    cases o with
    | inl _ => exact ho.elim
    | inr x => exact ho F1 H1 g1 v f1 s1 r1) (fun _ z => z) hm)
/-- a private thing that must be of the left kind -/
theorem Ex.unL {i : Nat} {ρ1 : (Addr → Prop) → α → Rp} {ρ2 : (Addr → Prop) → β → Rp} {y : α ⊕ β} {k : α → W ω} (hΓ : Γ[i]? = some (.own (oV (fun N => rV (ρ1 N) (ρ2 N)) C.fr y))) (h : ∀ z, Ex C (Γ.set i (.own (oV ρ1 C.fr z))) sts J (k z)) : Ex C Γ sts J (do let z ← unL y; k z) := by
  cases y with
  | inr _ => exact fun X Wx ok tk F H g σ s D hm => hm.elim
  | inl z => exact fun X Wx ok tk F H g σ s D hm => h z X Wx ok tk F H g σ (s.reown hΓ (O' := oV ρ1 C.fr z) (fun F G v q => q)) D hm
/-- a private list of scalars, as an own list -/
theorem StOk.flatV {F H : Hp} {σ : St} {g : Nat → Hp} (s : StOk C F H Γ σ g) {i : Nat} {r : α → Rp} [I : Fre r] {x : List α} (hΓ : Γ[i]? = some (.own (oV (fun N => rN N r) C.fr x))) :
    ∃ g', StOk C F H (Γ.set i (.own (oL C.fr r x))) σ g' ∧ Fr F H (dU g) F H (dU g') := by
  have hlt := (List.getElem?_eq_some_iff.mp hΓ).1
  obtain ⟨v, eσ, _, q, vs, ev, nq, hq, t⟩ := s.get_own hΓ
  have on : ∀ b, one q (HO.lst vs) b ≠ none → b = q := fun b h => by
    by_cases z : b = q
    · exact z
    · exact absurd (one_ne z) h
  have hle : Same (one q (HO.lst vs)) (g i) := fun b o z => by
    have e := on b (by rw [z]; simp)
    subst e
    rw [one_same] at z
    rw [hq]; exact z
  have hd : ∀ A : Hp, Dis A (g i) → Dis A (one q (HO.lst vs)) := fun A z b => by
    rcases z b with z | z
    · exact .inl z
    · refine .inr ?_
      cases z2 : one q (HO.lst vs) b with
      | none => rfl
      | some o => rw [hle b o z2] at z; cases z
  refine ⟨setG g i (one q (HO.lst vs)), ⟨by rw [List.length_set]; exact s.len, fun j S z => ?_, s.sF, fun j => ?_, fun j => ?_, fun j k hjk => ?_, s.fr⟩, Fr.refl.less fun b z => ?_⟩
  · by_cases hj : i = j
    · subst hj
      rw [List.getElem?_set_self hlt] at z
      cases z
      rw [setG_same]
      exact ⟨v, eσ, q, vs, ev, nq, rfl, t.imp fun u y z => I.fre _ _ _ z _⟩
    · rw [List.getElem?_set_ne hj] at z
      rw [setG_ne (fun z => hj z.symm)]
      exact s.slot j S z
  · by_cases hj : j = i
    · subst hj; rw [setG_same]; exact hle.trans (s.sG j)
    · rw [setG_ne hj]; exact s.sG j
  · by_cases hj : j = i
    · subst hj; rw [setG_same]; exact hd _ (s.dF j)
    · rw [setG_ne hj]; exact s.dF j
  · by_cases hj : j = i
    · subst hj
      rw [setG_same, setG_ne (fun z => hjk z.symm)]
      exact (hd _ (s.dG k j (fun z => hjk z.symm))).symm
    · rw [setG_ne hj]
      by_cases hk : k = i
      · subst hk; rw [setG_same]; exact hd _ (s.dG j k hjk)
      · rw [setG_ne hk]; exact s.dG j k hjk
  · obtain ⟨j, z⟩ := z
    by_cases hj : j = i
    · subst hj
      rw [setG_same] at z
      exact ⟨j, by rw [on b z, hq]; simp⟩
    · rw [setG_ne hj] at z; exact ⟨j, z⟩
theorem Ex.flatV {i : Nat} {r : α → Rp} [I : Fre r] {x : List α} {m : W ω} (hΓ : Γ[i]? = some (.own (oV (fun N => rN N r) C.fr x))) (h : Ex C (Γ.set i (.own (oL C.fr r x))) sts J m) : Ex C Γ sts J m := fun X Wx ok tk F H g σ s D hm => by
  obtain ⟨g', s2, f2⟩ := s.flatV hΓ
  exact h.later ok tk f2 s2 hm
/-- no text is like these -/
class NoS {K : PySem.W.Frag} (r : α → Rp) [I : DatE K r] : Prop where
  l : ∀ x s, PyData.eqv (I.enc x) (.str s) = false
  r : ∀ x s, PyData.eqv (.str s) (I.enc x) = false
instance {K : PySem.W.Frag} : NoS (K := K) rI := ⟨fun _ _ => rfl, fun _ _ => rfl⟩
instance {K : PySem.W.Frag} : NoS (K := K) rB := ⟨fun _ _ => rfl, fun _ _ => rfl⟩
instance {K : PySem.W.Frag} {r : α → Rp} [I : DatE K r] : NoS (K := K) (rL K r) := ⟨fun _ _ => rfl, fun _ _ => rfl⟩
instance {K : PySem.W.Frag} {N : Addr → Prop} {r : α → Rp} [I : DatE K r] : NoS (K := K) (rN N r) := ⟨fun _ _ => rfl, fun _ _ => rfl⟩
instance {K : PySem.W.Frag} {r : α → Rp} [I : DatE K r] [J : NoS (K := K) r] : DatE K (rV r rS) where
  enc := Sum.elim I.enc PyData.str
  dep := I.dep
  ok := Sum.elim I.ok (fun x => PyData.strOk x = true)
  dp := fun {x F v} h => by
    cases x with
    | inl a => exact I.dp h
    | inr s => have e : v = .str s := h; subst e; exact .str s
  can := fun x h => by
    cases x with
    | inl a => exact I.can a h
    | inr s => exact h
  deps := fun x => by
    cases x with
    | inl a => exact I.deps a
    | inr s => exact Nat.zero_le _
  dec := fun x y => by
    cases x with
    | inl a => cases y with
      | inl c => exact (I.dec a c).trans ⟨fun h => by rw [h], fun h => Sum.inl.inj h⟩
      | inr s => exact ⟨fun h => absurd ((show PyData.eqv (I.enc a) (.str s) = true from h).symm.trans (J.l a s)) (by decide), fun h => by cases h⟩
    | inr t => cases y with
      | inl c => exact ⟨fun h => absurd ((show PyData.eqv (.str t) (I.enc c) = true from h).symm.trans (J.r c t)) (by decide), fun h => by cases h⟩
      | inr s => exact (show PyData.eqv (.str t) (.str s) = true ↔ _ by simp [PyData.eqv])
end
section
variable {C : Cc} {Γ : List Slot} {α β γ : Type}
/-! ### (x, y), z as a target -/
end
section
variable {C : Cc} {Γ : List Slot} {α β γ δ ε ζ η : Type} {e1 e2 e3 e4 e5 e6 : Expr} {pos p : Pos} {x : Str} {j : Nat} {ρ : (Addr → Prop) → ε → Rp}
end
end Y

/-! Y29: a loop over own things that makes one own list grow -/
namespace Y
open PySem PySem.Spec L2
section
variable {C : Cc} {Γ Γ' : List Slot} {α β γ ω : Type} {J : ω → Out} {e e1 e2 a b : Expr} {p pos : Pos} {rest sts : List Stmt} {x : Str}
/-- an element taken out by its place -/
def popI (xs : List α) (q : Int) : W (α × List α) := W.req (0 ≤ q ∧ q ≤ 1000000) (match xs[q.toNat]? with | some a => pure (a, xs.eraseIdx q.toNat) | none => W.bad)
end
end Y

/-! Y30: tuples of four and five -/
namespace Y
open PySem PySem.Spec L2
theorem Fd.X2 {α β : Type} {ρ1 : (Addr → Prop) → α → Rp} {ρ2 : (Addr → Prop) → β → Rp} (h1 : Fd ρ1) (h2 : Fd ρ2) : Fd (fun N => rX2 N (ρ1 N) (ρ2 N)) := ⟨fun N N' b F v hn ⟨a, v1, v2, e, n, q, t1, t2⟩ => ⟨a, v1, v2, e, hn a (by rw [q]; simp) n, q, h1.mo _ _ _ _ _ hn t1, h2.mo _ _ _ _ _ hn t2⟩⟩
def rT4 {α β γ δ : Type} (K : PySem.W.Frag) (r1 : α → Rp) (r2 : β → Rp) (r3 : γ → Rp) (r4 : δ → Rp) (x : α × β × γ × δ) : Rp :=
  ⟨fun F v => ∃ a v1 v2 v3 v4, v = .ref a ∧ SqT K F a [v1, v2, v3, v4] ∧ (r1 x.1).p F v1 ∧ (r2 x.2.1).p F v2 ∧ (r3 x.2.2.1).p F v3 ∧ (r4 x.2.2.2).p F v4, fun h ⟨a, v1, v2, v3, v4, e, q, t1, t2, t3, t4⟩ => ⟨a, v1, v2, v3, v4, e, Same.seqT h q, (r1 _).mono h t1, (r2 _).mono h t2, (r3 _).mono h t3, (r4 _).mono h t4⟩⟩
def rX4 {α β γ δ : Type} (N : Addr → Prop) (r1 : α → Rp) (r2 : β → Rp) (r3 : γ → Rp) (r4 : δ → Rp) (x : α × β × γ × δ) : Rp :=
  ⟨fun F v => ∃ a v1 v2 v3 v4, v = .ref a ∧ N a ∧ F a = some (.tup [v1, v2, v3, v4]) ∧ (r1 x.1).p F v1 ∧ (r2 x.2.1).p F v2 ∧ (r3 x.2.2.1).p F v3 ∧ (r4 x.2.2.2).p F v4, fun h ⟨a, v1, v2, v3, v4, e, n, q, t1, t2, t3, t4⟩ => ⟨a, v1, v2, v3, v4, e, n, h _ _ q, (r1 _).mono h t1, (r2 _).mono h t2, (r3 _).mono h t3, (r4 _).mono h t4⟩⟩
def rT5 {α β γ δ ε : Type} (K : PySem.W.Frag) (r1 : α → Rp) (r2 : β → Rp) (r3 : γ → Rp) (r4 : δ → Rp) (r5 : ε → Rp) (x : α × β × γ × δ × ε) : Rp :=
  ⟨fun F v => ∃ a v1 v2 v3 v4 v5, v = .ref a ∧ SqT K F a [v1, v2, v3, v4, v5] ∧ (r1 x.1).p F v1 ∧ (r2 x.2.1).p F v2 ∧ (r3 x.2.2.1).p F v3 ∧ (r4 x.2.2.2.1).p F v4 ∧ (r5 x.2.2.2.2).p F v5, fun h ⟨a, v1, v2, v3, v4, v5, e, q, t1, t2, t3, t4, t5⟩ => ⟨a, v1, v2, v3, v4, v5, e, Same.seqT h q, (r1 _).mono h t1, (r2 _).mono h t2, (r3 _).mono h t3, (r4 _).mono h t4, (r5 _).mono h t5⟩⟩
def rX5 {α β γ δ ε : Type} (N : Addr → Prop) (r1 : α → Rp) (r2 : β → Rp) (r3 : γ → Rp) (r4 : δ → Rp) (r5 : ε → Rp) (x : α × β × γ × δ × ε) : Rp :=
  ⟨fun F v => ∃ a v1 v2 v3 v4 v5, v = .ref a ∧ N a ∧ F a = some (.tup [v1, v2, v3, v4, v5]) ∧ (r1 x.1).p F v1 ∧ (r2 x.2.1).p F v2 ∧ (r3 x.2.2.1).p F v3 ∧ (r4 x.2.2.2.1).p F v4 ∧ (r5 x.2.2.2.2).p F v5, fun h ⟨a, v1, v2, v3, v4, v5, e, n, q, t1, t2, t3, t4, t5⟩ => ⟨a, v1, v2, v3, v4, v5, e, n, h _ _ q, (r1 _).mono h t1, (r2 _).mono h t2, (r3 _).mono h t3, (r4 _).mono h t4, (r5 _).mono h t5⟩⟩
end Y

/-! Y31: bags: a new list told, a new bag handed on -/
namespace Y
open PySem PySem.Spec L2
section
variable {C : Cc} {Γ Γ' : List Slot} {α β γ δ ε ω : Type} {J : ω → Out} {e e0 e1 e2 e3 a b : Expr} {p p2 pos : Pos} {rest sts : List Stmt} {x : Str}
theorem EvO.callB {i n : Nat} {y : Str} {es : List Expr} {τ : Type} {N : Addr → Prop} {ins : τ → List Rp} {r : β → Rp} [I : Fre r] {mf : τ → W (List β)} {mt : W τ} (hf : BagV C.toMc x j n ins (fun N => rN N r) mf) (hj : j ≤ C.k) (hg : C.sc.names.lookup x = some .globalImplicit) (hN : C.N[i]? = some y) (hv : visB C.sc y = true) (hΓ : Γ[i]? = some (.own (oBag N))) (ha : EvA C Γ es ins mt)
    (hdy : (y == ("__debug__" : Str) || y == ("__classdict__" : Str)) = false) (hd : (x == ("__debug__" : Str)) = false := by decide) (hcm : C.cm = true := by rfl) : EvO C Γ (.Call (.Name x p) (.Name y p2 :: es) [] pos) (oL C.fr r) (do let t ← mt; W.noX (mf t)) :=
  fun X Wx ok tk F H g σ s Q hm => by
    obtain ⟨⟨f, fd, ps, hF, hmg, hk, hb⟩, hl⟩ := hf
    have e1 := ok.prog
    have e2 := ok.w
    have e3 := ok.K
    have e4 := ok.mg
    have e5 := ok.base
    rw [Bool.or_eq_false_iff] at hdy
    have hns : NoStar (.Name y p2) := fun _ _ => rfl
    refine WE.of (pe_callS (E := fun σ => L2.WE Wx σ) (by rw [e1, e2, e3, e4, e5]; exact hF) ((ok.room hcm).mono hj) (show X.env.scope.names.lookup x = _ by rw [ok.sc]; exact hg) (by rw [e4]; exact hmg) (by rw [e3]; exact hk) (by rw [e3]; exact hb) (fun σ => by
      have := passAt tk σ
      rw [e1, e2] at this
      exact this) (pa_cons (pe_var (i := i) (by rw [ok.N]; exact hN) (by rw [ok.sc]; exact visOf hv) hdy.1 hdy.2) (pa_W (es := es)) (hns es X.env)) hd (hns es X.env) (ha.1 X pos)) ?_
    obtain ⟨v0, eσ, a, l, ev, na, eg, hl0⟩ := s.get_own hΓ
    subst ev
    refine ⟨.ref a, eσ, ?_⟩
    refine ha.2 X Wx ok tk F H g σ s _ (mt.mono (fun t ht F1 H1 g1 vs f1 s1 r1 => ?_) (fun e he => he) hm)
    obtain ⟨v1, eσ1, a1, l1, ev1, na1, eg1, hl1⟩ := s1.get_own hΓ
    rw [eσ] at eσ1
    cases eσ1
    cases ev1
    refine ⟨t, F1, g1 i, fun b => H1 b = none, a, vs, fun _ z => z, rfl, s1.sF, s1.sG i, s1.dF i, ⟨a, l1, rfl, trivial, eg1, hl1⟩, r1, (mf t).mono (fun b hb F2 H2 G2 v f2 s2 sg2 d2 hB r2 => ?_) (fun e he => he) (show (mf t).wp _ (fun _ => False) from ht)⟩
    obtain ⟨a2, l2, ea2, _, eg2, hl2⟩ := hB
    cases ea2
    obtain ⟨s3, f3⟩ := s1.callB hΓ eσ eg1 na hl2 f2 s2 sg2 d2 eg2
    obtain ⟨c, us, ev, hn1, hc, t2⟩ := r2
    have sF12 : Same F1 F2 := f2.sF
    have hF1c : F1 c = none := by
      cases q : F1 c with
      | none => rfl
      | some o => rw [s1.sF c o q] at hn1; cases hn1
    refine hb F1 H2 (setG g1 i G2) (one c (.lst us)) v (f1.trans ⟨Same.refl _, fun b q => .inl q, f3.keep, f3.dom, fun b q => ?_⟩) ⟨s3.len, fun j S q => ?_, fun b o q => s3.sF b o (sF12 b o q), s3.sG, fun j b => ?_, s3.dG, s3.fr⟩ (fun b o q => ?_) (fun b => ?_) (fun j b => ?_) (fun b q => ?_) ⟨c, us, ev, s1.fr c hn1, rfl, t2.imp fun _ _ z => I.fre _ _ _ z _⟩
    · rcases q with q | q
      · exact f3.gs b q
      · by_cases hbc : b = c
        · subst hbc; exact .inr hn1
        · exact absurd (one_ne hbc) q
    · by_cases hji : j = i
      · subst hji
        rw [hΓ] at q
        cases q
        exact s3.slot j _ hΓ
      · rw [setG_ne hji]; exact s1.slot j S q
    · rcases s3.dF j b with q | q
      · left
        cases w : F1 b with
        | none => rfl
        | some o => rw [sF12 b o w] at q; cases q
      · exact .inr q
    · by_cases hbc : b = c
      · subst hbc; rw [one_same] at q; cases q; exact s3.sF _ _ hc
      · rw [one_ne hbc] at q; cases q
    · by_cases hbc : b = c
      · subst hbc; exact .inl hF1c
      · exact .inr (one_ne hbc)
    · by_cases hbc : b = c
      · subst hbc
        rcases s3.dF j b with q | q
        · rw [hc] at q; cases q
        · exact .inl q
      · exact .inr (one_ne hbc)
    · by_cases hbc : b = c
      · subst hbc; exact s1.fr b hn1
      · exact absurd (one_ne hbc) q
theorem EvO.callG1 {i : Nat} {y : Str} {N : Addr → Prop} {ra : α → Rp} {r : β → Rp} [I : Fre r] {m1 : W α} {mf : α × Unit → W (List β)} (hf : BagV C.toMc x j 1 (fun t => [ra t.1]) (fun N => rN N r) mf) (hj : j ≤ C.k) (hg : C.sc.names.lookup x = some .globalImplicit) (hN : C.N[i]? = some y) (hv : visB C.sc y = true) (hΓ : Γ[i]? = some (.own (oBag N))) (h1 : Ev C Γ e1 ra m1) (n1 : NoStar e1)
    (hdy : (y == ("__debug__" : Str) || y == ("__classdict__" : Str)) = false) (hd : (x == ("__debug__" : Str)) = false := by decide) (hcm : C.cm = true := by rfl) : EvO C Γ (.Call (.Name x p) [.Name y p2, e1] [] pos) (oL C.fr r) (do let a ← m1; W.noX (mf (a, ()))) := by
  have q := EvO.callB (p := p) (p2 := p2) (pos := pos) hf hj hg hN hv hΓ (EvA.cons h1 EvA.nil n1) hdy hd hcm
  exact q
end
end Y

/-! Y32: a def that is handed the exception that a suite holds -/
namespace Y
open PySem PySem.Spec L2 PyProof.Rows
theorem mark_deeper {A : Around} {env : Env} {v : Value} (h : A.handled = some v) : (A.deeper env).mark (some v) = A.deeper env := by
  cases A
  cases h
  rfl
def cxS (P : Program) (w : World) (K : PySem.W.Frag) (mg : Str → Option Value) (base : Heap) (N : List Str) (qual : Str) (scope : Scope) (f : Addr) (cd : Value) (A : Around) (outer : List Env) (s : Shared) (H : Hp) (p : Addr × Obj) : Cx :=
  { cxOf (L2.CX P w) P w K mg base N qual scope f cd A outer s H (fun _ _ _ => False) with calm := false, pn := [p], xe := fun _ _ => False }
theorem inv_startS {P : Program} {w : World} {K : PySem.W.Frag} {mg : Str → Option Value} {base : Heap} {N ps : List Str} {qual : Str} {scope : Scope} {f : Addr} {cd : Value} {A : Around} {outer : List Env} {s s1 : Shared} {H : Hp} {us : List Value} {vs : List V}
    (S : FnScope N ps scope) {p : Addr × Obj} (hpin : L2H.PinOk outer H s p) (e0 : Env0 P w K mg base A outer s H) (hl : vs.length = ps.length) (r : Vals vs us)
    (x : InCallC s s.heap.objs.size (bindL (envOfC qual scope s.heap.objs.size f cd).kindOf (ps.zip us) fun _ => none) (cellsFrom (s.heap.objs.size + 1) scope.names []) (bindC (envOfC qual scope s.heap.objs.size f cd).kindOf (ps.zip us) fun _ => none) s1) :
    Inv (cxS P w K mg base N qual scope f cd A outer s H p) [] (L2.start N vs) H s1 := by
  have q := L2H.inv_startH (CX := L2.CX P w) (E := fun _ _ _ => False) S hpin e0 hl r x
  exact ⟨⟨q.ok.mod, q.ok.kind, q.ok.glob, q.ok.blt, q.ok.above, q.ok.inj, q.ok.has, q.ok.cab, fun z => (nomatch z), q.ok.frames, q.ok.stk, q.ok.exf, q.ok.bs, q.ok.bsz, q.ok.noex, q.ok.exfs, q.ok.funs, q.ok.frf⟩, q.os, q.bare, q.base, q.loc, q.cell, q.free, q.freeC, q.pin, q.hok, q.len⟩
/-- a call's end, nothing raised -/
def CRS (outer : List Env) (P : Program) (w : World) (H : Hp) (s : Shared) (Q : VK) (r : Result) (s' : Shared) : Prop :=
  match r with
  | .ok (.ret u) => CE outer P w H s Q u s'
  | _ => False
/-- what such a def promises: p the exception, of the class D -/
structure FnS (P : Program) (w : World) (K : PySem.W.Frag) (mg : Str → Option Value) (base : Heap) (k : Nat) (f : Addr) (fd : FuncData) (ps : List Str) (D : Addr) (sp : Addr → Hp → VK → Prop) : Prop where
  len : ps.length = 1
  run : ∀ (A : Around) (outer : List Env) (s : Shared) (H : Hp) (args : Args) (us : List Value) (Q : VK) (p : Addr × Obj), RoomS k A → A.handled = some (.ref p.1) → L2H.PinOk outer H s p → Zc (.ref D) none p.2 → (∃ vs, p.2.data = .fields vs) → Env0 P w K mg base A outer s H → BindsTo s fd args (ps.zip us) → Vals [V.ref p.1] us → sp p.1 H Q →
    codeAny (model P w) A (.call (.ref f) args) (CRS outer P w H s Q) s
theorem fn_ofS {P : Program} {w : World} {K : PySem.W.Frag} {mg : Str → Option Value} {base : Heap} {k : Nat} {f : Addr} {name qual : Str} {params : Arguments} {body : List Stmt} {scope : Scope} {dV kV doc pm cdv ct oc : Value} {an od : Option Addr}
    {osl : Array (Option Value)} {N ps : List Str} {D : Addr} {sp : Addr → Hp → VK → Prop} (lk : K.lookup f = some ⟨oc, od, .func (PySem.W.fnOf name qual params body scope dV kV doc pm an cdv ct), osl⟩) (hcd : PySem.W.codeIn K cdv qual = true) (S : FnScope N ps scope)
    (len : ps.length = 1)
    (hbody : ∀ (A : Around) (outer : List Env) (s : Shared) (H : Hp) (Q : VK) (p : Addr × Obj), A.handled = some (.ref p.1) → RoomS k (A.deeper (envOfC qual scope s.heap.objs.size f cdv)) → Zc (.ref D) none p.2 → (∃ vs, p.2.data = .fields vs) → sp p.1 H Q →
      ∃ t, PSs (cxS P w K mg base N qual scope f cdv A outer s H p) body t ∧ t { nx := fun _ H' => Q .non H', rt := Q } (L2.start N [V.ref p.1]) H) :
    FnS P w K mg base (k + 1) f (PySem.W.fnOf name qual params body scope dV kV doc pm an cdv ct) ps D sp := by
  refine ⟨len, fun A outer s H args us Q p hr hot hpin hz hf e0 hb r hsp => ?_⟩
  have KX : K.In s.heap := e0.mod.kin.keeps fun b o e => (e0.bs b o e).1
  have lim : s.heap.NoLimit := e0.mod.nolimit.keeps fun b o e => (e0.bs b o e).1
  have hkind : ∀ y ∈ ps.zip us, scope.names.lookup y.1 = some .local ∨ (scope.names.lookup y.1 = some .cell ∧ ((cellsFrom (s.heap.objs.size + 1) scope.names []).lookup y.1).isSome = true) := fun ⟨n, v⟩ hy => by
    rcases S.par n (List.of_mem_zip hy).1 with q | q
    · exact .inl q
    · exact .inr ⟨q, PySem.W.cellsFrom_some _ _ _ (.inl q)⟩
  have hdep : A.depth < recursionLimit := by have := hr.dp; omega
  have hrd : ∀ env, RoomS k (A.deeper env) := fun env => ⟨by have := hr.dp; show A.depth + 1 + 3 * k + 5 < _; omega, by have := hr.un; show A.units + 3 + 16 * k + 200 < _; omega⟩
  refine codeAny_call_function hdep (KX _ _ lk) rfl S.co S.gen rfl (PySem.W.codeRec_of KX hcd) (hb _ _ _ _ ?_)
  refine wpAny_newFunctionEnv_cells S.kind hkind fun env he s1 x => ?_
  subst he
  refine ⟨lim.keeps x.toInCall.keep, codeAny_func ?_⟩
  obtain ⟨t, ht, hq⟩ := hbody A outer s H Q p hot (hrd _) hz hf hsp
  have I : Inv (cxS P w K mg base N qual scope f cdv A outer s H p) [] (L2.start N [V.ref p.1]) H s1 := inv_startS S hpin e0 (by rw [len]; rfl) r x
  refine wpAny_mono (ht.run [] s1 (L2.start N [V.ref p.1]) H _ I hq) (fun fl s' hs => ?_) fun e s' hs => hs.elim
  have fin : ∀ {σ' : L2.St} {H' : Hp} {v : V} {u : Value}, Inv (cxS P w K mg base N qual scope f cdv A outer s H p) [] σ' H' s' → RelV v u → Q v H' → CE outer P w H s Q u s' :=
    fun {σ' H' v u} J rv q => ⟨v, H', J.os, J.bare, J.base, J.hok, rv, q⟩
  cases fl with
  | ret u =>
    obtain ⟨v, σ', H', J, rv, q⟩ := hs
    exact fin J rv q
  | next =>
    obtain ⟨σ', H', J, q⟩ := hs
    exact fin (v := V.non) (u := Value.none) J rfl q
  | brk =>
    obtain ⟨_, _, _, q⟩ := hs
    exact False.elim q
  | cont =>
    obtain ⟨_, _, _, q⟩ := hs
    exact False.elim q
/-- the promise by a mirror -/
def spS (M : Mc) {β : Type} (ρ : (Addr → Prop) → β → Rp) (m : W β) : Addr → Hp → VK → Prop := fun _ H Q => ∃ (F : Hp) (N : Addr → Prop), (∀ a, H a = none → N a) ∧ Same F H ∧
  m.wp (fun b => ∀ F' H' g' v, Fr F H (fun _ => False) F' H' (dU g') → Same F' H' → (ρ N b).p F' v → Q v H') (fun _ => False)
structure FnE (M : Mc) (x : Str) (j : Nat) {β : Type} (ρ : (Addr → Prop) → β → Rp) (m : Exn → W β) : Prop where
  ex : ∃ f fd ps, (∀ (c : Str) (D : Addr), M.mg c = some (.ref D) → FnS M.P M.w M.K M.mg M.base j f fd ps D (spS M ρ (m ⟨c, none⟩))) ∧ M.mg x = some (.ref f) ∧ PySem.W.keepIn M.K (.ref f) = true ∧ Binds M.K fd ps []
def initE (M : Mc) (N : List Str) (sc : Scope) (k : Nat) (fr : Addr → Prop) (a D : Addr) : Cc := { toMc := M, N := N, sc := sc, k := k, fr := fr, fnc := fun _ => true, cm := false, ex := some (a, .ref D, none) }
theorem FnE.ofBody {M : Mc} {x : Str} {st : Stmt} {k : Nat} {N : List Str} {p0 : Str} {β : Type} {ρ : (Addr → Prop) → β → Rp} {m : Exn → W β} (F : FunM M x st [p0]) (S : FnScope N [p0] (defScope st))
    (h : ∀ (fr : Addr → Prop) (e : Exn) (a D : Addr), e.pay = none → M.mg e.cls = some (.ref D) → Ex (initE M N (defScope st) k fr a D) (Γ0 [rX a ()] N) (defBody st) (fun b => .rt (ρ fr b)) (m e)) : FnE M x (k + 1) ρ m := by
  obtain ⟨f, fd, F, mg, b⟩ := F
  refine ⟨f, fd, [p0], fun c D hD => ?_, mg, F.kp, b⟩
  obtain ⟨oc, od, kV, doc, pm, an, cdv, ct, osl, rfl, lk, hcd⟩ := F.ex
  refine fn_ofS lk hcd S rfl fun A outer s H Q p hot hr hz hf hsp => ?_
  obtain ⟨F', Nf, hNf, sm, w⟩ := hsp
  refine ⟨_, pss_W, ?_⟩
  obtain ⟨a, oe⟩ := p
  have hX : cxS M.P M.w M.K M.mg M.base N x (defScope st) f cdv A outer s H (a, oe) = (cxS M.P M.w M.K M.mg M.base N x (defScope st) f cdv A outer s H (a, oe)).suite a [(a, oe)] := by
    have q := mark_deeper (env := envOfC x (defScope st) s.heap.objs.size f cdv) hot
    unfold Cx.suite
    show _ = { cxS M.P M.w M.K M.mg M.base N x (defScope st) f cdv A outer s H (a, oe) with A := (A.deeper (envOfC x (defScope st) s.heap.objs.size f cdv)).mark (some (.ref a)), calm := false, pn := [(a, oe)], xe := fun _ _ => False }
    rw [q]
    rfl
  have hu := hr.un
  refine h Nf ⟨c, none⟩ a D rfl hD (cxS M.P M.w M.K M.mg M.base N x (defScope st) f cdv A outer s H (a, oe)) (fun _ _ _ _ => False) ⟨⟨rfl, rfl, rfl, rfl, rfl, rfl, rfl, S.nd, rfl, fun h => (nomatch h), show (A.deeper _).units + 64 < _ by omega, fun a' cls' d' h => ?_, fun _ _ => rfl⟩, PassesOwn.never, rfl, rfl⟩ takes0 F' H (fun _ => emp) (L2.start N [V.ref a]) ?_ _ ((m ⟨c, none⟩).mono (fun b hb => ?_) (fun e he => he.elim) w)
  · have h : some (a, Value.ref D, (none : Option Addr)) = some (a', cls', d') := h
    cases h
    exact ⟨hr, _, [], oe, hX, hz, hf⟩
  · have q := start_ok (M := M) (N := N) (sc := defScope st) (k := k) (vs := [V.ref a]) (R := [rX a ()]) hNf sm (.cons rfl .nil)
    exact ⟨q.len, q.slot, q.sF, q.sG, q.dF, q.dG, q.fr⟩
  · intro F2 H2 g2 v f2 s2 r2
    exact hb F2 H2 g2 v (show Fr F' H (fun _ => False) F2 H2 (dU g2) from ⟨f2.sF, fun b z => (f2.fF b z).imp_right fun q => q.imp_right fun ⟨_, q⟩ => absurd rfl q, fun b o q _ => f2.keep b o q fun ⟨_, z⟩ => absurd rfl z, f2.dom, fun b z => (f2.gs b z).imp_left fun ⟨_, q⟩ => absurd rfl q⟩) s2 r2
section
variable {C : Cc} {Γ : List Slot} {β : Type} {e : Expr} {pos p q : Pos} {x : Str} {j : Nat}
end
end Y

/-! Y33: an own exception with a name: raised, caught, its name read -/
namespace Y
open PySem PySem.Spec L2 PyProof.Rows
/-! ### C.__init__(self, ..) of an own class that has it from ValueError -/
structure BaseI (K : PySem.W.Frag) (B : Addr) : Prop where
  ga : PySem.W.specialIn K (.ref B) "__getattribute__" = some (some (.builtin "type.__getattribute__"))
  tB : PySem.W.typeIn K (.ref B) = some (.type "type")
  rd : PySem.W.readsIn K B (.type "type") = true
  fi : PySem.W.findCls K (.ref B) (.type "type") "__init__" = some (.val (.builtin "ValueError.__init__"))
section
variable {X : Cx} {e : Expr} {es : List Expr} {ta : TA} {x : Str} {B : Addr} {p1 p2 pos : Pos}
end
/-! ### the class, its __init__ -/
def spN (C : Addr) : Sp := fun vs H Q _ => ∃ (a : Addr) (z : Str), vs = [.ref a, .str z] ∧ H a = some (exo a C none) ∧ ∀ dx, H dx = none → dx ≠ a → Q .non (upd (upd H dx (exd dx [("name", .str z)])) a (exo a C (some dx)))
def InitCall (e : Expr) (es : List Expr) (x : Str) (p1 p2 pos : Pos) : Prop := ∀ env : Env, ∃ pl : Sem Bool, eval (.Call (.Attribute (.Name x p1) "__init__" p2) (e :: es) [] pos) env = (do
      let ov ← eval (.Name x p1) env
      standAt p2.atName
      let (f, first) ← holding [ov] (getMethod ov "__init__" pl)
      callWith pos f first (backTo pos (starEach (e :: es) env)) (backToKw pos (keywordEach [] env)))
/-- raise x(name) may be done -/
structure RaiN (M : Mc) (x : Str) : Prop where
  ex : ∃ C fI fd, M.mg x = some (.ref C) ∧ OexC M.K C ∧ PySem.W.findIn M.K (.ref C) "__init__" = some (some (.ref fI)) ∧ PySem.W.typeIn M.K (.ref fI) = some (.type "function") ∧ Binds M.K fd ["self", "name"] [] ∧
    FnOk M.P M.w M.K M.mg M.base (L2.CX M.P M.w) 1 fI fd ["self", "name"] (spN C)
section
variable {C : Cc} {Γ Γ' : List Slot} {α β ω : Type} {J : ω → Out} {e e1 e2 : Expr} {pos p p2 : Pos} {rest : List Stmt}
/-! ### a try whose suite may read the name -/
def PayOk (F : Hp) (pay : Option Str) (d : Option Addr) : Prop := match pay with
  | none => d = none
  | some z => ∃ b, d = some b ∧ F b = some (.xd [("name", .str z)])
theorem PayOk.mono {F F' : Hp} {pay : Option Str} {d : Option Addr} (s : Same F F') (h : PayOk F pay d) : PayOk F' pay d := by
  cases pay with
  | none => exact h
  | some z => obtain ⟨b, e1, e2⟩ := h; exact ⟨b, e1, s _ _ e2⟩
def rXg (a : Addr) (pay : Option Str) (d : Option Addr) (_ : Unit) : Rp := ⟨fun F v => v = .ref a ∧ PayOk F pay d, fun s h => ⟨h.1, h.2.mono s⟩⟩
def tryG {ω : Type} (m : W ω) (c : Str → Option Bool) (h : Exn → W ω) : W ω :=
  ⟨fun P E => m.wp P (fun e => match c e.cls with
      | some true => (h e).wp P (fun _ => False)
      | some false => E e
      | none => False),
   fun hp he x => m.mono hp (fun e y => by
      split <;> rename_i q <;> simp only [q] at y
      · exact (h e).mono hp (fun _ z => z) y
      · exact he _ y) x⟩
/-! ### isinstance, the name -/
def rIsEg (K : PySem.W.Frag) (D a : Addr) (d : Option Addr) : List V → Hp → VK → Prop := fun xs H Q => ∃ (c : V) (cv : Value) (b : Bool), xs = [.ref a, c] ∧ (∀ q, d = some q → ∃ fs, H q = some (.xd fs)) ∧ (∀ u, RelV c u → u = cv) ∧ PySem.W.kitOne K (.ref D) cv = some b ∧ Q (.bl b) H
theorem PayOk.xd {F : Hp} {pay : Option Str} {d : Option Addr} (h : PayOk F pay d) : ∀ q, d = some q → ∃ fs, F q = some (.xd fs) := fun q e => by
  cases pay with
  | none => rw [show d = none from h] at e; cases e
  | some z => obtain ⟨b, e1, e2⟩ := h; rw [e1] at e; cases e; exact ⟨_, e2⟩
def payW (p : Option Str) : W Str := match p with
  | some z => pure z
  | none => W.bad
end
end Y
namespace Y
open PySem PySem.Spec L2 PyProof.Rows
def NmTab (M : Mc) (tab : List ((Str × Str) × Bool)) : Prop := ∀ c x b D, tabF tab c x = some b → M.mg c = some (.ref D) → PySem.W.findIn M.K (.ref D) "name" = some Option.none
theorem NmTab.of {M : Mc} : ∀ {tab : List ((Str × Str) × Bool)}, (∀ p ∈ tab, ∀ D, M.mg p.1.1 = some (.ref D) → PySem.W.findIn M.K (.ref D) "name" = some Option.none) → NmTab M tab
  | [], _, _, _, _, _, e, _ => by cases e
  | (p, d) :: r, h, c, x, b, D, e, hD => by
    unfold tabF at e
    rw [List.lookup_cons] at e
    split at e
    · rename_i q
      have q' := eq_of_beq q
      exact h (p, d) (by simp) D (by rw [← q']; exact hD)
    · exact NmTab.of (fun p hp => h p (List.mem_cons_of_mem _ hp)) c x b D e hD
end Y

/-! Y34: a call that is handed a new bag -/
namespace Y
open PySem PySem.Spec L2
section
variable {C : Cc} {Γ Γ' : List Slot} {α β γ δ ε ω : Type} {J : ω → Out} {e e0 e1 e2 e3 a b : Expr} {p p2 pos : Pos} {rest sts : List Stmt} {x : Str} {j : Nat}
end
end Y

/-! Y35: len of one of two; a def that appends to each list of a tuple it is handed -/
namespace Y
open PySem PySem.Spec L2
section
variable {C : Cc} {Γ Γ' : List Slot} {α β γ δ ε ω : Type} {J : ω → Out} {e e0 e1 e2 e3 a b : Expr} {p p2 pos : Pos} {rest sts : List Stmt} {x : Str} {j : Nat}
end
instance {K : PySem.W.Frag} {α β γ δ ε : Type} {r1 : α → Rp} {r2 : β → Rp} {r3 : γ → Rp} {r4 : δ → Rp} {r5 : ε → Rp} : TyK K (rT5 K r1 r2 r3 r4 r5) "tuple" := ⟨fun x F H v s ⟨a, _, _, _, _, _, e, q, _⟩ => by subst e; exact SqT.ty (Same.seqT s q)⟩
/-! ### a def that appends to each list of a tuple -/
def Keeps (G H : Hp) : Prop := ∀ b o, G b = some o → (∀ ws, o ≠ .lst ws) → H b = some o
inductive PartOk (K : PySem.W.Frag) (G : Hp) (u : V) : Prop
  | other {T : String} (h : kitB T "list" = some false) (ty : ∀ H, Keeps G H → TyX K H u (.type T))
  | list {b : Addr} {ws : List V} (e : u = .ref b) (h : G b = some (.lst ws)) (hl : ws.length ≤ 2000000)
def SpOk (K : PySem.W.Frag) (G : Hp) (v : V) : Prop := ∃ T us, v = .ref T ∧ G T = some (.tup us) ∧ us.length ≤ 5 ∧ ∀ u ∈ us, PartOk K G u
def spSp (M : Mc) : Sp := fun vs H Q E => ∃ (G : Hp) (v : V), vs = [v] ∧ Same G H ∧ SpOk M.K G v ∧ ∀ H', (∀ b o, H b = some o → G b = none → H' b = some o) → (∀ b, H b ≠ none → H' b ≠ none) → Q .non H'
structure SpoilV (M : Mc) (x : Str) (j : Nat) : Prop where
  ex : ∃ f fd ps, FnOk M.P M.w M.K M.mg M.base (L2.CX M.P M.w) j f fd ps (spSp M) ∧ M.mg x = some (.ref f) ∧ PySem.W.keepIn M.K (.ref f) = true ∧ Binds M.K fd ps []
def spoilBody (n0 n1 : Str) (p1 p2 p3 p4 p5 p6 p7 p8 p9 p10 p11 p12 p13 : Pos) (k0 : Nat) : List Stmt :=
  [.For (.Name n1 p1) (.Name n0 p2) [.If (.Call (.Name "isinstance" p3) [.Name n1 p4, .Name "list" p5] [] p6) [.Expr (.Call (.Attribute (.Name n1 p7) "append" p8) [.Constant (.int 1) k0 p9] [] p10) p11] [] p12] [] p13]
theorem SpoilV.ofBody {M : Mc} {x n0 n1 : Str} {st : Stmt} {k : Nat} {p1 p2 p3 p4 p5 p6 p7 p8 p9 p10 p11 p12 p13 : Pos} {k0 : Nat} (F : FunM M x st [n0]) (S : FnScope [n0, n1] [n0] (defScope st)) (hB : defBody st = spoilBody n0 n1 p1 p2 p3 p4 p5 p6 p7 p8 p9 p10 p11 p12 p13 k0)
    (hv0 : visB (defScope st) n0 = true) (hv1 : visB (defScope st) n1 = true) (hs1 : stoB (initC M [n0, n1] (defScope st) k (fun _ => True)) n1 = true) (hd0 : (n0 == ("__debug__" : Str)) = false ∧ (n0 == ("__classdict__" : Str)) = false) (hd1 : (n1 == ("__debug__" : Str)) = false ∧ (n1 == ("__classdict__" : Str)) = false)
    (gi : (defScope st).names.lookup ("isinstance" : Str) = some .globalImplicit) (mi : M.mg "isinstance" = none) (gl : (defScope st).names.lookup ("list" : Str) = some .globalImplicit) (ml : M.mg "list" = none) (hl : (p8.endLine == p10.line) = true) : SpoilV M x (k + 1) := by
  obtain ⟨f, fd, F, hmg, hb⟩ := F
  refine ⟨⟨f, fd, _, F.okX S (fun vs H Q E ⟨G, v, e, _⟩ => by rw [e]; rfl) (fun cdv A' outer s H vs Q E hr ⟨G, v, e, sg, ⟨T, us, ev, hT, hl5, hus⟩, hq⟩ => ?_), hmg, F.kp, hb⟩⟩
  subst e
  subst ev
  refine ⟨_, pss_W, ?_⟩
  rw [hB]
  have ok : (initC M [n0, n1] (defScope st) k (fun _ => True)).OkS (cxOf (L2.CX M.P M.w) M.P M.w M.K M.mg M.base [n0, n1] x (defScope st) f cdv A' outer s H E) := ⟨⟨rfl, rfl, rfl, rfl, rfl, rfl, rfl, S.nd, rfl, fun _ => hr, hr.units, fun _ _ _ h => (nomatch h), fun _ _ => rfl⟩, passes_of rfl, rfl, rfl⟩
  have eK : (cxOf (L2.CX M.P M.w) M.P M.w M.K M.mg M.base [n0, n1] x (defScope st) f cdv A' outer s H E).K = M.K := rfl
  generalize cxOf (L2.CX M.P M.w) M.P M.w M.K M.mg M.base [n0, n1] x (defScope st) f cdv A' outer s H E = X at ok eK ⊢
  have bi : Blt (initC M [n0, n1] (defScope st) k (fun _ => True)) "isinstance" (.builtin "isinstance") := bt_isinstance gi mi
  have bl : Blt (initC M [n0, n1] (defScope st) k (fun _ => True)) "list" (.type "list") := bt_list gl ml
  have hN : X.N = [n0, n1] := ok.N
  have hsc : X.env.scope = defScope st := ok.sc
  have hmg2 : X.mg = M.mg := ok.mg
  have sto := stoOf hs1
  have pv0 : PE X (.Name n0 p2) (tVar 0) := pe_var (i := 0) (by rw [hN]; rfl) (by rw [hsc]; exact visOf hv0) hd0.1 hd0.2
  have pv1 : ∀ p, PE X (.Name n1 p) (tVar 1) := fun p => pe_var (i := 1) (by rw [hN]; rfl) (by rw [hsc]; exact visOf hv1) hd1.1 hd1.2
  have pg1 : PG X (.Name n1 p1) (gName 1) := pg_name ok.ndX (by rw [hN]; rfl) (sto.loc ok.toOk) (sto.fn ok.toOk)
  have pis : PE X (.Call (.Name "isinstance" p3) [.Name n1 p4, .Name "list" p5] [] p6) (tCB (rIsi X.K) (tCons (tVar 1) (tCons (tC (.ty "list")) tNil))) := pe_callB call_isi (bi.gl ok.toOk) (by rw [hmg2]; exact mi) bi.v (pa_cons (pv1 p4) (pa_cons (pe_bltn (v := .ty "list") (bl.gl ok.toOk) (by rw [hmg2]; exact ml) bl.v rfl bl.n bl.d) pa_nil))
  have pap : PE X (.Call (.Attribute (.Name n1 p7) "append" p8) [.Constant (.int 1) k0 p9] [] p10) (tBM X.K "list" rAppend (tVar 1) (tCons (tC (.int 1)) tNil)) :=
    pe_bm PySem.F.plainAttrs_list PySem.F.slot_list_append PySem.F.type_list_append mt_append (pv1 p7) (pa_cons pe_int pa_nil) rfl rfl hl rfl rfl
  refine WS.of (pss_cons (ps_for ok.po (ok.toOk.calm.trans rfl) (pi_tup pv0) pg1 (pss_cons (ps_if (pt_val pis) (pss_cons (ps_expr pap rfl) pss_nil) pss_nil) pss_nil)) pss_nil) ?_
  obtain ⟨hkeep, hdom⟩ : True ∧ True := ⟨trivial, trivial⟩
  have hHT : H T = some (.tup us) := sg T _ hT
  refine ⟨.ref T, rfl, T, rfl, ⟨us, .inl (.inl hHT)⟩, fun i m σ H' => m = us.length - i ∧ i ≤ us.length ∧ σ.length = 2 ∧ σ[0]? = some (some (.ref T)) ∧ (∀ b o, H b = some o → G b = none → H' b = some o) ∧ (∀ b, H b ≠ none → H' b ≠ none) ∧ Keeps G H' ∧ ∀ b ws, G b = some (.lst ws) → ∃ ws', H' b = some (.lst ws') ∧ ws'.length ≤ ws.length + i, ⟨us.length, rfl, Nat.zero_le _, rfl, rfl, fun _ _ h _ => h, fun _ h => h, fun b o h _ => sg b o h, fun b ws h => ⟨ws, sg b _ h, Nat.le_refl _⟩⟩, fun i m σ H' ⟨em, hi, hσl, hσ0, k1, k2, k3, k4⟩ => ?_⟩
  have hT' : H' T = some (.tup us) := k3 T _ hT (fun ws z => by cases z)
  have hsq : SqT X.K H' T us := .inl (.inl hT')
  by_cases hlt : i < us.length
  · refine .inr ⟨⟨us, us[i], hsq, List.getElem?_eq_getElem hlt⟩, fun σ2 H2 => us.length - (i + 1) = us.length - (i + 1) ∧ i + 1 ≤ us.length ∧ σ2.length = 2 ∧ σ2[0]? = some (some (.ref T)) ∧ (∀ b o, H b = some o → G b = none → H2 b = some o) ∧ (∀ b, H b ≠ none → H2 b ≠ none) ∧ Keeps G H2 ∧ ∀ b ws, G b = some (.lst ws) → ∃ ws', H2 b = some (.lst ws') ∧ ws'.length ≤ ws.length + (i + 1), fun σ2 H2 w2 => ⟨_, by omega, w2⟩, fun y H2 ⟨e2, hy⟩ => ?_⟩
    subst e2
    have ey := hy us hsq
    rw [List.getElem?_eq_getElem hlt] at ey
    have ey : us[i] = y := Option.some.inj ey
    have hpart := hus us[i] (List.getElem_mem _)
    rw [ey] at hpart
    have g1 : (σ.set 1 (some y))[1]? = some (some y) := by rw [List.getElem?_set_self (by omega)]
    have g0 : (σ.set 1 (some y))[0]? = some (some (.ref T)) := by rw [List.getElem?_set_ne (by decide)]; exact hσ0
    have gl2 : (σ.set 1 (some y)).length = 2 := by rw [List.length_set]; exact hσl
    show tSeq _ _ _ _ _
    refine ⟨y, g1, ?_⟩
    cases hpart with
    | @other T2 hk ty =>
      refine ⟨y, .ty "list", .type T2, .type "list", false, rfl, .ty "list", by rw [eK]; exact ty _ k3, by rw [eK]; exact kit_ty hk, false, rfl, ?_⟩
      simp only [Bool.false_eq_true, if_false]
      exact ⟨trivial, by omega, gl2, g0, k1, k2, k3, fun b ws h => by obtain ⟨ws', a1, a2⟩ := k4 b ws h; exact ⟨ws', a1, by omega⟩⟩
    | @list b ws e h hl2 =>
      subst e
      obtain ⟨ws', a1, a2⟩ := k4 b ws h
      refine ⟨.ref b, .ty "list", .type "list", .type "list", true, rfl, .ty "list", .base (.lst a1), by rw [eK]; exact kit_ty (by decide +kernel), true, rfl, ?_⟩
      simp only [if_true]
      refine ⟨.ref b, g1, .inl ⟨rfl, _, SqL.of a1⟩, b, ws', .int 1, rfl, rfl, a1, by rw [PySem.sizeLine_eq]; omega, trivial, by omega, gl2, g0, fun c o hc hg => ?_, fun c hc => ?_, fun c o hc hn => ?_, fun c us2 hc => ?_⟩
      · have : c ≠ b := fun z => by rw [z, h] at hg; cases hg
        rw [upd_ne this]; exact k1 c o hc hg
      · by_cases z : c = b
        · rw [z, upd_same]; simp
        · rw [upd_ne z]; exact k2 c hc
      · have : c ≠ b := fun z => by rw [z, h] at hc; exact hn _ (Option.some.inj hc).symm
        rw [upd_ne this]; exact k3 c o hc hn
      · by_cases z : c = b
        · rw [z, upd_same]
          rw [z, h] at hc
          cases hc
          exact ⟨_, rfl, by simp; omega⟩
        · obtain ⟨w3, b1, b2⟩ := k4 c us2 hc
          rw [upd_ne z]; exact ⟨w3, b1, by omega⟩
  · exact .inl ⟨⟨us, hsq, by omega⟩, hq H' k1 k2⟩
section
variable {C : Cc} {Γ Γ' : List Slot} {ω : Type} {J : ω → Out} {p py cpos pos : Pos} {rest : List Stmt} {x y : Str} {i j : Nat}
end
end Y

/-! Y36: a list of new lists, no two the same; x[k].clear() -/
namespace Y
open PySem PySem.Spec L2
/-- no two the same, none the list itself -/
def Dn (a : Addr) (vs : List V) : Prop := vs.Nodup ∧ ∀ u ∈ vs, ∃ b, u = .ref b ∧ b ≠ a
section
variable {α β γ δ ε ω : Type}
def oLD (N : Addr → Prop) (r : α → Rp) (xs : List α) : Op :=
  ⟨fun F G v => ∃ a vs, v = .ref a ∧ N a ∧ G = one a (.lst vs) ∧ All2 (fun u x => (r x).p F u) vs xs ∧ Dn a vs, fun h ⟨a, vs, e, n, q, t, d⟩ => ⟨a, vs, e, n, q, t.imp fun _ _ z => (r _).mono h z, d⟩⟩
def rDL (N : Addr → Prop) (r : α → Rp) (xs : List α) : Rp :=
  ⟨fun F v => ∃ a vs, v = .ref a ∧ N a ∧ F a = some (.lst vs) ∧ All2 (fun u x => (r x).p F u) vs xs ∧ Dn a vs, fun h ⟨a, vs, e, n, q, t, d⟩ => ⟨a, vs, e, n, h _ _ q, t.imp fun _ _ z => (r _).mono h z, d⟩⟩
theorem Frs.D {ρ : (Addr → Prop) → α → Rp} (h : Frs ρ) : Frs (fun N => rDL N (ρ N)) := ⟨fun N b F v ⟨a, vs, e, n, q, t, d⟩ => ⟨a, vs, e, n, by rw [restr_at n]; exact q, t.imp fun _ _ z => h.re _ _ _ _ z, d⟩, fun N N' b F v hn ⟨a, vs, e, n, q, t, d⟩ => ⟨a, vs, e, hn _ n, q, t.imp fun _ _ z => h.mo _ _ _ _ _ hn z, d⟩⟩
instance {K : PySem.W.Frag} {N : Addr → Prop} {r : α → Rp} : TyK K (rDL N r) "list" := ⟨fun x F H v s ⟨a, vs, e, _, q, _⟩ => by subst e; exact .base (.lst (s _ _ q))⟩
/-- what is new stands at an address of N -/
def AtN (ρ : (Addr → Prop) → β → Rp) : Prop := ∀ N y F v, (ρ N y).p F v → ∃ b, v = .ref b ∧ N b ∧ F b ≠ none
theorem AtN.N {ρ : (Addr → Prop) → β → Rp} : AtN (fun N => rN N (ρ N)) := fun N y F v ⟨a, vs, e, n, q, _⟩ => ⟨a, e, n, by rw [q]; simp⟩
end
section
variable {C : Cc} {Γ Γ' : List Slot} {α β γ δ ε ω : Type} {J : ω → Out}
/-- k-th emptied -/
def clrI (xs : List (List α)) (i : Int) : W (List (List α)) := match ixN xs.length i with | some j => pure (xs.set j []) | none => W.bad
instance {N : Addr → Prop} {ρ : (Addr → Prop) → α → Rp} {xs : List α} : IsLst (oV (fun N => rDL N (ρ N)) N xs) := ⟨fun _ _ _ ⟨_, a, vs, e, _, q, _⟩ => ⟨a, vs, e, q⟩⟩
end
end Y

/-! Y37: texts read: split, endswith, upper, count, index, int -/
namespace Y
open PySem PySem.Spec L2
/-- list.count of flat values -/
def rCntF (K : PySem.W.Frag) : V → List V → Hp → VK → Prop := fun x xs H Q => ∃ (p : Addr) (ys : List V) (y : V), x = .ref p ∧ xs = [y] ∧ SqL K H p ys ∧ flatV y = true ∧ ys.all flatV = true ∧ Q (.int (ys.countP (fun z => eqV z y) : Nat)) H
section
variable {C : Cc} {Γ Γ' : List Slot} {α β γ δ ε ω : Type} {J : ω → Out} {e o e0 e1 e2 e3 a b : Expr} {p p2 pos apos : Pos} {rest sts : List Stmt} {x : Str} {j : Nat}
/-- x.split(y), new -/
theorem EvO.split {m1 m2 : W Str} (ho : Ev C Γ o rS m1) (he : Ev C Γ e rS m2) (hn : NoStar e) (hbase : ∀ X : Cx, attributeBase o "split" X.env (eval o X.env) = eval o X.env := by intro _; rfl) (hline : (apos.endLine == pos.line) = true := by rfl) :
    EvO C Γ (.Call (.Attribute o "split" apos) [e] [] pos) (oL C.fr rS) (do let x ← m1; let y ← m2; W.req ((y.length == 0) = false ∧ x.length ≤ 1000000) (pure (Txt.split x y))) := fun X Wx ok tk F H g σ s Q hm => by
  refine WE.of (pe_split (pe_W (e := o)) (pe_W (e := e)) (hn [] X.env) (hbase X) hline) ?_
  refine ho X Wx ok tk F H g σ s _ (m1.mono (fun x hx F1 H1 g1 v f1 s1 r1 => ?_) (fun e he => he) hm)
  refine ⟨⟨x, r1⟩, he X Wx ok tk F1 H1 g1 σ s1 _ (m2.mono (fun y hy F2 H2 g2 w f2 s2 r2 => ?_) (fun e he => XEnd.later f1 he) hx)⟩
  obtain ⟨⟨h1, h2⟩, hy⟩ := hy
  refine ⟨x, y, r1, by rw [show w = .str y from r2], h1, by rw [PySem.sizeLine_eq]; omega, fun p hp => ?_⟩
  have t : All2 (fun u z => (rS z).p F2 u) ((Txt.split x y).map V.str) (Txt.split x y) := All2.ofMem V.str (fun z => z) (Txt.split x y) (fun z _ => rfl) |> fun h => by simpa using h
  exact EvO.fin (O := oL C.fr rS (Txt.split x y)) (f1.trans f2) s2 hp (fun n => ⟨p, _, rfl, n, rfl, t⟩) hy
end
end Y

/-! Y38: how many unlike texts a list has: len(set(xs)) -/
namespace Y
open PySem PySem.Spec
/-- the unlike ones, in the order in which they come -/
def unl1 (σ : List Str) (x : Str) : List Str := if σ.any (· == x) = true then σ else σ ++ [x]
def unl (xs : List Str) : List Str := xs.foldl unl1 []
section
open PyProof.Rows
variable {prog : Program} {w : World} {A : Around} {R : Result → Shared → Prop} {I : Addr} {fp wr : List Addr} {G : Array GenState → Array GenState → Prop} {n : Nat} {P : Nat → Value → Prop} {St : Nat → Shared → Prop}
/-- the set S of the first i texts -/
def SetT (prog : Program) (w : World) (h : Heap) (S : Addr) (xs : List Str) : Prop := h.SetOf (PySem.strKind prog w) S (fun k' => (unl xs).any (· == k')) (unl xs).length
end
section
open PyProof.Rows
variable {prog : Program} {w : World} {A : Around} {E : Value → Shared → Prop} {s : Shared}
/-- a new set, without anything in it -/
def set0 (led : Bool) : Obj := { cls := .type "set", dict := none, data := .set #[] 0 (.fresh 0 0 led) }
end
section
open PyProof.Rows L2
def tLenSetT (K : PySem.W.Frag) (ta : TE) : TE := fun σ H Q => ta σ H fun x H1 => ∃ l, ∃ xs : List Str, x = .ref l ∧ SqL K H1 l (xs.map V.str) ∧ xs.length + 1 < scanBound ∧ Q (.int (unl xs).length) H1
variable {X : Cx}
end
section
open L2
variable {C : Cc} {Γ : List Slot} {e : Expr} {p p2 q pos : Pos}
/-- x.upper() -/
theorem Ev.upper {o : Expr} {apos : Pos} {m1 : W Str} (ho : Ev C Γ o rS m1) (hbase : ∀ X : Cx, attributeBase o "upper" X.env (eval o X.env) = eval o X.env := by intro _; rfl) (hline : (apos.endLine == pos.line) = true := by rfl) :
    Ev C Γ (.Call (.Attribute o "upper" apos) [] [] pos) rS (do let x ← m1; W.req (x.length ≤ 1000000) (pure (Txt.upper x))) := fun X Wx ok tk F H g σ s Q hm => by
  refine WE.of (pe_upper (pe_W (e := o)) (hbase X) hline) ?_
  refine ho X Wx ok tk F H g σ s _ (m1.mono (fun x hx F1 H1 g1 v f1 s1 r1 => ?_) (fun e he => he) hm)
  exact ⟨⟨x, r1⟩, x, r1, rfl, by have := hx.1; omega, hx.2 F1 H1 g1 _ f1 s1 rfl⟩
end
end Y

/-! Y39: t[1:] of a tuple of three -/
namespace Y
open PySem PySem.Spec L2
section
variable {C : Cc} {Γ Γ' : List Slot} {a : Expr} {p2 pos : Pos}
end
end Y

/-! Y40: range of three; a text times a number -/
namespace Y
open PySem PySem.Spec L2
/-- lo, lo + c, .. : n of them -/
def rngC (lo c : Int) (n : Nat) : List Int := (List.range n).map fun (i : Nat) => lo + (i : Int) * c
/-- range(0, hi, c) for c from 1 on -/
def range3W (lo hi c : Int) : W (List Int) := W.req (lo = 0 ∧ 0 ≤ hi ∧ hi ≤ 1000000 ∧ 1 ≤ c ∧ c ≤ 1000000) (pure (rngC 0 c ((hi + c - 1) / c).toNat))
section
variable {C : Cc} {Γ : List Slot} {e1 e2 e3 a b tg : Expr} {p pos : Pos}
/-- a text, some times -/
def repT (x : Str) (n : Int) : Str := ⟨(List.replicate n.toNat x.cps).foldl (· ++ ·) #[]⟩
def repS (x : Str) (n : Int) : W Str := W.req (2 ≤ n ∧ n ≤ 1000 ∧ 1 ≤ x.length ∧ x.length ≤ 1000) (pure (repT x n))
end
/-! ### tuples are no texts -/
instance {K : PySem.W.Frag} {α β : Type} {r1 : α → Rp} {r2 : β → Rp} [I : DatE K r1] [J : DatE K r2] : NoS (K := K) (rT2 K r1 r2) := ⟨fun _ _ => rfl, fun _ _ => rfl⟩
instance {K : PySem.W.Frag} {α β γ : Type} {r1 : α → Rp} {r2 : β → Rp} {r3 : γ → Rp} [I : DatE K r1] [J : DatE K r2] [L : DatE K r3] : NoS (K := K) (rT3 K r1 r2 r3) := ⟨fun _ _ => rfl, fun _ _ => rfl⟩
/-! ### lists of many parts -/
section
variable {C : Cc} {Γ : List Slot} {pos : Pos} {α : Type} {r : α → Rp}
end
end Y

/-! Y41: an object that its own methods change (the clerk); partition; a global tuple of texts -/
namespace L2
open PySem PySem.Spec PyProof.Rows
section
variable {X : Cx} {CX : CXT} {k : Nat} {f C : Addr} {fd : FuncData} {ps : List Str} {sp : Sp} {E : St → XK} {x : Str} {p pos : Pos}
end
end L2
namespace Y
open PySem PySem.Spec L2
/-! ### partition -/
theorem htN {y nm : Str} {p2 : Pos} {apos : _} {pos : Pos} {e : Expr} (n1 : NoStar e) (hl : (apos.endLine == pos.line) = true) : ∀ X : Cx, ∃ pl : Sem Bool, eval (.Call (.Attribute (.Name y p2) nm apos) [e] [] pos) X.env = (do
      let ov ← eval (.Name y p2) X.env
      standAt apos.atName
      let (f', first) ← holding [ov] (getMethod ov nm pl)
      callWith pos f' first (backTo pos (starEach [e] X.env)) (backToKw pos (keywordEach [] X.env))) := by
  intro X
  refine ⟨(do return (← importBound (.Name y p2) X.env).getD true), ?_⟩
  have hs := n1 [] X.env
  show (do
    let ov ← attributeBase (.Name y p2) nm X.env (eval (.Name y p2) X.env)
    standAt apos.atName
    methodCall (.Name y p2) nm apos pos X.env ov ([e].length + ([] : List Keyword).length) (backTo pos (starEach [e] X.env)) (backToKw pos (keywordEach [] X.env))) = _
  rw [hs]
  have e1 : ∀ (f : Bool × Sem Value) , methodCallPos true (.Name y p2) X.env apos pos = pure pos := fun _ => by
    unfold methodCallPos
    rw [hl]
    rfl
  unfold methodCall
  have e2 : ∀ t, methodCallForm ([e].length + ([] : List Keyword).length) (backTo pos ((false, t) :: starEach [] X.env)) (backToKw pos (keywordEach [] X.env)) = true := fun t => rfl
  simp only [e2, e1 (false, eval e X.env)]
  rfl
section
variable {C : Cc} {Γ Γ' : List Slot} {α β γ ω : Type} {J : ω → Out} {e o a b : Expr} {pos p p2 apos : Pos} {rest : List Stmt} {x : Str} {j : Nat}
/-! ### a global tuple of texts -/
def rTS (K : PySem.W.Frag) (zs : List Str) : Rp := ⟨fun F v => ∃ a, v = .ref a ∧ SqT K F a (zs.map V.str), fun h ⟨a, e, q⟩ => ⟨a, e, Same.seqT h q⟩⟩
/-! ### a thing in a slot, changed by a call -/
theorem StOk.callX {F H F' H' G' : Hp} {σ : St} {g : Nat → Hp} {i : Nat} {v : V} {O' : Op} (s : StOk C F H Γ σ g) (hi : i < Γ.length) (hσ : σ[i]? = some (some v)) (f : Fr F H (fun b => g i b ≠ none) F' H' (fun b => g i b ≠ none)) (sF' : Same F' H') (sG' : Same G' H') (d' : Dis F' G') (hd : ∀ b, G' b ≠ none → g i b ≠ none) (r : O'.p F' G' v) :
    StOk C F' H' (Γ.set i (.own O')) σ (setG g i G') ∧ Fr F H (dU g) F' H' (dU (setG g i G')) := by
  have hgj : ∀ j, j ≠ i → ∀ b u, g j b = some u → g i b = none := fun j hj b u q => by
    rcases s.dG j i hj b with z | z
    · rw [q] at z; cases z
    · exact z
  refine ⟨⟨by rw [List.length_set]; exact s.len, fun j S q => ?_, sF', fun j => ?_, fun j => ?_, fun j k hjk => ?_, fun b q => ?_⟩, ⟨f.sF, fun b z => (f.fF b z).imp_right fun q => q.imp_right fun q => ⟨i, q⟩, fun b o q n => f.keep b o q fun z => n ⟨i, z⟩, f.dom, fun b z => ?_⟩⟩
  · by_cases hj : i = j
    · subst hj
      rw [List.getElem?_set_self hi] at q
      cases q
      rw [setG_same]
      exact ⟨v, hσ, r⟩
    · rw [List.getElem?_set_ne hj] at q
      rw [setG_ne (fun z => hj z.symm)]
      exact (s.slot j S q).mono f.sF
  · by_cases hj : j = i
    · subst hj; rw [setG_same]; exact sG'
    · rw [setG_ne hj]
      intro b u q
      exact f.keep b u (s.sG j b u q) fun z => z (hgj j hj b u q)
  · by_cases hj : j = i
    · subst hj; rw [setG_same]; exact d'
    · rw [setG_ne hj]
      intro b
      cases q : g j b with
      | none => exact .inr rfl
      | some u =>
        refine .inl ?_
        cases q2 : F' b with
        | none => rfl
        | some w =>
          have hH := s.sG j b u q
          rcases f.fF b (by rw [q2]; simp) with z | z | z
          · rcases s.dF j b with y | y
            · exact absurd y z
            · rw [q] at y; cases y
          · rw [hH] at z; cases z
          · exact absurd (hgj j hj b u q) z
  · have key : ∀ l, l ≠ i → ∀ b, G' b = none ∨ g l b = none := fun l hl b => by
      cases q : g l b with
      | none => exact .inr rfl
      | some u =>
        refine .inl ?_
        cases q2 : G' b with
        | none => rfl
        | some w => exact absurd (hgj l hl b u q) (hd b (by rw [q2]; simp))
    by_cases hj : j = i
    · subst hj
      rw [setG_same, setG_ne (fun z => hjk z.symm)]
      exact key k (fun z => hjk z.symm)
    · rw [setG_ne hj]
      by_cases hk : k = i
      · subst hk
        rw [setG_same]
        exact fun b => (key j hj b).symm
      · rw [setG_ne hk]; exact s.dG j k hjk
  · refine s.fr b ?_
    cases q2 : H b with
    | none => rfl
    | some u => exact absurd q (f.dom b (by rw [q2]; simp))
  · obtain ⟨j, z⟩ := z
    by_cases hj : j = i
    · subst hj
      rw [setG_same] at z
      exact .inl ⟨j, hd b z⟩
    · rw [setG_ne hj] at z
      exact .inl ⟨j, z⟩
/-- such a thing, at any place -/
def oClk (A : Addr) (fl : Fl2) : Op := ⟨fun F G v => ∃ a dx, (oIns A a dx fl).p F G v, fun h ⟨a, dx, r⟩ => ⟨a, dx, (oIns A a dx fl).mono h r⟩⟩
theorem two_a {a dx : Addr} {o u : HO} : two a o dx u a = some o := if_pos rfl
theorem two_d {a dx : Addr} {o u : HO} (h : dx ≠ a) : two a o dx u dx = some u := by unfold two; rw [if_neg h, if_pos rfl]
theorem two_dom {a dx : Addr} {o u : HO} {b : Addr} : two a o dx u b ≠ none ↔ b = a ∨ b = dx := by
  unfold two
  constructor
  · intro h
    split at h
    · rename_i e; exact .inl e
    · split at h
      · rename_i e; exact .inr e
      · exact absurd rfl h
  · intro h
    split
    · simp
    · rename_i n
      rcases h with q | q
      · exact absurd q n
      · rw [if_pos q]; simp
/-- a method that changes its object -/
def spC (M : Mc) (A : Addr) {δ τ β : Type} (ins : τ → List Rp) (fl : δ → Fl2) (ρ : β → Rp) (m : δ × τ → W (δ × β)) : Sp := fun vs H Q E => ∃ (s : δ) (t : τ) (F : Hp) (N : Addr → Prop) (p dx : Addr) (fs : List (Str × V)) (ws : List V), (∀ a, H a = none → N a) ∧ vs = .ref p :: ws ∧ Same F H ∧ F p = none ∧ F dx = none ∧ dx ≠ p ∧ H p = some (.ins A dx fs) ∧ H dx = some (.own p) ∧ FldOk F fs (fl s) ∧ All2 (fun v R => R.p F v) ws (ins t) ∧
  (m (s, t)).wp (fun y => ∀ F' H' fs' v, Fr F H (fun b => b = p ∨ b = dx) F' H' (fun b => b = p ∨ b = dx) → Same F' H' → F' p = none → F' dx = none → H' p = some (.ins A dx fs') → H' dx = some (.own p) → FldOk F' fs' (fl y.1) → (ρ y.2).p F' v → Q v H') (fun _ => False)
structure CMetV (M : Mc) (A : Addr) (x : Str) (j n : Nat) {δ τ β : Type} (ins : τ → List Rp) (fl : δ → Fl2) (ρ : β → Rp) (m : δ × τ → W (δ × β)) : Prop where
  ex : ∃ f fd ps, FnOk M.P M.w M.K M.mg M.base (L2.CX M.P M.w) j f fd ps (spC M A ins fl ρ m) ∧ Meth M.K A x f ∧ Binds M.K fd ps []
  len : ∀ t, (ins t).length = n
theorem CMetV.ofBody {M : Mc} {A f : Addr} {fd : FuncData} {x qual : Str} {st : Stmt} {k n : Nat} {N ps : List Str} {δ τ β : Type} {ins : τ → List Rp} {fl : δ → Fl2} {ρ : β → Rp} {m : δ × τ → W (δ × β)} (F : Fun M.K x qual st f fd) (hM : Meth M.K A x f) (hb : Binds M.K fd ps []) (S : FnScope N ps (defScope st))
    (hn : ps.length = n + 1) (hl : ∀ t, (ins t).length = n) (Γf : Addr → Addr → δ → List Slot) (hΓf : ∀ p dx s, (Γf p dx s)[0]? = some (.own (oIns A p dx (fl s)))) (h : ∀ (fr : Addr → Prop) (p dx : Addr) (s : δ) (t : τ), Ex (initC M N (defScope st) k fr) (.own (oIns A p dx (fl s)) :: Γ0 (ins t) N.tail) (defBody st) (fun y : δ × β => .rtG (ρ y.2) (Γf p dx y.1)) (m (s, t))) : CMetV M A x (k + 1) n ins fl ρ m := by
  refine ⟨⟨f, fd, ps, F.okX S (fun vs H Q E hsp => ?_) (fun cdv A' outer s H vs Q E hr hsp => ?_), hM, hb⟩, hl⟩
  · obtain ⟨s, t, F', Nf, p, dx, fs, ws, _, e, _, _, _, _, _, _, _, r, _⟩ := hsp
    rw [e, List.length_cons, r.length, hl, hn]
  · obtain ⟨s1, t, F', Nf, p, dx, fs, ws, hNf, e, sm, hFp, hFd, hne, hHp, hHd, hfs, r, w⟩ := hsp
    subst e
    refine ⟨_, pss_W, ?_⟩
    have hNne : N ≠ [] := fun z => by
      have := S.pre
      rw [z] at this
      have h0 : ps.length = 0 := by rw [← this]; simp
      omega
    obtain ⟨n0, N', eN⟩ := List.exists_cons_of_ne_nil hNne
    subst eN
    have st0 := start_ok (M := M) (N := N') (sc := defScope st) (k := k) hNf sm r
    have hst : L2.start (n0 :: N') (V.ref p :: ws) = some (V.ref p) :: L2.start N' ws := by
      unfold L2.start
      simp
    have s0 : StOk (initC M (n0 :: N') (defScope st) k Nf) F' H (.own (oIns A p dx (fl s1)) :: Γ0 (ins t) N') (L2.start (n0 :: N') (V.ref p :: ws)) (setG (fun _ => emp) 0 (two p (.ins A dx fs) dx (.own p))) := by
      rw [hst]
      refine ⟨by simp [st0.len], fun i Sl q => ?_, sm, fun i b u q => ?_, fun i b => ?_, fun i j hij b => ?_, hNf⟩
      · cases i with
        | zero =>
          have q' : some (Slot.own (oIns A p dx (fl s1))) = some Sl := q
          cases q'
          rw [setG_same]
          exact ⟨_, rfl, fs, rfl, hne, rfl, hfs⟩
        | succ i =>
          rw [setG_ne (Nat.succ_ne_zero i)]
          exact st0.slot i Sl q
      · by_cases hi : i = 0
        · subst hi
          rw [setG_same] at q
          unfold two at q
          split at q
          · rename_i e; cases q; rw [e]; exact hHp
          · split at q
            · rename_i e; cases q; rw [e]; exact hHd
            · cases q
        · rw [setG_ne hi] at q; cases q
      · by_cases hi : i = 0
        · subst hi
          rw [setG_same]
          by_cases h1 : b = p
          · exact .inl (by rw [h1]; exact hFp)
          · by_cases h2 : b = dx
            · exact .inl (by rw [h2]; exact hFd)
            · exact .inr (by unfold two; rw [if_neg h1, if_neg h2])
        · rw [setG_ne hi]; exact .inr rfl
      · by_cases hi : i = 0
        · subst hi
          rw [setG_ne (fun z => hij z.symm)]
          exact .inr rfl
        · rw [setG_ne hi]; exact .inl rfl
    have hU : ∀ b, dU (setG (fun _ => emp) 0 (two p (.ins A dx fs) dx (.own p))) b → b = p ∨ b = dx := fun b ⟨i, q⟩ => by
      by_cases hi : i = 0
      · subst hi
        rw [setG_same] at q
        exact two_dom.mp q
      · rw [setG_ne hi] at q; exact absurd rfl q
    refine h Nf p dx s1 t (cxOf (L2.CX M.P M.w) M.P M.w M.K M.mg M.base (n0 :: N') qual (defScope st) f cdv A' outer s H E) (fun cls d _ H => E cls d H) ⟨⟨rfl, rfl, rfl, rfl, rfl, rfl, rfl, S.nd, rfl, fun _ => hr, hr.units, fun _ _ _ h => (nomatch h), fun _ _ => rfl⟩, passes_of rfl, rfl, rfl⟩ (takes_of rfl rfl rfl rfl) F' H _ _ s0 _ ((m (s1, t)).mono (fun y hy => ?_) (fun e he => he.elim) w)
    intro F2 H2 g2 σ2 v f2 s2 r2
    obtain ⟨v2, eσ, fs2, ev, _, eg, tf⟩ := s2.get_own (hΓf p dx y.1)
    have hg : ∀ b, b = p ∨ b = dx → g2 0 b ≠ none := fun b hb => by rw [eg]; exact two_dom.mpr hb
    have hF2 : ∀ b, b = p ∨ b = dx → F2 b = none := fun b hb => by
      rcases s2.dF 0 b with q | q
      · exact q
      · exact absurd q (hg b hb)
    exact hy F2 H2 fs2 v ⟨f2.sF, fun b z => (f2.fF b z).imp_right fun q => q.imp_right (hU b), fun b o q n => f2.keep b o q fun z => n (hU b z), f2.dom, fun b z => .inl z⟩ s2.sF (hF2 p (.inl rfl)) (hF2 dx (.inr rfl)) (s2.sG 0 p _ (by rw [eg]; exact two_a)) (s2.sG 0 dx _ (by rw [eg]; exact two_d hne)) tf r2
/-- an expression that changes what the slots hold -/
def EvX (C : Cc) (Γ : List Slot) (e : Expr) {α : Type} (Γ' : α → List Slot) (ρ : α → Rp) (m : W α) : Prop :=
  ∀ (X : Cx) (Wx : WX), C.Ok X → Takes X Wx → ∀ (F H : Hp) (g : Nat → Hp) (σ : St), StOk C F H Γ σ g → ∀ Q : VK,
    m.wp (fun a => ∀ F' H' g' v, Fr F H (dU g) F' H' (dU g') → StOk C F' H' (Γ' a) σ g' → (ρ a).p F' v → Q v H') (XEnd C F H (dU g) Γ σ Wx) → WE X e σ H Q
/-- what such a thing's kind must be like -/
structure IsClk (A : Addr) {δ : Type} (fl : δ → Fl2) (O : δ → Op) : Prop where
  out : ∀ s F G v, (O s).p F G v → ∃ a dx, (oIns A a dx (fl s)).p F G v ∧ ∀ s' F' fs', FldOk F' fs' (fl s') → (O s').p F' (two a (.ins A dx fs') dx (.own a)) v
theorem EvX.call1 {A : Addr} {i : Nat} {nm y : Str} {δ : Type} {fl : δ → Fl2} {O : δ → Op} {s0 : δ} {ra : α → Rp} {ρ : β → Rp} {mf : δ × (α × Unit) → W (δ × β)} {m1 : W α} (hf : CMetV C.toMc A nm j 1 (fun t : α × Unit => [ra t.1]) fl ρ mf) (hO : IsClk A fl O) (hj : j ≤ C.k) (hc : Cls C.K A) (hlk : ∀ s, (fl s).lookup nm = Option.none) (hN : C.N[i]? = some y) (hv : visB C.sc y = true) (hΓ : Γ[i]? = some (.own (O s0)))
    (hdy : (y == ("__debug__" : Str) || y == ("__classdict__" : Str)) = false) (h1 : Ev C Γ e ra m1) (n1 : NoStar e)
    (hline : (apos.endLine == pos.line) = true := by rfl) (hcm : C.cm = true := by rfl) :
    EvX C Γ (.Call (.Attribute (.Name y p2) nm apos) [e] [] pos) (fun z : δ × β => Γ.set i (.own (O z.1))) (fun z => ρ z.2) (do let a ← m1; W.noX (mf (s0, a, ()))) :=
  fun X Wx ok tk F H g σ s Q hm => by
    obtain ⟨⟨f, fd, ps, hF, hM, hb⟩, hl⟩ := hf
    obtain ⟨pl, hpl2⟩ := htN n1 hline X
    have e1 := ok.prog
    have e2 := ok.w
    have e3 := ok.K
    have e4 := ok.mg
    have e5 := ok.base
    rw [Bool.or_eq_false_iff] at hdy
    refine WE.of (pe_methYX (pl := pl) (E := fun σ => L2.WE Wx σ) (pe_var (i := i) (by rw [ok.N]; exact hN) (by rw [ok.sc]; exact visOf hv) hdy.1 hdy.2) (by rw [e3]; exact hc) (by rw [e3]; exact hM) (by rw [e1, e2, e3, e4, e5]; exact hF) ((ok.room hcm).mono hj) (by rw [e3]; exact hb) (fun σ => by
      have := passAt tk σ
      rw [e1, e2] at this
      exact this) (pa_cons (pe_W (e := e)) pa_nil (n1 [] X.env)) (n1 [] X.env) (by rfl) hpl2) ?_
    obtain ⟨v0, eσ, r0⟩ := s.get_own hΓ
    obtain ⟨a, dx, ⟨fs, ev, hne, eg, t⟩, hput⟩ := hO.out _ _ _ _ r0
    refine ⟨v0, eσ, a, dx, fs, ev, s.sG i a _ (by rw [eg]; exact two_a), t.no (hlk s0), ?_⟩
    refine h1 X Wx ok tk F H g σ s _ (m1.mono (fun x hx F1 H1 g1 v1 f1 s1 r1 => ?_) (fun e he => he) hm)
    obtain ⟨v2, eσ2, r2⟩ := s1.get_own hΓ
    rw [eσ] at eσ2
    cases eσ2
    obtain ⟨a2, dx2, ⟨fs2, ev2, hne2, eg2, t2⟩, hput2⟩ := hO.out _ _ _ _ r2
    have ea : a2 = a := by rw [ev] at ev2; cases ev2; rfl
    subst ea
    have hg : ∀ b, b = a2 ∨ b = dx2 → g1 i b ≠ none := fun b hb => by rw [eg2]; exact two_dom.mpr hb
    have hg' : ∀ b, g1 i b ≠ none → b = a2 ∨ b = dx2 := fun b hb => by rw [eg2] at hb; exact two_dom.mp hb
    have hF1 : ∀ b, b = a2 ∨ b = dx2 → F1 b = none := fun b hb => by
      rcases s1.dF i b with q | q
      · exact q
      · exact absurd q (hg b hb)
    refine ⟨s0, (x, ()), F1, C.fr, a2, dx2, fs2, [v1], s1.fr, rfl, s1.sF, hF1 _ (.inl rfl), hF1 _ (.inr rfl), hne2, s1.sG i a2 _ (by rw [eg2]; exact two_a), s1.sG i dx2 _ (by rw [eg2]; exact two_d hne2), t2, .cons r1 .nil, (mf (s0, x, ())).mono (fun y hy F2 H2 fs3 v3 f3 sF3 q1 q2 q3 q4 t3 r3 => ?_) (fun e he => he) (show (mf (s0, x, ())).wp _ (fun _ => False) from hx)⟩
    obtain ⟨s4, f4⟩ := s1.callX (i := i) (G' := two a2 (.ins A dx2 fs3) dx2 (.own a2)) (O' := O y.1) (v := v0) (List.getElem?_eq_some_iff.mp hΓ).1 eσ ⟨f3.sF, fun b z => (f3.fF b z).imp_right fun q => q.imp_right (hg b), fun b o q n => f3.keep b o q fun z => n (hg b z), f3.dom, fun b z => (f3.gs b (hg' b z)).imp_left (hg b)⟩ sF3 (fun b u q => by
        unfold two at q
        split at q
        · rename_i e; cases q; rw [e]; exact q3
        · split at q
          · rename_i e; cases q; rw [e]; exact q4
          · cases q) (fun b => by
        by_cases z : b = a2 ∨ b = dx2
        · rcases z with z | z
          · exact .inl (by rw [z]; exact q1)
          · exact .inl (by rw [z]; exact q2)
        · refine .inr ?_
          cases w : two a2 (.ins A dx2 fs3) dx2 (.own a2) b with
          | none => rfl
          | some u => exact absurd (two_dom.mp (by rw [w]; simp)) z) (fun b z => hg b (two_dom.mp z)) (hput2 y.1 F2 fs3 t3)
    exact hy F2 H2 _ v3 (f1.trans f4) s4 r3
/-- == and != with a text -/
theorem EvX.eqT {δ : Type} {Γ' : δ → List Slot} {z : Str} {kc : Nat} {m : W (δ × Str)} (h : EvX C Γ e (fun y => Γ' y.1) (fun y : δ × Str => rS y.2) m) : EvX C Γ (.Compare e [.Eq] [.Constant (.str z) kc p2] pos) (fun y : δ × Bool => Γ' y.1) (fun y => rB y.2) (do let y ← m; pure (y.1, decide (y.2 = z))) :=
  fun X Wx ok tk F H g σ s Q hm => by
    refine WE.of (pe_cmpR op_eq (pe_W (e := e)) pe_str (nomark _)) ?_
    refine h X Wx ok tk F H g σ s _ (m.mono (fun y hy F1 H1 g1 v f1 s1 r1 => ?_) (fun e he => he) hm)
    have e1 : v = .str y.2 := r1
    subst e1
    refine ⟨rfl, ?_⟩
    have := hy F1 H1 g1 (.bl (decide (y.2 = z))) f1 s1 rfl
    have e2 : decide (V.str y.2 = V.str z) = decide (y.2 = z) := by simp
    rw [e2]
    exact this
/-! ### statements -/
end
end Y

/-! Y42: making such an object; its fields within its own methods; tests that change it -/
namespace Y
open PySem PySem.Spec L2
/-! ### making -/
def spO (M : Mc) (A : Addr) (fl : Fl2) : Sp := fun vs H Q E => ∃ (F : Hp) (N : Addr → Prop) (p dx : Addr), (∀ a, H a = none → N a) ∧ vs = [.ref p] ∧ Same F H ∧ F p = none ∧ F dx = none ∧ dx ≠ p ∧ H p = some (.ins A dx []) ∧ H dx = some (.own p) ∧
  (∀ F' H' fs', Fr F H (fun b => b = p ∨ b = dx) F' H' (fun b => b = p ∨ b = dx) → Same F' H' → F' p = none → F' dx = none → H' p = some (.ins A dx fs') → H' dx = some (.own p) → FldOk F' fs' fl → Q .non H')
structure MakC (M : Mc) (x : Str) (A : Addr) (j : Nat) (fl : Fl2) : Prop where
  ex : ∃ f fd ps, FnOk M.P M.w M.K M.mg M.base (L2.CX M.P M.w) j f fd ps (spO M A fl) ∧ Mk M.K A f ∧ Binds M.K fd ps [] ∧ M.mg x = some (.ref A)
theorem MakC.ofBody {M : Mc} {x : Str} {A f : Addr} {fd : FuncData} {nm qual : Str} {st : Stmt} {k : Nat} {N ps : List Str} {γ : Type} {fl : γ → Fl2} {m : W γ} (y0 : γ) (hm : ∀ (P : γ → Prop) (E : Exn → Prop), P y0 → m.wp P E) (F : Fun M.K nm qual st f fd) (hM : Mk M.K A f) (hmg : M.mg x = some (.ref A)) (hb : Binds M.K fd ps []) (S : FnScope N ps (defScope st))
    (hn : ps.length = 1) (Γf : Addr → Addr → γ → List Slot) (hΓf : ∀ p dx y, (Γf p dx y)[0]? = some (.own (oIns A p dx (fl y)))) (h : ∀ (fr : Addr → Prop) (p dx : Addr), Ex (initC M N (defScope st) k fr) (.own (oIns A p dx []) :: Γ0 [] N.tail) (defBody st) (fun y : γ => .nx (Γf p dx y)) m) : MakC M x A (k + 1) (fl y0) := by
  refine ⟨⟨f, fd, ps, F.okX S (fun vs H Q E hsp => ?_) (fun cdv A' outer s H vs Q E hr hsp => ?_), hM, hb, hmg⟩⟩
  · obtain ⟨F', Nf, p, dx, _, e, _⟩ := hsp
    rw [e, hn]
    rfl
  · obtain ⟨F', Nf, p, dx, hNf, e, sm, hFp, hFd, hne, hHp, hHd, w⟩ := hsp
    subst e
    refine ⟨_, pss_W, ?_⟩
    have hNne : N ≠ [] := fun z => by
      have := S.pre
      rw [z] at this
      have h0 : ps.length = 0 := by rw [← this]; simp
      omega
    obtain ⟨n0, N', eN⟩ := List.exists_cons_of_ne_nil hNne
    subst eN
    have st0 := start_ok (M := M) (N := N') (sc := defScope st) (k := k) hNf sm (.nil : All2 (fun (v : V) (R : Rp) => R.p F' v) [] [])
    have hst : L2.start (n0 :: N') [V.ref p] = some (V.ref p) :: L2.start N' [] := by
      unfold L2.start
      simp
    have s0 : StOk (initC M (n0 :: N') (defScope st) k Nf) F' H (.own (oIns A p dx []) :: Γ0 [] N') (L2.start (n0 :: N') [V.ref p]) (setG (fun _ => emp) 0 (two p (.ins A dx []) dx (.own p))) := by
      rw [hst]
      refine ⟨by simp [st0.len], fun i Sl q => ?_, sm, fun i b u q => ?_, fun i b => ?_, fun i j hij b => ?_, hNf⟩
      · cases i with
        | zero =>
          have q' : some (Slot.own (oIns A p dx [])) = some Sl := q
          cases q'
          rw [setG_same]
          exact ⟨_, rfl, [], rfl, hne, rfl, .nil⟩
        | succ i =>
          rw [setG_ne (Nat.succ_ne_zero i)]
          exact st0.slot i Sl q
      · by_cases hi : i = 0
        · subst hi
          rw [setG_same] at q
          unfold two at q
          split at q
          · rename_i e; cases q; rw [e]; exact hHp
          · split at q
            · rename_i e; cases q; rw [e]; exact hHd
            · cases q
        · rw [setG_ne hi] at q; cases q
      · by_cases hi : i = 0
        · subst hi
          rw [setG_same]
          by_cases h1 : b = p
          · exact .inl (by rw [h1]; exact hFp)
          · by_cases h2 : b = dx
            · exact .inl (by rw [h2]; exact hFd)
            · exact .inr (by unfold two; rw [if_neg h1, if_neg h2])
        · rw [setG_ne hi]; exact .inr rfl
      · by_cases hi : i = 0
        · subst hi
          rw [setG_ne (fun z => hij z.symm)]
          exact .inr rfl
        · rw [setG_ne hi]; exact .inl rfl
    have hU : ∀ b, dU (setG (fun _ => emp) 0 (two p (.ins A dx []) dx (.own p))) b → b = p ∨ b = dx := fun b ⟨i, q⟩ => by
      by_cases hi : i = 0
      · subst hi
        rw [setG_same] at q
        exact two_dom.mp q
      · rw [setG_ne hi] at q; exact absurd rfl q
    refine h Nf p dx (cxOf (L2.CX M.P M.w) M.P M.w M.K M.mg M.base (n0 :: N') qual (defScope st) f cdv A' outer s H E) (fun cls d _ H => E cls d H) ⟨⟨rfl, rfl, rfl, rfl, rfl, rfl, rfl, S.nd, rfl, fun _ => hr, hr.units, fun _ _ _ h => (nomatch h), fun _ _ => rfl⟩, passes_of rfl, rfl, rfl⟩ (takes_of rfl rfl rfl rfl) F' H _ _ s0 _ (hm _ _ ?_)
    intro F2 H2 g2 σ2 f2 s2
    obtain ⟨v2, eσ, fs2, ev, _, eg, tf⟩ := s2.get_own (hΓf p dx y0)
    have hF2 : ∀ b, b = p ∨ b = dx → F2 b = none := fun b hb => by
      rcases s2.dF 0 b with q | q
      · exact q
      · exact absurd q (by rw [eg]; exact two_dom.mpr hb)
    exact w F2 H2 fs2 ⟨f2.sF, fun b z => (f2.fF b z).imp_right fun q => q.imp_right (hU b), fun b o q n => f2.keep b o q fun z => n (hU b z), f2.dom, fun b z => .inl z⟩ s2.sF (hF2 p (.inl rfl)) (hF2 dx (.inr rfl)) (s2.sG 0 p _ (by rw [eg]; exact two_a)) (s2.sG 0 dx _ (by rw [eg]; exact two_d hne)) tf
section
variable {C : Cc} {Γ Γ' : List Slot} {α β γ ω : Type} {J : ω → Out} {e o a b : Expr} {pos p p2 apos : Pos} {rest : List Stmt} {x : Str} {j : Nat}
/-- a test that changes what the slots hold -/
def EvTX (C : Cc) (Γ : List Slot) (e : Expr) {δ : Type} (Γ' : δ → List Slot) (m : W (δ × Bool)) : Prop :=
  ∀ (X : Cx) (Wx : WX), C.Ok X → Takes X Wx → ∀ (F H : Hp) (g : Nat → Hp) (σ : St), StOk C F H Γ σ g → ∀ Q : Bool → Hp → Prop,
    m.wp (fun a => ∀ F' H' g', Fr F H (dU g) F' H' (dU g') → StOk C F' H' (Γ' a.1) σ g' → Q a.2 H') (XEnd C F H (dU g) Γ σ Wx) → WT X e σ H Q
theorem EvTX.cmp {op : CmpOp} {δ : Type} {Γ' : δ → List Slot} {m : W (δ × Bool)} (h : EvX C Γ (.Compare a [op] [b] pos) (fun y : δ × Bool => Γ' y.1) (fun y => rB y.2) m) (hm : behindInMarks op b = false := by with_unfolding_all rfl) : EvTX C Γ (.Compare a [op] [b] pos) Γ' m := fun X Wx ok tk F H g σ s Q hw => by
  unfold WT
  intro pins s0 I
  refine wpAny_isTrue_cmp (thn (pe_W.run pins s0 σ H (fun v H' => ∃ k, v = .bl k ∧ Q k H') I (h X Wx ok tk F H g σ s (fun v H' => ∃ k, v = .bl k ∧ Q k H') (m.mono (fun x hx F1 H1 g1 v f1 s1 r1 => ⟨x.2, r1, hx F1 H1 g1 f1 s1⟩) (fun e he => he) hw))) fun c s3 ⟨z, H3, I3, r3, k, e, q3⟩ => ?_) hm
  subst e
  cases r3
  exact wpAny_truthy_bool ⟨H3, I3, q3⟩
end
/-- the clerk's one field -/
def flK (K : PySem.W.Frag) (s : List WorkV) : Fl2 := [("kept_works", rL K (rWk K) s)]
end Y

/-! Y43: every second of a list; list of a dict; dicts of texts -/
namespace Y
open PySem PySem.Spec L2 PyProof.Rows
/-- the first, the third, .. -/
def evr {α : Type} : List α → List α
  | [] => []
  | [a] => [a]
  | a :: _ :: r => a :: evr r
theorem evr_len {α : Type} : ∀ l : List α, (evr l).length = (l.length + 1) / 2
  | [] => by simp [evr]
  | [a] => by simp [evr]
  | a :: b :: r => by
    show (evr r).length + 1 = (r.length + 1 + 1 + 1) / 2
    rw [evr_len r]
    omega
theorem evr_get {α : Type} : ∀ (l : List α) (k : Nat), (evr l)[k]? = l[2 * k]?
  | [], k => by simp [evr]
  | [a], 0 => rfl
  | [a], k + 1 => by
    show ([a] : List α)[k + 1]? = [a][2 * (k + 1)]?
    rw [List.getElem?_eq_none (by simp), List.getElem?_eq_none (by simp; omega)]
  | a :: b :: r, 0 => rfl
  | a :: b :: r, k + 1 => by
    show (evr r)[k]? = (a :: b :: r)[2 * k + 1 + 1]?
    rw [evr_get r k]
    rfl
theorem evr_all2 {α β : Type} {R : α → β → Prop} : ∀ {as : List α} {bs : List β}, All2 R as bs → All2 R (evr as) (evr bs)
  | _, _, .nil => .nil
  | _, _, .cons r .nil => .cons r .nil
  | _, _, .cons r (.cons _ t) => .cons r (evr_all2 t)
theorem evr_vals : ∀ {xs : List V} {us : List Value}, Vals xs us → Vals (evr xs) (evr us)
  | _, _, .nil => .nil
  | _, _, .cons r .nil => .cons r .nil
  | _, _, .cons r (.cons _ t) => .cons r (evr_vals t)
theorem vals_drop : ∀ {xs : List V} {us : List Value} (n : Nat), Vals xs us → Vals (xs.drop n) (us.drop n)
  | _, _, 0, h => h
  | _, _, _ + 1, .nil => .nil
  | _, _, n + 1, .cons _ t => vals_drop n t
theorem pick2 (its : List Value) {lo : Int} (h0 : 0 ≤ lo) : slicePick its.toArray (some lo) none (some 2) = (evr (its.drop lo.toNat)).toArray := by
  have hb : sliceBounds (some lo) none (some 2) its.length = (((min lo.toNat its.length : Nat) : Int), (its.length : Int), 2) := by
    unfold sliceBounds
    simp only [Option.getD_some]
    have hn : ¬ lo < 0 := by omega
    have hp : (2 : Int) > 0 := by decide
    simp only [hn, hp, if_true, if_false]
    congr 1
    omega
  unfold slicePick
  rw [List.size_toArray, hb]
  simp only
  congr 1
  have hr : sliceRange ((min lo.toNat its.length : Nat) : Int) (its.length : Int) 2 = (List.range ((its.length - min lo.toNat its.length + 1) / 2)).map fun k => min lo.toNat its.length + 2 * k := by
    unfold sliceRange
    rw [if_pos (by decide)]
    dsimp only
    have e : (if ((min lo.toNat its.length : Nat) : Int) < (its.length : Int) then ((its.length : Int) - ((min lo.toNat its.length : Nat) : Int) + 2 - 1) / 2 else 0).toNat = (its.length - min lo.toNat its.length + 1) / 2 := by
      split <;> omega
    rw [e]
    refine List.map_congr_left fun k _ => ?_
    omega
  rw [hr]
  have hd : its.drop lo.toNat = its.drop (min lo.toNat its.length) := by
    by_cases h : lo.toNat ≤ its.length
    · rw [Nat.min_eq_left h]
    · rw [Nat.min_eq_right (by omega), List.drop_of_length_le (by omega), List.drop_of_length_le (by omega)]
  rw [hd]
  have hm : min lo.toNat its.length ≤ its.length := Nat.min_le_right _ _
  generalize min lo.toNat its.length = a at *
  have key : ∀ n, a + 2 * n ≤ its.length + 1 → ((List.range n).map fun k => a + 2 * k).filterMap (fun i => its.toArray[i]?) = (evr (its.drop a)).take n := by
    intro n
    induction n with
    | zero => intro _; simp
    | succ n ih =>
      intro hn
      have ih := ih (by omega)
      have hlt : a + 2 * n < its.length := by omega
      have e1 : (evr (its.drop a))[n]? = some (its[a + 2 * n]'hlt) := by
        rw [evr_get, List.getElem?_drop]
        exact List.getElem?_eq_getElem hlt
      rw [List.range_succ, List.map_append, List.filterMap_append, ih, List.take_add_one, e1]
      simp [hlt]
  rw [key _ (by omega), List.take_of_length_le]
  rw [evr_len, List.length_drop]
  omega
def tEvr (K : PySem.W.Frag) (te : TE) (tl : TO) : TE := fun σ H Q => te σ H fun x H1 => tl σ H1 fun l H2 => ∃ a xs lo, x = .ref a ∧ l = some lo ∧ 0 ≤ lo ∧ SqL K H2 a xs ∧ ∀ p, H2 p = none → Q (.ref p) (upd H2 p (.lst (evr (xs.drop lo.toNat))))
theorem pe_evr {X : Cx} {e : Expr} {lo : Option Expr} {te : TE} {tl : TO} {k : Nat} {p1 p3 pos : Pos} (he : PE X e te) (hl : PO X lo tl) : PE X (.Subscript e (.Slice lo none (some (.Constant (.int 2) k p1)) p3) pos) (tEvr X.K te tl) := by
  refine ⟨fun pins s σ H Q I h => ?_⟩
  refine Subscript_ (thn (he.run pins s σ H _ I h) fun v s1 ⟨x, H1, I1, r1, q1⟩ => ?_)
  have hst : PO X (some (.Constant (.int 2) k p1)) (tPart (tC (.int 2))) := po_some pe_int
  refine wpAny_Slice (thn (hl.run pins s1 σ H1 _ I1 q1) fun vl s2 ⟨l, H2, I2, pl, a, xs, lo', ex, el, h0, hx, q⟩ => ?_)
  subst ex el
  cases r1
  refine thn (po_none.run pins s2 σ H2 (fun o H3 => o = none ∧ H3 = H2) I2 ⟨rfl, rfl⟩) fun vu s3 ⟨u, H3, I3, pu, eu, e3⟩ => ?_
  subst eu e3
  refine thn (hst.run pins s3 σ H3 (fun o H4 => o = some 2 ∧ H4 = H3) I3 ⟨2, rfl, rfl, rfl⟩) fun vs s4 ⟨o, H4, I4, ps, eo, e4⟩ => ?_
  subst eo e4
  have I5 : Inv X pins σ H4 { s4 with heap := s4.heap.push { cls := .type "slice", data := .fields #[vl, vu, vs] } } := I4.kept (t' := s4.toks) fun b ob q => Heap.get?_push_of_some _ q
  obtain ⟨its, r, ht, hz⟩ := I5.list hx
  have hlen := r.length
  show wpAny (model X.prog X.w) X.A (subscriptTail e (.Slice lo none (some (.Constant (.int 2) k p1)) p3) (.ref a) (.ref s4.heap.objs.size)) (EP X pins σ Q) X.xe { s4 with heap := s4.heap.push { cls := .type "slice", data := .fields #[vl, vu, vs] } }
  refine tail_any (ops := [.ref a, .ref s4.heap.objs.size]) ht.isList.typeIs (PySem.slot_list_getitem.lookup) ?_ (by with_unfolding_all rfl)
  refine wpAny_getItem_list_slice ht.isList (Heap.IsSliceOf.new _ vl vu vs) pl pu ps (by decide) ?_ (by rw [List.size_toArray]; omega)
  rw [pick2 its h0]
  refine ⟨.ref _, _, I5.laid (t' := s4.toks) (o := .lst (evr (xs.drop lo'.toNat))) (fun b ob q => Heap.get?_push_of_some _ q) (Nat.le_refl _) ?_, rfl, q _ (I5.hok.fresh (Nat.le_refl _))⟩
  exact ⟨by rw [evr_len, List.length_drop]; omega, _, 0, evr_vals (vals_drop _ r), Heap.get?_push_size _ rfl⟩
section
variable {C : Cc} {Γ Γ' : List Slot} {α β γ ω : Type} {J : ω → Out} {e o a b : Expr} {pos p p1 p2 p3 spos apos cpos : Pos} {rest : List Stmt} {x : Str} {j : Nat}
theorem EvO.evr {r : α → Rp} {lo : Option Expr} {kc : Nat} {ma : W (List α)} {ml : W (Option Int)} (ha : Ev C Γ a (rL C.K r) ma) (hl : EvP C Γ lo ml) :
    EvO C Γ (.Subscript a (.Slice lo none (some (.Constant (.int 2) kc p1)) p3) pos) (oL C.fr r) (do let xs ← ma; let i ← ml; W.req (0 ≤ i.getD (-1)) (pure (Y.evr (xs.drop (i.getD 0).toNat)))) :=
  fun X Wx ok tk F H g σ s Q hm => by
    refine WE.of (pe_evr (pe_W (e := a)) (po_W (e := lo))) ?_
    refine ha X Wx ok tk F H g σ s _ (ma.mono (fun xs hx F1 H1 g1 v f1 s1 r1 => ?_) (fun e he => he) hm)
    obtain ⟨tl, pl, hl'⟩ := hl X Wx ok tk F1 H1 g1 σ s1
    refine ⟨tl, pl, hl' _ (ml.mono (fun i hi F2 H2 g2 f2 s2 => ?_) (fun e he => XEnd.later f1 he) hx)⟩
    obtain ⟨h0, hi⟩ := hi
    obtain ⟨q, vs, ev, hq, t⟩ := (rL C.K r xs).mono f2.sF r1
    cases i with
    | none => exact absurd h0 (by decide)
    | some i =>
      exact ⟨q, vs, i, ev, rfl, h0, by rw [ok.K]; exact s2.sF.seq hq, fun l hl => EvO.fin (O := oL C.fr r (Y.evr (xs.drop i.toNat))) (f1.trans f2) s2 hl (fun n => ⟨l, _, rfl, n, rfl, evr_all2 (t.drop _)⟩) hi⟩
end
/-! ### dicts whose keys are texts -/
def kvS (vs : List (Str × V)) : List (Key × V) := vs.map fun p => (.inr p.1, p.2)
def oDS (N : Addr → Prop) (r : α → Rp) (kvs : List (Str × α)) : Op :=
  ⟨fun F G v => ∃ (a : Addr) (vs : List (Str × V)), v = .ref a ∧ N a ∧ G = one a (.dK (kvS vs)) ∧ All2 (fun (q : Str × V) (p : Str × α) => q.1 = p.1 ∧ (r p.2).p F q.2) vs kvs, fun h ⟨a, vs, e, n, q, t⟩ => ⟨a, vs, e, n, q, t.imp fun _ _ z => ⟨z.1, (r _).mono h z.2⟩⟩⟩
def rDS (N : Addr → Prop) (r : α → Rp) (kvs : List (Str × α)) : Rp :=
  ⟨fun F v => ∃ (a : Addr) (vs : List (Str × V)), v = .ref a ∧ N a ∧ F a = some (.dK (kvS vs)) ∧ All2 (fun (q : Str × V) (p : Str × α) => q.1 = p.1 ∧ (r p.2).p F q.2) vs kvs, fun h ⟨a, vs, e, n, q, t⟩ => ⟨a, vs, e, n, h _ _ q, t.imp fun _ _ z => ⟨z.1, (r _).mono h z.2⟩⟩⟩
def putS (kvs : List (Str × α)) (k : Str) (x : α) : List (Str × α) := if (kvs.any fun p => decide (p.1 = k)) = true then kvs.map (fun p => if p.1 = k then (k, x) else p) else kvs ++ [(k, x)]
def getS (kvs : List (Str × α)) (k : Str) : Option α := (kvs.find? fun p => decide (p.1 = k)).map (·.2)
theorem All2.putS {F : Hp} {r : α → Rp} {vs : List (Str × V)} {kvs : List (Str × α)} (t : All2 (fun (q : Str × V) (p : Str × α) => q.1 = p.1 ∧ (r p.2).p F q.2) vs kvs) {k : Str} {y : α} {u : V} (h : (r y).p F u) : All2 (fun (q : Str × V) (p : Str × α) => q.1 = p.1 ∧ (r p.2).p F q.2) (Y.putS vs k u) (Y.putS kvs k y) := by
  have e : (vs.any fun p => decide (p.1 = k)) = kvs.any fun p => decide (p.1 = k) := by
    induction t with
    | nil => rfl
    | cons q t ih => rw [List.any_cons, List.any_cons, ih, q.1]
  unfold Y.putS
  rw [e]
  split
  · clear e
    rename_i e
    clear e
    induction t with
    | nil => exact .nil
    | @cons a b as bs q t ih =>
      rw [List.map_cons, List.map_cons]
      refine .cons ?_ ih
      by_cases z : b.1 = k
      · rw [if_pos (q.1.trans z), if_pos z]; exact ⟨rfl, h⟩
      · rw [if_neg (fun y => z (q.1.symm.trans y)), if_neg z]; exact q
  · exact t.append (.cons ⟨rfl, h⟩ .nil)
section
variable {C : Cc} {Γ Γ' : List Slot} {α β γ ω : Type} {J : ω → Out} {e o a b : Expr} {pos p p1 p2 p3 spos apos cpos : Pos} {rest : List Stmt} {x : Str} {j : Nat}
end
end Y

/-! Y44: lists of any place added -/
section
open PySem PySem.AutoSeq1 Builtin
open Sem (wp)
theorem PySem.list_add_gen (l : Addr) (items : Array Value) (n : Nat) (dd : Option Addr) (sl : Array (Option Value)) (b : Addr) (items2 : Array Value) (n2 : Nat) (dd2 : Option Addr) (sl2 : Array (Option Value)) (hc0 : items.size + items2.size ≤ sizeLine) :
    Meets (Builtin.«list.__add__» ⟨[.ref l, .ref b], []⟩) (fun _ R s => s.heap.get? l = some { cls := .type "list", dict := dd, data := .seq items n, slots := sl } ∧ s.heap.get? b = some { cls := .type "list", dict := dd2, data := .seq items2 n2, slots := sl2 } ∧ R (.ok (.ret (Value.ref s.heap.objs.size))) { s with heap := s.heap.push { cls := Value.type "list", data := Data.seq (items ++ items2) }, toks := s.toks }) :=
  .of_wp fun prog w A R s h => by obtain ⟨hp, g, d, tk, os⟩ := s; obtain ⟨hl, hb, h⟩ := h; have f1 := idx_int; have f2 := sub_tuple_tuple; have f3 := sub_list_list; have f4 := sub_tuple_list; have f5 := sub_list_tuple; wp_walk using wpAny_loadPart' hl, wpAny_loadPart' hb; exact ⟨_, rfl, h⟩
end
namespace Y
open PySem PySem.Spec L2
def rCatL (K : PySem.W.Frag) : R2 := fun x y H Q => ∃ l b xs zs, x = .ref l ∧ y = .ref b ∧ SqL K H l xs ∧ SqL K H b zs ∧ xs.length + zs.length ≤ sizeLine ∧ ∀ p, H p = none → Q (.ref p) (upd H p (.lst (xs ++ zs)))
theorem op_catL {X : Cx} : OpR X (binaryOp .Add) (rCatL X.K) := by
  intro pins s σ H x y v u Q I rx ry h
  obtain ⟨l, b, xs, zs, rfl, rfl, hH, hB, hz, q⟩ := h
  cases rx
  cases ry
  obtain ⟨its, r, ⟨⟨cls, dd, data, sl⟩, n, ho, hc, hdn, hd⟩, hl⟩ := I.list hH
  obtain ⟨its2, r2, ⟨⟨cls2, dd2, data2, sl2⟩, n2, ho2, hc2, hdn2, hd2⟩, hl2⟩ := I.list hB
  simp only at hc hd hc2 hd2
  subst hc hd hc2 hd2
  have e1 := r.length
  have e2 := r2.length
  refine concat_meets ⟨_, ho, rfl⟩ ⟨_, ho2, rfl⟩ noFill_list_add seq_list_add PySem.F.slot_list_add PySem.F.entry_list_add (PySem.F.args_list_add_2 _ _) (PySem.list_add_gen l its.toArray n dd sl b its2.toArray n2 dd2 sl2 (by rw [List.size_toArray, List.size_toArray]; omega)) ⟨ho, ho2, ?_⟩
  have ea : its.toArray ++ its2.toArray = (its ++ its2).toArray := by simp
  rw [ea]
  exact ⟨.ref _, _, I.lnew (t' := s.toks) (r.append r2) (by rw [List.length_append]; omega), rfl, q _ I.fresh⟩
section
variable {C : Cc} {Γ : List Slot} {α : Type} {a b : Expr} {pos : Pos}
theorem EvO.catL {r : α → Rp} {ma mb : W (List α)} (ha : Ev C Γ a (rL C.K r) ma) (hb : Ev C Γ b (rL C.K r) mb) : EvO C Γ (.BinOp a .Add b pos) (oL C.fr r) (do let x ← ma; let y ← mb; Y.catL x y) :=
  fun X Wx ok tk F H g σ s Q hm => by
    refine WE.of (pe_op op_catL (pe_W (e := a)) (pe_W (e := b))) ?_
    refine ha X Wx ok tk F H g σ s _ (ma.mono (fun x hx F1 H1 g1 v f1 s1 r1 => ?_) (fun e he => he) hm)
    refine hb X Wx ok tk F1 H1 g1 σ s1 _ (mb.mono (fun y hy F2 H2 g2 w f2 s2 r2 => ?_) (fun e he => XEnd.later f1 he) hx)
    obtain ⟨q1, vs1, e1, h1, t1⟩ := (rL C.K r x).mono f2.sF r1
    obtain ⟨q2, vs2, e2, h2, t2⟩ := r2
    obtain ⟨hl, hy⟩ := hy
    refine ⟨q1, q2, vs1, vs2, e1, e2, by rw [ok.K]; exact s2.sF.seq h1, by rw [ok.K]; exact s2.sF.seq h2, by rw [t1.length, t2.length]; exact hl, fun l hl2 => ?_⟩
    exact EvO.fin (O := oL C.fr r (x ++ y)) (f1.trans f2) s2 hl2 (fun n => ⟨l, _, rfl, n, rfl, t1.append t2⟩) hy
end
end Y

/-! Y45: a method that falls off its end -/
namespace Y
open PySem PySem.Spec L2
end Y

/-! Y46: dicts whose keys are tuples of truths, tracked as one object (HO.ext) -/
namespace Y
open PySem PySem.Spec L2 Builtin
abbrev mKnd (P : Program) (w : World) : HeapKind P w (List Leaf) := tupleKind (leafKind P w)
def bL (b : Bool) : Leaf := .num (if b then 1 else 0)
theorem items_bl {P : Program} {w : World} : ∀ {bs : List Bool} {us : List Value}, Vals (bs.map V.bl) us → ItemsAre (leafKind P w) (bs.map bL) us
  | [], _, .nil => .nil
  | b :: bs, _, .cons h t => by
    have h : _ = Value.bool b := h
    subst h
    refine .cons ?_ (items_bl t)
    cases b <;> rfl
section
variable {X : Cx} {pins : List (Addr × Obj)} {σ : St} {H : Hp} {s : Shared} {q d : Addr} {o : Obj} {es : Array DictEntry} {ep : Nat}
/-- a tuple of truths is a key -/
theorem key_is {bs : List Bool} (I : Inv X pins σ H s) (h : SqT X.K H q (bs.map V.bl)) : (mKnd X.prog X.w).is s.heap (bs.map bL) q := by
  obtain ⟨its, r, ⟨o, e, c, n, dd⟩, _⟩ := I.tuple h
  exact ⟨o, its.toArray, n, e, c, dd, by simpa using items_bl r⟩
/-- the dict at d, by its object -/
def xO (d : Addr) (o : Obj) : HO := .ext fun h => h.get? d = some o
theorem Inv.xO (I : Inv X pins σ H s) (h : H d = some (Y.xO d o)) : s.heap.get? d = some o := (I.hok d _ h).1
/-- its keys' addresses -/
def ItX (d : Addr) (o : Obj) (qs : List Addr) : It :=
  ⟨fun i H => H d = some (Y.xO d o) ∧ i < qs.length, fun i H x H' => H' = H ∧ ∃ q, qs[i]? = some q ∧ x = .ref q, fun i H => H d = some (Y.xO d o) ∧ qs.length ≤ i⟩
/-- the object is a dict with these keys and values -/
structure DX (P : Program) (w : World) (o : Obj) (xs : List (List Leaf × Addr × Value)) : Prop where
  ex : o.ExactDict
  da : ∃ es ep, o.data = .dict es ep ∧ es.toList = xs.map (entryOfKey (mKnd P w))
  nd : (xs.map (·.1)).Nodup
theorem DX.of {P : Program} {w : World} {h : Heap} {xs : List (List Leaf × Addr × Value)} (x : DX P w o xs) (e : h.get? d = some o) (k : ∀ y ∈ xs, (mKnd P w).is h y.1 y.2.1) : h.DictOfH (mKnd P w) d xs := by
  obtain ⟨es, ep, h1, h2⟩ := x.da
  exact ⟨o, es, ep, e, x.ex, h1, h2, k, x.nd⟩
theorem DX.to {P : Program} {w : World} {h : Heap} {xs : List (List Leaf × Addr × Value)} (x : h.DictOfH (mKnd P w) d xs) : ∃ o, h.get? d = some o ∧ DX P w o xs := by
  obtain ⟨o, es, ep, e, ex, h1, h2, _, nd⟩ := x
  exact ⟨o, e, ex, ⟨es, ep, h1, h2⟩, nd⟩
def iX (P : Program) (w : World) (td : TE) : TI := fun σ H R => td σ H fun x H1 => ∃ d o xs, x = .ref d ∧ (d == sysModules) = false ∧ H1 d = some (Y.xO d o) ∧ DX P w o xs ∧ R (ItX d o (xs.map fun y => y.2.1)) H1
end
end Y

/-! Y47: dicts keyed by tuples of truths: made, setdefault, d[k] -/
namespace Y
open PySem PySem.Spec L2 Builtin
section
variable {X : Cx} {pins : List (Addr × Obj)} {σ : St} {H : Hp} {s : Shared} {q d : Addr} {o : Obj}
abbrev XS := List (List Leaf × Addr × Value)
def tXNew (P : Program) (w : World) : TE := fun _ H Q => ∀ p o, H p = none → (p == sysModules) = false → DX P w o [] → Q (.ref p) (upd H p (Y.xO p o))
/-- the keys stand in the heap -/
def KsOk (K : PySem.W.Frag) (H : Hp) (xs : XS) : Prop := ∀ y ∈ xs, ∃ bs : List Bool, y.1 = bs.map bL ∧ SqT K H y.2.1 (bs.map V.bl)
theorem KsOk.is {xs : XS} (I : Inv X pins σ H s) (h : KsOk X.K H xs) : ∀ y ∈ xs, (mKnd X.prog X.w).is s.heap y.1 y.2.1 := fun y hy => by
  obtain ⟨bs, e, hq⟩ := h y hy
  rw [e]
  exact key_is I hq
/-- d.setdefault(k, z) -/
def tSdef (P : Program) (w : World) (K : PySem.W.Frag) (td ty tx : TE) : TE := fun σ H Q => td σ H fun x H1 => ∃ d, x = .ref d ∧ (∃ o xs, H1 d = some (Y.xO d o) ∧ DX P w o xs) ∧ ty σ H1 fun y H2 => tx σ H2 fun z H3 =>
  ∃ (q : Addr) (bs : List Bool) (o : Obj) (xs : XS) (l : Addr), y = .ref q ∧ z = .ref l ∧ (d == sysModules) = false ∧ H3 d = some (Y.xO d o) ∧ DX P w o xs ∧ KsOk K H3 xs ∧ SqT K H3 q (bs.map V.bl) ∧ xs.length ≤ sizeLine ∧
    (∀ a0 u, atKey xs (bs.map bL) = some (a0, u) → ∃ l0, u = .ref l0 ∧ Q (.ref l0) H3) ∧
    (atKey xs (bs.map bL) = none → ∀ o', DX P w o' (xs ++ [(bs.map bL, q, .ref l)]) → Q (.ref l) (upd H3 d (Y.xO d o')))
/-- d[k] -/
def rIxX (P : Program) (w : World) (K : PySem.W.Frag) : R2 := fun x y H Q => ∃ (d q : Addr) (bs : List Bool) (o : Obj) (xs : XS) (a0 l : Addr), x = .ref d ∧ y = .ref q ∧ H d = some (Y.xO d o) ∧ DX P w o xs ∧ KsOk K H xs ∧ SqT K H q (bs.map V.bl) ∧ atKey xs (bs.map bL) = some (a0, .ref l) ∧ Q (.ref l) H
end
end Y

/-! Y48: an own dict from tuples of truths to own lists: {}, d.setdefault(k, []).append(x) -/
namespace Y
open PySem PySem.Spec L2 Builtin
/-- a new place joins a private heap -/
theorem StOk.newG {C : Cc} {Γ : List Slot} {F H : Hp} {σ : St} {g : Nat → Hp} (s : StOk C F H Γ σ g) {i : Nat} {a : Addr} {o' : HO} {O' : Op} {v : V} (hl : H a = none) (hσ : σ[i]? = some (some v)) (hi : i < Γ.length) (r : O'.p F (upd (g i) a o') v) :
    StOk C F (upd H a o') (Γ.set i (.own O')) σ (setG g i (upd (g i) a o')) ∧ Fr F H (dU g) F (upd H a o') (dU (setG g i (upd (g i) a o'))) := by
  have hFa : F a = none := by
    cases q : F a with
    | none => rfl
    | some u => have := s.sF a u q; rw [hl] at this; cases this
  have hga : ∀ j, g j a = none := fun j => by
    cases q : g j a with
    | none => rfl
    | some u => have := s.sG j a u q; rw [hl] at this; cases this
  refine ⟨⟨by rw [List.length_set]; exact s.len, fun j S q => ?_, fun b u q => ?_, fun j => ?_, fun j => ?_, fun j k hjk => ?_, fun b q => ?_⟩, ⟨Same.refl _, fun b q => .inl q, fun b u q n => ?_, fun b q => ?_, fun b q => ?_⟩⟩
  · by_cases hj : i = j
    · subst hj
      rw [List.getElem?_set_self hi] at q
      cases q
      rw [setG_same]
      exact ⟨v, hσ, r⟩
    · rw [List.getElem?_set_ne hj] at q
      rw [setG_ne (fun z => hj z.symm)]
      exact s.slot j S q
  · rw [upd_ne (fun z => by rw [z, hFa] at q; cases q)]; exact s.sF b u q
  · by_cases hj : j = i
    · subst hj
      rw [setG_same]
      intro b u q
      by_cases z : b = a
      · subst z; rw [upd_same] at q; rw [upd_same]; exact q
      · rw [upd_ne z] at q; rw [upd_ne z]; exact s.sG j b u q
    · rw [setG_ne hj]
      intro b u q
      rw [upd_ne (fun z => by rw [z, hga j] at q; cases q)]
      exact s.sG j b u q
  · by_cases hj : j = i
    · subst hj
      rw [setG_same]
      intro b
      by_cases z : b = a
      · subst z; exact .inl hFa
      · rw [upd_ne z]; exact s.dF j b
    · rw [setG_ne hj]; exact s.dF j
  · by_cases hj : j = i
    · subst hj
      rw [setG_same, setG_ne (fun z => hjk z.symm)]
      intro b
      by_cases z : b = a
      · subst z; exact .inr (hga k)
      · rw [upd_ne z]; exact s.dG j k hjk b
    · rw [setG_ne hj]
      by_cases hk : k = i
      · subst hk
        rw [setG_same]
        intro b
        by_cases z : b = a
        · subst z; exact .inl (hga j)
        · rw [upd_ne z]; exact s.dG j k hjk b
      · rw [setG_ne hk]; exact s.dG j k hjk
  · by_cases z : b = a
    · rw [z, upd_same] at q; cases q
    · rw [upd_ne z] at q; exact s.fr b q
  · by_cases z : b = a
    · subst z; rw [hl] at q; cases q
    · rw [upd_ne z]; exact q
  · by_cases z : b = a
    · rw [z, upd_same]; simp
    · rw [upd_ne z]; exact q
  · obtain ⟨j, q⟩ := q
    by_cases hj : j = i
    · subst hj
      rw [setG_same] at q
      by_cases z : b = a
      · subst z; exact .inr hl
      · rw [upd_ne z] at q; exact .inl ⟨j, q⟩
    · rw [setG_ne hj] at q
      exact .inl ⟨j, q⟩
/-- an entry: its marks, the key's address, the list's address, the list -/
abbrev ME := List Bool × Addr × Addr × List V
def mX (e : ME) : List Leaf × Addr × Value := (e.1.map bL, e.2.1, .ref e.2.2.1)
def rBT (K : PySem.W.Frag) (bs : List Bool) : Rp := ⟨fun F v => ∃ a, v = .ref a ∧ SqT K F a (bs.map V.bl), fun h ⟨a, e, q⟩ => ⟨a, e, Same.seqT h q⟩⟩
structure MKp {α : Type} (P : Program) (w : World) (K : PySem.W.Frag) (N : Addr → Prop) (r : α → Rp) (kvs : List (List Bool × List α)) (F G : Hp) (a : Addr) (o : Obj) (es : List ME) : Prop where
  n : N a
  sys : (a == sysModules) = false
  ga : G a = some (xO a o)
  dx : DX P w o (es.map mX)
  ks : ∀ e ∈ es, SqT K F e.2.1 (e.1.map V.bl)
  ls : ∀ e ∈ es, N e.2.2.1 ∧ G e.2.2.1 = some (.lst e.2.2.2)
  nd : (es.map fun e => e.2.2.1).Nodup
  t : All2 (fun (e : ME) (p : List Bool × List α) => e.1 = p.1 ∧ All2 (fun u x => (r x).p F u) e.2.2.2 p.2) es kvs
def oMK {α : Type} (P : Program) (w : World) (K : PySem.W.Frag) (N : Addr → Prop) (r : α → Rp) (kvs : List (List Bool × List α)) : Op :=
  ⟨fun F G v => ∃ a o es, v = .ref a ∧ MKp P w K N r kvs F G a o es, fun h ⟨a, o, es, e, m⟩ => ⟨a, o, es, e, m.n, m.sys, m.ga, m.dx, fun e he => Same.seqT h (m.ks e he), m.ls, m.nd, m.t.imp fun _ _ z => ⟨z.1, z.2.imp fun _ _ q => (r _).mono h q⟩⟩⟩
def sdA {α : Type} (kvs : List (List Bool × List α)) (k : List Bool) (x : α) : List (List Bool × List α) := if (kvs.any fun p => decide (p.1 = k)) = true then kvs.map (fun p => if p.1 = k then (p.1, p.2 ++ [x]) else p) else kvs ++ [(k, [x])]
section
variable {C : Cc} {Γ Γ' : List Slot} {α ω : Type} {J : ω → Out} {pos : Pos} {rest : List Stmt}
/-- the entry of a key -/
theorem ME.put {es : List ME} {bs : List Bool} {e : ME} {w : V} (hn : ((es.map mX).map (·.1)).Nodup) (he : e ∈ es) (hb : e.1 = bs) : ∀ e' ∈ es, e'.1 = bs → e' = e := by
  induction es with
  | nil => cases he
  | cons x es ih =>
    rw [List.map_cons, List.map_cons, List.nodup_cons] at hn
    have key : ∀ y ∈ es, ¬ y.1 = x.1 := fun y hy z => hn.1 (by
      rw [List.map_map]
      exact List.mem_map.mpr ⟨y, hy, by show y.1.map bL = x.1.map bL; rw [z]⟩)
    intro e' h1 h2
    rcases List.mem_cons.mp he with q | q
    · rcases List.mem_cons.mp h1 with z | z
      · rw [z, q]
      · exact absurd (h2.trans (hb.symm.trans (congrArg Prod.fst q))) (key e' z)
    · rcases List.mem_cons.mp h1 with z | z
      · exact absurd (hb.trans (h2.symm.trans (congrArg Prod.fst z))) (key e q)
      · exact ih hn.2 q e' z h2
def putW (es : List ME) (bs : List Bool) (w : V) : List ME := es.map fun e => if e.1 = bs then (e.1, e.2.1, e.2.2.1, e.2.2.2 ++ [w]) else e
theorem MKp.add {P : Program} {w : World} {K : PySem.W.Frag} {N : Addr → Prop} {r : α → Rp} {kvs : List (List Bool × List α)} {F G : Hp} {a : Addr} {o o' : Obj} {es : List ME} (m : MKp P w K N r kvs F G a o es) {bs : List Bool} {q l : Addr} (hn : ∀ e ∈ es, ¬ e.1 = bs) (hl : G l = none) (nl : N l) (hq : SqT K F q (bs.map V.bl)) (dx : DX P w o' (es.map mX ++ [(bs.map bL, q, .ref l)])) {u : V} {x : α} (hx : (r x).p F u) :
    MKp P w K N r (sdA kvs bs x) F (upd (upd (upd G l (.lst [])) a (xO a o')) l (.lst [u])) a o' (es ++ [(bs, q, l, [u])]) := by
  have hal : a ≠ l := fun z => by have := m.ga; rw [z, hl] at this; cases this
  have hel : ∀ e ∈ es, e.2.2.1 ≠ l ∧ e.2.2.1 ≠ a := fun e he => by
    have h1 := (m.ls e he).2
    refine ⟨fun z => ?_, fun z => ?_⟩
    · rw [z, hl] at h1; cases h1
    · rw [z, m.ga] at h1; cases h1
  exact {
    n := m.n
    sys := m.sys
    ga := by rw [upd_ne hal, upd_same]
    dx := by rw [List.map_append]; exact dx
    ks := fun e he => by
      rcases List.mem_append.mp he with z | z
      · exact m.ks e z
      · rw [List.mem_singleton.mp z]; exact hq
    ls := fun e he => by
      rcases List.mem_append.mp he with z | z
      · refine ⟨(m.ls e z).1, ?_⟩
        rw [upd_ne (hel e z).1, upd_ne (hel e z).2, upd_ne (hel e z).1]
        exact (m.ls e z).2
      · rw [List.mem_singleton.mp z]; exact ⟨nl, upd_same⟩
    nd := by
      rw [List.map_append]
      refine List.nodup_append.mpr ⟨m.nd, by simp, fun b hb c hc => ?_⟩
      obtain ⟨e, he, rfl⟩ := List.mem_map.mp hb
      have hc : c = l := by simpa using hc
      rw [hc]
      exact (hel e he).1
    t := by
      have hany : ¬ (kvs.any fun p => decide (p.1 = bs)) = true := fun z => by
        obtain ⟨p, hp, h1⟩ := List.any_eq_true.mp z
        have t := m.t
        have key : ∀ {es2 : List ME} {kvs2 : List (List Bool × List α)}, All2 (fun (e : ME) (p : List Bool × List α) => e.1 = p.1 ∧ All2 (fun u x => (r x).p F u) e.2.2.2 p.2) es2 kvs2 → p ∈ kvs2 → ∃ e ∈ es2, e.1 = p.1 := fun {es2 kvs2} t => by
          induction t with
          | nil => intro h; cases h
          | @cons a b as cs q t ih =>
            intro h
            rcases List.mem_cons.mp h with z | z
            · exact ⟨a, by simp, by rw [z]; exact q.1⟩
            · obtain ⟨e, he, ee⟩ := ih z
              exact ⟨e, by simp [he], ee⟩
        obtain ⟨e, he, ee⟩ := key t hp
        exact hn e he (ee.trans (of_decide_eq_true h1))
      unfold sdA
      rw [if_neg hany]
      exact m.t.append (.cons ⟨rfl, .cons hx .nil⟩ .nil) }
end
end Y

/-! Y49: such a dict read: its keys walked, d[k] -/
namespace Y
open PySem PySem.Spec L2 Builtin
def rMK {α : Type} (P : Program) (w : World) (K : PySem.W.Frag) (N : Addr → Prop) (r : α → Rp) (kvs : List (List Bool × List α)) : Rp :=
  ⟨fun F v => ∃ a o es, v = .ref a ∧ MKp P w K N r kvs F F a o es, fun h ⟨a, o, es, e, m⟩ => ⟨a, o, es, e, m.n, m.sys, h _ _ m.ga, m.dx, fun e he => Same.seqT h (m.ks e he), fun e he => ⟨(m.ls e he).1, h _ _ (m.ls e he).2⟩, m.nd, m.t.imp fun _ _ z => ⟨z.1, z.2.imp fun _ _ q => (r _).mono h q⟩⟩⟩
def getB {α : Type} (d : List (List Bool × List α)) (k : List Bool) : W (List α) := match d.find? fun p => decide (p.1 = k) with | some p => pure p.2 | none => W.bad
section
variable {C : Cc} {Γ Γ' : List Slot} {α ω : Type} {J : ω → Out} {e a b tg : Expr} {pos : Pos} {rest sts : List Stmt}
end
end Y

/-! Y50: tuple([..]) of truths, b in a tuple of truths -/
namespace Y
open PySem PySem.Spec L2 Builtin
section
variable {C : Cc} {Γ Γ' : List Slot} {α ω : Type} {J : ω → Out} {e a b tg : Expr} {p pos : Pos} {rest sts : List Stmt}
end
end Y

/-! Y51: an own list of own lists of numbers: grown, picked of, one of the picked grown -/
namespace Y
open PySem PySem.Spec L2
section
variable {C : Cc} {Γ Γ' : List Slot} {α β γ δ ε ω : Type} {J : ω → Out} {e : Expr} {pos : Pos} {rest : List Stmt}
def rEq (u : V) : Rp := ⟨fun _ v => v = u, fun _ h => h⟩
instance : Fre rEq := ⟨fun _ _ _ h _ => h⟩
def rPV (K : PySem.W.Frag) (p : V × List Int) : Rp := ⟨fun F v => v = p.1 ∧ (rL K rI p.2).p F v, fun h ⟨e, r⟩ => ⟨e, (rL K rI p.2).mono h r⟩⟩
def oQ (N : Addr → Prop) (vs : List V) (xs : List (List Int)) : Op :=
  ⟨fun F G v => (∀ b, G b ≠ none → N b) ∧ ∃ a, v = .ref a ∧ N a ∧ G a = some (.lst vs) ∧ All2 (fun u x => (rN N rI x).p G u) vs xs ∧ Dn a vs, fun _ h => h⟩
abbrev oR (N : Addr → Prop) (xs : List (List Int)) : Op := oV (fun N => rDL N (rN N rI)) N xs
/-- the first of the picked ones grown -/
def aliI (vs us : List V) (xs : List (List Int)) (x : Int) : W (List (List Int)) :=
  W.req (∃ (q : Nat) (u : V) (z : List Int), us[0]? = some u ∧ vs[q]? = some u ∧ xs[q]? = some z ∧ z.length ≤ 1000000) (W.any fun ys => ∃ (q : Nat) (u : V) (z : List Int), us[0]? = some u ∧ vs[q]? = some u ∧ xs[q]? = some z ∧ ys = xs.set q (z ++ [x]))
end
end Y

/-! Y52: k in d, d[k] of a dict told by texts; lists of things or None; extend -/
namespace Y
open PySem PySem.Spec L2
section
variable {C : Cc} {Γ Γ' : List Slot} {α β γ ω : Type} {J : ω → Out} {e o a b : Expr} {pos : Pos} {rest : List Stmt}
/-- none of them is None -/
def unOs (xs : List (Option α)) : W (List α) := W.req (∀ x ∈ xs, x.isSome = true) (pure (xs.filterMap id))
theorem all2_unO {F : Hp} {r : α → Rp} {vs : List V} {xs : List (Option α)} (t : All2 (fun u x => (rO r x).p F u) vs xs) (h : ∀ x ∈ xs, x.isSome = true) : All2 (fun u x => (r x).p F u) vs (xs.filterMap id) := by
  induction t with
  | nil => exact .nil
  | @cons a b as bs q t ih =>
    have h1 := h b (by simp)
    cases b with
    | none => cases h1
    | some y => exact .cons q (ih fun x hx => h x (by simp [hx]))
theorem Ev.unOs {K : PySem.W.Frag} {r : α → Rp} {m : W (List (Option α))} (h : Ev C Γ e (rL K (rO r)) m) : Ev C Γ e (rL K r) (do let o ← m; Y.unOs o) :=
  fun X Wx ok tk F H g σ s Q hm => h X Wx ok tk F H g σ s Q (m.mono (fun xs hx F' H' g' v f s1 r1 => by
    obtain ⟨hs, hx⟩ := hx
    obtain ⟨q, vs, ev, hq, t⟩ := r1
    exact hx F' H' g' v f s1 ⟨q, vs, ev, hq, all2_unO t hs⟩) (fun _ z => z) hm)
/-- nothing is like None -/
class NoNe {K : PySem.W.Frag} (r : α → Rp) [I : DatE K r] : Prop where
  l : ∀ x, PyData.eqv (I.enc x) .none = false
  r : ∀ x, PyData.eqv .none (I.enc x) = false
instance {K : PySem.W.Frag} {r : α → Rp} [I : DatE K r] : NoNe (K := K) (rL K r) := ⟨fun _ => rfl, fun _ => rfl⟩
instance {K : PySem.W.Frag} {N : Addr → Prop} {r : α → Rp} [I : DatE K r] : NoNe (K := K) (rN N r) := ⟨fun _ => rfl, fun _ => rfl⟩
def encO (f : α → PyData) : Option α → PyData
  | none => .none
  | some x => f x
instance {K : PySem.W.Frag} {r : α → Rp} [I : DatE K r] [J : NoNe (K := K) r] : DatE K (rO r) where
  enc := encO I.enc
  dep := I.dep
  ok := fun o => ∀ x, o = some x → I.ok x
  dp := fun {x F v} h => by
    cases x with
    | none =>
      have e : v = .non := h
      subst e
      exact .non
    | some a => exact I.dp h
  can := fun x h => by
    cases x with
    | none => rfl
    | some a => exact I.can a (h a rfl)
  deps := fun x => by
    cases x with
    | none => exact Nat.zero_le _
    | some a => exact I.deps a
  dec := fun x y => by
    cases x with
    | none =>
      cases y with
      | none => simp [encO, PyData.eqv]
      | some b => simp [encO, J.r]
    | some a =>
      cases y with
      | none => simp [encO, J.l]
      | some b => simp [encO, I.dec]
instance {K : PySem.W.Frag} {r : α → Rp} [I : DatE K r] [J : NoNe (K := K) r] [T : DatT K r] : DatT K (rO r) := ⟨fun _ x _ => T.all x⟩
/-- x.extend(y) -/
theorem Ex.extend {i : Nat} {x : Str} {px apos cpos : Pos} {r : α → Rp} {xs : List α} {m : W (List α)} {k : List α → W ω} (hN : C.N[i]? = some x) (hv : Vis C.sc x) (hΓ : Γ[i]? = some (.own (oL C.fr r xs))) (h : Ev C Γ e (rN C.fr r) m) (n : NoStar e) (hr : ∀ a, Ex C (Γ.set i (.own (oL C.fr r (xs ++ a)))) rest J (k a))
    (hline : (apos.endLine == cpos.line) = true := by rfl) (hd : (x == ("__debug__" : Str)) = false := by decide) (hcd : (x == ("__classdict__" : Str)) = false := by decide) (hb : ∀ X : Cx, attributeBase (.Name x px) "extend" X.env (eval (.Name x px) X.env) = eval (.Name x px) X.env := by intro _; rfl)
    (hs : ∀ X : Cx, swapsWith (.Call (.Attribute (.Name x px) "extend" apos) [e] [] cpos) none pos.line X.env = pure false := by intro _; rfl) :
    Ex C Γ (.Expr (.Call (.Attribute (.Name x px) "extend" apos) [e] [] cpos) pos :: rest) J (do let a ← m; W.req (xs.length + a.length ≤ 1000000) (k a)) :=
  Ex.cons fun X Wx ok tk F H g σ s D hm => by
    refine W1.of (ps_expr (pe_bm PySem.F.plainAttrs_list PySem.F.slot_list_extend PySem.F.type_list_extend mt_extend (pe_var (i := i) (by rw [ok.N]; exact hN) (by rw [ok.sc]; exact hv) hd hcd) (pa_cons (pe_W (e := e)) pa_nil (n [] X.env)) (hb X) (fewArgs1 n cpos) hline (n [] X.env) rfl) (hs X)) ?_
    obtain ⟨v, eσ, a, vs, ev, na, eg, t⟩ := s.get_own hΓ
    subst ev
    have hHa : H a = some (.lst vs) := s.sG i a _ (by rw [eg]; exact one_same)
    refine ⟨.ref a, eσ, .inl ⟨rfl, _, SqL.of hHa⟩, ?_⟩
    refine h X Wx ok.toOk tk F H g σ s _ (m.mono (fun y hy F1 H1 g1 w f1 s1 r1 => ?_) (fun e he => he.ex) hm)
    obtain ⟨v', eσ', a', vs', ev', na', eg', t'⟩ := s1.get_own hΓ
    rw [eσ] at eσ'
    cases eσ'
    cases ev'
    obtain ⟨b, us, eb, nb, hb, tb⟩ := r1
    subst eb
    obtain ⟨s2, f2, hH1⟩ := s1.upd_own (O' := oL C.fr r (xs ++ y)) (o' := .lst (vs' ++ us)) eg' eσ (List.getElem?_eq_some_iff.mp hΓ).1 ⟨a, vs' ++ us, rfl, na', rfl, t'.append tb⟩
    refine ⟨a, b, vs', us, rfl, rfl, hH1, s1.sF _ _ hb, ?_, ?_⟩
    · rw [t'.length, tb.length, PySem.sizeLine_eq]
      have := hy.1
      omega
    · exact (hr y).later ok tk (f1.trans f2) s2 hy.2
end
end Y

/-! Y53: .index of truths; two changing calls in one test that is told -/
namespace Y
open PySem PySem.Spec L2
section
variable {C : Cc} {Γ Γ' : List Slot} {α β γ ω : Type} {J : ω → Out} {e o a b : Expr} {pos p p2 apos : Pos} {rest : List Expr} {x : Str} {j : Nat}
theorem EvX.one {op : BoolOp} {Γ' : α → List Slot} {ρ : α → Rp} {m : W α} (h : EvX C Γ a Γ' ρ m) : EvX C Γ (.BoolOp op [a] pos) Γ' ρ m := fun X Wx ok tk F H g σ s Q hm => WE.of (pe_one (pe_W (e := a))) (h X Wx ok tk F H g σ s Q hm)
theorem EvX.and {δ : Type} {Γ' : δ → List Slot} {m1 : W (δ × Bool)} {m2 : δ → W (δ × Bool)} (ha : EvX C Γ a (fun y : δ × Bool => Γ' y.1) (fun y => rB y.2) m1) (hb : ∀ d, EvX C (Γ' d) (.BoolOp .And (b :: rest) pos) (fun y : δ × Bool => Γ' y.1) (fun y => rB y.2) (m2 d)) :
    EvX C Γ (.BoolOp .And (a :: b :: rest) pos) (fun y : δ × Bool => Γ' y.1) (fun y => rB y.2) (do let x ← m1; if x.2 = true then W.noX (m2 x.1) else pure (x.1, false)) := fun X Wx ok tk F H g σ s Q hm => by
  refine WE.of (pe_and (pe_W (e := a)) (pe_W (e := .BoolOp .And (b :: rest) pos))) ?_
  refine ha X Wx ok tk F H g σ s _ (m1.mono (fun x hx F1 H1 g1 v f1 s1 r1 => ⟨x.2, r1, ?_⟩) (fun e he => he) hm)
  obtain ⟨d, k⟩ := x
  cases k with
  | true =>
    replace hx : (m2 d).wp _ (fun _ => False) := hx
    exact hb d X Wx ok tk F1 H1 g1 σ s1 _ ((m2 d).mono (fun y hy F2 H2 g2 v f2 s2 r2 => hy F2 H2 g2 v (f1.trans f2) s2 r2) (fun e he => he.elim) hx)
  | false => exact hx F1 H1 g1 _ f1 s1 rfl
/-- an own thing that is just u -/
def oPin (O : Op) (u : V) : Op := ⟨fun F G v => O.p F G v ∧ v = u, fun h ⟨x, e⟩ => ⟨O.mono h x, e⟩⟩
end
end Y

/-! Y54: own dicts whose keys are ints: read, walked while they stay, told by a call -/
namespace Y
open PySem PySem.Spec L2
section
variable {C : Cc} {Γ Γ' : List Slot} {α β γ ω : Type} {J : ω → Out} {e o a b : Expr} {pos p p2 apos px : Pos} {x : Str} {j : Nat}
def AllD (F : Hp) (r : α → Rp) (vs : List (Int × V)) (kvs : List (Int × α)) : Prop := All2 (fun (q : Int × V) (p : Int × α) => q.1 = p.1 ∧ (r p.2).p F q.2) vs kvs
theorem AllD.mono {F F' : Hp} {r : α → Rp} {vs : List (Int × V)} {kvs : List (Int × α)} (h : Same F F') (t : AllD F r vs kvs) : AllD F' r vs kvs := All2.imp (fun _ _ z => ⟨z.1, (r _).mono h z.2⟩) t
/-- locked at z, just u -/
def oDF (N : Addr → Prop) (r : α → Rp) (kvs : List (Int × α)) (z : HO) (u : V) : Op :=
  ⟨fun F G v => v = u ∧ ∃ (a : Addr) (vs : List (Int × V)) (od : Obj), v = .ref a ∧ N a ∧ z = .frz od (.dK (kvI vs)) ∧ G = one a z ∧ AllD F r vs kvs, fun h ⟨eu, a, vs, od, e, n, ez, q, t⟩ => ⟨eu, a, vs, od, e, n, ez, q, t.mono h⟩⟩
structure IsDI (O : Op) (r : α → Rp) (kvs : List (Int × α)) : Prop where
  out : ∀ F G v, O.p F G v → ∃ (a : Addr) (vs : List (Int × V)), v = .ref a ∧ (G a = some (.dK (kvI vs)) ∨ ∃ od, G a = some (.frz od (.dK (kvI vs)))) ∧ AllD F r vs kvs
theorem isDI {N : Addr → Prop} {r : α → Rp} {kvs : List (Int × α)} : IsDI (oDI N r kvs) r kvs := ⟨fun F G v ⟨a, vs, e, _, q, t⟩ => ⟨a, vs, e, .inl (by rw [q]; exact one_same), t⟩⟩
theorem isDF {N : Addr → Prop} {r : α → Rp} {kvs : List (Int × α)} {z : HO} {u : V} : IsDI (oDF N r kvs z u) r kvs := ⟨fun F G v ⟨_, a, vs, od, e, _, ez, q, t⟩ => ⟨a, vs, e, .inr ⟨od, by rw [q, ez]; exact one_same⟩, t⟩⟩
theorem IsDI.rd {F H : Hp} {σ : L2.St} {g : Nat → Hp} {i : Nat} {O : Op} {r : α → Rp} {kvs : List (Int × α)} (hO : IsDI O r kvs) (s : StOk C F H Γ σ g) (hΓ : Γ[i]? = some (.own O)) : ∃ (a : Addr) (vs : List (Int × V)), σ[i]? = some (some (.ref a)) ∧ Rd H a (.dK (kvI vs)) ∧ AllD F r vs kvs := by
  obtain ⟨v0, eσ, r0⟩ := s.get_own hΓ
  obtain ⟨a, vs, ev, hG, t⟩ := hO.out _ _ _ r0
  subst ev
  refine ⟨a, vs, eσ, ?_, t⟩
  rcases hG with q | ⟨od, q⟩
  · exact .inl (s.sG i a _ q)
  · exact .inr ⟨od, s.sG i a _ q⟩
/-- d[k] -/
theorem Ev.dIxO {i : Nat} {O : Op} {r : α → Rp} {kvs : List (Int × α)} {mb : W Int} (hO : IsDI O r kvs) (hN : C.N[i]? = some x) (hv : visB C.sc x = true) (hΓ : Γ[i]? = some (.own O)) (hb : Ev C Γ b rI mb) (hs : NoSl b) (hd : (x == ("__debug__" : Str)) = false := by decide) (hcd : (x == ("__classdict__" : Str)) = false := by decide) :
    Ev C Γ (.Subscript (.Name x px) b pos) r (do let k ← mb; optG (getI kvs k)) := fun X Wx ok tk F H g σ s Q hm => by
  refine WE.of (pe_dget (Nat.lt_of_le_of_lt (by omega) ok.units) (pe_var (i := i) (by rw [ok.N]; exact hN) (by rw [ok.sc]; exact visOf hv) hd hcd) (pe_W (e := b)) hs) ?_
  obtain ⟨a0, vs0, eσ, _, _⟩ := hO.rd s hΓ
  refine ⟨.ref a0, eσ, ?_⟩
  refine hb X Wx ok tk F H g σ s _ (mb.mono (fun k hk F2 H2 g2 w f2 s2 r2 => ?_) (fun e he => he) hm)
  obtain ⟨a1, vs1, eσ1, rd, t⟩ := hO.rd s2 hΓ
  rw [eσ] at eσ1
  cases eσ1
  replace hk : (optG (getI kvs k)).wp _ _ := hk
  cases h : getI kvs k with
  | none => rw [h] at hk; exact hk.elim
  | some y =>
    rw [h] at hk
    obtain ⟨u, hu, ru⟩ := kvI_get (F := F2) (r := r) t h
    exact ⟨a0, u, rfl, by rw [show w = kV (.inl k) from r2, ← hu]; exact .inl ⟨_, _, rd, rfl, rfl⟩, hk F2 H2 g2 u f2 s2 ru⟩
theorem kvI_none {F : Hp} {r : α → Rp} {vs : List (Int × V)} {kvs : List (Int × α)} (t : AllD F r vs kvs) (k : Int) : (valV (kvI vs) (.inl k)).isSome = decide (k ∈ kvs.map Prod.fst) := by
  have e1 : kvs.map Prod.fst = vs.map Prod.fst := by
    clear k
    induction t with
    | nil => rfl
    | cons h _ ih => rw [List.map_cons, List.map_cons, ih, h.1]
  rw [e1]
  cases q : valV (kvI vs) (.inl k) with
  | none =>
    have := valV_not q
    refine (decide_eq_false fun hm => this ?_).symm
    unfold kvI
    rw [List.map_map]
    obtain ⟨p, hp, e⟩ := List.mem_map.mp hm
    exact List.mem_map.mpr ⟨p, hp, by simp [e]⟩
  | some y =>
    refine (decide_eq_true ?_).symm
    refine Classical.byContradiction fun hn => ?_
    have : valV (kvI vs) (.inl k) = Option.none := by
      unfold valV kvI
      rw [List.find?_eq_none.mpr fun p hp e => ?_]
      · rfl
      · obtain ⟨p0, hp0, rfl⟩ := List.mem_map.mp hp
        have e := of_decide_eq_true e
        exact hn (List.mem_map.mpr ⟨p0, hp0, Sum.inl.inj e⟩)
    rw [this] at q
    cases q
/-- k not in d -/
theorem Ev.notInDI {i : Nat} {O : Op} {r : α → Rp} {kvs : List (Int × α)} {ma : W Int} (hO : IsDI O r kvs) (hN : C.N[i]? = some x) (hv : visB C.sc x = true) (hΓ : Γ[i]? = some (.own O)) (ha : Ev C Γ a rI ma) (hd : (x == ("__debug__" : Str)) = false := by decide) (hcd : (x == ("__classdict__" : Str)) = false := by decide) :
    Ev C Γ (.Compare a [.NotIn] [.Name x px] pos) rB (do let k ← ma; pure (!decide (k ∈ kvs.map Prod.fst))) := fun X Wx ok tk F H g σ s Q hm => by
  refine WE.of (pe_cmp (pc_dnotin (Nat.lt_of_le_of_lt (by omega) ok.units) (pe_W (e := a)) (pe_var (i := i) (by rw [ok.N]; exact hN) (by rw [ok.sc]; exact visOf hv) hd hcd)) (by rfl)) ?_
  refine ha X Wx ok tk F H g σ s _ (ma.mono (fun k hk F2 H2 g2 w f2 s2 r2 => ?_) (fun e he => he) hm)
  obtain ⟨a1, vs1, eσ1, rd, t⟩ := hO.rd s2 hΓ
  refine ⟨.ref a1, eσ1, a1, _, rfl, by rw [show w = kV (.inl k) from r2]; exact .inl ⟨_, _, rd, rfl, rfl⟩, ?_⟩
  rw [kvI_none t]
  exact hk F2 H2 g2 _ f2 s2 rfl
/-- len(d) -/
theorem Ev.lenDI {i : Nat} {N : Addr → Prop} {r : α → Rp} {kvs : List (Int × α)} (hb : Blt C "len" (.builtin "len")) (hN : C.N[i]? = some x) (hv : visB C.sc x = true) (hΓ : Γ[i]? = some (.own (oDI N r kvs))) (hd : (x == ("__debug__" : Str)) = false := by decide) (hcd : (x == ("__classdict__" : Str)) = false := by decide) :
    Ev C Γ (.Call (.Name "len" p) [.Name x px] [] pos) rI (pure (kvs.length : Int)) := fun X Wx ok tk F H g σ s Q hm => by
  refine WE.of (pe_callB call_lenD (hb.gl ok) (by rw [ok.mg]; exact hb.m) hb.v (pa_cons (pe_var (i := i) (by rw [ok.N]; exact hN) (by rw [ok.sc]; exact visOf hv) hd hcd) pa_nil rfl) hb.n hb.d rfl rfl) ?_
  obtain ⟨v, eσ, a, vs, ev, na, eg, t⟩ := s.get_own hΓ
  subst ev
  have hHa : H a = some (.dK (kvI vs)) := s.sG i a _ (by rw [eg]; exact one_same)
  refine ⟨.ref a, eσ, a, _, rfl, hHa, ?_⟩
  have el : (kvI vs).length = kvs.length := by unfold kvI; rw [List.length_map]; exact t.length
  rw [el]
  exact hm F H g _ Fr.refl s rfl
/-- list(d): its keys -/
theorem EvO.listDI {i : Nat} {O : Op} {r : α → Rp} {kvs : List (Int × α)} (hb : Blt C "list" (.type "list")) (hO : IsDI O r kvs) (hN : C.N[i]? = some x) (hv : visB C.sc x = true) (hΓ : Γ[i]? = some (.own O)) (hd : (x == ("__debug__" : Str)) = false := by decide) (hcd : (x == ("__classdict__" : Str)) = false := by decide) (hcm : C.cm = true := by rfl) :
    EvO C Γ (.Call (.Name "list" p) [.Name x px] [] pos) (oL C.fr rI) (pure (kvs.map Prod.fst)) := fun X Wx ok tk F H g σ s Q hm => by
  refine WE.of (pe_callTy (call_listD (ok.calm.trans hcm)) (hb.gl ok) (by rw [ok.mg]; exact hb.m) hb.v (pa_cons (pe_var (i := i) (by rw [ok.N]; exact hN) (by rw [ok.sc]; exact visOf hv) hd hcd) pa_nil rfl) hb.n hb.d rfl rfl) ?_
  obtain ⟨a1, vs1, eσ1, rd, t⟩ := hO.rd s hΓ
  refine ⟨.ref a1, eσ1, a1, _, rfl, rd, fun l hl => ?_⟩
  have ek : ((kvI vs1).map fun kv => kV kv.1) = (kvs.map Prod.fst).map V.int := by
    unfold kvI
    rw [List.map_map, List.map_map]
    clear rd eσ1 hm hΓ hO
    induction t with
    | nil => rfl
    | cons h _ ih => rw [List.map_cons, List.map_cons, ih]; simp only [Function.comp]; rw [h.1]; rfl
  rw [ek]
  exact EvO.fin (O := oL C.fr rI (kvs.map Prod.fst)) Fr.refl s hl (fun n => ⟨l, _, rfl, n, rfl, All2.to_map (R := fun u x => (rI x).p F u) (f := V.int) (fun b => rfl) _⟩) hm
/-- a loop over an own dict that stays as it is -/
theorem Ex1.forDI {S : Type} {r : α → Rp} {kvs : List (Int × α)} {f : S → Int → W S} {i : Nat} {y : Str} {Γs : HO → V → S → List Slot} {Γe : S → List Slot} {s0 : S} {tg : Expr} {body : List Stmt} {t : TG} {up : List Slot → Int → List Slot}
    (hN : C.N[i]? = some y) (hv : visB C.sc y = true) (hΓ : Γ[i]? = some (.own (oDI C.fr r kvs))) (hg : EvG C tg rI t up)
    (hi : ∀ z u s, (Γs z u s)[i]? = some (.own (oDF C.fr r kvs z u))) (h0 : ∀ z u, All2 Le1 (Γ.set i (.own (oDF C.fr r kvs z u))) (Γs z u s0)) (he : ∀ z u s, (Γs z u s).set i (.own (oDI C.fr r kvs)) = Γe s)
    (hbd : ∀ z u s k, Ex C (up (Γs z u s) k) body (fun s' => .lp (Γs z u s')) (f s k)) (hd : (y == ("__debug__" : Str)) = false := by decide) (hcd : (y == ("__classdict__" : Str)) = false := by decide)
    (hs : ∀ (env : Env) q, foldedSetIterable (.Name y p2) env q = pure q := by intro _ _; rfl) (hcm : C.cm = true := by rfl) :
    Ex1 C Γ (.For tg (.Name y p2) body [] pos) (fun s' => .nx (Γe s')) ((W.req (kvs.length ≤ 1000000) (pure (kvs.map Prod.fst)) : W _) >>= fun xs => W.foldM f s0 xs) :=
  fun X Wx ok tk F H g σ s D hm => by
    obtain ⟨hl6, hm⟩ := (show (kvs.length ≤ 1000000) ∧ (W.foldM f s0 (kvs.map Prod.fst)).wp _ _ from hm)
    have hlt := (List.getElem?_eq_some_iff.mp hΓ).1
    refine W1.of (ps_lock (ps_for ok.po (ok.calm.trans hcm) (pi_keys (tg := tg) (pe_var (i := i) (by rw [ok.N]; exact hN) (by rw [ok.sc]; exact visOf hv) hd hcd)) (hg.pg X ok.toOk) (pss_W (st := body)) (hs X.env))) ?_
    obtain ⟨v0, eσ, q, vs, ev, nq, eg, tt⟩ := s.get_own hΓ
    subst ev
    have hHq : H q = some (.dK (kvI vs)) := s.sG i q _ (by rw [eg]; exact one_same)
    refine ⟨q, .dK (kvI vs), hHq, trivial, fun od => ?_⟩
    obtain ⟨z, hz⟩ : ∃ z : HO, z = .frz od (.dK (kvI vs)) := ⟨_, rfl⟩
    obtain ⟨s1, f1, _⟩ := s.upd_own (O' := oDF C.fr r kvs z (.ref q)) (o' := z) eg eσ hlt ⟨rfl, q, vs, od, rfl, nq, hz, rfl, tt⟩
    rw [← hz]
    refine ⟨.ref q, eσ, q, od, rfl, .inl ⟨kvI vs, by rw [upd_same, hz], ?_⟩⟩
    have s0' := s1.weak (Sub.of (h0 z (.ref q)))
    have hkl : (kvI vs).length = (kvs.map Prod.fst).length := by unfold kvI; rw [List.length_map, List.length_map]; exact tt.length
    refine ⟨fun k n σ2 H2 => n = (kvs.map Prod.fst).length - k ∧ k ≤ (kvs.map Prod.fst).length ∧ ∃ st F2 g2, Fr F H (dU g) F2 H2 (dU g2) ∧ StOk C F2 H2 (Γs z (.ref q) st) σ2 g2 ∧ (W.foldM f st ((kvs.map Prod.fst).drop k)).wp (fun s' => OutOk C D F H (dU g) (.nx (Γe s'))) (XEndS C F H (dU g) Wx),
      ⟨(kvs.map Prod.fst).length, by simp, Nat.zero_le _, s0, F, _, f1, s0', hm⟩, ?_⟩
    rintro k n σ2 H2 ⟨rfl, hk, st, F2, g2, f2, s2, hw⟩
    obtain ⟨w0, eσ2, eu, q2, vs2, od2, ew, nq2, ez2, eg2, tt2⟩ := s2.get_own (hi z (.ref q) st)
    have eq : q2 = q := by rw [ew] at eu; cases eu; rfl
    subst eq
    have hH2 : H2 q2 = some z := s2.sG i q2 _ (by rw [eg2]; exact one_same)
    have evs : kvI vs2 = kvI vs := by
      rw [hz] at ez2
      injection ez2 with _ h
      injection h with h
      exact h.symm
    by_cases hlk : k < (kvs.map Prod.fst).length
    · refine .inr ⟨⟨by rw [hH2, hz], by rw [hkl]; exact hlk⟩, _, fun σ' H' h => ⟨(kvs.map Prod.fst).length - (k + 1), by omega, h⟩, fun v H' yl => ?_⟩
      obtain ⟨x, hxk⟩ : ∃ x, (kvs.map Prod.fst)[k]? = some x := ⟨_, List.getElem?_eq_getElem hlk⟩
      have hdrop : (kvs.map Prod.fst).drop k = x :: (kvs.map Prod.fst).drop (k + 1) := by
        rw [List.drop_eq_getElem_cons hlk]
        have := List.getElem?_eq_getElem hlk
        rw [hxk] at this
        rw [← Option.some.inj this]
      obtain ⟨e1, kk, vv, hkv, e2⟩ := yl
      subst e1 e2
      have hkx : kV kk = V.int x := by
        rw [← evs] at hkv
        unfold kvI at hkv
        rw [List.getElem?_map] at hkv
        rw [List.getElem?_map] at hxk
        obtain ⟨p1, hp1, e1⟩ := Option.map_eq_some_iff.mp hxk
        obtain ⟨p0, hp0, hr1⟩ := tt2.get hp1
        rw [hp0] at hkv
        cases hkv
        rw [← e1, ← hr1.1]
        rfl
      rw [hkx]
      refine hg.rd _ _ _ g2 σ2 x _ _ s2 rfl fun σ3 s4 => ?_
      rw [hdrop] at hw
      refine hbd z (.ref q2) st x X Wx ok tk _ _ g2 σ3 s4 _ ((f st x).mono (fun o ho => ?_) (fun e he => he.later f2) hw)
      exact ⟨fun F5 H5 g5 σ5 f5 s5 => ⟨rfl, hlk, o, F5, g5, f2.trans f5, s5, ho⟩, fun F5 H5 g5 σ5 f5 s5 => ⟨rfl, hlk, o, F5, g5, f2.trans f5, s5, ho⟩⟩
    · have e : k = (kvs.map Prod.fst).length := by omega
      subst e
      rw [List.drop_length] at hw
      replace hw : OutOk C D F H (dU g) (.nx (Γe st)) := hw
      have hlt2 : i < (Γs z (.ref q2) st).length := (List.getElem?_eq_some_iff.mp (hi z (.ref q2) st)).1
      obtain ⟨s3, f3, _⟩ := s2.upd_own (O' := oDI C.fr r kvs) (o' := .dK (kvI vs)) eg2 eσ2 hlt2 ⟨q2, vs2, ew, nq2, by rw [evs], tt2⟩
      rw [he] at s3
      exact .inl ⟨⟨by rw [hH2, hz], by rw [hkl]; exact Nat.le_refl _⟩, by rw [hH2], hw F2 _ _ σ2 (f2.trans f3) s3⟩
/-! ### a call that tells a dict of the asker's own -/
theorem rL_del {K : PySem.W.Frag} {F : Hp} {a : Addr} {kvs : List (Key × V)} {x : List Int} {v : V} (hk : F a = some (.dK kvs)) (h : (rL K rI x).p F v) : (rL K rI x).p (del F a) v := by
  obtain ⟨b, vs, ev, hq, t⟩ := h
  refine ⟨b, vs, ev, ?_, t⟩
  rcases hq with (q | ⟨od, q⟩) | q
  · exact .inl (.inl (by rw [del_ne (fun z => by rw [z, hk] at q; cases q)]; exact q))
  · exact .inl (.inr ⟨od, by rw [del_ne (fun z => by rw [z, hk] at q; cases q)]; exact q⟩)
  · exact .inr q
theorem EvO.callAD {es : List Expr} {n : Nat} {τ : Type} {ins : (Addr → Prop) → τ → List Rp} {mf : τ → W (List (Int × List Int))} {mt : W τ} (hf : FnV C.toMc x j n ins (fun N => rDI N (rL C.K rI)) mf) (hi : ∀ N N' t, ins N t = ins N' t) (hj : j ≤ C.k) (hg : C.sc.names.lookup x = some .globalImplicit) (ha : EvA C Γ (e :: es) (ins C.fr) mt) (hn : NoStar e) (hpl : ∀ (X : Cx) (pos : Pos), (backTo pos (starEach es X.env)).any (·.1) = false)
    (hd : (x == ("__debug__" : Str)) = false := by decide) (hcm : C.cm = true := by rfl) : EvO C Γ (.Call (.Name x p) (e :: es) [] pos) (oDI C.fr (rL C.K rI)) (do let t ← mt; mf t) :=
  fun X Wx ok tk F H g σ s Q hm => by
    obtain ⟨⟨f, fd, ps, hF, hmg, hk, hb⟩, hl⟩ := hf
    have e1 := ok.prog
    have e2 := ok.w
    have e3 := ok.K
    have e4 := ok.mg
    have e5 := ok.base
    refine WE.of (pe_callS (E := fun σ => L2.WE Wx σ) (by rw [e1, e2, e3, e4, e5]; exact hF) ((ok.room hcm).mono hj) (show X.env.scope.names.lookup x = _ by rw [ok.sc]; exact hg) (by rw [e4]; exact hmg) (by rw [e3]; exact hk) (by rw [e3]; exact hb) (fun σ => by
      have := passAt tk σ
      rw [e1, e2] at this
      exact this) (pa_W (es := e :: es)) hd (hn es X.env) (hpl X pos)) ?_
    refine ha.2 X Wx ok tk F H g σ s _ (mt.mono (fun t ht F1 H1 g1 vs f1 s1 r1 => ?_) (fun e he => he) hm)
    refine ⟨t, F1, fun a => H1 a = none, fun _ z => z, s1.sF, by rw [hi _ C.fr t]; exact r1, (mf t).mono (fun b hb F2 H2 g2 v f2 s2 r2 => ?_) (fun e he F2 H2 g2 cls d f2 s2 hx => ?_) ht⟩
    · obtain ⟨s3, f3⟩ := s1.call0 f2 s2
      obtain ⟨a, us, ev, hn1, ha, t2⟩ := r2
      have hF1a : F1 a = none := by
        cases q : F1 a with
        | none => rfl
        | some o => rw [s1.sF a o q] at hn1; cases hn1
      have s13 : Same F1 (del F2 a) := fun b o q => by
        rw [del_ne (fun z => by rw [z, hF1a] at q; cases q)]
        exact f2.sF b o q
      have hdel : ∀ b o, del F2 a b = some o → F2 b = some o := fun b o q => by
        unfold del at q
        split at q
        · cases q
        · exact q
      refine hb (del F2 a) H2 g1 (one a (.dK (kvI us))) v (f1.trans ⟨s13, fun b q => ?_, fun b o q _ => f2.keep b o q fun z => z, f2.dom, fun b q => ?_⟩) ⟨s1.len, fun i S q => (s1.slot i S q).mono s13, fun b o q => s2 _ _ (hdel b o q), s3.sG, fun i b => ?_, s1.dG, s3.fr⟩ (fun b o q => ?_) (fun b => ?_) (fun i b => ?_) (fun b q => ?_) ⟨a, us, ev, s1.fr a hn1, rfl, t2.imp fun _ _ z => ⟨z.1, rL_del ha z.2⟩⟩
      · have q' : F2 b ≠ none := fun z => q (by unfold del; split <;> first | rfl | exact z)
        rcases f2.fF b q' with z | z | z
        · exact .inl z
        · exact .inr (.inl z)
        · exact z.elim
      · rcases q with q | q
        · exact .inl q
        · by_cases hba : b = a
          · subst hba; exact .inr hn1
          · exact absurd (one_ne hba) q
      · rcases s3.dF i b with q | q
        · refine .inl ?_
          unfold del
          split
          · rfl
          · exact q
        · exact .inr q
      · by_cases hba : b = a
        · subst hba; rw [one_same] at q; cases q; exact s2 _ _ ha
        · rw [one_ne hba] at q; cases q
      · by_cases hba : b = a
        · subst hba
          exact .inl del_same
        · exact .inr (one_ne hba)
      · by_cases hba : b = a
        · subst hba
          refine .inl ?_
          cases q : g1 i b with
          | none => rfl
          | some o => rw [s1.sG i b o q] at hn1; cases hn1
        · exact .inr (one_ne hba)
      · by_cases hba : b = a
        · subst hba; exact s1.fr b hn1
        · exact absurd (one_ne hba) q
    · obtain ⟨s3, f3⟩ := s1.call0 f2 s2
      exact he F2 H2 g1 cls d (f1.trans f3) s3 ((hx.reg s1.sG).later f1)
theorem EvO.callD2 {e1 e2 : Expr} {ra : α → Rp} {rb : β → Rp} {m1 : W α} {m2 : W β} {mf : α × β × Unit → W (List (Int × List Int))} (hf : FnV C.toMc x j 2 (fun N t => [ra t.1, rb t.2.1]) (fun N => rDI N (rL C.K rI)) mf) (hj : j ≤ C.k) (hg : C.sc.names.lookup x = some .globalImplicit) (h1 : Ev C Γ e1 ra m1) (h2 : Ev C Γ e2 rb m2) (n1 : NoStar e1) (n2 : NoStar e2) (hd : (x == ("__debug__" : Str)) = false := by decide) (hcm : C.cm = true := by rfl) :
    EvO C Γ (.Call (.Name x p) [e1, e2] [] pos) (oDI C.fr (rL C.K rI)) (do let a ← m1; let b ← m2; mf (a, b, ())) := EvO.callAD (mt := do let a ← m1; let t ← (do let b ← m2; let t ← pure (); pure (b, t)); pure (a, t)) hf (fun _ _ _ => rfl) hj hg (EvA.cons h1 (EvA.cons h2 EvA.nil n2) n1) n1 (EvA.cons h2 EvA.nil n2).1 hd hcm
end
end Y

namespace Y
open PySem PySem.Spec L2
def top (i : Nat) : Stmt := PySem.Challenge.pw_modeyard_k20_whole_all_lone_lists.main.body.getD i (.Pass ⟨0, 0, 0, 0⟩)
def m_measure_b1 (v_s_5 : (Int × Int)) : W (Int × Int) :=
  ((pure v_s_5.2) >>= fun v_found_11 => ((pure v_s_5.1) >>= fun u9 => ((divI v_s_5.1 v_s_5.2) >>= fun u7 => (pure v_s_5.2) >>= fun u8 => mulI u7 u8) >>= fun u10 => pure (u9 - u10)) >>= fun v_other_12 => (pure (v_found_11, v_other_12)))
def m_measure_b2 (v_s_2 : (Int)) (v_x_3 : Int) : W (Int) :=
  ((pure (absI v_x_3)) >>= fun v_other_4 => ((W.whileM (fun v_s_5 : Int × Int => (pure (decide ((0 : Int) < v_s_5.2)))) (fun v_s_5 : Int × Int => (m_measure_b1 v_s_5)) (v_s_2, v_other_4)) >>= fun v_s_5 => (pure (v_s_5.1))))
def m_measure (t : (List Int) × Unit) : W Int :=
  ((pure (0 : Int)) >>= fun v_found_1 => (((pure t.1) >>= fun xs => W.foldM (fun (v_s_2 : Int) (v_x_3 : Int) => (m_measure_b2 v_s_2 v_x_3)) (v_found_1) xs) >>= fun v_s_2 => ((pure v_s_2) >>= fun u13 => pure u13)))
theorem w_measure {M : Mc} (b_abs : M.mg "abs" = none) (F : FunM M "measure" (top 1) ["numbers"]) : FnV M "measure" 1 1 (fun (fr : Addr → Prop) (t : (List Int) × Unit) => [(rL M.K rI) t.1]) (fun fr => rI) m_measure := by
  refine FnV.ofBody (N := ["numbers", "found", "number", "other"]) F (⟨rfl, rfl, rfl, by decide +kernel, rfl, by decide +kernel, by decide +kernel⟩ : FnScope ["numbers", "found", "number", "other"] ["numbers"] _) rfl (fun _ _ => rfl) (fun fr t => ?_)
  refine Ex.set (i := 1) (ρ := rI) rfl (stoOf rfl) Ev.int (fun v_found_1 => ?_)
  refine Ex.seq (J1 := fun v_s_2 : Int => .nx [.val ((rL M.K rI) t.1), .val (rI v_s_2), .no, .no]) (Ex1.for (fun v_s_2 : Int => [.val ((rL M.K rI) t.1), .val (rI v_s_2), .no, .no]) (s0 := (v_found_1)) (EvI.list (Ev.nameP (i := 0) rfl rfl rfl rfl)) (EvG.name (i := 2) (r := rI) rfl (stoOf rfl)) (.cons .rf (.cons .rf (.cons .no (.cons .no .nil)))) (fun v_s_2 v_x_3 => ?_)) (fun v_s_2 => ?_)
  ·
    refine Ex.set (i := 3) (ρ := rI) rfl (stoOf rfl) (Ev.absP (bt_abs rfl b_abs) (Ev.nameP (i := 2) rfl rfl rfl rfl) (fun _ _ => rfl)) (fun v_other_4 => ?_)
    refine Ex.seq (J1 := fun v_s_5 : Int × Int => .nx [.val ((rL M.K rI) t.1), .val (rI v_s_5.1), .val (rI v_x_3), .val (rI v_s_5.2)]) (Ex1.while (fun v_s_5 : Int × Int => [.val ((rL M.K rI) t.1), .val (rI v_s_5.1), .val (rI v_x_3), .val (rI v_s_5.2)]) (s0 := (v_s_2, v_other_4)) (.cons .rf (.cons .rf (.cons .rf (.cons .rf .nil)))) (fun v_s_5 => (EvT.cmp (Ev.gtP (Ev.nameP (i := 3) rfl rfl rfl rfl) Ev.int))) (fun v_s_5 => ?_)) (fun v_s_5 => ?_)
    ·
      refine Ex.par (i := 1) (j := 3) (ρa := rI) (ρb := rI) rfl rfl (by decide) rfl rfl (Ev.nameP (i := 3) rfl rfl rfl rfl) (Ev.sub' (Ev.nameP (i := 1) rfl rfl rfl rfl) (Ev.mul (Ev.divP (Ev.nameP (i := 1) rfl rfl rfl rfl) (Ev.nameP (i := 3) rfl rfl rfl rfl)) (Ev.nameP (i := 3) rfl rfl rfl rfl))) (fun _ _ => rfl) (fun _ _ => rfl) (by intro env h; obtain ⟨_, _, _, _, _⟩ := env; subst h; rfl) (fun v_found_11 v_other_12 => ?_)
      exact Ex.nilLp rfl (.cons .rf (.cons .rf (.cons .rf (.cons .rf .nil))))
    show Ex _ _ _ _ _
    exact Ex.nilLp rfl (.cons .rf (.cons .rf (.cons .no (.cons .no .nil))))
  show Ex _ _ _ _ _
  exact Ex.ret (ρ := rI) (fun u13 => u13) (fun _ => rfl) (Ev.nameP (i := 1) rfl rfl rfl rfl)

def m_lowest (t : (List Int) × Unit) : W (List Int) :=
  (((pure t.1) >>= fun u1 => m_measure (u1, ())) >>= fun v_common_2 => ((pure (decide (v_common_2 = (0 : Int)))) >>= fun u3 => if u3 = true then ((pure t.1) >>= fun u4 => pure u4) else (((pure t.1) >>= fun xs => W.noX (compM (fun v_x_5 => pure true) (fun v_x_5 => (divI v_x_5 v_common_2)) xs)) >>= fun u6 => pure u6)))
theorem w_lowest {M : Mc} (b_list : M.mg "list" = none) (h_measure : FnV M "measure" 1 1 (fun (fr : Addr → Prop) (t : (List Int) × Unit) => [(rL M.K rI) t.1]) (fun fr => rI) m_measure) (F : FunM M "lowest" (top 2) ["numbers"]) : FnV M "lowest" 2 1 (fun (fr : Addr → Prop) (t : (List Int) × Unit) => [(rL M.K rI) t.1]) (fun fr => (rN fr rI)) m_lowest := by
  refine FnV.ofBody (N := ["numbers", "common", "number"]) F (⟨rfl, rfl, rfl, by decide +kernel, rfl, by decide +kernel, by decide +kernel⟩ : FnScope ["numbers", "common", "number"] ["numbers"] _) rfl (fun _ _ => rfl) (fun fr t => ?_)
  refine Ex.set (i := 1) (ρ := rI) rfl (stoOf rfl) (Ev.call1 (hd := rfl) (ρ := fun fr => rI) (mf := m_measure) (ra := fun fr => (rL M.K rI)) h_measure (Nat.le_of_ble_eq_true rfl) rfl (Ev.nameP (i := 0) rfl rfl rfl rfl) (fun _ _ => rfl)) (fun v_common_2 => ?_)
  refine Ex.ifx (EvT.cmp (Ev.eqIP (Ev.nameP (i := 1) rfl rfl rfl rfl) Ev.int)) ?_ ?_
  ·
    exact Ex.ret (ρ := (rN fr rI)) (fun u4 => u4) (fun _ => rfl) (EvO.list (EvO.listOf (bt_list rfl b_list) (Ev.nameP (i := 0) rfl rfl rfl rfl) (fun _ _ => rfl)))
  exact Ex.ret (ρ := (rN fr rI)) (fun u6 => u6) (fun _ => rfl) (EvO.list (EvO.comp (LcOk.one (i := 2) rfl rfl (stoOf rfl) (fun _ h => nomatch h)) (EvI.list (Ev.nameP (i := 0) rfl rfl rfl rfl)) (fun v_x_5 => EvTs.nil) (fun v_x_5 => (Ev.divP (Ev.nameP (i := 2) rfl rfl rfl rfl) (Ev.nameP (i := 1) rfl rfl rfl rfl)))))

def m_unit (t : Int × Int × Unit) : W (List Int) :=
  ((((pure t.2.1) >>= fun u3 => rangeW 0 u3) >>= fun xs => W.noX (compM (fun v_x_4 => pure true) (fun v_x_4 => (pure (0 : Int))) xs)) >>= fun v_here_5 => ((pure (1 : Int)) >>= fun u6 => (pure t.1) >>= fun u7 => setI v_here_5 u7 u6 >>= fun v_here_8 => ((pure v_here_8) >>= fun u9 => pure u9)))
theorem w_unit {M : Mc} (b_range : M.mg "range" = none) (F : FunM M "unit" (top 4) ["at", "many"]) : FnV M "unit" 1 2 (fun (fr : Addr → Prop) (t : Int × Int × Unit) => [rI t.1, rI t.2.1]) (fun fr => (rN fr rI)) m_unit := by
  refine FnV.ofBody (N := ["at", "many", "here", "k"]) F (⟨rfl, rfl, rfl, by decide +kernel, rfl, by decide +kernel, by decide +kernel⟩ : FnScope ["at", "many", "here", "k"] ["at", "many"] _) rfl (fun _ _ => rfl) (fun fr t => ?_)
  refine lcSet (i := 2) (S := fun a => .own (oL fr rI a)) (hS := lcOwn) rfl rfl (LcOk.one (i := 3) rfl rfl (stoOf rfl) (fun _ h => nomatch h)) (EvI.range1 (bt_range rfl b_range) (Ev.nameP (i := 1) rfl rfl rfl rfl) (fun _ _ => rfl)) (fun v_x_4 => EvTs.nil) (fun v_x_4 => Ev.int) (fun v_here_5 => ?_) (swLocal rfl rfl rfl rfl) (by intro _ _; rfl)
  refine Ex.setIx (i := 2) (r := rI) rfl (visOf rfl) rfl Ev.int (Ev.nameP (i := 0) rfl rfl rfl rfl) (fun v_here_8 => ?_) (hpg := fun X h => pg_sub h pe_W set_list (fun _ => rfl))
  refine Ex.freeze (i := 2) rfl ?_
  exact Ex.ret (ρ := (rN fr rI)) (fun u9 => u9) (fun _ => rfl) (Ev.nameP (i := 2) rfl rfl rfl rfl)

def m_product (t : (List Int) × (List Int) × Unit) : W Int :=
  (((((pure t.1) >>= fun u1 => (pure t.2.1) >>= fun u2 => pure (u1.zip u2)) >>= fun xs => W.noX (compM (fun v_x_3 => pure true) (fun v_x_3 => (mulI v_x_3.1 v_x_3.2)) xs)) >>= fun u4 => pure u4.sum) >>= fun u5 => pure u5)
theorem w_product {M : Mc} (b_zip : M.mg "zip" = none) (b_sum : M.mg "sum" = none) (F : FunM M "product" (top 6) ["row", "numbers"]) : FnV M "product" 1 2 (fun (fr : Addr → Prop) (t : (List Int) × (List Int) × Unit) => [(rL M.K rI) t.1, (rL M.K rI) t.2.1]) (fun fr => rI) m_product := by
  refine FnV.ofBody (N := ["row", "numbers", "one", "other"]) F (⟨rfl, rfl, rfl, by decide +kernel, rfl, by decide +kernel, by decide +kernel⟩ : FnScope ["row", "numbers", "one", "other"] ["row", "numbers"] _) rfl (fun _ _ => rfl) (fun fr t => ?_)
  exact Ex.ret (ρ := rI) (fun u5 => u5) (fun _ => rfl) (Ev.sum (bt_sum rfl b_sum) (Ev.sub (subNL subR) (EvO.list (EvO.comp (LcOk.two (i := 2) (j := 3) rfl rfl rfl (stoOf rfl) (stoOf rfl) (by decide) (fun _ h => nomatch h) (fun _ h => nomatch h)) (EvI.zip (bt_zip rfl b_zip) (Ev.nameP (i := 0) rfl rfl rfl rfl) (Ev.nameP (i := 1) rfl rfl rfl rfl) (fun _ _ => rfl) (fun _ _ => rfl)) (fun v_x_3 => EvTs.nil) (fun v_x_3 => (Ev.mulP (Ev.nameP (i := 2) rfl rfl rfl rfl) (Ev.nameP (i := 3) rfl rfl rfl rfl)))))) (fun _ _ => rfl))

def m_mask_of_b1 (v_s_3 : (Int)) (v_x_4 : (Int × Int)) : W (Int) :=
  (((pure (decide ((0 : Int) < v_x_4.2))) >>= fun u6 => if u6 = true then (((pure v_s_3) >>= fun u7 => (shlI (1 : Int) v_x_4.1) >>= fun u8 => pure (Builtin.bitOr u7 u8)) >>= fun v_mask_9 => (pure (v_mask_9))) else (pure (v_s_3))) >>= fun v_o_5 : Int => (pure (v_o_5)))
def m_mask_of (t : (List Int) × Unit) : W Int :=
  ((pure (0 : Int)) >>= fun v_mask_1 => ((((pure t.1) >>= fun u2 => pure (Y.enum u2)) >>= fun xs => W.foldM (fun (v_s_3 : Int) (v_x_4 : (Int × Int)) => (m_mask_of_b1 v_s_3 v_x_4)) (v_mask_1) xs) >>= fun v_s_3 => ((pure v_s_3) >>= fun u10 => pure u10)))
theorem w_mask_of {M : Mc} (b_enumerate : M.mg "enumerate" = none) (F : FunM M "mask_of" (top 7) ["numbers"]) : FnV M "mask_of" 1 1 (fun (fr : Addr → Prop) (t : (List Int) × Unit) => [(rL M.K rI) t.1]) (fun fr => rI) m_mask_of := by
  refine FnV.ofBody (N := ["numbers", "mask", "at", "number"]) F (⟨rfl, rfl, rfl, by decide +kernel, rfl, by decide +kernel, by decide +kernel⟩ : FnScope ["numbers", "mask", "at", "number"] ["numbers"] _) rfl (fun _ _ => rfl) (fun fr t => ?_)
  refine Ex.set (i := 1) (ρ := rI) rfl (stoOf rfl) Ev.int (fun v_mask_1 => ?_)
  refine Ex.seq (J1 := fun v_s_3 : Int => .nx [.val ((rL M.K rI) t.1), .val (rI v_s_3), .no, .no]) (Ex1.for (fun v_s_3 : Int => [.val ((rL M.K rI) t.1), .val (rI v_s_3), .no, .no]) (s0 := (v_mask_1)) (EvI.enum (bt_enumerate rfl b_enumerate) (Ev.nameP (i := 0) rfl rfl rfl rfl) (fun _ _ => rfl)) (EvG.tup2 (i := 2) (j := 3) rfl rfl (stoOf rfl) (stoOf rfl)) (.cons .rf (.cons .rf (.cons .no (.cons .no .nil)))) (fun v_s_3 v_x_4 => ?_)) (fun v_s_3 => ?_)
  ·
    refine Ex.seq (J1 := fun v_o_5 : Int => .nx [.val ((rL M.K rI) t.1), .val (rI v_o_5), .val (rI v_x_4.1), .val (rI v_x_4.2)]) (Ex1.ite (EvT.cmp (Ev.gtP (Ev.nameP (i := 3) rfl rfl rfl rfl) Ev.int)) ?_ ?_) (fun v_o_5 => ?_)
    ·
      refine Ex.set (i := 1) (ρ := rI) rfl (stoOf rfl) (Ev.bor (Ev.nameP (i := 1) rfl rfl rfl rfl) (Ev.shlP Ev.int (Ev.nameP (i := 2) rfl rfl rfl rfl))) (fun v_mask_9 => ?_)
      exact Ex.nil rfl (.cons .rf (.cons .rf (.cons .rf (.cons .rf .nil))))
    ·
      exact Ex.nil rfl (.cons .rf (.cons .rf (.cons .rf (.cons .rf .nil))))
    show Ex _ _ _ _ _
    exact Ex.nilLp rfl (.cons .rf (.cons .rf (.cons .no (.cons .no .nil))))
  show Ex _ _ _ _ _
  exact Ex.ret (ρ := rI) (fun u10 => u10) (fun _ => rfl) (Ev.nameP (i := 1) rfl rfl rfl rfl)

def m_stand_apart_b1 (t : Int × Int × (List Int) × Unit) (v_both_1 : Int) (v_x_3 : Int) : W (Fl (Unit) Bool) :=
  (((pure (!decide (v_x_3 = t.1))) >>= fun u5 => if u5 = true then ((pure (!decide (v_x_3 = t.2.1))) >>= fun u4 => if u4 = true then (pure (decide ((Builtin.bitOr v_x_3 v_both_1) = v_both_1))) else pure false) else pure false) >>= fun u6 => if u6 = true then ((pure true) >>= fun u7 => pure (Fl.ret u7)) else (pure (Fl.go ())))
def m_stand_apart (t : Int × Int × (List Int) × Unit) : W Bool :=
  ((pure (Builtin.bitOr t.1 t.2.1)) >>= fun v_both_1 => ((((pure t.2.2.1) >>= fun xs => W.foldR (fun (v_s_2 : Unit) (v_x_3 : Int) => (m_stand_apart_b1 t v_both_1 v_x_3)) () xs) >>= fun o => pure o.out) >>= fun o : (Unit) ⊕ Bool => match o with | .inl v_s_2 => ((pure false) >>= fun u8 => pure u8) | .inr r => (pure r)))
theorem w_stand_apart {M : Mc} (F : FunM M "stand_apart" (top 8) ["one", "other", "masks"]) : FnV M "stand_apart" 1 3 (fun (fr : Addr → Prop) (t : Int × Int × (List Int) × Unit) => [rI t.1, rI t.2.1, (rL M.K rI) t.2.2.1]) (fun fr => rB) m_stand_apart := by
  refine FnV.ofBody (N := ["one", "other", "masks", "both", "mask"]) F (⟨rfl, rfl, rfl, by decide +kernel, rfl, by decide +kernel, by decide +kernel⟩ : FnScope ["one", "other", "masks", "both", "mask"] ["one", "other", "masks"] _) rfl (fun _ _ => rfl) (fun fr t => ?_)
  refine Ex.set (i := 3) (ρ := rI) rfl (stoOf rfl) (Ev.borP (Ev.nameP (i := 0) rfl rfl rfl rfl) (Ev.nameP (i := 1) rfl rfl rfl rfl)) (fun v_both_1 => ?_)
  refine Ex.seq (J1 := (outX (S := Unit) (ρ := Bool) (fun v_s_2 : Unit => [.val (rI t.1), .val (rI t.2.1), .val ((rL M.K rI) t.2.2.1), .val (rI v_both_1), .no]) (fun r => rB r))) (Ex1.forX (fun v_s_2 : Unit => [.val (rI t.1), .val (rI t.2.1), .val ((rL M.K rI) t.2.2.1), .val (rI v_both_1), .no]) (fun r => rB r) (s0 := ()) (EvI.list (Ev.nameP (i := 2) rfl rfl rfl rfl)) (EvG.name (i := 4) (r := rI) rfl (stoOf rfl)) (.cons .rf (.cons .rf (.cons .rf (.cons .rf (.cons .no .nil))))) (fun v_s_2 v_x_3 => ?_)) (fun o => ?_)
  ·
    refine Ex.ifx (EvW.t (EvW.and (EvT.cmp (Ev.neIP (Ev.nameP (i := 4) rfl rfl rfl rfl) (Ev.nameP (i := 0) rfl rfl rfl rfl))) (EvW.and (EvT.cmp (Ev.neIP (Ev.nameP (i := 4) rfl rfl rfl rfl) (Ev.nameP (i := 1) rfl rfl rfl rfl))) (EvW.and1 (EvT.cmp (Ev.eqIP (Ev.borP (Ev.nameP (i := 4) rfl rfl rfl rfl) (Ev.nameP (i := 3) rfl rfl rfl rfl)) (Ev.nameP (i := 3) rfl rfl rfl rfl))))))) ?_ ?_
    ·
      exact Ex.ret (ρ := rB) (fun u7 => (Fl.ret u7)) (fun _ => rfl) Ev.bool
    exact Ex.nilLp rfl (.cons .rf (.cons .rf (.cons .rf (.cons .rf (.cons .no .nil)))))
  obtain v_s_2 | r := o
  ·
    show Ex _ _ _ _ _
    exact Ex.ret (ρ := rB) (fun u8 => u8) (fun _ => rfl) Ev.bool
  · exact ⟨_, rfl, rfl⟩

def m_mixed (t : (List Int) × Int × (List Int) × Int × Unit) : W (List Int) :=
  (((((pure t.1) >>= fun u1 => (pure t.2.2.1) >>= fun u2 => pure (u1.zip u2)) >>= fun xs => W.noX (compM (fun v_x_3 => pure true) (fun v_x_3 => ((mulI v_x_3.1 (-t.2.2.2.1)) >>= fun u4 => (mulI v_x_3.2 t.2.1) >>= fun u5 => pure (u4 + u5))) xs)) >>= fun u6 => m_lowest (u6, ())) >>= fun u7 => pure u7)
theorem w_mixed {M : Mc} (b_zip : M.mg "zip" = none) (h_lowest : FnV M "lowest" 2 1 (fun (fr : Addr → Prop) (t : (List Int) × Unit) => [(rL M.K rI) t.1]) (fun fr => (rN fr rI)) m_lowest) (F : FunM M "mixed" (top 9) ["one", "one_worth", "other", "other_worth"]) : FnV M "mixed" 3 4 (fun (fr : Addr → Prop) (t : (List Int) × Int × (List Int) × Int × Unit) => [(rL M.K rI) t.1, rI t.2.1, (rL M.K rI) t.2.2.1, rI t.2.2.2.1]) (fun fr => (rN fr rI)) m_mixed := by
  refine FnV.ofBody (N := ["one", "one_worth", "other", "other_worth", "low", "high"]) F (⟨rfl, rfl, rfl, by decide +kernel, rfl, by decide +kernel, by decide +kernel⟩ : FnScope ["one", "one_worth", "other", "other_worth", "low", "high"] ["one", "one_worth", "other", "other_worth"] _) rfl (fun _ _ => rfl) (fun fr t => ?_)
  exact Ex.ret (ρ := (rN fr rI)) (fun u7 => u7) (fun _ => rfl) (Ev.call1 (hd := rfl) (ρ := fun fr => (rN fr rI)) (mf := m_lowest) (ra := fun fr => (rL M.K rI)) h_lowest (Nat.le_of_ble_eq_true rfl) rfl (Ev.sub (subNL subR) (EvO.list (EvO.comp (LcOk.two (i := 4) (j := 5) rfl rfl rfl (stoOf rfl) (stoOf rfl) (by decide) (fun _ h => nomatch h) (fun _ h => nomatch h)) (EvI.zip (bt_zip rfl b_zip) (Ev.nameP (i := 0) rfl rfl rfl rfl) (Ev.nameP (i := 2) rfl rfl rfl rfl) (fun _ _ => rfl) (fun _ _ => rfl)) (fun v_x_3 => EvTs.nil) (fun v_x_3 => (Ev.add (Ev.mulP (Ev.nameP (i := 4) rfl rfl rfl rfl) (Ev.negP (Ev.nameP (i := 3) rfl rfl rfl rfl))) (Ev.mulP (Ev.nameP (i := 5) rfl rfl rfl rfl) (Ev.nameP (i := 1) rfl rfl rfl rfl))))))) (fun _ _ => rfl))

def m_narrowed_b1 (v_masks_3 : (List Int)) (v_x_19 : ((List Int) × Int × Int)) (v_s_25 : ((List (List Int)))) (v_x_26 : ((List Int) × Int × Int)) : W ((List (List Int))) :=
  ((((pure (decide (v_x_26.2.2 < (0 : Int)))) >>= fun u31 => if u31 = true then (((pure v_x_19.2.1) >>= fun u27 => (pure v_x_26.2.1) >>= fun u28 => (pure v_masks_3) >>= fun u29 => m_stand_apart (u27, u28, u29, ())) >>= fun u30 => pure (!u30)) else pure false) >>= fun u33 => if u33 = true then (((pure v_x_19.1) >>= fun u34 => (pure v_x_19.2.2) >>= fun u35 => (pure v_x_26.1) >>= fun u36 => (pure v_x_26.2.2) >>= fun u37 => m_mixed (u34, u35, u36, u37, ())) >>= fun u38 => W.req (v_s_25.length ≤ 1000000) ((pure ((v_s_25 ++ [u38]))))) else (pure (v_s_25))) >>= fun v_o_32 : (List (List Int)) => (pure (v_o_32)))
def m_narrowed_b2 (t : (List Int) × (List (List Int)) × Unit) (v_masks_3 : (List Int)) (v_worths_7 : (List Int)) (v_s_18 : ((List (List Int)))) (v_x_19 : ((List Int) × Int × Int)) : W ((List (List Int))) :=
  (((pure (decide ((0 : Int) < v_x_19.2.2))) >>= fun u21 => if u21 = true then ((((pure t.2.1) >>= fun u22 => (pure v_masks_3) >>= fun u23 => (pure v_worths_7) >>= fun u24 => pure (zip3 u22 u23 u24)) >>= fun xs => W.foldM (fun (v_s_25 : (List (List Int))) (v_x_26 : ((List Int) × Int × Int)) => (m_narrowed_b1 v_masks_3 v_x_19 v_s_25 v_x_26)) (v_s_18) xs) >>= fun v_s_25 => (pure (v_s_25))) else (pure (v_s_18))) >>= fun v_o_20 : (List (List Int)) => (pure (v_o_20)))
def m_narrowed (t : (List Int) × (List (List Int)) × Unit) : W (List (List Int)) :=
  (((pure t.2.1) >>= fun xs => W.noX (compM (fun v_x_1 => pure true) (fun v_x_1 => ((pure v_x_1) >>= fun u2 => m_mask_of (u2, ()))) xs)) >>= fun v_masks_3 => (((pure t.2.1) >>= fun xs => W.noX (compM (fun v_x_4 => pure true) (fun v_x_4 => ((pure t.1) >>= fun u5 => (pure v_x_4) >>= fun u6 => m_product (u5, u6, ()))) xs)) >>= fun v_worths_7 => ((((pure t.2.1) >>= fun u11 => (pure v_worths_7) >>= fun u12 => pure (u11.zip u12)) >>= fun xs => W.noX (compM (fun v_x_13 => (pure (decide (v_x_13.2 = (0 : Int))))) (fun v_x_13 => (pure v_x_13.1)) xs)) >>= fun v_made_14 => ((((pure t.2.1) >>= fun u15 => (pure v_masks_3) >>= fun u16 => (pure v_worths_7) >>= fun u17 => pure (zip3 u15 u16 u17)) >>= fun xs => W.foldM (fun (v_s_18 : (List (List Int))) (v_x_19 : ((List Int) × Int × Int)) => (m_narrowed_b2 t v_masks_3 v_worths_7 v_s_18 v_x_19)) (v_made_14) xs) >>= fun v_s_18 => ((pure v_s_18) >>= fun u40 => pure u40)))))
theorem w_narrowed {M : Mc} (b_zip : M.mg "zip" = none) (h_mask_of : FnV M "mask_of" 1 1 (fun (fr : Addr → Prop) (t : (List Int) × Unit) => [(rL M.K rI) t.1]) (fun fr => rI) m_mask_of) (h_product : FnV M "product" 1 2 (fun (fr : Addr → Prop) (t : (List Int) × (List Int) × Unit) => [(rL M.K rI) t.1, (rL M.K rI) t.2.1]) (fun fr => rI) m_product) (h_stand_apart : FnV M "stand_apart" 1 3 (fun (fr : Addr → Prop) (t : Int × Int × (List Int) × Unit) => [rI t.1, rI t.2.1, (rL M.K rI) t.2.2.1]) (fun fr => rB) m_stand_apart) (h_mixed : FnV M "mixed" 3 4 (fun (fr : Addr → Prop) (t : (List Int) × Int × (List Int) × Int × Unit) => [(rL M.K rI) t.1, rI t.2.1, (rL M.K rI) t.2.2.1, rI t.2.2.2.1]) (fun fr => (rN fr rI)) m_mixed) (F : FunM M "narrowed" (top 10) ["row", "found"]) : FnV M "narrowed" 4 2 (fun (fr : Addr → Prop) (t : (List Int) × (List (List Int)) × Unit) => [(rL M.K rI) t.1, (rL M.K (rN fr rI)) t.2.1]) (fun fr => (rN fr (rN fr rI))) m_narrowed := by
  refine FnV.ofBody (N := ["row", "found", "masks", "worths", "made", "one", "mask", "worth", "other", "other_mask", "other_worth"]) F (⟨rfl, rfl, rfl, by decide +kernel, rfl, by decide +kernel, by decide +kernel⟩ : FnScope ["row", "found", "masks", "worths", "made", "one", "mask", "worth", "other", "other_mask", "other_worth"] ["row", "found"] _) rfl (fun _ _ => rfl) (fun fr t => ?_)
  refine lcSet (i := 2) (S := fun a => .val (rN fr rI a)) (hS := lcVal) rfl rfl (LcOk.one (i := 5) rfl rfl (stoOf rfl) (fun _ h => nomatch h)) (EvI.list (Ev.nameP (i := 1) rfl rfl rfl rfl)) (fun v_x_1 => EvTs.nil) (fun v_x_1 => (Ev.call1 (hd := rfl) (ρ := fun fr => rI) (mf := m_mask_of) (ra := fun fr => (rL M.K rI)) h_mask_of (Nat.le_of_ble_eq_true rfl) rfl (Ev.sub (subNL subR) (Ev.nameP (i := 5) rfl rfl rfl rfl)) (fun _ _ => rfl))) (fun v_masks_3 => ?_) (swLocal rfl rfl rfl rfl) (by intro _ _; rfl)
  refine lcSet (i := 3) (S := fun a => .val (rN fr rI a)) (hS := lcVal) rfl rfl (LcOk.one (i := 5) rfl rfl (stoOf rfl) (fun _ h => nomatch h)) (EvI.list (Ev.nameP (i := 1) rfl rfl rfl rfl)) (fun v_x_4 => EvTs.nil) (fun v_x_4 => (Ev.call2 (hd := rfl) (ρ := fun fr => rI) (mf := m_product) (ra := fun fr => (rL M.K rI)) (rb := fun fr => (rL M.K rI)) h_product (Nat.le_of_ble_eq_true rfl) rfl (Ev.nameP (i := 0) rfl rfl rfl rfl) (Ev.sub (subNL subR) (Ev.nameP (i := 5) rfl rfl rfl rfl)) (fun _ _ => rfl) (fun _ _ => rfl))) (fun v_worths_7 => ?_) (swLocal rfl rfl rfl rfl) (by intro _ _; rfl)
  refine lcSet (i := 4) (S := fun a => .own (oL fr (rN fr rI) a)) (hS := lcOwn) rfl rfl (LcOk.two (i := 5) (j := 7) rfl rfl rfl (stoOf rfl) (stoOf rfl) (by decide) (fun _ h => nomatch h) (fun _ h => nomatch h)) (EvI.zip (bt_zip rfl b_zip) (Ev.nameP (i := 1) rfl rfl rfl rfl) (Ev.sub (subNL subR) (Ev.nameP (i := 3) rfl rfl rfl rfl)) (fun _ _ => rfl) (fun _ _ => rfl)) (fun v_x_13 => (EvTs.one (EvT.cmp (Ev.eqIP (Ev.nameP (i := 7) rfl rfl rfl rfl) Ev.int)))) (fun v_x_13 => (Ev.nameP (i := 5) rfl rfl rfl rfl)) (fun v_made_14 => ?_) (swLocal rfl rfl rfl rfl) (by intro _ _; rfl)
  refine Ex.seq (J1 := fun v_s_18 : (List (List Int)) => .nx [.val ((rL M.K rI) t.1), .val ((rL M.K (rN fr rI)) t.2.1), .val ((rN fr rI) v_masks_3), .val ((rN fr rI) v_worths_7), .own (oL fr (rN fr rI) v_s_18), .no, .no, .no, .no, .no, .no]) (Ex1.for (fun v_s_18 : (List (List Int)) => [.val ((rL M.K rI) t.1), .val ((rL M.K (rN fr rI)) t.2.1), .val ((rN fr rI) v_masks_3), .val ((rN fr rI) v_worths_7), .own (oL fr (rN fr rI) v_s_18), .no, .no, .no, .no, .no, .no]) (s0 := (v_made_14)) (EvI.zip3 (bt_zip rfl b_zip) (Ev.nameP (i := 1) rfl rfl rfl rfl) (Ev.sub (subNL subR) (Ev.nameP (i := 2) rfl rfl rfl rfl)) (Ev.sub (subNL subR) (Ev.nameP (i := 3) rfl rfl rfl rfl)) (fun _ _ => rfl) (fun _ _ => rfl) (fun _ _ => rfl)) (EvG.tup3 (i := 5) (j := 6) (l := 7) rfl rfl rfl (stoOf rfl) (stoOf rfl) (stoOf rfl)) (.cons .rf (.cons .rf (.cons .rf (.cons .rf (.cons .rf (.cons .no (.cons .no (.cons .no (.cons .no (.cons .no (.cons .no .nil))))))))))) (fun v_s_18 v_x_19 => ?_)) (fun v_s_18 => ?_)
  ·
    refine Ex.seq (J1 := fun v_o_20 : (List (List Int)) => .nx [.val ((rL M.K rI) t.1), .val ((rL M.K (rN fr rI)) t.2.1), .val ((rN fr rI) v_masks_3), .val ((rN fr rI) v_worths_7), .own (oL fr (rN fr rI) v_o_20), .val ((rN fr rI) v_x_19.1), .val (rI v_x_19.2.1), .val (rI v_x_19.2.2), .no, .no, .no]) (Ex1.ite (EvT.cmp (Ev.gtP (Ev.nameP (i := 7) rfl rfl rfl rfl) Ev.int)) ?_ ?_) (fun v_o_20 => ?_)
    ·
      refine Ex.seq (J1 := fun v_s_25 : (List (List Int)) => .nx [.val ((rL M.K rI) t.1), .val ((rL M.K (rN fr rI)) t.2.1), .val ((rN fr rI) v_masks_3), .val ((rN fr rI) v_worths_7), .own (oL fr (rN fr rI) v_s_25), .val ((rN fr rI) v_x_19.1), .val (rI v_x_19.2.1), .val (rI v_x_19.2.2), .no, .no, .no]) (Ex1.for (fun v_s_25 : (List (List Int)) => [.val ((rL M.K rI) t.1), .val ((rL M.K (rN fr rI)) t.2.1), .val ((rN fr rI) v_masks_3), .val ((rN fr rI) v_worths_7), .own (oL fr (rN fr rI) v_s_25), .val ((rN fr rI) v_x_19.1), .val (rI v_x_19.2.1), .val (rI v_x_19.2.2), .no, .no, .no]) (s0 := (v_s_18)) (EvI.zip3 (bt_zip rfl b_zip) (Ev.nameP (i := 1) rfl rfl rfl rfl) (Ev.sub (subNL subR) (Ev.nameP (i := 2) rfl rfl rfl rfl)) (Ev.sub (subNL subR) (Ev.nameP (i := 3) rfl rfl rfl rfl)) (fun _ _ => rfl) (fun _ _ => rfl) (fun _ _ => rfl)) (EvG.tup3 (i := 8) (j := 9) (l := 10) rfl rfl rfl (stoOf rfl) (stoOf rfl) (stoOf rfl)) (.cons .rf (.cons .rf (.cons .rf (.cons .rf (.cons .rf (.cons .rf (.cons .rf (.cons .rf (.cons .no (.cons .no (.cons .no .nil))))))))))) (fun v_s_25 v_x_26 => ?_)) (fun v_s_25 => ?_)
      ·
        refine Ex.seq (J1 := fun v_o_32 : (List (List Int)) => .nx [.val ((rL M.K rI) t.1), .val ((rL M.K (rN fr rI)) t.2.1), .val ((rN fr rI) v_masks_3), .val ((rN fr rI) v_worths_7), .own (oL fr (rN fr rI) v_o_32), .val ((rN fr rI) v_x_19.1), .val (rI v_x_19.2.1), .val (rI v_x_19.2.2), .val ((rN fr rI) v_x_26.1), .val (rI v_x_26.2.1), .val (rI v_x_26.2.2)]) (Ex1.ite (EvW.t (EvW.and (EvT.cmp (Ev.ltP (Ev.nameP (i := 10) rfl rfl rfl rfl) Ev.int)) (EvW.and1 (EvT.not (EvT.val (Ev.call3 (hd := rfl) (ρ := fun fr => rB) (mf := m_stand_apart) (ra := fun fr => rI) (rb := fun fr => rI) (rc := fun fr => (rL M.K rI)) h_stand_apart (Nat.le_of_ble_eq_true rfl) rfl (Ev.nameP (i := 6) rfl rfl rfl rfl) (Ev.nameP (i := 9) rfl rfl rfl rfl) (Ev.sub (subNL subR) (Ev.nameP (i := 2) rfl rfl rfl rfl)) (fun _ _ => rfl) (fun _ _ => rfl) (fun _ _ => rfl))))))) ?_ ?_) (fun v_o_32 => ?_)
        ·
          refine Ex.append (i := 4) (r := (rN fr rI)) rfl (visOf rfl) rfl (Ev.call4 (hd := rfl) (ρ := fun fr => (rN fr rI)) (mf := m_mixed) (ra := fun fr => (rL M.K rI)) (rb := fun fr => rI) (rc := fun fr => (rL M.K rI)) (rd := fun fr => rI) h_mixed (Nat.le_of_ble_eq_true rfl) rfl (Ev.sub (subNL subR) (Ev.nameP (i := 5) rfl rfl rfl rfl)) (Ev.nameP (i := 7) rfl rfl rfl rfl) (Ev.sub (subNL subR) (Ev.nameP (i := 8) rfl rfl rfl rfl)) (Ev.nameP (i := 10) rfl rfl rfl rfl) (fun _ _ => rfl) (fun _ _ => rfl) (fun _ _ => rfl) (fun _ _ => rfl)) (fun _ _ => rfl) (fun u38 => ?_)
          exact Ex.nil rfl (.cons .rf (.cons .rf (.cons .rf (.cons .rf (.cons .rf (.cons .rf (.cons .rf (.cons .rf (.cons .rf (.cons .rf (.cons .rf .nil)))))))))))
        ·
          exact Ex.nil rfl (.cons .rf (.cons .rf (.cons .rf (.cons .rf (.cons .rf (.cons .rf (.cons .rf (.cons .rf (.cons .rf (.cons .rf (.cons .rf .nil)))))))))))
        show Ex _ _ _ _ _
        exact Ex.nilLp rfl (.cons .rf (.cons .rf (.cons .rf (.cons .rf (.cons .rf (.cons .rf (.cons .rf (.cons .rf (.cons .no (.cons .no (.cons .no .nil)))))))))))
      show Ex _ _ _ _ _
      exact Ex.nil rfl (.cons .rf (.cons .rf (.cons .rf (.cons .rf (.cons .rf (.cons .rf (.cons .rf (.cons .rf (.cons .no (.cons .no (.cons .no .nil)))))))))))
    ·
      exact Ex.nil rfl (.cons .rf (.cons .rf (.cons .rf (.cons .rf (.cons .rf (.cons .rf (.cons .rf (.cons .rf (.cons .no (.cons .no (.cons .no .nil)))))))))))
    show Ex _ _ _ _ _
    exact Ex.nilLp rfl (.cons .rf (.cons .rf (.cons .rf (.cons .rf (.cons .rf (.cons .no (.cons .no (.cons .no (.cons .no (.cons .no (.cons .no .nil)))))))))))
  show Ex _ _ _ _ _
  refine Ex.freeze (i := 4) rfl ?_
  show Ex _ [.val ((rL M.K rI) t.1), .val ((rL M.K (rN fr rI)) t.2.1), .val ((rN fr rI) v_masks_3), .val ((rN fr rI) v_worths_7), .val ((rN fr (rN fr rI)) v_s_18), .no, .no, .no, .no, .no, .no] _ _ _
  exact Ex.ret (ρ := (rN fr (rN fr rI))) (fun u40 => u40) (fun _ => rfl) (Ev.nameP (i := 4) rfl rfl rfl rfl)

def m_lone_b1 (v_s_6 : ((List (List Int)))) (v_x_7 : (List Int)) : W ((List (List Int))) :=
  (((pure v_x_7) >>= fun u8 => (pure v_s_6) >>= fun u9 => m_narrowed (u8, u9, ())) >>= fun v_found_10 => (pure (v_found_10)))
def m_lone_j2 (v_s_6 : ((List (List Int)))) : W (List (List Int)) :=
  (((pure v_s_6) >>= fun u11 => pure (u11.mergeSort leR)) >>= fun u13 => pure u13)
def m_lone (t : (List (List Int)) × Int × Unit) : W (List (List Int)) :=
  ((((pure t.2.1) >>= fun u1 => rangeW 0 u1) >>= fun xs => W.noX (compM (fun v_x_2 => pure true) (fun v_x_2 => ((pure v_x_2) >>= fun u3 => (pure t.2.1) >>= fun u4 => m_unit (u3, u4, ()))) xs)) >>= fun v_found_5 => (((pure t.1) >>= fun xs => W.foldM (fun (v_s_6 : (List (List Int))) (v_x_7 : (List Int)) => (m_lone_b1 v_s_6 v_x_7)) (v_found_5) xs) >>= fun v_s_6 => (m_lone_j2 v_s_6)))
theorem w_lone {M : Mc} (b_range : M.mg "range" = none) (b_sorted : M.mg "sorted" = none) (h_unit : FnV M "unit" 1 2 (fun (fr : Addr → Prop) (t : Int × Int × Unit) => [rI t.1, rI t.2.1]) (fun fr => (rN fr rI)) m_unit) (h_narrowed : FnV M "narrowed" 4 2 (fun (fr : Addr → Prop) (t : (List Int) × (List (List Int)) × Unit) => [(rL M.K rI) t.1, (rL M.K (rN fr rI)) t.2.1]) (fun fr => (rN fr (rN fr rI))) m_narrowed) (F : FunM M "lone" (top 11) ["rows", "many"]) : FnV M "lone" 5 2 (fun (fr : Addr → Prop) (t : (List (List Int)) × Int × Unit) => [(rL M.K (rL M.K rI)) t.1, rI t.2.1]) (fun fr => (rN fr (rN fr rI))) m_lone := by
  refine FnV.ofBody (N := ["rows", "many", "found", "row", "at"]) F (⟨rfl, rfl, rfl, by decide +kernel, rfl, by decide +kernel, by decide +kernel⟩ : FnScope ["rows", "many", "found", "row", "at"] ["rows", "many"] _) rfl (fun _ _ => rfl) (fun fr t => ?_)
  refine lcSet (i := 2) (S := fun a => .val (rN fr (rN fr rI) a)) (hS := lcVal) rfl rfl (LcOk.one (i := 4) rfl rfl (stoOf rfl) (fun _ h => nomatch h)) (EvI.range1 (bt_range rfl b_range) (Ev.nameP (i := 1) rfl rfl rfl rfl) (fun _ _ => rfl)) (fun v_x_2 => EvTs.nil) (fun v_x_2 => (Ev.call2 (hd := rfl) (ρ := fun fr => (rN fr rI)) (mf := m_unit) (ra := fun fr => rI) (rb := fun fr => rI) h_unit (Nat.le_of_ble_eq_true rfl) rfl (Ev.nameP (i := 4) rfl rfl rfl rfl) (Ev.nameP (i := 1) rfl rfl rfl rfl) (fun _ _ => rfl) (fun _ _ => rfl))) (fun v_found_5 => ?_) (swLocal rfl rfl rfl rfl) (by intro _ _; rfl)
  refine Ex.seq (J1 := fun v_s_6 : (List (List Int)) => .nx [.val ((rL M.K (rL M.K rI)) t.1), .val (rI t.2.1), .val ((rN fr (rN fr rI)) v_s_6), .no, .no]) (Ex1.for (fun v_s_6 : (List (List Int)) => [.val ((rL M.K (rL M.K rI)) t.1), .val (rI t.2.1), .val ((rN fr (rN fr rI)) v_s_6), .no, .no]) (s0 := (v_found_5)) (EvI.list (Ev.nameP (i := 0) rfl rfl rfl rfl)) (EvG.name (i := 3) (r := (rL M.K rI)) rfl (stoOf rfl)) (.cons .rf (.cons .rf (.cons .rf (.cons .no (.cons .no .nil))))) (fun v_s_6 v_x_7 => ?_)) (fun v_s_6 => ?_)
  ·
    refine Ex.set (i := 2) (ρ := (rN fr (rN fr rI))) rfl (stoOf rfl) (Ev.call2 (hd := rfl) (ρ := fun fr => (rN fr (rN fr rI))) (mf := m_narrowed) (ra := fun fr => (rL M.K rI)) (rb := fun fr => (rL M.K (rN fr rI))) h_narrowed (Nat.le_of_ble_eq_true rfl) rfl (Ev.nameP (i := 3) rfl rfl rfl rfl) (Ev.sub (subNL subR) (Ev.nameP (i := 2) rfl rfl rfl rfl)) (fun _ _ => rfl) (fun _ _ => rfl)) (fun v_found_10 => ?_)
    exact Ex.nilLp rfl (.cons .rf (.cons .rf (.cons .rf (.cons .no (.cons .no .nil)))))
  show Ex _ _ _ _ _
  exact Ex.ret (ρ := (rN fr (rN fr rI))) (fun u13 => u13) (fun _ => rfl) (EvO.list (EvO.sortR (subNL subR) (bt_sorted rfl b_sorted) (Ev.sub (subNL subR) (Ev.nameP (i := 2) rfl rfl rfl rfl)) (fun _ _ => rfl)))

def m__law_cell (t : (List Int) × Int × Unit) : W Int :=
  ((pure (decide (t.2.1 < (t.1.length : Int)))) >>= fun u1 => if u1 = true then ((idx t.1 t.2.1) >>= fun u2 => pure u2) else ((pure (0 : Int)) >>= fun u3 => pure u3))
theorem w__law_cell {M : Mc} (b_len : M.mg "len" = none) (F : FunM M "_law_cell" (top 13) ["_law_script", "_law_k"]) : FnV M "_law_cell" 1 2 (fun (fr : Addr → Prop) (t : (List Int) × Int × Unit) => [(rL M.K rI) t.1, rI t.2.1]) (fun fr => rI) m__law_cell := by
  refine FnV.ofBody (N := ["_law_script", "_law_k"]) F (⟨rfl, rfl, rfl, by decide +kernel, rfl, by decide +kernel, by decide +kernel⟩ : FnScope ["_law_script", "_law_k"] ["_law_script", "_law_k"] _) rfl (fun _ _ => rfl) (fun fr t => ?_)
  refine Ex.ifx (EvT.cmp (Ev.ltP (Ev.nameP (i := 1) rfl rfl rfl rfl) (Ev.lenLP (bt_len rfl b_len) (Ev.nameP (i := 0) rfl rfl rfl rfl) (fun _ _ => rfl)))) ?_ ?_
  ·
    exact Ex.ret (ρ := rI) (fun u2 => u2) (fun _ => rfl) (Ev.ixLP (Ev.nameP (i := 0) rfl rfl rfl rfl) (Ev.nameP (i := 1) rfl rfl rfl rfl))
  exact Ex.ret (ρ := rI) (fun u3 => u3) (fun _ => rfl) Ev.int

def m__law_bag (t : Int × Unit) : W (List Int) :=
  (((((divI t.1 (2 : Int)) >>= fun u1 => (pure (1000000000000000000000000000000000000000000000000000000000000 : Int)) >>= fun u2 => modI u1 u2) >>= fun u3 => (modI t.1 (2 : Int)) >>= fun u4 => mulI u3 u4) >>= fun u7 => (((divI t.1 (2 : Int)) >>= fun u5 => (pure (2147483647 : Int)) >>= fun u6 => modI u5 u6) >>= fun u8 => (pure [u7, u8]))) >>= fun u9 => pure u9)
theorem w__law_bag {M : Mc} (F : FunM M "_law_bag" (top 14) ["_law_cell_here"]) : FnV M "_law_bag" 1 1 (fun (fr : Addr → Prop) (t : Int × Unit) => [rI t.1]) (fun fr => (rN fr rI)) m__law_bag := by
  refine FnV.ofBody (N := ["_law_cell_here"]) F (⟨rfl, rfl, rfl, by decide +kernel, rfl, by decide +kernel, by decide +kernel⟩ : FnScope ["_law_cell_here"] ["_law_cell_here"] _) rfl (fun _ _ => rfl) (fun fr t => ?_)
  exact Ex.ret (ρ := (rN fr rI)) (fun u9 => u9) (fun _ => rfl) (EvO.list (EvO.list2 (Ev.mul (Ev.mod (Ev.divP (Ev.nameP (i := 0) rfl rfl rfl rfl) Ev.int) (Ev.powW (1000000000000000000000000000000000000000000000000000000000000 : Int) Ev.int Ev.int ⟨by decide, by decide, by decide⟩ (by decide))) (Ev.modP (Ev.nameP (i := 0) rfl rfl rfl rfl) Ev.int)) (Ev.mod (Ev.divP (Ev.nameP (i := 0) rfl rfl rfl rfl) Ev.int) Ev.int) (fun _ _ => rfl) (fun _ _ => rfl)))

def m__law_draw (t : Int × Unit) : W Int :=
  (W.any BagL >>= fun bl => (((idx bl (0 : Int)) >>= fun u1 => (pure (0 : Int)) >>= fun u2 => pure (decide (u2 < u1))) >>= fun u3 => if u3 = true then (((idx bl (0 : Int)) >>= fun u4 => (pure t.1) >>= fun u5 => modI u4 u5) >>= fun v_found_6 => (((idx bl (0 : Int)) >>= fun u7 => (pure t.1) >>= fun u8 => divI u7 u8) >>= fun u9 => (pure (0 : Int)) >>= fun u10 => setI bl u10 u9 >>= fun v_bag_here_11 => ((pure v_found_6) >>= fun u12 => W.req (BagL v_bag_here_11) (pure u12)))) else (((((idx bl (1 : Int)) >>= fun u13 => (pure (48271 : Int)) >>= fun u14 => mulI u13 u14) >>= fun u15 => (pure (4099 : Int)) >>= fun u16 => pure (u15 + u16)) >>= fun u17 => (pure (2147483647 : Int)) >>= fun u18 => modI u17 u18) >>= fun u19 => (pure (1 : Int)) >>= fun u20 => setI bl u20 u19 >>= fun v_bag_here_21 => ((((((idx v_bag_here_21 (1 : Int)) >>= fun u26 => (((idx v_bag_here_21 (1 : Int)) >>= fun u22 => (pure (65536 : Int)) >>= fun u23 => divI u22 u23) >>= fun u24 => (pure (7 : Int)) >>= fun u25 => pure (u24 + u25)) >>= fun u27 => mulI u26 u27) >>= fun u28 => (pure (2147483629 : Int)) >>= fun u29 => modI u28 u29) >>= fun u30 => (pure (32 : Int)) >>= fun u31 => divI u30 u31) >>= fun u32 => (pure t.1) >>= fun u33 => modI u32 u33) >>= fun u34 => W.req (BagL v_bag_here_21) (pure u34)))))
theorem w__law_draw {M : Mc} (F : FunM M "_law_draw" (top 15) ["_law_bag_here", "_law_many"]) : BagV M "_law_draw" 1 1 (fun (t : Int × Unit) => [rI t.1]) (fun fr => rI) m__law_draw := by
  refine BagV.ofBody Fd.c (N := ["_law_bag_here", "_law_many", "_law_found"]) F (⟨rfl, rfl, rfl, by decide +kernel, rfl, by decide +kernel, by decide +kernel⟩ : FnScope ["_law_bag_here", "_law_many", "_law_found"] ["_law_bag_here", "_law_many"] _) rfl (fun _ => rfl) (fun ba => [.own (oBag (· = ba)), .no, .no]) (fun _ => rfl) (fun fr ba t hba => ?_)
  refine Ex.openBag (i := 0) rfl (fun bl => ?_)
  refine Ex.ifx (EvT.borrow (.cons .li (.cons .rf (.cons .rf .nil))) rfl (EvT.cmp (Ev.gt (Ev.ixLP (Ev.sub (subNL subR) (Ev.nameP (i := 0) rfl rfl rfl rfl)) Ev.int) Ev.int))) ?_ ?_
  ·
    refine Ex.set (i := 2) (ρ := rI) rfl (stoOf rfl) (Ev.borrow (.cons .li (.cons .rf (.cons .rf .nil))) rfl (Ev.mod (Ev.ixLP (Ev.sub (subNL subR) (Ev.nameP (i := 0) rfl rfl rfl rfl)) Ev.int) (Ev.nameP (i := 1) rfl rfl rfl rfl))) (fun v_found_6 => ?_)
    refine Ex.setIxN (i := 0) (r := rI) rfl rfl rfl (Ev.borrow (.cons .li (.cons .rf (.cons .rf .nil))) rfl (Ev.div (Ev.ixLP (Ev.sub (subNL subR) (Ev.nameP (i := 0) rfl rfl rfl rfl)) Ev.int) (Ev.nameP (i := 1) rfl rfl rfl rfl))) Ev.int (fun v_bag_here_11 => ?_) (hpg := fun X h => pg_sub h pe_W set_list (fun _ => rfl))
    exact Ex.retB (i := 0) (l := v_bag_here_11) (ρ := rI) (fun u12 => u12) rfl (fun _ => rfl) (.cons .rf (.cons .no (.cons .no .nil))) (Ev.nameP (i := 2) rfl rfl rfl rfl)
  refine Ex.setIxN (i := 0) (r := rI) rfl rfl rfl (Ev.borrow (.cons .li (.cons .rf (.cons .rf .nil))) rfl (Ev.mod (Ev.add (Ev.mul (Ev.ixLP (Ev.sub (subNL subR) (Ev.nameP (i := 0) rfl rfl rfl rfl)) Ev.int) Ev.int) Ev.int) Ev.int)) Ev.int (fun v_bag_here_21 => ?_) (hpg := fun X h => pg_sub h pe_W set_list (fun _ => rfl))
  exact Ex.retB (i := 0) (l := v_bag_here_21) (ρ := rI) (fun u34 => u34) rfl (fun _ => rfl) (.cons .rf (.cons .no (.cons .no .nil))) (Ev.borrow (.cons .li (.cons .rf (.cons .rf .nil))) rfl (Ev.mod (Ev.div (Ev.mod (Ev.mul (Ev.ixLP (Ev.sub (subNL subR) (Ev.nameP (i := 0) rfl rfl rfl rfl)) Ev.int) (Ev.add (Ev.div (Ev.ixLP (Ev.sub (subNL subR) (Ev.nameP (i := 0) rfl rfl rfl rfl)) Ev.int) Ev.int) Ev.int)) Ev.int) Ev.int) (Ev.nameP (i := 1) rfl rfl rfl rfl)))

def m__law_number (t : Int × Unit) : W Int :=
  (((pure (6 : Int)) >>= fun u1 => W.noX (m__law_draw (u1, ()))) >>= fun v_way_2 => ((pure (decide (v_way_2 = (4 : Int)))) >>= fun u3 => if u3 = true then ((pure (0 : Int)) >>= fun u4 => pure u4) else ((pure (decide (v_way_2 = (5 : Int)))) >>= fun u5 => if u5 = true then (((((((pure (1000 : Int)) >>= fun u6 => W.noX (m__law_draw (u6, ()))) >>= fun u7 => (pure (1000000 : Int)) >>= fun u8 => mulI u7 u8) >>= fun u10 => ((pure (1000000 : Int)) >>= fun u9 => W.noX (m__law_draw (u9, ()))) >>= fun u11 => pure (u10 + u11)) >>= fun u12 => (pure t.1) >>= fun u13 => modI u12 u13) >>= fun u15 => ((pure (9 : Int)) >>= fun u14 => W.noX (m__law_draw (u14, ()))) >>= fun u16 => pure (u15 - u16)) >>= fun u17 => pure u17) else ((((pure (7 : Int)) >>= fun u18 => W.noX (m__law_draw (u18, ()))) >>= fun u19 => (pure (3 : Int)) >>= fun u20 => pure (u19 - u20)) >>= fun u21 => pure u21))))
theorem w__law_number {M : Mc} (h__law_draw : BagV M "_law_draw" 1 1 (fun (t : Int × Unit) => [rI t.1]) (fun fr => rI) m__law_draw) (F : FunM M "_law_number" (top 16) ["_law_bag_here", "_law_wide"]) : BagV M "_law_number" 2 1 (fun (t : Int × Unit) => [rI t.1]) (fun fr => rI) m__law_number := by
  refine BagV.ofBody Fd.c (N := ["_law_bag_here", "_law_wide", "_law_way"]) F (⟨rfl, rfl, rfl, by decide +kernel, rfl, by decide +kernel, by decide +kernel⟩ : FnScope ["_law_bag_here", "_law_wide", "_law_way"] ["_law_bag_here", "_law_wide"] _) rfl (fun _ => rfl) (fun ba => [.own (oBag (· = ba)), .no, .no]) (fun _ => rfl) (fun fr ba t hba => ?_)
  refine Ex.set (i := 2) (ρ := rI) rfl (stoOf rfl) (Ev.callG1 (i := 0) (ρ := fun fr => rI) (mf := m__law_draw) (ra := rI) h__law_draw (Nat.le_of_ble_eq_true rfl) rfl rfl rfl rfl Ev.int (fun _ _ => rfl) rfl) (fun v_way_2 => ?_)
  refine Ex.ifx (EvT.cmp (Ev.eqIP (Ev.nameP (i := 2) rfl rfl rfl rfl) Ev.int)) ?_ ?_
  ·
    exact Ex.retG (ρ := rI) (fun u4 => u4) (fun _ => rfl) (.cons .rf (.cons .no (.cons .no .nil))) Ev.int
  refine Ex.ifx (EvT.cmp (Ev.eqIP (Ev.nameP (i := 2) rfl rfl rfl rfl) Ev.int)) ?_ ?_
  ·
    exact Ex.retG (ρ := rI) (fun u17 => u17) (fun _ => rfl) (.cons .rf (.cons .no (.cons .no .nil))) (Ev.sub' (Ev.mod (Ev.add (Ev.mul (Ev.callG1 (i := 0) (ρ := fun fr => rI) (mf := m__law_draw) (ra := rI) h__law_draw (Nat.le_of_ble_eq_true rfl) rfl rfl rfl rfl Ev.int (fun _ _ => rfl) rfl) (Ev.powW (1000000 : Int) Ev.int Ev.int ⟨by decide, by decide, by decide⟩ (by decide))) (Ev.callG1 (i := 0) (ρ := fun fr => rI) (mf := m__law_draw) (ra := rI) h__law_draw (Nat.le_of_ble_eq_true rfl) rfl rfl rfl rfl (Ev.powW (1000000 : Int) Ev.int Ev.int ⟨by decide, by decide, by decide⟩ (by decide)) (fun _ _ => rfl) rfl)) (Ev.nameP (i := 1) rfl rfl rfl rfl)) (Ev.callG1 (i := 0) (ρ := fun fr => rI) (mf := m__law_draw) (ra := rI) h__law_draw (Nat.le_of_ble_eq_true rfl) rfl rfl rfl rfl Ev.int (fun _ _ => rfl) rfl))
  exact Ex.retG (ρ := rI) (fun u21 => u21) (fun _ => rfl) (.cons .rf (.cons .no (.cons .no .nil))) (Ev.sub' (Ev.callG1 (i := 0) (ρ := fun fr => rI) (mf := m__law_draw) (ra := rI) h__law_draw (Nat.le_of_ble_eq_true rfl) rfl rfl rfl rfl Ev.int (fun _ _ => rfl) rfl) Ev.int)

def m__law_free (t : Int × Int × Int × Unit) : W (List Int) :=
  ((((pure t.1) >>= fun u1 => m__law_bag (u1, ())) >>= fun u2 => W.req (BagL u2) (pure ())) >>= fun _ : Unit => ((((pure t.2.1) >>= fun u3 => rangeW 0 u3) >>= fun xs => W.noX (compM (fun v_x_4 => pure true) (fun v_x_4 => ((pure t.2.2.1) >>= fun u5 => W.noX (m__law_number (u5, ())))) xs)) >>= fun u6 => pure u6))
theorem w__law_free {M : Mc} (b_range : M.mg "range" = none) (h__law_bag : FnV M "_law_bag" 1 1 (fun (fr : Addr → Prop) (t : Int × Unit) => [rI t.1]) (fun fr => (rN fr rI)) m__law_bag) (h__law_number : BagV M "_law_number" 2 1 (fun (t : Int × Unit) => [rI t.1]) (fun fr => rI) m__law_number) (F : FunM M "_law_free" (top 17) ["_law_cell_here", "_law_many", "_law_wide"]) : FnV M "_law_free" 3 3 (fun (fr : Addr → Prop) (t : Int × Int × Int × Unit) => [rI t.1, rI t.2.1, rI t.2.2.1]) (fun fr => (rN fr rI)) m__law_free := by
  refine FnV.ofBody (N := ["_law_cell_here", "_law_many", "_law_wide", "_law_bag_here", "_law_k"]) F (⟨rfl, rfl, rfl, by decide +kernel, rfl, by decide +kernel, by decide +kernel⟩ : FnScope ["_law_cell_here", "_law_many", "_law_wide", "_law_bag_here", "_law_k"] ["_law_cell_here", "_law_many", "_law_wide"] _) rfl (fun _ _ => rfl) (fun fr t => ?_)
  refine Ex.setO (i := 3) (O := fun _ : Unit => oBag fr) rfl (stoOf rfl) (EvO.bag (EvO.call1 (hd := rfl) (r := rI) (mf := m__law_bag) (ra := rI) h__law_bag (Nat.le_of_ble_eq_true rfl) rfl (Ev.nameP (i := 0) rfl rfl rfl rfl) (fun _ _ => rfl))) (fun _ => ?_)
  exact Ex.ret (ρ := (rN fr rI)) (fun u6 => u6) (fun _ => rfl) (EvO.list (EvO.comp (LcOk.one (i := 4) rfl rfl (stoOf rfl) (fun _ h => nomatch h)) (EvI.range1 (bt_range rfl b_range) (Ev.nameP (i := 1) rfl rfl rfl rfl) (fun _ _ => rfl)) (fun v_x_4 => EvTs.nil) (fun v_x_4 => (Ev.callG1 (i := 3) (ρ := fun fr => rI) (mf := m__law_number) (ra := rI) h__law_number (Nat.le_of_ble_eq_true rfl) rfl rfl rfl rfl (Ev.nameP (i := 2) rfl rfl rfl rfl) (fun _ _ => rfl) rfl))))

def m__law_fit_j1 (v_s_3 : ((List Int))) (v_o_14 : (Int)) : W ((List Int)) :=
  ((pure v_o_14) >>= fun u18 => W.req (v_s_3.length ≤ 1000000) ((pure ((v_s_3 ++ [u18])))))
def m__law_fit_j2 (v_s_3 : ((List Int))) (v_way_6 : Int) (v_o_8 : (Int)) : W ((List Int)) :=
  (((pure (decide (v_way_6 = (7 : Int)))) >>= fun u15 => if u15 = true then (((pure (1000000 : Int)) >>= fun u16 => W.noX (m__law_draw (u16, ()))) >>= fun v_number_here_17 => (pure (v_number_here_17))) else (pure (v_o_8))) >>= fun v_o_14 : Int => (m__law_fit_j1 v_s_3 v_o_14))
def m__law_fit_b3 (v_s_3 : ((List Int))) : W ((List Int)) :=
  (((pure (8 : Int)) >>= fun u5 => W.noX (m__law_draw (u5, ()))) >>= fun v_way_6 => ((pure (0 : Int)) >>= fun v_number_here_7 => (((pure (decide (v_way_6 < (4 : Int)))) >>= fun u9 => if u9 = true then ((((pure (4 : Int)) >>= fun u10 => W.noX (m__law_draw (u10, ()))) >>= fun u11 => (pure (1 : Int)) >>= fun u12 => pure (u11 + u12)) >>= fun v_number_here_13 => (pure (v_number_here_13))) else (pure (v_number_here_7))) >>= fun v_o_8 : Int => (m__law_fit_j2 v_s_3 v_way_6 v_o_8))))
def m__law_fit (t : Int × Unit) : W (List Int) :=
  ((pure [(1 : Int)]) >>= fun v_made_1 => ((((pure (t.1 - (1 : Int))) >>= fun u2 => rangeW 0 u2) >>= fun xs => W.foldM (fun (v_s_3 : (List Int)) (v_x_4 : Int) => (m__law_fit_b3 v_s_3)) (v_made_1) xs) >>= fun v_s_3 => ((pure v_s_3) >>= fun u20 => pure u20)))
theorem w__law_fit {M : Mc} (b_range : M.mg "range" = none) (h__law_draw : BagV M "_law_draw" 1 1 (fun (t : Int × Unit) => [rI t.1]) (fun fr => rI) m__law_draw) (F : FunM M "_law_fit" (top 18) ["_law_bag_here", "_law_many"]) : BagV M "_law_fit" 2 1 (fun (t : Int × Unit) => [rI t.1]) (fun fr => (rN fr rI)) m__law_fit := by
  refine BagV.ofBody (Fd.N Fd.c) (N := ["_law_bag_here", "_law_many", "_law_made", "_law_k", "_law_way", "_law_number_here"]) F (⟨rfl, rfl, rfl, by decide +kernel, rfl, by decide +kernel, by decide +kernel⟩ : FnScope ["_law_bag_here", "_law_many", "_law_made", "_law_k", "_law_way", "_law_number_here"] ["_law_bag_here", "_law_many"] _) rfl (fun _ => rfl) (fun ba => [.own (oBag (· = ba)), .no, .no, .no, .no, .no]) (fun _ => rfl) (fun fr ba t hba => ?_)
  refine Ex.setO (i := 2) (O := oL fr rI) rfl (stoOf rfl) (EvO.written (r := rI) (xs := [(1 : Int)]) (EvA.wCons (r := rI) Ev.int EvA.nil (fun _ _ => rfl)) (Nat.le_of_ble_eq_true rfl)) (fun v_made_1 => ?_)
  refine Ex.seq (J1 := fun v_s_3 : (List Int) => .nx [.own (oBag (· = ba)), .val (rI t.1), .own (oL fr rI v_s_3), .no, .no, .no]) (Ex1.for (fun v_s_3 : (List Int) => [.own (oBag (· = ba)), .val (rI t.1), .own (oL fr rI v_s_3), .no, .no, .no]) (s0 := (v_made_1)) (EvI.range1 (bt_range rfl b_range) (Ev.subP (Ev.nameP (i := 1) rfl rfl rfl rfl) Ev.int) (fun _ _ => rfl)) (EvG.name (i := 3) (r := rI) rfl (stoOf rfl)) (.cons .rf (.cons .rf (.cons .rf (.cons .no (.cons .no (.cons .no .nil)))))) (fun v_s_3 v_x_4 => ?_)) (fun v_s_3 => ?_)
  ·
    refine Ex.set (i := 4) (ρ := rI) rfl (stoOf rfl) (Ev.callG1 (i := 0) (ρ := fun fr => rI) (mf := m__law_draw) (ra := rI) h__law_draw (Nat.le_of_ble_eq_true rfl) rfl rfl rfl rfl Ev.int (fun _ _ => rfl) rfl) (fun v_way_6 => ?_)
    refine Ex.set (i := 5) (ρ := rI) rfl (stoOf rfl) Ev.int (fun v_number_here_7 => ?_)
    refine Ex.seq (J1 := fun v_o_8 : Int => .nx [.own (oBag (· = ba)), .val (rI t.1), .own (oL fr rI v_s_3), .val (rI v_x_4), .val (rI v_way_6), .val (rI v_o_8)]) (Ex1.ite (EvT.cmp (Ev.ltP (Ev.nameP (i := 4) rfl rfl rfl rfl) Ev.int)) ?_ ?_) (fun v_o_8 => ?_)
    ·
      refine Ex.set (i := 5) (ρ := rI) rfl (stoOf rfl) (Ev.add (Ev.callG1 (i := 0) (ρ := fun fr => rI) (mf := m__law_draw) (ra := rI) h__law_draw (Nat.le_of_ble_eq_true rfl) rfl rfl rfl rfl Ev.int (fun _ _ => rfl) rfl) Ev.int) (fun v_number_here_13 => ?_)
      exact Ex.nil rfl (.cons .rf (.cons .rf (.cons .rf (.cons .rf (.cons .rf (.cons .rf .nil))))))
    ·
      exact Ex.nil rfl (.cons .rf (.cons .rf (.cons .rf (.cons .rf (.cons .rf (.cons .rf .nil))))))
    show Ex _ _ _ _ _
    refine Ex.seq (J1 := fun v_o_14 : Int => .nx [.own (oBag (· = ba)), .val (rI t.1), .own (oL fr rI v_s_3), .val (rI v_x_4), .val (rI v_way_6), .val (rI v_o_14)]) (Ex1.ite (EvT.cmp (Ev.eqIP (Ev.nameP (i := 4) rfl rfl rfl rfl) Ev.int)) ?_ ?_) (fun v_o_14 => ?_)
    ·
      refine Ex.set (i := 5) (ρ := rI) rfl (stoOf rfl) (Ev.callG1 (i := 0) (ρ := fun fr => rI) (mf := m__law_draw) (ra := rI) h__law_draw (Nat.le_of_ble_eq_true rfl) rfl rfl rfl rfl (Ev.powW (1000000 : Int) Ev.int Ev.int ⟨by decide, by decide, by decide⟩ (by decide)) (fun _ _ => rfl) rfl) (fun v_number_here_17 => ?_)
      exact Ex.nil rfl (.cons .rf (.cons .rf (.cons .rf (.cons .rf (.cons .rf (.cons .rf .nil))))))
    ·
      exact Ex.nil rfl (.cons .rf (.cons .rf (.cons .rf (.cons .rf (.cons .rf (.cons .rf .nil))))))
    show Ex _ _ _ _ _
    refine Ex.append (i := 2) (r := rI) rfl (visOf rfl) rfl (Ev.nameP (i := 5) rfl rfl rfl rfl) (fun _ _ => rfl) (fun u18 => ?_)
    exact Ex.nilLp rfl (.cons .rf (.cons .rf (.cons .rf (.cons .no (.cons .no (.cons .no .nil))))))
  show Ex _ _ _ _ _
  refine Ex.freeze (i := 2) rfl ?_
  exact Ex.retG (ρ := (rN fr rI)) (fun u20 => u20) (fun _ => rfl) (.cons .rf (.cons .no (.cons .no (.cons .no (.cons .no (.cons .no .nil)))))) (Ev.nameP (i := 2) rfl rfl rfl rfl)

def m__law_closed_j1 (t : (List Int) × (List Int) × Int × Int × Unit) (v_s_3 : ((List (List Int)))) (v_o_22 : ((List Int))) : W ((List (List Int))) :=
  ((((((pure (1 : Int)) >>= fun u27 => (pure (t.2.1.length : Int)) >>= fun u28 => rangeW u27 u28) >>= fun xs => W.noX (compM (fun v_x_29 => pure true) (fun v_x_29 => ((idx v_o_22 v_x_29) >>= fun u30 => (idx t.2.1 v_x_29) >>= fun u31 => mulI u30 u31)) xs)) >>= fun u32 => pure u32.sum) >>= fun u33 => pure (-u33)) >>= fun u34 => (pure (0 : Int)) >>= fun u35 => setI v_o_22 u35 u34 >>= fun v_one_36 => ((pure v_one_36) >>= fun u37 => W.req (v_s_3.length ≤ 1000000) ((pure ((v_s_3 ++ [u37]))))))
def m__law_closed_b2 (t : (List Int) × (List Int) × Int × Int × Unit) (v_s_3 : ((List (List Int)))) (v_x_4 : Int) : W ((List (List Int))) :=
  ((((((pure t.1) >>= fun u5 => (modI v_x_4 (t.1.length : Int)) >>= fun u6 => idx u5 u6) >>= fun u9 => ((pure (500009 : Int)) >>= fun u7 => (divI v_x_4 (t.1.length : Int)) >>= fun u8 => mulI u7 u8) >>= fun u10 => pure (u9 + u10)) >>= fun u11 => m__law_bag (u11, ())) >>= fun u12 => W.req (BagL u12) (pure ())) >>= fun _ : Unit => (((pure t.2.1) >>= fun xs => W.noX (compM (fun v_x_15 => pure true) (fun v_x_15 => ((pure t.2.2.2.1) >>= fun u16 => W.noX (m__law_number (u16, ())))) xs)) >>= fun v_one_17 => ((((((pure (7 : Int)) >>= fun u18 => W.noX (m__law_draw (u18, ()))) >>= fun u19 => (pure (6 : Int)) >>= fun u20 => pure (decide (u19 = u20))) >>= fun u21 => if u21 = true then (pure (decide ((0 : Int) < (v_s_3.length : Int)))) else pure false) >>= fun u23 => if u23 = true then (((idx v_s_3 (-(1 : Int))) >>= fun xs => W.noX (compM (fun v_x_25 => pure true) (fun v_x_25 => (mulI (3 : Int) v_x_25)) xs)) >>= fun v_one_26 => (pure (v_one_26))) else (pure (v_one_17))) >>= fun v_o_22 : (List Int) => (m__law_closed_j1 t v_s_3 v_o_22))))
def m__law_closed (t : (List Int) × (List Int) × Int × Int × Unit) : W (List (List Int)) :=
  ((pure []) >>= fun v_made_1 => ((((pure t.2.2.1) >>= fun u2 => rangeW 0 u2) >>= fun xs => W.foldM (fun (v_s_3 : (List (List Int))) (v_x_4 : Int) => (m__law_closed_b2 t v_s_3 v_x_4)) (v_made_1) xs) >>= fun v_s_3 => ((pure v_s_3) >>= fun u39 => pure u39)))
theorem w__law_closed {M : Mc} (b_range : M.mg "range" = none) (b_len : M.mg "len" = none) (b_sum : M.mg "sum" = none) (h__law_bag : FnV M "_law_bag" 1 1 (fun (fr : Addr → Prop) (t : Int × Unit) => [rI t.1]) (fun fr => (rN fr rI)) m__law_bag) (h__law_number : BagV M "_law_number" 2 1 (fun (t : Int × Unit) => [rI t.1]) (fun fr => rI) m__law_number) (h__law_draw : BagV M "_law_draw" 1 1 (fun (t : Int × Unit) => [rI t.1]) (fun fr => rI) m__law_draw) (F : FunM M "_law_closed" (top 19) ["_law_cells", "_law_fit_here", "_law_count", "_law_wide"]) : FnV M "_law_closed" 3 4 (fun (fr : Addr → Prop) (t : (List Int) × (List Int) × Int × Int × Unit) => [(rL M.K rI) t.1, (rL M.K rI) t.2.1, rI t.2.2.1, rI t.2.2.2.1]) (fun fr => (rN fr (rN fr rI))) m__law_closed := by
  refine FnV.ofBody (N := ["_law_cells", "_law_fit_here", "_law_count", "_law_wide", "_law_made", "_law_at", "_law_bag_here", "_law_one", "_law_k", "_law_number_here"]) F (⟨rfl, rfl, rfl, by decide +kernel, rfl, by decide +kernel, by decide +kernel⟩ : FnScope ["_law_cells", "_law_fit_here", "_law_count", "_law_wide", "_law_made", "_law_at", "_law_bag_here", "_law_one", "_law_k", "_law_number_here"] ["_law_cells", "_law_fit_here", "_law_count", "_law_wide"] _) rfl (fun _ _ => rfl) (fun fr t => ?_)
  refine Ex.setO (i := 4) (O := oL fr (rN fr rI)) rfl (stoOf rfl) EvO.nil (fun v_made_1 => ?_)
  refine Ex.seq (J1 := fun v_s_3 : (List (List Int)) => .nx [.val ((rL M.K rI) t.1), .val ((rL M.K rI) t.2.1), .val (rI t.2.2.1), .val (rI t.2.2.2.1), .own (oL fr (rN fr rI) v_s_3), .no, .no, .no, .no, .no]) (Ex1.for (fun v_s_3 : (List (List Int)) => [.val ((rL M.K rI) t.1), .val ((rL M.K rI) t.2.1), .val (rI t.2.2.1), .val (rI t.2.2.2.1), .own (oL fr (rN fr rI) v_s_3), .no, .no, .no, .no, .no]) (s0 := (v_made_1)) (EvI.range1 (bt_range rfl b_range) (Ev.nameP (i := 2) rfl rfl rfl rfl) (fun _ _ => rfl)) (EvG.name (i := 5) (r := rI) rfl (stoOf rfl)) (.cons .rf (.cons .rf (.cons .rf (.cons .rf (.cons .rf (.cons .no (.cons .no (.cons .no (.cons .no (.cons .no .nil)))))))))) (fun v_s_3 v_x_4 => ?_)) (fun v_s_3 => ?_)
  ·
    refine Ex.setO (i := 6) (O := fun _ : Unit => oBag fr) rfl (stoOf rfl) (EvO.bag (EvO.call1 (hd := rfl) (r := rI) (mf := m__law_bag) (ra := rI) h__law_bag (Nat.le_of_ble_eq_true rfl) rfl (Ev.add (Ev.ixL (Ev.nameP (i := 0) rfl rfl rfl rfl) (Ev.modP (Ev.nameP (i := 5) rfl rfl rfl rfl) (Ev.lenLP (bt_len rfl b_len) (Ev.nameP (i := 0) rfl rfl rfl rfl) (fun _ _ => rfl)))) (Ev.mul Ev.int (Ev.divP (Ev.nameP (i := 5) rfl rfl rfl rfl) (Ev.lenLP (bt_len rfl b_len) (Ev.nameP (i := 0) rfl rfl rfl rfl) (fun _ _ => rfl))))) (fun _ _ => rfl))) (fun _ => ?_)
    refine Ex.setO (i := 7) (O := oL fr rI) rfl (stoOf rfl) (EvO.comp (LcOk.one (i := 8) rfl rfl (stoOf rfl) (fun _ h => nomatch h)) (EvI.list (Ev.nameP (i := 1) rfl rfl rfl rfl)) (fun v_x_15 => EvTs.nil) (fun v_x_15 => (Ev.callG1 (i := 6) (ρ := fun fr => rI) (mf := m__law_number) (ra := rI) h__law_number (Nat.le_of_ble_eq_true rfl) rfl rfl rfl rfl (Ev.nameP (i := 3) rfl rfl rfl rfl) (fun _ _ => rfl) rfl))) (fun v_one_17 => ?_) (swCell rfl)
    refine Ex.seq (J1 := fun v_o_22 : (List Int) => .nx [.val ((rL M.K rI) t.1), .val ((rL M.K rI) t.2.1), .val (rI t.2.2.1), .val (rI t.2.2.2.1), .own (oL fr (rN fr rI) v_s_3), .val (rI v_x_4), .own (oBag fr), .own (oL fr rI v_o_22), .no, .no]) (Ex1.ite (EvW.t (EvW.and (EvT.cmp (Ev.eqI (Ev.callG1 (i := 6) (ρ := fun fr => rI) (mf := m__law_draw) (ra := rI) h__law_draw (Nat.le_of_ble_eq_true rfl) rfl rfl rfl rfl Ev.int (fun _ _ => rfl) rfl) Ev.int)) (EvW.and1 (EvT.cmp (Ev.borrow (.cons .rf (.cons .rf (.cons .rf (.cons .rf (.cons .li (.cons .rf (.cons .no (.cons .no (.cons .rf (.cons .rf .nil)))))))))) rfl (Ev.gtP (Ev.lenLP (bt_len rfl b_len) (Ev.sub (subNL subR) (Ev.nameP (i := 4) rfl rfl rfl rfl)) (fun _ _ => rfl)) Ev.int)))))) ?_ ?_) (fun v_o_22 => ?_)
    ·
      refine Ex.setO (i := 7) (O := oL fr rI) rfl (stoOf rfl) (EvO.borrow (.cons .rf (.cons .rf (.cons .rf (.cons .rf (.cons .li (.cons .rf (.cons .no (.cons .no (.cons .rf (.cons .rf .nil)))))))))) rfl (EvO.comp (LcOk.one (i := 9) rfl rfl (stoOf rfl) (fun _ h => nomatch h)) (EvI.list (Ev.sub (subNL subR) (Ev.ixLP (Ev.sub (subNL subR) (Ev.nameP (i := 4) rfl rfl rfl rfl)) (Ev.negP Ev.int)))) (fun v_x_25 => EvTs.nil) (fun v_x_25 => (Ev.mulP Ev.int (Ev.nameP (i := 9) rfl rfl rfl rfl))))) (fun v_one_26 => ?_) (swCell rfl)
      exact Ex.nil rfl (.cons .rf (.cons .rf (.cons .rf (.cons .rf (.cons .rf (.cons .rf (.cons .rf (.cons .rf (.cons .no (.cons .no .nil))))))))))
    ·
      exact Ex.nil rfl (.cons .rf (.cons .rf (.cons .rf (.cons .rf (.cons .rf (.cons .rf (.cons .rf (.cons .rf (.cons .no (.cons .no .nil))))))))))
    show Ex _ _ _ _ _
    refine Ex.setIx (i := 7) (r := rI) rfl (visOf rfl) rfl (Ev.borrow (.cons .rf (.cons .rf (.cons .rf (.cons .rf (.cons .no (.cons .rf (.cons .no (.cons .li (.cons .rf (.cons .rf .nil)))))))))) rfl (Ev.neg (Ev.sum (bt_sum rfl b_sum) (Ev.sub (subNL subR) (EvO.list (EvO.comp (LcOk.one (i := 8) rfl rfl (stoOf rfl) (fun _ h => nomatch h)) (EvI.range2 (bt_range rfl b_range) Ev.int (Ev.lenLP (bt_len rfl b_len) (Ev.nameP (i := 1) rfl rfl rfl rfl) (fun _ _ => rfl)) (fun _ _ => rfl) (fun _ _ => rfl)) (fun v_x_29 => EvTs.nil) (fun v_x_29 => (Ev.mul (Ev.ixLP (Ev.sub (subNL subR) (Ev.nameP (i := 7) rfl rfl rfl rfl)) (Ev.nameP (i := 8) rfl rfl rfl rfl)) (Ev.ixLP (Ev.nameP (i := 1) rfl rfl rfl rfl) (Ev.nameP (i := 8) rfl rfl rfl rfl))))))) (fun _ _ => rfl)))) Ev.int (fun v_one_36 => ?_) (hpg := fun X h => pg_sub h pe_W set_list (fun _ => rfl))
    refine Ex.freeze (i := 7) rfl ?_
    show Ex _ [.val ((rL M.K rI) t.1), .val ((rL M.K rI) t.2.1), .val (rI t.2.2.1), .val (rI t.2.2.2.1), .own (oL fr (rN fr rI) v_s_3), .val (rI v_x_4), .own (oBag fr), .val ((rN fr rI) v_one_36), .no, .no] _ _ _
    refine Ex.append (i := 4) (r := (rN fr rI)) rfl (visOf rfl) rfl (Ev.nameP (i := 7) rfl rfl rfl rfl) (fun _ _ => rfl) (fun u37 => ?_)
    exact Ex.nilLp rfl (.cons .rf (.cons .rf (.cons .rf (.cons .rf (.cons .rf (.cons .no (.cons .no (.cons .no (.cons .no (.cons .no .nil))))))))))
  show Ex _ _ _ _ _
  refine Ex.freeze (i := 4) rfl ?_
  show Ex _ [.val ((rL M.K rI) t.1), .val ((rL M.K rI) t.2.1), .val (rI t.2.2.1), .val (rI t.2.2.2.1), .val ((rN fr (rN fr rI)) v_s_3), .no, .no, .no, .no, .no] _ _ _
  exact Ex.ret (ρ := (rN fr (rN fr rI))) (fun u39 => u39) (fun _ => rfl) (Ev.nameP (i := 4) rfl rfl rfl rfl)

def m__law_turned (t : (List (List Int)) × Int × Unit) : W (List (List Int)) :=
  (((pure t.1) >>= fun xs => W.noX (compM (fun v_x_1 => pure true) (fun v_x_1 => (((pure v_x_1) >>= fun u3 => ((pure t.2.1) >>= fun u2 => pure (some u2)) >>= fun u4 => (pure none) >>= fun u5 => pure (cut u3 u4 u5)) >>= fun u10 => ((pure v_x_1) >>= fun u7 => (pure none) >>= fun u8 => ((pure t.2.1) >>= fun u6 => pure (some u6)) >>= fun u9 => pure (cut u7 u8 u9)) >>= fun u11 => catL u10 u11)) xs)) >>= fun u12 => pure u12)
theorem w__law_turned {M : Mc} (F : FunM M "_law_turned" (top 20) ["_law_some", "_law_turn"]) : FnV M "_law_turned" 1 2 (fun (fr : Addr → Prop) (t : (List (List Int)) × Int × Unit) => [(rL M.K (rL M.K rI)) t.1, rI t.2.1]) (fun fr => (rN fr (rN fr rI))) m__law_turned := by
  refine FnV.ofBody (N := ["_law_some", "_law_turn", "_law_one"]) F (⟨rfl, rfl, rfl, by decide +kernel, rfl, by decide +kernel, by decide +kernel⟩ : FnScope ["_law_some", "_law_turn", "_law_one"] ["_law_some", "_law_turn"] _) rfl (fun _ _ => rfl) (fun fr t => ?_)
  exact Ex.ret (ρ := (rN fr (rN fr rI))) (fun u12 => u12) (fun _ => rfl) (EvO.list (EvO.comp (LcOk.one (i := 2) rfl rfl (stoOf rfl) (fun _ h => nomatch h)) (EvI.list (Ev.nameP (i := 0) rfl rfl rfl rfl)) (fun v_x_1 => EvTs.nil) (fun v_x_1 => (EvO.list (EvO.cat (EvO.list (EvO.slice (Ev.nameP (i := 2) rfl rfl rfl rfl) (EvP.some (Ev.nameP (i := 1) rfl rfl rfl rfl)) EvP.none)) (EvO.list (EvO.slice (Ev.nameP (i := 2) rfl rfl rfl rfl) EvP.none (EvP.some (Ev.nameP (i := 1) rfl rfl rfl rfl)))))))))

def m__law_measure_b1 (v_s_5 : (Int × Int)) : W (Int × Int) :=
  ((modI v_s_5.1 v_s_5.2) >>= fun v_rest_7 => ((pure v_s_5.2) >>= fun v_found_8 => ((pure v_rest_7) >>= fun v_other_9 => (pure (v_found_8, v_other_9)))))
def m__law_measure_b2 (v_s_2 : (Int)) (v_x_3 : Int) : W (Int) :=
  ((pure (absI v_x_3)) >>= fun v_other_4 => ((W.whileM (fun v_s_5 : Int × Int => (pure (decide ((0 : Int) < v_s_5.2)))) (fun v_s_5 : Int × Int => (m__law_measure_b1 v_s_5)) (v_s_2, v_other_4)) >>= fun v_s_5 => (pure (v_s_5.1))))
def m__law_measure (t : (List Int) × Unit) : W Int :=
  ((pure (0 : Int)) >>= fun v_found_1 => (((pure t.1) >>= fun xs => W.foldM (fun (v_s_2 : Int) (v_x_3 : Int) => (m__law_measure_b2 v_s_2 v_x_3)) (v_found_1) xs) >>= fun v_s_2 => ((pure v_s_2) >>= fun u10 => pure u10)))
theorem w__law_measure {M : Mc} (b_abs : M.mg "abs" = none) (F : FunM M "_law_measure" (top 21) ["_law_numbers"]) : FnV M "_law_measure" 1 1 (fun (fr : Addr → Prop) (t : (List Int) × Unit) => [(rL M.K rI) t.1]) (fun fr => rI) m__law_measure := by
  refine FnV.ofBody (N := ["_law_numbers", "_law_found", "_law_number_here", "_law_other", "_law_rest"]) F (⟨rfl, rfl, rfl, by decide +kernel, rfl, by decide +kernel, by decide +kernel⟩ : FnScope ["_law_numbers", "_law_found", "_law_number_here", "_law_other", "_law_rest"] ["_law_numbers"] _) rfl (fun _ _ => rfl) (fun fr t => ?_)
  refine Ex.set (i := 1) (ρ := rI) rfl (stoOf rfl) Ev.int (fun v_found_1 => ?_)
  refine Ex.seq (J1 := fun v_s_2 : Int => .nx [.val ((rL M.K rI) t.1), .val (rI v_s_2), .no, .no, .no]) (Ex1.for (fun v_s_2 : Int => [.val ((rL M.K rI) t.1), .val (rI v_s_2), .no, .no, .no]) (s0 := (v_found_1)) (EvI.list (Ev.nameP (i := 0) rfl rfl rfl rfl)) (EvG.name (i := 2) (r := rI) rfl (stoOf rfl)) (.cons .rf (.cons .rf (.cons .no (.cons .no (.cons .no .nil))))) (fun v_s_2 v_x_3 => ?_)) (fun v_s_2 => ?_)
  ·
    refine Ex.set (i := 3) (ρ := rI) rfl (stoOf rfl) (Ev.absP (bt_abs rfl b_abs) (Ev.nameP (i := 2) rfl rfl rfl rfl) (fun _ _ => rfl)) (fun v_other_4 => ?_)
    refine Ex.seq (J1 := fun v_s_5 : Int × Int => .nx [.val ((rL M.K rI) t.1), .val (rI v_s_5.1), .val (rI v_x_3), .val (rI v_s_5.2), .no]) (Ex1.while (fun v_s_5 : Int × Int => [.val ((rL M.K rI) t.1), .val (rI v_s_5.1), .val (rI v_x_3), .val (rI v_s_5.2), .no]) (s0 := (v_s_2, v_other_4)) (.cons .rf (.cons .rf (.cons .rf (.cons .rf (.cons .no .nil))))) (fun v_s_5 => (EvT.cmp (Ev.gtP (Ev.nameP (i := 3) rfl rfl rfl rfl) Ev.int))) (fun v_s_5 => ?_)) (fun v_s_5 => ?_)
    ·
      refine Ex.set (i := 4) (ρ := rI) rfl (stoOf rfl) (Ev.modP (Ev.nameP (i := 1) rfl rfl rfl rfl) (Ev.nameP (i := 3) rfl rfl rfl rfl)) (fun v_rest_7 => ?_)
      refine Ex.set (i := 1) (ρ := rI) rfl (stoOf rfl) (Ev.nameP (i := 3) rfl rfl rfl rfl) (fun v_found_8 => ?_)
      refine Ex.set (i := 3) (ρ := rI) rfl (stoOf rfl) (Ev.nameP (i := 4) rfl rfl rfl rfl) (fun v_other_9 => ?_)
      exact Ex.nilLp rfl (.cons .rf (.cons .rf (.cons .rf (.cons .rf (.cons .no .nil)))))
    show Ex _ _ _ _ _
    exact Ex.nilLp rfl (.cons .rf (.cons .rf (.cons .no (.cons .no (.cons .no .nil)))))
  show Ex _ _ _ _ _
  exact Ex.ret (ρ := rI) (fun u10 => u10) (fun _ => rfl) (Ev.nameP (i := 1) rfl rfl rfl rfl)

def m__law_less (t : (List Int) × (List Int) × Int × Unit) : W (List Int) :=
  ((((pure t.1) >>= fun u1 => (pure t.2.1) >>= fun u2 => pure (u1.zip u2)) >>= fun xs => W.noX (compM (fun v_x_3 => pure true) (fun v_x_3 => (((pure v_x_3.1) >>= fun u4 => (idx t.2.1 t.2.2.1) >>= fun u5 => mulI u4 u5) >>= fun u8 => ((pure v_x_3.2) >>= fun u6 => (idx t.1 t.2.2.1) >>= fun u7 => mulI u6 u7) >>= fun u9 => pure (u8 - u9))) xs)) >>= fun v_made_10 => (((pure (1 : Int)) >>= fun u12 => ((pure v_made_10) >>= fun u11 => m__law_measure (u11, ())) >>= fun u13 => pure (if u12 < u13 then u13 else u12)) >>= fun v_common_14 => (((pure v_made_10) >>= fun xs => W.noX (compM (fun v_x_15 => pure true) (fun v_x_15 => (divI v_x_15 v_common_14)) xs)) >>= fun u16 => pure u16)))
theorem w__law_less {M : Mc} (b_zip : M.mg "zip" = none) (b_max : M.mg "max" = none) (h__law_measure : FnV M "_law_measure" 1 1 (fun (fr : Addr → Prop) (t : (List Int) × Unit) => [(rL M.K rI) t.1]) (fun fr => rI) m__law_measure) (F : FunM M "_law_less" (top 22) ["_law_one", "_law_other", "_law_at"]) : FnV M "_law_less" 2 3 (fun (fr : Addr → Prop) (t : (List Int) × (List Int) × Int × Unit) => [(rL M.K rI) t.1, (rL M.K rI) t.2.1, rI t.2.2.1]) (fun fr => (rN fr rI)) m__law_less := by
  refine FnV.ofBody (N := ["_law_one", "_law_other", "_law_at", "_law_made", "_law_common", "_law_number_here", "_law_low"]) F (⟨rfl, rfl, rfl, by decide +kernel, rfl, by decide +kernel, by decide +kernel⟩ : FnScope ["_law_one", "_law_other", "_law_at", "_law_made", "_law_common", "_law_number_here", "_law_low"] ["_law_one", "_law_other", "_law_at"] _) rfl (fun _ _ => rfl) (fun fr t => ?_)
  refine lcSet (i := 3) (S := fun a => .val (rN fr rI a)) (hS := lcVal) rfl rfl (LcOk.two (i := 5) (j := 6) rfl rfl rfl (stoOf rfl) (stoOf rfl) (by decide) (fun _ h => nomatch h) (fun _ h => nomatch h)) (EvI.zip (bt_zip rfl b_zip) (Ev.nameP (i := 0) rfl rfl rfl rfl) (Ev.nameP (i := 1) rfl rfl rfl rfl) (fun _ _ => rfl) (fun _ _ => rfl)) (fun v_x_3 => EvTs.nil) (fun v_x_3 => (Ev.sub' (Ev.mul (Ev.nameP (i := 5) rfl rfl rfl rfl) (Ev.ixLP (Ev.nameP (i := 1) rfl rfl rfl rfl) (Ev.nameP (i := 2) rfl rfl rfl rfl))) (Ev.mul (Ev.nameP (i := 6) rfl rfl rfl rfl) (Ev.ixLP (Ev.nameP (i := 0) rfl rfl rfl rfl) (Ev.nameP (i := 2) rfl rfl rfl rfl))))) (fun v_made_10 => ?_) (swLocal rfl rfl rfl rfl) (by intro _ _; rfl)
  refine Ex.set (i := 4) (ρ := rI) rfl (stoOf rfl) (Ev.max2 (bt_max rfl b_max) Ev.int (Ev.call1 (hd := rfl) (ρ := fun fr => rI) (mf := m__law_measure) (ra := fun fr => (rL M.K rI)) h__law_measure (Nat.le_of_ble_eq_true rfl) rfl (Ev.sub (subNL subR) (Ev.nameP (i := 3) rfl rfl rfl rfl)) (fun _ _ => rfl)) (fun _ _ => rfl) (fun _ _ => rfl)) (fun v_common_14 => ?_)
  exact Ex.ret (ρ := (rN fr rI)) (fun u16 => u16) (fun _ => rfl) (EvO.list (EvO.comp (LcOk.one (i := 5) rfl rfl (stoOf rfl) (fun _ h => nomatch h)) (EvI.list (Ev.sub (subNL subR) (Ev.nameP (i := 3) rfl rfl rfl rfl))) (fun v_x_15 => EvTs.nil) (fun v_x_15 => (Ev.divP (Ev.nameP (i := 5) rfl rfl rfl rfl) (Ev.nameP (i := 4) rfl rfl rfl rfl)))))

def m__law_steps_b1 (v_s_2 : ((List (Int × (List Int))))) (v_s_7 : ((List Int))) (v_x_8 : Int) : W ((List Int)) :=
  ((((idx v_s_7 v_x_8) >>= fun u9 => (pure (0 : Int)) >>= fun u10 => pure (!decide (u9 = u10))) >>= fun u12 => if u12 = true then (((pure v_s_7) >>= fun u14 => ((pure v_x_8) >>= fun u13 => optG (getI v_s_2 u13)) >>= fun u15 => (pure v_x_8) >>= fun u16 => m__law_less (u14, u15, u16, ())) >>= fun v_here_17 => (pure (v_here_17))) else (pure (v_s_7))) >>= fun v_o_11 : (List Int) => (pure (v_o_11)))
def m__law_steps_b2 (v_s_7 : ((List Int))) (v_heads_22 : (List Int)) (v_s_25 : ((List (Int × (List Int))))) (v_x_26 : Int) : W ((List (Int × (List Int)))) :=
  ((((((pure v_x_26) >>= fun u27 => optG (getI v_s_25 u27)) >>= fun u28 => (idx v_heads_22 (0 : Int)) >>= fun u29 => idx u28 u29) >>= fun u30 => (pure (0 : Int)) >>= fun u31 => pure (!decide (u30 = u31))) >>= fun u33 => if u33 = true then ((((pure v_x_26) >>= fun u34 => optG (getI v_s_25 u34)) >>= fun u35 => (pure v_s_7) >>= fun u36 => (idx v_heads_22 (0 : Int)) >>= fun u37 => m__law_less (u35, u36, u37, ())) >>= fun u38 => (pure v_x_26) >>= fun u39 => W.req (v_s_25.length ≤ 1000000) (pure (putI v_s_25 u39 u38)) >>= fun v_held_40 => (pure (v_held_40))) else (pure (v_s_25))) >>= fun v_o_32 : (List (Int × (List Int))) => (pure (v_o_32)))
def m__law_steps_j3 (v_s_7 : ((List Int))) (v_heads_22 : (List Int)) (v_s_25 : ((List (Int × (List Int))))) : W ((List (Int × (List Int)))) :=
  ((pure v_s_7) >>= fun u41 => (idx v_heads_22 (0 : Int)) >>= fun u42 => W.req (v_s_25.length ≤ 1000000) (pure (putI v_s_25 u42 u41)) >>= fun v_held_43 => (pure (v_held_43)))
def m__law_steps_j4 (t : (List (List Int)) × Int × Unit) (v_s_2 : ((List (Int × (List Int))))) (v_s_7 : ((List Int))) : W ((List (Int × (List Int)))) :=
  ((((pure t.2.1) >>= fun u18 => rangeW 0 u18) >>= fun xs => W.noX (compM (fun v_x_19 => ((idx v_s_7 v_x_19) >>= fun u20 => (pure (0 : Int)) >>= fun u21 => pure (!decide (u20 = u21)))) (fun v_x_19 => (pure v_x_19)) xs)) >>= fun v_heads_22 => (((pure (decide ((0 : Int) < (v_heads_22.length : Int)))) >>= fun u24 => if u24 = true then (((pure (v_s_2.map Prod.fst)) >>= fun xs => W.foldM (fun (v_s_25 : (List (Int × (List Int)))) (v_x_26 : Int) => (m__law_steps_b2 v_s_7 v_heads_22 v_s_25 v_x_26)) (v_s_2) xs) >>= fun v_s_25 => (m__law_steps_j3 v_s_7 v_heads_22 v_s_25)) else (pure (v_s_2))) >>= fun v_o_23 : (List (Int × (List Int))) => (pure (v_o_23))))
def m__law_steps_b5 (t : (List (List Int)) × Int × Unit) (v_s_2 : ((List (Int × (List Int))))) (v_x_3 : (List Int)) : W ((List (Int × (List Int)))) :=
  ((pure v_x_3) >>= fun v_here_4 => (((W.req (v_s_2.length ≤ 1000000) (pure (v_s_2.map Prod.fst)) : W _) >>= fun xs => W.foldM (fun (v_s_7 : (List Int)) (v_x_8 : Int) => (m__law_steps_b1 v_s_2 v_s_7 v_x_8)) (v_here_4) xs) >>= fun v_s_7 => (m__law_steps_j4 t v_s_2 v_s_7)))
def m__law_steps (t : (List (List Int)) × Int × Unit) : W (List (Int × (List Int))) :=
  ((pure ([] : (List (Int × (List Int))))) >>= fun v_held_1 => (((pure t.1) >>= fun xs => W.foldM (fun (v_s_2 : (List (Int × (List Int)))) (v_x_3 : (List Int)) => (m__law_steps_b5 t v_s_2 v_x_3)) (v_held_1) xs) >>= fun v_s_2 => ((pure v_s_2) >>= fun u44 => pure u44)))
theorem w__law_steps {M : Mc} (b_list : M.mg "list" = none) (b_range : M.mg "range" = none) (b_len : M.mg "len" = none) (h__law_less : FnV M "_law_less" 2 3 (fun (fr : Addr → Prop) (t : (List Int) × (List Int) × Int × Unit) => [(rL M.K rI) t.1, (rL M.K rI) t.2.1, rI t.2.2.1]) (fun fr => (rN fr rI)) m__law_less) (F : FunM M "_law_steps" (top 23) ["_law_some", "_law_size"]) : FnV M "_law_steps" 3 2 (fun (fr : Addr → Prop) (t : (List (List Int)) × Int × Unit) => [(rL M.K (rL M.K rI)) t.1, rI t.2.1]) (fun fr => (rDI fr (rL M.K rI))) m__law_steps := by
  refine FnV.ofBody (N := ["_law_some", "_law_size", "_law_held", "_law_one", "_law_here", "_law_at", "_law_heads"]) F (⟨rfl, rfl, rfl, by decide +kernel, rfl, by decide +kernel, by decide +kernel⟩ : FnScope ["_law_some", "_law_size", "_law_held", "_law_one", "_law_here", "_law_at", "_law_heads"] ["_law_some", "_law_size"] _) rfl (fun _ _ => rfl) (fun fr t => ?_)
  refine Ex.setO (i := 2) (O := oDI fr (rL M.K rI)) rfl (stoOf rfl) EvO.dictI0 (fun v_held_1 => ?_)
  refine Ex.seq (J1 := fun v_s_2 : (List (Int × (List Int))) => .nx [.val ((rL M.K (rL M.K rI)) t.1), .val (rI t.2.1), .own (oDI fr (rL M.K rI) v_s_2), .no, .no, .no, .no]) (Ex1.for (fun v_s_2 : (List (Int × (List Int))) => [.val ((rL M.K (rL M.K rI)) t.1), .val (rI t.2.1), .own (oDI fr (rL M.K rI) v_s_2), .no, .no, .no, .no]) (s0 := (v_held_1)) (EvI.list (Ev.nameP (i := 0) rfl rfl rfl rfl)) (EvG.name (i := 3) (r := (rL M.K rI)) rfl (stoOf rfl)) (.cons .rf (.cons .rf (.cons .rf (.cons .no (.cons .no (.cons .no (.cons .no .nil))))))) (fun v_s_2 v_x_3 => ?_)) (fun v_s_2 => ?_)
  ·
    refine Ex.set (i := 4) (ρ := (rN fr rI)) rfl (stoOf rfl) (EvO.list (EvO.listOf (bt_list rfl b_list) (Ev.nameP (i := 3) rfl rfl rfl rfl) (fun _ _ => rfl))) (fun v_here_4 => ?_)
    refine Ex.seq (J1 := fun v_s_7 : (List Int) => .nx [.val ((rL M.K (rL M.K rI)) t.1), .val (rI t.2.1), .own (oDI fr (rL M.K rI) v_s_2), .val ((rL M.K rI) v_x_3), .val ((rN fr rI) v_s_7), .no, .no]) (Ex1.forDI (i := 2) (r := (rL M.K rI)) (kvs := v_s_2) (s0 := (v_here_4)) (Γs := fun hz5 hu6 => fun v_s_7 : (List Int) => [.val ((rL M.K (rL M.K rI)) t.1), .val (rI t.2.1), .own (oDF fr (rL M.K rI) v_s_2 hz5 hu6), .val ((rL M.K rI) v_x_3), .val ((rN fr rI) v_s_7), .no, .no]) (Γe := fun v_s_7 : (List Int) => [.val ((rL M.K (rL M.K rI)) t.1), .val (rI t.2.1), .own (oDI fr (rL M.K rI) v_s_2), .val ((rL M.K rI) v_x_3), .val ((rN fr rI) v_s_7), .no, .no]) rfl rfl rfl (EvG.name (i := 5) (r := rI) rfl (stoOf rfl)) (fun _ _ _ => rfl) (fun hz5 hu6 => (.cons .rf (.cons .rf (.cons .rf (.cons .rf (.cons .rf (.cons .no (.cons .no .nil)))))))) (fun _ _ _ => rfl) (fun hz5 hu6 v_s_7 v_x_8 => ?_)) (fun v_s_7 => ?_)
    ·
      refine Ex.seq (J1 := fun v_o_11 : (List Int) => .nx [.val ((rL M.K (rL M.K rI)) t.1), .val (rI t.2.1), .own (oDF fr (rL M.K rI) v_s_2 hz5 hu6), .val ((rL M.K rI) v_x_3), .val ((rN fr rI) v_o_11), .val (rI v_x_8), .no]) (Ex1.ite (EvT.cmp (Ev.neI (Ev.ixLP (Ev.sub (subNL subR) (Ev.nameP (i := 4) rfl rfl rfl rfl)) (Ev.nameP (i := 5) rfl rfl rfl rfl)) Ev.int)) ?_ ?_) (fun v_o_11 => ?_)
      ·
        refine Ex.set (i := 4) (ρ := (rN fr rI)) rfl (stoOf rfl) (Ev.call3 (hd := rfl) (ρ := fun fr => (rN fr rI)) (mf := m__law_less) (ra := fun fr => (rL M.K rI)) (rb := fun fr => (rL M.K rI)) (rc := fun fr => rI) h__law_less (Nat.le_of_ble_eq_true rfl) rfl (Ev.sub (subNL subR) (Ev.nameP (i := 4) rfl rfl rfl rfl)) (Ev.dIxO (i := 2) (r := (rL M.K rI)) isDF rfl rfl rfl (Ev.nameP (i := 5) rfl rfl rfl rfl) (fun _ _ => rfl)) (Ev.nameP (i := 5) rfl rfl rfl rfl) (fun _ _ => rfl) (fun _ _ => rfl) (fun _ _ => rfl)) (fun v_here_17 => ?_)
        exact Ex.nil rfl (.cons .rf (.cons .rf (.cons .rf (.cons .rf (.cons .rf (.cons .rf (.cons .no .nil)))))))
      ·
        exact Ex.nil rfl (.cons .rf (.cons .rf (.cons .rf (.cons .rf (.cons .rf (.cons .rf (.cons .no .nil)))))))
      show Ex _ _ _ _ _
      exact Ex.nilLp rfl (.cons .rf (.cons .rf (.cons .rf (.cons .rf (.cons .rf (.cons .no (.cons .no .nil)))))))
    show Ex _ _ _ _ _
    refine lcSet (i := 6) (S := fun a => .val (rN fr rI a)) (hS := lcVal) rfl rfl (LcOk.one (i := 5) rfl rfl (stoOf rfl) (fun _ h => nomatch h)) (EvI.range1 (bt_range rfl b_range) (Ev.nameP (i := 1) rfl rfl rfl rfl) (fun _ _ => rfl)) (fun v_x_19 => (EvTs.one (EvT.cmp (Ev.neI (Ev.ixLP (Ev.sub (subNL subR) (Ev.nameP (i := 4) rfl rfl rfl rfl)) (Ev.nameP (i := 5) rfl rfl rfl rfl)) Ev.int)))) (fun v_x_19 => (Ev.nameP (i := 5) rfl rfl rfl rfl)) (fun v_heads_22 => ?_) (swLocal rfl rfl rfl rfl) (by intro _ _; rfl)
    refine Ex.seq (J1 := fun v_o_23 : (List (Int × (List Int))) => .nx [.val ((rL M.K (rL M.K rI)) t.1), .val (rI t.2.1), .own (oDI fr (rL M.K rI) v_o_23), .val ((rL M.K rI) v_x_3), .val ((rN fr rI) v_s_7), .no, .val ((rN fr rI) v_heads_22)]) (Ex1.ite (EvT.cmp (Ev.gtP (Ev.lenLP (bt_len rfl b_len) (Ev.sub (subNL subR) (Ev.nameP (i := 6) rfl rfl rfl rfl)) (fun _ _ => rfl)) Ev.int)) ?_ ?_) (fun v_o_23 => ?_)
    ·
      refine Ex.seq (J1 := fun v_s_25 : (List (Int × (List Int))) => .nx [.val ((rL M.K (rL M.K rI)) t.1), .val (rI t.2.1), .own (oDI fr (rL M.K rI) v_s_25), .val ((rL M.K rI) v_x_3), .val ((rN fr rI) v_s_7), .no, .val ((rN fr rI) v_heads_22)]) (Ex1.for (fun v_s_25 : (List (Int × (List Int))) => [.val ((rL M.K (rL M.K rI)) t.1), .val (rI t.2.1), .own (oDI fr (rL M.K rI) v_s_25), .val ((rL M.K rI) v_x_3), .val ((rN fr rI) v_s_7), .no, .val ((rN fr rI) v_heads_22)]) (s0 := (v_s_2)) (EvI.list (Ev.sub (subNL subR) (EvO.list (EvO.listDI (i := 2) (bt_list rfl b_list) isDI rfl rfl rfl)))) (EvG.name (i := 5) (r := rI) rfl (stoOf rfl)) (.cons .rf (.cons .rf (.cons .rf (.cons .rf (.cons .rf (.cons .no (.cons .rf .nil))))))) (fun v_s_25 v_x_26 => ?_)) (fun v_s_25 => ?_)
      ·
        refine Ex.seq (J1 := fun v_o_32 : (List (Int × (List Int))) => .nx [.val ((rL M.K (rL M.K rI)) t.1), .val (rI t.2.1), .own (oDI fr (rL M.K rI) v_o_32), .val ((rL M.K rI) v_x_3), .val ((rN fr rI) v_s_7), .val (rI v_x_26), .val ((rN fr rI) v_heads_22)]) (Ex1.ite (EvT.cmp (Ev.neI (Ev.ixL (Ev.dIxO (i := 2) (r := (rL M.K rI)) isDI rfl rfl rfl (Ev.nameP (i := 5) rfl rfl rfl rfl) (fun _ _ => rfl)) (Ev.ixLP (Ev.sub (subNL subR) (Ev.nameP (i := 6) rfl rfl rfl rfl)) Ev.int)) Ev.int)) ?_ ?_) (fun v_o_32 => ?_)
        ·
          refine Ex.setKeyI (i := 2) (r := (rL M.K rI)) rfl rfl rfl (Ev.sub (subNL subR) (Ev.call3 (hd := rfl) (ρ := fun fr => (rN fr rI)) (mf := m__law_less) (ra := fun fr => (rL M.K rI)) (rb := fun fr => (rL M.K rI)) (rc := fun fr => rI) h__law_less (Nat.le_of_ble_eq_true rfl) rfl (Ev.dIxO (i := 2) (r := (rL M.K rI)) isDI rfl rfl rfl (Ev.nameP (i := 5) rfl rfl rfl rfl) (fun _ _ => rfl)) (Ev.sub (subNL subR) (Ev.nameP (i := 4) rfl rfl rfl rfl)) (Ev.ixLP (Ev.sub (subNL subR) (Ev.nameP (i := 6) rfl rfl rfl rfl)) Ev.int) (fun _ _ => rfl) (fun _ _ => rfl) (fun _ _ => rfl))) (Ev.nameP (i := 5) rfl rfl rfl rfl) (fun v_held_40 => ?_) (by decide) (hpg := fun X hu h => pg_sub h pe_W (set_dict hu) (fun _ => rfl))
          exact Ex.nil rfl (.cons .rf (.cons .rf (.cons .rf (.cons .rf (.cons .rf (.cons .rf (.cons .rf .nil)))))))
        ·
          exact Ex.nil rfl (.cons .rf (.cons .rf (.cons .rf (.cons .rf (.cons .rf (.cons .rf (.cons .rf .nil)))))))
        show Ex _ _ _ _ _
        exact Ex.nilLp rfl (.cons .rf (.cons .rf (.cons .rf (.cons .rf (.cons .rf (.cons .no (.cons .rf .nil)))))))
      show Ex _ _ _ _ _
      refine Ex.setKeyI (i := 2) (r := (rL M.K rI)) rfl rfl rfl (Ev.sub (subNL subR) (Ev.nameP (i := 4) rfl rfl rfl rfl)) (Ev.ixLP (Ev.sub (subNL subR) (Ev.nameP (i := 6) rfl rfl rfl rfl)) Ev.int) (fun v_held_43 => ?_) (by decide) (hpg := fun X hu h => pg_sub h pe_W (set_dict hu) (fun _ => rfl))
      exact Ex.nil rfl (.cons .rf (.cons .rf (.cons .rf (.cons .rf (.cons .rf (.cons .no (.cons .rf .nil)))))))
    ·
      exact Ex.nil rfl (.cons .rf (.cons .rf (.cons .rf (.cons .rf (.cons .rf (.cons .no (.cons .rf .nil)))))))
    show Ex _ _ _ _ _
    exact Ex.nilLp rfl (.cons .rf (.cons .rf (.cons .rf (.cons .no (.cons .no (.cons .no (.cons .no .nil)))))))
  show Ex _ _ _ _ _
  refine Ex.freezeDI (i := 2) rfl ?_
  exact Ex.ret (ρ := (rDI fr (rL M.K rI))) (fun u44 => u44) (fun _ => rfl) (Ev.nameP (i := 2) rfl rfl rfl rfl)

def m__law_only_b1 (v_held_6 : (List (Int × (List Int)))) (v_s_18 : (Int)) (v_x_19 : Int) : W (Int) :=
  (((pure v_s_18) >>= fun u24 => ((((pure v_x_19) >>= fun u20 => optG (getI v_held_6 u20)) >>= fun u21 => (pure v_x_19) >>= fun u22 => idx u21 u22) >>= fun u23 => pure (absI u23)) >>= fun u25 => mulI u24 u25) >>= fun v_common_26 => (pure (v_common_26)))
def m__law_only_b2 (v_held_6 : (List (Int × (List Int)))) (v_free_here_14 : Int) (v_s_18 : (Int)) (v_s_37 : ((List Int))) (v_x_38 : Int) : W ((List Int)) :=
  ((((((pure v_x_38) >>= fun u39 => optG (getI v_held_6 u39)) >>= fun u40 => (pure v_free_here_14) >>= fun u41 => idx u40 u41) >>= fun u42 => pure (-u42)) >>= fun u48 => ((pure v_s_18) >>= fun u46 => (((pure v_x_38) >>= fun u43 => optG (getI v_held_6 u43)) >>= fun u44 => (pure v_x_38) >>= fun u45 => idx u44 u45) >>= fun u47 => divI u46 u47) >>= fun u49 => mulI u48 u49) >>= fun u50 => (pure v_x_38) >>= fun u51 => setI v_s_37 u51 u50 >>= fun v_made_52 => (pure (v_made_52)))
def m__law_only_j3 (v_s_37 : ((List Int))) : W (Option (List Int)) :=
  ((((pure v_s_37) >>= fun u53 => (minW u53)) >>= fun u54 => (pure (1 : Int)) >>= fun u55 => pure (decide (u54 < u55))) >>= fun u56 => if u56 = true then ((pure none) >>= fun u57 => pure u57) else (((pure v_s_37) >>= fun u58 => m__law_measure (u58, ())) >>= fun v_low_59 => ((((pure v_s_37) >>= fun xs => W.noX (compM (fun v_x_60 => pure true) (fun v_x_60 => (divI v_x_60 v_low_59)) xs)) >>= fun u61 => pure (some u61)) >>= fun u62 => pure u62)))
def m__law_only_j4 (v_size_1 : Int) (v_held_6 : (List (Int × (List Int)))) (v_free_here_14 : Int) (v_s_18 : (Int)) : W (Option (List Int)) :=
  ((((pure v_size_1) >>= fun u29 => rangeW 0 u29) >>= fun xs => W.noX (compM (fun v_x_30 => pure true) (fun v_x_30 => (pure (0 : Int))) xs)) >>= fun v_made_31 => ((pure v_s_18) >>= fun u32 => (pure v_free_here_14) >>= fun u33 => setI v_made_31 u33 u32 >>= fun v_made_34 => (((W.req (v_held_6.length ≤ 1000000) (pure (v_held_6.map Prod.fst)) : W _) >>= fun xs => W.foldM (fun (v_s_37 : (List Int)) (v_x_38 : Int) => (m__law_only_b2 v_held_6 v_free_here_14 v_s_18 v_s_37 v_x_38)) (v_made_34) xs) >>= fun v_s_37 => (m__law_only_j3 v_s_37))))
def m__law_only (t : (List (List Int)) × (List Int) × Unit) : W (Option (List Int)) :=
  ((pure (t.2.1.length : Int)) >>= fun v_size_1 => ((((pure t.1) >>= fun xs => W.noX (compM (fun v_x_2 => pure true) (fun v_x_2 => ((pure t.2.1) >>= fun xs => W.noX (compM (fun v_x_3 => pure true) (fun v_x_3 => (idx v_x_2 v_x_3)) xs))) xs)) >>= fun u4 => (pure v_size_1) >>= fun u5 => m__law_steps (u4, u5, ())) >>= fun v_held_6 => ((pure (!decide ((v_held_6.length : Int) = (v_size_1 - (1 : Int))))) >>= fun u7 => if u7 = true then ((pure none) >>= fun u8 => pure u8) else (((((pure v_size_1) >>= fun u9 => rangeW 0 u9) >>= fun xs => W.noX (compM (fun v_x_10 => ((pure v_x_10) >>= fun u11 => pure (!decide (u11 ∈ v_held_6.map Prod.fst)))) (fun v_x_10 => (pure v_x_10)) xs)) >>= fun u12 => (pure (0 : Int)) >>= fun u13 => idx u12 u13) >>= fun v_free_here_14 => ((pure (1 : Int)) >>= fun v_common_15 => (((W.req (v_held_6.length ≤ 1000000) (pure (v_held_6.map Prod.fst)) : W _) >>= fun xs => W.foldM (fun (v_s_18 : Int) (v_x_19 : Int) => (m__law_only_b1 v_held_6 v_s_18 v_x_19)) (v_common_15) xs) >>= fun v_s_18 => (m__law_only_j4 v_size_1 v_held_6 v_free_here_14 v_s_18)))))))
theorem w__law_only {M : Mc} (b_len : M.mg "len" = none) (b_range : M.mg "range" = none) (b_abs : M.mg "abs" = none) (b_min : M.mg "min" = none) (h__law_steps : FnV M "_law_steps" 3 2 (fun (fr : Addr → Prop) (t : (List (List Int)) × Int × Unit) => [(rL M.K (rL M.K rI)) t.1, rI t.2.1]) (fun fr => (rDI fr (rL M.K rI))) m__law_steps) (h__law_measure : FnV M "_law_measure" 1 1 (fun (fr : Addr → Prop) (t : (List Int) × Unit) => [(rL M.K rI) t.1]) (fun fr => rI) m__law_measure) (F : FunM M "_law_only" (top 24) ["_law_some", "_law_places"]) : FnV M "_law_only" 4 2 (fun (fr : Addr → Prop) (t : (List (List Int)) × (List Int) × Unit) => [(rL M.K (rL M.K rI)) t.1, (rL M.K rI) t.2.1]) (fun fr => (rO (rN fr rI))) m__law_only := by
  refine FnV.ofBody (N := ["_law_some", "_law_places", "_law_size", "_law_held", "_law_free_here", "_law_common", "_law_at", "_law_made", "_law_low", "_law_number_here", "_law_one"]) F (⟨rfl, rfl, rfl, by decide +kernel, rfl, by decide +kernel, by decide +kernel⟩ : FnScope ["_law_some", "_law_places", "_law_size", "_law_held", "_law_free_here", "_law_common", "_law_at", "_law_made", "_law_low", "_law_number_here", "_law_one"] ["_law_some", "_law_places"] _) rfl (fun _ _ => rfl) (fun fr t => ?_)
  refine Ex.set (i := 2) (ρ := rI) rfl (stoOf rfl) (Ev.lenLP (bt_len rfl b_len) (Ev.nameP (i := 1) rfl rfl rfl rfl) (fun _ _ => rfl)) (fun v_size_1 => ?_)
  refine Ex.setO (i := 3) (O := oDI fr (rL M.K rI)) rfl (stoOf rfl) (EvO.callD2 (hd := rfl) (mf := m__law_steps) (ra := (rL M.K (rL M.K rI))) (rb := rI) h__law_steps (Nat.le_of_ble_eq_true rfl) rfl (Ev.sub (subNL subR) (EvO.list (EvO.comp (LcOk.one (i := 10) rfl rfl (stoOf rfl) (fun _ h => nomatch h)) (EvI.list (Ev.nameP (i := 0) rfl rfl rfl rfl)) (fun v_x_2 => EvTs.nil) (fun v_x_2 => (Ev.sub (subNL subR) (EvO.list (EvO.comp (LcOk.one (i := 6) rfl rfl (stoOf rfl) (fun _ h => nomatch h)) (EvI.list (Ev.nameP (i := 1) rfl rfl rfl rfl)) (fun v_x_3 => EvTs.nil) (fun v_x_3 => (Ev.ixLP (Ev.nameP (i := 10) rfl rfl rfl rfl) (Ev.nameP (i := 6) rfl rfl rfl rfl)))))))))) (Ev.nameP (i := 2) rfl rfl rfl rfl) (fun _ _ => rfl) (fun _ _ => rfl)) (fun v_held_6 => ?_)
  refine Ex.ifx (EvT.cmp (Ev.neIP (Ev.lenDI (i := 3) (r := (rL M.K rI)) (bt_len rfl b_len) rfl rfl rfl) (Ev.subP (Ev.nameP (i := 2) rfl rfl rfl rfl) Ev.int))) ?_ ?_
  ·
    refine Ex.freezeDI (i := 3) rfl ?_
    show Ex _ [.val ((rL M.K (rL M.K rI)) t.1), .val ((rL M.K rI) t.2.1), .val (rI v_size_1), .val ((rDI fr (rL M.K rI)) v_held_6), .no, .no, .no, .no, .no, .no, .no] _ _ _
    exact Ex.ret (ρ := (rO (rN fr rI))) (fun u8 => u8) (fun _ => rfl) Ev.none
  refine Ex.set (i := 4) (ρ := rI) rfl (stoOf rfl) (Ev.ixL (Ev.sub (subNL subR) (EvO.list (EvO.comp (LcOk.one (i := 6) rfl rfl (stoOf rfl) (fun _ h => nomatch h)) (EvI.range1 (bt_range rfl b_range) (Ev.nameP (i := 2) rfl rfl rfl rfl) (fun _ _ => rfl)) (fun v_x_10 => (EvTs.one (EvT.cmp (Ev.notInDI (i := 3) isDI rfl rfl rfl (Ev.nameP (i := 6) rfl rfl rfl rfl))))) (fun v_x_10 => (Ev.nameP (i := 6) rfl rfl rfl rfl))))) Ev.int) (fun v_free_here_14 => ?_)
  refine Ex.set (i := 5) (ρ := rI) rfl (stoOf rfl) Ev.int (fun v_common_15 => ?_)
  refine Ex.seq (J1 := fun v_s_18 : Int => .nx [.val ((rL M.K (rL M.K rI)) t.1), .val ((rL M.K rI) t.2.1), .val (rI v_size_1), .own (oDI fr (rL M.K rI) v_held_6), .val (rI v_free_here_14), .val (rI v_s_18), .no, .no, .no, .no, .no]) (Ex1.forDI (i := 3) (r := (rL M.K rI)) (kvs := v_held_6) (s0 := (v_common_15)) (Γs := fun hz16 hu17 => fun v_s_18 : Int => [.val ((rL M.K (rL M.K rI)) t.1), .val ((rL M.K rI) t.2.1), .val (rI v_size_1), .own (oDF fr (rL M.K rI) v_held_6 hz16 hu17), .val (rI v_free_here_14), .val (rI v_s_18), .no, .no, .no, .no, .no]) (Γe := fun v_s_18 : Int => [.val ((rL M.K (rL M.K rI)) t.1), .val ((rL M.K rI) t.2.1), .val (rI v_size_1), .own (oDI fr (rL M.K rI) v_held_6), .val (rI v_free_here_14), .val (rI v_s_18), .no, .no, .no, .no, .no]) rfl rfl rfl (EvG.name (i := 6) (r := rI) rfl (stoOf rfl)) (fun _ _ _ => rfl) (fun hz16 hu17 => (.cons .rf (.cons .rf (.cons .rf (.cons .rf (.cons .rf (.cons .rf (.cons .no (.cons .no (.cons .no (.cons .no (.cons .no .nil)))))))))))) (fun _ _ _ => rfl) (fun hz16 hu17 v_s_18 v_x_19 => ?_)) (fun v_s_18 => ?_)
  ·
    refine Ex.set (i := 5) (ρ := rI) rfl (stoOf rfl) (Ev.mul (Ev.nameP (i := 5) rfl rfl rfl rfl) (Ev.abs (bt_abs rfl b_abs) (Ev.ixL (Ev.dIxO (i := 3) (r := (rL M.K rI)) isDF rfl rfl rfl (Ev.nameP (i := 6) rfl rfl rfl rfl) (fun _ _ => rfl)) (Ev.nameP (i := 6) rfl rfl rfl rfl)) (fun _ _ => rfl))) (fun v_common_26 => ?_)
    exact Ex.nilLp rfl (.cons .rf (.cons .rf (.cons .rf (.cons .rf (.cons .rf (.cons .rf (.cons .no (.cons .no (.cons .no (.cons .no (.cons .no .nil)))))))))))
  show Ex _ _ _ _ _
  refine lcSet (i := 7) (S := fun a => .own (oL fr rI a)) (hS := lcOwn) rfl rfl (LcOk.one (i := 6) rfl rfl (stoOf rfl) (fun _ h => nomatch h)) (EvI.range1 (bt_range rfl b_range) (Ev.nameP (i := 2) rfl rfl rfl rfl) (fun _ _ => rfl)) (fun v_x_30 => EvTs.nil) (fun v_x_30 => Ev.int) (fun v_made_31 => ?_) (swLocal rfl rfl rfl rfl) (by intro _ _; rfl)
  refine Ex.setIx (i := 7) (r := rI) rfl (visOf rfl) rfl (Ev.nameP (i := 5) rfl rfl rfl rfl) (Ev.nameP (i := 4) rfl rfl rfl rfl) (fun v_made_34 => ?_) (hpg := fun X h => pg_sub h pe_W set_list (fun _ => rfl))
  refine Ex.seq (J1 := fun v_s_37 : (List Int) => .nx [.val ((rL M.K (rL M.K rI)) t.1), .val ((rL M.K rI) t.2.1), .val (rI v_size_1), .own (oDI fr (rL M.K rI) v_held_6), .val (rI v_free_here_14), .val (rI v_s_18), .no, .own (oL fr rI v_s_37), .no, .no, .no]) (Ex1.forDI (i := 3) (r := (rL M.K rI)) (kvs := v_held_6) (s0 := (v_made_34)) (Γs := fun hz35 hu36 => fun v_s_37 : (List Int) => [.val ((rL M.K (rL M.K rI)) t.1), .val ((rL M.K rI) t.2.1), .val (rI v_size_1), .own (oDF fr (rL M.K rI) v_held_6 hz35 hu36), .val (rI v_free_here_14), .val (rI v_s_18), .no, .own (oL fr rI v_s_37), .no, .no, .no]) (Γe := fun v_s_37 : (List Int) => [.val ((rL M.K (rL M.K rI)) t.1), .val ((rL M.K rI) t.2.1), .val (rI v_size_1), .own (oDI fr (rL M.K rI) v_held_6), .val (rI v_free_here_14), .val (rI v_s_18), .no, .own (oL fr rI v_s_37), .no, .no, .no]) rfl rfl rfl (EvG.name (i := 6) (r := rI) rfl (stoOf rfl)) (fun _ _ _ => rfl) (fun hz35 hu36 => (.cons .rf (.cons .rf (.cons .rf (.cons .rf (.cons .rf (.cons .rf (.cons .no (.cons .rf (.cons .no (.cons .no (.cons .no .nil)))))))))))) (fun _ _ _ => rfl) (fun hz35 hu36 v_s_37 v_x_38 => ?_)) (fun v_s_37 => ?_)
  ·
    refine Ex.setIx (i := 7) (r := rI) rfl (visOf rfl) rfl (Ev.mul (Ev.neg (Ev.ixL (Ev.dIxO (i := 3) (r := (rL M.K rI)) isDF rfl rfl rfl (Ev.nameP (i := 6) rfl rfl rfl rfl) (fun _ _ => rfl)) (Ev.nameP (i := 4) rfl rfl rfl rfl))) (Ev.div (Ev.nameP (i := 5) rfl rfl rfl rfl) (Ev.ixL (Ev.dIxO (i := 3) (r := (rL M.K rI)) isDF rfl rfl rfl (Ev.nameP (i := 6) rfl rfl rfl rfl) (fun _ _ => rfl)) (Ev.nameP (i := 6) rfl rfl rfl rfl)))) (Ev.nameP (i := 6) rfl rfl rfl rfl) (fun v_made_52 => ?_) (hpg := fun X h => pg_sub h pe_W set_list (fun _ => rfl))
    exact Ex.nilLp rfl (.cons .rf (.cons .rf (.cons .rf (.cons .rf (.cons .rf (.cons .rf (.cons .no (.cons .rf (.cons .no (.cons .no (.cons .no .nil)))))))))))
  show Ex _ _ _ _ _
  refine Ex.freezeDI (i := 3) rfl ?_
  show Ex _ [.val ((rL M.K (rL M.K rI)) t.1), .val ((rL M.K rI) t.2.1), .val (rI v_size_1), .val ((rDI fr (rL M.K rI)) v_held_6), .val (rI v_free_here_14), .val (rI v_s_18), .no, .own (oL fr rI v_s_37), .no, .no, .no] _ _ _
  refine Ex.freeze (i := 7) rfl ?_
  show Ex _ [.val ((rL M.K (rL M.K rI)) t.1), .val ((rL M.K rI) t.2.1), .val (rI v_size_1), .val ((rDI fr (rL M.K rI)) v_held_6), .val (rI v_free_here_14), .val (rI v_s_18), .no, .val ((rN fr rI) v_s_37), .no, .no, .no] _ _ _
  refine Ex.ifx (EvT.cmp (Ev.lt (Ev.min (bt_min rfl b_min) (Ev.sub (subNL subR) (Ev.nameP (i := 7) rfl rfl rfl rfl)) (fun _ _ => rfl)) Ev.int)) ?_ ?_
  ·
    exact Ex.ret (ρ := (rO (rN fr rI))) (fun u57 => u57) (fun _ => rfl) Ev.none
  refine Ex.set (i := 8) (ρ := rI) rfl (stoOf rfl) (Ev.call1 (hd := rfl) (ρ := fun fr => rI) (mf := m__law_measure) (ra := fun fr => (rL M.K rI)) h__law_measure (Nat.le_of_ble_eq_true rfl) rfl (Ev.sub (subNL subR) (Ev.nameP (i := 7) rfl rfl rfl rfl)) (fun _ _ => rfl)) (fun v_low_59 => ?_)
  exact Ex.ret (ρ := (rO (rN fr rI))) (fun u62 => u62) (fun _ => rfl) (Ev.someV subR (EvO.list (EvO.comp (LcOk.one (i := 9) rfl rfl (stoOf rfl) (fun _ h => nomatch h)) (EvI.list (Ev.sub (subNL subR) (Ev.nameP (i := 7) rfl rfl rfl rfl))) (fun v_x_60 => EvTs.nil) (fun v_x_60 => (Ev.divP (Ev.nameP (i := 9) rfl rfl rfl rfl) (Ev.nameP (i := 8) rfl rfl rfl rfl))))))

def m__law_due_b1 (v_s_27 : ((List Int))) (v_x_28 : (Int × Int)) : W ((List Int)) :=
  ((pure v_x_28.2) >>= fun u29 => (pure v_x_28.1) >>= fun u30 => setI v_s_27 u30 u29 >>= fun v_here_31 => (pure (v_here_31)))
def m__law_due_j2 (v_s_4 : ((List (List Int)))) (v_s_27 : ((List Int))) : W ((List (List Int))) :=
  ((pure v_s_27) >>= fun u32 => W.req (v_s_4.length ≤ 1000000) ((pure ((v_s_4 ++ [u32])))))
def m__law_due_b3 (t : (List (List Int)) × Int × Unit) (v_s_4 : ((List (List Int)))) (v_x_5 : Int) : W ((List (List Int))) :=
  ((((pure t.2.1) >>= fun u6 => rangeW 0 u6) >>= fun xs => W.noX (compM (fun v_x_7 => (((shrI v_x_5 v_x_7) >>= fun u8 => (pure (1 : Int)) >>= fun u9 => pure (Builtin.bitAnd u8 u9)) >>= fun u10 => (pure (1 : Int)) >>= fun u11 => pure (decide (u10 = u11)))) (fun v_x_7 => (pure v_x_7)) xs)) >>= fun v_places_12 => (((pure t.1) >>= fun u13 => (pure v_places_12) >>= fun u14 => m__law_only (u13, u14, ())) >>= fun v_only_here_15 => ((((pure v_only_here_15) >>= fun u16 => pure u16.isSome) >>= fun u18 => if u18 = true then ((((pure t.2.1) >>= fun u21 => rangeW 0 u21) >>= fun xs => W.noX (compM (fun v_x_22 => pure true) (fun v_x_22 => (pure (0 : Int))) xs)) >>= fun v_here_23 => ((((pure v_places_12) >>= fun u25 => ((pure v_only_here_15) >>= fun u24 => optG u24) >>= fun u26 => pure (u25.zip u26)) >>= fun xs => W.foldM (fun (v_s_27 : (List Int)) (v_x_28 : (Int × Int)) => (m__law_due_b1 v_s_27 v_x_28)) (v_here_23) xs) >>= fun v_s_27 => (m__law_due_j2 v_s_4 v_s_27))) else (pure (v_s_4))) >>= fun v_o_17 : (List (List Int)) => (pure (v_o_17)))))
def m__law_due_j4 (v_s_4 : ((List (List Int)))) : W (List (List Int)) :=
  (((pure v_s_4) >>= fun u34 => pure (u34.mergeSort leR)) >>= fun u36 => pure u36)
def m__law_due (t : (List (List Int)) × Int × Unit) : W (List (List Int)) :=
  ((pure []) >>= fun v_made_1 => ((((pure (1 : Int)) >>= fun u2 => (shlI (1 : Int) t.2.1) >>= fun u3 => rangeW u2 u3) >>= fun xs => W.foldM (fun (v_s_4 : (List (List Int))) (v_x_5 : Int) => (m__law_due_b3 t v_s_4 v_x_5)) (v_made_1) xs) >>= fun v_s_4 => (m__law_due_j4 v_s_4)))
theorem w__law_due {M : Mc} (b_range : M.mg "range" = none) (b_zip : M.mg "zip" = none) (b_sorted : M.mg "sorted" = none) (h__law_only : FnV M "_law_only" 4 2 (fun (fr : Addr → Prop) (t : (List (List Int)) × (List Int) × Unit) => [(rL M.K (rL M.K rI)) t.1, (rL M.K rI) t.2.1]) (fun fr => (rO (rN fr rI))) m__law_only) (F : FunM M "_law_due" (top 25) ["_law_some", "_law_many"]) : FnV M "_law_due" 5 2 (fun (fr : Addr → Prop) (t : (List (List Int)) × Int × Unit) => [(rL M.K (rL M.K rI)) t.1, rI t.2.1]) (fun fr => (rN fr (rN fr rI))) m__law_due := by
  refine FnV.ofBody (N := ["_law_some", "_law_many", "_law_made", "_law_mask", "_law_places", "_law_only_here", "_law_here", "_law_at", "_law_number_here"]) F (⟨rfl, rfl, rfl, by decide +kernel, rfl, by decide +kernel, by decide +kernel⟩ : FnScope ["_law_some", "_law_many", "_law_made", "_law_mask", "_law_places", "_law_only_here", "_law_here", "_law_at", "_law_number_here"] ["_law_some", "_law_many"] _) rfl (fun _ _ => rfl) (fun fr t => ?_)
  refine Ex.setO (i := 2) (O := oL fr (rN fr rI)) rfl (stoOf rfl) EvO.nil (fun v_made_1 => ?_)
  refine Ex.seq (J1 := fun v_s_4 : (List (List Int)) => .nx [.val ((rL M.K (rL M.K rI)) t.1), .val (rI t.2.1), .own (oL fr (rN fr rI) v_s_4), .no, .no, .no, .no, .no, .no]) (Ex1.for (fun v_s_4 : (List (List Int)) => [.val ((rL M.K (rL M.K rI)) t.1), .val (rI t.2.1), .own (oL fr (rN fr rI) v_s_4), .no, .no, .no, .no, .no, .no]) (s0 := (v_made_1)) (EvI.range2 (bt_range rfl b_range) Ev.int (Ev.shlP Ev.int (Ev.nameP (i := 1) rfl rfl rfl rfl)) (fun _ _ => rfl) (fun _ _ => rfl)) (EvG.name (i := 3) (r := rI) rfl (stoOf rfl)) (.cons .rf (.cons .rf (.cons .rf (.cons .no (.cons .no (.cons .no (.cons .no (.cons .no (.cons .no .nil))))))))) (fun v_s_4 v_x_5 => ?_)) (fun v_s_4 => ?_)
  ·
    refine lcSet (i := 4) (S := fun a => .val (rN fr rI a)) (hS := lcVal) rfl rfl (LcOk.one (i := 7) rfl rfl (stoOf rfl) (fun _ h => nomatch h)) (EvI.range1 (bt_range rfl b_range) (Ev.nameP (i := 1) rfl rfl rfl rfl) (fun _ _ => rfl)) (fun v_x_7 => (EvTs.one (EvT.cmp (Ev.eqI (Ev.band (Ev.shrP (Ev.nameP (i := 3) rfl rfl rfl rfl) (Ev.nameP (i := 7) rfl rfl rfl rfl)) Ev.int) Ev.int)))) (fun v_x_7 => (Ev.nameP (i := 7) rfl rfl rfl rfl)) (fun v_places_12 => ?_) (swLocal rfl rfl rfl rfl) (by intro _ _; rfl)
    refine Ex.set (i := 5) (ρ := (rO (rN fr rI))) rfl (stoOf rfl) (Ev.call2 (hd := rfl) (ρ := fun fr => (rO (rN fr rI))) (mf := m__law_only) (ra := fun fr => (rL M.K (rL M.K rI))) (rb := fun fr => (rL M.K rI)) h__law_only (Nat.le_of_ble_eq_true rfl) rfl (Ev.nameP (i := 0) rfl rfl rfl rfl) (Ev.sub (subNL subR) (Ev.nameP (i := 4) rfl rfl rfl rfl)) (fun _ _ => rfl) (fun _ _ => rfl)) (fun v_only_here_15 => ?_)
    refine Ex.seq (J1 := fun v_o_17 : (List (List Int)) => .nx [.val ((rL M.K (rL M.K rI)) t.1), .val (rI t.2.1), .own (oL fr (rN fr rI) v_o_17), .val (rI v_x_5), .val ((rN fr rI) v_places_12), .val ((rO (rN fr rI)) v_only_here_15), .no, .no, .no]) (Ex1.ite (EvT.cmp (Ev.notNone nnN (Ev.nameP (i := 5) rfl rfl rfl rfl))) ?_ ?_) (fun v_o_17 => ?_)
    ·
      refine lcSet (i := 6) (S := fun a => .own (oL fr rI a)) (hS := lcOwn) rfl rfl (LcOk.one (i := 7) rfl rfl (stoOf rfl) (fun _ h => nomatch h)) (EvI.range1 (bt_range rfl b_range) (Ev.nameP (i := 1) rfl rfl rfl rfl) (fun _ _ => rfl)) (fun v_x_22 => EvTs.nil) (fun v_x_22 => Ev.int) (fun v_here_23 => ?_) (swLocal rfl rfl rfl rfl) (by intro _ _; rfl)
      refine Ex.seq (J1 := fun v_s_27 : (List Int) => .nx [.val ((rL M.K (rL M.K rI)) t.1), .val (rI t.2.1), .own (oL fr (rN fr rI) v_s_4), .val (rI v_x_5), .val ((rN fr rI) v_places_12), .val ((rO (rN fr rI)) v_only_here_15), .own (oL fr rI v_s_27), .no, .no]) (Ex1.for (fun v_s_27 : (List Int) => [.val ((rL M.K (rL M.K rI)) t.1), .val (rI t.2.1), .own (oL fr (rN fr rI) v_s_4), .val (rI v_x_5), .val ((rN fr rI) v_places_12), .val ((rO (rN fr rI)) v_only_here_15), .own (oL fr rI v_s_27), .no, .no]) (s0 := (v_here_23)) (EvI.zip (bt_zip rfl b_zip) (Ev.sub (subNL subR) (Ev.nameP (i := 4) rfl rfl rfl rfl)) (Ev.sub (subNL subR) (Ev.unO (Ev.nameP (i := 5) rfl rfl rfl rfl))) (fun _ _ => rfl) (fun _ _ => rfl)) (EvG.tup2 (i := 7) (j := 8) rfl rfl (stoOf rfl) (stoOf rfl)) (.cons .rf (.cons .rf (.cons .rf (.cons .rf (.cons .rf (.cons .rf (.cons .rf (.cons .no (.cons .no .nil))))))))) (fun v_s_27 v_x_28 => ?_)) (fun v_s_27 => ?_)
      ·
        refine Ex.setIx (i := 6) (r := rI) rfl (visOf rfl) rfl (Ev.nameP (i := 8) rfl rfl rfl rfl) (Ev.nameP (i := 7) rfl rfl rfl rfl) (fun v_here_31 => ?_) (hpg := fun X h => pg_sub h pe_W set_list (fun _ => rfl))
        exact Ex.nilLp rfl (.cons .rf (.cons .rf (.cons .rf (.cons .rf (.cons .rf (.cons .rf (.cons .rf (.cons .no (.cons .no .nil)))))))))
      show Ex _ _ _ _ _
      refine Ex.freeze (i := 6) rfl ?_
      refine Ex.append (i := 2) (r := (rN fr rI)) rfl (visOf rfl) rfl (Ev.nameP (i := 6) rfl rfl rfl rfl) (fun _ _ => rfl) (fun u32 => ?_)
      exact Ex.nil rfl (.cons .rf (.cons .rf (.cons .rf (.cons .rf (.cons .rf (.cons .rf (.cons .no (.cons .no (.cons .no .nil)))))))))
    ·
      exact Ex.nil rfl (.cons .rf (.cons .rf (.cons .rf (.cons .rf (.cons .rf (.cons .rf (.cons .no (.cons .no (.cons .no .nil)))))))))
    show Ex _ _ _ _ _
    exact Ex.nilLp rfl (.cons .rf (.cons .rf (.cons .rf (.cons .no (.cons .no (.cons .no (.cons .no (.cons .no (.cons .no .nil)))))))))
  show Ex _ _ _ _ _
  refine Ex.freeze (i := 2) rfl ?_
  exact Ex.ret (ρ := (rN fr (rN fr rI))) (fun u36 => u36) (fun _ => rfl) (EvO.list (EvO.sortR (subNL subR) (bt_sorted rfl b_sorted) (Ev.sub (subNL subR) (Ev.nameP (i := 2) rfl rfl rfl rfl)) (fun _ _ => rfl)))

def m_law_j1 (v_many_7 : Int) (v_o_43 : ((List (List Int)))) : W Bool :=
  (((pure v_o_43) >>= fun u56 => ((pure v_many_7) >>= fun u55 => W.noX (m__law_draw (u55, ()))) >>= fun u57 => m__law_turned (u56, u57, ())) >>= fun v_some_58 => (((((pure v_some_58) >>= fun xs => W.noX (compM (fun v_x_59 => pure true) (fun v_x_59 => (pure v_x_59)) xs)) >>= fun u60 => (pure v_many_7) >>= fun u61 => m_lone (u60, u61, ())) >>= fun u64 => ((pure v_some_58) >>= fun u62 => (pure v_many_7) >>= fun u63 => m__law_due (u62, u63, ())) >>= fun u65 => pure (decide (u64 = u65))) >>= fun u66 => pure u66))
def m_law (t : (List Int) × Unit) : W Bool :=
  (((pure (1 : Int)) >>= fun u5 => (((pure t.1) >>= fun u1 => (pure (0 : Int)) >>= fun u2 => m__law_cell (u1, u2, ())) >>= fun u3 => (pure (5 : Int)) >>= fun u4 => modI u3 u4) >>= fun u6 => pure (u5 + u6)) >>= fun v_many_7 => (((((pure t.1) >>= fun u8 => (pure (1 : Int)) >>= fun u9 => m__law_cell (u8, u9, ())) >>= fun u10 => (pure [u10])) >>= fun u16 => ((pure t.1) >>= fun u13 => ((pure (3 : Int)) >>= fun u11 => pure (some u11)) >>= fun u14 => ((pure (7 : Int)) >>= fun u12 => pure (some u12)) >>= fun u15 => pure (cut u13 u14 u15)) >>= fun u17 => catL u16 u17) >>= fun v_cells_18 => (((((pure t.1) >>= fun u19 => (pure (2 : Int)) >>= fun u20 => m__law_cell (u19, u20, ())) >>= fun u21 => m__law_bag (u21, ())) >>= fun u22 => W.req (BagL u22) (pure ())) >>= fun _ : Unit => (((pure v_cells_18) >>= fun u35 => ((pure v_many_7) >>= fun u23 => W.noX (m__law_fit (u23, ()))) >>= fun u36 => (((pure t.1) >>= fun u26 => ((pure (3 : Int)) >>= fun u24 => pure (some u24)) >>= fun u27 => ((pure (7 : Int)) >>= fun u25 => pure (some u25)) >>= fun u28 => pure (cut u26 u27 u28)) >>= fun u29 => pure (u29.length : Int)) >>= fun u37 => ((pure [(4 : Int), (1000000000 : Int)]) >>= fun u33 => ((pure (if (decide (v_many_7 < (5 : Int))) = true then (1 : Int) else 0)) >>= fun u31 => ((pure (2 : Int)) >>= fun u30 => W.noX (m__law_draw (u30, ()))) >>= fun u32 => mulI u31 u32) >>= fun u34 => idx u33 u34) >>= fun u38 => m__law_closed (u35, u36, u37, u38, ())) >>= fun v_some_39 => (((((pure (3 : Int)) >>= fun u40 => W.noX (m__law_draw (u40, ()))) >>= fun u41 => (pure (2 : Int)) >>= fun u42 => pure (decide (u41 = u42))) >>= fun u44 => if u44 = true then ((((pure t.1) >>= fun u47 => ((pure (3 : Int)) >>= fun u45 => pure (some u45)) >>= fun u48 => ((pure (7 : Int)) >>= fun u46 => pure (some u46)) >>= fun u49 => pure (cut u47 u48 u49)) >>= fun xs => W.noX (compM (fun v_x_50 => pure true) (fun v_x_50 => ((pure v_x_50) >>= fun u51 => (pure v_many_7) >>= fun u52 => (pure (4 : Int)) >>= fun u53 => m__law_free (u51, u52, u53, ()))) xs)) >>= fun v_some_54 => (pure (v_some_54))) else (pure (v_some_39))) >>= fun v_o_43 : (List (List Int)) => (m_law_j1 v_many_7 v_o_43))))))
theorem w_law {M : Mc} (b_len : M.mg "len" = none) (b_int : M.mg "int" = none) (b_list : M.mg "list" = none) (h__law_cell : FnV M "_law_cell" 1 2 (fun (fr : Addr → Prop) (t : (List Int) × Int × Unit) => [(rL M.K rI) t.1, rI t.2.1]) (fun fr => rI) m__law_cell) (h__law_bag : FnV M "_law_bag" 1 1 (fun (fr : Addr → Prop) (t : Int × Unit) => [rI t.1]) (fun fr => (rN fr rI)) m__law_bag) (h__law_closed : FnV M "_law_closed" 3 4 (fun (fr : Addr → Prop) (t : (List Int) × (List Int) × Int × Int × Unit) => [(rL M.K rI) t.1, (rL M.K rI) t.2.1, rI t.2.2.1, rI t.2.2.2.1]) (fun fr => (rN fr (rN fr rI))) m__law_closed) (h__law_fit : BagV M "_law_fit" 2 1 (fun (t : Int × Unit) => [rI t.1]) (fun fr => (rN fr rI)) m__law_fit) (h__law_draw : BagV M "_law_draw" 1 1 (fun (t : Int × Unit) => [rI t.1]) (fun fr => rI) m__law_draw) (h__law_free : FnV M "_law_free" 3 3 (fun (fr : Addr → Prop) (t : Int × Int × Int × Unit) => [rI t.1, rI t.2.1, rI t.2.2.1]) (fun fr => (rN fr rI)) m__law_free) (h__law_turned : FnV M "_law_turned" 1 2 (fun (fr : Addr → Prop) (t : (List (List Int)) × Int × Unit) => [(rL M.K (rL M.K rI)) t.1, rI t.2.1]) (fun fr => (rN fr (rN fr rI))) m__law_turned) (h_lone : FnV M "lone" 5 2 (fun (fr : Addr → Prop) (t : (List (List Int)) × Int × Unit) => [(rL M.K (rL M.K rI)) t.1, rI t.2.1]) (fun fr => (rN fr (rN fr rI))) m_lone) (h__law_due : FnV M "_law_due" 5 2 (fun (fr : Addr → Prop) (t : (List (List Int)) × Int × Unit) => [(rL M.K (rL M.K rI)) t.1, rI t.2.1]) (fun fr => (rN fr (rN fr rI))) m__law_due) {f : Addr} {fd : FuncData} (F : Fun M.K "law" "law" (top 26) f fd) : FnOk M.P M.w M.K M.mg M.base (L2.CX M.P M.w) 6 f fd ["_law_script"] (spV M (fun (_ : Addr → Prop) (t : (List Int) × Unit) => [rL M.K rI t.1]) (fun _ => rB) m_law) := by
  refine okBody (N := ["_law_script", "_law_many", "_law_cells", "_law_bag_here", "_law_some", "_law_cell_here", "_law_one"]) F (⟨rfl, rfl, rfl, by decide +kernel, rfl, by decide +kernel, by decide +kernel⟩ : FnScope ["_law_script", "_law_many", "_law_cells", "_law_bag_here", "_law_some", "_law_cell_here", "_law_one"] ["_law_script"] _) rfl (fun _ _ => rfl) (fun fr t => ?_)
  refine Ex.set (i := 1) (ρ := rI) rfl (stoOf rfl) (Ev.add Ev.int (Ev.mod (Ev.call2 (hd := rfl) (ρ := fun fr => rI) (mf := m__law_cell) (ra := fun fr => (rL M.K rI)) (rb := fun fr => rI) h__law_cell (Nat.le_of_ble_eq_true rfl) rfl (Ev.nameP (i := 0) rfl rfl rfl rfl) Ev.int (fun _ _ => rfl) (fun _ _ => rfl)) Ev.int)) (fun v_many_7 => ?_)
  refine Ex.set (i := 2) (ρ := (rN fr rI)) rfl (stoOf rfl) (EvO.list (EvO.cat (EvO.list (EvO.list1 (Ev.call2 (hd := rfl) (ρ := fun fr => rI) (mf := m__law_cell) (ra := fun fr => (rL M.K rI)) (rb := fun fr => rI) h__law_cell (Nat.le_of_ble_eq_true rfl) rfl (Ev.nameP (i := 0) rfl rfl rfl rfl) Ev.int (fun _ _ => rfl) (fun _ _ => rfl)) (fun _ _ => rfl))) (EvO.list (EvO.slice (Ev.nameP (i := 0) rfl rfl rfl rfl) (EvP.some Ev.int) (EvP.some Ev.int))))) (fun v_cells_18 => ?_)
  refine Ex.setO (i := 3) (O := fun _ : Unit => oBag fr) rfl (stoOf rfl) (EvO.bag (EvO.call1 (hd := rfl) (r := rI) (mf := m__law_bag) (ra := rI) h__law_bag (Nat.le_of_ble_eq_true rfl) rfl (Ev.call2 (hd := rfl) (ρ := fun fr => rI) (mf := m__law_cell) (ra := fun fr => (rL M.K rI)) (rb := fun fr => rI) h__law_cell (Nat.le_of_ble_eq_true rfl) rfl (Ev.nameP (i := 0) rfl rfl rfl rfl) Ev.int (fun _ _ => rfl) (fun _ _ => rfl)) (fun _ _ => rfl))) (fun _ => ?_)
  refine Ex.set (i := 4) (ρ := (rN fr (rN fr rI))) rfl (stoOf rfl) (Ev.call4 (hd := rfl) (ρ := fun fr => (rN fr (rN fr rI))) (mf := m__law_closed) (ra := fun fr => (rL M.K rI)) (rb := fun fr => (rL M.K rI)) (rc := fun fr => rI) (rd := fun fr => rI) h__law_closed (Nat.le_of_ble_eq_true rfl) rfl (Ev.sub (subNL subR) (Ev.nameP (i := 2) rfl rfl rfl rfl)) (Ev.sub (subNL subR) (Ev.callG1 (i := 3) (ρ := fun fr => (rN fr rI)) (mf := m__law_fit) (ra := rI) h__law_fit (Nat.le_of_ble_eq_true rfl) rfl rfl rfl rfl (Ev.nameP (i := 1) rfl rfl rfl rfl) (fun _ _ => rfl) rfl)) (Ev.lenL (bt_len rfl b_len) (Ev.sub (subNL subR) (EvO.list (EvO.slice (Ev.nameP (i := 0) rfl rfl rfl rfl) (EvP.some Ev.int) (EvP.some Ev.int)))) (fun _ _ => rfl)) (Ev.ixL (Ev.sub (subNL subR) (EvO.list (EvO.written (r := rI) (xs := [(4 : Int), (1000000000 : Int)]) (EvA.wCons (r := rI) Ev.int (EvA.wCons (r := rI) (Ev.powW (1000000000 : Int) Ev.int Ev.int ⟨by decide, by decide, by decide⟩ (by decide)) EvA.nil (fun _ _ => rfl)) (fun _ _ => rfl)) (Nat.le_of_ble_eq_true rfl)))) (Ev.mul (Ev.intBP (bt_int rfl b_int) (Ev.ltP (Ev.nameP (i := 1) rfl rfl rfl rfl) Ev.int) (fun _ _ => rfl)) (Ev.callG1 (i := 3) (ρ := fun fr => rI) (mf := m__law_draw) (ra := rI) h__law_draw (Nat.le_of_ble_eq_true rfl) rfl rfl rfl rfl Ev.int (fun _ _ => rfl) rfl))) (fun _ _ => rfl) (fun _ _ => rfl) (fun _ _ => rfl) (fun _ _ => rfl)) (fun v_some_39 => ?_)
  refine Ex.seq (J1 := fun v_o_43 : (List (List Int)) => .nx [.val ((rL M.K rI) t.1), .val (rI v_many_7), .val ((rN fr rI) v_cells_18), .own (oBag fr), .val ((rN fr (rN fr rI)) v_o_43), .no, .no]) (Ex1.ite (EvT.cmp (Ev.eqI (Ev.callG1 (i := 3) (ρ := fun fr => rI) (mf := m__law_draw) (ra := rI) h__law_draw (Nat.le_of_ble_eq_true rfl) rfl rfl rfl rfl Ev.int (fun _ _ => rfl) rfl) Ev.int)) ?_ ?_) (fun v_o_43 => ?_)
  ·
    refine lcSet (i := 4) (S := fun a => .val (rN fr (rN fr rI) a)) (hS := lcVal) rfl rfl (LcOk.one (i := 5) rfl rfl (stoOf rfl) (fun _ h => nomatch h)) (EvI.list (Ev.sub (subNL subR) (EvO.list (EvO.slice (Ev.nameP (i := 0) rfl rfl rfl rfl) (EvP.some Ev.int) (EvP.some Ev.int))))) (fun v_x_50 => EvTs.nil) (fun v_x_50 => (Ev.call3 (hd := rfl) (ρ := fun fr => (rN fr rI)) (mf := m__law_free) (ra := fun fr => rI) (rb := fun fr => rI) (rc := fun fr => rI) h__law_free (Nat.le_of_ble_eq_true rfl) rfl (Ev.nameP (i := 5) rfl rfl rfl rfl) (Ev.nameP (i := 1) rfl rfl rfl rfl) Ev.int (fun _ _ => rfl) (fun _ _ => rfl) (fun _ _ => rfl))) (fun v_some_54 => ?_) (swLocal rfl rfl rfl rfl) (by intro _ _; rfl)
    exact Ex.nil rfl (.cons .rf (.cons .rf (.cons .rf (.cons .rf (.cons .rf (.cons .no (.cons .no .nil)))))))
  ·
    exact Ex.nil rfl (.cons .rf (.cons .rf (.cons .rf (.cons .rf (.cons .rf (.cons .no (.cons .no .nil)))))))
  show Ex _ _ _ _ _
  refine Ex.set (i := 4) (ρ := (rN fr (rN fr rI))) rfl (stoOf rfl) (Ev.call2 (hd := rfl) (ρ := fun fr => (rN fr (rN fr rI))) (mf := m__law_turned) (ra := fun fr => (rL M.K (rL M.K rI))) (rb := fun fr => rI) h__law_turned (Nat.le_of_ble_eq_true rfl) rfl (Ev.sub (subNL (subNL subR)) (Ev.nameP (i := 4) rfl rfl rfl rfl)) (Ev.callG1 (i := 3) (ρ := fun fr => rI) (mf := m__law_draw) (ra := rI) h__law_draw (Nat.le_of_ble_eq_true rfl) rfl rfl rfl rfl (Ev.nameP (i := 1) rfl rfl rfl rfl) (fun _ _ => rfl) rfl) (fun _ _ => rfl) (fun _ _ => rfl)) (fun v_some_58 => ?_)
  exact Ex.ret (ρ := rB) (fun u66 => u66) (fun _ => rfl) (Ev.eqTK (K := M.K) rfl (ρa := (rL M.K (rL M.K rI))) (ρb := (rL M.K (rL M.K rI))) rfl (Nat.le_of_ble_eq_true rfl) (Nat.le_of_ble_eq_true rfl) rfl (Ev.sub (subNL (subNL subR)) (Ev.call2 (hd := rfl) (ρ := fun fr => (rN fr (rN fr rI))) (mf := m_lone) (ra := fun fr => (rL M.K (rL M.K rI))) (rb := fun fr => rI) h_lone (Nat.le_of_ble_eq_true rfl) rfl (Ev.sub (subNL subR) (EvO.list (EvO.comp (LcOk.one (i := 6) rfl rfl (stoOf rfl) (fun _ h => nomatch h)) (EvI.list (Ev.sub (subNL subR) (Ev.nameP (i := 4) rfl rfl rfl rfl))) (fun v_x_59 => EvTs.nil) (fun v_x_59 => (Ev.sub (subNL subR) (EvO.list (EvO.listOf (bt_list rfl b_list) (Ev.sub (subNL subR) (Ev.nameP (i := 6) rfl rfl rfl rfl)) (fun _ _ => rfl)))))))) (Ev.nameP (i := 1) rfl rfl rfl rfl) (fun _ _ => rfl) (fun _ _ => rfl))) (Ev.sub (subNL (subNL subR)) (Ev.call2 (hd := rfl) (ρ := fun fr => (rN fr (rN fr rI))) (mf := m__law_due) (ra := fun fr => (rL M.K (rL M.K rI))) (rb := fun fr => rI) h__law_due (Nat.le_of_ble_eq_true rfl) rfl (Ev.sub (subNL (subNL subR)) (Ev.nameP (i := 4) rfl rfl rfl rfl)) (Ev.nameP (i := 1) rfl rfl rfl rfl) (fun _ _ => rfl) (fun _ _ => rfl))))
end Y

/-! Z1: plain mathematics of ints; wp of the parts -/
namespace Y
open PySem
namespace W
variable {α β σ : Type} {P : α → Prop} {E : Exn → Prop}
theorem le_req {c : Prop} {v : α} {m : W α} (h : c → ∀ P E, P v → m.wp P E) : W.Le (W.req c (pure v)) m := fun P E ⟨hc, hp⟩ => h hc P E hp
theorem foldM_of {τ : Type} {f : σ → α → W σ} {g : σ → α → σ} (J : σ → Prop) (ok : α → Prop) (h : ∀ s x, J s → ok x → J (g s x) ∧ ∀ (P : σ → Prop) (E : Exn → Prop), P (g s x) → (f s x).wp P E) :
    ∀ (xs : List α) (s : σ) (P : σ → Prop) (E : Exn → Prop), J s → (∀ x ∈ xs, ok x) → P (xs.foldl g s) → (foldM f s xs).wp P E
  | [], s, P, E, _, _, hp => hp
  | x :: xs, s, P, E, hs, hx, hp => by
    obtain ⟨h1, h2⟩ := h s x hs (hx x (by simp))
    exact h2 _ E (foldM_of (τ := τ) J ok h xs (g s x) P E h1 (fun y hy => hx y (by simp [hy])) hp)
/-- a fold by an invariant that knows what is done -/
theorem foldM_inv {f : σ → α → W σ} {E : Exn → Prop} (I : List α → σ → Prop) (xs : List α) (h : ∀ done x rest s, xs = done ++ x :: rest → I done s → (f s x).wp (fun s' => I (done ++ [x]) s') E) {s0 : σ} (h0 : I [] s0) {P : σ → Prop} (hP : ∀ s, I xs s → P s) : (foldM f s0 xs).wp P E := by
  have go : ∀ rest done s, xs = done ++ rest → I done s → (foldM f s rest).wp P E := by
    intro rest
    induction rest with
    | nil =>
      intro done s e hi
      rw [List.append_nil] at e
      subst e
      exact hP s hi
    | cons x rest ih =>
      intro done s e hi
      exact (f s x).mono (fun s' hs' => ih (done ++ [x]) s' (by simp [e]) hs') (fun _ z => z) (h done x rest s e hi)
  exact go xs [] s0 rfl h0
theorem compM_of {t : α → W Bool} {f : α → W β} {tb : α → Bool} {fb : α → β} : ∀ (xs : List α), (∀ x ∈ xs, ∀ (P : Bool → Prop) (E : Exn → Prop), P (tb x) → (t x).wp P E) → (∀ x ∈ xs, tb x = true → ∀ (P : β → Prop) (E : Exn → Prop), P (fb x) → (f x).wp P E) →
    ∀ (P : List β → Prop) (E : Exn → Prop), P ((xs.filter tb).map fb) → (W.noX (compM t f xs)).wp P E
  | [], _, _, P, E, hp => hp
  | x :: xs, h1, h2, P, E, hp => by
    show (t x).wp _ _
    refine h1 x (by simp) _ _ ?_
    have ih := compM_of xs (fun y hy => h1 y (by simp [hy])) (fun y hy => h2 y (by simp [hy]))
    cases e : tb x with
    | false =>
      rw [List.filter_cons_of_neg (by simp [e])] at hp
      exact ih P E hp
    | true =>
      rw [List.filter_cons_of_pos e] at hp
      show (f x).wp _ _
      refine h2 x (by simp) e _ _ ?_
      exact ih (fun ys => P (fb x :: ys)) E hp
/-- without a test -/
theorem compM_map {f : α → W β} {fb : α → β} (xs : List α) (h2 : ∀ x ∈ xs, ∀ (P : β → Prop) (E : Exn → Prop), P (fb x) → (f x).wp P E) (P : List β → Prop) (E : Exn → Prop) (hp : P (xs.map fb)) : (W.noX (compM (fun _ => pure true) f xs)).wp P E :=
  compM_of (tb := fun _ => true) (fb := fb) xs (fun _ _ _ _ h => h) (fun x hx _ => h2 x hx) P E (by rw [List.filter_eq_self.mpr (by simp)]; exact hp)
end W
section
variable {P : Int → Prop} {E : Exn → Prop} {x y : Int}
theorem wp_divI : (divI x y).wp P E = ((y ≠ 0 ∧ y.natAbs.log2 < 9000) ∧ P (x.fdiv y)) := rfl
theorem wp_modI : (modI x y).wp P E = (y ≠ 0 ∧ P (x.fmod y)) := rfl
theorem wp_mulI : (mulI x y).wp P E = (CMulB x y ∧ P (x * y)) := rfl
end
/-! ### sizes -/
def Sz (n : Nat) (x : Int) : Prop := x.natAbs < 2 ^ n
theorem Sz.log {n : Nat} {x : Int} (h : Sz n x) : x.natAbs.log2 ≤ n := by
  unfold Sz at h
  by_cases e : x.natAbs = 0
  · rw [e]; simp
  · exact Nat.le_of_lt ((Nat.log2_lt e).mpr h)
theorem Sz.le {n m : Nat} {x : Int} (h : Sz n x) (hm : n ≤ m) : Sz m x := Nat.lt_of_lt_of_le h (Nat.pow_le_pow_right (by decide) hm)
theorem Sz.of_le {n : Nat} {x y : Int} (h : Sz n x) (hy : y.natAbs ≤ x.natAbs) : Sz n y := Nat.lt_of_le_of_lt hy h
theorem Sz.mul {n m : Nat} {x y : Int} (h : Sz n x) (h' : Sz m y) : Sz (n + m) (x * y) := by
  unfold Sz at *
  rw [Int.natAbs_mul, Nat.pow_add]
  exact Nat.mul_lt_mul_of_lt_of_lt h h'
theorem Sz.add {n : Nat} {x y : Int} (h : Sz n x) (h' : Sz n y) : Sz (n + 1) (x + y) := by
  unfold Sz at *
  rw [Nat.pow_succ]
  omega
theorem Sz.sub {n : Nat} {x y : Int} (h : Sz n x) (h' : Sz n y) : Sz (n + 1) (x - y) := by
  unfold Sz at *
  rw [Nat.pow_succ]
  omega
theorem Sz.cmul {n m : Nat} {x y : Int} (h : Sz n x) (h' : Sz m y) (hs : n + m < 100000000) : CMulB x y := by
  have h1 := h.log
  have h2 := h'.log
  unfold CMulB
  omega
theorem Sz.zero {n : Nat} : Sz n 0 := Nat.pow_pos (by decide)
theorem absI_eq (x : Int) : absI x = (x.natAbs : Int) := by unfold absI; split <;> omega
theorem absI_nonneg (x : Int) : 0 ≤ absI x := by rw [absI_eq]; omega
/-! ### the common measure -/
def gcdL (xs : List Int) : Int := xs.foldl (fun g x => (Int.gcd g x : Int)) 0
theorem gcdL_append (xs : List Int) (x : Int) : gcdL (xs ++ [x]) = (Int.gcd (gcdL xs) x : Int) := by unfold gcdL; rw [List.foldl_append]; rfl
theorem foldl_gcd_nonneg : ∀ (xs : List Int) (g : Int), 0 ≤ g → 0 ≤ xs.foldl (fun g x => (Int.gcd g x : Int)) g
  | [], g, h => h
  | x :: xs, g, _ => foldl_gcd_nonneg xs _ (Int.natCast_nonneg _)
theorem gcdL_nonneg (xs : List Int) : 0 ≤ gcdL xs := foldl_gcd_nonneg xs 0 (Int.le_refl _)
theorem foldl_gcd_dvd : ∀ (xs : List Int) (g d : Int), d ∣ xs.foldl (fun g x => (Int.gcd g x : Int)) g ↔ d ∣ g ∧ ∀ x ∈ xs, d ∣ x
  | [], g, d => by simp
  | x :: xs, g, d => by
    rw [List.foldl_cons, foldl_gcd_dvd xs _ d]
    have : d ∣ (Int.gcd g x : Int) ↔ d ∣ g ∧ d ∣ x := by
      rw [Int.dvd_coe_gcd_iff]
    rw [this]
    simp [and_assoc]
theorem dvd_gcdL {xs : List Int} {d : Int} : d ∣ gcdL xs ↔ ∀ x ∈ xs, d ∣ x := by
  unfold gcdL
  rw [foldl_gcd_dvd]
  simp
theorem gcdL_dvd {xs : List Int} {x : Int} (h : x ∈ xs) : gcdL xs ∣ x := dvd_gcdL.mp (Int.dvd_refl _) x h
theorem gcdL_zero {xs : List Int} : gcdL xs = 0 ↔ ∀ x ∈ xs, x = 0 := by
  constructor
  · intro h x hx
    have := gcdL_dvd hx
    rw [h] at this
    exact Int.zero_dvd.mp this
  · intro h
    have : (0 : Int) ∣ gcdL xs := dvd_gcdL.mpr fun x hx => by rw [h x hx]; exact Int.dvd_refl _
    exact Int.zero_dvd.mp this
def lowL (xs : List Int) : List Int := if gcdL xs = 0 then xs else xs.map fun x => x.fdiv (gcdL xs)
/-- Euclid by /, as measure does it -/
theorem euclid_step {a b : Int} (hb : 0 < b) (ha : 0 ≤ a) : a - a.fdiv b * b = a.fmod b ∧ 0 ≤ a.fmod b ∧ a.fmod b < b ∧ Int.gcd b (a.fmod b) = Int.gcd a b := by
  have h1 : a.fmod b = a % b := Int.fmod_eq_emod_of_nonneg a (Int.le_of_lt hb)
  have h2 := Int.mul_fdiv_add_fmod a b
  refine ⟨?_, ?_, ?_, ?_⟩
  · rw [Int.mul_comm (a.fdiv b) b]; omega
  · rw [h1]; exact Int.emod_nonneg _ (Int.ne_of_gt hb)
  · rw [h1]; exact Int.emod_lt_of_pos _ hb
  · rw [show a.fmod b = a - b * a.fdiv b by omega, Int.gcd_sub_mul_left_right, Int.gcd_comm]
/-- the size of a common measure -/
theorem Sz.gcd {n : Nat} {a b : Int} (ha : Sz n a) (hb : Sz n b) : Sz n (Int.gcd a b : Int) := by
  unfold Sz at *
  rw [Int.natAbs_natCast]
  by_cases e : a = 0
  · subst e; rw [Int.gcd_zero_left]; exact hb
  · have : Int.gcd a b ≤ a.natAbs := Nat.le_of_dvd (by omega) (Nat.gcd_dvd_left _ _)
    omega
theorem Sz.foldl_gcd {n : Nat} : ∀ (xs : List Int) (g : Int), Sz n g → (∀ x ∈ xs, Sz n x) → Sz n (xs.foldl (fun g x => (Int.gcd g x : Int)) g)
  | [], g, h, _ => h
  | x :: xs, g, h, hx => Sz.foldl_gcd xs _ (h.gcd (hx x (by simp))) fun y hy => hx y (by simp [hy])
theorem Sz.gcdL {n : Nat} {xs : List Int} (h : ∀ x ∈ xs, Sz n x) : Sz n (Y.gcdL xs) := Sz.foldl_gcd xs 0 Sz.zero h
theorem fmod_bd {a n : Int} (h : 0 < n) : 0 ≤ a.fmod n ∧ a.fmod n < n := by
  rw [Int.fmod_eq_emod_of_nonneg a (Int.le_of_lt h)]
  exact ⟨Int.emod_nonneg _ (Int.ne_of_gt h), Int.emod_lt_of_pos _ h⟩
theorem idx_of {α : Type} {xs : List α} {i : Int} {x : α} (h0 : 0 ≤ i) (h : xs[i.toNat]? = some x) {P : α → Prop} {E : Exn → Prop} (hp : P x) : (idx xs i).wp P E := by
  have e : L2.atI xs i = some x := by
    have := L2.atI_nat h
    rwa [Int.toNat_of_nonneg h0] at this
  unfold idx
  rw [e]
  exact hp
/-- numbers over their common measure -/
theorem fdiv_mul_self {a g : Int} (hg : g ≠ 0) (h : g ∣ a) : a.fdiv g * g = a := by
  rw [Int.fdiv_eq_ediv_of_dvd h, Int.ediv_mul_cancel h]
theorem gcdL_low {xs : List Int} (h : gcdL xs ≠ 0) : gcdL (xs.map fun x => x.fdiv (gcdL xs)) = 1 := by
  have hg := gcdL_nonneg xs
  have h1 : gcdL (xs.map fun x => x.fdiv (gcdL xs)) * gcdL xs ∣ gcdL xs := by
    apply dvd_gcdL.mpr
    intro x hx
    have h2 : gcdL (xs.map fun x => x.fdiv (gcdL xs)) ∣ x.fdiv (gcdL xs) := gcdL_dvd (List.mem_map_of_mem hx)
    have h3 := Int.mul_dvd_mul_right (gcdL xs) h2
    rwa [fdiv_mul_self h (gcdL_dvd hx)] at h3
  have h4 := gcdL_nonneg (xs.map fun x => x.fdiv (gcdL xs))
  obtain ⟨k, hk⟩ := h1
  have h5 : (gcdL (xs.map fun x => x.fdiv (gcdL xs)) * k) * gcdL xs = 1 * gcdL xs := by
    rw [Int.one_mul, Int.mul_assoc, Int.mul_comm k, ← Int.mul_assoc]; exact hk.symm
  have h6 := Int.eq_of_mul_eq_mul_right h h5
  have h7 : gcdL (xs.map fun x => x.fdiv (gcdL xs)) ∣ 1 := ⟨k, h6.symm⟩
  have h8 := Int.le_of_dvd (by decide) h7
  have h9 : gcdL (xs.map fun x => x.fdiv (gcdL xs)) ≠ 0 := fun z => by rw [z] at h6; simp at h6
  omega
theorem cut_take {α : Type} (xs : List α) (n : Nat) : cut xs none (some (n : Int)) = xs.take n := by
  unfold cut
  rw [HT.sIx_none, HT.sIx_nat, List.drop_zero, Nat.sub_zero]
  rw [List.take_eq_take_iff]
  omega
/-! ### ratios -/
/-- the measure by which a ratio is made plain, with the bottom's sign -/
def sgn (a b : Int) : Int := if b < 0 then -(Int.gcd a b : Int) else (Int.gcd a b : Int)
def nrm (a b : Int) : Int × Int := (a.fdiv (sgn a b), b.fdiv (sgn a b))
theorem sgn_dvd_l (a b : Int) : sgn a b ∣ a := by
  unfold sgn
  split
  · exact Int.neg_dvd.mpr (Int.gcd_dvd_left ..)
  · exact Int.gcd_dvd_left ..
theorem sgn_dvd_r (a b : Int) : sgn a b ∣ b := by
  unfold sgn
  split
  · exact Int.neg_dvd.mpr (Int.gcd_dvd_right ..)
  · exact Int.gcd_dvd_right ..
theorem natAbs_fdiv_le (a b : Int) (h : b ∣ a) : (a.fdiv b).natAbs ≤ a.natAbs := by
  rw [Int.fdiv_eq_ediv_of_dvd h]
  exact Int.natAbs_ediv_le_natAbs _ _
theorem Sz.nrm {n m : Nat} {a b : Int} (ha : Sz n a) (hb : Sz m b) : Sz n (Y.nrm a b).1 ∧ Sz m (Y.nrm a b).2 := ⟨ha.of_le (natAbs_fdiv_le _ _ (sgn_dvd_l a b)), hb.of_le (natAbs_fdiv_le _ _ (sgn_dvd_r a b))⟩
theorem Sz.neg {n : Nat} {a : Int} (ha : Sz n a) : Sz n (-a) := by unfold Sz at *; omega
theorem Sz.sgn {n m : Nat} {a b : Int} (ha : Sz n a) (hb : Sz n b) : Sz n (Y.sgn a b) := by
  unfold Y.sgn
  split
  · exact (ha.gcd hb).neg
  · exact ha.gcd hb
/-! ### loops that may return, ranges -/
theorem mem_rng {lo hi x : Int} : x ∈ rng lo hi ↔ lo ≤ x ∧ x < hi := by
  unfold rng
  rw [List.mem_map]
  constructor
  · rintro ⟨i, hi, rfl⟩
    have := List.mem_range.mp hi
    omega
  · intro ⟨h1, h2⟩
    exact ⟨(x - lo).toNat, List.mem_range.mpr (by omega), by omega⟩
theorem le_range {n : Int} (h : 0 ≤ n) (h2 : n ≤ 1000000) {P : List Int → Prop} {E : Exn → Prop} (hp : P (rng 0 n)) : (rangeW 0 n).wp P E := ⟨⟨by omega, by omega, by omega, by omega, by omega⟩, hp⟩
/-! ### numbers of a script -/
def Bz (x : Int) : Prop := x.natAbs.log2 ≤ 2000000
theorem BitsOk.bz {x : Int} (h : BitsOk x) : Bz x := by
  unfold BitsOk Builtin.Int.intBits at h
  unfold Bz
  split at h
  · rename_i e
    have : x.natAbs = 0 := by simpa using e
    rw [this]; simp
  · omega
theorem Bz.of_le {x y : Int} (h : Bz x) (hy : y.natAbs ≤ x.natAbs) : Bz y := by
  unfold Bz at *
  by_cases e : y.natAbs = 0
  · rw [e]; simp
  · have h1 : x.natAbs ≠ 0 := by omega
    have h2 : y.natAbs.log2 ≤ x.natAbs.log2 := by
      have := Nat.log2_self_le e
      exact (Nat.le_log2 h1).mpr (by omega)
    omega
theorem Bz.cmul {m : Nat} {x y : Int} (h : Bz x) (h' : Sz m y) (hs : m ≤ 1000000) : CMulB x y := by
  have h2 := h'.log
  unfold CMulB
  unfold Bz at h
  omega
theorem Sz.bz {n : Nat} {x : Int} (h : Sz n x) (hn : n ≤ 2000000) : Bz x := by
  have := h.log
  unfold Bz
  omega
theorem BitsOk.zero : Bz 0 := by unfold Bz; decide
theorem cut_drop {α : Type} (xs : List α) (n : Nat) : cut xs (some (n : Int)) none = xs.drop n := by
  unfold cut
  rw [HT.sIx_none, HT.sIx_nat]
  rw [List.take_of_length_le (by rw [List.length_drop]; omega)]
  by_cases h : n ≤ xs.length
  · rw [Nat.min_eq_left h]
  · rw [Nat.min_eq_right (by omega), List.drop_of_length_le (Nat.le_refl _), List.drop_of_length_le (by omega)]
/-- what a try makes of an exception -/
def TryX {ω : Type} (c : Str → Option Bool) (h : Exn → W ω) (P : ω → Prop) (E : Exn → Prop) (e : Exn) : Prop := match c e.cls with
  | some true => e.pay = none ∧ (h e).wp P (fun _ => False)
  | some false => E e
  | none => False
theorem TryX.yes {ω : Type} {c : Str → Option Bool} {h : Exn → W ω} {P : ω → Prop} {E : Exn → Prop} {x : Str} (hc : c x = some true) (hh : (h ⟨x, none⟩).wp P (fun _ => False)) : TryX c h P E ⟨x, none⟩ := by
  unfold TryX
  simp only [hc]
  exact ⟨trivial, hh⟩
end Y

namespace Y
open PySem
def cellAt (ns : List Int) (k : Int) : Int := ns.getD k.toNat 0
theorem le_cell {ns : List Int} {k : Int} (hk : 0 ≤ k) {P : Int → Prop} {E : Exn → Prop} (hp : P (cellAt ns k)) : (m__law_cell (ns, k, ())).wp P E := by
  unfold m__law_cell
  simp only [W.wp_bind, W.wp_pure, W.wp_ite]
  unfold cellAt at hp
  split
  · rename_i h
    have h1 : k < (ns.length : Int) := of_decide_eq_true h
    have h2 : k.toNat < ns.length := by omega
    refine idx_of hk (List.getElem?_eq_getElem h2) ?_
    rw [List.getD_eq_getElem?_getD, List.getElem?_eq_getElem h2] at hp
    exact hp
  · rename_i h
    have h1 : ¬ k < (ns.length : Int) := fun z => h (decide_eq_true z)
    have h2 : ns.length ≤ k.toNat := by omega
    rw [List.getD_eq_getElem?_getD, List.getElem?_eq_none h2] at hp
    exact hp
def sp_measure (t : List Int × Unit) : W Int := W.req (∀ x ∈ t.1, Sz 8000 x) (pure (gcdL t.1))
theorem le_measure (t : List Int × Unit) : W.Le (sp_measure t) (m_measure t) := W.le_req fun hx P E hp => by
  show (W.foldM _ _ _).wp _ _
  refine W.foldM_of (τ := Unit) (g := fun g x => (Int.gcd g x : Int)) (fun s => 0 ≤ s ∧ Sz 8000 s) (Sz 8000) (fun s x hs hx => ⟨⟨Int.natCast_nonneg _, hs.2.gcd hx⟩, fun P E hp => ?_⟩) t.1 0 _ E ⟨Int.le_refl _, Sz.zero⟩ hx hp
  refine ⟨fun q => 0 ≤ q.1 ∧ 0 ≤ q.2 ∧ Sz 8000 q.1 ∧ Sz 8000 q.2 ∧ Int.gcd q.1 q.2 = Int.gcd s x, fun q => q.2.natAbs, ⟨hs.1, absI_nonneg x, hs.2, hx.of_le (by rw [absI_eq]; simp), by rw [absI_eq]; unfold Int.gcd; simp⟩, fun q ⟨h1, h2, h3, h4, h5⟩ => ?_⟩
  show if decide (0 < q.2) = true then _ else _
  split
  · rename_i hq
    have hq' : 0 < q.2 := of_decide_eq_true hq
    obtain ⟨e1, e2, e3, e4⟩ := euclid_step hq' h1
    have hd : q.1.fdiv q.2 = q.1 / q.2 := Int.fdiv_eq_ediv_of_nonneg _ h2
    have hs1 : Sz 8000 (q.1.fdiv q.2) := h3.of_le (by rw [hd]; exact Int.natAbs_ediv_le_natAbs _ _)
    refine ⟨⟨Int.ne_of_gt hq', by have := h4.log; omega⟩, hs1.cmul h4 (by decide), ?_⟩
    show (0 ≤ q.2 ∧ 0 ≤ q.1 - q.1.fdiv q.2 * q.2 ∧ Sz 8000 q.2 ∧ Sz 8000 (q.1 - q.1.fdiv q.2 * q.2) ∧ Int.gcd q.2 (q.1 - q.1.fdiv q.2 * q.2) = Int.gcd s x) ∧ (q.1 - q.1.fdiv q.2 * q.2).natAbs < q.2.natAbs
    rw [e1]
    exact ⟨⟨h2, e2, h4, h4.of_le (by omega), e4.trans h5⟩, by omega⟩
  · rename_i hq
    have hq' : ¬ 0 < q.2 := fun h => hq (decide_eq_true h)
    have e0 : q.2 = 0 := by omega
    rw [e0, Int.gcd_zero_right] at h5
    show P q.1
    have : q.1 = (Int.gcd s x : Int) := by rw [← h5]; omega
    rw [this]; exact hp
def sp_lowest (t : List Int × Unit) : W (List Int) := W.req (∀ x ∈ t.1, Sz 8000 x) (pure (lowL t.1))
theorem le_lowest (t : List Int × Unit) : W.Le (sp_lowest t) (m_lowest t) := W.le_req fun hx P E hp => by
  refine le_measure (t.1, ()) _ _ ⟨hx, ?_⟩
  show W.wp (if decide (gcdL t.1 = 0) = true then _ else _) P E
  unfold lowL at hp
  by_cases e : gcdL t.1 = 0
  · rw [if_pos (decide_eq_true e)]
    rw [if_pos e] at hp
    exact hp
  · rw [if_neg (by simpa using e)]
    rw [if_neg e] at hp
    refine W.compM_map (fb := fun x => x.fdiv (gcdL t.1)) t.1 (fun x _ P E h => ?_) P E hp
    exact ⟨⟨e, Nat.lt_of_le_of_lt (Sz.gcdL hx).log (by decide)⟩, h⟩
theorem nodup_len {α : Type} [DecidableEq α] : ∀ (l m : List α), l.Nodup → (∀ x ∈ l, x ∈ m) → l.length ≤ m.length
  | [], _, _, _ => Nat.zero_le _
  | x :: l, m, h, s => by
    have hx := s x (by simp)
    have h2 := List.nodup_cons.mp h
    have h3 := nodup_len l (m.erase x) h2.2 (fun y hy => (List.mem_erase_of_ne (fun (e : y = x) => h2.1 (by rw [← e]; exact hy))).mpr (s y (by simp [hy])))
    rw [List.length_erase_of_mem hx] at h3
    have h4 : 0 < m.length := List.length_pos_of_mem hx
    simp only [List.length_cons]
    omega
theorem foldR_first {α ρ : Type} {f : Unit → α → W (Fl Unit ρ)} {q : α → Bool} {r : α → ρ} {E : Exn → Prop} : ∀ (xs : List α), (∀ x ∈ xs, ∀ (P : Fl Unit ρ → Prop), P (if q x = true then .ret (r x) else .go ()) → (f () x).wp P E) → ∀ (P : Fl Unit ρ → Prop), P (match xs.find? q with | some x => .ret (r x) | none => .go ()) → (W.foldR f () xs).wp P E
  | [], _, _, hp => hp
  | x :: xs, h, P, hp => by
    refine h x (by simp) _ ?_
    rw [List.find?_cons] at hp
    cases e : q x with
    | true =>
      rw [e] at hp
      rw [if_pos rfl]
      exact hp
    | false =>
      rw [e] at hp
      rw [if_neg (by simp)]
      exact foldR_first xs (fun y hy => h y (by simp [hy])) P hp
/-! ### rows of ints: spans, reduced lists of rows -/
abbrev Row := List Int
abbrev Fn := Nat → Int
def gx (r : Row) : Fn := fun j => r.getD j 0
inductive Sp (P : Fn → Prop) : Fn → Prop
  | zero : Sp P (fun _ => 0)
  | mem {v : Fn} : P v → Sp P v
  | comb (a b : Int) {u v : Fn} : Sp P u → Sp P v → Sp P (fun j => a * u j + b * v j)
  | div {q : Int} {v : Fn} : q ≠ 0 → Sp P (fun j => q * v j) → Sp P v
theorem Sp.mono {P Q : Fn → Prop} (h : ∀ v, P v → Sp Q v) {u : Fn} (x : Sp P u) : Sp Q u := by
  induction x with
  | zero => exact .zero
  | mem p => exact h _ p
  | comb a b _ _ i1 i2 => exact .comb a b i1 i2
  | div hq _ i => exact .div hq i
/-- a linear property -/
structure Lin (Q : Fn → Prop) : Prop where
  zero : Q (fun _ => 0)
  comb : ∀ (a b : Int) (u v : Fn), Q u → Q v → Q (fun j => a * u j + b * v j)
  div : ∀ (q : Int) (v : Fn), q ≠ 0 → Q (fun j => q * v j) → Q v
theorem Sp.lin {P Q : Fn → Prop} (l : Lin Q) (h : ∀ v, P v → Q v) {u : Fn} (x : Sp P u) : Q u := by
  induction x with
  | zero => exact l.zero
  | mem p => exact h _ p
  | comb a b _ _ i1 i2 => exact l.comb a b _ _ i1 i2
  | div hq _ i => exact l.div _ _ hq i
theorem Sp.smul {P : Fn → Prop} (a : Int) {u : Fn} (x : Sp P u) : Sp P (fun j => a * u j) := by
  have := Sp.comb a 0 x (Sp.zero (P := P))
  have e : (fun j => a * u j + 0 * (fun _ => (0 : Int)) j) = fun j => a * u j := by funext j; simp
  rwa [e] at this
theorem Sp.sum {P : Fn → Prop} {α : Type} (f : α → Fn) (c : α → Int) : ∀ (l : List α), (∀ x ∈ l, Sp P (f x)) → Sp P (fun j => (l.map fun x => c x * f x j).sum)
  | [], _ => .zero
  | x :: l, h => by
    have h1 := h x (by simp)
    have h2 := Sp.sum f c l (fun y hy => h y (by simp [hy]))
    have := Sp.comb (c x) 1 h1 h2
    have e : (fun j => c x * f x j + 1 * (l.map fun x => c x * f x j).sum) = fun j => ((x :: l).map fun x => c x * f x j).sum := by funext j; simp
    rwa [e] at this
def inK (K : List Row) (v : Fn) : Prop := ∃ k ∈ K, v = gx k
/-! ### the first place that is not 0 -/
def tipN (m : Nat) (r : Row) : Option Nat := (List.range m).find? fun j => decide (gx r j ≠ 0)
def tp (m : Nat) (r : Row) : Nat := (tipN m r).getD 0
theorem tipN_none {m : Nat} {r : Row} : tipN m r = none ↔ ∀ j < m, gx r j = 0 := by
  unfold tipN
  rw [List.find?_eq_none]
  constructor
  · intro h j hj
    have := h j (List.mem_range.mpr hj)
    simpa using this
  · intro h j hj
    have := h j (List.mem_range.mp hj)
    simpa using this
theorem tipN_some {m : Nat} {r : Row} {t : Nat} : tipN m r = some t ↔ t < m ∧ gx r t ≠ 0 ∧ ∀ j < t, gx r j = 0 := by
  unfold tipN
  rw [List.find?_range_eq_some]
  constructor
  · intro ⟨h1, h2, h3⟩
    refine ⟨List.mem_range.mp h2, by simpa using h1, fun j hj => ?_⟩
    have := h3 j hj
    simpa using this
  · intro ⟨h1, h2, h3⟩
    refine ⟨by simpa using h2, List.mem_range.mpr h1, fun j hj => ?_⟩
    have := h3 j hj
    simpa using this
/-! ### rows made plain -/
structure RowOk (m L : Nat) (k : Row) : Prop where
  len : k.length = L
  tip : tipN m k = some (tp m k)
  pos : 0 < gx k (tp m k)
  low : gcdL k = 1
def Apart (m : Nat) (a b : Row) : Prop := gx a (tp m b) = 0 ∧ gx b (tp m a) = 0
structure Red (m L : Nat) (K : List Row) : Prop where
  row : ∀ k ∈ K, RowOk m L k
  ap : K.Pairwise (Apart m)
/-- C times u, as the rows of K tell it -/
def zsum (m : Nat) (C : Int) (K : List Row) (u : Fn) (j : Nat) : Int := (K.map fun k => C / gx k (tp m k) * u (tp m k) * gx k j).sum
theorem sum_zero {α : Type} {f : α → Int} : ∀ (l : List α), (∀ x ∈ l, f x = 0) → (l.map f).sum = 0
  | [], _ => rfl
  | x :: l, h => by rw [List.map_cons, List.sum_cons, h x (by simp), sum_zero l fun y hy => h y (by simp [hy])]; rfl
theorem sum_comb {α : Type} (a b : Int) (f g : α → Int) : ∀ (l : List α), (l.map fun x => a * f x + b * g x).sum = a * (l.map f).sum + b * (l.map g).sum
  | [] => by simp
  | x :: l => by
    simp only [List.map_cons, List.sum_cons, sum_comb a b f g l, Int.mul_add]
    omega
theorem zsum_comb (m : Nat) (C : Int) (K : List Row) (a b : Int) (u v : Fn) (j : Nat) : zsum m C K (fun i => a * u i + b * v i) j = a * zsum m C K u j + b * zsum m C K v j := by
  unfold zsum
  rw [← sum_comb]
  congr 1
  refine List.map_congr_left fun k _ => ?_
  simp only [Int.mul_add, Int.add_mul]
  congr 1 <;> ac_rfl
theorem zsum_mul (m : Nat) (C : Int) (K : List Row) (q : Int) (u : Fn) (j : Nat) : zsum m C K (fun i => q * u i) j = q * zsum m C K u j := by
  have := zsum_comb m C K q 0 u (fun _ => 0) j
  simp only [Int.zero_mul, Int.add_zero] at this
  exact this
theorem zsum_mem {m L : Nat} {K : List Row} (h : Red m L K) {C : Int} (hC : ∀ k ∈ K, gx k (tp m k) ∣ C) {k0 : Row} (hk : k0 ∈ K) (j : Nat) : zsum m C K (gx k0) j = C * gx k0 j := by
  obtain ⟨A, B, e⟩ := List.append_of_mem hk
  have hp := h.ap
  rw [e] at hp
  have h2 := List.pairwise_append.mp hp
  have hB := (List.pairwise_cons.mp h2.2.1).1
  unfold zsum
  rw [e, List.map_append, List.map_cons, List.sum_append, List.sum_cons]
  rw [sum_zero A (fun k hk' => by
    have := (h2.2.2 k hk' k0 (by simp)).2
    rw [this]; simp), sum_zero B (fun k hk' => by
    have := (hB k hk').1
    rw [this]; simp)]
  have := Int.ediv_mul_cancel (hC k0 hk)
  rw [this]
  omega
theorem Red.z {m L : Nat} {K : List Row} (h : Red m L K) {C : Int} (hC : ∀ k ∈ K, gx k (tp m k) ∣ C) {u : Fn} (hu : Sp (inK K) u) (j : Nat) : C * u j = zsum m C K u j := by
  refine Sp.lin (Q := fun u => C * u j = zsum m C K u j) ⟨?_, fun a b u v h1 h2 => ?_, fun q v hq h1 => ?_⟩ (fun v ⟨k, hk, e⟩ => by rw [e]; exact (zsum_mem h hC hk j).symm) hu
  · have := zsum_mul m C K 0 (fun _ => 0) j
    simp only [Int.zero_mul] at this
    rw [this]; simp
  · rw [zsum_comb, ← h1, ← h2, Int.mul_add]
    congr 1 <;> ac_rfl
  · rw [zsum_mul] at h1
    have e : q * (C * v j) = q * zsum m C K v j := by rw [← h1]; ac_rfl
    exact Int.eq_of_mul_eq_mul_left hq e
/-- a common multiple of the leads -/
def leads (m : Nat) (K : List Row) : Int := K.foldl (fun c k => c * gx k (tp m k)) 1
theorem foldl_mul_dvd {m : Nat} : ∀ (K : List Row) (c : Int), c ∣ K.foldl (fun c k => c * gx k (tp m k)) c ∧ ∀ k ∈ K, gx k (tp m k) ∣ K.foldl (fun c k => c * gx k (tp m k)) c
  | [], c => ⟨Int.dvd_refl _, by simp⟩
  | k :: K, c => by
    have ih := foldl_mul_dvd (m := m) K (c * gx k (tp m k))
    rw [List.foldl_cons]
    refine ⟨Int.dvd_trans (Int.dvd_mul_right _ _) ih.1, fun x hx => ?_⟩
    rcases List.mem_cons.mp hx with q | q
    · rw [q]; exact Int.dvd_trans (Int.dvd_mul_left _ _) ih.1
    · exact ih.2 x q
theorem foldl_mul_pos {m : Nat} : ∀ (K : List Row) (c : Int), 0 < c → (∀ k ∈ K, 0 < gx k (tp m k)) → 0 < K.foldl (fun c k => c * gx k (tp m k)) c
  | [], _, h, _ => h
  | k :: K, c, h, hk => foldl_mul_pos K _ (Int.mul_pos h (hk k (by simp))) fun x hx => hk x (by simp [hx])
theorem leads_dvd {m : Nat} {K : List Row} : ∀ k ∈ K, gx k (tp m k) ∣ leads m K := (foldl_mul_dvd K 1).2
theorem Red.leads_pos {m L : Nat} {K : List Row} (h : Red m L K) : 0 < leads m K := foldl_mul_pos K 1 (by decide) fun k hk => (h.row k hk).pos
/-- what is 0 at all tips is 0 -/
theorem Red.zero {m L : Nat} {K : List Row} (h : Red m L K) {u : Fn} (hu : Sp (inK K) u) (h0 : ∀ k ∈ K, u (tp m k) = 0) (j : Nat) : u j = 0 := by
  have e := h.z (C := leads m K) (fun k hk => leads_dvd k hk) hu j
  unfold zsum at e
  rw [sum_zero K (fun k hk => by rw [h0 k hk]; simp)] at e
  have := h.leads_pos
  rcases Int.mul_eq_zero.mp e with q | q
  · omega
  · exact q
/-- what the rows tell of u lies in their span -/
theorem zsum_sp {m : Nat} (C : Int) (K : List Row) (u : Fn) : Sp (inK K) (zsum m C K u) := Sp.sum gx (fun k => C / gx k (tp m k) * u (tp m k)) K fun k hk => .mem ⟨k, hk, rfl⟩
/-! ### the steps on rows -/
theorem gx_map {f : Int → Int} (h0 : f 0 = 0) (r : Row) (j : Nat) : gx (r.map f) j = f (gx r j) := by
  unfold gx
  rw [List.getD_eq_getElem?_getD, List.getD_eq_getElem?_getD, List.getElem?_map]
  cases r[j]? <;> simp [h0]
theorem gx_out {r : Row} {j : Nat} (h : r.length ≤ j) : gx r j = 0 := by
  unfold gx
  rw [List.getD_eq_getElem?_getD, List.getElem?_eq_none h]
  rfl
/-- what a list's common measure leaves of it: never 0 -/
def mz (r : Row) : Int := if gcdL r = 0 then 1 else gcdL r
theorem mz_pos (r : Row) : 0 < mz r := by
  unfold mz
  split
  · decide
  · have := gcdL_nonneg r
    omega
theorem low_mul (r : Row) (j : Nat) : mz r * gx (lowL r) j = gx r j := by
  unfold mz lowL
  split
  · simp
  · rename_i h
    rw [gx_map (by simp)]
    by_cases hj : j < r.length
    · have hm : gx r j ∈ r := by
        unfold gx
        rw [List.getD_eq_getElem?_getD, List.getElem?_eq_getElem hj]
        exact List.getElem_mem _
      rw [Int.mul_comm]
      exact fdiv_mul_self h (gcdL_dvd hm)
    · rw [gx_out (by omega)]; simp
theorem low_len (r : Row) : (lowL r).length = r.length := by unfold lowL; split <;> simp
def crossR (r o : Row) (a : Nat) : Row := lowL ((r.zip o).map fun p => p.1 * gx o a - p.2 * gx r a)
def mc (r o : Row) (a : Nat) : Int := mz ((r.zip o).map fun p => p.1 * gx o a - p.2 * gx r a)
theorem mc_pos (r o : Row) (a : Nat) : 0 < mc r o a := mz_pos _
theorem gx_zip {r o : Row} (h : r.length = o.length) (f : Int → Int → Int) (h0 : f 0 0 = 0) (j : Nat) : gx ((r.zip o).map fun p => f p.1 p.2) j = f (gx r j) (gx o j) := by
  by_cases hj : j < r.length
  · unfold gx
    simp only [List.getD_eq_getElem?_getD, List.getElem?_map]
    have e : (r.zip o)[j]? = some (r[j], o[j]'(by omega)) := by
      rw [List.getElem?_zip_eq_some]
      exact ⟨List.getElem?_eq_getElem hj, List.getElem?_eq_getElem _⟩
    rw [e, List.getElem?_eq_getElem hj, List.getElem?_eq_getElem (by omega)]
    rfl
  · rw [gx_out (by rw [List.length_map, List.length_zip]; omega), gx_out (r := r) (by omega), gx_out (r := o) (by omega), h0]
theorem cross_eq {r o : Row} (h : r.length = o.length) (a j : Nat) : mc r o a * gx (crossR r o a) j = gx r j * gx o a - gx o j * gx r a := by
  unfold mc crossR
  rw [low_mul]
  exact gx_zip h (fun x y => x * gx o a - y * gx r a) (by simp) j
theorem cross_len {r o : Row} (h : r.length = o.length) (a : Nat) : (crossR r o a).length = r.length := by
  unfold crossR
  rw [low_len, List.length_map, List.length_zip]
  omega
theorem cross_zero {r o : Row} (h : r.length = o.length) {a b : Nat} (h1 : gx r b = 0) (h2 : gx o b = 0) : gx (crossR r o a) b = 0 := by
  have e : mc r o a * gx (crossR r o a) b = 0 := by rw [cross_eq h, h1, h2]; simp
  exact (Int.mul_eq_zero.mp e).resolve_left (by have := mc_pos r o a; omega)
theorem cross_at {r o : Row} (h : r.length = o.length) (a : Nat) : gx (crossR r o a) a = 0 := by
  have := cross_eq h a a
  rw [Int.mul_comm (gx r a), Int.sub_self] at this
  exact (Int.mul_eq_zero.mp this).resolve_left (by have := mc_pos r o a; omega)
theorem cross_sp {P : Fn → Prop} {r o : Row} (h : r.length = o.length) (a : Nat) (hr : Sp P (gx r)) (ho : Sp P (gx o)) : Sp P (gx (crossR r o a)) := by
  refine .div (q := mc r o a) (by have := mc_pos r o a; omega) ?_
  have := Sp.comb (gx o a) (-(gx r a)) hr ho
  have e : (fun j => gx o a * gx r j + -gx r a * gx o j) = fun j => mc r o a * gx (crossR r o a) j := by
    funext j
    rw [cross_eq h]
    rw [Int.mul_comm (gx r j), Int.mul_comm (gx o j), Int.neg_mul]
    omega
  rwa [e] at this
theorem cross_back {P : Fn → Prop} {r o : Row} (h : r.length = o.length) {a : Nat} (ha : gx o a ≠ 0) (hc : Sp P (gx (crossR r o a))) (ho : Sp P (gx o)) : Sp P (gx r) := by
  refine .div (q := gx o a) ha ?_
  have := Sp.comb (mc r o a) (gx r a) hc ho
  have e : (fun j => mc r o a * gx (crossR r o a) j + gx r a * gx o j) = fun j => gx o a * gx r j := by
    funext j
    rw [cross_eq h]
    rw [Int.mul_comm (gx r j), Int.mul_comm (gx o j)]
    omega
  rwa [e] at this
def upR (m : Nat) (r : Row) : Row := if gx (lowL r) (tp m (lowL r)) < 0 then (lowL r).map (fun x => -x) else lowL r
theorem tipN_congr {m : Nat} {r r' : Row} (h : ∀ j < m, gx r j = 0 ↔ gx r' j = 0) : tipN m r = tipN m r' := by
  cases e : tipN m r' with
  | none =>
    rw [tipN_none] at e ⊢
    exact fun j hj => (h j hj).mpr (e j hj)
  | some t =>
    rw [tipN_some] at e ⊢
    exact ⟨e.1, fun z => e.2.1 ((h t e.1).mp z), fun j hj => (h j (by omega)).mpr (e.2.2 j hj)⟩
theorem low_zero (r : Row) (j : Nat) : gx (lowL r) j = 0 ↔ gx r j = 0 := by
  have h1 := low_mul r j
  have h2 := mz_pos r
  constructor
  · intro h; rw [h] at h1; simpa using h1.symm
  · intro h; rw [h] at h1; exact (Int.mul_eq_zero.mp h1).resolve_left (by omega)
/-- the sign that turns a row up -/
def sg (m : Nat) (r : Row) : Int := if gx (lowL r) (tp m (lowL r)) < 0 then -1 else 1
theorem up_eq (m : Nat) (r : Row) (j : Nat) : gx (upR m r) j = sg m r * gx (lowL r) j := by
  unfold upR sg
  split
  · rw [gx_map (by simp)]; omega
  · omega
theorem sg_ne (m : Nat) (r : Row) : sg m r ≠ 0 := by unfold sg; split <;> decide
theorem up_mul (m : Nat) (r : Row) (j : Nat) : sg m r * mz r * gx (upR m r) j = gx r j := by
  rw [up_eq, ← low_mul r j]
  have : sg m r * sg m r = 1 := by unfold sg; split <;> rfl
  calc sg m r * mz r * (sg m r * gx (lowL r) j) = (sg m r * sg m r) * (mz r * gx (lowL r) j) := by ac_rfl
    _ = _ := by rw [this, Int.one_mul]
theorem up_len (m : Nat) (r : Row) : (upR m r).length = r.length := by unfold upR; split <;> simp [low_len]
theorem up_zero (m : Nat) (r : Row) (j : Nat) : gx (upR m r) j = 0 ↔ gx r j = 0 := by
  rw [up_eq, ← low_zero]
  constructor
  · intro h; exact (Int.mul_eq_zero.mp h).resolve_left (sg_ne m r)
  · intro h; rw [h]; simp
theorem up_sp {P : Fn → Prop} {m : Nat} {r : Row} : Sp P (gx (upR m r)) ↔ Sp P (gx r) := by
  have e : (fun j => sg m r * mz r * gx (upR m r) j) = gx r := funext (up_mul m r)
  constructor
  · intro h
    have := h.smul (sg m r * mz r)
    rwa [e] at this
  · intro h
    refine .div (q := sg m r * mz r) (Int.mul_ne_zero (sg_ne m r) (by have := mz_pos r; omega)) ?_
    rw [e]
    exact h
theorem gcdL_neg (r : Row) : gcdL (r.map fun x => -x) = gcdL r := by
  have h : ∀ d : Int, d ∣ gcdL (r.map fun x => -x) ↔ d ∣ gcdL r := fun d => by
    rw [dvd_gcdL, dvd_gcdL]
    constructor
    · intro h x hx
      have := h (-x) (List.mem_map_of_mem hx)
      exact Int.dvd_neg.mp this
    · intro h x hx
      obtain ⟨y, hy, rfl⟩ := List.mem_map.mp hx
      exact Int.dvd_neg.mpr (h y hy)
  have h1 := (h _).mp (Int.dvd_refl _)
  have h2 := (h _).mpr (Int.dvd_refl _)
  have e := Int.natAbs_dvd_natAbs.mpr h1
  have e' := Int.natAbs_dvd_natAbs.mpr h2
  have e2 := Nat.dvd_antisymm e e'
  have p1 := gcdL_nonneg r
  have p2 := gcdL_nonneg (r.map fun x => -x)
  omega
theorem low_gcd {r : Row} (h : gcdL r ≠ 0) : gcdL (lowL r) = 1 := by
  unfold lowL
  rw [if_neg h]
  exact gcdL_low h
theorem up_ok {m L : Nat} {r : Row} (hl : r.length = L) {t : Nat} (ht : tipN m r = some t) : RowOk m L (upR m r) ∧ tp m (upR m r) = t := by
  have h1 := tipN_some.mp ht
  have e1 : tipN m (upR m r) = some t := by rw [← ht]; exact tipN_congr fun j _ => up_zero m r j
  have e2 : tipN m (lowL r) = some t := by rw [← ht]; exact tipN_congr fun j _ => low_zero r j
  have e3 : tp m (upR m r) = t := by unfold tp; rw [e1]; rfl
  have e4 : tp m (lowL r) = t := by unfold tp; rw [e2]; rfl
  have hne : gx (lowL r) t ≠ 0 := fun z => h1.2.1 ((low_zero r t).mp z)
  have hg : gcdL r ≠ 0 := fun z => h1.2.1 (by
    by_cases hj : t < r.length
    · have hm : gx r t ∈ r := by
        unfold gx
        rw [List.getD_eq_getElem?_getD, List.getElem?_eq_getElem hj]
        exact List.getElem_mem _
      exact gcdL_zero.mp z _ hm
    · exact gx_out (by omega))
  refine ⟨⟨by rw [up_len, hl], by rw [e3, e1], ?_, ?_⟩, e3⟩
  · rw [e3, up_eq]
    unfold sg
    rw [e4]
    split <;> omega
  · unfold upR
    split
    · rw [gcdL_neg]; exact low_gcd hg
    · exact low_gcd hg
/-! ### clearing a row -/
def clear1 (m : Nat) (h o : Row) : Row := if gx h (tp m o) = 0 then h else crossR h o (tp m o)
def clearR (m : Nat) (r : Row) (K : List Row) : Row := K.foldl (clear1 m) r
theorem clear1_len {m : Nat} {h o : Row} (e : h.length = o.length) : (clear1 m h o).length = h.length := by
  unfold clear1
  split
  · rfl
  · exact cross_len e _
theorem clear_ok {m L : Nat} : ∀ (K done : List Row) (h : Row), Red m L (done ++ K) → h.length = L → (∀ k ∈ done, gx h (tp m k) = 0) →
    (clearR m h K).length = L ∧ (∀ k ∈ done ++ K, gx (clearR m h K) (tp m k) = 0) ∧ (∀ P : Fn → Prop, (∀ k ∈ K, Sp P (gx k)) → (Sp P (gx (clearR m h K)) ↔ Sp P (gx h))) := by
  intro K
  induction K with
  | nil =>
    intro done h _ hl h0
    exact ⟨hl, fun k hk => h0 k (by simpa using hk), fun P _ => Iff.rfl⟩
  | cons o K ih =>
    intro done h R hl h0
    have hro := R.row o (by simp)
    have hlo : h.length = o.length := by rw [hl, hro.len]
    have hap := List.pairwise_append.mp R.ap
    have e : clearR m h (o :: K) = clearR m (clear1 m h o) K := rfl
    have hz : ∀ k ∈ done ++ [o], gx (clear1 m h o) (tp m k) = 0 := fun k hk => by
      unfold clear1
      rcases List.mem_append.mp hk with q | q
      · split
        · exact h0 k q
        · exact cross_zero hlo (h0 k q) (hap.2.2 k q o (by simp)).2
      · rw [List.mem_singleton.mp q]
        split
        · assumption
        · exact cross_at hlo _
    have := ih (done ++ [o]) (clear1 m h o) (by rw [List.append_assoc]; exact R) (by rw [clear1_len hlo, hl]) hz
    rw [e]
    refine ⟨this.1, fun k hk => this.2.1 k (by rw [List.append_assoc]; exact hk), fun P hP => ?_⟩
    rw [this.2.2 P fun k hk => hP k (by simp [hk])]
    unfold clear1
    split
    · exact Iff.rfl
    · exact ⟨fun q => cross_back hlo (by have := hro.pos; omega) q (hP o (by simp)), fun q => cross_sp hlo _ q (hP o (by simp))⟩
/-! ### a row is taken in -/
def take1 (m : Nat) (one : Row) (o : Row) : Row := if gx o (tp m one) = 0 then o else upR m (crossR o one (tp m one))
def takeR (m : Nat) (h : Row) (K : List Row) : List Row := upR m h :: K.map (take1 m (upR m h))
theorem take1_ok {m L : Nat} {one o : Row} (h1 : RowOk m L one) (ho : RowOk m L o) (hz : gx one (tp m o) = 0) : RowOk m L (take1 m one o) ∧ tp m (take1 m one o) = tp m o ∧ gx (take1 m one o) (tp m one) = 0 ∧
    (∀ b, gx o b = 0 → gx one b = 0 → gx (take1 m one o) b = 0) ∧ ∀ P : Fn → Prop, Sp P (gx one) → (Sp P (gx (take1 m one o)) ↔ Sp P (gx o)) := by
  unfold take1
  split
  · exact ⟨ho, rfl, by assumption, fun b q _ => q, fun _ _ => Iff.rfl⟩
  · rename_i hne
    have hlen : o.length = one.length := by rw [ho.len, h1.len]
    have t1 := tipN_some.mp h1.tip
    have to := tipN_some.mp ho.tip
    -- the tip of o is ahead of that of one
    have hlt : tp m o < tp m one := by
      rcases Nat.lt_trichotomy (tp m o) (tp m one) with q | q | q
      · exact q
      · rw [q] at hz; exact absurd hz t1.2.1
      · exact absurd (to.2.2 _ q) hne
    have key : ∀ j ≤ tp m o, gx one j = 0 := fun j hj => t1.2.2 j (by omega)
    have ht : tipN m (crossR o one (tp m one)) = some (tp m o) := by
      refine tipN_some.mpr ⟨to.1, fun z => ?_, fun j hj => cross_zero hlen (to.2.2 j hj) (key j (by omega))⟩
      have := cross_eq hlen (tp m one) (tp m o)
      rw [z, key _ (Nat.le_refl _)] at this
      have e : gx o (tp m o) * gx one (tp m one) = 0 := by simpa using this.symm
      rcases Int.mul_eq_zero.mp e with q | q
      · exact to.2.1 q
      · exact t1.2.1 q
    have hu := up_ok (L := L) (by rw [cross_len hlen, ho.len]) ht
    refine ⟨hu.1, hu.2, (up_zero m _ _).mpr (cross_at hlen _), fun b q1 q2 => (up_zero m _ _).mpr (cross_zero hlen q1 q2), fun P hP => ?_⟩
    rw [up_sp]
    exact ⟨fun q => cross_back hlen t1.2.1 q hP, fun q => cross_sp hlen _ q hP⟩
theorem pw_map {α : Type} {R S : α → α → Prop} {f : α → α} : ∀ {l : List α}, (∀ a ∈ l, ∀ b ∈ l, R a b → S (f a) (f b)) → l.Pairwise R → (l.map f).Pairwise S
  | [], _, _ => .nil
  | a :: l, h, p => by
    have h2 := List.pairwise_cons.mp p
    rw [List.map_cons]
    refine List.pairwise_cons.mpr ⟨fun b hb => ?_, pw_map (fun x hx y hy => h x (by simp [hx]) y (by simp [hy])) h2.2⟩
    obtain ⟨y, hy, rfl⟩ := List.mem_map.mp hb
    exact h a (by simp) y (by simp [hy]) (h2.1 y hy)
theorem take_ok {m L : Nat} {h : Row} {K : List Row} (R : Red m L K) (hl : h.length = L) {t : Nat} (ht : tipN m h = some t) (h0 : ∀ k ∈ K, gx h (tp m k) = 0) :
    Red m L (takeR m h K) ∧ (∀ P : Fn → Prop, (∀ k ∈ K, Sp P (gx k)) → Sp P (gx h) → ∀ k ∈ takeR m h K, Sp P (gx k)) ∧ (Sp (inK (takeR m h K)) (gx h) ∧ ∀ k ∈ K, Sp (inK (takeR m h K)) (gx k)) ∧ (takeR m h K).map (tp m) = t :: K.map (tp m) := by
  obtain ⟨hu, hut⟩ := up_ok hl ht
  have hz : ∀ k ∈ K, gx (upR m h) (tp m k) = 0 := fun k hk => (up_zero m h _).mpr (h0 k hk)
  have T := fun k hk => take1_ok hu (R.row k hk) (hz k hk)
  have hone : Sp (inK (takeR m h K)) (gx (upR m h)) := .mem ⟨_, by unfold takeR; simp, rfl⟩
  refine ⟨⟨fun k hk => ?_, ?_⟩, fun P hP hh k hk => ?_, ⟨up_sp.mp hone, fun k hk => ?_⟩, ?_⟩
  · unfold takeR at hk
    rcases List.mem_cons.mp hk with q | q
    · rw [q]; exact hu
    · obtain ⟨o, ho, rfl⟩ := List.mem_map.mp q
      exact (T o ho).1
  · unfold takeR
    refine List.pairwise_cons.mpr ⟨fun b hb => ?_, pw_map (R := Apart m) (fun a ha b hb hab => ?_) R.ap⟩
    · obtain ⟨o, ho, rfl⟩ := List.mem_map.mp hb
      exact ⟨by rw [(T o ho).2.1]; exact hz o ho, (T o ho).2.2.1⟩
    · exact ⟨by rw [(T b hb).2.1]; exact (T a ha).2.2.2.1 _ hab.1 (hz b hb), by rw [(T a ha).2.1]; exact (T b hb).2.2.2.1 _ hab.2 (hz a ha)⟩
  · unfold takeR at hk
    rcases List.mem_cons.mp hk with q | q
    · rw [q]; exact up_sp.mpr hh
    · obtain ⟨o, ho, rfl⟩ := List.mem_map.mp q
      exact ((T o ho).2.2.2.2 P (up_sp.mpr hh)).mpr (hP o ho)
  · exact ((T k hk).2.2.2.2 _ hone).mp (.mem ⟨_, by unfold takeR; exact List.mem_cons_of_mem _ (List.mem_map_of_mem hk), rfl⟩)
  · unfold takeR
    rw [List.map_cons, hut, List.map_map]
    congr 1
    exact List.map_congr_left fun k hk => (T k hk).2.1
/-! ### rows gathered -/
def gath1 (m : Nat) (K : List Row) (r : Row) : List Row := if (tipN m (clearR m r K)).isSome = true then takeR m (clearR m r K) K else K
def gathR (m : Nat) (rows : List Row) : List Row := rows.foldl (gath1 m) []
/-- of these rows, or nothing at the first m places -/
def inKZ (m : Nat) (K : List Row) (v : Fn) : Prop := inK K v ∨ ∀ j < m, v j = 0
theorem Red.zm {m L : Nat} {K : List Row} (h : Red m L K) {C : Int} (hC : ∀ k ∈ K, gx k (tp m k) ∣ C) {u : Fn} (hu : Sp (inKZ m K) u) {j : Nat} (hj : j < m) : C * u j = zsum m C K u j := by
  refine Sp.lin (Q := fun u => C * u j = zsum m C K u j) ⟨?_, fun a b u v h1 h2 => ?_, fun q v hq h1 => ?_⟩ (fun v hv => ?_) hu
  · have := zsum_mul m C K 0 (fun _ => 0) j
    simp only [Int.zero_mul] at this
    rw [this]; simp
  · rw [zsum_comb, ← h1, ← h2, Int.mul_add]
    congr 1 <;> ac_rfl
  · rw [zsum_mul] at h1
    have e : q * (C * v j) = q * zsum m C K v j := by rw [← h1]; ac_rfl
    exact Int.eq_of_mul_eq_mul_left hq e
  · rcases hv with ⟨k, hk, e⟩ | hv
    · rw [e]; exact (zsum_mem h hC hk j).symm
    · rw [hv j hj]
      unfold zsum
      rw [sum_zero K (fun k hk => by rw [hv _ (tipN_some.mp (h.row k hk).tip).1]; simp)]
      simp
/-- the rows gathered of rows of L numbers, by the first m of them -/
structure Gath (m L : Nat) (rows K : List Row) : Prop where
  red : Red m L K
  of_ : ∀ k ∈ K, Sp (inK rows) (gx k)
  to : ∀ r ∈ rows, Sp (inKZ m K) (gx r)
  len : K.length ≤ rows.length
theorem Gath.toK {m : Nat} {rows K : List Row} (g : Gath m m rows K) (hl : ∀ r ∈ rows, r.length = m) : ∀ r ∈ rows, Sp (inK K) (gx r) := fun r hr => by
  have hC := g.red.leads_pos
  refine .div (q := leads m K) (by omega) ?_
  have e : (fun j => leads m K * gx r j) = zsum m (leads m K) K (gx r) := by
    funext j
    by_cases hj : j < m
    · exact g.red.zm (fun k hk => leads_dvd k hk) (g.to r hr) hj
    · rw [gx_out (r := r) (j := j) (by rw [hl r hr]; omega)]
      unfold zsum
      rw [sum_zero K (fun k hk => by rw [gx_out (r := k) (j := j) (by rw [(g.red.row k hk).len]; omega)]; simp)]
      simp
  rw [e]
  exact zsum_sp _ _ _
theorem gath_step {m L : Nat} {done K : List Row} {r : Row} (hr : r.length = L) (g : Gath m L done K) : Gath m L (done ++ [r]) (gath1 m K r) := by
  have C := clear_ok (m := m) (L := L) K [] r (by simpa using g.red) hr (by simp)
  have hmono : ∀ u, Sp (inK done) u → Sp (inK (done ++ [r])) u := fun u x => x.mono fun v ⟨k, hk, e⟩ => .mem ⟨k, by simp [hk], e⟩
  have hrS : Sp (inK (done ++ [r])) (gx r) := .mem ⟨r, by simp, rfl⟩
  have hh : Sp (inK (done ++ [r])) (gx (clearR m r K)) := (C.2.2 _ fun k hk => hmono _ (g.of_ k hk)).mpr hrS
  unfold gath1
  cases e : tipN m (clearR m r K) with
  | none =>
    rw [if_neg (by simp)]
    refine ⟨g.red, fun k hk => hmono _ (g.of_ k hk), fun q hq => ?_, by have := g.len; simp; omega⟩
    rcases List.mem_append.mp hq with z | z
    · exact g.to q z
    · rw [List.mem_singleton.mp z]
      exact (C.2.2 _ fun k hk => .mem (.inl ⟨k, hk, rfl⟩)).mp (.mem (.inr fun j hj => tipN_none.mp e j hj))
  | some t =>
    rw [if_pos (show (some t).isSome = true from rfl)]
    obtain ⟨t1, t2, t3, t4⟩ := take_ok g.red C.1 e (fun k hk => C.2.1 k (by simpa using hk))
    have hup : ∀ u, Sp (inK (takeR m (clearR m r K) K)) u → Sp (inKZ m (takeR m (clearR m r K) K)) u := fun u x => x.mono fun v z => .mem (.inl z)
    have hKK : ∀ u, Sp (inKZ m K) u → Sp (inKZ m (takeR m (clearR m r K) K)) u := fun u x => x.mono fun v z => by
      rcases z with ⟨k, hk, e⟩ | z
      · rw [e]; exact hup _ (t3.2 k hk)
      · exact .mem (.inr z)
    refine ⟨t1, fun k hk => t2 _ (fun k hk => hmono _ (g.of_ k hk)) hh k hk, fun q hq => ?_, ?_⟩
    · rcases List.mem_append.mp hq with z | z
      · exact hKK _ (g.to q z)
      · rw [List.mem_singleton.mp z]
        exact (C.2.2 _ fun k hk => hup _ (t3.2 k hk)).mp (hup _ t3.1)
    · have := g.len
      unfold takeR
      simp
      omega
theorem gath_nil {m L : Nat} : Gath m L [] [] := ⟨⟨by simp, .nil⟩, by simp, by simp, Nat.le_refl _⟩
theorem gath_go {m L : Nat} : ∀ (rows done K : List Row), (∀ r ∈ rows, r.length = L) → Gath m L done K → Gath m L (done ++ rows) (rows.foldl (gath1 m) K)
  | [], done, K, _, g => by simpa using g
  | r :: rows, done, K, hl, g => by
    have := gath_go rows (done ++ [r]) (gath1 m K r) (fun q hq => hl q (by simp [hq])) (gath_step (hl r (by simp)) g)
    rwa [List.append_assoc] at this
theorem gath_ok {m L : Nat} {rows : List Row} (hl : ∀ r ∈ rows, r.length = L) : Gath m L rows (gathR m rows) := gath_go rows [] [] hl gath_nil
/-! ### in the order of their tips -/
def Asc (m : Nat) (K : List Row) : Prop := K.Pairwise fun a b => tp m a < tp m b
theorem tips_ne {m L : Nat} {K : List Row} (h : Red m L K) : (K.map (tp m)).Nodup := by
  refine (List.pairwise_map (f := tp m)).mpr (List.Pairwise.imp_of_mem (fun {a b} ha hb hab e => ?_) h.ap)
  have hp := (h.row a ha).pos
  rw [e, hab.1] at hp
  omega
theorem row_ext {a b : Row} (hl : a.length = b.length) (h : ∀ j, gx a j = gx b j) : a = b := by
  refine List.ext_getElem hl fun j h1 h2 => ?_
  have := h j
  unfold gx at this
  simpa [List.getD_eq_getElem?_getD, List.getElem?_eq_getElem h1, List.getElem?_eq_getElem h2] using this
theorem gcdL_smul (c : Int) (r : Row) : gcdL (r.map fun x => c * x) = (c.natAbs : Int) * gcdL r := by
  have go : ∀ (r : Row) (g : Int), (r.map fun x => c * x).foldl (fun g x => (Int.gcd g x : Int)) ((c.natAbs : Int) * g) = (c.natAbs : Int) * r.foldl (fun g x => (Int.gcd g x : Int)) g := by
    intro r
    induction r with
    | nil => intro g; rfl
    | cons x r ih =>
      intro g
      rw [List.map_cons, List.foldl_cons, List.foldl_cons]
      have : ((Int.gcd ((c.natAbs : Int) * g) (c * x) : Nat) : Int) = (c.natAbs : Int) * (Int.gcd g x : Int) := by
        have : Int.gcd ((c.natAbs : Int) * g) (c * x) = c.natAbs * Int.gcd g x := by
          unfold Int.gcd
          rw [Int.natAbs_mul, Int.natAbs_mul, Int.natAbs_natCast, Nat.gcd_mul_left]
        rw [this]; simp
      rw [this, ih]
  have := go r 0
  rw [Int.mul_zero] at this
  exact this
/-- what plain tells -/
structure Plain (m : Nat) (rows K : List Row) : Prop extends Gath m m rows K where
  asc : Asc m K
  toK : ∀ r ∈ rows, Sp (inK K) (gx r)
/-! ### determinants, to bound the rows -/
def lap (f : List Nat → Int) (r : Row) : List Nat → List Nat → Int
  | _, [] => 0
  | A, b :: B => gx r b * f (A ++ B) - lap f r (A ++ [b]) B
def dt : List Row → List Nat → Int
  | [], P => if P = [] then 1 else 0
  | r :: R, P => lap (dt R) r [] P
def Swp (f : List Nat → Int) : Prop := ∀ A x y B, f (A ++ x :: y :: B) = -f (A ++ y :: x :: B)
theorem lap_pre {f : List Nat → Int} (h : Swp f) (r : Row) (x y : Nat) : ∀ (C A1 A2 : List Nat), lap f r (A1 ++ x :: y :: A2) C = -lap f r (A1 ++ y :: x :: A2) C
  | [], _, _ => rfl
  | c :: C, A1, A2 => by
    have ih := lap_pre h r x y C A1 (A2 ++ [c])
    have h1 := h A1 x y (A2 ++ C)
    unfold lap
    simp only [List.append_assoc, List.cons_append] at ih h1 ⊢
    rw [ih, h1, Int.mul_neg]
    omega
theorem lap_swp {f : List Nat → Int} (h : Swp f) (r : Row) (x y : Nat) (C : List Nat) : ∀ (B A : List Nat), lap f r A (B ++ x :: y :: C) = -lap f r A (B ++ y :: x :: C)
  | [], A => by
    have h1 := lap_pre h r x y C A []
    simp only [List.nil_append, lap, List.append_assoc, List.cons_append] at h1 ⊢
    rw [h1]
    omega
  | b :: B, A => by
    have ih := lap_swp h r x y C B (A ++ [b])
    have h1 := h (A ++ B) x y C
    simp only [List.cons_append, lap, List.append_assoc] at ih h1 ⊢
    rw [ih, h1, Int.mul_neg]
    omega
theorem dt_swp : ∀ R : List Row, Swp (dt R)
  | [] => fun A x y B => by simp [dt]
  | r :: R => fun A x y B => by
    unfold dt
    exact lap_swp (dt_swp R) r x y B A []
theorem dt_twice (R : List Row) (x : Nat) : ∀ (B A C : List Nat), dt R (A ++ x :: (B ++ x :: C)) = 0
  | [], A, C => by
    have := dt_swp R A x x C
    simp only [List.nil_append]
    omega
  | b :: B, A, C => by
    have h1 := dt_swp R A x b (B ++ x :: C)
    have h2 := dt_twice R x B (A ++ [b]) C
    simp only [List.cons_append, List.append_assoc, List.nil_append] at h1 h2 ⊢
    rw [h1, h2]
    rfl
/-- a column told twice -/
theorem dt_dup {R : List Row} {A B : List Nat} {x : Nat} (h : x ∈ A ∨ x ∈ B) : dt R (A ++ x :: B) = 0 := by
  rcases h with h | h
  · obtain ⟨A1, A2, e⟩ := List.append_of_mem h
    rw [e, List.append_assoc, List.cons_append]
    exact dt_twice R x A2 A1 B
  · obtain ⟨B1, B2, e⟩ := List.append_of_mem h
    rw [e]
    exact dt_twice R x B1 A B2
theorem Sp.sub {P : Fn → Prop} {u v : Fn} (h1 : Sp P u) (h2 : Sp P v) : Sp P (fun j => u j - v j) := by
  have := Sp.comb 1 (-1) h1 h2
  have e : (fun j => 1 * u j + -1 * v j) = fun j => u j - v j := by funext j; omega
  rwa [e] at this
theorem lap_preS {P : Fn → Prop} {f : List Nat → Int} (h : ∀ A B, Sp P (fun j => f (A ++ j :: B))) (r : Row) : ∀ (C A1 A2 : List Nat), Sp P (fun j => lap f r (A1 ++ j :: A2) C)
  | [], _, _ => .zero
  | c :: C, A1, A2 => by
    have ih := lap_preS h r C A1 (A2 ++ [c])
    have h1 := (h A1 (A2 ++ C)).smul (gx r c)
    have := h1.sub ih
    unfold lap
    simpa only [List.append_assoc, List.cons_append] using this
theorem lap_S {P : Fn → Prop} {f : List Nat → Int} (h : ∀ A B, Sp P (fun j => f (A ++ j :: B))) {r : Row} (hr : Sp P (gx r)) (B : List Nat) : ∀ (A A0 : List Nat), Sp P (fun j => lap f r A0 (A ++ j :: B))
  | [], A0 => by
    have h1 := hr.smul (f (A0 ++ B))
    have h2 := lap_preS h r B A0 []
    have := h1.sub h2
    have e : (fun j => f (A0 ++ B) * gx r j - lap f r (A0 ++ [j]) B) = fun j => lap f r A0 ([] ++ j :: B) := by
      funext j
      simp only [List.nil_append, lap]
      rw [Int.mul_comm]
    rwa [e] at this
  | a :: A, A0 => by
    have ih := lap_S h hr B A (A0 ++ [a])
    have h1 := (h (A0 ++ A) B).smul (gx r a)
    have := h1.sub ih
    simp only [List.cons_append, lap]
    simpa only [List.append_assoc] using this
theorem dt_S : ∀ (R : List Row) (A B : List Nat), Sp (inK R) (fun j => dt R (A ++ j :: B))
  | [], A, B => by
    have : (fun j => dt [] (A ++ j :: B)) = fun _ => 0 := by funext j; simp [dt]
    rw [this]
    exact .zero
  | r :: R, A, B => by
    have h : ∀ A B, Sp (inK (r :: R)) (fun j => dt R (A ++ j :: B)) := fun A B => (dt_S R A B).mono fun v ⟨k, hk, e⟩ => .mem ⟨k, by simp [hk], e⟩
    exact lap_S h (.mem ⟨r, by simp, rfl⟩) B A []
theorem dt_new (r : Row) (R : List Row) (P : List Nat) : Sp (inK R) (fun j => dt (r :: R) (j :: P) - dt R P * gx r j) := by
  have h := lap_preS (P := inK R) (f := dt R) (fun A B => dt_S R A B) r P [] []
  have e : (fun j => dt (r :: R) (j :: P) - dt R P * gx r j) = fun j => (-1) * lap (dt R) r ([] ++ j :: []) P := by
    funext j
    simp only [dt, lap, List.nil_append]
    rw [Int.mul_comm]
    omega
  rw [e]
  exact h.smul (-1)
theorem lap_bd {f : List Nat → Int} {r : Row} {M F : Nat} {n : Nat} (hr : ∀ j, (gx r j).natAbs ≤ M) (hf : ∀ P : List Nat, P.length ≤ n → (f P).natAbs ≤ F) : ∀ (B A : List Nat), A.length + B.length ≤ n + 1 → (lap f r A B).natAbs ≤ B.length * (M * F)
  | [], _, _ => by simp [lap]
  | b :: B, A, hl => by
    have ih := lap_bd hr hf B (A ++ [b]) (by simp at hl ⊢; omega)
    have h1 : (gx r b * f (A ++ B)).natAbs ≤ M * F := by
      rw [Int.natAbs_mul]
      exact Nat.mul_le_mul (hr b) (hf _ (by simp at hl ⊢; omega))
    unfold lap
    rw [List.length_cons, Nat.succ_mul]
    omega
theorem dt_bd {M n : Nat} (hM : 1 ≤ n * M) : ∀ (R : List Row), (∀ r ∈ R, ∀ j, (gx r j).natAbs ≤ M) → ∀ P : List Nat, P.length ≤ n → (dt R P).natAbs ≤ (n * M) ^ R.length
  | [], _, P, _ => by
    unfold dt
    split <;> simp
  | r :: R, h, P, hP => by
    have ih := dt_bd hM R fun q hq => h q (by simp [hq])
    unfold dt
    have := lap_bd (f := dt R) (r := r) (M := M) (F := (n * M) ^ R.length) (n := n) (h r (by simp)) ih P [] (by simp; omega)
    refine Nat.le_trans this ?_
    rw [List.length_cons, Nat.pow_succ]
    calc P.length * (M * (n * M) ^ R.length) ≤ n * (M * (n * M) ^ R.length) := Nat.mul_le_mul_right _ hP
      _ = (n * M) ^ R.length * (n * M) := by rw [← Nat.mul_assoc, Nat.mul_comm]
/-- the rows that were taken in, beside what they became -/
structure Dt (m : Nat) (R K : List Row) : Prop where
  len : R.length = K.length
  ne : dt R (K.map (tp m)) ≠ 0
  sp : ∀ r ∈ R, Sp (inK K) (gx r)
theorem dvd_gcd_mul {D t : Int} {k : Row} (hk : gcdL k = 1) (h : ∀ j, t ∣ D * gx k j) : t ∣ D := by
  have h1 : t ∣ gcdL (k.map fun x => D * x) := dvd_gcdL.mpr fun x hx => by
    obtain ⟨y, hy, rfl⟩ := List.mem_map.mp hx
    obtain ⟨i, hi⟩ := List.getElem?_of_mem hy
    have := h i
    unfold gx at this
    rw [List.getD_eq_getElem?_getD, hi] at this
    exact this
  rw [gcdL_smul, hk, Int.mul_one] at h1
  exact Int.dvd_natAbs.mp h1
/-- each row of a reduced list is at most as great as a minor -/
theorem Dt.bd {m L : Nat} {R K : List Row} (d : Dt m R K) (h : Red m L K) {M n : Nat} (hM : 1 ≤ n * M) (hn : K.length ≤ n) (hR : ∀ r ∈ R, ∀ j, (gx r j).natAbs ≤ M) {k : Row} (hk : k ∈ K) (j : Nat) : (gx k j).natAbs ≤ (n * M) ^ R.length := by
  obtain ⟨A, B, e⟩ := List.append_of_mem hk
  have hr := h.row k hk
  have hP : K.map (tp m) = A.map (tp m) ++ tp m k :: B.map (tp m) := by rw [e]; simp
  have hD := d.ne
  rw [hP] at hD
  -- the column of k, any other one in its place
  have hw : Sp (inK K) (fun j => dt R (A.map (tp m) ++ j :: B.map (tp m))) := (dt_S R (A.map (tp m)) (B.map (tp m))).mono fun v ⟨r, hr, e⟩ => by rw [e]; exact d.sp r hr
  have hz : ∀ k' ∈ A ++ B, dt R (A.map (tp m) ++ tp m k' :: B.map (tp m)) = 0 := fun k' hk' => by
    refine dt_dup ?_
    rcases List.mem_append.mp hk' with q | q
    · exact .inl (List.mem_map_of_mem q)
    · exact .inr (List.mem_map_of_mem q)
  have hC := h.leads_pos
  have hd := leads_dvd (m := m) k hk
  have hs : ∀ j, leads m K * dt R (A.map (tp m) ++ j :: B.map (tp m)) = leads m K / gx k (tp m k) * dt R (A.map (tp m) ++ tp m k :: B.map (tp m)) * gx k j := fun j => by
    rw [h.z (C := leads m K) (fun k hk => leads_dvd k hk) hw j]
    unfold zsum
    generalize leads m K = C
    rw [e, List.map_append, List.map_cons, List.sum_append, List.sum_cons, sum_zero A (fun k' hk' => by
      simp only [hz k' (by simp [hk'])]; simp), sum_zero B (fun k' hk' => by
      simp only [hz k' (by simp [hk'])]; simp)]
    simp only [Int.zero_add, Int.add_zero]
  have hc : leads m K / gx k (tp m k) ≠ 0 := by
    have := Int.ediv_pos_of_pos_of_dvd hC (Int.le_of_lt hr.pos) hd
    omega
  have ht : ∀ j, gx k (tp m k) * dt R (A.map (tp m) ++ j :: B.map (tp m)) = dt R (A.map (tp m) ++ tp m k :: B.map (tp m)) * gx k j := fun j => by
    refine Int.eq_of_mul_eq_mul_left hc ?_
    have := hs j
    rw [← Int.ediv_mul_cancel hd] at this
    have e2 : leads m K / gx k (tp m k) * gx k (tp m k) / gx k (tp m k) = leads m K / gx k (tp m k) := by rw [Int.ediv_mul_cancel hd]
    rw [e2] at this
    rw [← Int.mul_assoc, this, Int.mul_assoc]
  obtain ⟨s, hs2⟩ := dvd_gcd_mul hr.low (D := dt R (A.map (tp m) ++ tp m k :: B.map (tp m))) (t := gx k (tp m k)) fun j => ⟨_, (ht j).symm⟩
  have hs0 : s ≠ 0 := fun z => hD (by rw [hs2, z]; simp)
  have hwk : dt R (A.map (tp m) ++ j :: B.map (tp m)) = s * gx k j := by
    have := ht j
    rw [hs2, Int.mul_assoc] at this
    exact Int.eq_of_mul_eq_mul_left (by have := hr.pos; omega) this
  have hb := dt_bd hM R hR (A.map (tp m) ++ j :: B.map (tp m)) (by
    rw [e] at hn
    simp at hn ⊢
    omega)
  rw [hwk, Int.natAbs_mul] at hb
  have : 1 ≤ s.natAbs := by omega
  have := Nat.mul_le_mul_right (gx k j).natAbs this
  omega
/-- a cleared row is the row, but for the rows that it was cleared by -/
theorem clear_rel {m L : Nat} : ∀ (K done : List Row) (h : Row), Red m L (done ++ K) → h.length = L → ∃ a b : Int, a ≠ 0 ∧ b ≠ 0 ∧ Sp (inK K) (fun j => a * gx (clearR m h K) j - b * gx h j) := by
  intro K
  induction K with
  | nil => intro done h _ _; exact ⟨1, 1, by decide, by decide, by simp [clearR]; exact .zero⟩
  | cons o K ih =>
    intro done h R hl
    have hro := R.row o (by simp)
    have hlo : h.length = o.length := by rw [hl, hro.len]
    obtain ⟨a, b, ha, hb, hs⟩ := ih (done ++ [o]) (clear1 m h o) (by rw [List.append_assoc]; exact R) (by rw [clear1_len hlo, hl])
    have hs' : Sp (inK (o :: K)) (fun j => a * gx (clearR m h (o :: K)) j - b * gx (clear1 m h o) j) := hs.mono fun v ⟨k, hk, e⟩ => .mem ⟨k, by simp [hk], e⟩
    by_cases hc : gx h (tp m o) = 0
    · have e : clear1 m h o = h := by unfold clear1; rw [if_pos hc]
      rw [e] at hs'
      exact ⟨a, b, ha, hb, hs'⟩
    · have e : clear1 m h o = crossR h o (tp m o) := by unfold clear1; rw [if_neg hc]
      rw [e] at hs'
      have ho : Sp (inK (o :: K)) (gx o) := .mem ⟨o, by simp, rfl⟩
      have hp := mc_pos h o (tp m o)
      refine ⟨mc h o (tp m o) * a, b * gx o (tp m o), Int.mul_ne_zero (by omega) ha, Int.mul_ne_zero hb (by have := hro.pos; omega), ?_⟩
      have := Sp.comb (mc h o (tp m o)) (-(b * gx h (tp m o))) hs' ho
      have e2 : (fun j => mc h o (tp m o) * (a * gx (clearR m h (o :: K)) j - b * gx (crossR h o (tp m o)) j) + -(b * gx h (tp m o)) * gx o j) = fun j => mc h o (tp m o) * a * gx (clearR m h (o :: K)) j - b * gx o (tp m o) * gx h j := by
        funext j
        have hx := cross_eq hlo (tp m o) j
        have h1 : mc h o (tp m o) * (b * gx (crossR h o (tp m o)) j) = b * (gx h j * gx o (tp m o) - gx o j * gx h (tp m o)) := by rw [← hx]; ac_rfl
        rw [Int.mul_sub, h1, Int.mul_sub, Int.neg_mul]
        have h2 : b * (gx o j * gx h (tp m o)) = b * gx h (tp m o) * gx o j := by ac_rfl
        have h3 : b * (gx h j * gx o (tp m o)) = b * gx o (tp m o) * gx h j := by ac_rfl
        have h4 : mc h o (tp m o) * (a * gx (clearR m h (o :: K)) j) = mc h o (tp m o) * a * gx (clearR m h (o :: K)) j := by ac_rfl
        rw [h2, h3, h4]
        omega
      rwa [e2] at this
theorem Dt.nil {m : Nat} : Dt m [] [] := ⟨rfl, by simp [dt], by simp⟩
/-- a row taken in -/
theorem Dt.take {m L : Nat} {R K : List Row} (d : Dt m R K) (h : Red m L K) {r : Row} (hl : r.length = L) {t : Nat} (ht : tipN m (clearR m r K) = some t) : Dt m (r :: R) (takeR m (clearR m r K) K) := by
  have C := clear_ok (m := m) (L := L) K [] r (by simpa using h) hl (by simp)
  have h0 : ∀ k ∈ K, gx (clearR m r K) (tp m k) = 0 := fun k hk => C.2.1 k (by simpa using hk)
  obtain ⟨t1, t2, t3, t4⟩ := take_ok h C.1 ht h0
  have hK : ∀ u, Sp (inK K) u → Sp (inK (takeR m (clearR m r K) K)) u := fun u x => x.mono fun v ⟨k, hk, e⟩ => by rw [e]; exact t3.2 k hk
  refine ⟨by unfold takeR; simp [d.len], ?_, fun q hq => ?_⟩
  · rw [t4]
    intro z
    obtain ⟨a, b, ha, hb, hs⟩ := clear_rel (m := m) (L := L) K [] r (by simpa using h) hl
    have hn : Sp (inK K) (fun j => dt (r :: R) (j :: K.map (tp m)) - dt R (K.map (tp m)) * gx r j) := (dt_new r R (K.map (tp m))).mono fun v ⟨q, hq, e⟩ => by rw [e]; exact d.sp q hq
    -- b times the minor less D a times the cleared row
    have hu : Sp (inK K) (fun j => b * dt (r :: R) (j :: K.map (tp m)) - dt R (K.map (tp m)) * a * gx (clearR m r K) j) := by
      have := Sp.comb b (-(dt R (K.map (tp m)))) hn hs
      have e : (fun j => b * (dt (r :: R) (j :: K.map (tp m)) - dt R (K.map (tp m)) * gx r j) + -(dt R (K.map (tp m))) * (a * gx (clearR m r K) j - b * gx r j)) = fun j => b * dt (r :: R) (j :: K.map (tp m)) - dt R (K.map (tp m)) * a * gx (clearR m r K) j := by
        funext j
        rw [Int.mul_sub, Int.mul_sub, Int.neg_mul, Int.neg_mul]
        have h1 : b * (dt R (K.map (tp m)) * gx r j) = dt R (K.map (tp m)) * (b * gx r j) := by ac_rfl
        have h2 : dt R (K.map (tp m)) * (a * gx (clearR m r K) j) = dt R (K.map (tp m)) * a * gx (clearR m r K) j := by ac_rfl
        rw [h1, h2]
        omega
      rwa [e] at this
    have hz := h.zero hu (fun k hk => by
      show b * dt (r :: R) (tp m k :: K.map (tp m)) - _ = 0
      rw [show tp m k :: K.map (tp m) = [] ++ tp m k :: K.map (tp m) from rfl, dt_dup (.inr (List.mem_map_of_mem hk)), h0 k hk]
      simp) t
    have hz' : b * dt (r :: R) (t :: K.map (tp m)) - dt R (K.map (tp m)) * a * gx (clearR m r K) t = 0 := hz
    rw [z] at hz'
    have h5 : dt R (K.map (tp m)) * a * gx (clearR m r K) t = 0 := by omega
    rcases Int.mul_eq_zero.mp h5 with q | q
    · rcases Int.mul_eq_zero.mp q with q | q
      · exact d.ne q
      · exact ha q
    · exact (tipN_some.mp ht).2.1 q
  · rcases List.mem_cons.mp hq with z | z
    · rw [z]
      exact (C.2.2 _ fun k hk => t3.2 k hk).mp t3.1
    · exact hK _ (d.sp q z)
/-! ### how great the numbers get -/
def SzR (n : Nat) (r : Row) : Prop := ∀ j, Sz n (gx r j)
theorem SzR.mem {n : Nat} {r : Row} (h : SzR n r) : ∀ x ∈ r, Sz n x := fun x hx => by
  obtain ⟨i, hi⟩ := List.getElem?_of_mem hx
  have := h i
  unfold gx at this
  rwa [List.getD_eq_getElem?_getD, hi] at this
theorem gx_mem {r : Row} {j : Nat} (hj : j < r.length) : gx r j ∈ r := by
  unfold gx
  rw [List.getD_eq_getElem?_getD, List.getElem?_eq_getElem hj]
  exact List.getElem_mem _
theorem SzR.of {n : Nat} {r : Row} (h : ∀ x ∈ r, Sz n x) : SzR n r := fun j => by
  by_cases hj : j < r.length
  · refine h _ ?_
    unfold gx
    rw [List.getD_eq_getElem?_getD, List.getElem?_eq_getElem hj]
    exact List.getElem_mem _
  · rw [gx_out (by omega)]; exact Sz.zero
theorem SzR.le {n m : Nat} {r : Row} (h : SzR n r) (hm : n ≤ m) : SzR m r := fun j => (h j).le hm
theorem tips_bd {m L : Nat} {K : List Row} (h : Red m L K) : K.length ≤ m := by
  have := nodup_len (K.map (tp m)) (List.range m) (tips_ne h) (fun x hx => by
    obtain ⟨k, hk, rfl⟩ := List.mem_map.mp hx
    exact List.mem_range.mpr (tipN_some.mp (h.row k hk).tip).1)
  simpa using this
/-- bits of a reduced row, of rows of b bits -/
def bK (b : Nat) : Nat := 7 * (b + 3)
/-- bits of a cleared row -/
def bH (b : Nat) : Nat := 8 * bK b + b + 4
theorem Dt.sz {m L b : Nat} {R K : List Row} (d : Dt m R K) (h : Red m L K) (hm : m ≤ 7) (hR : ∀ r ∈ R, SzR b r) : ∀ k ∈ K, SzR (bK b) k := fun k hk j => by
  have hl := tips_bd h
  have h1 := d.bd h (M := 2 ^ b) (n := 7) (by have := Nat.pow_pos (n := b) (show 0 < 2 by decide); omega) (by omega) (fun r hr j => Nat.le_of_lt (hR r hr j)) hk j
  have h2 : (7 * 2 ^ b) ^ R.length ≤ (7 * 2 ^ b) ^ 7 := Nat.pow_le_pow_right (by have := Nat.pow_pos (n := b) (show 0 < 2 by decide); omega) (by rw [d.len]; omega)
  have h3 : (7 * 2 ^ b) ^ 7 < (2 ^ (b + 3)) ^ 7 := Nat.pow_lt_pow_left (by rw [Nat.pow_add]; have := Nat.pow_pos (n := b) (show 0 < 2 by decide); omega) (by decide)
  unfold Sz bK
  have h4 : (2 ^ (b + 3)) ^ 7 = 2 ^ (7 * (b + 3)) := by rw [← Nat.pow_mul, Nat.mul_comm]
  rw [h4] at h3
  omega
theorem idx_gx {r : Row} {j : Nat} (h : j < r.length) {P : Int → Prop} {E : Exn → Prop} (hp : P (gx r j)) : (idx r (j : Int)).wp P E := by
  refine idx_of (x := gx r j) (by omega) ?_ hp
  rw [Int.toNat_natCast]
  unfold gx
  rw [List.getD_eq_getElem?_getD, List.getElem?_eq_getElem h]
  rfl
theorem rng_nat (m : Nat) : rng 0 (m : Int) = (List.range m).map fun i => ((i : Nat) : Int) := by
  unfold rng
  rw [show ((m : Int) - 0).toNat = m by omega]
  exact List.map_congr_left fun i _ => by omega
theorem le_setI {α : Type} {xs : List α} {i : Nat} {a : α} (h : i < xs.length) {P : List α → Prop} {E : Exn → Prop} (hp : P (xs.set i a)) : (setI xs (i : Int) a).wp P E := by
  have e : L2.ixN xs.length (i : Int) = some i := by
    unfold L2.ixN
    rw [if_pos (by omega), if_pos (by omega)]
    simp
  unfold setI
  rw [e]
  exact hp
theorem zip_map_self {α β : Type} (f : α → β) : ∀ xs : List α, xs.zip (xs.map f) = xs.map fun x => (x, f x)
  | [] => rfl
  | x :: xs => by rw [List.map_cons, List.zip_cons_cons, zip_map_self f xs, List.map_cons]
theorem gx_app (a b : Row) (j : Nat) : gx (a ++ b) j = if j < a.length then gx a j else gx b (j - a.length) := by
  unfold gx
  rw [List.getD_eq_getElem?_getD, List.getElem?_append]
  split <;> rfl
theorem gx_rep (n j : Nat) : gx (List.replicate n 0) j = 0 := by
  unfold gx
  rw [List.getD_eq_getElem?_getD, List.getElem?_replicate]
  split <;> rfl
theorem gx_set (r : Row) (i : Nat) (x : Int) (j : Nat) : gx (r.set i x) j = if i = j ∧ i < r.length then x else gx r j := by
  unfold gx
  rw [List.getD_eq_getElem?_getD, List.getElem?_set, List.getD_eq_getElem?_getD]
  by_cases h : i = j
  · subst h
    by_cases h2 : i < r.length
    · simp [h2]
    · simp [h2]
  · simp [h]
def unitR (i n : Nat) : Row := (List.replicate n (0 : Int)).set i 1
theorem unitR_gx {i n : Nat} (h : i < n) (j : Nat) : gx (unitR i n) j = if i = j then 1 else 0 := by
  unfold unitR
  rw [gx_set, gx_rep]
  by_cases e : i = j
  · rw [if_pos ⟨e, by simpa using h⟩, if_pos e]
  · rw [if_neg (fun z => e z.1), if_neg e]
theorem unitR_len (i n : Nat) : (unitR i n).length = n := by unfold unitR; simp
def rw_ (rows : List Row) (i : Nat) : Row := rows.getD i []
def rsum (n : Nat) (f : Nat → Int) : Int := ((List.range n).map f).sum
theorem rsum_comb (n : Nat) (a b : Int) (f g : Nat → Int) : rsum n (fun i => a * f i + b * g i) = a * rsum n f + b * rsum n g := sum_comb a b f g _
theorem rsum_ind {n i : Nat} (h : i < n) (f : Nat → Int) : rsum n (fun l => (if i = l then 1 else 0) * f l) = f i := by
  unfold rsum
  induction n with
  | zero => omega
  | succ n ih =>
    rw [List.range_succ, List.map_append, List.sum_append]
    by_cases e : i = n
    · subst e
      rw [sum_zero (List.range i) (fun l hl => by
        have := List.mem_range.mp hl
        rw [if_neg (by omega)]; simp)]
      simp
    · rw [ih (by omega)]
      simp [e]
theorem gx_rangeMap (n : Nat) (f : Nat → Int) {i : Nat} (h : i < n) : gx ((List.range n).map f) i = f i := by
  unfold gx
  rw [List.getD_eq_getElem?_getD, List.getElem?_map, List.getElem?_range h]
  rfl
theorem rsum_congr {n : Nat} {f g : Nat → Int} (h : ∀ i < n, f i = g i) : rsum n f = rsum n g := by
  unfold rsum
  rw [List.map_congr_left fun i hi => h i (List.mem_range.mp hi)]
theorem rsum_mul (n : Nat) (a : Int) (f : Nat → Int) : rsum n (fun i => a * f i) = a * rsum n f := by
  have := rsum_comb n a 0 f (fun _ => 0)
  simpa using this
/-! ### dot products, kernels -/
def dotF (m : Nat) (u v : Fn) : Int := rsum m fun j => u j * v j
def Kern (m : Nat) (rows : List Row) (u : Fn) : Prop := ∀ r ∈ rows, dotF m (gx r) u = 0
theorem dotF_comb (m : Nat) (u : Fn) (a b : Int) (v w : Fn) : dotF m u (fun j => a * v j + b * w j) = a * dotF m u v + b * dotF m u w := by
  unfold dotF
  rw [← rsum_comb]
  exact rsum_congr fun i _ => by rw [Int.mul_add]; congr 1 <;> ac_rfl
theorem dotF_comm (m : Nat) (u v : Fn) : dotF m u v = dotF m v u := rsum_congr fun i _ => Int.mul_comm _ _
theorem dotF_zero (m : Nat) (u : Fn) : dotF m u (fun _ => 0) = 0 := by
  unfold dotF rsum
  exact sum_zero _ fun i _ => by simp
theorem dotF_mul (m : Nat) (u : Fn) (q : Int) (v : Fn) : dotF m u (fun j => q * v j) = q * dotF m u v := by
  have := dotF_comb m u q 0 v (fun _ => 0)
  simpa using this
theorem dotF_congr {m : Nat} {u u' v v' : Fn} (h : ∀ j < m, u j = u' j) (h' : ∀ j < m, v j = v' j) : dotF m u v = dotF m u' v' := rsum_congr fun i hi => by rw [h i hi, h' i hi]
theorem dot_lin (m : Nat) (u : Fn) : Lin (fun v => dotF m u v = 0) :=
  ⟨dotF_zero m u, fun a b v w h1 h2 => by show dotF m u _ = 0; rw [dotF_comb, h1, h2]; simp, fun q v hq h => by
    have h : dotF m u (fun j => q * v j) = 0 := h
    rw [dotF_mul] at h
    exact (Int.mul_eq_zero.mp h).resolve_left hq⟩
theorem dot_linL (m : Nat) (u : Fn) : Lin (fun v => dotF m v u = 0) :=
  ⟨by show dotF m _ u = 0; rw [dotF_comm]; exact dotF_zero m u, fun a b v w h1 h2 => by
    show dotF m _ u = 0
    rw [dotF_comm, dotF_comb, dotF_comm m u v, dotF_comm m u w, h1, h2]; simp, fun q v hq h => by
    have h : dotF m (fun j => q * v j) u = 0 := h
    rw [dotF_comm, dotF_mul, dotF_comm] at h
    exact (Int.mul_eq_zero.mp h).resolve_left hq⟩
theorem kern_span {m : Nat} {rows : List Row} {u : Fn} (h : Kern m rows u) {v : Fn} (hv : Sp (inK rows) v) : dotF m v u = 0 :=
  Sp.lin (dot_linL m u) (fun v ⟨r, hr, e⟩ => by rw [e]; exact h r hr) hv
theorem kern_lin (m : Nat) (rows : List Row) : Lin (Kern m rows) :=
  ⟨fun r _ => dotF_zero m _, fun a b v w h1 h2 r hr => (dot_lin m (gx r)).comb a b v w (h1 r hr) (h2 r hr), fun q v hq h r hr => (dot_lin m (gx r)).div q v hq (h r hr)⟩
theorem kern_of {m : Nat} {rows rows' : List Row} (h : ∀ r ∈ rows', Sp (inK rows) (gx r)) {u : Fn} (hu : Kern m rows u) : Kern m rows' u := fun r hr => kern_span hu (h r hr)
theorem dot_unit {m i : Nat} (h : i < m) (u : Fn) : dotF m (gx (unitR i m)) u = u i := by
  unfold dotF
  rw [rsum_congr (g := fun l => (if i = l then 1 else 0) * u l) fun l _ => by rw [unitR_gx h]]
  exact rsum_ind h u
/-! ### places set one by one -/
def setF {α : Type} (t : α → Nat) (g : α → Int) (K : List α) (h : Row) : Row := K.foldl (fun h k => h.set (t k) (g k)) h
section
variable {α : Type} {t : α → Nat} {g : α → Int}
theorem setF_len : ∀ (K : List α) (h : Row), (setF t g K h).length = h.length
  | [], _ => rfl
  | k :: K, h => by
    show (setF t g K (h.set (t k) (g k))).length = _
    rw [setF_len K, List.length_set]
theorem setF_off {j : Nat} : ∀ (K : List α) (h : Row), (∀ k ∈ K, t k ≠ j) → gx (setF t g K h) j = gx h j
  | [], _, _ => rfl
  | k :: K, h, hk => by
    show gx (setF t g K (h.set (t k) (g k))) j = _
    rw [setF_off K _ fun x hx => hk x (by simp [hx]), gx_set, if_neg fun z => hk k (by simp) z.1]
theorem setF_at : ∀ (K : List α) (h : Row), (K.map t).Nodup → ∀ k ∈ K, t k < h.length → gx (setF t g K h) (t k) = g k
  | [], _, _, _, hk, _ => by simp at hk
  | x :: K, h, hn, k, hk, hl => by
    rw [List.map_cons] at hn
    have h2 := List.nodup_cons.mp hn
    show gx (setF t g K (h.set (t x) (g x))) (t k) = _
    rcases List.mem_cons.mp hk with q | q
    · subst q
      rw [setF_off K _ fun y hy z => h2.1 (by rw [← z]; exact List.mem_map_of_mem hy), gx_set, if_pos ⟨rfl, hl⟩]
    · exact setF_at K _ h2.2 k q (by rw [List.length_set]; exact hl)
theorem dot_set {m i : Nat} {h : Row} (hi : i < m) (hl : i < h.length) (h0 : gx h i = 0) (u : Fn) (a : Int) : dotF m u (gx (h.set i a)) = dotF m u (gx h) + u i * a := by
  unfold dotF
  have e : rsum m (fun j => u j * gx (h.set i a) j) = rsum m fun j => 1 * (u j * gx h j) + 1 * ((if i = j then 1 else 0) * (u j * a)) := rsum_congr fun j _ => by
    rw [gx_set]
    by_cases z : i = j
    · subst z
      rw [if_pos ⟨rfl, hl⟩, if_pos rfl, h0]; simp
    · rw [if_neg fun q => z q.1, if_neg z]; simp
  rw [e, rsum_comb, rsum_ind hi fun j => u j * a]
  omega
theorem dot_setF {m : Nat} (u : Fn) : ∀ (K : List α) (h : Row), (K.map t).Nodup → (∀ k ∈ K, t k < m ∧ t k < h.length ∧ gx h (t k) = 0) → dotF m u (gx (setF t g K h)) = dotF m u (gx h) + (K.map fun k => u (t k) * g k).sum
  | [], h, _, _ => by show dotF m u (gx h) = _; simp
  | k :: K, h, hn, hk => by
    rw [List.map_cons] at hn
    have h2 := List.nodup_cons.mp hn
    obtain ⟨a1, a2, a3⟩ := hk k (by simp)
    show dotF m u (gx (setF t g K (h.set (t k) (g k)))) = _
    rw [dot_setF u K _ h2.2 fun x hx => by
      obtain ⟨b1, b2, b3⟩ := hk x (by simp [hx])
      refine ⟨b1, by rw [List.length_set]; exact b2, ?_⟩
      rw [gx_set, if_neg fun z => h2.1 (by rw [z.1]; exact List.mem_map_of_mem hx)]
      exact b3, dot_set a1 a2 a3, List.map_cons, List.sum_cons]
    omega
end
/-- one term alone -/
theorem sum_one {α : Type} {f : α → Int} {A B : List α} {k : α} (hA : ∀ x ∈ A, f x = 0) (hB : ∀ x ∈ B, f x = 0) : ((A ++ k :: B).map f).sum = f k := by
  rw [List.map_append, List.map_cons, List.sum_append, List.sum_cons, sum_zero A hA, sum_zero B hB]
  omega
theorem Red.others {m L : Nat} {K : List Row} (h : Red m L K) {k : Row} (hk : k ∈ K) : ∃ A B, K = A ++ k :: B ∧ (∀ x ∈ A, gx k (tp m x) = 0 ∧ gx x (tp m k) = 0) ∧ (∀ x ∈ B, gx k (tp m x) = 0 ∧ gx x (tp m k) = 0) := by
  obtain ⟨A, B, e⟩ := List.append_of_mem hk
  have hp := h.ap
  rw [e] at hp
  have h2 := List.pairwise_append.mp hp
  have hB := (List.pairwise_cons.mp h2.2.1).1
  exact ⟨A, B, e, fun x hx => ⟨(h2.2.2 x hx k (by simp)).2, (h2.2.2 x hx k (by simp)).1⟩, fun x hx => ⟨(hB x hx).1, (hB x hx).2⟩⟩
/-! ### a list that is the only one of its kind is no greater than a minor -/
theorem gath_dt {m L : Nat} {rows : List Row} (hl : ∀ r ∈ rows, r.length = L) : ∃ R, Dt m R (gathR m rows) ∧ ∀ r ∈ R, r ∈ rows := by
  have go : ∀ (rest done s : List Row), (∀ r ∈ rest, r.length = L) → Gath m L done s → (∃ R, Dt m R s ∧ ∀ r ∈ R, r ∈ done) → ∃ R, Dt m R (rest.foldl (gath1 m) s) ∧ ∀ r ∈ R, r ∈ done ++ rest := by
    intro rest
    induction rest with
    | nil => intro done s _ _ h; simpa using h
    | cons r rest ih =>
      intro done s hl g ⟨R, d, hR⟩
      rw [List.foldl_cons]
      have hr := hl r (by simp)
      have e : done ++ r :: rest = (done ++ [r]) ++ rest := by simp
      rw [e]
      refine ih (done ++ [r]) (gath1 m s r) (fun q hq => hl q (by simp [hq])) (gath_step hr g) ?_
      cases ht : tipN m (clearR m r s) with
      | none =>
        have e2 : gath1 m s r = s := by unfold gath1; rw [ht]; rfl
        rw [e2]
        exact ⟨R, d, fun q hq => by simp [hR q hq]⟩
      | some t =>
        have e2 : gath1 m s r = takeR m (clearR m r s) s := by unfold gath1; rw [ht]; rfl
        rw [e2]
        refine ⟨r :: R, d.take g.red hr ht, fun q hq => ?_⟩
        rcases List.mem_cons.mp hq with z | z
        · rw [z]; simp
        · simp [hR q z]
  have := go rows [] [] hl gath_nil ⟨[], Dt.nil, by simp⟩
  simpa [gathR] using this
/-- the minors beside a reduced row -/
theorem Dt.minor {m L : Nat} {R K : List Row} (d : Dt m R K) (h : Red m L K) {M n : Nat} (hM : 1 ≤ n * M) (hn : K.length ≤ n) (hR : ∀ r ∈ R, ∀ j, (gx r j).natAbs ≤ M) {k : Row} (hk : k ∈ K) (f : Nat) :
    ∃ u : Int, dt R (K.map (tp m)) * gx k f = gx k (tp m k) * u ∧ u.natAbs ≤ (n * M) ^ R.length := by
  obtain ⟨A, B, e⟩ := List.append_of_mem hk
  have hr := h.row k hk
  have hC : ∀ k ∈ K, gx k (tp m k) ∣ leads m K := fun k hk => leads_dvd k hk
  have hsp : Sp (inK K) (fun j => dt R (A.map (tp m) ++ j :: B.map (tp m))) := (dt_S R (A.map (tp m)) (B.map (tp m))).mono fun v ⟨r, hr, e⟩ => by rw [e]; exact d.sp r hr
  refine ⟨dt R (A.map (tp m) ++ f :: B.map (tp m)), ?_, ?_⟩
  · have hz := h.z hC hsp f
    obtain ⟨A', B', e', hA, hB⟩ := h.others hk
    have hz2 : zsum m (leads m K) K (fun j => dt R (A.map (tp m) ++ j :: B.map (tp m))) f = leads m K / gx k (tp m k) * dt R (K.map (tp m)) * gx k f := by
      unfold zsum
      rw [e, sum_one (fun x hx => ?_) (fun x hx => ?_)]
      · simp only [List.map_append, List.map_cons]
      · have : dt R (A.map (tp m) ++ tp m x :: B.map (tp m)) = 0 := dt_dup (.inl (List.mem_map_of_mem hx))
        simp only [this]; simp
      · have : dt R (A.map (tp m) ++ tp m x :: B.map (tp m)) = 0 := dt_dup (.inr (List.mem_map_of_mem hx))
        simp only [this]; simp
    rw [hz2] at hz
    have hld := hC k hk
    obtain ⟨q, hq⟩ := hld
    have hpos := hr.pos
    have hlp := h.leads_pos
    have eq1 : leads m K / gx k (tp m k) = q := by rw [hq]; exact Int.mul_ediv_cancel_left _ (by omega)
    rw [eq1, hq] at hz
    have hq0 : q ≠ 0 := fun z => by rw [z] at hq; simp at hq; omega
    refine Int.eq_of_mul_eq_mul_left hq0 ?_
    have h1 : gx k (tp m k) * q * dt R (A.map (tp m) ++ f :: B.map (tp m)) = q * dt R (K.map (tp m)) * gx k f := hz
    rw [← Int.mul_assoc, ← h1]
    ac_rfl
  · have hlen : (A.map (tp m) ++ f :: B.map (tp m)).length ≤ n := by
      have := congrArg List.length e
      simp at this ⊢
      omega
    exact dt_bd hM R hR _ hlen
def zF (m : Nat) (D : Int) (K : List Row) (f : Nat) : Row := setF (tp m) (fun k => -(D * gx k f / gx k (tp m k))) K ((List.replicate m (0 : Int)).set f D)
theorem el_bd {m n M : Nat} {R : List Row} {x : Row} (hm : m ≤ n) (hM : 1 ≤ n * M) (hl : ∀ r ∈ R, r.length = m) (hR : ∀ r ∈ R, ∀ j, (gx r j).natAbs ≤ M) (hx : x.length = m) (hk : Kern m R (gx x)) (hg : gcdL x = 1)
    (hun : ∀ y : Row, y.length = m → Kern m R (gx y) → ∀ i j, gx x i * gx y j = gx x j * gx y i) (j : Nat) : (gx x j).natAbs ≤ (n * M) ^ n := by
  have g := gath_ok (m := m) hl
  obtain ⟨R', d, hR'⟩ := gath_dt (m := m) hl
  obtain ⟨K, eK⟩ : ∃ K, K = gathR m R := ⟨_, rfl⟩
  rw [← eK] at g d
  have hkK : Kern m K (gx x) := kern_of g.of_ hk
  have hKl := tips_bd g.red
  have hpw : ∀ {e : Nat}, e ≤ n → (n * M) ^ e ≤ (n * M) ^ n := fun {e} h => Nat.pow_le_pow_right hM h
  have hR'l : R'.length ≤ n := by rw [d.len]; omega
  have hne : ∃ j < m, gx x j ≠ 0 := Classical.byContradiction fun z => by
    have : gcdL x = 0 := gcdL_zero.mpr fun y hy => by
      obtain ⟨i, hi⟩ := List.getElem?_of_mem hy
      have hil := (List.getElem?_eq_some_iff.mp hi).1
      have e : gx x i = y := by unfold gx; rw [List.getD_eq_getElem?_getD, hi]; rfl
      rw [← e]
      exact Classical.byContradiction fun q => z ⟨i, by omega, q⟩
    omega
  have hnd := tips_ne g.red
  have htm : ∀ k ∈ K, tp m k < m := fun k hk => (tipN_some.mp (g.red.row k hk).tip).1
  obtain ⟨f, hf, hft⟩ : ∃ f < m, ∀ k ∈ K, tp m k ≠ f := Classical.byContradiction fun z => by
    obtain ⟨j0, hj0, hx0⟩ := hne
    obtain ⟨k, hk, ek⟩ : ∃ k ∈ K, tp m k = j0 := Classical.byContradiction fun q => z ⟨j0, hj0, fun k hk e => q ⟨k, hk, e⟩⟩
    have hd := hkK k hk
    have e : dotF m (gx k) (gx x) = gx k (tp m k) * gx x (tp m k) := by
      unfold dotF
      rw [rsum_congr (g := fun l => (if tp m k = l then 1 else 0) * (gx k l * gx x l)) fun l hl => ?_]
      · exact rsum_ind (htm k hk) fun l => gx k l * gx x l
      · by_cases q : tp m k = l
        · rw [if_pos q]; omega
        · obtain ⟨k2, hk2, e2⟩ : ∃ k2 ∈ K, tp m k2 = l := Classical.byContradiction fun q2 => z ⟨l, hl, fun k hk e => q2 ⟨k, hk, e⟩⟩
          obtain ⟨A, B, eAB, hA, hB⟩ := g.red.others hk
          have h0 : gx k (tp m k2) = 0 := by
            rw [eAB] at hk2
            rcases List.mem_append.mp hk2 with q3 | q3
            · exact (hA k2 q3).1
            · rcases List.mem_cons.mp q3 with q4 | q4
              · rw [q4] at e2; exact absurd e2 q
              · exact (hB k2 q4).1
          rw [e2] at h0
          rw [h0, if_neg q]; omega
    rw [e] at hd
    have := (g.red.row k hk).pos
    rw [ek] at hd this
    rcases Int.mul_eq_zero.mp hd with q | q
    · omega
    · exact hx0 q
  obtain ⟨D, eD⟩ : ∃ D, D = dt R' (K.map (tp m)) := ⟨_, rfl⟩
  have hD : D ≠ 0 := by rw [eD]; exact d.ne
  have hmin : ∀ k ∈ K, ∃ u : Int, D * gx k f / gx k (tp m k) = u ∧ D * gx k f = gx k (tp m k) * u ∧ u.natAbs ≤ (n * M) ^ n := fun k hk => by
    obtain ⟨u, h1, h2⟩ := d.minor g.red hM (by omega) (fun r hr j => hR r (hR' r hr) j) hk f
    rw [← eD] at h1
    have := (g.red.row k hk).pos
    exact ⟨u, by rw [h1]; exact Int.mul_ediv_cancel_left _ (by omega), h1, Nat.le_trans h2 (hpw hR'l)⟩
  have hzl : (zF m D K f).length = m := by unfold zF; rw [setF_len]; simp
  have h00 : ∀ k ∈ K, tp m k < m ∧ tp m k < ((List.replicate m (0 : Int)).set f D).length ∧ gx ((List.replicate m (0 : Int)).set f D) (tp m k) = 0 := fun k hk => by
    refine ⟨htm k hk, by simp [htm k hk], ?_⟩
    rw [gx_set, if_neg fun q => hft k hk q.1.symm, gx_rep]
  have hzf : gx (zF m D K f) f = D := by
    unfold zF
    rw [setF_off K _ hft, gx_set, if_pos ⟨rfl, by simpa using hf⟩]
  have hzt : ∀ k ∈ K, gx (zF m D K f) (tp m k) = -(D * gx k f / gx k (tp m k)) := fun k hk => setF_at K _ hnd k hk (h00 k hk).2.1
  have hz0 : ∀ j, j ≠ f → (∀ k ∈ K, tp m k ≠ j) → gx (zF m D K f) j = 0 := fun j h1 h2 => by
    unfold zF
    rw [setF_off K _ h2, gx_set, if_neg fun q => h1 q.1.symm, gx_rep]
  have hzK : Kern m K (gx (zF m D K f)) := fun k hk => by
    have e : dotF m (gx k) (gx (zF m D K f)) = dotF m (gx k) (gx ((List.replicate m (0 : Int)).set f D)) + (K.map fun k' => gx k (tp m k') * -(D * gx k' f / gx k' (tp m k'))).sum := dot_setF (gx k) K _ hnd h00
    have e2 : dotF m (gx k) (gx ((List.replicate m (0 : Int)).set f D)) = gx k f * D := by
      rw [dot_set hf (by simpa using hf) (gx_rep _ _)]
      have : dotF m (gx k) (gx (List.replicate m (0 : Int))) = 0 := by
        rw [dotF_congr (u' := gx k) (v' := fun _ => 0) (fun _ _ => rfl) fun j _ => gx_rep _ _]
        exact dotF_zero m _
      rw [this]; omega
    obtain ⟨A, B, eAB, hA, hB⟩ := g.red.others hk
    obtain ⟨u, hu1, hu2, _⟩ := hmin k hk
    rw [e, e2]
    have e3 : (K.map fun k' => gx k (tp m k') * -(D * gx k' f / gx k' (tp m k'))).sum = gx k (tp m k) * -(D * gx k f / gx k (tp m k)) := by
      rw [eAB]
      exact sum_one (fun x hx => by rw [(hA x hx).1]; simp) (fun x hx => by rw [(hB x hx).1]; simp)
    rw [e3, hu1, Int.mul_neg, ← hu2, Int.mul_comm]
    omega
  have hzR : Kern m R (gx (zF m D K f)) := kern_of (fun r hr => g.toK hl r hr) hzK
  have hu := hun _ hzl hzR
  have hxf : gx x f ≠ 0 := fun q => by
    obtain ⟨j0, _, hx0⟩ := hne
    have := hu f j0
    rw [q, hzf, Int.zero_mul] at this
    rcases Int.mul_eq_zero.mp this.symm with z | z
    · exact hx0 z
    · exact hD z
  have hdv : gx x f ∣ D := dvd_gcd_mul hg fun i => ⟨gx (zF m D K f) i, by
    have := hu f i
    rw [hzf] at this
    rw [this, Int.mul_comm]⟩
  obtain ⟨c, hc⟩ := hdv
  have hcz : c ≠ 0 := fun z => hD (by rw [hc, z]; simp)
  have hzx : gx (zF m D K f) j = c * gx x j := by
    have h1 := hu f j
    rw [hzf] at h1
    refine Int.eq_of_mul_eq_mul_left hxf ?_
    rw [h1]
    have h2 : gx x j * D = gx x j * (gx x f * c) := congrArg (gx x j * ·) hc
    rw [h2]; ac_rfl
  have hzb : (gx (zF m D K f) j).natAbs ≤ (n * M) ^ n := by
    by_cases h1 : j = f
    · rw [h1, hzf, eD]
      exact Nat.le_trans (dt_bd hM R' (fun r hr j => hR r (hR' r hr) j) _ (by rw [List.length_map]; omega)) (hpw hR'l)
    · by_cases h2 : ∀ k ∈ K, tp m k ≠ j
      · rw [hz0 j h1 h2]; simp
      · obtain ⟨k, hk, ek⟩ : ∃ k ∈ K, tp m k = j := Classical.byContradiction fun q => h2 fun k hk e => q ⟨k, hk, e⟩
        obtain ⟨u, hu1, _, hu3⟩ := hmin k hk
        rw [← ek, hzt k hk, hu1, Int.natAbs_neg]
        exact hu3
  rw [hzx, Int.natAbs_mul] at hzb
  have hc1 : 1 ≤ c.natAbs := by omega
  calc (gx x j).natAbs = 1 * (gx x j).natAbs := (Nat.one_mul _).symm
    _ ≤ c.natAbs * (gx x j).natAbs := Nat.mul_le_mul_right _ hc1
    _ ≤ _ := hzb
def rowF (m : Nat) (u : Fn) : Row := (List.range m).map u
theorem rowF_len {m : Nat} {u : Fn} : (rowF m u).length = m := by unfold rowF; simp
theorem rowF_gx {m : Nat} {u : Fn} (h : ∀ j, m ≤ j → u j = 0) : gx (rowF m u) = u := by
  funext j
  by_cases hj : j < m
  · exact gx_rangeMap m u hj
  · rw [gx_out (by rw [rowF_len]; omega), h j (by omega)]
theorem enum_snd {α : Type} (xs : List α) : (Y.enum xs).map Prod.snd = xs := by
  unfold Y.enum
  exact List.map_snd_zip (by rw [rng_length]; omega)
theorem enum_get {α : Type} {xs : List α} {done rest : List (Int × α)} {x : Int × α} (e : Y.enum xs = done ++ x :: rest) : x.1 = (done.length : Int) ∧ xs[done.length]? = some x.2 ∧ xs = done.map Prod.snd ++ x.2 :: rest.map Prod.snd ∧ done.length < xs.length := by
  have h1 : (Y.enum xs)[done.length]? = some x := by rw [e, List.getElem?_append_right (Nat.le_refl _), Nat.sub_self]; rfl
  unfold Y.enum at h1
  obtain ⟨h2, h3⟩ := List.getElem?_zip_eq_some.mp h1
  have hlt : done.length < xs.length := (List.getElem?_eq_some_iff.mp h3).1
  refine ⟨?_, h3, ?_, hlt⟩
  · unfold rng at h2
    rw [List.getElem?_map, List.getElem?_range (by omega)] at h2
    simp only [Option.map_some, Option.some.injEq] at h2
    omega
  · rw [← enum_snd xs, e, List.map_append, List.map_cons]
theorem le_unit {i n : Nat} (h : i < n) (hn : n ≤ 1000) {P : Row → Prop} {E : Exn → Prop} (hp : P (unitR i n)) : (m_unit ((i : Int), (n : Int), ())).wp P E := by
  unfold m_unit
  simp only [W.wp_bind, W.wp_pure]
  refine le_range (by omega) (by omega) (W.compM_map (fb := fun _ => (0 : Int)) _ (fun x _ P E hp => hp) _ _ ?_)
  have e : ((rng 0 (n : Int)).map fun _ => (0 : Int)) = List.replicate n 0 := by
    rw [rng_nat, List.map_map]
    exact List.eq_replicate_iff.mpr ⟨by simp, fun x hx => by
      obtain ⟨y, _, rfl⟩ := List.mem_map.mp hx
      rfl⟩
  rw [e]
  have h2 : L2.ixN (List.replicate n (0 : Int)).length (i : Int) = some i := by
    unfold L2.ixN
    rw [List.length_replicate, if_pos (by omega), if_pos (by omega), Int.toNat_natCast]
  show (setI (List.replicate n (0 : Int)) (i : Int) 1).wp _ _
  unfold setI
  rw [h2]
  exact hp
/-! ### lone lists -/
structure Cn (m : Nat) (R : List Row) (u : Fn) : Prop where
  out : ∀ j, m ≤ j → u j = 0
  nn : ∀ j, 0 ≤ u j
  kn : Kern m R u
def Nz (u : Fn) : Prop := ∃ j, u j ≠ 0
def Sb (u v : Fn) : Prop := ∀ j, u j ≠ 0 → v j ≠ 0
theorem Sb.trans {u v w : Fn} (h : Sb u v) (h' : Sb v w) : Sb u w := fun j q => h' j (h j q)
theorem Sb.refl (u : Fn) : Sb u u := fun _ q => q
structure Ln (m : Nat) (R : List Row) (u : Fn) : Prop extends Cn m R u where
  nz : Nz u
  mn : ∀ v, Cn m R v → Nz v → Sb v u → Sb u v
theorem min_ratio {x u : Fn} (hx : ∀ j, 0 ≤ x j) (hu : ∀ j, 0 ≤ u j) : ∀ n, (∀ j < n, x j = 0) ∨ ∃ j0 < n, 0 < x j0 ∧ ∀ j < n, u j0 * x j ≤ u j * x j0
  | 0 => .inl (fun j h => absurd h (Nat.not_lt_zero j))
  | n + 1 => by
    rcases min_ratio hx hu n with h | ⟨j0, h0, h1, h2⟩
    · by_cases hn : x n = 0
      · refine .inl fun j hj => ?_
        by_cases e : j = n
        · rw [e]; exact hn
        · exact h j (by omega)
      · have := hx n
        refine .inr ⟨n, by omega, by omega, fun j hj => ?_⟩
        by_cases e : j = n
        · rw [e]; exact Int.le_refl _
        · rw [h j (by omega), Int.mul_zero]
          exact Int.mul_nonneg (hu j) (hx n)
    · by_cases hc : u j0 * x n ≤ u n * x j0
      · refine .inr ⟨j0, by omega, h1, fun j hj => ?_⟩
        by_cases e : j = n
        · rw [e]; exact hc
        · exact h2 j (by omega)
      · have hxn : 0 < x n := by
          have := hx n
          rcases Int.lt_or_eq_of_le this with q | q
          · exact q
          · rw [← q, Int.mul_zero] at hc
            exact absurd (Int.mul_nonneg (hu n) (hx j0)) hc
        refine .inr ⟨n, by omega, hxn, fun j hj => ?_⟩
        by_cases e : j = n
        · rw [e]; exact Int.le_refl _
        · have a := h2 j (by omega)
          have b : u n * x j0 ≤ u j0 * x n := by omega
          have a' := Int.mul_le_mul_of_nonneg_right a (hx n)
          have b' := Int.mul_le_mul_of_nonneg_right b (hx j)
          have e1 : u n * x j0 * x j = u n * x j * x j0 := by ac_rfl
          have e2 : u j0 * x n * x j = u j0 * x j * x n := by ac_rfl
          have e3 : u j * x j0 * x n = u j * x n * x j0 := by ac_rfl
          rw [e1, e2] at b'
          rw [e3] at a'
          exact Int.le_of_mul_le_mul_right (Int.le_trans b' a') h1
section
variable {m : Nat} {R : List Row} {u v x : Fn}
theorem kern_sub (h : Kern m R u) (h' : Kern m R x) (k t : Int) : Kern m R fun j => k * u j - t * x j := by
  have := (kern_lin m R).comb k (-t) u x h h'
  have e : (fun j => k * u j + -t * x j) = fun j => k * u j - t * x j := by funext j; rw [Int.neg_mul]; omega
  rw [e] at this
  exact this
theorem dot_sub (r u x : Fn) (k t : Int) : dotF m r (fun j => k * u j - t * x j) = k * dotF m r u - t * dotF m r x := by
  have := dotF_comb m r k (-t) u x
  have e : (fun j => k * u j + -t * x j) = fun j => k * u j - t * x j := by funext j; rw [Int.neg_mul]; omega
  rw [e, Int.neg_mul] at this
  omega
theorem Nz.in_ (hz : Nz u) (hout : ∀ j, m ≤ j → u j = 0) : ∃ j < m, u j ≠ 0 := by
  obtain ⟨j, hj⟩ := hz
  by_cases h : j < m
  · exact ⟨j, h, hj⟩
  · exact absurd (hout j (by omega)) hj
/-- the most of x is taken from u -/
theorem Cn.cut (hu : Cn m R u) (hx : Cn m R x) (hz : Nz x) (hs : Sb x u) : ∃ k t : Int, 0 < k ∧ 0 < t ∧ Cn m R (fun j => k * u j - t * x j) ∧ Sb (fun j => k * u j - t * x j) u ∧ ∃ j, u j ≠ 0 ∧ x j ≠ 0 ∧ k * u j - t * x j = 0 := by
  rcases min_ratio hx.nn hu.nn m with h | ⟨j0, h0, h1, h2⟩
  · obtain ⟨j, hj, hne⟩ := hz.in_ hx.out
    exact absurd (h j hj) hne
  · have hu0 : 0 < u j0 := by have := hu.nn j0; have := hs j0 (by omega); omega
    refine ⟨x j0, u j0, h1, hu0, ⟨fun j hj => by rw [hu.out j hj, hx.out j hj]; simp, fun j => ?_, kern_sub hu.kn hx.kn _ _⟩, fun j hj z => hj ?_, j0, by omega, by omega, ?_⟩
    · by_cases hj : j < m
      · have := h2 j hj
        rw [Int.mul_comm (u j)] at this
        omega
      · rw [hu.out j (by omega), hx.out j (by omega)]; simp
    · have : x j = 0 := Classical.byContradiction fun q => hs j q z
      show x j0 * u j - u j0 * x j = 0
      rw [this, z]; simp
    · rw [Int.mul_comm]; omega
/-- how many places are not 0 -/
def sc (m : Nat) (u : Fn) : Nat := ((List.range m).filter fun j => decide (u j ≠ 0)).length
theorem sc_lt {w : Fn} (hout : ∀ j, m ≤ j → u j = 0) (hs : Sb w u) {j : Nat} (h1 : u j ≠ 0) (h2 : w j = 0) : sc m w < sc m u := by
  have hj : j < m := by
    by_cases h : j < m
    · exact h
    · exact absurd (hout j (by omega)) h1
  have := nodup_len (j :: (List.range m).filter fun j => decide (w j ≠ 0)) ((List.range m).filter fun j => decide (u j ≠ 0)) (List.nodup_cons.mpr ⟨fun z => by
    have := (List.mem_filter.mp z).2
    rw [h2] at this
    simp at this, (List.nodup_range).filter _⟩) (fun y hy => by
    rcases List.mem_cons.mp hy with q | q
    · rw [q]; exact List.mem_filter.mpr ⟨List.mem_range.mpr hj, decide_eq_true h1⟩
    · have := List.mem_filter.mp q
      exact List.mem_filter.mpr ⟨this.1, decide_eq_true (hs y (of_decide_eq_true this.2))⟩)
  unfold sc
  rw [List.length_cons] at this
  omega
theorem lone_in : ∀ (n : Nat) (u : Fn), sc m u ≤ n → Cn m R u → Nz u → ∃ x, Ln m R x ∧ Sb x u := by
  intro n
  induction n with
  | zero =>
    intro u hn hu hz
    by_cases hmin : ∀ v, Cn m R v → Nz v → Sb v u → Sb u v
    · exact ⟨u, ⟨hu, hz, hmin⟩, Sb.refl u⟩
    · refine absurd (fun v hv hvz hs j hj => Classical.byContradiction fun q => ?_) hmin
      have := sc_lt hu.out hs hj (by simpa using q)
      omega
  | succ n ih =>
    intro u hn hu hz
    by_cases hmin : ∀ v, Cn m R v → Nz v → Sb v u → Sb u v
    · exact ⟨u, ⟨hu, hz, hmin⟩, Sb.refl u⟩
    · obtain ⟨v, hv, hvz, hs, j, hj, hvj⟩ : ∃ v, Cn m R v ∧ Nz v ∧ Sb v u ∧ ∃ j, u j ≠ 0 ∧ v j = 0 := Classical.byContradiction fun q => hmin fun v hv hvz hs j hj hvj => q ⟨v, hv, hvz, hs, j, hj, hvj⟩
      have := sc_lt hu.out hs hj hvj
      obtain ⟨x, hx, hxs⟩ := ih v (by omega) hv hvz
      exact ⟨x, hx, hxs.trans hs⟩
/-- lists of the same places are multiples -/
theorem Ln.prop (hx : Ln m R x) (hv : Cn m R v) (hz : Nz v) (hs : Sb v x) : ∃ k t : Int, 0 < k ∧ 0 < t ∧ ∀ j, k * x j = t * v j := by
  obtain ⟨k, t, hk, ht, hw, hws, j0, h1, h2, h3⟩ := hx.toCn.cut hv hz hs
  refine ⟨k, t, hk, ht, fun j => Classical.byContradiction fun q => ?_⟩
  exact hx.mn _ hw ⟨j, show k * x j - t * v j ≠ 0 by omega⟩ hws j0 h1 h3
theorem Ln.prop2 (hx : Ln m R x) (hout : ∀ j, m ≤ j → v j = 0) (hk : Kern m R v) (hs : Sb v x) (i j : Nat) : x i * v j = x j * v i := by
  obtain ⟨N, hN⟩ : ∃ N : Int, 0 < N ∧ ∀ j, -N < v j := by
    have : ∀ n : Nat, ∃ N : Int, 0 < N ∧ ∀ j < n, -N < v j := by
      intro n
      induction n with
      | zero => exact ⟨1, by decide, fun j h => absurd h (Nat.not_lt_zero j)⟩
      | succ n ih =>
        obtain ⟨N, h1, h2⟩ := ih
        refine ⟨N + (v n).natAbs, by omega, fun j hj => ?_⟩
        by_cases e : j = n
        · rw [e]; omega
        · have := h2 j (by omega); omega
    obtain ⟨N, h1, h2⟩ := this m
    refine ⟨N, h1, fun j => ?_⟩
    by_cases hj : j < m
    · exact h2 j hj
    · rw [hout j (by omega)]; omega
  have hxs : ∀ j, x j ≠ 0 → 1 ≤ x j := fun j h => by have := hx.nn j; omega
  have hge : ∀ j, x j ≠ 0 → 0 < N * x j + v j := fun j h => by
    have h1 := Int.mul_le_mul_of_nonneg_left (hxs j h) (show 0 ≤ N by omega)
    have h2 := hN.2 j
    omega
  have hv0 : ∀ j, x j = 0 → v j = 0 := fun j h => Classical.byContradiction fun q => hs j q h
  have hw : Cn m R fun j => N * x j - (-1) * v j := ⟨fun j hj => by rw [hx.out j hj, hout j hj]; simp, fun j => by
    by_cases h : x j = 0
    · rw [h, hv0 j h]; simp
    · have := hge j h; omega, kern_sub hx.kn hk _ _⟩
  obtain ⟨j1, hj1⟩ := hx.nz
  obtain ⟨k, t, hk', ht, hp⟩ := hx.prop hw ⟨j1, by have := hge j1 hj1; show N * x j1 - -1 * v j1 ≠ 0; omega⟩ (fun j hj z => hj (by show N * x j - -1 * v j = 0; rw [z, hv0 j z]; simp))
  have e : ∀ j, t * v j = (k - t * N) * x j := fun j => by
    have := hp j
    have h2 : t * (N * x j - -1 * v j) = t * N * x j + t * v j := by
      have h4 : t * (-1 * v j) = -(t * v j) := by rw [Int.neg_mul, Int.one_mul, Int.mul_neg]
      rw [Int.mul_sub, Int.mul_assoc, h4]
      omega
    have h3 : k * x j = t * (N * x j - -1 * v j) := this
    rw [h2] at h3
    rw [Int.sub_mul]
    omega
  refine Int.eq_of_mul_eq_mul_left (show t ≠ 0 by omega) ?_
  have e1 : t * (x i * v j) = x i * (t * v j) := by ac_rfl
  have e2 : t * (x j * v i) = x j * (t * v i) := by ac_rfl
  rw [e1, e2, e j, e i]
  ac_rfl
theorem lone_sign {r : Fn} {s : Int} : ∀ (n : Nat) (u : Fn), sc m u ≤ n → Cn m R u → s * dotF m r u < 0 → ∃ y, Ln m R y ∧ Sb y u ∧ s * dotF m r y < 0 := by
  intro n
  induction n with
  | zero =>
    intro u hn hu hd
    have hu0 : ∀ j, u j = 0 := fun j => Classical.byContradiction fun q => by
      have := sc_lt (w := fun _ => 0) hu.out (fun _ h => absurd rfl h) q rfl
      omega
    have : dotF m r u = 0 := by
      rw [dotF_congr (u' := r) (v' := fun _ => 0) (fun _ _ => rfl) fun j _ => hu0 j]
      exact dotF_zero m r
    rw [this] at hd
    simp at hd
  | succ n ih =>
    intro u hn hu hd
    have hz : Nz u := Classical.byContradiction fun q => by
      have hu0 : ∀ j, u j = 0 := fun j => Classical.byContradiction fun h => q ⟨j, h⟩
      have : dotF m r u = 0 := by
        rw [dotF_congr (u' := r) (v' := fun _ => 0) (fun _ _ => rfl) fun j _ => hu0 j]
        exact dotF_zero m r
      rw [this] at hd
      simp at hd
    obtain ⟨x, hx, hxs⟩ := lone_in (sc m u) u (Nat.le_refl _) hu hz
    by_cases h : s * dotF m r x < 0
    · exact ⟨x, hx, hxs, h⟩
    · obtain ⟨k, t, hk, ht, hw, hws, j0, h1, h2, h3⟩ := hu.cut hx.toCn hx.nz hxs
      have hlt := sc_lt hu.out hws h1 h3
      have hdw : s * dotF m r (fun j => k * u j - t * x j) < 0 := by
        rw [dot_sub, Int.mul_sub]
        have e1 : s * (k * dotF m r u) = k * (s * dotF m r u) := by ac_rfl
        have e2 : s * (t * dotF m r x) = t * (s * dotF m r x) := by ac_rfl
        rw [e1, e2]
        have h5 : k * (s * dotF m r u) < 0 := Int.mul_neg_of_pos_of_neg hk hd
        have h6 : 0 ≤ t * (s * dotF m r x) := Int.mul_nonneg (by omega) (by omega)
        omega
      obtain ⟨y, hy, hys, hyd⟩ := ih _ (by omega) hw hdw
      exact ⟨y, hy, hys.trans hws, hyd⟩
theorem Ln.scale {q : Int} (h : Ln m R u) (hq : 0 < q) (e : ∀ j, v j * q = u j) : Ln m R v := by
  have hz : ∀ j, v j = 0 ↔ u j = 0 := fun j => by
    have := e j
    constructor
    · intro z; rw [z] at this; simp at this; exact this.symm
    · intro z; rw [z] at this; rcases Int.mul_eq_zero.mp this with w | w
      · exact w
      · omega
  refine ⟨⟨fun j hj => (hz j).mpr (h.out j hj), fun j => ?_, ?_⟩, ?_, fun w hw hwz hs j hj => h.mn w hw hwz (fun i hi z => hs i hi ((hz i).mpr z)) j (fun z => hj ((hz j).mpr z))⟩
  · have h1 := h.nn j
    rw [← e j] at h1
    rcases Int.lt_or_le (v j) 0 with w | w
    · have := Int.mul_neg_of_neg_of_pos w hq; omega
    · exact w
  · refine (kern_lin m R).div q v (by omega) ?_
    have : (fun j => q * v j) = u := by funext j; rw [Int.mul_comm]; exact e j
    rw [this]; exact h.kn
  · obtain ⟨j, hj⟩ := h.nz
    exact ⟨j, fun z => hj ((hz j).mp z)⟩
end
/-- a lone list in its lowest form -/
structure LoneR (m : Nat) (R : List Row) (x : Row) : Prop where
  len : x.length = m
  ln : Ln m R (gx x)
  low : gcdL x = 1
theorem gcd_nz {x : Row} (h : gcdL x = 1) : Nz (gx x) := Classical.byContradiction fun z => by
  have : gcdL x = 0 := gcdL_zero.mpr fun y hy => by
    obtain ⟨i, hi⟩ := List.getElem?_of_mem hy
    have e : gx x i = y := by unfold gx; rw [List.getD_eq_getElem?_getD, hi]; rfl
    rw [← e]
    exact Classical.byContradiction fun q => z ⟨i, q⟩
  omega
theorem eq_of_prop {m : Nat} {x y : Row} (hx : x.length = m) (hy : y.length = m) (h1 : gcdL x = 1) (h2 : gcdL y = 1) {k t : Int} (hk : 0 < k) (ht : 0 < t) (h : ∀ j, k * gx x j = t * gx y j) : x = y := by
  have d1 : t ∣ k := dvd_gcd_mul h1 fun j => ⟨gx y j, h j⟩
  have d2 : k ∣ t := dvd_gcd_mul h2 fun j => ⟨gx x j, (h j).symm⟩
  have e : k = t := Int.dvd_antisymm (by omega) (by omega) d2 d1
  refine row_ext (by omega) fun j => ?_
  have := h j
  rw [e] at this
  exact Int.eq_of_mul_eq_mul_left (show t ≠ 0 by omega) this
theorem LoneR.eq {m : Nat} {R : List Row} {x y : Row} (hx : LoneR m R x) (hy : LoneR m R y) (h : Sb (gx y) (gx x)) : x = y := by
  obtain ⟨k, t, hk, ht, e⟩ := hx.ln.prop hy.ln.toCn hy.ln.nz h
  exact eq_of_prop hx.len hy.len hx.low hy.low hk ht e
theorem low_ex (r : Row) : ∃ q : Int, 0 < q ∧ ∀ j, gx (lowL r) j * q = gx r j := by
  refine ⟨_, mz_pos r, fun j => ?_⟩
  have := low_mul r j
  rw [Int.mul_comm]; exact this
theorem low_one {r : Row} (h : Nz (gx r)) : gcdL (lowL r) = 1 := low_gcd fun z => by
  obtain ⟨j, hj⟩ := h
  refine hj ?_
  by_cases hl : j < r.length
  · exact gcdL_zero.mp z _ (gx_mem hl)
  · exact gx_out (by omega)
section
variable {m : Nat} {R : List Row}
theorem lone_row {u : Fn} (h : Ln m R u) : ∃ x, LoneR m R x ∧ Sb (gx x) u ∧ Sb u (gx x) := by
  obtain ⟨q, hq, e⟩ := low_ex (rowF m u)
  have eu := rowF_gx h.out
  rw [eu] at e
  refine ⟨lowL (rowF m u), ⟨by rw [low_len, rowF_len], h.scale hq e, low_one (by rw [eu]; exact h.nz)⟩, fun j hj z => hj ?_, fun j hj z => hj ?_⟩
  · have := e j
    rw [z] at this
    rcases Int.mul_eq_zero.mp this with w | w
    · exact w
    · omega
  · have := e j
    rw [z] at this
    simp at this
    exact this.symm
theorem lone_inR {u : Fn} (h : Cn m R u) (hz : Nz u) : ∃ x, LoneR m R x ∧ Sb (gx x) u := by
  obtain ⟨x, hx, hs⟩ := lone_in (sc m u) u (Nat.le_refl _) h hz
  obtain ⟨y, hy, h1, _⟩ := lone_row hx
  exact ⟨y, hy, h1.trans hs⟩
theorem lone_signR {r u : Fn} {s : Int} (h : Cn m R u) (hd : s * dotF m r u < 0) : ∃ x, LoneR m R x ∧ Sb (gx x) u ∧ s * dotF m r (gx x) < 0 := by
  obtain ⟨y, hy, hys, hyd⟩ := lone_sign (sc m u) u (Nat.le_refl _) h hd
  obtain ⟨x, hx, h1, h2⟩ := lone_row hy
  obtain ⟨k, t, hk, ht, e⟩ := hy.prop hx.ln.toCn hx.ln.nz h1
  refine ⟨x, hx, h1.trans hys, ?_⟩
  have e2 : k * dotF m r y = t * dotF m r (gx x) := by
    rw [← dotF_mul, ← dotF_mul]
    exact dotF_congr (fun _ _ => rfl) fun j _ => e j
  have e3 : t * (s * dotF m r (gx x)) = k * (s * dotF m r y) := by
    have f1 : t * (s * dotF m r (gx x)) = s * (t * dotF m r (gx x)) := by ac_rfl
    have f2 : k * (s * dotF m r y) = s * (k * dotF m r y) := by ac_rfl
    rw [f1, f2, e2]
  have h5 : k * (s * dotF m r y) < 0 := Int.mul_neg_of_pos_of_neg hk hyd
  rw [← e3] at h5
  rcases Int.lt_or_le (s * dotF m r (gx x)) 0 with w | w
  · exact w
  · have := Int.mul_nonneg (show 0 ≤ t by omega) w; omega
/-- two lists so often that they come to 0 -/
def mixR (x : Row) (dx : Int) (y : Row) (dy : Int) : Row := lowL ((x.zip y).map fun p => p.1 * -dy + p.2 * dx)
theorem kern_snoc {r : Row} {u : Fn} : Kern m (R ++ [r]) u ↔ Kern m R u ∧ dotF m (gx r) u = 0 := by
  constructor
  · exact fun h => ⟨fun q hq => h q (by simp [hq]), h r (by simp)⟩
  · rintro ⟨h1, h2⟩ q hq
    rcases List.mem_append.mp hq with z | z
    · exact h1 q z
    · rw [List.mem_singleton.mp z]; exact h2
theorem Cn.pre {r : Row} {u : Fn} (h : Cn m (R ++ [r]) u) : Cn m R u := ⟨h.out, h.nn, (kern_snoc.mp h.kn).1⟩
structure MixOk (m : Nat) (R : List Row) (r x y z : Row) : Prop where
  len : z.length = m
  cn : Cn m (R ++ [r]) (gx z)
  low : gcdL z = 1
  sl : Sb (gx x) (gx z)
  sr : Sb (gx y) (gx z)
  sub : ∀ j, gx z j ≠ 0 → gx x j ≠ 0 ∨ gx y j ≠ 0
  ex : ∃ q : Int, 0 < q ∧ ∀ j, gx z j * q = gx x j * -dotF m (gx r) (gx y) + gx y j * dotF m (gx r) (gx x)
theorem mix_ok {r x y : Row} (hxl : x.length = m) (hyl : y.length = m) (hx : Cn m R (gx x)) (hy : Cn m R (gx y)) (hz : Nz (gx x)) (d1 : 0 < dotF m (gx r) (gx x)) (d2 : dotF m (gx r) (gx y) < 0) : MixOk m R r x y (mixR x (dotF m (gx r) (gx x)) y (dotF m (gx r) (gx y))) := by
  unfold mixR
  obtain ⟨dx, ex⟩ : ∃ dx, dx = dotF m (gx r) (gx x) := ⟨_, rfl⟩
  obtain ⟨dy, ey⟩ : ∃ dy, dy = dotF m (gx r) (gx y) := ⟨_, rfl⟩
  rw [← ex] at d1
  rw [← ey] at d2
  rw [← ex, ← ey]
  obtain ⟨w, ew⟩ : ∃ w, w = (x.zip y).map fun p => p.1 * -dy + p.2 * dx := ⟨_, rfl⟩
  have hw : ∀ j, gx w j = gx x j * -dy + gx y j * dx := fun j => by rw [ew]; exact gx_zip (by omega) (fun a b => a * -dy + b * dx) (by simp) j
  have hwl : w.length = m := by rw [ew, List.length_map, List.length_zip]; omega
  rw [← ew]
  have p1 : ∀ j, 0 ≤ gx x j * -dy := fun j => Int.mul_nonneg (hx.nn j) (by omega)
  have p2 : ∀ j, 0 ≤ gx y j * dx := fun j => Int.mul_nonneg (hy.nn j) (by omega)
  have z1 : ∀ j, gx w j = 0 ↔ gx x j = 0 ∧ gx y j = 0 := fun j => by
    have a := p1 j
    have b := p2 j
    rw [hw]
    constructor
    · intro h
      have h1 : gx x j * -dy = 0 := by omega
      have h2 : gx y j * dx = 0 := by omega
      rcases Int.mul_eq_zero.mp h1 with q | q
      · rcases Int.mul_eq_zero.mp h2 with q' | q'
        · exact ⟨q, q'⟩
        · omega
      · omega
    · rintro ⟨h1, h2⟩; rw [h1, h2]; simp
  obtain ⟨q, hq, e⟩ := low_ex w
  have z2 : ∀ j, gx (lowL w) j = 0 ↔ gx w j = 0 := fun j => low_zero w j
  have hnz : Nz (gx w) := by obtain ⟨j, hj⟩ := hz; exact ⟨j, fun z => hj ((z1 j).mp z).1⟩
  refine ⟨by rw [low_len, hwl], ⟨fun j hj => gx_out (by rw [low_len, hwl]; exact hj), fun j => ?_, ?_⟩, low_one hnz, fun j hj z => hj ((z1 j).mp ((z2 j).mp z)).1, fun j hj z => hj ((z1 j).mp ((z2 j).mp z)).2, fun j hj => ?_, q, hq, fun j => by rw [e, hw, ← ex, ← ey]⟩
  · have h1 : 0 ≤ gx w j := by rw [hw]; have := p1 j; have := p2 j; omega
    rw [← e j] at h1
    rcases Int.lt_or_le (gx (lowL w) j) 0 with w' | w'
    · have := Int.mul_neg_of_neg_of_pos w' hq; omega
    · exact w'
  · have hk : Kern m (R ++ [r]) (gx w) := by
      have e4 : gx w = fun j => -dy * gx x j - (-dx) * gx y j := by
        funext j
        rw [hw, Int.mul_comm (gx x j), Int.mul_comm (gx y j), Int.neg_mul dx]
        generalize -dy * gx x j = A
        generalize dx * gx y j = B
        omega
      rw [e4]
      refine kern_snoc.mpr ⟨kern_sub hx.kn hy.kn _ _, ?_⟩
      rw [dot_sub, ← ex, ← ey]
      have : -dx * dy = -dy * dx := by rw [Int.neg_mul, Int.neg_mul, Int.mul_comm]
      omega
    refine (kern_lin m (R ++ [r])).div q _ (by omega) ?_
    have e5 : (fun j => q * gx (lowL w) j) = gx w := by funext j; rw [Int.mul_comm]; exact e j
    rw [e5]; exact hk
  · by_cases h1 : gx x j = 0
    · exact .inr fun h2 => hj ((z2 j).mpr ((z1 j).mpr ⟨h1, h2⟩))
    · exact .inl h1
/-- the lone lists of some rows and one row more -/
theorem lone_step {r : Row} {L : List Row} (hL : ∀ x, x ∈ L ↔ LoneR m R x) (z : Row) : LoneR m (R ++ [r]) z ↔ (z ∈ L ∧ dotF m (gx r) (gx z) = 0) ∨
    ∃ x ∈ L, ∃ y ∈ L, 0 < dotF m (gx r) (gx x) ∧ dotF m (gx r) (gx y) < 0 ∧ (∀ w ∈ L, (∀ j, gx w j ≠ 0 → gx x j ≠ 0 ∨ gx y j ≠ 0) → w = x ∨ w = y) ∧ z = mixR x (dotF m (gx r) (gx x)) y (dotF m (gx r) (gx y)) := by
  constructor
  · intro hz
    have hzR : Cn m R (gx z) := hz.ln.toCn.pre
    have hz0 : dotF m (gx r) (gx z) = 0 := (kern_snoc.mp hz.ln.kn).2
    -- a lone list of R in z that is 0 for r is z
    have same : ∀ x, LoneR m R x → Sb (gx x) (gx z) → dotF m (gx r) (gx x) = 0 → x = z := fun x hx hs h0 => by
      obtain ⟨k, t, hk, ht, e⟩ := hz.ln.prop ⟨hx.ln.out, hx.ln.nn, kern_snoc.mpr ⟨hx.ln.kn, h0⟩⟩ hx.ln.nz hs
      exact (eq_of_prop hz.len hx.len hz.low hx.low hk ht e).symm
    by_cases hin : z ∈ L
    · exact .inl ⟨hin, hz0⟩
    · right
      obtain ⟨x0, hx0, hs0⟩ := lone_inR hzR hz.ln.nz
      have hd0 : dotF m (gx r) (gx x0) ≠ 0 := fun h => hin (by rw [← same x0 hx0 hs0 h]; exact (hL x0).mpr hx0)
      -- one of either sign
      obtain ⟨k, t, hk, ht, hw, hws, _⟩ := hzR.cut hx0.ln.toCn hx0.ln.nz hs0
      have hdw : dotF m (gx r) (fun j => k * gx z j - t * gx x0 j) = -(t * dotF m (gx r) (gx x0)) := by rw [dot_sub, hz0]; omega
      have both : ∃ x y, LoneR m R x ∧ LoneR m R y ∧ Sb (gx x) (gx z) ∧ Sb (gx y) (gx z) ∧ 0 < dotF m (gx r) (gx x) ∧ dotF m (gx r) (gx y) < 0 := by
        rcases Int.lt_or_gt_of_ne hd0 with q | q
        · obtain ⟨x, hx, hxs, hxd⟩ := lone_signR (s := -1) hw (r := gx r) (by rw [hdw]; have := Int.mul_neg_of_pos_of_neg ht q; omega)
          exact ⟨x, x0, hx, hx0, hxs.trans hws, hs0, by omega, q⟩
        · obtain ⟨y, hy, hys, hyd⟩ := lone_signR (s := 1) hw (r := gx r) (by rw [hdw]; have := Int.mul_pos ht q; omega)
          exact ⟨x0, y, hx0, hy, hs0, hys.trans hws, q, by omega⟩
      obtain ⟨x, y, hx, hy, hxs, hys, dx, dy⟩ := both
      have M := mix_ok hx.len hy.len hx.ln.toCn hy.ln.toCn hx.ln.nz dx dy
      have mixeq : ∀ x y, LoneR m R x → LoneR m R y → Sb (gx x) (gx z) → Sb (gx y) (gx z) → 0 < dotF m (gx r) (gx x) → dotF m (gx r) (gx y) < 0 → z = mixR x (dotF m (gx r) (gx x)) y (dotF m (gx r) (gx y)) := fun x y hx hy hxs hys dx dy => by
        have M := mix_ok hx.len hy.len hx.ln.toCn hy.ln.toCn hx.ln.nz dx dy
        obtain ⟨k, t, hk, ht, e⟩ := hz.ln.prop M.cn (gcd_nz M.low) (fun j hj => by
          rcases M.sub j hj with q | q
          · exact hxs j q
          · exact hys j q)
        exact eq_of_prop hz.len M.len hz.low M.low hk ht e
      have ez := mixeq x y hx hy hxs hys dx dy
      rw [← ez] at M
      refine ⟨x, (hL x).mpr hx, y, (hL y).mpr hy, dx, dy, fun w hwL hwsub => ?_, ez⟩
      have hwR := (hL w).mp hwL
      have hws2 : Sb (gx w) (gx z) := fun j hj => by
        rcases hwsub j hj with q | q
        · exact hxs j q
        · exact hys j q
      obtain ⟨q1, hq1, f1⟩ := M.ex
      -- a combination of x and y that is a multiple of w
      have fin : ∀ (a b c : Int), c ≠ 0 → 0 ≤ a → (∀ j, c * gx w j = a * gx x j + b * gx y j) → c > 0 → w = x ∨ w = y := fun a b c hc ha hcomb hcp => by
        rcases Int.lt_or_le 0 a with ha0 | ha0
        · rcases Int.lt_or_le b 0 with hb | hb
          · -- a x = c w + (-b) y : w in x
            refine .inl (hx.eq hwR fun j hj z => ?_).symm
            have h1 := hcomb j
            rw [z, Int.mul_zero, Int.zero_add] at h1
            have h2 : 0 < c * gx w j := Int.mul_pos hcp (by have := hwR.ln.nn j; omega)
            have h3 : b * gx y j ≤ 0 := Int.mul_nonpos_of_nonpos_of_nonneg (by omega) (hy.ln.nn j)
            omega
          · -- x in w
            refine .inl (hwR.eq hx fun j hj z => ?_)
            have h1 := hcomb j
            rw [z, Int.mul_zero] at h1
            have h2 : 0 < a * gx x j := Int.mul_pos ha0 (by have := hx.ln.nn j; omega)
            have h3 : 0 ≤ b * gx y j := Int.mul_nonneg hb (hy.ln.nn j)
            omega
        · have ea : a = 0 := by omega
          refine .inr (hy.eq hwR fun j hj z => ?_).symm
          have h1 := hcomb j
          rw [ea, z, Int.zero_mul, Int.mul_zero, Int.add_zero] at h1
          rcases Int.mul_eq_zero.mp h1 with h1 | h1
          · exact hc h1
          · exact hj h1
      have fin2 : ∀ (a b c : Int), 0 ≤ b → (∀ j, c * gx w j = a * gx x j + b * gx y j) → c > 0 → w = x ∨ w = y := fun a b c hb hcomb hcp => by
        rcases Int.lt_or_le 0 b with hb0 | hb0
        · rcases Int.lt_or_le a 0 with ha | ha
          · refine .inr (hy.eq hwR fun j hj z => ?_).symm
            have h1 := hcomb j
            rw [z, Int.mul_zero, Int.add_zero] at h1
            have h2 : 0 < c * gx w j := Int.mul_pos hcp (by have := hwR.ln.nn j; omega)
            have h3 : a * gx x j ≤ 0 := Int.mul_nonpos_of_nonpos_of_nonneg (by omega) (hx.ln.nn j)
            omega
          · refine .inr (hwR.eq hy fun j hj z => ?_)
            have h1 := hcomb j
            rw [z, Int.mul_zero] at h1
            have h2 : 0 < b * gx y j := Int.mul_pos hb0 (by have := hy.ln.nn j; omega)
            have h3 : 0 ≤ a * gx x j := Int.mul_nonneg ha (hx.ln.nn j)
            omega
        · have eb : b = 0 := by omega
          refine .inl (hx.eq hwR fun j hj z => ?_).symm
          have h1 := hcomb j
          rw [eb, z, Int.zero_mul, Int.mul_zero, Int.add_zero] at h1
          rcases Int.mul_eq_zero.mp h1 with h1 | h1
          · omega
          · exact hj h1
      by_cases h0 : dotF m (gx r) (gx w) = 0
      · -- w is z, so x lies in w
        have e := same w hwR hws2 h0
        exact .inl (hwR.eq hx (by rw [e]; exact hxs))
      · rcases Int.lt_or_gt_of_ne h0 with q | q
        · -- z = mix x w
          have e := mixeq x w hx hwR hxs hws2 dx q
          have M2 := mix_ok hx.len hwR.len hx.ln.toCn hwR.ln.toCn hx.ln.nz dx q
          rw [← e] at M2
          obtain ⟨q2, hq2, f2⟩ := M2.ex
          generalize dotF m (gx r) (gx x) = A at *
          generalize dotF m (gx r) (gx y) = B at *
          generalize dotF m (gx r) (gx w) = D at *
          -- q1 (x (-D) + w A) = q2 (x (-B) + y A)
          refine fin2 (q1 * D - q2 * B) (q2 * A) (q1 * A) (Int.mul_nonneg (by omega) (by omega)) (fun j => ?_) (Int.mul_pos hq1 dx)
          have g1 := f1 j
          have g2 := f2 j
          have g3 : q1 * (gx x j * -D + gx w j * A) = q2 * (gx x j * -B + gx y j * A) := by rw [← g1, ← g2]; ac_rfl
          rw [Int.mul_add, Int.mul_add, Int.mul_neg, Int.mul_neg, Int.mul_neg, Int.mul_neg] at g3
          rw [Int.sub_mul]
          have t1 : q1 * (gx x j * D) = q1 * D * gx x j := by ac_rfl
          have t2 : q1 * (gx w j * A) = q1 * A * gx w j := by ac_rfl
          have t3 : q2 * (gx x j * B) = q2 * B * gx x j := by ac_rfl
          have t4 : q2 * (gx y j * A) = q2 * A * gx y j := by ac_rfl
          omega
        · -- z = mix w y
          have e := mixeq w y hwR hy hws2 hys q dy
          have M2 := mix_ok hwR.len hy.len hwR.ln.toCn hy.ln.toCn hwR.ln.nz q dy
          rw [← e] at M2
          obtain ⟨q2, hq2, f2⟩ := M2.ex
          generalize dotF m (gx r) (gx x) = A at *
          generalize dotF m (gx r) (gx y) = B at *
          generalize dotF m (gx r) (gx w) = D at *
          refine fin (q2 * -B) (q2 * A - q1 * D) (q1 * -B) (by have := Int.mul_pos hq1 (show 0 < -B by omega); omega) (Int.mul_nonneg (by omega) (by omega)) (fun j => ?_) (Int.mul_pos hq1 (by omega))
          have g1 := f1 j
          have g2 := f2 j
          have g3 : q1 * (gx w j * -B + gx y j * D) = q2 * (gx x j * -B + gx y j * A) := by rw [← g1, ← g2]; ac_rfl
          rw [Int.mul_add, Int.mul_add] at g3
          rw [Int.sub_mul]
          have t1 : q1 * (gx y j * D) = q1 * D * gx y j := by ac_rfl
          have t2 : q1 * (gx w j * -B) = q1 * -B * gx w j := by ac_rfl
          have t3 : q2 * (gx x j * -B) = q2 * -B * gx x j := by ac_rfl
          have t4 : q2 * (gx y j * A) = q2 * A * gx y j := by ac_rfl
          omega
  · rintro (⟨hz, h0⟩ | ⟨x, hxL, y, hyL, dx, dy, hadj, ez⟩)
    · have hR := (hL z).mp hz
      exact ⟨hR.len, ⟨⟨hR.ln.out, hR.ln.nn, kern_snoc.mpr ⟨hR.ln.kn, h0⟩⟩, hR.ln.nz, fun v hv hvz hs => hR.ln.mn v hv.pre hvz hs⟩, hR.low⟩
    · have hx := (hL x).mp hxL
      have hy := (hL y).mp hyL
      have M := mix_ok hx.len hy.len hx.ln.toCn hy.ln.toCn hx.ln.nz dx dy
      rw [← ez] at M
      refine ⟨M.len, ⟨M.cn, gcd_nz M.low, fun v hv hvz hs => ?_⟩, M.low⟩
      have hv0 : dotF m (gx r) v = 0 := (kern_snoc.mp hv.kn).2
      have adj : ∀ w, LoneR m R w → Sb (gx w) v → w = x ∨ w = y := fun w hw hws => hadj w ((hL w).mpr hw) fun j hj => M.sub j (hs j (hws j hj))
      -- both are in v
      have hxv : ∀ {a b : Row}, LoneR m R a → Sb (gx a) v → dotF m (gx r) (gx a) ≠ 0 → ∃ c, LoneR m R c ∧ Sb (gx c) v ∧ (0 < dotF m (gx r) (gx a) → dotF m (gx r) (gx c) < 0) ∧ (dotF m (gx r) (gx a) < 0 → 0 < dotF m (gx r) (gx c)) := fun {a b} ha has hne => by
        obtain ⟨k, t, hk, ht, hw, hws, _⟩ := hv.pre.cut ha.ln.toCn ha.ln.nz has
        have hdw : dotF m (gx r) (fun j => k * v j - t * gx a j) = -(t * dotF m (gx r) (gx a)) := by rw [dot_sub, hv0]; omega
        rcases Int.lt_or_gt_of_ne hne with q | q
        · obtain ⟨c, hc, hcs, hcd⟩ := lone_signR (s := -1) hw (r := gx r) (by rw [hdw]; have := Int.mul_neg_of_pos_of_neg ht q; omega)
          exact ⟨c, hc, hcs.trans hws, fun h => by omega, fun _ => by omega⟩
        · obtain ⟨c, hc, hcs, hcd⟩ := lone_signR (s := 1) hw (r := gx r) (by rw [hdw]; have := Int.mul_pos ht q; omega)
          exact ⟨c, hc, hcs.trans hws, fun _ => by omega, fun h => by omega⟩
      obtain ⟨w0, hw0, hws0⟩ := lone_inR hv.pre hvz
      have hb : Sb (gx x) v ∧ Sb (gx y) v := by
        rcases adj w0 hw0 hws0 with e | e
        · rw [e] at hws0
          obtain ⟨c, hc, hcs, hc1, _⟩ := hxv (b := x) hx hws0 (by omega)
          have hcd := hc1 dx
          rcases adj c hc hcs with e2 | e2
          · rw [e2] at hcd; omega
          · rw [e2] at hcs; exact ⟨hws0, hcs⟩
        · rw [e] at hws0
          obtain ⟨c, hc, hcs, _, hc2⟩ := hxv (b := x) hy hws0 (by omega)
          have hcd := hc2 dy
          rcases adj c hc hcs with e2 | e2
          · rw [e2] at hcs; exact ⟨hcs, hws0⟩
          · rw [e2] at hcd; omega
      intro j hj
      rcases M.sub j hj with q | q
      · exact hb.1 j q
      · exact hb.2 j q
/-- of no rows -/
theorem lone_nil (z : Row) : LoneR m [] z ↔ ∃ i < m, z = unitR i m := by
  have uc : ∀ i < m, Cn m [] (gx (unitR i m)) := fun i hi => ⟨fun j hj => gx_out (by rw [unitR_len]; exact hj), fun j => by rw [unitR_gx hi]; split <;> decide, fun _ h => by simp at h⟩
  have ug : ∀ i < m, gcdL (unitR i m) = 1 := fun i hi => by
    have h1 : gcdL (unitR i m) ∣ 1 := by
      have hm : (1 : Int) ∈ unitR i m := by
        unfold unitR
        exact List.mem_iff_getElem?.mpr ⟨i, by rw [List.getElem?_set_self (by simpa using hi)]⟩
      exact gcdL_dvd hm
    have h2 := gcdL_nonneg (unitR i m)
    exact Int.eq_one_of_dvd_one h2 h1
  constructor
  · intro hz
    obtain ⟨i, hi, hne⟩ := hz.ln.nz.in_ hz.ln.out
    refine ⟨i, hi, ?_⟩
    obtain ⟨k, t, hk, ht, e⟩ := hz.ln.prop (uc i hi) ⟨i, by rw [unitR_gx hi, if_pos rfl]; decide⟩ (fun j hj => by
      rw [unitR_gx hi] at hj
      split at hj
      · rename_i e; rw [← e]; exact hne
      · exact absurd rfl hj)
    exact eq_of_prop hz.len (unitR_len _ _) hz.low (ug i hi) hk ht e
  · rintro ⟨i, hi, rfl⟩
    refine ⟨unitR_len _ _, ⟨uc i hi, ⟨i, by rw [unitR_gx hi, if_pos rfl]; decide⟩, fun v hv hvz hs j hj => ?_⟩, ug i hi⟩
    obtain ⟨l, hl⟩ := hvz
    have e1 : i = l := by
      have := hs l hl
      rw [unitR_gx hi] at this
      split at this
      · assumption
      · exact absurd rfl this
    have e2 : i = j := by
      rw [unitR_gx hi] at hj
      split at hj
      · assumption
      · exact absurd rfl hj
    rw [← e2, e1]; exact hl
end
/-! ### lone lists, by the program -/
def maskS (s : Nat) (p : Int × Int) : Nat := if 0 < p.2 then s ||| 2 ^ p.1.toNat else s
def maskN (x : Row) : Nat := (Y.enum x).foldl maskS 0
theorem mask_fold : ∀ (ps : List (Int × Int)) (k j : Nat), (ps.foldl maskS k).testBit j = (k.testBit j || ps.any fun p => decide (p.1.toNat = j) && decide (0 < p.2))
  | [], k, j => by simp
  | p :: ps, k, j => by
    rw [List.foldl_cons, mask_fold ps, List.any_cons]
    unfold maskS
    split
    · rename_i h
      rw [Nat.testBit_or, Nat.testBit_two_pow, decide_eq_true h, Bool.and_true, Bool.or_assoc]
    · rename_i h
      rw [decide_eq_false h, Bool.and_false, Bool.false_or]
theorem maskN_bit (x : Row) (j : Nat) : (maskN x).testBit j = decide (0 < gx x j) := by
  unfold maskN
  rw [mask_fold, Nat.zero_testBit, Bool.false_or, Bool.eq_iff_iff, List.any_eq_true, decide_eq_true_iff]
  constructor
  · rintro ⟨p, hp, h⟩
    rw [Bool.and_eq_true, decide_eq_true_iff, decide_eq_true_iff] at h
    obtain ⟨i, hi⟩ := List.getElem?_of_mem hp
    unfold Y.enum at hi
    obtain ⟨h1, h2⟩ := List.getElem?_zip_eq_some.mp hi
    have h3 := rng_get h1
    have e : gx x j = p.2 := by
      unfold gx
      rw [List.getD_eq_getElem?_getD, show j = i by omega, h2]; rfl
    omega
  · intro h
    have hj : j < x.length := by
      by_cases q : j < x.length
      · exact q
      · rw [gx_out (by omega)] at h; omega
    have hr : j < (rng 0 (x.length : Int)).length := by rw [rng_length]; omega
    have h3 := rng_get (List.getElem?_eq_getElem hr)
    refine ⟨((rng 0 (x.length : Int))[j], x[j]), ?_, ?_⟩
    · unfold Y.enum
      exact List.mem_iff_getElem?.mpr ⟨j, List.getElem?_zip_eq_some.mpr ⟨List.getElem?_eq_getElem hr, List.getElem?_eq_getElem hj⟩⟩
    · have e : gx x j = x[j] := by unfold gx; rw [List.getD_eq_getElem?_getD, List.getElem?_eq_getElem hj]; rfl
      rw [Bool.and_eq_true, decide_eq_true_iff, decide_eq_true_iff]
      exact ⟨by show (rng 0 (x.length : Int))[j].toNat = j; omega, by show 0 < x[j]; omega⟩
theorem le_mask {x : Row} (hl : x.length ≤ 100) {P : Int → Prop} {E : Exn → Prop} (hp : P (maskN x : Int)) : (m_mask_of (x, ())).wp P E := by
  unfold m_mask_of
  simp only [W.wp_bind, W.wp_pure]
  refine W.foldM_inv (α := Int × Int) (σ := Int) (fun done s => s = ((done.foldl maskS 0 : Nat) : Int)) (Y.enum x) (fun done p rest s e hs => ?_) rfl (fun s hs => by rw [hs]; exact hp)
  obtain ⟨e1, _, _, hlt⟩ := enum_get e
  unfold m_mask_of_b1
  simp only [W.wp_bind, W.wp_pure, W.wp_ite]
  rw [List.foldl_append]
  show _ 
  by_cases h : 0 < p.2
  · rw [if_pos (decide_eq_true h)]
    have hp1 : p.1 ≤ 100 := by omega
    refine ⟨⟨by omega, by omega, by decide⟩, ?_⟩
    show _ = ((maskS (done.foldl maskS 0) p : Nat) : Int)
    unfold maskS
    rw [if_pos h, hs, Int.one_mul]
    have e2 : (2 : Int) ^ p.1.toNat = ((2 ^ p.1.toNat : Nat) : Int) := by rw [Int.natCast_pow]; rfl
    rw [e2]
    exact L2.bitOr_nn (Int.natCast_nonneg _) (Int.natCast_nonneg _)
  · rw [if_neg (by simpa using h)]
    show s = ((maskS (done.foldl maskS 0) p : Nat) : Int)
    unfold maskS
    rw [if_neg h]
    exact hs
def inU (w x y : Row) : Bool := decide (maskN w ||| (maskN x ||| maskN y) = (maskN x ||| maskN y))
theorem inU_iff {w x y : Row} (hw : ∀ j, 0 ≤ gx w j) (hx : ∀ j, 0 ≤ gx x j) (hy : ∀ j, 0 ≤ gx y j) : inU w x y = true ↔ ∀ j, gx w j ≠ 0 → gx x j ≠ 0 ∨ gx y j ≠ 0 := by
  unfold inU
  rw [decide_eq_true_iff]
  constructor
  · intro h j hj
    have := congrArg (fun k => k.testBit j) h
    simp only [Nat.testBit_or, maskN_bit] at this
    have h1 : 0 < gx w j := by have := hw j; omega
    rw [decide_eq_true h1, Bool.true_or] at this
    have := this.symm
    rw [Bool.or_eq_true, decide_eq_true_iff, decide_eq_true_iff] at this
    rcases this with q | q
    · exact .inl (by omega)
    · exact .inr (by omega)
  · intro h
    refine Nat.eq_of_testBit_eq fun j => ?_
    simp only [Nat.testBit_or, maskN_bit]
    by_cases h1 : 0 < gx w j
    · have h2 := h j (by omega)
      have h3 := hx j
      have h4 := hy j
      rw [decide_eq_true h1, Bool.true_or]
      rcases h2 with q | q
      · rw [decide_eq_true (show 0 < gx x j by omega), Bool.true_or]
      · rw [decide_eq_true (show 0 < gx y j by omega), Bool.or_true]
    · rw [decide_eq_false h1, Bool.false_or]
theorem mask_eq {x y : Row} (hx : ∀ j, 0 ≤ gx x j) (h : maskN x = maskN y) : Sb (gx x) (gx y) := fun j hj z => by
  have := congrArg (fun k => k.testBit j) h
  simp only [maskN_bit] at this
  have h1 := hx j
  rw [decide_eq_true (show 0 < gx x j by omega), z] at this
  simp at this
def apart (L : List Row) (x y : Row) : Bool := (L.map fun w => (maskN w : Int)).any fun k => decide (k ≠ (maskN x : Int)) && decide (k ≠ (maskN y : Int)) && decide (Builtin.bitOr k (Builtin.bitOr (maskN x : Int) (maskN y : Int)) = Builtin.bitOr (maskN x : Int) (maskN y : Int))
theorem apart_iff {m : Nat} {R : List Row} {L : List Row} (hL : ∀ x ∈ L, LoneR m R x) {x y : Row} (hx : x ∈ L) (hy : y ∈ L) : apart L x y = false ↔ ∀ w ∈ L, (∀ j, gx w j ≠ 0 → gx x j ≠ 0 ∨ gx y j ≠ 0) → w = x ∨ w = y := by
  have hor : ∀ w : Row, Builtin.bitOr (maskN w : Int) (Builtin.bitOr (maskN x : Int) (maskN y : Int)) = ((maskN w ||| (maskN x ||| maskN y) : Nat) : Int) := fun w => by
    rw [L2.bitOr_nn (x := (maskN x : Int)) (Int.natCast_nonneg _) (Int.natCast_nonneg _), L2.bitOr_nn (Int.natCast_nonneg _) (Int.natCast_nonneg _)]
    simp only [Int.toNat_natCast]
  have hor2 : Builtin.bitOr (maskN x : Int) (maskN y : Int) = ((maskN x ||| maskN y : Nat) : Int) := by
    rw [L2.bitOr_nn (Int.natCast_nonneg _) (Int.natCast_nonneg _)]
    simp only [Int.toNat_natCast]
  unfold apart
  rw [List.any_map, List.any_eq_false]
  have key : ∀ w ∈ L, (((fun k : Int => decide (k ≠ (maskN x : Int)) && decide (k ≠ (maskN y : Int)) && decide (Builtin.bitOr k (Builtin.bitOr (maskN x : Int) (maskN y : Int)) = Builtin.bitOr (maskN x : Int) (maskN y : Int))) ∘ fun w => (maskN w : Int)) w = true) ↔ (w ≠ x ∧ w ≠ y ∧ ∀ j, gx w j ≠ 0 → gx x j ≠ 0 ∨ gx y j ≠ 0) := fun w hw => by
    have hiff : ∀ v ∈ L, ((maskN w : Int) ≠ (maskN v : Int)) ↔ w ≠ v := fun v hv => by
      constructor
      · intro h e; exact h (by rw [e])
      · intro h e
        have e' : maskN w = maskN v := by omega
        exact h ((hL v hv).eq (hL w hw) (mask_eq (hL w hw).ln.nn e')).symm
    show (_ && _ && _) = true ↔ _
    rw [Bool.and_eq_true, Bool.and_eq_true, decide_eq_true_iff, decide_eq_true_iff, hiff x hx, hiff y hy, hor, hor2, ← inU_iff (hL w hw).ln.nn (hL x hx).ln.nn (hL y hy).ln.nn, and_assoc]
    unfold inU
    rw [decide_eq_true_iff, decide_eq_true_iff]
    constructor
    · rintro ⟨a, b, c⟩; exact ⟨a, b, Int.ofNat.inj c⟩
    · rintro ⟨a, b, c⟩; exact ⟨a, b, by rw [c]⟩
  constructor
  · intro h w hw hs
    refine Classical.byContradiction fun z => h w hw ((key w hw).mpr ⟨fun e => z (.inl e), fun e => z (.inr e), hs⟩)
  · intro h w hw hk
    obtain ⟨a, b, c⟩ := (key w hw).mp hk
    rcases h w hw c with q | q
    · exact a q
    · exact b q
theorem le_apart {L : List Row} {x y : Row} {P : Bool → Prop} {E : Exn → Prop} (hp : P (apart L x y)) : (m_stand_apart ((maskN x : Int), (maskN y : Int), L.map (fun w => (maskN w : Int)), ())).wp P E := by
  unfold m_stand_apart
  simp only [W.wp_bind, W.wp_pure]
  refine foldR_first (q := fun k : Int => decide (k ≠ (maskN x : Int)) && decide (k ≠ (maskN y : Int)) && decide (Builtin.bitOr k (Builtin.bitOr (maskN x : Int) (maskN y : Int)) = Builtin.bitOr (maskN x : Int) (maskN y : Int))) (r := fun _ => true) _ (fun k hk P hp => ?_) _ ?_
  · unfold m_stand_apart_b1
    simp only [W.wp_bind, W.wp_pure, W.wp_ite]
    by_cases h1 : k = (maskN x : Int)
    · rw [if_neg (by simp [h1])]
      simp [h1] at hp
      simpa using hp
    · by_cases h2 : k = (maskN y : Int)
      · rw [if_pos (by simp [h1]), if_neg (by simp [h2])]
        simp [h2] at hp
        simpa using hp
      · rw [if_pos (by simp [h1]), if_pos (by simp [h2])]
        simp only [ne_eq, h1, h2, not_false_eq_true, decide_true, Bool.true_and, decide_eq_true_eq] at hp ⊢
        split at hp
        · rename_i q; rw [if_pos q]; exact hp
        · rename_i q; rw [if_neg q]; exact hp
  · unfold apart at hp
    cases e : (L.map fun w => (maskN w : Int)).find? fun k : Int => decide (k ≠ (maskN x : Int)) && decide (k ≠ (maskN y : Int)) && decide (Builtin.bitOr k (Builtin.bitOr (maskN x : Int) (maskN y : Int)) = Builtin.bitOr (maskN x : Int) (maskN y : Int)) with
    | none =>
      have : ((L.map fun w => (maskN w : Int)).any fun k => decide (k ≠ (maskN x : Int)) && decide (k ≠ (maskN y : Int)) && decide (Builtin.bitOr k (Builtin.bitOr (maskN x : Int) (maskN y : Int)) = Builtin.bitOr (maskN x : Int) (maskN y : Int))) = false := List.any_eq_false.mpr (List.find?_eq_none.mp e)
      rw [this] at hp
      exact hp
    | some k =>
      have e3 := List.find?_some (p := fun k : Int => decide (k ≠ (maskN x : Int)) && decide (k ≠ (maskN y : Int)) && decide (Builtin.bitOr k (Builtin.bitOr (maskN x : Int) (maskN y : Int)) = Builtin.bitOr (maskN x : Int) (maskN y : Int))) e
      have : ((L.map fun w => (maskN w : Int)).any fun k => decide (k ≠ (maskN x : Int)) && decide (k ≠ (maskN y : Int)) && decide (Builtin.bitOr k (Builtin.bitOr (maskN x : Int) (maskN y : Int)) = Builtin.bitOr (maskN x : Int) (maskN y : Int))) = true := List.any_eq_true.mpr ⟨k, List.mem_of_find?_eq_some e, e3⟩
      rw [this] at hp
      exact hp
theorem zip_map2 {α β γ : Type} (f : α → β) (g : α → γ) : ∀ xs : List α, Y.zip3 xs (xs.map f) (xs.map g) = xs.map fun x => (x, f x, g x)
  | [] => rfl
  | x :: xs => by
    have := zip_map2 f g xs
    unfold Y.zip3 at this ⊢
    rw [List.map_cons, List.map_cons, List.map_cons, List.zip_cons_cons, List.zip_cons_cons, this]
def dR (m : Nat) (r x : Row) : Int := dotF m (gx r) (gx x)
def inner (m : Nat) (r : Row) (L : List Row) (x : Row) (ys : List Row) : List Row := (ys.filter fun y => decide (dR m r y < 0) && !apart L x y).map fun y => mixR x (dR m r x) y (dR m r y)
def outer (m : Nat) (r : Row) (L : List Row) (xs : List Row) : List Row := (xs.filter fun x => decide (0 < dR m r x)).flatMap fun x => inner m r L x L
def narrowL (m : Nat) (r : Row) (L : List Row) : List Row := (L.filter fun x => decide (dR m r x = 0)) ++ outer m r L L
structure LnL (m : Nat) (R : List Row) (L : List Row) : Prop where
  nd : L.Nodup
  mem : ∀ x, x ∈ L ↔ LoneR m R x
theorem mem_outer {m : Nat} {r z : Row} {L : List Row} : z ∈ outer m r L L ↔ ∃ x ∈ L, ∃ y ∈ L, 0 < dR m r x ∧ dR m r y < 0 ∧ apart L x y = false ∧ z = mixR x (dR m r x) y (dR m r y) := by
  unfold outer inner
  simp only [List.mem_flatMap, List.mem_filter, List.mem_map, decide_eq_true_eq, Bool.and_eq_true, Bool.not_eq_true']
  constructor
  · rintro ⟨x, ⟨h1, h2⟩, y, ⟨h3, h4, h5⟩, rfl⟩; exact ⟨x, h1, y, h3, h2, h4, h5, rfl⟩
  · rintro ⟨x, h1, y, h3, h2, h4, h5, rfl⟩; exact ⟨x, ⟨h1, h2⟩, y, ⟨h3, h4, h5⟩, rfl⟩
theorem LnL.narrow {m : Nat} {R L : List Row} {r : Row} (h : LnL m R L) : LnL m (R ++ [r]) (narrowL m r L) := by
  have hLL : ∀ x ∈ L, LoneR m R x := fun x hx => (h.mem x).mp hx
  have M : ∀ x ∈ L, ∀ y ∈ L, 0 < dR m r x → dR m r y < 0 → MixOk m R r x y (mixR x (dR m r x) y (dR m r y)) := fun x hx y hy d1 d2 => mix_ok (hLL x hx).len (hLL y hy).len (hLL x hx).ln.toCn (hLL y hy).ln.toCn (hLL x hx).ln.nz d1 d2
  -- what lies in a mixed one is one of the two
  have only : ∀ x ∈ L, ∀ y ∈ L, 0 < dR m r x → dR m r y < 0 → apart L x y = false → ∀ w ∈ L, Sb (gx w) (gx (mixR x (dR m r x) y (dR m r y))) → w = x ∨ w = y := fun x hx y hy d1 d2 ha w hw hs => (apart_iff hLL hx hy).mp ha w hw fun j hj => (M x hx y hy d1 d2).sub j (hs j hj)
  refine ⟨?_, fun z => ?_⟩
  · unfold narrowL
    refine List.nodup_append.mpr ⟨h.nd.filter _, ?_, fun a ha b hb e => ?_⟩
    · unfold outer
      refine List.pairwise_flatMap.mpr ⟨fun x hx => ?_, ?_⟩
      · obtain ⟨hx1, hx2⟩ := List.mem_filter.mp hx
        unfold inner
        refine List.pairwise_map.mpr (List.Pairwise.imp_of_mem (R := fun a b => a ≠ b) (fun {a b} ha hb hne e => ?_) (h.nd.filter _))
        obtain ⟨ha1, ha2⟩ := List.mem_filter.mp ha
        obtain ⟨hb1, hb2⟩ := List.mem_filter.mp hb
        simp only [Bool.and_eq_true, decide_eq_true_eq, Bool.not_eq_true'] at ha2 hb2 hx2
        have hs := (M x hx1 a ha1 hx2 ha2.1).sr
        rw [e] at hs
        rcases only x hx1 b hb1 hx2 hb2.1 hb2.2 a ha1 hs with q | q
        · rw [q] at ha2; omega
        · exact hne q
      · refine List.Pairwise.imp_of_mem (R := fun a b => a ≠ b) (fun {a b} ha hb hne x hx y hy e => ?_) (h.nd.filter _)
        obtain ⟨ha1, ha2⟩ := List.mem_filter.mp ha
        obtain ⟨hb1, hb2⟩ := List.mem_filter.mp hb
        unfold inner at hx hy
        obtain ⟨c, hc, rfl⟩ := List.mem_map.mp hx
        obtain ⟨d, hd, rfl⟩ := List.mem_map.mp hy
        obtain ⟨hc1, hc2⟩ := List.mem_filter.mp hc
        obtain ⟨hd1, hd2⟩ := List.mem_filter.mp hd
        simp only [Bool.and_eq_true, decide_eq_true_eq, Bool.not_eq_true'] at ha2 hb2 hc2 hd2
        have hs := (M a ha1 c hc1 ha2 hc2.1).sl
        rw [e] at hs
        rcases only b hb1 d hd1 hb2 hd2.1 hd2.2 a ha1 hs with q | q
        · exact hne q
        · rw [q] at ha2; omega
    · obtain ⟨ha1, ha2⟩ := List.mem_filter.mp ha
      obtain ⟨x, hx, y, hy, d1, d2, h5, rfl⟩ := mem_outer.mp hb
      have ha2 := of_decide_eq_true ha2
      rcases only x hx y hy d1 d2 h5 a ha1 (by rw [e]; exact Sb.refl _) with q | q
      · rw [q] at ha2; omega
      · rw [q] at ha2; omega
  · rw [lone_step h.mem z]
    unfold narrowL
    rw [List.mem_append, List.mem_filter, mem_outer, decide_eq_true_iff]
    refine or_congr Iff.rfl ?_
    constructor
    · rintro ⟨x, hx, y, hy, d1, d2, ha, e⟩
      exact ⟨x, hx, y, hy, d1, d2, (apart_iff hLL hx hy).mp ha, e⟩
    · rintro ⟨x, hx, y, hy, d1, d2, ha, e⟩
      exact ⟨x, hx, y, hy, d1, d2, (apart_iff hLL hx hy).mpr ha, e⟩
theorem LnL.nil {m : Nat} : LnL m [] ((List.range m).map fun i => unitR i m) := by
  refine ⟨List.pairwise_map.mpr (List.Pairwise.imp_of_mem (R := fun a b => a ≠ b) (fun {a b} ha hb hne e => ?_) List.nodup_range), fun x => ?_⟩
  · have ha := List.mem_range.mp ha
    have hb := List.mem_range.mp hb
    have h1 := congrArg (fun r => gx r a) e
    simp only [unitR_gx ha, unitR_gx hb, if_true] at h1
    split at h1
    · rename_i q; exact hne q.symm
    · cases h1
  · rw [lone_nil]
    constructor
    · intro hx
      obtain ⟨i, hi, rfl⟩ := List.mem_map.mp hx
      exact ⟨i, List.mem_range.mp hi, rfl⟩
    · rintro ⟨i, hi, rfl⟩
      exact List.mem_map.mpr ⟨i, List.mem_range.mpr hi, rfl⟩
theorem LnL.len {m : Nat} {R L : List Row} (hm : m ≤ 7) (h : LnL m R L) : L.length ≤ 128 := by
  have := nodup_len (L.map maskN) (List.range 128) (List.pairwise_map.mpr (List.Pairwise.imp_of_mem (R := fun a b => a ≠ b) (fun {a b} ha hb hne e => hne (((h.mem b).mp hb).eq ((h.mem a).mp ha) (mask_eq ((h.mem a).mp ha).ln.nn e)).symm) h.nd)) (fun k hk => by
    obtain ⟨x, hx, rfl⟩ := List.mem_map.mp hk
    refine List.mem_range.mpr ?_
    have : maskN x < 2 ^ 7 := Nat.lt_pow_two_of_testBit _ fun j hj => by
      rw [maskN_bit, ((h.mem x).mp hx).ln.out j (by omega)]
      rfl
    exact Nat.lt_of_lt_of_le this (by decide))
  simpa using this
/-- a lone list is no greater than a minor -/
theorem lone_sz {m b : Nat} {R : List Row} {x : Row} (hm : m ≤ 7) (hRl : ∀ r ∈ R, r.length = m) (hR : ∀ r ∈ R, SzR b r) (h : LoneR m R x) : SzR (bK b) x := fun j => by
  have hp : 0 < 2 ^ b := Nat.pow_pos (by decide)
  obtain ⟨Z, eZ⟩ : ∃ Z, Z = (List.range m).filter fun i => decide (gx x i = 0) := ⟨_, rfl⟩
  have hZ : ∀ i, i ∈ Z ↔ i < m ∧ gx x i = 0 := fun i => by rw [eZ, List.mem_filter, List.mem_range, decide_eq_true_iff]
  have mem2 : ∀ r, r ∈ R ++ (Z.map fun i => unitR i m) ↔ r ∈ R ∨ ∃ i ∈ Z, unitR i m = r := fun r => by rw [List.mem_append, List.mem_map]
  have bd := el_bd (m := m) (n := 7) (M := 2 ^ b) (R := R ++ (Z.map fun i => unitR i m)) (x := x) hm (by omega) (fun r hr => ?_) (fun r hr j => ?_) h.len (fun r hr => ?_) h.low (fun y hyl hy i j => ?_) j
  · have h2 : (7 * 2 ^ b) ^ 7 < (2 ^ (b + 3)) ^ 7 := Nat.pow_lt_pow_left (by rw [Nat.pow_add]; omega) (by decide)
    have h4 : (2 ^ (b + 3)) ^ 7 = 2 ^ (7 * (b + 3)) := by rw [← Nat.pow_mul, Nat.mul_comm]
    unfold Sz bK
    omega
  · rcases (mem2 r).mp hr with q | ⟨i, _, rfl⟩
    · exact hRl r q
    · exact unitR_len _ _
  · rcases (mem2 r).mp hr with q | ⟨i, hi, rfl⟩
    · exact Nat.le_of_lt (hR r q j)
    · rw [unitR_gx ((hZ i).mp hi).1]
      split
      · exact hp
      · simp
  · rcases (mem2 r).mp hr with q | ⟨i, hi, rfl⟩
    · exact h.ln.kn r q
    · rw [dot_unit ((hZ i).mp hi).1]; exact ((hZ i).mp hi).2
  · have hy1 : Kern m R (gx y) := fun r hr => hy r ((mem2 r).mpr (.inl hr))
    refine h.ln.prop2 (fun j hj => gx_out (by omega)) hy1 (fun j hj z => hj ?_) i j
    by_cases hjm : j < m
    · have := hy _ ((mem2 _).mpr (.inr ⟨j, (hZ j).mpr ⟨hjm, z⟩, rfl⟩))
      rwa [dot_unit hjm] at this
    · exact gx_out (by omega)
theorem dR_sz {m b c : Nat} {r x : Row} (hm : m ≤ 7) (hr : SzR b r) (hx : SzR c x) : Sz (b + c + 3) (dR m r x) := by
  have hsum : ∀ n, ((List.range n).map fun j => gx r j * gx x j).sum.natAbs ≤ n * 2 ^ (b + c) := by
    intro n
    induction n with
    | zero => simp
    | succ n ih =>
      rw [List.range_succ, List.map_append, List.sum_append, List.map_singleton, List.sum_singleton, Nat.succ_mul]
      have := Nat.le_of_lt ((hr n).mul (hx n))
      omega
  have h := hsum m
  have h2 : m * 2 ^ (b + c) ≤ 7 * 2 ^ (b + c) := Nat.mul_le_mul_right _ hm
  have hp : 0 < 2 ^ (b + c) := Nat.pow_pos (by decide)
  unfold Sz
  rw [Nat.pow_add _ _ 3]
  have e : dR m r x = ((List.range m).map fun j => gx r j * gx x j).sum := rfl
  rw [e]
  omega
theorem le_product2 {m b c : Nat} {r o : Row} (hr : r.length = m) (ho : o.length = m) (h1 : SzR b r) (h2 : SzR c o) (hb : b + c ≤ 100000) {P : Int → Prop} {E : Exn → Prop} (hp : P (dR m r o)) : (m_product (r, o, ())).wp P E := by
  unfold m_product
  simp only [W.wp_bind, W.wp_pure, wp_mulI]
  refine W.compM_map (fb := fun p : Int × Int => p.1 * p.2) (r.zip o) (fun p hpm P E hp => ?_) _ _ ?_
  · have h3 := List.of_mem_zip hpm
    exact ⟨(h1.mem _ h3.1).cmul (h2.mem _ h3.2) (by omega), hp⟩
  · have e : (r.zip o).map (fun p : Int × Int => p.1 * p.2) = (List.range m).map fun j => gx r j * gx o j := by
      refine row_ext (by rw [List.length_map, List.length_zip, List.length_map, List.length_range]; omega) fun j => ?_
      rw [gx_zip (by rw [hr, ho]) (fun x y => x * y) (by simp)]
      by_cases hj : j < m
      · rw [gx_rangeMap _ _ hj]
      · have z1 : gx r j = 0 := gx_out (by omega)
        have z2 : gx ((List.range m).map fun j => gx r j * gx o j) j = 0 := gx_out (by rw [List.length_map, List.length_range]; omega)
        rw [z1, z2]; simp
    rw [e]
    exact hp
theorem le_mixed {m b B : Nat} {r x y : Row} (hxl : x.length = m) (hyl : y.length = m) (hxs : SzR B x) (hys : SzR B y) (hdx : Sz (b + B + 3) (dR m r x)) (hdy : Sz (b + B + 3) (dR m r y)) (hb : 2 * B + b + 10 ≤ 8000) {P : Row → Prop} {E : Exn → Prop} (hp : P (mixR x (dR m r x) y (dR m r y))) : (m_mixed (x, dR m r x, y, dR m r y, ())).wp P E := by
  unfold m_mixed
  simp only [W.wp_bind, W.wp_pure, wp_mulI]
  refine W.compM_map (fb := fun p : Int × Int => p.1 * -dR m r y + p.2 * dR m r x) (x.zip y) (fun p hpm P E hp => ?_) _ _ ?_
  · have h3 := List.of_mem_zip hpm
    exact ⟨(hxs.mem _ h3.1).cmul hdy.neg (by omega), (hys.mem _ h3.2).cmul hdx (by omega), hp⟩
  · refine le_lowest (_, ()) _ _ ⟨fun z hz => ?_, hp⟩
    obtain ⟨p, hpm, rfl⟩ := List.mem_map.mp hz
    have h3 := List.of_mem_zip hpm
    exact (((hxs.mem _ h3.1).mul hdy.neg).add ((hys.mem _ h3.2).mul hdx |>.le (by omega))).le (by omega)
theorem le_narrowed {m b B : Nat} {R L : List Row} {r : Row} (hm : m ≤ 7) (h : LnL m R L) (hr : r.length = m) (hrs : SzR b r) (hLs : ∀ x ∈ L, SzR B x) (hb : 2 * B + b + 10 ≤ 8000) {P : List Row → Prop} {E : Exn → Prop} (hp : P (narrowL m r L)) : (m_narrowed (r, L, ())).wp P E := by
  have hLL : ∀ x ∈ L, LoneR m R x := fun x hx => (h.mem x).mp hx
  have hlen := h.len hm
  have hds : ∀ x ∈ L, Sz (b + B + 3) (dR m r x) := fun x hx => dR_sz hm hrs (hLs x hx)
  unfold m_narrowed
  simp only [W.wp_bind, W.wp_pure]
  refine W.compM_map (fb := fun x : Row => (maskN x : Int)) L (fun x hx P E hp => le_mask (by rw [(hLL x hx).len]; omega) hp) _ _ ?_
  refine W.compM_map (fb := fun x : Row => dR m r x) L (fun x hx P E hp => le_product2 hr (hLL x hx).len hrs (hLs x hx) (by omega) hp) _ _ ?_
  rw [zip_map_self, zip_map2]
  refine W.compM_of (tb := fun p : Row × Int => decide (p.2 = 0)) (fb := fun p : Row × Int => p.1) (L.map fun x => (x, dR m r x)) (fun p _ P E hp => hp) (fun p _ _ P E hp => hp) _ _ ?_
  have e0 : ((L.map fun x => (x, dR m r x)).filter fun p : Row × Int => decide (p.2 = 0)).map (fun p : Row × Int => p.1) = L.filter fun x => decide (dR m r x = 0) := by
    rw [List.filter_map, List.map_map]
    have : ((fun p : Row × Int => p.1) ∘ fun x => (x, dR m r x)) = id := rfl
    rw [this, List.map_id]
    rfl
  rw [e0]
  have hf0 : (L.filter fun x => decide (dR m r x = 0)).length ≤ 128 := Nat.le_trans (List.length_filter_le _ _) hlen
  refine W.foldM_inv (α := Row × Int × Int) (σ := List Row) (fun done s => s.length ≤ 128 + done.length * 128 ∧ s = (L.filter fun x => decide (dR m r x = 0)) ++ outer m r L (done.map fun p => p.1)) (L.map fun x => (x, (maskN x : Int), dR m r x)) (fun done p rest s e ⟨i1, i2⟩ => ?_) ⟨by omega, by simp [outer]⟩ (fun s ⟨_, i2⟩ => ?_)
  · have hpm : p ∈ L.map fun x => (x, (maskN x : Int), dR m r x) := by rw [e]; simp
    obtain ⟨x, hx, rfl⟩ := List.mem_map.mp hpm
    have hdl : done.length ≤ 128 := by have := congrArg List.length e; simp at this; omega
    have hout : outer m r L ((done ++ [(x, (maskN x : Int), dR m r x)]).map fun p => p.1) = outer m r L (done.map fun p => p.1) ++ (if 0 < dR m r x then inner m r L x L else []) := by
      unfold outer
      rw [List.map_append, List.filter_append, List.flatMap_append, List.map_singleton]
      congr 1
      by_cases q : 0 < dR m r x
      · rw [if_pos q]
        have : List.filter (fun x => decide (0 < dR m r x)) [x] = [x] := List.filter_cons_of_pos (decide_eq_true q)
        show List.flatMap _ (List.filter _ [x]) = _
        rw [this]; simp
      · rw [if_neg q]
        have : List.filter (fun x => decide (0 < dR m r x)) [x] = [] := List.filter_cons_of_neg (by simpa using q)
        show List.flatMap _ (List.filter _ [x]) = _
        rw [this]; simp
    rw [hout]
    unfold m_narrowed_b2
    simp only [W.wp_bind, W.wp_pure, W.wp_ite]
    by_cases q : 0 < dR m r x
    · rw [if_pos (decide_eq_true q), if_pos q, zip_map2]
      refine W.foldM_inv (α := Row × Int × Int) (σ := List Row) (fun dn t => t.length ≤ s.length + dn.length ∧ t = s ++ inner m r L x (dn.map fun p => p.1)) (L.map fun x => (x, (maskN x : Int), dR m r x)) (fun dn p rs t e2 ⟨k1, k2⟩ => ?_) ⟨by simp, by simp [inner]⟩ (fun t ⟨k1, k2⟩ => ?_)
      · have hpm2 : p ∈ L.map fun x => (x, (maskN x : Int), dR m r x) := by rw [e2]; simp
        obtain ⟨y, hy, rfl⟩ := List.mem_map.mp hpm2
        have hdl2 : dn.length ≤ 128 := by have := congrArg List.length e2; simp at this; omega
        have hin : inner m r L x ((dn ++ [(y, (maskN y : Int), dR m r y)]).map fun p => p.1) = inner m r L x (dn.map fun p => p.1) ++ (if dR m r y < 0 ∧ apart L x y = false then [mixR x (dR m r x) y (dR m r y)] else []) := by
          unfold inner
          rw [List.map_append, List.filter_append, List.map_append, List.map_singleton]
          congr 1
          by_cases q2 : dR m r y < 0 ∧ apart L x y = false
          · have : List.filter (fun y => decide (dR m r y < 0) && !apart L x y) [y] = [y] := List.filter_cons_of_pos (by rw [decide_eq_true q2.1, q2.2]; rfl)
            show List.map _ (List.filter _ [y]) = _
            rw [if_pos q2, this]; simp
          · have : List.filter (fun y => decide (dR m r y < 0) && !apart L x y) [y] = [] := List.filter_cons_of_neg (by
              intro z
              rw [Bool.and_eq_true, decide_eq_true_iff, Bool.not_eq_true'] at z
              exact q2 z)
            show List.map _ (List.filter _ [y]) = _
            rw [if_neg q2, this]; simp
        have hml : t.length ≤ 1000000 := by
          have : done.length * 128 ≤ 128 * 128 := Nat.mul_le_mul_right _ hdl
          omega
        have yes : dR m r y < 0 ∧ apart L x y = false → (m_mixed (x, dR m r x, y, dR m r y, ())).wp (fun a => t.length ≤ 1000000 ∧ (t ++ [a]).length ≤ s.length + (dn ++ [(y, (maskN y : Int), dR m r y)]).length ∧ t ++ [a] = s ++ inner m r L x ((dn ++ [(y, (maskN y : Int), dR m r y)]).map fun p => p.1)) E := fun hq => le_mixed (b := b) (B := B) (hLL x hx).len (hLL y hy).len (hLs x hx) (hLs y hy) (hds x hx) (hds y hy) hb ⟨hml, by simp; omega, by rw [hin, if_pos hq, ← List.append_assoc, ← k2]⟩
        have no : ¬ (dR m r y < 0 ∧ apart L x y = false) → t.length ≤ s.length + (dn ++ [(y, (maskN y : Int), dR m r y)]).length ∧ t = s ++ inner m r L x ((dn ++ [(y, (maskN y : Int), dR m r y)]).map fun p => p.1) := fun hq => ⟨by simp; omega, by rw [hin, if_neg hq, List.append_nil]; exact k2⟩
        unfold m_narrowed_b1
        simp only [W.wp_bind, W.wp_pure, W.wp_ite, W.wp_req]
        by_cases q1 : dR m r y < 0
        · rw [if_pos (decide_eq_true q1)]
          refine le_apart ?_
          cases q2 : apart L x y with
          | false => rw [if_pos (by rfl)]; exact yes ⟨q1, q2⟩
          | true => rw [if_neg (by simp)]; exact no fun z => by rw [q2] at z; cases z.2
        · rw [if_neg (by simpa using q1), if_neg (by simp)]
          exact no fun z => q1 z.1
      · rw [List.length_map] at k1
        rw [List.map_map] at k2
        have : ((fun p : Row × Int × Int => p.1) ∘ fun x => (x, (maskN x : Int), dR m r x)) = id := rfl
        rw [this, List.map_id] at k2
        refine ⟨?_, by rw [k2, i2, List.append_assoc]⟩
        rw [List.length_append, List.length_singleton, Nat.succ_mul]
        omega
    · rw [if_neg (by simpa using q), if_neg q, List.append_nil]
      refine ⟨?_, i2⟩
      rw [List.length_append, List.length_singleton, Nat.succ_mul]
      omega
  · rw [List.map_map] at i2
    have : ((fun p : Row × Int × Int => p.1) ∘ fun x => (x, (maskN x : Int), dR m r x)) = id := rfl
    rw [this, List.map_id] at i2
    rw [i2]
    exact hp
theorem le_lone {m b : Nat} {rows : List Row} (hm : m ≤ 7) (hl : ∀ r ∈ rows, r.length = m) (hs : ∀ r ∈ rows, SzR b r) (hb : 2 * bK b + b + 10 ≤ 8000) {P : List Row → Prop} {E : Exn → Prop}
    (hp : ∀ L, LnL m rows L → (∀ x ∈ L, SzR (bK b) x) → P (L.mergeSort leR)) : (m_lone (rows, (m : Int), ())).wp P E := by
  unfold m_lone
  simp only [W.wp_bind, W.wp_pure]
  refine le_range (by omega) (by omega) ?_
  rw [rng_nat]
  refine W.compM_map (fb := fun i : Int => unitR i.toNat m) _ (fun i hi P E hp => ?_) _ _ ?_
  · obtain ⟨j, hj, rfl⟩ := List.mem_map.mp hi
    exact le_unit (List.mem_range.mp hj) (by omega) hp
  · rw [List.map_map]
    have e0 : ((fun i : Int => unitR i.toNat m) ∘ fun i : Nat => (i : Int)) = fun i => unitR i m := rfl
    rw [e0]
    refine W.foldM_inv (α := Row) (σ := List Row) (fun done s => LnL m done s) rows (fun done r rest s e h => ?_) LnL.nil (fun s h => ?_)
    · unfold m_lone_b1
      simp only [W.wp_bind, W.wp_pure]
      refine le_narrowed (b := b) (B := bK b) hm h (hl r (by rw [e]; simp)) (hs r (by rw [e]; simp)) (fun x hx => lone_sz hm (fun q hq => hl q (by rw [e]; simp [hq])) (fun q hq => hs q (by rw [e]; simp [hq])) ((h.mem x).mp hx)) hb h.narrow
    · unfold m_lone_j2
      simp only [W.wp_bind, W.wp_pure]
      exact hp s h fun x hx => lone_sz hm hl hs ((h.mem x).mp hx)
/-- a product with one place changed -/
theorem dot_set2 {m i : Nat} {h : Row} (hi : i < m) (hl : i < h.length) (u : Fn) (a : Int) : dotF m u (gx (h.set i a)) = dotF m u (gx h) + u i * (a - gx h i) := by
  unfold dotF
  have e : rsum m (fun j => u j * gx (h.set i a) j) = rsum m fun j => 1 * (u j * gx h j) + 1 * ((if i = j then 1 else 0) * (u j * (a - gx h j))) := rsum_congr fun j _ => by
    rw [gx_set]
    by_cases z : i = j
    · subst z
      rw [if_pos ⟨rfl, hl⟩, if_pos rfl, Int.mul_sub]; omega
    · rw [if_neg fun q => z q.1, if_neg z]; simp
  rw [e, rsum_comb, rsum_ind hi fun j => u j * (a - gx h j)]
  omega
theorem dot_zip {m : Nat} {r o : Row} (hr : r.length = m) (ho : o.length = m) : ((r.zip o).map fun p : Int × Int => p.1 * p.2).sum = dotF m (gx r) (gx o) := by
  have e : (r.zip o).map (fun p : Int × Int => p.1 * p.2) = (List.range m).map fun j => gx r j * gx o j := by
    refine row_ext (by rw [List.length_map, List.length_zip, List.length_map, List.length_range]; omega) fun j => ?_
    rw [gx_zip (by rw [hr, ho]) (fun x y => x * y) (by simp)]
    by_cases hj : j < m
    · rw [gx_rangeMap _ _ hj]
    · have z1 : gx r j = 0 := gx_out (by omega)
      have z2 : gx ((List.range m).map fun j => gx r j * gx o j) j = 0 := gx_out (by rw [List.length_map, List.length_range]; omega)
      rw [z1, z2]; simp
  rw [e]
  rfl
theorem sum_sz {n : Nat} : ∀ (xs : List Int), (∀ x ∈ xs, Sz n x) → Sz (n + xs.length) xs.sum
  | [], _ => Sz.zero
  | x :: xs, h => by
    have h1 := sum_sz xs fun y hy => h y (by simp [hy])
    rw [List.sum_cons, List.length_cons]
    exact (((h x (by simp)).le (by omega)).add h1).le (by omega)
theorem W.compM_all {α β : Type} {f : α → W β} {Q : β → Prop} : ∀ (xs : List α), (∀ x ∈ xs, (f x).wp Q (fun _ => False)) → ∀ (P : List β → Prop) (E : Exn → Prop), (∀ ys : List β, ys.length = xs.length → (∀ y ∈ ys, Q y) → P ys) → (W.noX (compM (fun _ => pure true) f xs)).wp P E
  | [], _, P, E, hp => hp [] rfl (by simp)
  | x :: xs, h, P, E, hp => by
    show (f x).wp _ _
    refine (f x).mono (fun y hy => ?_) (fun e he => he) (h x (by simp))
    exact W.compM_all xs (fun z hz => h z (by simp [hz])) (fun ys => P (y :: ys)) (fun _ => False) fun ys h1 h2 => hp (y :: ys) (by simp [h1]) fun z hz => by
      rcases List.mem_cons.mp hz with q | q
      · rw [q]; exact hy
      · exact h2 z q
/-! ### what a bag tells -/
theorem le_bag {c : Int} {P : List Int → Prop} {E : Exn → Prop} (hp : ∀ l, BagL l → P l) : (m__law_bag (c, ())).wp P E := by
  unfold m__law_bag
  simp only [W.wp_bind, W.wp_pure, wp_divI, wp_modI, wp_mulI]
  have h1 := fmod_bd (a := c.fdiv 2) (n := 1000000000000000000000000000000000000000000000000000000000000) (by decide)
  have h2 := fmod_bd (a := c) (n := 2) (by decide)
  have h3 := fmod_bd (a := c.fdiv 2) (n := 2147483647) (by decide)
  refine ⟨⟨by decide, by decide⟩, by decide, by decide, (show Sz 250 _ by unfold Sz; omega).cmul (show Sz 3 (c.fmod 2) by unfold Sz; omega) (by decide), ⟨by decide, by decide⟩, by decide, hp _ ⟨_, _, rfl, ?_, ?_, h3.1, h3.2⟩⟩
  · exact Int.mul_nonneg h1.1 h2.1
  · have : c.fmod 2 = 0 ∨ c.fmod 2 = 1 := by omega
    rcases this with q | q
    · rw [q]; omega
    · rw [q]; omega
theorem set2 (x y v : Int) : setI [x, y] 0 v = pure [v, y] := rfl
theorem set2' (x y v : Int) : setI [x, y] 1 v = pure [x, v] := rfl
theorem le_draw {n : Int} (hn : 1 ≤ n) (hs : Sz 1000 n) {P : Int → Prop} {E : Exn → Prop} (hp : ∀ r, 0 ≤ r → r < n → P r) : (W.noX (m__law_draw (n, ()))).wp P E := by
  show (m__law_draw (n, ())).wp P (fun _ => False)
  unfold m__law_draw
  simp only [W.wp_bind, W.wp_pure, W.wp_any]
  rintro l ⟨x, y, rfl, hx, hx2, hy, hy2⟩
  refine idx_of (x := x) (by decide) rfl ?_
  simp only [W.wp_ite, W.wp_bind, W.wp_pure, wp_divI, wp_modI, wp_mulI, W.wp_req]
  by_cases h : 0 < x
  · rw [if_pos (decide_eq_true h)]
    have hm := fmod_bd (a := x) (n := n) (by omega)
    refine idx_of (i := 0) (x := x) (by decide) rfl ?_
    refine ⟨by omega, ?_⟩
    refine idx_of (i := 0) (x := x) (by decide) rfl ?_
    refine ⟨⟨by omega, by have := hs.log; omega⟩, ?_⟩
    rw [set2]
    refine ⟨⟨_, _, rfl, ?_, ?_, hy, hy2⟩, hp _ hm.1 hm.2⟩
    · rw [Int.fdiv_eq_ediv_of_nonneg _ (by omega)]; exact Int.ediv_nonneg hx (by omega)
    · rw [Int.fdiv_eq_ediv_of_nonneg _ (by omega)]
      have := Int.ediv_le_self n hx
      omega
  · rw [if_neg (by simpa using h)]
    have h1 := fmod_bd (a := y * 48271 + 4099) (n := 2147483647) (by decide)
    refine idx_of (i := 1) (x := y) (by decide) rfl ?_
    refine ⟨(show Sz 40 y by unfold Sz; omega).cmul (show Sz 40 (48271 : Int) by unfold Sz; decide) (by decide), by decide, ?_⟩
    rw [set2', W.wp_pure]
    refine idx_of (i := 1) (x := (y * 48271 + 4099).fmod 2147483647) (by decide) rfl ?_
    refine idx_of (i := 1) (x := (y * 48271 + 4099).fmod 2147483647) (by decide) rfl ?_
    refine ⟨⟨by decide, by decide⟩, ?_⟩
    have h2 : Sz 40 ((y * 48271 + 4099).fmod 2147483647) := by unfold Sz; omega
    have h3 : Sz 41 (((y * 48271 + 4099).fmod 2147483647).fdiv 65536 + 7) := by
      have e : ((y * 48271 + 4099).fmod 2147483647).fdiv 65536 = ((y * 48271 + 4099).fmod 2147483647) / 65536 := Int.fdiv_eq_ediv_of_nonneg _ (by decide)
      rw [e]
      unfold Sz
      omega
    refine ⟨h2.cmul h3 (by decide), by decide, ⟨by decide, by decide⟩, by omega, ⟨_, _, rfl, hx, hx2, h1.1, h1.2⟩, ?_⟩
    exact hp _ (fmod_bd (by omega)).1 (fmod_bd (by omega)).2
theorem le_number {w : Int} (hw : 1 ≤ w) (hs : Sz 300 w) {P : Int → Prop} {E : Exn → Prop} (hp : ∀ r, -9 < r → r < w + 4 → P r) : (W.noX (m__law_number (w, ()))).wp P E := by
  show (m__law_number (w, ())).wp P (fun _ => False)
  unfold m__law_number
  simp only [W.wp_bind, W.wp_pure, W.wp_ite, wp_modI, wp_mulI]
  have z : ∀ n : Int, 1 ≤ n → n ≤ 1000000 → Sz 1000 n := fun n h1 h2 => (show Sz 40 n by unfold Sz; omega).le (by decide)
  refine le_draw (by decide) (z 6 (by decide) (by decide)) fun way h1 h2 => ?_
  split
  · exact hp _ (by omega) (by omega)
  · split
    · refine le_draw (n := 1000) (by decide) (z 1000 (by decide) (by decide)) fun x a1 a2 => ?_
      refine ⟨(show Sz 40 x by unfold Sz; omega).cmul (show Sz 40 (1000000 : Int) by unfold Sz; decide) (by decide), ?_⟩
      refine le_draw (n := 1000000) (by decide) (z 1000000 (by decide) (by decide)) fun y b1 b2 => ?_
      refine ⟨by omega, ?_⟩
      refine le_draw (n := 9) (by decide) (z 9 (by decide) (by decide)) fun v c1 c2 => ?_
      have := fmod_bd (a := x * 1000000 + y) (n := w) (by omega)
      exact hp _ (by omega) (by omega)
    · refine le_draw (by decide) (z 7 (by decide) (by decide)) fun x a1 a2 => hp _ (by omega) (by omega)
theorem idx_neg {α : Type} {xs : List α} {k : Nat} {x : α} (hk : 1 ≤ k) (hl : k ≤ xs.length) (h : xs[xs.length - k]? = some x) {P : α → Prop} {E : Exn → Prop} (hp : P x) : (idx xs (-(k : Int))).wp P E := by
  have e0 : L2.ixN xs.length (-(k : Int)) = some (xs.length - k) := by
    unfold L2.ixN
    rw [if_neg (by omega), if_pos (by omega)]
    congr 1
    omega
  unfold idx L2.atI
  rw [e0]
  show (match xs[xs.length - k]? with | some x => pure x | none => W.bad : W α).wp P E
  rw [h]
  exact hp
theorem Sz.two {x : Int} {n : Nat} (h : Sz n x) : Sz (n + 1) (2 * x) := by
  unfold Sz at *
  rw [Nat.pow_succ]
  omega
/-! ### rows that are closed by a fit list -/
theorem le_range1 {n : Int} (h : 1 ≤ n) (h2 : n ≤ 100000) {P : List Int → Prop} {E : Exn → Prop} (hp : P (rng 1 n)) : (rangeW 1 n).wp P E := ⟨⟨by omega, by omega, by omega, by omega, by omega⟩, hp⟩
structure FitOk (m : Nat) (f : Row) : Prop where
  len : f.length = m
  one : gx f 0 = 1
  nn : ∀ j, 0 ≤ gx f j
  sz : SzR 20 f
theorem le_fit {m : Nat} (hm1 : 1 ≤ m) (hm : m ≤ 100) {P : Row → Prop} {E : Exn → Prop} (hp : ∀ f, FitOk m f → P f) : (W.noX (m__law_fit ((m : Int), ()))).wp P E := by
  show (m__law_fit ((m : Int), ())).wp P (fun _ => False)
  unfold m__law_fit
  simp only [W.wp_bind, W.wp_pure]
  refine le_range (by omega) (by omega) ?_
  refine W.foldM_inv (α := Int) (σ := Row) (fun done s => s.length = done.length + 1 ∧ gx s 0 = 1 ∧ ∀ x ∈ s, 0 ≤ x ∧ Sz 20 x) (rng 0 ((m : Int) - 1)) (fun done x rest s e ⟨h1, h2, h3⟩ => ?_) ⟨rfl, rfl, fun x hx => by rw [List.mem_singleton.mp hx]; exact ⟨by decide, by unfold Sz; decide⟩⟩ (fun s ⟨h1, h2, h3⟩ => ?_)
  · have hdl : done.length ≤ 100 := by have := congrArg List.length e; rw [rng_length] at this; simp at this; omega
    have fin : ∀ a : Int, 0 ≤ a → Sz 20 a → (m__law_fit_j1 s a).wp (fun s' => s'.length = (done ++ [x]).length + 1 ∧ gx s' 0 = 1 ∧ ∀ x ∈ s', 0 ≤ x ∧ Sz 20 x) (fun _ => False) := fun a ha hz => by
      unfold m__law_fit_j1
      simp only [W.wp_bind, W.wp_pure, W.wp_req]
      refine ⟨by omega, by simp [h1], by rw [gx_app, if_pos (by omega)]; exact h2, fun y hy => ?_⟩
      rcases List.mem_append.mp hy with q | q
      · exact h3 y q
      · rw [List.mem_singleton.mp q]; exact ⟨ha, hz⟩
    have mid : ∀ (w a : Int), 0 ≤ a → Sz 20 a → (m__law_fit_j2 s w a).wp (fun s' => s'.length = (done ++ [x]).length + 1 ∧ gx s' 0 = 1 ∧ ∀ x ∈ s', 0 ≤ x ∧ Sz 20 x) (fun _ => False) := fun w a ha hz => by
      unfold m__law_fit_j2
      simp only [W.wp_bind, W.wp_pure, W.wp_ite]
      split
      · exact le_draw (by decide) ((show Sz 30 (1000000 : Int) by unfold Sz; decide).le (by decide)) fun q q1 q2 => fin q q1 (by unfold Sz; omega)
      · exact fin a ha hz
    unfold m__law_fit_b3
    simp only [W.wp_bind, W.wp_pure, W.wp_ite]
    refine le_draw (by decide) ((show Sz 10 (8 : Int) by unfold Sz; decide).le (by decide)) fun w _ _ => ?_
    split
    · exact le_draw (by decide) ((show Sz 10 (4 : Int) by unfold Sz; decide).le (by decide)) fun q q1 q2 => mid w _ (by omega) (by unfold Sz; omega)
    · exact mid w 0 (by decide) Sz.zero
  · rw [rng_length] at h1
    refine hp s ⟨by omega, h2, fun j => ?_, SzR.of fun x hx => (h3 x hx).2⟩
    by_cases hj : j < s.length
    · exact (h3 _ (gx_mem hj)).1
    · rw [gx_out (by omega)]; exact Int.le_refl 0
theorem rsum_first (n : Nat) (f : Nat → Int) : rsum (n + 1) f = f 0 + ((rng 1 ((n + 1 : Nat) : Int)).map fun k => f k.toNat).sum := by
  unfold rsum rng
  rw [List.range_succ_eq_map, List.map_cons, List.sum_cons, List.map_map, List.map_map]
  have : (((n + 1 : Nat) : Int) - 1).toNat = n := by omega
  rw [this]
  congr 2
  refine List.map_congr_left fun i _ => ?_
  show f (i + 1) = f ((1 : Int) + (i : Int)).toNat
  congr 1
  omega
theorem le_closedC {cells fit : List Int} {cnt c0 : Nat} {w : Int} {m : Nat} (hc4 : 4 ≤ c0) (hc31 : c0 ≤ 31) (hnum : ∀ o : Int, -9 < o → o < w + 4 → Sz c0 o) (hc : cells ≠ []) (hcl : cells.length ≤ 100) (hf : FitOk m fit) (hm1 : 1 ≤ m) (hm : m ≤ 7) (hcnt : cnt ≤ 5) (hw : 1 ≤ w) (hw2 : w ≤ 1000000000) {P : List Row → Prop} {E : Exn → Prop}
    (hp : ∀ rows : List Row, rows.length = cnt → (∀ r ∈ rows, r.length = m ∧ SzR (c0 + 49) r ∧ dotF m (gx fit) (gx r) = 0) → P rows) : (m__law_closed (cells, fit, (cnt : Int), w, ())).wp P E := by
  have hcp : 0 < cells.length := List.length_pos_iff.mpr hc
  unfold m__law_closed
  simp only [W.wp_bind, W.wp_pure]
  refine le_range (by omega) (by omega) ?_
  refine W.foldM_inv (α := Int) (σ := List Row) (fun done s => s.length = done.length ∧ ∀ r ∈ s, r.length = m ∧ (∀ j, 1 ≤ j → Sz (c0 + 2 + 2 * done.length) (gx r j)) ∧ SzR (c0 + 49) r ∧ dotF m (gx fit) (gx r) = 0) (rng 0 (cnt : Int)) (fun done x rest s e ⟨h1, h2⟩ => ?_) ⟨rfl, by simp⟩ (fun s ⟨h1, h2⟩ => ?_)
  · have hx : 0 ≤ x ∧ x < (cnt : Int) := mem_rng.mp (by rw [e]; simp)
    have hdl : done.length < 5 := by have := congrArg List.length e; rw [rng_length] at this; simp at this; omega
    have fin : ∀ one : Row, one.length = m → (∀ j, 1 ≤ j → Sz (c0 + 4 + 2 * done.length) (gx one j)) → SzR (c0 + 51) one → (m__law_closed_j1 (cells, fit, (cnt : Int), w, ()) s one).wp (fun s' => s'.length = (done ++ [x]).length ∧ ∀ r ∈ s', r.length = m ∧ (∀ j, 1 ≤ j → Sz (c0 + 2 + 2 * (done ++ [x]).length) (gx r j)) ∧ SzR (c0 + 49) r ∧ dotF m (gx fit) (gx r) = 0) E := fun one o1 o2 o3 => by
      unfold m__law_closed_j1
      simp only [W.wp_bind, W.wp_pure, W.wp_req]
      rw [hf.len]
      refine le_range1 (by omega) (by omega) ?_
      refine W.compM_map (fb := fun k : Int => gx one k.toNat * gx fit k.toNat) (rng 1 (m : Int)) (fun k hk P E hP => ?_) _ _ ?_
      · have hk2 := mem_rng.mp hk
        obtain ⟨j, rfl⟩ : ∃ j : Nat, k = (j : Int) := ⟨k.toNat, by omega⟩
        rw [Int.toNat_natCast] at hP
        exact idx_gx (by omega) (idx_gx (by rw [hf.len]; omega) ⟨(o3 j).cmul (hf.sz j) (by omega), hP⟩)
      · obtain ⟨n, rfl⟩ : ∃ n, m = n + 1 := ⟨m - 1, by omega⟩
        obtain ⟨S, hS⟩ : ∃ S : Int, S = ((rng 1 ((n + 1 : Nat) : Int)).map fun k : Int => gx one k.toNat * gx fit k.toNat).sum := ⟨_, rfl⟩
        have hSz : Sz (c0 + 34 + 2 * done.length) S := by
          have := sum_sz (n := c0 + 24 + 2 * done.length) ((rng 1 ((n + 1 : Nat) : Int)).map fun k : Int => gx one k.toNat * gx fit k.toNat) fun y hy => by
            obtain ⟨k, hk, rfl⟩ := List.mem_map.mp hy
            have hk2 := mem_rng.mp hk
            exact ((o2 k.toNat (by omega)).mul (hf.sz k.toNat)).le (by omega)
          rw [List.length_map, rng_length, ← hS] at this
          exact this.le (by omega)
        rw [← hS]
        refine le_setI (i := 0) (by omega) ⟨by omega, by simp [h1], fun r hr => ?_⟩
        rcases List.mem_append.mp hr with q | q
        · obtain ⟨a1, a2, a3, a4⟩ := h2 r q
          exact ⟨a1, fun j hj => (a2 j hj).le (by simp; omega), a3, a4⟩
        · rw [List.mem_singleton.mp q]
          refine ⟨by rw [List.length_set, o1], fun j hj => ?_, fun j => ?_, ?_⟩
          · rw [gx_set, if_neg (by omega), List.length_append, List.length_singleton]
            exact (o2 j hj).le (by omega)
          · rw [gx_set]
            split
            · exact hSz.neg.le (by omega)
            · by_cases hj : j = 0
              · rename_i hne; exact absurd ⟨hj.symm, by omega⟩ hne
              · exact (o2 j (by omega)).le (by omega)
          · rw [dot_set2 (by omega) (by omega), hf.one]
            have e1 : dotF (n + 1) (gx fit) (gx one) = gx fit 0 * gx one 0 + S := by
              unfold dotF
              rw [rsum_first, hS]
              congr 2
              exact List.map_congr_left fun k _ => Int.mul_comm _ _
            rw [e1, hf.one]
            omega
    unfold m__law_closed_b2
    simp only [W.wp_bind, W.wp_pure, W.wp_ite, W.wp_req, wp_modI, wp_divI, wp_mulI]
    have hml := fmod_bd (a := x) (n := (cells.length : Int)) (by omega)
    obtain ⟨c, hcc⟩ : ∃ c, cells[(x.fmod (cells.length : Int)).toNat]? = some c := ⟨_, List.getElem?_eq_getElem (by omega)⟩
    have hdv : Sz 10 (x.fdiv (cells.length : Int)) := (show Sz 10 x by unfold Sz; omega).of_le (by rw [Int.fdiv_eq_ediv_of_nonneg _ (by omega)]; exact Int.natAbs_ediv_le_natAbs _ _)
    refine ⟨by omega, idx_of hml.1 hcc ⟨⟨by omega, by have := (show Sz 10 ((cells.length : Int)) by unfold Sz; omega).log; omega⟩, (show Sz 20 (500009 : Int) by unfold Sz; decide).cmul hdv (by decide), le_bag fun l hl => ⟨hl, ?_⟩⟩⟩
    refine W.compM_all (Q := fun z : Int => Sz c0 z) _ (fun y _ => le_number hw ((show Sz 40 w by unfold Sz; omega).le (by decide)) fun o o1 o2 => hnum o o1 o2) _ _ fun one hol hos => ?_
    have hoS : SzR c0 one := SzR.of hos
    have go1 := fin one (by rw [hol, hf.len]) (fun j _ => (hoS j).le (by omega)) (hoS.le (by omega))
    refine le_draw (by decide) ((show Sz 10 (7 : Int) by unfold Sz; decide).le (by decide)) fun q _ _ => ?_
    by_cases h6 : q = 6
    · rw [if_pos (decide_eq_true h6)]
      by_cases hs : (0 : Int) < (s.length : Int)
      · rw [if_pos (decide_eq_true hs)]
        obtain ⟨v, hv⟩ : ∃ v, s[s.length - 1]? = some v := ⟨_, List.getElem?_eq_getElem (by omega)⟩
        obtain ⟨v1, v2, v3, _⟩ := h2 v (List.mem_of_getElem? hv)
        refine idx_neg (k := 1) (by omega) (by omega) hv ?_
        refine W.compM_map (fb := fun z => 3 * z) v (fun z hz P E hP => by exact ⟨(show Sz 2 (3 : Int) by unfold Sz; decide).cmul (v3.mem z hz) (by omega), hP⟩) _ _ ?_
        have hg : ∀ j, gx (v.map fun z => 3 * z) j = 3 * gx v j := fun j => gx_map (by simp) v j
        exact fin _ (by rw [List.length_map, v1]) (fun j hj => by rw [hg]; exact ((show Sz 2 (3 : Int) by unfold Sz; decide).mul (v2 j hj)).le (by omega)) (fun j => by rw [hg]; exact ((show Sz 2 (3 : Int) by unfold Sz; decide).mul (v3 j)).le (by omega))
      · rw [if_neg (by simpa using hs)]
        exact go1
    · rw [if_neg (by simpa using h6)]
      simp only [Bool.false_eq_true, if_false]
      exact go1
  · rw [rng_length] at h1
    exact hp s (by omega) fun r hr => by
      obtain ⟨a1, _, a3, a4⟩ := h2 r hr
      exact ⟨a1, a3, a4⟩
/-- turned by t places -/
def rot (t : Nat) (r : Row) : Row := r.drop t ++ r.take t
theorem rot_len (t : Nat) (r : Row) : (rot t r).length = r.length := by unfold rot; simp; omega
theorem rot_mem {t : Nat} {r : Row} {x : Int} : x ∈ rot t r ↔ x ∈ r := by
  unfold rot
  rw [List.mem_append]
  constructor
  · rintro (h | h)
    · exact List.mem_of_mem_drop h
    · exact List.mem_of_mem_take h
  · intro h
    rw [← List.take_append_drop t r] at h
    rcases List.mem_append.mp h with q | q
    · exact .inr q
    · exact .inl q
theorem rot_sz {t n : Nat} {r : Row} (h : SzR n r) : SzR n (rot t r) := SzR.of fun x hx => h.mem x (rot_mem.mp hx)
theorem le_turned {rows : List Row} {t m : Nat} (hl : ∀ r ∈ rows, r.length = m) (hm : m ≤ 100) {P : List Row → Prop} {E : Exn → Prop} (hp : P (rows.map (rot t))) : (m__law_turned (rows, (t : Int), ())).wp P E := by
  unfold m__law_turned
  simp only [W.wp_bind, W.wp_pure]
  refine W.compM_map (fb := rot t) rows (fun r hr P E hP => ?_) _ _ hp
  show (catL (cut r (some (t : Int)) none) (cut r none (some (t : Int)))).wp P E
  rw [cut_drop, cut_take]
  have := hl r hr
  exact ⟨Nat.le_trans (show _ ≤ 1000 by simp; omega) (by decide), hP⟩
theorem le_lmeasure (r : Row) {P : Int → Prop} {E : Exn → Prop} (hp : P (gcdL r)) : (m__law_measure (r, ())).wp P E := by
  unfold m__law_measure
  simp only [W.wp_bind, W.wp_pure]
  refine W.foldM_inv (α := Int) (σ := Int) (fun done s => s = gcdL done) r (fun done x rest s e hs => ?_) rfl (fun s hs => by rw [hs]; exact hp)
  have hs0 : 0 ≤ s := by rw [hs]; exact gcdL_nonneg _
  unfold m__law_measure_b2
  simp only [W.wp_bind, W.wp_pure]
  refine ⟨fun q => 0 ≤ q.1 ∧ 0 ≤ q.2 ∧ Int.gcd q.1 q.2 = Int.gcd s x, fun q => q.2.natAbs, ⟨hs0, absI_nonneg x, by rw [absI_eq]; unfold Int.gcd; simp⟩, fun q ⟨h1, h2, h5⟩ => ?_⟩
  show if decide (0 < q.2) = true then _ else _
  split
  · rename_i hq
    have hq' : 0 < q.2 := of_decide_eq_true hq
    obtain ⟨e1, e2, e3, e4⟩ := euclid_step hq' h1
    unfold m__law_measure_b1
    simp only [W.wp_bind, W.wp_pure, wp_modI]
    exact ⟨Int.ne_of_gt hq', ⟨h2, e2, e4.trans h5⟩, by omega⟩
  · rename_i hq
    have hq' : ¬ 0 < q.2 := fun h => hq (decide_eq_true h)
    have e0 : q.2 = 0 := by omega
    rw [e0, Int.gcd_zero_right] at h5
    show q.1 = gcdL (done ++ [x])
    rw [gcdL_append, ← hs, ← h5]
    omega
/-! ### sorted lists -/
theorem leR_trans (a b c : List Int) (h : leR a b = true) (h' : leR b c = true) : leR a c = true := decide_eq_true (List.le_trans (of_decide_eq_true h) (of_decide_eq_true h'))
theorem leR_total (a b : List Int) : (leR a b || leR b a) = true := by
  rcases List.le_total a b with h | h
  · rw [show leR a b = true from decide_eq_true h]; rfl
  · rw [show leR b a = true from decide_eq_true h, Bool.or_true]
theorem sort_perm {L L' : List Row} (h : L.Perm L') : L.mergeSort leR = L'.mergeSort leR :=
  List.Perm.eq_of_pairwise (le := fun a b => leR a b = true) (fun a b _ _ h1 h2 => List.le_antisymm (of_decide_eq_true h1) (of_decide_eq_true h2)) (List.pairwise_mergeSort leR_trans leR_total L) (List.pairwise_mergeSort leR_trans leR_total L') (((List.mergeSort_perm L leR).trans h).trans (List.mergeSort_perm L' leR).symm)
theorem sort_eq {m : Nat} {R L L' : List Row} (h : LnL m R L) (h' : LnL m R L') : L.mergeSort leR = L'.mergeSort leR :=
  sort_perm ((List.perm_ext_iff_of_nodup h.nd h'.nd).mpr fun x => by rw [h.mem, h'.mem])
/-! ### lone lists found by choices of places -/
theorem two_sum {n a b : Nat} (ha : a < n) (hb : b < n) (hab : a ≠ b) (F : Nat → Int) (h : ∀ c < n, c ≠ a → c ≠ b → F c = 0) : rsum n F = F a + F b := by
  have e : rsum n F = rsum n fun c => 1 * ((if a = c then 1 else 0) * F c) + 1 * ((if b = c then 1 else 0) * F c) := rsum_congr fun c hc => by
    by_cases q : a = c
    · have : b ≠ c := fun z => hab (q.trans z.symm)
      rw [if_pos q, if_neg this]; simp
    · by_cases w : b = c
      · rw [if_neg q, if_pos w]; simp
      · rw [if_neg q, if_neg w, h c hc (fun z => q z.symm) (fun z => w z.symm)]; simp
  rw [e, rsum_comb, rsum_ind ha, rsum_ind hb]
  omega
theorem one_sum {n a : Nat} (ha : a < n) (F : Nat → Int) (h : ∀ c < n, c ≠ a → F c = 0) : rsum n F = F a := by
  have e : rsum n F = rsum n fun c => (if a = c then 1 else 0) * F c := rsum_congr fun c hc => by
    by_cases q : a = c
    · rw [if_pos q]; simp
    · rw [if_neg q, h c hc (fun z => q z.symm)]; simp
  rw [e, rsum_ind ha]
def cS (b : Nat) : Nat → Nat
  | 0 => b
  | s + 1 => 2 * cS b s + 1
theorem cS_mono (b : Nat) {s t : Nat} (h : s ≤ t) : cS b s ≤ cS b t := by
  induction h with
  | refl => exact Nat.le_refl _
  | @step m _ ih => exact Nat.le_trans ih (by show cS b m ≤ 2 * cS b m + 1; omega)
theorem low_sz {n : Nat} {r : Row} (h : SzR n r) : SzR n (lowL r) := fun j => (h j).of_le (by
  have p := mz_pos r
  rw [← low_mul r j, Int.natAbs_mul]
  exact Nat.le_mul_of_pos_left _ (by omega))
/-- the rows, some with a tip -/
structure KI (n b : Nat) (R : List Row) (at_ : Nat) (P : List (Nat × Row)) (B : List Row) : Prop where
  len : (∀ p ∈ P, p.2.length = n) ∧ ∀ l ∈ B, l.length = n
  sz : (∀ p ∈ P, SzR (cS b P.length) p.2) ∧ ∀ l ∈ B, SzR (cS b P.length) l
  num : P.length + B.length = R.length
  tip : ∀ p ∈ P, p.1 < at_ ∧ gx p.2 p.1 ≠ 0
  ap : P.Pairwise fun p q => p.1 < q.1 ∧ gx p.2 q.1 = 0 ∧ gx q.2 p.1 = 0
  bz : ∀ p ∈ P, ∀ l ∈ B, gx l p.1 = 0
  zer : ∀ l ∈ B, ∀ c < at_, gx l c = 0
  ker : ∀ u : Fn, ((∀ p ∈ P, dotF n (gx p.2) u = 0) ∧ ∀ l ∈ B, dotF n (gx l) u = 0) ↔ Kern n R u
theorem KI.start {n b : Nat} {R : List Row} (hl : ∀ r ∈ R, r.length = n) (hs : ∀ r ∈ R, SzR b r) : KI n b R 0 [] R :=
  ⟨⟨by simp, hl⟩, ⟨by simp, hs⟩, by simp, by simp, .nil, by simp, fun l _ c h => absurd h (Nat.not_lt_zero c), fun u => ⟨fun h => h.2, fun h => ⟨by simp, h⟩⟩⟩
def crossK (n : Nat) (here : Row) (a : Nat) (l : Row) : Row := lowL ((List.range n).map fun j => gx here a * gx l j - gx l a * gx here j)
theorem crossK_len {n a : Nat} {here l : Row} : (crossK n here a l).length = n := by unfold crossK; rw [low_len]; simp
theorem crossK_mul {n a : Nat} {here : Row} (hh : here.length = n) {l : Row} (hl : l.length = n) : ∃ g : Int, 0 < g ∧ ∀ j, g * gx (crossK n here a l) j = gx here a * gx l j - gx l a * gx here j := by
  refine ⟨_, mz_pos _, fun j => (low_mul _ j).trans ?_⟩
  by_cases hj : j < n
  · rw [gx_rangeMap _ _ hj]
  · have e1 : gx l j = 0 := gx_out (by omega)
    have e2 : gx here j = 0 := gx_out (by omega)
    rw [gx_out (by simp; omega), e1, e2]; simp
theorem dot_cross {n a : Nat} {here l l' : Row} {g : Int} (h : ∀ j, g * gx l' j = gx here a * gx l j - gx l a * gx here j) (u : Fn) : g * dotF n (gx l') u = gx here a * dotF n (gx l) u - gx l a * dotF n (gx here) u := by
  unfold dotF
  rw [← rsum_mul]
  have e : (fun i => g * (gx l' i * u i)) = fun i => gx here a * (gx l i * u i) + (-(gx l a)) * (gx here i * u i) := by
    funext i
    rw [← Int.mul_assoc, h, Int.sub_mul, Int.mul_assoc, Int.neg_mul, Int.mul_assoc]
    omega
  rw [e, rsum_comb, Int.neg_mul]
  omega
theorem KI.next {n b at_ : Nat} {R : List Row} {P : List (Nat × Row)} {B1 B2 : List Row} {here : Row} (h : KI n b R at_ P (B1 ++ here :: B2)) (hat : at_ < n) (hne : gx here at_ ≠ 0) :
    KI n b R (at_ + 1) (P.map (fun p => (p.1, crossK n here at_ p.2)) ++ [(at_, here)]) ((B1 ++ B2).map (crossK n here at_)) := by
  have hB : ∀ l ∈ B1 ++ B2, l ∈ B1 ++ here :: B2 := fun l hl => by simp at hl ⊢; rcases hl with q | q <;> simp [q]
  have hhB : here ∈ B1 ++ here :: B2 := by simp
  have hhl := h.len.2 here hhB
  have hz : ∀ c < at_, gx here c = 0 := h.zer here hhB
  have hz2 : ∀ p ∈ P, gx here p.1 = 0 := fun p hp => h.bz p hp here hhB
  have X : ∀ l : Row, l.length = n → ∃ g : Int, 0 < g ∧ ∀ j, g * gx (crossK n here at_ l) j = gx here at_ * gx l j - gx l at_ * gx here j := fun l hl => crossK_mul hhl hl
  have x0 : ∀ (l : Row), l.length = n → ∀ j, gx l j = 0 → gx here j = 0 → gx (crossK n here at_ l) j = 0 := fun l hl j h1 h2 => by
    obtain ⟨g, hg, e⟩ := X l hl
    have := e j
    rw [h1, h2, Int.mul_zero, Int.mul_zero, Int.sub_zero] at this
    rcases Int.mul_eq_zero.mp this with q | q
    · omega
    · exact q
  have xat : ∀ (l : Row), l.length = n → gx (crossK n here at_ l) at_ = 0 := fun l hl => by
    obtain ⟨g, hg, e⟩ := X l hl
    have := e at_
    rw [Int.mul_comm (gx l at_), Int.sub_self] at this
    rcases Int.mul_eq_zero.mp this with q | q
    · omega
    · exact q
  have hPl : (P.map (fun p => (p.1, crossK n here at_ p.2)) ++ [(at_, here)]).length = P.length + 1 := by simp
  have xs : ∀ l : Row, SzR (cS b P.length) l → SzR (cS b (P.length + 1)) (crossK n here at_ l) := fun l hl => by
    have hh := h.sz.2 here hhB
    unfold crossK
    refine low_sz (SzR.of fun x hx => ?_)
    obtain ⟨j, _, rfl⟩ := List.mem_map.mp hx
    have a1 := (hh at_).mul (hl j)
    have a2 := (hl at_).mul (hh j)
    exact ((a1.le (by omega)).sub (a2.le (show _ ≤ 2 * cS b P.length by omega))).le (show 2 * cS b P.length + 1 ≤ cS b (P.length + 1) from Nat.le_refl _)
  refine ⟨⟨fun p hp => ?_, fun l hl => ?_⟩, ⟨fun p hp => ?_, fun l hl => ?_⟩, ?_, fun p hp => ?_, ?_, fun p hp l hl => ?_, fun l hl c hc => ?_, fun u => ?_⟩
  · rcases List.mem_append.mp hp with q | q
    · obtain ⟨p0, _, rfl⟩ := List.mem_map.mp q; exact crossK_len
    · rw [List.mem_singleton.mp q]; exact hhl
  · obtain ⟨l0, _, rfl⟩ := List.mem_map.mp hl; exact crossK_len
  · rw [hPl]
    rcases List.mem_append.mp hp with q | q
    · obtain ⟨p0, hp0, rfl⟩ := List.mem_map.mp q; exact xs _ (h.sz.1 p0 hp0)
    · rw [List.mem_singleton.mp q]; exact (h.sz.2 here hhB).le (cS_mono b (by omega))
  · rw [hPl]
    obtain ⟨l0, hl0, rfl⟩ := List.mem_map.mp hl; exact xs _ (h.sz.2 l0 (hB l0 hl0))
  · have := h.num
    rw [hPl, List.length_map]
    simp at this ⊢
    omega
  · rcases List.mem_append.mp hp with q | q
    · obtain ⟨p0, hp0, rfl⟩ := List.mem_map.mp q
      obtain ⟨t1, t2⟩ := h.tip p0 hp0
      refine ⟨by show p0.1 < at_ + 1; omega, fun z => ?_⟩
      obtain ⟨g, hg, e⟩ := X p0.2 (h.len.1 p0 hp0)
      have := e p0.1
      have z : gx (crossK n here at_ p0.2) p0.1 = 0 := z
      rw [hz2 p0 hp0, z, Int.mul_zero, Int.mul_zero, Int.sub_zero] at this
      rcases Int.mul_eq_zero.mp this.symm with w | w
      · exact hne w
      · exact t2 w
    · rw [List.mem_singleton.mp q]; exact ⟨by show at_ < at_ + 1; omega, hne⟩
  · refine List.pairwise_append.mpr ⟨List.pairwise_map.mpr (h.ap.imp_of_mem fun {p q} hp hq z => ⟨z.1, x0 _ (h.len.1 p hp) _ z.2.1 (hz2 q hq), x0 _ (h.len.1 q hq) _ z.2.2 (hz2 p hp)⟩), List.pairwise_singleton .., fun p hp q hq => ?_⟩
    obtain ⟨p0, hp0, rfl⟩ := List.mem_map.mp hp
    rw [List.mem_singleton.mp hq]
    exact ⟨(h.tip p0 hp0).1, xat _ (h.len.1 p0 hp0), hz2 p0 hp0⟩
  · obtain ⟨l0, hl0, rfl⟩ := List.mem_map.mp hl
    rcases List.mem_append.mp hp with q | q
    · obtain ⟨p0, hp0, rfl⟩ := List.mem_map.mp q
      exact x0 _ (h.len.2 l0 (hB l0 hl0)) _ (h.bz p0 hp0 l0 (hB l0 hl0)) (hz2 p0 hp0)
    · rw [List.mem_singleton.mp q]; exact xat _ (h.len.2 l0 (hB l0 hl0))
  · obtain ⟨l0, hl0, rfl⟩ := List.mem_map.mp hl
    by_cases q : c = at_
    · rw [q]; exact xat _ (h.len.2 l0 (hB l0 hl0))
    · exact x0 _ (h.len.2 l0 (hB l0 hl0)) _ (h.zer l0 (hB l0 hl0) c (by omega)) (hz c (by omega))
  · rw [← h.ker u]
    have key : dotF n (gx here) u = 0 → ∀ l : Row, l.length = n → (dotF n (gx (crossK n here at_ l)) u = 0 ↔ dotF n (gx l) u = 0) := fun h0 l hl => by
      obtain ⟨g, hg, e⟩ := X l hl
      have this : g * dotF n (gx (crossK n here at_ l)) u = gx here at_ * dotF n (gx l) u - gx l at_ * dotF n (gx here) u := dot_cross e u
      rw [h0, Int.mul_zero, Int.sub_zero] at this
      refine ⟨fun z => ?_, fun z => ?_⟩
      · rw [z, Int.mul_zero] at this
        rcases Int.mul_eq_zero.mp this.symm with w | w
        · exact absurd w hne
        · exact w
      · rw [z, Int.mul_zero] at this
        rcases Int.mul_eq_zero.mp this with w | w
        · omega
        · exact w
    constructor
    · rintro ⟨a1, a2⟩
      have h0 : dotF n (gx here) u = 0 := a1 (at_, here) (by simp)
      refine ⟨fun p hp => ?_, fun l hl => ?_⟩
      · exact (key h0 _ (h.len.1 p hp)).mp (a1 (p.1, crossK n here at_ p.2) (List.mem_append_left _ (List.mem_map.mpr ⟨p, hp, rfl⟩)))
      · rcases List.mem_append.mp hl with q | q
        · exact (key h0 _ (h.len.2 l hl)).mp (a2 _ (List.mem_map.mpr ⟨l, by simp [q], rfl⟩))
        · rcases List.mem_cons.mp q with q | q
          · rw [q]; exact h0
          · exact (key h0 _ (h.len.2 l hl)).mp (a2 _ (List.mem_map.mpr ⟨l, by simp [q], rfl⟩))
    · rintro ⟨a1, a2⟩
      have h0 := a2 here hhB
      refine ⟨fun p hp => ?_, fun l hl => ?_⟩
      · rcases List.mem_append.mp hp with q | q
        · obtain ⟨p0, hp0, rfl⟩ := List.mem_map.mp q
          exact (key h0 _ (h.len.1 p0 hp0)).mpr (a1 p0 hp0)
        · rw [List.mem_singleton.mp q]; exact h0
      · obtain ⟨l0, hl0, rfl⟩ := List.mem_map.mp hl
        exact (key h0 _ (h.len.2 l0 (hB l0 hl0))).mpr (a2 l0 (hB l0 hl0))
/-- what the free place f, told W, makes of the others -/
def vecF (P : List (Nat × Row)) (f : Nat) (W : Int) (c : Nat) : Int := match P.find? fun p => decide (p.1 = c) with
  | some p => (-(gx p.2 f) * W).fdiv (gx p.2 p.1)
  | none => if c = f then W else 0
def wholeK (P : List (Nat × Row)) : Int := P.foldl (fun c p => c * absI (gx p.2 p.1)) 1
theorem wholeK_dvd : ∀ (P : List (Nat × Row)) (c : Int), c ∣ P.foldl (fun c p => c * absI (gx p.2 p.1)) c ∧ ∀ p ∈ P, gx p.2 p.1 ∣ P.foldl (fun c p => c * absI (gx p.2 p.1)) c
  | [], c => ⟨Int.dvd_refl _, by simp⟩
  | k :: K, c => by
    have ih := wholeK_dvd K (c * absI (gx k.2 k.1))
    rw [List.foldl_cons]
    refine ⟨Int.dvd_trans (Int.dvd_mul_right _ _) ih.1, fun x hx => ?_⟩
    rcases List.mem_cons.mp hx with q | q
    · rw [q]
      refine Int.dvd_trans ?_ ih.1
      refine Int.dvd_trans ?_ (Int.dvd_mul_left _ _)
      rw [absI_eq]
      exact Int.dvd_natAbs.mpr (Int.dvd_refl _)
    · exact ih.2 x q
theorem wholeK_pos : ∀ (P : List (Nat × Row)) (c : Int), 0 < c → (∀ p ∈ P, gx p.2 p.1 ≠ 0) → 0 < P.foldl (fun c p => c * absI (gx p.2 p.1)) c
  | [], c, hc, _ => hc
  | k :: K, c, hc, h => by
    rw [List.foldl_cons]
    refine wholeK_pos K _ (Int.mul_pos hc ?_) fun t ht => h t (by simp [ht])
    have := h k (by simp)
    rw [absI_eq]
    omega
theorem vecF_tip {n b at_ : Nat} {R : List Row} {P : List (Nat × Row)} {B : List Row} (h : KI n b R at_ P B) {p : Nat × Row} (hp : p ∈ P) (f : Nat) : vecF P f (wholeK P) p.1 = (-(gx p.2 f) * wholeK P).fdiv (gx p.2 p.1) ∧ gx p.2 p.1 * vecF P f (wholeK P) p.1 = -(gx p.2 f) * wholeK P := by
  have e : P.find? (fun q => decide (q.1 = p.1)) = some p := by
    cases q : P.find? (fun q => decide (q.1 = p.1)) with
    | none =>
      have := List.find?_eq_none.mp q p hp
      simp at this
    | some r =>
      have h1 := of_decide_eq_true (List.find?_some (p := fun q : Nat × Row => decide (q.1 = p.1)) q)
      have h2 := List.mem_of_find?_eq_some q
      refine congrArg some (Classical.byContradiction fun z => ?_)
      have hnd : P.Pairwise fun p q => p.1 ≠ q.1 := h.ap.imp fun z => by omega
      have : ∀ x ∈ P, ∀ y ∈ P, x.1 = y.1 → x = y := fun x hx y hy e => by
        obtain ⟨i, hi⟩ := List.getElem?_of_mem hx
        obtain ⟨j, hj⟩ := List.getElem?_of_mem hy
        have hnd2 : (P.map Prod.fst).Nodup := List.pairwise_map.mpr hnd
        have hi2 : (P.map Prod.fst)[i]? = some x.1 := by rw [List.getElem?_map, hi]; rfl
        have hj2 : (P.map Prod.fst)[j]? = some y.1 := by rw [List.getElem?_map, hj]; rfl
        have := (List.getElem?_inj (i := i) (j := j) (List.getElem?_eq_some_iff.mp hi2).1 hnd2).mp (by rw [hi2, hj2, e])
        subst this
        rw [hi] at hj
        exact Option.some.inj hj
      exact z (this r h2 p hp h1)
  have e2 : vecF P f (wholeK P) p.1 = (-(gx p.2 f) * wholeK P).fdiv (gx p.2 p.1) := by unfold vecF; rw [e]
  refine ⟨e2, ?_⟩
  rw [e2]
  obtain ⟨d, hd⟩ := (wholeK_dvd P 1).2 p hp
  have hd : wholeK P = gx p.2 p.1 * d := hd
  have e3 : -(gx p.2 f) * wholeK P = gx p.2 p.1 * (-(gx p.2 f) * d) := by rw [hd]; ac_rfl
  rw [e3, Int.mul_fdiv_cancel_left _ (h.tip p hp).2]
theorem vecF_free {P : List (Nat × Row)} {f c : Nat} {W : Int} (h : ∀ p ∈ P, p.1 ≠ c) : vecF P f W c = if c = f then W else 0 := by
  unfold vecF
  rw [List.find?_eq_none.mpr fun p hp => by simpa using h p hp]
theorem KI.off {n b at_ : Nat} {R : List Row} {P : List (Nat × Row)} {B : List Row} (h : KI n b R at_ P B) {p q : Nat × Row} (hp : p ∈ P) (hq : q ∈ P) (hne : p.1 ≠ q.1) : gx p.2 q.1 = 0 := by
  obtain ⟨i, hi⟩ := List.getElem?_of_mem hp
  obtain ⟨j, hj⟩ := List.getElem?_of_mem hq
  have hi2 := List.getElem?_eq_some_iff.mp hi
  have hj2 := List.getElem?_eq_some_iff.mp hj
  obtain ⟨hi3, rfl⟩ := hi2
  obtain ⟨hj3, rfl⟩ := hj2
  have := List.pairwise_iff_getElem.mp h.ap
  by_cases q1 : i < j
  · exact (this i j hi3 hj3 q1).2.1
  · by_cases q2 : j < i
    · exact (this j i hj3 hi3 q2).2.2
    · have : i = j := by omega
      subst this
      exact absurd rfl hne
/-- the kernel when all places are looked at -/
theorem KI.kern {n b : Nat} {R : List Row} {P : List (Nat × Row)} {B : List Row} (h : KI n b R n P B) (u : Fn) : Kern n R u ↔ ∀ p ∈ P, dotF n (gx p.2) u = 0 := by
  rw [← h.ker u]
  refine ⟨fun z => z.1, fun z => ⟨z, fun l hl => ?_⟩⟩
  unfold dotF rsum
  exact sum_zero _ fun c hc => by rw [h.zer l hl c (List.mem_range.mp hc)]; simp
theorem KI.vec_kern {n b : Nat} {R : List Row} {P : List (Nat × Row)} {B : List Row} (h : KI n b R n P B) {f : Nat} (hf : f < n) (hfree : ∀ p ∈ P, p.1 ≠ f) : Kern n R (vecF P f (wholeK P)) := by
  rw [h.kern]
  intro p hp
  have hpf := hfree p hp
  unfold dotF
  rw [two_sum (h.tip p hp).1 hf hpf _ fun c hc h1 h2 => ?_]
  · rw [(vecF_tip h hp f).2, vecF_free hfree, if_pos rfl, Int.neg_mul]
    omega
  · by_cases hq : ∃ q ∈ P, q.1 = c
    · obtain ⟨q, hq, rfl⟩ := hq
      rw [h.off hp hq (fun z => h1 z.symm)]; simp
    · rw [vecF_free fun q hq2 z => hq ⟨q, hq2, z⟩, if_neg h2]; simp
theorem KI.prop {n b : Nat} {R : List Row} {P : List (Nat × Row)} {B : List Row} (h : KI n b R n P B) {f : Nat} (hf : f < n) (hfree : ∀ p ∈ P, p.1 ≠ f) (hall : ∀ c < n, c ≠ f → ∃ p ∈ P, p.1 = c) {u : Fn} (hu : Kern n R u) (c : Nat) (hc : c < n) : u c * wholeK P = vecF P f (wholeK P) c * u f := by
  by_cases q : c = f
  · rw [q, vecF_free hfree, if_pos rfl, Int.mul_comm]
  · obtain ⟨p, hp, rfl⟩ := hall c hc q
    have h1 := (h.kern u).mp hu p hp
    unfold dotF at h1
    rw [two_sum (h.tip p hp).1 hf (hfree p hp) _ fun d hd w1 w2 => by
      obtain ⟨r, hr, rfl⟩ := hall d hd w2
      rw [h.off hp hr (fun z => w1 z.symm)]; simp] at h1
    have h2 := (vecF_tip h hp f).2
    refine Int.eq_of_mul_eq_mul_left (h.tip p hp).2 ?_
    have e1 : gx p.2 p.1 * (u p.1 * wholeK P) = gx p.2 p.1 * u p.1 * wholeK P := by ac_rfl
    have e2 : gx p.2 p.1 * (vecF P f (wholeK P) p.1 * u f) = gx p.2 p.1 * vecF P f (wholeK P) p.1 * u f := by ac_rfl
    rw [e1, e2, h2]
    have e3 : gx p.2 p.1 * u p.1 = -(gx p.2 f * u f) := by omega
    rw [e3, Int.neg_mul, Int.neg_mul, Int.neg_mul]
    congr 1
    ac_rfl
/-- a list that is alone in its places -/
structure Full (n : Nat) (R : List Row) (z : Fn) : Prop where
  pos : ∀ c < n, 0 < z c
  kn : Kern n R z
  uni : ∀ u : Fn, Kern n R u → ∀ i < n, ∀ j < n, z i * u j = z j * u i
theorem KI.tips {n b : Nat} {R : List Row} {P : List (Nat × Row)} {B : List Row} (h : KI n b R n P B) : (P.map Prod.fst).Nodup ∧ P.length ≤ n := by
  have hnd : (P.map Prod.fst).Nodup := List.pairwise_map.mpr (h.ap.imp fun z => by omega)
  refine ⟨hnd, ?_⟩
  have := nodup_len (P.map Prod.fst) (List.range n) hnd fun x hx => by
    obtain ⟨p, hp, rfl⟩ := List.mem_map.mp hx
    exact List.mem_range.mpr (h.tip p hp).1
  simpa using this
theorem KI.no_full {n b : Nat} {R : List Row} {P : List (Nat × Row)} {B : List Row} (h : KI n b R n P B) (hn : 0 < n) (hne : P.length + 1 ≠ n) {z : Fn} (hz : Full n R z) : False := by
  obtain ⟨hnd, hle⟩ := h.tips
  by_cases hall : ∀ c < n, ∃ p ∈ P, p.1 = c
  · obtain ⟨p, hp, e⟩ := hall 0 hn
    have h1 := (h.kern z).mp hz.kn p hp
    unfold dotF at h1
    rw [one_sum (h.tip p hp).1 _ fun d hd w1 => by
      obtain ⟨r, hr, rfl⟩ := hall d hd
      rw [h.off hp hr (fun z => w1 z.symm)]; simp] at h1
    have h2 := hz.pos p.1 (h.tip p hp).1
    rcases Int.mul_eq_zero.mp h1 with q | q
    · exact (h.tip p hp).2 q
    · omega
  · obtain ⟨f, hf, hfree⟩ : ∃ f, f < n ∧ ∀ p ∈ P, p.1 ≠ f := by
      refine Classical.byContradiction fun q => hall fun c hc => Classical.byContradiction fun w => q ⟨c, hc, fun p hp e => w ⟨p, hp, e⟩⟩
    by_cases h2 : ∀ c < n, c ≠ f → ∃ p ∈ P, p.1 = c
    · refine hne ?_
      have := nodup_len (List.range n) (f :: P.map Prod.fst) (List.nodup_range) fun c hc => by
        by_cases q : c = f
        · rw [q]; simp
        · obtain ⟨p, hp, e⟩ := h2 c (List.mem_range.mp hc) q
          exact List.mem_cons_of_mem _ (List.mem_map.mpr ⟨p, hp, e⟩)
      have h3 := nodup_len (f :: P.map Prod.fst) (List.range n) (List.nodup_cons.mpr ⟨fun z => by
        obtain ⟨p, hp, e⟩ := List.mem_map.mp z
        exact hfree p hp e, hnd⟩) fun c hc => by
        rcases List.mem_cons.mp hc with q | q
        · rw [q]; exact List.mem_range.mpr hf
        · obtain ⟨p, hp, rfl⟩ := List.mem_map.mp q
          exact List.mem_range.mpr (h.tip p hp).1
      simp at this h3
      omega
    · obtain ⟨g, hg, hgf, hgfree⟩ : ∃ g, g < n ∧ g ≠ f ∧ ∀ p ∈ P, p.1 ≠ g := by
        refine Classical.byContradiction fun q => h2 fun c hc hcf => Classical.byContradiction fun w => q ⟨c, hc, hcf, fun p hp e => w ⟨p, hp, e⟩⟩
      have hk := h.vec_kern hf hfree
      have := hz.uni _ hk f hf g hg
      rw [vecF_free hgfree, vecF_free hfree, if_neg hgf, if_pos rfl, Int.mul_zero] at this
      have h3 := hz.pos g hg
      have h4 : 0 < wholeK P := wholeK_pos P 1 (by decide) fun p hp => (h.tip p hp).2
      have := Int.mul_pos h3 h4
      omega
/-! ### all choices of places -/
theorem sum_filter0 {α : Type} (p : α → Bool) (F : α → Int) : ∀ (l : List α), (∀ x ∈ l, p x = false → F x = 0) → (l.map F).sum = ((l.filter p).map F).sum
  | [], _ => rfl
  | x :: l, h => by
    have ih := sum_filter0 p F l fun y hy => h y (by simp [hy])
    by_cases q : p x = true
    · rw [List.filter_cons_of_pos q, List.map_cons, List.map_cons, List.sum_cons, List.sum_cons, ih]
    · rw [List.filter_cons_of_neg q, List.map_cons, List.sum_cons, ih, h x (by simp) (by simpa using q)]
      omega
def selN (n : Nat) (p : Nat → Bool) : List Nat := (List.range n).filter p
theorem selN_mem {n : Nat} {p : Nat → Bool} {c : Nat} : c ∈ selN n p ↔ c < n ∧ p c = true := by unfold selN; rw [List.mem_filter, List.mem_range]
theorem selN_nd {n : Nat} {p : Nat → Bool} : (selN n p).Nodup := List.nodup_range.sublist List.filter_sublist
theorem selN_len {n : Nat} {p : Nat → Bool} : (selN n p).length ≤ n := by unfold selN; have := List.length_filter_le p (List.range n); simpa using this
def cutR (S : List Nat) (r : Row) : Row := S.map (gx r)
theorem cutR_gx {S : List Nat} {u : Fn} {i c : Nat} (h : S[i]? = some c) : gx (S.map u) i = u c := by
  unfold gx
  rw [List.getD_eq_getElem?_getD, List.getElem?_map, h]; rfl
theorem dot_cut {n : Nat} {p : Nat → Bool} (r : Row) (u : Fn) (h : ∀ c < n, p c = false → u c = 0) : dotF (selN n p).length (gx (cutR (selN n p) r)) (gx ((selN n p).map u)) = dotF n (gx r) u := by
  rw [← dot_zip (m := (selN n p).length) (by unfold cutR; rw [List.length_map]) (by rw [List.length_map])]
  have e : (cutR (selN n p) r).zip ((selN n p).map u) = (selN n p).map fun c => (gx r c, u c) := by unfold cutR; exact List.zip_map' ..
  rw [e, List.map_map]
  unfold dotF rsum selN
  exact (sum_filter0 p (fun c => gx r c * u c) (List.range n) fun c hc q => by
    show gx r c * u c = 0
    rw [h c (List.mem_range.mp hc) q]; simp).symm
theorem dot_cut2 {n : Nat} {p : Nat → Bool} {R : List Row} {u : Fn} (h : ∀ c < n, p c = false → u c = 0) : Kern (selN n p).length (R.map (cutR (selN n p))) (gx ((selN n p).map u)) ↔ Kern n R u := by
  constructor
  · intro hk r hr
    rw [← dot_cut r u h]
    exact hk _ (List.mem_map_of_mem hr)
  · intro hk r hr
    obtain ⟨q, hq, rfl⟩ := List.mem_map.mp hr
    rw [dot_cut q u h]
    exact hk q hq
theorem kern_congr {k : Nat} {R : List Row} {u v : Fn} (h : ∀ j < k, u j = v j) : Kern k R u ↔ Kern k R v := by
  have : ∀ r : Row, dotF k (gx r) u = dotF k (gx r) v := fun r => rsum_congr fun j hj => by rw [h j hj]
  constructor <;> intro hk r hr
  · rw [← this]; exact hk r hr
  · rw [this]; exact hk r hr
def extF (S : List Nat) (w : Fn) (c : Nat) : Int := if c ∈ S then w (S.idxOf c) else 0
theorem extF_at {S : List Nat} (hnd : S.Nodup) {w : Fn} {i c : Nat} (h : S[i]? = some c) : extF S w c = w i := by
  have hi := (List.getElem?_eq_some_iff.mp h)
  obtain ⟨hi1, rfl⟩ := hi
  unfold extF
  rw [if_pos (List.getElem_mem _)]
  congr 1
  exact hnd.idxOf_getElem i hi1
/-- a list that is alone in its places is a lone one -/
theorem full_lone {n : Nat} {p : Nat → Bool} {R : List Row} {x : Row} (hk : 0 < (selN n p).length) (hx : x.length = n) (h0 : ∀ c < n, p c = false → gx x c = 0) (hg : gcdL (cutR (selN n p) x) = 1) (hF : Full (selN n p).length (R.map (cutR (selN n p))) (gx (cutR (selN n p) x))) : LoneR n R x ∧ ∀ c < n, p c = true → 0 < gx x c := by
  have hpos : ∀ c < n, p c = true → 0 < gx x c := fun c hc hp => by
    obtain ⟨i, hi⟩ := List.getElem?_of_mem (selN_mem.mpr ⟨hc, hp⟩)
    have := hF.pos i (List.getElem?_eq_some_iff.mp hi).1
    unfold cutR at this
    rw [cutR_gx hi] at this
    exact this
  have hnn : ∀ j, 0 ≤ gx x j := fun j => by
    by_cases hj : j < n
    · cases q : p j with
      | true => have := hpos j hj q; omega
      | false => rw [h0 j hj q]; exact Int.le_refl 0
    · rw [gx_out (by omega)]; exact Int.le_refl 0
  obtain ⟨c0, hc0⟩ : ∃ c0, (selN n p)[0]? = some c0 := ⟨_, List.getElem?_eq_getElem hk⟩
  have hc0m := selN_mem.mp (List.mem_of_getElem? hc0)
  refine ⟨⟨hx, ⟨⟨fun j hj => gx_out (by omega), hnn, (dot_cut2 h0).mp hF.kn⟩, ⟨c0, by have := hpos c0 hc0m.1 hc0m.2; omega⟩, fun v hv hz hs => ?_⟩, ?_⟩, hpos⟩
  · have hv0 : ∀ c < n, p c = false → v c = 0 := fun c hc q => Classical.byContradiction fun w => hs c w (h0 c hc q)
    have hkv := (dot_cut2 hv0).mpr hv.kn
    obtain ⟨j, hj⟩ := hz
    have hjn : j < n := Classical.byContradiction fun w => hj (hv.out j (by omega))
    have hpj : p j = true := Classical.byContradiction fun w => hj (hv0 j hjn (by simpa using w))
    obtain ⟨i, hi⟩ := List.getElem?_of_mem (selN_mem.mpr ⟨hjn, hpj⟩)
    intro c hc
    have hcn : c < n := Classical.byContradiction fun w => hc (gx_out (by omega))
    have hpc : p c = true := Classical.byContradiction fun w => hc (h0 c hcn (by simpa using w))
    obtain ⟨d, hd⟩ := List.getElem?_of_mem (selN_mem.mpr ⟨hcn, hpc⟩)
    have := hF.uni _ hkv i (List.getElem?_eq_some_iff.mp hi).1 d (List.getElem?_eq_some_iff.mp hd).1
    unfold cutR at this
    rw [cutR_gx hi, cutR_gx hd, cutR_gx hi, cutR_gx hd] at this
    intro z
    rw [z, Int.mul_zero] at this
    rcases Int.mul_eq_zero.mp this.symm with w | w
    · exact hc w
    · exact hj w
  · have : gcdL x ∣ gcdL (cutR (selN n p) x) := dvd_gcdL.mpr fun y hy => by
      unfold cutR at hy
      obtain ⟨c, hc, rfl⟩ := List.mem_map.mp hy
      have := (selN_mem.mp hc).1
      exact gcdL_dvd (gx_mem (by omega))
    rw [hg] at this
    exact Int.eq_one_of_dvd_one (gcdL_nonneg x) this
theorem lone_full {n : Nat} {p : Nat → Bool} {R : List Row} {x : Row} (hx : LoneR n R x) (h0 : ∀ c < n, (p c = true ↔ 0 < gx x c)) : Full (selN n p).length (R.map (cutR (selN n p))) (gx (cutR (selN n p) x)) := by
  have hz : ∀ c < n, p c = false → gx x c = 0 := fun c hc q => by
    have := hx.ln.nn c
    have h1 : ¬ 0 < gx x c := fun w => by rw [(h0 c hc).mpr w] at q; cases q
    omega
  refine ⟨fun i hi => ?_, (dot_cut2 hz).mpr hx.ln.kn, fun u hu i hi j hj => ?_⟩
  · obtain ⟨c, hc⟩ : ∃ c, (selN n p)[i]? = some c := ⟨_, List.getElem?_eq_getElem hi⟩
    have hm := selN_mem.mp (List.mem_of_getElem? hc)
    unfold cutR
    rw [cutR_gx hc]
    exact (h0 c hm.1).mp hm.2
  · obtain ⟨c, hc⟩ : ∃ c, (selN n p)[i]? = some c := ⟨_, List.getElem?_eq_getElem hi⟩
    obtain ⟨d, hd⟩ : ∃ c, (selN n p)[j]? = some c := ⟨_, List.getElem?_eq_getElem hj⟩
    have hv0 : ∀ c < n, p c = false → extF (selN n p) u c = 0 := fun c hc q => by
      unfold extF
      rw [if_neg fun w => by have := (selN_mem.mp w).2; rw [q] at this; cases this]
    have hk : Kern n R (extF (selN n p) u) := by
      rw [← dot_cut2 hv0]
      refine (kern_congr fun j hj => ?_).mp hu
      obtain ⟨e, he⟩ : ∃ c, (selN n p)[j]? = some c := ⟨_, List.getElem?_eq_getElem hj⟩
      rw [cutR_gx he, extF_at selN_nd he]
    have hout : ∀ j, n ≤ j → extF (selN n p) u j = 0 := fun j hj => by
      unfold extF
      rw [if_neg fun w => by have := (selN_mem.mp w).1; omega]
    have hsb : Sb (extF (selN n p) u) (gx x) := fun c hc => by
      have hm : c ∈ selN n p := Classical.byContradiction fun w => hc (by unfold extF; rw [if_neg w])
      have := selN_mem.mp hm
      have := (h0 c this.1).mp this.2
      omega
    have := hx.ln.prop2 hout hk hsb c d
    rw [extF_at selN_nd hc, extF_at selN_nd hd] at this
    unfold cutR
    rw [cutR_gx hc, cutR_gx hd]
    exact this
theorem bit_div (M i : Nat) : decide (Builtin.bitAnd ((M : Int) / 2 ^ i) 1 = 1) = M.testBit i := by
  have e2 : (2 : Int) ^ i = ((2 ^ i : Nat) : Int) := by rw [Int.natCast_pow]; rfl
  have e1 : (M : Int) / 2 ^ i = ((M / 2 ^ i : Nat) : Int) := by rw [e2, Int.natCast_ediv]
  rw [e1]
  have e3 : Builtin.bitAnd ((M / 2 ^ i : Nat) : Int) 1 = ((M / 2 ^ i % 2 : Nat) : Int) := by
    rw [PyProof.Rows.bitAnd_pp (Int.natCast_nonneg _) (by decide)]
    simp only [Int.toNat_natCast]
    have : (1 : Int).toNat = 1 := rfl
    rw [this, Nat.and_one_is_mod]
  rw [e3, Nat.testBit_eq_decide_div_mod_eq]
  refine decide_eq_decide.mpr ⟨fun h => ?_, fun h => by rw [h]; rfl⟩
  omega
/-! ### rows kept by the place of their head -/
def sS (b : Nat) : Nat → Nat
  | 0 => 0
  | k + 1 => (k + 1) * sS b k + b + k + 1
theorem sS_step (b k : Nat) : b + k * (sS b k + 1) ≤ sS b (k + 1) ∧ sS b k + (b + k * (sS b k + 1)) + 1 ≤ sS b (k + 1) := by
  have e : sS b (k + 1) = (k + 1) * sS b k + b + k + 1 := rfl
  rw [e, Nat.succ_mul, Nat.mul_add, Nat.mul_one]
  omega
theorem sS_mono (b : Nat) : ∀ {s t : Nat}, s ≤ t → sS b s ≤ sS b t := by
  intro s t h
  induction h with
  | refl => exact Nat.le_refl _
  | @step m _ ih => exact Nat.le_trans ih (Nat.le_trans (by rw [Nat.add_assoc]; exact Nat.le_add_right _ _) (sS_step b m).2)
structure KH (n b : Nat) (R : List Row) (P : List (Nat × Row)) : Prop where
  len : ∀ p ∈ P, p.2.length = n
  sz : ∀ p ∈ P, SzR (sS b P.length) p.2
  tip : ∀ p ∈ P, p.1 < n ∧ gx p.2 p.1 ≠ 0
  ap : P.Pairwise fun p q => p.1 ≠ q.1 ∧ gx p.2 q.1 = 0 ∧ gx q.2 p.1 = 0
  num : P.length ≤ R.length
  ker : ∀ u : Fn, (∀ p ∈ P, dotF n (gx p.2) u = 0) ↔ Kern n R u
theorem KH.start {n b : Nat} : KH n b [] [] := ⟨by simp, by simp, by simp, .nil, Nat.le_refl _, fun u => by unfold Kern; simp⟩
theorem KH.nd {n b : Nat} {R : List Row} {P : List (Nat × Row)} (h : KH n b R P) : (P.map Prod.fst).Nodup := List.pairwise_map.mpr (h.ap.imp fun z => z.1)
theorem KH.off {n b : Nat} {R : List Row} {P : List (Nat × Row)} (h : KH n b R P) {p q : Nat × Row} (hp : p ∈ P) (hq : q ∈ P) (hne : p.1 ≠ q.1) : gx p.2 q.1 = 0 := by
  obtain ⟨i, hi⟩ := List.getElem?_of_mem hp
  obtain ⟨j, hj⟩ := List.getElem?_of_mem hq
  obtain ⟨hi3, rfl⟩ := List.getElem?_eq_some_iff.mp hi
  obtain ⟨hj3, rfl⟩ := List.getElem?_eq_some_iff.mp hj
  have := List.pairwise_iff_getElem.mp h.ap
  by_cases q1 : i < j
  · exact (this i j hi3 hj3 q1).2.1
  · by_cases q2 : j < i
    · exact (this j i hj3 hi3 q2).2.2
    · have : i = j := by omega
      subst this
      exact absurd rfl hne
theorem KH.le {n b : Nat} {R : List Row} {P : List (Nat × Row)} (h : KH n b R P) : P.length ≤ n := by
  have := nodup_len (P.map Prod.fst) (List.range n) h.nd fun x hx => by
    obtain ⟨p, hp, rfl⟩ := List.mem_map.mp hx
    exact List.mem_range.mpr (h.tip p hp).1
  simpa using this
/-- in the order of the places, it is what is known -/
theorem KH.ki {n b : Nat} {R : List Row} {P : List (Nat × Row)} (h : KH n b R P) : ∃ T B, T.Perm P ∧ KI n (sS b P.length) R n T B := by
  obtain ⟨T, hT⟩ : ∃ T, T = P.mergeSort fun p q => decide (p.1 ≤ q.1) := ⟨_, rfl⟩
  have hp : T.Perm P := by rw [hT]; exact List.mergeSort_perm _ _
  have hs : T.Pairwise fun p q => p.1 ≤ q.1 := by
    have := List.pairwise_mergeSort (le := fun p q : Nat × Row => decide (p.1 ≤ q.1)) (fun a b c h1 h2 => by simp at h1 h2 ⊢; omega) (fun a b => by simp; omega) P
    rw [hT]
    exact this.imp fun z => of_decide_eq_true z
  have hm : ∀ p, p ∈ T ↔ p ∈ P := fun p => hp.mem_iff
  have hnd : (T.map Prod.fst).Nodup := (hp.map Prod.fst).nodup_iff.mpr h.nd
  have hlen := hp.length_eq
  have hz : ∀ j, gx (List.replicate n (0 : Int)) j = 0 := fun j => by
    unfold gx
    rw [List.getD_eq_getElem?_getD, List.getElem?_replicate]
    split <;> rfl
  have hB : ∀ l ∈ List.replicate (R.length - P.length) (List.replicate n (0 : Int)), l = List.replicate n (0 : Int) := fun l hl => List.eq_of_mem_replicate hl
  have hmono : sS b P.length ≤ cS (sS b P.length) T.length := cS_mono (sS b P.length) (Nat.zero_le _)
  refine ⟨T, List.replicate (R.length - P.length) (List.replicate n 0), hp, ⟨fun p hq => h.len p ((hm p).mp hq), fun l hl => by rw [hB l hl]; simp⟩, ⟨fun p hq => (h.sz p ((hm p).mp hq)).le hmono, fun l hl => by rw [hB l hl]; exact fun j => by rw [hz]; exact Sz.zero⟩, by
    have := h.num
    rw [List.length_replicate]; omega, fun p hq => h.tip p ((hm p).mp hq), ?_, fun p _ l hl => by rw [hB l hl, hz], fun l hl c _ => by rw [hB l hl, hz], fun u => ?_⟩
  · have h2 := List.pairwise_map.mp hnd
    refine (hs.and h2).imp_of_mem fun {p q} hp1 hq1 z => ?_
    have hne : p.1 ≠ q.1 := z.2
    exact ⟨by have := z.1; omega, h.off ((hm p).mp hp1) ((hm q).mp hq1) hne, h.off ((hm q).mp hq1) ((hm p).mp hp1) fun y => hne y.symm⟩
  · rw [← h.ker u]
    refine ⟨fun z p hq => z.1 p ((hm p).mpr hq), fun z => ⟨fun p hq => z p ((hm p).mp hq), fun l hl => ?_⟩⟩
    rw [hB l hl]
    unfold dotF rsum
    exact sum_zero _ fun c _ => by rw [hz]; simp
theorem wholeK_mul : ∀ (P : List (Nat × Row)) (c : Int), P.foldl (fun c p => c * absI (gx p.2 p.1)) c = c * wholeK P
  | [], c => by show c = c * 1; rw [Int.mul_one]
  | p :: P, c => by
    unfold wholeK
    rw [List.foldl_cons, List.foldl_cons, wholeK_mul P, wholeK_mul P, Int.one_mul, Int.mul_assoc]
theorem wholeK_cons (p : Nat × Row) (P : List (Nat × Row)) : wholeK (p :: P) = absI (gx p.2 p.1) * wholeK P := by
  have : wholeK (p :: P) = P.foldl (fun c p => c * absI (gx p.2 p.1)) (1 * absI (gx p.2 p.1)) := rfl
  rw [this, wholeK_mul, Int.one_mul]
theorem wholeK_perm {T P : List (Nat × Row)} (h : T.Perm P) : wholeK T = wholeK P := by
  induction h with
  | nil => rfl
  | cons p _ ih => rw [wholeK_cons, wholeK_cons, ih]
  | swap p q l => rw [wholeK_cons, wholeK_cons, wholeK_cons, wholeK_cons]; ac_rfl
  | trans _ _ i1 i2 => rw [i1, i2]
/-- crossing -/
theorem crossK_zero {n a j : Nat} {here l : Row} (hh : here.length = n) (hl : l.length = n) (h1 : gx l j = 0) (h2 : gx here j = 0) : gx (crossK n here a l) j = 0 := by
  obtain ⟨g, hg, e⟩ := crossK_mul (a := a) hh hl
  have := e j
  rw [h1, h2, Int.mul_zero, Int.mul_zero, Int.sub_zero] at this
  rcases Int.mul_eq_zero.mp this with q | q
  · omega
  · exact q
theorem crossK_at {n a : Nat} {here l : Row} (hh : here.length = n) (hl : l.length = n) : gx (crossK n here a l) a = 0 := by
  obtain ⟨g, hg, e⟩ := crossK_mul (a := a) hh hl
  have := e a
  rw [Int.mul_comm (gx l a), Int.sub_self] at this
  rcases Int.mul_eq_zero.mp this with q | q
  · omega
  · exact q
theorem crossK_ne {n a j : Nat} {here l : Row} (hh : here.length = n) (hl : l.length = n) (ha : gx here a ≠ 0) (h1 : gx l j ≠ 0) (h2 : gx here j = 0) : gx (crossK n here a l) j ≠ 0 := fun z => by
  obtain ⟨g, hg, e⟩ := crossK_mul (a := a) hh hl
  have := e j
  rw [h2, z, Int.mul_zero, Int.mul_zero, Int.sub_zero] at this
  rcases Int.mul_eq_zero.mp this.symm with w | w
  · exact ha w
  · exact h1 w
theorem crossK_dot {n a : Nat} {here l : Row} (hh : here.length = n) (hl : l.length = n) (ha : gx here a ≠ 0) {u : Fn} (h0 : dotF n (gx here) u = 0) : dotF n (gx (crossK n here a l)) u = 0 ↔ dotF n (gx l) u = 0 := by
  obtain ⟨g, hg, e⟩ := crossK_mul (a := a) hh hl
  have this : g * dotF n (gx (crossK n here a l)) u = gx here a * dotF n (gx l) u - gx l a * dotF n (gx here) u := dot_cross e u
  rw [h0, Int.mul_zero, Int.sub_zero] at this
  refine ⟨fun z => ?_, fun z => ?_⟩
  · rw [z, Int.mul_zero] at this
    rcases Int.mul_eq_zero.mp this.symm with w | w
    · exact absurd w ha
    · exact w
  · rw [z, Int.mul_zero] at this
    rcases Int.mul_eq_zero.mp this with w | w
    · omega
    · exact w
theorem crossK_sz {n a c d : Nat} {here l : Row} (h1 : SzR c here) (h2 : SzR d l) : SzR (d + c + 1) (crossK n here a l) := by
  unfold crossK
  refine low_sz (SzR.of fun x hx => ?_)
  obtain ⟨j, _, rfl⟩ := List.mem_map.mp hx
  exact (((h1 a).mul (h2 j)).le (show _ ≤ d + c by omega)).sub (((h2 a).mul (h1 j)).le (by omega))
theorem low_max (r : Row) : (r.map fun z => z.fdiv (if (1 : Int) < gcdL r then gcdL r else 1)) = lowL r := by
  have h0 := gcdL_nonneg r
  by_cases h : gcdL r = 0
  · have e : lowL r = r := if_pos h
    rw [e, h]
    have : (fun z : Int => z.fdiv (if (1 : Int) < 0 then 0 else 1)) = id := by funext z; simp
    rw [this, List.map_id]
  · have e : lowL r = r.map fun x => x.fdiv (gcdL r) := if_neg h
    rw [e]
    by_cases q : 1 < gcdL r
    · simp only [if_pos q]
    · have e1 : gcdL r = 1 := by omega
      rw [e1]; rfl
theorem le_lless {n a c d : Nat} {here l : Row} (ha : a < n) (hh : here.length = n) (hl : l.length = n) (h1 : SzR c here) (h2 : SzR d l) (hc : d + c + 1 ≤ 8990) {P : Row → Prop} {E : Exn → Prop} (hp : P (crossK n here a l)) : (m__law_less (l, here, (a : Int), ())).wp P E := by
  unfold m__law_less
  simp only [W.wp_bind, W.wp_pure, wp_mulI, wp_divI]
  refine W.compM_map (fb := fun p : Int × Int => p.1 * gx here a - p.2 * gx l a) (l.zip here) (fun p hp P E hP => ?_) _ _ ?_
  · have h3 := List.of_mem_zip hp
    simp only [W.wp_bind, W.wp_pure, wp_mulI]
    exact idx_gx (by omega) ⟨(h2.mem _ h3.1).cmul (h1 a) (by omega), idx_gx (by omega) ⟨(h1.mem _ h3.2).cmul (h2 a) (by omega), hP⟩⟩
  · have e1 : (l.zip here).map (fun p : Int × Int => p.1 * gx here a - p.2 * gx l a) = (List.range n).map fun j => gx here a * gx l j - gx l a * gx here j := by
      refine row_ext (by rw [List.length_map, List.length_zip, List.length_map, List.length_range]; omega) fun j => ?_
      rw [gx_zip (by rw [hh, hl]) (fun x y => x * gx here a - y * gx l a) (by simp)]
      by_cases hj : j < n
      · rw [gx_rangeMap _ _ hj, Int.mul_comm, Int.mul_comm (gx here j)]
      · have z1 : gx l j = 0 := gx_out (by omega)
        have z2 : gx here j = 0 := gx_out (by omega)
        have z3 : gx ((List.range n).map fun j => gx here a * gx l j - gx l a * gx here j) j = 0 := gx_out (by rw [List.length_map, List.length_range]; omega)
        rw [z1, z2, z3]; simp
    rw [e1]
    obtain ⟨x, ex⟩ : ∃ x : Row, x = (List.range n).map fun j => gx here a * gx l j - gx l a * gx here j := ⟨_, rfl⟩
    have hxs : SzR (d + c + 1) x := SzR.of fun y hy => by
      rw [ex] at hy
      obtain ⟨j, _, rfl⟩ := List.mem_map.mp hy
      exact (((h1 a).mul (h2 j)).le (show _ ≤ d + c by omega)).sub (((h2 a).mul (h1 j)).le (by omega))
    rw [← ex]
    refine le_lmeasure x ?_
    have hg : Sz (d + c + 1) (gcdL x) := Sz.gcdL fun y hy => hxs.mem y hy
    have hg0 := gcdL_nonneg x
    have hgl := hg.log
    refine W.compM_map (fb := fun z : Int => z.fdiv (if (1 : Int) < gcdL x then gcdL x else 1)) x (fun z hz P E hP => ?_) _ _ ?_
    · show _ ∧ _
      split
      · rename_i h
        rw [if_pos h] at hP
        exact ⟨⟨by omega, by omega⟩, hP⟩
      · rename_i h
        rw [if_neg h] at hP
        exact ⟨⟨by decide, by decide⟩, hP⟩
    · rw [low_max, ex]
      exact hp
/-! ### the dict -/
def dI (P : List (Nat × Row)) : List (Int × Row) := P.map fun p => ((p.1 : Int), p.2)
theorem dI_fst (P : List (Nat × Row)) : (dI P).map Prod.fst = P.map fun p => (p.1 : Int) := by unfold dI; rw [List.map_map]; rfl
theorem getI_dI : ∀ {P : List (Nat × Row)}, (P.map Prod.fst).Nodup → ∀ p ∈ P, getI (dI P) (p.1 : Int) = some p.2
  | [], _, p, hp => nomatch hp
  | q :: P, hnd, p, hp => by
    rw [List.map_cons, List.nodup_cons] at hnd
    unfold getI dI
    rw [List.map_cons, List.find?_cons]
    by_cases e : q.1 = p.1
    · rw [show decide ((q.1 : Int) = (p.1 : Int)) = true from decide_eq_true (by omega)]
      rcases List.mem_cons.mp hp with w | w
      · rw [w]; rfl
      · exact absurd (List.mem_map.mpr ⟨p, w, e.symm⟩) hnd.1
    · rw [show decide ((q.1 : Int) = (p.1 : Int)) = false from decide_eq_false (by omega)]
      rcases List.mem_cons.mp hp with w | w
      · rw [w] at e; exact absurd rfl e
      · exact getI_dI hnd.2 p w
theorem putI_dI {A B : List (Nat × Row)} {p : Nat × Row} {x : Row} (hnd : ((A ++ p :: B).map Prod.fst).Nodup) : putI (dI (A ++ p :: B)) (p.1 : Int) x = dI (A ++ (p.1, x) :: B) := by
  unfold putI dI
  have h1 : ((A ++ p :: B).map fun p => ((p.1 : Int), p.2)).any (fun q => decide (q.1 = (p.1 : Int))) = true := List.any_eq_true.mpr ⟨((p.1 : Int), p.2), List.mem_map.mpr ⟨p, by simp, rfl⟩, decide_eq_true rfl⟩
  rw [if_pos h1]
  rw [List.map_append, List.map_cons, List.nodup_append] at hnd
  obtain ⟨_, h3, h4⟩ := hnd
  rw [List.nodup_cons] at h3
  rw [List.map_append, List.map_append, List.map_cons, List.map_cons, List.map_append, List.map_cons]
  have eA : (A.map fun p => ((p.1 : Int), p.2)).map (fun q => if q.1 = (p.1 : Int) then ((p.1 : Int), x) else q) = A.map fun p => ((p.1 : Int), p.2) := by
    rw [List.map_map]
    refine List.map_congr_left fun q hq => ?_
    simp only [Function.comp]
    rw [if_neg fun z => h4 q.1 (List.mem_map.mpr ⟨q, hq, rfl⟩) p.1 (by simp) (by omega)]
  have eB : (B.map fun p => ((p.1 : Int), p.2)).map (fun q => if q.1 = (p.1 : Int) then ((p.1 : Int), x) else q) = B.map fun p => ((p.1 : Int), p.2) := by
    rw [List.map_map]
    refine List.map_congr_left fun q hq => ?_
    simp only [Function.comp]
    rw [if_neg fun z => h3.1 (List.mem_map.mpr ⟨q, hq, by omega⟩)]
  rw [eA, eB, if_pos rfl]
theorem putI_snoc {P : List (Nat × Row)} {a : Nat} {x : Row} (h : ∀ p ∈ P, p.1 ≠ a) : putI (dI P) (a : Int) x = dI (P ++ [(a, x)]) := by
  unfold putI
  rw [if_neg fun z => ?_]
  · unfold dI; rw [List.map_append]; rfl
  · obtain ⟨q, hq, e⟩ := List.any_eq_true.mp z
    unfold dI at hq
    obtain ⟨p, hp, rfl⟩ := List.mem_map.mp hq
    have := of_decide_eq_true e
    have this : (p.1 : Int) = (a : Int) := this
    exact h p hp (by omega)
/-- a row more -/
def crH (n : Nat) (here : Row) (a : Nat) (p : Nat × Row) : Nat × Row := (p.1, if gx p.2 a ≠ 0 then crossK n here a p.2 else p.2)
theorem KH.add0 {n b : Nat} {R : List Row} {P : List (Nat × Row)} (h : KH n b R P) {one here : Row} (hk : ∀ u : Fn, (∀ p ∈ P, dotF n (gx p.2) u = 0) → (dotF n (gx here) u = 0 ↔ dotF n (gx one) u = 0)) (h0 : ∀ j < n, gx here j = 0) : KH n b (R ++ [one]) P :=
  ⟨h.len, h.sz, h.tip, h.ap, by have := h.num; simp; omega, fun u => by
    constructor
    · intro z r hr
      rcases List.mem_append.mp hr with q | q
      · exact (h.ker u).mp z r q
      · rw [List.mem_singleton.mp q]
        refine (hk u z).mp ?_
        unfold dotF rsum
        exact sum_zero _ fun c hc => by rw [h0 c (List.mem_range.mp hc)]; simp
    · intro z
      exact (h.ker u).mpr fun r hr => z r (by simp [hr])⟩
theorem KH.add {n b : Nat} {R : List Row} {P : List (Nat × Row)} (h : KH n b R P) {one here : Row} {a : Nat} (hl : here.length = n) (ha : a < n) (hne : gx here a ≠ 0) (hz : ∀ p ∈ P, gx here p.1 = 0) (hs : SzR (b + P.length * (sS b P.length + 1)) here) (hk : ∀ u : Fn, (∀ p ∈ P, dotF n (gx p.2) u = 0) → (dotF n (gx here) u = 0 ↔ dotF n (gx one) u = 0)) :
    KH n b (R ++ [one]) (P.map (crH n here a) ++ [(a, here)]) := by
  obtain ⟨t1, t2⟩ := sS_step b P.length
  have hlen : (P.map (crH n here a) ++ [(a, here)]).length = P.length + 1 := by simp
  have hka : ∀ p ∈ P, p.1 ≠ a := fun p hp e => hne (by rw [← e]; exact hz p hp)
  have zc : ∀ p ∈ P, ∀ j, gx p.2 j = 0 → gx here j = 0 → gx (crH n here a p).2 j = 0 := fun p hp j h1 h2 => by
    unfold crH
    show gx (if _ then _ else _) j = 0
    split
    · exact crossK_zero hl (h.len p hp) h1 h2
    · exact h1
  have za : ∀ p ∈ P, gx (crH n here a p).2 a = 0 := fun p hp => by
    unfold crH
    show gx (if _ then _ else _) a = 0
    split
    · exact crossK_at hl (h.len p hp)
    · rename_i q; exact Classical.byContradiction q
  refine ⟨fun p hp => ?_, fun p hp => ?_, fun p hp => ?_, ?_, by have := h.num; rw [hlen, List.length_append, List.length_singleton]; omega, fun u => ?_⟩
  · rcases List.mem_append.mp hp with q | q
    · obtain ⟨p0, hp0, rfl⟩ := List.mem_map.mp q
      unfold crH
      show (if _ then _ else _ : Row).length = n
      split
      · exact crossK_len
      · exact h.len p0 hp0
    · rw [List.mem_singleton.mp q]; exact hl
  · rw [hlen]
    rcases List.mem_append.mp hp with q | q
    · obtain ⟨p0, hp0, rfl⟩ := List.mem_map.mp q
      unfold crH
      show SzR _ (if _ then _ else _ : Row)
      split
      · exact (crossK_sz hs (h.sz p0 hp0)).le t2
      · exact (h.sz p0 hp0).le (by omega)
    · rw [List.mem_singleton.mp q]; exact hs.le t1
  · rcases List.mem_append.mp hp with q | q
    · obtain ⟨p0, hp0, rfl⟩ := List.mem_map.mp q
      refine ⟨(h.tip p0 hp0).1, ?_⟩
      unfold crH
      show gx (if _ then _ else _) p0.1 ≠ 0
      split
      · exact crossK_ne hl (h.len p0 hp0) hne (h.tip p0 hp0).2 (hz p0 hp0)
      · exact (h.tip p0 hp0).2
    · rw [List.mem_singleton.mp q]; exact ⟨ha, hne⟩
  · refine List.pairwise_append.mpr ⟨List.pairwise_map.mpr (h.ap.imp_of_mem fun {p q} hp hq z => ⟨z.1, zc p hp _ z.2.1 (hz q hq), zc q hq _ z.2.2 (hz p hp)⟩), List.pairwise_singleton .., fun p hp q hq => ?_⟩
    obtain ⟨p0, hp0, rfl⟩ := List.mem_map.mp hp
    rw [List.mem_singleton.mp hq]
    exact ⟨hka p0 hp0, za p0 hp0, hz p0 hp0⟩
  · have key : dotF n (gx here) u = 0 → ∀ p ∈ P, (dotF n (gx (crH n here a p).2) u = 0 ↔ dotF n (gx p.2) u = 0) := fun h0 p hp => by
      unfold crH
      show dotF n (gx (if _ then _ else _)) u = 0 ↔ _
      split
      · exact crossK_dot hl (h.len p hp) hne h0
      · exact Iff.rfl
    constructor
    · intro z
      have h0 : dotF n (gx here) u = 0 := z (a, here) (by simp)
      have z2 : ∀ p ∈ P, dotF n (gx p.2) u = 0 := fun p hp => (key h0 p hp).mp (z _ (List.mem_append_left _ (List.mem_map.mpr ⟨p, hp, rfl⟩)))
      intro r hr
      rcases List.mem_append.mp hr with q | q
      · exact (h.ker u).mp z2 r q
      · rw [List.mem_singleton.mp q]; exact (hk u z2).mp h0
    · intro z
      have z2 := (h.ker u).mpr fun r hr => z r (by simp [hr])
      have h0 : dotF n (gx here) u = 0 := (hk u z2).mpr (z one (by simp))
      intro p hp
      rcases List.mem_append.mp hp with q | q
      · obtain ⟨p0, hp0, rfl⟩ := List.mem_map.mp q; exact (key h0 p0 hp0).mpr (z2 p0 hp0)
      · rw [List.mem_singleton.mp q]; exact h0
/-! ### the steps of the law's own elimination -/
theorem dI_len (P : List (Nat × Row)) : (dI P).length = P.length := by unfold dI; rw [List.length_map]
theorem tk_succ {α : Type} {T : List α} {k : Nat} {p : α} (h : T[k]? = some p) : T.take (k + 1) = T.take k ++ [p] ∧ T.drop k = p :: T.drop (k + 1) := by
  have hl := (List.getElem?_eq_some_iff.mp h).1
  refine ⟨by rw [List.take_succ, h]; rfl, ?_⟩
  rw [List.drop_eq_getElem_cons hl]
  congr 1
  have := List.getElem?_eq_getElem hl
  rw [h] at this
  exact (Option.some.inj this).symm
theorem at_map {T : List (Nat × Row)} {dn rs : List Int} {x : Int} (e : T.map (fun p => (p.1 : Int)) = dn ++ x :: rs) : ∃ p, T[dn.length]? = some p ∧ x = (p.1 : Int) ∧ p ∈ T ∧ dn.length < T.length := by
  have h : (T.map fun p => (p.1 : Int))[dn.length]? = some x := by rw [e]; simp
  rw [List.getElem?_map] at h
  obtain ⟨p, hp, ex⟩ := Option.map_eq_some_iff.mp h
  exact ⟨p, hp, ex.symm, List.mem_of_getElem? hp, (List.getElem?_eq_some_iff.mp hp).1⟩
theorem le_lsteps {n b : Nat} {R : List Row} (hn : n ≤ 100) (hRl : R.length ≤ 100) (hl : ∀ r ∈ R, r.length = n) (hs : ∀ r ∈ R, SzR b r) (hb : ∀ k, k < R.length → k ≤ n → sS b (k + 1) ≤ 8990) {P : List (Int × Row) → Prop} {E : Exn → Prop} (hp : ∀ T, KH n b R T → P (dI T)) : (m__law_steps (R, (n : Int), ())).wp P E := by
  unfold m__law_steps
  simp only [W.wp_bind, W.wp_pure]
  refine W.foldM_inv (α := Row) (σ := List (Int × Row)) (fun done s => ∃ T, KH n b done T ∧ s = dI T) R (fun done one rest s e hI => ?_) ⟨[], KH.start, rfl⟩ (fun s hI => ?_)
  · obtain ⟨T, h, rfl⟩ := hI
    have hTd := h.num
    have hTn := h.le
    have hdl : done.length < R.length := by rw [e]; simp
    have hbk := hb T.length (by omega) hTn
    obtain ⟨t1, t2⟩ := sS_step b T.length
    have om : one ∈ R := by rw [e]; simp
    have ol := hl one om
    have os := hs one om
    have hnd := h.nd
    obtain ⟨S, hS⟩ : ∃ S, S = sS b T.length := ⟨_, rfl⟩
    rw [← hS] at t1 t2
    have hbS : sS b (T.length + 1) ≤ 8990 := hbk
    obtain ⟨Q, hQ⟩ : ∃ Q, Q = sS b (T.length + 1) := ⟨_, rfl⟩
    rw [← hQ] at t1 t2 hbS
    unfold m__law_steps_b5
    simp only [W.wp_bind, W.wp_pure, W.wp_req]
    refine ⟨by rw [dI_len]; omega, ?_⟩
    rw [dI_fst]
    refine W.foldM_inv (α := Int) (σ := Row) (fun dn s => s.length = n ∧ SzR (b + dn.length * (S + 1)) s ∧ (∀ p ∈ T.take dn.length, gx s p.1 = 0) ∧ ∀ u : Fn, (∀ p ∈ T, dotF n (gx p.2) u = 0) → (dotF n (gx s) u = 0 ↔ dotF n (gx one) u = 0)) (T.map fun p => (p.1 : Int)) (fun dn x rs s e2 hJ => ?_) ⟨ol, by simpa using os, by simp, fun u _ => Iff.rfl⟩ (fun here hJ => ?_)
    · obtain ⟨j1, j2, j3, j4⟩ := hJ
      obtain ⟨p, hpk, rfl, hpT, hlt⟩ := at_map e2
      obtain ⟨tk, _⟩ := tk_succ hpk
      have hpl := h.len p hpT
      have htp := h.tip p hpT
      have hps : SzR S p.2 := hS ▸ h.sz p hpT
      have hdk : (dn.length + 1) * (S + 1) ≤ T.length * (S + 1) := Nat.mul_le_mul_right _ hlt
      rw [Nat.succ_mul] at hdk
      have hll : (dn ++ [(p.1 : Int)]).length = dn.length + 1 := by simp
      unfold m__law_steps_b1
      simp only [W.wp_bind, W.wp_pure, W.wp_ite]
      refine idx_gx (by omega) ?_
      rw [hll, tk, Nat.succ_mul]
      by_cases q : gx s p.1 = 0
      · rw [if_neg (by simp [q])]
        refine ⟨j1, j2.le (by omega), fun r hr => ?_, j4⟩
        rcases List.mem_append.mp hr with w | w
        · exact j3 r w
        · rw [List.mem_singleton.mp w]; exact q
      · rw [if_pos (by simp [q]), getI_dI hnd p hpT]
        show W.wp (m__law_less (s, p.2, (p.1 : Int), ())) _ _
        refine le_lless htp.1 hpl j1 hps j2 (by omega) ⟨crossK_len, (crossK_sz hps j2).le (by omega), fun r hr => ?_, fun u hu => ?_⟩
        · rcases List.mem_append.mp hr with w | w
          · have hrT : r ∈ T := List.mem_of_mem_take w
            by_cases z : p.1 = r.1
            · rw [← z]; exact crossK_at hpl j1
            · exact crossK_zero hpl j1 (j3 r w) (h.off hpT hrT z)
          · rw [List.mem_singleton.mp w]; exact crossK_at hpl j1
        · exact (crossK_dot hpl j1 htp.2 (hu p hpT)).trans (j4 u hu)
    · obtain ⟨j1, j2, j3, j4⟩ := hJ
      rw [List.length_map] at j2 j3
      rw [List.take_length] at j3
      unfold m__law_steps_j4
      simp only [W.wp_bind, W.wp_pure]
      refine le_range (by omega) (by omega) ?_
      refine W.compM_of (tb := fun i : Int => !decide (gx here i.toNat = 0)) (fb := fun i : Int => i) (rng 0 (n : Int)) (fun i hi P E hP => ?_) (fun i _ _ P E hP => hP) _ _ ?_
      · have h1 := mem_rng.mp hi
        obtain ⟨j, rfl⟩ : ∃ j : Nat, i = (j : Int) := ⟨i.toNat, by omega⟩
        rw [Int.toNat_natCast] at hP
        simp only [W.wp_bind, W.wp_pure]
        exact idx_gx (by omega) hP
      rw [List.map_id']
      obtain ⟨hd, ehd⟩ : ∃ hd, hd = (rng 0 (n : Int)).filter fun i : Int => !decide (gx here i.toNat = 0) := ⟨_, rfl⟩
      rw [← ehd]
      have hmem : ∀ i : Int, i ∈ hd ↔ (0 ≤ i ∧ i < (n : Int)) ∧ gx here i.toNat ≠ 0 := fun i => by
        rw [ehd, List.mem_filter, mem_rng]; simp
      clear ehd
      cases hd with
      | nil =>
        simp only [W.wp_ite, List.length_nil]
        rw [if_neg (by simp)]
        refine ⟨T, h.add0 j4 fun j hj => Classical.byContradiction fun q => ?_, rfl⟩
        have := (hmem (j : Int)).mpr ⟨⟨by omega, by omega⟩, by rw [Int.toNat_natCast]; exact q⟩
        cases this
      | cons h0 hr =>
        obtain ⟨k1, k2⟩ := (hmem h0).mp (by simp)
        obtain ⟨a, rfl⟩ : ∃ a : Nat, h0 = (a : Int) := ⟨h0.toNat, by omega⟩
        rw [Int.toNat_natCast] at k2
        have ha : a < n := by omega
        simp only [W.wp_ite, List.length_cons]
        rw [if_pos (decide_eq_true (by omega)), dI_fst]
        have i0 : ∀ {P : Int → Prop} {E : Exn → Prop}, P (a : Int) → (idx ((a : Int) :: hr) (0 : Int)).wp P E := fun hP => idx_of (by decide) rfl hP
        simp only [W.wp_bind, W.wp_pure]
        refine W.foldM_inv (α := Int) (σ := List (Int × Row)) (fun dn s => s = dI ((T.take dn.length).map (crH n here a) ++ T.drop dn.length)) (T.map fun p => (p.1 : Int)) (fun dn x rs s e2 hK => ?_) ?_ (fun s hK => ?_)
        rotate_left
        · simp
        rotate_left
        · obtain ⟨p, hpk, rfl, hpT, hlt⟩ := at_map e2
          obtain ⟨tk, dk⟩ := tk_succ hpk
          have hpl := h.len p hpT
          have hps : SzR S p.2 := hS ▸ h.sz p hpT
          have hll : (dn ++ [(p.1 : Int)]).length = dn.length + 1 := by simp
          rw [dk] at hK
          have hnd2 : (((T.take dn.length).map (crH n here a) ++ p :: T.drop (dn.length + 1)).map Prod.fst).Nodup := by
            have e3 : ((T.take dn.length).map (crH n here a) ++ p :: T.drop (dn.length + 1)).map Prod.fst = T.map Prod.fst := by
              rw [List.map_append, List.map_map, ← dk]
              have : (Prod.fst ∘ crH n here a) = Prod.fst := rfl
              rw [this, ← List.map_append, List.take_append_drop]
            rw [e3]; exact hnd
          have hg := getI_dI hnd2 p (by simp)
          rw [← hK] at hg
          have hsl : s.length ≤ 1000000 := by
            rw [hK, dI_len, List.length_append, List.length_map, List.length_take, List.length_cons, List.length_drop]
            omega
          unfold m__law_steps_b2
          simp only [W.wp_bind, W.wp_pure, W.wp_ite]
          rw [hg]
          show W.wp (idx ((a : Int) :: hr) (0 : Int)) _ _
          refine i0 (idx_gx (by omega) ?_)
          rw [hll, tk, List.map_append]
          have fin : ∀ y : Row, y = (crH n here a p).2 → dI ((T.take dn.length).map (crH n here a) ++ (p.1, y) :: T.drop (dn.length + 1)) = dI (List.map (crH n here a) (T.take dn.length) ++ List.map (crH n here a) [p] ++ T.drop (dn.length + 1)) := fun y hy => by
            rw [hy, List.append_assoc]; rfl
          by_cases q : gx p.2 a = 0
          · rw [if_neg (by simp [q])]
            show s = _
            rw [hK, ← fin p.2 (by unfold crH; show p.2 = if _ then _ else _; rw [if_neg (by simp [q])])]
          · rw [if_pos (by simp [q])]
            show W.wp (idx ((a : Int) :: hr) (0 : Int)) _ _
            refine i0 (le_lless ha j1 hpl j2 hps (by omega) ⟨hsl, ?_⟩)
            rw [hK, putI_dI hnd2, fin _ (by unfold crH; show crossK n here a p.2 = if _ then _ else _; rw [if_pos q])]
            exact rfl
        · rw [List.length_map, List.take_length, List.drop_length, List.append_nil] at hK
          unfold m__law_steps_j3
          simp only [W.wp_bind, W.wp_pure, W.wp_req]
          refine i0 ⟨by rw [hK, dI_len, List.length_map]; omega, ?_⟩
          refine ⟨_, h.add j1 ha k2 j3 (by rw [← hS]; exact j2) j4, ?_⟩
          rw [hK]
          refine putI_snoc fun p hp e3 => k2 ?_
          obtain ⟨p0, hp0, rfl⟩ := List.mem_map.mp hp
          rw [← e3]
          exact j3 p0 hp0
  · obtain ⟨T, h, rfl⟩ := hI
    exact hp T h
theorem le_minW {xs : List Int} (h : xs ≠ []) {P : Int → Prop} {E : Exn → Prop} (hp : ∀ m, m ∈ xs → (∀ y ∈ xs, m ≤ y) → P m) : (minW xs).wp P E := by
  unfold minW
  simp only [W.wp_req, W.wp_any]
  exact ⟨h, fun m hm => hp m hm.1 hm.2⟩
theorem wholeK_snoc (T : List (Nat × Row)) (p : Nat × Row) : wholeK (T ++ [p]) = wholeK T * absI (gx p.2 p.1) := by unfold wholeK; rw [List.foldl_append]; rfl
/-- the one list that is still in some places -/
theorem le_lonly {m b : Nat} {R0 : List Row} {S : List Nat} (hS1 : 1 ≤ S.length) (hS7 : S.length ≤ 7) (hSm : ∀ c ∈ S, c < m) (hRl : R0.length ≤ 7) (hl0 : ∀ r ∈ R0, r.length = m) (hs0 : ∀ r ∈ R0, SzR b r) (hb : ∀ k, k < R0.length → k ≤ S.length → sS b (k + 1) ≤ 8990) (hW : ∀ k, k ≤ R0.length → k + 1 = S.length → k * sS b k + 1 ≤ 8990)
    {P : Option Row → Prop} {E : Exn → Prop} (hp1 : ∀ y : Row, y.length = S.length → gcdL y = 1 → Full S.length (R0.map (cutR S)) (gx y) → P (some y)) (hp2 : (∀ z : Fn, ¬ Full S.length (R0.map (cutR S)) z) → P none) : (m__law_only (R0, S.map (fun i => ((i : Nat) : Int)), ())).wp P E := by
  unfold m__law_only
  simp only [W.wp_bind, W.wp_pure, W.wp_ite]
  refine W.compM_map (fb := cutR S) R0 (fun r hr P E hP => ?_) _ _ ?_
  · simp only [W.wp_bind, W.wp_pure]
    refine W.compM_map (fb := fun i : Int => gx r i.toNat) _ (fun i hi P E hP => ?_) _ _ ?_
    · obtain ⟨j, hj, rfl⟩ := List.mem_map.mp hi
      rw [Int.toNat_natCast] at hP
      exact idx_gx (by rw [hl0 r hr]; exact hSm j hj) hP
    · rw [List.map_map]
      have : S.map ((fun i : Int => gx r i.toNat) ∘ fun i => ((i : Nat) : Int)) = cutR S r := by
        unfold cutR
        refine List.map_congr_left fun i _ => ?_
        simp
      rw [this]; exact hP
  obtain ⟨n, en⟩ : ∃ n, n = S.length := ⟨_, rfl⟩
  obtain ⟨R, eR⟩ : ∃ R, R = R0.map (cutR S) := ⟨_, rfl⟩
  have hRR : R.length = R0.length := by rw [eR, List.length_map]
  have hl : ∀ r ∈ R, r.length = n := fun r hr => by
    rw [eR] at hr
    obtain ⟨q, _, rfl⟩ := List.mem_map.mp hr
    unfold cutR; rw [List.length_map, en]
  have hs : ∀ r ∈ R, SzR b r := fun r hr => by
    rw [eR] at hr
    obtain ⟨q, hq, rfl⟩ := List.mem_map.mp hr
    refine SzR.of fun z hz => ?_
    unfold cutR at hz
    obtain ⟨c, _, rfl⟩ := List.mem_map.mp hz
    exact hs0 q hq c
  rw [← eR] at hp1 hp2 ⊢
  rw [← en] at hp1 hp2 hS1 hS7 hb hW
  rw [List.length_map, ← en]
  rw [← hRR] at hb hW hRl
  clear eR hSm
  refine le_lsteps (by omega) (by omega) hl hs hb fun T hT => ?_
  obtain ⟨T', B, hperm, h⟩ := hT.ki
  have hmem' : ∀ p, p ∈ T' ↔ p ∈ T := fun p => hperm.mem_iff
  have hlenT := hperm.length_eq
  have hnd := hT.nd
  have hTn := hT.le
  have hnum := hT.num
  rw [dI_len]
  by_cases hk : T.length + 1 = n
  · rw [if_neg (by simp; omega)]
    obtain ⟨c, ec⟩ : ∃ c, c = sS b T.length := ⟨_, rfl⟩
    have hWb := hW T.length (by omega) hk
    rw [← ec] at hWb
    have hcb : c ≤ 8990 := by
      by_cases q : T.length = 0
      · have hc0 : c = 0 := by rw [ec, q]; rfl
        omega
      · have : c ≤ T.length * c := Nat.le_mul_of_pos_left _ (by omega)
        omega
    have hsz : ∀ p ∈ T, SzR c p.2 := fun p hp => by rw [ec]; exact hT.sz p hp
    refine le_range (by omega) (by omega) ?_
    rw [dI_fst]
    refine W.compM_of (tb := fun i : Int => !decide (i ∈ T.map fun p => (p.1 : Int))) (fb := fun i : Int => i) (rng 0 (n : Int)) (fun i _ P E hP => hP) (fun i _ _ P E hP => hP) _ _ ?_
    rw [List.map_id']
    obtain ⟨f, hf, hfree⟩ : ∃ f, f < n ∧ ∀ p ∈ T, p.1 ≠ f := by
      refine Classical.byContradiction fun q => ?_
      have := nodup_len (List.range n) (T.map Prod.fst) List.nodup_range fun x hx => by
        refine Classical.byContradiction fun w => q ⟨x, List.mem_range.mp hx, fun p hp e => w (List.mem_map.mpr ⟨p, hp, e⟩)⟩
      simp at this
      omega
    have hall : ∀ f, f < n → (∀ p ∈ T, p.1 ≠ f) → ∀ c < n, c ≠ f → ∃ p ∈ T, p.1 = c := fun f hf hfree c hc hcf => by
      refine Classical.byContradiction fun q => ?_
      have := nodup_len (c :: f :: T.map Prod.fst) (List.range n) (List.nodup_cons.mpr ⟨fun z => by
        rcases List.mem_cons.mp z with w | w
        · exact hcf w
        · obtain ⟨p, hp, e⟩ := List.mem_map.mp w
          exact q ⟨p, hp, e⟩, List.nodup_cons.mpr ⟨fun w => by
            obtain ⟨p, hp, e⟩ := List.mem_map.mp w
            exact hfree p hp e, hnd⟩⟩) fun x hx => by
        rcases List.mem_cons.mp hx with w | w
        · rw [w]; exact List.mem_range.mpr hc
        · rcases List.mem_cons.mp w with w | w
          · rw [w]; exact List.mem_range.mpr hf
          · obtain ⟨p, hp, rfl⟩ := List.mem_map.mp w
            exact List.mem_range.mpr (hT.tip p hp).1
      simp at this
      omega
    obtain ⟨F, eF⟩ : ∃ F, F = (rng 0 (n : Int)).filter fun i : Int => !decide (i ∈ T.map fun p => (p.1 : Int)) := ⟨_, rfl⟩
    rw [← eF]
    have hmem : ∀ i : Int, i ∈ F ↔ (0 ≤ i ∧ i < (n : Int)) ∧ ∀ p ∈ T, p.1 ≠ i.toNat := fun i => by
      rw [eF, List.mem_filter, mem_rng]
      constructor
      · rintro ⟨h1, h2⟩
        refine ⟨h1, fun p hp e => ?_⟩
        simp at h2
        exact h2 p.1 p.2 hp (by omega)
      · rintro ⟨h1, h2⟩
        refine ⟨h1, ?_⟩
        simp
        intro a b hab e
        exact h2 (a, b) hab (by show a = i.toNat; omega)
    have hFne : F ≠ [] := fun e => by
      have : (f : Int) ∈ F := (hmem _).mpr ⟨⟨by omega, by omega⟩, fun p hp => by rw [Int.toNat_natCast]; exact hfree p hp⟩
      rw [e] at this; cases this
    obtain ⟨g0, G, eG⟩ : ∃ g0 G, F = g0 :: G := by
      cases F with
      | nil => exact absurd rfl hFne
      | cons a l => exact ⟨a, l, rfl⟩
    have hg0 := (hmem g0).mp (by rw [eG]; simp)
    clear hf hfree f
    obtain ⟨f, rfl⟩ : ∃ f : Nat, g0 = (f : Int) := ⟨g0.toNat, by omega⟩
    rw [Int.toNat_natCast] at hg0
    have hf : f < n := by omega
    have hfree := hg0.2
    have hall := hall f hf hfree
    have hfree' : ∀ p ∈ T', p.1 ≠ f := fun p hp => hfree p ((hmem' p).mp hp)
    have hall' : ∀ c < n, c ≠ f → ∃ p ∈ T', p.1 = c := fun c hc hne => by
      obtain ⟨p, hp, e⟩ := hall c hc hne
      exact ⟨p, (hmem' p).mpr hp, e⟩
    have hWe : wholeK T' = wholeK T := wholeK_perm hperm
    refine idx_of (x := (f : Int)) (by decide) (by rw [eG]; rfl) ⟨by omega, ?_⟩
    -- the product of the tips
    have hwz : ∀ d ≤ T.length, Sz (d * c + 1) (wholeK (T.take d)) := fun d => by
      induction d with
      | zero => intro _; show Sz _ (1 : Int); unfold Sz; simp
      | succ d ih =>
        intro hd
        obtain ⟨p, hp⟩ : ∃ p, T[d]? = some p := ⟨_, List.getElem?_eq_getElem (by omega)⟩
        rw [(tk_succ hp).1, wholeK_snoc]
        have hz := hsz p (List.mem_of_getElem? hp) p.1
        have : Sz c (absI (gx p.2 p.1)) := by rw [absI_eq]; exact hz.of_le (by simp)
        exact ((ih (by omega)).mul this).le (by rw [Nat.succ_mul]; omega)
    have hdc : ∀ d ≤ T.length, d * c ≤ T.length * c := fun d hd => Nat.mul_le_mul_right _ hd
    refine W.foldM_inv (α := Int) (σ := Int) (fun done s => s = wholeK (T.take done.length)) (T.map fun p => (p.1 : Int)) (fun done x rest s e hI => ?_) rfl (fun wk hWk => ?_)
    · obtain ⟨p, hpk, rfl, hpT, hlt⟩ := at_map e
      obtain ⟨tk, _⟩ := tk_succ hpk
      have hpl := hT.len p hpT
      have htl := (hT.tip p hpT).1
      unfold m__law_only_b1
      simp only [W.wp_bind, W.wp_pure, wp_mulI]
      rw [getI_dI hnd p hpT]
      show W.wp (idx p.2 (p.1 : Int)) _ _
      refine idx_gx (by omega) ?_
      have hz := hsz p hpT p.1
      have hza : Sz c (absI (gx p.2 p.1)) := by rw [absI_eq]; exact hz.of_le (by simp)
      have h1 := hwz done.length (by omega)
      have := hdc done.length (by omega)
      rw [hI]
      refine ⟨h1.cmul hza (by omega), ?_⟩
      rw [List.length_append, List.length_singleton, tk, wholeK_snoc]
    · rw [List.length_map, List.take_length] at hWk
      rw [hWk]
      have hWz := hwz T.length (Nat.le_refl _)
      rw [List.take_length] at hWz
      have hWp : 0 < wholeK T := wholeK_pos T 1 (by decide) fun p hp => (hT.tip p hp).2
      unfold m__law_only_j4
      simp only [W.wp_bind, W.wp_pure]
      refine le_range (by omega) (by omega) (W.compM_map (fb := fun _ => (0 : Int)) _ (fun x _ P E hp => hp) _ _ ?_)
      have hz0 : ∀ j, gx ((rng 0 (n : Int)).map fun _ => (0 : Int)) j = 0 := fun j => by
        unfold gx
        rw [List.getD_eq_getElem?_getD, List.getElem?_map]
        cases (rng 0 (n : Int))[j]? <;> rfl
      have hzl : ((rng 0 (n : Int)).map fun _ => (0 : Int)).length = n := by rw [List.length_map, rng_length]; omega
      refine le_setI (by omega) ⟨by rw [dI_len]; omega, ?_⟩
      rw [dI_fst]
      refine W.foldM_inv (α := Int) (σ := Row) (fun done s => s.length = n ∧ SzR (T.length * c + 1 + c) s ∧ ∀ j < n, gx s j = if (∃ p ∈ T.take done.length, p.1 = j) then vecF T' f (wholeK T') j else if j = f then wholeK T else 0) (T.map fun p => (p.1 : Int)) (fun done x rest s e hI => ?_) ⟨?_, SzR.of fun y hy => ?_, fun j hj => ?_⟩ (fun s hI => ?_)
      · obtain ⟨i1, i2, i3⟩ := hI
        obtain ⟨p, hpk, rfl, hpT, hlt⟩ := at_map e
        obtain ⟨tk, _⟩ := tk_succ hpk
        have hpl := hT.len p hpT
        have htl := (hT.tip p hpT).1
        have htn := (hT.tip p hpT).2
        have hpz := hsz p hpT
        obtain ⟨v1, v2⟩ := vecF_tip h ((hmem' p).mpr hpT) f
        rw [hWe] at v1 v2
        obtain ⟨d, hd⟩ := (wholeK_dvd T 1).2 p hpT
        have hd : wholeK T = gx p.2 p.1 * d := hd
        have hdv : (wholeK T).fdiv (gx p.2 p.1) = d := by rw [hd, Int.mul_fdiv_cancel_left _ htn]
        have hvd : vecF T' f (wholeK T) p.1 = -(gx p.2 f) * d := by
          refine Int.eq_of_mul_eq_mul_left htn ?_
          rw [v2, hd]; ac_rfl
        have hdz : Sz (T.length * c + 1) d := hWz.of_le (by
          rw [hd, Int.natAbs_mul]
          exact Nat.le_mul_of_pos_left _ (by omega))
        have hnz : Sz c (-(gx p.2 f)) := (hpz f).neg
        unfold m__law_only_b2
        simp only [W.wp_bind, W.wp_pure, wp_mulI, wp_divI]
        rw [getI_dI hnd p hpT]
        show W.wp (idx p.2 (f : Int)) _ _
        refine idx_gx (by omega) ?_
        show W.wp (idx p.2 (p.1 : Int)) _ _
        refine idx_gx (by omega) ⟨⟨htn, by have := (hpz p.1).log; omega⟩, ?_⟩
        rw [hdv]
        refine ⟨hnz.cmul hdz (by omega), le_setI (by omega) ⟨by rw [List.length_set, i1], ?_, fun j hj => ?_⟩⟩
        · refine SzR.of fun y hy => ?_
          rcases List.mem_or_eq_of_mem_set hy with w | w
          · exact i2.mem y w
          · rw [w]
            exact (hnz.mul hdz).le (by omega)
        · rw [gx_set, List.length_append, List.length_singleton, tk]
          by_cases q : p.1 = j
          · rw [if_pos ⟨q, by omega⟩, if_pos ⟨p, by simp, q⟩, ← hvd, hWe, q]
          · rw [if_neg (fun z => q z.1), i3 j hj]
            by_cases w : ∃ p ∈ T.take done.length, p.1 = j
            · obtain ⟨p', hp', e'⟩ := w
              rw [if_pos ⟨p', hp', e'⟩, if_pos ⟨p', List.mem_append_left _ hp', e'⟩]
            · have w2 : ¬ ∃ p1 ∈ T.take done.length ++ [p], p1.1 = j := fun ⟨p', hp', e'⟩ => by
                rcases List.mem_append.mp hp' with r | r
                · exact w ⟨p', r, e'⟩
                · rw [List.mem_singleton.mp r] at e'; exact q e'
              rw [if_neg w, if_neg w2]
      · rw [List.length_set, hzl]
      · rcases List.mem_or_eq_of_mem_set hy with w | w
        · obtain ⟨_, _, rfl⟩ := List.mem_map.mp w; exact Sz.zero
        · rw [w]; exact hWz.le (by omega)
      · rw [gx_set, hz0, if_neg (show ¬ ∃ p ∈ T.take ([] : List Int).length, p.1 = j by simp)]
        by_cases q : f = j
        · rw [if_pos ⟨q, by omega⟩, if_pos q.symm]
        · rw [if_neg (fun z => q z.1), if_neg (fun z => q z.symm)]
      · obtain ⟨i1, i2, i3⟩ := hI
        rw [List.length_map, List.take_length] at i3
        have hv : ∀ j < n, gx s j = vecF T' f (wholeK T') j := fun j hj => by
          rw [i3 j hj]
          split
          · rfl
          · rename_i q
            rw [← hWe]
            exact (vecF_free fun p hp e => q ⟨p, (hmem' p).mp hp, e⟩).symm
        have hprop : ∀ u : Fn, Kern n R u → ∀ j < n, u j * wholeK T' = gx s j * u f := fun u hu j hj => by rw [hv j hj]; exact h.prop hf hfree' hall' hu j hj
        rw [← hWe] at hWp hWz
        unfold m__law_only_j3
        simp only [W.wp_bind, W.wp_pure, W.wp_ite]
        refine le_minW (fun e => by rw [e] at i1; simp at i1; omega) fun mn h1 h2 => ?_
        by_cases hmn : mn < 1
        · rw [if_pos (by simpa using hmn)]
          refine hp2 fun z hz => ?_
          obtain ⟨j, hj⟩ := List.getElem?_of_mem h1
          have hjl := (List.getElem?_eq_some_iff.mp hj).1
          have ej : gx s j = mn := by unfold gx; rw [List.getD_eq_getElem?_getD, hj]; rfl
          have := hprop z hz.kn j (by omega)
          have p1 := Int.mul_pos (hz.pos j (by omega)) hWp
          have p2 := Int.mul_nonneg (show (0 : Int) ≤ -mn by omega) (Int.le_of_lt (hz.pos f hf))
          rw [Int.neg_mul, ← ej] at p2
          omega
        · rw [if_neg (by simpa using hmn)]
          refine le_lmeasure s ?_
          have hpos : ∀ j < n, 0 < gx s j := fun j hj => by
            have := h2 _ (gx_mem (r := s) (j := j) (by omega))
            omega
          have hg0 : gcdL s ≠ 0 := fun e => by
            have := gcdL_zero.mp e _ (gx_mem (r := s) (j := f) (by omega))
            have := hpos f hf
            omega
          have hgn := gcdL_nonneg s
          have hgd : gcdL s ∣ wholeK T' := by
            have := gcdL_dvd (gx_mem (r := s) (j := f) (by omega))
            rw [hv f hf, vecF_free hfree', if_pos rfl] at this
            exact this
          have hgz : Sz (T.length * c + 1) (gcdL s) := hWz.of_le (by
            have := Int.le_of_dvd hWp hgd
            omega)
          have hglog := hgz.log
          refine W.compM_map (fb := fun z : Int => z.fdiv (gcdL s)) s (fun z hz P E hP => by exact ⟨⟨hg0, by omega⟩, hP⟩) _ _ ?_
          have elow : (s.map fun z : Int => z.fdiv (gcdL s)) = lowL s := (if_neg hg0).symm
          rw [elow]
          have hlm : ∀ j, gcdL s * gx (lowL s) j = gx s j := fun j => by
            have := low_mul s j
            unfold mz at this
            rw [if_neg hg0] at this
            exact this
          have hG : 0 < gcdL s := by omega
          refine hp1 _ (by rw [low_len, i1]) (low_gcd hg0) ⟨fun j hj => ?_, ?_, fun u hu i hi j hj => ?_⟩
          · have := hpos j hj
            rw [← hlm j] at this
            refine Classical.byContradiction fun q => ?_
            have := Int.mul_nonneg (Int.le_of_lt hG) (show 0 ≤ -(gx (lowL s) j) by omega)
            rw [Int.mul_neg] at this
            omega
          · have hk := h.vec_kern hf hfree'
            intro r hr
            have h0 := hk r hr
            have e2 : dotF n (gx r) (vecF T' f (wholeK T')) = gcdL s * dotF n (gx r) (gx (lowL s)) := by
              unfold dotF
              rw [← rsum_mul]
              refine rsum_congr fun j hj => ?_
              rw [← hv j hj, ← hlm j]
              ac_rfl
            rw [e2] at h0
            rcases Int.mul_eq_zero.mp h0 with q | q
            · exact absurd q hg0
            · exact q
          · have a1 := hprop u hu i hi
            have a2 := hprop u hu j hj
            refine Int.eq_of_mul_eq_mul_left hg0 ?_
            rw [← Int.mul_assoc, ← Int.mul_assoc, hlm, hlm]
            refine Int.eq_of_mul_eq_mul_right (show wholeK T' ≠ 0 by omega) ?_
            have e3 : gx s i * u j * wholeK T' = gx s i * (u j * wholeK T') := by ac_rfl
            have e4 : gx s j * u i * wholeK T' = gx s j * (u i * wholeK T') := by ac_rfl
            rw [e3, e4, a1, a2]
            ac_rfl
  · rw [if_pos (by simp; omega)]
    exact hp2 fun z hz => h.no_full (by omega) (by omega) hz
/-! ### all choices of places -/
theorem nodup_mid {α : Type} {a b : List α} {x : α} (h : (a ++ x :: b).Nodup) : x ∉ a := fun hx => by
  have := (List.nodup_append.mp h).2.2 x hx x (by simp)
  exact this rfl
theorem le_ldue {n b : Nat} {R : List Row} (hn : n ≤ 7) (hRl : R.length ≤ 7) (hl : ∀ r ∈ R, r.length = n) (hs : ∀ r ∈ R, SzR b r) (hb : ∀ k, k < R.length → k ≤ n → sS b (k + 1) ≤ 8990) (hW : ∀ k, k ≤ R.length → k + 1 ≤ n → k * sS b k + 1 ≤ 8990) {P : List Row → Prop} {E : Exn → Prop} (hp : ∀ L, LnL n R L → P (L.mergeSort leR)) : (m__law_due (R, (n : Int), ())).wp P E := by
  unfold m__law_due
  simp only [W.wp_bind, W.wp_pure]
  have e2 : (1 : Int) * 2 ^ ((n : Int)).toNat = ((2 ^ n : Nat) : Int) := by rw [Int.one_mul, Int.toNat_natCast, Int.natCast_pow]; rfl
  have h2n : 2 ^ n ≤ 2 ^ 7 := Nat.pow_le_pow_right (by decide) hn
  have h2p : 1 ≤ 2 ^ n := Nat.one_le_two_pow
  refine ⟨⟨by omega, by omega, by decide⟩, ?_⟩
  show W.wp (rangeW 1 ((1 : Int) * 2 ^ ((n : Int)).toNat)) _ _
  rw [e2]
  refine ⟨⟨by omega, by omega, by omega, by omega, by omega⟩, ?_⟩
  refine W.foldM_inv (α := Int) (σ := List Row) (fun done s => s.Nodup ∧ s.length ≤ done.length ∧ ∀ x, x ∈ s ↔ LoneR n R x ∧ ((maskN x : Nat) : Int) ∈ done) (rng 1 ((2 ^ n : Nat) : Int)) (fun done x rest s e hI => ?_) ⟨.nil, Nat.le_refl _, by simp⟩ (fun s hI => ?_)
  · obtain ⟨i1, i2, i3⟩ := hI
    have hxm := mem_rng.mp (show x ∈ rng 1 ((2 ^ n : Nat) : Int) by rw [e]; simp)
    have hnd : (rng 1 ((2 ^ n : Nat) : Int)).Nodup := by
      unfold rng
      exact List.pairwise_map.mpr (List.nodup_range.imp fun h z => h (by omega))
    have hxd : x ∉ done := by
      rw [e] at hnd
      exact nodup_mid hnd
    have hlen := congrArg List.length e
    rw [rng_length, List.length_append, List.length_cons] at hlen
    obtain ⟨M, rfl⟩ : ∃ M : Nat, x = (M : Int) := ⟨x.toNat, by omega⟩
    have hM1 : 1 ≤ M := by omega
    have hM2 : M < 2 ^ n := by omega
    obtain ⟨S, eS⟩ : ∃ S, S = selN n M.testBit := ⟨_, rfl⟩
    have hSn : S.length ≤ n := by rw [eS]; exact selN_len
    have hk : 0 < S.length := by
      obtain ⟨i, hi⟩ : ∃ i, M.testBit i = true := by
        refine Classical.byContradiction fun q => ?_
        have : M = 0 := Nat.eq_of_testBit_eq fun i => by
          rw [Nat.zero_testBit]
          exact Bool.eq_false_iff.mpr fun z => q ⟨i, z⟩
        omega
      have hin : i < n := by
        refine Classical.byContradiction fun q => ?_
        have := Nat.testBit_lt_two_pow (x := M) (i := i) (Nat.lt_of_lt_of_le hM2 (Nat.pow_le_pow_right (by decide) (by omega)))
        rw [this] at hi; cases hi
      exact List.length_pos_of_mem (show i ∈ S by rw [eS]; exact selN_mem.mpr ⟨hin, hi⟩)
    have hmask : ∀ y : Row, y.length = n → (maskN y = M ↔ ∀ c < n, (M.testBit c = true ↔ 0 < gx y c)) := fun y hy => by
      constructor
      · intro h c _
        rw [← h, maskN_bit]
        exact decide_eq_true_iff
      · intro h
        refine Nat.eq_of_testBit_eq fun j => ?_
        rw [maskN_bit]
        by_cases hj : j < n
        · cases q : M.testBit j with
          | true => exact decide_eq_true ((h j hj).mp q)
          | false => exact decide_eq_false fun z => by rw [(h j hj).mpr z] at q; cases q
        · rw [gx_out (by omega), Nat.testBit_lt_two_pow (Nat.lt_of_lt_of_le hM2 (Nat.pow_le_pow_right (by decide) (by omega)))]
          rfl
    unfold m__law_due_b3
    simp only [W.wp_bind, W.wp_pure]
    refine le_range (by omega) (by omega) ?_
    refine W.compM_of (tb := fun i : Int => M.testBit i.toNat) (fb := fun i : Int => i) (rng 0 (n : Int)) (fun i hi P E hP => ?_) (fun i _ _ P E hP => hP) _ _ ?_
    · have h1 := mem_rng.mp hi
      simp only [W.wp_bind, W.wp_pure]
      refine ⟨h1.1, ?_⟩
      show P (decide (Builtin.bitAnd ((M : Int) / 2 ^ i.toNat) 1 = 1))
      rw [bit_div]
      exact hP
    rw [List.map_id']
    have esome : (rng 0 (n : Int)).filter (fun i : Int => M.testBit i.toNat) = S.map fun i => ((i : Nat) : Int) := by
      rw [rng_nat, List.filter_map, eS]
      unfold selN
      congr 1
    rw [esome]
    · have hSm : ∀ c ∈ S, c < n := fun c hc => by rw [eS] at hc; exact (selN_mem.mp hc).1
      refine le_lonly (m := n) (b := b) (by omega) (by omega) hSm (by omega) hl hs (fun k h1 h2 => hb k h1 (by omega)) (fun k h1 h2 => hW k h1 (by omega)) (fun y hyl hyg hyF => ?_) (fun hno => ?_)
      · simp only [W.wp_ite, W.wp_bind, W.wp_pure, Option.isSome_some, if_true]
        refine le_range (by omega) (by omega) (W.compM_map (fb := fun _ => (0 : Int)) _ (fun x _ P E hp => hp) _ _ ?_)
        have hz0 : ∀ j, gx ((rng 0 (n : Int)).map fun _ => (0 : Int)) j = 0 := fun j => by
          unfold gx
          rw [List.getD_eq_getElem?_getD, List.getElem?_map]
          cases (rng 0 (n : Int))[j]? <;> rfl
        have hzl : ((rng 0 (n : Int)).map fun _ => (0 : Int)).length = n := by rw [List.length_map, rng_length]; omega
        show W.wp (W.foldM _ _ ((S.map fun i => ((i : Nat) : Int)).zip y)) _ _
        have hzz : ((S.map fun i => ((i : Nat) : Int)).zip y).length = S.length := by rw [List.length_zip, List.length_map]; omega
        have hSnd : S.Nodup := by rw [eS]; exact selN_nd
        refine W.foldM_inv (α := Int × Int) (σ := Row) (fun done s => s.length = n ∧ (∀ i < done.length, ∀ c, S[i]? = some c → gx s c = gx y i) ∧ ∀ c, c ∉ S → gx s c = 0) _ (fun d2 x2 rest2 s2 e3 hJ => ?_) ⟨hzl, fun i h => absurd h (Nat.not_lt_zero i), fun c _ => hz0 c⟩ (fun s2 hJ => ?_)
        · obtain ⟨k1, k2, k3⟩ := hJ
          have hx2 : ((S.map fun i => ((i : Nat) : Int)).zip y)[d2.length]? = some x2 := by rw [e3]; simp
          obtain ⟨g1, g2⟩ := List.getElem?_zip_eq_some.mp hx2
          rw [List.getElem?_map] at g1
          obtain ⟨c, hc, ec⟩ := Option.map_eq_some_iff.mp g1
          have hcS := List.mem_of_getElem? hc
          rw [eS] at hcS
          have hcn := (selN_mem.mp hcS).1
          have ey : gx y d2.length = x2.2 := by unfold gx; rw [List.getD_eq_getElem?_getD, g2]; rfl
          unfold m__law_due_b1
          simp only [W.wp_bind, W.wp_pure]
          rw [← ec]
          refine le_setI (by omega) ⟨by rw [List.length_set, k1], fun i hi c' hc' => ?_, fun c' hc' => ?_⟩
          · rw [gx_set]
            by_cases q : i = d2.length
            · rw [q, hc] at hc'
              rw [← Option.some.inj hc', if_pos ⟨rfl, by omega⟩, q, ey]
            · have hne : c ≠ c' := fun z => q ((List.getElem?_inj (i := i) (j := d2.length) (List.getElem?_eq_some_iff.mp hc').1 hSnd).mp (by rw [hc', hc, z]))
              rw [if_neg fun z => hne z.1]
              exact k2 i (by rw [List.length_append, List.length_singleton] at hi; omega) c' hc'
          · rw [gx_set, if_neg fun z => hc' (by rw [← z.1, eS]; exact hcS)]
            exact k3 c' hc'
        · obtain ⟨k1, k2, k3⟩ := hJ
          rw [hzz] at k2
          have hcut : cutR S s2 = y := by
            refine row_ext (by unfold cutR; rw [List.length_map, hyl]) fun i => ?_
            by_cases hi : i < S.length
            · obtain ⟨c, hc⟩ : ∃ c, S[i]? = some c := ⟨_, List.getElem?_eq_getElem hi⟩
              unfold cutR
              rw [cutR_gx hc]; exact k2 i hi c hc
            · rw [gx_out (by unfold cutR; rw [List.length_map]; omega), gx_out (by omega)]
          have h0 : ∀ c < n, M.testBit c = false → gx s2 c = 0 := fun c _ q => k3 c fun w => by
            rw [eS] at w
            have := (selN_mem.mp w).2
            rw [q] at this; cases this
          subst eS
          obtain ⟨hlone, hpos⟩ := full_lone (n := n) (p := M.testBit) (R := R) (x := s2) hk k1 h0 (by rw [hcut]; exact hyg) (by rw [hcut]; exact hyF)
          have hm : maskN s2 = M := (hmask s2 k1).mpr fun c hc => ⟨hpos c hc, fun h => by
            cases q : M.testBit c with
            | true => rfl
            | false => rw [h0 c hc q] at h; exact absurd h (by decide)⟩
          unfold m__law_due_j2
          simp only [W.wp_bind, W.wp_pure, W.wp_req]
          have hns : s2 ∉ s := fun w => hxd (by have := ((i3 s2).mp w).2; rw [hm] at this; exact this)
          refine ⟨by omega, ?_, by rw [List.length_append, List.length_append]; simp; omega, fun z => ?_⟩
          · exact List.nodup_append.mpr ⟨i1, by simp, fun a ha b hb q => hns (by rw [← List.mem_singleton.mp hb, ← q]; exact ha)⟩
          · rw [List.mem_append, List.mem_singleton, List.mem_append, List.mem_singleton, i3 z]
            constructor
            · rintro (⟨w1, w2⟩ | w)
              · exact ⟨w1, .inl w2⟩
              · rw [w]; exact ⟨hlone, .inr (by rw [hm])⟩
            · rintro ⟨w1, w2 | w2⟩
              · exact .inl ⟨w1, w2⟩
              · right
                have hmz : maskN z = M := by omega
                have hz := (hmask z w1.len).mp hmz
                refine w1.eq hlone fun c hc => ?_
                have hcn : c < n := Classical.byContradiction fun w => hc (gx_out (by omega))
                have : M.testBit c = true := by
                  cases q : M.testBit c with
                  | true => rfl
                  | false => exact absurd (h0 c hcn q) hc
                have := (hz c hcn).mp this
                omega
      · simp only [W.wp_ite, W.wp_bind, W.wp_pure, Option.isSome_none, Bool.false_eq_true, if_false]
        refine ⟨i1, by rw [List.length_append]; omega, fun z => ?_⟩
        rw [i3 z, List.mem_append, List.mem_singleton]
        constructor
        · rintro ⟨w1, w2⟩; exact ⟨w1, .inl w2⟩
        · rintro ⟨w1, w2 | w2⟩
          · exact ⟨w1, w2⟩
          · have hmz : maskN z = M := by omega
            have := lone_full (p := M.testBit) w1 ((hmask z w1.len).mp hmz)
            rw [← eS] at this
            exact absurd this (hno _)
  · obtain ⟨i1, _, i3⟩ := hI
    unfold m__law_due_j4
    simp only [W.wp_bind, W.wp_pure]
    refine hp s ⟨i1, fun x => (i3 x).trans ⟨fun h => h.1, fun h => ⟨h, mem_rng.mpr ⟨?_, ?_⟩⟩⟩⟩
    · have : maskN x ≠ 0 := fun z => by
        obtain ⟨j, hj⟩ := h.ln.nz
        have h1 := maskN_bit x j
        rw [z, Nat.zero_testBit] at h1
        have := h.ln.nn j
        rw [decide_eq_true (show 0 < gx x j by omega)] at h1
        cases h1
      omega
    · have : maskN x < 2 ^ n := Nat.lt_pow_two_of_testBit _ fun j hj => by
        rw [maskN_bit, gx_out (by rw [h.len]; exact hj)]; rfl
      omega
theorem le_free {c w : Int} {m : Nat} (hm : m ≤ 100) (hw : 1 ≤ w) (hw2 : w ≤ 1000000000) {P : Row → Prop} {E : Exn → Prop} (hp : ∀ r : Row, r.length = m → SzR 31 r → P r) : (m__law_free (c, (m : Int), w, ())).wp P E := by
  unfold m__law_free
  simp only [W.wp_bind, W.wp_pure, W.wp_req]
  refine le_bag fun l hl => ⟨hl, le_range (by omega) (by omega) ?_⟩
  refine W.compM_all (Q := fun z : Int => Sz 31 z) _ (fun y _ => le_number hw ((show Sz 40 w by unfold Sz; omega).le (by decide)) fun o o1 o2 => by unfold Sz; omega) _ _ fun one hol hos => ?_
  exact hp one (by rw [hol, rng_length]; omega) (SzR.of hos)
theorem k_end {m b : Nat} {rows : List Row} {t : Nat} (hm1 : 1 ≤ m) (hm : m ≤ 5) (hrl : rows.length ≤ 4) (hl : ∀ r ∈ rows, r.length = m) (hs : ∀ r ∈ rows, SzR b r) (hb2 : 2 * bK b + b + 10 ≤ 8000) (hb : b ≤ 80) (h5 : m = 5 → b ≤ 53) (ht : t < m) {P : List Row → W Bool} (hP : P = fun rows => (((pure rows) >>= fun u56 => (pure (t : Int)) >>= fun u57 => m__law_turned (u56, u57, ())) >>= fun v_some_58 => (((((pure v_some_58) >>= fun xs => W.noX (compM (fun v_x_59 => pure true) (fun v_x_59 => (pure v_x_59)) xs)) >>= fun u60 => (pure (m : Int)) >>= fun u61 => m_lone (u60, u61, ())) >>= fun u64 => ((pure v_some_58) >>= fun u62 => (pure (m : Int)) >>= fun u63 => m__law_due (u62, u63, ())) >>= fun u65 => pure (decide (u64 = u65))) >>= fun u66 => pure u66))) : (P rows).wp (· = true) (fun _ => False) := by
  rw [hP]
  simp only [W.wp_bind, W.wp_pure]
  refine le_turned hl (by omega) ?_
  obtain ⟨R, eR⟩ : ∃ R, R = rows.map (rot t) := ⟨_, rfl⟩
  rw [← eR]
  have hRl : ∀ r ∈ R, r.length = m := fun r hr => by
    rw [eR] at hr
    obtain ⟨q, hq, rfl⟩ := List.mem_map.mp hr
    rw [rot_len]; exact hl q hq
  have hRs : ∀ r ∈ R, SzR b r := fun r hr => by
    rw [eR] at hr
    obtain ⟨q, hq, rfl⟩ := List.mem_map.mp hr
    exact rot_sz (hs q hq)
  have hRn : R.length ≤ 4 := by rw [eR, List.length_map]; exact hrl
  refine W.compM_map (fb := fun x : Row => x) R (fun x _ P E hp => hp) _ _ ?_
  rw [List.map_id']
  refine le_lone (by omega) hRl hRs hb2 fun L0 hL0 _ => ?_
  have e1 : sS b 1 = b + 1 := by show 1 * 0 + b + 0 + 1 = _; omega
  have e2 : sS b 2 = 2 * (b + 1) + b + 1 + 1 := by show 2 * sS b 1 + b + 1 + 1 = _; rw [e1]
  have e3 : sS b 3 = 3 * (2 * (b + 1) + b + 1 + 1) + b + 2 + 1 := by show 3 * sS b 2 + b + 2 + 1 = _; rw [e2]
  have e4 : sS b 4 = 4 * (3 * (2 * (b + 1) + b + 1 + 1) + b + 2 + 1) + b + 3 + 1 := by show 4 * sS b 3 + b + 3 + 1 = _; rw [e3]
  refine le_ldue (b := b) (by omega) (by omega) hRl hRs (fun k h1 h2 => ?_) (fun k h1 h2 => ?_) fun L hL => ?_
  · have := sS_mono b (show k + 1 ≤ 4 by omega)
    omega
  · have : k = 0 ∨ k = 1 ∨ k = 2 ∨ k = 3 ∨ k = 4 := by omega
    rcases this with q | q | q | q | q
    · subst q; show 0 * 0 + 1 ≤ _; decide
    · subst q; rw [e1]; omega
    · subst q; rw [e2]; omega
    · subst q; rw [e3]; omega
    · subst q; rw [e4]; have := h5 (by omega); omega
  · rw [sort_eq hL hL0]
    simp
theorem k_law : ∀ ns : List Int, ns.length ≤ 63 → (∀ z ∈ ns, BitsOk z) → (m_law (ns, ())).wp (· = true) (fun _ => False) := by
  intro ns hlen hbits
  unfold m_law
  simp only [W.wp_bind, W.wp_pure, wp_modI, wp_divI, W.wp_ite, W.wp_req, wp_mulI]
  refine le_cell (by decide) ⟨by decide, ?_⟩
  have h5 := fmod_bd (a := cellAt ns 0) (n := 5) (by decide)
  obtain ⟨m, em⟩ : ∃ m : Nat, 1 + (cellAt ns 0).fmod 5 = (m : Int) := ⟨(1 + (cellAt ns 0).fmod 5).toNat, by omega⟩
  rw [em]
  have hm1 : 1 ≤ m := by omega
  have hm5 : m ≤ 5 := by omega
  have hcl : (cut ns (some 3) (some 7)).length ≤ 4 := by
    have e : cut ns (some 3) (some 7) = (ns.drop (min 3 ns.length)).take (min 7 ns.length - min 3 ns.length) := rfl
    rw [e, List.length_take]
    omega
  refine le_cell (by decide) ⟨Nat.le_trans (show _ ≤ 1000 by simp; omega) (by decide), le_cell (by decide) (le_bag fun l hl => ⟨hl, ?_⟩)⟩
  refine le_fit hm1 (by omega) fun fit hfit => ?_
  refine le_draw (by decide) ((show Sz 10 (2 : Int) by unfold Sz; decide).le (by decide)) fun q2 q2a q2b => ?_
  obtain ⟨c5, hc5⟩ : ∃ c5 : Int, c5 = if decide ((m : Int) < 5) = true then (1 : Int) else 0 := ⟨_, rfl⟩
  have hc5b : c5 = 0 ∨ c5 = 1 := by rw [hc5]; split <;> simp
  have hc50 : m = 5 → c5 = 0 := fun e => by rw [hc5, if_neg (by simp; omega)]
  rw [← hc5]
  have hq2 : q2 = 0 ∨ q2 = 1 := by omega
  have hpick : ∀ i : Int, (i = 0 ∨ i = 1) → ∃ (w : Int) (c0 : Nat), [(4 : Int), 1000000000][i.toNat]? = some w ∧ 1 ≤ w ∧ w ≤ 1000000000 ∧ 4 ≤ c0 ∧ c0 ≤ 31 ∧ (i = 0 → c0 = 4) ∧ ∀ o : Int, -9 < o → o < w + 4 → Sz c0 o := fun i hi => by
    rcases hi with q | q
    · rw [q]; exact ⟨4, 4, rfl, by decide, by decide, by decide, by decide, fun _ => rfl, fun o o1 o2 => by unfold Sz; omega⟩
    · rw [q]; exact ⟨_, 31, rfl, by decide, by decide, by decide, by decide, fun h => (by cases h), fun o o1 o2 => by unfold Sz; omega⟩
  have hprod : c5 * q2 = 0 ∨ c5 * q2 = 1 := by rcases hc5b with q | q <;> rcases hq2 with p | p <;> rw [q, p] <;> decide
  have hprod0 : m = 5 → c5 * q2 = 0 := fun e => by rw [hc50 e]; simp
  refine ⟨(show Sz 2 c5 by unfold Sz; omega).cmul (show Sz 2 q2 by unfold Sz; omega) (by decide), ?_⟩
  obtain ⟨w, c0, w1, w2, w3, c1, c2, c3, c4⟩ := hpick _ hprod
  refine idx_of (by omega) w1 ?_
  refine le_closedC c1 c2 c4 (by simp) (by simp; omega) hfit hm1 (by omega) (by omega) w2 w3 fun rows hrl hr => ?_
  have fin : ∀ (rows : List Row) (b : Nat), rows.length ≤ 4 → (∀ r ∈ rows, r.length = m) → (∀ r ∈ rows, SzR b r) → b ≤ 80 → (m = 5 → b ≤ 53) → 2 * bK b + b + 10 ≤ 8000 → (m_law_j1 (m : Int) rows).wp (· = true) (fun _ => False) := fun rows b h1 h2 h3 h4 h5 h6 => by
    unfold m_law_j1
    simp only [W.wp_bind, W.wp_pure]
    refine le_draw (by omega) ((show Sz 10 (m : Int) by unfold Sz; omega).le (by decide)) fun t t1 t2 => ?_
    obtain ⟨tn, rfl⟩ : ∃ tn : Nat, t = (tn : Int) := ⟨t.toNat, by omega⟩
    have := k_end (t := tn) hm1 hm5 h1 h2 h3 h6 h4 h5 (by omega) rfl
    simp only [W.wp_bind, W.wp_pure] at this
    exact this
  refine le_draw (by decide) ((show Sz 10 (3 : Int) by unfold Sz; decide).le (by decide)) fun q3 _ _ => ?_
  by_cases h3 : q3 = 2
  · rw [if_pos (by simp [h3])]
    refine W.compM_all (Q := fun r : Row => r.length = m ∧ SzR 31 r) _ (fun c _ => ?_) _ _ fun rows2 hl2 hr2 => ?_
    · exact le_free (by omega) (by decide) (by decide) fun r r1 r2 => ⟨r1, r2⟩
    · exact fin rows2 31 (by omega) (fun r h => (hr2 r h).1) (fun r h => (hr2 r h).2) (by decide) (fun _ => by decide) (by unfold bK; decide)
  · rw [if_neg (by simp [h3])]
    refine fin rows (c0 + 49) (by omega) (fun r h => (hr r h).1) (fun r h => (hr r h).2.1) (by omega) (fun e => by have := c3 (hprod0 e); omega) ?_
    unfold bK
    omega
end Y

namespace Y
open PySem PySem.Spec L2
theorem all_mk {l : PySem.W.OpenLaw} {w : World} {K : PySem.W.Frag} {h : Heap} {mg : Str → Option Value} {fa f0 f1 f2 f3 f4 f5 f6 f7 f8 f9 f10 f11 f12 f13 f14 f15 f16 f17 f18 f19 f20 f21 f22 : Addr} (X : K.In h) (G : h.Ns mainGlobals mg) (hfa : mg "law" = some (.ref fa))
    {od0 od1 od2 od3 od4 od5 od6 od7 od8 od9 od10 od11 od12 od13 od14 od15 od16 od17 od18 od19 od20 od21 od22 an0 an1 an2 an3 an4 an5 an6 an7 an8 an9 an10 an11 an12 an13 an14 an15 an16 an17 an18 an19 an20 an21 an22 : Option Addr} {sl0 sl1 sl2 sl3 sl4 sl5 sl6 sl7 sl8 sl9 sl10 sl11 sl12 sl13 sl14 sl15 sl16 sl17 sl18 sl19 sl20 sl21 sl22 : Array (Option Value)} {oc0 oc1 oc2 oc3 oc4 oc5 oc6 oc7 oc8 oc9 oc10 oc11 oc12 oc13 oc14 oc15 oc16 oc17 oc18 oc19 oc20 oc21 oc22 kV0 kV1 kV2 kV3 kV4 kV5 kV6 kV7 kV8 kV9 kV10 kV11 kV12 kV13 kV14 kV15 kV16 kV17 kV18 kV19 kV20 kV21 kV22 dc0 dc1 dc2 dc3 dc4 dc5 dc6 dc7 dc8 dc9 dc10 dc11 dc12 dc13 dc14 dc15 dc16 dc17 dc18 dc19 dc20 dc21 dc22 pm0 pm1 pm2 pm3 pm4 pm5 pm6 pm7 pm8 pm9 pm10 pm11 pm12 pm13 pm14 pm15 pm16 pm17 pm18 pm19 pm20 pm21 pm22 cd0 cd1 cd2 cd3 cd4 cd5 cd6 cd7 cd8 cd9 cd10 cd11 cd12 cd13 cd14 cd15 cd16 cd17 cd18 cd19 cd20 cd21 cd22 ct0 ct1 ct2 ct3 ct4 ct5 ct6 ct7 ct8 ct9 ct10 ct11 ct12 ct13 ct14 ct15 ct16 ct17 ct18 ct19 ct20 ct21 ct22 : Value}
    (a0 : PySem.W.nsIn K mainGlobals "measure" = some (some (.ref f0))) (l0 : K.lookup f0 = some ⟨oc0, od0, .func (PySem.W.fnOf "measure" "measure" (defArgs (top 1)) (defBody (top 1)) (defScope (top 1)) .none kV0 dc0 pm0 an0 cd0 ct0), sl0⟩) (c0 : PySem.W.codeIn K cd0 "measure" = true) (k0 : PySem.W.keepIn K (.ref f0) = true)
    (a1 : PySem.W.nsIn K mainGlobals "lowest" = some (some (.ref f1))) (l1 : K.lookup f1 = some ⟨oc1, od1, .func (PySem.W.fnOf "lowest" "lowest" (defArgs (top 2)) (defBody (top 2)) (defScope (top 2)) .none kV1 dc1 pm1 an1 cd1 ct1), sl1⟩) (c1 : PySem.W.codeIn K cd1 "lowest" = true) (k1 : PySem.W.keepIn K (.ref f1) = true)
    (a2 : PySem.W.nsIn K mainGlobals "unit" = some (some (.ref f2))) (l2 : K.lookup f2 = some ⟨oc2, od2, .func (PySem.W.fnOf "unit" "unit" (defArgs (top 4)) (defBody (top 4)) (defScope (top 4)) .none kV2 dc2 pm2 an2 cd2 ct2), sl2⟩) (c2 : PySem.W.codeIn K cd2 "unit" = true) (k2 : PySem.W.keepIn K (.ref f2) = true)
    (a3 : PySem.W.nsIn K mainGlobals "product" = some (some (.ref f3))) (l3 : K.lookup f3 = some ⟨oc3, od3, .func (PySem.W.fnOf "product" "product" (defArgs (top 6)) (defBody (top 6)) (defScope (top 6)) .none kV3 dc3 pm3 an3 cd3 ct3), sl3⟩) (c3 : PySem.W.codeIn K cd3 "product" = true) (k3 : PySem.W.keepIn K (.ref f3) = true)
    (a4 : PySem.W.nsIn K mainGlobals "mask_of" = some (some (.ref f4))) (l4 : K.lookup f4 = some ⟨oc4, od4, .func (PySem.W.fnOf "mask_of" "mask_of" (defArgs (top 7)) (defBody (top 7)) (defScope (top 7)) .none kV4 dc4 pm4 an4 cd4 ct4), sl4⟩) (c4 : PySem.W.codeIn K cd4 "mask_of" = true) (k4 : PySem.W.keepIn K (.ref f4) = true)
    (a5 : PySem.W.nsIn K mainGlobals "stand_apart" = some (some (.ref f5))) (l5 : K.lookup f5 = some ⟨oc5, od5, .func (PySem.W.fnOf "stand_apart" "stand_apart" (defArgs (top 8)) (defBody (top 8)) (defScope (top 8)) .none kV5 dc5 pm5 an5 cd5 ct5), sl5⟩) (c5 : PySem.W.codeIn K cd5 "stand_apart" = true) (k5 : PySem.W.keepIn K (.ref f5) = true)
    (a6 : PySem.W.nsIn K mainGlobals "mixed" = some (some (.ref f6))) (l6 : K.lookup f6 = some ⟨oc6, od6, .func (PySem.W.fnOf "mixed" "mixed" (defArgs (top 9)) (defBody (top 9)) (defScope (top 9)) .none kV6 dc6 pm6 an6 cd6 ct6), sl6⟩) (c6 : PySem.W.codeIn K cd6 "mixed" = true) (k6 : PySem.W.keepIn K (.ref f6) = true)
    (a7 : PySem.W.nsIn K mainGlobals "narrowed" = some (some (.ref f7))) (l7 : K.lookup f7 = some ⟨oc7, od7, .func (PySem.W.fnOf "narrowed" "narrowed" (defArgs (top 10)) (defBody (top 10)) (defScope (top 10)) .none kV7 dc7 pm7 an7 cd7 ct7), sl7⟩) (c7 : PySem.W.codeIn K cd7 "narrowed" = true) (k7 : PySem.W.keepIn K (.ref f7) = true)
    (a8 : PySem.W.nsIn K mainGlobals "lone" = some (some (.ref f8))) (l8 : K.lookup f8 = some ⟨oc8, od8, .func (PySem.W.fnOf "lone" "lone" (defArgs (top 11)) (defBody (top 11)) (defScope (top 11)) .none kV8 dc8 pm8 an8 cd8 ct8), sl8⟩) (c8 : PySem.W.codeIn K cd8 "lone" = true) (k8 : PySem.W.keepIn K (.ref f8) = true)
    (a9 : PySem.W.nsIn K mainGlobals "_law_cell" = some (some (.ref f9))) (l9 : K.lookup f9 = some ⟨oc9, od9, .func (PySem.W.fnOf "_law_cell" "_law_cell" (defArgs (top 13)) (defBody (top 13)) (defScope (top 13)) .none kV9 dc9 pm9 an9 cd9 ct9), sl9⟩) (c9 : PySem.W.codeIn K cd9 "_law_cell" = true) (k9 : PySem.W.keepIn K (.ref f9) = true)
    (a10 : PySem.W.nsIn K mainGlobals "_law_bag" = some (some (.ref f10))) (l10 : K.lookup f10 = some ⟨oc10, od10, .func (PySem.W.fnOf "_law_bag" "_law_bag" (defArgs (top 14)) (defBody (top 14)) (defScope (top 14)) .none kV10 dc10 pm10 an10 cd10 ct10), sl10⟩) (c10 : PySem.W.codeIn K cd10 "_law_bag" = true) (k10 : PySem.W.keepIn K (.ref f10) = true)
    (a11 : PySem.W.nsIn K mainGlobals "_law_draw" = some (some (.ref f11))) (l11 : K.lookup f11 = some ⟨oc11, od11, .func (PySem.W.fnOf "_law_draw" "_law_draw" (defArgs (top 15)) (defBody (top 15)) (defScope (top 15)) .none kV11 dc11 pm11 an11 cd11 ct11), sl11⟩) (c11 : PySem.W.codeIn K cd11 "_law_draw" = true) (k11 : PySem.W.keepIn K (.ref f11) = true)
    (a12 : PySem.W.nsIn K mainGlobals "_law_number" = some (some (.ref f12))) (l12 : K.lookup f12 = some ⟨oc12, od12, .func (PySem.W.fnOf "_law_number" "_law_number" (defArgs (top 16)) (defBody (top 16)) (defScope (top 16)) .none kV12 dc12 pm12 an12 cd12 ct12), sl12⟩) (c12 : PySem.W.codeIn K cd12 "_law_number" = true) (k12 : PySem.W.keepIn K (.ref f12) = true)
    (a13 : PySem.W.nsIn K mainGlobals "_law_free" = some (some (.ref f13))) (l13 : K.lookup f13 = some ⟨oc13, od13, .func (PySem.W.fnOf "_law_free" "_law_free" (defArgs (top 17)) (defBody (top 17)) (defScope (top 17)) .none kV13 dc13 pm13 an13 cd13 ct13), sl13⟩) (c13 : PySem.W.codeIn K cd13 "_law_free" = true) (k13 : PySem.W.keepIn K (.ref f13) = true)
    (a14 : PySem.W.nsIn K mainGlobals "_law_fit" = some (some (.ref f14))) (l14 : K.lookup f14 = some ⟨oc14, od14, .func (PySem.W.fnOf "_law_fit" "_law_fit" (defArgs (top 18)) (defBody (top 18)) (defScope (top 18)) .none kV14 dc14 pm14 an14 cd14 ct14), sl14⟩) (c14 : PySem.W.codeIn K cd14 "_law_fit" = true) (k14 : PySem.W.keepIn K (.ref f14) = true)
    (a15 : PySem.W.nsIn K mainGlobals "_law_closed" = some (some (.ref f15))) (l15 : K.lookup f15 = some ⟨oc15, od15, .func (PySem.W.fnOf "_law_closed" "_law_closed" (defArgs (top 19)) (defBody (top 19)) (defScope (top 19)) .none kV15 dc15 pm15 an15 cd15 ct15), sl15⟩) (c15 : PySem.W.codeIn K cd15 "_law_closed" = true) (k15 : PySem.W.keepIn K (.ref f15) = true)
    (a16 : PySem.W.nsIn K mainGlobals "_law_turned" = some (some (.ref f16))) (l16 : K.lookup f16 = some ⟨oc16, od16, .func (PySem.W.fnOf "_law_turned" "_law_turned" (defArgs (top 20)) (defBody (top 20)) (defScope (top 20)) .none kV16 dc16 pm16 an16 cd16 ct16), sl16⟩) (c16 : PySem.W.codeIn K cd16 "_law_turned" = true) (k16 : PySem.W.keepIn K (.ref f16) = true)
    (a17 : PySem.W.nsIn K mainGlobals "_law_measure" = some (some (.ref f17))) (l17 : K.lookup f17 = some ⟨oc17, od17, .func (PySem.W.fnOf "_law_measure" "_law_measure" (defArgs (top 21)) (defBody (top 21)) (defScope (top 21)) .none kV17 dc17 pm17 an17 cd17 ct17), sl17⟩) (c17 : PySem.W.codeIn K cd17 "_law_measure" = true) (k17 : PySem.W.keepIn K (.ref f17) = true)
    (a18 : PySem.W.nsIn K mainGlobals "_law_less" = some (some (.ref f18))) (l18 : K.lookup f18 = some ⟨oc18, od18, .func (PySem.W.fnOf "_law_less" "_law_less" (defArgs (top 22)) (defBody (top 22)) (defScope (top 22)) .none kV18 dc18 pm18 an18 cd18 ct18), sl18⟩) (c18 : PySem.W.codeIn K cd18 "_law_less" = true) (k18 : PySem.W.keepIn K (.ref f18) = true)
    (a19 : PySem.W.nsIn K mainGlobals "_law_steps" = some (some (.ref f19))) (l19 : K.lookup f19 = some ⟨oc19, od19, .func (PySem.W.fnOf "_law_steps" "_law_steps" (defArgs (top 23)) (defBody (top 23)) (defScope (top 23)) .none kV19 dc19 pm19 an19 cd19 ct19), sl19⟩) (c19 : PySem.W.codeIn K cd19 "_law_steps" = true) (k19 : PySem.W.keepIn K (.ref f19) = true)
    (a20 : PySem.W.nsIn K mainGlobals "_law_only" = some (some (.ref f20))) (l20 : K.lookup f20 = some ⟨oc20, od20, .func (PySem.W.fnOf "_law_only" "_law_only" (defArgs (top 24)) (defBody (top 24)) (defScope (top 24)) .none kV20 dc20 pm20 an20 cd20 ct20), sl20⟩) (c20 : PySem.W.codeIn K cd20 "_law_only" = true) (k20 : PySem.W.keepIn K (.ref f20) = true)
    (a21 : PySem.W.nsIn K mainGlobals "_law_due" = some (some (.ref f21))) (l21 : K.lookup f21 = some ⟨oc21, od21, .func (PySem.W.fnOf "_law_due" "_law_due" (defArgs (top 25)) (defBody (top 25)) (defScope (top 25)) .none kV21 dc21 pm21 an21 cd21 ct21), sl21⟩) (c21 : PySem.W.codeIn K cd21 "_law_due" = true) (k21 : PySem.W.keepIn K (.ref f21) = true)
    (a22 : PySem.W.nsIn K mainGlobals "law" = some (some (.ref f22))) (l22 : K.lookup f22 = some ⟨oc22, od22, .func (PySem.W.fnOf "law" "law" (defArgs (top 26)) (defBody (top 26)) (defScope (top 26)) .none kV22 dc22 pm22 an22 cd22 ct22), sl22⟩) (c22 : PySem.W.codeIn K cd22 "law" = true) (k22 : PySem.W.keepIn K (.ref f22) = true)
    (z_abs : PySem.W.nsIn K mainGlobals "abs" = some none)
    (z_list : PySem.W.nsIn K mainGlobals "list" = some none)
    (z_range : PySem.W.nsIn K mainGlobals "range" = some none)
    (z_zip : PySem.W.nsIn K mainGlobals "zip" = some none)
    (z_sum : PySem.W.nsIn K mainGlobals "sum" = some none)
    (z_enumerate : PySem.W.nsIn K mainGlobals "enumerate" = some none)
    (z_sorted : PySem.W.nsIn K mainGlobals "sorted" = some none)
    (z_len : PySem.W.nsIn K mainGlobals "len" = some none)
    (z_max : PySem.W.nsIn K mainGlobals "max" = some none)
    (z_min : PySem.W.nsIn K mainGlobals "min" = some none)
    (z_int : PySem.W.nsIn K mainGlobals "int" = some none)
    : ∃ fd : FuncData, (∀ (s : Shared) (v : Value), BindsTo s fd ⟨[v], []⟩ [("_law_script", v)]) ∧ ∀ base : Heap, K.In base → base.Ns mainGlobals mg → FnOk l.prog w K mg base (L2.CX l.prog w) 6 fa fd ["_law_script"] (spV ⟨l.prog, w, K, mg, base⟩ (fun _ t => [rL K rI t.1]) (fun _ => rB) m_law) := by
  have e := hfa.symm.trans (PySem.W.mg_of X G a22)
  cases e
  refine ⟨PySem.W.fnOf "law" "law" (defArgs (top 26)) (defBody (top 26)) (defScope (top 26)) .none kV22 dc22 pm22 an22 cd22 ct22, fun s v => .of_eq rfl, fun base _ _ => ?_⟩
  have b_abs : (⟨l.prog, w, K, mg, base⟩ : Mc).mg "abs" = none := PySem.W.mg_none_of X G z_abs
  have b_list : (⟨l.prog, w, K, mg, base⟩ : Mc).mg "list" = none := PySem.W.mg_none_of X G z_list
  have b_range : (⟨l.prog, w, K, mg, base⟩ : Mc).mg "range" = none := PySem.W.mg_none_of X G z_range
  have b_zip : (⟨l.prog, w, K, mg, base⟩ : Mc).mg "zip" = none := PySem.W.mg_none_of X G z_zip
  have b_sum : (⟨l.prog, w, K, mg, base⟩ : Mc).mg "sum" = none := PySem.W.mg_none_of X G z_sum
  have b_enumerate : (⟨l.prog, w, K, mg, base⟩ : Mc).mg "enumerate" = none := PySem.W.mg_none_of X G z_enumerate
  have b_sorted : (⟨l.prog, w, K, mg, base⟩ : Mc).mg "sorted" = none := PySem.W.mg_none_of X G z_sorted
  have b_len : (⟨l.prog, w, K, mg, base⟩ : Mc).mg "len" = none := PySem.W.mg_none_of X G z_len
  have b_max : (⟨l.prog, w, K, mg, base⟩ : Mc).mg "max" = none := PySem.W.mg_none_of X G z_max
  have b_min : (⟨l.prog, w, K, mg, base⟩ : Mc).mg "min" = none := PySem.W.mg_none_of X G z_min
  have b_int : (⟨l.prog, w, K, mg, base⟩ : Mc).mg "int" = none := PySem.W.mg_none_of X G z_int
  have h_measure := w_measure (M := ⟨l.prog, w, K, mg, base⟩) b_abs (FAt.m X G ⟨a0, ⟨_, _, _, _, _, _, _, _, _, l0, c0⟩, k0⟩ fun _ _ _ _ _ _ us hl => match us, hl with | [_], _ => rfl)
  have h_lowest := w_lowest (M := ⟨l.prog, w, K, mg, base⟩) b_list h_measure (FAt.m X G ⟨a1, ⟨_, _, _, _, _, _, _, _, _, l1, c1⟩, k1⟩ fun _ _ _ _ _ _ us hl => match us, hl with | [_], _ => rfl)
  have h_unit := w_unit (M := ⟨l.prog, w, K, mg, base⟩) b_range (FAt.m X G ⟨a2, ⟨_, _, _, _, _, _, _, _, _, l2, c2⟩, k2⟩ fun _ _ _ _ _ _ us hl => match us, hl with | [_, _], _ => rfl)
  have h_product := w_product (M := ⟨l.prog, w, K, mg, base⟩) b_zip b_sum (FAt.m X G ⟨a3, ⟨_, _, _, _, _, _, _, _, _, l3, c3⟩, k3⟩ fun _ _ _ _ _ _ us hl => match us, hl with | [_, _], _ => rfl)
  have h_mask_of := w_mask_of (M := ⟨l.prog, w, K, mg, base⟩) b_enumerate (FAt.m X G ⟨a4, ⟨_, _, _, _, _, _, _, _, _, l4, c4⟩, k4⟩ fun _ _ _ _ _ _ us hl => match us, hl with | [_], _ => rfl)
  have h_stand_apart := w_stand_apart (M := ⟨l.prog, w, K, mg, base⟩)  (FAt.m X G ⟨a5, ⟨_, _, _, _, _, _, _, _, _, l5, c5⟩, k5⟩ fun _ _ _ _ _ _ us hl => match us, hl with | [_, _, _], _ => rfl)
  have h_mixed := w_mixed (M := ⟨l.prog, w, K, mg, base⟩) b_zip h_lowest (FAt.m X G ⟨a6, ⟨_, _, _, _, _, _, _, _, _, l6, c6⟩, k6⟩ fun _ _ _ _ _ _ us hl => match us, hl with | [_, _, _, _], _ => rfl)
  have h_narrowed := w_narrowed (M := ⟨l.prog, w, K, mg, base⟩) b_zip h_mask_of h_product h_stand_apart h_mixed (FAt.m X G ⟨a7, ⟨_, _, _, _, _, _, _, _, _, l7, c7⟩, k7⟩ fun _ _ _ _ _ _ us hl => match us, hl with | [_, _], _ => rfl)
  have h_lone := w_lone (M := ⟨l.prog, w, K, mg, base⟩) b_range b_sorted h_unit h_narrowed (FAt.m X G ⟨a8, ⟨_, _, _, _, _, _, _, _, _, l8, c8⟩, k8⟩ fun _ _ _ _ _ _ us hl => match us, hl with | [_, _], _ => rfl)
  have h__law_cell := w__law_cell (M := ⟨l.prog, w, K, mg, base⟩) b_len (FAt.m X G ⟨a9, ⟨_, _, _, _, _, _, _, _, _, l9, c9⟩, k9⟩ fun _ _ _ _ _ _ us hl => match us, hl with | [_, _], _ => rfl)
  have h__law_bag := w__law_bag (M := ⟨l.prog, w, K, mg, base⟩)  (FAt.m X G ⟨a10, ⟨_, _, _, _, _, _, _, _, _, l10, c10⟩, k10⟩ fun _ _ _ _ _ _ us hl => match us, hl with | [_], _ => rfl)
  have h__law_draw := w__law_draw (M := ⟨l.prog, w, K, mg, base⟩)  (FAt.m X G ⟨a11, ⟨_, _, _, _, _, _, _, _, _, l11, c11⟩, k11⟩ fun _ _ _ _ _ _ us hl => match us, hl with | [_, _], _ => rfl)
  have h__law_number := w__law_number (M := ⟨l.prog, w, K, mg, base⟩) h__law_draw (FAt.m X G ⟨a12, ⟨_, _, _, _, _, _, _, _, _, l12, c12⟩, k12⟩ fun _ _ _ _ _ _ us hl => match us, hl with | [_, _], _ => rfl)
  have h__law_free := w__law_free (M := ⟨l.prog, w, K, mg, base⟩) b_range h__law_bag h__law_number (FAt.m X G ⟨a13, ⟨_, _, _, _, _, _, _, _, _, l13, c13⟩, k13⟩ fun _ _ _ _ _ _ us hl => match us, hl with | [_, _, _], _ => rfl)
  have h__law_fit := w__law_fit (M := ⟨l.prog, w, K, mg, base⟩) b_range h__law_draw (FAt.m X G ⟨a14, ⟨_, _, _, _, _, _, _, _, _, l14, c14⟩, k14⟩ fun _ _ _ _ _ _ us hl => match us, hl with | [_, _], _ => rfl)
  have h__law_closed := w__law_closed (M := ⟨l.prog, w, K, mg, base⟩) b_range b_len b_sum h__law_bag h__law_number h__law_draw (FAt.m X G ⟨a15, ⟨_, _, _, _, _, _, _, _, _, l15, c15⟩, k15⟩ fun _ _ _ _ _ _ us hl => match us, hl with | [_, _, _, _], _ => rfl)
  have h__law_turned := w__law_turned (M := ⟨l.prog, w, K, mg, base⟩)  (FAt.m X G ⟨a16, ⟨_, _, _, _, _, _, _, _, _, l16, c16⟩, k16⟩ fun _ _ _ _ _ _ us hl => match us, hl with | [_, _], _ => rfl)
  have h__law_measure := w__law_measure (M := ⟨l.prog, w, K, mg, base⟩) b_abs (FAt.m X G ⟨a17, ⟨_, _, _, _, _, _, _, _, _, l17, c17⟩, k17⟩ fun _ _ _ _ _ _ us hl => match us, hl with | [_], _ => rfl)
  have h__law_less := w__law_less (M := ⟨l.prog, w, K, mg, base⟩) b_zip b_max h__law_measure (FAt.m X G ⟨a18, ⟨_, _, _, _, _, _, _, _, _, l18, c18⟩, k18⟩ fun _ _ _ _ _ _ us hl => match us, hl with | [_, _, _], _ => rfl)
  have h__law_steps := w__law_steps (M := ⟨l.prog, w, K, mg, base⟩) b_list b_range b_len h__law_less (FAt.m X G ⟨a19, ⟨_, _, _, _, _, _, _, _, _, l19, c19⟩, k19⟩ fun _ _ _ _ _ _ us hl => match us, hl with | [_, _], _ => rfl)
  have h__law_only := w__law_only (M := ⟨l.prog, w, K, mg, base⟩) b_len b_range b_abs b_min h__law_steps h__law_measure (FAt.m X G ⟨a20, ⟨_, _, _, _, _, _, _, _, _, l20, c20⟩, k20⟩ fun _ _ _ _ _ _ us hl => match us, hl with | [_, _], _ => rfl)
  have h__law_due := w__law_due (M := ⟨l.prog, w, K, mg, base⟩) b_range b_zip b_sorted h__law_only (FAt.m X G ⟨a21, ⟨_, _, _, _, _, _, _, _, _, l21, c21⟩, k21⟩ fun _ _ _ _ _ _ us hl => match us, hl with | [_, _], _ => rfl)
  exact w_law (M := ⟨l.prog, w, K, mg, base⟩) b_len b_int b_list h__law_cell h__law_bag h__law_closed h__law_fit h__law_draw h__law_free h__law_turned h_lone h__law_due (fun_mk l22 c22 k22)
theorem walkE {l : PySem.W.OpenLaw} {q : Program} {loose : List Str} {XP : (Str → Option Value) → Heap → Prop} {YP : World → Heap → Prop} {d : DefRec} {K : Params → PySem.W.Frag} (hn : l.most = some 63) (hdf : d.params.defaults = [])
    (hY : ∀ (w : World) (h : Heap), YP w h → (K w.params).In h)
    (F : ∀ (w : World) (mg : Str → Option Value) (fa : Addr) (h : Heap), (K w.params).In h → h.Ns mainGlobals mg → mg d.name = some (.ref fa) →
      ∃ fd : FuncData, (∀ (s : Shared) (u : Value), BindsTo s fd ⟨[u], []⟩ [("_law_script", u)]) ∧ ∀ base : Heap, (K w.params).In base → base.Ns mainGlobals mg → FnOk l.prog w (K w.params) mg base (L2.CX l.prog w) 6 fa fd ["_law_script"] (spV ⟨l.prog, w, K w.params, mg, base⟩ (fun _ t => [rL (K w.params) rI t.1]) (fun _ => rB) m_law)) :
    PySem.W.WalkO q loose XP YP l.row.toRowW d [] (fun f vs => PySem.call f vs) :=
  walk_law (k := 6) (fd := fun _ => default) hn hdf ⟨rfl, by decide, by decide⟩ hY F k_law
end Y
open PySem PySem.W PyProof.Rows in
set_option maxRecDepth 100000 in
set_option maxHeartbeats 0 in
theorem PySem.Challenge.cw_modeyard_k20_whole_all_lone_lists_holds : PySem.Challenge.rw_modeyard_k20_whole_all_lone_lists.Holds := by
  w_on; o_law; k_head; (case hw => w_witness2)
  k_fill
  refine Y.walkE (l := PySem.Challenge.rw_modeyard_k20_whole_all_lone_lists) rfl rfl (fun w h Y => PySem.W.kIn_of Y) ?F
  case F =>
    intro w mg fa h KX G hmg
    refine' Y.all_mk KX G hmg ?a0 ?l0 ?c0 ?k0 ?a1 ?l1 ?c1 ?k1 ?a2 ?l2 ?c2 ?k2 ?a3 ?l3 ?c3 ?k3 ?a4 ?l4 ?c4 ?k4 ?a5 ?l5 ?c5 ?k5 ?a6 ?l6 ?c6 ?k6 ?a7 ?l7 ?c7 ?k7 ?a8 ?l8 ?c8 ?k8 ?a9 ?l9 ?c9 ?k9 ?a10 ?l10 ?c10 ?k10 ?a11 ?l11 ?c11 ?k11 ?a12 ?l12 ?c12 ?k12 ?a13 ?l13 ?c13 ?k13 ?a14 ?l14 ?c14 ?k14 ?a15 ?l15 ?c15 ?k15 ?a16 ?l16 ?c16 ?k16 ?a17 ?l17 ?c17 ?k17 ?a18 ?l18 ?c18 ?k18 ?a19 ?l19 ?c19 ?k19 ?a20 ?l20 ?c20 ?k20 ?a21 ?l21 ?c21 ?k21 ?a22 ?l22 ?c22 ?k22 ?z_abs ?z_list ?z_range ?z_zip ?z_sum ?z_enumerate ?z_sorted ?z_len ?z_max ?z_min ?z_int
    (case a0 => k_is)
    (case l0 => k_is)
    (case c0 => k_is)
    (case k0 => k_is)
    (case a1 => k_is)
    (case l1 => k_is)
    (case c1 => k_is)
    (case k1 => k_is)
    (case a2 => k_is)
    (case l2 => k_is)
    (case c2 => k_is)
    (case k2 => k_is)
    (case a3 => k_is)
    (case l3 => k_is)
    (case c3 => k_is)
    (case k3 => k_is)
    (case a4 => k_is)
    (case l4 => k_is)
    (case c4 => k_is)
    (case k4 => k_is)
    (case a5 => k_is)
    (case l5 => k_is)
    (case c5 => k_is)
    (case k5 => k_is)
    (case a6 => k_is)
    (case l6 => k_is)
    (case c6 => k_is)
    (case k6 => k_is)
    (case a7 => k_is)
    (case l7 => k_is)
    (case c7 => k_is)
    (case k7 => k_is)
    (case a8 => k_is)
    (case l8 => k_is)
    (case c8 => k_is)
    (case k8 => k_is)
    (case a9 => k_is)
    (case l9 => k_is)
    (case c9 => k_is)
    (case k9 => k_is)
    (case a10 => k_is)
    (case l10 => k_is)
    (case c10 => k_is)
    (case k10 => k_is)
    (case a11 => k_is)
    (case l11 => k_is)
    (case c11 => k_is)
    (case k11 => k_is)
    (case a12 => k_is)
    (case l12 => k_is)
    (case c12 => k_is)
    (case k12 => k_is)
    (case a13 => k_is)
    (case l13 => k_is)
    (case c13 => k_is)
    (case k13 => k_is)
    (case a14 => k_is)
    (case l14 => k_is)
    (case c14 => k_is)
    (case k14 => k_is)
    (case a15 => k_is)
    (case l15 => k_is)
    (case c15 => k_is)
    (case k15 => k_is)
    (case a16 => k_is)
    (case l16 => k_is)
    (case c16 => k_is)
    (case k16 => k_is)
    (case a17 => k_is)
    (case l17 => k_is)
    (case c17 => k_is)
    (case k17 => k_is)
    (case a18 => k_is)
    (case l18 => k_is)
    (case c18 => k_is)
    (case k18 => k_is)
    (case a19 => k_is)
    (case l19 => k_is)
    (case c19 => k_is)
    (case k19 => k_is)
    (case a20 => k_is)
    (case l20 => k_is)
    (case c20 => k_is)
    (case k20 => k_is)
    (case a21 => k_is)
    (case l21 => k_is)
    (case c21 => k_is)
    (case k21 => k_is)
    (case a22 => k_is)
    (case l22 => k_is)
    (case c22 => k_is)
    (case k22 => k_is)
    (case z_abs => k_is)
    (case z_list => k_is)
    (case z_range => k_is)
    (case z_zip => k_is)
    (case z_sum => k_is)
    (case z_enumerate => k_is)
    (case z_sorted => k_is)
    (case z_len => k_is)
    (case z_max => k_is)
    (case z_min => k_is)
    (case z_int => k_is)

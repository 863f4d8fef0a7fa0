import PyProof.Rows.All
import Wide.All
import OpenK.AllK
import Wide.FinOn
import Lean
import PySem.Challenge.RW_pf0238_01
open PySem PySem.W PyProof.Rows PySem.Calls PySem.Spec
set_option Elab.async false
set_option maxRecDepth 100000
set_option maxHeartbeats 0
set_option linter.all false
set_option compiler.extract_closed false
namespace Mine
theorem exE1 {a : Type} {p : a → Prop} {G : Prop} (h : ∃ x, p x) (k : ∀ x, p x → G) : G := h.elim k
theorem exE2 {a0 a1 : Type} {p : a0 → a1 → Prop} {G : Prop} (h : ∃ x0 x1, p x0 x1) (k : ∀ x0 x1, p x0 x1 → G) : G := h.elim fun x h => h.elim (k x)
theorem exI2 {a0 a1 : Type} {p : a0 → a1 → Prop} {x0 x1} (h : p x0 x1) : ∃ x0 x1, p x0 x1 := ⟨x0, x1, h⟩
theorem anE2 {a0 a1 G : Prop} (h : a0 ∧ a1) (k : a0 → a1 → G) : G := k h.1 h.2
theorem exE3 {a0 a1 a2 : Type} {p : a0 → a1 → a2 → Prop} {G : Prop} (h : ∃ x0 x1 x2, p x0 x1 x2) (k : ∀ x0 x1 x2, p x0 x1 x2 → G) : G := h.elim fun x h => exE2 h (k x)
theorem exI3 {a0 a1 a2 : Type} {p : a0 → a1 → a2 → Prop} {x0 x1 x2} (h : p x0 x1 x2) : ∃ x0 x1 x2, p x0 x1 x2 := ⟨x0, exI2 h⟩
theorem anE3 {a0 a1 a2 G : Prop} (h : a0 ∧ a1 ∧ a2) (k : a0 → a1 → a2 → G) : G := anE2 h.2 (k h.1)
theorem exE4 {a0 a1 a2 a3 : Type} {p : a0 → a1 → a2 → a3 → Prop} {G : Prop} (h : ∃ x0 x1 x2 x3, p x0 x1 x2 x3) (k : ∀ x0 x1 x2 x3, p x0 x1 x2 x3 → G) : G := h.elim fun x h => exE3 h (k x)
theorem exI4 {a0 a1 a2 a3 : Type} {p : a0 → a1 → a2 → a3 → Prop} {x0 x1 x2 x3} (h : p x0 x1 x2 x3) : ∃ x0 x1 x2 x3, p x0 x1 x2 x3 := ⟨x0, exI3 h⟩
theorem anE4 {a0 a1 a2 a3 G : Prop} (h : a0 ∧ a1 ∧ a2 ∧ a3) (k : a0 → a1 → a2 → a3 → G) : G := anE3 h.2 (k h.1)
theorem exE5 {a0 a1 a2 a3 a4 : Type} {p : a0 → a1 → a2 → a3 → a4 → Prop} {G : Prop} (h : ∃ x0 x1 x2 x3 x4, p x0 x1 x2 x3 x4) (k : ∀ x0 x1 x2 x3 x4, p x0 x1 x2 x3 x4 → G) : G := h.elim fun x h => exE4 h (k x)
theorem exI5 {a0 a1 a2 a3 a4 : Type} {p : a0 → a1 → a2 → a3 → a4 → Prop} {x0 x1 x2 x3 x4} (h : p x0 x1 x2 x3 x4) : ∃ x0 x1 x2 x3 x4, p x0 x1 x2 x3 x4 := ⟨x0, exI4 h⟩
theorem anE5 {a0 a1 a2 a3 a4 G : Prop} (h : a0 ∧ a1 ∧ a2 ∧ a3 ∧ a4) (k : a0 → a1 → a2 → a3 → a4 → G) : G := anE4 h.2 (k h.1)
theorem exE6 {a0 a1 a2 a3 a4 a5 : Type} {p : a0 → a1 → a2 → a3 → a4 → a5 → Prop} {G : Prop} (h : ∃ x0 x1 x2 x3 x4 x5, p x0 x1 x2 x3 x4 x5) (k : ∀ x0 x1 x2 x3 x4 x5, p x0 x1 x2 x3 x4 x5 → G) : G := h.elim fun x h => exE5 h (k x)
theorem exI6 {a0 a1 a2 a3 a4 a5 : Type} {p : a0 → a1 → a2 → a3 → a4 → a5 → Prop} {x0 x1 x2 x3 x4 x5} (h : p x0 x1 x2 x3 x4 x5) : ∃ x0 x1 x2 x3 x4 x5, p x0 x1 x2 x3 x4 x5 := ⟨x0, exI5 h⟩
theorem anE6 {a0 a1 a2 a3 a4 a5 G : Prop} (h : a0 ∧ a1 ∧ a2 ∧ a3 ∧ a4 ∧ a5) (k : a0 → a1 → a2 → a3 → a4 → a5 → G) : G := anE5 h.2 (k h.1)
theorem exE7 {a0 a1 a2 a3 a4 a5 a6 : Type} {p : a0 → a1 → a2 → a3 → a4 → a5 → a6 → Prop} {G : Prop} (h : ∃ x0 x1 x2 x3 x4 x5 x6, p x0 x1 x2 x3 x4 x5 x6) (k : ∀ x0 x1 x2 x3 x4 x5 x6, p x0 x1 x2 x3 x4 x5 x6 → G) : G := h.elim fun x h => exE6 h (k x)
theorem exI7 {a0 a1 a2 a3 a4 a5 a6 : Type} {p : a0 → a1 → a2 → a3 → a4 → a5 → a6 → Prop} {x0 x1 x2 x3 x4 x5 x6} (h : p x0 x1 x2 x3 x4 x5 x6) : ∃ x0 x1 x2 x3 x4 x5 x6, p x0 x1 x2 x3 x4 x5 x6 := ⟨x0, exI6 h⟩
theorem anE7 {a0 a1 a2 a3 a4 a5 a6 G : Prop} (h : a0 ∧ a1 ∧ a2 ∧ a3 ∧ a4 ∧ a5 ∧ a6) (k : a0 → a1 → a2 → a3 → a4 → a5 → a6 → G) : G := anE6 h.2 (k h.1)
theorem exE8 {a0 a1 a2 a3 a4 a5 a6 a7 : Type} {p : a0 → a1 → a2 → a3 → a4 → a5 → a6 → a7 → Prop} {G : Prop} (h : ∃ x0 x1 x2 x3 x4 x5 x6 x7, p x0 x1 x2 x3 x4 x5 x6 x7) (k : ∀ x0 x1 x2 x3 x4 x5 x6 x7, p x0 x1 x2 x3 x4 x5 x6 x7 → G) : G := h.elim fun x h => exE7 h (k x)
theorem exI8 {a0 a1 a2 a3 a4 a5 a6 a7 : Type} {p : a0 → a1 → a2 → a3 → a4 → a5 → a6 → a7 → Prop} {x0 x1 x2 x3 x4 x5 x6 x7} (h : p x0 x1 x2 x3 x4 x5 x6 x7) : ∃ x0 x1 x2 x3 x4 x5 x6 x7, p x0 x1 x2 x3 x4 x5 x6 x7 := ⟨x0, exI7 h⟩
theorem anE8 {a0 a1 a2 a3 a4 a5 a6 a7 G : Prop} (h : a0 ∧ a1 ∧ a2 ∧ a3 ∧ a4 ∧ a5 ∧ a6 ∧ a7) (k : a0 → a1 → a2 → a3 → a4 → a5 → a6 → a7 → G) : G := anE7 h.2 (k h.1)
theorem exE9 {a0 a1 a2 a3 a4 a5 a6 a7 a8 : Type} {p : a0 → a1 → a2 → a3 → a4 → a5 → a6 → a7 → a8 → Prop} {G : Prop} (h : ∃ x0 x1 x2 x3 x4 x5 x6 x7 x8, p x0 x1 x2 x3 x4 x5 x6 x7 x8) (k : ∀ x0 x1 x2 x3 x4 x5 x6 x7 x8, p x0 x1 x2 x3 x4 x5 x6 x7 x8 → G) : G := h.elim fun x h => exE8 h (k x)
theorem exI9 {a0 a1 a2 a3 a4 a5 a6 a7 a8 : Type} {p : a0 → a1 → a2 → a3 → a4 → a5 → a6 → a7 → a8 → Prop} {x0 x1 x2 x3 x4 x5 x6 x7 x8} (h : p x0 x1 x2 x3 x4 x5 x6 x7 x8) : ∃ x0 x1 x2 x3 x4 x5 x6 x7 x8, p x0 x1 x2 x3 x4 x5 x6 x7 x8 := ⟨x0, exI8 h⟩
theorem anE9 {a0 a1 a2 a3 a4 a5 a6 a7 a8 G : Prop} (h : a0 ∧ a1 ∧ a2 ∧ a3 ∧ a4 ∧ a5 ∧ a6 ∧ a7 ∧ a8) (k : a0 → a1 → a2 → a3 → a4 → a5 → a6 → a7 → a8 → G) : G := anE8 h.2 (k h.1)
theorem exE10 {a0 a1 a2 a3 a4 a5 a6 a7 a8 a9 : Type} {p : a0 → a1 → a2 → a3 → a4 → a5 → a6 → a7 → a8 → a9 → Prop} {G : Prop} (h : ∃ x0 x1 x2 x3 x4 x5 x6 x7 x8 x9, p x0 x1 x2 x3 x4 x5 x6 x7 x8 x9) (k : ∀ x0 x1 x2 x3 x4 x5 x6 x7 x8 x9, p x0 x1 x2 x3 x4 x5 x6 x7 x8 x9 → G) : G := h.elim fun x h => exE9 h (k x)
theorem exI10 {a0 a1 a2 a3 a4 a5 a6 a7 a8 a9 : Type} {p : a0 → a1 → a2 → a3 → a4 → a5 → a6 → a7 → a8 → a9 → Prop} {x0 x1 x2 x3 x4 x5 x6 x7 x8 x9} (h : p x0 x1 x2 x3 x4 x5 x6 x7 x8 x9) : ∃ x0 x1 x2 x3 x4 x5 x6 x7 x8 x9, p x0 x1 x2 x3 x4 x5 x6 x7 x8 x9 := ⟨x0, exI9 h⟩
theorem anE10 {a0 a1 a2 a3 a4 a5 a6 a7 a8 a9 G : Prop} (h : a0 ∧ a1 ∧ a2 ∧ a3 ∧ a4 ∧ a5 ∧ a6 ∧ a7 ∧ a8 ∧ a9) (k : a0 → a1 → a2 → a3 → a4 → a5 → a6 → a7 → a8 → a9 → G) : G := anE9 h.2 (k h.1)
theorem exE11 {a0 a1 a2 a3 a4 a5 a6 a7 a8 a9 a10 : Type} {p : a0 → a1 → a2 → a3 → a4 → a5 → a6 → a7 → a8 → a9 → a10 → Prop} {G : Prop} (h : ∃ x0 x1 x2 x3 x4 x5 x6 x7 x8 x9 x10, p x0 x1 x2 x3 x4 x5 x6 x7 x8 x9 x10) (k : ∀ x0 x1 x2 x3 x4 x5 x6 x7 x8 x9 x10, p x0 x1 x2 x3 x4 x5 x6 x7 x8 x9 x10 → G) : G := h.elim fun x h => exE10 h (k x)
theorem exI11 {a0 a1 a2 a3 a4 a5 a6 a7 a8 a9 a10 : Type} {p : a0 → a1 → a2 → a3 → a4 → a5 → a6 → a7 → a8 → a9 → a10 → Prop} {x0 x1 x2 x3 x4 x5 x6 x7 x8 x9 x10} (h : p x0 x1 x2 x3 x4 x5 x6 x7 x8 x9 x10) : ∃ x0 x1 x2 x3 x4 x5 x6 x7 x8 x9 x10, p x0 x1 x2 x3 x4 x5 x6 x7 x8 x9 x10 := ⟨x0, exI10 h⟩
theorem anE11 {a0 a1 a2 a3 a4 a5 a6 a7 a8 a9 a10 G : Prop} (h : a0 ∧ a1 ∧ a2 ∧ a3 ∧ a4 ∧ a5 ∧ a6 ∧ a7 ∧ a8 ∧ a9 ∧ a10) (k : a0 → a1 → a2 → a3 → a4 → a5 → a6 → a7 → a8 → a9 → a10 → G) : G := anE10 h.2 (k h.1)
theorem exE12 {a0 a1 a2 a3 a4 a5 a6 a7 a8 a9 a10 a11 : Type} {p : a0 → a1 → a2 → a3 → a4 → a5 → a6 → a7 → a8 → a9 → a10 → a11 → Prop} {G : Prop} (h : ∃ x0 x1 x2 x3 x4 x5 x6 x7 x8 x9 x10 x11, p x0 x1 x2 x3 x4 x5 x6 x7 x8 x9 x10 x11) (k : ∀ x0 x1 x2 x3 x4 x5 x6 x7 x8 x9 x10 x11, p x0 x1 x2 x3 x4 x5 x6 x7 x8 x9 x10 x11 → G) : G := h.elim fun x h => exE11 h (k x)
theorem exI12 {a0 a1 a2 a3 a4 a5 a6 a7 a8 a9 a10 a11 : Type} {p : a0 → a1 → a2 → a3 → a4 → a5 → a6 → a7 → a8 → a9 → a10 → a11 → Prop} {x0 x1 x2 x3 x4 x5 x6 x7 x8 x9 x10 x11} (h : p x0 x1 x2 x3 x4 x5 x6 x7 x8 x9 x10 x11) : ∃ x0 x1 x2 x3 x4 x5 x6 x7 x8 x9 x10 x11, p x0 x1 x2 x3 x4 x5 x6 x7 x8 x9 x10 x11 := ⟨x0, exI11 h⟩
theorem anE12 {a0 a1 a2 a3 a4 a5 a6 a7 a8 a9 a10 a11 G : Prop} (h : a0 ∧ a1 ∧ a2 ∧ a3 ∧ a4 ∧ a5 ∧ a6 ∧ a7 ∧ a8 ∧ a9 ∧ a10 ∧ a11) (k : a0 → a1 → a2 → a3 → a4 → a5 → a6 → a7 → a8 → a9 → a10 → a11 → G) : G := anE11 h.2 (k h.1)
theorem exE13 {a0 a1 a2 a3 a4 a5 a6 a7 a8 a9 a10 a11 a12 : Type} {p : a0 → a1 → a2 → a3 → a4 → a5 → a6 → a7 → a8 → a9 → a10 → a11 → a12 → Prop} {G : Prop} (h : ∃ x0 x1 x2 x3 x4 x5 x6 x7 x8 x9 x10 x11 x12, p x0 x1 x2 x3 x4 x5 x6 x7 x8 x9 x10 x11 x12) (k : ∀ x0 x1 x2 x3 x4 x5 x6 x7 x8 x9 x10 x11 x12, p x0 x1 x2 x3 x4 x5 x6 x7 x8 x9 x10 x11 x12 → G) : G := h.elim fun x h => exE12 h (k x)
theorem exI13 {a0 a1 a2 a3 a4 a5 a6 a7 a8 a9 a10 a11 a12 : Type} {p : a0 → a1 → a2 → a3 → a4 → a5 → a6 → a7 → a8 → a9 → a10 → a11 → a12 → Prop} {x0 x1 x2 x3 x4 x5 x6 x7 x8 x9 x10 x11 x12} (h : p x0 x1 x2 x3 x4 x5 x6 x7 x8 x9 x10 x11 x12) : ∃ x0 x1 x2 x3 x4 x5 x6 x7 x8 x9 x10 x11 x12, p x0 x1 x2 x3 x4 x5 x6 x7 x8 x9 x10 x11 x12 := ⟨x0, exI12 h⟩
/-- does a stack hold a code that keeps the bytearray -/
def exS (self : Value) (st : List (Code × Pos)) : Bool := match Builtin.Bytes.exported self with
  | .stack k => (match k st with | .pure b => b | _ => true)
  | _ => true
theorem exS_nil (self : Value) : exS self [] = false := rfl
/-- a code that keeps none -/
def NC (c : Code) : Prop := ∀ self p st, exS self ((c, p) :: st) = exS self st
theorem nc_call {f : Value} {a : Args} : NC (.call f a) := fun _ _ _ => rfl
theorem nc_func {b : List Stmt} {env : Env} : NC (.func b env) := fun _ _ _ => rfl
theorem nc_for {t : Expr} {it : Value} {b o : List Stmt} {env : Env} : NC (.forLoop t it b o env) := fun _ _ _ => rfl
theorem nc_block {b : List Stmt} {env : Env} : NC (.block b env) := fun _ _ _ => rfl
theorem nc_caller : NC (.builtin "claim.caller" {}) := fun _ _ _ => rfl
theorem nc_of {id : String} {a : List Value} (h : ∀ self p st, exS self ((.builtin id ⟨[], []⟩, p) :: st) = exS self st) (h' : ∀ self p st v r, exS self ((.builtin id ⟨v :: r, []⟩, p) :: st) = ((Builtin.Bytes.sameRef v self && false) || exS self st)) : NC (.builtin id ⟨a, []⟩) := fun self p st => by
  cases a with
  | nil => exact h self p st
  | cons v r => rw [h', Bool.and_false, Bool.false_or]
/-- no code of the stack keeps a bytearray -/
def GBel (l : List (Code × Pos)) : Prop := ∀ self, exS self l = false
theorem GBel.cons {c : Code} {p : Pos} {l : List (Code × Pos)} (h : GBel l) (hc : NC c) : GBel ((c, p) :: l) := fun self => (hc self p l).trans (h self)
/-- as wpAny, below no code that keeps a bytearray -/
def wpN {α : Type} (M : Model) (A : Around) (t : Sem α) (Q : α → Shared → Prop) (E : Value → Shared → Prop) (s : Shared) : Prop :=
  ∀ Γ p, Γ.In A → GBel Γ.below → NC Γ.code → Sem.wp M Γ t (fun a _ s' => Q a s') (fun e _ s' => E e s') p s
def codeN (M : Model) (A : Around) (c : Code) (R : Result → Shared → Prop) (s : Shared) : Prop :=
  ∀ Γ p, Γ.code = c → Γ.Below A → GBel Γ.below → wpCode M Γ R p s
section
variable {α β : Type} {M : Model} {A : Around} {E : Value → Shared → Prop} {s : Shared}
theorem wpN.of {t : Sem α} {Q : α → Shared → Prop} (h : wpAny M A t Q E s) : wpN M A t Q E s := fun Γ p hΓ _ _ => h Γ p hΓ
theorem wpN.mono {t : Sem α} {Q Q' : α → Shared → Prop} {E' : Value → Shared → Prop} (h : wpN M A t Q E s) (hQ : ∀ a s, Q a s → Q' a s) (hE : ∀ e s, E e s → E' e s) : wpN M A t Q' E' s :=
  fun Γ p hΓ g n => Sem.wp_mono M Γ t (fun a _ s => hQ a s) (fun e _ s => hE e s) p s (h Γ p hΓ g n)
theorem wpN.bind {m : Sem α} {f : α → Sem β} {Q : β → Shared → Prop} (h : wpN M A m (fun a s' => wpN M A (f a) Q E s') E s) : wpN M A (m >>= f) Q E s := fun Γ p hΓ g n => by
  rw [Sem.wp_bind']
  exact Sem.wp_mono M Γ m (fun a p' s' h' => h' Γ p' hΓ g n) (fun _ _ _ h' => h') p s (h Γ p hΓ g n)
theorem wpN.pure {a : α} {Q : α → Shared → Prop} (h : Q a s) : wpN M A (pure a) Q E s := wpN.of (wpAny_pure h)
theorem wpN.standAt {pos : Pos} {Q : Unit → Shared → Prop} (h : Q () s) : wpN M A (standAt pos) Q E s := wpN.of (wpAny_standAt h)
theorem wpN.onRaise {m : Sem α} {k : Value → Sem Unit} {Q : α → Shared → Prop} (h : wpN M A m Q (fun e s' => wpAny M A (k e) (fun _ s'' => E e s'') E s') s) : wpN M A (m.onRaise k) Q E s := fun Γ p hΓ g n => by
  rw [Sem.wp_onRaise]
  exact Sem.wp_mono M Γ m (fun _ _ _ h' => h') (fun e p' s' h' => h' Γ p' hΓ) p s (h Γ p hΓ g n)
theorem wpN.holding {vs : List Value} {m : Sem α} {Q : α → Shared → Prop} (h : wpN M A m Q E s) : wpN M A (holding vs m) Q E s := fun Γ p hΓ g n => by rw [Sem.wp_holding]; exact h Γ p hΓ g n
theorem codeN.mono {c : Code} {R R' : Result → Shared → Prop} (h : codeN M A c R s) (hR : ∀ r s, R r s → R' r s) : codeN M A c R' s := fun Γ p hc hΓ g => wpCode_mono hR (h Γ p hc hΓ g)
theorem wpN.run {c : Code} {Q : Flow → Shared → Prop} (hc : codeN M (A.mark none) c (fun r s' => match r with | .ok f => Q f s' | .error e => E e s') s) : wpN M A (run c none) Q E s :=
  fun Γ p hΓ g n => by rw [Sem.wp_run]; exact hc _ p rfl (hΓ.enter c none p (by intro x; cases x)) (g.cons n)
theorem wpN.runValue {c : Code} {Q : Value → Shared → Prop} (hc : codeN M A c (fun r s' => match r with | .ok (.ret v) => Q v s' | .ok _ => False | .error e => E e s') s) : wpN M A (runValue c) Q E s :=
  fun Γ p hΓ g n => by rw [Sem.wp_runValue]; exact hc _ p rfl (hΓ.enter c none p (by intro x; cases x)) (g.cons n)
theorem wpN.call {f : Value} {pos : List Value} {kw : List (Str × Value)} {Q : Value → Shared → Prop}
    (hc : codeN M A (.call f ⟨pos, kw⟩) (fun r s' => match r with | .ok (.ret v) => Q v s' | .ok _ => False | .error e => E e s') s) : wpN M A (call f pos kw) Q E s := wpN.runValue hc
theorem codeN.of_tree {c : Code} {R : Result → Shared → Prop} (nc : NC c)
    (h : wpN M (A.under c) (M.den c) (fun fin s' => match fin with | .done f => R (.ok f) s' | .again c' => c'.quiet = true ∧ codeN M A c' R s') (fun e s' => R (.error e) s') s) : codeN M A c R s := fun Γ p hc hΓ g => by
  rw [wpCode_iff_wp, hc]
  refine Sem.wp_mono M Γ _ (fun fin p' s' h' => ?_) (fun _ _ _ h' => h') p s (h Γ p (hc ▸ hΓ.in) g (hc ▸ nc))
  cases fin with
  | done f => exact h'
  | again c' => exact ⟨h'.1, h'.2 (Γ.goto c') p' rfl (hΓ.goto c') g⟩
/-- no code keeps the bytearray -/
theorem wpN.exported {self : Value} {Q : Bool → Shared → Prop} (h : Q false s) : wpN M A (Builtin.Bytes.exported self) Q E s := fun Γ p hΓ g n => by
  have e : exS self ((Γ.code, p) :: Γ.below) = false := (n self p _).trans (g self)
  show Q (exS self ((Γ.code, p) :: Γ.below)) s
  rw [e]
  exact h
end

theorem ends_N {prog : Program} {w : World} {t : Sem PySem.Fin} {s : Shared} {R : Result → Shared → Prop} (hreg : s.asleep)
    (h : wpN (model prog w) callerA t (fun fin s' => ∃ f, fin = .done f ∧ (R (.ok f) s' ∧ leftWithCleanup s'.gens = false)) (fun e s' => R (.error e) s' ∧ leftWithCleanup s'.gens = false) s) :
    ∃ n r s' s'', runN (denote table) prog w n s ⟨t, .builtin "claim.caller" {}, default, []⟩ = .halted (outcomeOf r) s' ∧
      schedN (denote table) prog w n (.single s ⟨t, .builtin "claim.caller" {}, default, []⟩) = .halted (outcomeOf r) s' ∧ s'.forget = s''.forget ∧ R r s'' := by
  have hw := h ⟨.builtin "claim.caller" {}, none, none, [], none⟩ default caller_in exS_nil nc_caller
  have hw := wp_halts_full (M := model prog w) (R := R) hreg (Sem.wp_mono _ _ _ (fun fin p' s' h' => by
    exact exE1 h' fun f h' => anE2 h' fun e hf => e ▸ hf) (fun _ _ _ h' => h') default s hw)
  refine exE4 hw fun n r s₁ s₂ hz1 => ?_
  clear hw
  refine anE4 hz1 fun hs hn hfo hR => ?_
  clear hz1
  exact exI4 ⟨hn, hs, hfo, hR⟩
/-- the end that the judge asks of a call, from the caller's tree -/
theorem from_N {c : ClaimW} {tree : List Value → Sem PySem.Fin} {w : World} {s : Shared} {free : Addr → Prop} {gens : Prop} {kept : Heap → Prop} (hz : s.asleep) (hgens : s.gens = #[])
    (hspec : ∀ args, c.pre args = true → WData.layableAll args = true → ∀ ord : List DictEntry → List DictEntry, (∀ l, (ord l).Perm l) →
      ∃ vs s₁, layAllW c.records (classAt s.heap) w.params ord args s = some (vs, s₁) ∧
        wpN (model c.prog w) callerA (tree vs) (fun fin s' => ∃ f, fin = .done f ∧ (c.Ends s args vs s₁ (.ok f) s' ∧ s'.os = s.os ∧ AllBare s'.gens ∧ kept s'.heap))
          (fun e s' => c.Ends s args vs s₁ (.error e) s' ∧ s'.os = s.os ∧ AllBare s'.gens ∧ kept s'.heap) s₁) :
    c.CallFrom (fun vs => ⟨tree vs, .builtin "claim.caller" {}, default, []⟩) w free gens kept s := by
  intro args hpre hlay ord hord
  have hsp := hspec args hpre hlay ord hord
  refine exE2 hsp fun vs s₁ hz2 => ?_
  clear hsp
  refine anE2 hz2 fun hlaid hcode => ?_
  clear hz2
  have hal := layAllW_rest _ _ _ hlaid
  have hen := ends_N (prog := c.prog) (w := w) (t := tree vs) (s := s₁) (R := fun r s' => c.Ends s args vs s₁ r s' ∧ s'.os = s.os ∧ kept s'.heap)
    (Shared.asleep_of_life hal.2.2.2 hz)
    (wpN.mono hcode (fun fin s' h => exE1 h fun f h => anE5 h fun e h1 h2 h3 h4 => ⟨f, e, ⟨h1, h2, h4⟩, leftWithCleanup_false_of_bare h3⟩) fun e s' h => anE4 h fun h1 h2 h3 h4 => ⟨⟨h1, h2, h4⟩, leftWithCleanup_false_of_bare h3⟩)
  refine exE4 hen fun k r s' s'' hz3 => ?_
  clear hen
  refine anE6 hz3 fun hrun hsched hfo hcase hos hkp => ?_
  clear hz3
  have eh := (Shared.forget_eq hfo).1
  have eo := (Shared.forget_eq hfo).2.2.2.1
  have hcase := hcase.congr eh
  rw [← eh] at hkp
  rw [← eo] at hos
  have hlife : s'.heap.life = s.heap.life := (runN_life _ _ _ hrun).trans hal.2.2.2
  refine ⟨vs, s₁, hlaid, k, _, s', hsched, ?_, (fun _ i x hx => by rw [hgens] at hx; simp at hx), hkp, by rw [hlife], Shared.rest_eq hos⟩
  refine hcase.elim (fun hc => .inl ?_) (fun hc => .inr ?_)
  · exact exE1 hc fun v hc => anE6 hc fun e d1 d2 d3 d4 d5 => ⟨v, by rw [e]; rfl, d1, d2, d3, fun b o y _ => d4 b o y, d5⟩
  · exact exE3 hc fun e ob cls hc => anE6 hc fun e1 d1 d2 d3 d4 d5 => ⟨e, ob, cls, by rw [e1]; rfl, d1, d2, d3, d4, fun b o y _ => d5 b o y⟩
/-- what the walk of a row's def owes, where a bytearray may be met -/
abbrev OwesN (q : Program) (loose : List Str) (XP : (Str → Option Value) → Heap → Prop) (YP : World → Heap → Prop) (r : RowW) (d : DefRec) (kwd : List (Str × Expr)) : Prop :=
  ∀ (w : World) (s₀ s₁ : Shared) (mg mb : Str → Option Value), Ground q loose r.records XP w s₀ mg mb s₁.heap → YP w s₁.heap → ∀ (a : Addr) (o : Obj) (pm cd doc dV kV : Value), s₁.heap.get? a = some o →
    o.data = .func { docDef d.name d.params d.body d.scope pm cd doc with defaults := dV, kwdefaults := kV } → s₁.heap.CodeRec cd d.name → Dflts mg s₁.heap d.params kwd dV kV → mg d.name = some (.ref a) → s₁.gens = #[] →
    ∀ (args : List WData) (vals : List Value) (as : List Addr), r.claim.pre args = true → WData.layableAll args = true → ReadsAllW r.records (classAt s₀.heap) s₁.heap vals args as → WellAll w.params s₁.heap vals args → (∀ a ∈ as, (a == sysModules) = false) →
      wpN (model r.prog w) callerA (PySem.call (.ref a) vals) (fun v s' => GoodWG r.claim (classAt s₀.heap) (ExcName.means s₀.heap) args s₁ (.ok (.ret v)) s')
        (fun e s' => GoodWG r.claim (classAt s₀.heap) (ExcName.means s₀.heap) args s₁ (.error e) s') s₁
theorem holds_narrow {r : OpenRow} {q : Program} {loose : List Str} {Xt : Shared → Bool} {XP : (Str → Option Value) → Heap → Prop} {α : Type} {Yf : Shared → α} {Ya : World → α} {YP : World → Heap → Prop} {d : DefRec} {kwd : List (Str × Expr)} {N : Nat}
    (left : LeftO r.prog q loose Xt Yf Ya N) (hY : ∀ w s, Yf s = Ya w → YP w s.heap) (hYk : ∀ w h h', YP w h → (∀ b o, h.get? b = some o → h'.get? b = some o) → YP w h')
    (hX : ∀ s, Xt s = true → XP (s.heap.nsMap mainGlobals) s.heap) (hXk : ∀ mg h h', XP mg h → (∀ b o, h.get? b = some o → h'.get? b = some o) → XP mg h')
    (hdef : defOf q r.name = some (d, kwd)) (hp : r.prog.theDef r.name = some (d.params, d.body, d.scope)) (hk : kwWritten? d.params.kwonlyargs d.params.kw_defaults = some kwd) (hRf : ∀ s, Xt s = true → RecFacts r.records s.heap) (hwr : (!r.writes || r.records.isEmpty) = true)
    (k1 : r.wellSaid = true) (ok : (chainsOk q && opensWell r.prog && (frees r.toRowW && r.within.isEmpty)) = true) (hb : r.prog.bare) (hw : r.toRowW.promised)
    (call : OwesN q loose XP YP r.toRowW d kwd) : r.Holds := by
  obtain ⟨ok, k5⟩ := Bool.and_eq_true_iff.mp ok
  obtain ⟨hch, o1⟩ := Bool.and_eq_true_iff.mp ok
  obtain ⟨k5, k6⟩ := Bool.and_eq_true_iff.mp k5
  obtain ⟨hsame, hu, ha, hap, hm⟩ := frees_parts k5
  refine ⟨k1, hw, ⟨hb, o1, by show r.makers.map _ = []; rw [hm]; rfl⟩, RowW.promised.witness hw, fun w => ⟨(left.behind hX hch w).1, fun s' hs' => ?_⟩⟩
  have hbe := (left.behind (XP := fun mg h => XP mg h ∧ RecFacts r.records h) (fun s hs => ⟨hX s hs, hRf s hs⟩) hch w).2 s' hs'
  refine exE1 hbe fun s₀ hz4 => ?_
  clear hbe
  refine anE3 hz4 fun hf hg0 hz5 => ?_
  clear hz4
  refine exE1 hz5 fun s hz6 => ?_
  clear hz5
  refine anE6 hz6 fun hT hz hgens hg G00 y => ?_
  clear hz6
  have G0 : Ground q loose [] XP w s (s.heap.nsMap mainGlobals) (s.heap.nsMap builtinsNs) s.heap := ⟨G00.T, G00.B, G00.D, G00.TE, G00.TD, G00.W, G00.X.1, G00.cls, G00.has, G00.apart, G00.once, G00.K⟩
  have RF := G00.X.2
  have hgens : s.gens = #[] := Array.eq_empty_of_size_eq_zero (beq_iff_eq.mp hgens)
  have G : Ground q loose r.records XP w s _ _ s.heap := RF.ground G0
  refine ⟨s₀, hf, hg0, s, hT, fun n hn => ?_, RF.1, RF.2.1, from_N (c := r.claim) hz hgens fun args hpre hlay ord hord => ?_⟩
  · obtain rfl : n = r.name := by
      have hn' := hn
      revert hn'
      intro hn'
      first
        | (split at hn' <;> simp_all)
        | simpa using hn'
    exact pinned_of_view hg G0 hdef hp hk
  obtain ⟨⟨vs, s₁⟩, hlaid⟩ := Option.isSome_iff_exists.mp (layAllW_isSome (P := w.params) (ord := ord) G.has args r.args s (pre_splitW hpre).1)
  have keeps := layAllW_keeps _ _ _ hlaid
  have hal := layAllW_rest _ _ _ hlaid
  have hrl := reads_layAllW hord _ _ _ hlaid hlay s₁.heap (fun _ _ e => e)
  refine exE1 hrl fun as hz7 => ?_
  clear hrl
  refine anE3 hz7 fun hrd hin hold => ?_
  clear hz7
  have L : Laid r.records w s s₁ args vs as := ⟨⟨ord, hord, hlaid⟩, hrd, hin, hold, keeps, hal.1.trans hgens, hal.2.2.1⟩
  have G₁ := G.keeps hXk keeps
  have hi := ident_freeW hu ha hap
  have hwi : r.claim.within = [] := List.isEmpty_iff.mp k6
  have hfn := G₁.fn hdef
  refine exE7 hfn fun a o pm cd doc dV kV hz8 => ?_
  clear hfn
  refine anE5 hz8 fun h1 h2 h3 h4 h5 => ?_
  clear hz8
  have h := call w s s₁ _ _ G₁ (hYk _ _ _ (hY w s y) keeps) a o pm cd doc dV kV h2 h3 h4 h5 (defOf_name hdef ▸ h1) L.gens args vs as hpre hlay L.reads L.well (L.low G.low)
  have fin : ∀ (r' : Result) (s' : Shared), GoodWG r.claim (classAt s.heap) (ExcName.means s.heap) args s₁ r' s' → _ := fun r' s' g => GoodWG.laid (c := r.claim) hsame hwi hi L g
  refine ⟨vs, s₁, hlaid, ?_⟩
  show wpN _ callerA (do match ← nsGet mainNs r.name with
      | some f => do ret (← PySem.call f vs)
      | none => unsupported "claim.caller:no-such-global") _ _ s₁
  refine wpN.bind (wpN.of (wpAny_nsGet G₁.T.g ?_))
  rw [h1]
  refine wpN.bind (wpN.mono h (fun v s' g => wpN.pure ⟨_, rfl, ?_⟩) fun e s' g => ?_)
  · have z := GoodWG.laid (c := r.claim) hsame hwi hi L g
    exact ⟨z.1, z.2.1, z.2.2, fun q => ⟨namesKept_of hT hg _ keeps g.2.1.old, noTable hwr q⟩⟩
  · have z := GoodWG.laid (c := r.claim) hsame hwi hi L g
    exact ⟨z.1, z.2.1, z.2.2, fun q => ⟨namesKept_of hT hg _ keeps g.2.1.old, noTable hwr q⟩⟩

def vs (s : String) (t : Nat) : Value := .str (Str.ofString s) t
def tu (v : Array Value) : Obj := { cls := .type "tuple", data := .seq v }
def co (v : Array Value) : Obj := { cls := .type "code", data := .fields v }
noncomputable def stA (i : Nat) : Stmt := (PySem.Challenge.pw_pf0238_01.main.body)[i]?.getD (.Pass default)
noncomputable def stC (i j : Nat) : Stmt := match stA i with | .ClassDef _ _ _ b .. => b[j]?.getD (.Pass default) | s => s
noncomputable def fo (s : Stmt) (q : String) (dV kV m c : Value) : Obj := match s with
  | .FunctionDef n ps b _ _ _ sc .. => { cls := .type "function", data := .func { name := n, qualname := Str.ofString q, params := ps, body := .stmts b, scope := sc, globals := 3, closure := [], defaults := dV, kwdefaults := kV, pyModule := m, code := c } }
  | _ => tu #[]
/-- the part of the heap that the walks read (printed by GenK.lean) -/
noncomputable def KH (P : Params) : Frag :=
  (nat_lit 2, { cls := Value.none, data := Data.dict #[{ hash := PyData.keyHash P (Str.ofString "type.__subclasses__.Exception.0"), key := vs "type.__subclasses__.Exception.0" 214, val := Value.int 31 0 }, { hash := PyData.keyHash P (Str.ofString "type.__subclasses__.Exception.n"), key := vs "type.__subclasses__.Exception.n" 215, val := Value.int 1 0 }] 2 }) ::
  (nat_lit 3, { cls := Value.type "dict", data := Data.dict #[{ hash := PyData.keyHash P (Str.ofString "__name__"), key := vs "__name__" 165, val := vs "law_pf0238_01" 533 }, { hash := PyData.keyHash P (Str.ofString "__doc__"), key := vs "__doc__" 166, val := Value.none }, { hash := PyData.keyHash P (Str.ofString "__package__"), key := vs "__package__" 167, val := Value.none }, { hash := PyData.keyHash P (Str.ofString "__loader__"), key := vs "__loader__" 168, val := Value.builtin "__main__.__loader__#opaque" }, { hash := PyData.keyHash P (Str.ofString "__spec__"), key := vs "__spec__" 169, val := Value.none }, { hash := PyData.keyHash P (Str.ofString "__annotations__"), key := vs "__annotations__" 170, val := Value.ref 6 }, { hash := PyData.keyHash P (Str.ofString "__builtins__"), key := vs "__builtins__" 171, val := Value.ref 4 }, { hash := PyData.keyHash P (Str.ofString "__file__"), key := vs "__file__" 173, val := vs "/claim/cut.py" 172 }, { hash := PyData.keyHash P (Str.ofString "__cached__"), key := vs "__cached__" 174, val := Value.none }, { hash := PyData.keyHash P (Str.ofString "PressError"), key := vs "PressError" 217, val := Value.ref 31 }, { hash := PyData.keyHash P (Str.ofString "SegmentError"), key := vs "SegmentError" 233, val := Value.ref 44 }, { hash := PyData.keyHash P (Str.ofString "CutError"), key := vs "CutError" 249, val := Value.ref 56 }, { hash := PyData.keyHash P (Str.ofString "RangeError"), key := vs "RangeError" 265, val := Value.ref 68 }, { hash := PyData.keyHash P (Str.ofString "word"), key := vs "word" 274, val := Value.ref 77 }, { hash := PyData.keyHash P (Str.ofString "OctetReader"), key := vs "OctetReader" 335, val := Value.ref 122 }, { hash := PyData.keyHash P (Str.ofString "JFIF_NAME"), key := vs "JFIF_NAME" 339, val := Value.bytes #[74, 70, 73, 70, 0] 338 }, { hash := PyData.keyHash P (Str.ofString "MOST_UNITS"), key := vs "MOST_UNITS" 341, val := Value.int 2 340 }, { hash := PyData.keyHash P (Str.ofString "Jfif"), key := vs "Jfif" 378, val := Value.ref 143 }, { hash := PyData.keyHash P (Str.ofString "check_jfif"), key := vs "check_jfif" 385, val := Value.ref 154 }, { hash := PyData.keyHash P (Str.ofString "read_jfif"), key := vs "read_jfif" 399, val := Value.ref 161 }, { hash := PyData.keyHash P (Str.ofString "write_jfif"), key := vs "write_jfif" 407, val := Value.ref 168 }, { hash := PyData.keyHash P (Str.ofString "MOST_SLOT"), key := vs "MOST_SLOT" 411, val := Value.int 3 410 }, { hash := PyData.keyHash P (Str.ofString "CODE_SIZES"), key := vs "CODE_SIZES" 413, val := Value.int 16 412 }, { hash := PyData.keyHash P (Str.ofString "MOST_SYMBOLS"), key := vs "MOST_SYMBOLS" 415, val := Value.int 256 414 }, { hash := PyData.keyHash P (Str.ofString "read_kind"), key := vs "read_kind" 424, val := Value.ref 175 }, { hash := PyData.keyHash P (Str.ofString "put_kind"), key := vs "put_kind" 434, val := Value.ref 182 }, { hash := PyData.keyHash P (Str.ofString "need"), key := vs "need" 442, val := Value.ref 189 }, { hash := PyData.keyHash P (Str.ofString "check_divisor"), key := vs "check_divisor" 450, val := Value.ref 196 }, { hash := PyData.keyHash P (Str.ofString "read_quant"), key := vs "read_quant" 464, val := Value.ref 203 }, { hash := PyData.keyHash P (Str.ofString "write_quant"), key := vs "write_quant" 476, val := Value.ref 210 }, { hash := PyData.keyHash P (Str.ofString "read_huffman"), key := vs "read_huffman" 488, val := Value.ref 217 }, { hash := PyData.keyHash P (Str.ofString "write_huffman"), key := vs "write_huffman" 501, val := Value.ref 224 }, { hash := PyData.keyHash P (Str.ofString "check_conditioning"), key := vs "check_conditioning" 509, val := Value.ref 231 }, { hash := PyData.keyHash P (Str.ofString "read_conditioning"), key := vs "read_conditioning" 521, val := Value.ref 238 }, { hash := PyData.keyHash P (Str.ofString "write_conditioning"), key := vs "write_conditioning" 532, val := Value.ref 245 }, { hash := PyData.keyHash P (Str.ofString "_law_shelf"), key := vs "_law_shelf" 543, val := Value.ref 252 }, { hash := PyData.keyHash P (Str.ofString "_law_book"), key := vs "_law_book" 552, val := Value.ref 259 }, { hash := PyData.keyHash P (Str.ofString "_law_heard"), key := vs "_law_heard" 559, val := Value.ref 266 }, { hash := PyData.keyHash P (Str.ofString "_law_divisors"), key := vs "_law_divisors" 565, val := Value.ref 271 }, { hash := PyData.keyHash P (Str.ofString "_law_codes"), key := vs "_law_codes" 571, val := Value.ref 276 }, { hash := PyData.keyHash P (Str.ofString "_law_bound"), key := vs "_law_bound" 581, val := Value.ref 283 }, { hash := PyData.keyHash P (Str.ofString "_law_cuts_right"), key := vs "_law_cuts_right" 587, val := Value.ref 288 }, { hash := PyData.keyHash P (Str.ofString "_law_counts_right"), key := vs "_law_counts_right" 593, val := Value.ref 293 }, { hash := PyData.keyHash P (Str.ofString "_law_values_right"), key := vs "_law_values_right" 603, val := Value.ref 300 }, { hash := PyData.keyHash P (Str.ofString "_law_jfif_right"), key := vs "_law_jfif_right" 619, val := Value.ref 307 }, { hash := PyData.keyHash P (Str.ofString "law"), key := vs "law" 625, val := Value.ref 312 }] 46 }) ::
  (nat_lit 15, tu #[Value.type "Exception"]) ::
  (nat_lit 22, tu #[]) ::
  (nat_lit 24, tu #[vs "self" 204, vs "message" 205]) ::
  (nat_lit 25, tu #[]) ::
  (nat_lit 27, co #[vs "__init__" 201, vs "PressError.__init__" 202, vs "/claim/cut.py" 203, Value.int 4 0, Value.int 2 0, Value.int 0 0, Value.int 0 0, Value.int 3 0, Value.ref 22, Value.bool true, Value.int 181 0, Value.ref 23, Value.none, Value.ref 24, Value.ref 25, Value.ref 26, Value.int 206 0, Value.int 4 0, vs "/claim/cut.py" 207]) ::
  (nat_lit 28, fo (stC 1 0) "PressError.__init__" (Value.none) (Value.none) (vs "pixelpress.errors" 187) (Value.ref 27)) ::
  (nat_lit 29, tu #[vs "message" 209]) ::
  (nat_lit 30, { cls := Value.type "dict", data := Data.dict #[{ hash := PyData.keyHash P (Str.ofString "__module__"), key := vs "__module__" 196, val := vs "pixelpress.errors" 187 }, { hash := PyData.keyHash P (Str.ofString "__firstlineno__"), key := vs "__firstlineno__" 200, val := Value.int 2 199 }, { hash := PyData.keyHash P (Str.ofString "__init__"), key := vs "__init__" 208, val := Value.ref 28 }, { hash := PyData.keyHash P (Str.ofString "__static_attributes__"), key := vs "__static_attributes__" 210, val := Value.ref 29 }, { hash := PyData.keyHash P (Str.ofString "__weakref__"), key := vs "__weakref__" 212, val := Value.ref 32 }, { hash := PyData.keyHash P (Str.ofString "__doc__"), key := vs "__doc__" 213, val := Value.none }] 3 }) ::
  (nat_lit 31, { cls := Value.type "type", data := Data.cls { name := Str.ofString "PressError", bases := [Value.type "Exception"], mro := [Value.ref 31, Value.type "Exception", Value.type "BaseException", Value.type "object"], ns := 30, qualname := Str.ofString "PressError", subclasses := [Value.ref 44, Value.ref 56, Value.ref 68] }, slots := #[some (Value.ref 15), none, some (vs "PressError" 189), some (vs "PressError" 197), some (Value.builtin "Exception.__new__"), some (Value.bool true)] }) ::
  (nat_lit 32, { cls := Value.type "getset_descriptor", data := Data.fields #[vs "__weakref__" 211, Value.ref 31, Value.builtin "ExceptionGroup.__weakref__", Value.none] }) ::
  (nat_lit 35, tu #[Value.ref 31]) ::
  (nat_lit 42, tu #[]) ::
  (nat_lit 43, { cls := Value.type "dict", data := Data.dict #[{ hash := PyData.keyHash P (Str.ofString "__module__"), key := vs "__module__" 225, val := vs "pixelpress.errors" 187 }, { hash := PyData.keyHash P (Str.ofString "__firstlineno__"), key := vs "__firstlineno__" 229, val := Value.int 7 228 }, { hash := PyData.keyHash P (Str.ofString "__static_attributes__"), key := vs "__static_attributes__" 230, val := Value.ref 42 }, { hash := PyData.keyHash P (Str.ofString "__doc__"), key := vs "__doc__" 231, val := Value.none }] 2 }) ::
  (nat_lit 44, { cls := Value.type "type", data := Data.cls { name := Str.ofString "SegmentError", bases := [Value.ref 31], mro := [Value.ref 44, Value.ref 31, Value.type "Exception", Value.type "BaseException", Value.type "object"], ns := 43, qualname := Str.ofString "SegmentError" }, slots := #[some (Value.ref 35), none, some (vs "SegmentError" 218), some (vs "SegmentError" 226), some (Value.builtin "Exception.__new__"), some (Value.bool true)] }) ::
  (nat_lit 47, tu #[Value.ref 31]) ::
  (nat_lit 54, tu #[]) ::
  (nat_lit 55, { cls := Value.type "dict", data := Data.dict #[{ hash := PyData.keyHash P (Str.ofString "__module__"), key := vs "__module__" 241, val := vs "pixelpress.errors" 187 }, { hash := PyData.keyHash P (Str.ofString "__firstlineno__"), key := vs "__firstlineno__" 245, val := Value.int 9 244 }, { hash := PyData.keyHash P (Str.ofString "__static_attributes__"), key := vs "__static_attributes__" 246, val := Value.ref 54 }, { hash := PyData.keyHash P (Str.ofString "__doc__"), key := vs "__doc__" 247, val := Value.none }] 2 }) ::
  (nat_lit 56, { cls := Value.type "type", data := Data.cls { name := Str.ofString "CutError", bases := [Value.ref 31], mro := [Value.ref 56, Value.ref 31, Value.type "Exception", Value.type "BaseException", Value.type "object"], ns := 55, qualname := Str.ofString "CutError" }, slots := #[some (Value.ref 47), none, some (vs "CutError" 234), some (vs "CutError" 242), some (Value.builtin "Exception.__new__"), some (Value.bool true)] }) ::
  (nat_lit 59, tu #[Value.ref 31]) ::
  (nat_lit 66, tu #[]) ::
  (nat_lit 67, { cls := Value.type "dict", data := Data.dict #[{ hash := PyData.keyHash P (Str.ofString "__module__"), key := vs "__module__" 257, val := vs "pixelpress.errors" 187 }, { hash := PyData.keyHash P (Str.ofString "__firstlineno__"), key := vs "__firstlineno__" 261, val := Value.int 11 260 }, { hash := PyData.keyHash P (Str.ofString "__static_attributes__"), key := vs "__static_attributes__" 262, val := Value.ref 66 }, { hash := PyData.keyHash P (Str.ofString "__doc__"), key := vs "__doc__" 263, val := Value.none }] 2 }) ::
  (nat_lit 68, { cls := Value.type "type", data := Data.cls { name := Str.ofString "RangeError", bases := [Value.ref 31], mro := [Value.ref 68, Value.ref 31, Value.type "Exception", Value.type "BaseException", Value.type "object"], ns := 67, qualname := Str.ofString "RangeError" }, slots := #[some (Value.ref 59), none, some (vs "RangeError" 250), some (vs "RangeError" 258), some (Value.builtin "Exception.__new__"), some (Value.bool true)] }) ::
  (nat_lit 71, tu #[]) ::
  (nat_lit 73, tu #[vs "n" 271]) ::
  (nat_lit 74, tu #[]) ::
  (nat_lit 76, co #[vs "word" 268, vs "word" 269, vs "/claim/cut.py" 270, Value.int 14 0, Value.int 1 0, Value.int 0 0, Value.int 0 0, Value.int 3 0, Value.ref 71, Value.bool true, Value.int 181 0, Value.ref 72, Value.none, Value.ref 73, Value.ref 74, Value.ref 75, Value.int 272 0, Value.int 14 0, vs "/claim/cut.py" 273]) ::
  (nat_lit 77, fo (stA 6) "word" (Value.none) (Value.none) (vs "pixelpress.octets" 266) (Value.ref 76)) ::
  (nat_lit 85, tu #[]) ::
  (nat_lit 87, tu #[vs "self" 290, vs "octets" 291]) ::
  (nat_lit 88, tu #[]) ::
  (nat_lit 90, co #[vs "__init__" 287, vs "OctetReader.__init__" 288, vs "/claim/cut.py" 289, Value.int 20 0, Value.int 2 0, Value.int 0 0, Value.int 0 0, Value.int 3 0, Value.ref 85, Value.bool true, Value.int 181 0, Value.ref 86, Value.none, Value.ref 87, Value.ref 88, Value.ref 89, Value.int 292 0, Value.int 20 0, vs "/claim/cut.py" 293]) ::
  (nat_lit 91, fo (stC 7 0) "OctetReader.__init__" (Value.none) (Value.none) (vs "pixelpress.octets" 266) (Value.ref 90)) ::
  (nat_lit 92, tu #[]) ::
  (nat_lit 94, tu #[vs "self" 298]) ::
  (nat_lit 95, tu #[]) ::
  (nat_lit 97, co #[vs "left" 295, vs "OctetReader.left" 296, vs "/claim/cut.py" 297, Value.int 24 0, Value.int 1 0, Value.int 0 0, Value.int 0 0, Value.int 3 0, Value.ref 92, Value.bool true, Value.int 181 0, Value.ref 93, Value.none, Value.ref 94, Value.ref 95, Value.ref 96, Value.int 299 0, Value.int 24 0, vs "/claim/cut.py" 300]) ::
  (nat_lit 98, fo (stC 7 1) "OctetReader.left" (Value.none) (Value.none) (vs "pixelpress.octets" 266) (Value.ref 97)) ::
  (nat_lit 99, tu #[]) ::
  (nat_lit 101, tu #[vs "self" 305, vs "size" 306, vs "found" 307]) ::
  (nat_lit 102, tu #[]) ::
  (nat_lit 104, co #[vs "take" 302, vs "OctetReader.take" 303, vs "/claim/cut.py" 304, Value.int 27 0, Value.int 2 0, Value.int 0 0, Value.int 0 0, Value.int 3 0, Value.ref 99, Value.bool true, Value.int 181 0, Value.ref 100, Value.none, Value.ref 101, Value.ref 102, Value.ref 103, Value.int 308 0, Value.int 27 0, vs "/claim/cut.py" 309]) ::
  (nat_lit 105, fo (stC 7 2) "OctetReader.take" (Value.none) (Value.none) (vs "pixelpress.octets" 266) (Value.ref 104)) ::
  (nat_lit 106, tu #[]) ::
  (nat_lit 108, tu #[vs "self" 314]) ::
  (nat_lit 109, tu #[]) ::
  (nat_lit 111, co #[vs "byte" 311, vs "OctetReader.byte" 312, vs "/claim/cut.py" 313, Value.int 34 0, Value.int 1 0, Value.int 0 0, Value.int 0 0, Value.int 3 0, Value.ref 106, Value.bool true, Value.int 181 0, Value.ref 107, Value.none, Value.ref 108, Value.ref 109, Value.ref 110, Value.int 315 0, Value.int 34 0, vs "/claim/cut.py" 316]) ::
  (nat_lit 112, fo (stC 7 3) "OctetReader.byte" (Value.none) (Value.none) (vs "pixelpress.octets" 266) (Value.ref 111)) ::
  (nat_lit 113, tu #[]) ::
  (nat_lit 115, tu #[vs "self" 321, vs "two" 322]) ::
  (nat_lit 116, tu #[]) ::
  (nat_lit 118, co #[vs "word" 318, vs "OctetReader.word" 319, vs "/claim/cut.py" 320, Value.int 37 0, Value.int 1 0, Value.int 0 0, Value.int 0 0, Value.int 3 0, Value.ref 113, Value.bool true, Value.int 181 0, Value.ref 114, Value.none, Value.ref 115, Value.ref 116, Value.ref 117, Value.int 323 0, Value.int 37 0, vs "/claim/cut.py" 324]) ::
  (nat_lit 119, fo (stC 7 4) "OctetReader.word" (Value.none) (Value.none) (vs "pixelpress.octets" 266) (Value.ref 118)) ::
  (nat_lit 120, tu #[vs "at" 326, vs "octets" 327]) ::
  (nat_lit 121, { cls := Value.type "dict", data := Data.dict #[{ hash := PyData.keyHash P (Str.ofString "__module__"), key := vs "__module__" 282, val := vs "pixelpress.octets" 266 }, { hash := PyData.keyHash P (Str.ofString "__firstlineno__"), key := vs "__firstlineno__" 286, val := Value.int 18 285 }, { hash := PyData.keyHash P (Str.ofString "__init__"), key := vs "__init__" 294, val := Value.ref 91 }, { hash := PyData.keyHash P (Str.ofString "left"), key := vs "left" 301, val := Value.ref 98 }, { hash := PyData.keyHash P (Str.ofString "take"), key := vs "take" 310, val := Value.ref 105 }, { hash := PyData.keyHash P (Str.ofString "byte"), key := vs "byte" 317, val := Value.ref 112 }, { hash := PyData.keyHash P (Str.ofString "word"), key := vs "word" 325, val := Value.ref 119 }, { hash := PyData.keyHash P (Str.ofString "__static_attributes__"), key := vs "__static_attributes__" 328, val := Value.ref 120 }, { hash := PyData.keyHash P (Str.ofString "__dict__"), key := vs "__dict__" 330, val := Value.ref 123 }, { hash := PyData.keyHash P (Str.ofString "__weakref__"), key := vs "__weakref__" 332, val := Value.ref 124 }, { hash := PyData.keyHash P (Str.ofString "__doc__"), key := vs "__doc__" 333, val := Value.none }] 4 }) ::
  (nat_lit 122, { cls := Value.type "type", data := Data.cls { name := Str.ofString "OctetReader", bases := [Value.type "object"], mro := [Value.ref 122, Value.type "object"], ns := 121, qualname := Str.ofString "OctetReader" }, slots := #[none, none, some (vs "OctetReader" 275), some (vs "OctetReader" 283), some (Value.builtin "object.__new__"), some (Value.bool true)] }) ::
  (nat_lit 123, { cls := Value.type "getset_descriptor", data := Data.fields #[vs "__dict__" 329, Value.ref 122, Value.builtin "function.__dict__", Value.builtin "function.__dict__#set"] }) ::
  (nat_lit 124, { cls := Value.type "getset_descriptor", data := Data.fields #[vs "__weakref__" 331, Value.ref 122, Value.builtin "ExceptionGroup.__weakref__", Value.none] }) ::
  (nat_lit 134, tu #[]) ::
  (nat_lit 136, tu #[vs "self" 357, vs "major" 358, vs "minor" 359, vs "units" 360, vs "across" 361, vs "down" 362]) ::
  (nat_lit 137, tu #[]) ::
  (nat_lit 139, co #[vs "__init__" 354, vs "Jfif.__init__" 355, vs "/claim/cut.py" 356, Value.int 45 0, Value.int 6 0, Value.int 0 0, Value.int 0 0, Value.int 3 0, Value.ref 134, Value.bool true, Value.int 181 0, Value.ref 135, Value.none, Value.ref 136, Value.ref 137, Value.ref 138, Value.int 363 0, Value.int 45 0, vs "/claim/cut.py" 364]) ::
  (nat_lit 140, fo (stC 11 0) "Jfif.__init__" (Value.none) (Value.none) (vs "pixelpress.app_segments" 336) (Value.ref 139)) ::
  (nat_lit 141, tu #[vs "across" 366, vs "down" 367, vs "major" 368, vs "minor" 369, vs "units" 370]) ::
  (nat_lit 142, { cls := Value.type "dict", data := Data.dict #[{ hash := PyData.keyHash P (Str.ofString "__module__"), key := vs "__module__" 349, val := vs "pixelpress.app_segments" 336 }, { hash := PyData.keyHash P (Str.ofString "__firstlineno__"), key := vs "__firstlineno__" 353, val := Value.int 43 352 }, { hash := PyData.keyHash P (Str.ofString "__init__"), key := vs "__init__" 365, val := Value.ref 140 }, { hash := PyData.keyHash P (Str.ofString "__static_attributes__"), key := vs "__static_attributes__" 371, val := Value.ref 141 }, { hash := PyData.keyHash P (Str.ofString "__dict__"), key := vs "__dict__" 373, val := Value.ref 144 }, { hash := PyData.keyHash P (Str.ofString "__weakref__"), key := vs "__weakref__" 375, val := Value.ref 145 }, { hash := PyData.keyHash P (Str.ofString "__doc__"), key := vs "__doc__" 376, val := Value.none }] 4 }) ::
  (nat_lit 143, { cls := Value.type "type", data := Data.cls { name := Str.ofString "Jfif", bases := [Value.type "object"], mro := [Value.ref 143, Value.type "object"], ns := 142, qualname := Str.ofString "Jfif" }, slots := #[none, none, some (vs "Jfif" 342), some (vs "Jfif" 350), some (Value.builtin "object.__new__"), some (Value.bool true)] }) ::
  (nat_lit 144, { cls := Value.type "getset_descriptor", data := Data.fields #[vs "__dict__" 372, Value.ref 143, Value.builtin "function.__dict__", Value.builtin "function.__dict__#set"] }) ::
  (nat_lit 145, { cls := Value.type "getset_descriptor", data := Data.fields #[vs "__weakref__" 374, Value.ref 143, Value.builtin "ExceptionGroup.__weakref__", Value.none] }) ::
  (nat_lit 148, tu #[]) ::
  (nat_lit 150, tu #[vs "jfif" 382]) ::
  (nat_lit 151, tu #[]) ::
  (nat_lit 153, co #[vs "check_jfif" 379, vs "check_jfif" 380, vs "/claim/cut.py" 381, Value.int 51 0, Value.int 1 0, Value.int 0 0, Value.int 0 0, Value.int 3 0, Value.ref 148, Value.bool true, Value.int 181 0, Value.ref 149, Value.none, Value.ref 150, Value.ref 151, Value.ref 152, Value.int 383 0, Value.int 51 0, vs "/claim/cut.py" 384]) ::
  (nat_lit 154, fo (stA 12) "check_jfif" (Value.none) (Value.none) (vs "pixelpress.app_segments" 336) (Value.ref 153)) ::
  (nat_lit 155, tu #[]) ::
  (nat_lit 157, tu #[vs "payload" 389, vs "reader" 390, vs "major" 391, vs "minor" 392, vs "units" 393, vs "across" 394, vs "jfif" 395, vs "small" 396]) ::
  (nat_lit 158, tu #[]) ::
  (nat_lit 160, co #[vs "read_jfif" 386, vs "read_jfif" 387, vs "/claim/cut.py" 388, Value.int 56 0, Value.int 1 0, Value.int 0 0, Value.int 0 0, Value.int 3 0, Value.ref 155, Value.bool true, Value.int 181 0, Value.ref 156, Value.none, Value.ref 157, Value.ref 158, Value.ref 159, Value.int 397 0, Value.int 56 0, vs "/claim/cut.py" 398]) ::
  (nat_lit 161, fo (stA 13) "read_jfif" (Value.none) (Value.none) (vs "pixelpress.app_segments" 336) (Value.ref 160)) ::
  (nat_lit 162, tu #[]) ::
  (nat_lit 164, tu #[vs "jfif" 403, vs "found" 404]) ::
  (nat_lit 165, tu #[]) ::
  (nat_lit 167, co #[vs "write_jfif" 400, vs "write_jfif" 401, vs "/claim/cut.py" 402, Value.int 72 0, Value.int 1 0, Value.int 0 0, Value.int 0 0, Value.int 3 0, Value.ref 162, Value.bool true, Value.int 181 0, Value.ref 163, Value.none, Value.ref 164, Value.ref 165, Value.ref 166, Value.int 405 0, Value.int 72 0, vs "/claim/cut.py" 406]) ::
  (nat_lit 168, fo (stA 14) "write_jfif" (Value.none) (Value.none) (vs "pixelpress.app_segments" 336) (Value.ref 167)) ::
  (nat_lit 169, tu #[]) ::
  (nat_lit 171, tu #[vs "reader" 419, vs "most" 420, vs "both" 421]) ::
  (nat_lit 172, tu #[]) ::
  (nat_lit 174, co #[vs "read_kind" 416, vs "read_kind" 417, vs "/claim/cut.py" 418, Value.int 80 0, Value.int 2 0, Value.int 0 0, Value.int 0 0, Value.int 3 0, Value.ref 169, Value.bool true, Value.int 181 0, Value.ref 170, Value.none, Value.ref 171, Value.ref 172, Value.ref 173, Value.int 422 0, Value.int 80 0, vs "/claim/cut.py" 423]) ::
  (nat_lit 175, fo (stA 19) "read_kind" (Value.none) (Value.none) (vs "pixelpress.table_segments" 408) (Value.ref 174)) ::
  (nat_lit 176, tu #[]) ::
  (nat_lit 178, tu #[vs "out" 428, vs "kind" 429, vs "most" 430, vs "slot" 431]) ::
  (nat_lit 179, tu #[]) ::
  (nat_lit 181, co #[vs "put_kind" 425, vs "put_kind" 426, vs "/claim/cut.py" 427, Value.int 85 0, Value.int 4 0, Value.int 0 0, Value.int 0 0, Value.int 3 0, Value.ref 176, Value.bool true, Value.int 181 0, Value.ref 177, Value.none, Value.ref 178, Value.ref 179, Value.ref 180, Value.int 432 0, Value.int 85 0, vs "/claim/cut.py" 433]) ::
  (nat_lit 182, fo (stA 20) "put_kind" (Value.none) (Value.none) (vs "pixelpress.table_segments" 408) (Value.ref 181)) ::
  (nat_lit 183, tu #[]) ::
  (nat_lit 185, tu #[vs "reader" 438, vs "size" 439]) ::
  (nat_lit 186, tu #[]) ::
  (nat_lit 188, co #[vs "need" 435, vs "need" 436, vs "/claim/cut.py" 437, Value.int 89 0, Value.int 2 0, Value.int 0 0, Value.int 0 0, Value.int 3 0, Value.ref 183, Value.bool true, Value.int 181 0, Value.ref 184, Value.none, Value.ref 185, Value.ref 186, Value.ref 187, Value.int 440 0, Value.int 89 0, vs "/claim/cut.py" 441]) ::
  (nat_lit 189, fo (stA 21) "need" (Value.none) (Value.none) (vs "pixelpress.table_segments" 408) (Value.ref 188)) ::
  (nat_lit 190, tu #[]) ::
  (nat_lit 192, tu #[vs "divisor" 446, vs "precision" 447]) ::
  (nat_lit 193, tu #[]) ::
  (nat_lit 195, co #[vs "check_divisor" 443, vs "check_divisor" 444, vs "/claim/cut.py" 445, Value.int 92 0, Value.int 2 0, Value.int 0 0, Value.int 0 0, Value.int 3 0, Value.ref 190, Value.bool true, Value.int 181 0, Value.ref 191, Value.none, Value.ref 192, Value.ref 193, Value.ref 194, Value.int 448 0, Value.int 92 0, vs "/claim/cut.py" 449]) ::
  (nat_lit 196, fo (stA 22) "check_divisor" (Value.none) (Value.none) (vs "pixelpress.table_segments" 408) (Value.ref 195)) ::
  (nat_lit 197, tu #[]) ::
  (nat_lit 199, tu #[vs "payload" 454, vs "n" 455, vs "reader" 456, vs "found" 457, vs "precision" 458, vs "slot" 459, vs "divisors" 460, vs "turn" 461]) ::
  (nat_lit 200, tu #[]) ::
  (nat_lit 202, co #[vs "read_quant" 451, vs "read_quant" 452, vs "/claim/cut.py" 453, Value.int 95 0, Value.int 2 0, Value.int 0 0, Value.int 0 0, Value.int 3 0, Value.ref 197, Value.bool true, Value.int 181 0, Value.ref 198, Value.none, Value.ref 199, Value.ref 200, Value.ref 201, Value.int 462 0, Value.int 95 0, vs "/claim/cut.py" 463]) ::
  (nat_lit 203, fo (stA 23) "read_quant" (Value.none) (Value.none) (vs "pixelpress.table_segments" 408) (Value.ref 202)) ::
  (nat_lit 204, tu #[]) ::
  (nat_lit 206, tu #[vs "tables" 468, vs "out" 469, vs "slot" 470, vs "precision" 471, vs "divisors" 472, vs "divisor" 473]) ::
  (nat_lit 207, tu #[]) ::
  (nat_lit 209, co #[vs "write_quant" 465, vs "write_quant" 466, vs "/claim/cut.py" 467, Value.int 107 0, Value.int 1 0, Value.int 0 0, Value.int 0 0, Value.int 3 0, Value.ref 204, Value.bool true, Value.int 181 0, Value.ref 205, Value.none, Value.ref 206, Value.ref 207, Value.ref 208, Value.int 474 0, Value.int 107 0, vs "/claim/cut.py" 475]) ::
  (nat_lit 210, fo (stA 24) "write_quant" (Value.none) (Value.none) (vs "pixelpress.table_segments" 408) (Value.ref 209)) ::
  (nat_lit 211, tu #[]) ::
  (nat_lit 213, tu #[vs "payload" 480, vs "reader" 481, vs "found" 482, vs "kind" 483, vs "slot" 484, vs "counts" 485]) ::
  (nat_lit 214, tu #[]) ::
  (nat_lit 216, co #[vs "read_huffman" 477, vs "read_huffman" 478, vs "/claim/cut.py" 479, Value.int 115 0, Value.int 1 0, Value.int 0 0, Value.int 0 0, Value.int 3 0, Value.ref 211, Value.bool true, Value.int 181 0, Value.ref 212, Value.none, Value.ref 213, Value.ref 214, Value.ref 215, Value.int 486 0, Value.int 115 0, vs "/claim/cut.py" 487]) ::
  (nat_lit 217, fo (stA 25) "read_huffman" (Value.none) (Value.none) (vs "pixelpress.table_segments" 408) (Value.ref 216)) ::
  (nat_lit 218, tu #[]) ::
  (nat_lit 220, tu #[vs "tables" 492, vs "out" 493, vs "kind" 494, vs "slot" 495, vs "counts" 496, vs "symbols" 497, vs "many" 498]) ::
  (nat_lit 221, tu #[]) ::
  (nat_lit 223, co #[vs "write_huffman" 489, vs "write_huffman" 490, vs "/claim/cut.py" 491, Value.int 127 0, Value.int 1 0, Value.int 0 0, Value.int 0 0, Value.int 3 0, Value.ref 218, Value.bool true, Value.int 181 0, Value.ref 219, Value.none, Value.ref 220, Value.ref 221, Value.ref 222, Value.int 499 0, Value.int 127 0, vs "/claim/cut.py" 500]) ::
  (nat_lit 224, fo (stA 26) "write_huffman" (Value.none) (Value.none) (vs "pixelpress.table_segments" 408) (Value.ref 223)) ::
  (nat_lit 225, tu #[]) ::
  (nat_lit 227, tu #[vs "kind" 505, vs "value" 506]) ::
  (nat_lit 228, tu #[]) ::
  (nat_lit 230, co #[vs "check_conditioning" 502, vs "check_conditioning" 503, vs "/claim/cut.py" 504, Value.int 139 0, Value.int 2 0, Value.int 0 0, Value.int 0 0, Value.int 3 0, Value.ref 225, Value.bool true, Value.int 181 0, Value.ref 226, Value.none, Value.ref 227, Value.ref 228, Value.ref 229, Value.int 507 0, Value.int 139 0, vs "/claim/cut.py" 508]) ::
  (nat_lit 231, fo (stA 27) "check_conditioning" (Value.none) (Value.none) (vs "pixelpress.table_segments" 408) (Value.ref 230)) ::
  (nat_lit 232, tu #[]) ::
  (nat_lit 234, tu #[vs "payload" 513, vs "reader" 514, vs "found" 515, vs "kind" 516, vs "slot" 517, vs "value" 518]) ::
  (nat_lit 235, tu #[]) ::
  (nat_lit 237, co #[vs "read_conditioning" 510, vs "read_conditioning" 511, vs "/claim/cut.py" 512, Value.int 146 0, Value.int 1 0, Value.int 0 0, Value.int 0 0, Value.int 3 0, Value.ref 232, Value.bool true, Value.int 181 0, Value.ref 233, Value.none, Value.ref 234, Value.ref 235, Value.ref 236, Value.int 519 0, Value.int 146 0, vs "/claim/cut.py" 520]) ::
  (nat_lit 238, fo (stA 28) "read_conditioning" (Value.none) (Value.none) (vs "pixelpress.table_segments" 408) (Value.ref 237)) ::
  (nat_lit 239, tu #[]) ::
  (nat_lit 241, tu #[vs "values" 525, vs "out" 526, vs "kind" 527, vs "slot" 528, vs "value" 529]) ::
  (nat_lit 242, tu #[]) ::
  (nat_lit 244, co #[vs "write_conditioning" 522, vs "write_conditioning" 523, vs "/claim/cut.py" 524, Value.int 156 0, Value.int 1 0, Value.int 0 0, Value.int 0 0, Value.int 3 0, Value.ref 239, Value.bool true, Value.int 181 0, Value.ref 240, Value.none, Value.ref 241, Value.ref 242, Value.ref 243, Value.int 530 0, Value.int 156 0, vs "/claim/cut.py" 531]) ::
  (nat_lit 245, fo (stA 29) "write_conditioning" (Value.none) (Value.none) (vs "pixelpress.table_segments" 408) (Value.ref 244)) ::
  (nat_lit 246, tu #[]) ::
  (nat_lit 248, tu #[vs "script" 538, vs "cell" 539, vs "board" 540]) ::
  (nat_lit 249, tu #[]) ::
  (nat_lit 251, co #[vs "_law_shelf" 535, vs "_law_shelf" 536, vs "/claim/cut.py" 537, Value.int 164 0, Value.int 1 0, Value.int 0 0, Value.int 0 0, Value.int 3 0, Value.ref 246, Value.bool true, Value.int 181 0, Value.ref 247, Value.none, Value.ref 248, Value.ref 249, Value.ref 250, Value.int 541 0, Value.int 164 0, vs "/claim/cut.py" 542]) ::
  (nat_lit 252, fo (stA 31) "_law_shelf" (Value.none) (Value.none) (vs "law_pf0238_01" 533) (Value.ref 251)) ::
  (nat_lit 253, tu #[]) ::
  (nat_lit 255, tu #[vs "shelf" 547, vs "many" 548, vs "page" 549]) ::
  (nat_lit 256, tu #[]) ::
  (nat_lit 258, co #[vs "_law_book" 544, vs "_law_book" 545, vs "/claim/cut.py" 546, Value.int 168 0, Value.int 2 0, Value.int 0 0, Value.int 0 0, Value.int 3 0, Value.ref 253, Value.bool true, Value.int 181 0, Value.ref 254, Value.none, Value.ref 255, Value.ref 256, Value.ref 257, Value.int 550 0, Value.int 168 0, vs "/claim/cut.py" 551]) ::
  (nat_lit 259, fo (stA 32) "_law_book" (Value.none) (Value.none) (vs "law_pf0238_01" 533) (Value.ref 258)) ::
  (nat_lit 260, tu #[]) ::
  (nat_lit 262, tu #[vs "call" 556]) ::
  (nat_lit 263, tu #[]) ::
  (nat_lit 265, co #[vs "_law_heard" 553, vs "_law_heard" 554, vs "/claim/cut.py" 555, Value.int 175 0, Value.int 1 0, Value.int 0 0, Value.int 0 0, Value.int 3 0, Value.ref 260, Value.bool true, Value.int 181 0, Value.ref 261, Value.none, Value.ref 262, Value.ref 263, Value.ref 264, Value.int 557 0, Value.int 175 0, vs "/claim/cut.py" 558]) ::
  (nat_lit 266, fo (stA 33) "_law_heard" (Value.none) (Value.none) (vs "law_pf0238_01" 533) (Value.ref 265)) ::
  (nat_lit 267, tu #[]) ::
  (nat_lit 270, co #[vs "_law_divisors" 560, vs "_law_divisors" 561, vs "/claim/cut.py" 562, Value.int 180 0, Value.int 2 0, Value.int 0 0, Value.int 0 0, Value.int 3 0, Value.ref 267, Value.bool true, Value.int 181 0, Value.ref 268, Value.none, Value.none, Value.none, Value.ref 269, Value.int 563 0, Value.int 180 0, vs "/claim/cut.py" 564]) ::
  (nat_lit 271, fo (stA 34) "_law_divisors" (Value.none) (Value.none) (vs "law_pf0238_01" 533) (Value.ref 270)) ::
  (nat_lit 272, tu #[]) ::
  (nat_lit 275, co #[vs "_law_codes" 566, vs "_law_codes" 567, vs "/claim/cut.py" 568, Value.int 187 0, Value.int 1 0, Value.int 0 0, Value.int 0 0, Value.int 3 0, Value.ref 272, Value.bool true, Value.int 181 0, Value.ref 273, Value.none, Value.none, Value.none, Value.ref 274, Value.int 569 0, Value.int 187 0, vs "/claim/cut.py" 570]) ::
  (nat_lit 276, fo (stA 35) "_law_codes" (Value.none) (Value.none) (vs "law_pf0238_01" 533) (Value.ref 275)) ::
  (nat_lit 277, tu #[]) ::
  (nat_lit 279, tu #[vs "shelf" 575, vs "kind" 576, vs "slot" 577, vs "value" 578]) ::
  (nat_lit 280, tu #[]) ::
  (nat_lit 282, co #[vs "_law_bound" 572, vs "_law_bound" 573, vs "/claim/cut.py" 574, Value.int 193 0, Value.int 1 0, Value.int 0 0, Value.int 0 0, Value.int 3 0, Value.ref 277, Value.bool true, Value.int 181 0, Value.ref 278, Value.none, Value.ref 279, Value.ref 280, Value.ref 281, Value.int 579 0, Value.int 193 0, vs "/claim/cut.py" 580]) ::
  (nat_lit 283, fo (stA 36) "_law_bound" (Value.none) (Value.none) (vs "law_pf0238_01" 533) (Value.ref 282)) ::
  (nat_lit 284, tu #[]) ::
  (nat_lit 287, co #[vs "_law_cuts_right" 582, vs "_law_cuts_right" 583, vs "/claim/cut.py" 584, Value.int 197 0, Value.int 3 0, Value.int 0 0, Value.int 0 0, Value.int 3 0, Value.ref 284, Value.bool true, Value.int 181 0, Value.ref 285, Value.none, Value.none, Value.none, Value.ref 286, Value.int 585 0, Value.int 197 0, vs "/claim/cut.py" 586]) ::
  (nat_lit 288, fo (stA 37) "_law_cuts_right" (Value.none) (Value.none) (vs "law_pf0238_01" 533) (Value.ref 287)) ::
  (nat_lit 289, tu #[]) ::
  (nat_lit 292, co #[vs "_law_counts_right" 588, vs "_law_counts_right" 589, vs "/claim/cut.py" 590, Value.int 208 0, Value.int 0 0, Value.int 0 0, Value.int 0 0, Value.int 3 0, Value.ref 289, Value.bool true, Value.int 181 0, Value.ref 290, Value.none, Value.none, Value.none, Value.ref 291, Value.int 591 0, Value.int 208 0, vs "/claim/cut.py" 592]) ::
  (nat_lit 293, fo (stA 38) "_law_counts_right" (Value.none) (Value.none) (vs "law_pf0238_01" 533) (Value.ref 292)) ::
  (nat_lit 294, tu #[]) ::
  (nat_lit 296, tu #[vs "kind" 597, vs "is_let" 598]) ::
  (nat_lit 297, tu #[vs "kind" 599, vs "value" 600]) ::
  (nat_lit 299, co #[vs "_law_values_right" 594, vs "_law_values_right" 595, vs "/claim/cut.py" 596, Value.int 218 0, Value.int 1 0, Value.int 0 0, Value.int 0 0, Value.int 3 0, Value.ref 294, Value.bool true, Value.int 181 0, Value.ref 295, Value.none, Value.ref 296, Value.ref 297, Value.ref 298, Value.int 601 0, Value.int 218 0, vs "/claim/cut.py" 602]) ::
  (nat_lit 300, fo (stA 39) "_law_values_right" (Value.none) (Value.none) (vs "law_pf0238_01" 533) (Value.ref 299)) ::
  (nat_lit 301, tu #[]) ::
  (nat_lit 303, tu #[vs "shelf" 607, vs "rows" 608, vs "at" 609, vs "told" 610, vs "wide" 611, vs "high" 612, vs "many" 613]) ::
  (nat_lit 304, tu #[vs "head" 614, vs "row" 615, vs "size" 616]) ::
  (nat_lit 306, co #[vs "_law_jfif_right" 604, vs "_law_jfif_right" 605, vs "/claim/cut.py" 606, Value.int 224 0, Value.int 1 0, Value.int 0 0, Value.int 0 0, Value.int 3 0, Value.ref 301, Value.bool true, Value.int 181 0, Value.ref 302, Value.none, Value.ref 303, Value.ref 304, Value.ref 305, Value.int 617 0, Value.int 224 0, vs "/claim/cut.py" 618]) ::
  (nat_lit 307, fo (stA 40) "_law_jfif_right" (Value.none) (Value.none) (vs "law_pf0238_01" 533) (Value.ref 306)) ::
  (nat_lit 308, tu #[]) ::
  (nat_lit 311, co #[vs "law" 620, vs "law" 621, vs "/claim/cut.py" 622, Value.int 238 0, Value.int 1 0, Value.int 0 0, Value.int 0 0, Value.int 3 0, Value.ref 308, Value.bool true, Value.int 181 0, Value.ref 309, Value.none, Value.none, Value.none, Value.ref 310, Value.int 623 0, Value.int 238 0, vs "/claim/cut.py" 624]) ::
  (nat_lit 312, fo (stA 41) "law" (Value.none) (Value.none) (vs "law_pf0238_01" 533) (Value.ref 311)) :: []
/-- the defs and classes of the text -/
noncomputable def qV : Program := view PySem.Challenge.pw_pf0238_01 [1, 2, 3, 4, 6, 7, 9, 10, 11, 12, 13, 14, 16, 17, 18, 19, 20, 21, 22, 23, 24, 25, 26, 27, 28, 29, 31, 32, 33, 34, 35, 36, 37, 38, 39, 40, 41]
abbrev asK : List Addr := [2, 3, 15, 22, 24, 25, 27, 28, 29, 30, 31, 32, 35, 42, 43, 44, 47, 54, 55, 56, 59, 66, 67, 68, 71, 73, 74, 76, 77, 85,
  87, 88, 90, 91, 92, 94, 95, 97, 98, 99, 101, 102, 104, 105, 106, 108, 109, 111, 112, 113, 115, 116, 118, 119, 120,
  121, 122, 123, 124, 134, 136, 137, 139, 140, 141, 142, 143, 144, 145, 148, 150, 151, 153, 154, 155, 157, 158, 160,
  161, 162, 164, 165, 167, 168, 169, 171, 172, 174, 175, 176, 178, 179, 181, 182, 183, 185, 186, 188, 189, 190, 192,
  193, 195, 196, 197, 199, 200, 202, 203, 204, 206, 207, 209, 210, 211, 213, 214, 216, 217, 218, 220, 221, 223, 224,
  225, 227, 228, 230, 231, 232, 234, 235, 237, 238, 239, 241, 242, 244, 245, 246, 248, 249, 251, 252, 253, 255, 256,
  258, 259, 260, 262, 263, 265, 266, 267, 270, 271, 272, 275, 276, 277, 279, 280, 282, 283, 284, 287, 288, 289, 292,
  293, 294, 296, 297, 299, 300, 301, 303, 304, 306, 307, 308, 311, 312]
noncomputable abbrev hkK : Hook := kmHook KH asK (fun _ => by kernel_rfl) [302, 295, 290, 285, 309]
/-- the library's quick twins of the model's step (where a library has none of that name: the model's own) -/
noncomputable def okQ : Nat → Option Value → Thread → Bool := by first | exact Fast.tw6613529449190102663 | exact stepOk
noncomputable def turnQ : (Code → Sem PySem.Fin) → Program → World → SharedT → Thread → Option (SharedT × Thread) := by first | exact Fast.tw10156331382660048174 | exact stepT
noncomputable def denQ : Code → Sem PySem.Fin := by first | exact Fast.tw11892475500146522536 Fast.tw14364793385576792824 | exact denote treeTable
theorem okQ_eq : stepOk = okQ := by first | exact Fast.te6613529449190102663 | rfl
theorem turnQ_eq : stepT = turnQ := by first | exact Fast.te10156331382660048174 | rfl
theorem denQ_eq : denote treeTable = denQ := by first | (rw [Fast.te11892475500146522536, Fast.te14364793385576792824]; rfl) | rfl
/-- the top's run over a heap kept as a tree -/
noncomputable def topRunQ (p : Program) (w : World) (n₀ : Nat) (ann : Option Value) : Nat → SharedT → Thread → Option SharedT
  | 0, _, _ => none
  | n + 1, s, t => match through t with
    | true => some s
    | false => match okQ n₀ ann t with
      | false => none
      | true => match turnQ denQ p w s t with
        | some (s', t') => topRunQ p w n₀ ann n s' t'
        | none => none
theorem topRunQ_of {p : Program} {w : World} {n₀ : Nat} {ann : Option Value} : ∀ {n : Nat} {s s' : SharedT} {t : Thread}, topRunQ p w n₀ ann n s t = some s' → topRun treeTable p w n₀ ann n s.abs t = some s'.abs
  | 0, _, _, _, h => by cases h
  | n + 1, s, s', t, h => by
    unfold topRunQ at h
    rw [← okQ_eq, ← turnQ_eq, ← denQ_eq] at h
    unfold topRun
    cases ht : through t with
    | true => rw [ht] at h; cases h; rfl
    | false =>
      rw [ht] at h
      cases hk : stepOk n₀ ann t with
      | false => rw [hk] at h; cases h
      | true =>
        rw [hk] at h
        cases hs : stepT (denote treeTable) p w s t with
        | none => rw [hs] at h; cases h
        | some r => obtain ⟨s₂, t₂⟩ := r; rw [hs] at h; rw [stepT_spec hs]; exact topRunQ_of h
/-- what is left when the top has run, from two looks at the run -/
theorem left_of {p q : Program} {loose : List Str} {Xt : Shared → Bool} {α : Type} {Yf : Shared → α} {Ya : World → α} {N m : Nat} {ann : Option Value} {T : Params → BT}
    (hb : ∀ w : World, (fencedOpening treeTable p w N).map (fun s => (s.heap, s.gens, s.drawn, s.toks)) = some (boot_heap w.params, Array.mk [], boot_drawn, boot_toks))
    (hT : ∀ P, absHeap (T P) m {} = boot_heap P)
    (hz : ∀ P, ((boot_heap P).isNs mainGlobals && (Array.mk [] : Array GenState).size == 0) = true ∧ (boot_heap P).objs.size = m ∧ (boot_heap P).nsMap mainGlobals "__annotations__" = ann)
    (l1 : ∀ (w : World) (os : OsState), (topRunQ p w m ann N ⟨T w.params, m, {}, Array.mk [], boot_drawn, boot_toks, os⟩ (topStub p)).map (fun s => ((staticsOk (importedModules p.main.body) (boot_heap w.params) s.abs.heap && namesBound p s.abs.heap && gensDone s.abs && laidKept (boot_heap w.params) s.abs.heap), Yf s.abs)) = some (true, Ya w))
    (l2 : ∀ (w : World) (os : OsState), (topRunQ p w m ann N ⟨T w.params, m, {}, Array.mk [], boot_drawn, boot_toks, os⟩ (topStub p)).map (fun s => openSeen q loose (importedModules p.main.body) Xt true s.abs) = some (openGood q loose)) : LeftO p q loose Xt Yf Ya N := fun w => by
  obtain ⟨⟨h, gs, d, k, os⟩, e, e'⟩ := Option.map_eq_some_iff.mp (hb w)
  obtain ⟨rfl, rfl, rfl, rfl⟩ : h = boot_heap w.params ∧ gs = Array.mk [] ∧ d = boot_drawn ∧ k = boot_toks := by simpa using e'
  obtain ⟨s, hr, h1⟩ := Option.map_eq_some_iff.mp (l1 w os)
  obtain ⟨s2, hr2, h2⟩ := Option.map_eq_some_iff.mp (l2 w os)
  obtain rfl : s = s2 := Option.some.inj (hr.symm.trans hr2)
  obtain ⟨h3, h4⟩ := Prod.mk.inj h1
  have r := topRunQ_of hr
  have ea : (⟨T w.params, m, {}, Array.mk [], boot_drawn, boot_toks, os⟩ : SharedT).abs = ⟨boot_heap w.params, Array.mk [], boot_drawn, boot_toks, os⟩ := congrArg (fun x => Shared.mk x (Array.mk []) boot_drawn boot_toks os) (hT w.params)
  rw [ea] at r
  obtain ⟨z1, z2, z3⟩ := hz w.params
  have t : topFrom treeTable p w N ⟨boot_heap w.params, Array.mk [], boot_drawn, boot_toks, os⟩ = some s.abs := by
    unfold topFrom
    dsimp only
    rw [z1, z2, z3, r]
    show (match staticsOk (importedModules p.main.body) (boot_heap w.params) s.abs.heap && namesBound p s.abs.heap && gensDone s.abs && laidKept (boot_heap w.params) s.abs.heap with | true => some s.abs | false => none) = _
    rw [h3]
  unfold openEnds
  rw [e]
  show (topFrom treeTable p w N _).map _ = _
  rw [t]
  exact congrArg some (Prod.ext h2 h4)
abbrev pwL := PySem.Challenge.pw_pf0238_01
noncomputable def bootT (P : Params) : BT := ((boot_heap P).objs.toList.foldl (fun x o => (x.1.ins x.2 o, x.2 + 1)) (BT.nil, 0)).1
theorem look1K (w : World) (os : OsState) : (topRunQ pwL w 11 (some (.ref 6)) 4812 ⟨bootT w.params, 11, {}, Array.mk [], boot_drawn, boot_toks, os⟩ (topStub pwL)).map (fun s => ((staticsOk (importedModules pwL.main.body) (boot_heap w.params) s.abs.heap && namesBound pwL s.abs.heap && gensDone s.abs && laidKept (boot_heap w.params) s.abs.heap), hkK.obs s.abs)) = some (true, hkK.val w) := by kernel_rfl
theorem look2K (w : World) (os : OsState) : (topRunQ pwL w 11 (some (.ref 6)) 4812 ⟨bootT w.params, 11, {}, Array.mk [], boot_drawn, boot_toks, os⟩ (topStub pwL)).map (fun s => openSeen qV [] (importedModules pwL.main.body) (fun _ => true) true s.abs) = some (openGood qV []) := by kernel_rfl
theorem bootTK (P : Params) : absHeap (bootT P) 11 {} = boot_heap P := by kernel_rfl
theorem bootSizeK (P : Params) : ((boot_heap P).isNs mainGlobals && (Array.mk [] : Array GenState).size == 0) = true ∧ (boot_heap P).objs.size = 11 ∧ (boot_heap P).nsMap mainGlobals "__annotations__" = some (.ref 6) := ⟨by kernel_rfl, by kernel_rfl, by kernel_rfl⟩
theorem boot1K : opening pwL = plainProg pwL.main.scope.names := by kernel_rfl
theorem boot2K (s : Shared) : fenceModules? pwL s = some s := by kernel_rfl
theorem leftK : LeftO pwL qV [] (fun _ => true) hkK.obs hkK.val 4812 := left_of (boot_open boot1K (by decide) boot2K) bootTK bootSizeK look1K look2K
abbrev rwL := PySem.Challenge.rw_pf0238_01
theorem saidKa : looksOpen rwL.row.prog = true := by
  try rw [Fast.te12908688711261696721]
  kernel_rfl
theorem saidKb : rwL.row.partSaid = true := by
  unfold OpenRow.partSaid
  rw [saidKa]
  kernel_rfl
theorem saidK1 : rwL.row.wellSaid = true := by
  unfold OpenRow.wellSaid
  rw [saidKb]
  kernel_rfl
theorem saidK2 : (decide (rwL.foot ≤ (behindTheImports rwL.prog).length) && rwL.footing.all footLine && noClassBlock rwL.prog rwL.footing) = true := by kernel_rfl
theorem saidK6 : noRoadLSs { strict := true, foot := some rwL.bound', writes := rwL.writes, may := rwL.may } rwL.footing = true := by kernel_rfl
theorem saidK7 : defStands rwL.about rwL.above = true := by kernel_rfl
theorem saidK8 : rwL.namesIt = true := by kernel_rfl
theorem saidK : rwL.wellSaid = true := by
  unfold OpenLaw.wellSaid
  have e2 := saidK2
  simp only [Bool.and_eq_true] at e2
  rw [saidK1, e2.1.1, e2.1.2, e2.2, saidK6, saidK7, saidK8]
  kernel_rfl
theorem okK : (chainsOk qV && opensWell pwL && (frees rwL.row.toRowW && rwL.row.within.isEmpty)) = true := by kernel_rfl
/-- the head: what is left of the row is the walk of its def -/
theorem hd (call : ∀ d kwd, defOf qV (Str.ofString "law") = some (d, kwd) → OwesN qV [] (fun _ _ => True) hkK.says PySem.Challenge.rw_pf0238_01.row.toRowW d kwd) : PySem.Challenge.rw_pf0238_01.Holds := by
  refine holds_law saidK fun _ => ?_
  refine holds_narrow (q := qV) (loose := []) (Xt := fun _ => true) (XP := fun _ _ => True) (Yf := hkK.obs) (Ya := hkK.val) (YP := hkK.says) (N := 4812) leftK hkK.of hkK.keeps (fun _ _ => trivial) (fun _ _ _ _ _ => trivial) rfl rfl rfl (fun _ _ => recFacts_nil rfl) rfl (row_said saidK) okK ⟨rfl, rfl, rfl, rfl, rfl, by decide +kernel⟩ ⟨[.list []], by decide +kernel, by decide +kernel⟩ (call _ _ rfl)


/-- room for n more nested activations -/
structure Room (A : Around) (n : Nat) : Prop where
  hd : A.handled = none
  dep : A.depth + n ≤ 900
  un : A.units + 8 * n ≤ 9000

theorem Room.le {A : Around} {m n : Nat} (R : Room A n) (h : m ≤ n) : Room A m := ⟨R.hd, by have := R.dep; omega, by have := R.un; omega⟩
theorem Room.deeper {A : Around} {n : Nat} {env : Env} (R : Room A (n + 1)) : Room (A.deeper env) n :=
  ⟨R.hd, by rw [depth_deeper]; have := R.dep; omega, by rw [units_deeper]; have := R.un; omega⟩
theorem Room.under {A : Around} {n : Nat} {c : Code} (R : Room A (n + 1)) (hw : c.weight ≤ 1) (hu : c.cUnits ≤ 8) : Room (A.under c) n :=
  ⟨R.hd, by have := R.dep; show A.depth + c.weight + n ≤ 900; omega, by have := R.un; show A.units + c.cUnits + 8 * n ≤ 9000; omega⟩
theorem Room.deep {A : Around} {n : Nat} (R : Room A n) : A.depth < recursionLimit := by have := R.dep; simp only [recursionLimit]; omega

/-- what stands around a running frame -/
structure Cx (K : Frag) (p : Program) (loose : List Str) (mean : ExcName → Option Value) (mg mb : Str → Option Value) (A₀ : Around) (base g : Heap) (outer : List Env) : Prop where
  B : Below A₀ base outer g
  XB : K.In base
  TB : Top p loose mean mg mb base
  D : KtsDicts (outer.filterMap (·.frame)) g

section
variable {K : Frag} {p : Program} {loose : List Str} {mean : ExcName → Option Value} {mg mb : Str → Option Value} {A₀ : Around} {base g g' h : Heap} {outer : List Env} {env : Env} {L : Addr} {m : Str → Option Value} {news news' : List (Addr × Obj)}

theorem Cx.X (C : Cx K p loose mean mg mb A₀ base g outer) : K.In g := C.XB.keeps C.B.stays
theorem Cx.T (C : Cx K p loose mean mg mb A₀ base g outer) : Top p loose mean mg mb g := C.TB.keeps C.B.stays
theorem Cx.TR (C : Cx K p loose mean mg mb A₀ base g outer) : TopRead p loose mg mb g := topRead_of C.T
theorem Cx.frames (C : Cx K p loose mean mg mb A₀ base g outer) : (A₀.deeper env).frames = some (env :: outer) := Around.frames_deeper C.B.stack

/-- an exception just made -/
structure Fresh (h h' : Heap) (e : Addr) (cls : Value) : Prop where
  keeps : ∀ b o, h.get? b = some o → h'.get? b = some o
  new : h.get? e = none
  there : ∃ ob t, h'.get? e = some ob ∧ ob.cls = cls ∧ ob.data = .fields #[t, .none, .none, .none, .bool false, .none]

/-- an exception flies in the frame env (its locals at L), over the ledger news -/
def Thrown (base g : Heap) (env : Env) (outer : List Env) (L : Addr) (cls : Value) (news : List (Addr × Obj)) (e : Value) (h : Heap) : Prop :=
  ∃ ea, e = .ref ea ∧ ((∃ hh m, Fr g L hh m ∧ News g L hh news ∧ Fresh hh h ea cls) ∨ (∃ g₂ m, Fr g L g₂ m ∧ RaisedSN base g₂ (env :: outer) ea cls news h ∧ g₂.UpToSlots h) ∨ (∃ g₂ m, Fr g L g₂ m ∧ RaisedHN base g₂ (env :: outer) L ea cls news h ∧ g₂.UpToSlots h))

theorem raisedSN_sub {G : Heap} {l : List Env} {e : Addr} {cls : Value} (R : RaisedSN base G l e cls news h) (hs : ∀ q ∈ news', q ∈ news) : RaisedSN base G l e cls news' h := by
  obtain ⟨B, a0, h1, h2, h3, h4⟩ := R
  exact ⟨B, a0, h1, h2, fun q hq => h3 q (hs q hq), h4⟩
theorem raisedHN_sub {G : Heap} {l : List Env} {e : Addr} {cls : Value} (R : RaisedHN base G l L e cls news h) (hs : ∀ q ∈ news', q ∈ news) : RaisedHN base G l L e cls news' h := by
  obtain ⟨B, a0, h1, h2, h3, h4⟩ := R
  exact ⟨B, a0, h1, h2, fun q hq => h3 q (hs q hq), h4⟩
theorem Thrown.sub {cls e : Value} (T : Thrown base g env outer L cls news e h) (hs : ∀ q ∈ news', q ∈ news) : Thrown base g env outer L cls news' e h := by
  obtain ⟨ea, he, T⟩ := T
  refine ⟨ea, he, T.imp (fun ⟨hh, m, F, N, X⟩ => ⟨hh, m, F, fun q hq => N q (hs q hq), X⟩) fun T => T.imp (fun ⟨g₂, m, F, R, U⟩ => ⟨g₂, m, F, raisedSN_sub R hs, U⟩) fun ⟨g₂, m, F, R, U⟩ => ⟨g₂, m, F, raisedHN_sub R hs, U⟩⟩

theorem mem_frames {b : Addr} (hf : env.frame = some L) (hm : b ∈ (env :: outer).filterMap (·.frame)) : b = L ∨ b ∈ outer.filterMap (·.frame) := by
  obtain ⟨env', he, hf'⟩ := List.mem_filterMap.mp hm
  rcases List.mem_cons.mp he with rfl | he
  · exact .inl (Option.some.inj (hf'.symm.trans hf))
  · exact .inr (List.mem_filterMap.mpr ⟨env', he, hf'⟩)

theorem leaveT {M : Model} {E : Value → Shared → Prop} {s' : Shared} {cls e : Value} {Q : Unit → Shared → Prop} (C : Cx K p loose mean mg mb A₀ base g outer) (hf : env.frame = some L) (hk : env.scope.kind = .function)
    (T : Thrown base g env outer L cls news e s'.heap) (hQ : ∀ h' ea, e = .ref ea → RaisedSN base g outer ea cls news h' → g.UpToSlots h' → Q () { s' with heap := h' }) :
    wpAny M (A₀.deeper env) (leaving env e) Q E s' := by
  obtain ⟨e, rfl, T⟩ := T
  rcases T with ⟨h, m, F, N, hx⟩ | ⟨g₂, m, F, R, hsm⟩ | ⟨g₂, m, F, R, hsm⟩
  · have K' := pushX C.B F hf hk
    have hin : ∀ env' ∈ (env :: outer), ∀ b, env'.frame = some b → b ∈ (env :: outer).filterMap (·.frame) := fun env' he b hb => List.mem_filterMap.mpr ⟨env', he, hb⟩
    have st : base.StaysIn (hideAll h ((env :: outer).filterMap (·.frame))) := fun b o q => hideAll_get _ (K'.stays b o q) fun hm => by
      rw [(K'.frames.mem hm).1] at q; cases q
    have sg : ∀ b o, g.get? b = some o → b ∉ outer.filterMap (·.frame) → (hideAll h ((env :: outer).filterMap (·.frame))).get? b = some o := fun b o q nm => hideAll_get _ (F.keep b o q) fun hm => by
      rcases mem_frames hf hm with z | z
      · rw [z, kts_self F] at q
        cases q
      · exact nm z
    have hl : ∀ q ∈ news, (hideAll h ((env :: outer).filterMap (·.frame))).get? q.1 = some q.2 ∧ g.get? q.1 = none ∧ base.get? q.1 = none := fun q hq => by
      refine ⟨hideAll_get _ (N q hq).1 fun hm => ?_, (N q hq).2.2, fresh_of_stays C.B.stays (N q hq).2.2⟩
      obtain ⟨env', he, hf'⟩ := List.mem_filterMap.mp hm
      rcases List.mem_cons.mp he with rfl | he
      · exact (N q hq).2.1 (Option.some.inj (hf'.symm.trans hf))
      · obtain ⟨o, ho, _⟩ := (C.B.frames.mem (List.mem_filterMap.mpr ⟨env', he, hf'⟩)).2
        rw [(N q hq).2.2] at ho; cases ho
    obtain ⟨ob, tp, he, hcls, hd⟩ := hx.there
    have hen : (hideAll h ((env :: outer).filterMap (·.frame))).get? e = none := by
      cases q : (hideAll h ((env :: outer).filterMap (·.frame))).get? e with
      | none => rfl
      | some o => have := of_hideAll _ q; rw [hx.new] at this; cases this
    refine wpAny_leaving_firstW (a0 := tp) K'.stack ((funFrames_hide K'.frames hin).of_keeps fun b o hb _ => ⟨o, hx.keeps b o hb, rfl⟩) hf he (fun b o hb => hx.keeps b o (of_hideAll _ hb)) hen hd rfl rfl fun h' hL => ?_
    obtain ⟨k1, ⟨_, _, k2⟩, k3, k4⟩ := hL
    exact hQ h' e rfl ⟨_, tp, st, sg, hl, k1, hen, k2, by rw [← hcls]; exact k3⟩ (((Heap.UpToSlots.of_keeps F.keep).trans (Heap.UpToSlots.of_keeps hx.keeps)).trans k4)
  · obtain ⟨B, a0, hB, hBG, hl, hfl⟩ := R
    exact wpAny_leaves_onW (Around.frames_deeper C.B.stack) hf hfl fun h' x1 x2 =>
      hQ h' e rfl ⟨B, a0, hB, fun b o q nm => hBG b o (F.keep b o q) (fun hm => by
        rcases mem_frames hf hm with z | z
        · rw [z, kts_self F] at q
          cases q
        · exact nm z), fun q hq => ⟨(hl q hq).1, kts_none F.keep (hl q hq).2.1, (hl q hq).2.2⟩, x1⟩ ((Heap.UpToSlots.of_keeps F.keep).trans (hsm.trans x2))
  · obtain ⟨B, a0, hB, hBG, hl, hfl⟩ := R
    unfold leaving
    refine wpAny_bind (wpAny_noteFrame_againW hf hfl.2.2.2 ?_)
    refine wpAny_landsW hfl fun h' hfl x2 => ?_
    obtain ⟨k1, k2, ⟨_, _, k3⟩, k4⟩ := hfl
    exact hQ h' e rfl ⟨B, a0, hB, fun b o q nm => hBG b o (F.keep b o q) (fun hm => by
        rcases mem_frames hf hm with z | z
        · rw [z, kts_self F] at q
          cases q
        · exact nm z), fun q hq => ⟨(hl q hq).1, kts_none F.keep (hl q hq).2.1, (hl q hq).2.2⟩, k1, k2, k3, k4⟩ ((Heap.UpToSlots.of_keeps F.keep).trans (hsm.trans x2))

theorem setFlight_heldW {M : Model} {A : Around} {E : Value → Shared → Prop} {s : Shared} {base : Heap} {l : List Env} {e L : Addr} {cls a0 : Value} {Q : Unit → Shared → Prop} (R : Heap.HeldW base l e cls a0 L s.heap)
    (h : ∀ h', Heap.HeldW base l e cls a0 L h' → s.heap.UpToSlots h' → Q () { s with heap := h' }) : wpAny M A (setFlight (.ref e) (some L)) Q E s := by
  obtain ⟨hkb, hen, hl, oe, vs, T, oT, ts, he, hcls, hd, h1, hnT, hTe, hT, hdT, h3⟩ := R
  have hsz3 : 3 < ts.size := (Array.getElem?_eq_some_iff.mp h3).1
  have other : ∀ b, b ≠ T → (s.heap.update T (Obj.mapFields (·.setIfInBounds 3 ((some L).elim Value.none fun f => rawInt f)))).get? b = s.heap.get? b :=
    fun b hb => Heap.get?_update_other _ _ (Ne.symm hb)
  have noRecord : ∀ b o, s.heap.get? b = some o → (∀ vs, o.data ≠ .fields vs) → b ≠ T := fun b o hb hnf q => by
    rw [q, hT] at hb; injection hb with hb; subst hb; exact hnf ts hdT
  unfold setFlight
  refine wpAny_bind (wpAny_field he hd h1 ?_)
  rw [if_pos (show (Value.ref T != Value.none) = true from by simp)]
  refine wpAny_setField hT hdT hsz3 (h _ ⟨fun b o hbo => (other b fun q => by rw [q, hnT] at hbo; cases hbo).trans (hkb b o hbo), hen,
    hl.of_keeps fun b o hb hnf => ⟨o, (other b (noRecord b o hb hnf)).trans hb, rfl⟩, ?_⟩ fun b o hb hnf => ⟨o.slots, (other b (noRecord b o hb hnf)).trans hb⟩)
  exact ⟨oe, vs, T, _, _, (other e (Ne.symm hTe)).trans he, hcls, hd, h1, hnT, hTe, Heap.get?_update_self _ hT (Obj.isFreed_of_fields (Obj.data_mapFields hdT _)), Obj.data_mapFields hdT _, by simp [hsz3]⟩

/-- the noting of a frame makes it held -/
theorem noteT {M : Model} {A : Around} {E : Value → Shared → Prop} {s' : Shared} {cls : Value} {e : Value} {Q : Unit → Shared → Prop} (C : Cx K p loose mean mg mb A₀ base g outer) (hA : A.frames = some (env :: outer)) (hf : env.frame = some L) (hk : env.scope.kind = .function)
    (T : Thrown base g env outer L cls news e s'.heap) (hQ : ∀ h' ea g₂ m, e = .ref ea → Fr g L g₂ m → RaisedHN base g₂ (env :: outer) L ea cls news h' → g₂.UpToSlots h' → Q () { s' with heap := h' }) :
    wpAny M A (noteFrame e env) Q E s' := by
  obtain ⟨e, rfl, T⟩ := T
  rcases T with ⟨h, m, F, N, hx⟩ | ⟨g₂, m, F, R, hsm⟩ | ⟨g₂, m, F, R, hsm⟩
  · have K' := pushX C.B F hf hk
    have hin : ∀ env' ∈ (env :: outer), ∀ b, env'.frame = some b → b ∈ (env :: outer).filterMap (·.frame) := fun env' he b hb => List.mem_filterMap.mpr ⟨env', he, hb⟩
    have st : base.StaysIn (hideAll h ((env :: outer).filterMap (·.frame))) := fun b o q => hideAll_get _ (K'.stays b o q) fun hm => by
      rw [(K'.frames.mem hm).1] at q; cases q
    have hl : ∀ q ∈ news, (hideAll h ((env :: outer).filterMap (·.frame))).get? q.1 = some q.2 ∧ h.hide q.1 = h.hide q.1 ∧ base.get? q.1 = none := fun q hq => by
      refine ⟨hideAll_get _ (N q hq).1 fun hm => ?_, rfl, fresh_of_stays C.B.stays (N q hq).2.2⟩
      obtain ⟨env', he, hf'⟩ := List.mem_filterMap.mp hm
      rcases List.mem_cons.mp he with rfl | he
      · exact (N q hq).2.1 (Option.some.inj (hf'.symm.trans hf))
      · obtain ⟨o, ho, _⟩ := (C.B.frames.mem (List.mem_filterMap.mpr ⟨env', he, hf'⟩)).2
        rw [(N q hq).2.2] at ho; cases ho
    obtain ⟨ob, tp, he, hcls, hd⟩ := hx.there
    have hen : (hideAll h ((env :: outer).filterMap (·.frame))).get? e = none := by
      cases q : (hideAll h ((env :: outer).filterMap (·.frame))).get? e with
      | none => rfl
      | some o => have := of_hideAll _ q; rw [hx.new] at this; cases this
    unfold noteFrame
    simp only [hf]
    refine wpAny_bind (wpAny_field he hd (show (#[tp, Value.none, Value.none, Value.none, Value.bool false, Value.none])[1]? = some Value.none from rfl) ?_)
    rw [if_neg (by decide)]
    refine wpAny_entryW (a0 := tp) hA ((funFrames_hide K'.frames hin).of_keeps fun b o hb _ => ⟨o, hx.keeps b o hb, rfl⟩) hf he (fun b o hb => hx.keeps b o (of_hideAll _ hb)) hen hd (by simp) rfl fun h' hN => ?_
    obtain ⟨k1, k2, k3, k4⟩ := hN
    -- the ledger's own part, hidden
    have hnn : ∀ q ∈ news, (hideAll h (news.map (·.1))).get? q.1 = none := fun q hq => hideAll_none _ (List.mem_map_of_mem hq)
    refine hQ h' e (hideAll h (news.map (·.1))) m rfl ⟨?_, fun b o q => hideAll_get _ (F.keep b o q) fun hm => ?_, F.above⟩ ⟨_, tp, st, fun b o q nm => hideAll_get _ (of_hideAll _ q) nm, fun q hq => ⟨(hl q hq).1, hnn q hq, (hl q hq).2.2⟩, k1, hen, k2, by rw [← hcls]; exact k3⟩
      (((Heap.UpToSlots.of_keeps fun b o q => of_hideAll _ q).trans (Heap.UpToSlots.of_keeps hx.keeps)).trans k4)
    · obtain ⟨oL, es, ep, eL, rL⟩ := F.ns
      exact ⟨oL, es, ep, hideAll_get _ eL fun hm => by
        obtain ⟨q, hq, e⟩ := List.mem_map.mp hm
        exact (N q hq).2.1 e, rL⟩
    · obtain ⟨r, hr, rfl⟩ := List.mem_map.mp hm
      rw [(N r hr).2.2] at q; cases q
  · obtain ⟨B, a0, hB, hBG, hl, hfl⟩ := R
    exact wpAny_looks_onW hA hf hfl fun h' x1 x2 => hQ h' e g₂ m rfl F ⟨B, a0, hB, hBG, hl, x1⟩ (hsm.trans x2)
  · obtain ⟨B, a0, hB, hBG, hl, hfl⟩ := R
    exact wpAny_noteFrame_againW hf hfl.2.2.2 (hQ _ e g₂ m rfl F ⟨B, a0, hB, hBG, hl, hfl⟩ hsm)

/-- what is thrown in a loop's turn passes the loop's own activation -/
theorem passT {M : Model} {A : Around} {E : Value → Shared → Prop} {s' : Shared} {cls e : Value} (C : Cx K p loose mean mg mb A₀ base g outer) (hA : A.frames = some (env :: outer)) (hf : env.frame = some L) (hk : env.scope.kind = .function)
    (T : Thrown base g env outer L cls news e s'.heap) (hE : ∀ h', Thrown base g env outer L cls news e h' → E e { s' with heap := h' }) : notedBy M A env (cameBackBy M A env E) e s' := by
  refine noteT C hA hf hk T fun h' ea g₂ m he F R hsm => ?_
  subst he
  obtain ⟨B, a0, hB, hBG, hl, hfl⟩ := R
  obtain ⟨_, _, _, oe, ws, T, oT, ts, he, hc, hd, h1, _⟩ := id hfl
  refine wpAny_bind (wpAny_field he hd h1 ?_)
  rw [if_neg (show ¬ ((Value.ref T == Value.none) = true) from by simp), hf]
  exact setFlight_heldW hfl fun h'' x1 x2 => hE h'' ⟨ea, rfl, .inr (.inr ⟨g₂, m, F, ⟨B, a0, hB, hBG, hl, x1⟩, hsm.trans x2⟩)⟩

end

/-- what a flow hands back -/
def fv : Flow → Value
  | .ret v => v
  | _ => .none




section
variable {α β : Type} (M : Model) (A : Around) (E : Value → Shared → Prop)
abbrev KB (f : α → Sem β) (Q : β → Shared → Prop) : α → Shared → Prop := fun a s => wpAny M A (f a) Q E s
abbrev KS (t : Sem β) (Q : β → Shared → Prop) : α → Shared → Prop := fun _ s => wpAny M A t Q E s
abbrev KQ (rest : List Stmt) (env : Env) (Q : Flow → Shared → Prop) : Shared → Prop := fun s => wpAny M A (execs rest env) Q E s
abbrev KR (Q : Flow → Shared → Prop) : Value → Shared → Prop := fun v s => Q (.ret v) s
abbrev KE (rest : List Stmt) (env : Env) (Q : Flow → Shared → Prop) : Value → Shared → Prop := fun v s => v = .none ∧ wpAny M A (execs rest env) Q E s
abbrev KT (Q : List α → Shared → Prop) (v : α) : List α → Shared → Prop := fun vs s => Q (v :: vs) s
abbrev KCons (pos : Pos) (rest : List Expr) (env : Env) (Q : List Value → Shared → Prop) : Value → Shared → Prop := fun v s => wpAny M A (spliced (backTo pos (starEach rest env))) (KT Q v) E s
abbrev KCall (pos : Pos) (args : List Expr) (env : Env) (Q : Value → Shared → Prop) : Value → Shared → Prop := fun f s => wpAny M A (callWith pos f [] (backTo pos (starEach args env)) []) Q E s
abbrev KMet (pos : Pos) (args : List Expr) (env : Env) (Q : Value → Shared → Prop) : Value → List Value → Shared → Prop := fun f xs s => wpAny M A (callWith pos f xs (backTo pos (starEach args env)) []) Q E s
abbrev KBin (op : Operator) (r : Expr) (env : Env) (Q : Value → Shared → Prop) : Value → Shared → Prop := fun a s => wpAny M A (eval r env) (KB M A E (binaryOp op a) Q) E s
abbrev KSub (value slice : Expr) (env : Env) (Q : Value → Shared → Prop) : Value → Shared → Prop := fun o s => wpAny M A (eval slice env) (KB M A E (subscriptTail value slice o) Q) E s
abbrev KAttr (name : Str) (Q : Value → Shared → Prop) : Value → Shared → Prop := fun o s => wpAny M A (getAttr o name true) Q E s
abbrev KSet (name : Str) (v : Value) (rest : List Stmt) (env : Env) (Q : Flow → Shared → Prop) : Value → Shared → Prop := fun o s => wpAny M A (setAttr o name v) (KS M A E (execs rest env) Q) E s
abbrev KSat (o : Expr) (name : Str) (rest : List Stmt) (env : Env) (Q : Flow → Shared → Prop) : Value → Shared → Prop := fun v s => wpAny M A (eval o env) (KSet M A E name v rest env Q) E s
end
/-- a flow that goes on with k, else leaves by Q -/
def thenC (Q : Flow → Shared → Prop) (k : Shared → Prop) : Flow → Shared → Prop
  | .next, s => k s
  | f, s => Q f s

section
variable {M : Model} {A : Around} {E : Value → Shared → Prop} {s : Shared} {env : Env} {e : Expr} {pos pos' : Pos} {rest : List Stmt} {Q : Flow → Shared → Prop} {k : Shared → Prop}

theorem r_cons {st : Stmt} (h : wpAny M A (exec st env) (thenC Q (KQ M A E rest env Q)) E s) : wpAny M A (execs (st :: rest) env) Q E s :=
  wpAny_execs_cons (wpAny_mono h (fun f s' hf => by cases f <;> exact hf) fun _ _ x => x)
theorem r_nil (h : Q .next s) : wpAny M A (execs [] env) Q E s := wpAny_execs_nil h
theorem r_nilC (h : k s) : wpAny M A (execs [] env) (thenC Q k) E s := wpAny_execs_nil h
theorem r_ret (h : wpAny M A (eval e env) (KR Q) E s) : wpAny M A (execs (.Return (some e) pos :: rest) env) Q E s :=
  r_cons (wpAny_Return_some h)
theorem r_retC (h : wpAny M A (eval e env) (KR Q) E s) : wpAny M A (execs (.Return (some e) pos :: rest) env) (thenC Q k) E s :=
  r_cons (wpAny_Return_some h)
theorem r_assign {x : Str} (hs : swapsWith e (some (Expr.Name x pos')) pos.line env = pure false) (h : wpAny M A (eval e env) (KB M A E (storeName env x) (KS M A E (execs rest env) Q)) E s) : wpAny M A (execs (.Assign [.Name x pos'] e pos :: rest) env) Q E s :=
  r_cons (wpAny_Assign_Name h hs)
theorem r_expr (hi : interactive env = false) (hs : swapsWith e none pos.line env = pure false) (h : wpAny M A (eval e env) (KE M A E rest env Q) E s) : wpAny M A (execs (.Expr e pos :: rest) env) Q E s :=
  r_cons (wpAny_Expr (wpAny_mono h (fun v s' hv => by obtain ⟨rfl, hv⟩ := hv; exact hv) fun _ _ x => x) hi hs)
theorem r_if {test : Expr} {body orelse : List Stmt} (h : wpAny M A (PySem.isTrue test env (eval test env))
      (fun b s₂ => if b = true then wpAny M A (execs body env) (thenC Q (KQ M A E rest env Q)) E s₂ else wpAny M A (execs orelse env) (thenC Q (KQ M A E rest env Q)) E s₂) E s) :
    wpAny M A (execs (.If test body orelse pos :: rest) env) Q E s := r_cons (wpAny_If h)
/-- an if without else whose body leaves -/
theorem r_ifL {test : Expr} {body : List Stmt} (h : wpAny M A (PySem.isTrue test env (eval test env))
      (fun b s₂ => (b = true → wpAny M A (execs body env) (thenC Q (KQ M A E rest env Q)) E s₂) ∧ (b = false → wpAny M A (execs rest env) Q E s₂)) E s) :
    wpAny M A (execs (.If test body [] pos :: rest) env) Q E s := r_if (wpAny_mono h (fun b s₂ hb => by
      cases b
      · rw [if_neg Bool.false_ne_true]; exact r_nilC (hb.2 rfl)
      · rw [if_pos rfl]; exact hb.1 rfl) fun _ _ x => x)
end

section
variable {M : Model} {A : Around} {E : Value → Shared → Prop} {env : Env} {pos np : Pos} {Q : Value → Shared → Prop} {h : Heap} {G : Array GenState} {D : Drawn} {t : Nat} {O : OsState}
theorem e_int {i : Int} {k : Nat} (hq : Q (.int i t) ⟨h, G, D, t + 1, O⟩) : wpAny M A (eval (.Constant (.int i) k pos) env) Q E ⟨h, G, D, t, O⟩ := wpAny_Constant_int hq
theorem e_str {x : Str} {k : Nat} (hq : Q (.str x t) ⟨h, G, D, t + 1, O⟩) : wpAny M A (eval (.Constant (.str x) k pos) env) Q E ⟨h, G, D, t, O⟩ := wpAny_Constant_str hq
theorem e_bytes {x : List UInt8} {k : Nat} (hq : Q (.bytes x.toArray t) ⟨h, G, D, t + 1, O⟩) : wpAny M A (eval (.Constant (.bytes x) k pos) env) Q E ⟨h, G, D, t, O⟩ := PySem.W.Constant_bytes hq
/-- the items of a call or a display -/
theorem a_cons {e : Expr} {rest : List Expr} {s : Shared} {Q : List Value → Shared → Prop} (hs : starEach (e :: rest) env = (false, eval e env) :: starEach rest env) (hq : wpAny M A (eval e env) (KCons M A E pos rest env Q) E s) : wpAny M A (spliced (backTo pos (starEach (e :: rest) env))) Q E s := spliced_more hq hs
theorem a_nil {s : Shared} {Q : List Value → Shared → Prop} (hq : Q [] s) : wpAny M A (spliced (backTo pos (starEach [] env))) Q E s := spliced_none hq
end

section
variable {prog : Program} {w : World} {A : Around} {E : Value → Shared → Prop} {Q : Value → Shared → Prop} {h : Heap} {G : Array GenState} {D : Drawn} {t : Nat} {O : OsState} {a b : Int} {u v : Tok}
theorem o_add (hq : Q (.int (a + b) t) ⟨h, G, D, t + 1, O⟩) : wpAny (model prog w) A (binaryOp .Add (.int a u) (.int b v)) Q E ⟨h, G, D, t, O⟩ := add_int hq
theorem o_sub (hq : Q (.int (a - b) t) ⟨h, G, D, t + 1, O⟩) : wpAny (model prog w) A (binaryOp .Sub (.int a u) (.int b v)) Q E ⟨h, G, D, t, O⟩ := sub_int hq
theorem o_mul (hq : Q (.int (a * b) t) ⟨h, G, D, t + 1, O⟩) (hb : IntMulOk a b) : wpAny (model prog w) A (binaryOp .Mult (.int a u) (.int b v)) Q E ⟨h, G, D, t, O⟩ := mul_int hq hb
theorem o_mod (hb : b ≠ 0) (hq : Q (.int (a.fmod b) t) ⟨h, G, D, t + 1, O⟩) : wpAny (model prog w) A (binaryOp .Mod (.int a u) (.int b v)) Q E ⟨h, G, D, t, O⟩ := mod_int' hb hq
end
section
variable {M : Model} {A : Around} {E : Value → Shared → Prop} {env : Env} {pos np : Pos} {Q : Value → Shared → Prop} {s : Shared}
theorem e_call {x : Str} {args : List Expr} (h : wpAny M A (eval (.Name x np) env) (KCall M A E pos args env Q) E s) :
    wpAny M A (eval (.Call (.Name x np) args [] pos) env) Q E s := wpAny_Call_ofName h
theorem e_bin {l r : Expr} {op : Operator} (h : wpAny M A (eval l env) (KBin M A E op r env Q) E s) : wpAny M A (eval (.BinOp l op r pos) env) Q E s := wpAny_BinOp h
theorem e_tup {elts : List Expr} {k : Nat} (h : wpAny M A (spliced (backTo pos (starEach elts env))) (KB M A E newTuple Q) E s) : wpAny M A (eval (.Tuple elts k pos) env) Q E s := Tuple_ h
theorem e_list {elts : List Expr} (h : wpAny M A (spliced (backTo pos (starEach elts env))) (KB M A E newList Q) E s) : wpAny M A (eval (.List elts pos) env) Q E s := List_ h
theorem e_sub {value slice : Expr} (h : wpAny M A (eval value env) (KSub M A E value slice env Q) E s) : wpAny M A (eval (.Subscript value slice pos) env) Q E s := Subscript_ h
theorem e_attr {x name : Str} (he : eval (.Attribute (.Name x np) name pos) env = (do
      let o ← eval (.Name x np) env
      standAt pos.atName
      let r ← holding [o] (getAttr o name true)
      letTemporaryGo (.Name x np) o r
      pure r)) (h : wpAny M A (eval (.Name x np) env) (KAttr M A E name Q) E s) : wpAny M A (eval (.Attribute (.Name x np) name pos) env) Q E s := Attribute_Name_ h he
theorem e_un {op : UnaryOp} {x : Expr} (h : wpAny M A (eval x env) (KB M A E (unaryOp op) Q) E s) : wpAny M A (eval (.UnaryOp op x pos) env) Q E s := wpAny_UnaryOp h
theorem e_cmp {l r : Expr} {op : CmpOp} (hm : behindInMarks op r = false) (h : wpAny M A (eval l env) (fun a s₁ => wpAny M A (eval r env) (KB M A E (compareOp op a) Q) E s₁) E s) : wpAny M A (eval (.Compare l [op] [r] pos) env) Q E s := wpAny_Compare1 h hm
end
section
variable {M : Model} {A : Around} {E : Value → Shared → Prop} {env : Env} {pos pos' : Pos} {Q : Flow → Shared → Prop} {s : Shared} {rest : List Stmt}
theorem r_setattr {o e : Expr} {attr : Str} (hs : swapsWith e (some (o.Attribute attr pos')) pos.line env = pure false) (h : wpAny M A (eval e env) (KSat M A E o attr rest env Q) E s) : wpAny M A (execs (.Assign [o.Attribute attr pos'] e pos :: rest) env) Q E s :=
  r_cons (plainObj_wpAny_Assign_Attribute h hs)
end
/-- a method and what stands ahead of its arguments -/
def MC (k : Value → List Value → Shared → Prop) (fx : Value × List Value) (s : Shared) : Prop := k fx.1 fx.2 s
abbrev KMeth (M : Model) (A : Around) (E : Value → Shared → Prop) (name : Str) (pl : Sem Bool) (k : Value → List Value → Shared → Prop) : Value → Shared → Prop := fun o s => wpAny M A (getMethod o name pl) (MC k) E s
theorem e_mcall {M : Model} {A : Around} {E : Value → Shared → Prop} {env : Env} {apos pos : Pos} {Q : Value → Shared → Prop} {s : Shared} {o : Expr} {name : Str} {args : List Expr} {pl : Sem Bool} (hs : eval ((o.Attribute name apos).Call args [] pos) env = (do
      let ov ← eval o env
      standAt apos.atName
      let __x ← holding [ov] (getMethod ov name pl)
      match __x with | (f, first) => callWith pos f first (backTo pos (starEach args env)) [])) (h : wpAny M A (eval o env) (KMeth M A E name pl (KMet M A E pos args env Q)) E s) : wpAny M A (eval ((o.Attribute name apos).Call args [] pos) env) Q E s := MethodCall_ h hs
theorem mulR {a b : Int} (h1 : 0 ≤ b) (h2 : b < 1000000000000) : IntMulOk a b := by
  have p : (2 : Int) ^ 64 = 18446744073709551616 := by decide
  exact .of_right (intBits_le_64 (by rw [p]; omega) (by rw [p]; omega))

/-- addresses apart -/
def Sep : List (Addr × Obj) → List (Addr × Obj) → Prop
  | [], _ => True
  | x :: r, imm => (∀ p ∈ r ++ imm, p.1 ≠ x.1) ∧ Sep r imm
theorem Sep.mono : ∀ {tn imm imm' : List (Addr × Obj)}, (∀ p ∈ imm', p ∈ imm) → Sep tn imm → Sep tn imm'
  | [], _, _, _, _ => trivial
  | _ :: _, _, _, hs, ⟨h, r⟩ => ⟨fun p hp => h p ((List.mem_append.mp hp).elim (fun q => List.mem_append_left _ q) fun q => List.mem_append_right _ (hs p q)), Sep.mono hs r⟩
theorem Sep.addImm {x : Addr × Obj} : ∀ {tn imm : List (Addr × Obj)}, (∀ p ∈ tn, p.1 ≠ x.1) → Sep tn imm → Sep tn (x :: imm)
  | [], _, _, _ => trivial
  | y :: _, _, hx, ⟨h, r⟩ => ⟨fun p hp => by
      rcases List.mem_append.mp hp with q | q
      · exact h p (List.mem_append_left _ q)
      · rcases List.mem_cons.mp q with rfl | q
        · exact Ne.symm (hx y (.head _))
        · exact h p (List.mem_append_right _ q), Sep.addImm (fun p hp => hx p (.tail _ hp)) r⟩
theorem Sep.front {x : Addr × Obj} : ∀ {pre post imm : List (Addr × Obj)}, Sep (pre ++ x :: post) imm → Sep (x :: (pre ++ post)) imm
  | [], _, _, h => h
  | y :: pre, post, imm, ⟨h, r⟩ => by
    obtain ⟨h2, r2⟩ := Sep.front r
    refine ⟨fun p hp => ?_, fun p hp => ?_, r2⟩
    · rcases List.mem_append.mp hp with q | q
      · rcases List.mem_cons.mp q with rfl | q
        · exact Ne.symm (h x (by simp))
        · exact h2 p (List.mem_append_left _ q)
      · exact h2 p (List.mem_append_right _ q)
    · refine h p ?_
      rcases List.mem_append.mp hp with q | q
      · rcases List.mem_append.mp q with q | q
        · exact List.mem_append_left _ (List.mem_append_left _ q)
        · exact List.mem_append_left _ (List.mem_append_right _ (.tail _ q))
      · exact List.mem_append_right _ q
theorem Sep.freeze {x : Addr × Obj} {tn imm : List (Addr × Obj)} (h : Sep (x :: tn) imm) : Sep tn (x :: imm) :=
  Sep.addImm (fun p hp => h.1 p (List.mem_append_left _ hp)) h.2
theorem Sep.drop {x : Addr × Obj} {tn imm : List (Addr × Obj)} (h : Sep (x :: tn) imm) : Sep tn imm := h.2

/-- the frame's state: its locals m at L, the things that may turn, the things that stand -/
structure Sta (h₀ : Heap) (L : Addr) (m : Str → Option Value) (tn imm : List (Addr × Obj)) (h : Heap) : Prop where
  F : Fr h₀ L h m
  N : News h₀ L h (tn ++ imm)
  D : Sep tn imm
section
variable {h₀ h h' : Heap} {L x : Addr} {o o' : Obj} {m m' : Str → Option Value} {tn tn' imm imm' pre post : List (Addr × Obj)}
theorem Sta.get (S : Sta h₀ L m tn imm h) {p : Addr × Obj} (hp : p ∈ tn ++ imm) : h.get? p.1 = some p.2 := (S.N p hp).1
theorem Sta.front (S : Sta h₀ L m (pre ++ (x, o) :: post) imm h) : Sta h₀ L m ((x, o) :: (pre ++ post)) imm h :=
  ⟨S.F, fun p hp => S.N p (by simp only [List.mem_append, List.mem_cons] at hp ⊢; rcases hp with (q | q | q) | q; exact .inl (.inr (.inl q)); exact .inl (.inl q); exact .inl (.inr (.inr q)); exact .inr q), Sep.front S.D⟩
theorem Sta.f1 {a : Addr × Obj} (S : Sta h₀ L m (a :: (x, o) :: post) imm h) : Sta h₀ L m ((x, o) :: a :: post) imm h := Sta.front (pre := [a]) S
theorem Sta.f2 {a b : Addr × Obj} (S : Sta h₀ L m (a :: b :: (x, o) :: post) imm h) : Sta h₀ L m ((x, o) :: a :: b :: post) imm h := Sta.front (pre := [a, b]) S
theorem Sta.f3 {a b c : Addr × Obj} (S : Sta h₀ L m (a :: b :: c :: (x, o) :: post) imm h) : Sta h₀ L m ((x, o) :: a :: b :: c :: post) imm h := Sta.front (pre := [a, b, c]) S
theorem Sta.f4 {a b c d : Addr × Obj} (S : Sta h₀ L m (a :: b :: c :: d :: (x, o) :: post) imm h) : Sta h₀ L m ((x, o) :: a :: b :: c :: d :: post) imm h := Sta.front (pre := [a, b, c, d]) S
theorem Sta.freeze (S : Sta h₀ L m ((x, o) :: tn) imm h) : Sta h₀ L m tn ((x, o) :: imm) h :=
  ⟨S.F, fun p hp => S.N p (by simp only [List.mem_append, List.mem_cons, List.cons_append] at hp ⊢; rcases hp with q | q | q; exact .inr (.inl q); exact .inl q; exact .inr (.inr q)), S.D.freeze⟩
theorem Sta.drop (S : Sta h₀ L m ((x, o) :: tn) imm h) : Sta h₀ L m tn imm h := ⟨S.F, fun p hp => S.N p (.tail _ hp), S.D.drop⟩
theorem Sta.mono (S : Sta h₀ L m tn imm h) (hs : ∀ p ∈ imm', p ∈ imm) : Sta h₀ L m tn imm' h :=
  ⟨S.F, fun p hp => S.N p ((List.mem_append.mp hp).elim (fun q => List.mem_append_left _ q) fun q => List.mem_append_right _ (hs p q)), S.D.mono hs⟩
theorem Sta.lt (S : Sta h₀ L m tn imm h) : ∀ p ∈ tn ++ imm, p.1 < h.objs.size := fun p hp => Heap.lt_size (S.N p hp).1
/-- a new thing that stands -/
theorem Sta.newImm (S : Sta h₀ L m tn imm h) (o : Obj) (hf : o.isFreed = false := by rfl) : Sta h₀ L m tn ((h.objs.size, o) :: imm) (h.push o) := by
  have N := S.N.push S.F o hf
  refine ⟨S.F.push o, fun p hp => N p ?_, Sep.addImm (fun p hp => Nat.ne_of_lt (S.lt p (List.mem_append_left _ hp))) S.D⟩
  simp only [List.mem_append, List.mem_cons] at hp ⊢
  rcases hp with q | q | q
  · exact .inr (.inl q)
  · exact .inl q
  · exact .inr (.inr q)
/-- a new thing that may turn -/
theorem Sta.newMut (S : Sta h₀ L m tn imm h) (o : Obj) (hf : o.isFreed = false := by rfl) : Sta h₀ L m ((h.objs.size, o) :: tn) imm (h.push o) :=
  ⟨S.F.push o, S.N.push S.F o hf, fun p hp => Nat.ne_of_lt (S.lt p hp), S.D⟩
/-- the first thing turned -/
theorem Sta.turn (S : Sta h₀ L m ((x, o) :: tn) imm h) (k : ∀ b o, b ≠ x → h.get? b = some o → h'.get? b = some o) (hx : h'.get? x = some o') : Sta h₀ L m ((x, o') :: tn) imm h' := by
  have X := S.N _ (.head _)
  obtain ⟨oL, es, ep, eL, rL⟩ := S.F.ns
  refine ⟨⟨⟨oL, es, ep, k _ _ X.2.1.symm eL, rL⟩, fun b o e => k _ _ (by rintro rfl; rw [X.2.2] at e; cases e) (S.F.keep b o e), S.F.above⟩, fun p hp => ?_, S.D⟩
  rcases List.mem_cons.mp hp with rfl | hp
  · exact ⟨hx, X.2⟩
  · exact ⟨k _ _ (S.D.1 p hp) (S.N p (.tail _ hp)).1, (S.N p (.tail _ hp)).2⟩
/-- all but the first thing -/
theorem Sta.dropTurn (S : Sta h₀ L m ((x, o) :: tn) imm h) (k : ∀ b ob, b ∉ [x] → h.get? b = some ob → h'.get? b = some ob) : Sta h₀ L m tn imm h' := by
  refine ⟨⟨S.F.ns.at' fun o e => k _ o (fun q => (S.N _ (.head _)).2.1 (List.mem_singleton.mp q).symm) e, fun b o e => k b o (fun q => by rw [List.mem_singleton.mp q] at e; rw [(S.N _ (.head _)).2.2] at e; cases e) (S.F.keep b o e), S.F.above⟩, fun p hp => ?_, S.D.2⟩
  exact ⟨k _ _ (fun q => S.D.1 p hp (List.mem_singleton.mp q)) (S.N p (.tail _ hp)).1, (S.N p (.tail _ hp)).2⟩
theorem Sta.same {g₁ g₂ h₁ h₂ : Heap} {m₁ m₂ : Str → Option Value} {tn₁ imm₁ tn₂ imm₂ : List (Addr × Obj)} {b : Addr} {o ob : Obj} (S₁ : Sta g₁ L m₁ tn₁ imm₁ h₁) (S₂ : Sta g₂ L m₂ tn₂ imm₂ h₂) (i₁ : (b, ob) ∈ tn₁ ++ imm₁) (i₂ : (b, ob) ∈ tn₂ ++ imm₂) (e : h₁.get? b = some o) : h₂.get? b = some o :=
  (S₂.get i₂).trans ((S₁.get i₁).symm.trans e)
/-- what an iterator looks at stands -/
theorem Sta.fpKeep {g₁ g₂ h₁ h₂ : Heap} {m₁ m₂ : Str → Option Value} {tn₁ imm₁ tn₂ imm₂ : List (Addr × Obj)} {fp : List Addr} {I : Addr} {oI : Obj} (S₁ : Sta g₁ L m₁ tn₁ imm₁ h₁) (S₂ : Sta g₂ L m₂ tn₂ imm₂ h₂) (i₁ : (I, oI) ∈ tn₁ ++ imm₁) (i₂ : (I, oI) ∈ tn₂ ++ imm₂) (hfp : ∀ b ∈ fp, b ≠ I → ∃ o, (b, o) ∈ tn₁ ++ imm₁ ∧ (b, o) ∈ tn₂ ++ imm₂) : ∀ b ∈ fp, ∀ o, h₁.get? b = some o → h₂.get? b = some o := fun b hb o e => by
  by_cases q : b = I
  · exact (S₁.same S₂ (q ▸ i₁) (q ▸ i₂) e)
  · exact (hfp b hb q).elim fun ob hm => S₁.same S₂ hm.1 hm.2 e
/-- a heap that keeps all -/
theorem Sta.keeps (S : Sta h₀ L m tn imm h) (k : ∀ b o, h.get? b = some o → h'.get? b = some o) : Sta h₀ L m tn imm h' := by
  obtain ⟨oL, es, ep, eL, rL⟩ := S.F.ns
  exact ⟨⟨⟨oL, es, ep, k _ _ eL, rL⟩, fun b o e => k _ _ (S.F.keep b o e), S.F.above⟩, fun p hp => ⟨k _ _ (S.N p hp).1, (S.N p hp).2⟩, S.D⟩
/-- a local stored -/
theorem Sta.local (S : Sta h₀ L m tn imm h) (hn : h'.Ns L m') (hs : Heap.SameBut L h h') : Sta h₀ L m' tn imm h' :=
  ⟨S.F.set hn hs, fun p hp => ⟨(hs.2 _ (S.N p hp).2.1).trans (S.N p hp).1, (S.N p hp).2⟩, S.D⟩
end

/-- an activation: the frame env runs -/
structure Act (w : World) (p : Program) (loose : List Str) (mean : ExcName → Option Value) (mg mb : Str → Option Value) (A₀ : Around) (base h₀ : Heap) (outer : List Env) (env : Env) (L : Addr) (m : Str → Option Value) (tn imm : List (Addr × Obj)) (h : Heap) (n : Nat) : Prop where
  C : Cx (KH w.params) p loose mean mg mb A₀ base h₀ outer
  S : Sta h₀ L m tn imm h
  hf : env.frame = some L
  hk : env.scope.kind = .function
  R : Room (A₀.deeper env) n

/-- the end of a body by a return -/
def Back (h₀ : Heap) (L : Addr) (m : Str → Option Value) (g : Heap) (Q : Value → Shared → Prop) (v : Value) (s' : Shared) : Prop :=
  ∃ L' m' tn' imm', Sta g L' m' tn' imm' s'.heap ∧ (Sta h₀ L m tn' imm' s'.heap → Q v s')
/-- what an exception keeps, and why it flies -/
def Kept (P : Prop) (newsE news' : List (Addr × Obj)) : Prop := P ∧ ∀ q ∈ newsE, q ∈ news'
/-- the end of a body by an exception -/
def Flew (base g : Heap) (env : Env) (outer : List Env) (L : Addr) (cls : Value) (NE : List (Addr × Obj) → Prop) (G : Array GenState) (D : Drawn) (O : OsState) (e : Value) (s' : Shared) : Prop :=
  ∃ h tk news', s' = ⟨h, G, D, tk, O⟩ ∧ NE news' ∧ Thrown base g env outer L cls news' e h

section
variable {prog : Program} {w : World} {p : Program} {loose : List Str} {mean : ExcName → Option Value} {mg mb : Str → Option Value} {A A₀ : Around} {base h₀ h : Heap} {outer : List Env} {env : Env} {L : Addr} {m : Str → Option Value} {tn imm : List (Addr × Obj)} {NE : List (Addr × Obj) → Prop} {n : Nat} {G : Array GenState} {D : Drawn} {t : Nat} {O : OsState}
  {Q E : Value → Shared → Prop} {R : Result → Shared → Prop} {name qual : Str} {params : Arguments} {body : List Stmt} {scope : Scope} {cl : List (Str × Addr)} {dV kV doc pm cdv ct oc cls : Value} {an od : Option Addr} {osl : Array (Option Value)} {f : Addr} {args : List Value} {binds : List (Str × Value)}

/-- a def of the text called, from whatever stands over the frame env -/
theorem codeA (C : Cx (KH w.params) p loose mean mg mb A₀ base h₀ outer) (S : Sta h₀ L m tn imm h) (hf : env.frame = some L) (hke : env.scope.kind = .function) (hA : A.frames = some (env :: outer)) (hR : Room A (n + 1)) {fo : Obj}
    (ho : h.get? f = some fo) (hd : fo.data = .func (fnX name qual params body scope cl dV kV doc pm an cdv ct)) (hcd : codeIn (KH w.params) cdv qual = true)
    (hbind : bindArgs (fnX name qual params body scope cl dV kV doc pm an cdv ct) ⟨args, []⟩ = pure binds) (hloc : ∀ y ∈ binds, scope.names.lookup y.1 = some .local)
    (hcell : ∀ x ∈ scope.names, x.2 ≠ .cell) (hco : scope.isCoroutine = false) (hgen : scope.isGenerator = false) (hk : scope.kind = .function)
    (hE : ∀ e h' tk news', NE news' → Thrown base h₀ env outer L cls news' e h' → R (.error e) ⟨h', G, D, tk, O⟩)
    (hb : ∀ g L' h₁ t₁, Act w p loose mean mg mb A base g (env :: outer) (envX qual scope L' f cdv cl) L' (fun y => binds.reverse.lookup y) tn imm h₁ n →
      wpAny (model prog w) (A.deeper (envX qual scope L' f cdv cl)) (execs body (envX qual scope L' f cdv cl))
        (fun fl s' => Back h₀ L m g (fun v s' => R (.ok (.ret v)) s') (fv fl) s') (Flew base g (envX qual scope L' f cdv cl) (env :: outer) L' cls NE G D O) ⟨h₁, G, D, t₁, O⟩) :
    codeAny (model prog w) A (.call (.ref f) ⟨args, []⟩) R ⟨h, G, D, t, O⟩ := by
  refine callX_plain (cl := cl) C.B S.F S.N C.T.nolimit hA hf hke ho hd (codeRec_of (C.X.keeps S.F.keep) hcd) hR.deep (BindsTo.of_eq hbind) hloc (fun g L' h₁ FG F' N' B' st lt => ?_) hcell hco hgen hk
  have C' : Cx (KH w.params) p loose mean mg mb A base g (env :: outer) := ⟨B', C.XB, C.TB, fun b hb => by
      rcases mem_frames hf hb with rfl | hb
      · obtain ⟨o, es, ep, ho, hd, _⟩ := FG.ns
        exact ⟨o, es, ep, ho, hd⟩
      · obtain ⟨o, es, n, ho, hd⟩ := C.D b hb
        exact ⟨o, es, n, FG.keep b o ho, hd⟩⟩
  refine wpAny_mono (hb g L' h₁ _ ⟨C', ⟨F', N', S.D⟩, rfl, hk, hR.deeper⟩) (fun fl s' hl => ?_) fun e s' ho => ?_
  · obtain ⟨L'', m', tn', imm', S', k⟩ := hl
    exact ⟨L'', m', tn' ++ imm', S'.F, S'.N, fun F N => k ⟨F, N, S'.D⟩⟩
  · obtain ⟨h', tk, news', rfl, hs, T⟩ := ho
    refine leaveT (L := L') C' rfl hk T fun h'' ea he R' U' => ?_
    exact hE _ _ _ _ hs ⟨ea, he, .inr (.inl ⟨g, m, FG, R', U'⟩)⟩
/-- a def of the top -/
theorem codeK (C : Cx (KH w.params) p loose mean mg mb A₀ base h₀ outer) (S : Sta h₀ L m tn imm h) (hf : env.frame = some L) (hke : env.scope.kind = .function) (hA : A.frames = some (env :: outer)) (hR : Room A (n + 1))
    (ho : (KH w.params).lookup f = some ⟨oc, od, .func (fnX name qual params body scope cl dV kV doc pm an cdv ct), osl⟩) (hcd : codeIn (KH w.params) cdv qual = true)
    (hbind : bindArgs (fnX name qual params body scope cl dV kV doc pm an cdv ct) ⟨args, []⟩ = pure binds) (hloc : ∀ y ∈ binds, scope.names.lookup y.1 = some .local)
    (hcell : ∀ x ∈ scope.names, x.2 ≠ .cell) (hco : scope.isCoroutine = false) (hgen : scope.isGenerator = false) (hk : scope.kind = .function)
    (hE : ∀ e h' tk news', NE news' → Thrown base h₀ env outer L cls news' e h' → R (.error e) ⟨h', G, D, tk, O⟩)
    (hb : ∀ g L' h₁ t₁, Act w p loose mean mg mb A base g (env :: outer) (envX qual scope L' f cdv cl) L' (fun y => binds.reverse.lookup y) tn imm h₁ n →
      wpAny (model prog w) (A.deeper (envX qual scope L' f cdv cl)) (execs body (envX qual scope L' f cdv cl))
        (fun fl s' => Back h₀ L m g (fun v s' => R (.ok (.ret v)) s') (fv fl) s') (Flew base g (envX qual scope L' f cdv cl) (env :: outer) L' cls NE G D O) ⟨h₁, G, D, t₁, O⟩) :
    codeAny (model prog w) A (.call (.ref f) ⟨args, []⟩) R ⟨h, G, D, t, O⟩ :=
  codeA C S hf hke hA hR ((C.X.keeps S.F.keep) _ _ ho) rfl hcd hbind hloc hcell hco hgen hk hE hb
theorem callA (Z : Act w p loose mean mg mb A₀ base h₀ outer env L m tn imm h (n + 1))
    (ho : (KH w.params).lookup f = some ⟨oc, od, .func (fnX name qual params body scope cl dV kV doc pm an cdv ct), osl⟩) (hcd : codeIn (KH w.params) cdv qual = true)
    (hbind : bindArgs (fnX name qual params body scope cl dV kV doc pm an cdv ct) ⟨args, []⟩ = pure binds) (hloc : ∀ y ∈ binds, scope.names.lookup y.1 = some .local)
    (hcell : ∀ x ∈ scope.names, x.2 ≠ .cell) (hco : scope.isCoroutine = false) (hgen : scope.isGenerator = false) (hk : scope.kind = .function)
    (hE : ∀ e h' tk news', NE news' → Thrown base h₀ env outer L cls news' e h' → E e ⟨h', G, D, tk, O⟩)
    (hb : ∀ g L' h₁ t₁, Act w p loose mean mg mb (A₀.deeper env) base g (env :: outer) (envX qual scope L' f cdv cl) L' (fun y => binds.reverse.lookup y) tn imm h₁ n →
      wpAny (model prog w) ((A₀.deeper env).deeper (envX qual scope L' f cdv cl)) (execs body (envX qual scope L' f cdv cl))
        (fun fl s' => Back h₀ L m g Q (fv fl) s') (Flew base g (envX qual scope L' f cdv cl) (env :: outer) L' cls NE G D O) ⟨h₁, G, D, t₁, O⟩) :
    wpAny (model prog w) (A₀.deeper env) (call (.ref f) args) Q E ⟨h, G, D, t, O⟩ :=
  wpAny_call (codeK Z.C Z.S Z.hf Z.hk Z.C.frames Z.R ho hcd hbind hloc hcell hco hgen hk hE hb)
/-- a def that never raises -/
theorem codeK0 (C : Cx (KH w.params) p loose mean mg mb A₀ base h₀ outer) (S : Sta h₀ L m tn imm h) (hf : env.frame = some L) (hke : env.scope.kind = .function) (hA : A.frames = some (env :: outer)) (hR : Room A (n + 1))
    (ho : (KH w.params).lookup f = some ⟨oc, od, .func (fnX name qual params body scope cl dV kV doc pm an cdv ct), osl⟩) (hcd : codeIn (KH w.params) cdv qual = true)
    (hbind : bindArgs (fnX name qual params body scope cl dV kV doc pm an cdv ct) ⟨args, []⟩ = pure binds) (hloc : ∀ y ∈ binds, scope.names.lookup y.1 = some .local)
    (hcell : ∀ x ∈ scope.names, x.2 ≠ .cell) (hco : scope.isCoroutine = false) (hgen : scope.isGenerator = false) (hk : scope.kind = .function)
    (hb : ∀ g L' h₁ t₁, Act w p loose mean mg mb A base g (env :: outer) (envX qual scope L' f cdv cl) L' (fun y => binds.reverse.lookup y) tn imm h₁ n →
      wpAny (model prog w) (A.deeper (envX qual scope L' f cdv cl)) (execs body (envX qual scope L' f cdv cl))
        (fun fl s' => Back h₀ L m g (fun v s' => R (.ok (.ret v)) s') (fv fl) s') (fun _ _ => False) ⟨h₁, G, D, t₁, O⟩) :
    codeAny (model prog w) A (.call (.ref f) ⟨args, []⟩) R ⟨h, G, D, t, O⟩ := by
  refine callX_plain (cl := cl) C.B S.F S.N C.T.nolimit hA hf hke ((C.X.keeps S.F.keep) _ _ ho) rfl (codeRec_of (C.X.keeps S.F.keep) hcd) hR.deep (BindsTo.of_eq hbind) hloc (fun g L' h₁ FG F' N' B' st lt => ?_) hcell hco hgen hk
  have C' : Cx (KH w.params) p loose mean mg mb A base g (env :: outer) := ⟨B', C.XB, C.TB, fun b hb => by
      rcases mem_frames hf hb with rfl | hb
      · obtain ⟨o, es, ep, ho, hd, _⟩ := FG.ns
        exact ⟨o, es, ep, ho, hd⟩
      · obtain ⟨o, es, n, ho, hd⟩ := C.D b hb
        exact ⟨o, es, n, FG.keep b o ho, hd⟩⟩
  refine wpAny_mono (hb g L' h₁ _ ⟨C', ⟨F', N', S.D⟩, rfl, hk, hR.deeper⟩) (fun fl s' hl => ?_) fun _ _ x => x.elim
  obtain ⟨L'', m', tn', imm', S', k⟩ := hl
  exact ⟨L'', m', tn' ++ imm', S'.F, S'.N, fun F N => k ⟨F, N, S'.D⟩⟩
theorem callA0 (Z : Act w p loose mean mg mb A₀ base h₀ outer env L m tn imm h (n + 1))
    (ho : (KH w.params).lookup f = some ⟨oc, od, .func (fnX name qual params body scope cl dV kV doc pm an cdv ct), osl⟩) (hcd : codeIn (KH w.params) cdv qual = true)
    (hbind : bindArgs (fnX name qual params body scope cl dV kV doc pm an cdv ct) ⟨args, []⟩ = pure binds) (hloc : ∀ y ∈ binds, scope.names.lookup y.1 = some .local)
    (hcell : ∀ x ∈ scope.names, x.2 ≠ .cell) (hco : scope.isCoroutine = false) (hgen : scope.isGenerator = false) (hk : scope.kind = .function)
    (hb : ∀ g L' h₁ t₁, Act w p loose mean mg mb (A₀.deeper env) base g (env :: outer) (envX qual scope L' f cdv cl) L' (fun y => binds.reverse.lookup y) tn imm h₁ n →
      wpAny (model prog w) ((A₀.deeper env).deeper (envX qual scope L' f cdv cl)) (execs body (envX qual scope L' f cdv cl))
        (fun fl s' => Back h₀ L m g Q (fv fl) s') (fun _ _ => False) ⟨h₁, G, D, t₁, O⟩) :
    wpAny (model prog w) (A₀.deeper env) (call (.ref f) args) Q E ⟨h, G, D, t, O⟩ :=
  wpAny_call (codeK0 Z.C Z.S Z.hf Z.hk Z.C.frames Z.R ho hcd hbind hloc hcell hco hgen hk hb)
/-- the frame's E -/
theorem Flew.of {cls e : Value} {newsE news' : List (Addr × Obj)} {P : Prop} {tk : Nat} (T : Thrown base h₀ env outer L cls news' e h) (hp : P) (hs : ∀ q ∈ newsE, q ∈ news') : Flew base h₀ env outer L cls (Kept P newsE) G D O e ⟨h, G, D, tk, O⟩ := ⟨h, tk, news', rfl, ⟨hp, hs⟩, T⟩
theorem Flew.passes {cls : Value} (C : Cx (KH w.params) p loose mean mg mb A₀ base h₀ outer) (hf : env.frame = some L) (hk : env.scope.kind = .function) : PassesOwn (model prog w) (A₀.deeper env) env (Flew base h₀ env outer L cls NE G D O) := by
  rintro e _ ⟨h, tk, news', rfl, hs, T⟩
  exact passT C C.frames hf hk T fun h' T' => ⟨h', tk, news', rfl, hs, T'⟩
end

/-- a name bound anew -/
def upd (m : Str → Option Value) (y : Str) (v : Value) : Str → Option Value := fun z => if z = y then some v else m z
/-- the tuple and the list of some values -/
abbrev tupO (vs : List Value) : Obj := { cls := .type "tuple", data := .seq vs.toArray }
abbrev lstO (vs : List Value) : Obj := { cls := .type "list", data := .seq vs.toArray }
section
variable {prog : Program} {M : Model} {w : World} {p : Program} {loose : List Str} {mean : ExcName → Option Value} {mg mb : Str → Option Value} {A A₀ : Around} {base h₀ h : Heap} {outer : List Env} {L : Addr} {m : Str → Option Value} {tn imm : List (Addr × Obj)} {G : Array GenState} {D : Drawn} {t : Nat} {O : OsState}
  {E : Value → Shared → Prop} {qual : Str} {scope : Scope} {cl : List (Str × Addr)} {cdv v : Value} {f x dx C : Addr} {es es' : List DictEntry} {n n' : Nat} {name : Str} {vs : List Value}
theorem s_store {y : Str} {Q : Unit → Shared → Prop} (hx : (envX qual scope L f cdv cl).kindOf y = some .local) (hk : scope.kind = .function) (S : Sta h₀ L m tn imm h) (hq : ∀ h', Sta h₀ L (upd m y v) tn imm h' → Q () ⟨h', G, D, t + 1, O⟩) : wpAny M A (storeName (envX qual scope L f cdv cl) y v) Q E ⟨h, G, D, t, O⟩ :=
  wpAny_storeName_local hx S.F.ns (fun h' hn hs => hq h' (S.local hn hs)) (by show (scope.kind == .class || (scope.kind == .module && L != mainGlobals)) = false; rw [hk]; rfl)
theorem s_name {y : Str} {np : Pos} {Q : Value → Shared → Prop} (hx : (envX qual scope L f cdv cl).kindOf y = some .local) (hk : scope.kind = .function) (hd : (y == ("__debug__" : Str)) = false) (S : Sta h₀ L m tn imm h) (hv : m y = some v) (hq : Q v ⟨h, G, D, t, O⟩) : wpAny M A (eval (.Name y np) (envX qual scope L f cdv cl)) Q E ⟨h, G, D, t, O⟩ := nameX_L (s := ⟨h, G, D, t, O⟩) S.F hv hq hk hx hd
theorem s_global {y : Str} {np : Pos} {Q : Value → Shared → Prop} (hx : (envX qual scope L f cdv cl).kindOf y = some .globalImplicit) (hk : scope.kind = .function) (hd : (y == ("__debug__" : Str)) = false) (S : Sta h₀ L m tn imm h) (Cc : Cx (KH w.params) p loose mean mg mb A₀ base h₀ outer) (e : nsIn (KH w.params) mainGlobals y = some (some v)) (hq : Q v ⟨h, G, D, t, O⟩) : wpAny M A (eval (.Name y np) (envX qual scope L f cdv cl)) Q E ⟨h, G, D, t, O⟩ := nameX_K (s := ⟨h, G, D, t, O⟩) S.F Cc.X Cc.TR e hq hk hx hd
theorem s_builtin {y : Str} {np : Pos} {Q : Value → Shared → Prop} (hx : (envX qual scope L f cdv cl).kindOf y = some .globalImplicit) (hk : scope.kind = .function) (hd : (y == ("__debug__" : Str)) = false) (S : Sta h₀ L m tn imm h) (Cc : Cx (KH w.params) p loose mean mg mb A₀ base h₀ outer) (e : nsIn (KH w.params) mainGlobals y = some none) (hv : bootBuiltins y = some v) (hn : y ≠ "__name__") (hq : Q v ⟨h, G, D, t, O⟩) : wpAny M A (eval (.Name y np) (envX qual scope L f cdv cl)) Q E ⟨h, G, D, t, O⟩ := nameX_B (s := ⟨h, G, D, t, O⟩) S.F Cc.X Cc.TR e hv hn hq hk hx hd
theorem s_newTuple {Q : Value → Shared → Prop} (S : Sta h₀ L m tn imm h) (hz : vs.length ≤ 1000) (hq : ∀ a h', Sta h₀ L m tn ((a, tupO vs) :: imm) h' → Q (.ref a) ⟨h', G, D, t, O⟩) : wpAny M A (newTuple vs) Q E ⟨h, G, D, t, O⟩ :=
  wpAny_newTuple (s := ⟨h, G, D, t, O⟩) (hq _ _ (S.newImm _)) (by rw [sizeLine_eq]; omega)
theorem s_newList {Q : Value → Shared → Prop} (S : Sta h₀ L m tn imm h) (hz : vs.length ≤ 1000) (hq : ∀ a h', Sta h₀ L m ((a, lstO vs) :: tn) imm h' → Q (.ref a) ⟨h', G, D, t, O⟩) : wpAny M A (newList vs) Q E ⟨h, G, D, t, O⟩ :=
  PySem.wpAny_newList (s := ⟨h, G, D, t, O⟩) (hq _ _ (S.newMut _)) (by rw [sizeLine_eq]; omega)
/-- an attribute that the object's own dict holds -/
theorem s_getown {Q : Value → Shared → Prop} {attr : Option Value} (S : Sta h₀ L m tn imm h) (Cc : Cx (KH w.params) p loose mean mg mb A₀ base h₀ outer) (hx : (x, instObj C dx) ∈ tn ++ imm) (hd : (dx, dictOf es n) ∈ tn ++ imm)
    (hg : plainGet (KH w.params) C name = true) (hh : hasDictIn (KH w.params) C = true) (ha : findIn (KH w.params) (.ref C) name = some attr) (hn : noGet (KH w.params) attr = true)
    (hl : getL name es = some (some v)) (hv : handedIn v = true) (hq : Q v ⟨h, G, D, t + 1, O⟩) : wpAny (model prog w) A (getAttr (.ref x) name true) Q E ⟨h, G, D, t, O⟩ :=
  get_own (s := ⟨h, G, D, t, O⟩) S.F Cc.X (InstAt.of_news S.N hx hd) hg hh ha hn hl hv hq
theorem s_setown {Q : Unit → Shared → Prop} (S : Sta h₀ L m ((dx, dictOf es n) :: tn) imm h) (Cc : Cx (KH w.params) p loose mean mg mb A₀ base h₀ outer) (hx : (x, instObj C dx) ∈ tn ++ imm)
    (hs : findIn (KH w.params) (.ref C) "__setattr__" = some (some (.builtin "object.__setattr__"))) (hp : plainOver (KH w.params) C = true) (ht : takerIn (KH w.params) C name = some none) (hh : hasDictIn (KH w.params) C = true) (hl : (getL name es).isSome = true)
    (e : (putL name (PyData.keyHash w.params name) (.str name (t + 1)) v es, putN name es n) = (es', n')) (hz : es'.length ≤ 1000)
    (hq : ∀ h', Sta h₀ L m ((dx, dictOf es' n') :: tn) imm h' → Q () ⟨h', G, D, t + 2, O⟩) : wpAny (model prog w) A (setAttr (.ref x) name v) Q E ⟨h, G, D, t, O⟩ :=
  set_dict (s := ⟨h, G, D, t, O⟩) S.F Cc.X S.N (InstAt.of_news S.N (.tail _ hx) (.head _)) rfl hs hp ht hh hl e (Upd.head S.D.1) hz fun h' F N => hq h' ⟨F, N, S.D⟩
theorem s_method {a : Addr} {pl : Sem Bool} {q : Value → List Value → Shared → Prop} (S : Sta h₀ L m tn imm h) (Cc : Cx (KH w.params) p loose mean mg mb A₀ base h₀ outer) (hx : (x, instObj C dx) ∈ tn ++ imm) (hd : (dx, dictOf es n) ∈ tn ++ imm)
    (h1 : plainGet (KH w.params) C name = true) (h2 : findIn (KH w.params) (.ref C) name = some (some (.ref a))) (h3 : isFn (KH w.params) (.ref a) = true)
    (h4 : getL name es = some none) (hq : q (.ref a) [.ref x] ⟨h, G, D, t, O⟩) :
    wpAny (model prog w) A (getMethod (.ref x) name pl) (MC q) E ⟨h, G, D, t, O⟩ := method_inst (s := ⟨h, G, D, t, O⟩) S.F Cc.X (InstAt.of_news S.N hx hd) h1 h2 h3 h4 hq
end
section
variable {prog : Program} {w : World} {A : Around} {E : Value → Shared → Prop} {Q : Value → Shared → Prop} {h : Heap} {G : Array GenState} {D : Drawn} {t : Nat} {O : OsState} {a b : Int} {u v : Tok}
theorem o_fdiv (h0 : 0 < b) (h1 : b < 1000000) (hq : Q (.int (a / b) t) ⟨h, G, D, t + 1, O⟩) : wpAny (model prog w) A (binaryOp .FloorDiv (.int a u) (.int b v)) Q E ⟨h, G, D, t, O⟩ := by
  refine floordiv_int (s := ⟨h, G, D, t, O⟩) (by omega) ?_ (Or.inl (PyProof.noPylong_small (by omega)))
  rw [Int.fdiv_eq_ediv_of_nonneg _ (by omega)]
  exact hq
theorem o_emod (h0 : 0 < b) (hq : Q (.int (a % b) t) ⟨h, G, D, t + 1, O⟩) : wpAny (model prog w) A (binaryOp .Mod (.int a u) (.int b v)) Q E ⟨h, G, D, t, O⟩ := by
  refine o_mod (by omega) ?_
  rw [Int.fmod_eq_emod_of_nonneg _ (by omega)]
  exact hq
theorem o_mulS (h1 : 0 ≤ b) (h2 : b < 1000000000000) (hq : Q (.int (a * b) t) ⟨h, G, D, t + 1, O⟩) : wpAny (model prog w) A (binaryOp .Mult (.int a u) (.int b v)) Q E ⟨h, G, D, t, O⟩ := o_mul hq (mulR h1 h2)
end
section
variable {M : Model} {A : Around} {E : Value → Shared → Prop} {s : Shared} {env : Env} {pos : Pos} {whole : Sem Value}
/-- a choice by a bool -/
def Br (c : Bool) (P R : Prop) : Prop := (c = true → P) ∧ (c = false → R)
theorem Br.of {c : Bool} {P R : Prop} (h : Br c P R) : if c = true then P else R := by
  cases c
  · rw [if_neg Bool.false_ne_true]; exact h.2 rfl
  · rw [if_pos rfl]; exact h.1 rfl
section
variable (M : Model) (A : Around) (E : Value → Shared → Prop)
abbrev KOr (ys : List Expr) (pos : Pos) (env : Env) (whole : Sem Value) (Q : Bool → Shared → Prop) : Bool → Shared → Prop := fun c s => Br c (Q true s) (wpAny M A (PySem.isTrue (.BoolOp .Or ys pos) env whole) Q E s)
abbrev KAnd (ys : List Expr) (pos : Pos) (env : Env) (whole : Sem Value) (Q : Bool → Shared → Prop) : Bool → Shared → Prop := fun c s => Br c (wpAny M A (PySem.isTrue (.BoolOp .And ys pos) env whole) Q E s) (Q false s)
abbrev KIfX (body orelse : Expr) (env : Env) (Q : Value → Shared → Prop) : Bool → Shared → Prop := fun b s => Br b (wpAny M A (eval body env) Q E s) (wpAny M A (eval orelse env) Q E s)
abbrev KIfL (body rest : List Stmt) (env : Env) (Q : Flow → Shared → Prop) : Bool → Shared → Prop := fun b s => Br b (wpAny M A (execs body env) (thenC Q (KQ M A E rest env Q)) E s) (wpAny M A (execs rest env) Q E s)
abbrev KCp2 (op : CmpOp) (a : Value) (Q : Bool → Shared → Prop) : Value → Shared → Prop := fun b s => wpAny M A (compareOp op a b) (KB M A E truthy Q) E s
abbrev KCp (op : CmpOp) (r : Expr) (env : Env) (Q : Bool → Shared → Prop) : Value → Shared → Prop := fun a s => wpAny M A (eval r env) (KCp2 M A E op a Q) E s
abbrev KCh3 (op : CmpOp) (b : Value) (r : Expr) (env : Env) (Q : Bool → Shared → Prop) : Bool → Shared → Prop := fun k s => Br k (wpAny M A (eval r env) (KCp2 M A E op b Q) E s) (Q false s)
abbrev KCh2 (op₁ op₂ : CmpOp) (a : Value) (r₂ : Expr) (env : Env) (Q : Bool → Shared → Prop) : Value → Shared → Prop := fun b s => wpAny M A (compareOp op₁ a b) (KB M A E truthy (KCh3 M A E op₂ b r₂ env Q)) E s
abbrev KCh (op₁ op₂ : CmpOp) (r₁ r₂ : Expr) (env : Env) (Q : Bool → Shared → Prop) : Value → Shared → Prop := fun a s => wpAny M A (eval r₁ env) (KCh2 M A E op₁ op₂ a r₂ env Q) E s
abbrev KCK (K : Frag) (f : Value) (first : List Value) (Q : Value → Shared → Prop) : List Value → Shared → Prop := fun vs s => K.In s.heap ∧ wpAny M A (call f (first ++ vs)) Q E s
abbrev KCM (f : Value) (first : List Value) (Q : Value → Shared → Prop) : List Value → Shared → Prop := fun vs s => wpAny M A (call f (first ++ vs)) Q E s
abbrev KC0 (f : Value) (Q : Value → Shared → Prop) : List Value → Shared → Prop := fun vs s => wpAny M A (call f vs) Q E s
end
theorem i_or {x : Expr} {y : Expr} {rest : List Expr} {Q : Bool → Shared → Prop}
    (h : wpAny M A (PySem.isTrue x env (eval x env)) (KOr M A E (y :: rest) pos env whole Q) E s) :
    wpAny M A (PySem.isTrue (.BoolOp .Or (x :: y :: rest) pos) env whole) Q E s := isTrue_or (wpAny_mono h (fun _ _ z => Br.of z) fun _ _ z => z)
theorem i_or1 {x : Expr} {Q : Bool → Shared → Prop}
    (h : wpAny M A (PySem.isTrue x env (eval x env)) Q E s) : wpAny M A (PySem.isTrue (.BoolOp .Or [x] pos) env whole) Q E s :=
  isTrue_or (wpAny_mono h (fun c s' z => by cases c; exact isTrue_or_nil z; exact z) fun _ _ z => z)
theorem i_and {x : Expr} {y : Expr} {rest : List Expr} {Q : Bool → Shared → Prop}
    (h : wpAny M A (PySem.isTrue x env (eval x env)) (KAnd M A E (y :: rest) pos env whole Q) E s) :
    wpAny M A (PySem.isTrue (.BoolOp .And (x :: y :: rest) pos) env whole) Q E s := isTrue_and (wpAny_mono h (fun _ _ z => Br.of z) fun _ _ z => z)
theorem i_and1 {x : Expr} {Q : Bool → Shared → Prop}
    (h : wpAny M A (PySem.isTrue x env (eval x env)) Q E s) : wpAny M A (PySem.isTrue (.BoolOp .And [x] pos) env whole) Q E s :=
  isTrue_and (wpAny_mono h (fun c s' z => by cases c; exact z; exact isTrue_and_nil z) fun _ _ z => z)
/-- a chain of two comparisons -/
theorem i_chain {l : Expr} {op₁ op₂ : CmpOp} {r₁ r₂ : Expr} {Q : Bool → Shared → Prop} (hm : lastMarks [op₁, op₂] [r₁, r₂] = false) (h : wpAny M A (eval l env) (KCh M A E op₁ op₂ r₁ r₂ env Q) E s) : wpAny M A (PySem.isTrue (.Compare l [op₁, op₂] [r₁, r₂] pos) env whole) Q E s :=
  isTrue_chain (wpAny_mono h (fun a s₁ h₁ => test_link (wpAny_mono h₁ (fun b s₂ h₂ => wpAny_mono h₂ (fun c s₃ h₃ => wpAny_mono h₃ (fun k s₄ h₄ => by
    cases k
    · exact h₄.2 rfl
    · exact test_last (h₄.1 rfl)) fun _ _ z => z) fun _ _ z => z) fun _ _ z => z)) fun _ _ z => z) hm
theorem i_if {test body orelse : Expr} {Q : Value → Shared → Prop}
    (h : wpAny M A (PySem.isTrue test env (eval test env)) (KIfX M A E body orelse env Q) E s) :
    wpAny M A (eval (.IfExp test body orelse pos) env) Q E s := wpAny_IfExp (wpAny_mono h (fun _ _ z => Br.of z) fun _ _ z => z)
/-- an if without else -/
theorem r_ifBL {test : Expr} {body rest : List Stmt} {Q : Flow → Shared → Prop} (h : wpAny M A (PySem.isTrue test env (eval test env))
      (KIfL M A E body rest env Q) E s) :
    wpAny M A (execs (.If test body [] pos :: rest) env) Q E s := r_ifL h
theorem r_tup {elts : List Expr} {k : Nat} {tpos : Pos} {value : Expr} {rest : List Stmt} {Q : Flow → Shared → Prop} (hs : swapsWithSole [.Tuple elts k tpos] value pos.line env = pure false) (hw : swappedStores [.Tuple elts k tpos] value env = pure none) (h : wpAny M A (eval value env) (KB M A E (assign (.Tuple elts k tpos) env) (KS M A E (execs rest env) Q)) E s) :
    wpAny M A (execs (.Assign [.Tuple elts k tpos] value pos :: rest) env) Q E s := r_cons (Assign_Tuple h hs hw)
end

section
variable {prog : Program} {M : Model} {w : World} {p : Program} {loose : List Str} {mean : ExcName → Option Value} {mg mb : Str → Option Value} {A A₀ : Around} {base h₀ h : Heap} {outer : List Env} {env : Env} {L : Addr} {m : Str → Option Value} {tn imm : List (Addr × Obj)} {K : Frag}
  {E : Value → Shared → Prop} {Q : Value → Shared → Prop} {s : Shared} {pos : Pos} {f : Value} {first : List Value} {e : Expr} {rest : List Expr} {whole : Sem Value} {n k : Nat} {P : Prop}
theorem actS (S : Sta h₀ L m tn imm h) (C : Cx (KH w.params) p loose mean mg mb A₀ base h₀ outer) (R : Room (A₀.deeper env) k) (hf : env.frame = some L) (hk : env.scope.kind = .function) (hn : n ≤ k) : Act w p loose mean mg mb A₀ base h₀ outer env L m tn imm h n := ⟨C, S, hf, hk, R.le hn⟩
theorem w_cmpI {l r : Expr} {op : CmpOp} {Q : Bool → Shared → Prop} (hm : behindInMarks op r = false) (h : wpAny M A (eval l env) (KCp M A E op r env Q) E s) :
    wpAny M A (PySem.isTrue (.Compare l [op] [r] pos) env whole) Q E s := wpAny_isTrue_Compare1 h hm
theorem w_cK (C : Cx K p loose mean mg mb A₀ base h₀ outer) (hk : keepIn K f = true) (he : starEach (e :: rest) env = (false, eval e env) :: starEach rest env) (hp : (backTo pos (starEach rest env)).any (·.1) = false)
    (h : wpAny M A (spliced (backTo pos (starEach (e :: rest) env))) (KCK M A E K f first Q) E s) : wpAny M A (callWith pos f first (backTo pos (starEach (e :: rest) env)) []) Q E s := callWith_K C.X hk h he hp
theorem w_cK0 (C : Cx K p loose mean mg mb A₀ base h₀ outer) (S : Sta h₀ L m tn imm s.heap) (hk : keepIn K f = true) (h : wpAny M A (call f (first ++ [])) Q E s) : wpAny M A (callWith pos f first (backTo pos (starEach [] env)) []) Q E s := callWith_K0 (C.X.keeps S.F.keep) hk h
theorem w_kin (C : Cx K p loose mean mg mb A₀ base h₀ outer) (S : Sta h₀ L m tn imm h) (hp : P) : K.In h ∧ P := ⟨C.X.keeps S.F.keep, hp⟩
theorem w_cb1 {id : String} (he : starEach (e :: rest) env = (false, eval e env) :: starEach rest env) (hp : (backTo pos (starEach rest env)).any (·.1) = false)
    (h : wpAny M A (spliced (backTo pos (starEach (e :: rest) env))) (KC0 M A E (.builtin id) Q) E s) : wpAny M A (callWith pos (.builtin id) [] (backTo pos (starEach (e :: rest) env)) []) Q E s := PyProof.Rows.callWith_builtin1 h he hp
theorem w_ct1 {T : String} (he : starEach (e :: rest) env = (false, eval e env) :: starEach rest env) (hp : (backTo pos (starEach rest env)).any (·.1) = false)
    (h : wpAny M A (spliced (backTo pos (starEach (e :: rest) env))) (KC0 M A E (.type T) Q) E s) : wpAny M A (callWith pos (.type T) [] (backTo pos (starEach (e :: rest) env)) []) Q E s := Pv.callWith_type1 h he hp
end
section
variable {M : Model} {A : Around} {E : Value → Shared → Prop} {env : Env} {s : Shared} {P Q : Flow → Shared → Prop}
/-- an end of a piece of the text, held behind a name -/
def EndsQ (P Q : Flow → Shared → Prop) : Prop := ∀ f s, P f s → Q f s
theorem EndsQ.to {f : Flow} (h : EndsQ P Q) (hp : P f s) : Q f s := h f s hp
theorem absQ {t : Sem Flow} (h : ∀ Q', EndsQ Q Q' → wpAny M A t Q' E s) : wpAny M A t Q E s := h Q fun _ _ x => x
theorem absL {target : Expr} {v : Value} {body : List Stmt} (h : ∀ Q', EndsQ Q Q' → wpAny M A (assign target env v) (fun _ s₂ => wpAny M A (execs body env) Q' E s₂) E s) : wpAny M A (assign target env v) (fun _ s₂ => wpAny M A (execs body env) Q E s₂) E s := h Q fun _ _ x => x
theorem absW {test : Expr} {body : List Stmt} {R : Shared → Prop} (h : ∀ Q', EndsQ Q Q' → wpAny M A (PySem.isTrue test env (eval test env)) (fun b s₂ => Br b (wpAny M A (execs body env) Q' E s₂) (R s₂)) E s) :
    wpAny M A (PySem.isTrue test env (eval test env)) (fun b s₂ => Br b (wpAny M A (execs body env) Q E s₂) (R s₂)) E s := h Q fun _ _ x => x
theorem r_nilQ (hq : EndsQ P Q) (h : P .next s) : wpAny M A (execs [] env) Q E s := r_nil (hq _ _ h)
theorem Back.mk {h₀ g : Heap} {L L' : Addr} {m m' : Str → Option Value} {tn' imm' : List (Addr × Obj)} {Q : Value → Shared → Prop} {v : Value} (S : Sta g L' m' tn' imm' s.heap) (k : Sta h₀ L m tn' imm' s.heap → Q v s) : Back h₀ L m g Q v s := ⟨L', m', tn', imm', S, k⟩
end
section
variable {prog : Program} {w : World} {p : Program} {loose : List Str} {mean : ExcName → Option Value} {mg mb : Str → Option Value} {A₀ : Around} {base h₀ h : Heap} {outer : List Env} {env : Env} {L : Addr} {NE : List (Addr × Obj) → Prop} {G : Array GenState} {D : Drawn} {O : OsState} {cls : Value} {s : Shared} {Q : Flow → Shared → Prop} {t : Sem Flow} {E : Value → Shared → Prop}
/-- both ends held behind names -/
theorem absF (C : Cx (KH w.params) p loose mean mg mb A₀ base h₀ outer) (hf : env.frame = some L) (hk : env.scope.kind = .function)
    (h : ∀ Q' E', EndsQ Q Q' → (∀ e s, Flew base h₀ env outer L cls NE G D O e s → E' e s) → PassesOwn (model prog w) (A₀.deeper env) env E' → wpAny (model prog w) (A₀.deeper env) t Q' E' s) :
    wpAny (model prog w) (A₀.deeper env) t Q (Flew base h₀ env outer L cls NE G D O) s := h _ _ (fun _ _ x => x) (fun _ _ x => x) (Flew.passes C hf hk)
theorem Flew.by {e : Value} {newsE news' : List (Addr × Obj)} {P : Prop} {tk : Nat} (hE : ∀ e s, Flew base h₀ env outer L cls (Kept P newsE) G D O e s → E e s) (T : Thrown base h₀ env outer L cls news' e h) (hp : P) (hs : ∀ q ∈ newsE, q ∈ news') : E e ⟨h, G, D, tk, O⟩ := hE _ _ (Flew.of T hp hs)
end

example (P : Params) : (PySem.Challenge.rw_pf0238_01.foot, KH P) = (PySem.Challenge.rw_pf0238_01.foot, KH P) := by k_fill; rfl
local macro_rules | `(tactic| walk_at "mem") => `(tactic| first | assumption | exact .head _ | (refine .tail _ ?_; walk_at "mem") | (refine List.mem_append_right _ ?_; walk_at "mem") | (refine List.mem_append_left _ ?_; walk_at "mem"))
local macro_rules | `(tactic| walk_at "mv") => `(tactic| first | exact rfl | assumption)
local macro_rules | `(tactic| walk_at "mName") => `(tactic| first
  | ((with_reducible refine' s_name ?x ?_ ?_ ?S ?v ?_); (case x => exact rfl); (case S => assumption); (case v => walk_at "mv"); exact rfl; exact rfl)
  | ((with_reducible refine' s_global ?x ?_ ?_ ?S ?C ?e ?_); (case x => exact rfl); (case S => assumption); (case C => assumption); (case e => k_is); exact rfl; exact rfl)
  | ((with_reducible refine' s_builtin ?x ?_ ?_ ?S ?C ?_ ?v ?_ ?_); (case x => exact rfl); (case S => assumption); (case C => assumption); (case v => boot_fast); exact rfl; exact rfl; k_is; decide))
local macro_rules | `(tactic| walk_at "m") => `(tactic| first
  | (with_reducible first | refine r_retC ?_ | refine r_ret ?_ | refine e_int ?_ | refine e_str ?_ | refine e_bytes ?_ | refine e_bin ?_ | refine e_call ?_ | refine a_nil ?_ | refine o_add ?_ | refine o_sub ?_ | refine i_or1 ?_ | refine i_or ?_ | refine i_and1 ?_ | refine i_and ?_ | refine isTrue_not ?_ | refine i_if ?_ | refine gt_int ?_ | refine lt_int ?_ | refine le_int ?_ | refine ge_int ?_ | refine eq_int ?_ | refine ne_int ?_ | refine wpAny_truthy_bool ?_ | refine r_ifBL ?_ | refine e_sub ?_ | refine e_tup ?_ | refine e_list ?_)
  | ((with_reducible refine' (_ : wpAny _ _ (eval (Expr.Name _ _) _) _ _ _)); first | walk_at "mName" | walk_at "mNameG")
  | ((with_reducible first | refine' r_assign ?s ?_ | refine' r_setattr ?s ?_ | refine' a_cons ?s ?_ | refine' e_mcall ?s ?_ | refine' w_cmpI ?s ?_ | refine' i_chain ?s ?_ | refine' e_attr ?s ?_); (case s => exact rfl))
  | ((with_reducible first | refine r_tup ?_ ?_ ?_ | refine r_expr ?_ ?_ ?_ | refine w_cb1 ?_ ?_ ?_ | refine w_ct1 ?_ ?_ ?_); exact rfl; exact rfl)
  | ((with_reducible refine' w_cK ?C ?_ ?_ ?_ ?_); (case C => assumption); k_is; exact rfl; exact rfl)
  | ((with_reducible refine' w_cK0 ?C ?S ?_ ?_); (case C => assumption); (case S => assumption); k_is)
  | ((with_reducible refine' w_kin ?C ?S ?_); (case C => assumption); (case S => assumption))
  | ((with_reducible refine o_fdiv ?_ ?_ ?_); (first | decide | omega); (first | decide | omega))
  | ((with_reducible refine o_emod ?_ ?_); (first | decide | omega))
  | ((with_reducible refine o_mulS ?_ ?_ ?_); omega; omega)
  | ((with_reducible first | refine' s_newTuple ?S ?_ ?_ | refine' s_newList ?S ?_ ?_); (case S => assumption); exact Nat.le_of_ble_eq_true rfl; intro _ _ _)
  | ((with_reducible refine' s_store ?_ ?_ ?S ?_); (case S => assumption); exact rfl; exact rfl; intro _ _)
  | ((with_reducible refine' s_method ?S ?C ?x ?d ?_ ?f ?_ ?_ ?_); (case S => assumption); (case C => assumption); (case x => walk_at "mem"); (case d => walk_at "mem"); (case f => k_is); k_is; k_is; exact rfl)
  | ((with_reducible refine' s_getown ?S ?C ?x ?d ?_ ?_ ?f ?_ ?l ?_ ?_); (case S => assumption); (case C => assumption); (case x => walk_at "mem"); (case d => walk_at "mem"); (case f => k_is); (case l => exact rfl); k_is; k_is; k_is; exact rfl)
  | ((with_reducible refine' s_setown ?S ?C ?x ?_ ?_ ?_ ?_ ?_ ?e ?_ ?_); (case S => assumption); (case C => assumption); (case x => walk_at "mem"); (case e => exact rfl); k_is; k_is; k_is; k_is; exact rfl; exact Nat.le_of_ble_eq_true rfl; intro _ _))
local macro_rules | `(tactic| walk_at "act") => `(tactic| (refine' actS ?S ?C ?R ?_ ?_ ?_; (case S => assumption); (case C => assumption); (case R => assumption); exact rfl; exact rfl; decide))
local macro_rules | `(tactic| walk_at "br") => `(tactic| ((with_reducible refine' (_ : Br _ _ _)); refine And.intro (fun hc => ?_) (fun hc => ?_)))
local macro_rules | `(tactic| walk_at "ar") => `(tactic| ((try simp only [decide_eq_true_eq, decide_eq_false_iff_not, Bool.not_eq_true', Bool.not_eq_false', Bool.not_true, Bool.not_false, reduceCtorEq, Bool.true_eq_false, Bool.false_eq_true, beq_iff_eq, beq_eq_false_iff_ne, bne_iff_ne, bne_eq_false_iff_eq, ne_eq] at *) <;> omega))
local macro_rules | `(tactic| walk_at "z") => `(tactic| first | ((with_reducible refine' r_nilQ ?q ?_); (case q => assumption)) | (with_reducible refine r_nil ?_))
local macro_rules | `(tactic| walk_at "back") => `(tactic| ((try (refine' EndsQ.to ?q ?_; (case q => assumption))); refine' Back.mk ?S ?_; (case S => assumption)))
/-- a reader's dict -/
abbrev rdrE (P : Params) (b : List UInt8) (tb t1 t2 : Tok) (k : Nat) (t3 : Tok) : List DictEntry := [⟨PyData.keyHash P "octets", .str "octets" t1, .bytes b.toArray tb⟩, ⟨PyData.keyHash P "at", .str "at" t2, .int k t3⟩]
abbrev rdr (P : Params) (b : List UInt8) (tb t1 t2 : Tok) (k : Nat) (t3 : Tok) : Obj := dictOf (rdrE P b tb t1 t2 k t3) 2
section
variable {prog : Program} {w : World} {p : Program} {loose : List Str} {mean : ExcName → Option Value} {mg mb : Str → Option Value} {A₀ : Around} {base h₀ h : Heap} {outer : List Env} {env : Env} {L : Addr} {m : Str → Option Value} {tn imm : List (Addr × Obj)} {n : Nat} {G : Array GenState} {D : Drawn} {t : Nat} {O : OsState}
  {Q E : Value → Shared → Prop} {A : Around} {x dx : Addr} {b : List UInt8} {tb t1 t2 t3 : Tok} {k : Nat}
theorem e_lenb {l : List UInt8} {u : Tok} (hl : l.length ≤ 1099511627776) (hq : Q (.int l.length (t + 1)) ⟨h, G, D, t + 2, O⟩) : wpAny (model prog w) A (call (.builtin "len") [.bytes l.toArray u]) Q E ⟨h, G, D, t, O⟩ :=
  PySem.W.len_bytes (s := ⟨h, G, D, t, O⟩) (by simpa using hl) (by simpa using hq)
/-- left() -/
theorem c_left (Z : Act w p loose mean mg mb A₀ base h₀ outer env L m tn imm h 2) (hx : (x, instObj 122 dx) ∈ tn ++ imm) (hd : (dx, rdr w.params b tb t1 t2 k t3) ∈ tn ++ imm) (hb : b.length ≤ 100000)
    (hQ : ∀ h' t' u, Sta h₀ L m tn imm h' → Q (.int ((b.length : Int) - k) u) ⟨h', G, D, t', O⟩) :
    wpAny (model prog w) (A₀.deeper env) (call (.ref 98) [.ref x]) Q E ⟨h, G, D, t, O⟩ := by
  refine' callA0 (binds := [("self", .ref x)]) Z ?k1 ?k2 ?k3 ?k4 ?k5 ?k6 ?k7 ?k8 ?_
  case k1 => k_is
  case k2 => k_is
  case k3 => exact rfl
  case k4 => exact locs rfl
  case k5 => decide
  case k6 => exact rfl
  case k7 => exact rfl
  case k8 => exact rfl
  intro g L' h₁ t₁ ⟨C, S, _, _, R⟩
  repeat walk_at "m"
  refine e_lenb (by omega) ?_
  repeat walk_at "m"
  walk_at "back"
  exact fun S => hQ _ _ _ S
end

section
variable {prog : Program} {w : World} {A : Around} {E : Value → Shared → Prop} {s : Shared} {Q : Value → Shared → Prop}
/-- bytes(b) of a bytes -/
theorem bb_lookup : typeLookup (.type "bytes") "__bytes__" = pure (some (.builtin "bytes.__bytes__")) := by rw [typeLookup_type, builtinLookup_eq_fast]; kernel_rfl
theorem bi_no_bytes : typeLookup (.type "int") "__bytes__" = pure none := by rw [typeLookup_type, builtinLookup_eq_fast]; kernel_rfl
theorem bi_index : typeLookup (.type "int") "__index__" = pure (some (.builtin "int.__index__")) := by rw [typeLookup_type, builtinLookup_eq_fast]; kernel_rfl
theorem ba_no_bytes : typeLookup (.type "bytearray") "__bytes__" = pure none := by rw [typeLookup_type, builtinLookup_eq_fast]; kernel_rfl
theorem ba_no_index : typeLookup (.type "bytearray") "__index__" = pure none := by rw [typeLookup_type, builtinLookup_eq_fast]; kernel_rfl
/-- the road into bytes.__new__ with one argument -/
theorem bn_in {v : Value} (h : wpAny (model prog w) A.in1 (Builtin.«bytes.__new__» ⟨[.type "bytes", v], []⟩) (fun fin s' => match fin with | .done f => wants Q E (.ok f) s' | .again c' => c'.quiet = true ∧ codeAny (model prog w) A c' (wants Q E) s') (fun e s' => wants Q E (.error e) s') s) :
    codeAny (model prog w) A (.call (.builtin "bytes.__new__") ⟨[.type "bytes", v], []⟩) (wants Q E) s := by
  refine codeAny_of_tree ?_
  show wpAny _ A.in1 (do checkBuiltinCall "bytes.__new__" ⟨[.type "bytes", v], []⟩; again (.builtin "bytes.__new__" ⟨[.type "bytes", v], []⟩)) _ _ s
  refine wpAny_bind (wpAny_of_eq (F.bm_newCall _) (wpAny_pure ⟨plainId_quiet F.bm_plain _, codeAny_builtin F.bm_entry ?_⟩))
  rw [Around.under_plainId F.bm_plain _]
  exact h
theorem bb_call {v : Value} (h : codeAny (model prog w) A.in1 (.call (.builtin "bytes.__new__") ⟨[.type "bytes", v], []⟩) (wants (fun r s₁ => s₁.TypeIs r "bytes" ∧ Q r s₁) E) s) : wpAny (model prog w) A (call (.type "bytes") [v]) Q E s :=
  callType_codes (Q₁ := fun obj s₁ => s₁.TypeIs obj "bytes" ∧ Q obj s₁) F.bm_called (F.bm_typeCall _) F.entry_object_init h fun obj s₁ h₁ =>
    ⟨h₁.1, F.args_object_init_2 obj _, object_init_meets F.bm_called.init.lookup F.bm_called.made (by decide) prog w A.in1 _ s₁ ⟨h₁.1, rfl, h₁.2⟩⟩
theorem bytes_bytes {b : Array UInt8} {t : Tok} (hq : Q (.bytes b t) s) : wpAny (model prog w) A (call (.type "bytes") [.bytes b t]) Q E s := by
  refine bb_call (bn_in ?_)
  have hT : s.TypeIs (.bytes b t) "bytes" := PySem.W.typeIs_bytes _ _ _
  have h1 := bb_lookup
  have h2 := F.bm_sub
  have h3 := F.bm_bind (.bytes b t)
  unfold Builtin.«bytes.__new__»
  wp_walk
  exact ⟨hT, hq⟩
theorem bytes_int {n : Nat} {t : Tok} (hn : n ≤ 100000) (hq : ∀ t' k, Q (.bytes (Array.replicate n 0) t') { s with toks := k }) : wpAny (model prog w) A (call (.type "bytes") [.int n t]) Q E s := by
  refine bb_call (bn_in ?_)
  obtain ⟨v, hv⟩ : ∃ v, v = Value.int n t := ⟨_, rfl⟩
  rw [← hv]
  have hT : s.TypeIs v "int" := by rw [hv]; exact rfl
  unfold Builtin.«bytes.__new__»
  refine wpAny_bind (wpAny_of_eq (a := true) rfl ?_)
  refine bm_if_false rfl ?_
  refine wpAny_bind (wpAny_of_eq F.bm_sub ?_)
  refine bm_if_false rfl ?_
  refine wpAny_bind (wpAny_of_eq (F.bm_bind _) ?_)
  refine wpAny_bind (wpAny_of_eq (a := ()) rfl ?_)
  refine wpAny_bind (wpAny_of_eq (a := ()) rfl ?_)
  refine bm_if_false rfl ?_
  refine wpAny_bind (wpAny_specialOf hT bi_no_bytes ?_)
  refine wpAny_bind (wpAny_of_eq (a := false) (by rw [hv]; rfl) ?_)
  refine bm_if_false rfl ?_
  refine wpAny_bind (wpAny_specialOf hT bi_index ?_)
  refine bm_if_false rfl ?_
  refine wpAny_bind (wpAny_attempt (wpAny_of_eq (show asIndex v = pure (n : Int) by rw [hv]; rfl) ?_))
  dsimp only
  have p63 : (2 : Int) ^ 63 = 9223372036854775808 := by decide
  have hf : Builtin.Bytes.fitsIndex (n : Int) = true := by
    unfold Builtin.Bytes.fitsIndex
    rw [p63, decide_eq_true (by omega), decide_eq_true (by omega)]
    rfl
  have e2 : ¬ ((n : Int) > 2 ^ 63 - 34) := by rw [p63]; omega
  generalize (2 : Int) ^ 63 - 34 = big at e2 ⊢
  simp only [hf, Bool.not_true, Bool.false_eq_true, if_false]
  have hz : ¬ (Array.replicate n (0 : UInt8)).size > sizeLine := by rw [Array.size_replicate, sizeLine_eq]; omega
  have hz' : Builtin.Bytes.tooLong n = false := by unfold Builtin.Bytes.tooLong; rw [sizeLine_eq]; exact decide_eq_false (by omega)
  have e1 : ¬ (n : Int) < 0 := by omega
  refine wpAny_ite_false (decide_eq_false e1) ?_
  refine wpAny_ite_false (decide_eq_false e2) ?_
  refine bm_if_false hz' ?_
  wp_walk
  rw [Int.toNat_natCast, if_neg hz]
  wp_walk
  exact ⟨PySem.W.typeIs_bytes _ _ _, hq _ _⟩
theorem ba_buffer : typeLookup (.type "bytearray") "__buffer__" = pure (some (.builtin "bytearray.__buffer__")) := by rw [typeLookup_type, builtinLookup_eq_fast]; kernel_rfl
theorem ba_release : typeLookup (.type "bytearray") "__release_buffer__" = pure (some (.builtin "bytearray.__release_buffer__")) := by rw [typeLookup_type, builtinLookup_eq_fast]; kernel_rfl
theorem ba_sub : isSubtype (.type "bytearray") (.type "bytearray") = pure true := by rw [isSubtype_type]; kernel_rfl
theorem own_slot {M : Model} {A : Around} {E : Value → Shared → Prop} {s : Shared} {v : Value} {name id : String} {Q : Bool → Shared → Prop} (hT : s.TypeIs v "bytearray") (hl : typeLookup (.type "bytearray") (Str.ofString name) = pure (some (.builtin id)))
    (he : (!id.endsWith ("." ++ name)) = false) (hd : id.dropRight (name.length + 1) = "bytearray") (hq : Q true s) : wpAny M A (Builtin.Bytes.slotIsOwn v name) Q E s := by
  unfold Builtin.Bytes.slotIsOwn
  refine wpAny_bind (wpAny_specialOf hT hl ?_)
  dsimp only
  refine bm_if_false he ?_
  rw [hd]
  exact wpAny_isInstance hT ba_sub hq
theorem buffer_barr {M : Model} {A : Around} {E : Value → Shared → Prop} {s : Shared} {a : Addr} {b : Array UInt8} {k : Nat} {id : String} {fl : Bool} {Q : Option (Array UInt8) → Shared → Prop} (ha : s.heap.get? a = some { cls := .type "bytearray", data := .bytearray b k }) (hq : Q (some b) s) :
    wpAny M A (Builtin.Bytes.buffer? id (.ref a) fl) Q E s := by
  have hT : s.TypeIs (.ref a) "bytearray" := ⟨_, ha, rfl⟩
  unfold Builtin.Bytes.buffer?
  refine wpAny_bind (wpAny_specialOf hT ba_buffer ?_)
  dsimp only
  refine wpAny_bind (own_slot hT ba_buffer (by decide +kernel) (by decide +kernel) ?_)
  refine bm_if_false rfl ?_
  refine wpAny_bind (wpAny_specialOf hT ba_buffer ?_)
  show wpAny _ _ (Builtin.Bytes.ownRelease (.ref a) >>= _) _ _ _
  unfold Builtin.Bytes.ownRelease
  refine wpAny_bind (wpAny_bind (own_slot hT ba_release (by decide +kernel) (by decide +kernel) (wpAny_pure ?_)))
  refine bm_if_false rfl ?_
  unfold Builtin.Bytes.payload Builtin.Bytes.payload?
  refine wpAny_bind (wpAny_bind (wpAny_bind (wpAny_load ha ?_)))
  exact wpAny_pure (wpAny_pure (wpAny_pure hq))
theorem bytes_barr {a : Addr} {b : Array UInt8} {k : Nat} (ha : s.heap.get? a = some { cls := .type "bytearray", data := .bytearray b k }) (hn : b.size ≤ 100000) (hq : ∀ t' k, Q (.bytes b t') { s with toks := k }) : wpAny (model prog w) A (call (.type "bytes") [.ref a]) Q E s := by
  refine bb_call (bn_in ?_)
  have hT : s.TypeIs (.ref a) "bytearray" := ⟨_, ha, rfl⟩
  unfold Builtin.«bytes.__new__»
  refine wpAny_bind (wpAny_of_eq (a := true) rfl ?_)
  refine bm_if_false rfl ?_
  refine wpAny_bind (wpAny_of_eq F.bm_sub ?_)
  refine bm_if_false rfl ?_
  refine wpAny_bind (wpAny_of_eq (F.bm_bind _) ?_)
  refine wpAny_bind (wpAny_of_eq (a := ()) rfl ?_)
  refine wpAny_bind (wpAny_of_eq (a := ()) rfl ?_)
  refine bm_if_false rfl ?_
  refine wpAny_bind (wpAny_specialOf hT ba_no_bytes ?_)
  refine wpAny_bind (wpAny_bind ?_)
  show wpAny _ _ (load a >>= _) _ _ _
  refine wpAny_bind (wpAny_load ha ?_)
  refine wpAny_pure (wpAny_pure ?_)
  refine bm_if_false rfl ?_
  refine wpAny_bind (wpAny_specialOf hT ba_no_index ?_)
  refine bm_if_true rfl ?_
  first
    | show wpAny _ _ (Builtin.Bytes.buffer? "bytes.__new__" (.ref a) true >>= _) _ _ _
    | (refine wpAny_bind ?_; show wpAny _ _ (Builtin.Bytes.buffer? "bytes.__new__" (.ref a) true >>= _) _ _ _)
  refine wpAny_bind (buffer_barr ha ?_)
  wp_walk
  rw [if_neg (show ¬ b.size > sizeLine by rw [sizeLine_eq]; omega)]
  wp_walk
  exact ⟨PySem.W.typeIs_bytes _ _ _, hq _ _⟩
end
section
variable {M : Model} {A : Around} {E : Value → Shared → Prop} {env : Env} {pos : Pos} {Q : Value → Shared → Prop} {s : Shared}
theorem p_some {e : Expr} (h : wpAny M A (eval e env) Q E s) : wpAny M A (evalPart (some e) env) Q E s := h
theorem p_none (h : Q .none s) : wpAny M A (evalPart none env) Q E s := wpAny_pure h
theorem e_slice {lower upper : Option Expr} (h : wpAny M A (evalPart lower env) (fun l s₁ => wpAny M A (evalPart upper env) (fun u s₂ => Q (.ref s₂.heap.objs.size) { s₂ with heap := s₂.heap.push { cls := .type "slice", data := .fields #[l, u, .none] } }) E s₁) E s) :
    wpAny M A (eval (.Slice lower upper none pos) env) Q E s :=
  wpAny_Slice (wpAny_mono h (fun _ _ h₁ => wpAny_mono h₁ (fun _ _ h₂ => p_none h₂) fun _ _ x => x) fun _ _ x => x)
end
section
variable {prog : Program} {w : World} {A : Around} {E : Value → Shared → Prop} {Q : Value → Shared → Prop} {h₀ h : Heap} {L : Addr} {m : Str → Option Value} {tn imm : List (Addr × Obj)} {G : Array GenState} {D : Drawn} {t : Nat} {O : OsState} {b : List UInt8} {u : Tok} {lv uv : Value} {lo hi : Option Int} {value slice : Expr}
/-- b[lo:hi] of a bytes -/
theorem t_sliceb (S : Sta h₀ L m tn imm h) (hl : IsPart lv lo) (hu : IsPart uv hi) (hz : b.length ≤ 16777216)
    (hq : ∀ h' t' k, Sta h₀ L m tn imm h' → Q (.bytes ((b.drop (lo.elim 0 (clipAt b.length))).take (hi.elim b.length (clipAt b.length) - lo.elim 0 (clipAt b.length))).toArray t') ⟨h', G, D, k, O⟩)
    (hs : ∀ a, subscripted slice false (.bytes b.toArray u) (.ref a) = operate [.ref a, .bytes b.toArray u] (getItem (.bytes b.toArray u) (.ref a)))
    (ht : ∀ r, letTemporaryGo value (.bytes b.toArray u) r = pure ()) :
    wpAny (model prog w) A (subscriptTail value slice (.bytes b.toArray u) (.ref h.objs.size)) Q E ⟨h.push { cls := .type "slice", data := .fields #[lv, uv, .none] }, G, D, t, O⟩ := by
  have hsz : b.toArray.size = b.length := List.size_toArray
  refine tail_of_ItemOn ⟨"bytes", _, FB.slot_bytes_getitem.lookup, typeIs_bytes _ _ _, getItem_meets (typeIs_bytes _ _ _) (by decide) FB.slot_bytes_getitem FB.entry_bytes_getitem (FB.args_bytes_getitem_2 _ _) (KBc.meets_slice2 b.toArray u _ hl hu)
    ⟨Heap.IsSliceOf.new _ _ _ _, Nat.le_trans (KBc.size_picked_le _ lo hi) (by rw [hsz, sizeLine_eq]; exact hz), fun t' k => ?_⟩⟩ (hs _) ht
  have e := KBc.picked_eq b.toArray lo hi
  rw [hsz] at e
  rw [e]
  exact hq _ _ _ (S.keeps fun _ _ e => Heap.get?_push_of_some _ e)
/-- b[i] of a bytes -/
theorem t_itemb {i : Int} {ui : Tok} (hfit : b.length ≤ 1099511627776) (h0 : 0 ≤ i) (h1 : i < (b.length : Int)) (hq : Q (.int (b.getD i.toNat 0).toNat t) ⟨h, G, D, t + 1, O⟩)
    (hs : subscripted slice false (.bytes b.toArray u) (.int i ui) = operate [.bytes b.toArray u, .int i ui] (getItem (.bytes b.toArray u) (.int i ui)))
    (ht : ∀ r, letTemporaryGo value (.bytes b.toArray u) r = pure ()) :
    wpAny (model prog w) A (subscriptTail value slice (.bytes b.toArray u) (.int i ui)) Q E ⟨h, G, D, t, O⟩ := KBy.item_N (s := ⟨h, G, D, t, O⟩) hfit h0 h1 hq hs ht
end

local macro_rules | `(tactic| walk_at "m") => `(tactic| first
  | (with_reducible refine e_slice ?_)
  | (with_reducible refine p_some ?_)
  | (with_reducible refine p_none ?_))
section
variable {prog : Program} {w : World} {p : Program} {loose : List Str} {mean : ExcName → Option Value} {mg mb : Str → Option Value} {A₀ : Around} {base h₀ h : Heap} {outer : List Env} {env : Env} {L : Addr} {m : Str → Option Value} {tn imm : List (Addr × Obj)} {n : Nat} {G : Array GenState} {D : Drawn} {t : Nat} {O : OsState}
  {Q E : Value → Shared → Prop} {A : Around} {x dx : Addr} {b : List UInt8} {tb t1 t2 t3 : Tok} {k : Nat}
/-- take(size) -/
theorem c_take {sz : Nat} {ts : Tok} (Z : Act w p loose mean mg mb A₀ base h₀ outer env L m ((dx, rdr w.params b tb t1 t2 k t3) :: tn) imm h 4) (hx : (x, instObj 122 dx) ∈ imm) (hb : b.length ≤ 100000) (hk : k + sz ≤ b.length)
    (hQ : ∀ h' t' u u3, Sta h₀ L m ((dx, rdr w.params b tb t1 t2 (k + sz) u3) :: tn) imm h' → Q (.bytes ((b.drop k).take sz).toArray u) ⟨h', G, D, t', O⟩) :
    wpAny (model prog w) (A₀.deeper env) (call (.ref 105) [.ref x, .int sz ts]) Q E ⟨h, G, D, t, O⟩ := by
  refine' callA0 (binds := [("self", .ref x), ("size", .int sz ts)]) Z ?k1 ?k2 ?k3 ?k4 ?k5 ?k6 ?k7 ?k8 ?_
  case k1 => k_is
  case k2 => k_is
  case k3 => exact rfl
  case k4 => exact locs rfl
  case k5 => decide
  case k6 => exact rfl
  case k7 => exact rfl
  case k8 => exact rfl
  intro g L' h₁ t₁ ⟨C, S, _, _, R⟩
  repeat walk_at "m"
  refine c_left (by walk_at "act") (by walk_at "mem") (by walk_at "mem") hb fun h t u S => ?_
  repeat walk_at "m"
  refine ⟨fun hc => absurd (of_decide_eq_true hc) (by omega), fun _ => ?_⟩
  repeat walk_at "m"
  refine t_sliceb S (.int _ _) (.int _ _) (by omega) (fun h t q S => ?_) (fun _ => by with_unfolding_all rfl) (fun _ => by with_unfolding_all rfl)
  repeat walk_at "m"
  have e : List.take ((some ((k : Int) + sz)).elim b.length (clipAt b.length) - (some (k : Int)).elim 0 (clipAt b.length)) (List.drop ((some (k : Int)).elim 0 (clipAt b.length)) b) = (b.drop k).take sz := by
    show List.take (clipAt b.length ((k : Int) + sz) - clipAt b.length (k : Int)) (List.drop (clipAt b.length (k : Int)) b) = _
    rw [← Int.natCast_add, clipAt_nat, clipAt_nat, Nat.min_eq_left hk, Nat.min_eq_left (by omega : k ≤ b.length), Nat.add_sub_cancel_left]
  rw [e]
  refine bytes_bytes ?_
  repeat walk_at "m"
  walk_at "back"
  exact fun S => hQ _ _ _ _ (by simp only [rdr, rdrE, Int.natCast_add]; exact S)
/-- byte() -/
theorem c_byte (Z : Act w p loose mean mg mb A₀ base h₀ outer env L m ((dx, rdr w.params b tb t1 t2 k t3) :: tn) imm h 6) (hx : (x, instObj 122 dx) ∈ imm) (hb : b.length ≤ 100000) (hk : k + 1 ≤ b.length)
    (hQ : ∀ h' t' u u3, Sta h₀ L m ((dx, rdr w.params b tb t1 t2 (k + 1) u3) :: tn) imm h' → Q (.int (b.getD k 0).toNat u) ⟨h', G, D, t', O⟩) :
    wpAny (model prog w) (A₀.deeper env) (call (.ref 112) [.ref x]) Q E ⟨h, G, D, t, O⟩ := by
  refine' callA0 (binds := [("self", .ref x)]) Z ?k1 ?k2 ?k3 ?k4 ?k5 ?k6 ?k7 ?k8 ?_
  case k1 => k_is
  case k2 => k_is
  case k3 => exact rfl
  case k4 => exact locs rfl
  case k5 => decide
  case k6 => exact rfl
  case k7 => exact rfl
  case k8 => exact rfl
  intro g L' h₁ t₁ ⟨C, S, _, _, R⟩
  repeat walk_at "m"
  refine c_take (sz := 1) (by walk_at "act") hx hb hk fun h t u u3 S => ?_
  repeat walk_at "m"
  have e1 : (List.take 1 (List.drop k b)).length = 1 := by rw [List.length_take, List.length_drop]; omega
  have e2 : (List.take 1 (List.drop k b)).getD (0 : Int).toNat 0 = b.getD k 0 := by
    show (List.take 1 (List.drop k b)).getD 0 0 = b.getD k 0
    simp only [List.getD_eq_getElem?_getD, List.getElem?_take, List.getElem?_drop]
    simp
  refine t_itemb (by omega) (by decide) (by omega) ?_ (by with_unfolding_all rfl) (fun _ => by with_unfolding_all rfl)
  rw [e2]
  walk_at "back"
  exact fun S => hQ _ _ _ _ S
/-- word() -/
theorem c_word (Z : Act w p loose mean mg mb A₀ base h₀ outer env L m ((dx, rdr w.params b tb t1 t2 k t3) :: tn) imm h 6) (hx : (x, instObj 122 dx) ∈ imm) (hb : b.length ≤ 100000) (hk : k + 2 ≤ b.length)
    (hQ : ∀ h' t' u u3, Sta h₀ L m ((dx, rdr w.params b tb t1 t2 (k + 2) u3) :: tn) imm h' → Q (.int ((b.getD k 0).toNat * 256 + (b.getD (k + 1) 0).toNat) u) ⟨h', G, D, t', O⟩) :
    wpAny (model prog w) (A₀.deeper env) (call (.ref 119) [.ref x]) Q E ⟨h, G, D, t, O⟩ := by
  refine' callA0 (binds := [("self", .ref x)]) Z ?k1 ?k2 ?k3 ?k4 ?k5 ?k6 ?k7 ?k8 ?_
  case k1 => k_is
  case k2 => k_is
  case k3 => exact rfl
  case k4 => exact locs rfl
  case k5 => decide
  case k6 => exact rfl
  case k7 => exact rfl
  case k8 => exact rfl
  intro g L' h₁ t₁ ⟨C, S, _, _, R⟩
  repeat walk_at "m"
  refine c_take (sz := 2) (by walk_at "act") hx hb hk fun h t u u3 S => ?_
  have e1 : (List.take 2 (List.drop k b)).length = 2 := by rw [List.length_take, List.length_drop]; omega
  have e2 : (List.take 2 (List.drop k b)).getD (0 : Int).toNat 0 = b.getD k 0 := by
    show (List.take 2 (List.drop k b)).getD 0 0 = b.getD k 0
    simp only [List.getD_eq_getElem?_getD, List.getElem?_take, List.getElem?_drop]
    simp
  have e3 : (List.take 2 (List.drop k b)).getD (1 : Int).toNat 0 = b.getD (k + 1) 0 := by
    show (List.take 2 (List.drop k b)).getD 1 0 = b.getD (k + 1) 0
    simp only [List.getD_eq_getElem?_getD, List.getElem?_take, List.getElem?_drop]
    simp
  repeat walk_at "m"
  refine t_itemb (by omega) (by decide) (by omega) ?_ (by with_unfolding_all rfl) (fun _ => by with_unfolding_all rfl)
  rw [e2]
  repeat walk_at "m"
  refine t_itemb (by omega) (by decide) (by omega) ?_ (by with_unfolding_all rfl) (fun _ => by with_unfolding_all rfl)
  rw [e3]
  repeat walk_at "m"
  walk_at "back"
  exact fun S => hQ _ _ _ _ S
end

section
variable {prog : Program} {w : World} {p : Program} {loose : List Str} {mean : ExcName → Option Value} {mg mb : Str → Option Value} {A₀ : Around} {base h₀ h : Heap} {outer : List Env} {env : Env} {L : Addr} {m : Str → Option Value} {tn imm : List (Addr × Obj)} {n : Nat} {G : Array GenState} {D : Drawn} {t : Nat} {O : OsState}
  {Q E : Value → Shared → Prop} {A : Around} {x dx : Addr} {b : List UInt8} {tb t1 t2 t3 : Tok} {k : Nat}
/-- OctetReader(octets) -/
theorem c_reader (Z : Act w p loose mean mg mb A₀ base h₀ outer env L m tn imm h 4)
    (hQ : ∀ x dx h' t' t1 t2 t3, Sta h₀ L m ((dx, rdr w.params b tb t1 t2 0 t3) :: tn) ((x, instObj 122 dx) :: imm) h' → Q (.ref x) ⟨h', G, D, t', O⟩) :
    wpAny (model prog w) (A₀.deeper env) (call (.ref 122) [.bytes b.toArray tb]) Q E ⟨h, G, D, t, O⟩ := by
  refine call_cls (s := ⟨h, G, D, t, O⟩) (K := KH w.params) Z.S.F Z.C.X Z.S.N (by kernel_rfl) (fI := 91) (by kernel_rfl) (by kernel_rfl) fun x dx h F N l1 l2 => ?_
  have hR : Room ((A₀.deeper env).under (.builtin "type.__call__" ⟨.ref 122 :: [Value.bytes b.toArray tb], []⟩)) 3 := Z.R.under (Nat.le_of_ble_eq_true (by kernel_rfl)) (Nat.le_of_ble_eq_true (by kernel_rfl))
  have S : Sta h₀ L m ((dx, dictOf [] 0) :: tn) ((x, instObj 122 dx) :: imm) h := by
    have S1 : Sta h₀ L m ((x, instObj 122 dx) :: (dx, dictOf [] 0) :: tn) imm h := ⟨F, N, fun p hp => by
      rcases List.mem_cons.mp hp with rfl | hp
      · exact Nat.ne_of_lt l2
      · exact Nat.ne_of_lt (Nat.lt_trans (l1 p hp) l2), fun p hp => Nat.ne_of_lt (l1 p hp), Z.S.D⟩
    exact S1.freeze
  refine' codeK0 (binds := [("self", .ref x), ("octets", .bytes b.toArray tb)]) (t := t) Z.C S Z.hf Z.hk Z.C.frames hR ?k1 ?k2 ?k3 ?k4 ?k5 ?k6 ?k7 ?k8 ?_
  case k1 => k_is
  case k2 => k_is
  case k3 => exact rfl
  case k4 => exact locs rfl
  case k5 => decide
  case k6 => exact rfl
  case k7 => exact rfl
  case k8 => exact rfl
  intro g L' h₁ t₁ ⟨C, S, _, _, R⟩
  repeat walk_at "m"
  refine r_nil ?_
  walk_at "back"
  exact fun S => ⟨rfl, hQ x dx _ _ _ _ _ S⟩
end

/-- the mro of SegmentError behind itself -/
abbrev segMro : List Value := [.ref 31, .type "Exception", .type "BaseException", .type "object"]
section
variable {prog : Program} {w : World} {A : Around} {R : Result → Shared → Prop} {h : Heap} {g : Array GenState} {d : Drawn} {t : Nat} {os : OsState}
theorem seg_obj (w : World) : ∃ nm q N bs hdct sn sub ab col dd k0 k1 k2 k3 k5, (KH w.params).lookup 44 = some (excClassObj nm q 44 N bs segMro hdct sn sub ab col dd k0 k1 k2 k3 k5 "Exception.__new__") :=
  ⟨_, _, _, _, _, _, _, _, _, _, _, _, _, _, _, rfl⟩
theorem seg_contains : (Value.ref 44 :: segMro).contains (.type "Exception") = true ∧ (Value.ref 44 :: segMro).contains (.type "AttributeError") = false ∧ (Value.ref 44 :: segMro).contains (.type "NameError") = false ∧ (Value.ref 44 :: segMro).contains (.ref 44) = true ∧ (Value.ref 44 :: segMro).contains (.type "BaseException") = true := by decide
theorem seg_new (X : (KH w.params).In h) {v : Value}
    (hq : R (.ok (.ret (.ref (h.objs.size + 1)))) ⟨(h.push { cls := .type "tuple", data := .seq #[v] }).push { cls := .ref 44, data := .fields #[.ref h.objs.size, .none, .none, .none, .bool false, .none] }, g, d, t, os⟩) :
    codeAny (model prog w) A (.builtin "Exception.__new__" ⟨[.ref 44, v], []⟩) R ⟨h, g, d, t, os⟩ := by
  obtain ⟨nm, q, N, bs, hdct, sn, sub, ab, col, dd, k0, k1, k2, k3, k5, hK⟩ := seg_obj w
  have hC := X _ _ hK
  obtain ⟨c1, c2, c3, _⟩ := seg_contains
  have Fn := PySem.F.excBase_Exception
  have hends := Fn.ends
  refine codeAny_builtinAt Fn.entry ?_
  unfold Builtin.«BaseException.__new__»
  refine PySem.wpAt_bind ?_
  show PySem.wpAt _ _ _ (stack >>= _) _ _ _
  refine PySem.wpAt_bind (PySem.wpAt_stack fun p below => PySem.wpAt_of_wpAny ?_)
  wp_walk
  refine PySem.wpAt_of_wpAny ?_
  rw [Fn.owner]
  repeat (first | with_reducible refine wpAny_madeHere_exc Fn.canon hC ?_ | with_reducible refine wpAny_loadPart_at hC ?_ | (with_reducible refine wpAny_isSubtype_exc hC ?_; first | rw [c1] | rw [c2] | rw [c3]) | wp_step)
  show R _ _
  rw [Heap.size_push]
  exact hq
end

section
variable {prog : Program} {w : World} {A : Around} {R : Result → Shared → Prop} {h : Heap} {g : Array GenState} {d : Drawn} {t : Nat} {os : OsState}
theorem seg_core (X : (KH w.params).In h) {v : Value} 
    (hq : codeAny (model prog w) (A.under (.builtin "type.__call__" ⟨[.ref 44, v], []⟩)) (.call (.ref 28) ⟨[.ref (h.objs.size + 1), v], []⟩) (InitBack (h.objs.size + 1) R)
      ⟨(h.push { cls := .type "tuple", data := .seq #[v] }).push { cls := .ref 44, data := .fields #[.ref h.objs.size, .none, .none, .none, .bool false, .none] }, g, d, t, os⟩) :
    codeAny (model prog w) A (.call (.ref 44) ⟨[v], []⟩) R ⟨h, g, d, t, os⟩ := by
  obtain ⟨nm, q, N, bs, hdct, sn, sub, ab, col, dd, k0, k1, k2, k3, k5, hK⟩ := seg_obj w
  have hC := X _ _ hK
  have call : Looks (model prog w) h (specialOf (.ref 44) "__call__") (some (.builtin "type.__call__")) := looks_specialIn X (by kernel_rfl)
  have typ : Looks (model prog w) h (isInstance (.ref 44) (.type "type")) true := looks_instIn X (by kernel_rfl)
  refine codeAny_of_tree ?_
  show wpAny _ _ (callAny (.ref 44) _) _ _ _
  refine nd_load hC ?_
  show wpAny _ _ (callAny.viaDunder (.ref 44) _) _ _ _
  unfold callAny.viaDunder
  refine wpAny_bind (call.at ?_)
  dsimp only
  rw [tc_bind]
  refine wpAny_bind (wpAny_pure (wpAny_bind (wpAny_pure ?_)))
  refine wpAny_pure (a := Fin.again (.call (.builtin "type.__call__") ⟨[.ref 44, v], []⟩)) (And.intro rfl ?_)
  refine codeAny_call_builtin_at (Code.quiet_builtin _ (by decide +kernel)) entry_typeCall (check_slot tc_kind tc_split typ (tc_args _ _ _) ?_)
  unfold Builtin.«type.__call__»
  obtain ⟨c1, c2, c3, c4, c5⟩ := seg_contains
  have Fn := PySem.F.excBase_Exception
  repeat (first | with_reducible refine wpAny_loadPart_at hC ?_ | with_reducible refine wpAny_madeBy_exc hC ?_ | wp_step)
  refine codeAny_call_builtin_code (Code.quiet_builtin _ Fn.quiet) ?_
  have hstar := Fn.noStar
  simp only [checkBuiltinCall, Fn.newKind, Fn.newSplit, Fn.newRow]
  repeat (first | refine wpAny_loadPart_at hC ?_ | (refine wpAny_isSubtype_exc hC ?_; rw [c1]) | refine wpAny_staticBase_exc hC ?_ | refine wpAny_madeBy_exc hC ?_ | simp only [bne_self_eq_false, Bool.false_eq_true, if_false] | wp_step)
  refine seg_new X ?_
  show wpAny _ _ _ _ _ _
  have k : ∀ b o, h.get? b = some o → ((h.push { cls := .type "tuple", data := .seq #[v] }).push { cls := .ref 44, data := .fields #[.ref h.objs.size, .none, .none, .none, .bool false, .none] }).get? b = some o := fun b o e => Heap.get?_push_of_some _ (Heap.get?_push_of_some _ e)
  have hC₁ := k _ _ hC
  have hget : ((h.push { cls := .type "tuple", data := .seq #[v] }).push
      { cls := .ref 44, data := .fields #[.ref h.objs.size, .none, .none, .none, .bool false, .none] }).get? (h.objs.size + 1) = some
      { cls := .ref 44, data := .fields #[.ref h.objs.size, .none, .none, .none, .bool false, .none] } := by heap_get
  have i1 : Looks (model prog w) ((h.push { cls := .type "tuple", data := .seq #[v] }).push { cls := .ref 44, data := .fields #[.ref h.objs.size, .none, .none, .none, .bool false, .none] }) (typeLookup (.ref 44) "__init__") (some (.ref 28)) := (looks_findIn X (by kernel_rfl)).keeps k
  have b1 : Looks (model prog w) ((h.push { cls := .type "tuple", data := .seq #[v] }).push { cls := .ref 44, data := .fields #[.ref h.objs.size, .none, .none, .none, .bool false, .none] }) (bindSpecial (.ref 28) (.ref (h.objs.size + 1))) (.ref 28, [.ref (h.objs.size + 1)]) := (bind_fn X _ (by kernel_rfl)).keeps k
  unfold isInstance
  repeat (first | with_reducible refine wpAny_loadPart_at hget ?_ | (with_reducible refine wpAny_isSubtype_exc hC₁ ?_; rw [c4]) | wp_step)
  show wpAny _ _ (typeLookup (.ref 44) _) _ _ _
  refine i1.here ?_
  refine wpAny_holding (wpAny_bind (b1.here ?_))
  refine wpAny_bind (wpAny_call (codeAny_mono hq fun r s' z => ?_))
  rcases r with e | (v | _ | _ | _) <;> first | exact z | exact z.elim | skip
  obtain ⟨rfl, z⟩ := z
  exact wpAny_pure (wpAny_pure z)
end

section
variable {prog : Program} {w : World} {A : Around} {E : Value → Shared → Prop} {h : Heap} {g : Array GenState} {d : Drawn} {t : Nat} {os : OsState} {x a0 : Addr} {v : Value}
theorem seg_set {sl : Array (Option Value)} {fs : Array Value} {Q : Unit → Shared → Prop} (X : (KH w.params).In h) (hx : h.get? x = some ⟨.ref 44, none, .fields fs, sl⟩)
    (hq : ∀ h' t' dx, (∀ b o, b ≠ x → h.get? b = some o → h'.get? b = some o) → h'.get? x = some ⟨.ref 44, some dx, .fields fs, sl⟩ → Q () ⟨h', g, d, t', os⟩) :
    wpAny (model prog w) A (setAttr (.ref x) "message" v) Q E ⟨h, g, d, t, os⟩ := by
  have SF := PySem.F.store_object
  have ty : Looks (model prog w) h (typeOf (.ref x)) (.ref 44) := (Looks.ld hx).andThen .now
  have hs : Looks (model prog w) h (typeLookup (.ref 44) "__setattr__") (some (.builtin "object.__setattr__")) := looks_findIn X (by kernel_rfl)
  have ms : Looks (model prog w) h (typeLookup (.ref 44) "message") none := looks_findIn X (by kernel_rfl)
  have sub : Looks (model prog w) h (isInstance (.ref x) (.type "object")) true := ty.andThen (looks_mroIn X (by kernel_rfl))
  obtain ⟨nm, q, N, bs, hdct, sn, sb, ab, col, dd, k0, k1, k2, k3, k5, hK⟩ := seg_obj w
  have hC := X _ _ hK
  have hd : hdct = true := by
    have e : (clsIn (KH w.params) 44).any (·.hasDict) = true := by kernel_rfl
    unfold clsIn at e
    rw [hK] at e
    exact e
  have mro : Looks (model prog w) h (mroOf (.ref 44)) (.ref 44 :: segMro) := ((Looks.ld (part := none) hC).andThen .now).andThen .now
  refine wpAny_bind (wpAny_mkText (wpAny_bind (wpAny_bind (wpAny_bind (ty _ _ _ _ (fun _ _ e => e) (hs _ _ _ _ (fun _ _ e => e) (wpAny_holding ?_)))))))
  rw [PySem.F.store_object.slot.bind]
  refine wpAny_bind (wpAny_pure (wpAny_bind (wpAny_call ?_)))
  show codeAny _ _ (.call (.builtin "object.__setattr__") ⟨[.ref x, .str "message" t, v], []⟩) _ _
  refine codeAny_call_builtin SF.slot.plain SF.entry (@check_slot (model prog w) _ _ ⟨h, g, d, t + 1, os⟩ "object.__setattr__" "object" "__setattr__" (.ref x) [.str "message" t, v] [] _ SF.kind SF.split sub (SF.args (.ref x) (.str "message" t) v) ?_)
  rw [osa_eq, refuse_eq]
  refine wpAny_bind (wpAny_bind (ty.here (wpAny_bind (mro.here ?_))))
  rw [refuseLoop_ref, refuseLoop_ref, PySem.F.store_Exception.passes]
  refine wpAny_pure (wpAny_bind (ty.here (wpAny_bind (ms.here (wpAny_bind ?_)))))
  refine wpAny_pure ?_
  have hx₁ : (h.push { cls := .type "dict", data := .dict #[] }).get? x = some ⟨.ref 44, none, .fields fs, sl⟩ := Heap.get?_push_of_some _ hx
  have hxs : x ≠ h.objs.size := Nat.ne_of_lt (Heap.lt_size hx)
  have hgd : ((h.push { cls := .type "dict", data := .dict #[] }).update x fun o => { cls := o.cls, dict := some h.objs.size, data := o.data, slots := o.slots }).get? h.objs.size
      = some { cls := .type "dict", data := .dict #[] } :=
    (Heap.get?_update_ne _ _ _ _ hxs.symm).trans (Heap.get?_push_at rfl rfl)
  have hnd : ((h.push { cls := .type "dict", data := .dict #[] }).update x fun o => { cls := o.cls, dict := some h.objs.size, data := o.data, slots := o.slots }).Ns h.objs.size (fun _ => none) :=
    ⟨_, #[], _, hgd, rfl, fun e he => absurd he (by simp), fun _ => rfl⟩
  refine wpAny_bind (wpAny_pure (wpAny_bind (wpAny_bind (wpAny_loadPart hx (wpAny_bind ((looks_clsIn X (show clsIn (KH w.params) 44 = some _ by unfold clsIn; rw [hK])).here ?_))))))
  rw [hd]
  refine wpAny_bind (wpAny_alloc' ?_)
  refine wpAny_bind (wpAny_update' hx₁ ?_)
  refine wpAny_pure (wpAny_bind (wpAny_pure ?_))
  refine wpAny_bind (wpAny_nsSet1 (Heap.Ns1.of_empty hnd) fun h' hn' hs => ?_)
  obtain ⟨oD, esD, epD, hoD, hdD, hcD⟩ := hn'.count (Within.cons "message" v Within.nil)
  refine wpAny_bind (wpAny_lookBehind hoD (by rw [hdD]; exact pastItsLine_dict (Nat.le_trans hcD (by rw [List.length_cons, List.length_nil, sizeLine_eq]; omega))) ?_)
  refine wpAny_pure (wpAny_pure (wpAny_pure (hq h' _ h.objs.size ?_ ?_)))
  · intro b o hb e
    exact (hs.2 b (Nat.ne_of_lt (Heap.lt_size e))).trans ((Heap.get?_update_ne _ _ _ _ hb).trans (Heap.get?_push_of_some _ e))
  · exact (hs.2 x hxs).trans (Heap.get?_update_self _ hx₁ rfl)
end

section
variable {prog : Program} {w : World} {A : Around} {E : Value → Shared → Prop} {h : Heap} {g : Array GenState} {d : Drawn} {t : Nat} {os : OsState} {x a0 : Addr} {v : Value}
/-- Exception.__init__(self, message) of a SegmentError -/
theorem seg_binit {od : Option Addr} {sl : Array (Option Value)} {Q : Value → Shared → Prop} (X : (KH w.params).In h) (hx : h.get? x = some ⟨.ref 44, od, .fields #[.ref a0, .none, .none, .none, .bool false, .none], sl⟩)
    (hq : ∀ h', (∀ b o, b ≠ x → h.get? b = some o → h'.get? b = some o) → h'.get? x = some ⟨.ref 44, od, .fields #[.ref h.objs.size, .none, .none, .none, .bool false, .none], sl⟩ → Q .none ⟨h', g, d, t, os⟩) :
    wpAny (model prog w) A (call (.builtin "Exception.__init__") [.ref x, v]) Q E ⟨h, g, d, t, os⟩ := by
  obtain ⟨nm, q, N, bs, hdct, sn, sub, ab, col, dd, k0, k1, k2, k3, k5, hK⟩ := seg_obj w
  have hC := X _ _ hK
  obtain ⟨c1, c2, c3, c4, c5⟩ := seg_contains
  have Fn := PySem.F.excBase_Exception
  have hshort := Fn.noStar
  refine wpAny_call (codeAny_call_builtin Fn.init.plain Fn.initEntry ?_)
  show wpAny _ _ (checkBuiltinCall "Exception.__init__" ⟨[.ref x, v], []⟩) _ _ _
  simp only [checkBuiltinCall, Fn.initKind, Fn.initSplit, Fn.initRow]
  repeat (first | (with_reducible refine wpAny_loadPart_at hx ?_) | with_reducible refine wpAny_loadPart_at hC ?_ | (with_reducible refine wpAny_isSubtype_exc hC ?_; rw [c1]) | wp_step)
  have he₁ := Heap.get?_push_of_some (h := h) { cls := .type "tuple", data := .seq #[v] } hx
  refine (hq _ (fun b o hb e => (Heap.get?_update_other _ _ (Ne.symm hb)).trans (Heap.get?_push_of_some _ e)) ?_)
  rw [Heap.get?_update_self _ he₁ rfl]
  rfl
end
section
variable {prog : Program} {w : World} {p : Program} {loose : List Str} {mean : ExcName → Option Value} {mg mb : Str → Option Value} {A A₀ : Around} {base h₀ h : Heap} {outer : List Env} {env : Env} {L : Addr} {m : Str → Option Value} {tn imm : List (Addr × Obj)} {n : Nat} {G : Array GenState} {D : Drawn} {t : Nat} {O : OsState} {R : Result → Shared → Prop} {x a0 : Addr} {v : Value}
theorem seg_init (C : Cx (KH w.params) p loose mean mg mb A₀ base h₀ outer) (S : Sta h₀ L m ((x, ⟨.ref 44, none, .fields #[.ref a0, .none, .none, .none, .bool false, .none], #[]⟩) :: tn) imm h) (hf : env.frame = some L) (hke : env.scope.kind = .function) (hA : A.frames = some (env :: outer)) (hR : Room A 3)
    (hQ : ∀ h' t' o a0', Sta h₀ L m ((x, o) :: tn) imm h' → o.cls = .ref 44 → o.data = .fields #[.ref a0', .none, .none, .none, .bool false, .none] → R (.ok (.ret .none)) ⟨h', G, D, t', O⟩) :
    codeAny (model prog w) A (.call (.ref 28) ⟨[.ref x, v], []⟩) R ⟨h, G, D, t, O⟩ := by
  refine' codeK0 (binds := [("self", .ref x), ("message", v)]) (t := t) C S hf hke hA hR ?k1 ?k2 ?k3 ?k4 ?k5 ?k6 ?k7 ?k8 ?_
  case k1 => k_is
  case k2 => k_is
  case k3 => exact rfl
  case k4 => exact locs rfl
  case k5 => decide
  case k6 => exact rfl
  case k7 => exact rfl
  case k8 => exact rfl
  intro g L' h₁ t₁ ⟨C, S, _, _, R⟩
  repeat walk_at "m"
  refine method_type (s := ⟨h₁, G, D, t₁, O⟩) S.F C.X (by kernel_rfl) (by decide +kernel) (v := .builtin "Exception.__init__") (by kernel_rfl) (by decide +kernel) ?_
  refine PyProof.Rows.callWith_builtin1 ?_
  repeat walk_at "m"
  refine seg_binit (Cx.X C |>.keeps S.F.keep) (S.N _ (.head _)).1 fun h' k1 k2 => ?_
  have S := S.turn k1 k2
  refine ⟨rfl, ?_⟩
  repeat walk_at "m"
  refine seg_set (C.X.keeps S.F.keep) (S.N _ (.head _)).1 fun h'' t'' dx k3 k4 => ?_
  have S := S.turn k3 k4
  refine r_nil ?_
  walk_at "back"
  exact fun S => hQ _ _ _ _ S rfl rfl
end

section
variable {M : Model} {A : Around} {E : Value → Shared → Prop} {env : Env} {s : Shared} {w : World}
theorem seg_raiseStmt {x : Sem Value} {Q : Flow → Shared → Prop} (hh : A.handled = none)
    (h : wpAny M A x (fun v s₁ => ∃ e o a0, v = .ref e ∧ (KH w.params).In s₁.heap ∧ s₁.heap.get? e = some o ∧ o.cls = .ref 44 ∧ o.data = .fields #[.ref a0, .none, .none, .none, .bool false, .none] ∧ E (.ref e) s₁) E s) :
    wpAny M A (raiseStmt env (some x) none) Q E s := by
  obtain ⟨nm, q, N, bs, hdct, sn, sub, ab, col, dd, k0, k1, k2, k3, k5, hK⟩ := seg_obj w
  obtain ⟨c1, c2, c3, c4, c5⟩ := seg_contains
  unfold raiseStmt
  refine wpAny_bind (wpAny_mono h (fun v s₁ h₁ => ?_) fun _ _ x => x)
  obtain ⟨e, o, a0, rfl, X, he, h1, h2, hE⟩ := h₁
  have hC := X _ _ hK
  obtain ⟨oc, od, odt, osl⟩ := o
  dsimp only at h1 h2
  subst h1 h2
  obtain ⟨hp, g, d, tk, os⟩ := s₁
  repeat (first | with_reducible refine wpAny_loadPart_at he ?_ | with_reducible refine wpAny_loadPart_at hC ?_ | (with_reducible refine wpAny_isSubtype_exc hC ?_; rw [c5]) | wp_step)
  exact wpAny_raiseNew_none hh hE
theorem r_raiseS {x : Expr} {pos : Pos} {rest : List Stmt} {Q : Flow → Shared → Prop} (hh : A.handled = none)
    (h : wpAny M A (eval x env) (fun v s₁ => ∃ e o a0, v = .ref e ∧ (KH w.params).In s₁.heap ∧ s₁.heap.get? e = some o ∧ o.cls = .ref 44 ∧ o.data = .fields #[.ref a0, .none, .none, .none, .bool false, .none] ∧ E (.ref e) s₁) E s) :
    wpAny M A (execs (.Raise (some x) none pos :: rest) env) Q E s := by
  refine r_cons ?_
  rw [arm_exec_Raise]
  first
    | exact wpAny_bind (wpAny_standAt (seg_raiseStmt (w := w) hh (wpAny_bind (wpAny_mono h (fun v s₁ h₁ => wpAny_bind (wpAny_standAt (wpAny_pure h₁))) fun _ _ x => x))))
    | (simp only [evalOpt, Option.map]; exact wpAny_bind (wpAny_standAt (seg_raiseStmt (w := w) hh (wpAny_bind (wpAny_mono h (fun v s₁ h₁ => wpAny_bind (wpAny_standAt (wpAny_pure h₁))) fun _ _ x => x)))))
    | (show wpAny M A (do standAt pos; raiseStmt env (some (do let v ← eval x env; standAt pos; pure v)) none) _ E s; exact wpAny_bind (wpAny_standAt (seg_raiseStmt (w := w) hh (wpAny_bind (wpAny_mono h (fun v s₁ h₁ => wpAny_bind (wpAny_standAt (wpAny_pure h₁))) fun _ _ x => x)))))
end
section
variable {prog : Program} {w : World} {p : Program} {loose : List Str} {mean : ExcName → Option Value} {mg mb : Str → Option Value} {A₀ : Around} {base h₀ h : Heap} {outer : List Env} {env : Env} {L : Addr} {m : Str → Option Value} {tn imm newsE : List (Addr × Obj)} {n : Nat} {G : Array GenState} {D : Drawn} {t : Nat} {O : OsState}
  {E : Value → Shared → Prop} {v : Value}
theorem fresh_hide {o : Obj} {x a0 : Addr} (S : Sta h₀ L m ((x, o) :: tn) imm h) (h1 : o.cls = .ref 44) (h2 : o.data = .fields #[.ref a0, .none, .none, .none, .bool false, .none]) :
    Thrown base h₀ env outer L (.ref 44) (tn ++ imm) (.ref x) h := by
  have X := S.N _ (.head _)
  have F := S.F
  refine ⟨x, rfl, .inl ⟨h.hide x, m, ?_, ?_, ?_, ?_, ?_⟩⟩
  · obtain ⟨oL, es, ep, eL, rL⟩ := F.ns
    exact ⟨⟨oL, es, ep, (Heap.hide_ne h (Ne.symm X.2.1)).trans eL, rL⟩, fun b o e => (Heap.hide_ne h (by rintro rfl; rw [X.2.2] at e; cases e)).trans (F.keep b o e), F.above⟩
  · intro p hp
    have P := S.N p (.tail _ hp)
    exact ⟨(Heap.hide_ne h (S.D.1 p hp)).trans P.1, P.2⟩
  · exact fun b o e => Heap.of_hide e
  · have := hideAll_none [x] (h := h) (b := x) (.head _)
    exact this
  · exact ⟨o, .ref a0, X.1, h1, h2⟩
/-- SegmentError(text) -/
theorem seg_call (Z : Act w p loose mean mg mb A₀ base h₀ outer env L m tn imm h 4) {Q : Value → Shared → Prop}
    (hQ : ∀ x o a0 h' t', Sta h₀ L m ((x, o) :: tn) imm h' → o.cls = .ref 44 → o.data = .fields #[.ref a0, .none, .none, .none, .bool false, .none] → Q (.ref x) ⟨h', G, D, t', O⟩) :
    wpAny (model prog w) (A₀.deeper env) (call (.ref 44) [v]) Q E ⟨h, G, D, t, O⟩ := by
  have S2 := (Z.S.newMut { cls := .type "tuple", data := .seq #[v] }).newMut { cls := .ref 44, data := .fields #[.ref h.objs.size, .none, .none, .none, .bool false, .none] }
  rw [Heap.size_push] at S2
  have S3 := (Sta.f1 S2).drop
  refine wpAny_call (seg_core (Z.C.X.keeps Z.S.F.keep) (seg_init Z.C S3 Z.hf Z.hk Z.C.frames (Z.R.under (Nat.le_of_ble_eq_true (by kernel_rfl)) (Nat.le_of_ble_eq_true (by kernel_rfl))) fun h' t' o a0' S h1 h2 => ?_))
  exact ⟨rfl, hQ _ _ _ _ _ S h1 h2⟩
/-- raise SegmentError('..') -/
theorem r_seg {np sp cp pos : Pos} {k : Nat} {text : Str} {rest : List Stmt} {Q : Flow → Shared → Prop} {scope : Scope} {f : Addr} {qual : Str} {cdv : Value} {cl : List (Str × Addr)} (Z : Act w p loose mean mg mb A₀ base h₀ outer (envX qual scope L f cdv cl) L m tn imm h 4)
    (hx : (envX qual scope L f cdv cl).kindOf "SegmentError" = some .globalImplicit)
    (hE : ∀ e h' tk, Thrown base h₀ (envX qual scope L f cdv cl) outer L (.ref 44) (tn ++ imm) e h' → E e ⟨h', G, D, tk, O⟩) :
    wpAny (model prog w) (A₀.deeper (envX qual scope L f cdv cl)) (execs (.Raise (some (.Call (.Name "SegmentError" np) [.Constant (.str text) k sp] [] cp)) none pos :: rest) (envX qual scope L f cdv cl)) Q E ⟨h, G, D, t, O⟩ := by
  obtain ⟨C, S, hf, hk, R⟩ := Z
  refine r_raiseS (w := w) R.hd ?_
  refine e_call ?_
  refine' s_global (v := .ref 44) hx hk (by decide) S C (by kernel_rfl) ?_
  refine' callWith_K C.X (by kernel_rfl) ?_ ?_ ?_
  · repeat walk_at "m"
    refine seg_call ⟨C, S, hf, hk, R⟩ fun x o a0 h' t' S h1 h2 => ?_
    exact ⟨x, o, a0, rfl, C.X.keeps S.F.keep, (S.N _ (.head _)).1, h1, h2, hE _ _ _ (fresh_hide S h1 h2)⟩
  · rfl
  · rfl
/-- .. where the frame lets it fly -/
theorem r_segF {np sp cp pos : Pos} {k : Nat} {text : Str} {rest : List Stmt} {Q : Flow → Shared → Prop} {scope : Scope} {f : Addr} {qual : Str} {cdv : Value} {cl : List (Str × Addr)} (Z : Act w p loose mean mg mb A₀ base h₀ outer (envX qual scope L f cdv cl) L m tn imm h 4)
    (hx : (envX qual scope L f cdv cl).kindOf "SegmentError" = some .globalImplicit) {P : Prop} (hp : P) (hs : ∀ q ∈ newsE, q ∈ tn ++ imm) :
    wpAny (model prog w) (A₀.deeper (envX qual scope L f cdv cl)) (execs (.Raise (some (.Call (.Name "SegmentError" np) [.Constant (.str text) k sp] [] cp)) none pos :: rest) (envX qual scope L f cdv cl)) Q (Flew base h₀ (envX qual scope L f cdv cl) outer L (.ref 44) (Kept P newsE) G D O) ⟨h, G, D, t, O⟩ :=
  r_seg Z hx fun _ _ _ T => Flew.of T hp hs
theorem r_segB {np sp cp pos : Pos} {k : Nat} {text : Str} {rest : List Stmt} {Q : Flow → Shared → Prop} {scope : Scope} {f : Addr} {qual : Str} {cdv : Value} {cl : List (Str × Addr)} {P : Prop} (hE : ∀ e s, Flew base h₀ (envX qual scope L f cdv cl) outer L (.ref 44) (Kept P newsE) G D O e s → E e s) (Z : Act w p loose mean mg mb A₀ base h₀ outer (envX qual scope L f cdv cl) L m tn imm h 4)
    (hx : (envX qual scope L f cdv cl).kindOf "SegmentError" = some .globalImplicit) (hp : P) (hs : ∀ q ∈ newsE, q ∈ tn ++ imm) :
    wpAny (model prog w) (A₀.deeper (envX qual scope L f cdv cl)) (execs (.Raise (some (.Call (.Name "SegmentError" np) [.Constant (.str text) k sp] [] cp)) none pos :: rest) (envX qual scope L f cdv cl)) Q E ⟨h, G, D, t, O⟩ :=
  r_seg Z hx fun _ _ _ T => Flew.by hE T hp hs
end

section
variable {prog : Program} {w : World} {p : Program} {loose : List Str} {mean : ExcName → Option Value} {mg mb : Str → Option Value} {A₀ : Around} {base h₀ h : Heap} {outer : List Env} {env : Env} {L : Addr} {m : Str → Option Value} {tn imm : List (Addr × Obj)} {n : Nat} {G : Array GenState} {D : Drawn} {t : Nat} {O : OsState}
  {Q E : Value → Shared → Prop} {A : Around} {x dx : Addr} {b : List UInt8} {tb t1 t2 t3 : Tok} {k : Nat}
/-- need(reader, size) -/
theorem c_need {sz : Int} {ts : Tok} (Z : Act w p loose mean mg mb A₀ base h₀ outer env L m tn imm h 6) (hx : (x, instObj 122 dx) ∈ tn ++ imm) (hd : (dx, rdr w.params b tb t1 t2 k t3) ∈ tn ++ imm) (hb : b.length ≤ 100000)
    (hQ : ¬ (b.length : Int) - k < sz → ∀ h' t', Sta h₀ L m tn imm h' → Q .none ⟨h', G, D, t', O⟩)
    (hE : (b.length : Int) - k < sz → ∀ e h' tk, Thrown base h₀ env outer L (.ref 44) (tn ++ imm) e h' → E e ⟨h', G, D, tk, O⟩) :
    wpAny (model prog w) (A₀.deeper env) (call (.ref 189) [.ref x, .int sz ts]) Q E ⟨h, G, D, t, O⟩ := by
  refine' callA (cls := .ref 44) (NE := Kept ((b.length : Int) - k < sz) (tn ++ imm)) (binds := [("reader", .ref x), ("size", .int sz ts)]) Z ?k1 ?k2 ?k3 ?k4 ?k5 ?k6 ?k7 ?k8 (fun e h' tk news' hk T => hE hk.1 e h' tk (T.sub hk.2)) ?_
  case k1 => k_is
  case k2 => k_is
  case k3 => exact rfl
  case k4 => exact locs rfl
  case k5 => decide
  case k6 => exact rfl
  case k7 => exact rfl
  case k8 => exact rfl
  intro g L' h₁ t₁ Z'
  have C := Z'.C
  have S := Z'.S
  have R := Z'.R
  repeat walk_at "m"
  refine c_left (by walk_at "act") (by walk_at "mem") (by walk_at "mem") hb fun h t u S => ?_
  repeat walk_at "m"
  refine ⟨fun hc => ?_, fun hc => ?_⟩
  · exact r_segF (by walk_at "act") rfl (of_decide_eq_true hc) fun q hq => hq
  · repeat walk_at "m"
    refine r_nil ?_
    walk_at "back"
    exact fun S => hQ (of_decide_eq_false hc) _ _ S
end

section
variable {prog : Program} {w : World} {p : Program} {loose : List Str} {mean : ExcName → Option Value} {mg mb : Str → Option Value} {A₀ : Around} {base h₀ h : Heap} {outer : List Env} {env : Env} {L : Addr} {m : Str → Option Value} {tn imm : List (Addr × Obj)} {n : Nat} {G : Array GenState} {D : Drawn} {t : Nat} {O : OsState}
  {Q E : Value → Shared → Prop} {A : Around} {x dx : Addr} {b : List UInt8} {tb t1 t2 t3 : Tok} {k : Nat}
/-- an octet as an int -/
abbrev oct (b : List UInt8) (k : Nat) : Int := ((b.getD k 0).toNat : Int)
theorem oct_lt (b : List UInt8) (k : Nat) : 0 ≤ oct b k ∧ oct b k < 256 := by
  have := (b.getD k 0).toNat_lt
  constructor
  · exact Int.natCast_nonneg _
  · show ((b.getD k 0).toNat : Int) < 256; omega
/-- read_kind(reader, 1) -/
theorem c_kind {ts : Tok} (Z : Act w p loose mean mg mb A₀ base h₀ outer env L m ((dx, rdr w.params b tb t1 t2 k t3) :: tn) imm h 8) (hx : (x, instObj 122 dx) ∈ imm) (hb : b.length ≤ 100000) (hk : k + 1 ≤ b.length)
    (hQ : ¬ (oct b k / 16 > 1 ∨ oct b k % 16 > 3) → ∀ a u v u3 h' t', Sta h₀ L m ((dx, rdr w.params b tb t1 t2 (k + 1) u3) :: tn) ((a, tupO [.int (oct b k / 16) u, .int (oct b k % 16) v]) :: imm) h' → Q (.ref a) ⟨h', G, D, t', O⟩)
    (hE : (oct b k / 16 > 1 ∨ oct b k % 16 > 3) → ∀ e h' tk, Thrown base h₀ env outer L (.ref 44) (tn ++ imm) e h' → E e ⟨h', G, D, tk, O⟩) :
    wpAny (model prog w) (A₀.deeper env) (call (.ref 175) [.ref x, .int 1 ts]) Q E ⟨h, G, D, t, O⟩ := by
  refine' callA (cls := .ref 44) (NE := Kept (oct b k / 16 > 1 ∨ oct b k % 16 > 3) (tn ++ imm)) (binds := [("reader", .ref x), ("most", .int 1 ts)]) Z ?k1 ?k2 ?k3 ?k4 ?k5 ?k6 ?k7 ?k8 (fun e h' tk news' hk T => hE hk.1 e h' tk (T.sub hk.2)) ?_
  case k1 => k_is
  case k2 => k_is
  case k3 => exact rfl
  case k4 => exact locs rfl
  case k5 => decide
  case k6 => exact rfl
  case k7 => exact rfl
  case k8 => exact rfl
  intro g L' h₁ t₁ Z'
  have C := Z'.C
  have S := Z'.S
  have R := Z'.R
  repeat walk_at "m"
  refine c_byte (by walk_at "act") (by walk_at "mem") hb hk fun h t u u3 S => ?_
  have ho := oct_lt b k
  repeat walk_at "m"
  refine ⟨fun hc => ?_, fun hc => ?_⟩
  · refine ⟨fun _ => ?_, fun z => (Bool.noConfusion z)⟩
    exact r_segF (by walk_at "act") rfl (.inl (of_decide_eq_true hc)) fun q hq => .tail _ hq
  · repeat walk_at "m"
    refine ⟨fun hc2 => ?_, fun hc2 => ?_⟩
    · exact r_segF (by walk_at "act") rfl (.inr (of_decide_eq_true hc2)) fun q hq => .tail _ hq
    · repeat walk_at "m"
      walk_at "back"
      exact fun S => hQ (fun z => z.elim (of_decide_eq_false hc) (of_decide_eq_false hc2)) _ _ _ _ _ _ S
/-- check_divisor(divisor, precision) -/
theorem c_div {d pr : Int} {u v : Tok} (Z : Act w p loose mean mg mb A₀ base h₀ outer env L m tn imm h 6)
    (hQ : (1 ≤ d ∧ d ≤ if pr = 1 then 65535 else 255) → ∀ h' t', Sta h₀ L m tn imm h' → Q .none ⟨h', G, D, t', O⟩)
    (hE : ¬ (1 ≤ d ∧ d ≤ if pr = 1 then 65535 else 255) → ∀ e h' tk, Thrown base h₀ env outer L (.ref 44) (tn ++ imm) e h' → E e ⟨h', G, D, tk, O⟩) :
    wpAny (model prog w) (A₀.deeper env) (call (.ref 196) [.int d u, .int pr v]) Q E ⟨h, G, D, t, O⟩ := by
  refine' callA (cls := .ref 44) (NE := Kept (¬ (1 ≤ d ∧ d ≤ if pr = 1 then 65535 else 255)) (tn ++ imm)) (binds := [("divisor", .int d u), ("precision", .int pr v)]) Z ?k1 ?k2 ?k3 ?k4 ?k5 ?k6 ?k7 ?k8 (fun e h' tk news' hk T => hE hk.1 e h' tk (T.sub hk.2)) ?_
  case k1 => k_is
  case k2 => k_is
  case k3 => exact rfl
  case k4 => exact locs rfl
  case k5 => decide
  case k6 => exact rfl
  case k7 => exact rfl
  case k8 => exact rfl
  intro g L' h₁ t₁ Z'
  have C := Z'.C
  have S := Z'.S
  have R := Z'.R
  repeat walk_at "m"
  refine ⟨fun hc => ?_, fun hc => ?_⟩
  · repeat walk_at "m"
    refine ⟨fun hp => ?_, fun hp => ?_⟩
    · have hp' : pr = 1 := by simpa using hp
      repeat walk_at "m"
      refine ⟨fun hd => ?_, fun hd => ?_⟩
      · refine r_segF (by walk_at "act") rfl ?_ fun q hq => hq
        rw [if_pos hp']
        simp at hd
        omega
      · repeat walk_at "m"
        refine r_nil ?_
        walk_at "back"
        refine fun S => hQ ?_ _ _ S
        rw [if_pos hp']
        simp at hd hc
        omega
    · have hp' : ¬ pr = 1 := by simpa using hp
      repeat walk_at "m"
      refine ⟨fun hd => ?_, fun hd => ?_⟩
      · refine r_segF (by walk_at "act") rfl ?_ fun q hq => hq
        rw [if_neg hp']
        simp at hd
        omega
      · repeat walk_at "m"
        refine r_nil ?_
        walk_at "back"
        refine fun S => hQ ?_ _ _ S
        rw [if_neg hp']
        simp at hd hc
        omega
  · refine ⟨fun _ => ?_, fun z => (Bool.noConfusion z)⟩
    refine r_segF (by walk_at "act") rfl ?_ fun q hq => hq
    simp at hc
    omega
/-- check_conditioning(kind, value) -/
theorem c_cond {kd vl : Int} {u v : Tok} (Z : Act w p loose mean mg mb A₀ base h₀ outer env L m tn imm h 6)
    (hQ : (0 ≤ vl ∧ vl ≤ 255) ∧ ¬ (kd = 0 ∧ vl % 16 > vl / 16) ∧ ¬ (kd = 1 ∧ ¬ (1 ≤ vl ∧ vl ≤ 63)) → ∀ h' t', Sta h₀ L m tn imm h' → Q .none ⟨h', G, D, t', O⟩)
    (hE : ¬ ((0 ≤ vl ∧ vl ≤ 255) ∧ ¬ (kd = 0 ∧ vl % 16 > vl / 16) ∧ ¬ (kd = 1 ∧ ¬ (1 ≤ vl ∧ vl ≤ 63))) → ∀ e h' tk, Thrown base h₀ env outer L (.ref 44) (tn ++ imm) e h' → E e ⟨h', G, D, tk, O⟩) :
    wpAny (model prog w) (A₀.deeper env) (call (.ref 231) [.int kd u, .int vl v]) Q E ⟨h, G, D, t, O⟩ := by
  refine' callA (cls := .ref 44) (NE := Kept (¬ ((0 ≤ vl ∧ vl ≤ 255) ∧ ¬ (kd = 0 ∧ vl % 16 > vl / 16) ∧ ¬ (kd = 1 ∧ ¬ (1 ≤ vl ∧ vl ≤ 63)))) (tn ++ imm)) (binds := [("kind", .int kd u), ("value", .int vl v)]) Z ?k1 ?k2 ?k3 ?k4 ?k5 ?k6 ?k7 ?k8 (fun e h' tk news' hk T => hE hk.1 e h' tk (T.sub hk.2)) ?_
  case k1 => k_is
  case k2 => k_is
  case k3 => exact rfl
  case k4 => exact locs rfl
  case k5 => decide
  case k6 => exact rfl
  case k7 => exact rfl
  case k8 => exact rfl
  intro g L' h₁ t₁ Z'
  have C := Z'.C
  have S := Z'.S
  have R := Z'.R
  repeat' (first | walk_at "m" | walk_at "br")
  all_goals first
    | (refine r_segF (by walk_at "act") rfl ?_ (fun q hq => hq); walk_at "ar")
    | (refine r_nil ?_; walk_at "back"; refine fun S => hQ ?_ _ _ S; walk_at "ar")
end

/-- how a turn ends -/
def LoopF (next : Shared → Prop) (Q : Flow → Shared → Prop) (k : Shared → Prop) : Flow → Shared → Prop
  | .next, s => next s
  | .cont, s => next s
  | .brk, s => k s
  | .ret v, s => Q (.ret v) s
section
variable {prog : Program} {w : World} {A : Around} {E : Value → Shared → Prop} {s : Shared} {env : Env} {pos : Pos} {rest : List Stmt} {Q : Flow → Shared → Prop}
/-- a while -/
theorem r_while {test : Expr} {body : List Stmt} (J : Nat → Shared → Prop) (n : Nat) (hE : PassesOwn (model prog w) A env E) (h0 : J n s)
    (turn : ∀ n s, J n s → wpAny (model prog w) A (PySem.isTrue test env (eval test env)) (fun b s₂ => Br b
      (wpAny (model prog w) A (execs body env) (LoopF (fun s₃ => ∃ k, k < n ∧ J k s₃) Q (fun s' => wpAny (model prog w) A (execs rest env) Q E s')) E s₂)
      (wpAny (model prog w) A (execs rest env) Q E s₂)) E s) :
    wpAny (model prog w) A (execs (.While test body [] pos :: rest) env) Q E s := by
  refine r_cons (wpAny_While (codeAny_whileLoop J (fun n s hJ => ?_) n h0))
  refine wpAny_mono (turn n s hJ) (fun b s₂ h₂ => ?_) hE
  cases b with
  | false => exact wpAny_execs_nil (h₂.2 rfl)
  | true =>
    refine wpAny_mono (h₂.1 rfl) (fun f s₃ h₃ => ?_) hE
    cases f with
    | next => exact h₃
    | cont => exact h₃
    | brk => exact h₃
    | ret v => exact h₃
/-- a for's loop over an iterator -/
def ForK (prog : Program) (w : World) (A : Around) (env : Env) (target : Expr) (body rest : List Stmt) (Q : Flow → Shared → Prop) (E : Value → Shared → Prop) (it : Value) (s : Shared) : Prop :=
  codeAny (model prog w) A (.forLoop target it body [] env) (fun r s' => match r with | .ok f => thenC Q (fun s' => wpAny (model prog w) A (execs rest env) Q E s') f s' | .error e => cameBackBy (model prog w) A env E e s') s
theorem r_for {target iter : Expr} {body : List Stmt} (h : wpAny (model prog w) A (eval iter env) (KB (model prog w) A E pyIter (ForK prog w A env target body rest Q E)) E s)
    (hs : ∀ x, foldedSetIterable iter env x = pure x) : wpAny (model prog w) A (execs (.For target iter body [] pos :: rest) env) Q E s :=
  r_cons (wpAny_For h hs)
/-- an iterator that owns no tuple -/
def itPlain (T : String) : Prop := (["enumerate", "zip", "dict_itemiterator", "dict_reverseitemiterator", "odict_iterator", "itertools.zip_longest", "itertools.pairwise"].contains T) = false
theorem letGo_plain {M : Model} {target : Expr} {I : Addr} {v : Value} {oI : Obj} {T : String} {Q : Unit → Shared → Prop} (hI : s.heap.get? I = some oI) (hc : oI.cls = .type T) (hT : itPlain T) (hq : Q () s) : wpAny M A (letOwnedTupleGo target (.ref I) v) Q E s := by
  unfold letOwnedTupleGo
  have go : wpAny M A (do
      let (.ref r, .ref a) := (Value.ref I, v) | return
      let o ← load r
      match o.cls, o.data with
      | .type n, .fields vs =>
        if ["enumerate", "zip", "dict_itemiterator", "dict_reverseitemiterator", "odict_iterator", "itertools.zip_longest", "itertools.pairwise"].contains n && vs[0]? == some (rawInt a) then
          rule "for.unpacks-the-owned-tuple"
          updateField r 0 .none
      | _, _ => pure ()) Q E s := by
    cases v with
    | ref a =>
      refine wpAny_bind (wpAny_load hI ?_)
      obtain ⟨oc, od, odt, osl⟩ := oI
      dsimp only at hc
      subst hc
      cases odt <;> first | exact wpAny_pure hq | (dsimp only; rw [hT, Bool.false_and, if_neg Bool.false_ne_true]; exact wpAny_pure hq)
    | _ => exact wpAny_pure hq
  cases target with
  | Tuple _ _ _ => exact go
  | List _ _ => exact go
  | _ => exact wpAny_pure hq
/-- the library's rule for a for, the giving up of an owned tuple left open -/
theorem codeAny_forL {R : Result → Shared → Prop} {target : Expr} {it : Value} {body orelse : List Stmt} (I : Nat → Shared → Prop)
    (turn : ∀ n s, I n s → wpAny (model prog w) A (pyNext it) (fun r s₁ => match r with
      | none => wpAny (model prog w) A (execs orelse env) (fun f s₃ => R (.ok f) s₃) (notedBy (model prog w) A env fun e s' => R (.error e) s') s₁
      | some v => wpAny (model prog w) A (letOwnedTupleGo target it v) (fun _ s₁' => wpAny (model prog w) A (assign target env v) (fun _ s₂ => wpAny (model prog w) A (execs body env) (fun f s₃ => match f with
          | .next | .cont => ∃ m, m < n ∧ I m s₃
          | .brk => R (.ok .next) s₃
          | .ret v => R (.ok (.ret v)) s₃) (notedBy (model prog w) A env fun e s' => R (.error e) s') s₂) (notedBy (model prog w) A env fun e s' => R (.error e) s') s₁') (notedBy (model prog w) A env fun e s' => R (.error e) s') s₁) (notedBy (model prog w) A env fun e s' => R (.error e) s') s)
    (n : Nat) (h : I n s) : codeAny (model prog w) A (.forLoop target it body orelse env) R s := by
  refine codeAny_loop' rfl I (fun n s hI => ?_) n h
  show wpAny _ _ ((forTurn target it body orelse env).onRaise (fun x => do noteFrame x env; theTreesLotGoes x)) _ _ s
  refine wpAny_noted ?_
  simp only [forTurn]
  refine wpAny_bind (wpAny_standAt (wpAny_bind (wpAny_onRaise (wpAny_mono (turn n s hI) (fun r s₁ h₁ => ?_) fun _ _ h' => wpAny_standAt h'))))
  cases r with
  | none => exact wpAny_pure (.inr ⟨rfl, codeAny_block h₁⟩)
  | some v =>
    refine wpAny_bind (wpAny_mono h₁ (fun _ s₁' h₁ => ?_) fun _ _ h' => h')
    refine wpAny_bind (wpAny_mono h₁ (fun _ s₂ h₂ => wpAny_bind (wpAny_mono h₂ (fun f s₃ h₃ => ?_) fun _ _ h' => h')) fun _ _ h' => h')
    cases f with
    | next => exact wpAny_pure (.inl ⟨rfl, h₃⟩)
    | cont => exact wpAny_pure (.inl ⟨rfl, h₃⟩)
    | brk => exact wpAny_pure h₃
    | ret v => exact wpAny_pure h₃
end
section
variable {prog : Program} {w : World} {A : Around} {E : Value → Shared → Prop} {env : Env} {pos : Pos} {target : Expr} {body rest : List Stmt} {Q : Flow → Shared → Prop} {h₀ h : Heap} {L : Addr} {m : Str → Option Value} {tn imm : List (Addr × Obj)} {G : Array GenState} {D : Drawn} {t : Nat} {O : OsState}
/-- the end of a turn: the iterator stands first -/
def TurnEnd (h₀ : Heap) (L : Addr) (G : Array GenState) (D : Drawn) (O : OsState) (I : Addr) (oI : Obj) (J : (Str → Option Value) → List (Addr × Obj) → List (Addr × Obj) → Prop) (s : Shared) : Prop :=
  ∃ h t m tn imm, s = ⟨h, G, D, t, O⟩ ∧ Sta h₀ L m ((I, oI) :: tn) imm h ∧ J m tn imm
theorem TurnEnd.mk {I : Addr} {oI : Obj} {J : (Str → Option Value) → List (Addr × Obj) → List (Addr × Obj) → Prop} (S : Sta h₀ L m ((I, oI) :: tn) imm h) (hj : J m tn imm) : TurnEnd h₀ L G D O I oI J ⟨h, G, D, t, O⟩ := ⟨h, t, m, tn, imm, rfl, S, hj⟩
theorem loopW {I : Addr} {oI : Obj} {fp : List Addr} {n : Nat} {P : Nat → Value → Prop} {Stt : Nat → Heap → Prop} {T : String} (W : Walks prog w A I fp [I] n P Stt) (hT : itPlain T)
    (hI : ∀ i h, Stt i h → ∃ o, h.get? I = some o ∧ o.cls = .type T) (J : Nat → (Str → Option Value) → List (Addr × Obj) → List (Addr × Obj) → Prop)
    (hfp : ∀ b ∈ fp, b ≠ I → ∃ o, ∀ i m tn imm, J i m tn imm → (b, o) ∈ tn ++ imm) (hE : PassesOwn (model prog w) A env E) (S : Sta h₀ L m ((I, oI) :: tn) imm h) (hst : Stt 0 h) (hj : J 0 m tn imm)
    (turn : ∀ i v oI m tn imm h t, i < n → P i v → J i m tn imm → Sta h₀ L m ((I, oI) :: tn) imm h →
      wpAny (model prog w) A (assign target env v) (fun _ s₂ => wpAny (model prog w) A (execs body env) (LoopF (TurnEnd h₀ L G D O I oI (J (i + 1))) Q (fun s' => wpAny (model prog w) A (execs rest env) Q E s')) E s₂) E ⟨h, G, D, t, O⟩)
    (done : ∀ m tn imm h t, J n m tn imm → Sta h₀ L m tn imm h → wpAny (model prog w) A (execs rest env) Q E ⟨h, G, D, t, O⟩) :
    ForK prog w A env target body rest Q E (.ref I) ⟨h, G, D, t, O⟩ := by
  refine codeAny_forL (fun k s' => ∃ h' tk m' tn' imm' oI' i, s' = ⟨h', G, D, tk, O⟩ ∧ Sta h₀ L m' ((I, oI') :: tn') imm' h' ∧ Stt i h' ∧ J i m' tn' imm' ∧ i ≤ n ∧ k = n + 1 - i) ?_ (n + 1) (exI7 ⟨rfl, S, hst, hj, Nat.zero_le _, rfl⟩)
  intro k s' hJ0
  refine exE7 hJ0 fun h' tk m' tn' imm' oI' i hz9 => ?_
  clear hJ0
  refine anE6 hz9 fun hz10 S' hst' hJ hi hz11 => ?_
  clear hz9
  subst hz10
  subst hz11
  by_cases hlt : i < n
  · refine W.item i ⟨h', G, D, tk, O⟩ _ _ hlt hst' fun v h₁ tk₁ hP hst₁ hk₁ => ?_
    have hio := hI _ _ hst₁
    refine exE1 hio fun o₁ hz12 => ?_
    clear hio
    refine anE2 hz12 fun ho₁ hc₁ => ?_
    clear hz12
    have S₁ := S'.turn (fun b o hb e => hk₁ b o (fun q => hb (List.mem_singleton.mp q)) e) ho₁
    refine letGo_plain ho₁ hc₁ hT ?_
    refine wpAny_mono (turn i v o₁ m' tn' imm' h₁ tk₁ hlt hP hJ S₁) (fun _ s₂ h₂ => wpAny_mono h₂ (fun f s₃ h₃ => ?_) hE) hE
    have fin : TurnEnd h₀ L G D O I o₁ (J (i + 1)) s₃ → ∃ k', k' < n + 1 - i ∧ ∃ h' tk m' tn' imm' oI' i', s₃ = ⟨h', G, D, tk, O⟩ ∧ Sta h₀ L m' ((I, oI') :: tn') imm' h' ∧ Stt i' h' ∧ J i' m' tn' imm' ∧ i' ≤ n ∧ k' = n + 1 - i' := by
      intro hJ0
      refine exE5 hJ0 fun h₂' tk₂ m₂ tn₂ imm₂ hz13 => ?_
      clear hJ0
      refine anE3 hz13 fun hz14 S₂ J₂ => ?_
      clear hz13
      subst hz14
      refine ⟨n + 1 - (i + 1), Nat.sub_succ_lt_self _ _ (Nat.lt_succ_of_lt hlt), exI7 ⟨rfl, S₂, ?_, J₂, hlt, rfl⟩⟩
      exact W.frame _ _ _ hst₁ (S₁.fpKeep S₂ (.head _) (.head _) fun b hb q => (hfp b hb q).imp fun o h => ⟨.tail _ (h _ _ _ _ hJ), .tail _ (h _ _ _ _ J₂)⟩)
    cases f with
    | next => exact fin h₃
    | cont => exact fin h₃
    | brk => exact h₃
    | ret v => exact h₃
  · have hin : i = n := by omega
    subst hin
    refine W.done ⟨h', G, D, tk, O⟩ _ _ hst' fun h₁ tk₁ hk₁ => wpAny_execs_nil ?_
    refine done m' tn' imm' h₁ tk₁ hJ ?_
    exact S'.dropTurn hk₁
theorem plain_li : itPlain "list_iterator" := by unfold itPlain; decide
theorem plain_ti : itPlain "tuple_iterator" := by unfold itPlain; decide
theorem plain_ri : itPlain "range_iterator" := by unfold itPlain; decide
/-- over a list that stands -/
theorem loop_list {l : Addr} {vs : List Value} (hh : A.handled = none) (J : Nat → (Str → Option Value) → List (Addr × Obj) → List (Addr × Obj) → Prop) {o : Obj} (ho : o.cls = .type "list") {k : Nat} (hd : o.data = .seq vs.toArray k) (hl : ∀ i m tn imm, J i m tn imm → (l, o) ∈ tn ++ imm)
    (hE : PassesOwn (model prog w) A env E) (S : Sta h₀ L m tn imm h) (hj : J 0 m tn imm)
    (turn : ∀ i v I oI m tn imm h t, vs[i]? = some v → J i m tn imm → Sta h₀ L m ((I, oI) :: tn) imm h →
      wpAny (model prog w) A (assign target env v) (fun _ s₂ => wpAny (model prog w) A (execs body env) (LoopF (TurnEnd h₀ L G D O I oI (J (i + 1))) Q (fun s' => wpAny (model prog w) A (execs rest env) Q E s')) E s₂) E ⟨h, G, D, t, O⟩)
    (done : ∀ m tn imm h t, J vs.length m tn imm → Sta h₀ L m tn imm h → wpAny (model prog w) A (execs rest env) Q E ⟨h, G, D, t, O⟩) :
    wpAny (model prog w) A (pyIter (.ref l)) (ForK prog w A env target body rest Q E) E ⟨h, G, D, t, O⟩ := by
  have hlo := S.get (hl _ _ _ _ hj)
  have hlt : (l, o) ∈ tn ++ imm := hl _ _ _ _ hj
  have hne : l ≠ h.objs.size := Nat.ne_of_lt (S.lt _ hlt)
  have hls : h.IsList l vs.toArray := ⟨o, hlo, ho, k, hd⟩
  have W : Walks prog w A h.objs.size [h.objs.size, l] [h.objs.size] vs.length (fun i v => vs[i]? = some v) (fun i h' => h'.IsListIter h.objs.size l i ∧ h'.IsList l vs.toArray) := by
    have := Walks.list (prog := prog) (w := w) hh h.objs.size l hne vs.toArray
    simpa using this
  refine wpAny_pyIter_list (s := ⟨h, G, D, t, O⟩) hls ?_
  have S1 := S.newMut { cls := .type "list_iterator", data := .fields #[.ref l, .int 0 0] }
  refine loopW (n := vs.length) (P := fun i v => vs[i]? = some v) (T := "list_iterator") W plain_li (fun i h st => by obtain ⟨o, a, b, _⟩ := st.1; exact ⟨o, a, b⟩) J (fun b hb hbI => ?_) hE S1 ⟨⟨_, S1.get (.head _), rfl, rfl⟩, hls.at fun o e => Heap.get?_push_of_some _ e⟩ hj (fun i v oI m tn imm h t hi hP hJ S => turn i v _ oI m tn imm h t hP hJ S) done
  rcases List.mem_cons.mp hb with rfl | hb
  · exact absurd rfl hbI
  · obtain rfl := List.mem_singleton.mp hb
    exact ⟨o, hl⟩
abbrev rngO (n : Int) (a b c : Tok) : Obj := { cls := .type "range", data := .fields #[.int 0 a, .int n b, .int 1 c] }
/-- over range(n) -/
theorem loop_range {r : Addr} {n : Nat} {N : Int} {a b c : Tok} (hN : N = n) (hh : A.handled = none) (J : Nat → (Str → Option Value) → List (Addr × Obj) → List (Addr × Obj) → Prop) (hn : n < 100000)
    (hE : PassesOwn (model prog w) A env E) (S : Sta h₀ L m tn imm h) (hl : (r, rngO N a b c) ∈ tn ++ imm) (hj : J 0 m tn imm)
    (turn : ∀ i tk I oI m tn imm h t, i < n → J i m tn imm → Sta h₀ L m ((I, oI) :: tn) imm h →
      wpAny (model prog w) A (assign target env (.int i tk)) (fun _ s₂ => wpAny (model prog w) A (execs body env) (LoopF (TurnEnd h₀ L G D O I oI (J (i + 1))) Q (fun s' => wpAny (model prog w) A (execs rest env) Q E s')) E s₂) E ⟨h, G, D, t, O⟩)
    (done : ∀ m tn imm h t, J n m tn imm → Sta h₀ L m tn imm h → wpAny (model prog w) A (execs rest env) Q E ⟨h, G, D, t, O⟩) :
    wpAny (model prog w) A (pyIter (.ref r)) (ForK prog w A env target body rest Q E) E ⟨h, G, D, t, O⟩ := by
  subst hN
  have p62 : (2 : Int) ^ 62 = 4611686018427387904 := by decide
  have hsm : Builtin.Range.small 0 n 1 = true := small_one (by rw [p62]; omega) (by rw [p62]; omega) (by rw [p62]; omega) (by rw [p62]; omega)
  have hrs : Builtin.Range.rangeSize 0 n 1 = (n : Int) := by rw [rangeSize_one]; split <;> omega
  have W : Walks prog w A h.objs.size [h.objs.size] [h.objs.size] n (fun i v => ∃ t, v = .int (i : Int) t) (fun i h' => IsRangeIter h' h.objs.size (0 + (i : Nat) * 1) ((n : Int) - (i : Nat)) 1) := by
    have := Walks.range (prog := prog) (w := w) hh h.objs.size 0 1 n
    simpa using this
  refine wpAny_pyIter_range (s := ⟨h, G, D, t, O⟩) (S.get hl) hsm ?_
  rw [hrs]
  have S1 := S.newMut { cls := .type "range_iterator", data := .fields #[rawInt 0, rawInt n, rawInt 1] }
  refine loopW (n := n) (T := "range_iterator") W plain_ri (fun i h st => ⟨_, st, rfl⟩) J (fun b hb hbI => absurd (List.mem_singleton.mp hb) hbI) hE S1 ?_ hj (fun i v oI m tn imm h t hi hP hJ S => ?_) done
  · show IsRangeIter _ _ _ _ _
    have e := S1.get (.head _)
    dsimp only at e
    unfold IsRangeIter
    rw [e]
    simp
  · obtain ⟨tk, rfl⟩ := hP
    exact turn i tk _ oI m tn imm h t hi hJ S
end
section
variable {prog : Program} {w : World} {A : Around} {E : Value → Shared → Prop} {Q : Value → Shared → Prop} {h₀ h : Heap} {L : Addr} {m : Str → Option Value} {tn imm : List (Addr × Obj)} {G : Array GenState} {D : Drawn} {t : Nat} {O : OsState}
theorem s_range {n : Int} {u : Tok} (S : Sta h₀ L m tn imm h) (hq : ∀ r h' b c t', Sta h₀ L m tn ((r, rngO n t b c) :: imm) h' → Q (.ref r) ⟨h', G, D, t', O⟩) :
    wpAny (model prog w) A (call (.type "range") [.int n u]) Q E ⟨h, G, D, t, O⟩ := call_range_1 (s := ⟨h, G, D, t, O⟩) (hq _ _ _ _ _ (S.newImm _))
end

section
variable {prog : Program} {w : World} {p : Program} {loose : List Str} {mean : ExcName → Option Value} {mg mb : Str → Option Value} {A A₀ : Around} {base h₀ h : Heap} {outer : List Env} {env : Env} {L : Addr} {m : Str → Option Value} {tn imm : List (Addr × Obj)} {G : Array GenState} {D : Drawn} {t : Nat} {O : OsState}
  {E : Value → Shared → Prop} {l : Addr} {vs : List Value} {v : Value} {k : Nat}
theorem s_append {Q : Value → Shared → Prop} (S : Sta h₀ L m ((l, listOf vs.toArray k) :: tn) imm h) (hz : vs.length ≤ 100000) (hq : ∀ h', Sta h₀ L m ((l, listOf (vs ++ [v]).toArray (k + 1)) :: tn) imm h' → Q .none ⟨h', G, D, t, O⟩) :
    wpAny (model prog w) A (call (.builtin "list.append") ([.ref l] ++ [v])) Q E ⟨h, G, D, t, O⟩ := by
  have hl : h.get? l = some (listOf vs.toArray k) := S.get (.head _)
  have hT : Shared.TypeIs ⟨h, G, D, t, O⟩ (.ref l) "list" := ⟨_, hl, rfl⟩
  refine call_meets slot_list_append hT entry_list_append (args_list_append _ _) (PySem.list_append l vs.toArray k v (by rw [List.size_toArray, sizeLine_eq]; omega)) ⟨hl, ?_⟩
  refine hq _ (S.turn (fun b o hb e => (Heap.get?_update_other _ _ (Ne.symm hb)).trans e) ?_)
  rw [Heap.get?_update_self _ hl rfl]
  simp [Obj.mapSeq, W.listOf]
theorem s_listmeth {pl : Sem Bool} {o : Obj} {q : Value → List Value → Shared → Prop} (S : Sta h₀ L m tn imm h) (hl : (l, o) ∈ tn ++ imm) (ho : o.cls = .type "list") (hd : o.dict = none) (hq : q (.builtin "list.append") [.ref l] ⟨h, G, D, t, O⟩) :
    wpAny (model prog w) A (getMethod (.ref l) "append" pl) (MC q) E ⟨h, G, D, t, O⟩ :=
  getMethod_builtin (s := ⟨h, G, D, t, O⟩) ⟨_, S.get hl, ho⟩ PySem.F.plainAttrs_list PySem.F.slot_list_append PySem.F.type_list_append (fun a e => by cases e; exact ⟨_, S.get hl, hd⟩) hq
theorem s_tupleOf {o : Obj} {Q : Value → Shared → Prop} (S : Sta h₀ L m tn imm h) (hl : (l, o) ∈ tn ++ imm) (ho : o.cls = .type "list") {k : Nat} (hd : o.data = .seq vs.toArray k) (hz : vs.length ≤ 10000) (hq : ∀ a h', Sta h₀ L m tn ((a, tupO vs) :: imm) h' → Q (.ref a) ⟨h', G, D, t, O⟩) :
    wpAny (model prog w) A (call (.type "tuple") [.ref l]) Q E ⟨h, G, D, t, O⟩ :=
  call_tuple_list (s := ⟨h, G, D, t, O⟩) ⟨o, S.get hl, ho, k, hd⟩ (fun h' hk => hq _ _ ((S.keeps hk).newImm _)) (by rw [List.size_toArray, sizeLine_eq]; omega)
theorem s_last {value slice : Expr} {o : Obj} {u : Tok} {Q : Value → Shared → Prop} {k : Nat} (S : Sta h₀ L m tn imm h) (hl : (l, o) ∈ tn ++ imm) (ho : o.cls = .type "list") (hd : o.data = .seq (vs ++ [v]).toArray k) (hs : subscripted slice false (.ref l) (.int (-1) u) = operate [.ref l, .int (-1) u] (getItem (.ref l) (.int (-1) u))) (hg : ∀ r, letTemporaryGo value (.ref l) r = pure ()) (hq : Q v ⟨h, G, D, t, O⟩) :
    wpAny (model prog w) A (subscriptTail value slice (.ref l) (.int (-1) u)) Q E ⟨h, G, D, t, O⟩ :=
  item_last (s := ⟨h, G, D, t, O⟩) ⟨o, S.get hl, ho, k, hd⟩ hq hs hg
theorem s_unpack {elts : List Expr} {ek : Nat} {pos : Pos} {o : Obj} {Q : Unit → Shared → Prop} (S : Sta h₀ L m tn imm h) (hl : (l, o) ∈ tn ++ imm) (ho : o.cls = .type "tuple") {k : Nat} (hd : o.data = .seq vs.toArray k) (hh : A.handled = none)
    (hn : (assignEach elts env).length = vs.length) (hstar : (assignEach elts env).findIdx? (·.1) = none)
    (hq : ∀ h', Sta h₀ L m tn imm h' → wpAny (model prog w) A (assignInOrder ((assignEach elts env).map (·.2)) vs) Q E ⟨h', G, D, t, O⟩) :
    wpAny (model prog w) A (assign (.Tuple elts ek pos) env (.ref l)) Q E ⟨h, G, D, t, O⟩ := by
  refine unpackN_ (s := ⟨h, G, D, t, O⟩) S.F S.N (items := vs.toArray) ⟨o, S.get hl, ho, k, hd⟩ hh (by simpa using hn) hstar fun h' F N => ?_
  have := hq h' ⟨F, N, S.D⟩
  simpa using this
theorem callWith_bm {M : Model} {s : Shared} {pos : Pos} {id : String} {first : List Value} {e : Expr} {rest : List Expr} {Q : Value → Shared → Prop} (he : starEach (e :: rest) env = (false, eval e env) :: starEach rest env) (hplain : (backTo pos (starEach rest env)).any (·.1) = false) (h : wpAny M A (spliced (backTo pos (starEach (e :: rest) env))) (KCM M A E (.builtin id) first Q) E s) :
    wpAny M A (callWith pos (.builtin id) first (backTo pos (starEach (e :: rest) env)) []) Q E s := by
  rw [he] at h ⊢
  exact Calls.callWith_builtin (by show (false || (backTo pos (starEach rest env)).any (·.1)) = false; rw [hplain]; rfl) (evalArgs_plain h)
theorem sub2 {tn imm tn' imm' : List (Addr × Obj)} (h1 : ∀ q ∈ tn, q ∈ tn') (h2 : ∀ q ∈ imm, q ∈ imm') : ∀ q ∈ tn ++ imm, q ∈ tn' ++ imm' :=
  fun q hq => (List.mem_append.mp hq).elim (fun z => List.mem_append_left _ (h1 q z)) fun z => List.mem_append_right _ (h2 q z)
end

local macro_rules | `(tactic| walk_at "append") => `(tactic| ((with_reducible refine' s_append ?S ?_ ?_); (case S => first | assumption | exact Sta.f1 (by assumption) | exact Sta.f2 (by assumption) | exact Sta.f3 (by assumption)); (first | omega | (simp only [List.length_append, List.length_cons, List.length_nil, List.length_map, List.length_range]; omega)); intro _ _))
local macro_rules | `(tactic| walk_at "m") => `(tactic| first
  | ((with_reducible refine' s_listmeth ?S ?l ?_ ?_ ?_); (case S => assumption); (case l => walk_at "mem"); exact rfl; exact rfl)
  | ((with_reducible refine' s_unpack ?S ?l ?_ ?d ?_ ?_ ?_ ?_); (case S => assumption); (case l => walk_at "mem"); (case d => exact rfl); exact rfl; exact Room.hd (by assumption); exact rfl; exact rfl; intro _ _)
  | (with_reducible first | refine PyProof.Rows.assign_Name ?_ | refine e_un ?_ | refine PySem.P.neg_int ?_ | refine r_for ?_ (fun _ => rfl))
  | ((with_reducible refine' (_ : wpAny _ _ (assignInOrder _ _) _ _ _)); first | refine assignInOrder_cons ?_ | refine assignInOrder_nil ?_)
  | ((with_reducible refine' s_range ?S ?_); (case S => assumption); intro _ _ _ _ _ _)
  | ((with_reducible refine callWith_bm ?_ ?_ ?_); exact rfl; exact rfl)
  | walk_at "append"
  | (with_reducible refine And.intro (rfl : Value.none = Value.none) ?_))
local macro_rules | `(tactic| walk_at "act1") => `(tactic| (refine' actS (Sta.f1 ?S) ?C ?R ?_ ?_ ?_; (case S => assumption); (case C => assumption); (case R => assumption); exact rfl; exact rfl; decide))
local macro_rules | `(tactic| walk_at "act2") => `(tactic| (refine' actS (Sta.f2 ?S) ?C ?R ?_ ?_ ?_; (case S => assumption); (case C => assumption); (case R => assumption); exact rfl; exact rfl; decide))
local macro_rules | `(tactic| walk_at "last") => `(tactic| ((with_reducible refine' s_last ?S ?l ?_ ?d ?_ ?_ ?_); (case S => assumption); (case l => walk_at "mem"); (case d => exact rfl); exact rfl; with_unfolding_all rfl; (intro _; with_unfolding_all rfl)))
local macro_rules | `(tactic| walk_at "m") => `(tactic| first
  | (with_reducible first | refine a_nil ?_ | refine e_int ?_ | refine e_call ?_)
  | ((with_reducible refine' (_ : wpAny _ _ (eval (Expr.Name _ _) _) _ _ _)); first | walk_at "mName" | walk_at "mNameG")
  | ((with_reducible refine' a_cons ?s ?_); (case s => exact rfl)))
/-- the divisor at place j of a table whose first octet is at k -/
def dvAt (b : List UInt8) (pr : Int) (k j : Nat) : Int := if pr = 1 then oct b (k + 2 * j) * 256 + oct b (k + 2 * j + 1) else oct b (k + j)
abbrev okDv (pr d : Int) : Prop := 1 ≤ d ∧ d ≤ if pr = 1 then 65535 else 255
abbrev badK (v : Int) : Prop := v / 16 > 1 ∨ v % 16 > 3
def dvs (b : List UInt8) (pr : Int) (k m : Nat) : List Int := (List.range m).map (dvAt b pr k)
theorem dvs_succ (b : List UInt8) (pr : Int) (k m : Nat) : dvs b pr k (m + 1) = dvs b pr k m ++ [dvAt b pr k m] := by
  unfold dvs; rw [List.range_succ, List.map_append]; rfl
def qDat (sl pr : Int) (ds : List Int) : Dat := .tuple [.int sl, .int pr, .tuple (ds.map .int)]
/-- octets of one table -/
def qSz (n : Nat) (v : Int) : Nat := n * n * (1 + (v / 16).toNat)
open Classical in
/-- what read_quant tells from place k on -/
noncomputable def rq (b : List UInt8) (n : Nat) : Nat → Nat → Option (List Dat)
  | 0, _ => some []
  | f + 1, k => if b.length ≤ k then some [] else if badK (oct b k) then none else if b.length < k + 1 + qSz n (oct b k) then none
    else if ∀ j, j < n * n → okDv (oct b k / 16) (dvAt b (oct b k / 16) (k + 1) j) then (rq b n f (k + 1 + qSz n (oct b k))).map (qDat (oct b k % 16) (oct b k / 16) (dvs b (oct b k / 16) (k + 1) (n * n)) :: ·) else none
theorem datAll_ints {news : List (Addr × Obj)} : ∀ {vs : List Value} {is : List Int}, IntsAre vs is → DatAll news vs (is.map .int)
  | _, _, .nil => .nil
  | _, _, .cons _ _ h => .cons (.int _ _) (datAll_ints h)
section
variable {prog : Program} {w : World} {p : Program} {loose : List Str} {mean : ExcName → Option Value} {mg mb : Str → Option Value} {A₀ : Around} {base h₀ h : Heap} {outer : List Env} {env : Env} {L : Addr} {m : Str → Option Value} {tn imm : List (Addr × Obj)} {n : Nat} {G : Array GenState} {D : Drawn} {t : Nat} {O : OsState}
  {Q E : Value → Shared → Prop} {b : List UInt8} {tb : Tok}
/-- read_quant(payload, n) -/
theorem c_read_quant {ts : Tok} (Z : Act w p loose mean mg mb A₀ base h₀ outer env L m tn imm h 12) (hn : 1 ≤ n ∧ n ≤ 3) (hb : b.length ≤ 1000)
    (hQ : ∀ ds, rq b n b.length 0 = some ds → ∀ fl vs k imm' h' t', (∀ q ∈ imm, q ∈ imm') → DatAll imm' vs ds → Sta h₀ L m ((fl, W.listOf vs.toArray k) :: tn) imm' h' → Q (.ref fl) ⟨h', G, D, t', O⟩)
    (hE : rq b n b.length 0 = none → ∀ e h' tk, Thrown base h₀ env outer L (.ref 44) (tn ++ imm) e h' → E e ⟨h', G, D, tk, O⟩) :
    wpAny (model prog w) (A₀.deeper env) (call (.ref 203) [.bytes b.toArray tb, .int n ts]) Q E ⟨h, G, D, t, O⟩ := by
  generalize hR : rq b n b.length 0 = R at hQ hE
  refine' callA (cls := .ref 44) (NE := Kept (R = none) (tn ++ imm)) (binds := [("payload", .bytes b.toArray tb), ("n", .int n ts)]) Z ?k1 ?k2 ?k3 ?k4 ?k5 ?k6 ?k7 ?k8 (fun e h' tk news' hk T => hE hk.1 e h' tk (T.sub hk.2)) ?_
  case k1 => k_is
  case k2 => k_is
  case k3 => exact rfl
  case k4 => exact locs rfl
  case k5 => decide
  case k6 => exact rfl
  case k7 => exact rfl
  case k8 => exact rfl
  intro g L' h₁ t₁ Z'
  have C := Z'.C
  have S := Z'.S
  have hf := Z'.hf
  have hk := Z'.hk
  have R' := Z'.R
  with_reducible refine absF C hf hk fun Q₁ E₁ hQ₁ hE₁ hP => ?_
  repeat walk_at "m"
  refine c_reader (by walk_at "act") fun x dx h t t1 t2 t3 S => ?_
  repeat walk_at "m"
  refine r_while (fun f s => ∃ h t m' k kf vs ds imm' t1 t2 t3 fl, s = ⟨h, G, D, t, O⟩ ∧ Sta g L' m' ((fl, W.listOf vs.toArray kf) :: (dx, rdr w.params b tb t1 t2 k t3) :: tn) imm' h ∧ (∀ q ∈ imm, q ∈ imm') ∧ (x, instObj 122 dx) ∈ imm' ∧ DatAll imm' vs ds ∧
    R = (rq b n f k).map (ds ++ ·) ∧ b.length ≤ k + f ∧ k ≤ b.length ∧ vs.length ≤ k ∧ m' "reader" = some (.ref x) ∧ m' "found" = some (.ref fl) ∧ m' "n" = some (.int n ts)) b.length hP ?_ ?_
  · refine exI12 (x3 := 0) (x4 := 0) (x5 := []) (x6 := []) ⟨rfl, ‹_›, fun q hq => .tail _ hq, .head _, .nil, ?_, Nat.le_of_eq (Nat.zero_add _).symm, Nat.zero_le _, Nat.le_refl _, ?_, ?_, ?_⟩
    · simp [hR]
    · walk_at "mv"
    · walk_at "mv"
    · walk_at "mv"
  intro f s hJ
  with_reducible refine absW fun Q₂ hQ₂ => ?_
  refine exE12 hJ fun h t m' k kf vs ds imm' t1 t2 t3 fl hz15 => ?_
  clear hJ
  refine anE12 hz15 fun hz16 S hsub hx hD hrq hfu hkb hvk hm1 hm2 hm3 => ?_
  clear hz15
  subst hz16
  repeat walk_at "m"
  refine c_left (by walk_at "act") (by walk_at "mem") (by walk_at "mem") (by omega) fun h t u S => ?_
  repeat walk_at "m"
  walk_at "br"
  · have hlt : k < b.length := by walk_at "ar"
    obtain ⟨f, rfl⟩ : ∃ f', f = f' + 1 := ⟨f - 1, by omega⟩
    rw [rq, if_neg (by omega : ¬ b.length ≤ k)] at hrq
    have ho := oct_lt b k
    repeat walk_at "m"
    refine c_kind (by walk_at "act1") hx (by omega) hlt (fun hbad a u v u3 h t S => ?_) (fun hbad e h tk T => Flew.by hE₁ T (by rw [hrq, if_pos hbad]; rfl) (sub2 (fun q hq => .tail _ hq) hsub))
    rw [if_neg hbad] at hrq
    repeat walk_at "m"
    have hsz : (n : Int) * n * (1 + oct b k / 16) = (qSz n (oct b k) : Nat) := by
      unfold qSz
      rw [Int.natCast_mul, Int.natCast_mul, Int.natCast_add, Int.toNat_of_nonneg (by omega)]
      rfl
    rw [hsz]
    refine c_need (by walk_at "act") (by walk_at "mem") (by walk_at "mem") (by omega) (fun hnd h t S => ?_) (fun hnd e h tk T => Flew.by hE₁ T (by rw [hrq, if_pos (by omega)]; rfl) (sub2 (fun q hq => .tail _ (.tail _ hq)) (fun q hq => .tail _ (hsub q hq))))
    rw [if_neg (by omega)] at hrq
    repeat walk_at "m"
    have hn9 : n * n ≤ 9 := Nat.mul_le_mul hn.2 hn.2
    rename_i dv h5 S5 h6 S6 rg h7 b7 c7 t7 S7
    refine loop_range (n := n * n) (by rw [Int.natCast_mul]) R'.hd (fun i m'' tn'' imm'' => (∃ vs' kd u3 kk, kk = k + 1 + (if oct b k / 16 = 1 then 2 * i else i) ∧ tn'' = (dv, W.listOf vs'.toArray kd) :: (dx, rdr w.params b tb t1 t2 kk u3) :: (fl, W.listOf vs.toArray kf) :: tn ∧ imm'' = (rg, rngO (n * n) (t + 1 + 1) b7 c7) :: (a, tupO [.int (oct b k / 16) u, .int (oct b k % 16) v]) :: imm' ∧
      IntsAre vs' (dvs b (oct b k / 16) (k + 1) i) ∧ (∀ j, j < i → okDv (oct b k / 16) (dvAt b (oct b k / 16) (k + 1) j))) ∧
      m'' "reader" = some (.ref x) ∧ m'' "found" = some (.ref fl) ∧ m'' "n" = some (.int n ts) ∧ m'' "precision" = some (.int (oct b k / 16) u) ∧ m'' "slot" = some (.int (oct b k % 16) v) ∧ m'' "divisors" = some (.ref dv))
      (by omega) hP S7 (by walk_at "mem") ?_ ?_ ?_
    · refine ⟨exI4 (x0 := []) (x1 := 0) (x2 := u3) (x3 := k + 1) ⟨by simp, rfl, rfl, .nil, fun j hj => absurd hj (Nat.not_lt_zero _)⟩, ?_, ?_, ?_, ?_, ?_, ?_⟩
      all_goals walk_at "mv"
    · intro i tk I oI m8 tn8 imm8 h8 t8 hi hJ S8
      with_reducible refine absL fun Q₃ hQ₃ => ?_
      refine anE7 hJ fun hz17 hm1 hm2 hm3 hm4 hm5 hm6 => ?_
      clear hJ
      refine exE4 hz17 fun vs' kd u8 kk hz18 => ?_
      clear hz17
      refine anE5 hz18 fun hkk hz19 hz20 hI hok => ?_
      clear hz18
      subst hz19
      subst hz20
      repeat walk_at "m"
      have hlen : vs'.length = i := by rw [hI.length]; simp [dvs]
      walk_at "br"
      · have hp : oct b k / 16 = 1 := by walk_at "ar"
        have hq : qSz n (oct b k) = 2 * (n * n) := by unfold qSz; rw [hp]; show n * n * 2 = _; omega
        rw [if_pos hp] at hkk
        repeat walk_at "m"
        refine c_word (by walk_at "act2") (by walk_at "mem") (by omega) (by omega) fun h t u' u8' S => ?_
        repeat walk_at "m"
        walk_at "last"
        repeat walk_at "m"
        refine c_div (by walk_at "act") (fun hok' h t S => ?_) (fun hbad' e h tk T => Flew.by hE₁ T ?_ (sub2 (fun q hq => .tail _ (.tail _ (.tail _ (.tail _ hq)))) (fun q hq => .tail _ (.tail _ (hsub q hq)))))
        · repeat walk_at "m"
          refine r_nilQ hQ₃ (TurnEnd.mk (Sta.f2 (by assumption)) ⟨exI4 ⟨by rw [hkk, if_pos hp]; omega, rfl, rfl, ?_, ?_⟩, ?_, ?_, ?_, ?_, ?_, ?_⟩)
          · rw [dvs_succ, dvAt, if_pos hp, ← hkk]
            exact hI.append (.cons _ _ .nil)
          · intro j hj
            rcases Nat.lt_or_eq_of_le (Nat.le_of_lt_succ hj) with hj | rfl
            · exact hok j hj
            · rw [dvAt, if_pos hp, ← hkk]; exact hok'
          all_goals walk_at "mv"
        · rw [hrq, if_neg (fun hall => hbad' (by have := hall i hi; rw [dvAt, if_pos hp, ← hkk] at this; exact this))]
          rfl
      · have hp : ¬ oct b k / 16 = 1 := by walk_at "ar"
        have hp0 : oct b k / 16 = 0 := by omega
        have hq : qSz n (oct b k) = n * n := by unfold qSz; rw [hp0]; show n * n * 1 = _; omega
        rw [if_neg hp] at hkk
        repeat walk_at "m"
        refine c_byte (by walk_at "act2") (by walk_at "mem") (by omega) (by omega) fun h t u' u8' S => ?_
        repeat walk_at "m"
        walk_at "last"
        repeat walk_at "m"
        refine c_div (by walk_at "act") (fun hok' h t S => ?_) (fun hbad' e h tk T => Flew.by hE₁ T ?_ (sub2 (fun q hq => .tail _ (.tail _ (.tail _ (.tail _ hq)))) (fun q hq => .tail _ (.tail _ (hsub q hq)))))
        · repeat walk_at "m"
          refine r_nilQ hQ₃ (TurnEnd.mk (Sta.f2 (by assumption)) ⟨exI4 ⟨by rw [hkk, if_neg hp]; omega, rfl, rfl, ?_, ?_⟩, ?_, ?_, ?_, ?_, ?_, ?_⟩)
          · rw [dvs_succ, dvAt, if_neg hp, ← hkk]
            exact hI.append (.cons _ _ .nil)
          · intro j hj
            rcases Nat.lt_or_eq_of_le (Nat.le_of_lt_succ hj) with hj | rfl
            · exact hok j hj
            · rw [dvAt, if_neg hp, ← hkk]; exact hok'
          all_goals walk_at "mv"
        · rw [hrq, if_neg (fun hall => hbad' (by have := hall i hi; rw [dvAt, if_neg hp, ← hkk] at this; exact this))]
          rfl
    · intro m8 tn8 imm8 h8 t8 hJ S8
      refine anE7 hJ fun hz21 hm1 hm2 hm3 hm4 hm5 hm6 => ?_
      clear hJ
      refine exE4 hz21 fun vs' kd u8 kk hz22 => ?_
      clear hz21
      refine anE5 hz22 fun hkk hz23 hz24 hI hok => ?_
      clear hz22
      subst hz23
      subst hz24
      rw [if_pos hok] at hrq
      have hkk' : kk = k + 1 + qSz n (oct b k) := by
        rw [hkk]
        unfold qSz
        by_cases hp : oct b k / 16 = 1
        · rw [if_pos hp, hp]; show _ = k + 1 + n * n * 2; omega
        · have hp0 : oct b k / 16 = 0 := by omega
          rw [if_neg hp, hp0]; show _ = k + 1 + n * n * 1; omega
      repeat walk_at "m"
      have hlen : vs'.length = n * n := by rw [hI.length]; simp [dvs]
      refine s_tupleOf S8 (by walk_at "mem") rfl rfl (by omega) fun aT hT ST => ?_
      repeat walk_at "m"
      rename_i aE hE' SE hF SF
      refine r_nilQ hQ₂ ⟨f, Nat.lt_succ_self _, exI12 (x3 := kk) (x6 := ds ++ [qDat (oct b k % 16) (oct b k / 16) (dvs b (oct b k / 16) (k + 1) (n * n))]) ⟨rfl, SF.f1.drop, fun q hq => .tail _ (.tail _ (.tail _ (.tail _ (hsub q hq)))), .tail _ (.tail _ (.tail _ (.tail _ hx))), (hD.mono fun q hq => .tail _ (.tail _ (.tail _ (.tail _ hq)))).append (.one ?_), ?_, ?_, ?_, ?_, ?_, ?_, ?_⟩⟩
      · exact .tuple (.head _) (.cons (.int _ _) (.cons (.int _ _) (.cons (.tuple (.tail _ (.head _)) (datAll_ints hI)) .nil)))
      · rw [hrq, hkk', Option.map_map]
        congr 1
        funext z
        simp [qDat]
      · omega
      · omega
      · rw [List.length_append]; show vs.length + 1 ≤ kk; omega
      all_goals walk_at "mv"
  · have hge : b.length ≤ k := by walk_at "ar"
    repeat walk_at "m"
    walk_at "back"
    refine fun S => hQ ds ?_ _ _ _ _ _ _ hsub hD S.f1.drop
    rw [hrq]
    cases f with
    | zero => simp [rq]
    | succ f => simp [rq, hge]
end

theorem bytes_len_lk : typeLookup (.type "bytes") "__len__" = pure (some (.builtin "bytes.__len__")) := by rw [typeLookup_type, builtinLookup_eq_fast]; kernel_rfl
section
variable {prog : Program} {w : World} {A : Around} {E : Value → Shared → Prop} {s : Shared}
abbrev OctAt (b : Array UInt8) (i : Nat) (v : Value) : Prop := ∃ c u, b[i]? = some c ∧ v = .int (c.toNat : Int) u
theorem collect_bytes {Q : List Value → Shared → Prop} (hh : A.handled = none) (b : Array UInt8) (t : Tok)
    (hQ : ∀ s' acc, (∀ a o, s.heap.get? a = some o → s'.heap.get? a = some o) → s'.gens = s.gens → s'.drawn = s.drawn → s'.os = s.os → ItemsOf (OctAt b) acc b.size → Q acc.toList s') (hn : b.size ≤ sizeLine) :
    wpAny (model prog w) A (collect (.bytes b t)) Q E s := by
  unfold collect
  refine wpAny_bind (wpAny_runValue (codeAny_builtin F.entry_proto_collect ?_))
  rw [Around.under_plainId F.plain_proto_collect _]
  show wpAny _ A.in1 (newList [] >>= fun l => again (.builtin "list.__iadd__" ⟨[l, .bytes b t], []⟩)) _ _ s
  refine wpAny_bind (wpAny_newObj_type ?_)
  refine wpAny_pure ⟨plainId_quiet F.plain_list_iadd _, codeAny_builtin F.entry_list_iadd ?_⟩
  rw [Around.under_plainId F.plain_list_iadd _]
  show wpAny _ A.in1 (Builtin.List.listExtendWith (.ref s.heap.objs.size) (.bytes b t) (.ref s.heap.objs.size)) _ _ _
  unfold Builtin.List.listExtendWith
  refine wpAny_bind (wpAny_typeOf (T := "bytes") (v := .bytes b t) rfl ?_)
  have h1 : Builtin.List.listSameRef (.ref s.heap.objs.size) (.bytes b t) = false := rfl
  have h2 : (Value.type "bytes" == Value.type "list") = false := by decide
  have h3 : (Value.type "bytes" == Value.type "tuple") = false := by decide
  simp only [h1, h2, h3, Bool.or_false, Bool.false_eq_true, if_false]
  refine wpAny_bind (KBw.pyIter_bytes ?_)
  refine wpAny_bind (wpAny_holding ?_)
  unfold Builtin.List.listLengthHint
  refine wpAny_bind (wpAny_specialOf (T := "bytes") (v := .bytes b t) rfl bytes_len_lk ?_)
  wp_delta
  refine wpAny_bind (wpAny_isInstance (T := "bytes") (v := .bytes b t) (b := true) rfl (by rw [isSubtype_type]; kernel_rfl) ?_)
  show wpAny _ A.in1 (typeOf (Value.bytes b t) >>= _) _ _ _
  refine wpAny_bind (wpAny_typeOf (T := "bytes") (v := .bytes b t) rfl ?_)
  refine wpAny_pure ?_
  rw [if_neg (by decide)]
  generalize hH : s.heap.push { cls := .type "list", data := .seq ([] : List Value).toArray } = H
  have hHs : H.objs.size = s.heap.objs.size + 1 := by rw [← hH, Heap.size_push]
  have hSf : s.heap.objs.size ∉ [H.objs.size] := fun hm => by rw [List.mem_singleton.mp hm] at hHs; exact absurd hHs (Nat.ne_of_lt (Nat.lt_succ_self _))
  have hS : (H.push { cls := .type "bytes_iterator", data := .fields #[.bytes b t, .int 0 0] }).get? s.heap.objs.size = some { cls := .type "list", data := .seq ([] : List Value).toArray } := Heap.get?_push_of_some _ (hH ▸ Heap.get?_push_size _ rfl)
  have W := (KBw.walks (prog := prog) (w := w) (A := A.in1) hh H.objs.size b t).toS
  refine wpAny_pure ⟨plainId_quiet F.plain_extend_loop _, codeAny_extend_loopS W hn _ hSf _ b.size 0 _ _ _ rfl (Nat.zero_le _) ⟨_, Heap.get?_push_size _ rfl, rfl, rfl⟩ hS (ItemsOf.nil _) fun s' acc' c' hm hS' hacc => ?_⟩
  show wpAny _ A (load s.heap.objs.size >>= _) _ _ s'
  refine wpAny_bind (wpAny_load hS' ?_)
  refine wpAny_pure (hQ s' acc' (fun a ob e => hm.heap a ob (fun hb => ?_) (Heap.get?_push_of_some _ (hH ▸ Heap.get?_push_of_some _ e))) hm.gens hm.drawn hm.os hacc)
  have hlt := Heap.lt_size e
  rcases List.mem_cons.mp hb with h | h
  · exact absurd hlt (h ▸ Nat.lt_irrefl _)
  · rw [List.mem_singleton.mp h, hHs] at hlt; exact absurd hlt (Nat.not_lt.mpr (Nat.le_succ _))
open AutoSeq1 (wpAny_loadPart') in
theorem meets_tuple_bytes (x : Array UInt8) (t : Tok) (hsz : x.size ≤ sizeLine) :
    Meets (Builtin.«tuple.__new__» ⟨[.type "tuple", .bytes x t], []⟩)
      (fun A R s => A.handled = none ∧ ∀ (s' : Shared) (acc : Array Value), (∀ b o, s.heap.get? b = some o → s'.heap.get? b = some o) → s'.gens = s.gens → s'.drawn = s.drawn → s'.os = s.os → ItemsOf (OctAt x) acc x.size →
        R (.ok (.ret (.ref s'.heap.objs.size))) { s' with heap := s'.heap.push { cls := .type "tuple", data := .seq acc } }) :=
  .of_wp fun prog w A R s h => by
    obtain ⟨hh, h⟩ := h
    have hsub := sub_tuple_self
    have hinit := init_tuple_lookup
    have hmh := madeHere_tuple
    have hT : s.TypeIs (.bytes x t) "bytes" := rfl
    have hh1 : A.in1.handled = none := hh
    wp_walk using wpAny_typeOf hT, collect_bytes (hn := hsz) hh1 x t
    intro s' acc hk hg hd hos hacc
    show wpAny _ _ (Builtin.Tuple.tupleExact acc.toList.toArray >>= fun v => ret v) _ _ _
    unfold Builtin.Tuple.tupleExact
    refine wpAny_bind (wpAny_newObj_type ?_ (show acc.toList.toArray.size ≤ sizeLine by simp only [Array.toArray_toList]; rw [hacc.1]; exact hsz))
    refine wpAny_pure ⟨_, rfl, ?_⟩
    have e : acc.toList.toArray = acc := by simp
    rw [e]
    exact h s' acc hk hg hd hos hacc
theorem intsAre_octs : ∀ {l : List UInt8} {vs : List Value}, vs.length = l.length → (∀ (j : Nat) (v : Value), vs[j]? = some v → ∃ (c : UInt8) (u : Tok), l[j]? = some c ∧ v = Value.int ((c.toNat : Nat) : Int) u) → IntsAre vs (l.map fun c => (c.toNat : Int))
  | [], [], _, _ => .nil
  | c :: l, v :: vs, hl, h => by
    obtain ⟨c', u, hc, rfl⟩ := h 0 v rfl
    simp at hc
    subst hc
    exact .cons _ _ (intsAre_octs (by simpa using hl) fun j v hv => by
      obtain ⟨c, u, hc, hv⟩ := h (j + 1) v (by simpa using hv)
      exact ⟨c, u, by simpa using hc, hv⟩)
  | [], _ :: _, hl, _ => by simp at hl
  | _ :: _, [], hl, _ => by simp at hl
end
section
variable {prog : Program} {w : World} {A : Around} {E : Value → Shared → Prop} {Q : Value → Shared → Prop} {h₀ h : Heap} {L : Addr} {m : Str → Option Value} {tn imm : List (Addr × Obj)} {G : Array GenState} {D : Drawn} {t : Nat} {O : OsState}
/-- the ints of some octets -/
abbrev octs (b : List UInt8) : List Int := b.map fun c => (c.toNat : Int)
/-- tuple(octets) -/
theorem s_tupleOfB {b : List UInt8} {u : Tok} (S : Sta h₀ L m tn imm h) (hh : A.handled = none) (hz : b.length ≤ 100000) (hq : ∀ a h' t' vs, IntsAre vs (octs b) → Sta h₀ L m tn ((a, tupO vs) :: imm) h' → Q (.ref a) ⟨h', G, D, t', O⟩) :
    wpAny (model prog w) A (call (.type "tuple") [.bytes b.toArray u]) Q E ⟨h, G, D, t, O⟩ := by
  have hsz : b.toArray.size ≤ sizeLine := by rw [List.size_toArray, sizeLine_eq]; omega
  refine callType_new (s := ⟨h, G, D, t, O⟩) F.called_tuple (by decide) (F.typeCall_tuple_1 _) (F.newCall_tuple_1 _) (fun obj => F.args_object_init_2 obj _) F.entry_tuple_new
    (meets_tuple_bytes b.toArray u hsz) ⟨hh, fun s' acc hk hg hd hos hacc => ⟨⟨_, Heap.get?_push_size _ rfl, rfl⟩, ?_⟩⟩
  obtain ⟨h', g', d', tk', os'⟩ := s'
  dsimp only at hk hg hd hos hacc
  subst hg hd hos
  obtain ⟨vs⟩ := acc
  refine hq _ _ _ vs (intsAre_octs (by have := hacc.1; simpa using this) fun j v hv => ?_) ((S.keeps hk).newImm _)
  obtain ⟨c, u, hc, hv⟩ := hacc.2 j v (by simpa using hv)
  exact ⟨c, u, by simpa using hc, hv⟩
/-- sum(a tuple of ints) -/
theorem s_sumT {l : Addr} {vs : List Value} {ns : List Int} {n : Nat} {k : Nat} (S : Sta h₀ L m tn imm h) (hl : (l, tupO vs) ∈ tn ++ imm) (hi : IntsAre vs ns) (hh : A.handled = none) (hq : ∀ h' t' u, Sta h₀ L m tn imm h' → Q (.int ns.sum u) ⟨h', G, D, t', O⟩) :
    wpAny (model prog w) A (call (.builtin "sum") [.ref l]) Q E ⟨h, G, D, t, O⟩ :=
  ktm_sumK (s := ⟨h, G, D, t, O⟩) hh S.F S.N hl hi fun h' tk t' F N => hq h' tk t' ⟨F, N, S.D⟩
/-- len(a tuple) -/
theorem s_lenT {l : Addr} {vs : List Value} {o : Obj} (S : Sta h₀ L m tn imm h) (hl : (l, o) ∈ tn ++ imm) (ho : o.cls = .type "tuple") {k : Nat} (hd : o.data = .seq vs.toArray k) (hz : vs.length ≤ 100000) (hq : Q (.int vs.length (t + 1)) ⟨h, G, D, t + 2, O⟩) :
    wpAny (model prog w) A (call (.builtin "len") [.ref l]) Q E ⟨h, G, D, t, O⟩ :=
  len_tuple (s := ⟨h, G, D, t, O⟩) ⟨o, S.get hl, ho, k, hd⟩ (by have p : (2 : Int) ^ 63 = 9223372036854775808 := by decide
                                                                rw [List.size_toArray, p]; omega) (by rw [List.size_toArray]; exact hq)
end

abbrev okCond (kd vl : Int) : Prop := (0 ≤ vl ∧ vl ≤ 255) ∧ ¬ (kd = 0 ∧ vl % 16 > vl / 16) ∧ ¬ (kd = 1 ∧ ¬ (1 ≤ vl ∧ vl ≤ 63))
def cDat (kd sl vl : Int) : Dat := .tuple [.int kd, .int sl, .int vl]
open Classical in
/-- what read_conditioning tells from place k on -/
noncomputable def rc (b : List UInt8) : Nat → Nat → Option (List Dat)
  | 0, _ => some []
  | f + 1, k => if b.length ≤ k then some [] else if badK (oct b k) then none else if b.length < k + 2 then none
    else if okCond (oct b k / 16) (oct b (k + 1)) then (rc b f (k + 2)).map (cDat (oct b k / 16) (oct b k % 16) (oct b (k + 1)) :: ·) else none
def hDat (kd sl : Int) (cs : List Int) (sy : List UInt8) : Dat := .tuple [.int kd, .int sl, .tuple (cs.map .int), .bytes sy.toArray]
/-- the counts of a table whose first octet is at k, and their sum -/
def cnts (b : List UInt8) (k : Nat) : List Int := octs ((b.drop (k + 1)).take 16)
def csum (b : List UInt8) (k : Nat) : Nat := (((b.drop (k + 1)).take 16).map (·.toNat)).sum
theorem sum_octs (l : List UInt8) : (octs l).sum = (((l.map (·.toNat)).sum : Nat) : Int) := by
  induction l with
  | nil => rfl
  | cons c l ih => simp only [octs, List.map_cons, List.sum_cons, Int.natCast_add] at ih ⊢; rw [ih]
open Classical in
/-- what read_huffman tells from place k on -/
noncomputable def rh (b : List UInt8) : Nat → Nat → Option (List Dat)
  | 0, _ => some []
  | f + 1, k => if b.length ≤ k then some [] else if badK (oct b k) then none else if b.length < k + 17 then none
    else if csum b k > 256 then none else if b.length < k + 17 + csum b k then none
    else (rh b f (k + 17 + csum b k)).map (hDat (oct b k / 16) (oct b k % 16) (cnts b k) ((b.drop (k + 17)).take (csum b k)) :: ·)
section
variable {prog : Program} {w : World} {p : Program} {loose : List Str} {mean : ExcName → Option Value} {mg mb : Str → Option Value} {A₀ : Around} {base h₀ h : Heap} {outer : List Env} {env : Env} {L : Addr} {m : Str → Option Value} {tn imm : List (Addr × Obj)} {n : Nat} {G : Array GenState} {D : Drawn} {t : Nat} {O : OsState}
  {Q E : Value → Shared → Prop} {b : List UInt8} {tb : Tok}
/-- read_conditioning(payload) -/
theorem c_read_cond (Z : Act w p loose mean mg mb A₀ base h₀ outer env L m tn imm h 12) (hb : b.length ≤ 1000)
    (hQ : ∀ ds, rc b b.length 0 = some ds → ∀ fl vs k imm' h' t', (∀ q ∈ imm, q ∈ imm') → DatAll imm' vs ds → Sta h₀ L m ((fl, W.listOf vs.toArray k) :: tn) imm' h' → Q (.ref fl) ⟨h', G, D, t', O⟩)
    (hE : rc b b.length 0 = none → ∀ e h' tk, Thrown base h₀ env outer L (.ref 44) (tn ++ imm) e h' → E e ⟨h', G, D, tk, O⟩) :
    wpAny (model prog w) (A₀.deeper env) (call (.ref 238) [.bytes b.toArray tb]) Q E ⟨h, G, D, t, O⟩ := by
  generalize hR : rc b b.length 0 = R at hQ hE
  refine' callA (cls := .ref 44) (NE := Kept (R = none) (tn ++ imm)) (binds := [("payload", .bytes b.toArray tb)]) Z ?k1 ?k2 ?k3 ?k4 ?k5 ?k6 ?k7 ?k8 (fun e h' tk news' hk T => hE hk.1 e h' tk (T.sub hk.2)) ?_
  case k1 => k_is
  case k2 => k_is
  case k3 => exact rfl
  case k4 => exact locs rfl
  case k5 => decide
  case k6 => exact rfl
  case k7 => exact rfl
  case k8 => exact rfl
  intro g L' h₁ t₁ Z'
  have C := Z'.C
  have S := Z'.S
  have hf := Z'.hf
  have hk := Z'.hk
  have R' := Z'.R
  with_reducible refine absF C hf hk fun Q₁ E₁ hQ₁ hE₁ hP => ?_
  repeat walk_at "m"
  refine c_reader (by walk_at "act") fun x dx h t t1 t2 t3 S => ?_
  repeat walk_at "m"
  refine r_while (fun f s => ∃ h t m' k kf vs ds imm' t1 t2 t3 fl, s = ⟨h, G, D, t, O⟩ ∧ Sta g L' m' ((fl, W.listOf vs.toArray kf) :: (dx, rdr w.params b tb t1 t2 k t3) :: tn) imm' h ∧ (∀ q ∈ imm, q ∈ imm') ∧ (x, instObj 122 dx) ∈ imm' ∧ DatAll imm' vs ds ∧
    R = (rc b f k).map (ds ++ ·) ∧ b.length ≤ k + f ∧ k ≤ b.length ∧ vs.length ≤ k ∧ m' "reader" = some (.ref x) ∧ m' "found" = some (.ref fl)) b.length hP ?_ ?_
  · refine exI12 (x3 := 0) (x4 := 0) (x5 := []) (x6 := []) ⟨rfl, ‹_›, fun q hq => .tail _ hq, .head _, .nil, ?_, Nat.le_of_eq (Nat.zero_add _).symm, Nat.zero_le _, Nat.le_refl _, ?_, ?_⟩
    · simp [hR]
    · walk_at "mv"
    · walk_at "mv"
  intro f s hJ
  with_reducible refine absW fun Q₂ hQ₂ => ?_
  refine exE12 hJ fun h t m' k kf vs ds imm' t1 t2 t3 fl hz25 => ?_
  clear hJ
  refine anE11 hz25 fun hz26 S hsub hx hD hrq hfu hkb hvk hm1 hm2 => ?_
  clear hz25
  subst hz26
  repeat walk_at "m"
  refine c_left (by walk_at "act") (by walk_at "mem") (by walk_at "mem") (by omega) fun h t u S => ?_
  repeat walk_at "m"
  walk_at "br"
  · have hlt : k < b.length := by walk_at "ar"
    obtain ⟨f, rfl⟩ : ∃ f', f = f' + 1 := ⟨f - 1, by omega⟩
    rw [rc, if_neg (by omega : ¬ b.length ≤ k)] at hrq
    have ho := oct_lt b k
    repeat walk_at "m"
    refine c_kind (by walk_at "act1") hx (by omega) hlt (fun hbad a u v u3 h t S => ?_) (fun hbad e h tk T => Flew.by hE₁ T (by rw [hrq, if_pos hbad]; rfl) (sub2 (fun q hq => .tail _ hq) hsub))
    rw [if_neg hbad] at hrq
    repeat walk_at "m"
    refine c_need (by walk_at "act") (by walk_at "mem") (by walk_at "mem") (by omega) (fun hnd h t S => ?_) (fun hnd e h tk T => Flew.by hE₁ T (by rw [hrq, if_pos (by omega)]; rfl) (sub2 (fun q hq => .tail _ (.tail _ hq)) (fun q hq => .tail _ (hsub q hq))))
    rw [if_neg (by omega)] at hrq
    repeat walk_at "m"
    refine c_byte (by walk_at "act") (by walk_at "mem") (by omega) (by omega) fun h t u' u8' S => ?_
    repeat walk_at "m"
    refine c_cond (by walk_at "act") (fun hok h t S => ?_) (fun hbd e h tk T => Flew.by hE₁ T (by rw [hrq, if_neg hbd]; rfl) (sub2 (fun q hq => .tail _ (.tail _ hq)) (fun q hq => .tail _ (hsub q hq))))
    rw [if_pos hok] at hrq
    repeat walk_at "m"
    rename_i aE hE' SE hF SF
    refine r_nilQ hQ₂ ⟨f, Nat.lt_succ_self _, exI12 (x3 := k + 1 + 1) (x6 := ds ++ [cDat (oct b k / 16) (oct b k % 16) (oct b (k + 1))]) ⟨rfl, SF, fun q hq => .tail _ (.tail _ (hsub q hq)), .tail _ (.tail _ hx), (hD.mono fun q hq => .tail _ (.tail _ hq)).append (.one ?_), ?_, ?_, ?_, ?_, ?_, ?_⟩⟩
    · exact .tuple (.head _) (.cons (.int _ _) (.cons (.int _ _) (.cons (.int _ _) .nil)))
    · rw [hrq, Option.map_map]
      congr 1
      funext z
      simp
    · omega
    · omega
    · rw [List.length_append]; show vs.length + 1 ≤ k + 1 + 1; omega
    all_goals walk_at "mv"
  · have hge : b.length ≤ k := by walk_at "ar"
    repeat walk_at "m"
    walk_at "back"
    refine fun S => hQ ds ?_ _ _ _ _ _ _ hsub hD S.f1.drop
    rw [hrq]
    cases f with
    | zero => simp [rc]
    | succ f => simp [rc, hge]
/-- read_huffman(payload) -/
theorem c_read_huff (Z : Act w p loose mean mg mb A₀ base h₀ outer env L m tn imm h 12) (hb : b.length ≤ 1000)
    (hQ : ∀ ds, rh b b.length 0 = some ds → ∀ fl vs k imm' h' t', (∀ q ∈ imm, q ∈ imm') → DatAll imm' vs ds → Sta h₀ L m ((fl, W.listOf vs.toArray k) :: tn) imm' h' → Q (.ref fl) ⟨h', G, D, t', O⟩)
    (hE : rh b b.length 0 = none → ∀ e h' tk, Thrown base h₀ env outer L (.ref 44) (tn ++ imm) e h' → E e ⟨h', G, D, tk, O⟩) :
    wpAny (model prog w) (A₀.deeper env) (call (.ref 217) [.bytes b.toArray tb]) Q E ⟨h, G, D, t, O⟩ := by
  generalize hR : rh b b.length 0 = R at hQ hE
  refine' callA (cls := .ref 44) (NE := Kept (R = none) (tn ++ imm)) (binds := [("payload", .bytes b.toArray tb)]) Z ?k1 ?k2 ?k3 ?k4 ?k5 ?k6 ?k7 ?k8 (fun e h' tk news' hk T => hE hk.1 e h' tk (T.sub hk.2)) ?_
  case k1 => k_is
  case k2 => k_is
  case k3 => exact rfl
  case k4 => exact locs rfl
  case k5 => decide
  case k6 => exact rfl
  case k7 => exact rfl
  case k8 => exact rfl
  intro g L' h₁ t₁ Z'
  have C := Z'.C
  have S := Z'.S
  have hf := Z'.hf
  have hk := Z'.hk
  have R' := Z'.R
  with_reducible refine absF C hf hk fun Q₁ E₁ hQ₁ hE₁ hP => ?_
  repeat walk_at "m"
  refine c_reader (by walk_at "act") fun x dx h t t1 t2 t3 S => ?_
  repeat walk_at "m"
  refine r_while (fun f s => ∃ h t m' k kf vs ds imm' t1 t2 t3 fl, s = ⟨h, G, D, t, O⟩ ∧ Sta g L' m' ((fl, W.listOf vs.toArray kf) :: (dx, rdr w.params b tb t1 t2 k t3) :: tn) imm' h ∧ (∀ q ∈ imm, q ∈ imm') ∧ (x, instObj 122 dx) ∈ imm' ∧ DatAll imm' vs ds ∧
    R = (rh b f k).map (ds ++ ·) ∧ b.length ≤ k + f ∧ k ≤ b.length ∧ vs.length ≤ k ∧ m' "reader" = some (.ref x) ∧ m' "found" = some (.ref fl)) b.length hP ?_ ?_
  · refine exI12 (x3 := 0) (x4 := 0) (x5 := []) (x6 := []) ⟨rfl, ‹_›, fun q hq => .tail _ hq, .head _, .nil, ?_, Nat.le_of_eq (Nat.zero_add _).symm, Nat.zero_le _, Nat.le_refl _, ?_, ?_⟩
    · simp [hR]
    · walk_at "mv"
    · walk_at "mv"
  intro f s hJ
  with_reducible refine absW fun Q₂ hQ₂ => ?_
  refine exE12 hJ fun h t m' k kf vs ds imm' t1 t2 t3 fl hz27 => ?_
  clear hJ
  refine anE11 hz27 fun hz28 S hsub hx hD hrq hfu hkb hvk hm1 hm2 => ?_
  clear hz27
  subst hz28
  repeat walk_at "m"
  refine c_left (by walk_at "act") (by walk_at "mem") (by walk_at "mem") (by omega) fun h t u S => ?_
  repeat walk_at "m"
  walk_at "br"
  · have hlt : k < b.length := by walk_at "ar"
    obtain ⟨f, rfl⟩ : ∃ f', f = f' + 1 := ⟨f - 1, by omega⟩
    rw [rh, if_neg (by omega : ¬ b.length ≤ k)] at hrq
    have ho := oct_lt b k
    repeat walk_at "m"
    refine c_kind (by walk_at "act1") hx (by omega) hlt (fun hbad a u v u3 h t S => ?_) (fun hbad e h tk T => Flew.by hE₁ T (by rw [hrq, if_pos hbad]; rfl) (sub2 (fun q hq => .tail _ hq) hsub))
    rw [if_neg hbad] at hrq
    repeat walk_at "m"
    refine c_need (by walk_at "act") (by walk_at "mem") (by walk_at "mem") (by omega) (fun hnd h t S => ?_) (fun hnd e h tk T => Flew.by hE₁ T (by rw [hrq, if_pos (by omega)]; rfl) (sub2 (fun q hq => .tail _ (.tail _ hq)) (fun q hq => .tail _ (hsub q hq))))
    rw [if_neg (by omega)] at hrq
    repeat walk_at "m"
    refine c_take (sz := 16) (by walk_at "act") (by walk_at "mem") (by omega) (by omega) fun h t u' u8' S => ?_
    repeat walk_at "m"
    refine s_tupleOfB S R'.hd (by rw [List.length_take]; omega) fun aT hT tT vsT hI ST => ?_
    repeat walk_at "m"
    refine s_sumT (n := 0) (k := 0) (by assumption) (by walk_at "mem") hI R'.hd fun h t us S => ?_
    have hcs : (octs ((b.drop (k + 1)).take 16)).sum = (csum b k : Nat) := sum_octs _
    rw [hcs]
    repeat walk_at "m"
    walk_at "br"
    · refine r_segB hE₁ (by walk_at "act") rfl (by rw [hrq, if_pos (by walk_at "ar")]; rfl) (sub2 (fun q hq => .tail _ (.tail _ hq)) (fun q hq => .tail _ (.tail _ (hsub q hq))))
    have hcs2 : ¬ csum b k > 256 := by walk_at "ar"
    rw [if_neg hcs2] at hrq
    repeat walk_at "m"
    refine s_sumT (n := 0) (k := 0) (by assumption) (by walk_at "mem") hI R'.hd fun h t us S => ?_
    rw [hcs]
    repeat walk_at "m"
    refine c_need (by walk_at "act") (by walk_at "mem") (by walk_at "mem") (by omega) (fun hnd h t S => ?_) (fun hnd e h tk T => Flew.by hE₁ T (by rw [hrq, if_pos (by omega)]; rfl) (sub2 (fun q hq => .tail _ (.tail _ hq)) (fun q hq => .tail _ (.tail _ (hsub q hq)))))
    rw [if_neg (by omega)] at hrq
    repeat walk_at "m"
    refine s_sumT (n := 0) (k := 0) (by assumption) (by walk_at "mem") hI R'.hd fun h t us S => ?_
    rw [hcs]
    repeat walk_at "m"
    refine c_take (sz := csum b k) (by walk_at "act") (by walk_at "mem") (by omega) (by omega) fun h t u' u9' S => ?_
    repeat walk_at "m"
    rename_i aE hE' SE hF SF
    refine r_nilQ hQ₂ ⟨f, Nat.lt_succ_self _, exI12 (x3 := k + 1 + 16 + csum b k) (x6 := ds ++ [hDat (oct b k / 16) (oct b k % 16) (cnts b k) ((b.drop (k + 17)).take (csum b k))]) ⟨rfl, SF, fun q hq => .tail _ (.tail _ (.tail _ (hsub q hq))), .tail _ (.tail _ (.tail _ hx)), (hD.mono fun q hq => .tail _ (.tail _ (.tail _ hq))).append (.one ?_), ?_, ?_, ?_, ?_, ?_, ?_⟩⟩
    · exact .tuple (.head _) (.cons (.int _ _) (.cons (.int _ _) (.cons (.tuple (.tail _ (.head _)) (datAll_ints hI)) (.cons (.bytes _ _) .nil))))
    · rw [hrq, Option.map_map, show k + 1 + 16 + csum b k = k + 17 + csum b k by omega]
      congr 1
      funext z
      simp
    · omega
    · omega
    · rw [List.length_append]; show vs.length + 1 ≤ k + 1 + 16 + csum b k; omega
    all_goals walk_at "mv"
  · have hge : b.length ≤ k := by walk_at "ar"
    repeat walk_at "m"
    walk_at "back"
    refine fun S => hQ ds ?_ _ _ _ _ _ _ hsub hD S.f1.drop
    rw [hrq]
    cases f with
    | zero => simp [rh]
    | succ f => simp [rh, hge]
end

section
variable {prog : Program} {w : World} {A : Around} {E : Value → Shared → Prop} {R : Result → Shared → Prop} {s : Shared} {env : Env}
theorem wpN.runOwn {c : Code} {Q : Flow → Shared → Prop} (hc : codeN (model prog w) (A.mark none) c (fun r s' => match r with | .ok f => Q f s' | .error e => cameBackBy (model prog w) A env E e s') s) : wpN (model prog w) A (runOwn c env none) Q E s := by
  unfold PySem.runOwn
  exact wpN.onRaise (wpN.run hc)
theorem codeN_func {body : List Stmt}
    (h : wpN (model prog w) (A.deeper env) (execs body env) (fun f s' => R (.ok (.ret (match f with | .ret v => v | _ => .none))) s')
      (fun e s' => wpAny (model prog w) (A.deeper env) (leaving env e) (fun _ s'' => R (.error e) s'') (fun e' s'' => R (.error e') s'') s') s) : codeN (model prog w) A (.func body env) R s := by
  refine codeN.of_tree nc_func ?_
  show wpN _ (A.deeper env) (do point; match ← (execs body env).onRaise (leaving env) with | .ret v => ret v | _ => ret .none) _ _ s
  refine wpN.bind (wpN.of (wpAny_point (wpN.bind (wpN.onRaise (wpN.mono h (fun f s' h' => ?_) fun _ _ h' => h')))))
  cases f <;> exact wpN.pure h'
theorem codeN_call_function {a : Addr} {args : Args} {o : Obj} {fd : FuncData} {body : List Stmt} (hroom : A.depth < recursionLimit) (ho : s.heap.get? a = some o)
    (hd' : o.data = .func fd) (hco : fd.scope.isCoroutine = false) (hgen : fd.scope.isGenerator = false) (hbody : fd.body = .stmts body) (hcd : s.heap.CodeRec fd.code fd.qualname)
    (h : wpAny (model prog w) A.in1 (bindArgs fd args) (fun binds s₁ =>
      wpAny (model prog w) A.in1 (newFunctionEnv fd.scope fd.globals fd.closure binds (fd.qualname ++ ".<locals>.") (some a) fd.code none fd.builtins)
        (fun env s₂ => s₂.heap.NoLimit ∧ codeN (model prog w) A (.func body env) R s₂) (fun e s' => R (.error e) s') s₁) (fun e s' => R (.error e) s') s) : codeN (model prog w) A (.call (.ref a) args) R s := by
  refine codeN.of_tree nc_call (wpN.of ?_)
  show wpAny _ A.in1 (callAny (.ref a) args) _ _ s
  simp only [callAny]
  refine wpAny_bind (wpAny_load ho ?_)
  obtain ⟨c, oc, vs, tq, hc, hoc, hdc, hq⟩ := hcd
  simp only [hd', callFunction, hco, hgen, hbody, hc]
  rw [hc] at h
  refine wpAny_bind (m := field (.ref c) 1) (wpAny_field hoc hdc hq (wpAny_bind (wpAny_pure ?_)))
  exact wpAny_bind (wpAny_mono h (fun binds s₁ h₁ => wpAny_bind (wpAny_mono h₁ (fun env s₂ h₂ => wpAny_bind (wpAny_enterFrame h₂.1 hroom
    (wpAny_pure (And.intro rfl h₂.2)))) fun _ _ h' => h')) fun _ _ h' => h')
theorem codeN_loop {c : Code} (hq : c.quiet = true) (nc : NC c) (I : Nat → Shared → Prop)
    (turn : ∀ n s, I n s → wpN (model prog w) (A.under c) ((model prog w).den c)
      (fun fin s' => match fin with | .done f => R (.ok f) s' | .again c' => (c' = c ∧ ∃ m, m < n ∧ I m s') ∨ (c'.quiet = true ∧ codeN (model prog w) A c' R s')) (fun e s' => R (.error e) s') s)
    (n : Nat) (h : I n s) : codeN (model prog w) A c R s := by
  induction n using Nat.strongRecOn generalizing s with
  | ind n ih =>
    refine codeN.of_tree nc (wpN.mono (turn n s h) (fun fin s' hf => ?_) fun _ _ h' => h')
    cases fin with
    | done f => exact hf
    | again c' =>
      rcases hf with ⟨rfl, m, hm, hI⟩ | hf
      · exact ⟨hq, ih m hm hI⟩
      · exact hf
theorem wpN.noted {α : Type} {m : Sem α} {Q : α → Shared → Prop} (h : wpN (model prog w) A m Q (notedBy (model prog w) A env E) s) : wpN (model prog w) A (m.onRaise fun x => do noteFrame x env; theTreesLotGoes x) Q E s :=
  wpN.onRaise (wpN.mono h (fun _ _ q => q) fun _ _ hx => wpAny_bind (wpAny_mono hx (fun _ _ e => wpAny_theTreesLotGoes e) fun _ _ e => e))
theorem codeN_block {stmts : List Stmt} (h : wpN (model prog w) A (execs stmts env) (fun f s' => R (.ok f) s') (notedBy (model prog w) A env fun e s' => R (.error e) s') s) : codeN (model prog w) A (.block stmts env) R s := by
  refine codeN.of_tree nc_block ?_
  show wpN _ _ (do return Fin.done (← (execs stmts env).onRaise (fun x => do noteFrame x env; theTreesLotGoes x))) _ _ s
  exact wpN.bind (wpN.noted (wpN.mono h (fun f s' h' => wpN.pure h') fun _ _ h' => h'))
/-- a for -/
theorem codeN_for {target : Expr} {it : Value} {body orelse : List Stmt} (I : Nat → Shared → Prop)
    (turn : ∀ n s, I n s → wpAny (model prog w) A (pyNext it) (fun r s₁ => match r with
      | none => wpN (model prog w) A (execs orelse env) (fun f s₃ => R (.ok f) s₃) (notedBy (model prog w) A env fun e s' => R (.error e) s') s₁
      | some v => wpAny (model prog w) A (letOwnedTupleGo target it v) (fun _ s₁' => wpAny (model prog w) A (assign target env v) (fun _ s₂ => wpN (model prog w) A (execs body env) (fun f s₃ => match f with
          | .next | .cont => ∃ m, m < n ∧ I m s₃
          | .brk => R (.ok .next) s₃
          | .ret v => R (.ok (.ret v)) s₃) (notedBy (model prog w) A env fun e s' => R (.error e) s') s₂) (notedBy (model prog w) A env fun e s' => R (.error e) s') s₁') (notedBy (model prog w) A env fun e s' => R (.error e) s') s₁) (notedBy (model prog w) A env fun e s' => R (.error e) s') s)
    (n : Nat) (h : I n s) : codeN (model prog w) A (.forLoop target it body orelse env) R s := by
  refine codeN_loop rfl nc_for I (fun n s hI => ?_) n h
  show wpN _ _ ((forTurn target it body orelse env).onRaise (fun x => do noteFrame x env; theTreesLotGoes x)) _ _ s
  refine wpN.noted ?_
  simp only [forTurn]
  refine wpN.bind (wpN.standAt (wpN.bind (wpN.onRaise (wpN.of (wpAny_mono (turn n s hI) (fun r s₁ h₁ => ?_) fun _ _ h' => wpAny_standAt h')))))
  cases r with
  | none => exact wpN.pure (.inr ⟨rfl, codeN_block h₁⟩)
  | some v =>
    refine wpN.bind (wpN.of (wpAny_mono h₁ (fun _ s₁' h₁ => ?_) fun _ _ h' => h'))
    refine wpN.bind (wpN.of (wpAny_mono h₁ (fun _ s₂ h₂ => wpN.bind (wpN.mono h₂ (fun f s₃ h₃ => ?_) fun _ _ h' => h')) fun _ _ h' => h'))
    cases f with
    | next => exact wpN.pure (.inl ⟨rfl, h₃⟩)
    | cont => exact wpN.pure (.inl ⟨rfl, h₃⟩)
    | brk => exact wpN.pure h₃
    | ret v => exact wpN.pure h₃
end
section
variable {α β : Type} (M : Model) (A : Around) (E : Value → Shared → Prop)
abbrev KSN (t : Sem β) (Q : β → Shared → Prop) : α → Shared → Prop := fun _ s => wpN M A t Q E s
abbrev KQN (rest : List Stmt) (env : Env) (Q : Flow → Shared → Prop) : Shared → Prop := fun s => wpN M A (execs rest env) Q E s
abbrev KEN (rest : List Stmt) (env : Env) (Q : Flow → Shared → Prop) : Value → Shared → Prop := fun v s => v = .none ∧ wpN M A (execs rest env) Q E s
abbrev KIfN (body orelse rest : List Stmt) (env : Env) (Q : Flow → Shared → Prop) : Bool → Shared → Prop := fun b s => Br b (wpN M A (execs body env) (thenC Q (KQN M A E rest env Q)) E s) (wpN M A (execs orelse env) (thenC Q (KQN M A E rest env Q)) E s)
abbrev KIfLN (body rest : List Stmt) (env : Env) (Q : Flow → Shared → Prop) : Bool → Shared → Prop := fun b s => Br b (wpN M A (execs body env) (thenC Q (KQN M A E rest env Q)) E s) (wpN M A (execs rest env) Q E s)
abbrev KOrN (ys : List Expr) (pos : Pos) (env : Env) (whole : Sem Value) (Q : Bool → Shared → Prop) : Bool → Shared → Prop := fun c s => Br c (Q true s) (wpN M A (PySem.isTrue (.BoolOp .Or ys pos) env whole) Q E s)
abbrev KCallN (pos : Pos) (args : List Expr) (env : Env) (Q : Value → Shared → Prop) : Value → Shared → Prop := fun f s => wpN M A (callWith pos f [] (backTo pos (starEach args env)) []) Q E s
abbrev KMetN (pos : Pos) (args : List Expr) (env : Env) (Q : Value → Shared → Prop) : Value → List Value → Shared → Prop := fun f xs s => wpN M A (callWith pos f xs (backTo pos (starEach args env)) []) Q E s
abbrev KCKN (K : Frag) (f : Value) (first : List Value) (Q : Value → Shared → Prop) : List Value → Shared → Prop := fun vs s => K.In s.heap ∧ wpN M A (call f (first ++ vs)) Q E s
end
section
variable {M : Model} {A : Around} {E : Value → Shared → Prop} {s : Shared} {env : Env} {e : Expr} {pos pos' : Pos} {rest : List Stmt} {Q : Flow → Shared → Prop} {k : Shared → Prop}
theorem rn_cons {st : Stmt} (h : wpN M A (exec st env) (thenC Q (KQN M A E rest env Q)) E s) : wpN M A (execs (st :: rest) env) Q E s := by
  rw [execs_cons]
  refine wpN.bind (wpN.mono h (fun f s' hf => ?_) fun _ _ x => x)
  cases f <;> first | exact hf | exact wpN.pure hf
/-- a plain statement ahead -/
theorem rn_plain {st : Stmt} (h : wpAny M A (exec st env) (thenC Q (KQN M A E rest env Q)) E s) : wpN M A (execs (st :: rest) env) Q E s := rn_cons (wpN.of h)
theorem rn_nil (h : Q .next s) : wpN M A (execs [] env) Q E s := wpN.of (wpAny_execs_nil h)
theorem rn_ret (h : wpAny M A (eval e env) (KR Q) E s) : wpN M A (execs (.Return (some e) pos :: rest) env) Q E s := rn_plain (wpAny_Return_some h)
theorem rn_retN (h : wpN M A (eval e env) (KR Q) E s) : wpN M A (execs (.Return (some e) pos :: rest) env) Q E s := by
  refine rn_cons ?_
  rw [exec_Return_some]
  exact wpN.bind (wpN.standAt (wpN.bind (wpN.mono h (fun v s' h' => wpN.pure h') fun _ _ x => x)))
theorem rn_assign {x : Str} (hs : swapsWith e (some (Expr.Name x pos')) pos.line env = pure false) (h : wpAny M A (eval e env) (KB M A E (storeName env x) (KSN M A E (execs rest env) Q)) E s) : wpN M A (execs (.Assign [.Name x pos'] e pos :: rest) env) Q E s :=
  rn_plain (wpAny_Assign_Name h hs)
theorem rn_assignN {x : Str} (h : wpN M A (eval e env) (KB M A E (storeName env x) (KSN M A E (execs rest env) Q)) E s)
    (hs : swapsWith e (some (Expr.Name x pos')) pos.line env = pure false := by rfl) : wpN M A (execs (.Assign [.Name x pos'] e pos :: rest) env) Q E s := by
  refine rn_cons ?_
  rw [exec_Assign_Name env x pos' e pos hs]
  refine wpN.bind (wpN.standAt (wpN.bind (wpN.mono h (fun v s₁ h₁ => ?_) fun _ _ x => x)))
  refine wpN.bind (wpN.standAt (wpN.bind (wpN.of (wpAny_bindName (wpAny_mono h₁ (fun _ s₂ h₂ => wpN.pure h₂) fun _ _ x => x)))))
theorem rn_expr (hi : interactive env = false) (hs : swapsWith e none pos.line env = pure false) (h : wpN M A (eval e env) (KEN M A E rest env Q) E s) : wpN M A (execs (.Expr e pos :: rest) env) Q E s := by
  refine rn_cons ?_
  rw [exec_Expr env e pos hi hs]
  refine wpN.bind (wpN.standAt (wpN.bind (wpN.mono h (fun v s' h' => ?_) fun _ _ x => x)))
  obtain ⟨rfl, h'⟩ := h'
  rw [dropValue_plain (fun a => by intro z; cases z)]
  exact wpN.pure h'
theorem rn_if {test : Expr} {body orelse : List Stmt} (h : wpN M A (PySem.isTrue test env (eval test env))
      (KIfN M A E body orelse rest env Q) E s) :
    wpN M A (execs (.If test body orelse pos :: rest) env) Q E s := by
  refine rn_cons ?_
  rw [exec_If]
  refine wpN.bind (wpN.standAt (wpN.bind (wpN.mono h (fun b s' h' => ?_) fun _ _ x => x)))
  cases b
  · exact h'.2 rfl
  · exact h'.1 rfl
/-- an if without else -/
theorem rn_ifL {test : Expr} {body : List Stmt} (h : wpN M A (PySem.isTrue test env (eval test env))
      (KIfLN M A E body rest env Q) E s) :
    wpN M A (execs (.If test body [] pos :: rest) env) Q E s := rn_if (wpN.mono h (fun b s' h' => ⟨h'.1, fun z => rn_nil (h'.2 z)⟩) fun _ _ x => x)
theorem n_not {x : Expr} {whole : Sem Value} {Q : Bool → Shared → Prop} (h : wpN M A (PySem.isTrue x env (eval x env)) (fun c s' => Q (!c) s') E s) : wpN M A (PySem.isTrue (.UnaryOp .Not x pos) env whole) Q E s := by
  show wpN M A (do return !(← PySem.isTrue x env (eval x env))) Q E s
  exact wpN.bind (wpN.mono h (fun c s' h' => wpN.pure h') fun _ _ x => x)
theorem n_or {x y : Expr} {rest : List Expr} {whole : Sem Value} {Q : Bool → Shared → Prop}
    (h : wpN M A (PySem.isTrue x env (eval x env)) (KOrN M A E (y :: rest) pos env whole Q) E s) : wpN M A (PySem.isTrue (.BoolOp .Or (x :: y :: rest) pos) env whole) Q E s := by
  show wpN M A (do
    match BoolOp.Or, ← PySem.isTrue x env (eval x env) with
    | .And, false => pure false
    | .Or, true => pure true
    | _, _ => allTrue .Or (y :: rest) env) Q E s
  refine wpN.bind (wpN.mono h (fun c s' h' => ?_) fun _ _ x => x)
  cases c with
  | false => exact h'.2 rfl
  | true => exact wpN.pure (h'.1 rfl)
theorem n_cmp {l r : Expr} {op : CmpOp} {whole : Sem Value} {Q : Bool → Shared → Prop}
    (h : wpN M A (eval l env) (KCp M A E op r env Q) E s)
    (hm : behindInMarks op r = false) : wpN M A (PySem.isTrue (.Compare l [op] [r] pos) env whole) Q E s := fun Γ p hΓ g n => by
  simp only [isTrue_Compare1, markedBehindIn_of_false hm, Sem.wp_bind', Sem.wp_holding, Sem.wp_cmd_standAt, Sem.wp_operate]
  exact Sem.wp_mono M Γ _ (fun a p₁ s₁ h₁ => Sem.wp_mono M Γ _ (fun b _ s₂ h₂ => Sem.wp_mono M Γ _ (fun c p₃ s₃ h₃ => h₃ Γ p₃ hΓ)
    (fun _ _ _ h' => h') _ _ (h₂ Γ _ hΓ)) (fun _ _ _ h' => h') _ _ (h₁ Γ p₁ hΓ)) (fun _ _ _ h' => h') _ _ (h Γ p hΓ g n)
end
section
variable {M : Model} {A : Around} {E : Value → Shared → Prop} {s : Shared} {env : Env} {pos np : Pos} {f : Value} {first : List Value} {Q : Value → Shared → Prop} {K : Frag}
theorem en_call {x : Str} {args : List Expr} (h : wpAny M A (eval (.Name x np) env) (KCallN M A E pos args env Q) E s) : wpN M A (eval (.Call (.Name x np) args [] pos) env) Q E s := by
  show wpN M A (do callWith pos (← eval (.Name x np) env) [] (backTo pos (starEach args env)) (backToKw pos (keywordEach [] env))) Q E s
  exact wpN.bind (wpN.of h)
theorem en_mcall {apos : Pos} {o : Expr} {name : Str} {args : List Expr} {pl : Sem Bool} (hs : eval ((o.Attribute name apos).Call args [] pos) env = (do
      let ov ← eval o env
      standAt apos.atName
      let __x ← holding [ov] (getMethod ov name pl)
      match __x with | (f, first) => callWith pos f first (backTo pos (starEach args env)) [])) (h : wpAny M A (eval o env) (KMeth M A E name pl (KMetN M A E pos args env Q)) E s) : wpN M A (eval ((o.Attribute name apos).Call args [] pos) env) Q E s := by
  rw [hs]
  refine wpN.bind (wpN.of (wpAny_mono h (fun ov s₁ h₁ => wpN.bind (wpN.standAt (wpN.bind (wpN.holding (wpN.of (wpAny_mono h₁ (fun fx s₂ h₂ => ?_) fun _ _ x => x)))))) fun _ _ x => x))
  exact h₂
theorem callWithN {P : Heap → Prop} {args : List (Bool × Sem Value)} {keywords : List (Option Str × Sem Value)} (hplain : (args.any (·.1) || keywords.any (·.1.isNone)) = false)
    (hk : ∀ h, P h → ∃ k, (k = Keeper.frame ∨ k = Keeper.machine ∨ k = Keeper.boundFrame) ∧ Looks M h (keeperOf f) k)
    (h : wpAny M A (evalArgs f true args keywords) (fun a s₁ => P s₁.heap ∧ wpN M A (call f (first ++ a.pos) a.kw) Q E s₁) E s) : wpN M A (callWith pos f first args keywords) Q E s := by
  unfold callWith
  refine wpN.bind (wpN.holding (wpN.of (wpAny_mono h (fun a s₁ h₁ => wpN.bind (wpN.standAt ?_)) fun _ _ x => x)))
  obtain ⟨k, hk', L⟩ := hk _ h₁.1
  simp only [hplain]
  refine wpN.bind (wpN.of (L.here ?_))
  have tail : ∀ {t : Sem Value}, wpN M A t Q E s₁ → wpN M A (t >>= fun r => holding [r] point >>= fun _ => pure r) Q E s₁ :=
    fun ht => wpN.bind (wpN.mono ht (fun r s₂ hr => wpN.of (wpAny_bind (wpAny_holding (wpAny_point (wpAny_pure hr))))) fun _ _ x => x)
  have marked (mk : Value) : wpN M A (callMarked mk f (first ++ a.pos) a.kw) Q E s₁ := fun Γ p hΓ g n => by
    unfold callMarked
    rw [Sem.wp_keep]
    exact h₁.2 Γ p hΓ g n
  rcases hk' with rfl | rfl | rfl <;> dsimp only <;> first | exact tail h₁.2 | (split <;> first | exact tail h₁.2 | exact tail (marked _))
theorem callWithN_K {h₀ : Heap} {e : Expr} {rest : List Expr} (_X : K.In h₀) (hk : keepIn K f = true) (he : starEach (e :: rest) env = (false, eval e env) :: starEach rest env) (hplain : (backTo pos (starEach rest env)).any (·.1) = false) (h : wpAny M A (spliced (backTo pos (starEach (e :: rest) env))) (KCKN M A E K f first Q) E s) :
    wpN M A (callWith pos f first (backTo pos (starEach (e :: rest) env)) []) Q E s := by
  rw [he] at h ⊢
  exact callWithN (by show ((false || (backTo pos (starEach rest env)).any (·.1)) || false) = false; rw [hplain]; rfl) (keeps_K hk) (evalArgs_plain h)
theorem callWithN_K0 (X : K.In s.heap) (hk : keepIn K f = true) (h : wpN M A (call f (first ++ [])) Q E s) : wpN M A (callWith pos f first (backTo pos (starEach [] env)) []) Q E s :=
  callWithN rfl (keeps_K hk) (evalArgs_nil3 ⟨X, h⟩)
end
section
variable {M : Model} {A : Around} {E : Value → Shared → Prop} {env : Env} {s : Shared} {P Q : Flow → Shared → Prop}
theorem rn_nilQ (hq : EndsQ P Q) (h : P .next s) : wpN M A (execs [] env) Q E s := rn_nil (hq _ _ h)
theorem absQN {t : Sem Flow} (h : ∀ Q', EndsQ Q Q' → wpN M A t Q' E s) : wpN M A t Q E s := h Q fun _ _ x => x
theorem absLN {target : Expr} {v : Value} {body : List Stmt} (h : ∀ Q', EndsQ Q Q' → wpAny M A (assign target env v) (fun _ s₂ => wpN M A (execs body env) Q' E s₂) E s) : wpAny M A (assign target env v) (fun _ s₂ => wpN M A (execs body env) Q E s₂) E s := h Q fun _ _ x => x
end
section
variable {prog : Program} {w : World} {p : Program} {loose : List Str} {mean : ExcName → Option Value} {mg mb : Str → Option Value} {A₀ : Around} {base h₀ h : Heap} {outer : List Env} {env : Env} {L : Addr} {NE : List (Addr × Obj) → Prop} {G : Array GenState} {D : Drawn} {O : OsState} {cls : Value} {s : Shared} {Q : Flow → Shared → Prop} {t : Sem Flow} {E : Value → Shared → Prop}
theorem absFN (C : Cx (KH w.params) p loose mean mg mb A₀ base h₀ outer) (hf : env.frame = some L) (hk : env.scope.kind = .function)
    (h : ∀ Q' E', EndsQ Q Q' → (∀ e s, Flew base h₀ env outer L cls NE G D O e s → E' e s) → PassesOwn (model prog w) (A₀.deeper env) env E' → wpN (model prog w) (A₀.deeper env) t Q' E' s) :
    wpN (model prog w) (A₀.deeper env) t Q (Flew base h₀ env outer L cls NE G D O) s := h _ _ (fun _ _ x => x) (fun _ _ x => x) (Flew.passes C hf hk)
end

namespace BA
theorem mro : mroOf (.type "bytearray") = pure [.type "bytearray", .type "object"] := by rw [mroOf_type]; kernel_rfl
theorem lookup_new : typeLookup (.type "bytearray") "__new__" = pure (some (.builtin "bytearray.__new__")) := by rw [typeLookup_type, builtinLookup_eq_fast]; kernel_rfl
theorem slot_init : Slot "bytearray" "__init__" "bytearray.__init__" :=
  .of (owner := "bytearray") (n := "__init__") (by rw [typeLookup_type, builtinLookup_eq_fast]; kernel_rfl) (by decide +kernel) (by decide +kernel) (by decide +kernel)
    (by first | exact .inl (by decide +kernel) | exact .inr (by decide +kernel)) (by rw [isSubtype_type]; kernel_rfl)
theorem slot_append : Slot "bytearray" "append" "bytearray.append" :=
  .of (owner := "bytearray") (n := "append") (by rw [typeLookup_type, builtinLookup_eq_fast]; kernel_rfl) (by decide +kernel) (by decide +kernel) (by decide +kernel)
    (by first | exact .inl (by decide +kernel) | exact .inr (by decide +kernel)) (by rw [isSubtype_type]; kernel_rfl)
theorem slot_extend : Slot "bytearray" "extend" "bytearray.extend" :=
  .of (owner := "bytearray") (n := "extend") (by rw [typeLookup_type, builtinLookup_eq_fast]; kernel_rfl) (by decide +kernel) (by decide +kernel) (by decide +kernel)
    (by first | exact .inl (by decide +kernel) | exact .inr (by decide +kernel)) (by rw [isSubtype_type]; kernel_rfl)
theorem called : TypeCalled "bytearray" "bytearray.__new__" "bytearray.__init__" :=
  ⟨by decide +kernel, by decide +kernel, ⟨_, _, mro⟩, madeBy_type mro lookup_new (by decide +kernel), by decide +kernel, by rw [isSubtype_type]; kernel_rfl, slot_init⟩
theorem typeCall : checkTypeCall "bytearray" ⟨[], []⟩ = pure () := by kernel_rfl
theorem newCall : checkBuiltinCall "bytearray.__new__" ⟨[.type "bytearray"], []⟩ = pure () := by kernel_rfl
theorem entry_new : entryFor table "bytearray.__new__" = some Builtin.«list.__new__» := entryFor_alias (id' := "list.__new__") (by kernel_rfl) (by first | rfl | decide +kernel) (by decide +kernel) (by kernel_rfl)
theorem entry_init : entryFor table "bytearray.__init__" = some Builtin.«bytearray.__init__» := by first | exact entryFor_of_fast (by kernel_rfl) | exact entryFor_of_tree (by kernel_rfl)
theorem entry_append : entryFor table "bytearray.append" = some Builtin.«bytearray.append» := by first | exact entryFor_of_fast (by kernel_rfl) | exact entryFor_of_tree (by kernel_rfl)
theorem entry_extend : entryFor table "bytearray.extend" = some Builtin.«bytearray.extend» := by first | exact entryFor_of_fast (by kernel_rfl) | exact entryFor_of_tree (by kernel_rfl)
theorem plain_new : plainId "bytearray.__new__" = true := by decide +kernel
theorem owner : Manifest.owners.lookup (String.ofList ['y','a','r','r','a','e','t','y','b'].reverse) = some Manifest.sig_bytearray := by kernel_rfl
theorem args_init (a : Value) : argsOk "bytearray.__init__" ⟨[a], []⟩ := by
  unfold argsOk; rw [signature?_of (id := "bytearray.__init__") (n := ['_', '_', 't', 'i', 'n', 'i', '_', '_']) (o := ['y','a','r','r','a','e','t','y','b']) (by kernel_rfl) owner]; kernel_rfl
theorem args_append (a b : Value) : argsOk "bytearray.append" ⟨[a, b], []⟩ := by
  unfold argsOk; rw [signature?_of (id := "bytearray.append") (n := ['d','n','e','p','p','a']) (o := ['y','a','r','r','a','e','t','y','b']) (by kernel_rfl) owner]; kernel_rfl
theorem args_extend (a b : Value) : argsOk "bytearray.extend" ⟨[a, b], []⟩ := by
  unfold argsOk; rw [signature?_of (id := "bytearray.extend") (n := ['d','n','e','t','x','e']) (o := ['y','a','r','r','a','e','t','y','b']) (by kernel_rfl) owner]; kernel_rfl
theorem plainAttrs : PlainAttrs "bytearray" := ⟨⟨"bytearray.__getattribute__", by rw [typeLookup_type, builtinLookup_eq_fast]; kernel_rfl, by decide +kernel⟩, by rw [typeLookup_type, builtinLookup_eq_fast]; kernel_rfl⟩
theorem type_append : typeOf (.builtin "bytearray.append") = pure (.type "method_descriptor") := by kernel_rfl
theorem type_extend : typeOf (.builtin "bytearray.extend") = pure (.type "method_descriptor") := by kernel_rfl
theorem sub_self : isSubtype (.type "bytearray") (.type "bytearray") = pure true := by rw [isSubtype_type]; kernel_rfl
theorem owner_new : ("bytearray.__new__".splitOn ".__new__").headD "" = "bytearray" := by simp +decide [String.splitOn, String.splitOnAux]
theorem nc_new {a : List Value} : NC (.builtin "bytearray.__new__" ⟨a, []⟩) := nc_of (fun _ _ _ => rfl) (fun _ _ _ _ _ => rfl)
theorem nc_init {a : List Value} : NC (.builtin "bytearray.__init__" ⟨a, []⟩) := nc_of (fun _ _ _ => rfl) (fun _ _ _ _ _ => rfl)
theorem nc_append {a : List Value} : NC (.builtin "bytearray.append" ⟨a, []⟩) := nc_of (fun _ _ _ => rfl) (fun _ _ _ _ _ => rfl)
theorem nc_extend {a : List Value} : NC (.builtin "bytearray.extend" ⟨a, []⟩) := nc_of (fun _ _ _ => rfl) (fun _ _ _ _ _ => rfl)
theorem nc_type {a : List Value} : NC (.builtin "type.__call__" ⟨a, []⟩) := nc_of (fun _ _ _ => rfl) (fun _ _ _ _ _ => rfl)
theorem init_bind : Builtin.Bytes.bindOptional "bytearray.__init__" "bytearray" ["source", "encoding", "errors"] [] [] = pure [none, none, none] := by kernel_rfl
end BA

abbrev baO (b : List UInt8) : Obj := { cls := .type "bytearray", data := .bytearray b.toArray 0 }
section
variable {prog : Program} {w : World} {A : Around} {E : Value → Shared → Prop} {s : Shared} {R : Result → Shared → Prop} {Q : Value → Shared → Prop}
theorem codeN_builtin0 {id : String} {args : List Value} {b : Builtin} (hb : entryFor table id = some b) (nc : NC (.builtin id ⟨args, []⟩))
    (h : wpN (model prog w) (A.under (.builtin id ⟨args, []⟩)) (b ⟨args, []⟩) (fun fin s' => match fin with | .done f => R (.ok f) s' | .again c' => c'.quiet = true ∧ codeN (model prog w) A c' R s') (fun e s' => R (.error e) s') s) :
    codeN (model prog w) A (.builtin id ⟨args, []⟩) R s := by
  refine codeN.of_tree nc ?_
  show wpN _ _ (match entryFor table id with | some b => b ⟨args, []⟩ | none => unsupported ((withoutEnding? id "#data").getD id)) _ _ s
  rw [hb]
  exact h
theorem codeN_builtin {id : String} {args : List Value} {b : Builtin} (hb : entryFor table id = some b) (hp : plainId id = true) (nc : NC (.builtin id ⟨args, []⟩))
    (h : wpN (model prog w) A.in1 (b ⟨args, []⟩) (fun fin s' => match fin with | .done f => R (.ok f) s' | .again c' => c'.quiet = true ∧ codeN (model prog w) A c' R s') (fun e s' => R (.error e) s') s) :
    codeN (model prog w) A (.builtin id ⟨args, []⟩) R s := codeN_builtin0 hb nc (by rw [Around.under_plainId hp _]; exact h)
theorem codeN_callb {T id : String} {name : Str} {b : Builtin} {self : Value} {rest : List Value} (slot : Slot T name id) (hT : s.TypeIs self T) (hb : entryFor table id = some b) (nc : NC (.builtin id ⟨self :: rest, []⟩)) (ha : argsOk id ⟨self :: rest, []⟩)
    (h : wpN (model prog w) A.in1 (b ⟨self :: rest, []⟩) (fun fin s' => match fin with | .done f => R (.ok f) s' | .again c' => c'.quiet = true ∧ codeN (model prog w) A c' R s') (fun e s' => R (.error e) s') s) :
    codeN (model prog w) A (.call (.builtin id) ⟨self :: rest, []⟩) R s := by
  refine codeN.of_tree nc_call (wpN.of ?_)
  show wpAny _ A.in1 (do checkBuiltinCall id ⟨self :: rest, []⟩; again (.builtin id ⟨self :: rest, []⟩)) _ _ s
  exact wpAny_bind (slot.check _ _ _ _ _ _ _ _ hT ha (wpAny_pure ⟨plainId_quiet slot.plain _, codeN_builtin hb slot.plain nc h⟩))
end
section
variable {prog : Program} {w : World} {A : Around} {E : Value → Shared → Prop} {Q : Value → Shared → Prop} {h : Heap} {G : Array GenState} {D : Drawn} {t : Nat} {O : OsState}
theorem ba_size {a : Addr} {b : Array UInt8} {k : Nat} {f : Array UInt8 → Array UInt8} {Q : Unit → Shared → Prop} (ha : h.get? a = some { cls := .type "bytearray", data := .bytearray b k }) (hz : (f b).size ≤ 100000)
    (hq : Q () ⟨h.update a (Obj.mapBytearray f), G, D, t, O⟩) : wpAny (model prog w) A (Builtin.Bytes.write (.ref a) f) Q E ⟨h, G, D, t, O⟩ := by
  show wpAny _ _ (updateBytearray a f) _ _ _
  unfold updateBytearray
  refine wpAny_bind (wpAny_load (s := ⟨h, G, D, t, O⟩) ha (wpAny_bind (wpAny_update (s := ⟨h, G, D, t, O⟩) ha ?_)))
  have e := Heap.get?_update_self (Obj.mapBytearray f) ha rfl
  refine wpAny_lookBehind (s := ⟨_, G, D, t, O⟩) e ?_ hq
  show Data.pastItsLine (.bytearray (f b) k) = none
  unfold Data.pastItsLine
  simp only
  rw [if_neg (by rw [sizeLine_eq]; omega)]

theorem n_resize {M : Model} {s : Shared} {a : Addr} {b : Array UInt8} {Q : Unit → Shared → Prop} (ha : s.heap.get? a = some { cls := .type "bytearray", data := .bytearray b 0 }) (hq : Q () s) : wpN M A (Builtin.Bytes.checkResize (.ref a)) Q E s := by
  unfold Builtin.Bytes.checkResize
  refine wpN.bind ?_
  show wpN _ _ (Builtin.Bytes.exported (.ref a) >>= _) _ _ _
  refine wpN.bind (wpN.exported ?_)
  show wpN _ _ (Builtin.Bytes.exportsOf (.ref a) >>= _) _ _ _
  unfold Builtin.Bytes.exportsOf
  refine wpN.of (wpAny_bind (wpAny_bind (wpAny_load ha (wpAny_pure (wpAny_pure ?_)))))
  simp only [gt_iff_lt, Nat.lt_irrefl, decide_false, Bool.false_eq_true, if_false]
  exact wpN.pure hq
theorem n_init {s : Shared} {a : Addr} {Q : PySem.Fin → Shared → Prop} (ha : s.heap.get? a = some { cls := .type "bytearray", data := .bytearray #[] 0 })
    (hq : ∀ h', h'.get? a = some (baO []) → (∀ c o, c ≠ a → s.heap.get? c = some o → h'.get? c = some o) → Q (.done (.ret .none)) { s with heap := h' }) :
    wpN (model prog w) A (Builtin.«bytearray.__init__» ⟨[.ref a], []⟩) Q E s := by
  have hT : s.TypeIs (.ref a) "bytearray" := ⟨_, ha, rfl⟩
  unfold Builtin.«bytearray.__init__»
  dsimp only
  unfold Builtin.Bytes.ownRelease
  refine wpN.bind (wpN.of (wpAny_bind (own_slot hT ba_release (by decide +kernel) (by decide +kernel) (wpAny_pure ?_))))
  simp only [Bool.not_true, Bool.false_eq_true, if_false]
  refine wpN.bind (wpN.of (wpAny_of_eq BA.init_bind ?_))
  dsimp only
  refine wpN.bind (wpN.of (wpAny_of_eq (a := ()) rfl ?_))
  refine wpN.bind (wpN.of (wpAny_of_eq (a := ()) rfl ?_))
  refine wpN.bind ?_
  show wpN _ _ (Builtin.Bytes.exported (.ref a) >>= _) _ _ _
  refine wpN.bind (wpN.exported ?_)
  show wpN _ _ (Builtin.Bytes.exportsOf (.ref a) >>= _) _ _ _
  unfold Builtin.Bytes.exportsOf
  refine wpN.of (wpAny_bind (wpAny_bind (wpAny_load ha (wpAny_pure (wpAny_pure ?_)))))
  simp only [gt_iff_lt, Nat.lt_irrefl, decide_false, Bool.false_eq_true, if_false]
  obtain ⟨h, G, D, t, O⟩ := s
  refine wpN.bind (wpN.of (ba_size ha (by simp) ?_))
  refine wpN.bind (wpN.of (wpAny_of_eq (a := ()) rfl (wpN.of (wpAny_pure ?_))))
  refine hq _ ?_ (fun c o hc e => (Heap.get?_update_other _ _ (Ne.symm hc)).trans e)
  rw [Heap.get?_update_self _ ha rfl]
  simp [Obj.mapBytearray]
theorem code_ba_new {Q₁ : Value → Shared → Prop} {s : Shared}
    (h : Q₁ (.ref s.heap.objs.size) { s with heap := s.heap.push { cls := .type "bytearray", data := .bytearray #[] } }) :
    codeAny (model prog w) A (.call (.builtin "bytearray.__new__") ⟨[.type "bytearray"], []⟩) (wants Q₁ E) s := by
  refine codeAny_of_tree ?_
  show wpAny _ A.in1 (do checkBuiltinCall "bytearray.__new__" ⟨[.type "bytearray"], []⟩; again (.builtin "bytearray.__new__" ⟨[.type "bytearray"], []⟩)) _ _ s
  refine wpAny_bind (wpAny_of_eq BA.newCall (wpAny_pure ⟨plainId_quiet BA.plain_new _, codeAny_builtin_stack BA.entry_new rfl fun p st => ?_⟩))
  rw [Around.under_plainId BA.plain_new _]
  have hsub := BA.sub_self
  have hown := BA.owner_new
  obtain ⟨hp, g, d, tk, os⟩ := s
  simp only [hown]
  wp_walk
  exact h
/-- bytearray() -/
theorem n_barr {s : Shared} (hq : ∀ h' t', h'.get? s.heap.objs.size = some (baO []) → (∀ b o, b ≠ s.heap.objs.size → s.heap.get? b = some o → h'.get? b = some o) → Q (.ref s.heap.objs.size) { s with heap := h', toks := t' }) : wpN (model prog w) A (call (.type "bytearray") []) Q E s := by
  obtain ⟨h, G, D, t, O⟩ := s
  refine wpN.call (codeN.of_tree nc_call (wpN.of ?_))
  show wpAny _ _ (callAny (.type "bytearray") _) _ _ _
  refine wpAny_pure ⟨Code.quiet_builtin _ (by decide +kernel), ?_⟩
  refine codeN_builtin0 F.entry_type_call BA.nc_type ?_
  rw [Around.under_plain (weight_type_call_type "bytearray" [] []) rfl]
  have h1 := BA.called.notType
  have h2 := BA.called.canCreate
  have h3 := BA.mro
  unfold Builtin.«type.__call__»
  simp only [h1, h2, Bool.false_eq_true, if_false, BA.typeCall, pure_bind]
  refine wpN.bind (wpN.of (wpAny_of_eq BA.mro ?_))
  simp only [List.isEmpty_cons, Bool.false_eq_true, if_false]
  refine wpN.bind (wpN.of (wpAny_of_eq BA.called.made ?_))
  simp only [pure_bind]
  have hnew : wpAny (model prog w) A.in1 (call (.builtin "bytearray.__new__") [.type "bytearray"] []) (fun v s => v = .ref h.objs.size ∧ s = ⟨h.push { cls := .type "bytearray", data := .bytearray #[] }, G, D, t, O⟩) E ⟨h, G, D, t, O⟩ :=
    wpAny_call (code_ba_new ⟨rfl, rfl⟩)
  refine wpN.bind (wpN.holding (wpN.of (wpAny_mono hnew (fun v s' hv => ?_) fun _ _ x => x)))
  obtain ⟨rfl, rfl⟩ := hv
  have ha : (h.push { cls := .type "bytearray", data := .bytearray #[] }).get? h.objs.size = some { cls := .type "bytearray", data := .bytearray #[] 0 } := Heap.get?_push_size _ rfl
  have hT : Shared.TypeIs ⟨h.push { cls := .type "bytearray", data := .bytearray #[] }, G, D, t, O⟩ (.ref h.objs.size) "bytearray" := ⟨_, ha, rfl⟩
  refine wpN.bind (wpN.of (wpAny_isInstance hT BA.sub_self ?_))
  simp only [Bool.not_true, Bool.false_eq_true, if_false]
  refine wpN.bind (wpN.holding ?_)
  unfold callSpecial?
  refine wpN.bind (wpN.of (wpAny_specialOf hT BA.slot_init.lookup ?_))
  refine wpN.holding (wpN.bind (wpN.of (wpAny_of_eq (BA.slot_init.bind _) ?_)))
  refine wpN.bind (wpN.call (codeN_callb BA.slot_init hT BA.entry_init BA.nc_init (BA.args_init _) ?_))
  refine n_init (s := ⟨_, G, D, t, O⟩) ha (fun h' e1 e2 => ?_)
  refine wpN.pure ?_
  refine wpN.of (wpAny_pure ?_)
  exact hq h' t e1 fun b o hb e => e2 b o hb (Heap.get?_push_of_some _ e)
/-- x.append(int) of a bytearray -/
theorem n_append {s : Shared} {a : Addr} {b : List UInt8} {i : Int} {u : Tok} (ha : s.heap.get? a = some (baO b)) (h0 : 0 ≤ i) (h1 : i ≤ 255) (hz : b.length ≤ 10000)
    (hq : ∀ h', h'.get? a = some (baO (b ++ [i.toNat.toUInt8])) → (∀ c o, c ≠ a → s.heap.get? c = some o → h'.get? c = some o) → Q .none { s with heap := h' }) :
    wpN (model prog w) A (call (.builtin "bytearray.append") [.ref a, .int i u]) Q E s := by
  have hT : s.TypeIs (.ref a) "bytearray" := ⟨_, ha, rfl⟩
  refine wpN.call (codeN_callb BA.slot_append hT BA.entry_append BA.nc_append (BA.args_append _ _) ?_)
  unfold Builtin.«bytearray.append»
  refine wpN.bind (wpN.of (wpAny_of_eq (a := (.ref a, .int i u)) rfl ?_))
  have hb : Builtin.Bytes.byteValue (.int i u) = pure i.toNat.toUInt8 := by
    unfold Builtin.Bytes.byteValue
    rw [show asIndex (.int i u) = pure i from rfl]
    simp only [pure_bind]
    rw [decide_eq_false (by omega : ¬ i < 0), decide_eq_false (by omega : ¬ i ≥ 256)]
    rfl
  dsimp only
  refine wpN.bind (wpN.of (wpAny_of_eq hb ?_))
  refine wpN.bind (n_resize ha ?_)
  obtain ⟨h, G, D, t, O⟩ := s
  refine wpN.bind (wpN.of (ba_size ha (by rw [Array.size_push, List.size_toArray]; omega) (wpN.of (wpAny_pure ?_))))
  refine hq _ ?_ (fun c o hc e => (Heap.get?_update_other _ _ (Ne.symm hc)).trans e)
  rw [Heap.get?_update_self _ ha rfl]
  simp [Obj.mapBytearray]
theorem take_eq {b : Array UInt8} {t : Tok} {id : String} : Builtin.Bytes.takeBufferQuiet? id (.bytes b t) 0 = pure (some (b, none)) := by
  unfold Builtin.Bytes.takeBufferQuiet? Builtin.Bytes.takeBuffer?
  rw [KBy.special_eq KBy.look_buffer, KBy.own_buffer]
  rw [show ((0 : Int) == Builtin.Bytes.fullReadOnly) = false from by decide]
  simp only [pure_bind, Bool.not_true, Bool.false_eq_true, if_false]
  rw [KBy.buffer_eq]
  rfl
/-- x.extend(bytes) of a bytearray -/
theorem n_extend {s : Shared} {a : Addr} {b c : List UInt8} {u : Tok} (ha : s.heap.get? a = some (baO b)) (hz : b.length + c.length ≤ 10000)
    (hq : ∀ h', h'.get? a = some (baO (b ++ c)) → (∀ c o, c ≠ a → s.heap.get? c = some o → h'.get? c = some o) → Q .none { s with heap := h' }) :
    wpN (model prog w) A (call (.builtin "bytearray.extend") [.ref a, .bytes c.toArray u]) Q E s := by
  have hT : s.TypeIs (.ref a) "bytearray" := ⟨_, ha, rfl⟩
  have hTb : s.TypeIs (.bytes c.toArray u) "bytes" := PySem.W.typeIs_bytes _ _ _
  refine wpN.call (codeN_callb BA.slot_extend hT BA.entry_extend BA.nc_extend (BA.args_extend _ _) ?_)
  unfold Builtin.«bytearray.extend»
  refine wpN.bind (wpN.of (wpAny_of_eq (a := (.ref a, .bytes c.toArray u)) rfl ?_))
  dsimp only
  refine wpN.bind (wpN.of (wpAny_specialOf hTb KBy.look_buffer ?_))
  simp only [Option.isSome_some, if_true]
  refine wpN.bind (wpN.of (wpAny_rule ?_))
  refine wpN.bind (wpN.of ?_)
  unfold Builtin.Bytes.payload Builtin.Bytes.payload?
  refine wpAny_bind (wpAny_bind (wpAny_load ha (wpAny_pure (wpAny_pure ?_))))
  refine wpN.bind (wpN.of (wpAny_of_eq take_eq ?_))
  dsimp only
  show wpN _ _ (do if !c.toArray.isEmpty then Builtin.Bytes.checkResize (.ref a)
                   Builtin.Bytes.write (.ref a) (· ++ c.toArray)
                   ret .none) _ _ _
  have fin : wpN (model prog w) A.in1 (do
                   Builtin.Bytes.write (.ref a) (· ++ c.toArray)
                   ret .none) (fun fin s' => match fin with | .done f => (match (Except.ok f : Result) with | .ok (.ret v) => Q v s' | .ok _ => False | .error e => E e s') | .again c' => c'.quiet = true ∧ codeN (model prog w) A c' (fun r s' => match r with | .ok (.ret v) => Q v s' | .ok _ => False | .error e => E e s') s') (fun e s' => E e s') s := by
    obtain ⟨h, G, D, t, O⟩ := s
    refine wpN.bind (wpN.of (ba_size ha (by rw [Array.size_append, List.size_toArray, List.size_toArray]; omega) (wpN.of (wpAny_pure ?_))))
    refine hq _ ?_ (fun c o hc e => (Heap.get?_update_other _ _ (Ne.symm hc)).trans e)
    rw [Heap.get?_update_self _ ha rfl]
    simp [Obj.mapBytearray]
  cases hc : (!c.toArray.isEmpty) with
  | false => exact fin
  | true => exact wpN.bind (n_resize ha fin)
end

section
variable {prog : Program} {w : World} {A : Around} {E : Value → Shared → Prop} {env : Env} {pos : Pos} {target : Expr} {body rest : List Stmt} {Q : Flow → Shared → Prop} {h₀ h : Heap} {L : Addr} {m : Str → Option Value} {tn imm : List (Addr × Obj)} {G : Array GenState} {D : Drawn} {t : Nat} {O : OsState} {s : Shared}
/-- a for's loop over an iterator -/
def ForKN (prog : Program) (w : World) (A : Around) (env : Env) (target : Expr) (body rest : List Stmt) (Q : Flow → Shared → Prop) (E : Value → Shared → Prop) (it : Value) (s : Shared) : Prop :=
  codeN (model prog w) A (.forLoop target it body [] env) (fun r s' => match r with | .ok f => thenC Q (fun s' => wpN (model prog w) A (execs rest env) Q E s') f s' | .error e => cameBackBy (model prog w) A env E e s') s
theorem rn_for {iter : Expr} (h : wpAny (model prog w) A (eval iter env) (KB (model prog w) A E pyIter (ForKN prog w A env target body rest Q E)) E s)
    (hs : ∀ x, foldedSetIterable iter env x = pure x) : wpN (model prog w) A (execs (.For target iter body [] pos :: rest) env) Q E s := by
  refine rn_cons ?_
  rw [exec_For]
  exact wpN.bind (wpN.standAt (wpN.bind (wpN.of (wpAny_mono h (fun x s₁ h₁ => wpN.bind (wpN.of (wpAny_of_eq (hs x) (wpN.bind (wpN.standAt (wpN.bind (wpN.holding
    (wpN.of (wpAny_mono h₁ (fun it s₂ h₂ => wpN.runOwn h₂) fun _ _ h' => h')))))))))  fun _ _ h' => h'))))
theorem loopWN {I : Addr} {oI : Obj} {fp : List Addr} {n : Nat} {P : Nat → Value → Prop} {Stt : Nat → Heap → Prop} {T : String} (W : Walks prog w A I fp [I] n P Stt) (hT : itPlain T)
    (hI : ∀ i h, Stt i h → ∃ o, h.get? I = some o ∧ o.cls = .type T) (J : Nat → (Str → Option Value) → List (Addr × Obj) → List (Addr × Obj) → Prop)
    (hfp : ∀ b ∈ fp, b ≠ I → ∃ o, ∀ i m tn imm, J i m tn imm → (b, o) ∈ tn ++ imm) (hE : PassesOwn (model prog w) A env E) (S : Sta h₀ L m ((I, oI) :: tn) imm h) (hst : Stt 0 h) (hj : J 0 m tn imm)
    (turn : ∀ i v oI m tn imm h t, i < n → P i v → J i m tn imm → Sta h₀ L m ((I, oI) :: tn) imm h →
      wpAny (model prog w) A (assign target env v) (fun _ s₂ => wpN (model prog w) A (execs body env) (LoopF (TurnEnd h₀ L G D O I oI (J (i + 1))) Q (fun s' => wpN (model prog w) A (execs rest env) Q E s')) E s₂) E ⟨h, G, D, t, O⟩)
    (done : ∀ m tn imm h t, J n m tn imm → Sta h₀ L m tn imm h → wpN (model prog w) A (execs rest env) Q E ⟨h, G, D, t, O⟩) :
    ForKN prog w A env target body rest Q E (.ref I) ⟨h, G, D, t, O⟩ := by
  refine codeN_for (fun k s' => ∃ h' tk m' tn' imm' oI' i, s' = ⟨h', G, D, tk, O⟩ ∧ Sta h₀ L m' ((I, oI') :: tn') imm' h' ∧ Stt i h' ∧ J i m' tn' imm' ∧ i ≤ n ∧ k = n + 1 - i) ?_ (n + 1) (exI7 ⟨rfl, S, hst, hj, Nat.zero_le _, rfl⟩)
  intro k s' hJ0
  refine exE7 hJ0 fun h' tk m' tn' imm' oI' i hz29 => ?_
  clear hJ0
  refine anE6 hz29 fun hz30 S' hst' hJ hi hz31 => ?_
  clear hz29
  subst hz30
  subst hz31
  by_cases hlt : i < n
  · refine W.item i ⟨h', G, D, tk, O⟩ _ _ hlt hst' fun v h₁ tk₁ hP hst₁ hk₁ => ?_
    have hio := hI _ _ hst₁
    refine exE1 hio fun o₁ hz32 => ?_
    clear hio
    refine anE2 hz32 fun ho₁ hc₁ => ?_
    clear hz32
    have S₁ := S'.turn (fun b o hb e => hk₁ b o (fun q => hb (List.mem_singleton.mp q)) e) ho₁
    refine letGo_plain ho₁ hc₁ hT ?_
    refine wpAny_mono (turn i v o₁ m' tn' imm' h₁ tk₁ hlt hP hJ S₁) (fun _ s₂ h₂ => wpN.mono h₂ (fun f s₃ h₃ => ?_) hE) hE
    have fin : TurnEnd h₀ L G D O I o₁ (J (i + 1)) s₃ → ∃ k', k' < n + 1 - i ∧ ∃ h' tk m' tn' imm' oI' i', s₃ = ⟨h', G, D, tk, O⟩ ∧ Sta h₀ L m' ((I, oI') :: tn') imm' h' ∧ Stt i' h' ∧ J i' m' tn' imm' ∧ i' ≤ n ∧ k' = n + 1 - i' := by
      intro hJ0
      refine exE5 hJ0 fun h₂' tk₂ m₂ tn₂ imm₂ hz33 => ?_
      clear hJ0
      refine anE3 hz33 fun hz34 S₂ J₂ => ?_
      clear hz33
      subst hz34
      refine ⟨n + 1 - (i + 1), Nat.sub_succ_lt_self _ _ (Nat.lt_succ_of_lt hlt), exI7 ⟨rfl, S₂, ?_, J₂, hlt, rfl⟩⟩
      exact W.frame _ _ _ hst₁ (S₁.fpKeep S₂ (.head _) (.head _) fun b hb q => (hfp b hb q).imp fun o h => ⟨.tail _ (h _ _ _ _ hJ), .tail _ (h _ _ _ _ J₂)⟩)
    cases f with
    | next => exact fin h₃
    | cont => exact fin h₃
    | brk => exact h₃
    | ret v => exact h₃
  · have hin : i = n := by omega
    subst hin
    refine W.done ⟨h', G, D, tk, O⟩ _ _ hst' fun h₁ tk₁ hk₁ => rn_nil ?_
    refine done m' tn' imm' h₁ tk₁ hJ ?_
    exact S'.dropTurn hk₁
/-- over a tuple -/
theorem loop_tupleN {l : Addr} {vs : List Value} (hh : A.handled = none) (J : Nat → (Str → Option Value) → List (Addr × Obj) → List (Addr × Obj) → Prop) {o : Obj} (ho : o.cls = .type "tuple") {k : Nat} (hd : o.data = .seq vs.toArray k) (hl : ∀ i m tn imm, J i m tn imm → (l, o) ∈ tn ++ imm)
    (hE : PassesOwn (model prog w) A env E) (S : Sta h₀ L m tn imm h) (hj : J 0 m tn imm)
    (turn : ∀ i v I oI m tn imm h t, vs[i]? = some v → J i m tn imm → Sta h₀ L m ((I, oI) :: tn) imm h →
      wpAny (model prog w) A (assign target env v) (fun _ s₂ => wpN (model prog w) A (execs body env) (LoopF (TurnEnd h₀ L G D O I oI (J (i + 1))) Q (fun s' => wpN (model prog w) A (execs rest env) Q E s')) E s₂) E ⟨h, G, D, t, O⟩)
    (done : ∀ m tn imm h t, J vs.length m tn imm → Sta h₀ L m tn imm h → wpN (model prog w) A (execs rest env) Q E ⟨h, G, D, t, O⟩) :
    wpAny (model prog w) A (pyIter (.ref l)) (ForKN prog w A env target body rest Q E) E ⟨h, G, D, t, O⟩ := by
  have hlo := S.get (hl _ _ _ _ hj)
  have hlt : (l, o) ∈ tn ++ imm := hl _ _ _ _ hj
  have hne : l ≠ h.objs.size := Nat.ne_of_lt (S.lt _ hlt)
  have hls : h.IsTuple l vs.toArray := ⟨o, hlo, ho, k, hd⟩
  have W : Walks prog w A h.objs.size [h.objs.size, l] [h.objs.size] vs.length (fun i v => vs[i]? = some v) (fun i h' => h'.IsTupleIter h.objs.size l i ∧ h'.IsTuple l vs.toArray) := by
    have := Walks.tuple (prog := prog) (w := w) hh h.objs.size l hne vs.toArray
    simpa using this
  refine wpAny_pyIter_tuple (s := ⟨h, G, D, t, O⟩) hls ?_
  have S1 := S.newMut { cls := .type "tuple_iterator", data := .fields #[.ref l, .int 0 0] }
  refine loopWN (n := vs.length) (P := fun i v => vs[i]? = some v) (T := "tuple_iterator") W plain_ti (fun i h st => by obtain ⟨o, a, b, _⟩ := st.1; exact ⟨o, a, b⟩) J (fun b hb hbI => ?_) hE S1 ⟨⟨_, S1.get (.head _), rfl, rfl⟩, ⟨o, Heap.get?_push_of_some _ hlo, ho, k, hd⟩⟩ hj (fun i v oI m tn imm h t hi hP hJ S => turn i v _ oI m tn imm h t hP hJ S) done
  rcases List.mem_cons.mp hb with rfl | hb
  · exact absurd rfl hbI
  · obtain rfl := List.mem_singleton.mp hb
    exact ⟨o, hl⟩
/-- over a list that stands -/
theorem loop_listN {l : Addr} {vs : List Value} (hh : A.handled = none) (J : Nat → (Str → Option Value) → List (Addr × Obj) → List (Addr × Obj) → Prop) {o : Obj} (ho : o.cls = .type "list") {k : Nat} (hd : o.data = .seq vs.toArray k) (hl : ∀ i m tn imm, J i m tn imm → (l, o) ∈ tn ++ imm)
    (hE : PassesOwn (model prog w) A env E) (S : Sta h₀ L m tn imm h) (hj : J 0 m tn imm)
    (turn : ∀ i v I oI m tn imm h t, vs[i]? = some v → J i m tn imm → Sta h₀ L m ((I, oI) :: tn) imm h →
      wpAny (model prog w) A (assign target env v) (fun _ s₂ => wpN (model prog w) A (execs body env) (LoopF (TurnEnd h₀ L G D O I oI (J (i + 1))) Q (fun s' => wpN (model prog w) A (execs rest env) Q E s')) E s₂) E ⟨h, G, D, t, O⟩)
    (done : ∀ m tn imm h t, J vs.length m tn imm → Sta h₀ L m tn imm h → wpN (model prog w) A (execs rest env) Q E ⟨h, G, D, t, O⟩) :
    wpAny (model prog w) A (pyIter (.ref l)) (ForKN prog w A env target body rest Q E) E ⟨h, G, D, t, O⟩ := by
  have hlo := S.get (hl _ _ _ _ hj)
  have hlt : (l, o) ∈ tn ++ imm := hl _ _ _ _ hj
  have hne : l ≠ h.objs.size := Nat.ne_of_lt (S.lt _ hlt)
  have hls : h.IsList l vs.toArray := ⟨o, hlo, ho, k, hd⟩
  have W : Walks prog w A h.objs.size [h.objs.size, l] [h.objs.size] vs.length (fun i v => vs[i]? = some v) (fun i h' => h'.IsListIter h.objs.size l i ∧ h'.IsList l vs.toArray) := by
    have := Walks.list (prog := prog) (w := w) hh h.objs.size l hne vs.toArray
    simpa using this
  refine wpAny_pyIter_list (s := ⟨h, G, D, t, O⟩) hls ?_
  have S1 := S.newMut { cls := .type "list_iterator", data := .fields #[.ref l, .int 0 0] }
  refine loopWN (n := vs.length) (P := fun i v => vs[i]? = some v) (T := "list_iterator") W plain_li (fun i h st => by obtain ⟨o, a, b, _⟩ := st.1; exact ⟨o, a, b⟩) J (fun b hb hbI => ?_) hE S1 ⟨⟨_, S1.get (.head _), rfl, rfl⟩, hls.at fun o e => Heap.get?_push_of_some _ e⟩ hj (fun i v oI m tn imm h t hi hP hJ S => turn i v _ oI m tn imm h t hP hJ S) done
  rcases List.mem_cons.mp hb with rfl | hb
  · exact absurd rfl hbI
  · obtain rfl := List.mem_singleton.mp hb
    exact ⟨o, hl⟩
end
section
variable {prog : Program} {w : World} {p : Program} {loose : List Str} {mean : ExcName → Option Value} {mg mb : Str → Option Value} {A A₀ : Around} {base h₀ h : Heap} {outer : List Env} {env : Env} {L : Addr} {m : Str → Option Value} {tn imm : List (Addr × Obj)} {NE : List (Addr × Obj) → Prop} {n : Nat} {G : Array GenState} {D : Drawn} {t : Nat} {O : OsState}
  {Q E : Value → Shared → Prop} {R : Result → Shared → Prop} {name qual : Str} {params : Arguments} {body : List Stmt} {scope : Scope} {cl : List (Str × Addr)} {dV kV doc pm cdv ct oc cls : Value} {an od : Option Addr} {osl : Array (Option Value)} {f : Addr} {args : List Value} {binds : List (Str × Value)}
theorem callN_plain (B : Below A₀ base outer h₀) (F : Fr h₀ L h m) {news : List (Addr × Obj)} (N : News h₀ L h news) (hlim : h₀.NoLimit) (hA : A.frames = some (env :: outer)) (hf : env.frame = some L) (hke : env.scope.kind = .function) {fo : Obj}
    (ho : h.get? f = some fo) (hd : fo.data = .func (fnX name qual params body scope cl dV kV doc pm an cdv ct)) (hcd : h.CodeRec cdv qual) (hroom : A.depth < recursionLimit)
    (hbind : BindsTo ⟨h, G, D, t, O⟩ (fnX name qual params body scope cl dV kV doc pm an cdv ct) ⟨args, []⟩ binds) (hloc : ∀ y ∈ binds, scope.names.lookup y.1 = some .local)
    (hb : ∀ g L' h₁, Fr h₀ L g m → Fr g L' h₁ (fun y => binds.reverse.lookup y) → News g L' h₁ news → Below A base (env :: outer) g → h₀.StaysIn g → (∀ p ∈ news, p.1 < L') →
      wpN (model prog w) (A.deeper (envX qual scope L' f cdv cl)) (execs body (envX qual scope L' f cdv cl))
        (fun fl s' => LeaveK h₀ L m g R (match fl with | .ret v => v | _ => .none) s')
        (fun e s' => wpAny (model prog w) (A.deeper (envX qual scope L' f cdv cl)) (leaving (envX qual scope L' f cdv cl) e) (fun _ s'' => R (.error e) s'') (fun e' s'' => R (.error e') s'') s')
        ⟨h₁, G, D, t + binds.length, O⟩)
    (hcell : ∀ x ∈ scope.names, x.2 ≠ .cell) (hco : scope.isCoroutine = false) (hgen : scope.isGenerator = false) (hk : scope.kind = .function) : codeN (model prog w) A (.call (.ref f) ⟨args, []⟩) R ⟨h, G, D, t, O⟩ := by
  obtain ⟨FG, BG, st, lv⟩ := groundX (s := ⟨h, G, D, t, O⟩) (R := R) B F N hA hf hke
  refine codeN_call_function (fd := fnX name qual params body scope cl dV kV doc pm an cdv ct) (body := body) hroom ho hd hco hgen rfl hcd (hbind _ _ _ _ ?_)
  refine wpAny_newFunctionEnv hcell hloc (fun h₁ hns hsb => ⟨(hlim.keeps F.keep).fresh _ hsb, codeN_func ?_⟩) hk
  have hk₁ : ∀ b o, h.get? b = some o → h₁.get? b = some o := fun b o e => hsb.extBut b o (Nat.ne_of_lt (Heap.lt_size e)) (Heap.get?_push_of_some _ e)
  exact wpN.mono (hb _ h.objs.size h₁ FG ⟨hns, fun b o e => hk₁ b o (of_hideAll _ e), Nat.le_of_eq (hideAll_size _ _)⟩
    (fun p hp => ⟨hk₁ _ _ (N p hp).1, Nat.ne_of_lt (Heap.lt_size (N p hp).1), hideAll_none _ (List.mem_map_of_mem hp)⟩) BG st (fun p hp => Heap.lt_size (N p hp).1)) (fun fl s' hl => lv _ _ hl) fun _ _ y => y
/-- a def called -/
theorem codeAN (C : Cx (KH w.params) p loose mean mg mb A₀ base h₀ outer) (S : Sta h₀ L m tn imm h) (hf : env.frame = some L) (hke : env.scope.kind = .function) (hA : A.frames = some (env :: outer)) (hR : Room A (n + 1)) {fo : Obj}
    (ho : h.get? f = some fo) (hd : fo.data = .func (fnX name qual params body scope cl dV kV doc pm an cdv ct)) (hcd : codeIn (KH w.params) cdv qual = true)
    (hbind : bindArgs (fnX name qual params body scope cl dV kV doc pm an cdv ct) ⟨args, []⟩ = pure binds) (hloc : ∀ y ∈ binds, scope.names.lookup y.1 = some .local)
    (hcell : ∀ x ∈ scope.names, x.2 ≠ .cell) (hco : scope.isCoroutine = false) (hgen : scope.isGenerator = false) (hk : scope.kind = .function)
    (hE : ∀ e h' tk news', NE news' → Thrown base h₀ env outer L cls news' e h' → R (.error e) ⟨h', G, D, tk, O⟩)
    (hb : ∀ g L' h₁ t₁, Act w p loose mean mg mb A base g (env :: outer) (envX qual scope L' f cdv cl) L' (fun y => binds.reverse.lookup y) tn imm h₁ n →
      wpN (model prog w) (A.deeper (envX qual scope L' f cdv cl)) (execs body (envX qual scope L' f cdv cl))
        (fun fl s' => Back h₀ L m g (fun v s' => R (.ok (.ret v)) s') (fv fl) s') (Flew base g (envX qual scope L' f cdv cl) (env :: outer) L' cls NE G D O) ⟨h₁, G, D, t₁, O⟩) :
    codeN (model prog w) A (.call (.ref f) ⟨args, []⟩) R ⟨h, G, D, t, O⟩ := by
  refine callN_plain (cl := cl) C.B S.F S.N C.T.nolimit hA hf hke ho hd (codeRec_of (C.X.keeps S.F.keep) hcd) hR.deep (BindsTo.of_eq hbind) hloc (fun g L' h₁ FG F' N' B' st lt => ?_) hcell hco hgen hk
  have C' : Cx (KH w.params) p loose mean mg mb A base g (env :: outer) := ⟨B', C.XB, C.TB, fun b hb => by
      rcases mem_frames hf hb with rfl | hb
      · obtain ⟨o, es, ep, ho, hd, _⟩ := FG.ns
        exact ⟨o, es, ep, ho, hd⟩
      · obtain ⟨o, es, n, ho, hd⟩ := C.D b hb
        exact ⟨o, es, n, FG.keep b o ho, hd⟩⟩
  refine wpN.mono (hb g L' h₁ _ ⟨C', ⟨F', N', S.D⟩, rfl, hk, hR.deeper⟩) (fun fl s' hl => ?_) fun e s' ho => ?_
  · obtain ⟨L'', m', tn', imm', S', k⟩ := hl
    exact ⟨L'', m', tn' ++ imm', S'.F, S'.N, fun F N => k ⟨F, N, S'.D⟩⟩
  · obtain ⟨h', tk, news', rfl, hs, T⟩ := ho
    refine leaveT (L := L') C' rfl hk T fun h'' ea he R' U' => ?_
    exact hE _ _ _ _ hs ⟨ea, he, .inr (.inl ⟨g, m, FG, R', U'⟩)⟩
theorem callAN (Z : Act w p loose mean mg mb A₀ base h₀ outer env L m tn imm h (n + 1))
    (ho : (KH w.params).lookup f = some ⟨oc, od, .func (fnX name qual params body scope cl dV kV doc pm an cdv ct), osl⟩) (hcd : codeIn (KH w.params) cdv qual = true)
    (hbind : bindArgs (fnX name qual params body scope cl dV kV doc pm an cdv ct) ⟨args, []⟩ = pure binds) (hloc : ∀ y ∈ binds, scope.names.lookup y.1 = some .local)
    (hcell : ∀ x ∈ scope.names, x.2 ≠ .cell) (hco : scope.isCoroutine = false) (hgen : scope.isGenerator = false) (hk : scope.kind = .function)
    (hE : ∀ e h' tk news', NE news' → Thrown base h₀ env outer L cls news' e h' → E e ⟨h', G, D, tk, O⟩)
    (hb : ∀ g L' h₁ t₁, Act w p loose mean mg mb (A₀.deeper env) base g (env :: outer) (envX qual scope L' f cdv cl) L' (fun y => binds.reverse.lookup y) tn imm h₁ n →
      wpN (model prog w) ((A₀.deeper env).deeper (envX qual scope L' f cdv cl)) (execs body (envX qual scope L' f cdv cl))
        (fun fl s' => Back h₀ L m g Q (fv fl) s') (Flew base g (envX qual scope L' f cdv cl) (env :: outer) L' cls NE G D O) ⟨h₁, G, D, t₁, O⟩) :
    wpN (model prog w) (A₀.deeper env) (call (.ref f) args) Q E ⟨h, G, D, t, O⟩ :=
  wpN.call (codeAN Z.C Z.S Z.hf Z.hk Z.C.frames Z.R ((Z.C.X.keeps Z.S.F.keep) _ _ ho) rfl hcd hbind hloc hcell hco hgen hk hE hb)
theorem s_barr (S : Sta h₀ L m tn imm h) (hq : ∀ a h' t', Sta h₀ L m ((a, baO []) :: tn) imm h' → Q (.ref a) ⟨h', G, D, t', O⟩) : wpN (model prog w) A (call (.type "bytearray") []) Q E ⟨h, G, D, t, O⟩ := by
  refine n_barr (s := ⟨h, G, D, t, O⟩) fun h' t' e1 e2 => hq _ h' t' ((S.newMut (baO [])).turn (fun b o hb e => ?_) e1)
  rw [Heap.get?_push_ne _ _ _ hb] at e
  exact e2 b o hb e
theorem s_bappend {a : Addr} {b : List UInt8} {i : Int} {u : Tok} (S : Sta h₀ L m ((a, baO b) :: tn) imm h) (h0 : 0 ≤ i) (h1 : i ≤ 255) (hz : b.length ≤ 10000)
    (hq : ∀ h', Sta h₀ L m ((a, baO (b ++ [i.toNat.toUInt8])) :: tn) imm h' → Q .none ⟨h', G, D, t, O⟩) : wpN (model prog w) A (call (.builtin "bytearray.append") [.ref a, .int i u]) Q E ⟨h, G, D, t, O⟩ :=
  n_append (s := ⟨h, G, D, t, O⟩) (S.get (.head _)) h0 h1 hz fun h' e1 e2 => hq h' (S.turn (fun c o hc e => e2 c o hc e) e1)
theorem s_bextend {a : Addr} {b c : List UInt8} {u : Tok} (S : Sta h₀ L m ((a, baO b) :: tn) imm h) (hz : b.length + c.length ≤ 10000)
    (hq : ∀ h', Sta h₀ L m ((a, baO (b ++ c)) :: tn) imm h' → Q .none ⟨h', G, D, t, O⟩) : wpN (model prog w) A (call (.builtin "bytearray.extend") [.ref a, .bytes c.toArray u]) Q E ⟨h, G, D, t, O⟩ :=
  n_extend (s := ⟨h, G, D, t, O⟩) (S.get (.head _)) hz fun h' e1 e2 => hq h' (S.turn (fun c o hc e => e2 c o hc e) e1)
theorem s_bappendM {a : Addr} {o : Obj} {pl : Sem Bool} {q : Value → List Value → Shared → Prop} (S : Sta h₀ L m tn imm h) (hl : (a, o) ∈ tn ++ imm) (ho : o.cls = .type "bytearray") (hd : o.dict = none) (hq : q (.builtin "bytearray.append") [.ref a] ⟨h, G, D, t, O⟩) :
    wpAny (model prog w) A (getMethod (.ref a) "append" pl) (MC q) E ⟨h, G, D, t, O⟩ :=
  getMethod_builtin (s := ⟨h, G, D, t, O⟩) ⟨_, S.get hl, ho⟩ BA.plainAttrs BA.slot_append BA.type_append (fun a e => by cases e; exact ⟨_, S.get hl, hd⟩) hq
theorem s_bextendM {a : Addr} {o : Obj} {pl : Sem Bool} {q : Value → List Value → Shared → Prop} (S : Sta h₀ L m tn imm h) (hl : (a, o) ∈ tn ++ imm) (ho : o.cls = .type "bytearray") (hd : o.dict = none) (hq : q (.builtin "bytearray.extend") [.ref a] ⟨h, G, D, t, O⟩) :
    wpAny (model prog w) A (getMethod (.ref a) "extend" pl) (MC q) E ⟨h, G, D, t, O⟩ :=
  getMethod_builtin (s := ⟨h, G, D, t, O⟩) ⟨_, S.get hl, ho⟩ BA.plainAttrs BA.slot_extend BA.type_extend (fun a e => by cases e; exact ⟨_, S.get hl, hd⟩) hq
theorem callWithN_bm {M : Model} {s : Shared} {pos : Pos} {id : String} {first : List Value} {e : Expr} {rest : List Expr} (he : starEach (e :: rest) env = (false, eval e env) :: starEach rest env) (hplain : (backTo pos (starEach rest env)).any (·.1) = false) (h : wpAny M A (spliced (backTo pos (starEach (e :: rest) env))) (fun vs s₁ => wpN M A (call (.builtin id) (first ++ vs)) Q E s₁) E s) :
    wpN M A (callWith pos (.builtin id) first (backTo pos (starEach (e :: rest) env)) []) Q E s := by
  rw [he] at h ⊢
  refine callWithN (P := fun _ => True) (by show ((false || (backTo pos (starEach rest env)).any (·.1)) || false) = false; rw [hplain]; rfl) (fun h _ => ⟨.machine, .inr (.inl rfl), Looks.of_pure rfl⟩) (evalArgs_plain (wpAny_mono h (fun vs s₁ x => ⟨trivial, x⟩) fun _ _ x => x))
theorem callWithN_type0 {M : Model} {s : Shared} {pos : Pos} {T : String} (h : wpN M A (call (.type T) []) Q E s) : wpN M A (callWith pos (.type T) [] (backTo pos (starEach [] env)) []) Q E s :=
  callWithN (P := fun _ => True) rfl (fun h _ => ⟨.machine, .inr (.inl rfl), Looks.of_pure rfl⟩) (evalArgs_nil3 ⟨trivial, h⟩)
end

/-- ints as octets -/
def ob (i : Int) : UInt8 := i.toNat.toUInt8
abbrev obs (ns : List Int) : List UInt8 := ns.map ob
theorem byteArr_obs (ns : List Int) : byteArr ns = (obs ns).toArray := by simp [byteArr, obs, ob]
section
variable {prog : Program} {w : World} {p : Program} {loose : List Str} {mean : ExcName → Option Value} {mg mb : Str → Option Value} {A A₀ : Around} {base h₀ h : Heap} {outer : List Env} {env : Env} {L : Addr} {m : Str → Option Value} {tn imm : List (Addr × Obj)} {n : Nat} {G : Array GenState} {D : Drawn} {t : Nat} {O : OsState}
  {Q E : Value → Shared → Prop} {l : Addr} {vs : List Value} {ns : List Int}
/-- bytes of a list of ints -/
theorem s_bytesL {o : Obj} (S : Sta h₀ L m tn imm h) (hl : (l, o) ∈ tn ++ imm) (ho : o.cls = .type "list") {k : Nat} (hd : o.data = .seq vs.toArray k) (hi : IntsAre vs ns) (hr : ∀ n ∈ ns, 0 ≤ n ∧ n < 256) (hz : vs.length ≤ 10000) (hh : A.handled = none)
    (hq : ∀ h' t k, Sta h₀ L m tn imm h' → Q (.bytes (obs ns).toArray t) ⟨h', G, D, k, O⟩) : wpAny (model prog w) A (call (.type "bytes") [.ref l]) Q E ⟨h, G, D, t, O⟩ :=
  call_bytes_ints (s := ⟨h, G, D, t, O⟩) ⟨o, S.get hl, ho, k, hd⟩ hi hr (by rw [sizeLine_eq]; omega) hh fun h' t k hk => by rw [byteArr_obs]; exact hq h' t k (S.keeps hk)
/-- word(n) -/
theorem c_wordf {a : Int} {u : Tok} (Z : Act w p loose mean mg mb A₀ base h₀ outer env L m tn imm h 4) (h0 : 0 ≤ a) (h1 : a ≤ 65535)
    (hQ : ∀ h' t' v, Sta h₀ L m tn imm h' → Q (.bytes (obs [a / 256, a % 256]).toArray v) ⟨h', G, D, t', O⟩) :
    wpAny (model prog w) (A₀.deeper env) (call (.ref 77) [.int a u]) Q E ⟨h, G, D, t, O⟩ := by
  refine' callA0 (binds := [("n", .int a u)]) Z ?k1 ?k2 ?k3 ?k4 ?k5 ?k6 ?k7 ?k8 ?_
  case k1 => k_is
  case k2 => k_is
  case k3 => exact rfl
  case k4 => exact locs rfl
  case k5 => decide
  case k6 => exact rfl
  case k7 => exact rfl
  case k8 => exact rfl
  intro g L' h₁ t₁ ⟨C, S, _, _, R⟩
  repeat walk_at "m"
  refine ⟨fun _ => ?_, fun hc => absurd (of_decide_eq_false hc) (by omega)⟩
  repeat walk_at "m"
  refine ⟨fun hc => absurd hc (by simp; omega), fun _ => ?_⟩
  repeat walk_at "m"
  refine s_bytesL (by assumption) (by walk_at "mem") rfl rfl (.cons _ _ (.cons _ _ .nil)) ?_ (by simp) R.hd fun h t k S => ?_
  · intro n hn
    simp only [List.mem_cons, List.not_mem_nil, or_false] at hn
    omega
  walk_at "back"
  exact fun S => hQ _ _ _ S.drop
end

local macro_rules | `(tactic| walk_at "nb") => `(tactic| ((with_reducible refine' (_ : Br _ _ _)); first
  | (refine' And.intro (fun hc => absurd (of_decide_eq_true hc) ?z) (fun _ => ?_); (case z => omega))
  | (refine' And.intro (fun _ => ?_) (fun hc => absurd (of_decide_eq_false hc) ?z); (case z => omega))
  | refine And.intro (fun _ => ?_) (fun hc => Bool.noConfusion hc)
  | refine And.intro (fun hc => Bool.noConfusion hc) (fun _ => ?_)
  | (refine' And.intro (fun hc => absurd hc ?z) (fun _ => ?_); (case z => (intro hc; simp at hc; omega)))
  | (refine' And.intro (fun _ => ?_) (fun hc => absurd hc ?z); (case z => (intro hc; simp at hc; omega)))))
local macro_rules | `(tactic| walk_at "n") => `(tactic| first
  | walk_at "m"
  | walk_at "nb"
  | (with_reducible first | refine rn_ret ?_ | refine rn_ifL (wpN.of ?_) | refine rn_for ?_ (fun _ => rfl) | refine en_call ?_ | refine callWithN_type0 ?_)
  | ((with_reducible first | refine' rn_assign ?s ?_ | refine' en_mcall ?s ?_); (case s => exact rfl))
  | ((with_reducible first | refine rn_expr ?_ ?_ ?_ | refine callWithN_bm ?_ ?_ ?_); exact rfl; exact rfl)
  | ((with_reducible refine' callWithN_K ?X ?_ ?_ ?_ ?_); (case X => exact Cx.X (by assumption)); k_is; exact rfl; exact rfl)
  | ((with_reducible refine' callWithN_K0 ?X ?_ ?_); (case X => exact Frag.In.keeps (Cx.X (by assumption)) (Fr.keep (Sta.F (by assumption)))); k_is)
  | ((with_reducible first | refine' s_bappendM ?S ?l ?_ ?_ ?_ | refine' s_bextendM ?S ?l ?_ ?_ ?_); (case S => assumption); (case l => walk_at "mem"); exact rfl; exact rfl))
local macro_rules | `(tactic| walk_at "zn") => `(tactic| first | ((with_reducible refine' rn_nilQ ?q ?_); (case q => assumption)) | (with_reducible refine rn_nil ?_))
theorem boot_ba : bootBuiltins "bytearray" = some (.type "bytearray") := by decide +kernel
section
variable {prog : Program} {w : World} {p : Program} {loose : List Str} {mean : ExcName → Option Value} {mg mb : Str → Option Value} {A A₀ : Around} {base h₀ h : Heap} {outer : List Env} {env : Env} {L : Addr} {m : Str → Option Value} {tn imm : List (Addr × Obj)} {n : Nat} {G : Array GenState} {D : Drawn} {t : Nat} {O : OsState}
  {Q E : Value → Shared → Prop} {a l : Addr} {vs : List Value} {b : List UInt8}
/-- put_kind(out, kind, 1, slot) -/
theorem c_put {kd sl : Int} {u v x : Tok} (Z : Act w p loose mean mg mb A₀ base h₀ outer env L m ((a, baO b) :: tn) imm h 4) (h1 : 0 ≤ kd ∧ kd ≤ 1) (h2 : 0 ≤ sl ∧ sl ≤ 3) (hz : b.length ≤ 10000)
    (hQ : ∀ h' t', Sta h₀ L m ((a, baO (b ++ [ob (kd * 16 + sl)])) :: tn) imm h' → Q .none ⟨h', G, D, t', O⟩) :
    wpN (model prog w) (A₀.deeper env) (call (.ref 182) [.ref a, .int kd u, .int 1 v, .int sl x]) Q E ⟨h, G, D, t, O⟩ := by
  refine' callAN (cls := .ref 44) (NE := fun _ => False) (binds := [("out", .ref a), ("kind", .int kd u), ("most", .int 1 v), ("slot", .int sl x)]) Z ?k1 ?k2 ?k3 ?k4 ?k5 ?k6 ?k7 ?k8 (fun _ _ _ _ hk => hk.elim) ?_
  case k1 => k_is
  case k2 => k_is
  case k3 => exact rfl
  case k4 => exact locs rfl
  case k5 => decide
  case k6 => exact rfl
  case k7 => exact rfl
  case k8 => exact rfl
  intro g L' h₁ t₁ Z'
  have C := Z'.C
  have S := Z'.S
  have hf := Z'.hf
  have hk := Z'.hk
  have R := Z'.R
  repeat walk_at "n"
  refine s_bappend (by assumption) (by omega) (by omega) hz fun h S => ?_
  repeat walk_at "n"
  refine rn_nil ?_
  walk_at "back"
  exact fun S => hQ _ _ S
end

local macro_rules | `(tactic| boot_fact) => `(tactic| with_reducible exact boot_ba)
theorem flat_len {α : Type} {f : α → List UInt8} {c : Nat} : ∀ {l : List α}, (∀ x ∈ l, (f x).length ≤ c) → (l.flatMap f).length ≤ c * l.length
  | [], _ => by simp
  | x :: l, h => by
    have := flat_len (l := l) fun y hy => h y (.tail _ hy)
    have := h x (.head _)
    rw [List.flatMap_cons, List.length_append, List.length_cons, Nat.mul_succ]
    omega
theorem flat_take {α : Type} {f : α → List UInt8} {l : List α} {i : Nat} {x : α} (h : l[i]? = some x) : (l.take (i + 1)).flatMap f = (l.take i).flatMap f ++ f x := by
  rw [List.take_succ, h]; simp
/-- a table of divisors: slot, precision, divisors -/
structure TQ where
  sl : Int
  pr : Int
  ds : List Int
def dOct (pr d : Int) : List UInt8 := if pr = 1 then obs [d / 256, d % 256] else obs [d]
def TQ.enc (t : TQ) : List UInt8 := ob (t.pr * 16 + t.sl) :: t.ds.flatMap (dOct t.pr)
def TQ.dat (t : TQ) : Dat := qDat t.sl t.pr t.ds
def TQ.ok (t : TQ) : Prop := (0 ≤ t.sl ∧ t.sl ≤ 3) ∧ (0 ≤ t.pr ∧ t.pr ≤ 1) ∧ (∀ d ∈ t.ds, okDv t.pr d) ∧ t.ds.length ≤ 9
theorem dOct_len (pr d : Int) : (dOct pr d).length ≤ 2 := by unfold dOct; split <;> simp
theorem TQ.len {t : TQ} (h : t.ok) : t.enc.length ≤ 19 := by
  have := flat_len (f := dOct t.pr) (c := 2) (l := t.ds) fun d _ => dOct_len _ _
  have := h.2.2.2
  unfold TQ.enc
  rw [List.length_cons]
  omega
abbrev tupK (vs : List Value) (k : Nat) : Obj := { cls := .type "tuple", data := .seq vs.toArray k }
section
variable {news : List (Addr × Obj)} {v : Value} {vs : List Value} {d : Dat} {ds : List Dat} {G : Prop}
/-- a datum taken apart, a step at a time -/
theorem di_tup (h : DatIn news v (.tuple ds)) (k : ∀ a n ws, v = .ref a → (a, tupK ws n) ∈ news → DatAll news ws ds → G) : G := by cases h with | tuple h1 h2 => exact k _ _ _ rfl h1 h2
theorem di_int {i : Int} (h : DatIn news v (.int i)) (k : ∀ u, v = .int i u → G) : G := by cases h; exact k _ rfl
theorem di_bytes {b : Array UInt8} (h : DatIn news v (.bytes b)) (k : ∀ u, v = .bytes b u → G) : G := by cases h; exact k _ rfl
theorem da_cons (h : DatAll news vs (d :: ds)) (k : ∀ x ws, vs = x :: ws → DatIn news x d → DatAll news ws ds → G) : G := by cases h with | cons h1 h2 => exact k _ _ rfl h1 h2
theorem da_nil (h : DatAll news vs []) : vs = [] := by cases h; rfl
end
theorem inv_ints {news : List (Addr × Obj)} : ∀ {vs : List Value} {is : List Int}, DatAll news vs (is.map .int) → IntsAre vs is
  | _, [], h => da_nil h ▸ .nil
  | _, _ :: _, h => da_cons h fun _ _ e h1 h2 => di_int h1 fun _ e1 => e ▸ e1 ▸ .cons _ _ (inv_ints h2)
theorem inv_q {news : List (Addr × Obj)} {v : Value} {t : TQ} (h : DatIn news v t.dat) : ∃ a k u1 u2 c k2 ws, v = .ref a ∧ (a, tupK [.int t.sl u1, .int t.pr u2, .ref c] k) ∈ news ∧ (c, tupK ws k2) ∈ news ∧ IntsAre ws t.ds :=
  di_tup h fun a k w e hm h => da_cons h fun x w1 e1 hx h => di_int hx fun u1 f1 => da_cons h fun y w2 e2 hy h => di_int hy fun u2 f2 => da_cons h fun z w3 e3 hz h => di_tup hz fun c k2 ws f3 hc hi => by
    rw [e1, e2, e3, da_nil h, f1, f2, f3] at hm
    exact exI7 ⟨e, hm, hc, inv_ints hi⟩
theorem ints_get {vs : List Value} {is : List Int} (h : IntsAre vs is) : ∀ {i : Nat} {v : Value}, vs[i]? = some v → ∃ n u, is[i]? = some n ∧ v = .int n u := by
  induction h with
  | nil => intro i v e; simp at e
  | cons n u _ ih =>
    intro i v e
    cases i with
    | zero => simp at e; exact ⟨n, u, by simp, e.symm⟩
    | succ i => simpa using ih (by simpa using e)
theorem dat_at {news : List (Addr × Obj)} {vs : List Value} {ds : List Dat} (h : DatAll news vs ds) {i : Nat} {v : Value} (e : vs[i]? = some v) : ∃ d, ds[i]? = some d ∧ DatIn news v d := by
  have hi : i < ds.length := by rw [← h.length]; exact (List.getElem?_eq_some_iff.mp e).1
  obtain ⟨v', e', hd⟩ := h.get hi
  rw [e] at e'
  cases e'
  exact ⟨_, List.getElem?_eq_getElem hi, hd⟩
section
variable {prog : Program} {w : World} {p : Program} {loose : List Str} {mean : ExcName → Option Value} {mg mb : Str → Option Value} {A A₀ : Around} {base h₀ h : Heap} {outer : List Env} {env : Env} {L : Addr} {m : Str → Option Value} {tn imm : List (Addr × Obj)} {n : Nat} {G : Array GenState} {D : Drawn} {t : Nat} {O : OsState}
  {Q E : Value → Shared → Prop} {a l : Addr} {vs : List Value} {b : List UInt8}
/-- write_quant(tables), the tables in order -/
theorem c_write_quant {o : Obj} {k : Nat} {ts : List TQ} (Z : Act w p loose mean mg mb A₀ base h₀ outer env L m tn imm h 12) (hl : (l, o) ∈ imm) (ho : o.cls = .type "list") (hd : o.data = .seq vs.toArray k) (hD : DatAll imm vs (ts.map TQ.dat)) (hok : ∀ t ∈ ts, t.ok) (hz : ts.length ≤ 10)
    (hQ : ∀ h' t' u, Sta h₀ L m tn imm h' → Q (.bytes (ts.flatMap TQ.enc).toArray u) ⟨h', G, D, t', O⟩) :
    wpN (model prog w) (A₀.deeper env) (call (.ref 210) [.ref l]) Q E ⟨h, G, D, t, O⟩ := by
  have hlen : ∀ i, ((ts.take i).flatMap TQ.enc).length ≤ 190 := fun i => by
    have := flat_len (f := TQ.enc) (c := 19) (l := ts.take i) fun t ht => TQ.len (hok t (List.mem_of_mem_take ht))
    rw [List.length_take] at this
    omega
  refine' callAN (cls := .ref 44) (NE := fun _ => False) (binds := [("tables", .ref l)]) Z ?k1 ?k2 ?k3 ?k4 ?k5 ?k6 ?k7 ?k8 (fun _ _ _ _ hk => hk.elim) ?_
  case k1 => k_is
  case k2 => k_is
  case k3 => exact rfl
  case k4 => exact locs rfl
  case k5 => decide
  case k6 => exact rfl
  case k7 => exact rfl
  case k8 => exact rfl
  intro g L' h₁ t₁ Z'
  have C := Z'.C
  have S := Z'.S
  have hf := Z'.hf
  have hk := Z'.hk
  have R' := Z'.R
  with_reducible refine absFN C hf hk fun Q₁ E₁ hQ₁ hE₁ hP => ?_
  refine rn_assignN (en_call ?_)
  repeat walk_at "n"
  refine s_barr S fun a h t S => ?_
  repeat walk_at "n"
  refine loop_listN R'.hd (fun i m' tn' imm' => tn' = (a, baO ((ts.take i).flatMap TQ.enc)) :: tn ∧ imm = imm' ∧ m' "out" = some (.ref a)) ho hd (by rintro i m tn imm ⟨_, rfl, _⟩; exact List.mem_append_right _ hl) hP (by assumption) ⟨by simp, rfl, by walk_at "mv"⟩ ?_ ?_
  · intro i v I oI m8 tn8 imm8 h8 t8 hv hJ S8
    with_reducible refine absLN fun Q₂ hQ₂ => ?_
    refine anE3 hJ fun hz35 hz36 hm1 => ?_
    clear hJ
    subst hz35
    subst hz36
    obtain ⟨d, hd1, hin⟩ := dat_at hD hv
    obtain ⟨tb, htb, rfl⟩ := List.getElem?_map .. ▸ hd1 |> Option.map_eq_some_iff.mp
    have hk8 := hok tb (List.mem_of_getElem? htb)
    have hin := inv_q hin
    refine exE7 hin fun x kx u1 u2 c k2 ws hz37 => ?_
    clear hin
    refine anE4 hz37 fun hz38 hx hc hI => ?_
    clear hz37
    subst hz38
    have hl8 := hlen i
    repeat walk_at "n"
    refine c_put (by walk_at "act1") hk8.2.1 hk8.1 (by omega) fun h t S => ?_
    repeat walk_at "n"
    refine loop_tupleN R'.hd (fun j m' tn' imm' => tn' = (a, baO (((ts.take i).flatMap TQ.enc ++ [ob (tb.pr * 16 + tb.sl)]) ++ (tb.ds.take j).flatMap (dOct tb.pr))) :: (I, oI) :: tn ∧ imm = imm' ∧ m' "out" = some (.ref a) ∧ m' "precision" = some (.int tb.pr u2)) rfl rfl (by rintro i m tn imm ⟨_, rfl, _⟩; exact List.mem_append_right _ hc) hP S ⟨by simp, rfl, ?_, ?_⟩ ?_ ?_
    · walk_at "mv"
    · walk_at "mv"
    · intro j v I2 oI2 m9 tn9 imm9 h9 t9 hv hJ S9
      with_reducible refine absLN fun Q₃ hQ₃ => ?_
      refine anE4 hJ fun hz39 hz40 hm1 hm2 => ?_
      clear hJ
      subst hz39
      subst hz40
      obtain ⟨dv, ud, hdv, rfl⟩ := ints_get hI hv
      have hdok := hk8.2.2.1 dv (List.mem_of_getElem? hdv)
      have hj := flat_len (f := dOct tb.pr) (c := 2) (l := tb.ds.take j) fun d _ => dOct_len _ _
      have hds := hk8.2.2.2
      rw [List.length_take] at hj
      repeat walk_at "n"
      refine wpN.of (c_div (by walk_at "act") (fun _ h t S => ?_) (fun hb => absurd hdok hb))
      repeat walk_at "n"
      walk_at "br"
      · have hp : tb.pr = 1 := by walk_at "ar"
        have hdk : 1 ≤ dv ∧ dv ≤ 65535 := by have := hdok; rw [okDv, if_pos hp] at this; exact this
        repeat walk_at "n"
        refine c_wordf (by walk_at "act") (by omega) (by omega) fun h t v S => ?_
        repeat walk_at "n"
        refine s_bextend (Sta.f1 (by assumption)) (by rw [List.length_append, List.length_append]; simp only [List.length_cons, List.length_nil, List.length_map]; omega) fun h S => ?_
        repeat walk_at "n"
        refine rn_nilQ hQ₃ (TurnEnd.mk (Sta.f1 S) ⟨?_, rfl, hm1, hm2⟩)
        rw [flat_take hdv, dOct, if_pos hp]
        simp
      · have hp : ¬ tb.pr = 1 := by walk_at "ar"
        have hdk : 1 ≤ dv ∧ dv ≤ 255 := by have := hdok; rw [okDv, if_neg hp] at this; exact this
        repeat walk_at "n"
        refine s_bytesL (by assumption) (by walk_at "mem") rfl rfl (.cons _ _ .nil) ?_ (by simp) R'.hd fun h t k S => ?_
        · intro n hn
          simp only [List.mem_cons, List.not_mem_nil, or_false] at hn
          omega
        repeat walk_at "n"
        refine s_bextend (Sta.f2 (by assumption)) (by rw [List.length_append, List.length_append]; simp only [List.length_cons, List.length_nil, List.length_map]; omega) fun h S => ?_
        repeat walk_at "n"
        refine rn_nilQ hQ₃ (TurnEnd.mk (Sta.f1 (Sta.f1 S).drop) ⟨?_, rfl, hm1, hm2⟩)
        rw [flat_take hdv, dOct, if_neg hp]
        simp
    · intro m9 tn9 imm9 h9 t9 hJ S9
      refine anE4 hJ fun hz41 hz42 hm1 hm2 => ?_
      clear hJ
      subst hz41
      subst hz42
      refine rn_nilQ hQ₂ (TurnEnd.mk (Sta.f1 S9) ⟨?_, rfl, hm1⟩)
      rw [flat_take htb, hI.length, List.take_length, TQ.enc]
      simp
  · intro m8 tn8 imm8 h8 t8 hJ S8
    refine anE3 hJ fun hz43 hz44 hm1 => ?_
    clear hJ
    subst hz43
    subst hz44
    rw [List.take_of_length_le (by rw [hD.length]; simp)] at S8
    repeat walk_at "n"
    refine bytes_barr (S8.get (.head _)) (by have := hlen ts.length; rw [List.take_length] at this; rw [List.size_toArray]; omega) fun t' k' => ?_
    walk_at "back"
    exact fun S => hQ _ _ _ S.drop
end

/-- a table of codes -/
structure TH where
  kd : Int
  sl : Int
  cs : List Int
  sy : List UInt8
def TH.enc (t : TH) : List UInt8 := (ob (t.kd * 16 + t.sl) :: obs t.cs) ++ t.sy
def TH.dat (t : TH) : Dat := hDat t.kd t.sl t.cs t.sy
def TH.ok (t : TH) : Prop := (0 ≤ t.sl ∧ t.sl ≤ 3) ∧ (0 ≤ t.kd ∧ t.kd ≤ 1) ∧ t.cs.length ≤ 20 ∧ t.sy.length ≤ 300
def TH.fit (t : TH) : Prop := t.cs.length = 16 ∧ t.cs.sum = t.sy.length ∧ t.sy.length ≤ 256 ∧ ∀ c ∈ t.cs, 0 ≤ c ∧ c ≤ 255
theorem TH.len {t : TH} (h : t.ok) : t.enc.length ≤ 321 := by
  have h1 := h.2.2.1
  have h2 := h.2.2.2
  unfold TH.enc
  rw [List.length_append, List.length_cons, List.length_map]
  omega
theorem inv_h {news : List (Addr × Obj)} {v : Value} {t : TH} (h : DatIn news v t.dat) : ∃ a k u1 u2 u3 c k2 ws, v = .ref a ∧ (a, tupK [.int t.kd u1, .int t.sl u2, .ref c, .bytes t.sy.toArray u3] k) ∈ news ∧ (c, tupK ws k2) ∈ news ∧ IntsAre ws t.cs :=
  di_tup h fun a k w e hm h => da_cons h fun x w1 e1 hx h => di_int hx fun u1 f1 => da_cons h fun y w2 e2 hy h => di_int hy fun u2 f2 => da_cons h fun z w3 e3 hz h => di_tup hz fun c k2 ws f3 hc hi => da_cons h fun q w4 e4 hq h => di_bytes hq fun u3 f4 => by
    rw [e1, e2, e3, e4, da_nil h, f1, f2, f3, f4] at hm
    exact exI8 ⟨e, hm, hc, inv_ints hi⟩
/-- a table of conditioning -/
structure TC where
  kd : Int
  sl : Int
  vl : Int
def TC.enc (t : TC) : List UInt8 := [ob (t.kd * 16 + t.sl), ob t.vl]
def TC.dat (t : TC) : Dat := cDat t.kd t.sl t.vl
def TC.ok (t : TC) : Prop := (0 ≤ t.sl ∧ t.sl ≤ 3) ∧ (0 ≤ t.kd ∧ t.kd ≤ 1) ∧ okCond t.kd t.vl
theorem inv_c {news : List (Addr × Obj)} {v : Value} {t : TC} (h : DatIn news v t.dat) : ∃ a k u1 u2 u3, v = .ref a ∧ (a, tupK [.int t.kd u1, .int t.sl u2, .int t.vl u3] k) ∈ news :=
  di_tup h fun a k w e hm h => da_cons h fun x w1 e1 hx h => di_int hx fun u1 f1 => da_cons h fun y w2 e2 hy h => di_int hy fun u2 f2 => da_cons h fun z w3 e3 hz h => di_int hz fun u3 f3 => by
    rw [e1, e2, e3, da_nil h, f1, f2, f3] at hm
    exact exI5 ⟨e, hm⟩
section
variable {prog : Program} {w : World} {A : Around} {E : Value → Shared → Prop} {Q : Value → Shared → Prop} {h₀ h : Heap} {L : Addr} {m : Str → Option Value} {tn imm : List (Addr × Obj)} {G : Array GenState} {D : Drawn} {t : Nat} {O : OsState}
/-- sum(a tuple of ints) -/
theorem s_sumK {l : Addr} {vs : List Value} {ns : List Int} {o : Obj} (S : Sta h₀ L m tn imm h) (hl : (l, o) ∈ tn ++ imm) (ho : o.cls = .type "tuple") {k : Nat} (hd : o.data = .seq vs.toArray k) (hi : IntsAre vs ns) (hh : A.handled = none) (hq : ∀ h' t' u, Sta h₀ L m tn imm h' → Q (.int ns.sum u) ⟨h', G, D, t', O⟩) :
    wpAny (model prog w) A (call (.builtin "sum") [.ref l]) Q E ⟨h, G, D, t, O⟩ := by
  have hl : h.IsTuple l vs.toArray := ⟨_, S.get hl, ho, k, hd⟩
  obtain ⟨xs, hx⟩ := hi.allInts.items
  have hn : numsOf vs.toArray.toList = ns := by rw [show vs.toArray.toList = vs from rfl, hi.numsOf]
  rw [hx] at hl hn
  rw [nums_intItems] at hn
  refine ktm_sumG (s := ⟨h, G, D, t, O⟩) hh hl fun h' tk t' hk => ?_
  have := hq h' tk t' (S.keeps hk)
  rw [preSum_eq, List.take_of_length_le (by simp), hn]
  exact this
end
section
variable {prog : Program} {w : World} {p : Program} {loose : List Str} {mean : ExcName → Option Value} {mg mb : Str → Option Value} {A A₀ : Around} {base h₀ h : Heap} {outer : List Env} {env : Env} {L : Addr} {m : Str → Option Value} {tn imm : List (Addr × Obj)} {n : Nat} {G : Array GenState} {D : Drawn} {t : Nat} {O : OsState}
  {Q E : Value → Shared → Prop} {a l : Addr} {vs : List Value} {b : List UInt8}
/-- write_conditioning(values) -/
theorem c_write_cond {o : Obj} {k : Nat} {ts : List TC} (Z : Act w p loose mean mg mb A₀ base h₀ outer env L m tn imm h 12) (hl : (l, o) ∈ imm) (ho : o.cls = .type "list") (hd : o.data = .seq vs.toArray k) (hD : DatAll imm vs (ts.map TC.dat)) (hok : ∀ t ∈ ts, t.ok) (hz : ts.length ≤ 10)
    (hQ : ∀ h' t' u, Sta h₀ L m tn imm h' → Q (.bytes (ts.flatMap TC.enc).toArray u) ⟨h', G, D, t', O⟩) :
    wpN (model prog w) (A₀.deeper env) (call (.ref 245) [.ref l]) Q E ⟨h, G, D, t, O⟩ := by
  have hlen : ∀ i, ((ts.take i).flatMap TC.enc).length ≤ 20 := fun i => by
    have := flat_len (f := TC.enc) (c := 2) (l := ts.take i) fun t ht => by simp [TC.enc]
    rw [List.length_take] at this
    omega
  refine' callAN (cls := .ref 44) (NE := fun _ => False) (binds := [("values", .ref l)]) Z ?k1 ?k2 ?k3 ?k4 ?k5 ?k6 ?k7 ?k8 (fun _ _ _ _ hk => hk.elim) ?_
  case k1 => k_is
  case k2 => k_is
  case k3 => exact rfl
  case k4 => exact locs rfl
  case k5 => decide
  case k6 => exact rfl
  case k7 => exact rfl
  case k8 => exact rfl
  intro g L' h₁ t₁ Z'
  have C := Z'.C
  have S := Z'.S
  have hf := Z'.hf
  have hk := Z'.hk
  have R' := Z'.R
  with_reducible refine absFN C hf hk fun Q₁ E₁ hQ₁ hE₁ hP => ?_
  refine rn_assignN (en_call ?_)
  repeat walk_at "n"
  refine s_barr S fun a h t S => ?_
  repeat walk_at "n"
  refine loop_listN R'.hd (fun i m' tn' imm' => tn' = (a, baO ((ts.take i).flatMap TC.enc)) :: tn ∧ imm = imm' ∧ m' "out" = some (.ref a)) ho hd (by rintro i m tn imm ⟨_, rfl, _⟩; exact List.mem_append_right _ hl) hP (by assumption) ⟨by simp, rfl, by walk_at "mv"⟩ ?_ ?_
  · intro i v I oI m8 tn8 imm8 h8 t8 hv hJ S8
    with_reducible refine absLN fun Q₂ hQ₂ => ?_
    refine anE3 hJ fun hz45 hz46 hm1 => ?_
    clear hJ
    subst hz45
    subst hz46
    obtain ⟨d, hd1, hin⟩ := dat_at hD hv
    obtain ⟨tb, htb, rfl⟩ := List.getElem?_map .. ▸ hd1 |> Option.map_eq_some_iff.mp
    have hk8 := hok tb (List.mem_of_getElem? htb)
    have hin := inv_c hin
    refine exE5 hin fun x kx u1 u2 u3 hz47 => ?_
    clear hin
    refine anE2 hz47 fun hz48 hx => ?_
    clear hz47
    subst hz48
    have hl8 := hlen i
    have hvl := hk8.2.2.1
    repeat walk_at "n"
    refine c_put (by walk_at "act1") hk8.2.1 hk8.1 (by omega) fun h t S => ?_
    repeat walk_at "n"
    refine wpN.of (c_cond (by walk_at "act") (fun _ h t S => ?_) (fun hb => absurd hk8.2.2 hb))
    repeat walk_at "n"
    refine s_bappend S (by omega) (by omega) (by rw [List.length_append]; simp only [List.length_cons, List.length_nil]; omega) fun h S => ?_
    repeat walk_at "n"
    refine rn_nilQ hQ₂ (TurnEnd.mk (Sta.f1 S) ⟨?_, rfl, ?_⟩)
    · rw [flat_take htb, TC.enc]
      simp [ob]
    · walk_at "mv"
  · intro m8 tn8 imm8 h8 t8 hJ S8
    refine anE3 hJ fun hz49 hz50 hm1 => ?_
    clear hJ
    subst hz49
    subst hz50
    rw [List.take_of_length_le (by rw [hD.length]; simp)] at S8
    repeat walk_at "n"
    refine bytes_barr (S8.get (.head _)) (by have := hlen ts.length; rw [List.take_length] at this; rw [List.size_toArray]; omega) fun t' k' => ?_
    walk_at "back"
    exact fun S => hQ _ _ _ S.drop
/-- write_huffman(tables) -/
theorem c_write_huff {o : Obj} {k : Nat} {ts : List TH} (Z : Act w p loose mean mg mb A₀ base h₀ outer env L m tn imm h 12) (hl : (l, o) ∈ imm) (ho : o.cls = .type "list") (hd : o.data = .seq vs.toArray k) (hD : DatAll imm vs (ts.map TH.dat)) (hok : ∀ t ∈ ts, t.ok) (hz : ts.length ≤ 10)
    (hQ : (∀ t ∈ ts, t.fit) → ∀ h' t' u, Sta h₀ L m tn imm h' → Q (.bytes (ts.flatMap TH.enc).toArray u) ⟨h', G, D, t', O⟩)
    (hE : ¬ (∀ t ∈ ts, t.fit) → ∀ e h' tk, Thrown base h₀ env outer L (.ref 44) (tn ++ imm) e h' → E e ⟨h', G, D, tk, O⟩) :
    wpN (model prog w) (A₀.deeper env) (call (.ref 224) [.ref l]) Q E ⟨h, G, D, t, O⟩ := by
  have hlen : ∀ i, ((ts.take i).flatMap TH.enc).length ≤ 3210 := fun i => by
    have := flat_len (f := TH.enc) (c := 321) (l := ts.take i) fun t ht => TH.len (hok t (List.mem_of_mem_take ht))
    rw [List.length_take] at this
    omega
  refine' callAN (cls := .ref 44) (NE := Kept (¬ ∀ t ∈ ts, t.fit) (tn ++ imm)) (binds := [("tables", .ref l)]) Z ?k1 ?k2 ?k3 ?k4 ?k5 ?k6 ?k7 ?k8 (fun e h' tk news' hk T => hE hk.1 e h' tk (T.sub hk.2)) ?_
  case k1 => k_is
  case k2 => k_is
  case k3 => exact rfl
  case k4 => exact locs rfl
  case k5 => decide
  case k6 => exact rfl
  case k7 => exact rfl
  case k8 => exact rfl
  intro g L' h₁ t₁ Z'
  have C := Z'.C
  have S := Z'.S
  have hf := Z'.hf
  have hk := Z'.hk
  have R' := Z'.R
  with_reducible refine absFN C hf hk fun Q₁ E₁ hQ₁ hE₁ hP => ?_
  refine rn_assignN (en_call ?_)
  repeat walk_at "n"
  refine s_barr S fun a h t S => ?_
  repeat walk_at "n"
  refine loop_listN R'.hd (fun i m' tn' imm' => tn' = (a, baO ((ts.take i).flatMap TH.enc)) :: tn ∧ imm = imm' ∧ m' "out" = some (.ref a) ∧ ∀ t ∈ ts.take i, t.fit) ho hd (by rintro i m tn imm ⟨_, rfl, _⟩; exact List.mem_append_right _ hl) hP (by assumption) ⟨by simp, rfl, by walk_at "mv", by simp⟩ ?_ ?_
  · intro i v I oI m8 tn8 imm8 h8 t8 hv hJ S8
    with_reducible refine absLN fun Q₂ hQ₂ => ?_
    refine anE4 hJ fun hz51 hz52 hm1 hfit => ?_
    clear hJ
    subst hz51
    subst hz52
    obtain ⟨d, hd1, hin⟩ := dat_at hD hv
    obtain ⟨tb, htb, rfl⟩ := List.getElem?_map .. ▸ hd1 |> Option.map_eq_some_iff.mp
    have hmem := List.mem_of_getElem? htb
    have hk8 := hok tb hmem
    have hin := inv_h hin
    refine exE8 hin fun x kx u1 u2 u3 c k2 ws hz53 => ?_
    clear hin
    refine anE4 hz53 fun hz54 hx hc hI => ?_
    clear hz53
    subst hz54
    have hl8 := hlen i
    have hcl := hk8.2.2.1
    have hsl := hk8.2.2.2
    have hwl := hI.length
    repeat walk_at "n"
    refine c_put (by walk_at "act1") hk8.2.1 hk8.1 (by omega) fun h t S => ?_
    repeat walk_at "n"
    refine s_lenT S (by walk_at "mem") rfl rfl (by omega) ?_
    repeat walk_at "n"
    have hsub : ∀ q ∈ tn ++ imm, q ∈ ((a, baO ((ts.take i).flatMap TH.enc ++ [ob (tb.kd * 16 + tb.sl)])) :: (I, oI) :: tn) ++ imm := sub2 (fun q hq => .tail _ (.tail _ hq)) (fun q hq => hq)
    walk_at "br"
    · have hne : tb.cs.length ≠ 16 := by walk_at "ar"
      repeat walk_at "n"
      exact wpN.of (r_segB hE₁ (by walk_at "act") rfl (fun hall => hne (hall tb hmem).1) hsub)
    have h16 : tb.cs.length = 16 := by walk_at "ar"
    repeat walk_at "n"
    refine s_sumK S (by walk_at "mem") rfl rfl hI R'.hd fun h t us S => ?_
    repeat walk_at "n"
    refine e_lenb (by omega) ?_
    repeat walk_at "n"
    walk_at "br"
    · have hne : tb.cs.sum ≠ tb.sy.length := by walk_at "ar"
      repeat walk_at "n"
      exact wpN.of (r_segB hE₁ (by walk_at "act") rfl (fun hall => hne (hall tb hmem).2.1) hsub)
    have hsum : tb.cs.sum = tb.sy.length := by walk_at "ar"
    repeat walk_at "n"
    refine e_lenb (by omega) ?_
    repeat walk_at "n"
    walk_at "br"
    · have hne : ¬ tb.sy.length ≤ 256 := by walk_at "ar"
      repeat walk_at "n"
      exact wpN.of (r_segB hE₁ (by walk_at "act") rfl (fun hall => hne (hall tb hmem).2.2.1) hsub)
    have h256 : tb.sy.length ≤ 256 := by walk_at "ar"
    repeat walk_at "n"
    refine loop_tupleN R'.hd (fun j m' tn' imm' => tn' = (a, baO (((ts.take i).flatMap TH.enc ++ [ob (tb.kd * 16 + tb.sl)]) ++ obs (tb.cs.take j))) :: (I, oI) :: tn ∧ imm = imm' ∧ m' "out" = some (.ref a) ∧ m' "symbols" = some (.bytes tb.sy.toArray u3) ∧ ∀ c ∈ tb.cs.take j, 0 ≤ c ∧ c ≤ 255) rfl rfl (by rintro i m tn imm ⟨_, rfl, _⟩; exact List.mem_append_right _ hc) hP S ⟨by simp, rfl, ?_, ?_, by simp⟩ ?_ ?_
    · walk_at "mv"
    · walk_at "mv"
    · intro j v I2 oI2 m9 tn9 imm9 h9 t9 hv hJ S9
      with_reducible refine absLN fun Q₃ hQ₃ => ?_
      refine anE5 hJ fun hz55 hz56 hm1 hm2 hfj => ?_
      clear hJ
      subst hz55
      subst hz56
      obtain ⟨cv, ud, hcv, rfl⟩ := ints_get hI hv
      have hcm := List.mem_of_getElem? hcv
      repeat walk_at "n"
      have bad (hb : ¬ (0 ≤ cv ∧ cv ≤ 255)) : ¬ ∀ t ∈ ts, t.fit := fun hall => hb ((hall tb hmem).2.2.2 cv hcm)
      have hsub2 : ∀ q ∈ tn ++ imm, q ∈ ((I2, oI2) :: (a, baO ((ts.take i).flatMap TH.enc ++ [ob (tb.kd * 16 + tb.sl)] ++ obs (tb.cs.take j))) :: (I, oI) :: tn) ++ imm := sub2 (fun q hq => .tail _ (.tail _ (.tail _ hq))) (fun q hq => hq)
      walk_at "br"
      · have h0 : 0 ≤ cv := by walk_at "ar"
        repeat walk_at "n"
        walk_at "br"
        · have h1 : ¬ cv ≤ 255 := by walk_at "ar"
          exact wpN.of (r_segB hE₁ (by walk_at "act") rfl (bad fun z => h1 z.2) hsub2)
        · have h1 : cv ≤ 255 := by walk_at "ar"
          repeat walk_at "n"
          refine s_bappend (b := (ts.take i).flatMap TH.enc ++ [ob (tb.kd * 16 + tb.sl)] ++ obs (tb.cs.take j)) (Sta.f1 (by assumption)) h0 h1 (by simp only [List.length_append, List.length_map, List.length_take, List.length_cons, List.length_nil, obs]; omega) fun h S => ?_
          repeat walk_at "n"
          refine rn_nilQ hQ₃ (TurnEnd.mk (Sta.f1 S) ⟨?_, rfl, hm1, hm2, ?_⟩)
          · rw [List.take_succ, hcv]
            simp [ob]
          · intro c hc9
            rw [List.take_succ, hcv] at hc9
            rcases List.mem_append.mp hc9 with hc9 | hc9
            · exact hfj c hc9
            · simp at hc9
              subst hc9
              exact ⟨h0, h1⟩
      · have h0 : ¬ 0 ≤ cv := by walk_at "ar"
        repeat walk_at "n"
        exact wpN.of (r_segB hE₁ (by walk_at "act") rfl (bad fun z => h0 z.1) hsub2)
    · intro m9 tn9 imm9 h9 t9 hJ S9
      refine anE5 hJ fun hz57 hz58 hm1 hm2 hfj => ?_
      clear hJ
      subst hz57
      subst hz58
      rw [hI.length, List.take_length] at S9 hfj
      repeat walk_at "n"
      refine bytes_bytes ?_
      repeat walk_at "n"
      refine s_bextend S9 (by rw [List.length_append, List.length_append, List.length_map]; simp only [List.length_cons, List.length_nil]; omega) fun h S => ?_
      repeat walk_at "n"
      refine rn_nilQ hQ₂ (TurnEnd.mk (Sta.f1 S) ⟨?_, rfl, hm1, ?_⟩)
      · rw [flat_take htb, TH.enc]
        simp
      · intro t ht
        rw [List.take_succ, htb] at ht
        rcases List.mem_append.mp ht with ht | ht
        · exact hfit t ht
        · simp at ht
          subst ht
          exact ⟨h16, hsum, h256, hfj⟩
  · intro m8 tn8 imm8 h8 t8 hJ S8
    refine anE4 hJ fun hz59 hz60 hm1 hfit => ?_
    clear hJ
    subst hz59
    subst hz60
    rw [List.take_of_length_le (by rw [hD.length]; simp)] at S8 hfit
    repeat walk_at "n"
    refine bytes_barr (S8.get (.head _)) (by have := hlen ts.length; rw [List.take_length] at this; rw [List.size_toArray]; omega) fun t' k' => ?_
    walk_at "back"
    exact fun S => hQ hfit _ _ _ S.drop
end

abbrev fsO (outer : List Env) : List Addr := outer.filterMap (·.frame)
section
variable {K : Frag} {p : Program} {loose : List Str} {mean : ExcName → Option Value} {mg mb : Str → Option Value} {A₀ : Around} {base g g' h₀ H : Heap} {outer : List Env} {env : Env} {L L' : Addr} {m m' : Str → Option Value} {tn' imm' : List (Addr × Obj)}
theorem Cx.turn (C : Cx K p loose mean mg mb A₀ base g outer) (T : KtsTurn (fsO outer) g g') : Cx K p loose mean mg mb A₀ base g' outer :=
  ⟨⟨C.B.stack, fun b o e => T.other b o (C.B.stays b o e) (fun hm => by rw [(C.B.frames.mem hm).1] at e; cases e), C.B.frames.of_keeps fun b o e _ => by
    obtain ⟨sl, hs⟩ := T.up e
    exact ⟨_, hs, rfl⟩⟩, C.XB, C.TB, C.D.turn T⟩
/-- a frame's ground turned: what the caller then has -/
theorem back_turn (C : Cx K p loose mean mg mb A₀ base h₀ outer) (hf : env.frame = some L) (FG : Fr h₀ L g m) (T : KtsTurn (fsO (env :: outer)) g g') (S' : Sta g' L' m' tn' imm' H) : ∃ h₀', KtsTurn (fsO outer) h₀ h₀' ∧ Sta h₀' L m tn' imm' H := by
  have hL : L ∈ fsO (env :: outer) := List.mem_filterMap.mpr ⟨env, .head _, hf⟩
  have hsub : ∀ b ∈ fsO outer, b ∈ fsO (env :: outer) := fun b hb => by
    obtain ⟨e, he, hb⟩ := List.mem_filterMap.mp hb
    exact List.mem_filterMap.mpr ⟨e, .tail _ he, hb⟩
  obtain ⟨T₀, S₀⟩ := kts_turn_at (h := H) (fs := fsO outer) (g := h₀) (fun b hb => let ⟨o, _, _, ho, _⟩ := C.D b hb; ⟨o, ho⟩)
    (fun b o e nm => S'.F.keep b o (T.other b o (FG.keep b o e) (fun hm => (mem_frames hf hm).elim (fun z => by rw [z, kts_self FG] at e; cases e) nm)))
    (fun b o e hm => by
      obtain ⟨sl, hs⟩ := T.frame b o (FG.keep b o e) (hsub b hm)
      exact ⟨sl, S'.F.keep _ _ hs⟩)
  obtain ⟨oL, es, ep, eL, hd, hr⟩ := FG.ns
  obtain ⟨sl, hs⟩ := T.frame L oL eL hL
  refine ⟨_, T₀, ⟨⟨⟨_, es, ep, S'.F.keep _ _ hs, hd, hr⟩, S₀, by rw [T₀.size]; exact FG.above⟩, fun p hp => ⟨(S'.N p hp).1, fun q => ?_, ?_⟩, S'.D⟩⟩
  · have := (S'.N p hp).2.2
    rw [q, hs] at this
    cases this
  · cases q : h₀.get? p.1 with
    | none => exact T₀.none_ _ q
    | some o =>
      obtain ⟨sl, hs⟩ := T.up (FG.keep _ _ q)
      have := (S'.N p hp).2.2
      rw [hs] at this
      cases this
end
/-- the end of a body in which the ground may have turned -/
def BackT (h₀ : Heap) (L : Addr) (m : Str → Option Value) (g : Heap) (outer : List Env) (env : Env) (Q : Value → Shared → Prop) (v : Value) (s' : Shared) : Prop :=
  ∃ g' L' m' tn' imm', KtsTurn (fsO (env :: outer)) g g' ∧ Sta g' L' m' tn' imm' s'.heap ∧ ∀ h₀', KtsTurn (fsO outer) h₀ h₀' → Sta h₀' L m tn' imm' s'.heap → Q v s'
theorem nc_expr {e : Expr} {env : Env} : NC (.expr e env) := fun _ _ _ => rfl
theorem wpN.attempt {α : Type} {M : Model} {A : Around} {E : Value → Shared → Prop} {s : Shared} {m : Sem α} {Q : Except Value α → Shared → Prop} (h : wpN M A m (fun a => Q (.ok a)) (fun e => Q (.error e)) s) : wpN M A m.attempt Q E s := fun Γ p hΓ g n => by
  rw [Sem.wp_attempt]; exact h Γ p hΓ g n
section
variable {prog : Program} {w : World} {p : Program} {loose : List Str} {mean : ExcName → Option Value} {mg mb : Str → Option Value} {A A₀ : Around} {base h₀ h : Heap} {outer : List Env} {env : Env} {L : Addr} {m : Str → Option Value} {tn imm : List (Addr × Obj)} {NE : List (Addr × Obj) → Prop} {n : Nat} {G : Array GenState} {D : Drawn} {t : Nat} {O : OsState}
  {Q E : Value → Shared → Prop} {R : Result → Shared → Prop} {name qual : Str} {params : Arguments} {body : List Stmt} {scope : Scope} {cl : List (Str × Addr)} {dV kV doc pm cdv ct oc cls : Value} {an od : Option Addr} {osl : Array (Option Value)} {f : Addr} {args : List Value} {binds : List (Str × Value)}
/-- a def that never raises, in which the ground may turn -/
theorem codeNT (C : Cx (KH w.params) p loose mean mg mb A₀ base h₀ outer) (S : Sta h₀ L m tn imm h) (hf : env.frame = some L) (hke : env.scope.kind = .function) (hA : A.frames = some (env :: outer)) (hR : Room A (n + 1)) {fo : Obj}
    (ho : h.get? f = some fo) (hd : fo.data = .func (fnX name qual params body scope cl dV kV doc pm an cdv ct)) (hcd : codeIn (KH w.params) cdv qual = true)
    (hbind : bindArgs (fnX name qual params body scope cl dV kV doc pm an cdv ct) ⟨args, []⟩ = pure binds) (hloc : ∀ y ∈ binds, scope.names.lookup y.1 = some .local)
    (hcell : ∀ x ∈ scope.names, x.2 ≠ .cell) (hco : scope.isCoroutine = false) (hgen : scope.isGenerator = false) (hk : scope.kind = .function)
    (hb : ∀ g L' h₁ t₁, Act w p loose mean mg mb A base g (env :: outer) (envX qual scope L' f cdv cl) L' (fun y => binds.reverse.lookup y) tn imm h₁ n →
      wpN (model prog w) (A.deeper (envX qual scope L' f cdv cl)) (execs body (envX qual scope L' f cdv cl))
        (fun fl s' => BackT h₀ L m g outer env (fun v s' => R (.ok (.ret v)) s') (fv fl) s') (fun _ _ => False) ⟨h₁, G, D, t₁, O⟩) :
    codeN (model prog w) A (.call (.ref f) ⟨args, []⟩) R ⟨h, G, D, t, O⟩ := by
  obtain ⟨FG, BG, st, _⟩ := groundX (s := ⟨h, G, D, t, O⟩) (R := R) C.B S.F S.N hA hf hke
  have hcd' : h.CodeRec cdv qual := codeRec_of (C.X.keeps S.F.keep) hcd
  refine codeN_call_function (fd := fnX name qual params body scope cl dV kV doc pm an cdv ct) (body := body) hR.deep ho hd hco hgen rfl hcd' (BindsTo.of_eq (s := ⟨h, G, D, t, O⟩) hbind _ _ _ _ ?_)
  refine wpAny_newFunctionEnv hcell hloc (fun h₁ hns hsb => ⟨(C.T.nolimit.keeps S.F.keep).fresh _ hsb, codeN_func ?_⟩) hk
  have hk₁ : ∀ b o, h.get? b = some o → h₁.get? b = some o := fun b o e => hsb.extBut b o (Nat.ne_of_lt (Heap.lt_size e)) (Heap.get?_push_of_some _ e)
  have C' : Cx (KH w.params) p loose mean mg mb A base (hideAll h ((tn ++ imm).map (·.1))) (env :: outer) := ⟨BG, C.XB, C.TB, fun b hb => by
      rcases mem_frames hf hb with rfl | hb
      · obtain ⟨o, es, ep, ho, hd, _⟩ := FG.ns
        exact ⟨o, es, ep, ho, hd⟩
      · obtain ⟨o, es, n, ho, hd⟩ := C.D b hb
        exact ⟨o, es, n, FG.keep b o ho, hd⟩⟩
  refine wpN.mono (hb _ h.objs.size h₁ _ ⟨C', ⟨⟨hns, fun b o e => hk₁ b o (of_hideAll _ e), Nat.le_of_eq (hideAll_size _ _)⟩, fun p hp => ⟨hk₁ _ _ (S.N p hp).1, Nat.ne_of_lt (Heap.lt_size (S.N p hp).1), hideAll_none _ (List.mem_map_of_mem hp)⟩, S.D⟩, rfl, hk, hR.deeper⟩) (fun fl s' hl => ?_) fun _ _ x => x.elim
  obtain ⟨g', L'', m', tn', imm', T, S', k⟩ := hl
  obtain ⟨h₀', T₀, S₀⟩ := back_turn C hf FG T S'
  cases fl <;> exact k h₀' T₀ S₀
/-- .. with cells -/
theorem codeNTC (C : Cx (KH w.params) p loose mean mg mb A₀ base h₀ outer) (S : Sta h₀ L m tn imm h) (hf : env.frame = some L) (hke : env.scope.kind = .function) (hA : A.frames = some (env :: outer)) (hR : Room A (n + 1)) {fo : Obj}
    (ho : h.get? f = some fo) (hd : fo.data = .func (fnX name qual params body scope [] dV kV doc pm an cdv ct)) (hcd : codeIn (KH w.params) cdv qual = true)
    (hbind : bindArgs (fnX name qual params body scope [] dV kV doc pm an cdv ct) ⟨args, []⟩ = pure binds)
    (hkind : ∀ n, ∀ x ∈ binds, scope.names.lookup x.1 = some .local ∨ (scope.names.lookup x.1 = some .cell ∧ ((cellsFrom n scope.names []).lookup x.1).isSome = true))
    (hnd : ((cellsFrom 0 scope.names []).map (·.1)).Nodup) (hco : scope.isCoroutine = false) (hgen : scope.isGenerator = false) (hk : scope.kind = .function)
    (hb : ∀ g L' h₁ t₁ cells, CellsAre (bindC (envOfC qual scope L' f cdv).kindOf binds fun _ => none) (cellsFrom (L' + 1) scope.names []) cells → (∀ p ∈ tn ++ imm, p.1 < L') →
      Cx (KH w.params) p loose mean mg mb A base g (env :: outer) → Fr g L' h₁ (bindL (envOfC qual scope L' f cdv).kindOf binds fun _ => none) → News g L' h₁ (cells ++ (tn ++ imm)) → Sep tn imm → Room (A.deeper (envX qual scope L' f cdv (cellsFrom (L' + 1) scope.names []))) n →
      wpN (model prog w) (A.deeper (envX qual scope L' f cdv (cellsFrom (L' + 1) scope.names []))) (execs body (envX qual scope L' f cdv (cellsFrom (L' + 1) scope.names [])))
        (fun fl s' => BackT h₀ L m g outer env (fun v s' => R (.ok (.ret v)) s') (fv fl) s') (fun _ _ => False) ⟨h₁, G, D, t₁, O⟩) :
    codeN (model prog w) A (.call (.ref f) ⟨args, []⟩) R ⟨h, G, D, t, O⟩ := by
  obtain ⟨FG, BG, st, _⟩ := groundX (s := ⟨h, G, D, t, O⟩) (R := R) C.B S.F S.N hA hf hke
  have hcd' : h.CodeRec cdv qual := codeRec_of (C.X.keeps S.F.keep) hcd
  refine codeN_call_function (fd := fnX name qual params body scope [] dV kV doc pm an cdv ct) (body := body) hR.deep ho hd hco hgen rfl hcd' (BindsTo.of_eq (s := ⟨h, G, D, t, O⟩) hbind _ _ _ _ ?_)
  refine wpAny_newFunctionEnv_cells hk (hkind _) fun env' he s' x => ?_
  subst he
  refine ⟨(C.T.nolimit.keeps S.F.keep).keeps x.toInCall.keep, codeN_func ?_⟩
  obtain ⟨h₁, tk, rfl, _⟩ := x.done
  have hk₁ := x.toInCall.keep
  obtain ⟨cells, NC, Y⟩ := Cl.news (h₀ := h) (Nat.le_refl _) fun n c hm => ⟨x.cell n c (lookup_of_mem_nodup (cellsFrom_names scope.names 0 (h.objs.size + 1) [] [] rfl ▸ hnd) hm), x.above n c hm⟩
  have C' : Cx (KH w.params) p loose mean mg mb A base (hideAll h ((tn ++ imm).map (·.1))) (env :: outer) := ⟨BG, C.XB, C.TB, fun b hb => by
      rcases mem_frames hf hb with rfl | hb
      · obtain ⟨o, es, ep, ho, hd, _⟩ := FG.ns
        exact ⟨o, es, ep, ho, hd⟩
      · obtain ⟨o, es, n, ho, hd⟩ := C.D b hb
        exact ⟨o, es, n, FG.keep b o ho, hd⟩⟩
  refine wpN.mono (hb _ h.objs.size h₁ tk cells Y (fun p hp => Heap.lt_size (S.N p hp).1) C' ⟨x.toInCall.ns, fun b o e => hk₁ b o (of_hideAll _ e), Nat.le_of_eq (hideAll_size _ _)⟩ (fun p hp => ?_) S.D hR.deeper) (fun fl s' hl => ?_) fun _ _ x => x.elim
  · rcases List.mem_append.mp hp with hp | hp
    · refine ⟨(NC p hp).1, (NC p hp).2.1, ?_⟩
      cases q : (hideAll h ((tn ++ imm).map (·.1))).get? p.1 with
      | none => rfl
      | some o => have := of_hideAll _ q; rw [(NC p hp).2.2] at this; cases this
    · exact ⟨hk₁ _ _ (S.N p hp).1, Nat.ne_of_lt (Heap.lt_size (S.N p hp).1), hideAll_none _ (List.mem_map_of_mem hp)⟩
  obtain ⟨g', L'', m', tn', imm', T, S', k⟩ := hl
  obtain ⟨h₀', T₀, S₀⟩ := back_turn C hf FG T S'
  cases fl <;> exact k h₀' T₀ S₀
/-- a lambda's body -/
theorem codeN_expr {e : Expr} {env : Env}
    (h : wpN (model prog w) (A.deeper env) (eval e env) (fun v s' => R (.ok (.ret v)) s')
      (fun e' s' => wpAny (model prog w) (A.deeper env) (leaving env e') (fun _ s'' => R (.error e') s'') (fun e'' s'' => R (.error e'') s'') s') s) :
    codeN (model prog w) A (.expr e env) R s := by
  refine codeN.of_tree nc_expr ?_
  show wpN _ (A.deeper env) (do point; ret (← (eval e env).onRaise (leaving env))) _ _ s
  exact wpN.bind (wpN.of (wpAny_point (wpN.bind (wpN.onRaise (wpN.mono h (fun v s' h' => wpN.pure h') fun _ _ h' => h')))))
theorem codeN_callFunE {s : Shared} {a : Addr} {args : Args} {o : Obj} {fd : FuncData} {body : Expr} (hroom : A.depth < recursionLimit) (ho : s.heap.get? a = some o)
    (hd' : o.data = .func fd) (hco : fd.scope.isCoroutine = false) (hgen : fd.scope.isGenerator = false) (hbody : fd.body = .expr body) (hcd : s.heap.CodeRec fd.code fd.qualname)
    (h : wpAny (model prog w) A.in1 (bindArgs fd args) (fun binds s₁ =>
      wpAny (model prog w) A.in1 (newFunctionEnv fd.scope fd.globals fd.closure binds (fd.qualname ++ ".<locals>.") (some a) fd.code none fd.builtins)
        (fun env s₂ => s₂.heap.NoLimit ∧ codeN (model prog w) A (.expr body env) R s₂) (fun e s' => R (.error e) s') s₁) (fun e s' => R (.error e) s') s) :
    codeN (model prog w) A (.call (.ref a) args) R s := by
  refine codeN.of_tree nc_call (wpN.of ?_)
  show wpAny _ A.in1 (callAny (.ref a) args) _ _ s
  simp only [callAny]
  refine wpAny_bind (wpAny_load ho ?_)
  obtain ⟨c, oc, vs, tq, hc, hoc, hdc, hq⟩ := hcd
  simp only [hd', callFunction, hco, hgen, hbody, hc]
  rw [hc] at h
  refine wpAny_bind (m := field (.ref c) 1) (wpAny_field hoc hdc hq (wpAny_bind (wpAny_pure ?_)))
  exact wpAny_bind (wpAny_mono h (fun binds s₁ h₁ => wpAny_bind (wpAny_mono h₁ (fun env s₂ h₂ => wpAny_bind (wpAny_enterFrame h₂.1 hroom
    (wpAny_pure (And.intro rfl h₂.2)))) fun _ _ h' => h')) fun _ _ h' => h')
/-- a lambda called, from whatever stands over the frame env -/
theorem lamN {body : Expr} {c' : Addr} {ctv : Value} (C : Cx (KH w.params) p loose mean mg mb A₀ base h₀ outer) (S : Sta h₀ L m tn imm h) (hf : env.frame = some L) (hke : env.scope.kind = .function) (hA : A.frames = some (env :: outer)) (hR : Room A (n + 1))
    (ho : (f, kla_obj name qual params body scope cl pm c' ctv) ∈ tn ++ imm) (hcd : h.CodeRec (.ref c') qual)
    (hbind : bindArgs (kla_fn name qual params body scope cl pm (.ref c') ctv) ⟨args, []⟩ = pure binds) (hloc : ∀ y ∈ binds, scope.names.lookup y.1 = some .local)
    (hcell : ∀ x ∈ scope.names, x.2 ≠ .cell) (hco : scope.isCoroutine = false) (hgen : scope.isGenerator = false) (hk : scope.kind = .function)
    (hE : ∀ e h' tk news', NE news' → Thrown base h₀ env outer L cls news' e h' → R (.error e) ⟨h', G, D, tk, O⟩)
    (hb : ∀ g L' h₁ t₁, Act w p loose mean mg mb A base g (env :: outer) (envX qual scope L' f (.ref c') cl) L' (fun y => binds.reverse.lookup y) tn imm h₁ n →
      wpN (model prog w) (A.deeper (envX qual scope L' f (.ref c') cl)) (eval body (envX qual scope L' f (.ref c') cl))
        (fun v s' => Back h₀ L m g (fun v s' => R (.ok (.ret v)) s') v s') (Flew base g (envX qual scope L' f (.ref c') cl) (env :: outer) L' cls NE G D O) ⟨h₁, G, D, t₁, O⟩) :
    codeN (model prog w) A (.call (.ref f) ⟨args, []⟩) R ⟨h, G, D, t, O⟩ := by
  obtain ⟨FG, BG, st, lv⟩ := groundX (s := ⟨h, G, D, t, O⟩) (R := R) C.B S.F S.N hA hf hke
  refine codeN_callFunE hR.deep (S.N _ ho).1 rfl hco hgen rfl hcd ?_
  rw [hbind]
  refine wpAny_pure (wpAny_newFunctionEnv hcell hloc (fun h₁ hns hsb => ⟨(C.T.nolimit.keeps S.F.keep).fresh _ hsb, ?_⟩) hk)
  show codeN _ _ (.expr body (envX qual scope h.objs.size f (.ref c') cl)) _ _
  have hk₁ : ∀ b o, h.get? b = some o → h₁.get? b = some o := fun b o e => hsb.extBut b o (Nat.ne_of_lt (Heap.lt_size e)) (Heap.get?_push_of_some _ e)
  have C' : Cx (KH w.params) p loose mean mg mb A base (hideAll h ((tn ++ imm).map (·.1))) (env :: outer) := ⟨BG, C.XB, C.TB, fun b hb => by
      rcases mem_frames hf hb with rfl | hb
      · obtain ⟨o, es, ep, ho, hd, _⟩ := FG.ns
        exact ⟨o, es, ep, ho, hd⟩
      · obtain ⟨o, es, n, ho, hd⟩ := C.D b hb
        exact ⟨o, es, n, FG.keep b o ho, hd⟩⟩
  refine codeN_expr (wpN.mono (hb _ h.objs.size h₁ _ ⟨C', ⟨⟨hns, fun b o e => hk₁ b o (of_hideAll _ e), Nat.le_of_eq (hideAll_size _ _)⟩, fun p hp => ⟨hk₁ _ _ (S.N p hp).1, Nat.ne_of_lt (Heap.lt_size (S.N p hp).1), hideAll_none _ (List.mem_map_of_mem hp)⟩, S.D⟩, rfl, hk, hR.deeper⟩) (fun v s' hl => ?_) fun e s' ho => ?_)
  · obtain ⟨L'', m', tn', imm', S', k⟩ := hl
    exact lv v s' ⟨L'', m', tn' ++ imm', S'.F, S'.N, fun F N => k ⟨F, N, S'.D⟩⟩
  · obtain ⟨h', tk, news', rfl, hs, T⟩ := ho
    refine leaveT (L := h.objs.size) C' rfl hk T fun h'' ea he R' U' => ?_
    exact hE _ _ _ _ hs ⟨ea, he, .inr (.inl ⟨_, m, FG, R', U'⟩)⟩
theorem callNT (Z : Act w p loose mean mg mb A₀ base h₀ outer env L m tn imm h (n + 1))
    (ho : (KH w.params).lookup f = some ⟨oc, od, .func (fnX name qual params body scope cl dV kV doc pm an cdv ct), osl⟩) (hcd : codeIn (KH w.params) cdv qual = true)
    (hbind : bindArgs (fnX name qual params body scope cl dV kV doc pm an cdv ct) ⟨args, []⟩ = pure binds) (hloc : ∀ y ∈ binds, scope.names.lookup y.1 = some .local)
    (hcell : ∀ x ∈ scope.names, x.2 ≠ .cell) (hco : scope.isCoroutine = false) (hgen : scope.isGenerator = false) (hk : scope.kind = .function)
    (hb : ∀ g L' h₁ t₁, Act w p loose mean mg mb (A₀.deeper env) base g (env :: outer) (envX qual scope L' f cdv cl) L' (fun y => binds.reverse.lookup y) tn imm h₁ n →
      wpN (model prog w) ((A₀.deeper env).deeper (envX qual scope L' f cdv cl)) (execs body (envX qual scope L' f cdv cl))
        (fun fl s' => BackT h₀ L m g outer env Q (fv fl) s') (fun _ _ => False) ⟨h₁, G, D, t₁, O⟩) :
    wpN (model prog w) (A₀.deeper env) (call (.ref f) args) Q E ⟨h, G, D, t, O⟩ :=
  wpN.call (codeNT Z.C Z.S Z.hf Z.hk Z.C.frames Z.R ((Z.C.X.keeps Z.S.F.keep) _ _ ho) rfl hcd hbind hloc hcell hco hgen hk hb)
theorem callNTC (Z : Act w p loose mean mg mb A₀ base h₀ outer env L m tn imm h (n + 1))
    (ho : (KH w.params).lookup f = some ⟨oc, od, .func (fnX name qual params body scope [] dV kV doc pm an cdv ct), osl⟩) (hcd : codeIn (KH w.params) cdv qual = true)
    (hbind : bindArgs (fnX name qual params body scope [] dV kV doc pm an cdv ct) ⟨args, []⟩ = pure binds)
    (hkind : ∀ n, ∀ x ∈ binds, scope.names.lookup x.1 = some .local ∨ (scope.names.lookup x.1 = some .cell ∧ ((cellsFrom n scope.names []).lookup x.1).isSome = true))
    (hnd : ((cellsFrom 0 scope.names []).map (·.1)).Nodup) (hco : scope.isCoroutine = false) (hgen : scope.isGenerator = false) (hk : scope.kind = .function)
    (hb : ∀ g L' h₁ t₁ cells, CellsAre (bindC (envOfC qual scope L' f cdv).kindOf binds fun _ => none) (cellsFrom (L' + 1) scope.names []) cells → (∀ p ∈ tn ++ imm, p.1 < L') →
      Cx (KH w.params) p loose mean mg mb (A₀.deeper env) base g (env :: outer) → Fr g L' h₁ (bindL (envOfC qual scope L' f cdv).kindOf binds fun _ => none) → News g L' h₁ (cells ++ (tn ++ imm)) → Sep tn imm → Room ((A₀.deeper env).deeper (envX qual scope L' f cdv (cellsFrom (L' + 1) scope.names []))) n →
      wpN (model prog w) ((A₀.deeper env).deeper (envX qual scope L' f cdv (cellsFrom (L' + 1) scope.names []))) (execs body (envX qual scope L' f cdv (cellsFrom (L' + 1) scope.names [])))
        (fun fl s' => BackT h₀ L m g outer env Q (fv fl) s') (fun _ _ => False) ⟨h₁, G, D, t₁, O⟩) :
    wpN (model prog w) (A₀.deeper env) (call (.ref f) args) Q E ⟨h, G, D, t, O⟩ :=
  wpN.call (codeNTC Z.C Z.S Z.hf Z.hk Z.C.frames Z.R ((Z.C.X.keeps Z.S.F.keep) _ _ ho) rfl hcd hbind hkind hnd hco hgen hk hb)
end

theorem wpN_tryStmt {M : Model} {A : Around} {E : Value → Shared → Prop} {s : Shared} {env : Env} {body orelse : Sem Flow} {h₀ : ExceptHandler} {hs : List ExceptHandler} {Q : Flow → Shared → Prop}
    (h : wpN M A body (fun f s₁ => match f with | .next => wpN M A orelse Q E s₁ | f => Q f s₁)
      (fun e s₁ => wpAny M A (noteFrame e env) (fun _ s₂ => wpAny M A (setFlight e none) (fun _ s₃ => wpAny M A (handleBy e env (h₀ :: hs)) Q E s₃) E s₂) E s₁) s) :
    wpN M A (tryStmt false body (h₀ :: hs) orelse [] env) Q E s := by
  unfold tryStmt
  simp only [List.isEmpty_nil, if_true, List.isEmpty_cons, Bool.false_and, Bool.false_eq_true, if_false]
  refine wpN.bind (wpN.attempt (wpN.mono h (fun f s₁ h₁ => ?_) fun e s₁ h₁ => ?_))
  · cases f <;> first | exact h₁ | exact wpN.pure h₁
  · exact wpN.of (wpAny_bind (wpAny_mono h₁ (fun _ _ h₂ => wpAny_bind h₂) fun _ _ x => x))
/-- what a call of f without arguments does: it ends as R says, or raises SegmentError -/
def Does (prog : Program) (w : World) (p : Program) (loose : List Str) (mean : ExcName → Option Value) (mg mb : Str → Option Value) (f : Value) (tn imm : List (Addr × Obj)) (n : Nat) (G : Array GenState) (D : Drawn) (O : OsState) (ok : Prop) (R : Value → List (Addr × Obj) → List (Addr × Obj) → Prop) : Prop :=
  ∀ (A₀ : Around) (base h₀ h : Heap) (outer : List Env) (env : Env) (L : Addr) (m : Str → Option Value) (t : Nat) (Q E : Value → Shared → Prop), Act w p loose mean mg mb A₀ base h₀ outer env L m tn imm h n →
    (ok → ∀ v tn' imm' h' t', R v tn' imm' → Sta h₀ L m tn' imm' h' → Q v ⟨h', G, D, t', O⟩) →
    (¬ ok → ∀ e h' tk, Thrown base h₀ env outer L (.ref 44) (tn ++ imm) e h' → E e ⟨h', G, D, tk, O⟩) →
    wpN (model prog w) (A₀.deeper env) (call f []) Q E ⟨h, G, D, t, O⟩
section
variable {prog : Program} {w : World} {p : Program} {loose : List Str} {mean : ExcName → Option Value} {mg mb : Str → Option Value} {A A₀ : Around} {base h₀ h : Heap} {outer : List Env} {env : Env} {L : Addr} {m : Str → Option Value} {tn imm : List (Addr × Obj)} {n : Nat} {G : Array GenState} {D : Drawn} {t : Nat} {O : OsState}
  {Q E : Value → Shared → Prop} {f : Addr} {ok : Prop} {RR : Value → List (Addr × Obj) → List (Addr × Obj) → Prop}
theorem callWithN_F0 {M : Model} {s : Shared} {pos : Pos} {q : Addr} (X : FnAt q s.heap) (h : wpN M A (call (.ref q) []) Q E s) : wpN M A (callWith pos (.ref q) [] (backTo pos (starEach [] env)) []) Q E s :=
  callWithN (P := FnAt q) rfl keeps_F (evalArgs_nil3 ⟨X, h⟩)
/-- _law_heard(call) -/
theorem c_heard {fd : FuncData} {fo : Obj} (Z : Act w p loose mean mg mb A₀ base h₀ outer env L m tn imm h (n + 1)) (hf : (f, fo) ∈ tn ++ imm) (hfd : fo.data = .func fd) (H : Does prog w p loose mean mg mb (.ref f) tn imm n G D O ok RR)
    (hQ1 : ok → ∀ h₀' v tn' imm' h' t', KtsTurn (fsO outer) h₀ h₀' → RR v tn' imm' → Sta h₀' L m tn' imm' h' → Q v ⟨h', G, D, t', O⟩)
    (hQ2 : ¬ ok → ∀ h₀' u h' t', KtsTurn (fsO outer) h₀ h₀' → Sta h₀' L m tn imm h' → Q (.str "refused" u) ⟨h', G, D, t', O⟩) :
    wpN (model prog w) (A₀.deeper env) (call (.ref 266) [.ref f]) Q E ⟨h, G, D, t, O⟩ := by
  refine' callNT (binds := [("call", .ref f)]) Z ?k1 ?k2 ?k3 ?k4 ?k5 ?k6 ?k7 ?k8 ?_
  case k1 => k_is
  case k2 => k_is
  case k3 => exact rfl
  case k4 => exact locs rfl
  case k5 => decide
  case k6 => exact rfl
  case k7 => exact rfl
  case k8 => exact rfl
  intro g L' h₁ t₁ Z'
  have C := Z'.C
  have S := Z'.S
  have hf' := Z'.hf
  have hk' := Z'.hk
  have R := Z'.R
  refine rn_cons ?_
  rw [arm_exec_Try]
  refine wpN.bind (wpN.standAt (wpN_tryStmt ?_))
  refine rn_retN (en_call ?_)
  repeat walk_at "n"
  have hFn : FnAt f h₁ := by
    obtain ⟨oc, od, ot, osl⟩ := fo
    dsimp only at hfd
    subst hfd
    exact FnAt.of S.N hf
  refine callWithN_F0 hFn (H _ _ _ _ _ _ _ _ _ _ _ ⟨C, S, hf', hk', R⟩ (fun hok v tn' imm' h' t' hR S => ?_) fun hno e h' tk T => ?_)
  · exact ⟨g, L', _, tn', imm', KtsTurn.refl, S, fun h₀' T₀ S₀ => hQ1 hok h₀' v tn' imm' h' t' T₀ hR S₀⟩
  · refine noteT C C.frames hf' hk' T fun h₂ ea g₂ m₂ he FF R₂ U => ?_
    subst he
    obtain ⟨B, a0, hB, hBG, hl, hheld⟩ := R₂
    refine wpAny_landsW hheld fun h₃ hfl x2 => ?_
    refine hit_SN0 ⟨B, a0, hB, hBG, hl, hfl⟩ FF C.B (U.trans x2) C.XB C.TB C.D KtsTurn.refl (test_name (c := .ref 44) (.inl (by kernel_rfl)) (by kernel_rfl) rfl rfl (by decide)) (fun h' g' T' F' N' B' X' P' D' => ?_) ?_
    · refine r_ret (e_str ?_)
      exact ⟨g', L', m₂, tn, imm, T', ⟨F', N', S.D⟩, fun h₀' T₀ S₀ => hQ2 hno h₀' _ _ _ T₀ S₀⟩
    · intro e s hx
      exact hx.elim
end

theorem triples_snoc {pos : Pos} {c : Value} : ∀ {l : List Value}, TriplesOk l → TriplesOk (l ++ [rawInt pos.line, rawInt pos.col, c]) := by
  intro l h
  fun_induction TriplesOk l with
  | case1 => simp [TriplesOk, rawInt]
  | case2 a t b u x rest ih =>
    simp only [List.cons_append, TriplesOk] at h ⊢
    exact ih h
  | case3 => exact h.elim
theorem among_snoc {pos pos' : Pos} {c d : Value} : ∀ {l : List Value}, TriplesOk l → codeAmong pos' (l ++ [rawInt pos.line, rawInt pos.col, c]) = some d → codeAmong pos' l = some d ∨ d = c := by
  intro l h
  fun_induction TriplesOk l with
  | case1 =>
    intro e
    simp only [List.nil_append, rawInt, codeAmong] at e
    split at e
    · exact .inr (Option.some.inj e).symm
    · cases e
  | case2 a t b u x rest ih =>
    intro e
    simp only [List.cons_append, codeAmong] at e ⊢
    split
    · rename_i hc
      rw [if_pos hc] at e
      exact .inl e
    · rename_i hc
      rw [if_neg hc] at e
      exact ih h e
  | case3 => exact h.elim
/-- a table of code records, all of them standing and of one name -/
def Tab (qual : Str) (ps : Array Value) (imm : List (Addr × Obj)) : Prop :=
  TriplesOk ps.toList ∧ ∀ pos c, codeAmong pos ps.toList = some c → ∃ c' oc vs t, c = .ref c' ∧ (c', oc) ∈ imm ∧ oc.data = .fields vs ∧ vs[1]? = some (.str qual t)
theorem Tab.nil {qual : Str} {imm : List (Addr × Obj)} : Tab qual #[] imm := ⟨trivial, fun _ _ e => by cases e⟩
theorem Tab.mono {qual : Str} {ps : Array Value} {imm imm' : List (Addr × Obj)} (T : Tab qual ps imm) (hs : ∀ q ∈ imm, q ∈ imm') : Tab qual ps imm' :=
  ⟨T.1, fun pos c e => let ⟨c', oc, vs, t, a, b, d⟩ := T.2 pos c e; ⟨c', oc, vs, t, a, hs _ b, d⟩⟩
/-- a code record that stands -/
def Rec (qual : Str) (c' : Addr) (imm : List (Addr × Obj)) : Prop := ∃ oc vs t, (c', oc) ∈ imm ∧ oc.data = .fields vs ∧ vs[1]? = some (.str qual t)
theorem Rec.mono {qual : Str} {c' : Addr} {imm imm' : List (Addr × Obj)} (R : Rec qual c' imm) (hs : ∀ q ∈ imm, q ∈ imm') : Rec qual c' imm' :=
  let ⟨oc, vs, t, a, b⟩ := R; ⟨oc, vs, t, hs _ a, b⟩
section
variable {h₀ h h' : Heap} {L x : Addr} {o o' : Obj} {m : Str → Option Value} {tn imm : List (Addr × Obj)}
theorem Rec.code {qual : Str} {c' : Addr} (R : Rec qual c' imm) (S : Sta h₀ L m tn imm h) : h.CodeRec (.ref c') qual :=
  let ⟨oc, vs, t, a, b, d⟩ := R
  codeRec_news S.N (List.mem_append_right _ a) b d
theorem Sta.addImm (S : Sta h₀ L m tn imm h) (hx : h.get? x = some o) (hL : x ≠ L) (hn : h₀.get? x = none) (hs : ∀ p ∈ tn, p.1 ≠ x) : Sta h₀ L m tn ((x, o) :: imm) h :=
  ⟨S.F, fun p hp => by
    rcases List.mem_append.mp hp with q | q
    · exact S.N p (List.mem_append_left _ q)
    · rcases List.mem_cons.mp q with rfl | q
      · exact ⟨hx, hL, hn⟩
      · exact S.N p (List.mem_append_right _ q), Sep.addImm hs S.D⟩
end
section
variable {K : Frag} {M : Model} {A A₀ : Around} {E : Value → Shared → Prop} {h₀ h base : Heap} {outer : List Env} {L a c P : Addr} {m mg mb : Str → Option Value} {tn imm : List (Addr × Obj)} {env : Env} {G : Array GenState} {D : Drawn} {t : Nat} {O : OsState}
  {p : Program} {loose : List Str} {mean : ExcName → Option Value} {qual : Str} {params : Arguments} {body : Expr} {scope : Scope} {ps : Array Value} {pos : Pos} {clos : List (Str × Addr)} {Q : Value → Shared → Prop}
/-- a lambda made -/
theorem s_lambda (Cc : Cx K p loose mean mg mb A₀ base h₀ outer) (S : Sta h₀ L m ((P, tabObj ps) :: tn) imm h) (T : Tab qual ps imm) (HC : CodeHd base c P) (hcode : env.code = .ref c) (hge : env.globals = mainGlobals) (hqu : env.qual ++ "<lambda>" = qual)
    (hdef : defaultsOf params env = ([], [])) (hcl : closureFor scope env = pure clos)
    (hq : ∀ f c' ctv ps' imm' h' t', Sta h₀ L m ((P, tabObj ps') :: tn) ((f, kla_obj "<lambda>" qual params body scope clos ((mg "__name__").getD .none) c' ctv) :: imm') h' → (∀ q ∈ imm, q ∈ imm') → Tab qual ps' imm' → Rec qual c' imm' → Q (.ref f) ⟨h', G, D, t', O⟩) :
    wpAny M A (eval (.Lambda params body scope pos) env) Q E ⟨h, G, D, t, O⟩ := by
  refine kla_eval hdef ?_
  rw [hqu]
  have F := S.F
  have hm := S.N _ (.head _)
  have hgs := Cc.T.g.keeps F.keep
  obtain ⟨bm, ob, b1, b2, b3, b4, b5, b6⟩ := Cc.T.bmain
  have hgP : mainGlobals ≠ P := fun q => by
    obtain ⟨o, es, ep, e, hd, _⟩ := hgs
    rw [q, hm.1] at e; cases e; cases hd
  have hbP : bm ≠ P := fun q => by
    have e := F.keep _ _ b3
    rw [q, hm.1] at e; cases e; cases b4
  have hbG : bm ≠ mainGlobals := fun q => by
    obtain ⟨o, es, ep, e, hd, _⟩ := Cc.T.g
    rw [q, e] at b3; cases b3; rw [hd] at b6; cases b6
  have HC' : CodeHd h c P := (HC.keeps Cc.B.stays).keeps F.keep
  cases hca : codeAmong pos ps.toList with
  | none =>
    refine kla_makeFunction (mg := mg) (s := ⟨h, G, D, t, O⟩) hcl hge hgs hcode HC' hm.1 T.1 hca hgP ⟨bm, ob, b1, b2, hbG, hbP, F.keep _ _ b3, b4, b5, b6⟩ fun c' ctv h' tk hx hgc hlt hrec htb => ?_
    obtain ⟨c₂, oc, vs, t₂, e2, hoc, hd, hv⟩ := hrec
    cases e2
    have hLs : L < h.objs.size := F.ns.lt
    have S1 := S.turn (fun b o hb e => hx b o hb e) htb
    have hcP : ∀ p ∈ (P, tabObj (ps ++ #[rawInt pos.line, rawInt pos.col, .ref c'])) :: tn, p.1 ≠ c' := fun p hp => by
      rcases List.mem_cons.mp hp with rfl | hp
      · exact Nat.ne_of_lt (Nat.lt_of_lt_of_le (Heap.lt_size hm.1) hgc)
      · exact Nat.ne_of_lt (Nat.lt_of_lt_of_le (S.lt p (List.mem_append_left _ (.tail _ hp))) hgc)
    have S2 := S1.addImm hoc (Nat.ne_of_gt (Nat.lt_of_lt_of_le hLs hgc)) (Heap.get?_none_of_le (Nat.le_trans F.above (Nat.le_of_lt (Nat.lt_of_lt_of_le hLs hgc)))) hcP
    refine hq _ c' ctv _ _ _ _ (S2.newImm _) (fun q hq => .tail _ hq) ⟨?_, fun pos' d e => ?_⟩ ⟨oc, vs, t₂, .head _, hd, hv⟩
    · rw [Array.toList_append]
      exact triples_snoc T.1
    · rw [Array.toList_append] at e
      rcases among_snoc T.1 e with e | rfl
      · obtain ⟨c₃, oc₃, vs₃, t₃, x1, x2, x3⟩ := T.2 _ _ e
        exact ⟨c₃, oc₃, vs₃, t₃, x1, .tail _ x2, x3⟩
      · exact ⟨c', oc, vs, t₂, rfl, .head _, hd, hv⟩
  | some cv =>
    obtain ⟨c', oc, vs, t₂, rfl, x2, x3, x4⟩ := T.2 _ _ hca
    refine kla_makeFunctionHit (mg := mg) (s := ⟨h, G, D, t, O⟩) hcl hge hgs hcode HC' hm.1 T.1 hca ⟨bm, ob, b1, b2, hbG, hbP, F.keep _ _ b3, b4, b5, b6⟩ fun ctv h' tk hk hsz => ?_
    exact hq _ c' ctv _ _ _ _ ((S.keeps hk).newImm _) (fun q hq => hq) T ⟨oc, vs, t₂, x2, x3, x4⟩
end
section
variable {prog : Program} {M : Model} {w : World} {A : Around} {h₀ h : Heap} {L : Addr} {m : Str → Option Value} {tn imm : List (Addr × Obj)} {G : Array GenState} {D : Drawn} {t : Nat} {O : OsState}
  {E : Value → Shared → Prop} {qual : Str} {scope : Scope} {cl : List (Str × Addr)} {cdv v : Value} {f c : Addr} {o : Obj}
theorem s_storeC {y : Str} {v₀ : Option Value} {Q : Unit → Shared → Prop} (S : Sta h₀ L m ((c, o) :: tn) imm h) (hc : cl.lookup y = some c) (hd : o.data = .cell v₀) (hk : scope.kind = .function) (hx : (envX qual scope L f cdv cl).kindOf y = some .cell)
    (hq : ∀ o' h', o'.data = .cell (some v) → Sta h₀ L m ((c, o') :: tn) imm h' → Q () ⟨h', G, D, t, O⟩) : wpAny M A (storeName (envX qual scope L f cdv cl) y v) Q E ⟨h, G, D, t, O⟩ := by
  refine wpAny_storeName_cell hk hx hc ⟨o, S.get (.head _), hd⟩ fun h' hv hs => ?_
  obtain ⟨o', ho', hd'⟩ := hv
  exact hq o' h' hd' (S.turn (fun b ob hb e => (hs.2 b hb).trans e) ho')
/-- cells ahead of what stands below -/
theorem sep_c1 {c₁ : Addr} {o₁ : Obj} {L : Addr} (lt : ∀ p ∈ tn ++ imm, p.1 < L) (D : Sep tn imm) (h1 : L < c₁) : Sep ((c₁, o₁) :: tn) imm :=
  ⟨fun p hp => Nat.ne_of_lt (Nat.lt_trans (lt p hp) h1), D⟩
theorem sep_c2 {c₁ c₂ : Addr} {o₁ o₂ : Obj} {L : Addr} (lt : ∀ p ∈ tn ++ imm, p.1 < L) (D : Sep tn imm) (h1 : L < c₁) (h2 : L < c₂) (h12 : c₂ ≠ c₁) : Sep ((c₁, o₁) :: (c₂, o₂) :: tn) imm :=
  ⟨fun p hp => (List.mem_cons.mp hp).elim (fun q => by rw [q]; exact h12) fun q => Nat.ne_of_lt (Nat.lt_trans (lt p q) h1), sep_c1 lt D h2⟩
theorem sep_c3 {c₁ c₂ c₃ : Addr} {o₁ o₂ o₃ : Obj} {L : Addr} (lt : ∀ p ∈ tn ++ imm, p.1 < L) (D : Sep tn imm) (h1 : L < c₁) (h2 : L < c₂) (h3 : L < c₃) (h12 : c₂ ≠ c₁) (h13 : c₃ ≠ c₁) (h23 : c₃ ≠ c₂) : Sep ((c₁, o₁) :: (c₂, o₂) :: (c₃, o₃) :: tn) imm :=
  ⟨fun p hp => (List.mem_cons.mp hp).elim (fun q => by rw [q]; exact h12) fun q => (List.mem_cons.mp q).elim (fun q => by rw [q]; exact h13) fun q => Nat.ne_of_lt (Nat.lt_trans (lt p q) h1), sep_c2 lt D h2 h3 h23⟩
end

open SeqAt in
/-- how deep a thing is that is compared with its like -/
def dep : Nat → Dat → Bool
  | _, .int _ => true
  | _, .str _ => true
  | _, .bytes _ => true
  | n + 1, .tuple ds => ds.all (dep n)
  | _, _ => false
open SeqAt in
theorem eq_bytes_same {A : Around} {s : Shared} {b : Array UInt8} {t u : Tok} : EqAt A s (.bytes b t) (.bytes b u) true := fun prog w E Q hq => by
  unfold eqBool
  refine wpAny_holding ?_
  refine wpAny_ite_split (fun _ => wpAny_bind (wpAny_rule (wpAny_pure hq))) (fun _ => ?_)
  refine wpAny_bind (PySem.W.eq_bytes (prog := prog) (w := w) ?_)
  have e : (b.toList == b.toList) = true := beq_self_eq_true _
  rw [e]
  exact wpAny_truthy_bool hq
open SeqAt in
theorem eq_dat {s : Shared} {I I' : List (Addr × Obj)} (H : ∀ q ∈ I, s.heap.get? q.1 = some q.2) (H' : ∀ q ∈ I', s.heap.get? q.1 = some q.2) : ∀ (n : Nat) (A : Around) (v v' : Value) (d : Dat), dep n d = true → A.units + n < cLine → DatIn I v d → DatIn I' v' d → EqAt A s v v' true := by
  intro n
  induction n with
  | zero =>
    intro A v v' d hd _ h h'
    cases h with
    | int i t => cases h' with | int _ t' => have := EqAt.int_int (A := A) (s := s) i t i t'; rwa [beq_self_eq_true] at this
    | str x t => cases h' with | str _ t' => have := EqAt.str_str (A := A) (s := s) x t x t'; rwa [beq_self_eq_true] at this
    | bytes b t => cases h' with | bytes _ t' => exact eq_bytes_same
    | none => simp [dep] at hd
    | bool => simp [dep] at hd
    | tuple => simp [dep] at hd
    | list => simp [dep] at hd
  | succ n ih =>
    intro A v v' d hd hu h h'
    cases h with
    | int i t => cases h' with | int _ t' => have := EqAt.int_int (A := A) (s := s) i t i t'; rwa [beq_self_eq_true] at this
    | str x t => cases h' with | str _ t' => have := EqAt.str_str (A := A) (s := s) x t x t'; rwa [beq_self_eq_true] at this
    | bytes b t => cases h' with | bytes _ t' => exact eq_bytes_same
    | none => simp [dep] at hd
    | bool => simp [dep] at hd
    | list => simp [dep] at hd
    | @tuple a vs k ds hm hr =>
      cases h' with
      | @tuple a' vs' k' _ hm' hr' =>
        by_cases hab : a = a'
        · subst hab
          exact EqAt.same _
        · have hT := RcAt.tuples (A := A) (s := s) (l := a) (b := a') (items := vs.toArray) (items2 := vs'.toArray) (e := fun _ => true) ⟨_, H _ hm, rfl, k, rfl⟩ ⟨_, H' _ hm', rfl, k', rfl⟩ (by omega) (fun j h1 h2 => by
            have hj : j < ds.length := by rw [← hr.length]; simpa using h1
            obtain ⟨x, e1, d1⟩ := hr.get hj
            obtain ⟨x', e2, d2⟩ := hr'.get hj
            have hds : dep n ds[j] = true := List.all_eq_true.mp (by simpa [dep] using hd) _ (List.getElem_mem hj)
            have q := ih A.in1 x x' _ hds (by show A.units + 1 + n < cLine; omega) d1 d2
            have f1 : vs.toArray[j] = x := by
              have := List.getElem?_eq_some_iff.mp e1
              obtain ⟨_, e⟩ := this
              simpa using e
            have f2 : vs'.toArray[j] = x' := by
              have := List.getElem?_eq_some_iff.mp e2
              obtain ⟨_, e⟩ := this
              simpa using e
            rw [f1, f2]
            exact q)
          have hl : vs.toArray.size = vs'.toArray.size := by rw [List.size_toArray, List.size_toArray, hr.length, hr'.length]
          have e : ((List.range (min vs.toArray.size vs'.toArray.size)).all (fun _ => true) && vs.toArray.size == vs'.toArray.size) = true := by rw [hl]; simp
          rw [e] at hT
          exact EqAt.of_refs hab hT
section
variable {prog : Program} {w : World} {A : Around} {E : Value → Shared → Prop} {Q : Value → Shared → Prop} {h₀ h : Heap} {L : Addr} {m : Str → Option Value} {tn imm : List (Addr × Obj)} {G : Array GenState} {D : Drawn} {t : Nat} {O : OsState} {l b : Addr} {vs ws : List Value}
theorem s_list {o : Obj} {k : Nat} (S : Sta h₀ L m tn imm h) (hl : (l, o) ∈ tn ++ imm) (ho : o.cls = .type "list") (hd : o.data = .seq vs.toArray k) : h.IsList l vs.toArray := ⟨o, S.get hl, ho, k, hd⟩
open SeqAt in
theorem dat_items {I I' : List (Addr × Obj)} {ds : List Dat} {s : Shared} (H : ∀ q ∈ I, s.heap.get? q.1 = some q.2) (H' : ∀ q ∈ I', s.heap.get? q.1 = some q.2) (h1 : DatAll I vs ds) (h2 : DatAll I' ws ds) (hdep : ∀ d ∈ ds, dep 8 d = true) (hu : A.units + 64 < cLine) :
    ∀ j (g1 : j < vs.toArray.size) (g2 : j < ws.toArray.size), EqAt A.in1 s vs.toArray[j] ws.toArray[j] true := fun j g1 g2 => by
  have hj : j < ds.length := by rw [← h1.length]; simpa using g1
  obtain ⟨x, e1, d1⟩ := h1.get hj
  obtain ⟨x', e2, d2⟩ := h2.get hj
  have q := eq_dat H H' 8 A.in1 x x' _ (hdep _ (List.getElem_mem hj)) (by show A.units + 1 + 8 < cLine; omega) d1 d2
  obtain ⟨_, f1⟩ := List.getElem?_eq_some_iff.mp e1
  obtain ⟨_, f2⟩ := List.getElem?_eq_some_iff.mp e2
  have f1' : vs.toArray[j] = x := by simpa using f1
  have f2' : ws.toArray[j] = x' := by simpa using f2
  rw [f1', f2']
  exact q
open SeqAt in
/-- two lists of the same things are not unequal -/
theorem s_neD {I I' : List (Addr × Obj)} {ds : List Dat} (hl : h.IsList l vs.toArray) (hb : h.IsList b ws.toArray) (H : ∀ q ∈ I, h.get? q.1 = some q.2) (H' : ∀ q ∈ I', h.get? q.1 = some q.2) (h1 : DatAll I vs ds) (h2 : DatAll I' ws ds) (hdep : ∀ d ∈ ds, dep 8 d = true) (hu : A.units + 64 < cLine)
    (hq : Q (.bool false) ⟨h, G, D, t, O⟩) : wpAny (model prog w) A (compareOp .NotEq (.ref l) (.ref b)) Q E ⟨h, G, D, t, O⟩ := by
  have hsz : vs.toArray.size = ws.toArray.size := by rw [List.size_toArray, List.size_toArray, h1.length, h2.length]
  refine RcNeAt.lists (s := ⟨h, G, D, t, O⟩) (e := fun _ => true) hl hb hsz (by omega) (dat_items (s := ⟨h, G, D, t, O⟩) H H' h1 h2 hdep hu) prog w E Q ?_
  have e : (!(List.range vs.toArray.size).all fun _ => true) = false := by simp
  rw [e]
  exact hq
open SeqAt in
theorem s_eqD {I I' : List (Addr × Obj)} {ds : List Dat} (hl : h.IsList l vs.toArray) (hb : h.IsList b ws.toArray) (H : ∀ q ∈ I, h.get? q.1 = some q.2) (H' : ∀ q ∈ I', h.get? q.1 = some q.2) (h1 : DatAll I vs ds) (h2 : DatAll I' ws ds) (hdep : ∀ d ∈ ds, dep 8 d = true) (hu : A.units + 64 < cLine)
    (hq : Q (.bool true) ⟨h, G, D, t, O⟩) : wpAny (model prog w) A (compareOp .Eq (.ref l) (.ref b)) Q E ⟨h, G, D, t, O⟩ := by
  have hsz : vs.toArray.size = ws.toArray.size := by rw [List.size_toArray, List.size_toArray, h1.length, h2.length]
  refine RcAt.lists (s := ⟨h, G, D, t, O⟩) (e := fun _ => true) hl hb hsz (by omega) (dat_items (s := ⟨h, G, D, t, O⟩) H H' h1 h2 hdep hu) prog w E Q ?_
  have e : ((List.range vs.toArray.size).all fun _ => true) = true := by simp
  rw [e]
  exact hq
/-- list + list -/
theorem s_catL (S : Sta h₀ L m tn imm h) (hl : h.IsList l vs.toArray) (hb : h.IsList b ws.toArray) (hz : vs.length + ws.length ≤ 100000) (hq : ∀ a h', Sta h₀ L m ((a, lstO (vs ++ ws)) :: tn) imm h' → Q (.ref a) ⟨h', G, D, t, O⟩) :
    wpAny (model prog w) A (binaryOp .Add (.ref l) (.ref b)) Q E ⟨h, G, D, t, O⟩ :=
  add_lists (s := ⟨h, G, D, t, O⟩) S.F S.N hl hb (fun h' F' N' => hq _ h' ⟨F', N', fun p hp => Nat.ne_of_lt (S.lt p hp), S.D⟩) (by rw [sizeLine_eq]; omega)
/-- bytes + bytes -/
theorem o_catb {x y : List UInt8} {u v : Tok} (hz : x.length + y.length ≤ 100000) (hq : ∀ t' k, Q (.bytes (x ++ y).toArray t') ⟨h, G, D, k, O⟩) : wpAny (model prog w) A (binaryOp .Add (.bytes x.toArray u) (.bytes y.toArray v)) Q E ⟨h, G, D, t, O⟩ :=
  bytes_add_K (s := ⟨h, G, D, t, O⟩) (by rw [List.size_toArray, List.size_toArray]; omega) rfl hq
/-- list[:k] -/
theorem s_upto {value slice : Expr} {k : Nat} {u : Tok} (S : Sta h₀ L m tn imm h) (hl : h.IsList l vs.toArray) (hz : vs.length ≤ 100000) (hk : k ≤ vs.length) (hq : ∀ a h', Sta h₀ L m ((a, lstO (vs.take k)) :: tn) imm h' → Q (.ref a) ⟨h', G, D, t, O⟩)
    (hs : ∀ a, subscripted slice false (.ref l) (.ref a) = operate [.ref a, .ref l] (getItem (.ref l) (.ref a)))
    (ht : ∀ r, letTemporaryGo value (.ref l) r = pure ()) :
    wpAny (model prog w) A (subscriptTail value slice (.ref l) (.ref h.objs.size)) Q E ⟨h.push { cls := .type "slice", data := .fields #[.none, .int k u, .none] }, G, D, t, O⟩ := by
  refine slice_list (s := ⟨h, G, D, t, O⟩) S.F S.N hl .none (.int _ _) (fun h' F' N' => ?_) (hs _) ht (by rw [List.size_toArray, sizeLine_eq]; omega)
  rw [slicePick_upto vs.toArray k (by simpa using hk)] at N'
  refine hq _ h' ⟨F', ?_, fun p hp => Nat.ne_of_lt (Nat.lt_succ_of_lt (S.lt p hp)), S.D⟩
  simpa using N'
/-- int in list -/
theorem s_in {ns : List Int} {k : Int} {u : Tok} (hl : h.IsList l vs.toArray) (hi : IntsAre vs ns) (hq : Q (.bool (ns.any (· == k))) ⟨h, G, D, t, O⟩) : wpAny (model prog w) A (compareOp .In (.int k u) (.ref l)) Q E ⟨h, G, D, t, O⟩ :=
  in_list_ints (s := ⟨h, G, D, t, O⟩) hl hi hq
end

namespace BJ
theorem slot_join : Slot "bytes" "join" "bytes.join" :=
  .of (owner := "bytes") (n := "join") (by rw [typeLookup_type, builtinLookup_eq_fast]; kernel_rfl) (by decide +kernel) (by decide +kernel) (by decide +kernel)
    (by first | exact .inl (by decide +kernel) | exact .inr (by decide +kernel)) (by rw [isSubtype_type]; kernel_rfl)
theorem type_join : typeOf (.builtin "bytes.join") = pure (.type "method_descriptor") := by show builtinType _ = _; rw [builtinType_eq_fast]; kernel_rfl
theorem entry_join : entryFor table "bytes.join" = some Builtin.«bytes.join» := by first | exact entryFor_of_fast (by kernel_rfl) | exact entryFor_of_tree (by kernel_rfl)
theorem owner : Manifest.owners.lookup (String.ofList ['s','e','t','y','b'].reverse) = some Manifest.sig_bytes := by kernel_rfl
theorem args_join (a b : Value) : argsOk "bytes.join" ⟨[a, b], []⟩ := by
  unfold argsOk; rw [signature?_of (id := "bytes.join") (n := ['n','i','o','j']) (o := ['s','e','t','y','b']) (by kernel_rfl) owner]; kernel_rfl
end BJ
/-- some octets as values -/
inductive BsAre : List Value → List (List UInt8) → Prop
  | nil : BsAre [] []
  | cons (b : List UInt8) (t : Tok) {vs : List Value} {bs : List (List UInt8)} : BsAre vs bs → BsAre (.bytes b.toArray t :: vs) (b :: bs)
section
variable {prog : Program} {w : World} {A : Around} {E : Value → Shared → Prop} {Q : Value → Shared → Prop} {h₀ h : Heap} {L : Addr} {m : Str → Option Value} {tn imm : List (Addr × Obj)} {G : Array GenState} {D : Drawn} {t : Nat} {O : OsState} {l b : Addr} {vs ws : List Value}
theorem seq_at {M : Model} {o : Obj} {k : Nat} {xs : Array Value} {Q : Option (Array Value) → Shared → Prop} (hl : h.get? l = some o) (hd : o.data = .seq xs k) (hq : Q (some xs) ⟨h, G, D, t, O⟩) : wpAny M A (seqItems? (.ref l)) Q E ⟨h, G, D, t, O⟩ := by
  show wpAny _ _ (load l >>= _) _ _ _
  refine wpAny_bind (wpAny_load (s := ⟨h, G, D, t, O⟩) hl ?_)
  rw [hd]
  exact wpAny_pure hq
theorem forIn_items {σ : Type} {M : Model} {E : Value → Shared → Prop} {s : Shared} {F : Nat → σ → Sem (ForInStep σ)} {Q : σ → Shared → Prop} (st : Nat → σ) : ∀ (n k : Nat), (∀ i, k ≤ i → i < k + n → ∀ Q' : ForInStep σ → Shared → Prop, Q' (.yield (st (i + 1))) s → wpAny M A (F i (st i)) Q' E s) → Q (st (k + n)) s → wpAny M A (forIn (List.range' k n) (st k) F) Q E s
  | 0, _, _, hq => by rw [List.range'_zero, List.forIn_nil]; exact wpAny_pure hq
  | n + 1, k, h, hq => by
    rw [List.range'_succ, List.forIn_cons]
    refine wpAny_bind (h k (Nat.le_refl _) (Nat.lt_add_of_pos_right (Nat.succ_pos _)) _ ?_)
    exact forIn_items st n (k + 1) (fun i h1 h2 => h i (Nat.le_of_succ_le h1) (by omega)) (by rw [Nat.succ_add_eq_add_succ]; exact hq)
theorem BsAre.len {vs : List Value} {bs : List (List UInt8)} (h : BsAre vs bs) : vs.length = bs.length := by
  induction h with
  | nil => rfl
  | cons _ _ _ ih => rw [List.length_cons, List.length_cons, ih]
theorem BsAre.at {vs : List Value} {bs : List (List UInt8)} (h : BsAre vs bs) : ∀ i, i < vs.length → ∃ c v, vs[i]? = some (.bytes c.toArray v) ∧ bs[i]? = some c := by
  induction h with
  | nil => intro i hi; exact absurd hi (Nat.not_lt_zero _)
  | cons b t _ ih =>
    intro i hi
    cases i with
    | zero => exact ⟨b, t, rfl, rfl⟩
    | succ i => exact ih i (Nat.lt_of_succ_lt_succ hi)
theorem BsAre.off {vs : List Value} {bs : List (List UInt8)} (h : BsAre vs bs) (i : Nat) : ((vs.take i).map fun v => (v, (none : Option Value))).any (fun p => p.1.onHeap) = false := by
  induction h generalizing i with
  | nil => rw [List.take_nil]; rfl
  | cons b t _ ih =>
    cases i with
    | zero => rfl
    | succ i => exact ih i
theorem joinGo {M : Model} {E : Value → Shared → Prop} {s : Shared} {Q : Unit → Shared → Prop} {keep : List Value} (hq : Q () s) : ∀ vs : List Value, wpAny M A (Builtin.Bytes.joinLetGo (vs.map fun v => (v, none)) keep) Q E s
  | [] => wpAny_pure hq
  | v :: vs => by
    show wpAny _ _ (letGo [v] _ >>= fun _ => Builtin.Bytes.joinLetGo (vs.map fun v => (v, none)) keep) _ _ _
    refine wpAny_bind ?_
    show wpAny _ _ (holding _ point >>= fun _ => pure ()) _ _ _
    exact wpAny_bind (wpAny_holding (wpAny_point (wpAny_pure (joinGo hq vs))))
theorem joined_nil : ∀ (l : List (List UInt8)) (k : Nat) (out : Array UInt8), ((l.map List.toArray).zipIdx k).foldl (fun out (p : Array UInt8 × Nat) => (if p.2 > 0 then out ++ (#[] : Array UInt8) else out) ++ p.1) out = out ++ l.flatten.toArray
  | [], k, out => by simp
  | b :: l, k, out => by
    rw [List.map_cons, List.zipIdx_cons, List.foldl_cons, joined_nil l (k + 1)]
    simp
theorem fold_size : ∀ (l : List (List UInt8)) (k : Nat), (l.map List.toArray).foldl (fun n (p : Array UInt8) => n + p.size) k = k + l.flatten.length
  | [], k => rfl
  | b :: l, k => by
    rw [List.map_cons, List.foldl_cons, fold_size l]
    simp [Nat.add_assoc]
theorem take_eq' {M : Model} {E : Value → Shared → Prop} {s : Shared} {c : List UInt8} {v : Tok} {vs : List Value} {id : String} {Q : Option (Array UInt8 × Option Value) → Shared → Prop} (hq : Q (some (c.toArray, none)) s) : wpAny M A (holding vs (Builtin.Bytes.takeBufferQuiet? id (.bytes c.toArray v) 0)) Q E s := wpAny_holding (wpAny_of_eq take_eq hq)
theorem s_join {u : Tok} {bs : List (List UInt8)} {o : Obj} {k : Nat} (hl : h.get? l = some o) (ho : o.cls = .type "list") (hd : o.data = .seq vs.toArray k) (hb : BsAre vs bs) (h1 : 1 ≤ vs.length) (h3 : vs.length ≤ 3) (hz : bs.flatten.length ≤ 100000)
    (hq : ∀ v k, Q (.bytes bs.flatten.toArray v) ⟨h, G, D, k, O⟩) : wpAny (model prog w) A (call (.builtin "bytes.join") [.bytes #[] u, .ref l]) Q E ⟨h, G, D, t, O⟩ := by
  refine wpAny_call_entry BJ.slot_join (PySem.W.typeIs_bytes _ _ _) BJ.entry_join ?_ (BJ.args_join _ _)
  unfold Builtin.«bytes.join» Builtin.Bytes.joinM
  refine wpAny_bind (wpAny_of_eq (a := (.bytes #[] u, .ref l)) rfl ?_)
  dsimp only
  refine wpAny_bind ?_
  show wpAny _ _ (Builtin.Bytes.joinItems (.ref l)) _ _ _
  unfold Builtin.Bytes.joinItems
  refine wpAny_bind (wpAny_typeOf (T := "list") ⟨_, hl, ho⟩ ?_)
  rw [if_pos (by decide)]
  refine wpAny_pure ?_
  refine wpAny_bind (seq_at hl hd ?_)
  dsimp only
  cases hb with
  | nil => exact absurd h1 (Nat.not_lt_zero _)
  | cons b1 t1 hb =>
    cases hb with
    | nil =>
      rw [if_pos (by decide)]
      refine wpAny_bind (wpAny_typeOf (T := "bytes") (v := .bytes b1.toArray t1) rfl ?_)
      rw [if_pos (by decide)]
      refine wpAny_bind (wpAny_rule (wpAny_pure ⟨_, rfl, ?_⟩))
      have e : [b1].flatten.toArray = b1.toArray := by simp
      have q := hq t1 t
      rw [e] at q
      exact q
    | cons b2 t2 hb =>
      rename_i vs' bs'
      have hB : BsAre (.bytes b1.toArray t1 :: .bytes b2.toArray t2 :: vs') (b1 :: b2 :: bs') := .cons _ _ (.cons _ _ hb)
      rw [if_pos (by decide)]
      refine wpAny_bind ?_
      rw [Std.Legacy.Range.forIn_eq_forIn_range']
      generalize hn : (Value.bytes b1.toArray t1 :: Value.bytes b2.toArray t2 :: vs').toArray.size = n
      have hnv : n = vs'.length + 2 := by rw [← hn]; rfl
      have hsz : [:n].size = n := by simp [Std.Legacy.Range.size]
      rw [hsz]
      refine forIn_items (st := fun i => (((b1 :: b2 :: bs').take i |>.map List.toArray).toArray, ((Value.bytes b1.toArray t1 :: Value.bytes b2.toArray t2 :: vs').take i).map fun v => (v, (none : Option Value)))) n 0 (fun i _ hi Q' hq' => ?_) ?_
      · obtain ⟨c, cv, hv, hc⟩ := hB.at i (by rw [List.length_cons, List.length_cons]; omega)
        have hx : (Value.bytes b1.toArray t1 :: Value.bytes b2.toArray t2 :: vs').toArray.getD i Value.none = .bytes c.toArray cv := by
          rw [Array.getD_eq_getD_getElem?, List.getElem?_toArray, hv]; rfl
        refine wpAny_bind (seq_at hl hd ?_)
        dsimp only
        rw [hx, hB.off, if_neg (by decide)]
        refine wpAny_bind (take_eq' ?_)
        dsimp only
        refine wpAny_bind (seq_at hl hd ?_)
        dsimp only
        rw [hn, if_neg (by simp)]
        refine wpAny_pure ?_
        have e1 : ((b1 :: b2 :: bs').take (i + 1) |>.map List.toArray).toArray = ((b1 :: b2 :: bs').take i |>.map List.toArray).toArray.push c.toArray := by
          rw [List.take_succ, hc]; simp
        have e2 : ((Value.bytes b1.toArray t1 :: Value.bytes b2.toArray t2 :: vs').take (i + 1)).map (fun v => (v, (none : Option Value))) = ((Value.bytes b1.toArray t1 :: Value.bytes b2.toArray t2 :: vs').take i).map (fun v => (v, (none : Option Value))) ++ [(.bytes c.toArray cv, none)] := by
          rw [List.take_succ, hv]; simp
        rw [e1, e2] at hq'
        exact hq'
      · have hbl : bs'.length = vs'.length := hb.len.symm
        rw [Nat.zero_add, List.take_of_length_le (by rw [List.length_cons, List.length_cons]; omega), List.take_of_length_le (by rw [List.length_cons, List.length_cons]; omega)]
        refine wpAny_bind (wpAny_of_eq (a := #[]) rfl ?_)
        rw [if_neg (by rw [List.foldl_toArray, fold_size]; simp [Builtin.Bytes.tooLong, sizeLine_eq] at hz ⊢; omega)]
        have ej : Builtin.Bytes.joined #[] ((b1 :: b2 :: bs').map List.toArray).toArray.toList = (b1 :: b2 :: bs').flatten.toArray := (joined_nil _ 0 _).trans (by simp)
        rw [ej]
        refine wpAny_bind (wpAny_mkBytes ?_ (by rw [List.size_toArray, sizeLine_eq]; omega))
        refine wpAny_bind (wpAny_holding (wpAny_point ?_))
        refine wpAny_bind (joinGo ?_ _)
        exact wpAny_pure ⟨_, rfl, hq _ _⟩
/-- list.index(int) -/
theorem s_index {ns : List Int} {k : Int} {u : Tok} (hl : h.IsList l vs.toArray) (hi : IntsAre vs ns) (hz : ns.length ≤ 100000) (hk : k ∈ ns) (hq : Q (.int (ns.idxOf k : Nat) t) ⟨h, G, D, t + 1, O⟩) :
    wpAny (model prog w) A (call (.builtin "list.index") [.ref l, .int k u]) Q E ⟨h, G, D, t, O⟩ := by
  obtain ⟨⟨cls, dd, data, sl⟩, ho, hc, n, hd⟩ := id hl
  simp only at hc hd
  subst hc hd
  have hlen := hi.length
  have hj : ns.idxOf k < ns.length := List.idxOf_lt_length_iff.mpr hk
  have p63 : (2 : Int) ^ 63 = 9223372036854775808 := by decide
  refine call_meets (s := ⟨h, G, D, t, O⟩) PySem.F.slot_list_index ⟨_, ho, rfl⟩ PySem.F.entry_list_index (PySem.F.args_list_index_2 _ _)
    (SeqAt.list_indexAt l vs.toArray n dd sl (.int k u) (isInt k) (ns.idxOf k) (by simpa [hlen] using hj) (by omega) ?_ ?_) ⟨ho, fun y hy => (eq_isInt k u hi y (by simpa using hy)).at _ _, hq⟩
  · show isInt k vs[ns.idxOf k] = true
    rw [isInt_at k hi _ (by omega) hj]
    simpa using List.getElem_idxOf hj
  · intro j hjs hlt
    show isInt k vs[j] = false
    rw [isInt_at k hi j (by simpa using hjs) (by omega)]
    exact ne_of_lt_idxOf hlt _
theorem s_indexM {pl : Sem Bool} {o : Obj} {q : Value → List Value → Shared → Prop} (S : Sta h₀ L m tn imm h) (hl : (l, o) ∈ tn ++ imm) (ho : o.cls = .type "list") (hd : o.dict = none) (hq : q (.builtin "list.index") [.ref l] ⟨h, G, D, t, O⟩) :
    wpAny (model prog w) A (getMethod (.ref l) "index" pl) (MC q) E ⟨h, G, D, t, O⟩ :=
  getMethod_builtin (s := ⟨h, G, D, t, O⟩) ⟨_, S.get hl, ho⟩ PySem.F.plainAttrs_list PySem.F.slot_list_index PySem.F.type_list_index (fun a e => by cases e; exact ⟨_, S.get hl, hd⟩) hq
theorem s_joinM {pl : Sem Bool} {b : Array UInt8} {u : Tok} {q : Value → List Value → Shared → Prop} (hq : q (.builtin "bytes.join") [.bytes b u] ⟨h, G, D, t, O⟩) :
    wpAny (model prog w) A (getMethod (.bytes b u) "join" pl) (MC q) E ⟨h, G, D, t, O⟩ :=
  getMethod_builtin (s := ⟨h, G, D, t, O⟩) (T := "bytes") (PySem.W.typeIs_bytes _ _ _) FB.plainAttrs_bytes BJ.slot_join BJ.type_join (fun a e => by cases e) hq
end

/-- a dict object that holds the names of m -/
def NsO (o : Obj) (m : Str → Option Value) : Prop := ∃ es ep, o.data = .dict es ep ∧ StrKeys es ∧ ∀ name, nsFind es name = m name
section
variable {prog : Program} {w : World} {M : Model} {A A₀ : Around} {E : Value → Shared → Prop} {Q : Value → Shared → Prop} {base h₀ h : Heap} {outer : List Env} {L c C : Addr} {m mc mg mb : Str → Option Value} {tn imm : List (Addr × Obj)} {G : Array GenState} {D : Drawn} {t : Nat} {O : OsState} {env : Env} {o : Obj} {y : Str} {v : Value} {np : Pos}
  {K : Frag} {p : Program} {loose : List Str} {mean : ExcName → Option Value}
theorem Sta.nsO (S : Sta h₀ L m tn imm h) (hm : (c, o) ∈ tn ++ imm) (N : NsO o mc) : h.Ns c mc := let ⟨es, ep, r⟩ := N; ⟨o, es, ep, S.get hm, r⟩
theorem nsO_of (hn : h.Ns c mc) : ∃ o, h.get? c = some o ∧ NsO o mc := let ⟨o, es, ep, e, r⟩ := hn; ⟨o, e, es, ep, r⟩
/-- a name of the comprehension's own -/
theorem g_local (hx : env.kindOf y = some .local) (hk : env.scope.kind = .function) (hd : (y == ("__debug__" : Str)) = false) (hl : env.locals = c) (S : Sta h₀ L m tn imm h) (hm : (c, o) ∈ tn ++ imm) (N : NsO o mc) (hv : mc y = some v) (hq : Q v ⟨h, G, D, t, O⟩) : wpAny M A (eval (.Name y np) env) Q E ⟨h, G, D, t, O⟩ :=
  wpAny_Name (wpAny_loadName_local (s := ⟨h, G, D, t, O⟩) hk hx (hl ▸ S.nsO hm N) hv hq) hd
theorem g_cell (hx : env.kindOf y = some .cell) (hk : env.scope.kind = .function) (hb : (y == ("__debug__" : Str)) = false) (hc : env.cells.lookup y = some C) (S : Sta h₀ L m tn imm h) (hm : (C, o) ∈ tn ++ imm) (hd : o.data = .cell (some v)) (hq : Q v ⟨h, G, D, t, O⟩) : wpAny M A (eval (.Name y np) env) Q E ⟨h, G, D, t, O⟩ :=
  wpAny_Name (wpAny_loadName_cell (s := ⟨h, G, D, t, O⟩) hk hx hc ⟨o, S.get hm, hd⟩ hq) hb
theorem g_free (hx : env.kindOf y = some .free) (hk : env.scope.kind = .function) (hb : (y == ("__debug__" : Str)) = false) (hn : (y == ("__classdict__" : Str)) = false) (hc : env.cells.lookup y = some C) (S : Sta h₀ L m tn imm h) (hm : (C, o) ∈ tn ++ imm) (hd : o.data = .cell (some v)) (hq : Q v ⟨h, G, D, t, O⟩) : wpAny M A (eval (.Name y np) env) Q E ⟨h, G, D, t, O⟩ :=
  wpAny_Name (wpAny_loadName_free (s := ⟨h, G, D, t, O⟩) hk hx hc ⟨o, S.get hm, hd⟩ hq hn) hb
theorem g_global (hx : env.kindOf y = some .globalImplicit) (hk : env.scope.kind = .function) (hd : (y == ("__debug__" : Str)) = false) (hg : env.globals = mainGlobals) (S : Sta h₀ L m tn imm h) (Cc : Cx (KH w.params) p loose mean mg mb A₀ base h₀ outer) (e : nsIn (KH w.params) mainGlobals y = some (some v)) (hq : Q v ⟨h, G, D, t, O⟩) : wpAny M A (eval (.Name y np) env) Q E ⟨h, G, D, t, O⟩ :=
  Name_function_global hk hx (loadGlobal_global (s := ⟨h, G, D, t, O⟩) (mg := mg) (hg ▸ Cc.TR.g.keeps S.F.keep) (mg_of Cc.X Cc.TR.g e) hq) hd
/-- stored in the comprehension's own dict -/
theorem g_store {Q : Unit → Shared → Prop} (S : Sta h₀ L m ((c, o) :: tn) imm h) (N : NsO o mc) (hl : env.locals = c) (hx : env.kindOf y = some .local) (hp : (env.scope.kind == .class || (env.scope.kind == .module && env.locals != env.globals)) = false)
    (hq : ∀ o' h', NsO o' (upd mc y v) → Sta h₀ L m ((c, o') :: tn) imm h' → Q () ⟨h', G, D, t + 1, O⟩) : wpAny M A (storeName env y v) Q E ⟨h, G, D, t, O⟩ := by
  subst hl
  refine wpAny_storeName_local (s := ⟨h, G, D, t, O⟩) hx (S.nsO (.head _) N) (fun h' hn hs => ?_) hp
  obtain ⟨o', ho', N'⟩ := nsO_of hn
  exact hq o' h' N' (S.turn (fun b ob hb e => (hs.2 b hb).trans e) ho')
end
section
variable {prog : Program} {w : World} {A : Around} {E : Value → Shared → Prop} {fenv cenv : Env} {elt target iter : Expr} {scope : Scope} {pos : Pos} {cl : List (Str × Addr)} {Q : Value → Shared → Prop} {h₀ h : Heap} {L : Addr} {m : Str → Option Value} {tn imm : List (Addr × Obj)} {G : Array GenState} {D : Drawn} {t : Nat} {O : OsState} {s : Shared} {R : Result → Shared → Prop}
/-- what a comprehension does over an iterator -/
def CompK (prog : Program) (w : World) (A : Around) (fenv : Env) (elt target iter : Expr) (scope : Scope) (pos : Pos) (cl : List (Str × Addr)) (PP : Value → Addr → Result → Shared → Prop) (E : Value → Shared → Prop) (it : Value) (s : Shared) : Prop :=
  wpAny (model prog w) A (newList []) (fun acc s₃ => wpAny (model prog w) A (newFunctionEnv scope fenv.globals cl [] fenv.qual none .none (some fenv)) (fun cenv s₄ =>
    codeAny (model prog w) A (.compStart (.ListComp elt [⟨target, iter, [], 0⟩] scope pos) 0 it acc { cenv with scope := relabel scope fenv }) (PP acc cenv.locals) s₄) E s₃) E s
theorem e_comp (hclos : closureFor scope fenv = pure cl) (hkind : scope.kind = .function) (hnames : ∀ x ∈ scope.names, x.2 = .local → scope.names.lookup x.1 = some .local) (hs : ∀ x, foldedSetIterable iter fenv x = pure x)
    (h : wpAny (model prog w) A (eval iter fenv) (fun xv s₁ => wpAny (model prog w) A (pyIter xv) (CompK prog w A fenv elt target iter scope pos cl (compPost (model prog w) A E none Q) E) E s₁) E s) :
    wpAny (model prog w) A (eval (.ListComp elt [⟨target, iter, [], 0⟩] scope pos) fenv) Q E s := by
  rw [eval_ListComp]
  exact wpAny_comprehension_free (use := none) rfl hs hclos hkind hnames h
/-- name = [comprehension] -/
theorem r_comp {y : Str} {py spos : Pos} {rest : List Stmt} {Q : Flow → Shared → Prop} (hsw : swapsWith (.ListComp elt [⟨target, iter, [], 0⟩] scope pos) (some (.Name y py)) spos.line fenv = pure true)
    (hclos : closureFor scope fenv = pure cl) (hkind : scope.kind = .function) (hnames : ∀ x ∈ scope.names, x.2 = .local → scope.names.lookup x.1 = some .local) (hs : ∀ x, foldedSetIterable iter fenv x = pure x)
    (h : wpAny (model prog w) A (eval iter fenv) (fun xv s₁ => wpAny (model prog w) A (pyIter xv) (CompK prog w A fenv elt target iter scope pos cl
      (compPost (model prog w) A E (some (assign (.Name y py) fenv)) (fun _ s' => wpAny (model prog w) A (execs rest fenv) Q E s')) E) E s₁) E s) :
    wpAny (model prog w) A (execs (.Assign [.Name y py] (.ListComp elt [⟨target, iter, [], 0⟩] scope pos) spos :: rest) fenv) Q E s := by
  refine r_cons ?_
  rw [exec_Assign_Name_used _ _ _ _ hsw]
  refine wpAny_bind (wpAny_standAt (wpAny_bind ?_))
  show wpAny _ A (do let _ ← comprehension (.ListComp elt [⟨target, iter, [], 0⟩] scope pos) scope fenv _ (newList []) false (eval iter fenv) (some (assign (.Name y py) fenv))) _ _ s
  exact wpAny_bind (wpAny_mono (wpAny_comprehension_free (use := some (assign (.Name y py) fenv)) (Q := fun _ s' => wpAny (model prog w) A (execs rest fenv) Q E s') rfl hs hclos hkind hnames h) (fun _ s' hq => wpAny_pure (wpAny_pure hq)) fun _ _ e => e)
theorem compTurn_one (it acc : Value) : compTurn (.ListComp elt [⟨target, iter, [], 0⟩] scope pos) 0 it acc cenv = (standAt iter.pos >>= fun _ => pyNext it >>= fun r => match r with
      | none => pure (.done .next)
      | some v => letOwnedTupleGo target it v >>= fun _ => assign target cenv v >>= fun _ =>
        (eval elt cenv >>= fun x => call (.builtin "list.append") [acc, x] >>= fun _ => pure ()) >>= fun _ =>
          again (.compLoop (.ListComp elt [⟨target, iter, [], 0⟩] scope pos) 0 it acc cenv)) := rfl
theorem compAny_loop {it acc : Value} (I : Nat → Shared → Prop)
    (turn : ∀ n s, I n s → wpAny (model prog w) A (pyNext it) (fun r s₁ => match r with
      | none => R (.ok .next) s₁
      | some v => wpAny (model prog w) A (letOwnedTupleGo target it v) (fun _ s₁' => wpAny (model prog w) A (assign target cenv v) (fun _ s₂ => wpAny (model prog w) A (eval elt cenv) (fun x s₃ =>
          wpAny (model prog w) A (call (.builtin "list.append") [acc, x]) (fun _ s₄ => ∃ m, m < n ∧ I m s₄) (fun _ _ => False) s₃)
          (fun _ _ => False) s₂) (fun _ _ => False) s₁') (fun _ _ => False) s₁) (fun _ _ => False) s)
    (n : Nat) (h : I n s) : codeAny (model prog w) A (.compLoop (.ListComp elt [⟨target, iter, [], 0⟩] scope pos) 0 it acc cenv) R s := by
  refine codeAny_loop rfl I (fun n s hI => ?_) n h
  show wpAny _ _ ((compTurn (.ListComp elt [⟨target, iter, [], 0⟩] scope pos) 0 it acc cenv).onRaise (fun x => do noteFrame x cenv; theTreesLotGoes x)) _ _ s
  refine wpAny_noted ?_
  rw [compTurn_one]
  refine wpAny_mono ?_ (fun _ _ q => q) (fun _ _ (x : False) => x.elim)
  refine wpAny_bind (wpAny_standAt (wpAny_bind (wpAny_mono (turn n s hI) (fun r s₁ h₁ => ?_) fun _ _ h' => h')))
  cases r with
  | none => exact wpAny_pure h₁
  | some v =>
    refine wpAny_bind (wpAny_mono h₁ (fun _ s₁' h₁' => ?_) fun _ _ h' => h')
    exact wpAny_bind (wpAny_mono h₁' (fun _ s₂ h₂ => wpAny_bind (wpAny_bind (wpAny_mono h₂ (fun x s₃ h₃ => wpAny_bind (wpAny_mono h₃
      (fun _ s₄ h₄ => wpAny_pure (wpAny_pure ⟨rfl, h₄⟩)) fun _ _ h' => h')) fun _ _ h' => h'))) fun _ _ h' => h')
/-- the comprehension walked -/
theorem compW {I : Addr} {oI : Obj} {fp : List Addr} {n : Nat} {P : Nat → Value → Prop} {Stt : Nat → Heap → Prop} {T : String} {PP : Value → Addr → Result → Shared → Prop} (W : Walks prog w A I fp [I] n P Stt) (hT : itPlain T) (hn : n ≤ 100000)
    (hI : ∀ i h, Stt i h → ∃ o, h.get? I = some o ∧ o.cls = .type T) (J : Nat → List Value → List (Addr × Obj) → List (Addr × Obj) → Prop)
    (hfp : ∀ b ∈ fp, b ≠ I → ∃ o, ∀ i ys tn imm, J i ys tn imm → (b, o) ∈ tn ++ imm) (hcell : ∀ y ∈ scope.names, y.2 ≠ .cell) (hkind : scope.kind = .function) (S : Sta h₀ L m ((I, oI) :: tn) imm h) (hst : Stt 0 h) (hj : J 0 [] tn imm)
    (turn : ∀ D' C i v oI ys k oN mc tn imm h t, i < n → P i v → ys.length = i → J i ys tn imm → NsO oN mc → Sta h₀ L m ((I, oI) :: (D', PySem.W.listOf ys.toArray k) :: (C, oN) :: tn) imm h →
      wpAny (model prog w) A (assign target (compEnvC scope cl C fenv) v) (fun _ s₂ => wpAny (model prog w) A (eval elt (compEnvC scope cl C fenv)) (fun x s₃ => ∃ h t oN mc tn imm, s₃ = ⟨h, G, D, t, O⟩ ∧ NsO oN mc ∧ Sta h₀ L m ((I, oI) :: (D', PySem.W.listOf ys.toArray k) :: (C, oN) :: tn) imm h ∧ J (i + 1) (ys ++ [x]) tn imm)
        (fun _ _ => False) s₂) (fun _ _ => False) ⟨h, G, D, t, O⟩)
    (done : ∀ D' C ys k oN mc tn imm h t, ys.length = n → J n ys tn imm → NsO oN mc → Sta h₀ L m ((D', PySem.W.listOf ys.toArray k) :: (C, oN) :: tn) imm h → PP (.ref D') C (.ok .next) ⟨h, G, D, t, O⟩) :
    CompK prog w A fenv elt target iter scope pos cl PP E (.ref I) ⟨h, G, D, t, O⟩ := by
  refine s_newList S (by simp) fun D' h1 S1 => ?_
  refine wpAny_newFunctionEnv hcell (by intro y hy; simp at hy) (fun h₂ hns₂ hsb₂ => ?_) hkind
  dsimp only at hns₂ hsb₂ ⊢
  have S2 := S1.newMut { cls := .type "dict", data := .dict #[] }
  obtain ⟨oN0, hoN0, N0⟩ := nsO_of hns₂
  have S3 : Sta h₀ L m ((h1.objs.size, oN0) :: (D', lstO []) :: (I, oI) :: tn) imm h₂ := S2.turn (fun b ob hb e => hsb₂.extBut b ob hb e) hoN0
  have S4 : Sta h₀ L m ((I, oI) :: (D', PySem.W.listOf (([] : List Value).toArray) 0) :: (h1.objs.size, oN0) :: tn) imm h₂ := Sta.f2 (Sta.f1 S3)
  have hst4 : Stt 0 h₂ := W.frame _ _ _ hst (S.fpKeep S4 (.head _) (.head _) fun b hb q => (hfp b hb q).imp fun o h => ⟨.tail _ (h _ _ _ _ hj), .tail _ (.tail _ (.tail _ (h _ _ _ _ hj)))⟩)
  have loop : ∀ tk₀, codeAny (model prog w) A (.compLoop (.ListComp elt [⟨target, iter, [], 0⟩] scope pos) 0 (.ref I) (.ref D') (compEnvC scope cl h1.objs.size fenv)) (PP (.ref D') h1.objs.size) ⟨h₂, G, D, tk₀, O⟩ := by
    intro tk₀
    refine compAny_loop (fun k s' => ∃ h' tk ys kk oN mc tn' imm' oI' i, s' = ⟨h', G, D, tk, O⟩ ∧ Sta h₀ L m ((I, oI') :: (D', PySem.W.listOf ys.toArray kk) :: (h1.objs.size, oN) :: tn') imm' h' ∧ NsO oN mc ∧ Stt i h' ∧ J i ys tn' imm' ∧ ys.length = i ∧ i ≤ n ∧ k = n + 1 - i) ?_ (n + 1)
      (exI10 ⟨rfl, S4, N0, hst4, hj, rfl, Nat.zero_le _, rfl⟩)
    intro k s' hJ0
    refine exE10 hJ0 fun h' tk ys kk oN mc tn' imm' oI' i hz61 => ?_
    clear hJ0
    refine anE8 hz61 fun hz62 S' N' hst' hJ hys hi hz63 => ?_
    clear hz61
    subst hz62
    subst hz63
    by_cases hlt : i < n
    · refine W.item i ⟨h', G, D, tk, O⟩ _ _ hlt hst' fun v h₁ tk₁ hP hst₁ hk₁ => ?_
      have hio := hI _ _ hst₁
      refine exE1 hio fun o₁ hz64 => ?_
      clear hio
      refine anE2 hz64 fun ho₁ hc₁ => ?_
      clear hz64
      have S₁ := S'.turn (fun b o hb e => hk₁ b o (fun q => hb (List.mem_singleton.mp q)) e) ho₁
      refine letGo_plain ho₁ hc₁ hT ?_
      refine wpAny_mono (turn D' h1.objs.size i v o₁ ys kk oN mc tn' imm' h₁ tk₁ hlt hP hys hJ N' S₁) (fun _ s₂ h₂ => wpAny_mono h₂ (fun x s₃ h₃ => ?_) fun _ _ z => z) fun _ _ z => z
      refine exE6 h₃ fun h₅ t₅ oN₅ mc₅ tn₅ imm₅ hz65 => ?_
      refine anE4 hz65 fun hz66 N₅ S₅ J₅ => ?_
      clear hz65
      subst hz66
      refine s_append (Sta.f1 S₅) (by omega) fun h₆ S₆ => ?_
      refine ⟨n + 1 - (i + 1), Nat.sub_succ_lt_self _ _ (Nat.lt_succ_of_lt hlt), exI10 ⟨rfl, Sta.f1 S₆, N₅, ?_, J₅, by simp [hys], hlt, rfl⟩⟩
      exact W.frame _ _ _ hst₁ (S₁.fpKeep S₆ (.head _) (.tail _ (.head _)) fun b hb q => (hfp b hb q).imp fun o h => ⟨.tail _ (.tail _ (.tail _ (h _ _ _ _ hJ))), .tail _ (.tail _ (.tail _ (h _ _ _ _ J₅)))⟩)
    · have hin : i = n := by omega
      subst hin
      refine W.done ⟨h', G, D, tk, O⟩ _ _ hst' fun h₁ tk₁ hk₁ => ?_
      refine done D' h1.objs.size ys kk oN mc tn' imm' h₁ tk₁ hys hJ N' ?_
      exact S'.dropTurn hk₁
  exact codeAny_compStart_list (loop _) (W.self 0 _ _ _ hst4 (loop _))
end

section
variable {prog : Program} {w : World} {A : Around} {E : Value → Shared → Prop} {h₀ h : Heap} {L : Addr} {m : Str → Option Value} {tn imm : List (Addr × Obj)} {G : Array GenState} {D : Drawn} {t : Nat} {O : OsState} {l : Addr} {vs : List Value} {v : Value}
/-- list[k] -/
theorem s_item {value slice : Expr} {k : Int} {u : Tok} {Q : Value → Shared → Prop} (hl : h.IsList l vs.toArray) (h0 : 0 ≤ k) (hfit : k < 100000) (hx : vs[k.toNat]? = some v) (hs : subscripted slice false (.ref l) (.int k u) = operate [.ref l, .int k u] (getItem (.ref l) (.int k u))) (hg : ∀ r, letTemporaryGo value (.ref l) r = pure ()) (hq : Q v ⟨h, G, D, t, O⟩) :
    wpAny (model prog w) A (subscriptTail value slice (.ref l) (.int k u)) Q E ⟨h, G, D, t, O⟩ := by
  have p63 : (2 : Int) ^ 63 = 9223372036854775808 := by decide
  exact subscriptTail_ops (s := ⟨h, G, D, t, O⟩) hl.typeIs list_getitem_lookup (getItem_listL hl h0 (by omega) hx hq) hs hg
/-- a subscript whatever its base -/
theorem tail_any {T id : String} {value slice : Expr} {o i : Value} {ops : List Value} {s : Shared} {Q : Value → Shared → Prop} (hT : s.TypeIs o T)
    (hl : typeLookup (.type T) "__getitem__" = pure (some (.builtin id))) (h : wpAny (model prog w) A (getItem o i) Q E s)
    (hs : subscripted slice false o i = operate ops (getItem o i)) : wpAny (model prog w) A (subscriptTail value slice o i) Q E s := by
  unfold subscriptTail
  refine wpAny_bind ?_
  rw [getitemInPython_of_ne hT.not_modules]
  refine wpAny_bind (wpAny_specialOf hT hl ?_)
  have fin : wpAny (model prog w) A (subscripted slice false o i) (fun r s₃ => wpAny (model prog w) A (letTemporaryGo value o r >>= fun _ => pure r) Q E s₃) E s := by
    rw [hs]
    refine wpAny_operating (wpAny_mono h (fun r s₃ h₃ => wpAny_bind (wpAny_letTemporaryGo (wpAny_pure h₃))) fun _ _ x => x)
  first
    | exact wpAny_pure (wpAny_bind fin)
    | exact wpAny_bind (wpAny_pure (wpAny_bind fin))
    | exact wpAny_bind fin
theorem s_itemX {value slice : Expr} {k : Int} {u : Tok} {Q : Value → Shared → Prop} (hl : h.IsList l vs.toArray) (h0 : 0 ≤ k) (hfit : k < 100000) (hx : vs[k.toNat]? = some v) (hq : Q v ⟨h, G, D, t, O⟩)
    (hs : subscripted slice false (.ref l) (.int k u) = operate [.ref l, .int k u] (getItem (.ref l) (.int k u))) :
    wpAny (model prog w) A (subscriptTail value slice (.ref l) (.int k u)) Q E ⟨h, G, D, t, O⟩ := by
  have p63 : (2 : Int) ^ 63 = 9223372036854775808 := by decide
  exact tail_any (s := ⟨h, G, D, t, O⟩) hl.typeIs list_getitem_lookup (getItem_listL hl h0 (by omega) hx hq) hs
/-- tuple[k] -/
theorem s_itemT {value slice : Expr} {k : Nat} {u : Tok} {o : Obj} {n : Nat} {Q : Value → Shared → Prop} (hl : h.get? l = some o) (ho : o.cls = .type "tuple") (hd : o.data = .seq vs.toArray n) (hfit : k < 100000) (hx : vs[k]? = some v) (hq : Q v ⟨h, G, D, t, O⟩)
    (hs : subscripted slice false (.ref l) (.int (k : Int) u) = operate [.ref l, .int (k : Int) u] (getItem (.ref l) (.int (k : Int) u))) (hg : ∀ r, letTemporaryGo value (.ref l) r = pure ()) :
    wpAny (model prog w) A (subscriptTail value slice (.ref l) (.int (k : Int) u)) Q E ⟨h, G, D, t, O⟩ := by
  have p63 : (2 : Int) ^ 63 = 9223372036854775808 := by decide
  have ht : IsTup h l vs.toArray := ⟨o, hl, ho, n, hd⟩
  have hk : k < vs.length := (List.getElem?_eq_some_iff.mp hx).1
  exact subscriptTail_ops (s := ⟨h, G, D, t, O⟩) ht.typeIs slot_tuple_getitem.lookup (PyProof.Rows.getItem_tuple (j := k) ht (by omega) (by omega) (by
    have e1 : ¬ ((k : Int) < 0) := by omega
    have e2 : (decide ((0 : Int) ≤ (k : Int)) && decide ((k : Int) < (vs.toArray.size : Nat))) = true := by simp; omega
    simp only [seqIndex?, e1, if_false, e2, if_true, Int.toNat_natCast]) (by simpa using hx) hq) hs hg
/-- list[k] = v -/
theorem s_setL {k : Int} {u : Tok} {n : Nat} {Q : Unit → Shared → Prop} (S : Sta h₀ L m ((l, PySem.W.listOf vs.toArray n) :: tn) imm h) (h0 : 0 ≤ k) (h1 : k < vs.length) (hz : vs.length ≤ 100000) (hq : ∀ h' n', Sta h₀ L m ((l, PySem.W.listOf (vs.set k.toNat v).toArray n') :: tn) imm h' → Q () ⟨h', G, D, t, O⟩) :
    wpAny (model prog w) A (setItem (.ref l) (.int k u) v) Q E ⟨h, G, D, t, O⟩ := by
  have p63 : (2 : Int) ^ 63 = 9223372036854775808 := by decide
  have z := S.get (.head _)
  refine ki_setAt (s := ⟨h, G, D, t, O⟩) z h0 (by omega) (by rw [List.size_toArray]; omega) (hq _ n ?_)
  refine S.turn (fun b o hb e => (Heap.get?_update_other _ _ (Ne.symm hb)).trans e) ?_
  rw [Heap.get?_update_self _ z rfl]
  have e : vs.toArray.setIfInBounds k.toNat v = (vs.set k.toNat v).toArray := by
    apply Array.toList_inj.mp
    simp
  show some (Obj.mapSeq _ (PySem.W.listOf vs.toArray n)) = _
  simp [Obj.mapSeq, PySem.W.listOf, e]
theorem s_lenL {Q : Value → Shared → Prop} (hl : h.IsList l vs.toArray) (hz : vs.length ≤ 100000) (hq : Q (.int vs.length (t + 1)) ⟨h, G, D, t + 2, O⟩) : wpAny (model prog w) A (call (.builtin "len") [.ref l]) Q E ⟨h, G, D, t, O⟩ := by
  have p63 : (2 : Int) ^ 63 = 9223372036854775808 := by decide
  exact Calls.call_len_list (s := ⟨h, G, D, t, O⟩) hl (by rw [List.size_toArray, p63]; omega) (by rw [List.size_toArray]; exact hq)
theorem o_pow15 {u v : Tok} {Q : Value → Shared → Prop} (hq : ∀ t' k, Q (.int 1000000000000000 t') ⟨h, G, D, k, O⟩) : wpAny (model prog w) A (binaryOp .Pow (.int 10 u) (.int 15 v)) Q E ⟨h, G, D, t, O⟩ := by
  refine AutoIntOps.pow_4 (by decide) (by decide) (by decide) (by decide) (by decide +kernel) ?_
  have e : (10 : Int) ^ (Int.toNat 15) = 1000000000000000 := by decide +kernel
  show Q (.int (10 ^ Int.toNat 15) _) _
  rw [e]
  exact hq _ _
end
section
variable {M : Model} {A : Around} {E : Value → Shared → Prop} {env : Env} {pos pos' : Pos} {Q : Flow → Shared → Prop} {s : Shared} {rest : List Stmt}
/-- o[i] = e -/
theorem r_setitem {o i e : Expr} (hs : swapsWith e (some (.Subscript o i pos')) pos.line env = pure false) (h : wpAny M A (eval e env) (fun v s₁ => wpAny M A (eval o env) (fun ov s₂ => wpAny M A (eval i env) (fun iv s₃ => wpAny M A (setItem ov iv v) (fun _ s₄ => wpAny M A (execs rest env) Q E s₄) E s₃) E s₂) E s₁) E s) : wpAny M A (execs (.Assign [.Subscript o i pos'] e pos :: rest) env) Q E s :=
  r_cons (wpAny_Assign_Subscript h hs)
end

local macro_rules | `(tactic| walk_at "item") => `(tactic| (refine' s_item ?l ?_ ?_ ?x ?_ ?_ ?_; (case l => exact s_list (by assumption) (by walk_at "mem") rfl rfl); (case x => exact rfl); omega; omega; with_unfolding_all rfl; (intro _; with_unfolding_all rfl)))
local macro_rules | `(tactic| walk_at "m") => `(tactic| first | ((with_reducible refine r_setitem ?_ ?_); exact rfl) | (with_reducible refine o_pow15 (fun _ _ => ?_)))
section
variable {prog : Program} {w : World} {p : Program} {loose : List Str} {mean : ExcName → Option Value} {mg mb : Str → Option Value} {A₀ : Around} {base h₀ h : Heap} {outer : List Env} {env : Env} {L : Addr} {m : Str → Option Value} {tn imm : List (Addr × Obj)} {n : Nat} {G : Array GenState} {D : Drawn} {t : Nat} {O : OsState}
  {Q E : Value → Shared → Prop} {l : Addr} {vs : List Value} {ns : List Int}
abbrev shO (a b : Int) (u v : Tok) (k : Nat) : Obj := PySem.W.listOf [Value.int a u, Value.int b v].toArray k
/-- _law_book(shelf, many) -/
theorem c_book {sh : Addr} {a b mn : Int} {u v x : Tok} {k : Nat} (Z : Act w p loose mean mg mb A₀ base h₀ outer env L m ((sh, shO a b u v k) :: tn) imm h 4) (ha : 0 ≤ a) (hb : 0 ≤ b) (h1 : 1 ≤ mn) (h2 : mn ≤ 16)
    (hQ : ∀ r a' b' u' v' k' x' h' t', 0 ≤ r ∧ r < mn → 0 ≤ a' → 0 ≤ b' → Sta h₀ L m ((sh, shO a' b' u' v' k') :: tn) imm h' → Q (.int r x') ⟨h', G, D, t', O⟩) :
    wpAny (model prog w) (A₀.deeper env) (call (.ref 259) [.ref sh, .int mn x]) Q E ⟨h, G, D, t, O⟩ := by
  refine' callA0 (binds := [("shelf", .ref sh), ("many", .int mn x)]) Z ?k1 ?k2 ?k3 ?k4 ?k5 ?k6 ?k7 ?k8 ?_
  case k1 => k_is
  case k2 => k_is
  case k3 => exact rfl
  case k4 => exact locs rfl
  case k5 => decide
  case k6 => exact rfl
  case k7 => exact rfl
  case k8 => exact rfl
  intro g L' h₁ t₁ Z'
  have C := Z'.C
  have S := Z'.S
  have R := Z'.R
  with_reducible refine absQ fun Q₁ hQ₁ => ?_
  repeat walk_at "m"
  walk_at "item"
  repeat walk_at "m"
  walk_at "br"
  · repeat walk_at "m"
    walk_at "item"
    repeat walk_at "m"
    walk_at "item"
    repeat walk_at "m"
    refine s_setL (k := 0) (vs := [.int a u, .int b v]) (by assumption) (by decide) (by simp) (by simp) fun h n' S => ?_
    repeat walk_at "m"
    walk_at "back"
    refine fun S => hQ (a % mn) (a / mn) b _ _ _ _ _ _ ⟨Int.emod_nonneg _ (by omega), Int.emod_lt_of_pos _ (by omega)⟩ (Int.ediv_nonneg ha (by omega)) hb S
  · repeat walk_at "m"
    walk_at "item"
    repeat walk_at "m"
    refine s_setL (k := 1) (vs := [.int a u, .int b v]) (by assumption) (by decide) (by simp) (by simp) fun h n' S => ?_
    repeat walk_at "m"
    walk_at "item"
    repeat walk_at "m"
    walk_at "back"
    refine fun S => hQ _ a ((b * 167 + 6011) % 65371) _ _ _ _ _ _ ⟨Int.emod_nonneg _ (by omega), Int.emod_lt_of_pos _ (by omega)⟩ ha (Int.emod_nonneg _ (by decide)) S
/-- _law_shelf(script) -/
theorem c_shelf (Z : Act w p loose mean mg mb A₀ base h₀ outer env L m tn imm h 4) (hl : base.IsList l vs.toArray) (hi : IntsAre vs ns) (hz : vs.length ≤ 1000)
    (hQ : ∀ sh a b u v h' t', 0 ≤ a → 0 ≤ b → Sta h₀ L m ((sh, shO a b u v 0) :: tn) imm h' → Q (.ref sh) ⟨h', G, D, t', O⟩) :
    wpAny (model prog w) (A₀.deeper env) (call (.ref 252) [.ref l]) Q E ⟨h, G, D, t, O⟩ := by
  refine' callA0 (binds := [("script", .ref l)]) Z ?k1 ?k2 ?k3 ?k4 ?k5 ?k6 ?k7 ?k8 ?_
  case k1 => k_is
  case k2 => k_is
  case k3 => exact rfl
  case k4 => exact locs rfl
  case k5 => decide
  case k6 => exact rfl
  case k7 => exact rfl
  case k8 => exact rfl
  intro g L' h₁ t₁ Z'
  have C := Z'.C
  have S := Z'.S
  have R := Z'.R
  with_reducible refine absQ fun Q₁ hQ₁ => ?_
  have hls : ∀ {m tn imm h}, Sta g L' m tn imm h → h.IsList l vs.toArray := fun S => (hl.at fun o e => C.B.stays _ o e).at fun o e => S.F.keep _ o e
  repeat walk_at "m"
  refine s_lenL (hls S) (by omega) ?_
  repeat walk_at "m"
  walk_at "br"
  · cases hi with
    | nil => simp at *
    | cons i0 t0 hi =>
      repeat walk_at "m"
      refine' s_item (hls S) ?z ?f ?x ?s ?g ?_
      case z => decide
      case f => decide
      case x => exact rfl
      case s => with_unfolding_all rfl
      case g => (intro _; with_unfolding_all rfl)
      repeat walk_at "m"
      refine call_int_int ?_
      repeat walk_at "m"
      refine ⟨fun h1 => ?_, fun h1 => ?_⟩
      · have h1 := of_decide_eq_true h1
        repeat walk_at "m"
        refine ⟨fun h2 => ?_, fun h2 => ?_⟩
        · repeat walk_at "m"
          walk_at "back"
          exact fun S => hQ _ _ _ _ _ _ _ h1 (Int.emod_nonneg _ (by decide)) S
        · repeat walk_at "m"
          walk_at "back"
          exact fun S => hQ _ _ _ _ _ _ _ (Int.le_refl 0) (Int.emod_nonneg _ (by decide)) S
      · have h1 := of_decide_eq_false h1
        repeat walk_at "m"
        refine ⟨fun h2 => ?_, fun h2 => ?_⟩
        · repeat walk_at "m"
          walk_at "back"
          exact fun S => hQ _ _ _ _ _ _ _ (by omega) (Int.emod_nonneg _ (by decide)) S
        · repeat walk_at "m"
          walk_at "back"
          exact fun S => hQ _ _ _ _ _ _ _ (Int.le_refl 0) (Int.emod_nonneg _ (by decide)) S
  · repeat walk_at "m"
    refine ⟨fun h1 => ?_, fun h1 => absurd h1 (by decide)⟩
    repeat walk_at "m"
    refine ⟨fun h2 => absurd h2 (by decide), fun h2 => ?_⟩
    repeat walk_at "m"
    walk_at "back"
    exact fun S => hQ _ _ _ _ _ _ _ (Int.le_refl 0) (Int.emod_nonneg _ (by decide)) S
end

def EndsV (P Q : Value → Shared → Prop) : Prop := ∀ v s, P v s → Q v s
theorem EndsV.to {P Q : Value → Shared → Prop} {v : Value} {s : Shared} (h : EndsV P Q) (hp : P v s) : Q v s := h v s hp
theorem absC {M : Model} {A : Around} {target elt : Expr} {env : Env} {v : Value} {s : Shared} {Q E : Value → Shared → Prop} (h : ∀ Q', EndsV Q Q' → wpAny M A (assign target env v) (fun _ s₂ => wpAny M A (eval elt env) Q' E s₂) E s) : wpAny M A (assign target env v) (fun _ s₂ => wpAny M A (eval elt env) Q E s₂) E s := h Q fun _ _ x => x
section
variable {prog : Program} {w : World} {A : Around} {E : Value → Shared → Prop} {fenv : Env} {elt target iter : Expr} {scope : Scope} {pos : Pos} {cl : List (Str × Addr)} {h₀ h : Heap} {L : Addr} {m : Str → Option Value} {tn imm : List (Addr × Obj)} {G : Array GenState} {D : Drawn} {t : Nat} {O : OsState} {PP : Value → Addr → Result → Shared → Prop}
/-- the end of a comprehension's turn -/
def CompEnd (h₀ : Heap) (L : Addr) (m : Str → Option Value) (G : Array GenState) (D : Drawn) (O : OsState) (I : Addr) (oI : Obj) (D' C : Addr) (ys : List Value) (k : Nat) (J : List Value → List (Addr × Obj) → List (Addr × Obj) → Prop) (x : Value) (s₃ : Shared) : Prop :=
  ∃ h t oN mc tn imm, s₃ = ⟨h, G, D, t, O⟩ ∧ NsO oN mc ∧ Sta h₀ L m ((I, oI) :: (D', PySem.W.listOf ys.toArray k) :: (C, oN) :: tn) imm h ∧ J (ys ++ [x]) tn imm
theorem CompEnd.mk {I D' C : Addr} {oI oN : Obj} {ys : List Value} {k : Nat} {mc : Str → Option Value} {J : List Value → List (Addr × Obj) → List (Addr × Obj) → Prop} {x : Value} (N : NsO oN mc) (S : Sta h₀ L m ((I, oI) :: (D', PySem.W.listOf ys.toArray k) :: (C, oN) :: tn) imm h) (hj : J (ys ++ [x]) tn imm) :
    CompEnd h₀ L m G D O I oI D' C ys k J x ⟨h, G, D, t, O⟩ := ⟨h, t, oN, mc, tn, imm, rfl, N, S, hj⟩
/-- over a range -/
theorem comp_range {r : Addr} {n : Nat} {N : Int} {a b c : Tok} (hN : N = n) (hh : A.handled = none) (J : Nat → List Value → List (Addr × Obj) → List (Addr × Obj) → Prop) (hn : n < 100000) (hcell : ∀ y ∈ scope.names, y.2 ≠ .cell) (hkind : scope.kind = .function)
    (S : Sta h₀ L m tn imm h) (hl : (r, rngO N a b c) ∈ tn ++ imm) (hj : J 0 [] tn imm)
    (turn : ∀ I D' C i tk oI ys k oN mc tn imm h t, i < n → ys.length = i → J i ys tn imm → NsO oN mc → Sta h₀ L m ((I, oI) :: (D', PySem.W.listOf ys.toArray k) :: (C, oN) :: tn) imm h →
      wpAny (model prog w) A (assign target (compEnvC scope cl C fenv) (.int i tk)) (fun _ s₂ => wpAny (model prog w) A (eval elt (compEnvC scope cl C fenv)) (CompEnd h₀ L m G D O I oI D' C ys k (J (i + 1))) (fun _ _ => False) s₂) (fun _ _ => False) ⟨h, G, D, t, O⟩)
    (done : ∀ D' C ys k oN mc tn imm h t, ys.length = n → J n ys tn imm → NsO oN mc → Sta h₀ L m ((D', PySem.W.listOf ys.toArray k) :: (C, oN) :: tn) imm h → PP (.ref D') C (.ok .next) ⟨h, G, D, t, O⟩) :
    wpAny (model prog w) A (pyIter (.ref r)) (CompK prog w A fenv elt target iter scope pos cl PP E) E ⟨h, G, D, t, O⟩ := by
  subst hN
  have p62 : (2 : Int) ^ 62 = 4611686018427387904 := by decide
  have hsm : Builtin.Range.small 0 n 1 = true := small_one (by rw [p62]; omega) (by rw [p62]; omega) (by rw [p62]; omega) (by rw [p62]; omega)
  have hrs : Builtin.Range.rangeSize 0 n 1 = (n : Int) := by rw [rangeSize_one]; split <;> omega
  have W : Walks prog w A h.objs.size [h.objs.size] [h.objs.size] n (fun i v => ∃ t, v = .int (i : Int) t) (fun i h' => IsRangeIter h' h.objs.size (0 + (i : Nat) * 1) ((n : Int) - (i : Nat)) 1) := by
    have := Walks.range (prog := prog) (w := w) hh h.objs.size 0 1 n
    simpa using this
  refine wpAny_pyIter_range (s := ⟨h, G, D, t, O⟩) (S.get hl) hsm ?_
  rw [hrs]
  have S1 := S.newMut { cls := .type "range_iterator", data := .fields #[rawInt 0, rawInt n, rawInt 1] }
  refine compW (n := n) (T := "range_iterator") W plain_ri (by omega) (fun i h st => ⟨_, st, rfl⟩) J (fun b hb hbI => absurd (List.mem_singleton.mp hb) hbI) hcell hkind S1 ?_ hj (fun D' C i v oI ys k oN mc tn imm h t hi hP hys hJ N S => ?_) done
  · show IsRangeIter _ _ _ _ _
    have e := S1.get (.head _)
    dsimp only at e
    unfold IsRangeIter
    rw [e]
    simp
  · obtain ⟨tk, rfl⟩ := hP
    exact turn _ D' C i tk oI ys k oN mc tn imm h t hi hys hJ N S
/-- over a list -/
theorem comp_list {l : Addr} {vs : List Value} (hh : A.handled = none) (J : Nat → List Value → List (Addr × Obj) → List (Addr × Obj) → Prop) {o : Obj} (ho : o.cls = .type "list") {k : Nat} (hd : o.data = .seq vs.toArray k) (hl : ∀ i ys tn imm, J i ys tn imm → (l, o) ∈ tn ++ imm) (hn : vs.length ≤ 100000)
    (hcell : ∀ y ∈ scope.names, y.2 ≠ .cell) (hkind : scope.kind = .function) (S : Sta h₀ L m tn imm h) (hj : J 0 [] tn imm)
    (turn : ∀ I D' C i v oI ys k oN mc tn imm h t, vs[i]? = some v → ys.length = i → J i ys tn imm → NsO oN mc → Sta h₀ L m ((I, oI) :: (D', PySem.W.listOf ys.toArray k) :: (C, oN) :: tn) imm h →
      wpAny (model prog w) A (assign target (compEnvC scope cl C fenv) v) (fun _ s₂ => wpAny (model prog w) A (eval elt (compEnvC scope cl C fenv)) (CompEnd h₀ L m G D O I oI D' C ys k (J (i + 1))) (fun _ _ => False) s₂) (fun _ _ => False) ⟨h, G, D, t, O⟩)
    (done : ∀ D' C ys k oN mc tn imm h t, ys.length = vs.length → J vs.length ys tn imm → NsO oN mc → Sta h₀ L m ((D', PySem.W.listOf ys.toArray k) :: (C, oN) :: tn) imm h → PP (.ref D') C (.ok .next) ⟨h, G, D, t, O⟩) :
    wpAny (model prog w) A (pyIter (.ref l)) (CompK prog w A fenv elt target iter scope pos cl PP E) E ⟨h, G, D, t, O⟩ := by
  have hlo := S.get (hl _ _ _ _ hj)
  have hlt : (l, o) ∈ tn ++ imm := hl _ _ _ _ hj
  have hne : l ≠ h.objs.size := Nat.ne_of_lt (S.lt _ hlt)
  have hls : h.IsList l vs.toArray := ⟨o, hlo, ho, k, hd⟩
  have W : Walks prog w A h.objs.size [h.objs.size, l] [h.objs.size] vs.length (fun i v => vs[i]? = some v) (fun i h' => h'.IsListIter h.objs.size l i ∧ h'.IsList l vs.toArray) := by
    have := Walks.list (prog := prog) (w := w) hh h.objs.size l hne vs.toArray
    simpa using this
  refine wpAny_pyIter_list (s := ⟨h, G, D, t, O⟩) hls ?_
  have S1 := S.newMut { cls := .type "list_iterator", data := .fields #[.ref l, .int 0 0] }
  refine compW (n := vs.length) (T := "list_iterator") W plain_li hn (fun i h st => by obtain ⟨o, a, b, _⟩ := st.1; exact ⟨o, a, b⟩) J (fun b hb hbI => ?_) hcell hkind S1 ⟨⟨_, S1.get (.head _), rfl, rfl⟩, hls.at fun o e => Heap.get?_push_of_some _ e⟩ hj (fun D' C i v oI ys k oN mc tn imm h t hi hP hys hJ N S => turn _ D' C i v oI ys k oN mc tn imm h t hP hys hJ N S) done
  rcases List.mem_cons.mp hb with rfl | hb
  · exact absurd rfl hbI
  · obtain rfl := List.mem_singleton.mp hb
    exact ⟨o, hl⟩
/-- the end of a comprehension that stands by itself -/
theorem comp_post {Q : Value → Shared → Prop} {D' C : Addr} {oD oN : Obj} {mc : Str → Option Value} (N : NsO oN mc) (S : Sta h₀ L m ((D', oD) :: (C, oN) :: tn) imm h) (hq : ∀ h', Sta h₀ L m ((D', oD) :: tn) imm h' → Q (.ref D') ⟨h', G, D, t, O⟩) :
    compPost (model prog w) A E none Q (.ref D') C (.ok .next) ⟨h, G, D, t, O⟩ := by
  refine ⟨mc, S.nsO (.tail _ (.head _)) N, fun h' hs => hq h' ?_⟩
  have hC := S.N _ (.tail _ (.head _))
  have hne : D' ≠ C := fun q => (S.D.1 (C, oN) (.head _)) q.symm
  exact ⟨S.F.ns.sameBut hs hC.2.1.symm |> fun ns => ⟨ns, fun b o e => (hs.2 b (by rintro rfl; rw [hC.2.2] at e; cases e)).trans (S.F.keep b o e), S.F.above⟩, fun p hp => by
    have hp' : p ∈ ((D', oD) :: (C, oN) :: tn) ++ imm := by
      rcases List.mem_append.mp hp with q | q
      · rcases List.mem_cons.mp q with rfl | q
        · exact .head _
        · exact List.mem_append_left _ (.tail _ (.tail _ q))
      · exact List.mem_append_right _ q
    have hpC : p.1 ≠ C := by
      rcases List.mem_append.mp hp with q | q
      · rcases List.mem_cons.mp q with rfl | q
        · exact hne
        · exact S.D.2.1 p (List.mem_append_left _ q)
      · exact S.D.2.1 p (List.mem_append_right _ q)
    exact ⟨(hs.2 _ hpC).trans (S.N p hp').1, (S.N p hp').2⟩, ⟨fun p hp => S.D.1 p ((List.mem_append.mp hp).elim (fun q => List.mem_append_left _ (.tail _ q)) fun q => List.mem_append_right _ q), S.D.2.2⟩⟩
end

theorem Sta.d1 {h₀ h : Heap} {L x : Addr} {o : Obj} {m : Str → Option Value} {tn imm : List (Addr × Obj)} {a : Addr × Obj} (S : Sta h₀ L m (a :: (x, o) :: tn) imm h) : Sta h₀ L m (a :: tn) imm h := S.f1.drop
theorem pick {vs : List Value} {ns : List Int} (h : IntsAre vs ns) {k : Int} (h0 : 0 ≤ k) (h1 : k < ns.length) : ∃ n u, vs[k.toNat]? = some (.int n u) ∧ n ∈ ns := by
  have hj : k.toNat < vs.length := by rw [h.length]; omega
  obtain ⟨n, u, e, hv⟩ := ints_get h (List.getElem?_eq_getElem hj)
  exact ⟨n, u, by rw [List.getElem?_eq_getElem hj, hv], List.mem_of_getElem? e⟩
section
variable {prog : Program} {w : World} {M : Model} {A : Around} {E : Value → Shared → Prop} {env : Env} {s : Shared} {rest : List Stmt} {h₀ h : Heap} {L : Addr} {m : Str → Option Value} {tn imm : List (Addr × Obj)} {G : Array GenState} {D : Drawn} {t : Nat} {O : OsState}
/-- a tuple's stores, the last first -/
abbrev KSw (M : Model) (A : Around) (E : Value → Shared → Prop) (names : List Str) (env : Env) (Q : Unit → Shared → Prop) : Value → Shared → Prop := fun v s => wpAny M A (unpackItems v names.length none) (fun items s₂ => wpAny M A (assignInOrder (names.reverse.map fun n => bindName env n) items.reverse) Q E s₂) E s
theorem r_swap {elts : List Expr} {k : Nat} {tpos pos : Pos} {value : Expr} {names : List Str} {Q : Flow → Shared → Prop} (hs : swapsWithSole [.Tuple elts k tpos] value pos.line env = pure false) (hw : swappedStores [.Tuple elts k tpos] value env = pure (some names)) (h : wpAny M A (eval value env) (KSw M A E names env (KS M A E (execs rest env) Q)) E s) :
    wpAny M A (execs (.Assign [.Tuple elts k tpos] value pos :: rest) env) Q E s := r_cons (Assign_Tuple_swapped h hs hw)
theorem s_unpackI {l : Addr} {vs : List Value} {o : Obj} {n : Nat} {Q : List Value → Shared → Prop} (S : Sta h₀ L m tn imm h) (hl : (l, o) ∈ tn ++ imm) (ho : o.cls = .type "tuple") {k : Nat} (hd : o.data = .seq vs.toArray k) (hh : A.handled = none) (hn : n = vs.length)
    (hq : ∀ h', Sta h₀ L m tn imm h' → Q vs ⟨h', G, D, t, O⟩) : wpAny (model prog w) A (unpackItems (.ref l) n none) Q E ⟨h, G, D, t, O⟩ := by
  refine unpackItemsN_ (s := ⟨h, G, D, t, O⟩) S.F S.N (items := vs.toArray) ⟨o, S.get hl, ho, k, hd⟩ hh (by simpa using hn) fun h' F N => ?_
  have := hq h' ⟨F, N, S.D⟩
  simpa using this
end

local macro_rules | `(tactic| walk_at "m") => `(tactic| first
  | ((with_reducible refine' r_swap ?s ?w ?_); (case s => exact rfl); (case w => exact rfl))
  | ((with_reducible refine' s_unpackI ?S ?l ?_ ?d ?_ ?_ ?_); (case S => assumption); (case l => walk_at "mem"); (case d => exact rfl); exact rfl; exact Room.hd (by assumption); exact rfl; intro _ _)
  | (with_reducible refine PyProof.Rows.bindName_ ?_))
section
variable {prog : Program} {w : World} {p : Program} {loose : List Str} {mean : ExcName → Option Value} {mg mb : Str → Option Value} {A₀ : Around} {base h₀ h : Heap} {outer : List Env} {env : Env} {L : Addr} {m : Str → Option Value} {tn imm : List (Addr × Obj)} {n : Nat} {G : Array GenState} {D : Drawn} {t : Nat} {O : OsState}
  {Q E : Value → Shared → Prop} {sh : Addr} {a b : Int} {u v : Tok} {k : Nat}
theorem bound0 : ∀ n ∈ [(0 : Int), 16, 17, 255, 241], okCond 0 n := by decide
theorem bound1 : ∀ n ∈ [(1 : Int), 63, 32, 5, 6], okCond 1 n := by decide
/-- _law_bound(shelf) -/
theorem c_bound (Z : Act w p loose mean mg mb A₀ base h₀ outer env L m ((sh, shO a b u v k) :: tn) imm h 6) (ha : 0 ≤ a) (hb : 0 ≤ b)
    (hQ : ∀ (tb : TC) a' b' u' v' k' P T ux imm' h' t', tb.ok → 0 ≤ a' → 0 ≤ b' → (∀ q ∈ imm, q ∈ imm') → DatIn imm' (.ref T) tb.dat → (P, tupO [.ref T, .bytes tb.enc.toArray ux]) ∈ imm' → Sta h₀ L m ((sh, shO a' b' u' v' k') :: tn) imm' h' → Q (.ref P) ⟨h', G, D, t', O⟩) :
    wpAny (model prog w) (A₀.deeper env) (call (.ref 283) [.ref sh]) Q E ⟨h, G, D, t, O⟩ := by
  refine' callA0 (binds := [("shelf", .ref sh)]) Z ?k1 ?k2 ?k3 ?k4 ?k5 ?k6 ?k7 ?k8 ?_
  case k1 => k_is
  case k2 => k_is
  case k3 => exact rfl
  case k4 => exact locs rfl
  case k5 => decide
  case k6 => exact rfl
  case k7 => exact rfl
  case k8 => exact rfl
  intro g L' h₁ t₁ Z'
  have C := Z'.C
  have S := Z'.S
  have R := Z'.R
  with_reducible refine absQ fun Q₁ hQ₁ => ?_
  repeat walk_at "m"
  refine c_book (by walk_at "act") ha hb (by decide) (by decide) fun kd a b u v k x h t hkd ha hb S => ?_
  repeat walk_at "m"
  refine c_book (by walk_at "act") ha hb (by decide) (by decide) fun sl a b u v k x h t hsl ha hb S => ?_
  repeat walk_at "m"
  refine c_book (by walk_at "act1") ha hb (by decide) (by decide) fun r1 a b u v k x h t hr1 ha hb S => ?_
  obtain ⟨n1, u1, e1, m1⟩ := pick (.cons 0 _ (.cons 16 _ (.cons 17 _ (.cons 255 _ (.cons 241 _ .nil))))) hr1.1 hr1.2
  refine s_itemX (s_list S (.tail _ (.head _)) rfl rfl) hr1.1 (by omega) e1 ?_ (by with_unfolding_all rfl)
  repeat walk_at "m"
  refine c_book (by walk_at "act1") ha hb (by decide) (by decide) fun r2 a b u v k x h t hr2 ha hb S => ?_
  obtain ⟨n2, u2, e2, m2⟩ := pick (.cons 1 _ (.cons 63 _ (.cons 32 _ (.cons 5 _ (.cons 6 _ .nil))))) hr2.1 hr2.2
  refine s_itemX (s_list S (.tail _ (.head _)) rfl rfl) hr2.1 (by omega) e2 ?_ (by with_unfolding_all rfl)
  repeat walk_at "m"
  obtain ⟨nv, uv, ev, mv⟩ : ∃ nv uv, [Value.int n1 u1, Value.int n2 u2][kd.toNat]? = some (.int nv uv) ∧ ((kd = 0 ∧ nv = n1) ∨ (kd = 1 ∧ nv = n2)) := by
    exact (by omega : kd = 0 ∨ kd = 1).elim (fun hk0 => ⟨n1, u1, by rw [hk0]; rfl, .inl ⟨hk0, rfl⟩⟩) fun hk1 => ⟨n2, u2, by rw [hk1]; rfl, .inr ⟨hk1, rfl⟩⟩
  refine s_itemX (s_list (by assumption) (by walk_at "mem") rfl rfl) hkd.1 (by omega) ev ?_ (by with_unfolding_all rfl)
  have hok : okCond kd nv := mv.elim (fun z => by rw [z.1, z.2]; exact bound0 _ m1) fun z => by rw [z.1, z.2]; exact bound1 _ m2
  have h255 := hok.1
  repeat walk_at "m"
  refine s_bytesL (by assumption) (by walk_at "mem") rfl rfl (.cons _ _ (.cons _ _ .nil)) ?_ (by simp) R.hd fun h t k S => ?_
  · intro n hn
    simp only [List.mem_cons, List.not_mem_nil, or_false] at hn
    omega
  have e : obs [16 * kd + sl, nv] = (⟨kd, sl, nv⟩ : TC).enc := by simp [obs, TC.enc, Int.mul_comm]
  rw [e]
  repeat walk_at "m"
  walk_at "back"
  exact fun S => hQ ⟨kd, sl, nv⟩ _ _ _ _ _ _ _ _ _ _ _ ⟨⟨hsl.1, show sl ≤ 3 by omega⟩, ⟨hkd.1, show kd ≤ 1 by omega⟩, hok⟩ ha hb (fun q hq => .tail _ (.tail _ (.tail _ hq))) (.tuple (.tail _ (.head _)) (.cons (.int _ _) (.cons (.int _ _) (.cons (.int _ _) .nil)))) (.head _) S.f2.d1.d1.d1.d1
end

section
variable {prog : Program} {w : World} {p : Program} {loose : List Str} {mean : ExcName → Option Value} {mg mb : Str → Option Value} {A A₀ : Around} {base h₀ h : Heap} {outer : List Env} {env : Env} {L : Addr} {m : Str → Option Value} {tn imm : List (Addr × Obj)} {n : Nat} {G : Array GenState} {D : Drawn} {t : Nat} {O : OsState}
  {Q E : Value → Shared → Prop} {R : Result → Shared → Prop} {name qual : Str} {params : Arguments} {body : List Stmt} {scope : Scope} {dV kV doc pm cdv ct oc cls : Value} {an od : Option Addr} {osl : Array (Option Value)} {f l : Addr} {args vs : List Value} {binds : List (Str × Value)} {ns : List Int}
/-- a def with cells that never raises -/
theorem callA0C (Z : Act w p loose mean mg mb A₀ base h₀ outer env L m tn imm h (n + 1))
    (ho : (KH w.params).lookup f = some ⟨oc, od, .func (fnX name qual params body scope [] dV kV doc pm an cdv ct), osl⟩) (hcd : codeIn (KH w.params) cdv qual = true)
    (hbind : bindArgs (fnX name qual params body scope [] dV kV doc pm an cdv ct) ⟨args, []⟩ = pure binds)
    (hkind : ∀ n, ∀ x ∈ binds, scope.names.lookup x.1 = some .local ∨ (scope.names.lookup x.1 = some .cell ∧ ((cellsFrom n scope.names []).lookup x.1).isSome = true))
    (hnd : ((cellsFrom 0 scope.names []).map (·.1)).Nodup) (hco : scope.isCoroutine = false) (hgen : scope.isGenerator = false) (hk : scope.kind = .function)
    (hb : ∀ g L' h₁ t₁ cells, CellsAre (bindC (envOfC qual scope L' f cdv).kindOf binds fun _ => none) (cellsFrom (L' + 1) scope.names []) cells → (∀ p ∈ tn ++ imm, p.1 < L') →
      Cx (KH w.params) p loose mean mg mb (A₀.deeper env) base g (env :: outer) → Fr g L' h₁ (bindL (envOfC qual scope L' f cdv).kindOf binds fun _ => none) → News g L' h₁ (cells ++ (tn ++ imm)) → Sep tn imm → Room ((A₀.deeper env).deeper (envX qual scope L' f cdv (cellsFrom (L' + 1) scope.names []))) n →
      wpAny (model prog w) ((A₀.deeper env).deeper (envX qual scope L' f cdv (cellsFrom (L' + 1) scope.names []))) (execs body (envX qual scope L' f cdv (cellsFrom (L' + 1) scope.names [])))
        (fun fl s' => Back h₀ L m g Q (fv fl) s') (fun _ _ => False) ⟨h₁, G, D, t₁, O⟩) :
    wpAny (model prog w) (A₀.deeper env) (call (.ref f) args) Q E ⟨h, G, D, t, O⟩ := by
  refine wpAny_call ?_
  refine callX_cells (s := ⟨h, G, D, t, O⟩) Z.C.B Z.S.F Z.S.N Z.C.T.nolimit Z.C.frames Z.hf Z.hk ((Z.C.X.keeps Z.S.F.keep) _ _ ho) rfl (codeRec_of (Z.C.X.keeps Z.S.F.keep) hcd) Z.R.deep (BindsTo.of_eq hbind) hkind hnd (fun g L' h₁ tk cells FG F' N' Y B' st lt => ?_) hco hgen hk
  have C' : Cx (KH w.params) p loose mean mg mb (A₀.deeper env) base g (env :: outer) := ⟨B', Z.C.XB, Z.C.TB, fun b hb => by
      rcases mem_frames Z.hf hb with rfl | hb
      · obtain ⟨o, es, ep, ho, hd, _⟩ := FG.ns
        exact ⟨o, es, ep, ho, hd⟩
      · obtain ⟨o, es, n, ho, hd⟩ := Z.C.D b hb
        exact ⟨o, es, n, FG.keep b o ho, hd⟩⟩
  refine wpAny_mono (hb g L' h₁ tk cells Y lt C' F' N' Z.S.D Z.R.deeper) (fun fl s' hl => ?_) fun _ _ x => x.elim
  obtain ⟨L'', m', tn', imm', S', k⟩ := hl
  exact ⟨L'', m', tn' ++ imm', S'.F, S'.N, fun F N => k ⟨F, N, S'.D⟩⟩
/-- [v] * n -/
theorem s_mul1 {v : Value} {k : Nat} {x : Nat} {u : Tok} (S : Sta h₀ L m tn imm h) (hl : (l, PySem.W.listOf [v].toArray k) ∈ tn ++ imm) (hz : x ≤ 100000) (hq : ∀ a h', Sta h₀ L m ((a, lstO (List.replicate x v)) :: tn) imm h' → Q (.ref a) ⟨h', G, D, t, O⟩) :
    wpAny (model prog w) A (binaryOp .Mult (.ref l) (.int x u)) Q E ⟨h, G, D, t, O⟩ := by
  have p63 : (2 : Int) ^ 63 = 9223372036854775808 := by decide
  refine mul_list (s := ⟨h, G, D, t, O⟩) S.F S.N (S.get hl) (by rw [p63]; omega) (by rw [p63]; omega) (by simp; omega) fun h' F' N' => ?_
  have e : ∀ (x : Nat) (acc : Array Value), List.foldl (fun x1 x2 => x1 ++ x2) acc (List.replicate x #[v]) = acc ++ (List.replicate x v).toArray := by
    intro x
    induction x with
    | zero => intro acc; simp
    | succ x ih => intro acc; rw [List.replicate_succ, List.replicate_succ, List.foldl_cons, ih]; apply Array.toList_inj.mp; simp
  have e2 : List.foldl (fun x1 x2 => x1 ++ x2) #[] (List.replicate (if ([v].toArray).isEmpty = true then 0 else ((x : Int)).toNat) [v].toArray) = (List.replicate x v).toArray := by
    rw [if_neg (by simp), Int.toNat_natCast]
    have := e x #[]
    simpa using this
  rw [e2] at N'
  exact hq _ h' ⟨F', N', fun p hp => Nat.ne_of_lt (S.lt p hp), S.D⟩
/-- sum(a list of ints) -/
theorem s_sumL (S : Sta h₀ L m tn imm h) (hl : h.IsList l vs.toArray) (hi : IntsAre vs ns) (hh : A.handled = none) (hq : ∀ h' t' u, Sta h₀ L m tn imm h' → Q (.int ns.sum u) ⟨h', G, D, t', O⟩) :
    wpAny (model prog w) A (call (.builtin "sum") [.ref l]) Q E ⟨h, G, D, t, O⟩ := by
  obtain ⟨xs, hx⟩ := hi.allInts.items
  have hn : numsOf vs.toArray.toList = ns := by rw [show vs.toArray.toList = vs from rfl, hi.numsOf]
  rw [hx] at hl hn
  rw [nums_intItems] at hn
  obtain ⟨o, ho, hc, n, hd⟩ := id hl
  have hne : l ≠ h.objs.size := Nat.ne_of_lt (Heap.lt_size ho)
  have hsz : (intItems xs).size = xs.size := by simp [intItems]
  have W := (Walks.list (prog := prog) (w := w) (A := A.in1) hh h.objs.size l hne (intItems xs)).toS
  rw [hsz] at W
  refine call_sum_walkAnyS (s := ⟨h, G, D, t, O⟩) (wpAny_pyIter_list hl ?_)
  refine ⟨h.objs.size, _, _, _, _, _, _, numAt xs, rfl, W, ⟨⟨_, Heap.get?_push_size _ rfl, rfl, rfl⟩, hl.at fun o e => Heap.get?_push_of_some _ e⟩, fun b hb => ?_, fun i v hP => intItems_at hP, fun s' t' hm => ?_⟩
  · rcases List.mem_cons.mp hb with rfl | hb
    · exact Heap.lt_size (Heap.get?_push_size _ rfl)
    · obtain rfl := List.mem_singleton.mp hb
      exact Heap.lt_size (Heap.get?_push_of_some _ ho)
  · obtain ⟨h', g', d', tk', os'⟩ := s'
    have e1 : g' = G := hm.gens
    have e2 : d' = D := hm.drawn
    have e3 : os' = O := hm.os
    subst e1 e2 e3
    have := hq h' tk' t' (S.keeps fun b o e => hm.heap b o (fun hb => absurd (Heap.lt_size e) ((List.mem_singleton.mp hb) ▸ Nat.lt_irrefl _)) (Heap.get?_push_of_some _ e))
    rw [← hn] at this
    rw [preSum_eq, List.take_of_length_le (by simp)]
    exact this
end

local macro_rules | `(tactic| walk_at "mNameG") => `(tactic| first
  | ((with_reducible refine' g_local ?x ?_ ?_ ?a ?S ?m ?N ?v ?_); (case x => exact rfl); (case a => exact rfl); (case S => assumption); (case m => walk_at "mem"); (case N => assumption); (case v => walk_at "mv"); exact rfl; exact rfl)
  | ((with_reducible refine' g_cell ?x ?_ ?_ ?c ?S ?m ?d ?_); (case x => exact rfl); (case c => exact rfl); (case S => assumption); (case m => walk_at "mem"); (case d => assumption); exact rfl; exact rfl)
  | ((with_reducible refine' g_free ?x ?_ ?_ ?_ ?c ?S ?m ?d ?_); (case x => exact rfl); (case c => exact rfl); (case S => assumption); (case m => walk_at "mem"); (case d => assumption); exact rfl; exact rfl; exact rfl)
  | ((with_reducible refine' g_global ?x ?_ ?_ ?_ ?S ?C ?e ?_); (case x => exact rfl); (case S => assumption); (case C => assumption); (case e => k_is); exact rfl; exact rfl; exact rfl))
local macro_rules | `(tactic| walk_at "m") => `(tactic| first
  | ((with_reducible refine' e_comp ?c ?_ ?_ ?_ ?_); (case c => exact rfl); exact rfl; decide; exact fun _ => rfl)
  | ((with_reducible refine e_cmp ?_ ?_); with_unfolding_all rfl)
  | (with_reducible first | refine call_int_int ?_ | refine PySem.call_int_bool ?_))
theorem sum_nn : ∀ {ns : List Int}, (∀ n ∈ ns, 0 ≤ n) → 0 ≤ ns.sum
  | [], _ => Int.le_refl 0
  | n :: ns, h => by
    have := sum_nn (ns := ns) fun x hx => h x (.tail _ hx)
    have := h n (.head _)
    rw [List.sum_cons]
    omega
section
variable {prog : Program} {w : World} {p : Program} {loose : List Str} {mean : ExcName → Option Value} {mg mb : Str → Option Value} {A₀ : Around} {base h₀ h : Heap} {outer : List Env} {env : Env} {L : Addr} {m : Str → Option Value} {tn imm : List (Addr × Obj)} {n : Nat} {G : Array GenState} {D : Drawn} {t : Nat} {O : OsState}
  {Q E : Value → Shared → Prop} {sh : Addr} {a b : Int} {u v : Tok} {k : Nat}
/-- _law_codes(shelf) -/
theorem c_codes (Z : Act w p loose mean mg mb A₀ base h₀ outer env L m ((sh, shO a b u v k) :: tn) imm h 6) (ha : 0 ≤ a) (hb : 0 ≤ b)
    (hQ : ∀ (tb : TH) a' b' u' v' k' P T ux imm' h' t', tb.ok → tb.fit → tb.sy.length ≤ 18 → 0 ≤ a' → 0 ≤ b' → (∀ q ∈ imm, q ∈ imm') → DatIn imm' (.ref T) tb.dat → (P, tupO [.ref T, .bytes tb.enc.toArray ux]) ∈ imm' → Sta h₀ L m ((sh, shO a' b' u' v' k') :: tn) imm' h' → Q (.ref P) ⟨h', G, D, t', O⟩) :
    wpAny (model prog w) (A₀.deeper env) (call (.ref 276) [.ref sh]) Q E ⟨h, G, D, t, O⟩ := by
  refine' callA0C (binds := [("shelf", .ref sh)]) Z ?k1 ?k2 ?k3 ?k4 ?k5 ?k6 ?k7 ?k8 ?_
  case k1 => k_is
  case k2 => k_is
  case k3 => exact rfl
  case k4 => intro n x hx; simp at hx; subst hx; exact .inl rfl
  case k5 => decide
  case k6 => exact rfl
  case k7 => exact rfl
  case k8 => exact rfl
  intro g L' h₁ t₁ cells Y lt C F N D₀ R
  obtain ⟨o1, rfl, d1⟩ := PyProof.Rows.CellsAre.one Y
  have S : Sta g L' (upd (fun _ => none) "shelf" (.ref sh)) ((L' + 1, o1) :: (sh, shO a b u v k) :: tn) imm h₁ := ⟨F, N, sep_c1 lt D₀ (Nat.lt_succ_self _)⟩
  clear F N D₀ lt Y
  with_reducible refine absQ fun Q₁ hQ₁ => ?_
  repeat walk_at "m"
  refine c_book (by walk_at "act1") ha hb (by decide) (by decide) fun kd a b u v k x h t hkd ha hb S => ?_
  repeat walk_at "m"
  refine c_book (by walk_at "act") ha hb (by decide) (by decide) fun sl a b u v k x h t hsl ha hb S => ?_
  repeat walk_at "m"
  refine s_mul1 (x := 16) (by assumption) (.head _) (by decide) fun cl h S => ?_
  replace S := S.d1
  repeat walk_at "m"
  refine s_storeC (Sta.f2 (by assumption)) rfl d1 rfl rfl fun o2 h d2 S => ?_
  clear d1
  repeat walk_at "m"
  refine c_book (by walk_at "act2") ha hb (by decide) (by decide) fun nt a b u v k x h t hnt ha hb S => ?_
  repeat walk_at "m"
  refine loop_range (N := nt) (n := nt.toNat) (Int.toNat_of_nonneg hnt.1).symm R.hd (fun i m' tn' imm' => (∃ a b u v k vs kc ns, tn' = (sh, shO a b u v k) :: (L' + 1, o2) :: (cl, PySem.W.listOf vs.toArray kc) :: tn ∧ (∀ q ∈ imm, q ∈ imm') ∧ 0 ≤ a ∧ 0 ≤ b ∧ IntsAre vs ns ∧ ns.length = 16 ∧ (∀ n ∈ ns, 0 ≤ n ∧ n ≤ 9) ∧ ns.sum ≤ 9 * (i : Int)) ∧
    m' "shelf" = some (.ref sh) ∧ m' "counts" = some (.ref cl) ∧ ∃ tk, m' "kind" = some (.int kd tk)) (by omega) (fun _ _ z => z.elim) (by assumption) (by walk_at "mem") ?_ ?_ ?_
  · refine ⟨exI8 (x0 := a) (x1 := b) (x2 := u) (x3 := v) (x4 := k) (x6 := 0) (x7 := List.replicate 16 0) ⟨rfl, fun q hq => .tail _ (.tail _ hq), ha, hb, ?_, rfl, by simp, by simp⟩, ?_, ?_, ⟨_, by walk_at "mv"⟩⟩
    · exact (.cons 0 _ (.cons 0 _ (.cons 0 _ (.cons 0 _ (.cons 0 _ (.cons 0 _ (.cons 0 _ (.cons 0 _ (.cons 0 _ (.cons 0 _ (.cons 0 _ (.cons 0 _ (.cons 0 _ (.cons 0 _ (.cons 0 _ (.cons 0 _ .nil))))))))))))))))
    all_goals walk_at "mv"
  · intro i tk I oI m8 tn8 imm8 h8 t8 hi hJ S8
    with_reducible refine absL fun Q₂ hQ₂ => ?_
    refine anE4 hJ fun hz67 hm1 hm2 hz68 => ?_
    clear hJ
    refine exE8 hz67 fun a b u v k vs kc ns hz69 => ?_
    clear hz67
    refine anE8 hz69 fun hz70 hsub ha hb hI hlen hns hsum => ?_
    clear hz69
    subst hz70
    refine exE1 hz68 fun tk3 hm3 => ?_
    clear hz68
    repeat walk_at "m"
    refine c_book (by walk_at "act2") ha hb (by decide) (by decide) fun r1 a b u v k x h t hr1 ha hb S => ?_
    obtain ⟨n1, u1, e1, m1⟩ := pick (.cons 0 _ (.cons 1 _ (.cons 4 _ (.cons 9 _ .nil)))) hr1.1 hr1.2
    refine s_itemX (s_list S (.tail _ (.head _)) rfl rfl) hr1.1 (by omega) e1 ?_ (by with_unfolding_all rfl)
    repeat walk_at "m"
    refine c_book (by walk_at "act") ha hb (by decide) (by decide) fun r2 a b u v k x h t hr2 ha hb S => ?_
    have hvl := hI.length
    refine s_setL S.f4 hr2.1 (by omega) (by omega) fun h n' S => ?_
    have hn1 : 0 ≤ n1 ∧ n1 ≤ 9 := by
      simp only [List.mem_cons, List.not_mem_nil, or_false] at m1
      omega
    have hj : r2.toNat < ns.length := by omega
    have hget : 0 ≤ ns.getD r2.toNat 0 := by
      rw [List.getD_eq_getElem?_getD, List.getElem?_eq_getElem hj]
      exact (hns _ (List.getElem_mem hj)).1
    refine r_nilQ hQ₂ (TurnEnd.mk S.f2.drop.f3.f2.f3 ⟨exI8 (x7 := ns.set r2.toNat n1) ⟨rfl, fun q hq => hsub q hq, ha, hb, ints_set hI _, by rw [List.length_set]; exact hlen, fun n hn => ?_, ?_⟩, ?_, ?_, ⟨_, by walk_at "mv"⟩⟩)
    · rcases List.mem_or_eq_of_mem_set hn with hn | rfl
      · exact hns n hn
      · exact hn1
    · rw [sum_set hj]
      push_cast
      omega
    all_goals walk_at "mv"
  · intro m8 tn8 imm8 h8 t8 hJ S8
    refine anE4 hJ fun hz71 hm1 hm2 hz72 => ?_
    clear hJ
    refine exE8 hz71 fun a b u v k vs kc ns hz73 => ?_
    clear hz71
    refine anE8 hz73 fun hz74 hsub ha hb hI hlen hns hsum => ?_
    clear hz73
    subst hz74
    refine exE1 hz72 fun tk3 hm3 => ?_
    clear hz72
    repeat walk_at "m"
    have hsh : (PySem.W.listOf vs.toArray kc).cls = .type "list" := rfl
    refine s_sumL S8 (s_list S8 (.tail _ (.tail _ (.head _))) rfl rfl) hI R.hd fun h t us S => ?_
    have hs0 : 0 ≤ ns.sum := sum_nn fun n hn => (hns n hn).1
    have hs18 : ns.sum ≤ 18 := by omega
    repeat walk_at "m"
    refine comp_range (N := ns.sum) (n := ns.sum.toNat) (Int.toNat_of_nonneg hs0).symm R.hd (fun i ys tn' imm' => tn' = (sh, shO a b u v k) :: (L' + 1, o2) :: (cl, PySem.W.listOf vs.toArray kc) :: tn ∧ (∀ q ∈ imm, q ∈ imm') ∧ IntsAre ys ((List.range i).map fun (j : Nat) => (7 * (j : Int) + sl) % 256)) (by omega) (by decide) rfl (by assumption) (by walk_at "mem") ?_ ?_ ?_
    · exact ⟨rfl, fun q hq => .tail _ (hsub q hq), .nil⟩
    · intro I D' Cc i tk oI ys k9 oN mc tn9 imm9 h9 t9 hi hys hJ N9 S9
      with_reducible refine absC fun Q₃ hQ₃ => ?_
      refine anE3 hJ fun hz75 hsub9 hI9 => ?_
      clear hJ
      subst hz75
      repeat walk_at "m"
      refine g_store S9.f2 N9 rfl rfl rfl fun oN' h N' S => ?_
      repeat walk_at "m"
      refine hQ₃.to (CompEnd.mk N' S.f2.f2 ⟨rfl, hsub9, ?_⟩)
      rw [List.range_succ, List.map_append]
      exact hI9.append (.cons _ _ .nil)
    · intro D' Cc ys k9 oN mc tn9 imm9 h9 t9 hys hJ N9 S9
      refine anE3 hJ fun hz76 hsub9 hI9 => ?_
      clear hJ
      subst hz76
      refine comp_post N9 S9 fun h S => ?_
      repeat walk_at "m"
      refine s_bytesL S (.head _) rfl rfl hI9 (fun n hn => ?_) (by omega) R.hd fun h t q S => ?_
      · obtain ⟨j, _, rfl⟩ := List.mem_map.mp hn
        exact ⟨Int.emod_nonneg _ (by decide), Int.emod_lt_of_pos _ (by decide)⟩
      replace S := S.drop
      have hvl := hI.length
      generalize hsy : obs ((List.range ns.sum.toNat).map fun (j : Nat) => (7 * (j : Int) + sl) % 256) = sy
      have hsyl : sy.length = ns.sum.toNat := by rw [← hsy]; simp [obs]
      repeat walk_at "m"
      refine s_tupleOf (by assumption) (by walk_at "mem") rfl rfl (by omega) fun aT hT ST => ?_
      repeat walk_at "m"
      refine s_catL (by assumption) (s_list (by assumption) (.head _) rfl rfl) (s_list (by assumption) (by walk_at "mem") rfl rfl) (by simp; omega) fun aC hC SC => ?_
      repeat walk_at "m"
      refine s_bytesL SC (.head _) rfl rfl (.cons _ _ hI) (fun n hn => ?_) (by simp; omega) R.hd fun h t q S => ?_
      · rcases List.mem_cons.mp hn with rfl | hn
        · omega
        · have := hns n hn
          omega
      repeat walk_at "m"
      refine o_catb (by simp; omega) fun t' k' => ?_
      have e : obs ((16 * kd + sl) :: ns) ++ sy = (⟨kd, sl, ns, sy⟩ : TH).enc := by simp [obs, TH.enc, Int.mul_comm]
      rw [e]
      repeat walk_at "m"
      walk_at "back"
      exact fun S => hQ ⟨kd, sl, ns, sy⟩ _ _ _ _ _ _ _ _ _ _ _ ⟨⟨hsl.1, show sl ≤ 3 by omega⟩, ⟨hkd.1, show kd ≤ 1 by omega⟩, show ns.length ≤ 20 by omega, show sy.length ≤ 300 by omega⟩ ⟨hlen, show ns.sum = sy.length by omega, show sy.length ≤ 256 by omega, fun c hc => ⟨(hns c hc).1, by have := (hns c hc).2; omega⟩⟩
        (show sy.length ≤ 18 by omega) ha hb (fun q hq => .tail _ (.tail _ (.tail _ (hsub9 q hq)))) (.tuple (.tail _ (.head _)) (.cons (.int _ _) (.cons (.int _ _) (.cons (.tuple (.tail _ (.tail _ (.head _))) (datAll_ints hI)) (.cons (.bytes _ _) .nil))))) (.head _) S.f2.d1.d1.d1.d1
end

theorem Sta.f5 {h₀ h : Heap} {L x : Addr} {o : Obj} {m : Str → Option Value} {tn imm : List (Addr × Obj)} {a b c d e : Addr × Obj} (S : Sta h₀ L m (a :: b :: c :: d :: e :: (x, o) :: tn) imm h) : Sta h₀ L m ((x, o) :: a :: b :: c :: d :: e :: tn) imm h := Sta.front (pre := [a, b, c, d, e]) S
theorem Sta.f6 {h₀ h : Heap} {L x : Addr} {o : Obj} {m : Str → Option Value} {tn imm : List (Addr × Obj)} {a b c d e f : Addr × Obj} (S : Sta h₀ L m (a :: b :: c :: d :: e :: f :: (x, o) :: tn) imm h) : Sta h₀ L m ((x, o) :: a :: b :: c :: d :: e :: f :: tn) imm h := Sta.front (pre := [a, b, c, d, e, f]) S
section
variable {prog : Program} {w : World} {M : Model} {A : Around} {E : Value → Shared → Prop} {env : Env} {h₀ h : Heap} {L : Addr} {m : Str → Option Value} {tn imm : List (Addr × Obj)} {G : Array GenState} {D : Drawn} {t : Nat} {O : OsState}
/-- the end of a comprehension that is given a name -/
theorem comp_postU {Q : Value → Shared → Prop} {D' C f : Addr} {oD oN : Obj} {mc : Str → Option Value} {y : Str} {py : Pos} {qual : Str} {scope : Scope} {cl : List (Str × Addr)} {cdv : Value} (N : NsO oN mc) (S : Sta h₀ L m ((D', oD) :: (C, oN) :: tn) imm h) (hk : scope.kind = .function) (hx : (envX qual scope L f cdv cl).kindOf y = some .local)
    (hq : ∀ h', Sta h₀ L (upd m y (.ref D')) ((D', oD) :: tn) imm h' → Q .none ⟨h', G, D, t + 1, O⟩) :
    compPost (model prog w) A E (some (assign (.Name y py) (envX qual scope L f cdv cl))) Q (.ref D') C (.ok .next) ⟨h, G, D, t, O⟩ := by
  show wpAny _ _ (assign (.Name y py) (envX qual scope L f cdv cl) (.ref D')) _ _ _
  refine PyProof.Rows.assign_Name ?_
  refine s_store hx hk S fun h' S' => ?_
  obtain ⟨mc', hns, k⟩ := comp_post (prog := prog) (w := w) (A := A) (E := E) (G := G) (D := D) (t := t + 1) (O := O) (Q := fun v s => Q .none s) N S' fun h'' S'' => hq h'' S''
  exact ⟨mc', hns, k⟩
/-- a choice between two ints -/
theorem e_ifc {Q : Value → Shared → Prop} {wd : Bool} {test : Expr} {x y : Int} {k1 k2 : Nat} {p1 p2 pos : Pos} (h1 : wpAny M A (PySem.isTrue test env (eval test env)) (fun b s => b = wd ∧ s = ⟨h, G, D, t, O⟩) E ⟨h, G, D, t, O⟩) (hq : Q (.int (if wd then x else y) t) ⟨h, G, D, t + 1, O⟩) :
    wpAny M A (eval (.IfExp test (.Constant (.int x) k1 p1) (.Constant (.int y) k2 p2) pos) env) Q E ⟨h, G, D, t, O⟩ := by
  refine wpAny_IfExp (wpAny_mono h1 (fun b s hb => ?_) fun _ _ z => z)
  obtain ⟨rfl, rfl⟩ := hb
  cases b
  · rw [if_neg (by decide)]; exact e_int (by simpa using hq)
  · rw [if_pos rfl]; exact e_int (by simpa using hq)
end

local macro_rules | `(tactic| walk_at "act4") => `(tactic| (refine' actS (Sta.f4 ?S) ?C ?R ?_ ?_ ?_; (case S => assumption); (case C => assumption); (case R => assumption); exact rfl; exact rfl; decide))
local macro_rules | `(tactic| walk_at "m") => `(tactic| first
  | ((with_reducible refine' e_ifc ?h ?_); (case h => (refine isTrue_plain ?_ rfl; walk_at "m"; walk_at "m"; exact ⟨rfl, rfl⟩)))
  | ((with_reducible refine' r_comp ?_ ?c ?_ ?_ ?_ ?_); (case c => exact rfl); exact rfl; exact rfl; decide; exact fun _ => rfl)
  | ((with_reducible show wpAny _ _ (PySem.isTrue (Expr.Name _ _) _ _) _ _ _); refine isTrue_plain ?_ rfl))
theorem obs_flat (wd : Bool) : ∀ l : List Int, obs (l.flatMap fun d => if wd = true then [d / 256, d % 256] else [d]) = l.flatMap (dOct (if wd = true then 1 else 0))
  | [] => rfl
  | x :: l => by
    rw [List.flatMap_cons, List.flatMap_cons, ← obs_flat wd l]
    cases wd <;> simp [obs, dOct]
theorem flat_len2 (wd : Bool) : ∀ l : List Int, (l.flatMap fun d => if wd = true then [d / 256, d % 256] else [d]).length ≤ 2 * l.length
  | [] => by simp
  | x :: l => by
    have ih := flat_len2 wd l
    rw [List.flatMap_cons, List.length_append, List.length_cons]
    cases wd <;> simp at ih ⊢ <;> omega
section
variable {prog : Program} {w : World} {p : Program} {loose : List Str} {mean : ExcName → Option Value} {mg mb : Str → Option Value} {A₀ : Around} {base h₀ h : Heap} {outer : List Env} {env : Env} {L : Addr} {m : Str → Option Value} {tn imm : List (Addr × Obj)} {n : Nat} {G : Array GenState} {D : Drawn} {t : Nat} {O : OsState}
  {Q E : Value → Shared → Prop} {sh : Addr} {a b : Int} {u v : Tok} {k : Nat}
/-- _law_divisors(shelf, side) -/
theorem c_divisors {ts : Tok} (Z : Act w p loose mean mg mb A₀ base h₀ outer env L m ((sh, shO a b u v k) :: tn) imm h 6) (ha : 0 ≤ a) (hb : 0 ≤ b) (hn : 1 ≤ n ∧ n ≤ 3)
    (hQ : ∀ (tb : TQ) a' b' u' v' k' P T ux imm' h' t', tb.ok → tb.ds.length = n * n → 0 ≤ a' → 0 ≤ b' → (∀ q ∈ imm, q ∈ imm') → DatIn imm' (.ref T) tb.dat → (P, tupO [.ref T, .bytes tb.enc.toArray ux]) ∈ imm' → Sta h₀ L m ((sh, shO a' b' u' v' k') :: tn) imm' h' → Q (.ref P) ⟨h', G, D, t', O⟩) :
    wpAny (model prog w) (A₀.deeper env) (call (.ref 271) [.ref sh, .int n ts]) Q E ⟨h, G, D, t, O⟩ := by
  refine' callA0C (binds := [("shelf", .ref sh), ("side", .int n ts)]) Z ?k1 ?k2 ?k3 ?k4 ?k5 ?k6 ?k7 ?k8 ?_
  case k1 => k_is
  case k2 => k_is
  case k3 => exact rfl
  case k4 => intro n x hx; simp at hx; rcases hx with rfl | rfl; exact .inr ⟨rfl, rfl⟩; exact .inl rfl
  case k5 => decide
  case k6 => exact rfl
  case k7 => exact rfl
  case k8 => exact rfl
  intro g L' h₁ t₁ cells Y lt C F N D₀ R
  obtain ⟨o1, o2, rfl, d1, d2⟩ := PyProof.Rows.CellsAre.two Y
  have S : Sta g L' (upd (fun _ => none) "side" (.int n ts)) ((L' + 1 + 1, o1) :: (L' + 1, o2) :: (sh, shO a b u v k) :: tn) imm h₁ := ⟨F, N, sep_c2 lt D₀ (Nat.lt_succ_of_lt (Nat.lt_succ_self _)) (Nat.lt_succ_self _) (Nat.ne_of_lt (Nat.lt_succ_self _))⟩
  have d2 : o2.data = .cell (some (.ref sh)) := d2
  clear F N D₀ lt Y
  with_reducible refine absQ fun Q₁ hQ₁ => ?_
  repeat walk_at "m"
  refine c_book (by walk_at "act2") ha hb (by decide) (by decide) fun sl a b u v k x h t hsl ha hb S => ?_
  repeat walk_at "m"
  refine c_book (by walk_at "act") ha hb (by decide) (by decide) fun wr a b u v k x h t hwr ha hb S => ?_
  repeat walk_at "m"
  generalize (wr == 1) = wd
  obtain ⟨pr, hpr⟩ : ∃ pr : Int, (if wd = true then (1 : Int) else 0) = pr := ⟨_, rfl⟩
  have hpr1 : (wd = true ∧ pr = 1) ∨ (wd = false ∧ pr = 0) := (Bool.eq_false_or_eq_true wd).elim (fun h => .inl ⟨h, hpr.symm.trans (if_pos h)⟩) fun h => .inr ⟨h, hpr.symm.trans (if_neg (by rw [h]; decide))⟩
  refine s_storeC (Sta.f1 (by assumption)) rfl d1 rfl rfl fun o3 h d3 S => ?_
  clear d1
  replace S := S.f1
  repeat walk_at "m"
  have hnn : n * n ≤ 9 := Nat.mul_le_mul hn.2 hn.2
  refine comp_range (N := (n : Int) * n) (n := n * n) (Int.natCast_mul n n).symm R.hd (fun i ys tn' imm' => ∃ a b u v k ns, tn' = (sh, shO a b u v k) :: (L' + 1 + 1, o3) :: (L' + 1, o2) :: tn ∧ (∀ q ∈ imm, q ∈ imm') ∧ 0 ≤ a ∧ 0 ≤ b ∧ IntsAre ys ns ∧ ∀ d ∈ ns, okDv pr d) (by omega) (by decide) rfl (by assumption) (by walk_at "mem") ?_ ?_ ?_
  · exact exI6 (x0 := a) (x1 := b) (x2 := u) (x3 := v) (x4 := k) (x5 := []) ⟨rfl, fun q hq => .tail _ (.tail _ hq), ha, hb, .nil, by simp⟩
  · intro I D' Cc i tk oI ys k9 oN mc tn9 imm9 h9 t9 hi hys hJ N9 S9
    with_reducible refine absC fun Q₃ hQ₃ => ?_
    refine exE6 hJ fun a b u v k ns hz77 => ?_
    clear hJ
    refine anE6 hz77 fun hz78 hsub9 ha hb hI9 hns => ?_
    clear hz77
    subst hz78
    repeat walk_at "m"
    refine g_store S9.f2 N9 rfl rfl rfl fun oN' h N' S => ?_
    repeat walk_at "m"
    refine c_book (by walk_at "act4") ha hb (by decide) (by decide) fun r1 a b u v k x h t hr1 ha hb S => ?_
    obtain ⟨n1, u1, e1, m1⟩ := pick (.cons 1 _ (.cons 255 _ (.cons (if wd then 256 else 2) _ (.cons (if wd then 65535 else 9) _ .nil)))) hr1.1 hr1.2
    refine s_itemX (s_list S (.tail _ (.head _)) rfl rfl) hr1.1 (by omega) e1 ?_ (by with_unfolding_all rfl)
    refine hQ₃.to (CompEnd.mk N' S.d1.f1.f3.f3 (exI6 (x5 := ns ++ [n1]) ⟨rfl, fun q hq => hsub9 q hq, ha, hb, hI9.append (.cons _ _ .nil), fun d hd => ?_⟩))
    rcases List.mem_append.mp hd with hd | hd
    · exact hns d hd
    · simp only [List.mem_cons, List.not_mem_nil, or_false] at hd m1
      rw [hd]
      rcases hpr1 with ⟨hw, hp⟩ | ⟨hw, hp⟩
      · simp only [hw, if_true] at m1
        simp only [hp, okDv, if_true]
        omega
      · simp only [hw, Bool.false_eq_true, if_false] at m1
        simp only [hp, okDv]
        rw [if_neg (by decide)]
        omega
  · intro D' Cc ys k9 oN mc tn9 imm9 h9 t9 hys hJ N9 S9
    refine exE6 hJ fun a b u v k ns hz79 => ?_
    clear hJ
    refine anE6 hz79 fun hz80 hsub9 ha hb hI9 hns => ?_
    clear hz79
    subst hz80
    refine comp_postU N9 S9 rfl rfl fun h S => ?_
    have hlen : ns.length = n * n := by rw [← hI9.length]; exact hys
    replace S := S.freeze
    repeat walk_at "m"
    subst hpr
    have hyl : ys.length ≤ 9 := by omega
    refine loop_list R.hd (fun i m' tn' imm' => ∃ ol vs ko, tn' = (ol, PySem.W.listOf vs.toArray ko) :: (sh, shO a b u v k) :: (L' + 1 + 1, o3) :: (L' + 1, o2) :: tn ∧ (D', PySem.W.listOf ys.toArray k9) ∈ imm' ∧ (∀ q ∈ imm, q ∈ imm') ∧
      IntsAre vs ((16 * (if wd = true then (1 : Int) else 0) + sl) :: (ns.take i).flatMap fun d => if wd = true then [d / 256, d % 256] else [d]) ∧ m' "octets" = some (.ref ol) ∧ m' "numbers" = some (.ref D') ∧ ∃ tk, m' "slot" = some (.int sl tk))
      rfl rfl (by rintro i m tn' imm' ⟨_, _, _, rfl, hD, _⟩; exact List.mem_append_right _ hD) (fun _ _ z => z.elim) (by assumption) ?_ ?_ ?_
    · refine exI3 (x2 := 0) ⟨rfl, .head _, fun q hq => .tail _ (hsub9 q hq), .cons _ _ .nil, ?_, ?_, ⟨_, by walk_at "mv"⟩⟩
      all_goals walk_at "mv"
    · intro i v I oI m8 tn8 imm8 h8 t8 hv hJ S8
      with_reducible refine absL fun Q₂ hQ₂ => ?_
      refine exE3 hJ fun ol vs ko hz81 => ?_
      clear hJ
      refine anE7 hz81 fun hz82 hD hsub8 hI8 hm1 hm2 hz83 => ?_
      clear hz81
      subst hz82
      refine exE1 hz83 fun tk3 hm3 => ?_
      clear hz83
      obtain ⟨d, ud, hdv, rfl⟩ := ints_get hI9 hv
      have hl8 := hI8.length
      have hfl : ((ns.take i).flatMap fun d => if wd = true then [d / 256, d % 256] else [d]).length ≤ 18 := by
        have := flat_len2 wd (ns.take i)
        rw [List.length_take] at this
        omega
      rw [List.length_cons] at hl8
      have htk : (ns.take (i + 1)).flatMap (fun d => if wd = true then [d / 256, d % 256] else [d]) = (ns.take i).flatMap (fun d => if wd = true then [d / 256, d % 256] else [d]) ++ (if wd = true then [d / 256, d % 256] else [d]) := by
        rw [List.take_succ, hdv]; simp
      repeat walk_at "m"
      refine ⟨fun hc => ?_, fun hc => ?_⟩
      · repeat walk_at "m"
        refine s_catL (by assumption) (s_list (by assumption) (by walk_at "mem") rfl rfl) (s_list (by assumption) (.head _) rfl rfl) (by simp; omega) fun aC hC SC => ?_
        repeat walk_at "m"
        rename_i S10
        refine r_nilQ hQ₂ (TurnEnd.mk S10.d1.f1.f2.drop (exI3 (x2 := 0) ⟨rfl, hD, hsub8, ?_, ?_, ?_, ⟨_, by walk_at "mv"⟩⟩))
        · rw [htk, show (if wd = true then [d / 256, d % 256] else [d]) = [d / 256, d % 256] from if_pos hc]
          exact hI8.append (.cons _ _ (.cons _ _ .nil))
        all_goals walk_at "mv"
      · repeat walk_at "m"
        refine s_catL (by assumption) (s_list (by assumption) (by walk_at "mem") rfl rfl) (s_list (by assumption) (.head _) rfl rfl) (by simp; omega) fun aC hC SC => ?_
        repeat walk_at "m"
        rename_i S10
        refine r_nilQ hQ₂ (TurnEnd.mk S10.d1.f1.f2.drop (exI3 (x2 := 0) ⟨rfl, hD, hsub8, ?_, ?_, ?_, ⟨_, by walk_at "mv"⟩⟩))
        · rw [htk, show (if wd = true then [d / 256, d % 256] else [d]) = [d] from if_neg (by rw [hc]; decide)]
          exact hI8.append (.cons _ _ .nil)
        all_goals walk_at "mv"
    · intro m8 tn8 imm8 h8 t8 hJ S8
      refine exE3 hJ fun ol vs ko hz84 => ?_
      clear hJ
      refine anE7 hz84 fun hz85 hD hsub8 hI8 hm1 hm2 hz86 => ?_
      clear hz84
      subst hz85
      refine exE1 hz86 fun tk3 hm3 => ?_
      clear hz86
      rw [hI9.length, List.take_length] at hI8
      repeat walk_at "m"
      refine s_tupleOf S8 (by walk_at "mem") rfl rfl (by omega) fun aT hT ST => ?_
      repeat walk_at "m"
      have hl8 := hI8.length
      have hfl := flat_len2 wd ns
      rw [List.length_cons] at hl8
      refine s_bytesL (by assumption) (by walk_at "mem") rfl rfl hI8 (fun x hx => ?_) (by omega) R.hd fun h t q S => ?_
      · rcases List.mem_cons.mp hx with rfl | hx
        · rcases hpr1 with ⟨_, e⟩ | ⟨_, e⟩ <;> rw [e] <;> omega
        · obtain ⟨d, hd, hx⟩ := List.mem_flatMap.mp hx
          have hdv := hns d hd
          rcases hpr1 with ⟨hw, _⟩ | ⟨hw, _⟩
          · simp [hw, okDv] at hdv hx
            omega
          · simp [hw, okDv] at hdv hx
            omega
      have e : obs ((16 * (if wd = true then (1 : Int) else 0) + sl) :: ns.flatMap fun d => if wd = true then [d / 256, d % 256] else [d]) = (⟨sl, if wd = true then 1 else 0, ns⟩ : TQ).enc := by
        show ob _ :: obs _ = _
        rw [obs_flat]
        simp [TQ.enc, Int.mul_comm]
      rw [e]
      repeat walk_at "m"
      walk_at "back"
      exact fun S => hQ ⟨sl, if wd = true then 1 else 0, ns⟩ _ _ _ _ _ _ _ _ _ _ _ ⟨⟨hsl.1, show sl ≤ 3 by omega⟩, ⟨show (0 : Int) ≤ (if wd = true then 1 else 0) by cases wd <;> simp, show (if wd = true then (1 : Int) else 0) ≤ 1 by cases wd <;> simp⟩, hns, show ns.length ≤ 9 by omega⟩ hlen ha hb
        (fun q hq => .tail _ (.tail _ (.tail _ (hsub8 q hq)))) (.tuple (.tail _ (.head _)) (.cons (.int _ _) (.cons (.int _ _) (.cons (.tuple (.tail _ (.tail _ (.head _))) (datAll_ints hI9)) .nil)))) (.head _) S.f1.d1.d1.d1
end

section
variable {prog : Program} {w : World} {A : Around} {E : Value → Shared → Prop} {env : Env} {pos : Pos} {target : Expr} {body rest : List Stmt} {Q : Flow → Shared → Prop} {h₀ h : Heap} {L : Addr} {m : Str → Option Value} {tn imm : List (Addr × Obj)} {G : Array GenState} {D : Drawn} {t : Nat} {O : OsState} {s : Shared} {fs : List Addr}
/-- the end of a turn in which the ground may turn -/
def TurnEndT (fs : List Addr) (h₀ : Heap) (L : Addr) (G : Array GenState) (D : Drawn) (O : OsState) (I : Addr) (oI : Obj) (J : (Str → Option Value) → List (Addr × Obj) → List (Addr × Obj) → Prop) (s : Shared) : Prop :=
  ∃ g h t m tn imm, s = ⟨h, G, D, t, O⟩ ∧ KtsTurn fs h₀ g ∧ Sta g L m ((I, oI) :: tn) imm h ∧ J m tn imm
theorem TurnEndT.mk {g : Heap} {I : Addr} {oI : Obj} {J : (Str → Option Value) → List (Addr × Obj) → List (Addr × Obj) → Prop} (T : KtsTurn fs h₀ g) (S : Sta g L m ((I, oI) :: tn) imm h) (hj : J m tn imm) : TurnEndT fs h₀ L G D O I oI J ⟨h, G, D, t, O⟩ := ⟨g, h, t, m, tn, imm, rfl, T, S, hj⟩
theorem loopWT {I : Addr} {oI : Obj} {fp : List Addr} {n : Nat} {P : Nat → Value → Prop} {Stt : Nat → Heap → Prop} {T : String} (W : Walks prog w A I fp [I] n P Stt) (hT : itPlain T)
    (hI : ∀ i h, Stt i h → ∃ o, h.get? I = some o ∧ o.cls = .type T) (J : Nat → (Str → Option Value) → List (Addr × Obj) → List (Addr × Obj) → Prop)
    (hfp : ∀ b ∈ fp, b ≠ I → ∃ o, ∀ i m tn imm, J i m tn imm → (b, o) ∈ tn ++ imm) (hE : PassesOwn (model prog w) A env E) (S : Sta h₀ L m ((I, oI) :: tn) imm h) (hst : Stt 0 h) (hj : J 0 m tn imm)
    (turn : ∀ g i v oI m tn imm h t, KtsTurn fs h₀ g → i < n → P i v → J i m tn imm → Sta g L m ((I, oI) :: tn) imm h →
      wpAny (model prog w) A (assign target env v) (fun _ s₂ => wpN (model prog w) A (execs body env) (LoopF (TurnEndT fs g L G D O I oI (J (i + 1))) Q (fun s' => wpN (model prog w) A (execs rest env) Q E s')) E s₂) E ⟨h, G, D, t, O⟩)
    (done : ∀ g m tn imm h t, KtsTurn fs h₀ g → J n m tn imm → Sta g L m tn imm h → wpN (model prog w) A (execs rest env) Q E ⟨h, G, D, t, O⟩) :
    ForKN prog w A env target body rest Q E (.ref I) ⟨h, G, D, t, O⟩ := by
  refine codeN_for (fun k s' => ∃ g h' tk m' tn' imm' oI' i, s' = ⟨h', G, D, tk, O⟩ ∧ KtsTurn fs h₀ g ∧ Sta g L m' ((I, oI') :: tn') imm' h' ∧ Stt i h' ∧ J i m' tn' imm' ∧ i ≤ n ∧ k = n + 1 - i) ?_ (n + 1) (exI8 ⟨rfl, KtsTurn.refl, S, hst, hj, Nat.zero_le _, rfl⟩)
  intro k s' hJ0
  refine exE8 hJ0 fun g h' tk m' tn' imm' oI' i hz87 => ?_
  clear hJ0
  refine anE7 hz87 fun hz88 TT S' hst' hJ hi hz89 => ?_
  clear hz87
  subst hz88
  subst hz89
  by_cases hlt : i < n
  · refine W.item i ⟨h', G, D, tk, O⟩ _ _ hlt hst' fun v h₁ tk₁ hP hst₁ hk₁ => ?_
    have hio := hI _ _ hst₁
    refine exE1 hio fun o₁ hz90 => ?_
    clear hio
    refine anE2 hz90 fun ho₁ hc₁ => ?_
    clear hz90
    have S₁ := S'.turn (fun b o hb e => hk₁ b o (fun q => hb (List.mem_singleton.mp q)) e) ho₁
    refine letGo_plain ho₁ hc₁ hT ?_
    refine wpAny_mono (turn g i v o₁ m' tn' imm' h₁ tk₁ TT hlt hP hJ S₁) (fun _ s₂ h₂ => wpN.mono h₂ (fun f s₃ h₃ => ?_) hE) hE
    have fin : TurnEndT fs g L G D O I o₁ (J (i + 1)) s₃ → ∃ k', k' < n + 1 - i ∧ ∃ g h' tk m' tn' imm' oI' i', s₃ = ⟨h', G, D, tk, O⟩ ∧ KtsTurn fs h₀ g ∧ Sta g L m' ((I, oI') :: tn') imm' h' ∧ Stt i' h' ∧ J i' m' tn' imm' ∧ i' ≤ n ∧ k' = n + 1 - i' := by
      intro hJ0
      refine exE6 hJ0 fun g₂ h₂' tk₂ m₂ tn₂ imm₂ hz91 => ?_
      clear hJ0
      refine anE4 hz91 fun hz92 T₂ S₂ J₂ => ?_
      clear hz91
      subst hz92
      refine ⟨n + 1 - (i + 1), Nat.sub_succ_lt_self _ _ (Nat.lt_succ_of_lt hlt), exI8 ⟨rfl, TT.trans T₂, S₂, ?_, J₂, hlt, rfl⟩⟩
      exact W.frame _ _ _ hst₁ (S₁.fpKeep S₂ (.head _) (.head _) fun b hb q => (hfp b hb q).imp fun o h => ⟨.tail _ (h _ _ _ _ hJ), .tail _ (h _ _ _ _ J₂)⟩)
    cases f with
    | next => exact fin h₃
    | cont => exact fin h₃
    | brk => exact h₃
    | ret v => exact h₃
  · have hin : i = n := by omega
    subst hin
    refine W.done ⟨h', G, D, tk, O⟩ _ _ hst' fun h₁ tk₁ hk₁ => rn_nil ?_
    refine done g m' tn' imm' h₁ tk₁ TT hJ ?_
    exact S'.dropTurn hk₁
/-- over a range -/
theorem loop_rangeT {r : Addr} {n : Nat} {N : Int} {a b c : Tok} (hN : N = n) (hh : A.handled = none) (J : Nat → (Str → Option Value) → List (Addr × Obj) → List (Addr × Obj) → Prop) (hn : n < 100000)
    (hE : PassesOwn (model prog w) A env E) (S : Sta h₀ L m tn imm h) (hl : (r, rngO N a b c) ∈ tn ++ imm) (hj : J 0 m tn imm)
    (turn : ∀ g i tk I oI m tn imm h t, KtsTurn fs h₀ g → i < n → J i m tn imm → Sta g L m ((I, oI) :: tn) imm h →
      wpAny (model prog w) A (assign target env (.int i tk)) (fun _ s₂ => wpN (model prog w) A (execs body env) (LoopF (TurnEndT fs g L G D O I oI (J (i + 1))) Q (fun s' => wpN (model prog w) A (execs rest env) Q E s')) E s₂) E ⟨h, G, D, t, O⟩)
    (done : ∀ g m tn imm h t, KtsTurn fs h₀ g → J n m tn imm → Sta g L m tn imm h → wpN (model prog w) A (execs rest env) Q E ⟨h, G, D, t, O⟩) :
    wpAny (model prog w) A (pyIter (.ref r)) (ForKN prog w A env target body rest Q E) E ⟨h, G, D, t, O⟩ := by
  subst hN
  have p62 : (2 : Int) ^ 62 = 4611686018427387904 := by decide
  have hsm : Builtin.Range.small 0 n 1 = true := small_one (by rw [p62]; omega) (by rw [p62]; omega) (by rw [p62]; omega) (by rw [p62]; omega)
  have hrs : Builtin.Range.rangeSize 0 n 1 = (n : Int) := by rw [rangeSize_one]; split <;> omega
  have W : Walks prog w A h.objs.size [h.objs.size] [h.objs.size] n (fun i v => ∃ t, v = .int (i : Int) t) (fun i h' => IsRangeIter h' h.objs.size (0 + (i : Nat) * 1) ((n : Int) - (i : Nat)) 1) := by
    have := Walks.range (prog := prog) (w := w) hh h.objs.size 0 1 n
    simpa using this
  refine wpAny_pyIter_range (s := ⟨h, G, D, t, O⟩) (S.get hl) hsm ?_
  rw [hrs]
  have S1 := S.newMut { cls := .type "range_iterator", data := .fields #[rawInt 0, rawInt n, rawInt 1] }
  refine loopWT (fs := fs) (n := n) (T := "range_iterator") W plain_ri (fun i h st => ⟨_, st, rfl⟩) J (fun b hb hbI => absurd (List.mem_singleton.mp hb) hbI) hE S1 ?_ hj (fun g i v oI m tn imm h t TT hi hP hJ S => ?_) done
  · show IsRangeIter _ _ _ _ _
    have e := S1.get (.head _)
    dsimp only at e
    unfold IsRangeIter
    rw [e]
    simp
  · obtain ⟨tk, rfl⟩ := hP
    exact turn g i tk _ oI m tn imm h t TT hi hJ S
/-- over a tuple that stands -/
theorem loop_tupleT {l : Addr} {vs : List Value} (hh : A.handled = none) (J : Nat → (Str → Option Value) → List (Addr × Obj) → List (Addr × Obj) → Prop) {o : Obj} (ho : o.cls = .type "tuple") {k : Nat} (hd : o.data = .seq vs.toArray k) (hl : ∀ i m tn imm, J i m tn imm → (l, o) ∈ tn ++ imm)
    (hE : PassesOwn (model prog w) A env E) (S : Sta h₀ L m tn imm h) (hj : J 0 m tn imm)
    (turn : ∀ g i v I oI m tn imm h t, KtsTurn fs h₀ g → vs[i]? = some v → J i m tn imm → Sta g L m ((I, oI) :: tn) imm h →
      wpAny (model prog w) A (assign target env v) (fun _ s₂ => wpN (model prog w) A (execs body env) (LoopF (TurnEndT fs g L G D O I oI (J (i + 1))) Q (fun s' => wpN (model prog w) A (execs rest env) Q E s')) E s₂) E ⟨h, G, D, t, O⟩)
    (done : ∀ g m tn imm h t, KtsTurn fs h₀ g → J vs.length m tn imm → Sta g L m tn imm h → wpN (model prog w) A (execs rest env) Q E ⟨h, G, D, t, O⟩) :
    wpAny (model prog w) A (pyIter (.ref l)) (ForKN prog w A env target body rest Q E) E ⟨h, G, D, t, O⟩ := by
  have hlo := S.get (hl _ _ _ _ hj)
  have hlt : (l, o) ∈ tn ++ imm := hl _ _ _ _ hj
  have hne : l ≠ h.objs.size := Nat.ne_of_lt (S.lt _ hlt)
  have hls : h.IsTuple l vs.toArray := ⟨o, hlo, ho, k, hd⟩
  have W : Walks prog w A h.objs.size [h.objs.size, l] [h.objs.size] vs.length (fun i v => vs[i]? = some v) (fun i h' => h'.IsTupleIter h.objs.size l i ∧ h'.IsTuple l vs.toArray) := by
    have := Walks.tuple (prog := prog) (w := w) hh h.objs.size l hne vs.toArray
    simpa using this
  refine wpAny_pyIter_tuple (s := ⟨h, G, D, t, O⟩) hls ?_
  have S1 := S.newMut { cls := .type "tuple_iterator", data := .fields #[.ref l, .int 0 0] }
  refine loopWT (fs := fs) (n := vs.length) (P := fun i v => vs[i]? = some v) (T := "tuple_iterator") W plain_ti (fun i h st => by obtain ⟨o, a, b, _⟩ := st.1; exact ⟨o, a, b⟩) J (fun b hb hbI => ?_) hE S1 ⟨⟨_, S1.get (.head _), rfl, rfl⟩, ⟨o, Heap.get?_push_of_some _ hlo, ho, k, hd⟩⟩ hj (fun g i v oI m tn imm h t TT hi hP hJ S => turn g i v _ oI m tn imm h t TT hP hJ S) done
  rcases List.mem_cons.mp hb with rfl | hb
  · exact absurd rfl hbI
  · obtain rfl := List.mem_singleton.mp hb
    exact ⟨o, hl⟩
end
section
variable {prog : Program} {w : World} {M : Model} {A : Around} {E : Value → Shared → Prop} {s : Shared} {env : Env} {pos : Pos} {whole : Sem Value}
theorem n_or1 {x : Expr} {Q : Bool → Shared → Prop} (h : wpN M A (PySem.isTrue x env (eval x env)) (fun c s' => Q c s') E s) : wpN M A (PySem.isTrue (.BoolOp .Or [x] pos) env whole) Q E s := by
  show wpN M A (do
    match BoolOp.Or, ← PySem.isTrue x env (eval x env) with
    | .And, false => pure false
    | .Or, true => pure true
    | _, _ => allTrue .Or [] env) Q E s
  refine wpN.bind (wpN.mono h (fun c s' h' => ?_) fun _ _ x => x)
  cases c with
  | false => exact wpN.of (wpAny_pure h')
  | true => exact wpN.pure h'
/-- what may be called -/
def MayCall (w : World) (prog : Program) (f : Value) (need : List (Addr × Obj)) : Prop :=
  ∀ h, ((KH w.params).In h ∧ ∀ q ∈ need, h.get? q.1 = some q.2) → ∃ k, (k = Keeper.frame ∨ k = Keeper.machine ∨ k = Keeper.boundFrame) ∧ Looks (model prog w) h (keeperOf f) k
theorem MayCall.ofK {f : Value} {need : List (Addr × Obj)} (hk : keepIn (KH w.params) f = true) : MayCall w prog f need := fun h X => keeps_K hk h X.1
theorem MayCall.ofF {f : Addr} {fo : Obj} {fd : FuncData} {need : List (Addr × Obj)} (hm : (f, fo) ∈ need) (hd : fo.data = .func fd) : MayCall w prog (.ref f) need := fun h X => keeps_F h (by
  obtain ⟨oc, od, ot, osl⟩ := fo
  dsimp only at hd
  subst hd
  exact ⟨oc, od, fd, osl, X.2 _ hm⟩)
theorem callWithN_V {f : Value} {need : List (Addr × Obj)} {e : Expr} {Q : Value → Shared → Prop} (hk : MayCall w prog f need) (h : wpAny (model prog w) A (spliced (backTo pos (starEach [e] env))) (fun vs s₁ => ((KH w.params).In s₁.heap ∧ ∀ q ∈ need, s₁.heap.get? q.1 = some q.2) ∧ wpN (model prog w) A (call f vs) Q E s₁) E s)
    (he : starEach [e] env = (false, eval e env) :: starEach [] env) (hplain : (backTo pos (starEach [] env)).any (·.1) = false) :
    wpN (model prog w) A (callWith pos f [] (backTo pos (starEach [e] env)) []) Q E s := by
  rw [he] at h ⊢
  exact callWithN (P := fun h => (KH w.params).In h ∧ ∀ q ∈ need, h.get? q.1 = some q.2) (by show ((false || (backTo pos (starEach [] env)).any (·.1)) || false) = false; rw [hplain]; rfl) hk (evalArgs_plain h)
end

section
variable {M : Model} {A : Around} {E : Value → Shared → Prop} {env : Env} {s : Shared} {rest : List Stmt} {pos : Pos} {e : Expr}
theorem rn_tup {elts : List Expr} {k : Nat} {tpos : Pos} {value : Expr} {Q : Flow → Shared → Prop} (hs : swapsWithSole [.Tuple elts k tpos] value pos.line env = pure false) (hw : swappedStores [.Tuple elts k tpos] value env = pure none) (h : wpAny M A (eval value env) (KB M A E (assign (.Tuple elts k tpos) env) (KSN M A E (execs rest env) Q)) E s) :
    wpN M A (execs (.Assign [.Tuple elts k tpos] value pos :: rest) env) Q E s := rn_plain (Assign_Tuple h hs hw)
theorem rn_swap {elts : List Expr} {k : Nat} {tpos : Pos} {value : Expr} {names : List Str} {Q : Flow → Shared → Prop} (hs : swapsWithSole [.Tuple elts k tpos] value pos.line env = pure false) (hw : swappedStores [.Tuple elts k tpos] value env = pure (some names)) (h : wpAny M A (eval value env) (KSw M A E names env (KSN M A E (execs rest env) Q)) E s) :
    wpN M A (execs (.Assign [.Tuple elts k tpos] value pos :: rest) env) Q E s := rn_plain (Assign_Tuple_swapped h hs hw)
/-- an expression that reaches no bytearray -/
theorem rn_exprA {Q : Flow → Shared → Prop} (h : wpAny M A (eval e env) (KEN M A E rest env Q) E s)
    (hi : interactive env = false) (hs : swapsWith e none pos.line env = pure false) : wpN M A (execs (.Expr e pos :: rest) env) Q E s :=
  rn_plain (wpAny_Expr (wpAny_mono h (fun v s' hv => by obtain ⟨rfl, hv⟩ := hv; exact hv) fun _ _ x => x) hi hs)
theorem e_bool {b : Bool} {k : Nat} {Q : Value → Shared → Prop} (h : Q (.bool b) s) : wpAny M A (eval (.Constant (.bool b) k pos) env) Q E s := wpAny_pure h
abbrev KCm (M : Model) (A : Around) (E : Value → Shared → Prop) (op : CmpOp) (r : Expr) (env : Env) (Q : Value → Shared → Prop) : Value → Shared → Prop := fun a s => wpAny M A (eval r env) (KB M A E (compareOp op a) Q) E s
theorem en_cmp {l r : Expr} {op : CmpOp} {Q : Value → Shared → Prop}
    (h : wpN M A (eval l env) (KCm M A E op r env Q) E s)
    (hm : behindInMarks op r = false) : wpN M A (eval (.Compare l [op] [r] pos) env) Q E s := fun Γ p hΓ g n => by
  simp only [eval_Compare1, markedBehindIn_of_false hm, Sem.wp_bind', Sem.wp_holding, Sem.wp_cmd_standAt, Sem.wp_operate]
  exact Sem.wp_mono M Γ _ (fun a p₁ s₁ h₁ => Sem.wp_mono M Γ _ (fun b _ s₂ h₂ => h₂ Γ _ hΓ) (fun _ _ _ h' => h') _ _ (h₁ Γ p₁ hΓ)) (fun _ _ _ h' => h') _ _ (h Γ p hΓ g n)
end
section
variable (prog : Program) (w : World) (p : Program) (loose : List Str) (mean : ExcName → Option Value) (mg mb : Str → Option Value) (G : Array GenState) (D : Drawn) (O : OsState)
/-- a reader: what it tells of octets -/
def ReadsBy (rv : Value) (need : List (Addr × Obj)) (rd : List UInt8 → Option (List Dat)) : Prop :=
  ∀ (A₀ : Around) (base h₀ h : Heap) (outer : List Env) (env : Env) (L : Addr) (m : Str → Option Value) (tn imm : List (Addr × Obj)) (t : Nat) (b : List UInt8) (tb : Tok) (Q E : Value → Shared → Prop), Act w p loose mean mg mb A₀ base h₀ outer env L m tn imm h 14 → (∀ q ∈ need, q ∈ imm) → b.length ≤ 1000 →
    (∀ ds, rd b = some ds → ∀ fl vs k imm' h' t', (∀ q ∈ imm, q ∈ imm') → DatAll imm' vs ds → Sta h₀ L m ((fl, PySem.W.listOf vs.toArray k) :: tn) imm' h' → Q (.ref fl) ⟨h', G, D, t', O⟩) →
    (rd b = none → ∀ e h' tk, Thrown base h₀ env outer L (.ref 44) (tn ++ imm) e h' → E e ⟨h', G, D, tk, O⟩) →
    wpN (model prog w) (A₀.deeper env) (call rv [.bytes b.toArray tb]) Q E ⟨h, G, D, t, O⟩
/-- a writer of good tables -/
def WritesBy {T : Type} (wv : Value) (enc : T → List UInt8) (dat : T → Dat) (okT : T → Prop) : Prop :=
  ∀ (A₀ : Around) (base h₀ h : Heap) (outer : List Env) (env : Env) (L : Addr) (m : Str → Option Value) (tn imm : List (Addr × Obj)) (t : Nat) (l : Addr) (o : Obj) (k : Nat) (vs : List Value) (ts : List T) (Q E : Value → Shared → Prop), Act w p loose mean mg mb A₀ base h₀ outer env L m tn imm h 14 →
    (l, o) ∈ imm → o.cls = .type "list" → o.data = .seq vs.toArray k → DatAll imm vs (ts.map dat) → (∀ t ∈ ts, okT t) → ts.length ≤ 10 →
    (∀ h' t' u, Sta h₀ L m tn imm h' → Q (.bytes (ts.flatMap enc).toArray u) ⟨h', G, D, t', O⟩) → wpN (model prog w) (A₀.deeper env) (call wv [.ref l]) Q E ⟨h, G, D, t, O⟩
end
/-- the pairs of a table and its octets -/
def PairAll {T : Type} (imm : List (Addr × Obj)) (enc : T → List UInt8) (dat : T → Dat) (vs : List Value) (ts : List T) : Prop :=
  vs.length = ts.length ∧ ∀ (i : Nat) (v : Value), vs[i]? = some v → ∃ t P Tb u k, ts[i]? = some t ∧ v = .ref P ∧ (P, tupK [.ref Tb, .bytes (enc t).toArray u] k) ∈ imm ∧ DatIn imm (.ref Tb) (dat t)
abbrev lamQ (n : Str) : Str := (n ++ ".<locals>.") ++ "<lambda>"
theorem BsAre.append {vs ws : List Value} {bs cs : List (List UInt8)} (h : BsAre vs bs) (k : BsAre ws cs) : BsAre (vs ++ ws) (bs ++ cs) := by
  induction h with
  | nil => exact k
  | cons b t _ ih => exact .cons b t ih
theorem BackT.mk {h₀ g g' : Heap} {L L' : Addr} {m m' : Str → Option Value} {outer : List Env} {env : Env} {Q : Value → Shared → Prop} {v : Value} {s' : Shared} {tn' imm' : List (Addr × Obj)} (T : KtsTurn (fsO (env :: outer)) g g') (S : Sta g' L' m' tn' imm' s'.heap) (k : ∀ h₀', KtsTurn (fsO outer) h₀ h₀' → Sta h₀' L m tn' imm' s'.heap → Q v s') : BackT h₀ L m g outer env Q v s' := ⟨g', L', m', tn', imm', T, S, k⟩

local macro_rules | `(tactic| walk_at "m") => `(tactic| first
  | (with_reducible first | refine s_joinM ?_ | refine e_bool ?_)
  | ((with_reducible refine' s_indexM ?S ?l ?_ ?_ ?_); (case S => assumption); (case l => walk_at "mem"); exact rfl; exact rfl))
local macro_rules | `(tactic| walk_at "n") => `(tactic| first | ((with_reducible refine rn_tup ?_ ?_ ?_); exact rfl; exact rfl) | ((with_reducible refine' rn_swap ?s ?w ?_); (case s => exact rfl); (case w => exact rfl)))
local macro_rules | `(tactic| walk_at "m") => `(tactic| first
  | (with_reducible first | refine a_nil ?_ | refine e_int ?_ | refine e_call ?_)
  | ((with_reducible refine' (_ : wpAny _ _ (eval (Expr.Name _ _) _) _ _ _)); first | walk_at "mName" | walk_at "mNameG")
  | ((with_reducible refine' a_cons ?s ?_); (case s => exact rfl)))
theorem dat_take {news : List (Addr × Obj)} (k : Nat) : ∀ {vs : List Value} {ds : List Dat}, DatAll news vs ds → DatAll news (vs.take k) (ds.take k) := by
  induction k with
  | zero => intro _ _ _; exact .nil
  | succ k ih =>
    intro vs ds h
    cases ds with
    | nil => rw [da_nil h]; exact .nil
    | cons d ds => exact da_cons h fun x ws e h1 h2 => e ▸ .cons h1 (ih h2)
theorem Room.u64 {A : Around} {n : Nat} (R : Room A n) : A.units + 64 < cLine := by rw [cLine_is]; have := R.un; omega
theorem ia_cons {vs : List Value} {n : Int} {ns : List Int} {P : Prop} (h : IntsAre vs (n :: ns)) (k : ∀ u ws, vs = .int n u :: ws → IntsAre ws ns → P) : P := by cases h; exact k _ _ rfl ‹_›
theorem ia_nil {vs : List Value} (h : IntsAre vs []) : vs = [] := by cases h; rfl
theorem ints_snoc {ns : List Int} {n : Int} : ∀ {vs : List Value}, IntsAre vs (ns ++ [n]) → ∃ ws u, vs = ws ++ [.int n u] ∧ IntsAre ws ns := by
  induction ns with
  | nil => intro vs h; exact ia_cons h fun u ws e hw => exI2 (x0 := []) (x1 := u) ⟨e.trans (by rw [ia_nil hw]; rfl), .nil⟩
  | cons m ns ih => intro vs h; exact ia_cons h fun u ws e hw => exE2 (ih hw) fun ws' u' hh => exI2 (x0 := .int m u :: ws') (x1 := u') ⟨e.trans (by rw [hh.1]; rfl), .cons _ _ hh.2⟩
section
variable {prog : Program} {w : World} {p : Program} {loose : List Str} {mean : ExcName → Option Value} {mg mb : Str → Option Value} {A₀ : Around} {base h₀ h : Heap} {outer : List Env} {env : Env} {L : Addr} {m : Str → Option Value} {tn imm need : List (Addr × Obj)} {n : Nat} {G : Array GenState} {D : Drawn} {t : Nat} {O : OsState}
  {Q E : Value → Shared → Prop} {T : Type} {enc : T → List UInt8} {dat : T → Dat} {okT : T → Prop} {rd : List UInt8 → Option (List Dat)} {ts : List T} {rv wv : Value} {ml : Addr} {om : Obj} {vs : List Value} {km : Nat} {ps : Array Value}
/-- _law_cuts_right(read, write, made) -/
theorem c_cuts (Z : Act w p loose mean mg mb A₀ base h₀ outer env L m ((285, tabObj ps) :: tn) imm h 20) (HC : CodeHd base 287 285) (TB : Tab (lamQ "_law_cuts_right") ps imm)
    (hneed : ∀ q ∈ need, q ∈ imm) (hkr : MayCall w prog rv need) (hkw : MayCall w prog wv []) (HR : ReadsBy prog w p loose mean mg mb G D O rv need rd) (HW : WritesBy prog w p loose mean mg mb G D O wv enc dat okT)
    (hml : (ml, om) ∈ imm) (hmc : om.cls = .type "list") (hmd : om.data = .seq vs.toArray km) (hpr : PairAll imm enc dat vs ts) (hok : ∀ t ∈ ts, okT t) (hl1 : 1 ≤ ts.length) (hl3 : ts.length ≤ 3) (hB : (ts.flatMap enc).length ≤ 400) (hdep : ∀ t ∈ ts, dep 8 (dat t) = true)
    (p1 : rd [] = some []) (p2 : rd (ts.flatMap enc ++ ts.flatMap enc) = some (ts.map dat ++ ts.map dat)) (p3 : ∀ j, j ≤ ts.length → rd ((ts.flatMap enc).take ((ts.take j).flatMap enc).length) = some ((ts.take j).map dat))
    (p4 : ∀ i, i ≤ (ts.flatMap enc).length → (∀ j, j ≤ ts.length → ((ts.take j).flatMap enc).length ≠ i) → rd ((ts.flatMap enc).take i) = none)
    (hQ : ∀ h₀' ps' imm' h' t', KtsTurn (fsO outer) h₀ h₀' → (∀ q ∈ imm, q ∈ imm') → Tab (lamQ "_law_cuts_right") ps' imm' → Sta h₀' L m ((285, tabObj ps') :: tn) imm' h' → Q (.bool true) ⟨h', G, D, t', O⟩) :
    wpN (model prog w) (A₀.deeper env) (call (.ref 288) [rv, wv, .ref ml]) Q E ⟨h, G, D, t, O⟩ := by
  refine' callNTC (binds := [("read", rv), ("write", wv), ("made", .ref ml)]) Z ?k1 ?k2 ?k3 ?k4 ?k5 ?k6 ?k7 ?k8 ?_
  case k1 => k_is
  case k2 => k_is
  case k3 => exact rfl
  case k4 => intro n x hx; simp at hx; rcases hx with rfl | rfl | rfl; exact .inr ⟨rfl, rfl⟩; exact .inl rfl; exact .inl rfl
  case k5 => decide
  case k6 => exact rfl
  case k7 => exact rfl
  case k8 => exact rfl
  intro g L' h₁ t₁ cells Y lt C F N D₀ R
  obtain ⟨o1, o2, o3, rfl, d1, d2, d3⟩ := PyProof.Rows.CellsAre.three Y
  have S : Sta g L' (upd (upd (fun _ => none) "write" wv) "made" (.ref ml)) ((L' + 1 + 1 + 1, o1) :: (L' + 1 + 1, o2) :: (L' + 1, o3) :: (285, tabObj ps) :: tn) imm h₁ :=
    ⟨F, N, sep_c3 lt D₀ (Nat.lt_succ_of_lt (Nat.lt_succ_of_lt (Nat.lt_succ_self _))) (Nat.lt_succ_of_lt (Nat.lt_succ_self _)) (Nat.lt_succ_self _) (Nat.ne_of_lt (Nat.lt_succ_self _)) (Nat.ne_of_lt (Nat.lt_succ_of_lt (Nat.lt_succ_self _))) (Nat.ne_of_lt (Nat.lt_succ_self _))⟩
  have d3 : o3.data = .cell (some rv) := d3
  clear F N D₀ lt Y
  with_reducible refine absQN fun Q₀ hQ₀ => ?_
  have hvl : vs.length = ts.length := hpr.1
  repeat walk_at "n"
  refine comp_list R.hd (fun i ys tn' imm' => tn' = (L' + 1 + 1 + 1, o1) :: (L' + 1 + 1, o2) :: (L' + 1, o3) :: (285, tabObj ps) :: tn ∧ imm = imm' ∧ DatAll imm ys ((ts.take i).map dat)) hmc hmd (by rintro i ys tn' imm' ⟨_, rfl, _⟩; exact List.mem_append_right _ hml) (by omega) (by decide) rfl S ⟨rfl, rfl, .nil⟩ ?_ ?_
  · intro I D' Cc i v oI ys k9 oN mc tn9 imm9 h9 t9 hv hys hJ N9 S9
    with_reducible refine absC fun Q₃ hQ₃ => ?_
    refine anE3 hJ fun hz93 hz94 hd9 => ?_
    clear hJ
    subst hz93
    subst hz94
    have hq9 := hpr.2 i v hv
    refine exE5 hq9 fun tt P Tb u9 k8 hz95 => ?_
    clear hq9
    refine anE4 hz95 fun htt hz96 hP hTb => ?_
    clear hz95
    subst hz96
    repeat walk_at "m"
    refine g_store (Sta.f2 (by assumption)) N9 rfl rfl rfl fun oN1 h N1 S => ?_
    repeat walk_at "m"
    refine g_store S N1 rfl rfl rfl fun oN2 h N2 S => ?_
    repeat walk_at "m"
    refine hQ₃.to (CompEnd.mk N2 S.f2.f2 ⟨rfl, rfl, ?_⟩)
    rw [List.take_succ, htt, List.map_append]
    exact hd9.append (.one hTb)
  intro TL Cc vsT kT oN mc tn9 imm9 h9 t9 hysT hJ N9 S9
  refine anE3 hJ fun hz97 hz98 hdT => ?_
  clear hJ
  subst hz97
  subst hz98
  refine comp_post N9 S9 fun h S => ?_
  clear N9 S9
  rw [hvl, List.take_length] at hdT
  repeat walk_at "n"
  refine comp_list R.hd (fun i ys tn' imm' => tn' = (TL, PySem.W.listOf vsT.toArray kT) :: (L' + 1 + 1 + 1, o1) :: (L' + 1 + 1, o2) :: (L' + 1, o3) :: (285, tabObj ps) :: tn ∧ imm = imm' ∧ BsAre ys ((ts.take i).map enc)) hmc hmd (by rintro i ys tn' imm' ⟨_, rfl, _⟩; exact List.mem_append_right _ hml) (by omega) (by decide) rfl S ⟨rfl, rfl, .nil⟩ ?_ ?_
  · intro I D' Cc i v oI ys k9 oN mc tn9 imm9 h9 t9 hv hys hJ N9 S9
    with_reducible refine absC fun Q₃ hQ₃ => ?_
    refine anE3 hJ fun hz99 hz100 hd9 => ?_
    clear hJ
    subst hz99
    subst hz100
    have hq9 := hpr.2 i v hv
    refine exE5 hq9 fun tt P Tb u9 k8 hz101 => ?_
    clear hq9
    refine anE4 hz101 fun htt hz102 hP hTb => ?_
    clear hz101
    subst hz102
    repeat walk_at "m"
    refine g_store (Sta.f2 (by assumption)) N9 rfl rfl rfl fun oN1 h N1 S => ?_
    repeat walk_at "m"
    refine g_store S N1 rfl rfl rfl fun oN2 h N2 S => ?_
    repeat walk_at "m"
    refine hQ₃.to (CompEnd.mk N2 S.f2.f2 ⟨rfl, rfl, ?_⟩)
    rw [List.take_succ, htt, List.map_append]
    exact hd9.append (.cons _ _ .nil)
  intro OL Cc vsO kO oN mc tn9 imm9 h9 t9 hysO hJ N9 S9
  refine anE3 hJ fun hz103 hz104 hdO => ?_
  clear hJ
  subst hz103
  subst hz104
  refine comp_post N9 S9 fun h S => ?_
  clear N9 S9
  rw [hvl, List.take_length] at hdO
  have hfl : (ts.map enc).flatten = ts.flatMap enc := by rw [List.flatMap_def]
  repeat walk_at "n"
  refine s_join (S.get (.head _)) rfl rfl hdO (by omega) (by omega) (by rw [hfl]; omega) fun ub kb => ?_
  rw [hfl]
  replace S := S.drop
  repeat walk_at "n"
  rename_i EL hE SE tA hA SA hB2 SB hC2 SC
  refine s_storeC (Sta.f2 SC) rfl d1 rfl rfl fun o4 h d4 S => ?_
  clear d1 SE SA SB SC
  replace S := S.f2.freeze
  repeat walk_at "n"
  refine loop_listN R.hd (fun i m' tn' imm' => (∃ vsE kE, tn' = (L' + 1 + 1 + 1, o4) :: (EL, PySem.W.listOf vsE.toArray kE) :: (L' + 1 + 1, o2) :: (L' + 1, o3) :: (285, tabObj ps) :: tn ∧ IntsAre vsE ((List.range (i + 1)).map fun j => (((ts.take j).flatMap enc).length : Int))) ∧
    (TL, PySem.W.listOf vsT.toArray kT) ∈ imm' ∧ (∀ q ∈ imm, q ∈ imm') ∧ m' "ends" = some (.ref EL) ∧ m' "tables" = some (.ref TL) ∧ m' "write" = some wv) hmc hmd (by rintro i m' tn' imm' ⟨_, _, hsub, _⟩; exact List.mem_append_right _ (hsub _ hml)) (fun _ _ z => z.elim) (by assumption) ?_ ?_ ?_
  · refine ⟨⟨_, 0, rfl, .cons _ _ .nil⟩, .head _, fun q hq => .tail _ (.tail _ hq), ?_, ?_, ?_⟩
    all_goals walk_at "mv"
  · intro i v I oI m8 tn8 imm8 h8 t8 hv hJ S8
    with_reducible refine absLN fun Q₃ hQ₃ => ?_
    refine anE6 hJ fun hz105 hTL8 hsub8 hm1 hm2 hm3 => ?_
    clear hJ
    refine exE2 hz105 fun vsE kE hz106 => ?_
    clear hz105
    refine anE2 hz106 fun hz107 hE8 => ?_
    clear hz106
    subst hz107
    have hq9 := hpr.2 i v hv
    refine exE5 hq9 fun tt P Tb u9 k8 hz108 => ?_
    clear hq9
    refine anE4 hz108 fun htt hz109 hP hTb => ?_
    clear hz108
    subst hz109
    have hP8 := hsub8 _ hP
    rw [List.range_succ, List.map_append] at hE8
    obtain ⟨ws, ue, rfl, hw⟩ := ints_snoc hE8
    have hwl := hw.length
    rw [List.length_map, List.length_range] at hwl
    have hi : i < vs.length := (List.getElem?_eq_some_iff.mp hv).1
    have htl : (enc tt).length ≤ 400 := by
      have := flat_take (f := enc) htt
      have h2 : ((ts.take (i + 1)).flatMap enc).length ≤ (ts.flatMap enc).length := by
        conv => rhs; rw [← List.take_append_drop (i + 1) ts, List.flatMap_append, List.length_append]
        omega
      rw [this, List.length_append] at h2
      omega
    repeat walk_at "m"
    refine rn_exprA ?_ rfl rfl
    repeat walk_at "m"
    walk_at "last"
    repeat walk_at "m"
    refine e_lenb (by omega) ?_
    repeat walk_at "m"
    rename_i hZ SZ
    refine rn_nilQ hQ₃ (TurnEnd.mk SZ.f2.f2 ⟨⟨_, _, rfl, ?_⟩, hTL8, hsub8, ?_, ?_, ?_⟩)
    · rw [List.range_succ, List.map_append, List.range_succ, List.map_append]
      refine (hw.append (.cons _ ue .nil)).append ?_
      have e : (((ts.take (i + 1)).flatMap enc).length : Int) = ((ts.take i).flatMap enc).length + (enc tt).length := by
        rw [flat_take (f := enc) htt, List.length_append, Int.natCast_add]
      simp only [List.map_cons, List.map_nil]
      rw [e]
      exact .cons _ _ .nil
    all_goals walk_at "mv"
  · intro m8 tn8 imm8 h8 t8 hJ S8
    refine anE6 hJ fun hz110 hTL8 hsub8 hm1 hm2 hm3 => ?_
    clear hJ
    refine exE2 hz110 fun vsE kE hz111 => ?_
    clear hz110
    refine anE2 hz111 fun hz112 hE8 => ?_
    clear hz111
    subst hz112
    rw [hvl] at hE8
    have hB' : (ts.flatMap enc).length ≤ 400 := hB
    have neq : ∀ b : List UInt8, (b.toArray.toList != b.toArray.toList) = false := fun b => by simp
    refine rn_ifL (n_or ?_)
    refine n_cmp (en_call ?_) rfl
    repeat walk_at "m"
    refine callWithN_V hkw ?_ rfl rfl
    repeat walk_at "m"
    refine ⟨⟨C.X.keeps S8.F.keep, fun _ hq => by cases hq⟩, ?_⟩
    refine HW _ _ _ _ _ _ _ _ _ _ _ TL _ kT vsT ts _ _ ⟨C, S8, rfl, rfl, R.le (by decide)⟩ hTL8 rfl rfl (hdT.mono hsub8) hok (by omega) fun h t u S => ?_
    repeat walk_at "m"
    refine PySem.W.ne_bytes ?_
    rw [neq]
    repeat walk_at "m"
    refine ⟨fun z => Bool.noConfusion z, fun _ => ?_⟩
    refine n_or ?_
    refine n_cmp (en_call ?_) rfl
    repeat walk_at "m"
    refine callWithN_V hkr ?_ rfl rfl
    repeat walk_at "m"
    refine ⟨⟨C.X.keeps S.F.keep, fun q hq => S.get (List.mem_append_right _ (hsub8 _ (hneed q hq)))⟩, ?_⟩
    refine HR _ _ _ _ _ _ _ _ _ _ _ _ _ _ _ ⟨C, S, rfl, rfl, R.le (by decide)⟩ (fun q hq => hsub8 _ (hneed q hq)) (by simp) (fun ds hds fl vs0 k0 imm1 h t hsub1 hD0 S => ?_) (fun hn => by rw [p1] at hn; cases hn)
    rw [p1] at hds
    cases hds
    repeat walk_at "m"
    rename_i e0 he0 SE0
    have fl0 := S
    refine s_neD (ds := []) (I := imm1) (I' := imm1) (s_list SE0 (.tail _ (.head _)) rfl rfl) (s_list SE0 (.head _) rfl rfl) (fun q hq => SE0.get (List.mem_append_right _ hq)) (fun q hq => SE0.get (List.mem_append_right _ hq)) hD0 .nil (by simp) R.u64 ?_
    repeat walk_at "m"
    refine ⟨fun z => Bool.noConfusion z, fun _ => ?_⟩
    replace SE0 := SE0.drop.drop
    clear fl0 S hD0
    refine n_or ?_
    refine n_cmp (en_call ?_) rfl
    repeat walk_at "m"
    refine callWithN_V hkw ?_ rfl rfl
    repeat walk_at "m"
    rename_i nl hnl SN
    refine ⟨⟨C.X.keeps SN.F.keep, fun _ hq => by cases hq⟩, ?_⟩
    refine HW _ _ _ _ _ _ _ _ _ _ _ nl _ 0 [] [] _ _ ⟨C, SN.freeze, rfl, rfl, R.le (by decide)⟩ (.head _) rfl rfl .nil (by simp) (by simp) fun h t u S => ?_
    repeat walk_at "m"
    refine PySem.W.ne_bytes ?_
    have neq0 : ((([] : List T).flatMap enc).toArray.toList != ([] : List UInt8).toArray.toList) = false := by simp
    rw [neq0]
    repeat walk_at "m"
    refine ⟨fun z => Bool.noConfusion z, fun _ => ?_⟩
    refine n_or1 ?_
    refine n_cmp (en_call ?_) rfl
    repeat walk_at "m"
    refine callWithN_V hkr ?_ rfl rfl
    repeat walk_at "m"
    refine o_catb (by omega) fun t' k' => ?_
    repeat walk_at "m"
    have hneed2 : ∀ q ∈ need, q ∈ (nl, lstO []) :: imm1 := fun q hq => .tail _ (hsub1 _ (hsub8 _ (hneed q hq)))
    have hTL2 : (TL, PySem.W.listOf vsT.toArray kT) ∈ (nl, lstO []) :: imm1 := .tail _ (hsub1 _ hTL8)
    have hsub2 : ∀ q ∈ imm, q ∈ (nl, lstO []) :: imm1 := fun q hq => .tail _ (hsub1 _ (hsub8 _ hq))
    refine ⟨⟨C.X.keeps S.F.keep, fun q hq => S.get (List.mem_append_right _ (hneed2 q hq))⟩, ?_⟩
    refine HR _ _ _ _ _ _ _ _ _ _ _ _ _ _ _ ⟨C, S, rfl, rfl, R.le (by decide)⟩ hneed2 (by rw [List.length_append]; omega) (fun ds hds fl vs0 k0 imm2 h t hsub3 hD0 S => ?_) (fun hn => by rw [p2] at hn; cases hn)
    rw [p2] at hds
    cases hds
    repeat walk_at "m"
    refine s_catL (by assumption) (s_list (by assumption) (List.mem_append_right _ (hsub3 _ hTL2)) rfl rfl) (s_list (by assumption) (List.mem_append_right _ (hsub3 _ hTL2)) rfl rfl) (by omega) fun cl hcl SC => ?_
    have hdT2 : DatAll imm2 vsT (ts.map dat) := hdT.mono fun q hq => hsub3 _ (.tail _ (hsub1 _ (hsub8 _ hq)))
    refine s_neD (ds := ts.map dat ++ ts.map dat) (I := imm2) (I' := imm2) (s_list SC (.tail _ (.head _)) rfl rfl) (s_list SC (.head _) rfl rfl) (fun q hq => SC.get (List.mem_append_right _ hq)) (fun q hq => SC.get (List.mem_append_right _ hq)) hD0 (hdT2.append hdT2) (fun d hd => ?_) R.u64 ?_
    · rcases List.mem_append.mp hd with hd | hd
      all_goals (obtain ⟨x, hx, rfl⟩ := List.mem_map.mp hd; exact hdep x hx)
    repeat walk_at "m"
    refine ⟨fun z => Bool.noConfusion z, fun _ => ?_⟩
    replace SC := SC.drop.drop
    clear S hD0 SE0 SN
    repeat walk_at "n"
    refine e_lenb (by omega) ?_
    repeat walk_at "n"
    have hsub5 : ∀ q ∈ imm, q ∈ imm2 := fun q hq => hsub3 _ (hsub2 _ hq)
    have hTL5 := hsub3 _ hTL2
    refine loop_rangeT (fs := fsO (env :: outer)) (N := ((ts.flatMap enc).length : Int) + 1) (n := (ts.flatMap enc).length + 1) (by rw [Int.natCast_add]; rfl) R.hd (fun i m' tn' imm' => (∃ o5 psx v0, tn' = (L' + 1 + 1 + 1, o4) :: (EL, PySem.W.listOf vsE.toArray kE) :: (L' + 1 + 1, o5) :: (L' + 1, o3) :: (285, tabObj psx) :: tn ∧ o5.data = .cell v0 ∧ Tab (lamQ "_law_cuts_right") psx imm') ∧
      (∀ q ∈ imm2, q ∈ imm') ∧ m' "ends" = some (.ref EL) ∧ m' "tables" = some (.ref TL)) (by omega) (fun _ _ z => z.elim) (by assumption) (by walk_at "mem") ⟨⟨o2, ps, _, rfl, d2, TB.mono fun q hq => .tail _ (hsub5 _ hq)⟩, fun q hq => .tail _ hq, hm1, hm2⟩ ?_ ?_
    · intro g9 i tk I oI m10 tn10 imm10 h10 t10 TT hi hJ S10
      with_reducible refine absLN fun Q₃ hQ₃ => ?_
      refine anE4 hJ fun hz113 hsub10 hm11 hm12 => ?_
      clear hJ
      refine exE3 hz113 fun o5 psx v0 hz114 => ?_
      clear hz113
      refine anE3 hz114 fun hz115 d5 TB5 => ?_
      clear hz114
      subst hz115
      have C5 := C.turn TT
      clear C SC
      repeat walk_at "n"
      refine s_storeC S10.f3 rfl d5 rfl rfl fun o6 h d6 S => ?_
      clear S10
      refine rn_assign rfl (wpAny_mono (Q := fun v s₁ => ∃ h1 t1 immD, s₁ = ⟨h1, G, D, t1, O⟩ ∧ Sta g9 L' m10 ((L' + 1 + 1, o6) :: (I, oI) :: (L' + 1 + 1 + 1, o4) :: (EL, PySem.W.listOf vsE.toArray kE) :: (L' + 1, o3) :: (285, tabObj psx) :: tn) immD h1 ∧ (∀ q ∈ imm10, q ∈ immD) ∧
        ((∃ du k, v = .ref du ∧ (du, lstO (vsT.take k)) ∈ immD ∧ k ≤ ts.length ∧ ((ts.take k).flatMap enc).length = i) ∨ ((∃ u, v = .str "refused" u) ∧ ∀ j, j ≤ ts.length → ((ts.take j).flatMap enc).length ≠ i))) ?_ ?_ fun _ _ z => z)
      · repeat walk_at "m"
        refine s_in (s_list S (by walk_at "mem") rfl rfl) hE8 ?_
        repeat walk_at "m"
        refine ⟨fun hc => ?_, fun hc => ?_⟩
        · obtain ⟨x, hx, hxi⟩ := List.any_eq_true.mp hc
          have hxi : x = (i : Int) := by simpa using hxi
          subst hxi
          have hidx := List.idxOf_lt_length_iff.mpr hx
          have hget := List.getElem_idxOf hidx
          rw [List.getElem_map, List.getElem_range] at hget
          rw [List.length_map, List.length_range] at hidx
          repeat walk_at "m"
          refine s_index (s_list S (by walk_at "mem") rfl rfl) hE8 (by simp; omega) hx ?_
          repeat walk_at "m"
          refine s_upto S (s_list S (List.mem_append_right _ (hsub10 _ hTL5)) rfl rfl) (by omega) (by omega) (fun du hd SD => ?_) (fun _ => by with_unfolding_all rfl) (fun _ => by with_unfolding_all rfl)
          refine ⟨_, _, _, rfl, SD.freeze, fun q hq => .tail _ hq, .inl ⟨du, _, rfl, .head _, by omega, by omega⟩⟩
        · repeat walk_at "m"
          refine ⟨_, _, _, rfl, S, fun q hq => hq, .inr ⟨⟨_, rfl⟩, fun j hj e => ?_⟩⟩
          have : ((List.range (ts.length + 1)).map fun j => (((ts.take j).flatMap enc).length : Int)).any (· == (i : Int)) = true := List.any_eq_true.mpr ⟨i, List.mem_map.mpr ⟨j, List.mem_range.mpr (by omega), by rw [e]⟩, by simp⟩
          rw [this] at hc
          exact Bool.noConfusion hc
      · intro dv sd hJ
        refine exE3 hJ fun h1 t1 immD hz116 => ?_
        clear hJ
        refine anE4 hz116 fun hz117 SD hsubD hdue => ?_
        clear hz116
        subst hz117
        clear S
        repeat walk_at "m"
        rename_i hG SG
        refine rn_ifL (n_cmp (en_call ?_) rfl)
        repeat walk_at "n"
        refine s_lambda C5 SG.f5 (TB5.mono hsubD) HC rfl rfl rfl rfl rfl fun f c' ctv psy immF h t S hsubF TBF RC => ?_
        clear SG SD
        repeat walk_at "n"
        have hsubG : ∀ q ∈ imm2, q ∈ immF := fun q hq => hsubF _ (hsubD _ (hsub10 _ hq))
        have hneedG : ∀ q ∈ need, q ∈ immF := fun q hq => hsubG _ (hsub3 _ (hneed2 q hq))
        have hTLG := hsubG _ hTL5
        refine c_heard (ok := (rd ((ts.flatMap enc).take i)).isSome = true) (RR := fun v tn' imm' => ∃ fl vs0 k0 ds, v = .ref fl ∧ rd ((ts.flatMap enc).take i) = some ds ∧ tn' = (fl, PySem.W.listOf vs0.toArray k0) :: (285, tabObj psy) :: (L' + 1 + 1, o6) :: (I, oI) :: (L' + 1 + 1 + 1, o4) :: (EL, PySem.W.listOf vsE.toArray kE) :: (L' + 1, o3) :: tn ∧
          (∀ q ∈ immF, q ∈ imm') ∧ DatAll imm' vs0 ds) (n := 18) ⟨C5, S, rfl, rfl, R.le (by decide)⟩ (by walk_at "mem") rfl ?_ ?_ ?_
        · intro A₁ base₁ h₂ h₃ outer₁ env₁ L₁ m₁ t₂ Q₁ E₁ Z₁ hq1 hq2
          refine wpN.call ?_
          refine lamN (cls := .ref 44) (NE := Kept (¬ (rd ((ts.flatMap enc).take i)).isSome = true) _) Z₁.C Z₁.S Z₁.hf Z₁.hk Z₁.C.frames Z₁.R (List.mem_append_right _ (.head _)) ((RC.mono fun q hq => .tail _ hq).code Z₁.S) rfl (locs rfl) (by decide) rfl rfl rfl (fun e h' tk news' hk T => hq2 hk.1 e h' tk (T.sub hk.2)) ?_
          intro g₅ L₅ h₅ t₅ Z'
          have C₅ := Z'.C
          have S₅ := Z'.S
          have hf₅ := Z'.hf
          have hk₅ := Z'.hk
          have R₅ := Z'.R
          clear C5 S
          refine en_call ?_
          repeat walk_at "m"
          refine callWithN_V hkr ?_ rfl rfl
          repeat walk_at "m"
          refine t_sliceb S₅ .none (.int _ _) (by omega) (fun h t q S => ?_) (fun _ => by with_unfolding_all rfl) (fun _ => by with_unfolding_all rfl)
          have e : List.take ((some (i : Int)).elim (ts.flatMap enc).length (clipAt (ts.flatMap enc).length) - (none : Option Int).elim 0 (clipAt (ts.flatMap enc).length)) (List.drop ((none : Option Int).elim 0 (clipAt (ts.flatMap enc).length)) (ts.flatMap enc)) = (ts.flatMap enc).take i := by
            show List.take (clipAt (ts.flatMap enc).length (i : Int) - 0) (List.drop 0 (ts.flatMap enc)) = _
            rw [clipAt_nat, Nat.min_eq_left (by omega : i ≤ (ts.flatMap enc).length), List.drop_zero, Nat.sub_zero]
          rw [e]
          repeat walk_at "m"
          refine ⟨⟨C₅.X.keeps S.F.keep, fun q hq => S.get (List.mem_append_right _ (.tail _ (hneedG q hq)))⟩, ?_⟩
          refine HR _ _ _ _ _ _ _ _ _ _ _ _ _ _ _ ⟨C₅, S, rfl, rfl, R₅.le (by decide)⟩ (fun q hq => .tail _ (hneedG q hq)) (by rw [List.length_take]; omega) (fun ds hds fl vs0 k0 imm4 h t hsub4 hD4 S => ?_) (fun hn e h tk T => Flew.of T (by rw [hn]; simp) (fun q hq => hq))
          exact Back.mk S fun S => hq1 (by rw [hds]; rfl) _ _ _ _ _ (exI4 ⟨rfl, hds, rfl, fun q hq => hsub4 _ (.tail _ hq), hD4⟩) S
        · intro hok' h₀' v tn' imm' h' t' T' hJ S'
          refine exE4 hJ fun fl vs0 k0 ds hz118 => ?_
          clear hJ
          refine anE5 hz118 fun hv hds htn hsubR hDR => ?_
          clear hz118
          subst hv htn
          repeat walk_at "m"
          rcases hdue with ⟨du, k, rfl, hdu, hk, hki⟩ | ⟨_, hne⟩
          · have h3 := p3 k hk
            rw [hki, hds] at h3
            cases h3
            refine s_neD (ds := (ts.take k).map dat) (I := imm') (I' := imm') (s_list S' (.head _) rfl rfl) (s_list S' (List.mem_append_right _ (hsubR _ (hsubF _ hdu))) rfl rfl) (fun q hq => S'.get (List.mem_append_right _ hq)) (fun q hq => S'.get (List.mem_append_right _ hq)) hDR ?_ (fun d hd => ?_) R.u64 ?_
            · rw [List.map_take]
              exact (dat_take k hdT).mono fun q hq => hsubR _ (hsubG _ (hsub5 _ hq))
            · obtain ⟨x, hx, rfl⟩ := List.mem_map.mp hd
              exact hdep x (List.mem_of_mem_take hx)
            repeat walk_at "m"
            refine ⟨fun z => Bool.noConfusion z, fun _ => ?_⟩
            refine rn_nilQ hQ₃ (TurnEndT.mk T' S'.drop.f5.f2.f5.f5.f5 ⟨⟨o6, psy, _, rfl, d6, TBF.mono hsubR⟩, fun q hq => hsubR _ (hsubG _ hq), ?_, ?_⟩)
            all_goals walk_at "mv"
          · have h4 := p4 i (by omega) hne
            rw [hds] at h4
            cases h4
        · intro hno h₀' u h' t' T' S'
          repeat walk_at "m"
          rcases hdue with ⟨du, k, rfl, hdu, hk, hki⟩ | ⟨⟨u2, rfl⟩, hne⟩
          · have h3 := p3 k hk
            rw [hki] at h3
            rw [h3] at hno
            exact absurd rfl hno
          · refine SeqAt.RcNeAt.str_str "refused" u "refused" u2 prog w _ _ ?_
            have e : (!(("refused" : Str) == "refused")) = false := by decide
            rw [e]
            repeat walk_at "m"
            refine ⟨fun z => Bool.noConfusion z, fun _ => ?_⟩
            refine rn_nilQ hQ₃ (TurnEndT.mk T' S'.f5.f2.f5.f5.f5 ⟨⟨o6, psy, _, rfl, d6, TBF.mono fun q hq => .tail _ hq⟩, fun q hq => .tail _ (hsubG _ hq), ?_, ?_⟩)
            all_goals walk_at "mv"
    · intro g9 m10 tn10 imm10 h10 t10 TT hJ S10
      refine anE4 hJ fun hz119 hsub10 hm11 hm12 => ?_
      clear hJ
      refine exE3 hz119 fun o5 psx v0 hz120 => ?_
      clear hz119
      refine anE3 hz120 fun hz121 d5 TB5 => ?_
      clear hz120
      subst hz121
      repeat walk_at "n"
      exact hQ₀ _ _ (BackT.mk (TT) S10 fun h₀' T₀ S₀ => hQ _ _ _ _ _ T₀ (fun q hq => hsub10 _ (hsub5 _ hq)) TB5 S₀.drop.drop.drop.drop)
end

section
variable {prog : Program} {w : World} {p : Program} {loose : List Str} {mean : ExcName → Option Value} {mg mb : Str → Option Value} {G : Array GenState} {D : Drawn} {O : OsState}
noncomputable abbrev rdH (b : List UInt8) : Option (List Dat) := rh b b.length 0
noncomputable abbrev rdC (b : List UInt8) : Option (List Dat) := rc b b.length 0
noncomputable abbrev rdQ (n : Nat) (b : List UInt8) : Option (List Dat) := rq b n b.length 0
theorem Act.le {A₀ : Around} {base h₀ h : Heap} {outer : List Env} {env : Env} {L : Addr} {m : Str → Option Value} {tn imm : List (Addr × Obj)} {n k : Nat} (Z : Act w p loose mean mg mb A₀ base h₀ outer env L m tn imm h n) (hk : k ≤ n) : Act w p loose mean mg mb A₀ base h₀ outer env L m tn imm h k := ⟨Z.C, Z.S, Z.hf, Z.hk, Z.R.le hk⟩
theorem reads_huff : ReadsBy prog w p loose mean mg mb G D O (.ref 217) [] rdH := fun _ _ _ _ _ _ _ _ _ _ _ _ _ _ _ Z _ hb hQ hE => wpN.of (c_read_huff (Z.le (by decide)) hb hQ hE)
theorem reads_cond : ReadsBy prog w p loose mean mg mb G D O (.ref 238) [] rdC := fun _ _ _ _ _ _ _ _ _ _ _ _ _ _ _ Z _ hb hQ hE => wpN.of (c_read_cond (Z.le (by decide)) hb hQ hE)
theorem writes_quant : WritesBy prog w p loose mean mg mb G D O (.ref 210) TQ.enc TQ.dat TQ.ok := fun _ _ _ _ _ _ _ _ _ _ _ _ _ _ _ _ _ _ Z hl ho hd hD hok hz hQ => c_write_quant (Z.le (by decide)) hl ho hd hD hok hz hQ
theorem writes_huff : WritesBy prog w p loose mean mg mb G D O (.ref 224) TH.enc TH.dat (fun t => t.ok ∧ t.fit) := fun _ _ _ _ _ _ _ _ _ _ _ _ _ _ _ _ _ _ Z hl ho hd hD hok hz hQ => c_write_huff (Z.le (by decide)) hl ho hd hD (fun t ht => (hok t ht).1) hz (fun _ => hQ) (fun h => absurd (fun t ht => (hok t ht).2) h)
theorem writes_cond : WritesBy prog w p loose mean mg mb G D O (.ref 245) TC.enc TC.dat TC.ok := fun _ _ _ _ _ _ _ _ _ _ _ _ _ _ _ _ _ _ Z hl ho hd hD hok hz hQ => c_write_cond (Z.le (by decide)) hl ho hd hD hok hz hQ
end

/-- tables read one after the other -/
def itr (step : List UInt8 → Option (Dat × List UInt8)) : Nat → List UInt8 → Option (List Dat)
  | 0, _ => some []
  | _ + 1, [] => some []
  | f + 1, x :: l => match step (x :: l) with
    | none => none
    | some (d, r) => (itr step f r).map (d :: ·)
section
variable {T : Type} {enc : T → List UInt8} {dat : T → Dat} {okT : T → Prop} {step : List UInt8 → Option (Dat × List UInt8)}
theorem itr_nil (f : Nat) : itr step f [] = some [] := by cases f <;> rfl
theorem itr_app (hs : ∀ t r, okT t → step (enc t ++ r) = some (dat t, r)) (hl : ∀ t, okT t → 1 ≤ (enc t).length) : ∀ (ts : List T) (f : Nat) (r : List UInt8), (∀ t ∈ ts, okT t) → ts.length ≤ f → itr step f (ts.flatMap enc ++ r) = (itr step (f - ts.length) r).map (ts.map dat ++ ·)
  | [], f, r, _, _ => by simp
  | t :: ts, 0, r, _, h => by simp at h
  | t :: ts, f + 1, r, hok, h => by
    have ih := itr_app hs hl ts f r (fun x hx => hok x (.tail _ hx)) (by simpa using h)
    have ht := hok t (.head _)
    have h1 := hl t ht
    rw [List.flatMap_cons, List.append_assoc]
    cases he : enc t with
    | nil => rw [he] at h1; simp at h1
    | cons x l =>
      have hstep := hs t (ts.flatMap enc ++ r) ht
      rw [he] at hstep
      rw [List.cons_append] at hstep ⊢
      rw [itr, hstep]
      show (itr step f (ts.flatMap enc ++ r)).map (dat t :: ·) = _
      rw [ih, List.length_cons, Nat.add_sub_add_right, Option.map_map]
      rfl
theorem len_flat (hl : ∀ t, okT t → 1 ≤ (enc t).length) : ∀ (ts : List T), (∀ t ∈ ts, okT t) → ts.length ≤ (ts.flatMap enc).length
  | [], _ => by simp
  | t :: ts, hok => by
    have := len_flat hl ts fun x hx => hok x (.tail _ hx)
    have := hl t (hok t (.head _))
    rw [List.flatMap_cons, List.length_append, List.length_cons]
    omega
theorem itr_all (hs : ∀ t r, okT t → step (enc t ++ r) = some (dat t, r)) (hl : ∀ t, okT t → 1 ≤ (enc t).length) (ts : List T) (hok : ∀ t ∈ ts, okT t) : itr step (ts.flatMap enc).length (ts.flatMap enc) = some (ts.map dat) := by
  have := itr_app hs hl ts (ts.flatMap enc).length [] hok (len_flat hl ts hok)
  rw [List.append_nil, itr_nil] at this
  rw [this]
  simp
theorem take_end (ts : List T) (j : Nat) : (ts.flatMap enc).take ((ts.take j).flatMap enc).length = (ts.take j).flatMap enc := by
  conv => lhs; rw [← List.take_append_drop j ts, List.flatMap_append]
  rw [List.take_append_drop, List.take_left]
theorem between (hl : ∀ t, okT t → 1 ≤ (enc t).length) : ∀ (ts : List T) (i : Nat), (∀ t ∈ ts, okT t) → i ≤ (ts.flatMap enc).length → (∀ j, j ≤ ts.length → ((ts.take j).flatMap enc).length ≠ i) →
    ∃ (us : List T) (t : T) (k : Nat), (∀ t ∈ us, okT t) ∧ okT t ∧ 0 < k ∧ k < (enc t).length ∧ (ts.flatMap enc).take i = us.flatMap enc ++ (enc t).take k ∧ us.length + k ≤ i
  | [], i, _, hi, hne => by
    simp at hi
    exact absurd hi.symm (by have := hne 0 (Nat.le_refl _); simpa using this)
  | t :: ts, i, hok, hi, hne => by
    have h0 : 0 ≠ i := by have := hne 0 (Nat.zero_le _); simpa using this
    have ht := hok t (.head _)
    have ht1 := hl t ht
    by_cases hlt : i < (enc t).length
    · refine ⟨[], t, i, (by simp), ht, by omega, hlt, ?_, by simp⟩
      rw [List.flatMap_cons, List.take_append_of_le_length (by omega)]
      rfl
    · have hge : (enc t).length ≤ i := by omega
      obtain ⟨us, t', k, h1, h2, h3, h4, h5, h6⟩ := between hl ts (i - (enc t).length) (fun x hx => hok x (.tail _ hx)) (by rw [List.flatMap_cons, List.length_append] at hi; omega) (fun j hj e => by
        refine hne (j + 1) (by simpa using hj) ?_
        rw [List.take_succ_cons, List.flatMap_cons, List.length_append]
        omega)
      refine ⟨t :: us, t', k, fun x hx => ?_, h2, h3, h4, ?_, ?_⟩
      · rcases List.mem_cons.mp hx with rfl | hx
        · exact ht
        · exact h1 x hx
      · rw [List.flatMap_cons, List.take_append, List.take_of_length_le hge, h5, List.flatMap_cons, List.append_assoc]
      · rw [List.length_cons]
        omega
theorem itr_cut (hs : ∀ t r, okT t → step (enc t ++ r) = some (dat t, r)) (hl : ∀ t, okT t → 1 ≤ (enc t).length) (hp : ∀ t k, okT t → 0 < k → k < (enc t).length → step ((enc t).take k) = none)
    (ts : List T) (i : Nat) (hok : ∀ t ∈ ts, okT t) (hi : i ≤ (ts.flatMap enc).length) (hne : ∀ j, j ≤ ts.length → ((ts.take j).flatMap enc).length ≠ i) : itr step ((ts.flatMap enc).take i).length ((ts.flatMap enc).take i) = none := by
  obtain ⟨us, t, k, h1, h2, h3, h4, h5, h6⟩ := between hl ts i hok hi hne
  rw [List.length_take, Nat.min_eq_left hi, h5, itr_app hs hl us i _ h1 (by omega)]
  have hpk := hp t k h2 h3 h4
  obtain ⟨f, hf⟩ : ∃ f, i - us.length = f + 1 := ⟨i - us.length - 1, by omega⟩
  rw [hf]
  cases he : (enc t).take k with
  | nil =>
    have : ((enc t).take k).length = 0 := by rw [he]; rfl
    rw [List.length_take] at this
    omega
  | cons x l =>
    rw [he] at hpk
    rw [itr, hpk]
    rfl
end
theorem oct_drop (b : List UInt8) (k j : Nat) : oct (b.drop k) j = oct b (k + j) := by
  simp [oct, List.getD_eq_getElem?_getD, List.getElem?_drop]
theorem oct_ob {v : Int} (h : 0 ≤ v ∧ v < 256) (l : List UInt8) : oct (ob v :: l) 0 = v := by
  show (((v.toNat.toUInt8).toNat : Nat) : Int) = v
  rw [Nat.toUInt8_eq, UInt8.toNat_ofNat']
  omega
theorem oct_succ (x : UInt8) (l : List UInt8) (j : Nat) : oct (x :: l) (j + 1) = oct l j := rfl
open Classical in
noncomputable def stepC (l : List UInt8) : Option (Dat × List UInt8) := if badK (oct l 0) then none else if l.length < 2 then none
  else if okCond (oct l 0 / 16) (oct l 1) then some (cDat (oct l 0 / 16) (oct l 0 % 16) (oct l 1), l.drop 2) else none
theorem rc_itr (b : List UInt8) : ∀ (f k : Nat), rc b f k = itr stepC f (b.drop k)
  | 0, _ => rfl
  | f + 1, k => by
    rw [rc]
    by_cases hk : b.length ≤ k
    · rw [if_pos hk, List.drop_of_length_le hk]; rfl
    · rw [if_neg hk]
      have hlen : (b.drop k).length = b.length - k := List.length_drop
      cases hd : b.drop k with
      | nil => rw [hd] at hlen; simp at hlen; omega
      | cons x l =>
        have e0 : oct (x :: l) 0 = oct b k := by rw [← hd, oct_drop]; rfl
        have e1 : oct (x :: l) 1 = oct b (k + 1) := by rw [← hd, oct_drop]
        have e2 : (x :: l).drop 2 = b.drop (k + 2) := by rw [← hd, List.drop_drop]
        rw [hd] at hlen
        rw [itr, stepC, e0, e1, e2, rc_itr b f (k + 2)]
        by_cases h1 : badK (oct b k)
        · rw [if_pos h1, if_pos h1]
        · rw [if_neg h1, if_neg h1]
          by_cases h2 : b.length < k + 2
          · rw [if_pos h2, if_pos (show (x :: l).length < 2 by omega)]
          · rw [if_neg h2, if_neg (show ¬ (x :: l).length < 2 by omega)]
            by_cases h3 : okCond (oct b k / 16) (oct b (k + 1))
            · rw [if_pos h3, if_pos h3]
            · rw [if_neg h3, if_neg h3]
theorem rdC_itr (b : List UInt8) : rdC b = itr stepC b.length b := by
  have := rc_itr b b.length 0
  rwa [List.drop_zero] at this
theorem stepC_enc (t : TC) (r : List UInt8) (h : t.ok) : stepC (t.enc ++ r) = some (t.dat, r) := by
  obtain ⟨h1, h2, h3⟩ := h
  have e0 : oct (t.enc ++ r) 0 = t.kd * 16 + t.sl := oct_ob (by omega) ([ob t.vl] ++ r)
  have e1 : oct (t.enc ++ r) 1 = t.vl := oct_ob (by have := h3.1; omega) r
  have d1 : (t.kd * 16 + t.sl) / 16 = t.kd := by omega
  have d2 : (t.kd * 16 + t.sl) % 16 = t.sl := by omega
  rw [stepC, e0, e1, if_neg (by show ¬ ((t.kd * 16 + t.sl) / 16 > 1 ∨ (t.kd * 16 + t.sl) % 16 > 3); omega), if_neg (by simp [TC.enc]), if_pos (by rw [d1]; exact h3), d1, d2]
  rfl
theorem stepC_cut (t : TC) (k : Nat) (_ : t.ok) (h0 : 0 < k) (hk : k < t.enc.length) : stepC (t.enc.take k) = none := by
  have : k = 1 := by simp [TC.enc] at hk; omega
  subst this
  rw [stepC]
  split
  · rfl
  · rw [if_pos (by simp [TC.enc])]

theorem rdC_pair {kd i : Int} (h1 : 0 ≤ kd ∧ kd ≤ 1) (h2 : 0 ≤ i ∧ i ≤ 255) : (okCond kd i → rdC (obs [16 * kd + 2, i]) = some [cDat kd 2 i]) ∧ (¬ okCond kd i → rdC (obs [16 * kd + 2, i]) = none) := by
  have e0 : oct (obs [16 * kd + 2, i]) 0 = 16 * kd + 2 := oct_ob (by omega) (obs [i])
  have e1 : oct (obs [16 * kd + 2, i]) 1 = i := oct_ob (by omega) []
  have d1 : (16 * kd + 2) / 16 = kd := by omega
  have d2 : (16 * kd + 2) % 16 = 2 := by omega
  constructor
  · intro h
    rw [rdC_itr]
    show itr stepC 2 (ob (16 * kd + 2) :: obs [i]) = _
    rw [itr]
    have : stepC (ob (16 * kd + 2) :: obs [i]) = some (cDat kd 2 i, []) := by
      show stepC (obs [16 * kd + 2, i]) = _
      rw [stepC, e0, e1, if_neg (by show ¬ ((16 * kd + 2) / 16 > 1 ∨ (16 * kd + 2) % 16 > 3); omega), if_neg (by simp), if_pos (by rw [d1]; exact h), d1, d2]
      rfl
    rw [this]
    rfl
  · intro h
    rw [rdC_itr]
    show itr stepC 2 (ob (16 * kd + 2) :: obs [i]) = _
    rw [itr]
    have : stepC (ob (16 * kd + 2) :: obs [i]) = none := by
      show stepC (obs [16 * kd + 2, i]) = _
      rw [stepC, e0, e1, if_neg (by show ¬ ((16 * kd + 2) / 16 > 1 ∨ (16 * kd + 2) % 16 > 3); omega), if_neg (by simp), if_neg (by rw [d1]; exact h)]
    rw [this]
theorem octs_obs : ∀ {cs : List Int}, (∀ c ∈ cs, 0 ≤ c ∧ c ≤ 255) → octs (obs cs) = cs
  | [], _ => rfl
  | c :: cs, h => by
    have ih := octs_obs (cs := cs) fun x hx => h x (.tail _ hx)
    have hc := h c (.head _)
    have e : oct (ob c :: obs cs) 0 = c := oct_ob (by omega) _
    show (((ob c).toNat : Int)) :: octs (obs cs) = c :: cs
    rw [ih]
    congr 1
noncomputable def stepH (l : List UInt8) : Option (Dat × List UInt8) := if badK (oct l 0) then none else if l.length < 17 then none else if csum l 0 > 256 then none else if l.length < 17 + csum l 0 then none
  else some (hDat (oct l 0 / 16) (oct l 0 % 16) (cnts l 0) ((l.drop 17).take (csum l 0)), l.drop (17 + csum l 0))
theorem rh_itr (b : List UInt8) : ∀ (f k : Nat), rh b f k = itr stepH f (b.drop k)
  | 0, _ => rfl
  | f + 1, k => by
    rw [rh]
    by_cases hk : b.length ≤ k
    · rw [if_pos hk, List.drop_of_length_le hk]; rfl
    · rw [if_neg hk]
      have hlen : (b.drop k).length = b.length - k := List.length_drop
      cases hd : b.drop k with
      | nil => rw [hd] at hlen; simp at hlen; omega
      | cons x l =>
        have e0 : oct (x :: l) 0 = oct b k := by rw [← hd, oct_drop]; rfl
        have ed : ∀ j, (x :: l).drop j = b.drop (k + j) := fun j => by rw [← hd, List.drop_drop]
        have ec : csum (x :: l) 0 = csum b k := by unfold csum; rw [ed]
        have en : cnts (x :: l) 0 = cnts b k := by unfold cnts; rw [ed]
        rw [hd] at hlen
        rw [itr, stepH, e0, ec, en, ed, ed, ← Nat.add_assoc, rh_itr b f (k + 17 + csum b k)]
        by_cases h1 : badK (oct b k)
        · rw [if_pos h1, if_pos h1]
        · rw [if_neg h1, if_neg h1]
          by_cases h2 : b.length < k + 17
          · rw [if_pos h2, if_pos (show (x :: l).length < 17 by omega)]
          · rw [if_neg h2, if_neg (show ¬ (x :: l).length < 17 by omega)]
            by_cases h3 : csum b k > 256
            · rw [if_pos h3, if_pos h3]
            · rw [if_neg h3, if_neg h3]
              by_cases h4 : b.length < k + 17 + csum b k
              · rw [if_pos h4, if_pos (show (x :: l).length < 17 + csum b k by omega)]
              · rw [if_neg h4, if_neg (show ¬ (x :: l).length < 17 + csum b k by omega)]
theorem rdH_itr (b : List UInt8) : rdH b = itr stepH b.length b := by
  have := rh_itr b b.length 0
  rwa [List.drop_zero] at this
theorem encH_parts (t : TH) (h : t.ok ∧ t.fit) (r : List UInt8) : oct (t.enc ++ r) 0 = t.kd * 16 + t.sl ∧ ((t.enc ++ r).drop (0 + 1)).take 16 = obs t.cs ∧ csum (t.enc ++ r) 0 = t.sy.length ∧ (t.enc ++ r).drop 17 = t.sy ++ r ∧ t.enc.length = 17 + t.sy.length := by
  obtain ⟨⟨h1, h2, _, _⟩, h16, hsum, h256, hc⟩ := h
  have ol : (obs t.cs).length = 16 := by simpa [obs] using h16
  have e1 : ((t.enc ++ r).drop (0 + 1)).take 16 = obs t.cs := by
    show (((ob (t.kd * 16 + t.sl) :: obs t.cs) ++ t.sy ++ r).drop 1).take 16 = _
    rw [List.append_assoc, List.cons_append, List.drop_succ_cons, List.drop_zero, List.take_append_of_le_length (by omega), List.take_of_length_le (by omega)]
  refine ⟨oct_ob (by omega) (obs t.cs ++ t.sy ++ r), e1, ?_, ?_, ?_⟩
  · unfold csum
    rw [e1]
    have q := sum_octs (obs t.cs)
    rw [octs_obs hc, hsum] at q
    omega
  · show ((ob (t.kd * 16 + t.sl) :: obs t.cs) ++ t.sy ++ r).drop 17 = _
    rw [List.append_assoc, List.drop_left' (by rw [List.length_cons, ol])]
  · unfold TH.enc
    rw [List.length_append, List.length_cons, ol]
theorem stepH_enc (t : TH) (r : List UInt8) (h : t.ok ∧ t.fit) : stepH (t.enc ++ r) = some (t.dat, r) := by
  obtain ⟨e0, e1, ec, ed, el⟩ := encH_parts t h r
  obtain ⟨⟨h1, h2, _, _⟩, h16, hsum, h256, hc⟩ := h
  have d1 : (t.kd * 16 + t.sl) / 16 = t.kd := by omega
  have d2 : (t.kd * 16 + t.sl) % 16 = t.sl := by omega
  have en : cnts (t.enc ++ r) 0 = t.cs := by unfold cnts; rw [e1, octs_obs hc]
  have e17 : (t.enc ++ r).drop (17 + t.sy.length) = r := by rw [← List.drop_drop, ed, List.drop_left]
  rw [stepH, e0, ec, en, ed, e17, if_neg (by show ¬ ((t.kd * 16 + t.sl) / 16 > 1 ∨ (t.kd * 16 + t.sl) % 16 > 3); omega), if_neg (by rw [List.length_append]; omega), if_neg (by omega), if_neg (by rw [List.length_append]; omega), d1, d2, List.take_left]
  rfl
theorem stepH_cut (t : TH) (k : Nat) (h : t.ok ∧ t.fit) (h0 : 0 < k) (hk : k < t.enc.length) : stepH (t.enc.take k) = none := by
  obtain ⟨e0, e1, ec, ed, el⟩ := encH_parts t h []
  rw [List.append_nil] at e1 ec
  have h256 := h.2.2.2.1
  rw [stepH]
  split
  · rfl
  · by_cases h17 : k < 17
    · rw [if_pos (by rw [List.length_take]; omega)]
    · rw [if_neg (by rw [List.length_take]; omega)]
      have e : csum (t.enc.take k) 0 = t.sy.length := by
        rw [← ec]
        unfold csum
        congr 2
        rw [List.drop_take, List.take_take]
        congr 1
        omega
      rw [e, if_neg (by omega), if_pos (by rw [List.length_take]; omega)]
open Classical in
noncomputable def stepQ (n : Nat) (l : List UInt8) : Option (Dat × List UInt8) := if badK (oct l 0) then none else if l.length < 1 + qSz n (oct l 0) then none
  else if ∀ j, j < n * n → okDv (oct l 0 / 16) (dvAt l (oct l 0 / 16) 1 j) then some (qDat (oct l 0 % 16) (oct l 0 / 16) (dvs l (oct l 0 / 16) 1 (n * n)), l.drop (1 + qSz n (oct l 0))) else none
theorem rq_itr (n : Nat) (b : List UInt8) : ∀ (f k : Nat), rq b n f k = itr (stepQ n) f (b.drop k)
  | 0, _ => rfl
  | f + 1, k => by
    rw [rq]
    by_cases hk : b.length ≤ k
    · rw [if_pos hk, List.drop_of_length_le hk]; rfl
    · rw [if_neg hk]
      have hlen : (b.drop k).length = b.length - k := List.length_drop
      cases hd : b.drop k with
      | nil => rw [hd] at hlen; simp at hlen; omega
      | cons x l =>
        have eo : ∀ j, oct (x :: l) j = oct b (k + j) := fun j => by rw [← hd, oct_drop]
        have ed : ∀ j, (x :: l).drop j = b.drop (k + j) := fun j => by rw [← hd, List.drop_drop]
        have ev : ∀ pr j, dvAt (x :: l) pr 1 j = dvAt b pr (k + 1) j := fun pr j => by
          unfold dvAt
          rw [eo, eo, eo]
          simp only [Nat.add_assoc]
        have es : ∀ pr, dvs (x :: l) pr 1 (n * n) = dvs b pr (k + 1) (n * n) := fun pr => by
          unfold dvs
          congr 1
          funext j
          exact ev pr j
        rw [hd] at hlen
        have e0 : oct (x :: l) 0 = oct b k := eo 0
        rw [itr, stepQ, e0, es, ed, rq_itr n b f (k + 1 + qSz n (oct b k))]
        simp only [ev]
        by_cases h1 : badK (oct b k)
        · rw [if_pos h1, if_pos h1]
        · rw [if_neg h1, if_neg h1]
          by_cases h2 : b.length < k + 1 + qSz n (oct b k)
          · rw [if_pos h2, if_pos (show (x :: l).length < 1 + qSz n (oct b k) by omega)]
          · rw [if_neg h2, if_neg (show ¬ (x :: l).length < 1 + qSz n (oct b k) by omega), Nat.add_assoc]
            by_cases h3 : ∀ j, j < n * n → okDv (oct b k / 16) (dvAt b (oct b k / 16) (k + 1) j)
            · rw [if_pos h3, if_pos h3]
            · rw [if_neg h3, if_neg h3]
theorem rdQ_itr (n : Nat) (b : List UInt8) : rdQ n b = itr (stepQ n) b.length b := by
  have := rq_itr n b b.length 0
  rwa [List.drop_zero] at this

theorem oct_wide (r : List UInt8) : ∀ (ds : List Int) (j : Nat), (∀ d ∈ ds, 0 ≤ d ∧ d ≤ 65535) → j < ds.length → oct (ds.flatMap (dOct 1) ++ r) (2 * j) = ds.getD j 0 / 256 ∧ oct (ds.flatMap (dOct 1) ++ r) (2 * j + 1) = ds.getD j 0 % 256
  | [], _, _, h => by simp at h
  | x :: ds, 0, hd, _ => by
    have hx := hd x (.head _)
    exact ⟨oct_ob (by omega) (ob (x % 256) :: (ds.flatMap (dOct 1) ++ r)), oct_ob (v := x % 256) (by omega) (ds.flatMap (dOct 1) ++ r)⟩
  | x :: ds, j + 1, hd, h => by
    have ih := oct_wide r ds j (fun d hx => hd d (.tail _ hx)) (by simpa using h)
    exact ih
theorem oct_narrow (r : List UInt8) : ∀ (ds : List Int) (j : Nat), (∀ d ∈ ds, 0 ≤ d ∧ d ≤ 255) → j < ds.length → oct (ds.flatMap (dOct 0) ++ r) j = ds.getD j 0
  | [], _, _, h => by simp at h
  | x :: ds, 0, hd, _ => by
    have hx := hd x (.head _)
    exact oct_ob (by omega) (ds.flatMap (dOct 0) ++ r)
  | x :: ds, j + 1, hd, h => oct_narrow r ds j (fun d hx => hd d (.tail _ hx)) (by simpa using h)
theorem flat_lenQ (pr : Int) (h : 0 ≤ pr ∧ pr ≤ 1) : ∀ ds : List Int, (ds.flatMap (dOct pr)).length = ds.length * (1 + pr.toNat)
  | [] => by simp
  | x :: ds => by
    rw [List.flatMap_cons, List.length_append, flat_lenQ pr h ds, List.length_cons, Nat.succ_mul]
    have : (dOct pr x).length = 1 + pr.toNat := by
      unfold dOct
      split
      · rename_i e
        subst e
        rfl
      · have : pr = 0 := by omega
        subst this
        rfl
    omega
theorem encQ_parts {n : Nat} (t : TQ) (h : t.ok ∧ t.ds.length = n * n) (r : List UInt8) : oct (t.enc ++ r) 0 = t.pr * 16 + t.sl ∧ t.enc.length = 1 + qSz n (t.pr * 16 + t.sl) ∧ ∀ j, j < n * n → dvAt (t.enc ++ r) t.pr 1 j = t.ds.getD j 0 := by
  obtain ⟨⟨h1, h2, hds, _⟩, hl⟩ := h
  have d1 : (t.pr * 16 + t.sl) / 16 = t.pr := by omega
  refine ⟨oct_ob (by omega) (t.ds.flatMap (dOct t.pr) ++ r), ?_, fun j hj => ?_⟩
  · unfold TQ.enc qSz
    rw [List.length_cons, flat_lenQ t.pr h2, hl, d1]
    omega
  · rcases (by omega : t.pr = 0 ∨ t.pr = 1) with hp | hp
    · have hd : ∀ d ∈ t.ds, 0 ≤ d ∧ d ≤ 255 := fun d hd => by
        have := hds d hd
        rw [hp] at this
        simp [okDv] at this
        omega
      have e := oct_narrow r t.ds j hd (by omega)
      unfold dvAt
      rw [hp, if_neg (by decide), ← e]
      show oct (ob (t.pr * 16 + t.sl) :: (t.ds.flatMap (dOct t.pr) ++ r)) (1 + j) = _
      rw [Nat.add_comm 1 j, oct_succ, hp]
    · have hd : ∀ d ∈ t.ds, 0 ≤ d ∧ d ≤ 65535 := fun d hd => by
        have := hds d hd
        rw [hp] at this
        simp [okDv] at this
        omega
      have e := oct_wide r t.ds j hd (by omega)
      unfold dvAt
      rw [hp, if_pos rfl]
      show oct (ob (t.pr * 16 + t.sl) :: (t.ds.flatMap (dOct t.pr) ++ r)) (1 + 2 * j) * 256 + oct (ob (t.pr * 16 + t.sl) :: (t.ds.flatMap (dOct t.pr) ++ r)) (1 + 2 * j + 1) = _
      rw [Nat.add_comm 1 (2 * j), oct_succ, oct_succ, hp, e.1, e.2]
      omega
theorem stepQ_enc {n : Nat} (t : TQ) (r : List UInt8) (h : t.ok ∧ t.ds.length = n * n) : stepQ n (t.enc ++ r) = some (t.dat, r) := by
  obtain ⟨e0, el, ev⟩ := encQ_parts t h r
  obtain ⟨⟨h1, h2, hds, _⟩, hl⟩ := h
  have d1 : (t.pr * 16 + t.sl) / 16 = t.pr := by omega
  have d2 : (t.pr * 16 + t.sl) % 16 = t.sl := by omega
  have es : dvs (t.enc ++ r) t.pr 1 (n * n) = t.ds := by
    refine List.ext_getElem (by simp [dvs, hl]) fun j g1 g2 => ?_
    simp only [dvs, List.getElem_map, List.getElem_range]
    rw [ev j (by omega), List.getD_eq_getElem?_getD, List.getElem?_eq_getElem g2]
    rfl
  rw [stepQ, e0, if_neg (by show ¬ ((t.pr * 16 + t.sl) / 16 > 1 ∨ (t.pr * 16 + t.sl) % 16 > 3); omega), if_neg (by rw [List.length_append]; omega), if_pos (fun j hj => by
    rw [d1, ev j hj, List.getD_eq_getElem?_getD, List.getElem?_eq_getElem (by omega : j < t.ds.length)]
    exact hds _ (List.getElem_mem _)), d1, d2, es, ← el, List.drop_left]
  rfl
theorem stepQ_cut {n : Nat} (t : TQ) (k : Nat) (h : t.ok ∧ t.ds.length = n * n) (h0 : 0 < k) (hk : k < t.enc.length) : stepQ n (t.enc.take k) = none := by
  obtain ⟨e0, el, _⟩ := encQ_parts t h []
  rw [List.append_nil] at e0
  have e : oct (t.enc.take k) 0 = t.pr * 16 + t.sl := by
    rw [← e0]
    cases k with
    | zero => omega
    | succ k => rfl
  rw [stepQ]
  split
  · rfl
  · rw [if_pos (by rw [e, List.length_take]; omega)]
/-- what the cuts tell, for each sort of tables -/
theorem cutC (ts : List TC) (hok : ∀ t ∈ ts, t.ok) : rdC (ts.flatMap TC.enc ++ ts.flatMap TC.enc) = some (ts.map TC.dat ++ ts.map TC.dat) ∧ (∀ j, j ≤ ts.length → rdC ((ts.flatMap TC.enc).take ((ts.take j).flatMap TC.enc).length) = some ((ts.take j).map TC.dat)) ∧
    (∀ i, i ≤ (ts.flatMap TC.enc).length → (∀ j, j ≤ ts.length → ((ts.take j).flatMap TC.enc).length ≠ i) → rdC ((ts.flatMap TC.enc).take i) = none) := by
  have hs := fun t r h => stepC_enc t r h
  have hl : ∀ t : TC, t.ok → 1 ≤ t.enc.length := fun t _ => by simp [TC.enc]
  refine ⟨?_, fun j _ => ?_, fun i hi hne => ?_⟩
  · rw [rdC_itr, ← List.flatMap_append, itr_all hs hl _ (fun t ht => (List.mem_append.mp ht).elim (hok t) (hok t)), List.map_append]
  · rw [take_end, rdC_itr, itr_all hs hl _ fun t ht => hok t (List.mem_of_mem_take ht)]
  · rw [rdC_itr]
    exact itr_cut hs hl stepC_cut ts i hok hi hne
theorem cutH (ts : List TH) (hok : ∀ t ∈ ts, t.ok ∧ t.fit) : rdH (ts.flatMap TH.enc ++ ts.flatMap TH.enc) = some (ts.map TH.dat ++ ts.map TH.dat) ∧ (∀ j, j ≤ ts.length → rdH ((ts.flatMap TH.enc).take ((ts.take j).flatMap TH.enc).length) = some ((ts.take j).map TH.dat)) ∧
    (∀ i, i ≤ (ts.flatMap TH.enc).length → (∀ j, j ≤ ts.length → ((ts.take j).flatMap TH.enc).length ≠ i) → rdH ((ts.flatMap TH.enc).take i) = none) := by
  have hs := fun t r h => stepH_enc t r h
  have hl : ∀ t : TH, t.ok ∧ t.fit → 1 ≤ t.enc.length := fun t _ => by simp [TH.enc]
  refine ⟨?_, fun j _ => ?_, fun i hi hne => ?_⟩
  · rw [rdH_itr, ← List.flatMap_append, itr_all hs hl _ (fun t ht => (List.mem_append.mp ht).elim (hok t) (hok t)), List.map_append]
  · rw [take_end, rdH_itr, itr_all hs hl _ fun t ht => hok t (List.mem_of_mem_take ht)]
  · rw [rdH_itr]
    exact itr_cut hs hl stepH_cut ts i hok hi hne
theorem cutQ {n : Nat} (ts : List TQ) (hok : ∀ t ∈ ts, t.ok ∧ t.ds.length = n * n) : rdQ n (ts.flatMap TQ.enc ++ ts.flatMap TQ.enc) = some (ts.map TQ.dat ++ ts.map TQ.dat) ∧ (∀ j, j ≤ ts.length → rdQ n ((ts.flatMap TQ.enc).take ((ts.take j).flatMap TQ.enc).length) = some ((ts.take j).map TQ.dat)) ∧
    (∀ i, i ≤ (ts.flatMap TQ.enc).length → (∀ j, j ≤ ts.length → ((ts.take j).flatMap TQ.enc).length ≠ i) → rdQ n ((ts.flatMap TQ.enc).take i) = none) := by
  have hs := fun t r h => stepQ_enc (n := n) t r h
  have hl : ∀ t : TQ, t.ok ∧ t.ds.length = n * n → 1 ≤ t.enc.length := fun t _ => by simp [TQ.enc]
  refine ⟨?_, fun j _ => ?_, fun i hi hne => ?_⟩
  · rw [rdQ_itr, ← List.flatMap_append, itr_all hs hl _ (fun t ht => (List.mem_append.mp ht).elim (hok t) (hok t)), List.map_append]
  · rw [take_end, rdQ_itr, itr_all hs hl _ fun t ht => hok t (List.mem_of_mem_take ht)]
  · rw [rdQ_itr]
    exact itr_cut hs hl (stepQ_cut (n := n)) ts i hok hi hne

section
variable {M : Model} {A : Around} {E : Value → Shared → Prop} {s : Shared} {env : Env} {pos : Pos}
/-- a chain of two comparisons as a value -/
theorem e_chain {l : Expr} {op₁ op₂ : CmpOp} {r₁ r₂ : Expr} {Q : Value → Shared → Prop}
    (h : wpAny M A (eval l env) (fun a s₁ => wpAny M A (eval r₁ env) (fun b s₂ => wpAny M A (compareOp op₁ a b) (fun c s₃ => wpAny M A (truthy c)
      (fun k s₄ => Br k (wpAny M A (eval r₂ env) (fun d s₅ => wpAny M A (compareOp op₂ b d) Q E s₅) E s₄) (Q c s₄)) E s₃) E s₂) E s₁) E s)
    (hm : lastMarks [op₁, op₂] [r₁, r₂] = false) : wpAny M A (eval (.Compare l [op₁, op₂] [r₁, r₂] pos) env) Q E s :=
  Compare_chain (wpAny_mono h (fun a s₁ h₁ => chain_link (wpAny_mono h₁ (fun b s₂ h₂ => wpAny_mono h₂ (fun c s₃ h₃ => wpAny_mono h₃ (fun k s₄ h₄ => by
    cases k
    · exact h₄.2 rfl
    · exact chain_last (h₄.1 rfl)) fun _ _ z => z) fun _ _ z => z) fun _ _ z => z)) fun _ _ z => z) hm
end
section
variable {prog : Program} {w : World} {p : Program} {loose : List Str} {mean : ExcName → Option Value} {mg mb : Str → Option Value} {A₀ : Around} {base h₀ h : Heap} {outer : List Env} {env : Env} {L : Addr} {m : Str → Option Value} {tn imm : List (Addr × Obj)} {G : Array GenState} {D : Drawn} {t : Nat} {O : OsState}
  {Q E : Value → Shared → Prop} {ps : Array Value} {kd : Int} {u : Tok}
/-- _law_values_right(kind) -/
theorem c_values (Z : Act w p loose mean mg mb A₀ base h₀ outer env L m ((295, tabObj ps) :: tn) imm h 20) (HC : CodeHd base 299 295) (TB : Tab (lamQ "_law_values_right") ps imm) (hkd : 0 ≤ kd ∧ kd ≤ 1)
    (hQ : ∀ h₀' ps' imm' h' t', KtsTurn (fsO outer) h₀ h₀' → (∀ q ∈ imm, q ∈ imm') → Sta h₀' L m ((295, tabObj ps') :: tn) imm' h' → Q (.bool true) ⟨h', G, D, t', O⟩) :
    wpN (model prog w) (A₀.deeper env) (call (.ref 300) [.int kd u]) Q E ⟨h, G, D, t, O⟩ := by
  refine' callNTC (binds := [("kind", .int kd u)]) Z ?k1 ?k2 ?k3 ?k4 ?k5 ?k6 ?k7 ?k8 ?_
  case k1 => k_is
  case k2 => k_is
  case k3 => exact rfl
  case k4 => intro n x hx; simp at hx; subst hx; exact .inr ⟨rfl, rfl⟩
  case k5 => decide
  case k6 => exact rfl
  case k7 => exact rfl
  case k8 => exact rfl
  intro g L' h₁ t₁ cells Y lt C F N D₀ R
  obtain ⟨o1, o2, rfl, d1, d2⟩ := PyProof.Rows.CellsAre.two Y
  have S : Sta g L' (fun z => none) ((L' + 1 + 1, o1) :: (L' + 1, o2) :: (295, tabObj ps) :: tn) imm h₁ := ⟨F, N, sep_c2 lt D₀ (Nat.lt_succ_of_lt (Nat.lt_succ_self _)) (Nat.lt_succ_self _) (Nat.ne_of_lt (Nat.lt_succ_self _))⟩
  have d2 : o2.data = .cell (some (.int kd u)) := d2
  clear F N D₀ lt Y
  with_reducible refine absQN fun Q₀ hQ₀ => ?_
  repeat walk_at "n"
  refine loop_rangeT (fs := fsO (env :: outer)) (N := 256) (n := 256) rfl R.hd (fun i m' tn' imm' => (∃ o5 psx v0, tn' = (L' + 1 + 1, o5) :: (L' + 1, o2) :: (295, tabObj psx) :: tn ∧ o5.data = .cell v0 ∧ Tab (lamQ "_law_values_right") psx imm') ∧
      (∀ q ∈ imm, q ∈ imm')) (by omega) (fun _ _ z => z.elim) (by assumption) (by walk_at "mem") ⟨⟨o1, ps, _, rfl, d1, TB.mono fun q hq => .tail _ hq⟩, fun q hq => .tail _ hq⟩ ?_ ?_
  · intro g9 i tk I oI m10 tn10 imm10 h10 t10 TT hi hJ S10
    with_reducible refine absLN fun Q₃ hQ₃ => ?_
    refine anE2 hJ fun hz122 hsub10 => ?_
    clear hJ
    refine exE3 hz122 fun o5 psx v0 hz123 => ?_
    clear hz122
    refine anE3 hz123 fun hz124 d5 TB5 => ?_
    clear hz123
    subst hz124
    have C5 := C.turn TT
    clear C S
    repeat walk_at "n"
    refine s_storeC S10.f1 rfl d5 rfl rfl fun o6 h d6 S => ?_
    clear S10
    refine rn_assign rfl (wpAny_mono (Q := fun v s₁ => ∃ t1 bb, s₁ = ⟨h, G, D, t1, O⟩ ∧ v = .bool bb ∧ (bb = true ↔ okCond kd i)) ?_ ?_ fun _ _ z => z)
    · repeat walk_at "m"
      refine ⟨fun hc => ?_, fun hc => ?_⟩
      · have hk0 : kd = 0 := by simpa using hc
        repeat walk_at "m"
        exact ⟨_, _, rfl, rfl, by simp only [decide_eq_true_eq, okCond]; omega⟩
      · have hk1 : kd = 1 := by
          have : ¬ kd = 0 := by simpa using hc
          omega
        refine' e_chain ?_ ?s
        case s => exact rfl
        repeat walk_at "m"
        refine ⟨fun hc2 => ?_, fun hc2 => ?_⟩
        · have hc2 := of_decide_eq_true hc2
          repeat walk_at "m"
          exact ⟨_, _, rfl, rfl, by simp only [decide_eq_true_eq, okCond]; omega⟩
        · have hc2 := of_decide_eq_false hc2
          exact ⟨_, _, rfl, rfl, by simp only [decide_eq_true_eq, okCond]; omega⟩
    · intro dv sd hJ
      refine exE2 hJ fun t1 bb hz125 => ?_
      clear hJ
      refine anE3 hz125 fun hz126 hz127 hbb => ?_
      clear hz125
      subst hz126
      subst hz127
      repeat walk_at "m"
      rename_i hG SG
      refine rn_ifL (n_cmp (en_call ?_) rfl)
      repeat walk_at "n"
      refine s_lambda C5 SG.f3 TB5 HC rfl rfl rfl rfl rfl fun f c' ctv psy immF h t S hsubF TBF RC => ?_
      clear SG
      repeat walk_at "n"
      refine c_heard (ok := okCond kd i) (RR := fun v tn' imm' => ∃ fl vs0 k0, v = .ref fl ∧ tn' = (fl, PySem.W.listOf vs0.toArray k0) :: (295, tabObj psy) :: (L' + 1 + 1, o6) :: (I, oI) :: (L' + 1, o2) :: tn ∧
          (∀ q ∈ immF, q ∈ imm') ∧ DatAll imm' vs0 [cDat kd 2 i]) (n := 18) ⟨C5, S, rfl, rfl, R.le (by decide)⟩ (by walk_at "mem") rfl ?_ ?_ ?_
      · intro A₁ base₁ h₂ h₃ outer₁ env₁ L₁ m₁ t₂ Q₁ E₁ Z₁ hq1 hq2
        refine wpN.call ?_
        refine lamN (cls := .ref 44) (NE := Kept (¬ okCond kd i) _) Z₁.C Z₁.S Z₁.hf Z₁.hk Z₁.C.frames Z₁.R (List.mem_append_right _ (.head _)) ((RC.mono fun q hq => .tail _ hq).code Z₁.S) rfl (locs rfl) (by decide) rfl rfl rfl (fun e h' tk news' hk T => hq2 hk.1 e h' tk (T.sub hk.2)) ?_
        intro g₅ L₅ h₅ t₅ Z'
        have C₅ := Z'.C
        have S₅ := Z'.S
        have hf₅ := Z'.hf
        have hk₅ := Z'.hk
        have R₅ := Z'.R
        clear C5 S
        refine wpN.of (e_call ?_)
        repeat walk_at "m"
        refine s_bytesL (by assumption) (by walk_at "mem") rfl rfl (.cons _ _ (.cons _ _ .nil)) ?_ (by simp) R₅.hd fun h t q S => ?_
        · intro n hn
          simp only [List.mem_cons, List.not_mem_nil, or_false] at hn
          omega
        replace S := S.drop
        repeat walk_at "m"
        have hrd := rdC_pair (kd := kd) (i := i) hkd (by omega)
        refine c_read_cond (by walk_at "act") (by simp) (fun ds hds fl vs0 k0 imm4 h t hsub4 hD4 S => ?_) (fun hn e h tk T => Flew.of T (fun hok => by have := hrd.1 hok; rw [rdC, hn] at this; cases this) (fun q hq => hq))
        have hok : okCond kd i := Classical.byContradiction fun hno => by have := hrd.2 hno; rw [rdC, hds] at this; cases this
        have h1 := hrd.1 hok
        rw [rdC, hds] at h1
        cases h1
        exact Back.mk S fun S => hq1 hok _ _ _ _ _ (exI3 ⟨rfl, rfl, fun q hq => hsub4 _ (.tail _ hq), hD4⟩) S
      · intro hok' h₀' v tn' imm' h' t' T' hJ S'
        refine exE3 hJ fun fl vs0 k0 hz128 => ?_
        clear hJ
        refine anE4 hz128 fun hv htn hsubR hDR => ?_
        clear hz128
        subst hv htn
        have hbt := hbb.mpr hok'
        subst hbt
        repeat walk_at "m"
        refine ⟨fun _ => ?_, fun z => Bool.noConfusion z⟩
        repeat walk_at "m"
        rename_i tp htp ST el hel SL
        refine s_neD (ds := [cDat kd 2 i]) (I := imm') (I' := (tp, _) :: imm') (s_list SL (.tail _ (.head _)) rfl rfl) (s_list SL (.head _) rfl rfl) (fun q hq => SL.get (List.mem_append_right _ (.tail _ hq))) (fun q hq => SL.get (List.mem_append_right _ hq)) hDR (.one (.tuple (.head _) (.cons (.int _ _) (.cons (.int _ _) (.cons (.int _ _) .nil))))) (by simp [dep, cDat]) R.u64 ?_
        repeat walk_at "m"
        refine ⟨fun z => Bool.noConfusion z, fun _ => ?_⟩
        exact rn_nilQ hQ₃ (TurnEndT.mk T' SL.drop.drop.f3.f2.f3 ⟨⟨o6, psy, _, rfl, d6, TBF.mono fun q hq => .tail _ (hsubR _ hq)⟩, fun q hq => .tail _ (hsubR _ (hsubF _ (hsub10 _ hq)))⟩)
      · intro hno h₀' u h' t' T' S'
        have hbt : bb = false := by cases bb with | false => rfl | true => exact absurd (hbb.mp rfl) hno
        subst hbt
        repeat walk_at "m"
        refine ⟨fun z => Bool.noConfusion z, fun _ => ?_⟩
        repeat walk_at "m"
        refine SeqAt.RcNeAt.str_str "refused" _ "refused" _ prog w _ _ ?_
        have e : (!(("refused" : Str) == "refused")) = false := by decide
        rw [e]
        repeat walk_at "m"
        refine ⟨fun z => Bool.noConfusion z, fun _ => ?_⟩
        exact rn_nilQ hQ₃ (TurnEndT.mk T' S'.f3.f2.f3 ⟨⟨o6, psy, _, rfl, d6, TBF.mono fun q hq => .tail _ hq⟩, fun q hq => .tail _ (hsubF _ (hsub10 _ hq))⟩)
  · intro g9 m10 tn10 imm10 h10 t10 TT hJ S10
    refine anE2 hJ fun hz129 hsub10 => ?_
    clear hJ
    refine exE3 hz129 fun o5 psx v0 hz130 => ?_
    clear hz129
    refine anE3 hz130 fun hz131 d5 TB5 => ?_
    clear hz130
    subst hz131
    repeat walk_at "n"
    exact hQ₀ _ _ (BackT.mk (TT) S10 fun h₀' T₀ S₀ => hQ _ _ _ _ _ T₀ hsub10 S₀.drop.drop)
end

section
open AutoSeq1 (wpAny_loadPart')
theorem noFill_tuple_mul : fillsNumberSlot (.type "tuple") "mul" = pure false :=
  PySem.fillsNumberSlot_seq (id := "tuple.__mul__") (r := some (.builtin "tuple.__rmul__")) PySem.F.slot_tuple_mul.lookup (by decide +kernel) PySem.F.slot_tuple_rmul.lookup (by decide +kernel)
theorem repeat_tuple : seqRepeat? (.type "tuple") = pure (some (.builtin "tuple.__mul__")) := by
  unfold seqRepeat?
  rw [PySem.seqSlot_of (T := "tuple") (name := "__mul__") (id := "tuple.__mul__") PySem.F.slot_tuple_mul.lookup (by decide +kernel), PySem.seqSlot_of (T := "tuple") (name := "__rmul__") (id := "tuple.__rmul__") PySem.F.slot_tuple_rmul.lookup (by decide +kernel)]
  rfl
theorem int_rmul_tuple (a : Int) (t : Tok) (l : Addr) (items : Array Value) (n : Nat) :
    Meets (Builtin.«int.__rmul__» ⟨[.int a t, .ref l], []⟩) (fun _ R s => s.heap.get? l = some { cls := .type "tuple", dict := none, data := .seq items n, slots := #[] } ∧ R (.ok (.ret Value.notImplemented)) s) :=
  .of_wp fun prog w A R s h => by obtain ⟨hp, g, d, tk, os⟩ := s; obtain ⟨hl, h⟩ := h; wp_walk; exact ⟨_, rfl, h⟩
theorem tup_mul (l : Addr) (v : Value) (n : Nat) (x : Nat) (u : Tok) (h2 : 2 ≤ x) (h3 : x ≤ 1000) :
    Meets (Builtin.«tuple.__mul__» ⟨[.ref l, .int x u], []⟩) (fun _ R s => s.heap.get? l = some { cls := .type "tuple", dict := none, data := .seq #[v] n, slots := #[] } ∧ R (.ok (.ret (Value.ref s.heap.objs.size))) { s with heap := s.heap.push { cls := .type "tuple", data := .seq (List.replicate x v).toArray } }) :=
  .of_wp fun prog w A R s h => by
    obtain ⟨hp, g, d, tk, os⟩ := s; obtain ⟨hl, h⟩ := h
    have f1 := AutoSeq1.idx_int
    have p63 : (2 : Int) ^ 63 = 9223372036854775808 := by decide
    have c2 : (decide ((x : Int) < -2 ^ 63) || decide ((x : Int) ≥ 2 ^ 63)) = false := by simp only [p63, Bool.or_eq_false_iff, decide_eq_false_iff_not]; omega
    have c3 : ((#[v] : Array Value).isEmpty || ((x : Int) == 1)) = false := by simp; omega
    have c4 : (decide ((x : Int) ≤ 0) || (#[v] : Array Value).isEmpty) = false := by simp; omega
    wp_walk using wpAny_loadPart' hl
    have c5 : ¬ (((#[v] : Array Value).size : Int) * (x : Int) > (2 ^ 63 - 1) / 8) := by simp; omega
    have c6 : Builtin.Tuple.tupleTooMany (((#[v] : Array Value).size : Int) * (x : Int)) = false := by simp [Builtin.Tuple.tupleTooMany, sizeLine_eq]; omega
    have e : List.foldl (fun x1 x2 => x1 ++ x2) #[] (List.replicate (x : Int).toNat #[v]) = (List.replicate x v).toArray := by
      have e : ∀ (x : Nat) (acc : Array Value), List.foldl (fun x1 x2 => x1 ++ x2) acc (List.replicate x #[v]) = acc ++ (List.replicate x v).toArray := by
        intro x
        induction x with
        | zero => intro acc; simp
        | succ x ih => intro acc; rw [List.replicate_succ, List.replicate_succ, List.foldl_cons, ih]; apply Array.toList_inj.mp; simp
      have := e x #[]
      simpa using this
    refine bm_if_false c2 ?_
    wp_walk using wpAny_loadPart' hl
    refine bm_if_false c3 ?_
    try dsimp only
    refine bm_if_false c4 ?_
    try dsimp only
    rw [if_neg c5]
    try dsimp only
    refine bm_if_false c6 ?_
    try dsimp only
    rw [e]
    wp_walk
    rw [if_neg (by simp [sizeLine_eq]; omega)]
    wp_walk
    exact ⟨_, rfl, h⟩
end
section
variable {prog : Program} {w : World} {A : Around} {E : Value → Shared → Prop} {Q : Value → Shared → Prop} {h₀ h : Heap} {L : Addr} {m : Str → Option Value} {tn imm : List (Addr × Obj)} {G : Array GenState} {D : Drawn} {t : Nat} {O : OsState} {l b : Addr} {vs ws : List Value}
/-- (v,) * n -/
theorem s_mulT {v : Value} {x : Nat} {u : Tok} (S : Sta h₀ L m tn imm h) (hl : (l, tupO [v]) ∈ tn ++ imm) (h2 : 2 ≤ x) (h3 : x ≤ 1000) (hq : ∀ a h', Sta h₀ L m tn ((a, tupO (List.replicate x v)) :: imm) h' → Q (.ref a) ⟨h', G, D, t, O⟩) :
    wpAny (model prog w) A (binaryOp .Mult (.ref l) (.int x u)) Q E ⟨h, G, D, t, O⟩ := by
  have ho := S.get hl
  refine wpAny_binaryOp_repeat_ref (T := "tuple") (U := "int") (s := ⟨h, G, D, t, O⟩) (by decide) ⟨_, ho, rfl⟩ (fun s' => typeIs_int s' x u) noFill_tuple_mul PySem.F.fills_int_mul PySem.F.slot_int_rmul repeat_tuple PySem.F.slot_int_index.lookup
    (call_meets PySem.F.slot_int_rmul (typeIs_int _ x u) PySem.F.entry_int_rmul (PySem.F.args_int_rmul_2 _ _) (int_rmul_tuple x u l #[v] 0)
      ⟨ho, rfl, ⟨_, ho, rfl⟩, call_meets PySem.F.slot_tuple_mul ⟨_, ho, rfl⟩ PySem.F.entry_tuple_mul (PySem.F.args_tuple_mul_2 _ _) (tup_mul l v 0 x u h2 h3) ⟨ho, hq _ _ (S.newImm _)⟩⟩)
/-- tuple + tuple -/
theorem s_addT (S : Sta h₀ L m tn imm h) (hl : (l, tupO vs) ∈ tn ++ imm) (hb : (b, tupO ws) ∈ tn ++ imm) (hv : vs ≠ []) (hw : ws ≠ []) (hz : vs.length + ws.length ≤ 100000) (hq : ∀ a h', Sta h₀ L m tn ((a, tupO (vs ++ ws)) :: imm) h' → Q (.ref a) ⟨h', G, D, t, O⟩) :
    wpAny (model prog w) A (binaryOp .Add (.ref l) (.ref b)) Q E ⟨h, G, D, t, O⟩ :=
  add_tuples (s := ⟨h, G, D, t, O⟩) S.F S.N ⟨_, S.get hl, rfl, 0, rfl⟩ ⟨_, S.get hb, rfl, 0, rfl⟩ (fun e => absurd e hv) (fun _ e => absurd e hw) (fun _ _ h' F' N' => by
    refine hq _ h' ⟨F', fun p hp => N' p ?_, Sep.addImm (fun p hp => Nat.ne_of_lt (S.lt p (List.mem_append_left _ hp))) S.D⟩
    simp only [List.mem_append, List.mem_cons] at hp ⊢
    rcases hp with q | q | q
    · exact .inr (.inl q)
    · exact .inl q
    · exact .inr (.inr q)) (by rw [sizeLine_eq]; omega)
end

section
variable {prog : Program} {w : World} {M : Model} {A : Around} {E : Value → Shared → Prop} {s : Shared}
theorem adjust_upto (a n : Nat) (ha : a ≤ n) : Builtin.Slice.sliceAdjust none (some (a : Int)) 1 (n : Int) = ((0 : Int), (a : Int)) := by
  unfold Builtin.Slice.sliceAdjust
  have h1 : ¬ ((1 : Int) < 0) := by omega
  have h2 : ¬ ((a : Int) < 0) := by omega
  simp only [h1, h2, if_false]
  congr 1
  omega
theorem places_upto (a : Nat) : Builtin.Slice.slicePlaces (0 : Int) (a : Int) 1 = a := by
  unfold Builtin.Slice.slicePlaces
  have h1 : (1 : Int) > 0 := by omega
  simp only [h1, if_true, Int.ediv_one]
  split <;> omega
theorem sliceApplied_upto {sl : Addr} {a n : Nat} {u : Tok} {Q : Int × Int × Nat → Shared → Prop} (hs : s.heap.IsSliceOf sl .none (.int a u) .none) (ha : a ≤ n) (h : Q ((0 : Int), 1, a) s) :
    wpAny (model prog w) A (Builtin.Slice.sliceApplied (.ref sl) (pure (n : Int))) Q E s := by
  obtain ⟨os, hos, hcs, hds⟩ := id hs
  unfold Builtin.Slice.sliceApplied Builtin.Slice.sliceFields
  refine wpAny_bind (wpAny_bind (wpAny_field hos hds (x := .none) rfl (wpAny_bind (wpAny_field hos hds (x := .int a u) rfl (wpAny_bind (wpAny_field hos hds (x := .none) rfl (wpAny_pure ?_)))))))
  refine wpAny_bind (PyProof.Rows.slicePart_none ?_)
  show wpAny _ _ (if ((1 : Int) == 0) = true then _ else _) _ _ s
  rw [if_neg (by decide)]
  refine wpAny_bind (PyProof.Rows.slicePart_none (wpAny_bind (PyProof.Rows.slicePart_int (wpAny_bind (wpAny_pure ?_)))))
  show wpAny _ _ (match Builtin.Slice.sliceAdjust none (some (a : Int)) 1 (n : Int) with | (lo, hi) => pure (lo, (1 : Int), Builtin.Slice.slicePlaces lo hi 1)) _ _ s
  rw [adjust_upto a n ha]
  show wpAny _ _ (pure ((0 : Int), (1 : Int), Builtin.Slice.slicePlaces (0 : Int) (a : Int) 1)) _ _ s
  rw [places_upto a]
  exact wpAny_pure h
theorem pick_upto (xs : Array Value) (a : Nat) (ha : a ≤ xs.size) : ((List.range a).filterMap fun (k : Nat) => xs[((0 : Int) + (k : Int) * 1).toNat]?).toArray = (xs.toList.take a).toArray := by
  congr 1
  have e : (fun (k : Nat) => xs[((0 : Int) + (k : Int) * 1).toNat]?) = fun k => xs.toList[k]? := by
    funext k
    have : ((0 : Int) + (k : Int) * 1).toNat = k := by omega
    rw [this]
    simp
  rw [e]
  have : ∀ (l : List Value) (a : Nat), a ≤ l.length → (List.range a).filterMap (fun k => l[k]?) = l.take a := by
    intro l a ha
    induction a with
    | zero => simp
    | succ a ih =>
      rw [List.range_succ, List.filterMap_append, ih (by omega), List.take_succ]
      simp [List.getElem?_eq_getElem (by omega : a < l.length)]
  exact this _ _ (by simpa using ha)
theorem getItem_tuple_upto {t sl : Addr} {items : Array Value} {a : Nat} {u : Tok} {Q : Value → Shared → Prop} (ht : IsTup s.heap t items) (hs : s.heap.IsSliceOf sl .none (.int a u) .none) (ha : a < items.size)
    (h : Q (.ref s.heap.objs.size) { s with heap := s.heap.push { cls := .type "tuple", data := .seq (items.toList.take a).toArray } })
    (hsz : items.size ≤ sizeLine) : wpAny (model prog w) A (getItem (.ref t) (.ref sl)) Q E s := by
  have hdrop : sizeOk (.seq (items.toList.take a).toArray) := by
    show (items.toList.take a).toArray.size ≤ sizeLine
    rw [List.size_toArray, List.length_take, Array.length_toList]
    omega
  obtain ⟨os, hos, hcs, hds⟩ := id hs
  have hTs : s.TypeIs (.ref sl) "slice" := ⟨os, hos, hcs⟩
  unfold getItem
  try with_reducible refine wpAny_holding ?_
  first | refine wpAny_bind (wpAny_pure ?_) | skip
  refine wpAny_bind (wpAny_sequenceKey ht.typeIs (by decide) ?_)
  refine wpAny_bind (wpAny_callSpecial?_slot (name := Str.ofString "__getitem__") ht.typeIs PyProof.Rows.slot_tuple_getitem
    (wpAny_call_entry PyProof.Rows.slot_tuple_getitem ht.typeIs PyProof.Rows.entry_tuple_getitem ?_ (PyProof.Rows.args_tuple_getitem _ _)))
  show wpAny _ _ (Builtin.Tuple.tupleItemsOf (.ref t) >>= _) _ _ s
  refine wpAny_bind (PyProof.Rows.tupleItemsOf_ ht ?_)
  refine wpAny_bind (wpAny_typeOf hTs ?_)
  rw [if_pos (by decide)]
  refine wpAny_bind (sliceApplied_upto hs (by omega) ?_)
  have hno : ¬ (((0 : Int) == 0 && (1 : Int) == 1 && a == items.size) = true) := by
    have : (a == items.size) = false := by rw [beq_eq_false_iff_ne]; omega
    rw [this]; simp
  show wpAny _ _ (if ((0 : Int) == 0 && (1 : Int) == 1 && a == items.size) = true then _ else _) _ _ s
  rw [if_neg hno, pick_upto items a (by omega)]
  first
    | exact wpAny_bind (m := Builtin.Tuple.tupleExact _) (wpAny_newObj_type (wpAny_pure ⟨_, rfl, wpAny_pure h⟩) hdrop)
    | exact wpAny_bind (m := Builtin.Tuple.tupleExact _) (wpAny_newObj_type (wpAny_bind (wpAny_pure (wpAny_pure ⟨_, rfl, wpAny_pure h⟩))) hdrop)
    | exact wpAny_bind (wpAny_bind (m := Builtin.Tuple.tupleExact _) (wpAny_newObj_type (wpAny_pure (wpAny_pure ⟨_, rfl, wpAny_pure h⟩)) hdrop))
    | exact wpAny_bind (wpAny_bind (m := Builtin.Tuple.tupleExact _) (wpAny_newObj_type (wpAny_pure ⟨_, rfl, wpAny_pure h⟩) hdrop))
end
section
variable {prog : Program} {w : World} {A : Around} {E : Value → Shared → Prop} {Q : Value → Shared → Prop} {h₀ h : Heap} {L : Addr} {m : Str → Option Value} {tn imm : List (Addr × Obj)} {G : Array GenState} {D : Drawn} {t : Nat} {O : OsState} {l b : Addr} {vs ws : List Value}
/-- tuple[:k] -/
theorem s_uptoT {value slice : Expr} {k : Nat} {u : Tok} (S : Sta h₀ L m tn imm h) (hl : (l, tupO vs) ∈ tn ++ imm) (hz : vs.length ≤ 100000) (hk : k < vs.length) (hq : ∀ a h', Sta h₀ L m tn ((a, tupO (vs.take k)) :: imm) h' → Q (.ref a) ⟨h', G, D, t, O⟩)
    (hs : ∀ a, subscripted slice false (.ref l) (.ref a) = operate [.ref a, .ref l] (getItem (.ref l) (.ref a)))
    (hg : ∀ r, letTemporaryGo value (.ref l) r = pure ()) :
    wpAny (model prog w) A (subscriptTail value slice (.ref l) (.ref h.objs.size)) Q E ⟨h.push { cls := .type "slice", data := .fields #[.none, .int k u, .none] }, G, D, t, O⟩ := by
  have S1 := S.keeps (h' := h.push { cls := .type "slice", data := .fields #[.none, .int k u, .none] }) fun _ _ e => Heap.get?_push_of_some _ e
  have ht' : IsTup (h.push { cls := .type "slice", data := .fields #[.none, .int k u, .none] }) l vs.toArray := ⟨_, S1.get hl, rfl, 0, rfl⟩
  exact subscriptTail_ops (s := ⟨_, G, D, t, O⟩) ht'.typeIs PyProof.Rows.slot_tuple_getitem.lookup
    (getItem_tuple_upto ht' (Heap.IsSliceOf.new ..) (by simpa using hk) (hq _ _ (S1.newImm _)) (by rw [List.size_toArray, sizeLine_eq]; omega)) (hs _) hg
end

section
variable {prog : Program} {w : World} {A : Around} {E : Value → Shared → Prop} {s : Shared}
/-- the loop of bytes.__new__ over any iterator -/
theorem bmW_loop {R : Result → Shared → Prop} {I S : Addr} {fp : List Addr} {ns : List Int} {P : Nat → Value → Prop} {Stt : Nat → Heap → Prop} (W : Walks prog w A.in1 I fp [I] ns.length P Stt) (hP : ∀ i v, P i v → i < ns.length → ∃ n t, v = .int n t ∧ ns[i]? = some n) (hr : ∀ n ∈ ns, 0 ≤ n ∧ n < 256) (hz : ns.length ≤ sizeLine) (hIS : I ≠ S) (hSf : S ∉ fp) :
    ∀ (k i : Nat) (s : Shared), ns.length - i = k → i ≤ ns.length → Stt i s.heap → s.heap.get? S = some { cls := .type "bytearray", data := .bytearray (byteArr (ns.take i)) } →
      (∀ h' t k', (∀ b o, b ≠ I → b ≠ S → s.heap.get? b = some o → h'.get? b = some o) → R (.ok (.ret (.bytes (byteArr ns) t))) { s with heap := h', toks := k' }) →
      codeAny (model prog w) A (.builtin "bytes.__new__.loop" ⟨[.type "bytes", .ref I, .ref S], []⟩) R s := by
  intro k
  induction k with
  | zero =>
    intro i s hk hle hst hS hR
    have hin : i = ns.length := by omega
    subst hin
    refine codeAny_builtin F.bm_entry_loop ?_
    rw [Around.under_plainId F.bm_plain_loop _]
    show wpAny _ A.in1 (pyNext (.ref I) >>= _) _ _ s
    refine wpAny_bind (W.done s _ _ hst fun h' tk he => ?_)
    have hS' : h'.get? S = some { cls := .type "bytearray", data := .bytearray (byteArr (ns.take ns.length)) } := he S _ (fun q => hIS (List.mem_singleton.mp q).symm) hS
    refine wpAny_bind ?_
    unfold Builtin.Bytes.payload Builtin.Bytes.payload?
    refine wpAny_bind (wpAny_bind (wpAny_load hS' ?_))
    refine wpAny_pure (wpAny_pure ?_)
    rw [List.take_length]
    refine wpAny_bind (wpAny_mkBytes ?_ (by rw [byteArr_size]; exact hz))
    show wpAny _ _ (if (Value.type "bytes" == Value.type "bytes") = true then _ else _) _ _ _
    refine bm_if_true (by decide) ?_
    first
      | exact wpAny_pure (hR h' _ _ fun b o hb _ e => he b o (fun q => hb (List.mem_singleton.mp q)) e)
      | exact wpAny_bind (wpAny_pure (wpAny_pure (hR h' _ _ fun b o hb _ e => he b o (fun q => hb (List.mem_singleton.mp q)) e)))
  | succ k ih =>
    intro i s hk hle hst hS hR
    have hlt : i < ns.length := by omega
    refine codeAny_builtin F.bm_entry_loop ?_
    rw [Around.under_plainId F.bm_plain_loop _]
    show wpAny _ A.in1 (pyNext (.ref I) >>= _) _ _ s
    refine wpAny_bind (W.item i s _ _ hlt hst fun v h' tk hPv hst' he => ?_)
    obtain ⟨n, t, rfl, hn⟩ := hP i v hPv hlt
    obtain ⟨h0, h1⟩ := hr n (List.mem_of_getElem? hn)
    have hS' : h'.get? S = some { cls := .type "bytearray", data := .bytearray (byteArr (ns.take i)) } := he S _ (fun q => hIS (List.mem_singleton.mp q).symm) hS
    refine wpAny_bind (wpAny_holding (wpAny_of_eq (rfl : asIndex (.int n t) = pure n) ?_))
    refine wpAny_bind (wpAny_letGo ?_)
    refine bm_if_false (by simp only [Bool.or_eq_false_iff, decide_eq_false_iff_not]; omega) ?_
    refine wpAny_bind ?_
    show wpAny _ _ (updateBytearray S (·.push n.toNat.toUInt8)) _ _ _
    unfold updateBytearray
    refine wpAny_bind (wpAny_load hS' ?_)
    show wpAny _ _ (update S (Obj.mapBytearray (·.push n.toNat.toUInt8)) >>= fun _ => lookBehind S) _ _ _
    refine wpAny_bind (wpAny_update hS' ?_)
    have hS₂ : (h'.update S (Obj.mapBytearray (·.push n.toNat.toUInt8))).get? S = some { cls := .type "bytearray", data := .bytearray (byteArr (ns.take (i + 1))) } := by
      rw [byteArr_take hn]
      exact Heap.get?_update_self (Obj.mapBytearray (·.push n.toNat.toUInt8)) hS' rfl
    refine wpAny_lookBehind hS₂ ?_ ?_
    · show (if (byteArr (ns.take (i + 1))).size > sizeLine then some "bytearray:memory" else none) = none
      rw [if_neg]
      rw [byteArr_size, List.length_take]
      omega
    · refine wpAny_pure ⟨plainId_quiet F.bm_plain_loop _, ih (i + 1) { s with heap := h'.update S (Obj.mapBytearray (·.push n.toNat.toUInt8)), toks := tk } (by omega) hlt ?_ hS₂ fun h3 t' k' hk3 => ?_⟩
      · exact W.frame _ _ _ hst' fun b hb o e => (Heap.get?_update_other _ _ (fun q => hSf (by rw [q]; exact hb))).trans e
      · exact hR h3 t' k' fun b o hbI hbS e => hk3 b o hbI hbS ((Heap.get?_update_other _ _ (Ne.symm hbS)).trans (he b o (fun q => hbI (List.mem_singleton.mp q)) e))
theorem bt_no_bytes : typeLookup (.type "tuple") "__bytes__" = pure none := by rw [typeLookup_type, builtinLookup_eq_fast]; kernel_rfl
theorem bt_no_index : typeLookup (.type "tuple") "__index__" = pure none := by rw [typeLookup_type, builtinLookup_eq_fast]; kernel_rfl
theorem bt_no_buffer : typeLookup (.type "tuple") "__buffer__" = pure none := by rw [typeLookup_type, builtinLookup_eq_fast]; kernel_rfl
theorem br_no_bytes : typeLookup (.type "range") "__bytes__" = pure none := by rw [typeLookup_type, builtinLookup_eq_fast]; kernel_rfl
theorem br_no_index : typeLookup (.type "range") "__index__" = pure none := by rw [typeLookup_type, builtinLookup_eq_fast]; kernel_rfl
theorem br_no_buffer : typeLookup (.type "range") "__buffer__" = pure none := by rw [typeLookup_type, builtinLookup_eq_fast]; kernel_rfl
theorem bt_sub : isSubtype (.type "tuple") (.type "tuple") = pure true := by rw [isSubtype_type]; kernel_rfl
theorem br_sub : isSubtype (.type "range") (.type "range") = pure true := by rw [isSubtype_type]; kernel_rfl
/-- bytes.__new__ of a thing that is iterated -/
theorem bmW_new {l : Addr} {o oI : Obj} {T : String} {ns : List Int} {fp : List Addr} {P : Nat → Value → Prop} {Stt : Nat → Heap → Prop} {Q : Value → Shared → Prop} (ho : s.heap.get? l = some o) (hc : o.cls = .type T) (hstr : ∀ x y, o.data ≠ .prim (.str x y))
    (h1 : typeLookup (.type T) "__bytes__" = pure none) (h2 : typeLookup (.type T) "__index__" = pure none) (h3 : typeLookup (.type T) "__buffer__" = pure none) (hoI : oI.isFreed = false)
    (hit : ∀ (Q : Value → Shared → Prop) (E : Value → Shared → Prop), Q (.ref s.heap.objs.size) { s with heap := s.heap.push oI } → wpAny (model prog w) A.in1 (pyIter (.ref l)) Q E s)
    (hlh : ∀ (Q : Unit → Shared → Prop) (E : Value → Shared → Prop), (∀ tk, Q () { s with heap := s.heap.push oI, toks := tk }) → wpAny (model prog w) A.in1 (Builtin.Bytes.lengthHint "bytes.__new__" (.ref l)) Q E { s with heap := s.heap.push oI })
    (W : Walks prog w A.in1 s.heap.objs.size fp [s.heap.objs.size] ns.length P Stt) (hP : ∀ i v, P i v → i < ns.length → ∃ n t, v = .int n t ∧ ns[i]? = some n) (hr : ∀ n ∈ ns, 0 ≤ n ∧ n < 256) (hz : ns.length ≤ sizeLine)
    (hfp : ∀ b ∈ fp, b ≤ s.heap.objs.size) (hst : ∀ o', Stt 0 ((s.heap.push oI).push o'))
    (hQ : ∀ h' t k, (∀ b o, s.heap.get? b = some o → h'.get? b = some o) → Q (.bytes (byteArr ns) t) { s with heap := h', toks := k }) :
    codeAny (model prog w) A (.call (.builtin "bytes.__new__") ⟨[.type "bytes", .ref l], []⟩) (wants Q E) s := by
  refine bn_in ?_
  have hT : s.TypeIs (.ref l) T := ⟨_, ho, hc⟩
  unfold Builtin.«bytes.__new__»
  refine wpAny_bind (wpAny_of_eq (a := true) rfl ?_)
  refine bm_if_false rfl ?_
  refine wpAny_bind (wpAny_of_eq F.bm_sub ?_)
  refine bm_if_false rfl ?_
  refine wpAny_bind (wpAny_of_eq (F.bm_bind _) ?_)
  refine wpAny_bind (wpAny_of_eq (a := ()) rfl ?_)
  refine wpAny_bind (wpAny_of_eq (a := ()) rfl ?_)
  refine bm_if_false rfl ?_
  refine wpAny_bind (wpAny_specialOf hT h1 ?_)
  refine wpAny_bind (wpAny_bind ?_)
  show wpAny _ _ (load l >>= _) _ _ _
  refine wpAny_bind (wpAny_load ho ?_)
  have hn : ∀ {α : Type} (f : Str → Tok → Sem α) (g : Sem α), (match o.data with | .prim (.str x y) => f x y | _ => g) = g := fun f g => by
    split
    · rename_i x y e
      exact absurd e (hstr x y)
    · rfl
  split
  · rename_i x y e
    exact absurd e (hstr x y)
  refine wpAny_pure (wpAny_pure ?_)
  refine bm_if_false rfl ?_
  refine wpAny_bind (wpAny_specialOf hT h2 ?_)
  refine bm_if_true rfl ?_
  first
    | show wpAny _ _ (Builtin.Bytes.buffer? "bytes.__new__" (.ref l) true >>= _) _ _ _
    | (refine wpAny_bind ?_; show wpAny _ _ (Builtin.Bytes.buffer? "bytes.__new__" (.ref l) true >>= _) _ _ _)
  refine wpAny_bind ?_
  unfold Builtin.Bytes.buffer?
  refine wpAny_bind (wpAny_specialOf hT h3 ?_)
  refine wpAny_bind (wpAny_specialOf hT h3 ?_)
  refine wpAny_pure ?_
  refine wpAny_bind (wpAny_tryCatch (hit _ _ ?_))
  refine wpAny_bind (wpAny_holding (hlh _ _ fun tk => ?_))
  refine wpAny_bind ?_
  unfold Builtin.Bytes.newBytearray
  refine wpAny_newObj_type ?_ (Nat.zero_le _)
  have hsz : (s.heap.push oI).objs.size = s.heap.objs.size + 1 := Heap.size_push _ _
  have main := bmW_loop (prog := prog) (w := w) (A := A) (R := wants Q E) (S := (s.heap.push oI).objs.size) W hP hr hz (by rw [hsz]; exact Nat.ne_of_lt (Nat.lt_succ_self _)) (fun q => by have := hfp _ q; rw [hsz] at this; exact absurd this (Nat.not_le.mpr (Nat.lt_succ_self _)))
    ns.length 0 { s with heap := (s.heap.push oI).push { cls := .type "bytearray", data := .bytearray #[] }, toks := tk } rfl (Nat.zero_le _) (hst _) (Heap.get?_push_size _ rfl)
    fun h' t k hk => hQ h' t k fun b o e => hk b o (Nat.ne_of_lt (Heap.lt_size e)) (by rw [hsz]; exact Nat.ne_of_lt (Nat.lt_succ_of_lt (Heap.lt_size e))) (Heap.get?_push_of_some _ (Heap.get?_push_of_some _ e))
  first
    | exact wpAny_pure ⟨plainId_quiet F.bm_plain_loop _, main⟩
    | exact wpAny_pure (wpAny_pure ⟨plainId_quiet F.bm_plain_loop _, main⟩)
end
section
variable {prog : Program} {w : World} {A : Around} {E : Value → Shared → Prop} {Q : Value → Shared → Prop} {h₀ h : Heap} {L : Addr} {m : Str → Option Value} {tn imm : List (Addr × Obj)} {G : Array GenState} {D : Drawn} {t : Nat} {O : OsState} {l : Addr} {vs : List Value} {ns : List Int}
/-- bytes(a tuple of ints) -/
theorem s_bytesT (S : Sta h₀ L m tn imm h) (hl : (l, tupO vs) ∈ tn ++ imm) (hi : IntsAre vs ns) (hr : ∀ n ∈ ns, 0 ≤ n ∧ n < 256) (hz : vs.length ≤ 10000) (hh : A.handled = none)
    (hq : ∀ h' t k, Sta h₀ L m tn imm h' → Q (.bytes (obs ns).toArray t) ⟨h', G, D, k, O⟩) : wpAny (model prog w) A (call (.type "bytes") [.ref l]) Q E ⟨h, G, D, t, O⟩ := by
  have hlo := S.get hl
  have hlen : vs.length = ns.length := hi.length
  have hT : h.IsTuple l vs.toArray := ⟨_, hlo, rfl, 0, rfl⟩
  have hne : l ≠ h.objs.size := Nat.ne_of_lt (Heap.lt_size hlo)
  have W := Walks.tuple (prog := prog) (w := w) (A := A.in1.in1) hh h.objs.size l hne vs.toArray
  have e : vs.toArray.size = ns.length := by rw [List.size_toArray]; exact hlen
  rw [e] at W
  refine bb_call (bmW_new (s := ⟨h, G, D, t, O⟩) (T := "tuple") (oI := { cls := .type "tuple_iterator", data := .fields #[.ref l, .int 0 0] }) (ns := ns) hlo rfl (fun _ _ e => by cases e) bt_no_bytes bt_no_index bt_no_buffer rfl (fun Q E hq => wpAny_pyIter_tuple hT hq) (fun Q E hq => ?_)
    W (fun i v hP hi' => ?_) hr (by rw [← hlen, sizeLine_eq]; omega) (fun b hb => ?_) (fun o' => ?_) fun h' t k hk => ⟨PySem.W.typeIs_bytes _ _ _, ?_⟩)
  · have hT₁ : ({ heap := h.push { cls := .type "tuple_iterator", data := .fields #[.ref l, .int 0 0] }, gens := G, drawn := D, toks := t, os := O } : Shared).TypeIs (.ref l) "tuple" := ⟨_, Heap.get?_push_of_some _ hlo, rfl⟩
    unfold Builtin.Bytes.lengthHint
    refine wpAny_bind (wpAny_specialOf hT₁ PyProof.Rows.slot_tuple_len.lookup ?_)
    dsimp only
    rw [show splitId "tuple.__len__" = some ("tuple", "__len__") from by decide +kernel]
    dsimp only
    refine wpAny_bind (wpAny_isInstance hT₁ bt_sub ?_)
    refine bm_if_false rfl ?_
    refine bm_if_true (by decide +kernel) ?_
    exact wpAny_pure (hq _)
  · obtain ⟨n, t, rfl, hn⟩ := IntsAre.at hi i v (by simpa using hP)
    exact ⟨n, t, rfl, hn⟩
  · rcases List.mem_cons.mp hb with rfl | hb
    · exact Nat.le_refl _
    · obtain rfl := List.mem_singleton.mp hb
      exact Nat.le_of_lt (Heap.lt_size hlo)
  · exact ⟨⟨_, Heap.get?_push_of_some _ (Heap.get?_push_size _ rfl), rfl, rfl⟩, ⟨_, Heap.get?_push_of_some _ (Heap.get?_push_of_some _ hlo), rfl, 0, rfl⟩⟩
  · rw [byteArr_obs]; exact hq h' t k (S.keeps hk)
/-- bytes(range(n)) -/
theorem s_bytesR {r : Addr} {n : Nat} {N : Int} {a b c : Tok} (hN : N = n) (S : Sta h₀ L m tn imm h) (hl : (r, rngO N a b c) ∈ tn ++ imm) (hz : n ≤ 256) (hh : A.handled = none)
    (hq : ∀ h' t k, Sta h₀ L m tn imm h' → Q (.bytes (obs ((List.range n).map fun (i : Nat) => (i : Int))).toArray t) ⟨h', G, D, k, O⟩) : wpAny (model prog w) A (call (.type "bytes") [.ref r]) Q E ⟨h, G, D, t, O⟩ := by
  subst hN
  have hlo := S.get hl
  have p62 : (2 : Int) ^ 62 = 4611686018427387904 := by decide
  have hsm : Builtin.Range.small 0 n 1 = true := small_one (by rw [p62]; omega) (by rw [p62]; omega) (by rw [p62]; omega) (by rw [p62]; omega)
  have hrs : Builtin.Range.rangeSize 0 n 1 = (n : Int) := by rw [rangeSize_one]; split <;> omega
  have hlen : ((List.range n).map fun (i : Nat) => (i : Int)).length = n := by simp
  have W := Walks.range (prog := prog) (w := w) (A := A.in1.in1) hh h.objs.size 0 1 n
  have W : Walks prog w A.in1.in1 h.objs.size [h.objs.size] [h.objs.size] ((List.range n).map fun (i : Nat) => (i : Int)).length (fun i v => ∃ t, v = .int (0 + i * 1) t) (fun i h' => IsRangeIter h' h.objs.size (0 + (i : Nat) * 1) ((n : Int) - (i : Nat)) 1) := by rw [hlen]; exact W
  refine bb_call (bmW_new (s := ⟨h, G, D, t, O⟩) (T := "range") (oI := { cls := .type "range_iterator", data := .fields #[rawInt 0, rawInt n, rawInt 1] }) (ns := (List.range n).map fun (i : Nat) => (i : Int)) hlo rfl (fun _ _ e => by cases e) br_no_bytes br_no_index br_no_buffer rfl (fun Q E hq => wpAny_pyIter_range hlo hsm (by rw [hrs]; exact hq)) (fun Q E hq => ?_)
    W (fun i v hP hi' => ?_) ?_ (by rw [hlen, sizeLine_eq]; omega) (fun b hb => ?_) (fun o' => ?_) fun h' t k hk => ⟨PySem.W.typeIs_bytes _ _ _, ?_⟩)
  · have hlo₁ : ({ heap := h.push { cls := .type "range_iterator", data := .fields #[rawInt 0, rawInt n, rawInt 1] }, gens := G, drawn := D, toks := t, os := O } : Shared).heap.get? r = some (rngO n a b c) := Heap.get?_push_of_some _ hlo
    have hT₁ : ({ heap := h.push { cls := .type "range_iterator", data := .fields #[rawInt 0, rawInt n, rawInt 1] }, gens := G, drawn := D, toks := t, os := O } : Shared).TypeIs (.ref r) "range" := ⟨_, hlo₁, rfl⟩
    unfold Builtin.Bytes.lengthHint
    refine wpAny_bind (wpAny_specialOf hT₁ F.slot_range_len.lookup ?_)
    dsimp only
    rw [show splitId "range.__len__" = some ("range", "__len__") from by decide +kernel]
    dsimp only
    refine wpAny_bind (wpAny_isInstance hT₁ br_sub ?_)
    refine bm_if_false rfl ?_
    refine bm_if_false (by decide +kernel) ?_
    refine bm_if_true rfl ?_
    refine wpAny_bind (wpAny_rule ?_)
    refine wpAny_bind (wpAny_attempt (call_len_range hlo₁ hrs (by omega) ?_))
    refine wpAny_bind (m := asInt? _) (wpAny_pure ?_)
    refine bm_if_false (by simp [Builtin.Bytes.tooLong, sizeLine_eq]; omega) ?_
    exact wpAny_pure (hq _)
  · obtain ⟨t, rfl⟩ := hP
    rw [hlen] at hi'
    exact ⟨_, t, rfl, by simp [hi']⟩
  · intro x hx
    obtain ⟨i, hi, rfl⟩ := List.mem_map.mp hx
    have := List.mem_range.mp hi
    omega
  · obtain rfl := List.mem_singleton.mp hb
    exact Nat.le_refl _
  · show IsRangeIter _ _ _ _ _
    unfold IsRangeIter
    rw [Heap.get?_push_of_some _ (Heap.get?_push_size _ rfl)]
    simp [rawInt]
  · rw [byteArr_obs]; exact hq h' t k (S.keeps hk)
end

theorem absCN {M : Model} {A : Around} {target elt : Expr} {env : Env} {v : Value} {s : Shared} {Q E : Value → Shared → Prop} (h : ∀ Q', EndsV Q Q' → wpAny M A (assign target env v) (fun _ s₂ => wpN M A (eval elt env) Q' E s₂) E s) : wpAny M A (assign target env v) (fun _ s₂ => wpN M A (eval elt env) Q E s₂) E s := h Q fun _ _ x => x
abbrev cell0 : Obj := { cls := .type "cell", data := .cell none }
abbrev dict0 : Obj := { cls := .type "dict", data := .dict #[] }
theorem nc_compStart {e : Expr} {k : Nat} {it acc : Value} {env : Env} : NC (.compStart e k it acc env) := fun _ _ _ => rfl
theorem nc_compLoop {e : Expr} {k : Nat} {it acc : Value} {env : Env} : NC (.compLoop e k it acc env) := fun _ _ _ => rfl
section
variable {prog : Program} {w : World} {A : Around} {E : Value → Shared → Prop} {fenv cenv : Env} {elt target iter : Expr} {scope : Scope} {pos : Pos} {Q : Value → Shared → Prop} {h₀ h : Heap} {L : Addr} {m : Str → Option Value} {tn imm : List (Addr × Obj)} {G : Array GenState} {D : Drawn} {t : Nat} {O : OsState} {s : Shared} {R : Result → Shared → Prop} {fs : List Addr}
/-- what a comprehension does over an iterator, where a bytearray may be met -/
def CompKN (prog : Program) (w : World) (A : Around) (fenv : Env) (elt target iter : Expr) (scope : Scope) (pos : Pos) (PP : Value → Addr → Result → Shared → Prop) (E : Value → Shared → Prop) (it : Value) (s : Shared) : Prop :=
  wpAny (model prog w) A (newList []) (fun acc s₃ => wpAny (model prog w) A (newFunctionEnv scope fenv.globals [] [] fenv.qual none .none (some fenv)) (fun cenv s₄ =>
    codeN (model prog w) A (.compStart (.ListComp elt [⟨target, iter, [], 0⟩] scope pos) 0 it acc { cenv with scope := relabel scope fenv }) (PP acc cenv.locals) s₄) E s₃) E s
theorem en_comp (hclos : closureFor scope fenv = pure []) (hkind : scope.kind = .function) (hnames : ∀ x ∈ scope.names, x.2 = .local → scope.names.lookup x.1 = some .local) (hs : ∀ x, foldedSetIterable iter fenv x = pure x)
    (h : wpAny (model prog w) A (eval iter fenv) (fun xv s₁ => wpAny (model prog w) A (pyIter xv) (CompKN prog w A fenv elt target iter scope pos (fun acc C r s' => r = .ok .next ∧ compPost (model prog w) A E none Q acc C r s') E) E s₁) E s) :
    wpN (model prog w) A (eval (.ListComp elt [⟨target, iter, [], 0⟩] scope pos) fenv) Q E s := by
  rw [eval_ListComp]
  show wpN _ A (comprehension (.ListComp elt [⟨target, iter, [], 0⟩] scope pos) scope fenv _ (newList []) false (eval iter fenv) none) _ _ s
  unfold comprehension
  rw [hclos]
  show wpN _ A (eval iter fenv >>= _) _ _ s
  refine wpN.bind (wpN.of (wpAny_mono h (fun x s₁ h₁ => wpN.bind (wpN.standAt (wpN.bind (wpN.of (wpAny_of_eq (hs x) (wpN.bind (wpN.holding (wpN.of (wpAny_mono h₁ (fun it s₂ h₂ =>
    ?_) fun _ _ h' => h'))))))))) fun _ _ h' => h'))
  have hv : ∀ (cenv : Env), ∀ x ∈ (scope.names.filter fun x => (x.2 == .local || x.2 == .cell) && x.1 != (".0" : Str)).reverse, x.2 = .local →
      Env.kindOf { cenv with scope := relabel scope fenv } x.1 = some .local := fun cenv x hx hl => lookup_relabel_local (hnames x (List.mem_filter.mp (List.mem_reverse.mp hx)).1 hl)
  simp only [Option.isSome_none, Bool.false_eq_true, if_false]
  refine wpN.bind (wpN.of (wpAny_mono h₂ (fun acc s₃ h₃ => ?_) fun _ _ h' => h'))
  refine wpN.bind (wpN.of (wpAny_pure (wpN.bind (wpN.of (wpAny_mono h₃ (fun cenv s₄ h₄ => ?_) fun _ _ h' => h')))))
  refine wpN.holding (wpN.bind (wpN.attempt (wpN.holding (wpN.run (codeN.mono h₄ fun r s' hr => ?_)))))
  obtain ⟨rfl, m, hn, hr⟩ := hr
  exact wpN.bind (wpN.of (wpAny_holding (wpAny_comp_letGo (cenv := { cenv with scope := relabel scope fenv }) hkind _ s' m (hv cenv) hn fun h' m' _ hs' => wpN.of (wpAny_pure (hr h' hs')))))
theorem compN_loop {it acc : Value} (I : Nat → Shared → Prop)
    (turn : ∀ n s, I n s → wpAny (model prog w) A (pyNext it) (fun r s₁ => match r with
      | none => R (.ok .next) s₁
      | some v => wpAny (model prog w) A (letOwnedTupleGo target it v) (fun _ s₁' => wpAny (model prog w) A (assign target cenv v) (fun _ s₂ => wpN (model prog w) A (eval elt cenv) (fun x s₃ =>
          wpAny (model prog w) A (call (.builtin "list.append") [acc, x]) (fun _ s₄ => ∃ m, m < n ∧ I m s₄) (fun _ _ => False) s₃)
          (fun _ _ => False) s₂) (fun _ _ => False) s₁') (fun _ _ => False) s₁) (fun _ _ => False) s)
    (n : Nat) (h : I n s) : codeN (model prog w) A (.compLoop (.ListComp elt [⟨target, iter, [], 0⟩] scope pos) 0 it acc cenv) R s := by
  refine codeN_loop rfl nc_compLoop I (fun n s hI => ?_) n h
  show wpN _ _ ((compTurn (.ListComp elt [⟨target, iter, [], 0⟩] scope pos) 0 it acc cenv).onRaise (fun x => do noteFrame x cenv; theTreesLotGoes x)) _ _ s
  refine wpN.noted ?_
  rw [compTurn_one]
  refine wpN.mono ?_ (fun _ _ q => q) (fun _ _ (x : False) => x.elim)
  refine wpN.bind (wpN.standAt (wpN.bind (wpN.of (wpAny_mono (turn n s hI) (fun r s₁ h₁ => ?_) fun _ _ h' => h'))))
  cases r with
  | none => exact wpN.pure h₁
  | some v =>
    refine wpN.bind (wpN.of (wpAny_mono h₁ (fun _ s₁' h₁' => ?_) fun _ _ h' => h'))
    exact wpN.bind (wpN.of (wpAny_mono h₁' (fun _ s₂ h₂ => wpN.bind (wpN.bind (wpN.mono h₂ (fun x s₃ h₃ => wpN.bind (wpN.of (wpAny_mono h₃
      (fun _ s₄ h₄ => wpN.pure (wpN.pure (.inl ⟨rfl, h₄⟩))) fun _ _ h' => h'))) fun _ _ h' => h'))) fun _ _ h' => h'))
theorem codeN_compStart {it acc : Value} (h0 : codeN (model prog w) A (.compLoop (.ListComp elt [⟨target, iter, [], 0⟩] scope pos) 0 it acc cenv) R s)
    (h : wpAny (model prog w) A (pyIter it) (fun it' s' => codeN (model prog w) A (.compLoop (.ListComp elt [⟨target, iter, [], 0⟩] scope pos) 0 it' acc cenv) R s') (fun _ _ => False) s) :
    codeN (model prog w) A (.compStart (.ListComp elt [⟨target, iter, [], 0⟩] scope pos) 0 it acc cenv) R s := by
  refine codeN.of_tree nc_compStart (wpN.of ?_)
  show wpAny _ _ ((compStart (.ListComp elt [⟨target, iter, [], 0⟩] scope pos) 0 it acc cenv).onRaise (fun x => do noteFrame x cenv; standAt theWindowsPlace)) _ _ s
  refine wpAny_notedAt ?_
  refine wpAny_mono (E := fun _ _ => False) ?_ (fun _ _ q => q) (fun _ _ (x : False) => x.elim)
  unfold compStart
  show wpAny _ _ (ask >>= _) _ _ s
  refine wpAny_bind (wpAny_askSetting (wpAny_ite ?_))
  split
  · first
      | exact wpAny_bind (wpAny_pure (wpAny_pure (And.intro rfl h0)))
      | exact wpAny_pure (And.intro rfl h0)
  · first
      | exact wpAny_bind (wpAny_rule (wpAny_bind (wpAny_standAt (wpAny_bind (wpAny_mono h (fun it' s' h' => wpAny_pure (And.intro rfl h')) fun _ _ x => x)))))
      | (refine wpAny_bind (wpAny_rule ?_); show wpAny _ _ (standAt iter.pos >>= _) _ _ s; exact wpAny_bind (wpAny_standAt (wpAny_bind (wpAny_mono h (fun it' s' h' => wpAny_pure (And.intro rfl h')) fun _ _ x => x))))
/-- the end of a turn of such a comprehension -/
def CompEndT (fs : List Addr) (h₀ : Heap) (L : Addr) (m : Str → Option Value) (G : Array GenState) (D : Drawn) (O : OsState) (I : Addr) (oI : Obj) (D' C : Addr) (ys : List Value) (k : Nat) (J : List Value → List (Addr × Obj) → List (Addr × Obj) → Prop) (x : Value) (s₃ : Shared) : Prop :=
  ∃ g h t o1 o2 v1 v2 tn imm, s₃ = ⟨h, G, D, t, O⟩ ∧ KtsTurn fs h₀ g ∧ Sta g L m ((I, oI) :: (D', PySem.W.listOf ys.toArray k) :: (C + 1 + 1, o2) :: (C + 1, o1) :: (C, dict0) :: tn) imm h ∧ o1.data = .cell v1 ∧ o2.data = .cell v2 ∧ J (ys ++ [x]) tn imm
theorem CompEndT.mk {g : Heap} {I D' C : Addr} {oI o1 o2 : Obj} {v1 v2 : Option Value} {ys : List Value} {k : Nat} {J : List Value → List (Addr × Obj) → List (Addr × Obj) → Prop} {x : Value} (T : KtsTurn fs h₀ g) (S : Sta g L m ((I, oI) :: (D', PySem.W.listOf ys.toArray k) :: (C + 1 + 1, o2) :: (C + 1, o1) :: (C, dict0) :: tn) imm h) (d1 : o1.data = .cell v1) (d2 : o2.data = .cell v2) (hj : J (ys ++ [x]) tn imm) :
    CompEndT fs h₀ L m G D O I oI D' C ys k J x ⟨h, G, D, t, O⟩ := ⟨g, h, t, o1, o2, v1, v2, tn, imm, rfl, T, S, d1, d2, hj⟩
/-- the comprehension with two cells walked over a list -/
theorem compN_list {l : Addr} {vs : List Value} {y1 y2 : Str} {PP : Value → Addr → Result → Shared → Prop} (hh : A.handled = none) (J : Nat → List Value → List (Addr × Obj) → List (Addr × Obj) → Prop) {o : Obj} (ho : o.cls = .type "list") {k : Nat} (hd : o.data = .seq vs.toArray k) (hl : ∀ i ys tn imm, J i ys tn imm → (l, o) ∈ tn ++ imm) (hn : vs.length ≤ 100000)
    (hpc : ∀ h, pushCells h scope.names = (h.push cell0).push cell0) (hcf : ∀ n, cellsFrom n scope.names [] = [(y2, n + 1), (y1, n)]) (S : Sta h₀ L m tn imm h) (hj : J 0 [] tn imm)
    (turn : ∀ g I D' C i v oI ys k o1 o2 v1 v2 tn imm h t, KtsTurn fs h₀ g → vs[i]? = some v → ys.length = i → J i ys tn imm → o1.data = .cell v1 → o2.data = .cell v2 → Sta g L m ((I, oI) :: (D', PySem.W.listOf ys.toArray k) :: (C + 1 + 1, o2) :: (C + 1, o1) :: (C, dict0) :: tn) imm h →
      wpAny (model prog w) A (assign target (compEnvC scope [(y2, C + 1 + 1), (y1, C + 1)] C fenv) v) (fun _ s₂ => wpN (model prog w) A (eval elt (compEnvC scope [(y2, C + 1 + 1), (y1, C + 1)] C fenv)) (CompEndT fs g L m G D O I oI D' C ys k (J (i + 1))) (fun _ _ => False) s₂) (fun _ _ => False) ⟨h, G, D, t, O⟩)
    (done : ∀ g D' C ys k o1 o2 tn imm h t, KtsTurn fs h₀ g → ys.length = vs.length → J vs.length ys tn imm → Sta g L m ((D', PySem.W.listOf ys.toArray k) :: (C + 1 + 1, o2) :: (C + 1, o1) :: (C, dict0) :: tn) imm h → PP (.ref D') C (.ok .next) ⟨h, G, D, t, O⟩) :
    wpAny (model prog w) A (pyIter (.ref l)) (CompKN prog w A fenv elt target iter scope pos PP E) E ⟨h, G, D, t, O⟩ := by
  have hlo := S.get (hl _ _ _ _ hj)
  have hlt : (l, o) ∈ tn ++ imm := hl _ _ _ _ hj
  have hne : l ≠ h.objs.size := Nat.ne_of_lt (S.lt _ hlt)
  have hls : h.IsList l vs.toArray := ⟨o, hlo, ho, k, hd⟩
  generalize hI : h.objs.size = I at hne
  have W : Walks prog w A I [I, l] [I] vs.length (fun i v => vs[i]? = some v) (fun i h' => h'.IsListIter I l i ∧ h'.IsList l vs.toArray) := by
    have := Walks.list (prog := prog) (w := w) hh I l hne vs.toArray
    simpa using this
  refine wpAny_pyIter_list (s := ⟨h, G, D, t, O⟩) hls ?_
  have S1 := S.newMut { cls := .type "list_iterator", data := .fields #[.ref l, .int 0 0] }
  dsimp only
  rw [hI] at S1 ⊢
  refine s_newList S1 (by simp) fun D' h1 S1 => ?_
  unfold newFunctionEnv
  simp only [Option.isSome_some, if_true]
  refine wpAny_bind (wpAny_alloc ?_)
  refine wpAny_bind (wpAny_layCells _ (fun name kind cells => by cases hkc : kind == NameKind.cell <;> simp [hkc]) _ _ _ _ ?_)
  show wpAny _ _ (forIn ([] : List (Str × Value)) _ _ >>= _) _ _ _
  rw [List.forIn_nil]
  refine wpAny_bind (wpAny_pure (wpAny_pure ?_))
  have S2 := S1.newMut dict0
  generalize hC : h1.objs.size = C at S2 ⊢
  have hsz : (h1.push dict0).objs.size = C + 1 := by rw [Heap.size_push, hC]
  rw [hpc, hcf, hsz]
  have S3 := S2.newMut cell0
  rw [hsz] at S3
  have S4 := S3.newMut cell0
  have hsz2 : ((h1.push dict0).push cell0).objs.size = C + 1 + 1 := by rw [Heap.size_push, hsz]
  rw [hsz2] at S4
  generalize hH : ((h1.push dict0).push cell0).push cell0 = H at S4 ⊢
  have S5 : Sta h₀ L m ((I, { cls := .type "list_iterator", data := .fields #[.ref l, .int 0 0] }) :: (D', PySem.W.listOf (([] : List Value).toArray) 0) :: (C + 1 + 1, cell0) :: (C + 1, cell0) :: (C, dict0) :: tn) imm H := Sta.f4 (Sta.f3 S4)
  clear S1 S2 S3 S4
  have frame : ∀ i, H.IsListIter I l i ∧ H.IsList l vs.toArray → True := fun _ _ => trivial
  have hst4 : H.IsListIter I l 0 ∧ H.IsList l vs.toArray := ⟨⟨_, S5.get (.head _), rfl, rfl⟩, ⟨o, S5.get (.tail _ (.tail _ (.tail _ (.tail _ (.tail _ hlt))))), ho, k, hd⟩⟩
  have loop : ∀ tk₀, codeN (model prog w) A (.compLoop (.ListComp elt [⟨target, iter, [], 0⟩] scope pos) 0 (.ref I) (.ref D') (compEnvC scope [(y2, C + 1 + 1), (y1, C + 1)] C fenv)) (PP (.ref D') C) ⟨H, G, D, tk₀, O⟩ := by
    intro tk₀
    refine compN_loop (fun kk s' => ∃ g h' tk ys kc o1 o2 v1 v2 tn' imm' oI' i, s' = ⟨h', G, D, tk, O⟩ ∧ KtsTurn fs h₀ g ∧ Sta g L m ((I, oI') :: (D', PySem.W.listOf ys.toArray kc) :: (C + 1 + 1, o2) :: (C + 1, o1) :: (C, dict0) :: tn') imm' h' ∧ o1.data = .cell v1 ∧ o2.data = .cell v2 ∧ (h'.IsListIter I l i ∧ h'.IsList l vs.toArray) ∧ J i ys tn' imm' ∧ ys.length = i ∧ i ≤ vs.length ∧ kk = vs.length + 1 - i) ?_ (vs.length + 1)
      (exI13 ⟨rfl, KtsTurn.refl, S5, rfl, rfl, hst4, hj, rfl, Nat.zero_le _, rfl⟩)
    intro kk s' hJ0
    refine exE13 hJ0 fun g h' tk ys kc o1 o2 v1 v2 tn' imm' oI' i hz132 => ?_
    clear hJ0
    refine anE10 hz132 fun hz133 TT S' d1 d2 hst' hJ hys hi hz134 => ?_
    clear hz132
    subst hz133
    subst hz134
    by_cases hlt : i < vs.length
    · refine W.item i ⟨h', G, D, tk, O⟩ _ _ hlt hst' fun v h₁ tk₁ hP hst₁ hk₁ => ?_
      have hio := hst₁.1
      refine exE1 hio fun o₁ hz135 => ?_
      clear hio
      refine anE3 hz135 fun ho₁ hc₁ hd₁ => ?_
      clear hz135
      have S₁ := S'.turn (fun b o hb e => hk₁ b o (fun q => hb (List.mem_singleton.mp q)) e) ho₁
      refine letGo_plain ho₁ hc₁ plain_li ?_
      refine wpAny_mono (turn g I D' C i v o₁ ys kc o1 o2 v1 v2 tn' imm' h₁ tk₁ TT hP hys hJ d1 d2 S₁) (fun _ s₂ h₂ => wpN.mono h₂ (fun x s₃ h₃ => ?_) fun _ _ z => z) fun _ _ z => z
      refine exE9 h₃ fun g₅ h₅ t₅ o1₅ o2₅ v1₅ v2₅ tn₅ imm₅ hz136 => ?_
      refine anE6 hz136 fun hz137 T₅ S₅ d1₅ d2₅ J₅ => ?_
      clear hz136
      subst hz137
      refine s_append (Sta.f1 S₅) (by omega) fun h₆ S₆ => ?_
      have hl₆ := S₆.get (.tail _ (.tail _ (.tail _ (.tail _ (.tail _ (hl _ _ _ _ J₅))))))
      exact ⟨vs.length + 1 - (i + 1), Nat.sub_succ_lt_self _ _ (Nat.lt_succ_of_lt hlt), exI13 ⟨rfl, TT.trans T₅, Sta.f1 S₆, d1₅, d2₅, ⟨⟨o₁, S₆.get (.tail _ (.head _)), hc₁, hd₁⟩, ⟨o, hl₆, ho, k, hd⟩⟩, J₅, by simp [hys], hlt, rfl⟩⟩
    · have hin : i = vs.length := by omega
      subst hin
      refine W.done ⟨h', G, D, tk, O⟩ _ _ hst' fun h₁ tk₁ hk₁ => ?_
      refine done g D' C ys kc o1 o2 tn' imm' h₁ tk₁ TT hys hJ ?_
      exact S'.dropTurn hk₁
  exact codeN_compStart (loop _) (W.self 0 _ _ _ hst4 (loop _))
end

def fullN : List Int := [255, 1] ++ List.replicate 14 0
def overN : List Int := [255, 2] ++ List.replicate 14 0
def symN : List Int := (List.range 256).map fun (i : Nat) => (i : Int)
def symB : List UInt8 := obs symN
theorem sym_len : symB.length = 256 := by simp [symB, symN]
theorem ints_rep {v : Int} {u : Tok} : ∀ n, IntsAre (List.replicate n (.int v u)) (List.replicate n v)
  | 0 => .nil
  | n + 1 => .cons _ _ (ints_rep n)
abbrev thN (cs : List Int) (sy : List UInt8) : TH := ⟨0, 0, cs, sy⟩
theorem th_ok {cs : List Int} {sy : List UInt8} (h1 : cs.length ≤ 20) (h2 : sy.length ≤ 300) : (thN cs sy).ok := ⟨⟨Int.le_refl 0, show (0 : Int) ≤ 3 by decide⟩, ⟨Int.le_refl 0, show (0 : Int) ≤ 1 by decide⟩, h1, h2⟩
theorem full_fit : (thN fullN symB).fit := ⟨by decide, by show fullN.sum = (symB.length : Int); rw [sym_len]; decide, by show symB.length ≤ 256; rw [sym_len]; decide, by show ∀ c ∈ fullN, 0 ≤ c ∧ c ≤ 255; decide⟩
theorem w1 : ¬ (thN overN (symB ++ [120])).fit := fun h => by have := h.2.2.1; rw [show (thN overN (symB ++ [120])).sy = symB ++ [120] from rfl, List.length_append, sym_len] at this; exact absurd this (by decide)
theorem w2 : ¬ (thN (fullN.take 15) symB).fit := fun h => absurd h.1 (by decide)
theorem w3 : ¬ (thN (fullN ++ [0]) symB).fit := fun h => absurd h.1 (by decide)
theorem w4 : ¬ (thN ([256] ++ List.replicate 15 0) symB).fit := fun h => absurd (h.2.2.2 256 (.head _)) (by decide)
theorem w5 : ¬ (thN ([-1, 1] ++ List.replicate 14 0) []).fit := fun h => absurd (h.2.2.2 (-1) (.head _)) (by decide)
theorem rd_full : rdH ((thN fullN symB).enc) = some [(thN fullN symB).dat] := by
  have h := itr_all (step := stepH) (enc := TH.enc) (dat := TH.dat) (okT := fun t => t.ok ∧ t.fit) stepH_enc (fun t _ => by unfold TH.enc; simp) [thN fullN symB] (fun t ht => by
    rw [List.mem_singleton.mp ht]
    exact ⟨th_ok (by decide) (by rw [sym_len]; decide), full_fit⟩)
  rw [rdH_itr]
  simpa using h
theorem stepH_over {b : List UInt8} (hc : csum b 0 = 257) : stepH b = none := by
  unfold stepH
  rw [hc]
  split
  · rfl
  · split
    · rfl
    · rfl
theorem itr_none {x : UInt8} {l b : List UInt8} (hb : b = x :: l) (h : stepH b = none) : itr stepH b.length b = none := by
  subst hb
  simp [itr, h]
theorem enc_over (sy : List UInt8) : (thN overN sy).enc = 0 :: (obs overN ++ sy) := rfl
theorem csum_over (sy : List UInt8) : csum (thN overN sy).enc 0 = 257 := by
  rw [enc_over]
  unfold csum
  rw [Nat.zero_add, List.drop_succ_cons, List.drop_zero, List.take_left' (by decide)]
  decide
theorem rd_over (sy : List UInt8) : rdH ((thN overN sy).enc) = none := by
  rw [rdH_itr]
  exact itr_none (enc_over sy) (stepH_over (csum_over sy))
section
variable {prog : Program} {w : World} {A : Around} {E : Value → Shared → Prop} {Q : Value → Shared → Prop} {h₀ h : Heap} {L : Addr} {m : Str → Option Value} {tn imm : List (Addr × Obj)} {G : Array GenState} {D : Drawn} {t : Nat} {O : OsState} {l b : Addr} {vs ws : List Value} {ns ks : List Int}
theorem ints_ne (h : IntsAre vs ns) (hn : ns ≠ []) : vs ≠ [] := fun q => by subst q; cases h; exact hn rfl
/-- tuple of ints + tuple of ints -/
theorem s_addI (S : Sta h₀ L m tn imm h) (hl : (l, tupO vs) ∈ tn ++ imm) (hb : (b, tupO ws) ∈ tn ++ imm) (hv : IntsAre vs ns) (hw : IntsAre ws ks) (h1 : ns ≠ []) (h2 : ks ≠ []) (hz : ns.length + ks.length ≤ 100000) (hq : ∀ a h' us, IntsAre us (ns ++ ks) → Sta h₀ L m tn ((a, tupO us) :: imm) h' → Q (.ref a) ⟨h', G, D, t, O⟩) :
    wpAny (model prog w) A (binaryOp .Add (.ref l) (.ref b)) Q E ⟨h, G, D, t, O⟩ :=
  s_addT S hl hb (ints_ne hv h1) (ints_ne hw h2) (by rw [hv.length, hw.length]; exact hz) fun a h' S' => hq a h' _ (hv.append hw) S'
end
/-- rows that write_huffman refuses -/
def WrongRows (vs : List Value) (imm : List (Addr × Obj)) : Prop := vs.length = 5 ∧ ∀ (i : Nat) (v : Value), vs[i]? = some v → ∃ (a c : Addr) (u : Tok) (ws : List Value) (ns : List Int) (row : List UInt8), v = Value.ref a ∧ (a, tupO [Value.ref c, Value.bytes (List.toArray row) u]) ∈ imm ∧ (c, tupO ws) ∈ imm ∧ IntsAre ws ns ∧ (thN ns row).ok ∧ ¬ (thN ns row).fit
theorem nso_dict0 : NsO dict0 (fun _ => none) := ⟨_, _, rfl, (fun e he => by simp at he), fun _ => rfl⟩

section
variable {M : Model} {A : Around} {E : Value → Shared → Prop} {h₀ h : Heap} {L C : Addr} {m : Str → Option Value} {tn imm : List (Addr × Obj)} {G : Array GenState} {D : Drawn} {t : Nat} {O : OsState} {env : Env} {o : Obj} {y : Str} {v : Value}
/-- stored in a cell of any env -/
theorem g_storeC {v₀ : Option Value} {Q : Unit → Shared → Prop} (S : Sta h₀ L m ((C, o) :: tn) imm h) (hc : env.cells.lookup y = some C) (hd : o.data = .cell v₀) (hk : env.scope.kind = .function) (hx : env.kindOf y = some .cell)
    (hq : ∀ o' h', o'.data = .cell (some v) → Sta h₀ L m ((C, o') :: tn) imm h' → Q () ⟨h', G, D, t, O⟩) : wpAny M A (storeName env y v) Q E ⟨h, G, D, t, O⟩ := by
  refine wpAny_storeName_cell hk hx hc ⟨o, S.get (.head _), hd⟩ fun h' hv hs => ?_
  obtain ⟨o', ho', hd'⟩ := hv
  exact hq o' h' hd' (S.turn (fun b ob hb e => (hs.2 b hb).trans e) ho')
end
section
variable {prog : Program} {w : World} {p : Program} {loose : List Str} {mean : ExcName → Option Value} {mg mb : Str → Option Value} {A₀ : Around} {base h₀ h : Heap} {outer : List Env} {env : Env} {L : Addr} {m : Str → Option Value} {tn imm : List (Addr × Obj)} {G : Array GenState} {D : Drawn} {t : Nat} {O : OsState}
  {Q E : Value → Shared → Prop} {ps : Array Value}
/-- _law_counts_right() -/
theorem c_counts (Z : Act w p loose mean mg mb A₀ base h₀ outer env L m ((290, tabObj ps) :: tn) imm h 20) (HC : CodeHd base 292 290) (TB : Tab (lamQ "_law_counts_right") ps imm)
    (hQ : ∀ h₀' ps' imm' h' t', KtsTurn (fsO outer) h₀ h₀' → (∀ q ∈ imm, q ∈ imm') → Sta h₀' L m ((290, tabObj ps') :: tn) imm' h' → Q (.bool true) ⟨h', G, D, t', O⟩) :
    wpN (model prog w) (A₀.deeper env) (call (.ref 293) []) Q E ⟨h, G, D, t, O⟩ := by
  refine' callNTC (binds := []) Z ?k1 ?k2 ?k3 ?k4 ?k5 ?k6 ?k7 ?k8 ?_
  case k1 => k_is
  case k2 => k_is
  case k3 => exact rfl
  case k4 => intro n x hx; cases hx
  case k5 => decide
  case k6 => exact rfl
  case k7 => exact rfl
  case k8 => exact rfl
  intro g L' h₁ t₁ cells Y lt C F N D₀ R
  obtain ⟨o3, o2, o1, rfl, d3, d2, d1⟩ := PyProof.Rows.CellsAre.three Y
  have S : Sta g L' (fun z => none) ((L' + 1 + 1 + 1, o3) :: (L' + 1 + 1, o2) :: (L' + 1, o1) :: (290, tabObj ps) :: tn) imm h₁ := ⟨F, N, sep_c3 lt D₀ (Nat.lt_succ_of_lt (Nat.lt_succ_of_lt (Nat.lt_succ_self _))) (Nat.lt_succ_of_lt (Nat.lt_succ_self _)) (Nat.lt_succ_self _) (Nat.ne_of_lt (Nat.lt_succ_self _)) (Nat.ne_of_lt (Nat.lt_succ_of_lt (Nat.lt_succ_self _))) (Nat.ne_of_lt (Nat.lt_succ_self _))⟩
  clear F N D₀ lt Y
  with_reducible refine absQN fun Q₁ hQ₁ => ?_
  repeat walk_at "n"
  refine s_mulT (x := 14) (by assumption) (by walk_at "mem") (by decide) (by decide) fun a1 h S1 => ?_
  repeat walk_at "n"
  refine s_addI (by assumption) (by walk_at "mem") (by walk_at "mem") (.cons 255 _ (.cons 1 _ .nil)) (ints_rep (v := 0) 14) (by simp) (by simp) (by simp) fun fa h vsF hF S2 => ?_
  repeat walk_at "n"
  refine s_mulT (x := 14) (by assumption) (by walk_at "mem") (by decide) (by decide) fun a1 h S3 => ?_
  repeat walk_at "n"
  refine s_addI (by assumption) (by walk_at "mem") (by walk_at "mem") (.cons 255 _ (.cons 2 _ .nil)) (ints_rep (v := 0) 14) (by simp) (by simp) (by simp) fun oa h vsO hO S4 => ?_
  repeat walk_at "n"
  refine s_storeC (Sta.f1 (by assumption)) rfl d2 rfl rfl fun o4 h d4 S5 => ?_
  clear d2 S S1 S2 S3 S4
  replace S5 := S5.mono (imm' := (fa, tupO vsF) :: (oa, tupO vsO) :: imm) (List.forall_mem_cons.2 ⟨by walk_at "mem", List.forall_mem_cons.2 ⟨by walk_at "mem", fun q hq => by repeat (first | exact hq | refine List.Mem.tail _ ?_)⟩⟩)
  repeat walk_at "n"
  refine s_bytesR (n := 256) rfl (by assumption) (by walk_at "mem") (by decide) R.hd fun h t u S6 => ?_
  repeat walk_at "n"
  refine s_storeC (Sta.f1 S6) rfl d3 rfl rfl fun o5 h d5 S7 => ?_
  clear d3 S5 S6
  have d5 : o5.data = .cell (some (.bytes symB.toArray _)) := d5
  repeat walk_at "n"
  refine s_addI (by assumption) (by walk_at "mem") (by walk_at "mem") (.cons 0 _ .nil) hF (by simp) (by simp) (by simp) fun za h vsZ hZ S8 => ?_
  repeat walk_at "n"
  refine s_bytesT (by assumption) (by walk_at "mem") hZ (by decide) (by rw [hZ.length]; decide) R.hd fun h t k9 S9 => ?_
  repeat walk_at "n"
  refine o_catb (by rw [sym_len]; simp) fun t' k' => ?_
  have e : obs ([0] ++ fullN) ++ symB = (thN fullN symB).enc := rfl
  repeat walk_at "n"
  refine s_storeC (Sta.f2 S9) rfl d1 rfl rfl fun o6 h d6 S10 => ?_
  clear d1 S7 S8 S9
  have d6 : o6.data = .cell (some (.bytes (thN fullN symB).enc.toArray _)) := d6
  replace S10 := S10.f3.mono (imm' := (fa, tupO vsF) :: (oa, tupO vsO) :: imm) (List.forall_mem_cons.2 ⟨by walk_at "mem", List.forall_mem_cons.2 ⟨by walk_at "mem", fun q hq => by repeat (first | exact hq | refine List.Mem.tail _ ?_)⟩⟩)
  obtain ⟨T, hT⟩ : ∃ T, T = (L' + 1, o6) :: (L' + 1 + 1 + 1, o5) :: (L' + 1 + 1, o4) :: tn := ⟨_, rfl⟩
  have hT6 : (L' + 1, o6) ∈ T := by rw [hT]; exact .head _
  have hT5 : (L' + 1 + 1 + 1, o5) ∈ T := by rw [hT]; exact .tail _ (.head _)
  have hT4 : (L' + 1 + 1, o4) ∈ T := by rw [hT]; exact .tail _ (.tail _ (.head _))
  rw [← hT] at S10
  refine rn_ifL (n_or ?_)
  refine n_cmp (en_call ?_) rfl
  repeat walk_at "n"
  rename_i tp htp STP lp hlp SLP
  refine c_write_huff (ts := [thN fullN symB]) ⟨C, SLP.freeze, rfl, rfl, R.le (by decide)⟩ (.head _) rfl rfl (.one (.tuple (.tail _ (.head _)) (.cons (.int _ _) (.cons (.int _ _) (.cons (.tuple (.tail _ (.tail _ (.head _))) (datAll_ints hF)) (.cons (.bytes _ _) .nil)))))) (fun t ht => by rw [List.mem_singleton.mp ht]; exact th_ok (by decide) (by rw [sym_len]; decide)) (by simp) (fun _ h t u S => ?_) (fun hn => absurd (fun t ht => by rw [List.mem_singleton.mp ht]; exact full_fit) hn)
  clear STP SLP S10
  repeat walk_at "m"
  refine PySem.W.ne_bytes ?_
  have neq : ((([thN fullN symB].flatMap TH.enc)).toArray.toList != (thN fullN symB).enc.toArray.toList) = false := by simp
  rw [neq]
  repeat walk_at "m"
  refine ⟨fun z => Bool.noConfusion z, fun _ => ?_⟩
  refine n_or1 ?_
  refine n_cmp (en_call ?_) rfl
  repeat walk_at "n"
  refine s_lambda C S (TB.mono fun q hq => .tail _ (.tail _ (.tail _ (.tail _ hq)))) HC rfl rfl rfl rfl rfl fun f c' ctv ps1 immF h t S hsubF TB1 RC => ?_
  repeat walk_at "n"
  refine c_heard (ok := True) (RR := fun v tn' imm' => ∃ fl vs0 k0, v = .ref fl ∧ tn' = (fl, PySem.W.listOf vs0.toArray k0) :: (290, tabObj ps1) :: T ∧ (∀ q ∈ immF, q ∈ imm') ∧ DatAll imm' vs0 [(thN fullN symB).dat]) (n := 18) ⟨C, S, rfl, rfl, R.le (by decide)⟩ (by walk_at "mem") rfl ?_ ?_ (fun hn => absurd trivial hn)
  · intro A₁ base₁ h₂ h₃ outer₁ env₁ L₁ m₁ t₂ Q₁ E₁ Z₁ hq1 hq2
    refine wpN.call ?_
    refine lamN (cls := .ref 44) (NE := Kept (¬ True) _) Z₁.C Z₁.S Z₁.hf Z₁.hk Z₁.C.frames Z₁.R (List.mem_append_right _ (.head _)) ((RC.mono fun q hq => .tail _ hq).code Z₁.S) rfl (locs rfl) (by decide) rfl rfl rfl (fun e h' tk news' hk T => hq2 hk.1 e h' tk (T.sub hk.2)) ?_
    intro g₅ L₅ h₅ t₅ Z'
    have C₅ := Z'.C
    have S₅ := Z'.S
    have hf₅ := Z'.hf
    have hk₅ := Z'.hk
    have R₅ := Z'.R
    clear C S
    refine wpN.of (e_call ?_)
    repeat walk_at "m"
    refine c_read_huff (by walk_at "act") (by show ((ob (0 * 16 + 0) :: obs fullN) ++ symB).length ≤ 1000; rw [List.length_append, sym_len]; decide) (fun ds hds fl vs0 k0 imm4 h t hsub4 hD4 S => ?_) (fun hn e h tk T => ?_)
    · have h1 := rd_full
      rw [rdH, hds] at h1
      cases h1
      exact Back.mk S fun S => hq1 trivial _ _ _ _ _ (exI3 ⟨rfl, rfl, fun q hq => hsub4 _ (.tail _ hq), hD4⟩) S
    · have h1 := rd_full
      rw [rdH, hn] at h1
      cases h1
  intro _ g1 v tn' imm1 h t T1 hJ S1
  refine exE3 hJ fun fl vs0 k0 hz138 => ?_
  clear hJ
  refine anE4 hz138 fun hv htn hsubR hDR => ?_
  clear hz138
  subst hv htn
  have C1 := C.turn T1
  clear C S
  have hfa : (fa, tupO vsF) ∈ imm1 := hsubR _ (hsubF _ (.tail _ (.tail _ (.head _))))
  repeat walk_at "m"
  rename_i tp htp ST el hel SL
  refine s_neD (ds := [(thN fullN symB).dat]) (I := imm1) (I' := (tp, _) :: imm1) (s_list SL (.tail _ (.head _)) rfl rfl) (s_list SL (.head _) rfl rfl) (fun q hq => SL.get (List.mem_append_right _ (.tail _ hq))) (fun q hq => SL.get (List.mem_append_right _ hq)) hDR (.one (.tuple (.head _) (.cons (.int _ _) (.cons (.int _ _) (.cons (.tuple (.tail _ hfa) (datAll_ints hF)) (.cons (.bytes _ _) .nil)))))) ?_ R.u64 ?_
  · intro d hd
    rw [List.mem_singleton.mp hd]
    simp [dep, TH.dat, hDat]
  repeat walk_at "m"
  refine ⟨fun z => Bool.noConfusion z, fun _ => ?_⟩
  have hoa : (oa, tupO vsO) ∈ imm1 := hsubR _ (hsubF _ (.tail _ (.tail _ (.tail _ (.head _)))))
  have hsub1 : ∀ q ∈ imm, q ∈ imm1 := fun q hq => hsubR _ (hsubF _ (.tail _ (.tail _ (.tail _ (.tail _ hq)))))
  have TB1 := TB1.mono hsubR
  have S2 := SL.drop.drop.mono (imm' := imm1) fun q hq => .tail _ hq
  clear S1 ST SL hDR hsubR hsubF RC
  refine rn_ifL (n_cmp (en_call ?_) rfl)
  repeat walk_at "n"
  refine s_lambda C1 S2 TB1 HC rfl rfl rfl rfl rfl fun f c' ctv ps2 immF h t S hsubF TB2 RC => ?_
  have hoa2 := hsubF _ hoa
  repeat walk_at "n"
  refine c_heard (ok := False) (RR := fun v tn' imm' => False) (n := 18) ⟨C1, S, rfl, rfl, R.le (by decide)⟩ (by walk_at "mem") rfl ?_ (fun hn => hn.elim) ?_
  · intro A₁ base₁ h₂ h₃ outer₁ env₁ L₁ m₁ t₂ Q₁ E₁ Z₁ hq1 hq2
    refine wpN.call ?_
    refine lamN (cls := .ref 44) (NE := Kept (¬ False) _) Z₁.C Z₁.S Z₁.hf Z₁.hk Z₁.C.frames Z₁.R (List.mem_append_right _ (.head _)) ((RC.mono fun q hq => .tail _ hq).code Z₁.S) rfl (locs rfl) (by decide) rfl rfl rfl (fun e h' tk news' hk T => hq2 hk.1 e h' tk (T.sub hk.2)) ?_
    intro g₅ L₅ h₅ t₅ Z'
    have C₅ := Z'.C
    have S₅ := Z'.S
    have hf₅ := Z'.hf
    have hk₅ := Z'.hk
    have R₅ := Z'.R
    clear C1 S S2
    refine wpN.of (e_call ?_)
    repeat walk_at "m"
    refine s_addI (by assumption) (by walk_at "mem") (by walk_at "mem") (.cons 0 _ .nil) hO (by simp) (by simp) (by simp) fun zb h vsY hY S8 => ?_
    repeat walk_at "m"
    refine s_bytesT S8 (by walk_at "mem") hY (by decide) (by rw [hY.length]; decide) R₅.hd fun h t k9 S9 => ?_
    repeat walk_at "m"
    refine o_catb (by rw [sym_len]; simp) fun t' k' => ?_
    repeat walk_at "m"
    refine o_catb (by rw [List.length_append, sym_len]; simp) fun t' k' => ?_
    have e2 : (obs ([0] ++ ([255, 2] ++ List.replicate 14 0)) ++ symB) ++ [120] = (thN overN (symB ++ [120])).enc := List.append_assoc _ _ _
    rw [e2]
    have hrd := rd_over (symB ++ [120])
    repeat walk_at "m"
    refine c_read_huff ⟨C₅, S9, rfl, rfl, R₅.le (by decide)⟩ (by rw [← e2, List.length_append, List.length_append, sym_len]; decide) (fun ds hds fl vs0 k0 imm4 h t hsub4 hD4 S => ?_) (fun hn e h tk T => Flew.of T (fun z => z) (sub2 (fun q hq => hq) (fun q hq => .tail _ (.tail _ hq))))
    · rw [rdH, hds] at hrd
      cases hrd
  intro _ g2 u h t T2 S2'
  have C2 := C1.turn T2
  clear C1 S S2
  repeat walk_at "m"
  refine SeqAt.RcNeAt.str_str "refused" u "refused" _ prog w _ _ ?_
  have e : (!(("refused" : Str) == "refused")) = false := by decide
  rw [e]
  repeat walk_at "m"
  refine ⟨fun z => Bool.noConfusion z, fun _ => ?_⟩
  have hfa2 := hsubF _ hfa
  have hsub2 : ∀ q ∈ imm, q ∈ immF := fun q hq => hsubF _ (hsub1 q hq)
  replace S2' := S2'.mono (imm' := immF) fun q hq => .tail _ hq
  clear hsubF RC TB1 hsub1 hfa hoa
  repeat walk_at "n"
  refine o_catb (by rw [sym_len]; simp) fun t' k' => ?_
  repeat walk_at "n"
  refine s_uptoT (k := 15) (by assumption) (List.mem_append_right _ (.tail _ hfa2)) (by rw [hF.length]; decide) (by rw [hF.length]; decide) (fun ua h SU => ?_) (fun _ => by with_unfolding_all rfl) (fun _ => by with_unfolding_all rfl)
  repeat walk_at "n"
  refine s_addI (by assumption) (by walk_at "mem") (by walk_at "mem") hF (.cons 0 _ .nil) (by simp) (by simp) (by simp) fun xa h vsX hX SX => ?_
  repeat walk_at "n"
  refine s_mulT (x := 15) (by assumption) (by walk_at "mem") (by decide) (by decide) fun a1 h S1 => ?_
  repeat walk_at "n"
  refine s_addI (by assumption) (by walk_at "mem") (by walk_at "mem") (.cons 256 _ .nil) (ints_rep (v := 0) 15) (by simp) (by simp) (by simp) fun ya h vsY hY SY => ?_
  repeat walk_at "n"
  refine s_mulT (x := 14) (by assumption) (by walk_at "mem") (by decide) (by decide) fun a1 h S1 => ?_
  repeat walk_at "m"
  refine s_addI (by assumption) (by walk_at "mem") (by walk_at "mem") (.cons (-1) _ (.cons 1 _ .nil)) (ints_rep (v := 0) 14) (by simp) (by simp) (by simp) fun wa h vsW hW SW => ?_
  repeat walk_at "m"
  rename_i wl hwl SWL hE SE
  clear SU SX SY SW S1 SWL
  replace SE := SE.freeze
  have hIU : IntsAre (vsF.take 15) (fullN.take 15) := hF.take 15
  have ho1 : (thN (fullN.take 15) symB).ok := th_ok (by decide) (by rw [sym_len]; decide)
  have ho2 : (thN overN (symB ++ [120])).ok := th_ok (by decide) (by rw [List.length_append, sym_len]; decide)
  have ho3 : (thN (fullN ++ [0]) symB).ok := th_ok (by decide) (by rw [sym_len]; decide)
  have ho4 : (thN ([256] ++ List.replicate 15 0) symB).ok := th_ok (by decide) (by rw [sym_len]; decide)
  have ho5 : (thN ([-1, 1] ++ List.replicate 14 0) []).ok := th_ok (by decide) (by decide)
  have hob : ∃ vsW immW, Sta g2 L' (upd (upd (fun _ => none) "full" (.ref fa)) "wrong" (.ref wl)) ((290, tabObj ps2) :: T) immW hE ∧ WrongRows vsW immW ∧ (wl, lstO vsW) ∈ immW ∧ (∀ q ∈ immF, q ∈ immW) := by
    refine exI2 ⟨SE, ⟨rfl, ?_⟩, .head _, fun q hq => by repeat (first | exact hq | refine List.Mem.tail _ ?_)⟩
    rintro (_ | _ | _ | _ | _ | i) v hv
    · cases hv
      exact exI6 (x4 := overN) (x5 := symB ++ [120]) ⟨rfl, by walk_at "mem", by walk_at "mem", hO, ho2, w1⟩
    · cases hv
      exact exI6 (x4 := fullN.take 15) (x5 := symB) ⟨rfl, by walk_at "mem", by walk_at "mem", hIU, ho1, w2⟩
    · cases hv
      exact exI6 (x4 := fullN ++ [0]) (x5 := symB) ⟨rfl, by walk_at "mem", by walk_at "mem", hX, ho3, w3⟩
    · cases hv
      exact exI6 (x4 := [256] ++ List.replicate 15 0) (x5 := symB) ⟨rfl, by walk_at "mem", by walk_at "mem", hY, ho4, w4⟩
    · cases hv
      exact exI6 (x4 := [-1, 1] ++ List.replicate 14 0) (x5 := []) ⟨rfl, by walk_at "mem", by walk_at "mem", hW, ho5, w5⟩
    · simp at hv
  clear ho1 ho2 ho3 ho4 ho5 hO hIU hX hY hW hF hoa2 hfa2 S S1 S2' SE
  refine exE2 hob fun vsW immW hz139 => ?_
  clear hob
  refine anE4 hz139 fun SE hz140 hml hsubW => ?_
  clear hz139
  refine anE2 hz140 fun hWl hrow => ?_
  clear hz140
  refine rn_retN (en_cmp (en_comp rfl rfl (by decide) (fun _ => rfl) ?_) rfl)
  walk_at "m"
  refine compN_list (fs := fsO (env :: outer)) (vs := vsW) (y1 := "counts") (y2 := "row") R.hd (fun i ys tn' imm' => (∃ psx, tn' = (290, tabObj psx) :: T ∧ Tab (lamQ "_law_counts_right") psx imm') ∧ (∀ q ∈ immW, q ∈ imm') ∧ DatAll imm' ys (List.replicate i (.str "refused")))
    rfl rfl (fun i ys tn' imm' hJ => List.mem_append_right _ (hJ.2.1 _ hml)) (by omega) (fun _ => rfl) (fun _ => rfl) SE ⟨⟨ps2, rfl, TB2.mono hsubW⟩, fun q hq => hq, .nil⟩ ?_ ?_
  · intro g9 I D' Cc i v oI ys k8 c1 c2 v1 v2 tn9 imm9 h9 t9 TT hv hys hJ dd1 dd2 S9
    with_reducible refine absCN fun Q₃ hQ₃ => ?_
    refine anE3 hJ fun hz141 hsub9 hD9 => ?_
    clear hJ
    refine exE1 hz141 fun psx hz142 => ?_
    clear hz141
    refine anE2 hz142 fun hz143 TBx => ?_
    clear hz142
    subst hz143
    have hq9 := hrow i v hv
    refine exE6 hq9 fun a c ur ws ns row hz144 => ?_
    clear hq9
    refine anE6 hz144 fun hz145 ha hc hI hok hnf => ?_
    clear hz144
    subst hz145
    have ha := hsub9 _ ha
    have hc := hsub9 _ hc
    have C9 := C2.turn TT
    clear C2 SE
    repeat walk_at "m"
    refine g_storeC (Sta.f3 (by assumption)) rfl dd1 rfl rfl fun c1' h dd1' S => ?_
    repeat walk_at "m"
    refine g_storeC (Sta.f3 S) rfl dd2 rfl rfl fun c2' h dd2' S => ?_
    clear S9 dd1 dd2
    repeat walk_at "m"
    refine en_call ?_
    repeat walk_at "n"
    refine s_lambda C9 S.f5 TBx HC rfl rfl rfl rfl rfl fun f c' ctv ps3 immG h t S hsubG TB3 RC => ?_
    have ha := hsubG _ ha
    have hc := hsubG _ hc
    repeat walk_at "n"
    refine c_heard (ok := False) (RR := fun v tn' imm' => False) (n := 18) ⟨C9, S, rfl, rfl, R.le (by decide)⟩ (by walk_at "mem") rfl ?_ (fun hn => hn.elim) ?_
    · intro A₁ base₁ h₂ h₃ outer₁ env₁ L₁ m₁ t₂ Q₁ E₁ Z₁ hq1 hq2
      refine wpN.call ?_
      refine lamN (cls := .ref 44) (NE := Kept (¬ False) _) Z₁.C Z₁.S Z₁.hf Z₁.hk Z₁.C.frames Z₁.R (List.mem_append_right _ (.head _)) ((RC.mono fun q hq => .tail _ hq).code Z₁.S) rfl (locs rfl) (by decide) rfl rfl rfl (fun e h' tk news' hk T => hq2 hk.1 e h' tk (T.sub hk.2)) ?_
      intro g₅ L₅ h₅ t₅ Z'
      have C₅ := Z'.C
      have S₅ := Z'.S
      have hf₅ := Z'.hf
      have hk₅ := Z'.hk
      have R₅ := Z'.R
      clear C9 S
      refine en_call ?_
      repeat walk_at "n"
      rename_i tp htp STP lp hlp SLP
      refine c_write_huff (ts := [thN ns row]) ⟨C₅, SLP.freeze, rfl, rfl, R₅.le (by decide)⟩ (.head _) rfl rfl (.one (.tuple (.tail _ (.head _)) (.cons (.int _ _) (.cons (.int _ _) (.cons (.tuple (.tail _ (.tail _ (.tail _ hc))) (datAll_ints hI)) (.cons (.bytes _ _) .nil)))))) (fun t ht => by rw [List.mem_singleton.mp ht]; exact hok) (by simp) (fun hall => absurd (hall _ (.head _)) hnf) (fun _ e h tk T => Flew.of T (fun z => z) (sub2 (fun q hq => hq) (fun q hq => .tail _ (.tail _ hq))))
    · intro _ g10 u h t T10 S'
      refine hQ₃.to (CompEndT.mk T10 S'.f5.f3.f3.f5.f5 dd1' dd2' ⟨⟨ps3, rfl, TB3.mono fun q hq => .tail _ hq⟩, fun q hq => .tail _ (hsubG _ (hsub9 _ hq)), ?_⟩)
      rw [List.replicate_succ']
      exact (hD9.mono fun q hq => .tail _ (hsubG _ hq)).append (.one (.str _ _))
  · intro g9 D' Cc ys k8 c1 c2 tn9 imm9 h9 t9 TT hys hJ S9
    refine anE3 hJ fun hz146 hsub9 hD9 => ?_
    clear hJ
    refine exE1 hz146 fun psx hz147 => ?_
    clear hz146
    refine anE2 hz147 fun hz148 TBx => ?_
    clear hz147
    subst hz148
    refine ⟨rfl, comp_post nso_dict0 S9.f3.f1 fun h S => ?_⟩
    clear S9
    rw [hWl] at hD9
    repeat walk_at "m"
    refine s_mul1 (x := 5) (by assumption) (.head _) (by decide) fun rl h SR => ?_
    refine s_eqD (ds := List.replicate 5 (.str "refused")) (I := imm9) (I' := imm9) (s_list SR (.tail _ (.tail _ (.head _))) rfl rfl) (s_list SR (.head _) rfl rfl) (fun q hq => SR.get (List.mem_append_right _ hq)) (fun q hq => SR.get (List.mem_append_right _ hq)) hD9 (.cons (.str _ _) (.cons (.str _ _) (.cons (.str _ _) (.cons (.str _ _) (.cons (.str _ _) .nil))))) ?_ R.u64 ?_
    · intro d hd
      rw [(List.mem_replicate.mp hd).2]
      rfl
    repeat walk_at "m"
    refine hQ₁ _ _ (BackT.mk ((T1.trans T2).trans TT) SR fun h₀' T₀ S₀ => ?_)
    subst hT
    refine hQ _ _ _ _ _ T₀ (fun q hq => hsub9 _ (hsubW _ (hsub2 _ hq))) S₀.drop.drop.drop.drop.drop.d1.d1.d1
end

/-- a Jfif's dict -/
abbrev jfE (P : Params) (a b c d e : Value) (t1 t2 t3 t4 t5 : Tok) : List DictEntry := [⟨PyData.keyHash P "major", .str "major" t1, a⟩, ⟨PyData.keyHash P "minor", .str "minor" t2, b⟩, ⟨PyData.keyHash P "units", .str "units" t3, c⟩, ⟨PyData.keyHash P "across", .str "across" t4, d⟩, ⟨PyData.keyHash P "down", .str "down" t5, e⟩]
abbrev jfO (P : Params) (a b c d e : Value) (t1 t2 t3 t4 t5 : Tok) : Obj := dictOf (jfE P a b c d e t1 t2 t3 t4 t5) 5
/-- what check_jfif lets pass -/
def okJ (a b c d e : Int) : Prop := (0 ≤ a ∧ a ≤ 255) ∧ (0 ≤ b ∧ b ≤ 255) ∧ (0 ≤ c ∧ c ≤ 2) ∧ (1 ≤ d ∧ d ≤ 65535) ∧ (1 ≤ e ∧ e ≤ 65535)
section
variable {prog : Program} {w : World} {p : Program} {loose : List Str} {mean : ExcName → Option Value} {mg mb : Str → Option Value} {A₀ : Around} {base h₀ h : Heap} {outer : List Env} {env : Env} {L : Addr} {m : Str → Option Value} {tn imm : List (Addr × Obj)} {n : Nat} {G : Array GenState} {D : Drawn} {t : Nat} {O : OsState}
  {Q E : Value → Shared → Prop} {A : Around} {x dx : Addr} {a b c d e : Int} {ua ub uc ud ue t1 t2 t3 t4 t5 : Tok}
/-- Jfif(major, minor, units, across, down) -/
theorem c_jfif {a b c d e : Value} (Z : Act w p loose mean mg mb A₀ base h₀ outer env L m tn imm h 4)
    (hQ : ∀ x dx h' t' t1 t2 t3 t4 t5, Sta h₀ L m tn ((dx, jfO w.params a b c d e t1 t2 t3 t4 t5) :: (x, instObj 143 dx) :: imm) h' → Q (.ref x) ⟨h', G, D, t', O⟩) :
    wpAny (model prog w) (A₀.deeper env) (call (.ref 143) [a, b, c, d, e]) Q E ⟨h, G, D, t, O⟩ := by
  refine call_cls (s := ⟨h, G, D, t, O⟩) (K := KH w.params) Z.S.F Z.C.X Z.S.N (by kernel_rfl) (fI := 140) (by kernel_rfl) (by kernel_rfl) fun x dx h F N l1 l2 => ?_
  have hR : Room ((A₀.deeper env).under (.builtin "type.__call__" ⟨[.ref 143, a, b, c, d, e], []⟩)) 3 := Z.R.under (Nat.le_of_ble_eq_true (by kernel_rfl)) (Nat.le_of_ble_eq_true (by kernel_rfl))
  have S : Sta h₀ L m ((dx, dictOf [] 0) :: tn) ((x, instObj 143 dx) :: imm) h := by
    have S1 : Sta h₀ L m ((x, instObj 143 dx) :: (dx, dictOf [] 0) :: tn) imm h := ⟨F, N, fun p hp => by
      rcases List.mem_cons.mp hp with rfl | hp
      · exact Nat.ne_of_lt l2
      · exact Nat.ne_of_lt (Nat.lt_trans (l1 p hp) l2), fun p hp => Nat.ne_of_lt (l1 p hp), Z.S.D⟩
    exact S1.freeze
  refine' codeK0 (binds := [("self", .ref x), ("major", a), ("minor", b), ("units", c), ("across", d), ("down", e)]) (t := t) Z.C S Z.hf Z.hk Z.C.frames hR ?k1 ?k2 ?k3 ?k4 ?k5 ?k6 ?k7 ?k8 ?_
  case k1 => k_is
  case k2 => k_is
  case k3 => exact rfl
  case k4 => exact locs rfl
  case k5 => decide
  case k6 => exact rfl
  case k7 => exact rfl
  case k8 => exact rfl
  intro g L' h₁ t₁ Z'
  have C := Z'.C
  have S := Z'.S
  have R := Z'.R
  repeat walk_at "m"
  refine r_nil ?_
  walk_at "back"
  exact fun S => ⟨rfl, hQ x dx _ _ _ _ _ _ _ S.freeze⟩
/-- check_jfif(jfif) -/
theorem c_check (Z : Act w p loose mean mg mb A₀ base h₀ outer env L m tn imm h 6) (hx : (x, instObj 143 dx) ∈ imm) (hd : (dx, jfO w.params (.int a ua) (.int b ub) (.int c uc) (.int d ud) (.int e ue) t1 t2 t3 t4 t5) ∈ imm)
    (hQ : okJ a b c d e → ∀ h' t', Sta h₀ L m tn imm h' → Q .none ⟨h', G, D, t', O⟩)
    (hE : ¬ okJ a b c d e → ∀ e h' tk, Thrown base h₀ env outer L (.ref 44) (tn ++ imm) e h' → E e ⟨h', G, D, tk, O⟩) :
    wpAny (model prog w) (A₀.deeper env) (call (.ref 154) [.ref x]) Q E ⟨h, G, D, t, O⟩ := by
  refine' callA (cls := .ref 44) (NE := Kept (¬ okJ a b c d e) (tn ++ imm)) (binds := [("jfif", .ref x)]) Z ?k1 ?k2 ?k3 ?k4 ?k5 ?k6 ?k7 ?k8 (fun e h' tk news' hk T => hE hk.1 e h' tk (T.sub hk.2)) ?_
  case k1 => k_is
  case k2 => k_is
  case k3 => exact rfl
  case k4 => exact locs rfl
  case k5 => decide
  case k6 => exact rfl
  case k7 => exact rfl
  case k8 => exact rfl
  intro g L' h₁ t₁ Z'
  have C := Z'.C
  have S := Z'.S
  have R := Z'.R
  repeat' (first | walk_at "m" | walk_at "nb" | walk_at "br")
  all_goals first
    | (refine r_segF (by walk_at "act") rfl ?_ (fun q hq => hq); unfold okJ; walk_at "ar")
    | (refine r_nil ?_; walk_at "back"; refine fun S => hQ ?_ _ _ S; unfold okJ; walk_at "ar")
end

def jname : List UInt8 := [74, 70, 73, 70, 0]
/-- what read_jfif lets pass, of octets that open with the name -/
def okR (b : List UInt8) : Prop := 14 ≤ b.length ∧ okJ (oct (b.drop 5) 0) (oct (b.drop 5) 1) (oct (b.drop 5) 2) (oct (b.drop 5) 3 * 256 + oct (b.drop 5) 4) (oct (b.drop 5) 5 * 256 + oct (b.drop 5) 6) ∧ ((b.drop 5).length : Int) - 9 = 3 * (oct (b.drop 5) 7 * oct (b.drop 5) 8)
theorem e_none {M : Model} {A : Around} {E : Value → Shared → Prop} {env : Env} {s : Shared} {k : Nat} {pos : Pos} {Q : Value → Shared → Prop} (h : Q .none s) : wpAny M A (eval (.Constant .none k pos) env) Q E s := wpAny_pure h
section
variable {prog : Program} {w : World} {p : Program} {loose : List Str} {mean : ExcName → Option Value} {mg mb : Str → Option Value} {A₀ : Around} {base h₀ h : Heap} {outer : List Env} {env : Env} {L : Addr} {m : Str → Option Value} {tn imm : List (Addr × Obj)} {n : Nat} {G : Array GenState} {D : Drawn} {t : Nat} {O : OsState}
  {Q E : Value → Shared → Prop} {A : Around} {x dx : Addr} {a b c d e : Int} {ua ub uc ud ue t1 t2 t3 t4 t5 : Tok}
/-- write_jfif(jfif) -/
theorem c_write_jfif (Z : Act w p loose mean mg mb A₀ base h₀ outer env L m tn imm h 8) (hx : (x, instObj 143 dx) ∈ imm) (hd : (dx, jfO w.params (.int a ua) (.int b ub) (.int c uc) (.int d ud) (.int e ue) t1 t2 t3 t4 t5) ∈ imm)
    (hQ : okJ a b c d e → ∀ bs h' t' u, Sta h₀ L m tn imm h' → Q (.bytes (List.toArray bs) u) ⟨h', G, D, t', O⟩)
    (hE : ¬ okJ a b c d e → ∀ e h' tk, Thrown base h₀ env outer L (.ref 44) (tn ++ imm) e h' → E e ⟨h', G, D, tk, O⟩) :
    wpAny (model prog w) (A₀.deeper env) (call (.ref 168) [.ref x]) Q E ⟨h, G, D, t, O⟩ := by
  refine' callA (cls := .ref 44) (NE := Kept (¬ okJ a b c d e) (tn ++ imm)) (binds := [("jfif", .ref x)]) Z ?k1 ?k2 ?k3 ?k4 ?k5 ?k6 ?k7 ?k8 (fun e h' tk news' hk T => hE hk.1 e h' tk (T.sub hk.2)) ?_
  case k1 => k_is
  case k2 => k_is
  case k3 => exact rfl
  case k4 => exact locs rfl
  case k5 => decide
  case k6 => exact rfl
  case k7 => exact rfl
  case k8 => exact rfl
  intro g L' h₁ t₁ Z'
  have C := Z'.C
  have S := Z'.S
  have R := Z'.R
  have hf := Z'.hf
  have hk := Z'.hk
  with_reducible refine absF C hf hk fun Q₁ E₁ hQ₁ hE₁ _ => ?_
  repeat walk_at "m"
  refine c_check (by walk_at "act") hx hd (fun hok h t S => ?_) (fun hno e h tk T => Flew.by hE₁ T hno fun q hq => hq)
  have hok' := hok
  refine anE6 hok fun hz149 hz150 hz151 hz152 he0 he1 => ?_
  clear hok
  refine anE2 hz149 fun ha0 ha1 => ?_
  clear hz149
  refine anE2 hz150 fun hb0 hb1 => ?_
  clear hz150
  refine anE2 hz151 fun hc0 hc1 => ?_
  clear hz151
  refine anE2 hz152 fun hd0 hd1 => ?_
  clear hz152
  repeat walk_at "m"
  refine s_bytesL (by assumption) (by walk_at "mem") rfl rfl (.cons a _ (.cons b _ (.cons c _ .nil))) (by intro n hn; simp only [List.mem_cons, List.not_mem_nil, or_false] at hn; omega) (by simp) R.hd fun h t k S => ?_
  repeat walk_at "m"
  refine o_catb (x := jname) (by simp [jname]) fun t' k' => ?_
  repeat walk_at "m"
  refine c_wordf (by walk_at "act") (by omega) hd1 fun h t v S => ?_
  repeat walk_at "m"
  refine o_catb (by simp [jname]) fun t' k' => ?_
  repeat walk_at "m"
  refine c_wordf (by walk_at "act") (by omega) he1 fun h t v S => ?_
  repeat walk_at "m"
  refine o_catb (by simp [jname]) fun t' k' => ?_
  repeat walk_at "m"
  refine bytes_int (n := 2) (by decide) fun t' k' => ?_
  repeat walk_at "m"
  refine o_catb (y := [0, 0]) (by simp [jname]) fun t' k' => ?_
  walk_at "back"
  exact fun S => hQ hok' _ _ _ _ S.drop
/-- read_jfif(payload) -/
theorem c_read_jfif {b : List UInt8} {tb : Tok} (Z : Act w p loose mean mg mb A₀ base h₀ outer env L m tn imm h 10) (hb : b.length ≤ 1000)
    (hN : b.take 5 ≠ jname → ∀ h' t', Sta h₀ L m tn imm h' → Q .none ⟨h', G, D, t', O⟩)
    (hQ : b.take 5 = jname → okR b → ∀ x dx imm' h' t', (∀ q ∈ imm, q ∈ imm') → (x, instObj 143 dx) ∈ imm' → Sta h₀ L m tn imm' h' → Q (.ref x) ⟨h', G, D, t', O⟩)
    (hE : b.take 5 = jname → ¬ okR b → ∀ e h' tk, Thrown base h₀ env outer L (.ref 44) (tn ++ imm) e h' → E e ⟨h', G, D, tk, O⟩) :
    wpAny (model prog w) (A₀.deeper env) (call (.ref 161) [.bytes b.toArray tb]) Q E ⟨h, G, D, t, O⟩ := by
  refine' callA (cls := .ref 44) (NE := Kept (b.take 5 = jname ∧ ¬ okR b) (tn ++ imm)) (binds := [("payload", .bytes b.toArray tb)]) Z ?k1 ?k2 ?k3 ?k4 ?k5 ?k6 ?k7 ?k8 (fun e h' tk news' hk T => hE hk.1.1 hk.1.2 e h' tk (T.sub hk.2)) ?_
  case k1 => k_is
  case k2 => k_is
  case k3 => exact rfl
  case k4 => exact locs rfl
  case k5 => decide
  case k6 => exact rfl
  case k7 => exact rfl
  case k8 => exact rfl
  intro g L' h₁ t₁ Z'
  have C := Z'.C
  have S := Z'.S
  have R := Z'.R
  have hf := Z'.hf
  have hk := Z'.hk
  with_reducible refine absF C hf hk fun Q₁ E₁ hQ₁ hE₁ _ => ?_
  repeat walk_at "m"
  refine e_lenb (l := jname) (by decide) ?_
  repeat walk_at "m"
  refine t_sliceb (by assumption) .none (.int _ _) (by omega) (fun h t q S => ?_) (fun _ => by with_unfolding_all rfl) (fun _ => by with_unfolding_all rfl)
  have e5 : List.take ((some ((jname.length : Nat) : Int)).elim b.length (clipAt b.length) - (none : Option Int).elim 0 (clipAt b.length)) (List.drop ((none : Option Int).elim 0 (clipAt b.length)) b) = b.take 5 := by
    show List.take (clipAt b.length ((5 : Nat) : Int) - 0) (List.drop 0 b) = _
    rw [clipAt_nat, List.drop_zero, Nat.sub_zero]
    by_cases h : 5 ≤ b.length
    · rw [Nat.min_eq_left h]
    · rw [Nat.min_eq_right (by omega), List.take_length, List.take_of_length_le (by omega)]
  rw [e5]
  repeat walk_at "m"
  refine PySem.W.ne_bytes ?_
  have ene : ((b.take 5).toArray.toList != (#[74, 70, 73, 70, 0] : Array UInt8).toList) = !decide (b.take 5 = jname) := by
    by_cases h : b.take 5 = jname
    · rw [decide_eq_true h, h]; rfl
    · rw [decide_eq_false h]
      exact bne_iff_ne.mpr h
  rw [ene]
  repeat walk_at "m"
  refine ⟨fun hc => ?_, fun hc => ?_⟩
  · have hn : ¬ b.take 5 = jname := by simpa using hc
    repeat walk_at "m"
    refine e_none ?_
    repeat walk_at "m"
    walk_at "back"
    exact fun S => hN hn _ _ S
  have hj : b.take 5 = jname := by simpa using hc
  repeat walk_at "m"
  refine e_lenb (by omega) ?_
  repeat walk_at "m"
  refine ⟨fun hc => ?_, fun hc => ?_⟩
  · refine r_segB hE₁ (by walk_at "act") rfl ⟨hj, fun z => ?_⟩ fun q hq => hq
    have := z.1
    walk_at "ar"
  have h14 : 14 ≤ b.length := by walk_at "ar"
  repeat walk_at "m"
  refine e_lenb (l := jname) (by decide) ?_
  repeat walk_at "m"
  refine t_sliceb (by assumption) (.int _ _) .none (by omega) (fun h t q S => ?_) (fun _ => by with_unfolding_all rfl) (fun _ => by with_unfolding_all rfl)
  have e6 : List.take ((none : Option Int).elim b.length (clipAt b.length) - (some ((jname.length : Nat) : Int)).elim 0 (clipAt b.length)) (List.drop ((some ((jname.length : Nat) : Int)).elim 0 (clipAt b.length)) b) = b.drop 5 := by
    show List.take (b.length - clipAt b.length ((5 : Nat) : Int)) (List.drop (clipAt b.length ((5 : Nat) : Int)) b) = _
    rw [clipAt_nat, Nat.min_eq_left (by omega), List.take_of_length_le (by rw [List.length_drop]; omega)]
  rw [e6]
  obtain ⟨c, hc5⟩ : ∃ c, b.drop 5 = c := ⟨_, rfl⟩
  have hcl : c.length + 5 = b.length := by rw [← hc5, List.length_drop]; omega
  have hok : okR b ↔ okJ (oct c 0) (oct c 1) (oct c 2) (oct c 3 * 256 + oct c 4) (oct c 5 * 256 + oct c 6) ∧ (c.length : Int) - 9 = 3 * (oct c 7 * oct c 8) := by
    unfold okR
    rw [hc5]
    exact ⟨fun z => z.2, fun z => ⟨h14, z⟩⟩
  rw [hc5]
  clear e5 e6 ene hc5
  repeat walk_at "m"
  refine c_reader (by walk_at "act") fun x dx h t t1 t2 t3 S => ?_
  repeat walk_at "m"
  refine c_byte (by walk_at "act") (by walk_at "mem") (by omega) (by omega) fun h t u u3 S => ?_
  repeat walk_at "m"
  refine c_byte (by walk_at "act") (by walk_at "mem") (by omega) (by omega) fun h t u u3 S => ?_
  repeat walk_at "m"
  refine c_byte (by walk_at "act") (by walk_at "mem") (by omega) (by omega) fun h t u u3 S => ?_
  repeat walk_at "m"
  refine c_word (by walk_at "act") (by walk_at "mem") (by omega) (by omega) fun h t u u3 S => ?_
  repeat walk_at "m"
  refine c_word (by walk_at "act") (by walk_at "mem") (by omega) (by omega) fun h t u u3 S => ?_
  repeat walk_at "m"
  refine c_jfif (by walk_at "act") fun jx jdx h t w1 w2 w3 w4 w5 S => ?_
  repeat walk_at "m"
  refine c_check (by walk_at "act") (.tail _ (.head _)) (.head _) (fun hJ h t S => ?_) (fun hno e h tk T => Flew.by hE₁ T ⟨hj, fun z => hno (hok.mp z).1⟩ (sub2 (fun q hq => .tail _ hq) (fun q hq => .tail _ (.tail _ (.tail _ hq)))))
  repeat walk_at "m"
  refine c_byte (by walk_at "act") (by walk_at "mem") (by omega) (by omega) fun h t u u3 S => ?_
  repeat walk_at "m"
  refine c_byte (by walk_at "act") (by walk_at "mem") (by omega) (by omega) fun h t u u3 S => ?_
  have h8 := oct_lt c 8
  refine o_mulS h8.1 (Int.lt_trans h8.2 (by decide)) ?_
  repeat walk_at "m"
  refine c_left (by walk_at "act") (by walk_at "mem") (by walk_at "mem") (by omega) fun h t u S => ?_
  repeat walk_at "m"
  have h7 := oct_lt c 7
  have h78 : 0 ≤ oct c 7 * oct c 8 := Int.mul_nonneg h7.1 h8.1
  have h79 : oct c 7 * oct c 8 ≤ 255 * 255 := Int.mul_le_mul (by omega) (by omega) h8.1 (by decide)
  refine o_mulS h78 (Int.lt_of_le_of_lt h79 (by decide)) ?_
  repeat walk_at "m"
  refine ⟨fun hc => ?_, fun hc => ?_⟩
  · refine r_segB hE₁ (by walk_at "act") rfl ⟨hj, fun z => ?_⟩ (sub2 (fun q hq => .tail _ hq) (fun q hq => .tail _ (.tail _ (.tail _ hq))))
    have h2 := (hok.mp z).2
    have hc : (c.length : Int) - (9 : Nat) ≠ 3 * (oct c 7 * oct c 8) := by
      intro q
      revert hc
      show ((c.length : Int) - (9 : Nat) != 3 * (oct c 7 * oct c 8)) = true → False
      rw [q]
      simp
    exact hc h2
  · have h2 : (c.length : Int) - 9 = 3 * (oct c 7 * oct c 8) := by
      have : ((c.length : Int) - (9 : Nat) != 3 * (oct c 7 * oct c 8)) = false := hc
      simpa using this
    repeat walk_at "m"
    walk_at "back"
    exact fun S => hQ hj (hok.mpr ⟨hJ, h2⟩) _ _ _ _ _ (fun q hq => .tail _ (.tail _ (.tail _ hq))) (.tail _ (.head _)) S.drop
end

theorem sub_str_bytes : isSubtype (.type "str") (.type "bytes") = pure false := by rw [isSubtype_type]; kernel_rfl
theorem gives_bytes_eq_str (b : Array UInt8) (t : Tok) (y : Str) (u : Tok) : Gives (Builtin.«bytes.__eq__» ⟨[.bytes b t, .str y u], []⟩) (.val (Value.notImplemented)) :=
  .of_wp fun M A E s Q h => by have hs := sub_str_bytes; obtain ⟨hp, g, d, tk, os⟩ := s; wp_walk; exact ⟨_, rfl, h⟩
theorem gives_str_eq_bytes (b : Array UInt8) (t : Tok) (y : Str) (u : Tok) : Gives (Builtin.«str.__eq__» ⟨[.str y u, .bytes b t], []⟩) (.val (Value.notImplemented)) :=
  .of_wp fun M A E s Q h => by obtain ⟨hp, g, d, tk, os⟩ := s; wp_walk; exact ⟨_, rfl, h⟩
section
variable {prog : Program} {w : World} {A : Around} {E : Value → Shared → Prop} {s : Shared} {Q : Value → Shared → Prop}
/-- bytes == str -/
theorem eq_bytes_str {b : Array UInt8} {t : Tok} {y : Str} {u : Tok} (h : Q (.bool false) s) : wpAny (model prog w) A (compareOp .Eq (.bytes b t) (.str y u)) Q E s := by
  show wpAny _ A (richCompare .Eq _ _) Q E s
  exact EqNone.wpAny_richCompare_eq_decline (k := false) (fun s' => typeIs_bytes s' b t) (fun s' => typeIs_str s' y u) (by decide) sub_str_bytes FB.slot_bytes_eq F.slot_str_eq_refl rfl
    (call_gives FB.slot_bytes_eq (typeIs_bytes s b t) FB.entry_bytes_eq (FB.args_bytes_eq_2 _ _) (gives_bytes_eq_str b t y u)
      ⟨rfl, call_gives F.slot_str_eq_refl (typeIs_str s y u) F.entry_str_eq (F.args_str_eq_2 _ _) (gives_str_eq_bytes b t y u) ⟨rfl, h⟩⟩)
end
theorem jfif_obj (w : World) : ∃ nm q N bs hdct sn sub ab col dd k0 k1 k2 k3 k5 nid, (KH w.params).lookup 143 = some (excClassObj nm q 143 N bs [.type "object"] hdct sn sub ab col dd k0 k1 k2 k3 k5 nid) ∧
    nsOkIn (KH w.params) N = true ∧ nsIn (KH w.params) N "__eq__" = some none ∧ nsIn (KH w.params) N "__ne__" = some none :=
  ⟨_, _, _, _, _, _, _, _, _, _, _, _, _, _, _, _, rfl, by kernel_rfl, by kernel_rfl, by kernel_rfl⟩
theorem sub_str_inst (C : Addr) : isSubtype (.type "str") (.ref C) = pure false := by
  have e : mroOf (.type "str") = pure [.type "str", .type "object"] := by rw [mroOf_type]; kernel_rfl
  unfold isSubtype
  rw [e]
  rfl
section
variable {prog : Program} {w : World} {A : Around} {E : Value → Shared → Prop} {Q : Value → Shared → Prop} {h : Heap} {G : Array GenState} {D : Drawn} {t : Nat} {O : OsState} {x dx : Addr}
theorem jf_cmp (X : (KH w.params).In h) (hx : h.get? x = some (instObj 143 dx)) : h.CmpInst x 143 [.type "object"] := by
  obtain ⟨nm, q, N, bs, hdct, sn, sub, ab, col, dd, k0, k1, k2, k3, k5, nid, e, o, n1, n2⟩ := jfif_obj w
  have G := Heap.Ns.of_isNs (isNs_of_in X o)
  exact ⟨_, nm, q, N, bs, hdct, sn, sub, ab, col, dd, k0, k1, k2, k3, k5, nid, _, hx, rfl, X _ _ e, G, ns_none_of X G n1, ns_none_of X G n2⟩
open Builtin in
theorem objEq_str {M : Model} {s : Shared} {y : Str} {u : Tok} {Q : PySem.Fin → Shared → Prop} (hq : Q (.done (.ret .notImplemented)) s) : wpAny M A (Builtin.«object.__eq__» ⟨[.ref x, .str y u], []⟩) Q E s := by
  unfold Builtin.«object.__eq__»
  refine wpAny_bind (wpAny_of_eq (a := (.ref x, [.str y u])) rfl ?_)
  refine wpAny_bind (wpAny_of_eq (show isSame (.ref x) (.str y u) = pure false from rfl) ?_)
  exact wpAny_pure hq
theorem str_eq_inst {y : Str} {u : Tok} {o : Obj} (hx : h.get? x = some o) (ho : ∀ a b, o.data ≠ .prim (.str a b)) {Q : PySem.Fin → Shared → Prop} (hq : Q (.done (.ret .notImplemented)) ⟨h, G, D, t, O⟩) :
    wpAny (model prog w) A (Builtin.«str.__eq__» ⟨[.str y u, .ref x], []⟩) Q E ⟨h, G, D, t, O⟩ := by
  unfold Builtin.«str.__eq__» Builtin.Str.strCompare
  refine wpAny_bind (wpAny_of_eq (a := (.str y u, y, [.ref x])) rfl ?_)
  show wpAny _ _ (asStr? (.ref x) >>= _) _ _ _
  unfold asStr?
  refine wpAny_bind (wpAny_bind (wpAny_load hx ?_))
  split
  · rename_i a b e
    exact absurd e (ho a b)
  · refine wpAny_pure ?_
    exact wpAny_bind (wpAny_rule (wpAny_pure hq))
/-- a Jfif == str -/
theorem eq_inst_str {y : Str} {u : Tok} (X : (KH w.params).In h) (hx : h.get? x = some (instObj 143 dx)) (hu : A.units < cLine) (hq : Q (.bool false) ⟨h, G, D, t, O⟩) :
    wpAny (model prog w) A (compareOp .Eq (.ref x) (.str y u)) Q E ⟨h, G, D, t, O⟩ := by
  have I := jf_cmp X hx
  have hT : ∀ s' : Shared, s'.TypeIs (.str y u) "str" := fun s' => typeIs_str s' y u
  show wpAny _ A (richCompare .Eq _ _) Q E _
  obtain ⟨o, nm, q, N, bs, hdct, sn, sub, ab, col, dd, k0, k1, k2, k3, k5, newId, mN, hx', hc, hC, hn, he, _⟩ := id I
  have t1 : ∀ Q : Option Value → Shared → Prop, Q none ⟨h, G, D, t, O⟩ → wpAny (model prog w) A (tryCompare (.ref x) "__eq__" (.str y u)) Q E ⟨h, G, D, t, O⟩ := fun Q hq => by
    simp only [tryCompare]
    refine wpAny_bind (wpAny_callSpecialIfBound?_inst hx' hc hC hn he F.cmp_object.mro F.cmp_object.eq ?_)
    exact wpAny_call (codeAny_call_builtin F.cmp_object.eq.plain F.cmpEntry_eq (wpAny_check_slot_inst F.cmpKind_eq F.cmpSplit_eq (F.cmpArgs_eq _ _) F.cmp_object.hasObject hx' hc hC (objEq_str (wpAny_pure hq))))
  have t2 : ∀ Q : Option Value → Shared → Prop, Q none ⟨h, G, D, t, O⟩ → wpAny (model prog w) A (tryCompare (.str y u) "__eq__" (.ref x)) Q E ⟨h, G, D, t, O⟩ := fun Q hq =>
    wpAny_tryCompare_declines (hT _) F.slot_str_eq_refl (wpAny_call_entry F.slot_str_eq_refl (hT _) F.entry_str_eq (str_eq_inst hx (fun a b e => by cases e) ⟨_, rfl, rfl, hq⟩) (F.args_str_eq_2 _ _))
  have hsub := sub_str_inst 143
  simp only [richCompare, cmpInfo_Eq, oneThing_ref]
  repeat (first | with_reducible refine wpAny_cRoomFor hu ?_ | (with_reducible refine wpAny_loadPart_at hx' ?_; rw [hc]) | with_reducible refine wpAny_of_eq hsub ?_ | with_reducible refine t1 _ ?_ | with_reducible refine t2 _ ?_ | wp_step)
  exact hq
end

abbrev enumO (it : Addr) (i : Int) (old : Value) : Obj := { cls := .type "enumerate", dict := none, data := .fields #[.none, .bool false, .ref it, rawInt i, .none, old], slots := #[] }
section
variable {h₀ h h' : Heap} {L x y : Addr} {o o' p p' : Obj} {m : Str → Option Value} {tn imm : List (Addr × Obj)}
theorem Sta.turn2 (S : Sta h₀ L m ((x, o) :: (y, p) :: tn) imm h) (k : ∀ b ob, b ≠ x → b ≠ y → h.get? b = some ob → h'.get? b = some ob) (hx : h'.get? x = some o') (hy : h'.get? y = some p') : Sta h₀ L m ((x, o') :: (y, p') :: tn) imm h' := by
  have X := S.N _ (.head _)
  have Y := S.N _ (.tail _ (.head _))
  obtain ⟨oL, es, ep, eL, rL⟩ := S.F.ns
  refine ⟨⟨⟨oL, es, ep, k _ _ X.2.1.symm Y.2.1.symm eL, rL⟩, fun b o e => k _ _ (by rintro rfl; rw [X.2.2] at e; cases e) (by rintro rfl; rw [Y.2.2] at e; cases e) (S.F.keep b o e), S.F.above⟩, fun q hq => ?_, ⟨fun q hq => ?_, S.D.2.1, S.D.2.2⟩⟩
  · rcases List.mem_cons.mp hq with rfl | hq
    · exact ⟨hx, X.2⟩
    · rcases List.mem_cons.mp hq with rfl | hq
      · exact ⟨hy, Y.2⟩
      · exact ⟨k _ _ (S.D.1 q (.tail _ hq)) (S.D.2.1 q hq) (S.N q (.tail _ (.tail _ hq))).1, (S.N q (.tail _ (.tail _ hq))).2⟩
  · rcases List.mem_cons.mp hq with rfl | hq
    · exact S.D.1 (y, p) (.head _)
    · exact S.D.1 q (.tail _ hq)
theorem Sta.dropTo (S : Sta h₀ L m ((x, o) :: tn) imm h) (k : ∀ b ob, b ≠ x → h.get? b = some ob → h'.get? b = some ob) : Sta h₀ L m tn imm h' :=
  ⟨⟨S.F.ns.at' fun o e => k _ o (S.N _ (.head _)).2.1.symm e, fun b o e => k b o (fun q => by rw [q, (S.N _ (.head _)).2.2] at e; cases e) (S.F.keep b o e), S.F.above⟩, fun p hp => ⟨k _ _ (S.D.1 p hp) (S.N p (.tail _ hp)).1, (S.N p (.tail _ hp)).2⟩, S.D.2⟩
theorem Sta.addTn (S : Sta h₀ L m tn imm h) (hx : h.get? x = some o) (hL : x ≠ L) (hn : h₀.get? x = none) (hs : ∀ p ∈ tn ++ imm, p.1 ≠ x) : Sta h₀ L m ((x, o) :: tn) imm h :=
  ⟨S.F, fun p hp => by
    rcases List.mem_cons.mp hp with rfl | q
    · exact ⟨hx, hL, hn⟩
    · exact S.N p q, hs, S.D⟩
end
section
variable {prog : Program} {w : World} {A : Around} {E : Value → Shared → Prop} {env : Env} {pos tpos : Pos} {elts : List Expr} {ek : Nat} {body rest : List Stmt} {Q : Flow → Shared → Prop} {h₀ h : Heap} {L e it l : Addr} {m : Str → Option Value} {tn imm : List (Addr × Obj)} {G : Array GenState} {D : Drawn} {t : Nat} {O : OsState} {s : Shared} {fs : List Addr} {vs : List Value}
/-- enumerate(list) -/
theorem s_enum {Q : Value → Shared → Prop} {o : Obj} (S : Sta h₀ L m tn imm h) (hl : (l, o) ∈ tn ++ imm) (ho : o.cls = .type "list") {k : Nat} (hd : o.data = .seq vs.toArray k)
    (hq : ∀ e it oI h', oI.cls = .type "list_iterator" → oI.data = .fields #[.ref l, .int 0 0] → Sta h₀ L m ((e, enumO it 0 .none) :: (it, oI) :: tn) imm h' → Q (.ref e) ⟨h', G, D, t, O⟩) :
    wpAny (model prog w) A (call (.type "enumerate") [.ref l]) Q E ⟨h, G, D, t, O⟩ := by
  refine call_enumerate_list (s := ⟨h, G, D, t, O⟩) (items := vs.toArray) ⟨o, S.get hl, ho, k, hd⟩ fun h' he hi hsz hk => ?_
  obtain ⟨oI, hoI, c1, c2⟩ := hi
  have hL : L < h.objs.size := S.F.ns.lt
  have S1 := S.keeps hk
  have S2 := S1.addTn hoI (Nat.ne_of_gt hL) (Heap.get?_none_of_le (Nat.le_trans S.F.above (Nat.le_of_lt hL))) fun p hp => Nat.ne_of_lt (S.lt p hp)
  have S3 := S2.addTn he (Nat.ne_of_gt (Nat.lt_succ_of_lt hL)) (Heap.get?_none_of_le (Nat.le_trans S.F.above (Nat.le_of_lt (Nat.lt_succ_of_lt hL)))) fun p hp => by
    rcases List.mem_cons.mp hp with rfl | hp
    · exact Nat.ne_of_lt (Nat.lt_succ_self _)
    · exact Nat.ne_of_lt (Nat.lt_succ_of_lt (S.lt p hp))
  exact hq _ _ oI h' c1 c2 S3
/-- the end of a turn over an enumerate -/
def TurnEndE (fs : List Addr) (h₀ : Heap) (L : Addr) (G : Array GenState) (D : Drawn) (O : OsState) (e it : Addr) (oE oI : Obj) (J : (Str → Option Value) → List (Addr × Obj) → List (Addr × Obj) → Prop) (s : Shared) : Prop :=
  ∃ g h t m tn imm, s = ⟨h, G, D, t, O⟩ ∧ KtsTurn fs h₀ g ∧ Sta g L m ((e, oE) :: (it, oI) :: tn) imm h ∧ J m tn imm
theorem TurnEndE.mk {g : Heap} {oE oI : Obj} {J : (Str → Option Value) → List (Addr × Obj) → List (Addr × Obj) → Prop} (T : KtsTurn fs h₀ g) (S : Sta g L m ((e, oE) :: (it, oI) :: tn) imm h) (hj : J m tn imm) : TurnEndE fs h₀ L G D O e it oE oI J ⟨h, G, D, t, O⟩ := ⟨g, h, t, m, tn, imm, rfl, T, S, hj⟩
/-- over an enumerate of a list that stands -/
theorem loop_enumT {oI : Obj} (hh : A.handled = none) (J : Nat → (Str → Option Value) → List (Addr × Obj) → List (Addr × Obj) → Prop) {o : Obj} (ho : o.cls = .type "list") {k : Nat} (hd : o.data = .seq vs.toArray k) (hl : ∀ i m tn imm, J i m tn imm → (l, o) ∈ tn ++ imm)
    (hE : PassesOwn (model prog w) A env E) (h1 : oI.cls = .type "list_iterator") (h2 : oI.data = .fields #[.ref l, .int 0 0]) (S : Sta h₀ L m ((e, enumO it 0 .none) :: (it, oI) :: tn) imm h) (hj : J 0 m tn imm)
    (turn : ∀ g i v T tk oE oI m tn imm h t, KtsTurn fs h₀ g → vs[i]? = some v → J i m tn imm → Sta g L m ((e, oE) :: (it, oI) :: tn) ((T, tupO [.int (i : Nat) tk, v]) :: imm) h →
      wpAny (model prog w) A (assign (.Tuple elts ek tpos) env (.ref T)) (fun _ s₂ => wpN (model prog w) A (execs body env) (LoopF (TurnEndE fs g L G D O e it oE oI (J (i + 1))) Q (fun s' => wpN (model prog w) A (execs rest env) Q E s')) E s₂) E ⟨h, G, D, t, O⟩)
    (done : ∀ g m tn imm h t, KtsTurn fs h₀ g → J vs.length m tn imm → Sta g L m tn imm h → wpN (model prog w) A (execs rest env) Q E ⟨h, G, D, t, O⟩) :
    wpAny (model prog w) A (pyIter (.ref e)) (ForKN prog w A env (.Tuple elts ek tpos) body rest Q E) E ⟨h, G, D, t, O⟩ := by
  have he0 : IsEnum h e it 0 .none := S.get (.head _)
  refine wpAny_pyIter_enum (s := ⟨h, G, D, t, O⟩) he0 ?_
  refine codeN_for (fun kk s' => ∃ g h' tk m' tn' imm' old oI' i, s' = ⟨h', G, D, tk, O⟩ ∧ KtsTurn fs h₀ g ∧ Sta g L m' ((e, enumO it (i : Nat) old) :: (it, oI') :: tn') imm' h' ∧ oI'.cls = .type "list_iterator" ∧ oI'.data = .fields #[.ref l, .int (i : Nat) 0] ∧ J i m' tn' imm' ∧ i ≤ vs.length ∧ kk = vs.length + 1 - i) ?_ (vs.length + 1)
    (exI9 ⟨rfl, KtsTurn.refl, S, h1, h2, hj, Nat.zero_le _, rfl⟩)
  intro kk s' hJ0
  refine exE9 hJ0 fun g h' tk m' tn' imm' old oI' i hz153 => ?_
  clear hJ0
  refine anE8 hz153 fun hz154 TT S' c1 c2 hJ hi hz155 => ?_
  clear hz153
  subst hz154
  subst hz155
  have he : IsEnum h' e it (i : Nat) old := S'.get (.head _)
  have hit : h'.IsListIter it l i := ⟨oI', S'.get (.tail _ (.head _)), c1, c2⟩
  have hls : h'.IsList l vs.toArray := ⟨o, S'.get (.tail _ (.tail _ (hl _ _ _ _ hJ))), ho, k, hd⟩
  have hne : e ≠ it := fun q => S'.D.1 (it, oI') (.head _) q.symm
  have hlI : l ≠ it := S'.D.2.1 (l, o) (hl _ _ _ _ hJ)
  have hle : l ≠ e := S'.D.1 (l, o) (.tail _ (hl _ _ _ _ hJ))
  by_cases hlt : i < vs.length
  · refine wpAny_pyNext_enum_item (s := ⟨h', G, D, tk, O⟩) (x := vs[i]) he hit hls (by simp [hlt]) hne fun h₁ a1 a2 a3 a4 a5 => ?_
    dsimp only at a1 a2 a3 a4 a5 ⊢
    refine wpAny_letOwnedTupleGo_enum (s := ⟨h₁, G, D, tk + 1, O⟩) a1 fun h₂ b1 b2 => ?_
    dsimp only at b1 b2
    obtain ⟨oI₂, e1, e2, e3⟩ := a2
    have hL : L < h'.objs.size := S'.F.ns.lt
    have helt : e < h'.objs.size := Heap.lt_size he
    have S₁ := S'.turn2 (h' := h₂) (fun b ob hb1 hb2 x => b2.extBut b ob hb1 (a5 b ob hb1 hb2 x)) b1 (b2.extBut _ _ (Ne.symm hne) e1)
    have S₂ := S₁.addImm (b2.extBut _ _ (Nat.ne_of_gt helt) a3) (Nat.ne_of_gt hL) (Heap.get?_none_of_le (Nat.le_trans S'.F.above (Nat.le_of_lt hL))) (fun p hp => Nat.ne_of_lt (by
      rcases List.mem_cons.mp hp with rfl | hp
      · exact helt
      · rcases List.mem_cons.mp hp with rfl | hp
        · exact S'.lt (it, oI') (.tail _ (.head _))
        · exact S'.lt p (.tail _ (.tail _ (List.mem_append_left _ hp)))))
    refine wpAny_mono (turn g i vs[i] _ _ _ _ m' tn' imm' h₂ (tk + 1) TT (by simp [hlt]) hJ S₂) (fun _ s₂ h₂ => wpN.mono h₂ (fun f s₃ h₃ => ?_) hE) hE
    have fin : TurnEndE fs g L G D O e it (enumO it ((i : Nat) + 1) vs[i]) oI₂ (J (i + 1)) s₃ → ∃ k', k' < vs.length + 1 - i ∧ ∃ g h' tk m' tn' imm' old oI' i', s₃ = ⟨h', G, D, tk, O⟩ ∧ KtsTurn fs h₀ g ∧ Sta g L m' ((e, enumO it (i' : Nat) old) :: (it, oI') :: tn') imm' h' ∧ oI'.cls = .type "list_iterator" ∧ oI'.data = .fields #[.ref l, .int (i' : Nat) 0] ∧ J i' m' tn' imm' ∧ i' ≤ vs.length ∧ k' = vs.length + 1 - i' := by
      intro hJ0
      refine exE6 hJ0 fun g₂ h₂' tk₂ m₂ tn₂ imm₂ hz156 => ?_
      clear hJ0
      refine anE4 hz156 fun hz157 T₂ S₂ J₂ => ?_
      clear hz156
      subst hz157
      exact ⟨vs.length + 1 - (i + 1), Nat.sub_succ_lt_self _ _ (Nat.lt_succ_of_lt hlt), exI9 ⟨rfl, TT.trans T₂, S₂, e2, e3, J₂, hlt, rfl⟩⟩
    cases f with
    | next => exact fin h₃
    | cont => exact fin h₃
    | brk => exact h₃
    | ret v => exact h₃
  · have hin : i = vs.length := by omega
    subst hin
    refine wpAny_pyNext_enum_end (s := ⟨h', G, D, tk, O⟩) hh he hit hls (by simp) fun h₁ hx => rn_nil ?_
    exact done g m' tn' imm' h₁ tk TT hJ (S'.drop.dropTo fun b ob hb x => hx b ob hb x)
/-- max(a, b) of ints -/
theorem s_max {a b : Int} {u v : Tok} {Q : Value → Shared → Prop} (S : Sta h₀ L m tn imm h) (hh : A.handled = none) (hq : ∀ h' t' w, Sta h₀ L m tn imm h' → Q (.int (if b > a then b else a) w) ⟨h', G, D, t', O⟩) :
    wpAny (model prog w) A (call (.builtin "max") [.int a u, .int b v]) Q E ⟨h, G, D, t, O⟩ :=
  max_two_ints (s := ⟨h, G, D, t, O⟩) hh fun h' tk hk => by
    by_cases c : b > a
    · have := hq h' tk v (S.keeps hk)
      simpa only [if_pos c] using this
    · have := hq h' tk u (S.keeps hk)
      simpa only [if_neg c] using this
end

section
variable {M : Model} {A : Around} {E : Value → Shared → Prop} {env : Env} {s : Shared} {pos : Pos}
/-- x and y as a value, where a bytearray may be met -/
theorem en_and {x y : Expr} {rest : List Expr} {Q : Value → Shared → Prop}
    (h : wpN M A (eval x env) (fun v s₁ => wpAny M A (truthy v) (fun c s₂ => Br c (wpN M A (eval (.BoolOp .And (y :: rest) pos) env) Q E s₂) (Q v s₂)) E s₁) E s) :
    wpN M A (eval (.BoolOp .And (x :: y :: rest) pos) env) Q E s := by
  show wpN M A (do
    let v ← eval x env
    standAt pos
    let c ← holding [v] (truthy v)
    match BoolOp.And, c with
    | .And, false | .Or, true => pure v
    | _, _ => boolOp pos .And (eval y env :: evalEach rest env)) Q E s
  refine wpN.bind (wpN.mono h (fun v s₁ h₁ => wpN.bind (wpN.standAt (wpN.bind (wpN.holding (wpN.of (wpAny_mono h₁ (fun c s₂ h₂ => ?_) fun _ _ x => x)))))) fun _ _ x => x)
  cases c with
  | false => exact wpN.pure (h₂.2 rfl)
  | true => exact h₂.1 rfl
theorem en_and1 {x : Expr} {Q : Value → Shared → Prop} (h : wpN M A (eval x env) Q E s) : wpN M A (eval (.BoolOp .And [x] pos) env) Q E s := h
end
/-- rows of numbers for Jfif: the first two pass -/
def RowsJ (vs : List Value) (imm : List (Addr × Obj)) : Prop := vs.length = 7 ∧ ∀ (i : Nat) (v : Value), vs[i]? = some v → ∃ (r : Addr) (a b c d e : Int) (ua ub uc ud ue : Tok), v = Value.ref r ∧ (r, tupO [.int a ua, .int b ub, .int c uc, .int d ud, .int e ue]) ∈ imm ∧ (okJ a b c d e ↔ i ≤ 1)
theorem jf_dec (a b c d e : Int) (i : Nat) (h : ((decide (0 ≤ a) && decide (a ≤ 255)) && (decide (0 ≤ b) && decide (b ≤ 255)) && (decide (0 ≤ c) && decide (c ≤ 2)) && (decide (1 ≤ d) && decide (d ≤ 65535)) && (decide (1 ≤ e) && decide (e ≤ 65535))) = decide (i ≤ 1)) : okJ a b c d e ↔ i ≤ 1 := by
  unfold okJ
  rw [← decide_eq_true_iff (p := i ≤ 1), ← h]
  simp only [Bool.and_eq_true, decide_eq_true_eq, and_assoc]
/-- what read_jfif says of the law's payloads -/
def headJ (wd hg : Int) : List UInt8 := jname ++ obs [1, 2, 1, 0, 72, 0, 72, wd, hg]
theorem headJ_len (wd hg : Int) : (headJ wd hg).length = 14 := by simp [headJ, jname]
theorem headJ_take (wd hg : Int) (r : List UInt8) : (headJ wd hg ++ r).take 5 = jname := rfl
theorem headJ_ok {wd hg : Int} (hw : 0 ≤ wd ∧ wd < 4) (hh : 0 ≤ hg ∧ hg < 4) (n : Nat) : okR (headJ wd hg ++ List.replicate n 0) ↔ (n : Int) = 3 * wd * hg := by
  have hd : (headJ wd hg ++ List.replicate n 0).drop 5 = obs [1, 2, 1, 0, 72, 0, 72, wd, hg] ++ List.replicate n 0 := rfl
  have hl : ((obs [1, 2, 1, 0, 72, 0, 72, wd, hg] ++ List.replicate n (0 : UInt8)).length : Int) = 9 + n := by simp [obs]; omega
  unfold okR
  rw [hd, List.length_append, headJ_len, List.length_replicate, hl]
  have o0 : oct (obs [1, 2, 1, 0, 72, 0, 72, wd, hg] ++ List.replicate n 0) 7 = wd := oct_ob (v := wd) (by omega) (obs [hg] ++ List.replicate n 0)
  have o1 : oct (obs [1, 2, 1, 0, 72, 0, 72, wd, hg] ++ List.replicate n 0) 8 = hg := oct_ob (v := hg) (by omega) (List.replicate n 0)
  rw [o0, o1]
  have hj : okJ (oct (obs [1, 2, 1, 0, 72, 0, 72, wd, hg] ++ List.replicate n 0) 0) (oct (obs [1, 2, 1, 0, 72, 0, 72, wd, hg] ++ List.replicate n 0) 1) (oct (obs [1, 2, 1, 0, 72, 0, 72, wd, hg] ++ List.replicate n 0) 2) (oct (obs [1, 2, 1, 0, 72, 0, 72, wd, hg] ++ List.replicate n 0) 3 * 256 + oct (obs [1, 2, 1, 0, 72, 0, 72, wd, hg] ++ List.replicate n 0) 4) (oct (obs [1, 2, 1, 0, 72, 0, 72, wd, hg] ++ List.replicate n 0) 5 * 256 + oct (obs [1, 2, 1, 0, 72, 0, 72, wd, hg] ++ List.replicate n 0) 6) := by
    show okJ 1 2 1 (0 * 256 + 72) (0 * 256 + 72)
    unfold okJ
    decide
  rw [Int.mul_assoc]
  constructor
  · rintro ⟨_, _, h⟩
    omega
  · intro h
    exact ⟨by omega, hj, by omega⟩
theorem headJ_cut (wd hg : Int) : ¬ okR ((headJ wd hg).take 13) := fun h => by
  have := h.1
  rw [List.length_take, headJ_len] at this
  exact absurd this (by decide)
/-- a row of ints written out, evaluated at one blow -/
def intC (e : Expr) : Option Int := match e with
  | .Constant (.int i) _ _ => some i
  | _ => none
theorem intC_is {e : Expr} {i : Int} (h : intC e = some i) : ∃ k p, e = .Constant (.int i) k p := by
  unfold intC at h
  split at h
  · cases h; exact ⟨_, _, rfl⟩
  · cases h
def intCs (es : List Expr) : Option (List Int) := es.mapM intC
def intVs : List Int → Nat → List Value
  | [], _ => []
  | i :: is, t => .int i t :: intVs is (t + 1)
theorem a_ints {M : Model} {A : Around} {E : Value → Shared → Prop} {env : Env} {pos : Pos} {h : Heap} {G : Array GenState} {D : Drawn} {O : OsState} {es : List Expr} : ∀ {is : List Int} {t : Nat} {Q : List Value → Shared → Prop}, intCs es = some is → Q (intVs is t) ⟨h, G, D, t + is.length, O⟩ → wpAny M A (spliced (backTo pos (starEach es env))) Q E ⟨h, G, D, t, O⟩ := by
  induction es with
  | nil => intro is t Q hs hq; cases hs; exact a_nil hq
  | cons e es ih =>
    intro is t Q hs hq
    unfold intCs at hs
    rw [List.mapM_cons] at hs
    obtain ⟨i, h1, hs⟩ := Option.bind_eq_some_iff.mp hs
    obtain ⟨js, h2, hs⟩ := Option.bind_eq_some_iff.mp hs
    cases hs
    obtain ⟨k, p, rfl⟩ := intC_is h1
    refine a_cons rfl (e_int (ih h2 ?_))
    rw [List.length_cons, Nat.add_comm js.length, ← Nat.add_assoc] at hq
    exact hq
theorem e_tupI {M : Model} {A : Around} {E : Value → Shared → Prop} {env : Env} {pos : Pos} {h : Heap} {G : Array GenState} {D : Drawn} {O : OsState} {t k : Nat} {elts : List Expr} {is : List Int} {Q : Value → Shared → Prop} (hs : intCs elts = some is) (hq : wpAny M A (newTuple (intVs is t)) Q E ⟨h, G, D, t + is.length, O⟩) : wpAny M A (eval (.Tuple elts k pos) env) Q E ⟨h, G, D, t, O⟩ := e_tup (a_ints hs hq)

local macro_rules | `(tactic| walk_at "m") => `(tactic| ((with_reducible refine' e_tupI ?s ?_); (case s => exact rfl)))
section
variable {prog : Program} {w : World} {p : Program} {loose : List Str} {mean : ExcName → Option Value} {mg mb : Str → Option Value} {A₀ : Around} {base h₀ h : Heap} {outer : List Env} {env : Env} {L : Addr} {m : Str → Option Value} {tn imm : List (Addr × Obj)} {G : Array GenState} {D : Drawn} {t : Nat} {O : OsState}
  {Q E : Value → Shared → Prop} {ps : Array Value} {sh : Addr} {a b : Int} {u v : Tok} {k : Nat}
/-- _law_jfif_right(shelf) -/
theorem c_jfif_right (Z : Act w p loose mean mg mb A₀ base h₀ outer env L m ((302, tabObj ps) :: (sh, shO a b u v k) :: tn) imm h 20) (HC : CodeHd base 306 302) (TB : Tab (lamQ "_law_jfif_right") ps imm) (ha : 0 ≤ a) (hb : 0 ≤ b)
    (hQ : ∀ h₀' ps' os imm' h' t', KtsTurn (fsO outer) h₀ h₀' → Sta h₀' L m ((302, tabObj ps') :: (sh, os) :: tn) imm' h' → Q (.bool true) ⟨h', G, D, t', O⟩) :
    wpN (model prog w) (A₀.deeper env) (call (.ref 307) [.ref sh]) Q E ⟨h, G, D, t, O⟩ := by
  refine' callNTC (binds := [("shelf", .ref sh)]) Z ?k1 ?k2 ?k3 ?k4 ?k5 ?k6 ?k7 ?k8 ?_
  case k1 => k_is
  case k2 => k_is
  case k3 => exact rfl
  case k4 => intro n x hx; simp at hx; subst hx; exact .inl rfl
  case k5 => decide
  case k6 => exact rfl
  case k7 => exact rfl
  case k8 => exact rfl
  intro g L' h₁ t₁ cells Y lt C F N D₀ R
  obtain ⟨o3, o2, o1, rfl, d3, d2, d1⟩ := PyProof.Rows.CellsAre.three Y
  have S : Sta g L' (upd (fun _ => none) "shelf" (.ref sh)) ((L' + 1 + 1 + 1, o3) :: (L' + 1 + 1, o2) :: (L' + 1, o1) :: (302, tabObj ps) :: (sh, shO a b u v k) :: tn) imm h₁ := ⟨F, N, sep_c3 lt D₀ (Nat.lt_succ_of_lt (Nat.lt_succ_of_lt (Nat.lt_succ_self _))) (Nat.lt_succ_of_lt (Nat.lt_succ_self _)) (Nat.lt_succ_self _) (Nat.ne_of_lt (Nat.lt_succ_self _)) (Nat.ne_of_lt (Nat.lt_succ_of_lt (Nat.lt_succ_self _))) (Nat.ne_of_lt (Nat.lt_succ_self _))⟩
  clear F N D₀ lt Y
  with_reducible refine absQN fun Q₀ hQ₀ => ?_
  walk_at "n"
  repeat walk_at "m"
  rename_i hS0 S0
  have hob : ∃ vsR immR rl m1, RowsJ vsR immR ∧ (rl, lstO vsR) ∈ immR ∧ (∀ q ∈ imm, q ∈ immR) ∧ (m1 "shelf" = some (.ref sh) ∧ m1 "rows" = some (.ref rl)) ∧ Sta g L' m1 ((L' + 1 + 1 + 1, o3) :: (L' + 1 + 1, o2) :: (L' + 1, o1) :: (302, tabObj ps) :: (sh, shO a b u v k) :: tn) immR hS0 := by
    refine exI4 ⟨⟨rfl, ?_⟩, .head _, fun q hq => by repeat (first | exact hq | refine List.Mem.tail _ ?_), ⟨?_, ?_⟩, S0.freeze⟩
    · rintro (_ | _ | _ | _ | _ | _ | _ | i) v hv
      iterate 7
        focus
          cases hv
          exact exI11 ⟨rfl, by walk_at "mem", jf_dec _ _ _ _ _ _ (by decide)⟩
      simp at hv
    all_goals walk_at "mv"
  clear S S0
  refine exE4 hob fun vsR immR rl mR hz158 => ?_
  clear hob
  refine anE5 hz158 fun hz159 hml hsubR hz160 S1 => ?_
  clear hz158
  refine anE2 hz159 fun hRl hrow => ?_
  clear hz159
  refine anE2 hz160 fun hm1 hm2 => ?_
  clear hz160
  repeat walk_at "n"
  refine s_enum S1 (List.mem_append_right _ hml) rfl rfl fun e it oI h c1 c2 S => ?_
  clear S1
  repeat walk_at "n"
  refine loop_enumT (fs := fsO (env :: outer)) (vs := vsR) R.hd (fun i m' tn' imm' => (∃ orw v0 psx, tn' = (L' + 1 + 1 + 1, o3) :: (L' + 1 + 1, orw) :: (L' + 1, o1) :: (302, tabObj psx) :: (sh, shO a b u v k) :: tn ∧ orw.data = .cell v0 ∧ Tab (lamQ "_law_jfif_right") psx imm') ∧ (∀ q ∈ immR, q ∈ imm') ∧ m' "shelf" = some (.ref sh))
    rfl rfl (fun i m' tn' imm' hJ => List.mem_append_right _ (hJ.2.1 _ hml)) (fun _ _ z => z.elim) c1 c2 S ⟨⟨o2, _, ps, rfl, d2, TB.mono hsubR⟩, fun q hq => hq, hm1⟩ ?_ ?_
  · intro g9 i vv T tk oE oI m9 tn9 imm9 h9 t9 TT hv hJ S9
    with_reducible refine absLN fun Q₃ hQ₃ => ?_
    refine anE3 hJ fun hz161 hsub9 hms => ?_
    clear hJ
    refine exE3 hz161 fun orw v0 psx hz162 => ?_
    clear hz161
    refine anE3 hz162 fun hz163 dr TBx => ?_
    clear hz162
    subst hz163
    have hq9 := hrow i vv hv
    refine exE11 hq9 fun r xa xb xc xd xe xua xub xuc xud xue hz164 => ?_
    clear hq9
    refine anE3 hz164 fun hz165 hr hok => ?_
    clear hz164
    subst hz165
    have hr := hsub9 _ hr
    have C9 := C.turn TT
    clear C S
    repeat walk_at "m"
    refine s_storeC (Sta.f3 (by assumption)) rfl dr rfl rfl fun or' h dr' S => ?_
    clear S9 dr
    repeat walk_at "m"
    refine rn_assignN (en_call ?_)
    repeat walk_at "n"
    refine s_lambda C9 S.f5 (TBx.mono fun q hq => .tail _ hq) HC rfl rfl rfl rfl rfl fun f c' ctv ps3 immG h t S hsubG TB3 RC => ?_
    have hr := hsubG _ (.tail _ hr)
    repeat walk_at "n"
    refine c_heard (ok := i ≤ 1) (RR := fun rv tn' imm' => ∃ bs ub, rv = .bytes (List.toArray bs) ub ∧ tn' = (302, tabObj ps3) :: (L' + 1 + 1, or') :: (e, oE) :: (it, oI) :: (L' + 1 + 1 + 1, o3) :: (L' + 1, o1) :: (sh, shO a b u v k) :: tn ∧ (∀ q ∈ immG, q ∈ imm')) (n := 18) ⟨C9, S, rfl, rfl, R.le (by decide)⟩ (by walk_at "mem") rfl ?_ ?_ ?_
    · intro A₁ base₁ h₂ h₃ outer₁ env₁ L₁ m₁ t₂ Q₁ E₁ Z₁ hq1 hq2
      refine wpN.call ?_
      refine lamN (cls := .ref 44) (NE := Kept (¬ i ≤ 1) _) Z₁.C Z₁.S Z₁.hf Z₁.hk Z₁.C.frames Z₁.R (List.mem_append_right _ (.head _)) ((RC.mono fun q hq => .tail _ hq).code Z₁.S) rfl (locs rfl) (by decide) rfl rfl rfl (fun e h' tk news' hk T => hq2 hk.1 e h' tk (T.sub hk.2)) ?_
      intro g₅ L₅ h₅ t₅ Z'
      have C₅ := Z'.C
      have S₅ := Z'.S
      have hf₅ := Z'.hf
      have hk₅ := Z'.hk
      have R₅ := Z'.R
      clear C9 S
      refine wpN.of (e_call ?_)
      repeat walk_at "m"
      refine s_itemT (k := 0) (S₅.get (List.mem_append_right _ (.tail _ hr))) rfl rfl (by decide) rfl ?_ (by with_unfolding_all rfl) (fun _ => by with_unfolding_all rfl)
      repeat walk_at "m"
      refine s_itemT (k := 1) (S₅.get (List.mem_append_right _ (.tail _ hr))) rfl rfl (by decide) rfl ?_ (by with_unfolding_all rfl) (fun _ => by with_unfolding_all rfl)
      repeat walk_at "m"
      refine s_itemT (k := 2) (S₅.get (List.mem_append_right _ (.tail _ hr))) rfl rfl (by decide) rfl ?_ (by with_unfolding_all rfl) (fun _ => by with_unfolding_all rfl)
      repeat walk_at "m"
      refine s_itemT (k := 3) (S₅.get (List.mem_append_right _ (.tail _ hr))) rfl rfl (by decide) rfl ?_ (by with_unfolding_all rfl) (fun _ => by with_unfolding_all rfl)
      repeat walk_at "m"
      refine s_itemT (k := 4) (S₅.get (List.mem_append_right _ (.tail _ hr))) rfl rfl (by decide) rfl ?_ (by with_unfolding_all rfl) (fun _ => by with_unfolding_all rfl)
      repeat walk_at "m"
      refine c_jfif ⟨C₅, S₅, rfl, rfl, R₅.le (by decide)⟩ fun x dx h t y1 y2 y3 y4 y5 S => ?_
      repeat walk_at "m"
      refine c_write_jfif ⟨C₅, S, rfl, rfl, R₅.le (by decide)⟩ (.tail _ (.head _)) (.head _) (fun hJ bs h t u S => ?_) (fun hno e h tk T => Flew.of T (fun z => hno (hok.mpr z)) (sub2 (fun q hq => hq) (fun q hq => .tail _ (.tail _ hq))))
      exact Back.mk S fun S => hq1 (hok.mp hJ) _ _ _ _ _ (exI2 ⟨rfl, rfl, fun q hq => .tail _ (.tail _ (.tail _ hq))⟩) S
    · intro hi g10 vJ tnJ imm' h t T' hJ S'
      refine exE2 hJ fun bs ub hz166 => ?_
      clear hJ
      refine anE3 hz166 fun hz167 hz168 hsubJ => ?_
      clear hz166
      subst hz167
      subst hz168
      clear S
      repeat walk_at "m"
      repeat walk_at "n"
      refine eq_bytes_str ?_
      repeat walk_at "m"
      refine PyProof.Rows.ne_bool ?_
      repeat walk_at "m"
      rename_i hF SF
      refine ⟨fun z => absurd z ?_, fun _ => ?_⟩
      · rw [decide_eq_false (by omega)]
        decide
      refine rn_nilQ hQ₃ (TurnEndE.mk T' SF.f5.f2.f5.f5.f5 ⟨⟨or', _, ps3, rfl, dr', TB3.mono hsubJ⟩, fun q hq => hsubJ _ (hsubG _ (.tail _ (hsub9 _ hq))), ?_⟩)
      walk_at "mv"
    · intro hi g10 uu h t T' S'
      clear S
      repeat walk_at "m"
      repeat walk_at "n"
      refine SeqAt.RcAt.str_str "refused" uu "refused" _ prog w _ _ ?_
      have e : (("refused" : Str) == "refused") = true := by decide
      rw [e]
      repeat walk_at "m"
      refine PyProof.Rows.ne_bool ?_
      repeat walk_at "m"
      rename_i hF SF
      refine ⟨fun z => absurd z ?_, fun _ => ?_⟩
      · rw [decide_eq_true (by omega)]
        decide
      refine rn_nilQ hQ₃ (TurnEndE.mk T' SF.f5.f2.f5.f5.f5 ⟨⟨or', _, ps3, rfl, dr', TB3.mono fun q hq => .tail _ hq⟩, fun q hq => .tail _ (hsubG _ (.tail _ (hsub9 _ hq))), ?_⟩)
      walk_at "mv"
  · intro g9 m9 tn9 imm9 h9 t9 TT hJ S9
    refine anE3 hJ fun hz169 hsub9 hms => ?_
    clear hJ
    refine exE3 hz169 fun orw v0 psx hz170 => ?_
    clear hz169
    refine anE3 hz170 fun hz171 dr TBx => ?_
    clear hz170
    subst hz171
    have C1 := C.turn TT
    clear C S
    repeat walk_at "n"
    refine c_book ⟨C1, S9.f4, rfl, rfl, R.le (by decide)⟩ ha hb (by decide) (by decide) fun wd a b u v k x h t hwd ha hb S => ?_
    repeat walk_at "n"
    refine c_book (by walk_at "act") ha hb (by decide) (by decide) fun hg a b u v k x h t hhg ha hb S => ?_
    clear S9
    repeat walk_at "n"
    refine s_bytesL (by assumption) (by walk_at "mem") rfl rfl (.cons 1 _ (.cons 2 _ (.cons 1 _ (.cons 0 _ (.cons 72 _ (.cons 0 _ (.cons 72 _ (.cons wd _ (.cons hg _ .nil))))))))) (by intro n hn; simp only [List.mem_cons, List.not_mem_nil, or_false] at hn; omega) (by simp) R.hd fun h t k9 S => ?_
    repeat walk_at "n"
    refine o_catb (x := jname) (by simp [jname]) fun t' k' => ?_
    repeat walk_at "n"
    refine s_storeC S.drop.f3 rfl d1 rfl rfl fun oh h dh S => ?_
    have dh : oh.data = .cell (some (.bytes (headJ wd hg).toArray _)) := dh
    repeat walk_at "n"
    rename_i hM SM tpl htpl STP
    have hob : ∃ vsT immT mT, (vsT.length = 3 ∧ ∀ (i : Nat) (vv : Value), vsT[i]? = some vv → ∃ (z : Int) (tz : Tok), vv = Value.int z tz ∧ z = 3 * wd * hg + (i : Int) - 1) ∧ (tpl, tupO vsT) ∈ immT ∧ (∃ tm, mT "many" = some (.int (3 * wd * hg) tm)) ∧ (∀ q ∈ imm9, q ∈ immT) ∧
        Sta g9 L' mT ((L' + 1, oh) :: (sh, shO a b u v k) :: (L' + 1 + 1 + 1, o3) :: (L' + 1 + 1, orw) :: (302, tabObj psx) :: tn) immT htpl := by
      refine exI3 ⟨⟨rfl, ?_⟩, .head _, ⟨_, by walk_at "mv"⟩, fun q hq => by repeat (first | exact hq | refine List.Mem.tail _ ?_), STP⟩
      rintro (_ | _ | _ | i) vv hv
      · cases hv
        exact ⟨_, _, rfl, by omega⟩
      · cases hv
        exact ⟨_, _, rfl, by omega⟩
      · cases hv
        exact ⟨_, _, rfl, by omega⟩
      · simp at hv
    clear S SM STP
    refine exE3 hob fun vsT immT mT hz172 => ?_
    clear hob
    refine anE5 hz172 fun hz173 hmT hz174 hsubT STP => ?_
    clear hz172
    refine anE2 hz173 fun hTl hTv => ?_
    clear hz173
    refine exE1 hz174 fun tm hmany => ?_
    clear hz174
    refine loop_tupleT (fs := fsO (env :: outer)) (vs := vsT) R.hd (fun i m' tn' imm' => (∃ osz v0 psx, tn' = (L' + 1, oh) :: (sh, shO a b u v k) :: (L' + 1 + 1 + 1, osz) :: (L' + 1 + 1, orw) :: (302, tabObj psx) :: tn ∧ osz.data = .cell v0 ∧ Tab (lamQ "_law_jfif_right") psx imm') ∧ (∀ q ∈ immT, q ∈ imm') ∧ ∃ tm, m' "many" = some (.int (3 * wd * hg) tm))
      rfl rfl (fun i m' tn' imm' hJ => List.mem_append_right _ (hJ.2.1 _ hmT)) (fun _ _ z => z.elim) STP ⟨⟨o3, _, psx, rfl, d3, TBx.mono hsubT⟩, fun q hq => hq, tm, hmany⟩ ?_ ?_
    · intro g12 i vv I oI m12 tn12 imm12 h12 t12 TT2 hv hJ S12
      with_reducible refine absLN fun Q₃ hQ₃ => ?_
      refine anE3 hJ fun hz175 hsub12 hz176 => ?_
      clear hJ
      refine exE3 hz175 fun osz v0 psy hz177 => ?_
      clear hz175
      refine anE3 hz177 fun hz178 dz TBy => ?_
      clear hz177
      subst hz178
      refine exE1 hz176 fun tm12 hmany => ?_
      clear hz176
      have hq9 := hTv i vv hv
      refine exE2 hq9 fun z tz hz179 => ?_
      clear hq9
      refine anE2 hz179 fun hz180 hz => ?_
      clear hz179
      subst hz180
      have hi3 : i < vsT.length := (List.getElem?_eq_some_iff.mp hv).1
      have hm0 : 0 ≤ 3 * wd * hg := Int.mul_nonneg (by omega) hhg.1
      have hm1 : 3 * wd * hg ≤ 9 * 3 := Int.mul_le_mul (by omega) (by omega) hhg.1 (by decide)
      obtain ⟨nn, hnn⟩ : ∃ nn : Nat, (nn : Int) = if z > 0 then z else 0 := ⟨(if z > 0 then z else 0).toNat, Int.toNat_of_nonneg (by split <;> omega)⟩
      have hnl : nn ≤ 100 := by
        have : (nn : Int) ≤ 100 := by rw [hnn]; split <;> omega
        omega
      have hJk := headJ_ok hwd hhg nn
      have C12 := C1.turn TT2
      clear C1 STP
      repeat walk_at "m"
      refine s_storeC S12.f3 rfl dz rfl rfl fun oz h dz' S => ?_
      clear S12 dz
      refine rn_assignN (en_call ?_)
      repeat walk_at "n"
      refine s_lambda C12 S.f5 TBy HC rfl rfl rfl rfl rfl fun f c' ctv ps3 immG h t S hsubG TB3 RC => ?_
      repeat walk_at "n"
      refine c_heard (ok := okR (headJ wd hg ++ List.replicate nn 0)) (RR := fun rv tn' imm' => ∃ x dx, rv = .ref x ∧ (x, instObj 143 dx) ∈ imm' ∧ tn' = (302, tabObj ps3) :: (L' + 1 + 1 + 1, oz) :: (I, oI) :: (L' + 1, oh) :: (sh, shO a b u v k) :: (L' + 1 + 1, orw) :: tn ∧ (∀ q ∈ immG, q ∈ imm')) (n := 18) ⟨C12, S, rfl, rfl, R.le (by decide)⟩ (by walk_at "mem") rfl ?_ ?_ ?_
      · intro A₁ base₁ h₂ h₃ outer₁ env₁ L₁ m₁ t₂ Q₁ E₁ Z₁ hq1 hq2
        refine wpN.call ?_
        refine lamN (cls := .ref 44) (NE := Kept (¬ okR (headJ wd hg ++ List.replicate nn 0)) _) Z₁.C Z₁.S Z₁.hf Z₁.hk Z₁.C.frames Z₁.R (List.mem_append_right _ (.head _)) ((RC.mono fun q hq => .tail _ hq).code Z₁.S) rfl (locs rfl) (by decide) rfl rfl rfl (fun e h' tk news' hk T => hq2 hk.1 e h' tk (T.sub hk.2)) ?_
        intro g₅ L₅ h₅ t₅ Z'
        have C₅ := Z'.C
        have S₅ := Z'.S
        have hf₅ := Z'.hf
        have hk₅ := Z'.hk
        have R₅ := Z'.R
        clear C12 S
        refine wpN.of (e_call ?_)
        repeat walk_at "m"
        refine s_max S₅ R₅.hd fun h t w9 S => ?_
        rw [← hnn]
        repeat walk_at "m"
        refine bytes_int (n := nn) (by omega) fun t' k' => ?_
        have ar : Array.replicate nn (0 : UInt8) = (List.replicate nn 0).toArray := by simp
        rw [ar]
        repeat walk_at "m"
        refine o_catb (by rw [headJ_len, List.length_replicate]; omega) fun t' k' => ?_
        repeat walk_at "m"
        refine c_read_jfif ⟨C₅, S, rfl, rfl, R₅.le (by decide)⟩ (by rw [List.length_append, headJ_len, List.length_replicate]; omega) (fun hne => absurd (headJ_take _ _ _) hne) (fun _ hok x dx imm' h t hsubX hx S => ?_) (fun _ hno e h tk T => Flew.of T hno fun q hq => hq)
        exact Back.mk S fun S => hq1 hok _ _ _ _ _ (exI2 ⟨rfl, hx, rfl, fun q hq => hsubX _ (.tail _ hq)⟩) S
      · intro hok g13 vJ tnJ imm' h t T' hJ S'
        refine exE2 hJ fun x dx hz181 => ?_
        clear hJ
        refine anE4 hz181 fun hz182 hx hz183 hsubJ => ?_
        clear hz181
        subst hz182
        subst hz183
        have C13 := C12.turn T'
        clear S C12
        have hnm := hJk.mp hok
        repeat walk_at "m"
        repeat walk_at "n"
        rename_i hZ SZ
        refine ⟨fun hz0 => ?_, fun hz0 => ?_⟩
        · have hz0 := of_decide_eq_true hz0
          have hzm : z = 3 * wd * hg := by
            rw [hnn] at hnm
            split at hnm <;> omega
          repeat walk_at "m"
          refine eq_inst_str (C13.X.keeps SZ.F.keep) (SZ.get (List.mem_append_right _ hx)) (by have := R.u64; omega) ?_
          repeat walk_at "m"
          refine PyProof.Rows.ne_bool ?_
          repeat walk_at "m"
          refine ⟨fun zz => absurd zz (by rw [hzm]; simp), fun _ => ?_⟩
          exact rn_nilQ hQ₃ (TurnEndT.mk T' SZ.f5.f2.f5.f5.f5 ⟨⟨oz, _, ps3, rfl, dz', TB3.mono hsubJ⟩, fun q hq => hsubJ _ (hsubG _ (hsub12 _ hq)), ⟨_, by walk_at "mv"⟩⟩)
        · refine ⟨fun zz => Bool.noConfusion zz, fun _ => ?_⟩
          exact rn_nilQ hQ₃ (TurnEndT.mk T' SZ.f5.f2.f5.f5.f5 ⟨⟨oz, _, ps3, rfl, dz', TB3.mono hsubJ⟩, fun q hq => hsubJ _ (hsubG _ (hsub12 _ hq)), ⟨_, by walk_at "mv"⟩⟩)
      · intro hno g13 uu h t T' S'
        clear S
        have hnm : ¬ (nn : Int) = 3 * wd * hg := fun q => hno (hJk.mpr q)
        have hz0 : 0 ≤ z := by
          rw [hnn] at hnm
          split at hnm <;> omega
        have hzm : ¬ z = 3 * wd * hg := by
          rw [hnn] at hnm
          split at hnm <;> omega
        repeat walk_at "m"
        repeat walk_at "n"
        rename_i hZ SZ hzd
        refine SeqAt.RcAt.str_str "refused" uu "refused" _ prog w _ _ ?_
        have e : (("refused" : Str) == "refused") = true := by decide
        rw [e]
        repeat walk_at "m"
        refine PyProof.Rows.ne_bool ?_
        repeat walk_at "m"
        refine ⟨fun zz => absurd zz (by simp [hzm]), fun _ => ?_⟩
        exact rn_nilQ hQ₃ (TurnEndT.mk T' SZ.f5.f2.f5.f5.f5 ⟨⟨oz, _, ps3, rfl, dz', TB3.mono fun q hq => .tail _ hq⟩, fun q hq => .tail _ (hsubG _ (hsub12 _ hq)), ⟨_, by walk_at "mv"⟩⟩)
    · intro g12 m12 tn12 imm12 h12 t12 TT2 hJ S12
      refine anE3 hJ fun hz184 hsub12 hz185 => ?_
      clear hJ
      refine exE3 hz184 fun osz v0 psy hz186 => ?_
      clear hz184
      refine anE3 hz186 fun hz187 dz TBy => ?_
      clear hz186
      subst hz187
      refine exE1 hz185 fun tm12 hmany => ?_
      clear hz185
      have C2 := C1.turn TT2
      clear C1 STP
      refine rn_retN (en_and (wpN.of ?_))
      repeat walk_at "m"
      refine c_read_jfif (b := []) ⟨C2, S12, rfl, rfl, R.le (by decide)⟩ (by decide) (fun _ h t S => ?_) (fun h => absurd h (by decide)) (fun h => absurd h (by decide))
      repeat walk_at "m"
      refine e_none ?_
      refine is_none_none ?_
      repeat walk_at "m"
      refine ⟨fun _ => ?_, fun z => Bool.noConfusion z⟩
      refine en_and1 (en_cmp (en_call ?_) rfl)
      repeat walk_at "n"
      refine s_lambda C2 S.f4 TBy HC rfl rfl rfl rfl rfl fun f c' ctv ps3 immG h t S hsubG TB3 RC => ?_
      repeat walk_at "n"
      refine c_heard (ok := False) (RR := fun rv tn' imm' => False) (n := 18) ⟨C2, S, rfl, rfl, R.le (by decide)⟩ (by walk_at "mem") rfl ?_ (fun hn => hn.elim) ?_
      · intro A₁ base₁ h₂ h₃ outer₁ env₁ L₁ m₁ t₂ Q₁ E₁ Z₁ hq1 hq2
        refine wpN.call ?_
        refine lamN (cls := .ref 44) (NE := Kept (¬ False) _) Z₁.C Z₁.S Z₁.hf Z₁.hk Z₁.C.frames Z₁.R (List.mem_append_right _ (.head _)) ((RC.mono fun q hq => .tail _ hq).code Z₁.S) rfl (locs rfl) (by decide) rfl rfl rfl (fun e h' tk news' hk T => hq2 hk.1 e h' tk (T.sub hk.2)) ?_
        intro g₅ L₅ h₅ t₅ Z'
        have C₅ := Z'.C
        have S₅ := Z'.S
        have hf₅ := Z'.hf
        have hk₅ := Z'.hk
        have R₅ := Z'.R
        clear C2 S
        refine wpN.of (e_call ?_)
        repeat walk_at "m"
        refine t_sliceb S₅ .none (.int _ _) (by rw [headJ_len]; decide) (fun h t q S => ?_) (fun _ => by with_unfolding_all rfl) (fun _ => by with_unfolding_all rfl)
        have e13 : List.take ((some (13 : Int)).elim (headJ wd hg).length (clipAt (headJ wd hg).length) - (none : Option Int).elim 0 (clipAt (headJ wd hg).length)) (List.drop ((none : Option Int).elim 0 (clipAt (headJ wd hg).length)) (headJ wd hg)) = (headJ wd hg).take 13 := by
          show List.take (clipAt (headJ wd hg).length ((13 : Nat) : Int) - 0) (List.drop 0 (headJ wd hg)) = _
          rw [clipAt_nat, headJ_len, List.drop_zero, Nat.sub_zero]
          rfl
        rw [e13]
        repeat walk_at "m"
        refine c_read_jfif ⟨C₅, S, rfl, rfl, R₅.le (by decide)⟩ (by rw [List.length_take, headJ_len]; decide) (fun hne => absurd rfl hne) (fun _ hok => absurd hok (headJ_cut _ _)) (fun _ hno e h tk T => Flew.of T (fun z => z) fun q hq => hq)
      · intro _ g13 uu h t T' S'
        clear S
        repeat walk_at "m"
        refine SeqAt.RcAt.str_str "refused" uu "refused" _ prog w _ _ ?_
        have e : (("refused" : Str) == "refused") = true := by decide
        rw [e]
        exact hQ₀ _ _ (BackT.mk ((TT.trans TT2).trans T') S' fun h₀' T₀ S₀ => hQ _ _ _ _ _ _ T₀ S₀.d1.f2.drop.f2.drop)
end

section
variable {M : Model} {A : Around} {E : Value → Shared → Prop} {env : Env} {s : Shared}
theorem n_plain {e : Expr} {whole : Sem Value} {Q : Bool → Shared → Prop} (h : wpN M A whole (fun v s₁ => wpAny M A (truthy v) Q E s₁) E s)
    (he : PySem.isTrue e env whole = (do let v ← whole; standAt e.pos; holding [v] (truthy v))) : wpN M A (PySem.isTrue e env whole) Q E s := by
  rw [he]
  exact wpN.bind (wpN.mono h (fun v s₁ h₁ => wpN.bind (wpN.standAt (wpN.of (wpAny_holding h₁)))) fun _ _ x => x)
end
section
variable {prog : Program} {w : World} {p : Program} {loose : List Str} {mean : ExcName → Option Value} {mg mb : Str → Option Value} {h : Heap} {G : Array GenState} {D : Drawn} {t : Nat} {O : OsState} {tabs : List (Addr × Addr)}
  {R : Result → Shared → Prop} {name qual : Str} {params : Arguments} {body : List Stmt} {scope : Scope} {dV kV doc pm cdv ct oc : Value} {an od : Option Addr} {osl : Array (Option Value)} {f : Addr} {args : List Value} {binds : List (Str × Value)}
abbrev looseT (p : Program) (loose : List Str) : List Str := loose ++ (recsOf p).map (·.name) ++ (litsOf p).map (·.1) ++ (clssOf p loose).map (·.name)
/-- a def with cells called by the judge's caller, the tables of code hidden from the ground -/
theorem codeTop (X : (KH w.params).In h) (T : Top p loose mean mg mb h) (hT : TabsAt tabs h) (hK : noTabs (KH w.params) = true) (hS : Sep (tabNews tabs) [])
    (ho : (KH w.params).lookup f = some ⟨oc, od, .func (fnX name qual params body scope [] dV kV doc pm an cdv ct), osl⟩) (hcd : codeIn (KH w.params) cdv qual = true)
    (hbind : bindArgs (fnX name qual params body scope [] dV kV doc pm an cdv ct) ⟨args, []⟩ = pure binds)
    (hkind : ∀ n, ∀ x ∈ binds, scope.names.lookup x.1 = some .local ∨ (scope.names.lookup x.1 = some .cell ∧ ((cellsFrom n scope.names []).lookup x.1).isSome = true))
    (hnd : ((cellsFrom 0 scope.names []).map (·.1)).Nodup) (hco : scope.isCoroutine = false) (hgen : scope.isGenerator = false) (hk : scope.kind = .function)
    (hb : ∀ L' h₁ t₁ cells, CellsAre (bindC (envOfC qual scope L' f cdv).kindOf binds fun _ => none) (cellsFrom (L' + 1) scope.names []) cells → (∀ q ∈ tabNews tabs, q.1 < L') →
      Cx (KH w.params) topProg (looseT p loose) mean mg mb callerA (ghostOf h tabs) (ghostOf h tabs) [] → Fr (ghostOf h tabs) L' h₁ (bindL (envOfC qual scope L' f cdv).kindOf binds fun _ => none) → News (ghostOf h tabs) L' h₁ (cells ++ tabNews tabs) → Room (callerA.deeper (envX qual scope L' f cdv (cellsFrom (L' + 1) scope.names []))) 25 →
      wpN (model prog w) (callerA.deeper (envX qual scope L' f cdv (cellsFrom (L' + 1) scope.names []))) (execs body (envX qual scope L' f cdv (cellsFrom (L' + 1) scope.names [])))
        (fun fl s' => R (.ok (.ret (fv fl))) s') (fun _ _ => False) ⟨h₁, G, D, t₁, O⟩) :
    codeN (model prog w) callerA (.call (.ref f) ⟨args, []⟩) R ⟨h, G, D, t, O⟩ := by
  refine codeN_call_function (fd := fnX name qual params body scope [] dV kV doc pm an cdv ct) (body := body) (by decide) (X _ _ ho) rfl hco hgen rfl (codeRec_of X hcd) (BindsTo.of_eq (s := ⟨h, G, D, t, O⟩) hbind _ _ _ _ ?_)
  refine wpAny_newFunctionEnv_cells hk (hkind _) fun env' he s' x => ?_
  subst he
  refine ⟨T.nolimit.keeps x.toInCall.keep, codeN_func ?_⟩
  obtain ⟨h₁, tk, rfl, _⟩ := x.done
  have hk₁ := x.toInCall.keep
  obtain ⟨cells, NC, Y⟩ := Cl.news (h₀ := h) (Nat.le_refl _) fun n c hm => ⟨x.cell n c (lookup_of_mem_nodup (cellsFrom_names scope.names 0 (h.objs.size + 1) [] [] rfl ▸ hnd) hm), x.above n c hm⟩
  have F : Fr h h.objs.size h₁ (bindL (envOfC qual scope h.objs.size f cdv).kindOf binds fun _ => none) := ⟨x.toInCall.ns, hk₁, Nat.le_refl _⟩
  have C : Cx (KH w.params) topProg (looseT p loose) mean mg mb callerA (ghostOf h tabs) (ghostOf h tabs) [] := ⟨ghost_below hT, ghost_K hT X hK, ghost_top hT T, fun b hb => by cases hb⟩
  refine wpN.mono (hb h.objs.size h₁ tk cells Y (ghost_lt hT F) C (ghost_fr hT F) (ghost_news hT F NC) (Room.deeper (n := 25) ⟨rfl, by decide, by decide⟩)) (fun fl s' hl => ?_) fun _ _ x => x.elim
  cases fl <;> exact hl
end

abbrev tabsL : List (Addr × Addr) := [(306, 302), (299, 295), (292, 290), (287, 285), (311, 309)]
theorem pair_nil {T : Type} {imm : List (Addr × Obj)} {enc : T → List UInt8} {dat : T → Dat} : PairAll imm enc dat [] [] := ⟨rfl, fun i v h => by simp at h⟩
theorem pair_snoc {T : Type} {imm imm' : List (Addr × Obj)} {enc : T → List UInt8} {dat : T → Dat} {vs : List Value} {ts : List T} {x : T} {P Tb : Addr} {u : Tok} (H : PairAll imm enc dat vs ts) (hs : ∀ q ∈ imm, q ∈ imm') (hP : (P, tupO [Value.ref Tb, Value.bytes (enc x).toArray u]) ∈ imm') (hT : DatIn imm' (.ref Tb) (dat x)) : PairAll imm' enc dat (vs ++ [Value.ref P]) (ts ++ [x]) := by
  refine ⟨by simp [H.1], fun i v h => ?_⟩
  by_cases hi : i < vs.length
  · rw [List.getElem?_append_left hi] at h
    obtain ⟨t, P', Tb', u', k', e1, e2, e3, e4⟩ := H.2 i v h
    exact ⟨t, P', Tb', u', k', by rw [List.getElem?_append_left (by rw [← H.1]; exact hi)]; exact e1, e2, hs _ e3, e4.mono hs⟩
  · have hl : i < (vs ++ [Value.ref P]).length := (List.getElem?_eq_some_iff.mp h).1
    rw [List.length_append, List.length_singleton] at hl
    have hi' : i = vs.length := by omega
    subst hi'
    rw [List.getElem?_append_right (Nat.le_refl _), Nat.sub_self] at h
    cases h
    exact ⟨x, P, Tb, u, 0, by rw [H.1, List.getElem?_append_right (Nat.le_refl _), Nat.sub_self]; rfl, rfl, hP, hT⟩
theorem pair_mono {T : Type} {imm imm' : List (Addr × Obj)} {enc : T → List UInt8} {dat : T → Dat} {vs : List Value} {ts : List T} (H : PairAll imm enc dat vs ts) (hs : ∀ q ∈ imm, q ∈ imm') : PairAll imm' enc dat vs ts :=
  ⟨H.1, fun i v h => let ⟨t, P, Tb, u, k, e1, e2, e3, e4⟩ := H.2 i v h; ⟨t, P, Tb, u, k, e1, e2, hs _ e3, e4.mono hs⟩⟩
theorem flat_le {T : Type} {enc : T → List UInt8} {c : Nat} {ts : List T} (h : ∀ t ∈ ts, (enc t).length ≤ c) (hn : ts.length ≤ 3) (hc : 3 * c ≤ 400) : (ts.flatMap enc).length ≤ 400 := by
  have := flat_len (f := enc) (c := c) (l := ts) h
  have h2 : c * ts.length ≤ c * 3 := Nat.mul_le_mul_left _ hn
  omega
theorem with_lam {P : Prop} {f L : Addr} {fo : Obj} {h₀ h : Heap} {m : Str → Option Value} {tn imm : List (Addr × Obj)} (S : Sta h₀ L m tn ((f, fo) :: imm) h) (k : ∀ fo', fo' = fo → Sta h₀ L m tn ((f, fo') :: imm) h → P) : P := k fo rfl S
section
variable {prog : Program} {w : World} {p : Program} {loose : List Str} {mean : ExcName → Option Value} {mg mb : Str → Option Value} {h : Heap} {G : Array GenState} {D : Drawn} {t : Nat} {O : OsState} {l : Addr} {vs : List Value} {ns : List Int}
/-- the law, called by the judge's caller -/
theorem law_runs (X : (KH w.params).In h) (T : Top p loose mean mg mb h) (hT : TabsAt tabsL h) (hl : h.IsList l vs.toArray) (hi : IntsAre vs ns) (hz : vs.length ≤ 1000) :
    codeN (model prog w) callerA (.call (.ref 312) ⟨[.ref l], []⟩) (fun r s' => r = .ok (.ret (.bool true)) ∧ (∀ b o, (ghostOf h tabsL).get? b = some o → s'.heap.get? b = some o) ∧ s'.os = O ∧ s'.gens = G ∧ GrownAll tabsL s'.heap) ⟨h, G, D, t, O⟩ := by
  have hS : Sep (tabNews tabsL) [] := by simp [Sep, tabsL]
  refine' codeTop (binds := [("script", .ref l)]) X T hT ?k0 hS ?k1 ?k2 ?k3 ?k4 ?k5 ?k6 ?k7 ?k8 ?_
  case k0 => kernel_rfl
  case k1 => k_is
  case k2 => k_is
  case k3 => exact rfl
  case k4 => intro n x hx; simp at hx; subst hx; exact .inl rfl
  case k5 => decide
  case k6 => exact rfl
  case k7 => exact rfl
  case k8 => exact rfl
  intro L' h₁ t₁ cells Y lt C F N R
  obtain ⟨o2, o1, rfl, d2, d1⟩ := PyProof.Rows.CellsAre.two Y
  have hlb := ghost_list hT hl
  obtain ⟨H302, H295, H290, H285, H309, _⟩ := ghost_code hT
  generalize hgr : ghostOf h tabsL = base at C F N hlb H302 H295 H290 H285 H309
  have S : Sta base L' (upd (fun _ => none) "script" (.ref l)) [(L' + 1 + 1, o2), (L' + 1, o1), (302, tabObj #[]), (295, tabObj #[]), (290, tabObj #[]), (285, tabObj #[]), (309, tabObj #[])] [] h₁ :=
    ⟨F, N, sep_c2 (tn := tabNews tabsL) (imm := []) (by simpa using lt) hS (Nat.lt_succ_of_lt (Nat.lt_succ_self _)) (Nat.lt_succ_self _) (Nat.ne_of_lt (Nat.lt_succ_self _))⟩
  clear F N lt Y hS
  with_reducible refine absQN fun Q₀ hQ₀ => ?_
  repeat walk_at "n"
  refine c_shelf ⟨C, S, rfl, rfl, R.le (by decide)⟩ hlb hi hz fun sh a b u v h t ha hb S => ?_
  repeat walk_at "n"
  refine s_storeC S.f2 rfl d1 rfl rfl fun oS h dS S => ?_
  replace S := S.freeze
  clear d1
  repeat walk_at "n"
  refine c_book ⟨C, S, rfl, rfl, R.le (by decide)⟩ ha hb (by decide) (by decide) fun r1 a b u v k x h t hr1 ha hb S => ?_
  repeat walk_at "n"
  refine c_book ⟨C, S, rfl, rfl, R.le (by decide)⟩ ha hb (by decide) (by decide) fun r2 a b u v k x h t hr2 ha hb S => ?_
  repeat walk_at "n"
  obtain ⟨sd, hsd⟩ : ∃ sd : Nat, (sd : Int) = 1 + r2 := ⟨(1 + r2).toNat, Int.toNat_of_nonneg (by omega)⟩
  obtain ⟨mn, hmn⟩ : ∃ mn : Nat, (mn : Int) = 1 + r1 := ⟨(1 + r1).toNat, Int.toNat_of_nonneg (by omega)⟩
  rw [← hsd]
  refine s_storeC (Sta.f1 (by assumption)) rfl d2 rfl rfl fun oD h dD S => ?_
  replace S := S.freeze
  clear d2
  repeat walk_at "m"
  have hsd1 : 1 ≤ sd ∧ sd ≤ 3 := by omega
  have hmn1 : 1 ≤ mn ∧ mn ≤ 3 := by omega
  refine rn_ifL (n_not (n_plain (en_call ?_) rfl))
  repeat walk_at "n"
  refine s_lambda C S.f5 (Tab.nil (qual := lamQ "law")) H309 rfl rfl rfl rfl rfl fun f c' ctv p309 immF h t S hsubF TBF RC => ?_
  refine with_lam S fun fo hfo S => ?_
  obtain ⟨oc, vsc, tc, hrc, hrd, hrv⟩ := RC
  have hside : (L' + 1 + 1, oD) ∈ immF := hsubF _ (.head _)
  have hshelf : (L' + 1, oS) ∈ immF := hsubF _ (.tail _ (.tail _ (.head _)))
  have HRQ : ReadsBy prog w topProg (looseT p loose) mean mg mb G D O (.ref f) [(f, fo), (c', oc), (L' + 1 + 1, oD)] (rdQ sd) := by
    rw [hfo]
    intro A₁ base₁ h₂ h₃ outer₁ env₁ L₁ m₁ tn₁ imm₁ t₂ b₁ tb₁ Q₁ E₁ Z₁ hn hb₁ hq1 hq2
    have hs₁ := hn _ (.tail _ (.tail _ (.head _)))
    refine wpN.call ?_
    refine lamN (cls := .ref 44) (binds := [("octets", .bytes b₁.toArray tb₁)]) (NE := Kept (rdQ sd b₁ = none) (tn₁ ++ imm₁)) Z₁.C Z₁.S Z₁.hf Z₁.hk Z₁.C.frames Z₁.R (List.mem_append_right _ (hn _ (.head _))) (Rec.code ⟨oc, vsc, tc, hn _ (.tail _ (.head _)), hrd, hrv⟩ Z₁.S) rfl (locs rfl) (by decide) rfl rfl rfl (fun e h' tk news' hk T => hq2 hk.1 e h' tk (T.sub hk.2)) ?_
    intro g₅ L₅ h₅ t₅ Z'
    have C₅ := Z'.C
    have S₅ := Z'.S
    have hf₅ := Z'.hf
    have hk₅ := Z'.hk
    have R₅ := Z'.R
    clear C S
    refine wpN.of (e_call ?_)
    repeat walk_at "m"
    refine c_read_quant ⟨C₅, S₅, rfl, rfl, R₅.le (by decide)⟩ hsd1 hb₁ (fun ds hds fl vs0 k0 imm4 h t hsub4 hD4 S => ?_) (fun hno e h tk T => Flew.of T hno fun q hq => hq)
    exact Back.mk S fun S => hq1 ds hds _ _ _ _ _ _ hsub4 hD4 S
  have HMQ : MayCall w prog (.ref f) [(f, fo), (c', oc), (L' + 1 + 1, oD)] := MayCall.ofF (.head _) ((congrArg Obj.data hfo).trans rfl)
  clear hfo
  repeat walk_at "n"
  refine comp_range (N := 1 + r1) (n := mn) hmn.symm R.hd (fun i ys tn' imm' => ∃ a b u v k ts, tn' = [(309, tabObj p309), (sh, shO a b u v k), (302, tabObj #[]), (295, tabObj #[]), (290, tabObj #[]), (285, tabObj #[])] ∧ (∀ q ∈ (f, fo) :: immF, q ∈ imm') ∧ 0 ≤ a ∧ 0 ≤ b ∧ PairAll imm' TQ.enc TQ.dat ys ts ∧ ts.length = i ∧ ∀ x ∈ ts, x.ok ∧ x.ds.length = sd * sd) (by omega) (by decide) rfl (by assumption) (by walk_at "mem") ?_ ?_ ?_
  · exact exI6 (x0 := a) (x1 := b) (x2 := u) (x3 := v) (x4 := k) (x5 := []) ⟨rfl, fun q hq => .tail _ hq, ha, hb, pair_nil, rfl, by simp⟩
  · intro I D' Cc i tk oI ys k9 oN mc tn9 imm9 h9 t9 hi9 hys hJ N9 S9
    with_reducible refine absC fun Q₃ hQ₃ => ?_
    refine exE6 hJ fun a b u v k ts hz188 => ?_
    clear hJ
    refine anE7 hz188 fun hz189 hsub9 ha hb hP9 htl hts => ?_
    clear hz188
    subst hz189
    have hside9 := hsub9 _ (.tail _ hside)
    have hshelf9 := hsub9 _ (.tail _ hshelf)
    repeat walk_at "m"
    refine g_store S9.f2 N9 rfl rfl rfl fun oN' h N' S => ?_
    repeat walk_at "m"
    refine c_divisors ⟨C, S.f4, rfl, rfl, R.le (by decide)⟩ ha hb hsd1 fun tb a b u v k P Tb ux imm' h t hok hlen ha hb hsub hD hP S => ?_
    refine hQ₃.to (CompEnd.mk N' S.f4.f2.f4.f4 (exI6 (x5 := ts ++ [tb]) ⟨rfl, fun q hq => hsub _ (hsub9 q hq), ha, hb, pair_snoc hP9 hsub hP hD, by simp [htl], fun x hx => ?_⟩))
    rcases List.mem_append.mp hx with hx | hx
    · exact hts x hx
    · rw [List.mem_singleton.mp hx]
      exact ⟨hok, hlen⟩
  intro ml Cc ys k9 oN mc tn9 imm9 h9 t9 hys hJ N9 S9
  refine exE6 hJ fun a b u v k ts hz190 => ?_
  clear hJ
  refine anE7 hz190 fun hz191 hsub9 ha hb hP9 htl hts => ?_
  clear hz190
  subst hz191
  refine comp_post N9 S9 fun h S => ?_
  replace S := S.freeze
  clear N9 S9
  repeat walk_at "n"
  obtain ⟨q2, q3, q4⟩ := cutQ (n := sd) ts hts
  have hshelf9 := hsub9 _ (.tail _ hshelf)
  refine c_cuts (ts := ts) (okT := TQ.ok) (enc := TQ.enc) (dat := TQ.dat) (rd := rdQ sd) ⟨C, S.f5, rfl, rfl, R.le (by decide)⟩ H285 Tab.nil ?_ HMQ (MayCall.ofK (by k_is)) HRQ writes_quant (.head _) rfl rfl (pair_mono hP9 fun q hq => .tail _ hq) (fun x hx => (hts x hx).1) (by omega) (by omega) ?_ ?_ rfl q2 q3 q4 fun g1 p285 imm1 h t T1 hsub1 TB1 S => ?_
  · intro q hq
    simp only [List.mem_cons, List.not_mem_nil, or_false] at hq
    rcases hq with rfl | rfl | rfl
    · exact .tail _ (hsub9 _ (.head _))
    · exact .tail _ (hsub9 _ (.tail _ hrc))
    · exact .tail _ (hsub9 _ (.tail _ hside))
  · exact flat_le (c := 19) (fun x hx => TQ.len (hts x hx).1) (by omega) (by decide)
  · intro x hx
    simp [dep, TQ.dat, qDat]
  have C1 := C.turn T1
  have hshelf1 := hsub1 _ (.tail _ hshelf9)
  clear HRQ HMQ q2 q3 q4 C hside hshelf hshelf9
  repeat walk_at "m"
  refine ⟨fun z => Bool.noConfusion z, fun _ => ?_⟩
  refine rn_ifL (n_not (n_plain (en_call ?_) rfl))
  repeat walk_at "n"
  refine comp_range (N := 1 + r1) (n := mn) hmn.symm R.hd (fun i ys tn' imm' => ∃ a b u v k ts, tn' = [(285, tabObj p285), (309, tabObj p309), (sh, shO a b u v k), (302, tabObj #[]), (295, tabObj #[]), (290, tabObj #[])] ∧ (∀ q ∈ imm1, q ∈ imm') ∧ 0 ≤ a ∧ 0 ≤ b ∧ PairAll imm' TH.enc TH.dat ys ts ∧ ts.length = i ∧ ∀ x ∈ ts, (x.ok ∧ x.fit) ∧ x.sy.length ≤ 18) (by omega) (by decide) rfl (by assumption) (by walk_at "mem") ?_ ?_ ?_
  · exact exI6 (x0 := a) (x1 := b) (x2 := u) (x3 := v) (x4 := k) (x5 := []) ⟨rfl, fun q hq => .tail _ hq, ha, hb, pair_nil, rfl, by simp⟩
  · intro I D' Cc i tk oI ys k9 oN mc tn9 imm9 h9 t9 hi9 hys hJ N9 S9
    with_reducible refine absC fun Q₃ hQ₃ => ?_
    refine exE6 hJ fun a b u v k ts hz192 => ?_
    clear hJ
    refine anE7 hz192 fun hz193 hsub9 ha hb hP9 htl hts => ?_
    clear hz192
    subst hz193
    have hshelf9 := hsub9 _ hshelf1
    repeat walk_at "m"
    refine g_store S9.f2 N9 rfl rfl rfl fun oN' h N' S => ?_
    repeat walk_at "m"
    refine c_codes ⟨C1, S.f5, rfl, rfl, R.le (by decide)⟩ ha hb fun tb a b u v k P Tb ux imm' h t hok hfit hsy ha hb hsub hD hP S => ?_
    refine hQ₃.to (CompEnd.mk N' S.f5.f5.f3.f5.f5 (exI6 (x5 := ts ++ [tb]) ⟨rfl, fun q hq => hsub _ (hsub9 q hq), ha, hb, pair_snoc hP9 hsub hP hD, by simp [htl], fun x hx => ?_⟩))
    rcases List.mem_append.mp hx with hx | hx
    · exact hts x hx
    · rw [List.mem_singleton.mp hx]
      exact ⟨⟨hok, hfit⟩, hsy⟩
  intro ml2 Cc ys k9 oN mc tn9 imm9 h9 t9 hys hJ N9 S9
  refine exE6 hJ fun a b u v k ts hz194 => ?_
  clear hJ
  refine anE7 hz194 fun hz195 hsub9 ha hb hP9 htl hts => ?_
  clear hz194
  subst hz195
  refine comp_post N9 S9 fun h S => ?_
  replace S := S.freeze
  clear N9 S9
  repeat walk_at "n"
  obtain ⟨q2, q3, q4⟩ := cutH ts fun x hx => (hts x hx).1
  refine c_cuts (ts := ts) (okT := fun x => x.ok ∧ x.fit) (enc := TH.enc) (dat := TH.dat) (rd := rdH) (need := []) ⟨C1, S, rfl, rfl, R.le (by decide)⟩ H285 (TB1.mono fun q hq => .tail _ (hsub9 _ hq)) (fun q hq => by cases hq) (MayCall.ofK (by k_is)) (MayCall.ofK (by k_is)) reads_huff writes_huff (.head _) rfl rfl (pair_mono hP9 fun q hq => .tail _ hq) (fun x hx => (hts x hx).1) (by omega) (by omega) ?_ ?_ rfl q2 q3 q4 fun g2 p285 imm2 h t T2 hsub2 TB2 S => ?_
  · refine flat_le (c := 35) (fun x hx => ?_) (by omega) (by decide)
    have h1 := (hts x hx).2
    have h2 := (hts x hx).1.2.1
    unfold TH.enc
    rw [List.length_append, List.length_cons, List.length_map]
    omega
  · intro x hx
    simp [dep, TH.dat, hDat]
  have C2 := C1.turn T2
  have hshelf2 := hsub2 _ (.tail _ (hsub9 _ hshelf1))
  clear q2 q3 q4 C1 hshelf1
  repeat walk_at "m"
  refine ⟨fun z => Bool.noConfusion z, fun _ => ?_⟩
  refine rn_ifL (n_not (n_plain (en_call ?_) rfl))
  repeat walk_at "n"
  refine comp_range (N := 1 + r1) (n := mn) hmn.symm R.hd (fun i ys tn' imm' => ∃ a b u v k ts, tn' = [(285, tabObj p285), (309, tabObj p309), (sh, shO a b u v k), (302, tabObj #[]), (295, tabObj #[]), (290, tabObj #[])] ∧ (∀ q ∈ imm2, q ∈ imm') ∧ 0 ≤ a ∧ 0 ≤ b ∧ PairAll imm' TC.enc TC.dat ys ts ∧ ts.length = i ∧ ∀ x ∈ ts, x.ok) (by omega) (by decide) rfl (by assumption) (by walk_at "mem") ?_ ?_ ?_
  · exact exI6 (x0 := a) (x1 := b) (x2 := u) (x3 := v) (x4 := k) (x5 := []) ⟨rfl, fun q hq => .tail _ hq, ha, hb, pair_nil, rfl, by simp⟩
  · intro I D' Cc i tk oI ys k9 oN mc tn9 imm9 h9 t9 hi9 hys hJ N9 S9
    with_reducible refine absC fun Q₃ hQ₃ => ?_
    refine exE6 hJ fun a b u v k ts hz196 => ?_
    clear hJ
    refine anE7 hz196 fun hz197 hsub9 ha hb hP9 htl hts => ?_
    clear hz196
    subst hz197
    have hshelf9 := hsub9 _ hshelf2
    repeat walk_at "m"
    refine g_store S9.f2 N9 rfl rfl rfl fun oN' h N' S => ?_
    repeat walk_at "m"
    refine c_bound ⟨C2, S.f5, rfl, rfl, R.le (by decide)⟩ ha hb fun tb a b u v k P Tb ux imm' h t hok ha hb hsub hD hP S => ?_
    refine hQ₃.to (CompEnd.mk N' S.f5.f5.f3.f5.f5 (exI6 (x5 := ts ++ [tb]) ⟨rfl, fun q hq => hsub _ (hsub9 q hq), ha, hb, pair_snoc hP9 hsub hP hD, by simp [htl], fun x hx => ?_⟩))
    rcases List.mem_append.mp hx with hx | hx
    · exact hts x hx
    · rw [List.mem_singleton.mp hx]
      exact hok
  intro ml3 Cc ys k9 oN mc tn9 imm9 h9 t9 hys hJ N9 S9
  refine exE6 hJ fun a b u v k ts hz198 => ?_
  clear hJ
  refine anE7 hz198 fun hz199 hsub9 ha hb hP9 htl hts => ?_
  clear hz198
  subst hz199
  refine comp_post N9 S9 fun h S => ?_
  replace S := S.freeze
  clear N9 S9
  repeat walk_at "n"
  obtain ⟨q2, q3, q4⟩ := cutC ts hts
  refine c_cuts (ts := ts) (okT := TC.ok) (enc := TC.enc) (dat := TC.dat) (rd := rdC) (need := []) ⟨C2, S, rfl, rfl, R.le (by decide)⟩ H285 (TB2.mono fun q hq => .tail _ (hsub9 _ hq)) (fun q hq => by cases hq) (MayCall.ofK (by k_is)) (MayCall.ofK (by k_is)) reads_cond writes_cond (.head _) rfl rfl (pair_mono hP9 fun q hq => .tail _ hq) hts (by omega) (by omega) ?_ ?_ rfl q2 q3 q4 fun g3 p285 imm3 h t T3 hsub3 TB3 S => ?_
  · exact flat_le (c := 2) (fun x hx => Nat.le_refl _) (by omega) (by decide)
  · intro x hx
    simp [dep, TC.dat, cDat]
  have C3 := C2.turn T3
  have hshelf3 := hsub3 _ (.tail _ (hsub9 _ hshelf2))
  clear q2 q3 q4 C2 hshelf2
  repeat walk_at "m"
  refine ⟨fun z => Bool.noConfusion z, fun _ => ?_⟩
  refine rn_retN (en_and (en_call ?_))
  repeat walk_at "n"
  refine c_counts ⟨C3, S.f5, rfl, rfl, R.le (by decide)⟩ H290 Tab.nil fun g4 p290 imm4 h t T4 hsub4 S => ?_
  have C4 := C3.turn T4
  have hshelf4 := hsub4 _ hshelf3
  clear C3 hshelf3
  repeat walk_at "m"
  refine ⟨fun _ => ?_, fun z => Bool.noConfusion z⟩
  refine en_and (en_call ?_)
  repeat walk_at "n"
  refine c_book ⟨C4, S.f3, rfl, rfl, R.le (by decide)⟩ ha hb (by decide) (by decide) fun kd a b u v k x h t hkd ha hb S => ?_
  repeat walk_at "n"
  refine c_values ⟨C4, S.f5, rfl, rfl, R.le (by decide)⟩ H295 Tab.nil (by omega) fun g5 p295 imm5 h t T5 hsub5 S => ?_
  have C5 := C4.turn T5
  have hshelf5 := hsub5 _ hshelf4
  clear C4 hshelf4
  repeat walk_at "m"
  refine ⟨fun _ => ?_, fun z => Bool.noConfusion z⟩
  refine en_and1 (en_call ?_)
  repeat walk_at "n"
  refine c_jfif_right ⟨C5, S.f1.f5, rfl, rfl, R.le (by decide)⟩ H302 Tab.nil ha hb fun g6 p302 os imm6 h t T6 S => ?_
  have TT := ((((T1.trans T2).trans T3).trans T4).trans T5).trans T6
  refine hQ₀ _ _ ⟨rfl, fun b o e => ?_, rfl, rfl, ?_⟩
  · exact S.F.keep _ _ (TT.other b o e (fun hm => by cases hm))
  · exact ⟨⟨p302, S.get (.head _)⟩, ⟨p295, S.get (.tail _ (.tail _ (.head _)))⟩, ⟨p290, S.get (.tail _ (.tail _ (.tail _ (.head _))))⟩, ⟨p285, S.get (.tail _ (.tail _ (.tail _ (.tail _ (.head _)))))⟩, ⟨p309, S.get (.tail _ (.tail _ (.tail _ (.tail _ (.tail _ (.head _))))))⟩, trivial⟩
end

theorem oldK_of {tabs : List (Addr × Addr)} {h h' : Heap} (hT : TabsAt tabs h) (keep : ∀ b o, (ghostOf h tabs).get? b = some o → h'.get? b = some o) (gr : GrownAll tabs h') : OldK h h' := by
  have k1 : ∀ b o, b ∉ tabs.map (·.2) → h.get? b = some o → h'.get? b = some o := fun b o hb e => keep b o (ghost_ne e hb)
  have k2 : ∀ b o, b ∈ tabs.map (·.2) → h.get? b = some o → isCodeTable h b ∧ o = tabObj #[] ∧ ∃ ps, h'.get? b = some (tabObj ps) := fun b o hb e => by
    obtain ⟨q, hq, rfl⟩ := List.mem_map.mp hb
    have e2 := (hT q hq).2
    rw [e] at e2
    exact ⟨((hT q hq).1.tab (hT q hq).2).isCodeTable, Option.some.inj e2, gr.get q hq⟩
  refine ⟨fun b o e => ?_, fun b o e => ?_⟩
  · by_cases hb : b ∈ tabs.map (·.2)
    · obtain ⟨ht, rfl, ps, hP⟩ := k2 b o hb e
      exact .inr (.inl ⟨ht, rfl, #[], ps, rfl, by rw [Array.empty_append]; exact hP⟩)
    · exact .inl (k1 b o hb e)
  · by_cases hb : b ∈ tabs.map (·.2)
    · obtain ⟨_, _, ps, hP⟩ := k2 b o hb e
      exact ⟨_, hP⟩
    · exact ⟨o, k1 b o hb e⟩
theorem holds : PySem.Challenge.rw_pf0238_01.Holds := by
  refine hd fun d kwd hdk => ?_
  intro w s₀ s₁ mg mb Gr Y fa o pm cd doc dV kV ho hd hcd hD hmg hg args vals as hpre hlay hrd hwl hlo
  have hdn : d.name = Str.ofString "law" := defOf_name hdk
  rw [hdn] at hmg
  have X : (KH w.params).In s₁.heap := km_in_of Y
  have hT8 := km_tabs_of Y
  refine Ground.open Gr ?_
  intro T B D TE TW
  have hT : TabsAt tabsL s₁.heap := by
    refine List.forall_mem_cons.mpr ⟨⟨codeHd_of_K X (by kernel_rfl), hT8 302 (by simp)⟩, List.forall_mem_cons.mpr ⟨⟨codeHd_of_K X (by kernel_rfl), hT8 295 (by simp)⟩, List.forall_mem_cons.mpr ⟨⟨codeHd_of_K X (by kernel_rfl), hT8 290 (by simp)⟩, List.forall_mem_cons.mpr ⟨⟨codeHd_of_K X (by kernel_rfl), hT8 285 (by simp)⟩, List.forall_mem_cons.mpr ⟨⟨codeHd_of_K X (by kernel_rfl), hT8 309 (by simp)⟩, fun _ h => nomatch h⟩⟩⟩⟩⟩
  have hfa : fa = 312 := by
    have e := mg_of (v := .ref 312) X T.g (n := "law") (by kernel_rfl)
    have e2 := hmg.symm.trans e
    cases e2
    rfl
  subst hfa
  clear hmg ho hd hcd hD B D TE TW Y hT8 hdk hdn
  wrow_args hpre hlay hrd hwl hlo
  rename_i hL ra w1 r0 hI hrd9 hc1 hc2
  have hn := hI.length
  refine wpN.call (codeN.mono (law_runs (h := s₁.heap) (G := s₁.gens) (D := s₁.drawn) (t := s₁.toks) (O := s₁.os) X T hT hL hI (by omega)) fun r s' ⟨hr, hk, hos, hgs, hgr⟩ => ?_)
  subst hr
  refine ⟨.inl ⟨.bool true, .bool true, [], rfl, fun cls => rfl, ReadsW.bool true, ?_, fun _ => ⟨List.nodup_nil, by simp⟩⟩, oldK_of hT hk hgr, hos, ?_⟩
  · wrow_post
  · exact .of_eq (hgs.trans hg)

end Mine
theorem PySem.Challenge.cw_pf0238_01_holds : PySem.Challenge.rw_pf0238_01.Holds := by
  exact Mine.holds

import PyProof.Rows.All
import Wide.All
import OpenK.AllK
import Wide.FinOn
import KE.KTryMore
import PySem.Challenge.RW_tg0033_01
set_option Elab.async false
section
open PySem PySem.W PyProof.Rows
namespace Mine

/-! what stands in a row of claims is taken apart at once (each casesOn would copy the rest) -/
theorem e1 {α1 : Type} {P : α1 → Prop} {p : Prop} (h : ∃ x1, P x1) (k : ∀ x1, P x1 → p) : p := h.elim fun x1 h => k x1 h
theorem e2 {α1 α2 : Type} {P : α1 → α2 → Prop} {p : Prop} (h : ∃ x1 x2, P x1 x2) (k : ∀ x1 x2, P x1 x2 → p) : p := h.elim fun x1 h => h.elim fun x2 h => k x1 x2 h
theorem e3 {α1 α2 α3 : Type} {P : α1 → α2 → α3 → Prop} {p : Prop} (h : ∃ x1 x2 x3, P x1 x2 x3) (k : ∀ x1 x2 x3, P x1 x2 x3 → p) : p := h.elim fun x1 h => h.elim fun x2 h => h.elim fun x3 h => k x1 x2 x3 h
theorem e4 {α1 α2 α3 α4 : Type} {P : α1 → α2 → α3 → α4 → Prop} {p : Prop} (h : ∃ x1 x2 x3 x4, P x1 x2 x3 x4) (k : ∀ x1 x2 x3 x4, P x1 x2 x3 x4 → p) : p := h.elim fun x1 h => h.elim fun x2 h => h.elim fun x3 h => h.elim fun x4 h => k x1 x2 x3 x4 h
theorem e5 {α1 α2 α3 α4 α5 : Type} {P : α1 → α2 → α3 → α4 → α5 → Prop} {p : Prop} (h : ∃ x1 x2 x3 x4 x5, P x1 x2 x3 x4 x5) (k : ∀ x1 x2 x3 x4 x5, P x1 x2 x3 x4 x5 → p) : p := h.elim fun x1 h => h.elim fun x2 h => h.elim fun x3 h => h.elim fun x4 h => h.elim fun x5 h => k x1 x2 x3 x4 x5 h
theorem e6 {α1 α2 α3 α4 α5 α6 : Type} {P : α1 → α2 → α3 → α4 → α5 → α6 → Prop} {p : Prop} (h : ∃ x1 x2 x3 x4 x5 x6, P x1 x2 x3 x4 x5 x6) (k : ∀ x1 x2 x3 x4 x5 x6, P x1 x2 x3 x4 x5 x6 → p) : p := h.elim fun x1 h => h.elim fun x2 h => h.elim fun x3 h => h.elim fun x4 h => h.elim fun x5 h => h.elim fun x6 h => k x1 x2 x3 x4 x5 x6 h
theorem e7 {α1 α2 α3 α4 α5 α6 α7 : Type} {P : α1 → α2 → α3 → α4 → α5 → α6 → α7 → Prop} {p : Prop} (h : ∃ x1 x2 x3 x4 x5 x6 x7, P x1 x2 x3 x4 x5 x6 x7) (k : ∀ x1 x2 x3 x4 x5 x6 x7, P x1 x2 x3 x4 x5 x6 x7 → p) : p := h.elim fun x1 h => h.elim fun x2 h => h.elim fun x3 h => h.elim fun x4 h => h.elim fun x5 h => h.elim fun x6 h => h.elim fun x7 h => k x1 x2 x3 x4 x5 x6 x7 h
theorem e8 {α1 α2 α3 α4 α5 α6 α7 α8 : Type} {P : α1 → α2 → α3 → α4 → α5 → α6 → α7 → α8 → Prop} {p : Prop} (h : ∃ x1 x2 x3 x4 x5 x6 x7 x8, P x1 x2 x3 x4 x5 x6 x7 x8) (k : ∀ x1 x2 x3 x4 x5 x6 x7 x8, P x1 x2 x3 x4 x5 x6 x7 x8 → p) : p := h.elim fun x1 h => h.elim fun x2 h => h.elim fun x3 h => h.elim fun x4 h => h.elim fun x5 h => h.elim fun x6 h => h.elim fun x7 h => h.elim fun x8 h => k x1 x2 x3 x4 x5 x6 x7 x8 h
theorem a4 {p1 p2 p3 p4 q : Prop} (h : p1 ∧ p2 ∧ p3 ∧ p4) (k : p1 → p2 → p3 → p4 → q) : q := k h.1 h.2.1 h.2.2.1 h.2.2.2
theorem a5 {p1 p2 p3 p4 p5 q : Prop} (h : p1 ∧ p2 ∧ p3 ∧ p4 ∧ p5) (k : p1 → p2 → p3 → p4 → p5 → q) : q := k h.1 h.2.1 h.2.2.1 h.2.2.2.1 h.2.2.2.2
theorem a6 {p1 p2 p3 p4 p5 p6 q : Prop} (h : p1 ∧ p2 ∧ p3 ∧ p4 ∧ p5 ∧ p6) (k : p1 → p2 → p3 → p4 → p5 → p6 → q) : q := k h.1 h.2.1 h.2.2.1 h.2.2.2.1 h.2.2.2.2.1 h.2.2.2.2.2
theorem a7 {p1 p2 p3 p4 p5 p6 p7 q : Prop} (h : p1 ∧ p2 ∧ p3 ∧ p4 ∧ p5 ∧ p6 ∧ p7) (k : p1 → p2 → p3 → p4 → p5 → p6 → p7 → q) : q := k h.1 h.2.1 h.2.2.1 h.2.2.2.1 h.2.2.2.2.1 h.2.2.2.2.2.1 h.2.2.2.2.2.2
theorem a8 {p1 p2 p3 p4 p5 p6 p7 p8 q : Prop} (h : p1 ∧ p2 ∧ p3 ∧ p4 ∧ p5 ∧ p6 ∧ p7 ∧ p8) (k : p1 → p2 → p3 → p4 → p5 → p6 → p7 → p8 → q) : q := k h.1 h.2.1 h.2.2.1 h.2.2.2.1 h.2.2.2.2.1 h.2.2.2.2.2.1 h.2.2.2.2.2.2.1 h.2.2.2.2.2.2.2
theorem a9 {p1 p2 p3 p4 p5 p6 p7 p8 p9 q : Prop} (h : p1 ∧ p2 ∧ p3 ∧ p4 ∧ p5 ∧ p6 ∧ p7 ∧ p8 ∧ p9) (k : p1 → p2 → p3 → p4 → p5 → p6 → p7 → p8 → p9 → q) : q := k h.1 h.2.1 h.2.2.1 h.2.2.2.1 h.2.2.2.2.1 h.2.2.2.2.2.1 h.2.2.2.2.2.2.1 h.2.2.2.2.2.2.2.1 h.2.2.2.2.2.2.2.2
theorem a11 {p1 p2 p3 p4 p5 p6 p7 p8 p9 p10 p11 q : Prop} (h : p1 ∧ p2 ∧ p3 ∧ p4 ∧ p5 ∧ p6 ∧ p7 ∧ p8 ∧ p9 ∧ p10 ∧ p11) (k : p1 → p2 → p3 → p4 → p5 → p6 → p7 → p8 → p9 → p10 → p11 → q) : q := k h.1 h.2.1 h.2.2.1 h.2.2.2.1 h.2.2.2.2.1 h.2.2.2.2.2.1 h.2.2.2.2.2.2.1 h.2.2.2.2.2.2.2.1 h.2.2.2.2.2.2.2.2.1 h.2.2.2.2.2.2.2.2.2.1 h.2.2.2.2.2.2.2.2.2.2
theorem a13 {p1 p2 p3 p4 p5 p6 p7 p8 p9 p10 p11 p12 p13 q : Prop} (h : p1 ∧ p2 ∧ p3 ∧ p4 ∧ p5 ∧ p6 ∧ p7 ∧ p8 ∧ p9 ∧ p10 ∧ p11 ∧ p12 ∧ p13) (k : p1 → p2 → p3 → p4 → p5 → p6 → p7 → p8 → p9 → p10 → p11 → p12 → p13 → q) : q := k h.1 h.2.1 h.2.2.1 h.2.2.2.1 h.2.2.2.2.1 h.2.2.2.2.2.1 h.2.2.2.2.2.2.1 h.2.2.2.2.2.2.2.1 h.2.2.2.2.2.2.2.2.1 h.2.2.2.2.2.2.2.2.2.1 h.2.2.2.2.2.2.2.2.2.2.1 h.2.2.2.2.2.2.2.2.2.2.2.1 h.2.2.2.2.2.2.2.2.2.2.2.2
theorem a14 {p1 p2 p3 p4 p5 p6 p7 p8 p9 p10 p11 p12 p13 p14 q : Prop} (h : p1 ∧ p2 ∧ p3 ∧ p4 ∧ p5 ∧ p6 ∧ p7 ∧ p8 ∧ p9 ∧ p10 ∧ p11 ∧ p12 ∧ p13 ∧ p14) (k : p1 → p2 → p3 → p4 → p5 → p6 → p7 → p8 → p9 → p10 → p11 → p12 → p13 → p14 → q) : q := k h.1 h.2.1 h.2.2.1 h.2.2.2.1 h.2.2.2.2.1 h.2.2.2.2.2.1 h.2.2.2.2.2.2.1 h.2.2.2.2.2.2.2.1 h.2.2.2.2.2.2.2.2.1 h.2.2.2.2.2.2.2.2.2.1 h.2.2.2.2.2.2.2.2.2.2.1 h.2.2.2.2.2.2.2.2.2.2.2.1 h.2.2.2.2.2.2.2.2.2.2.2.2.1 h.2.2.2.2.2.2.2.2.2.2.2.2.2

/-- the codes that may hold a bytearray's memory -/
def holders : List String := ["bytearray.__contains__", "bytearray.__mod__", "bytearray.__rmod__", "_struct.pack_into.held", "bytearray.find.held"]
/-- a code that cannot hold a bytearray's memory -/
def cleanCode : Code → Bool
  | .builtin id _ => !(holders.contains id || Builtin.Bytes.decodersThatHold.contains id)
  | _ => true
/-- a stack on which nothing stands that holds a bytearray's memory -/
def Clean (Γ : Ctx) : Prop := cleanCode Γ.code = true ∧ ∀ x ∈ Γ.below, cleanCode x.1 = true

theorem Clean.enter {Γ : Ctx} (h : Clean Γ) {c : Code} (hc : cleanCode c = true) (hd : Option Value) (p : Pos) : Clean (Γ.enter c hd p) :=
  ⟨hc, fun x hx => by
    rcases List.mem_cons.mp hx with rfl | hx
    · exact h.1
    · exact h.2 x hx⟩
theorem Clean.goto {Γ : Ctx} (h : Clean Γ) {c : Code} (hc : cleanCode c = true) : Clean (Γ.goto c) := ⟨hc, h.2⟩

def wpC {α : Type} (M : Model) (A : Around) (t : Sem α) (Q : α → Shared → Prop) (E : Value → Shared → Prop) (s : Shared) : Prop :=
  ∀ Γ p, Γ.In A → Clean Γ → Sem.wp M Γ t (fun a _ s' => Q a s') (fun e _ s' => E e s') p s

def codeC (M : Model) (A : Around) (c : Code) (R : Result → Shared → Prop) (s : Shared) : Prop :=
  ∀ Γ p, Γ.code = c → Γ.Below A → Clean Γ → wpCode M Γ R p s

section
variable {α β : Type} {M : Model} {A : Around} {E : Value → Shared → Prop} {s : Shared}

theorem wpC.any {t : Sem α} {Q : α → Shared → Prop} (h : wpAny M A t Q E s) : wpC M A t Q E s := fun Γ p hΓ _ => h Γ p hΓ
theorem codeC.any {c : Code} {R : Result → Shared → Prop} (h : codeAny M A c R s) : codeC M A c R s := fun Γ p hc hΓ _ => h Γ p hc hΓ

theorem wpC_mono {t : Sem α} {Q Q' : α → Shared → Prop} {E' : Value → Shared → Prop} (h : wpC M A t Q E s)
    (hQ : ∀ a s, Q a s → Q' a s) (hE : ∀ e s, E e s → E' e s) : wpC M A t Q' E' s :=
  fun Γ p hΓ hc => Sem.wp_mono M Γ t (fun a _ s => hQ a s) (fun e _ s => hE e s) p s (h Γ p hΓ hc)
theorem wpC_pure {a : α} {Q : α → Shared → Prop} (h : Q a s) : wpC M A (pure a) Q E s := fun _ _ _ _ => h
theorem wpC_bind {m : Sem α} {f : α → Sem β} {Q : β → Shared → Prop} (h : wpC M A m (fun a s' => wpC M A (f a) Q E s') E s) :
    wpC M A (m >>= f) Q E s := fun Γ p hΓ hc => by
  rw [Sem.wp_bind']
  exact Sem.wp_mono M Γ m (fun a p' s' h' => h' Γ p' hΓ hc) (fun _ _ _ h' => h') p s (h Γ p hΓ hc)
theorem wpC_holding {vs : List Value} {m : Sem α} {Q : α → Shared → Prop} (h : wpC M A m Q E s) : wpC M A (holding vs m) Q E s :=
  fun Γ p hΓ hc => by rw [Sem.wp_holding]; exact h Γ p hΓ hc
theorem wpC_keep {vs : List Value} {m : Sem α} {Q : α → Shared → Prop} (h : wpC M A m Q E s) : wpC M A (m.keep vs) Q E s :=
  fun Γ p hΓ hc => by rw [Sem.wp_keep]; exact h Γ p hΓ hc
theorem wpC_operate {vs : List Value} {m : Sem Value} {Q : Value → Shared → Prop} (h : wpC M A m Q E s) : wpC M A (operate vs m) Q E s :=
  fun Γ p hΓ hc => by rw [Sem.wp_operate]; exact h Γ p hΓ hc
theorem wpC_standAt {pos : Pos} {Q : Unit → Shared → Prop} (h : Q () s) : wpC M A (standAt pos) Q E s := fun _ _ _ _ => h
theorem wpC_point {Q : Unit → Shared → Prop} (h : Q () s) : wpC M A point Q E s := fun _ _ _ _ => h
theorem wpC_rule {tag : String} {Q : Unit → Shared → Prop} (h : Q () s) : wpC M A (rule tag) Q E s := fun _ _ _ _ => h
theorem wpC_release {vs ks : List Value} {Q : Unit → Shared → Prop} (h : Q () s) : wpC M A (release vs ks) Q E s := fun Γ p _ _ => by rw [Sem.wp_release]; exact h
theorem wpC_attempt {m : Sem α} {Q : Except Value α → Shared → Prop} (h : wpC M A m (fun a => Q (.ok a)) (fun e => Q (.error e)) s) :
    wpC M A m.attempt Q E s := fun Γ p hΓ hc => by rw [Sem.wp_attempt]; exact h Γ p hΓ hc
theorem wpC_onRaise {m : Sem α} {k : Value → Sem Unit} {Q : α → Shared → Prop}
    (h : wpC M A m Q (fun e s' => wpC M A (k e) (fun _ s'' => E e s'') E s') s) : wpC M A (m.onRaise k) Q E s := fun Γ p hΓ hc => by
  rw [Sem.wp_onRaise]
  exact Sem.wp_mono M Γ m (fun _ _ _ h' => h') (fun e p' s' h' => h' Γ p' hΓ hc) p s (h Γ p hΓ hc)
theorem wpC_tryCatch {m : Sem α} {k : Value → Sem α} {Q : α → Shared → Prop} (h : wpC M A m Q (fun e s' => wpC M A (k e) Q E s') s) :
    wpC M A (tryCatch m k) Q E s := fun Γ p hΓ hc => by
  rw [Sem.wp_tryCatch']
  exact Sem.wp_mono M Γ m (fun _ _ _ h' => h') (fun e p' s' h' => h' Γ p' hΓ hc) p s (h Γ p hΓ hc)
theorem wpC_of_eq {t : Sem α} {a : α} {Q : α → Shared → Prop} (e : t = pure a) (h : Q a s) : wpC M A t Q E s := by subst e; exact wpC_pure h
theorem wpC_load {a : Addr} {o : Obj} {Q : Obj → Shared → Prop} (ho : s.heap.get? a = some o) (h : Q o s) : wpC M A (load a) Q E s := wpC.any (wpAny_load ho h)
theorem wpC_of_in1 {t : Sem α} {Q : α → Shared → Prop} (h : wpC M A.in1 t Q E s) : wpC M A t Q E s :=
  fun Γ p hΓ hc => h Γ p ⟨hΓ.1, hΓ.2.1, hΓ.2.2.1, hΓ.2.2.2.1, Nat.le_succ_of_le hΓ.2.2.2.2⟩ hc

theorem codeC_mono {c : Code} {R R' : Result → Shared → Prop} (h : codeC M A c R s) (hR : ∀ r s, R r s → R' r s) : codeC M A c R' s :=
  fun Γ p hc hΓ k => wpCode_mono hR (h Γ p hc hΓ k)
theorem wpC_run {c : Code} {h : Option Value} {Q : Flow → Shared → Prop} (hcl : cleanCode c = true)
    (hc : codeC M (A.mark h) c (fun r s' => match r with | .ok f => Q f s' | .error e => E e s') s) (hnb : h ≠ some byPass := by intro x; cases x) :
    wpC M A (run c h) Q E s :=
  fun Γ p hΓ k => by rw [Sem.wp_run]; exact hc _ p rfl (hΓ.enter c h p hnb) (k.enter hcl h p)
theorem wpC_runValue {c : Code} {Q : Value → Shared → Prop} (hcl : cleanCode c = true)
    (hc : codeC M A c (fun r s' => match r with | .ok (.ret v) => Q v s' | .ok _ => False | .error e => E e s') s) :
    wpC M A (runValue c) Q E s := fun Γ p hΓ k => by rw [Sem.wp_runValue]; exact hc _ p rfl (hΓ.enter c none p (by intro x; cases x)) (k.enter hcl none p)
theorem wpC_call {f : Value} {pos : List Value} {kw : List (Str × Value)} {Q : Value → Shared → Prop}
    (hc : codeC M A (.call f ⟨pos, kw⟩) (fun r s' => match r with | .ok (.ret v) => Q v s' | .ok _ => False | .error e => E e s') s) :
    wpC M A (call f pos kw) Q E s := wpC_runValue rfl hc
theorem codeC_of_tree {c : Code} {R : Result → Shared → Prop}
    (h : wpC M (A.under c) (M.den c) (fun fin s' => match fin with | .done f => R (.ok f) s' | .again c' => c'.quiet = true ∧ cleanCode c' = true ∧ codeC M A c' R s')
      (fun e s' => R (.error e) s') s) : codeC M A c R s := fun Γ p hc hΓ k => by
  rw [wpCode_iff_wp, hc]
  refine Sem.wp_mono M Γ _ (fun fin p' s' h' => ?_) (fun _ _ _ h' => h') p s (h Γ p (hc ▸ hΓ.in) k)
  cases fin with
  | done f => exact h'
  | again c' => exact ⟨h'.1, h'.2.2 (Γ.goto c') p' rfl (hΓ.goto c') (k.goto h'.2.1)⟩
theorem codeC_loop {c : Code} {R : Result → Shared → Prop} (hq : c.quiet = true) (hcl : cleanCode c = true) (I : Nat → Shared → Prop)
    (turn : ∀ n s, I n s → wpC M (A.under c) (M.den c)
      (fun fin s' => match fin with | .done f => R (.ok f) s' | .again c' => (c' = c ∧ ∃ m, m < n ∧ I m s') ∨ (c'.quiet = true ∧ cleanCode c' = true ∧ codeC M A c' R s')) (fun e s' => R (.error e) s') s)
    (n : Nat) (h : I n s) : codeC M A c R s := by
  induction n using Nat.strongRecOn generalizing s with
  | ind n ih =>
    refine codeC_of_tree (wpC_mono (turn n s h) (fun fin s' hf => ?_) fun _ _ h' => h')
    cases fin with
    | done f => exact hf
    | again c' =>
      rcases hf with ⟨rfl, m, hm, hI⟩ | hf
      · exact ⟨hq, hcl, ih m hm hI⟩
      · exact hf

/-! ## expressions -/
variable {env : Env}
theorem cBinOp {l op r pos} {Q : Value → Shared → Prop}
    (h : wpC M A (eval l env) (fun a s₁ => wpC M A (eval r env) (fun b s₂ => wpC M A (binaryOp op a b) Q E s₂) E s₁) E s) :
    wpC M A (eval (.BinOp l op r pos) env) Q E s := by
  rw [eval_BinOp]
  exact wpC_bind (wpC_mono h (fun a s₁ h₁ => wpC_bind (wpC_holding (wpC_mono h₁ (fun b s₂ h₂ => wpC_bind (wpC_standAt (wpC_operate h₂))) fun _ _ x => x))) fun _ _ x => x)
theorem cCompare1 {l op r pos} {Q : Value → Shared → Prop}
    (h : wpC M A (eval l env) (fun a s₁ => wpC M A (eval r env) (fun b s₂ => wpC M A (compareOp op a b) Q E s₂) E s₁) E s)
    (hm : behindInMarks op r = false) : wpC M A (eval (.Compare l [op] [r] pos) env) Q E s := by
  rw [eval_Compare1, markedBehindIn_of_false hm]
  exact wpC_bind (wpC_mono h (fun a s₁ h₁ => wpC_bind (wpC_holding (wpC_mono h₁ (fun b s₂ h₂ => wpC_bind (wpC_standAt (wpC_operate h₂))) fun _ _ x => x))) fun _ _ x => x)
theorem cTest1 {l op r pos whole} {Q : Bool → Shared → Prop}
    (h : wpC M A (eval l env) (fun a s₁ => wpC M A (eval r env) (fun b s₂ => wpC M A (compareOp op a b) (fun c s₃ => wpC M A (truthy c) Q E s₃) E s₂) E s₁) E s)
    (hm : behindInMarks op r = false) : wpC M A (isTrue (.Compare l [op] [r] pos) env whole) Q E s := by
  rw [isTrue_Compare1, markedBehindIn_of_false hm]
  exact wpC_bind (wpC_mono h (fun a s₁ h₁ => wpC_bind (wpC_holding (wpC_mono h₁ (fun b s₂ h₂ => wpC_bind (wpC_standAt (wpC_bind (wpC_operate (wpC_mono h₂ (fun c s₃ h₃ => wpC_holding h₃) fun _ _ x => x))))) fun _ _ x => x))) fun _ _ x => x)
theorem cTestLast {pos : Pos} {a : Value} {op : CmpOp} {r : Sem Value} {Q : Bool → Shared → Prop}
    (h : wpC M A r (fun b s₁ => wpC M A (compareOp op a b) (fun c s₂ => wpC M A (truthy c) Q E s₂) E s₁) E s) : wpC M A (testChain pos a [op] [r]) Q E s := by
  show wpC M A (do
    let rv ← holding [a] r
    standAt pos
    let c ← operate [a, rv] (compareOp op a rv)
    holding [c] (truthy c)) Q E s
  exact wpC_bind (wpC_holding (wpC_mono h (fun b s₁ h₁ => wpC_bind (wpC_standAt (wpC_bind (wpC_operate (wpC_mono h₁ (fun c s₂ h₂ => wpC_holding h₂) fun _ _ x => x))))) fun _ _ x => x))
theorem cTestLink {pos : Pos} {a : Value} {op op' : CmpOp} {ops : List CmpOp} {r r' : Sem Value} {rs : List (Sem Value)} {Q : Bool → Shared → Prop}
    (h : wpC M A r (fun b s₁ => wpC M A (compareOp op a b) (fun c s₂ => wpC M A (truthy c)
      (fun t s₃ => if t then wpC M A (testChain pos b (op' :: ops) (r' :: rs)) Q E s₃ else Q false s₃) E s₂) E s₁) E s) :
    wpC M A (testChain pos a (op :: op' :: ops) (r :: r' :: rs)) Q E s := by
  show wpC M A (do
    let rv ← holding [a] r
    standAt pos
    let c ← holding [a, rv] (compareOp op a rv)
    release [a, rv] [c]
    if ← holding [c, rv] (truthy c) then testChain pos rv (op' :: ops) (r' :: rs) else pure false) Q E s
  refine wpC_bind (wpC_holding (wpC_mono h (fun b s₁ h₁ => wpC_bind (wpC_standAt (wpC_bind (wpC_holding (wpC_mono h₁ (fun c s₂ h₂ =>
    wpC_bind (wpC_release (wpC_bind (wpC_holding (wpC_mono h₂ (fun t s₃ h₃ => ?_) fun _ _ x => x))))) fun _ _ x => x))))) fun _ _ x => x))
  cases t with
  | false => exact wpC_pure h₃
  | true => exact h₃
theorem cTest2 {l op₁ op₂ r₁ r₂ pos whole} {Q : Bool → Shared → Prop}
    (h : wpC M A (eval l env) (fun a s₁ => wpC M A (testChain pos a [op₁, op₂] [eval r₁ env, eval r₂ env]) Q E s₁) E s)
    (hm : lastMarks [op₁, op₂] [r₁, r₂] = false) : wpC M A (isTrue (.Compare l [op₁, op₂] [r₁, r₂] pos) env whole) Q E s := by
  show wpC M A (do testChain pos (← eval l env) [op₁, op₂] (markedEach [op₁, op₂] [r₁, r₂] (evalEach [r₁, r₂] env))) Q E s
  rw [PyProof.Rows.markedEach_of_false _ _ _ hm]
  exact wpC_bind h
theorem cNot {x pos whole} {Q : Bool → Shared → Prop} (h : wpC M A (isTrue x env (eval x env)) (fun c s' => Q (!c) s') E s) :
    wpC M A (isTrue (.UnaryOp .Not x pos) env whole) Q E s := by
  show wpC M A (do return !(← isTrue x env (eval x env))) Q E s
  exact wpC_bind (wpC_mono h (fun c s' h' => wpC_pure h') fun _ _ x => x)
theorem cAnd {x rest pos whole} {Q : Bool → Shared → Prop}
    (h : wpC M A (isTrue x env (eval x env)) (fun c s' => if c then wpC M A (isTrue (.BoolOp .And rest pos) env whole) Q E s' else Q false s') E s) :
    wpC M A (isTrue (.BoolOp .And (x :: rest) pos) env whole) Q E s := by
  show wpC M A (do
    match BoolOp.And, ← isTrue x env (eval x env) with
    | .And, false => pure false
    | .Or, true => pure true
    | _, _ => allTrue .And rest env) Q E s
  refine wpC_bind (wpC_mono h (fun c s' h' => ?_) fun _ _ x => x)
  cases c
  · exact wpC_pure h'
  · exact h'
theorem cOr {x rest pos whole} {Q : Bool → Shared → Prop}
    (h : wpC M A (isTrue x env (eval x env)) (fun c s' => if c then Q true s' else wpC M A (isTrue (.BoolOp .Or rest pos) env whole) Q E s') E s) :
    wpC M A (isTrue (.BoolOp .Or (x :: rest) pos) env whole) Q E s := by
  show wpC M A (do
    match BoolOp.Or, ← isTrue x env (eval x env) with
    | .And, false => pure false
    | .Or, true => pure true
    | _, _ => allTrue .Or rest env) Q E s
  refine wpC_bind (wpC_mono h (fun c s' h' => ?_) fun _ _ x => x)
  cases c
  · exact h'
  · exact wpC_pure h'
theorem cPlain {e : Expr} {whole : Sem Value} {Q : Bool → Shared → Prop} (h : wpC M A whole (fun v s₁ => wpC M A (truthy v) Q E s₁) E s)
    (he : isTrue e env whole = (do let v ← whole; standAt e.pos; holding [v] (truthy v))) : wpC M A (isTrue e env whole) Q E s := by
  rw [he]
  exact wpC_bind (wpC_mono h (fun v s₁ h₁ => wpC_bind (wpC_standAt (wpC_holding h₁))) fun _ _ x => x)
theorem cArgs {e : Expr} {rest : List Expr} {pos : Pos} {Q : List Value → Shared → Prop}
    (h : wpC M A (eval e env) (fun v s₁ => wpC M A (spliced (backTo pos (starEach rest env))) (fun vs s₂ => Q (v :: vs) s₂) E s₁) E s)
    (he : starEach (e :: rest) env = (false, eval e env) :: starEach rest env) : wpC M A (spliced (backTo pos (starEach (e :: rest) env))) Q E s := by
  rw [he]
  show wpC M A (spliced ((false, eval e env) :: backTo pos (starEach rest env))) Q E s
  rw [spliced]
  refine wpC_bind (wpC_mono h (fun v s₁ h₁ => ?_) fun _ _ x => x)
  simp only [Bool.false_eq_true, if_false]
  exact wpC_bind (wpC_pure (wpC_bind (wpC_holding (wpC_mono h₁ (fun vs s₂ h₂ => wpC_pure h₂) fun _ _ x => x))))
theorem cNewObj {T : String} {d : Data} {Q : Value → Shared → Prop} (h : wpAny M A (newObj (.type T) d) Q E s) : wpC M A (newObj (.type T) d) Q E s := wpC.any h
theorem cSub {value slice pos} {Q : Value → Shared → Prop}
    (h : wpC M A (eval value env) (fun o s₁ => wpC M A (eval slice env) (fun i s₂ => wpC M A (PyProof.Rows.subscriptTail value slice o i) Q E s₂) E s₁) E s) :
    wpC M A (eval (.Subscript value slice pos) env) Q E s := by
  show wpC M A (do
    let o ← eval value env
    let i ← holding [o] (eval slice env)
    standAt pos
    PyProof.Rows.subscriptTail value slice o i) Q E s
  exact wpC_bind (wpC_mono h (fun o s₁ h₁ => wpC_bind (wpC_holding (wpC_mono h₁ (fun i s₂ h₂ => wpC_bind (wpC_standAt h₂)) fun _ _ x => x))) fun _ _ x => x)

theorem cTuple {elts : List Expr} {k : Nat} {pos : Pos} {Q : Value → Shared → Prop}
    (h : wpC M A (spliced (backTo pos (starEach elts env))) (fun vs s₁ => wpC M A (newTuple vs) Q E s₁) E s) : wpC M A (eval (.Tuple elts k pos) env) Q E s := by
  show wpC M A (do standAt pos; newTuple (← spliced (backTo pos (starEach elts env)))) Q E s
  exact wpC_bind (wpC_standAt (wpC_bind h))
theorem cList {elts : List Expr} {pos : Pos} {Q : Value → Shared → Prop}
    (h : wpC M A (spliced (backTo pos (starEach elts env))) (fun vs s₁ => wpC M A (newList vs) Q E s₁) E s) : wpC M A (eval (.List elts pos) env) Q E s := by
  show wpC M A (do standAt pos; newList (← spliced (backTo pos (starEach elts env)))) Q E s
  exact wpC_bind (wpC_standAt (wpC_bind h))

/-! ## statements -/
theorem cExecs {st rest} {Q : Flow → Shared → Prop}
    (h : wpC M A (exec st env) (fun f s' => match f with | .next => wpC M A (execs rest env) Q E s' | f => Q f s') E s) :
    wpC M A (execs (st :: rest) env) Q E s := by
  rw [execs_cons]
  refine wpC_bind (wpC_mono h (fun f s' h' => ?_) fun _ _ x => x)
  cases f <;> first | exact h' | exact wpC_pure h'
theorem cReturn {e pos} {Q : Flow → Shared → Prop} (h : wpC M A (eval e env) (fun v => Q (.ret v)) E s) :
    wpC M A (exec (.Return (some e) pos) env) Q E s := by
  rw [exec_Return_some]
  exact wpC_bind (wpC_standAt (wpC_bind (wpC_mono h (fun v s' h' => wpC_pure h') fun _ _ x => x)))
theorem cIf {test body orelse pos} {Q : Flow → Shared → Prop}
    (h : wpC M A (isTrue test env (eval test env)) (fun b s₂ => if b then wpC M A (execs body env) Q E s₂ else wpC M A (execs orelse env) Q E s₂) E s) :
    wpC M A (exec (.If test body orelse pos) env) Q E s := by
  rw [exec_If]
  refine wpC_bind (wpC_standAt (wpC_bind (wpC_mono h (fun b s₂ h₂ => ?_) fun _ _ x => x)))
  cases b <;> exact h₂
theorem cBind {x : Str} {v : Value} {Q : Unit → Shared → Prop} (h : wpC M A (storeName env x v) Q E s) : wpC M A (bindName env x v) Q E s :=
  fun Γ p hΓ hc => by rw [Sem.wp_bindName]; exact h Γ p hΓ hc
theorem cAssignName {x pos' value pos} {Q : Flow → Shared → Prop}
    (h : wpC M A (eval value env) (fun v s₁ => wpC M A (storeName env x v) (fun _ => Q .next) E s₁) E s)
    (hs : swapsWith value (some (.Name x pos')) pos.line env = pure false) : wpC M A (exec (.Assign [.Name x pos'] value pos) env) Q E s := by
  rw [exec_Assign_Name env x pos' value pos hs]
  exact wpC_bind (wpC_standAt (wpC_bind (wpC_mono h (fun v s₁ h₁ => wpC_bind (wpC_standAt (wpC_bind (cBind (wpC_mono h₁ (fun _ s₂ h₂ => wpC_pure h₂) fun _ _ x => x))))) fun _ _ x => x)))
theorem cAssignSub {o i pos' value pos} {Q : Flow → Shared → Prop}
    (h : wpC M A (eval value env) (fun v s₁ => wpC M A (eval o env) (fun ov s₂ => wpC M A (eval i env) (fun iv s₃ =>
      wpC M A (setItem ov iv v) (fun _ => Q .next) E s₃) E s₂) E s₁) E s)
    (hs : swapsWith value (some (.Subscript o i pos')) pos.line env = pure false) : wpC M A (exec (.Assign [.Subscript o i pos'] value pos) env) Q E s := by
  rw [exec_Assign_Subscript o i pos' value pos hs]
  refine wpC_bind (wpC_standAt (wpC_bind (wpC_mono h (fun v s₁ h₁ => wpC_bind ?_) fun _ _ x => x)))
  rw [assign_Subscript]
  exact wpC_bind (wpC_holding (wpC_mono h₁ (fun ov s₂ h₂ => wpC_bind (wpC_holding (wpC_mono h₂ (fun iv s₃ h₃ => wpC_bind (wpC_standAt (wpC_bind (wpC_holding
    (wpC_mono h₃ (fun _ s₄ h₄ => wpC_release (wpC_pure h₄)) fun _ _ x => x))))) fun _ _ x => x))) fun _ _ x => x))
theorem cAssignAttr {o attr pos' value pos} {Q : Flow → Shared → Prop}
    (h : wpC M A (eval value env) (fun v s₁ => wpC M A (eval o env) (fun ov s₂ => wpC M A (setAttr ov attr v) (fun _ => Q .next) E s₂) E s₁) E s)
    (hs : swapsWith value (some (.Attribute o attr pos')) pos.line env = pure false) : wpC M A (exec (.Assign [.Attribute o attr pos'] value pos) env) Q E s := by
  rw [plainObj_exec_Assign_Attribute o attr pos' value pos hs]
  refine wpC_bind (wpC_standAt (wpC_bind (wpC_mono h (fun v s₁ h₁ => wpC_bind ?_) fun _ _ x => x)))
  rw [assign_Attribute]
  exact wpC_bind (wpC_holding (wpC_mono h₁ (fun ov s₂ h₂ => wpC_bind (wpC_standAt (wpC_bind (wpC_holding
    (wpC_mono h₂ (fun _ s₄ h₄ => wpC_release (wpC_pure h₄)) fun _ _ x => x))))) fun _ _ x => x))
theorem cExpr {e pos} {Q : Flow → Shared → Prop} (h : wpC M A (eval e env) (fun v s' => match v with | .ref _ => False | _ => Q .next s') E s)
    (hi : interactive env = false) (hs : swapsWith e none pos.line env = pure false) : wpC M A (exec (.Expr e pos) env) Q E s := by
  rw [exec_Expr env e pos hi hs]
  refine wpC_bind (wpC_standAt (wpC_bind (wpC_mono h (fun v s' h' => ?_) fun _ _ x => x)))
  have hv : ∀ a, v ≠ .ref a := fun a hva => by subst hva; exact h'
  rw [dropValue_plain hv]
  refine wpC_pure ?_
  cases v <;> first | exact h' | exact (hv _ rfl).elim

/-! ## calls -/
theorem cEvalArgs {f : Value} {x : Sem Value} {rest : List (Bool × Sem Value)} {Q : Args → Shared → Prop}
    (h : wpC M A (spliced ((false, x) :: rest)) (fun vs s' => Q ⟨vs, []⟩ s') E s) : wpC M A (evalArgs f true ((false, x) :: rest) []) Q E s := by
  unfold evalArgs
  show wpC M A (spliced ((false, x) :: rest) >>= _) Q E s
  refine wpC_bind (wpC_mono h (fun vs s' h' => ?_) fun _ _ x => x)
  refine wpC_holding ?_
  exact wpC_bind (wpC_pure (wpC_bind (wpC_pure (wpC_pure h'))))
theorem cEvalArgs0 {f : Value} {Q : Args → Shared → Prop} (h : Q ⟨[], []⟩ s) : wpC M A (evalArgs f true [] []) Q E s := wpC.any (PyProof.Rows.evalArgs_nil3 h)
theorem cCallWith {K : Frag} {pos : Pos} {f : Value} {first : List Value} {args : List (Bool × Sem Value)} {Q : Value → Shared → Prop} (hplain : args.any (·.1) = false)
    (hk : (∀ a, f ≠ .ref a) ∨ keepIn K f = true)
    (h : wpC M A (evalArgs f true args []) (fun a s₁ => K.In s₁.heap ∧ wpC M A (call f (first ++ a.pos) a.kw) Q E s₁) E s) : wpC M A (callWith pos f first args []) Q E s := by
  unfold callWith
  refine wpC_bind (wpC_holding (wpC_mono h (fun a s₁ h₁ => wpC_bind (wpC_standAt ?_)) fun _ _ x => x))
  have tail : ∀ {t : Sem Value}, wpC M A t Q E s₁ → wpC M A (t >>= fun r => holding [r] point >>= fun _ => pure r) Q E s₁ :=
    fun ht => wpC_bind (wpC_mono ht (fun r s₂ hr => wpC_bind (wpC_holding (wpC_point (wpC_pure hr)))) fun _ _ x => x)
  have marked (mk : Value) : wpC M A (callMarked mk f (first ++ a.pos) a.kw) Q E s₁ := by unfold callMarked; exact wpC_keep h₁.2
  obtain ⟨k, hk', L⟩ : ∃ k, (k = Keeper.frame ∨ k = Keeper.machine) ∧ Looks M s₁.heap (keeperOf f) k := by
    rcases hk with hk | hk
    · refine ⟨.machine, .inr rfl, Looks.of_pure ?_⟩
      cases f <;> first | rfl | exact absurd rfl (hk _)
    · exact looks_keep hk h₁.1
  simp only [hplain, List.any_nil, Bool.or_false]
  refine wpC_bind (wpC.any (L.here ?_))
  rcases hk' with rfl | rfl <;> dsimp only <;> first | exact tail h₁.2 | (split <;> first | exact tail h₁.2 | exact tail (marked _))
theorem cCall {func : Expr} {args : List Expr} {pos : Pos} {Q : Value → Shared → Prop}
    (h : wpC M A (eval func env) (fun f s₁ => wpC M A (callWith pos f [] (backTo pos (starEach args env)) []) Q E s₁) E s)
    (he : eval (.Call func args [] pos) env = (do callWith pos (← eval func env) [] (backTo pos (starEach args env)) (backToKw pos (keywordEach [] env)))) :
    wpC M A (eval (.Call func args [] pos) env) Q E s := by
  rw [he]; exact wpC_bind h
theorem cMeth {o : Expr} {name : Str} {apos pos : Pos} {args : List Expr} {pl : Sem Bool} {Q : Value → Shared → Prop}
    (h : wpC M A (eval o env) (fun ov s₁ => wpC M A (getMethod ov name pl) (fun fx s₂ => wpC M A (callWith pos fx.1 fx.2 (backTo pos (starEach args env)) []) Q E s₂) E s₁) E s)
    (he : eval (.Call (.Attribute o name apos) args [] pos) env = (do
      let ov ← eval o env
      standAt apos.atName
      let (f, first) ← holding [ov] (getMethod ov name pl)
      callWith pos f first (backTo pos (starEach args env)) [])) :
    wpC M A (eval (.Call (.Attribute o name apos) args [] pos) env) Q E s := by
  rw [he]
  refine wpC_bind (wpC_mono h (fun ov s₁ h₁ => wpC_bind (wpC_standAt (wpC_bind (wpC_holding (wpC_mono h₁ (fun fx s₂ h₂ => ?_) fun _ _ x => x))))) fun _ _ x => x)
  exact h₂
end
end Mine
end
section
open PySem PySem.W PyProof.Rows
namespace Mine

section
variable {α : Type} {M : Model} {A : Around} {E : Value → Shared → Prop} {s : Shared} {env : Env}

def notedC (M : Model) (A : Around) (env : Env) (E : Value → Shared → Prop) : Value → Shared → Prop :=
  fun x s' => wpC M A (noteFrame x env) (fun _ s'' => E x s'') E s'
def cameC (M : Model) (A : Around) (env : Env) (E : Value → Shared → Prop) : Value → Shared → Prop :=
  fun x s' => wpC M A (do
    if (← field x 1) == .none then unsupported "frame.own-activation:exception-without-traceback"
    setFlight x env.frame) (fun _ s'' => E x s'') E s'

theorem wpC_trees {x : Value} {Q : Unit → Shared → Prop} (h : Q () s) : wpC M A (theTreesLotGoes x) Q E s := wpC.any (wpAny_theTreesLotGoes h)
theorem wpC_noted {m : Sem α} {Q : α → Shared → Prop} (h : wpC M A m Q (notedC M A env E) s) : wpC M A (m.onRaise fun x => do noteFrame x env; theTreesLotGoes x) Q E s :=
  wpC_onRaise (wpC_mono h (fun _ _ q => q) fun _ _ hx => wpC_bind (wpC_mono hx (fun _ _ e => wpC_trees e) fun _ _ e => e))
theorem wpC_notedAt {m : Sem α} {pos : Pos} {Q : α → Shared → Prop} (h : wpC M A m Q (notedC M A env E) s) : wpC M A (m.onRaise fun x => do noteFrame x env; standAt pos) Q E s :=
  wpC_onRaise (wpC_mono h (fun _ _ q => q) fun _ _ hx => wpC_bind (wpC_mono hx (fun _ _ e => wpC_standAt e) fun _ _ e => e))
theorem wpC_runOwn {c : Code} {Q : Flow → Shared → Prop} (hcl : cleanCode c = true)
    (hc : codeC M (A.mark none) c (fun r s' => match r with | .ok f => Q f s' | .error e => cameC M A env E e s') s) : wpC M A (runOwn c env) Q E s := by
  unfold runOwn
  exact wpC_onRaise (wpC_run hcl hc)
theorem wpC_standIf {c : Prop} [Decidable c] {pos : Pos} {k : PUnit → Sem α} {Q : α → Shared → Prop} (h : wpC M A (k ()) Q E s) :
    wpC M A (if c then (standAt pos >>= k) else k ()) Q E s := by
  split
  · exact wpC_bind (wpC_standAt h)
  · exact h
theorem mark_none : A.mark none = A := by cases A; rfl

theorem cFor {target iter body orelse pos} {Q : Flow → Shared → Prop}
    (h : wpC M A (eval iter env) (fun x s₁ => wpC M A (pyIter x) (fun it s₂ =>
      codeC M A (.forLoop target it body orelse env) (fun r s' => match r with | .ok f => Q f s' | .error e => cameC M A env E e s') s₂) E s₁) E s)
    (hs : ∀ x, foldedSetIterable iter env x = pure x := by intro _; rfl) : wpC M A (exec (.For target iter body orelse pos) env) Q E s := by
  rw [exec_For]
  exact wpC_bind (wpC_standAt (wpC_bind (wpC_mono h (fun x s₁ h₁ => wpC_bind (wpC_of_eq (hs x) (wpC_bind (wpC_standAt (wpC_bind (wpC_holding
    (wpC_mono h₁ (fun it s₂ h₂ => wpC_runOwn rfl (mark_none ▸ h₂)) fun _ _ h' => h'))))))) fun _ _ h' => h')))
theorem cWhile {test body orelse pos} {Q : Flow → Shared → Prop}
    (h : codeC M A (.whileLoop test body orelse env) (fun r s' => match r with | .ok f => Q f s' | .error e => cameC M A env E e s') s) :
    wpC M A (exec (.While test body orelse pos) env) Q E s := by
  rw [exec_While]; exact wpC_bind (wpC_standAt (wpC_runOwn rfl (mark_none ▸ h)))
end

section
variable {prog : Program} {w : World} {A : Around} {E : Value → Shared → Prop} {R : Result → Shared → Prop} {s : Shared}

theorem codeC_block {body : List Stmt} {env : Env} (h : wpC (model prog w) A (execs body env) (fun f s' => R (.ok f) s') (notedC (model prog w) A env fun e s' => R (.error e) s') s) :
    codeC (model prog w) A (.block body env) R s := by
  refine codeC_of_tree ?_
  show wpC _ _ (do return Fin.done (← (execs body env).onRaise (fun x => do noteFrame x env; theTreesLotGoes x))) _ _ s
  exact wpC_bind (wpC_noted (wpC_mono h (fun f s' h' => wpC_pure h') fun _ _ h' => h'))

theorem codeC_forLoop {target it body env} (I : Nat → Shared → Prop)
    (turn : ∀ n s, I n s → wpC (model prog w) A (pyNext it) (fun r s₁ => match r with
      | none => R (.ok .next) s₁
      | some v => wpC (model prog w) A (assign target env v) (fun _ s₂ => wpC (model prog w) A (execs body env) (fun f s₃ => match f with
          | .next | .cont => ∃ m, m < n ∧ I m s₃
          | .brk => R (.ok .next) s₃
          | .ret v => R (.ok (.ret v)) s₃) (notedC (model prog w) A env fun e s' => R (.error e) s') s₂) (notedC (model prog w) A env fun e s' => R (.error e) s') s₁) (notedC (model prog w) A env fun e s' => R (.error e) s') s)
    (n : Nat) (h : I n s) (ht : ∀ v, letOwnedTupleGo target it v = pure () := by intro _; rfl) : codeC (model prog w) A (.forLoop target it body [] env) R s := by
  refine codeC_loop rfl rfl I (fun n s hI => ?_) n h
  show wpC _ _ ((forTurn target it body [] env).onRaise (fun x => do noteFrame x env; theTreesLotGoes x)) _ _ s
  refine wpC_noted ?_
  simp only [forTurn]
  refine wpC_bind (wpC_standAt (wpC_bind (wpC_onRaise (wpC_mono (turn n s hI) (fun r s₁ h₁ => ?_) fun _ _ h' => wpC_standAt h'))))
  cases r with
  | none => exact wpC_pure (.inr ⟨rfl, rfl, codeC_block (wpC_pure h₁)⟩)
  | some v =>
    refine wpC_bind (wpC_of_eq (ht v) ?_)
    refine wpC_bind (wpC_mono h₁ (fun _ s₂ h₂ => wpC_bind (wpC_mono h₂ (fun f s₃ h₃ => ?_) fun _ _ h' => h')) fun _ _ h' => h')
    cases f with
    | next => exact wpC_pure (.inl ⟨rfl, h₃⟩)
    | cont => exact wpC_pure (.inl ⟨rfl, h₃⟩)
    | brk => exact wpC_pure h₃
    | ret v => exact wpC_pure h₃

theorem codeC_whileLoop {test body env} (I : Nat → Shared → Prop)
    (turn : ∀ n s, I n s →
      wpC (model prog w) A (isTrue test env (eval test env)) (fun b s₂ =>
        if b then wpC (model prog w) A (execs body env) (fun f s₃ => match f with
            | .next | .cont => ∃ m, m < n ∧ I m s₃
            | .brk => R (.ok .next) s₃
            | .ret v => R (.ok (.ret v)) s₃) (notedC (model prog w) A env fun e s' => R (.error e) s') s₂
        else R (.ok .next) s₂)
        (notedC (model prog w) A env fun e s' => R (.error e) s') s)
    (n : Nat) (h : I n s) : codeC (model prog w) A (.whileLoop test body [] env) R s := by
  refine codeC_loop rfl rfl I (fun n s hI => ?_) n h
  show wpC _ A ((whileTurn test body [] env).onRaise (fun x => do noteFrame x env; theTreesLotGoes x)) _ _ s
  refine wpC_noted ?_
  simp only [whileTurn]
  refine wpC_bind (wpC_mono (turn n s hI) (fun b s₂ h₂ => ?_) fun _ _ h' => h')
  cases b with
  | false =>
    simp only [Bool.false_eq_true, if_false] at h₂ ⊢
    exact wpC_bind (wpC_pure (wpC_pure h₂))
  | true =>
    simp only [if_true] at h₂ ⊢
    refine wpC_bind (wpC_mono h₂ (fun f s₃ h₃ => ?_) fun _ _ h' => h')
    cases f with
    | next => exact wpC_pure (.inl ⟨rfl, h₃⟩)
    | cont => exact wpC_pure (.inl ⟨rfl, h₃⟩)
    | brk => exact wpC_pure h₃
    | ret v => exact wpC_pure h₃

theorem codeC_func {body env}
    (h : wpC (model prog w) (A.deeper env) (execs body env) (fun f s' => R (.ok (.ret (match f with | .ret v => v | _ => .none))) s')
      (fun e s' => wpC (model prog w) (A.deeper env) (leaving env e) (fun _ s'' => R (.error e) s'') (fun e' s'' => R (.error e') s'') s') s) :
    codeC (model prog w) A (.func body env) R s := by
  refine codeC_of_tree ?_
  show wpC _ (A.deeper env) (do point; match ← (execs body env).onRaise (leaving env) with | .ret v => ret v | _ => ret .none) _ _ s
  refine wpC_bind (wpC_point (wpC_bind (wpC_onRaise (wpC_mono h (fun f s' h' => ?_) fun _ _ h' => h'))))
  cases f <;> exact wpC_pure h'

theorem codeC_call_function {a : Addr} {args : Args} {o : Obj} {fd : FuncData} {body : List Stmt} (hroom : A.depth < recursionLimit)
    (ho : s.heap.get? a = some o)
    (hd' : o.data = .func fd) (hco : fd.scope.isCoroutine = false) (hgen : fd.scope.isGenerator = false) (hbody : fd.body = .stmts body) (hcd : s.heap.CodeRec fd.code fd.qualname)
    (h : wpC (model prog w) A.in1 (bindArgs fd args) (fun binds s₁ =>
      wpC (model prog w) A.in1 (newFunctionEnv fd.scope fd.globals fd.closure binds (fd.qualname ++ ".<locals>.") (some a) fd.code none fd.builtins)
        (fun env s₂ => s₂.heap.NoLimit ∧ codeC (model prog w) A (.func body env) R s₂) (fun e s' => R (.error e) s') s₁) (fun e s' => R (.error e) s') s) :
    codeC (model prog w) A (.call (.ref a) args) R s := by
  refine codeC_of_tree ?_
  show wpC _ A.in1 (callAny (.ref a) args) _ _ s
  simp only [callAny]
  refine wpC_bind (wpC_load ho ?_)
  obtain ⟨c, oc, vs, tq, hc, hoc, hdc, hq⟩ := hcd
  simp only [hd', callFunction, hco, hgen, hbody, hc]
  rw [hc] at h
  refine wpC_bind (m := field (.ref c) 1) (wpC.any (wpAny_field hoc hdc hq (wpC_bind (wpC_pure ?_))))
  exact wpC_bind (wpC_mono h (fun binds s₁ h₁ => wpC_bind (wpC_mono h₁ (fun env s₂ h₂ => wpC_bind (wpC.any (wpAny_enterFrame h₂.1 hroom
    (wpC_pure ⟨rfl, rfl, h₂.2⟩)))) fun _ _ h' => h')) fun _ _ h' => h')

theorem codeC_compStart_list {elt target iter ifs rest scope pos it acc env}
    (h0 : codeC (model prog w) A (.compLoop (.ListComp elt (⟨target, iter, ifs, 0⟩ :: rest) scope pos) 0 it acc env) R s)
    (h : wpC (model prog w) A (pyIter it) (fun it' s' => codeC (model prog w) A (.compLoop (.ListComp elt (⟨target, iter, ifs, 0⟩ :: rest) scope pos) 0 it' acc env) R s')
      (notedC (model prog w) A env fun x s' => R (.error x) s') s) :
    codeC (model prog w) A (.compStart (.ListComp elt (⟨target, iter, ifs, 0⟩ :: rest) scope pos) 0 it acc env) R s := by
  refine codeC_of_tree ?_
  show wpC _ _ ((compStart (.ListComp elt (⟨target, iter, ifs, 0⟩ :: rest) scope pos) 0 it acc env).onRaise (fun x => do noteFrame x env; standAt theWindowsPlace)) _ _ s
  refine wpC_notedAt ?_
  unfold compStart
  show wpC _ _ (ask >>= _) _ _ s
  refine wpC_bind (wpC.any (wpAny_askSetting ?_))
  split
  · first
      | exact wpC_bind (wpC_pure (wpC_pure ⟨rfl, rfl, h0⟩))
      | exact wpC_pure ⟨rfl, rfl, h0⟩
  · first
      | exact wpC_bind (wpC_rule (wpC_bind (wpC_standAt (wpC_bind (wpC_mono h (fun it' s' h' => wpC_pure ⟨rfl, rfl, h'⟩) fun _ _ x => x)))))
      | (refine wpC_bind (wpC_rule ?_); show wpC _ _ (standAt iter.pos >>= _) _ _ s; exact wpC_bind (wpC_standAt (wpC_bind (wpC_mono h (fun it' s' h' => wpC_pure ⟨rfl, rfl, h'⟩) fun _ _ x => x))))

theorem codeC_compLoop_tests {elt target iter : Expr} {ifs : List Expr} {scope : Scope} {pos : Pos} {it acc : Value} {env : Env} (I : Nat → Shared → Prop)
    (turn : ∀ n s, I n s → wpC (model prog w) A (pyNext it) (fun r s₁ => match r with
      | none => R (.ok .next) s₁
      | some v => wpC (model prog w) A (letOwnedTupleGo target it v) (fun _ s₀ => wpC (model prog w) A (assign target env v) (fun _ s₂ =>
          wpC (model prog w) A (forIn ifs true fun c r => if r = true then do let ok ← isTrue c env (eval c env); pure (ForInStep.yield ok) else pure (ForInStep.yield r)) (fun ok s₃ =>
            if ok = true then wpC (model prog w) A (eval elt env) (fun x s₄ =>
              wpC (model prog w) A (call (.builtin "list.append") [acc, x]) (fun _ s₅ => ∃ m, m < n ∧ I m s₅) (notedC (model prog w) A env fun e s' => R (.error e) s') s₄) (notedC (model prog w) A env fun e s' => R (.error e) s') s₃
            else ∃ m, m < n ∧ I m s₃) (notedC (model prog w) A env fun e s' => R (.error e) s') s₂) (notedC (model prog w) A env fun e s' => R (.error e) s') s₀) (notedC (model prog w) A env fun e s' => R (.error e) s') s₁) (notedC (model prog w) A env fun e s' => R (.error e) s') s)
    (n : Nat) (h : I n s) :
    codeC (model prog w) A (.compLoop (.ListComp elt [⟨target, iter, ifs, 0⟩] scope pos) 0 it acc env) R s := by
  refine codeC_loop rfl rfl I (fun n s hI => ?_) n h
  show wpC _ A ((compTurn (.ListComp elt [⟨target, iter, ifs, 0⟩] scope pos) 0 it acc env).onRaise (fun x => do noteFrame x env; theTreesLotGoes x)) _ _ s
  refine wpC_noted ?_
  rw [compTurn_list]
  refine wpC_bind (wpC_standAt (wpC_bind (wpC_mono (turn n s hI) (fun r s₁ h₁ => ?_) fun _ _ h' => h')))
  cases r with
  | none => exact wpC_pure h₁
  | some v =>
    refine wpC_bind (wpC_mono h₁ (fun _ s₀ h₀ => ?_) fun _ _ h' => h')
    refine wpC_bind (wpC_mono h₀ (fun _ s₂ h₂ => wpC_bind (wpC_mono h₂ (fun ok s₃ h₃ => ?_) fun _ _ h' => h')) fun _ _ h' => h')
    cases ok with
    | false => exact wpC_pure (.inl ⟨rfl, h₃⟩)
    | true =>
      exact wpC_bind (wpC_bind (wpC_mono h₃ (fun x s₄ h₄ => wpC_bind (wpC_mono h₄ (fun _ s₅ h₅ => wpC_pure (wpC_pure (.inl ⟨rfl, h₅⟩))) fun _ _ h' => h')) fun _ _ h' => h'))
theorem tests_nil {env : Env} {Q : Bool → Shared → Prop} (h : Q true s) :
    wpC (model prog w) A (forIn ([] : List Expr) true fun c r => if r = true then do let ok ← isTrue c env (eval c env); pure (ForInStep.yield ok) else pure (ForInStep.yield r)) Q E s :=
  wpC_pure h
theorem tests_one {env : Env} {c : Expr} {Q : Bool → Shared → Prop} (h : wpC (model prog w) A (isTrue c env (eval c env)) Q E s) :
    wpC (model prog w) A (forIn [c] true fun c r => if r = true then do let ok ← isTrue c env (eval c env); pure (ForInStep.yield ok) else pure (ForInStep.yield r)) Q E s := by
  simp only [List.forIn_cons, List.forIn_nil, if_true]
  exact wpC_bind (wpC_bind (wpC_mono h (fun b s' hb => wpC_pure (wpC_pure hb)) fun _ _ x => x))

/-- a comprehension, none of whose parts raises -/
def compQ (M : Model) (A : Around) (E : Value → Shared → Prop) (use : Option (Value → Sem Unit)) (Q : Value → Shared → Prop) (acc : Value) (C : Addr) (r : Result) (s' : Shared) : Prop :=
  match r, use with
  | .ok _, none => ∃ m, s'.heap.Ns C m ∧ ∀ h', Heap.SameBut C s'.heap h' → Q acc { s' with heap := h' }
  | .ok _, some u => wpC M A (u acc) (fun _ s'' => ∃ m, s''.heap.Ns C m ∧ ∀ h', Heap.SameBut C s''.heap h' → Q .none { s'' with heap := h' }) E s'
  | .error _, _ => False

theorem cComp {M : Model} {e : Expr} {scope : Scope} {pos : Pos} {newAcc first : Sem Value} {g : Comprehension} {gs : List Comprehension} {cl : List (Str × Addr)} {use : Option (Value → Sem Unit)} {env : Env}
    {Q : Value → Shared → Prop}
    (hcl : clausesOf e = g :: gs) (hs : ∀ x, foldedSetIterable g.iter env x = pure x) (hclos : closureFor scope env = pure cl)
    (hkind : scope.kind = .function) (hnames : ∀ x ∈ scope.names, x.2 = .local → scope.names.lookup x.1 = some .local)
    (h : wpC M A first (fun x s₁ => wpC M A (pyIter x) (fun it s₂ => wpC M A newAcc (fun acc s₃ =>
      wpC M A (newFunctionEnv scope env.globals cl [] env.qual none .none (some env)) (fun cenv s₄ =>
        codeC M A (.compStart e 0 it acc { cenv with scope := relabel scope env }) (compQ M A E use Q acc cenv.locals) s₄) E s₃) E s₂) E s₁) E s) :
    wpC M A (comprehension e scope env pos newAcc false first use) Q E s := by
  unfold comprehension
  rw [hclos, hcl]
  refine wpC_bind (wpC_mono h (fun x s₁ h₁ => wpC_bind (wpC_standAt (wpC_bind (wpC_of_eq (hs x) (wpC_bind (wpC_holding (wpC_mono h₁ (fun it s₂ h₂ =>
    wpC_standIf (wpC_bind (wpC_mono h₂ (fun acc s₃ h₃ => wpC_bind (wpC_pure (wpC_bind (wpC_mono h₃ (fun cenv s₄ h₄ => ?_) fun _ _ h' => h')))) fun _ _ h' => h')))
      fun _ _ h' => h'))))))) fun _ _ h' => h')
  dsimp only
  have hv : ∀ x ∈ (scope.names.filter fun x => (x.2 == .local || x.2 == .cell) && x.1 != (".0" : Str)).reverse, x.2 = .local →
      Env.kindOf { cenv with scope := relabel scope env } x.1 = some .local := fun x hx hl => lookup_relabel_local (hnames x (List.mem_filter.mp (List.mem_reverse.mp hx)).1 hl)
  have hv' : ∀ x ∈ (scope.names.filter fun x => (x.2 == .local || x.2 == .cell) && x.1 != (".0" : Str)).reverse.drop 1 ++ (scope.names.filter fun x => (x.2 == .local || x.2 == .cell) && x.1 != (".0" : Str)).reverse.take 1,
      x.2 = .local → Env.kindOf { cenv with scope := relabel scope env } x.1 = some .local := fun x hx hl => by
    rcases List.mem_append.mp hx with h1 | h1
    · exact hv x (List.mem_of_mem_drop h1) hl
    · exact hv x (List.mem_of_mem_take h1) hl
  refine wpC_holding (wpC_bind (wpC_attempt (wpC_holding (wpC_run rfl (mark_none (A := A) ▸ codeC_mono h₄ fun r s' hr => ?_)))))
  cases r with
  | ok f =>
    cases use with
    | none =>
      obtain ⟨m, hn, hr⟩ := hr
      exact wpC_bind (wpC_holding (wpC.any (wpAny_comp_letGo (cenv := { cenv with scope := relabel scope env }) hkind _ s' m hv hn fun h' m' _ hs' => wpC_pure (hr h' hs'))))
    | some u =>
      refine wpC_bind (wpC_rule (wpC_bind (wpC_holding (wpC_mono hr (fun _ s'' hr' => ?_) fun _ _ h' => h'))))
      obtain ⟨m, hn, hr'⟩ := hr'
      exact wpC_bind (wpC.any (wpAny_comp_letGo (cenv := { cenv with scope := relabel scope env }) hkind _ s'' m hv' hn fun h' m' _ hs' => wpC_pure (hr' h' hs')))
  | error x => exact (by cases use <;> exact hr : False).elim
end
end Mine
end
section
open PySem PySem.W PyProof.Rows PySem.Calls
set_option maxRecDepth 100000
namespace Mine
namespace BA
theorem mro : mroOf (.type "bytearray") = pure [.type "bytearray", .type "object"] := by rw [mroOf_type]; kernel_rfl
theorem lookup_new : typeLookup (.type "bytearray") "__new__" = pure (some (.builtin "bytearray.__new__")) := by rw [typeLookup_type, builtinLookup_eq_fast]; kernel_rfl
theorem slot_init : Slot "bytearray" "__init__" "bytearray.__init__" :=
  .of (owner := "bytearray") (n := "__init__") (by rw [typeLookup_type, builtinLookup_eq_fast]; kernel_rfl) (by decide +kernel) (by decide +kernel) (by decide +kernel)
    (by first | exact .inl (by decide +kernel) | exact .inr (by decide +kernel)) (by rw [isSubtype_type]; kernel_rfl)
theorem called : TypeCalled "bytearray" "bytearray.__new__" "bytearray.__init__" :=
  ⟨by decide +kernel, by decide +kernel, ⟨_, _, mro⟩, madeBy_type mro lookup_new (by decide +kernel), by decide +kernel, by rw [isSubtype_type]; kernel_rfl, slot_init⟩
theorem typeCall0 : checkTypeCall "bytearray" ⟨[], []⟩ = pure () := by kernel_rfl
theorem typeCall1 (a : Value) : checkTypeCall "bytearray" ⟨[a], []⟩ = pure () := by kernel_rfl
theorem newCall0 : checkBuiltinCall "bytearray.__new__" ⟨[.type "bytearray"], []⟩ = pure () := by kernel_rfl
theorem newCall1 (a : Value) : checkBuiltinCall "bytearray.__new__" ⟨[.type "bytearray", a], []⟩ = pure () := by kernel_rfl
theorem plain_new : plainId "bytearray.__new__" = true := by decide +kernel
theorem entry_new : entryFor table "bytearray.__new__" = some Builtin.«list.__new__» := entryFor_alias (id' := "list.__new__") (by kernel_rfl) rfl (by decide +kernel) (by kernel_rfl)
theorem entry_init : entryFor table "bytearray.__init__" = some Builtin.«bytearray.__init__» := by first | exact entryFor_of_fast (by kernel_rfl) | exact entryFor_of_tree (by kernel_rfl)
theorem args_init1 (a : Value) : argsOk "bytearray.__init__" ⟨[a], []⟩ := by unfold argsOk; kernel_rfl
theorem args_init2 (a b : Value) : argsOk "bytearray.__init__" ⟨[a, b], []⟩ := by unfold argsOk; kernel_rfl
theorem sub_self : isSubtype (.type "bytearray") (.type "bytearray") = pure true := by rw [isSubtype_type]; kernel_rfl
theorem plainAttrs : PlainAttrs "bytearray" :=
  ⟨⟨"bytearray.__getattribute__", by rw [typeLookup_type, builtinLookup_eq_fast]; kernel_rfl, by decide +kernel⟩, by rw [typeLookup_type, builtinLookup_eq_fast]; kernel_rfl⟩
theorem slot_append : Slot "bytearray" "append" "bytearray.append" :=
  .of (owner := "bytearray") (n := "append") (by rw [typeLookup_type, builtinLookup_eq_fast]; kernel_rfl) (by decide +kernel) (by decide +kernel) (by decide +kernel)
    (by first | exact .inl (by decide +kernel) | exact .inr (by decide +kernel)) (by rw [isSubtype_type]; kernel_rfl)
theorem type_append : typeOf (.builtin "bytearray.append") = pure (.type "method_descriptor") := by show builtinType _ = _; rw [builtinType_eq_fast]; kernel_rfl
theorem entry_append : entryFor table "bytearray.append" = some Builtin.«bytearray.append» := by first | exact entryFor_of_fast (by kernel_rfl) | exact entryFor_of_tree (by kernel_rfl)
theorem args_append (a b : Value) : argsOk "bytearray.append" ⟨[a, b], []⟩ := by unfold argsOk; kernel_rfl
theorem slot_len : Slot "bytearray" "__len__" "bytearray.__len__" :=
  .of (owner := "bytearray") (n := "__len__") (by rw [typeLookup_type, builtinLookup_eq_fast]; kernel_rfl) (by decide +kernel) (by decide +kernel) (by decide +kernel)
    (by first | exact .inl (by decide +kernel) | exact .inr (by decide +kernel)) (by rw [isSubtype_type]; kernel_rfl)
theorem entry_len : entryFor table "bytearray.__len__" = some Builtin.«bytearray.__len__» := by first | exact entryFor_of_fast (by kernel_rfl) | exact entryFor_of_tree (by kernel_rfl)
theorem args_len (a : Value) : argsOk "bytearray.__len__" ⟨[a], []⟩ := by unfold argsOk; kernel_rfl
theorem slot_getitem : Slot "bytearray" "__getitem__" "bytearray.__getitem__" :=
  .of (owner := "bytearray") (n := "__getitem__") (by rw [typeLookup_type, builtinLookup_eq_fast]; kernel_rfl) (by decide +kernel) (by decide +kernel) (by decide +kernel)
    (by first | exact .inl (by decide +kernel) | exact .inr (by decide +kernel)) (by rw [isSubtype_type]; kernel_rfl)
theorem entry_getitem : entryFor table "bytearray.__getitem__" = some Builtin.«bytearray.__getitem__» := by first | exact entryFor_of_fast (by kernel_rfl) | exact entryFor_of_tree (by kernel_rfl)
theorem args_getitem (a b : Value) : argsOk "bytearray.__getitem__" ⟨[a, b], []⟩ := by unfold argsOk; kernel_rfl
theorem nobytes : typeLookup (.type "bytearray") "__bytes__" = pure none := by rw [typeLookup_type, builtinLookup_eq_fast]; kernel_rfl
theorem noindex : typeLookup (.type "bytearray") "__index__" = pure none := by rw [typeLookup_type, builtinLookup_eq_fast]; kernel_rfl
theorem buffer : typeLookup (.type "bytearray") "__buffer__" = pure (some (.builtin "bytearray.__buffer__")) := by rw [typeLookup_type, builtinLookup_eq_fast]; kernel_rfl
theorem release : typeLookup (.type "bytearray") "__release_buffer__" = pure (some (.builtin "bytearray.__release_buffer__")) := by rw [typeLookup_type, builtinLookup_eq_fast]; kernel_rfl
theorem bbuffer : typeLookup (.type "bytes") "__buffer__" = pure (some (.builtin "bytes.__buffer__")) := by rw [typeLookup_type, builtinLookup_eq_fast]; kernel_rfl
theorem brelease : typeLookup (.type "bytes") "__release_buffer__" = pure none := by rw [typeLookup_type, builtinLookup_eq_fast]; kernel_rfl
theorem b_no_index : typeLookup (.type "bytes") "__index__" = pure none := by rw [typeLookup_type, builtinLookup_eq_fast]; kernel_rfl
theorem bind0 : Builtin.Bytes.bindOptional "bytearray.__init__" "bytearray" ["source", "encoding", "errors"] [] [] = pure [none, none, none] := by kernel_rfl
theorem bind1 (v : Value) : Builtin.Bytes.bindOptional "bytearray.__init__" "bytearray" ["source", "encoding", "errors"] [v] [] = pure [some v, none, none] := by kernel_rfl
theorem bbind (v : Value) : Builtin.Bytes.bindOptional "bytes.__new__" "bytes" ["source", "encoding", "errors"] [v] [] = pure [some v, none, none] := by kernel_rfl
theorem r_no_bytes : typeLookup (.type "range") "__bytes__" = pure none := by rw [typeLookup_type, builtinLookup_eq_fast]; kernel_rfl
theorem r_no_index : typeLookup (.type "range") "__index__" = pure none := by rw [typeLookup_type, builtinLookup_eq_fast]; kernel_rfl
theorem r_no_buffer : typeLookup (.type "range") "__buffer__" = pure none := by rw [typeLookup_type, builtinLookup_eq_fast]; kernel_rfl
theorem r_len : Slot "range" "__len__" "range.__len__" :=
  .of (owner := "range") (n := "__len__") (by rw [typeLookup_type, builtinLookup_eq_fast]; kernel_rfl) (by decide +kernel) (by decide +kernel) (by decide +kernel)
    (by first | exact .inl (by decide +kernel) | exact .inr (by decide +kernel)) (by rw [isSubtype_type]; kernel_rfl)
end BA
end Mine
end
section
open PySem PySem.W PyProof.Rows PySem.Calls
set_option maxRecDepth 100000
namespace Mine

section
variable {prog : Program} {w : World} {A : Around} {E : Value → Shared → Prop} {R : Result → Shared → Prop} {s : Shared}

theorem cExported {M : Model} {v : Value} {Q : Bool → Shared → Prop} (h : Q false s) : wpC M A (Builtin.Bytes.exported v) Q E s := fun Γ p hΓ hc => by
  show Q (((Γ.code, p) :: Γ.below).any _) s
  have key : ∀ x ∈ (Γ.code, p) :: Γ.below, cleanCode x.1 = true := fun x hx => by
    rcases List.mem_cons.mp hx with rfl | hx
    · exact hc.1
    · exact hc.2 x hx
  have hs : ∀ f : Code × Pos → Bool, (∀ x, cleanCode x.1 = true → f x = false) → Q (((Γ.code, p) :: Γ.below).any f) s := fun f hf => by
    have : ((Γ.code, p) :: Γ.below).any f = false := by
      rw [List.any_eq_false]
      intro x hx
      rw [hf x (key x hx)]
      decide
    rw [this]; exact h
  refine hs _ fun x this => ?_
  obtain ⟨cd, q⟩ := x
  cases cd with
  | builtin id args =>
    obtain ⟨pos, kw⟩ := args
    have t2 : holders.contains id = false ∧ Builtin.Bytes.decodersThatHold.contains id = false := by
      have : (!(holders.contains id || Builtin.Bytes.decodersThatHold.contains id)) = true := this
      rwa [Bool.not_eq_true', Bool.or_eq_false_iff] at this
    have hne : ∀ y, holders.contains y = true → ¬ id = y := fun y hy e => by rw [e, hy] at t2; cases t2.1
    have n1 := hne "bytearray.__contains__" rfl
    have n2 := hne "bytearray.__mod__" rfl
    have n3 := hne "bytearray.__rmod__" rfl
    have n4 := hne "_struct.pack_into.held" rfl
    have n5 := hne "bytearray.find.held" rfl
    have t3 := t2.2
    clear t2 hne key hs this h hc hΓ
    delta Builtin.Bytes.exported.match_1 Builtin.Bytes.exported._sparseCasesOn_1
    dsimp only
    refine (dif_neg n1).trans ?_
    refine (dif_neg n2).trans ?_
    refine (dif_neg n3).trans ?_
    refine (dif_neg n4).trans ?_
    refine (dif_neg n5).trans ?_
    cases pos with
    | nil => rfl
    | cons a l => exact (congrArg (_ && ·) t3).trans (Bool.and_false _)
  | _ => rfl

theorem codeC_builtin {id : String} {args : Args} {b : Builtin} (hb : entryFor table id = some b)
    (h : wpC (model prog w) (A.under (.builtin id args)) (b args)
      (fun fin s' => match fin with | .done f => R (.ok f) s' | .again c' => c'.quiet = true ∧ cleanCode c' = true ∧ codeC (model prog w) A c' R s') (fun e s' => R (.error e) s') s) :
    codeC (model prog w) A (.builtin id args) R s := by
  refine codeC_of_tree ?_
  show wpC _ _ (match entryFor table id with | some b => b args | none => unsupported ((withoutEnding? id "#data").getD id)) _ _ s
  rw [hb]; exact h

theorem codeC_call_builtin {id : String} {args : Args} {b : Builtin} (hq : plainId id = true) (hcl : cleanCode (.builtin id args) = true) (hb : entryFor table id = some b)
    (h : wpC (model prog w) A.in1 (checkBuiltinCall id args) (fun _ s₁ => wpC (model prog w) A.in1 (b args)
      (fun fin s' => match fin with | .done f => R (.ok f) s' | .again c' => c'.quiet = true ∧ cleanCode c' = true ∧ codeC (model prog w) A c' R s') (fun e s' => R (.error e) s') s₁)
      (fun e s' => R (.error e) s') s) : codeC (model prog w) A (.call (.builtin id) args) R s := by
  refine codeC_of_tree ?_
  show wpC _ A.in1 (do checkBuiltinCall id args; again (.builtin id args)) _ _ s
  refine wpC_bind (wpC_mono h (fun _ s₁ h₁ => wpC_pure ⟨plainId_quiet hq args, hcl, codeC_builtin hb ?_⟩) fun _ _ h' => h')
  rw [Around.under_plainId hq args]
  exact h₁

/-- a call of a built-in class whose init looks at the stack -/
theorem cTypeCall {T newId initId : String} {Bi : Builtin} {args : List Value} {Q Q₁ : Value → Shared → Prop} (ft : TypeCalled T newId initId)
    (hct : checkTypeCall T ⟨args, []⟩ = pure ()) (entryI : entryFor table initId = some Bi) (hcl : ∀ a, cleanCode (.builtin initId a) = true)
    (hnew : codeAny (model prog w) A.in1 (.call (.builtin newId) ⟨.type T :: args, []⟩) (wants Q₁ E) s)
    (hnext : ∀ obj s₁, Q₁ obj s₁ → s₁.TypeIs obj T ∧ argsOk initId ⟨obj :: args, []⟩ ∧
      wpC (model prog w) A.in1.in1 (Bi ⟨obj :: args, []⟩)
        (fun fin s' => fin = .done (.ret .none) ∧ Q obj s') E s₁) :
    wpC (model prog w) A (call (.type T) args) Q E s := by
  obtain ⟨c, tl, hmro⟩ := ft.mro
  have hmade := ft.made
  have hsub := ft.sub
  refine wpC_call (codeC_of_tree ?_)
  show wpC _ _ (callAny (.type T) _) _ _ _
  refine wpC_pure ⟨Code.quiet_builtin _ (by decide +kernel), rfl, codeC_builtin F.entry_type_call ?_⟩
  rw [Around.under_plain (weight_type_call_type T args []) rfl]
  have h1 := ft.notType
  have h2 := ft.canCreate
  unfold Builtin.«type.__call__»
  simp only [h1, h2, hct, hmro, hmade, pure_bind, Bool.false_eq_true, if_false, List.isEmpty_cons]
  refine wpC_bind (wpC_holding (wpC_call (codeC.any (codeAny_mono hnew fun r s₁ hr => ?_))))
  cases r with
  | error e => exact hr
  | ok fl =>
    cases fl with
    | ret obj =>
      obtain ⟨hT, hok, hsi⟩ := hnext _ _ hr
      refine wpC_bind (wpC.any (wpAny_isInstance hT hsub ?_))
      simp only [Bool.not_true, Bool.false_eq_true, if_false]
      refine wpC_bind (wpC_holding ?_)
      simp only [callSpecial?]
      refine wpC_bind (wpC.any (wpAny_specialOf hT ft.init.lookup ?_))
      simp only [ft.init.bind]
      refine wpC_holding (wpC_bind (wpC_pure (wpC_bind (wpC_call ?_))))
      refine codeC_call_builtin ft.init.plain (hcl _) entryI (wpC.any (ft.init.check _ _ _ _ _ _ _ _ hT hok ?_))
      refine wpC_mono hsi (fun fin s' hf => ?_) fun _ _ x => x
      obtain ⟨rfl, hq⟩ := hf
      exact wpC_pure (wpC_pure hq)
    | _ => exact hr.elim
end
end Mine
end
section
open PySem PySem.W PyProof.Rows PySem.Calls
namespace Mine

/-- abstract values -/
inductive V where
  | none
  | bool (b : Bool)
  | int (i : Int)
  | str (s : Str)
  | bytes (b : List UInt8)
  | tup (vs : List V)
  | ref (a : Addr)
  | rng (a b : Int)
  | slc (l u : V)
  | val (w : Value)

/-- abstract objects (those that may be changed) -/
inductive O where
  | list (xs : List V)
  | barr (b : List UInt8)
  | inst (C dx : Addr)
  | dct (es : List (Str × V))
  | obj (ob : Obj)

abbrev St := Addr → Option O
abbrev Vars := List (Str × V)

mutual
inductive RelV (h : Heap) (st : St) : V → Value → Prop
  | none : RelV h st .none .none
  | bool (b : Bool) : RelV h st (.bool b) (.bool b)
  | int (i : Int) (t : Tok) : RelV h st (.int i) (.int i t)
  | str (x : Str) (t : Tok) : RelV h st (.str x) (.str x t)
  | bytes (b : List UInt8) (t : Tok) : RelV h st (.bytes b) (.bytes b.toArray t)
  | tup {a : Addr} {vs : List V} {ws : List Value} : IsTup h a ws.toArray → st a = .none → RelVs h st vs ws → RelV h st (.tup vs) (.ref a)
  | ref (a : Addr) : RelV h st (.ref a) (.ref a)
  | rng {r : Addr} {a b : Int} {t u v : Tok} : IsRange h r a b 1 t u v → st r = .none → RelV h st (.rng a b) (.ref r)
  | slc {r : Addr} {l u : V} {wl wu : Value} : h.get? r = some { cls := .type "slice", data := .fields #[wl, wu, .none] } → st r = .none → RelV h st l wl → RelV h st u wu → RelV h st (.slc l u) (.ref r)
  | val (w : Value) : RelV h st (.val w) w
inductive RelVs (h : Heap) (st : St) : List V → List Value → Prop
  | nil : RelVs h st [] []
  | cons {v : V} {w : Value} {vs : List V} {ws : List Value} : RelV h st v w → RelVs h st vs ws → RelVs h st (v :: vs) (w :: ws)
end

theorem RelV.i_val {h : Heap} {st : St} {x u : Value} (r : RelV h st (.val x) u) : u = x := by cases r; rfl
theorem RelV.i_ref {h : Heap} {st : St} {a : Addr} {u : Value} (r : RelV h st (.ref a) u) : u = .ref a := by cases r; rfl
theorem RelV.i_int {h : Heap} {st : St} {i : Int} {u : Value} (r : RelV h st (.int i) u) : ∃ t, u = .int i t := by cases r; exact ⟨_, rfl⟩
theorem RelV.i_str {h : Heap} {st : St} {x : Str} {u : Value} (r : RelV h st (.str x) u) : ∃ t, u = .str x t := by cases r; exact ⟨_, rfl⟩
theorem RelV.i_bytes {h : Heap} {st : St} {b : List UInt8} {u : Value} (r : RelV h st (.bytes b) u) : ∃ t, u = .bytes b.toArray t := by cases r; exact ⟨_, rfl⟩
theorem RelV.i_bool {h : Heap} {st : St} {b : Bool} {u : Value} (r : RelV h st (.bool b) u) : u = .bool b := by cases r; rfl
theorem RelVs.i_nil {h : Heap} {st : St} {u : List Value} (r : RelVs h st [] u) : u = [] := by cases r; rfl

/-- the data that frames are made of -/
def frameData : Data → Bool
  | .dict .. => true
  | .cell .. => true
  | _ => false

/-- the objects whose content is looked at by the relation -/
def imm (o : Obj) : Bool := !frameData o.data && (match o.cls with | .type T => T == "tuple" || T == "range" || T == "slice" | _ => false)
theorem imm_frame {o : Obj} (h : frameData o.data = true) : imm o = false := by unfold imm; rw [h]; rfl

structure Ext (X : Addr → Prop) (h : Heap) (st : St) (h' : Heap) (st' : St) : Prop where
  keep : ∀ b o, h.get? b = some o → st b = none → ¬ X b → h'.get? b = some o ∧ st' b = none

abbrev NoX : Addr → Prop := fun _ => False

theorem Ext.refl {X h st} : Ext X h st h st := ⟨fun _ _ e n _ => ⟨e, n⟩⟩
theorem Ext.trans {X h st h' st' h'' st''} (a : Ext X h st h' st') (b : Ext X h' st' h'' st'') : Ext X h st h'' st'' :=
  ⟨fun x o e n hx => let ⟨p, q⟩ := a.keep x o e n hx; b.keep x o p q hx⟩
theorem Ext.weaken {X h st h' st'} (a : Ext NoX h st h' st') : Ext X h st h' st' := ⟨fun b o e n _ => a.keep b o e n (fun f => f)⟩

/-- what the transport of values asks -/
def Tr (h : Heap) (st : St) (h' : Heap) (st' : St) : Prop := ∀ b o, h.get? b = some o → st b = none → imm o = true → h'.get? b = some o ∧ st' b = none
theorem Ext.tr {h st h' st'} (a : Ext NoX h st h' st') : Tr h st h' st' := fun b o e n _ => a.keep b o e n (fun f => f)

theorem isTup_tr {h st h' st' a items} (k : Tr h st h' st') (x : IsTup h a items) (n : st a = none) : IsTup h' a items ∧ st' a = none := by
  obtain ⟨o, ho, hc, m, hd⟩ := x
  have := k a o ho n (by unfold imm; rw [hd, hc]; rfl)
  exact ⟨⟨o, this.1, hc, m, hd⟩, this.2⟩

theorem isRange_tr {h st h' st' r a b c t u v} (k : Tr h st h' st') (x : IsRange h r a b c t u v) (n : st r = none) : IsRange h' r a b c t u v ∧ st' r = none := by
  unfold IsRange at *
  exact k r _ x n rfl

theorem RelV.tr {h st h' st'} (k : Tr h st h' st') {v : V} {w : Value} (x : RelV h st v w) : RelV h' st' v w := by
  refine RelV.rec (motive_1 := fun v w _ => RelV h' st' v w) (motive_2 := fun vs ws _ => RelVs h' st' vs ws) ?_ ?_ ?_ ?_ ?_ ?_ ?_ ?_ ?_ ?_ ?_ ?_ x
  · exact .none
  · exact fun b => .bool b
  · exact fun i t => .int i t
  · exact fun x t => .str x t
  · exact fun b t => .bytes b t
  · intro a vs ws ht hn _ ih
    have := isTup_tr k ht hn
    exact .tup this.1 this.2 ih
  · exact fun a => .ref a
  · intro r a b t u v hr hn
    have := isRange_tr k hr hn
    exact .rng this.1 this.2
  · intro r l u wl wu ho hn _ _ i1 i2
    have := k r _ ho hn rfl
    exact .slc this.1 this.2 i1 i2
  · exact fun w => .val w
  · exact .nil
  · exact fun _ _ a b => .cons a b
theorem RelVs.tr {h st h' st'} (k : Tr h st h' st') : ∀ {vs : List V} {ws : List Value}, RelVs h st vs ws → RelVs h' st' vs ws
  | _, _, .nil => .nil
  | _, _, .cons a b => .cons (a.tr k) (b.tr k)

theorem RelVs.length {h st} : ∀ {vs : List V} {ws : List Value}, RelVs h st vs ws → vs.length = ws.length
  | _, _, .nil => rfl
  | _, _, .cons _ b => by simp [RelVs.length b]
theorem RelVs.append {h st} : ∀ {vs : List V} {ws : List Value} {vs' ws'}, RelVs h st vs ws → RelVs h st vs' ws' → RelVs h st (vs ++ vs') (ws ++ ws')
  | _, _, _, _, .nil, y => y
  | _, _, _, _, .cons a b, y => .cons a (b.append y)
theorem RelVs.get {h st} : ∀ {vs : List V} {ws : List Value} (k : Nat) {v : V}, RelVs h st vs ws → vs[k]? = some v → ∃ w, ws[k]? = some w ∧ RelV h st v w
  | _, _, 0, _, .cons a _, e => by simp at e; subst e; exact ⟨_, rfl, a⟩
  | _, _, k + 1, _, .cons _ b, e => by simp at e; simpa using b.get k e
theorem RelVs.take {h st} : ∀ {vs : List V} {ws : List Value} (k : Nat), RelVs h st vs ws → RelVs h st (vs.take k) (ws.take k)
  | _, _, 0, _ => by simp; exact .nil
  | _, _, _ + 1, .nil => by simp; exact .nil
  | _, _, k + 1, .cons a b => .cons a (b.take k)
theorem RelVs.drop {h st} : ∀ {vs : List V} {ws : List Value} (k : Nat), RelVs h st vs ws → RelVs h st (vs.drop k) (ws.drop k)
  | _, _, 0, x => x
  | _, _, _ + 1, .nil => .nil
  | _, _, k + 1, .cons _ b => b.drop k

inductive RelD (h : Heap) (st : St) : List (Str × V) → List DictEntry → Prop
  | nil : RelD h st [] []
  | cons {k : Str} {v : V} {hs : Int} {t : Tok} {w : Value} {es es'} : RelV h st v w → RelD h st es es' → RelD h st ((k, v) :: es) (⟨hs, .str k t, w⟩ :: es')
theorem RelD.tr {h st h' st'} (k : Tr h st h' st') : ∀ {vs ws}, RelD h st vs ws → RelD h' st' vs ws
  | _, _, .nil => .nil
  | _, _, .cons a b => .cons (a.tr k) (b.tr k)

def RelO (h : Heap) (st : St) (b : Addr) : O → Prop
  | .list xs => ∃ ws n, h.get? b = some (listOf (List.toArray ws) n) ∧ RelVs h st xs ws
  | .barr bs => h.get? b = some { cls := .type "bytearray", data := .bytearray bs.toArray 0 }
  | .inst C dx => h.get? b = some (instObj C dx)
  | .dct es => ∃ es' n, h.get? b = some (dictOf es' n) ∧ RelD h st es es'
  | .obj ob => h.get? b = some ob

structure Inv (hB h : Heap) (st : St) : Prop where
  stays : ∀ b o, hB.get? b = some o → h.get? b = some o ∧ st b = none
  objs : ∀ b o, st b = some o → RelO h st b o

structure Cx where
  env : Env
  A : Around
  own : List Addr

def VarAt (env : Env) (h : Heap) (m : Str → Option Value) (x : Str) (w : Value) : Prop :=
  (env.kindOf x = some .local ∧ m x = some w) ∨
  ((env.kindOf x = some .cell ∨ env.kindOf x = some .free) ∧ ∃ cA, env.cells.lookup x = some cA ∧ h.IsCell cA (some w))

structure FrOK (hB : Heap) (c : Cx) (h : Heap) (st : St) (fr : Vars) : Prop where
  kind : c.env.scope.kind = .function
  glob : c.env.globals = mainGlobals
  blt : c.env.builtins = builtinsNs
  own : ∀ b ∈ c.own, st b = none ∧ hB.get? b = none ∧ ∃ o, h.get? b = some o ∧ frameData o.data = true
  free : ∀ x ∈ c.env.cells, st x.2 = none ∧ x.2 ≠ c.env.locals ∧ ∃ ov, h.IsCell x.2 ov
  nodup : (c.env.cells.map (·.2)).Nodup
  loc : c.env.locals ∈ c.own
  vars : ∃ m, h.Ns c.env.locals m ∧ ∀ x v, fr.lookup x = some v → ∃ w, RelV h st v w ∧ VarAt c.env h m x w

structure At (hB : Heap) (c : Cx) (fr : Vars) (st : St) (h : Heap) : Prop where
  inv : Inv hB h st
  frm : FrOK hB c h st fr


theorem isCell_ext {h st h' st' cA v} (k : Ext NoX h st h' st') (n : st cA = none) (x : Heap.IsCell h cA v) : Heap.IsCell h' cA v ∧ st' cA = none :=
  let ⟨o, ho, hd⟩ := x; ⟨⟨o, (k.keep _ _ ho n (fun f => f)).1, hd⟩, (k.keep _ _ ho n (fun f => f)).2⟩

theorem lookup_mem {α : Type} : ∀ {l : List (Str × α)} {n : Str} {c : α}, l.lookup n = some c → (n, c) ∈ l := PySem.mem_of_lookup

theorem FrOK.ext {hB c h st fr h' st'} (F : FrOK hB c h st fr) (k : Ext NoX h st h' st') : FrOK hB c h' st' fr where
  kind := F.kind
  glob := F.glob
  blt := F.blt
  own := fun b hb => by
    obtain ⟨n, g, o, ho, hd⟩ := F.own b hb
    have := k.keep b o ho n (fun f => f)
    exact ⟨this.2, g, o, this.1, hd⟩
  free := fun x hx => by
    obtain ⟨n, ne, ov, hc⟩ := F.free x hx
    have := isCell_ext k n hc
    exact ⟨this.2, ne, ov, this.1⟩
  nodup := F.nodup
  loc := F.loc
  vars := by
    obtain ⟨m, hn, hv⟩ := F.vars
    obtain ⟨n, _⟩ := F.own _ F.loc
    refine ⟨m, hn.at' fun o e => (k.keep _ _ e n (fun f => f)).1, fun x v e => ?_⟩
    obtain ⟨w, hr, ha⟩ := hv x v e
    refine ⟨w, hr.tr k.tr, ?_⟩
    rcases ha with ha | ⟨hk, cA, hl, hc⟩
    · exact .inl ha
    · exact .inr ⟨hk, cA, hl, (isCell_ext k (F.free _ (lookup_mem hl)).1 hc).1⟩

/-- the ground that every call of the law stands on -/
structure Gd (w : World) (hB : Heap) (K : Frag) where
  mg : Str → Option Value
  mb : Str → Option Value
  kin : K.In hB
  g : hB.Ns mainGlobals mg
  b : hB.Ns builtinsNs mb
  nolimit : hB.NoLimit
  blt : ∀ x : Str, x ≠ "__name__" → mb x = bootBuiltins x

/-- what may be raised, and where it leaves the heap -/
abbrev EE := Value → Heap → Prop
abbrev EX (s : Shared) (E : EE) : Value → Shared → Prop := fun e s' => ∃ h' tk', s' = { s with heap := h', toks := tk' } ∧ E e h'

section
variable (prog : Program) (w : World) (hB : Heap) (c : Cx)

def TE (e : Expr) (fr : Vars) (st : St) (E : EE) (R : V → St → Prop) : Prop :=
  ∀ (s : Shared) (Q : Value → Shared → Prop), At hB c fr st s.heap →
    (∀ v st' u h' tk', R v st' → At hB c fr st' h' → Ext NoX s.heap st h' st' → RelV h' st' v u → Q u { s with heap := h', toks := tk' }) →
    wpC (model prog w) c.A (eval e c.env) Q (EX s E) s

/-- a truth test -/
def TB (e : Expr) (fr : Vars) (st : St) (E : EE) (R : Bool → St → Prop) : Prop :=
  ∀ (s : Shared) (Q : Bool → Shared → Prop), At hB c fr st s.heap →
    (∀ b st' h' tk', R b st' → At hB c fr st' h' → Ext NoX s.heap st h' st' → Q b { s with heap := h', toks := tk' }) →
    wpC (model prog w) c.A (isTrue e c.env (eval e c.env)) Q (EX s E) s

def TO1 (f : Value → Sem Value) (a : V) (fr : Vars) (st : St) (E : EE) (R : V → St → Prop) : Prop :=
  ∀ (s : Shared) (Q : Value → Shared → Prop) wa, At hB c fr st s.heap → RelV s.heap st a wa →
    (∀ v st' u h' tk', R v st' → At hB c fr st' h' → Ext NoX s.heap st h' st' → RelV h' st' v u → Q u { s with heap := h', toks := tk' }) →
    wpAny (model prog w) c.A (f wa) Q (EX s E) s

def TO2 (f : Value → Value → Sem Value) (a b : V) (fr : Vars) (st : St) (E : EE) (R : V → St → Prop) : Prop :=
  ∀ (s : Shared) (Q : Value → Shared → Prop) wa wb, At hB c fr st s.heap → RelV s.heap st a wa → RelV s.heap st b wb →
    (∀ v st' u h' tk', R v st' → At hB c fr st' h' → Ext NoX s.heap st h' st' → RelV h' st' v u → Q u { s with heap := h', toks := tk' }) →
    wpAny (model prog w) c.A (f wa wb) Q (EX s E) s

/-- truth of a value -/
def TT (a : V) (fr : Vars) (st : St) (E : EE) (R : Bool → St → Prop) : Prop :=
  ∀ (s : Shared) (Q : Bool → Shared → Prop) wa, At hB c fr st s.heap → RelV s.heap st a wa →
    (∀ b st' h' tk', R b st' → At hB c fr st' h' → Ext NoX s.heap st h' st' → Q b { s with heap := h', toks := tk' }) →
    wpAny (model prog w) c.A (truthy wa) Q (EX s E) s

/-- arguments, one behind the other -/
def TA (es : List Expr) (fr : Vars) (st : St) (E : EE) (R : List V → St → Prop) : Prop :=
  ∀ (s : Shared) (Q : List Value → Shared → Prop) (pos : Pos), At hB c fr st s.heap →
    (∀ vs st' us h' tk', R vs st' → At hB c fr st' h' → Ext NoX s.heap st h' st' → RelVs h' st' vs us → Q us { s with heap := h', toks := tk' }) →
    wpC (model prog w) c.A (spliced (backTo pos (starEach es c.env))) Q (EX s E) s

/-- a call with the values in hand -/
def TC (A : Around) (f : V) (args : List V) (fr : Vars) (st : St) (E : EE) (R : V → St → Prop) : Prop :=
  ∀ (s : Shared) (Q : Value → Shared → Prop) wf ws, At hB c fr st s.heap → RelV s.heap st f wf → RelVs s.heap st args ws →
    (∀ v st' u h' tk', R v st' → At hB c fr st' h' → Ext NoX s.heap st h' st' → RelV h' st' v u → Q u { s with heap := h', toks := tk' }) →
    wpC (model prog w) A (call wf ws) Q (EX s E) s

inductive Fl where
  | next | brk | cont
  | ret (v : V)
inductive RelF (h : Heap) (st : St) : Fl → Flow → Prop
  | next : RelF h st .next .next
  | brk : RelF h st .brk .brk
  | cont : RelF h st .cont .cont
  | ret {v u} : RelV h st v u → RelF h st (.ret v) (.ret u)

/-- one statement -/
def T1 (x : Stmt) (fr : Vars) (st : St) (E : EE) (R : Fl → Vars → St → Prop) : Prop :=
  ∀ (s : Shared) (Q : Flow → Shared → Prop), At hB c fr st s.heap →
    (∀ f fr' st' u h' tk', R f fr' st' → At hB c fr' st' h' → Ext (· ∈ c.own) s.heap st h' st' → RelF h' st' f u → Q u { s with heap := h', toks := tk' }) →
    wpC (model prog w) c.A (exec x c.env) Q (EX s E) s

def TS (xs : List Stmt) (fr : Vars) (st : St) (E : EE) (R : Fl → Vars → St → Prop) : Prop :=
  ∀ (s : Shared) (Q : Flow → Shared → Prop), At hB c fr st s.heap →
    (∀ f fr' st' u h' tk', R f fr' st' → At hB c fr' st' h' → Ext (· ∈ c.own) s.heap st h' st' → RelF h' st' f u → Q u { s with heap := h', toks := tk' }) →
    wpC (model prog w) c.A (execs xs c.env) Q (EX s E) s

/-- a store of a value by a target -/
def TAs (t : Expr) (v : V) (fr : Vars) (st : St) (E : EE) (R : Vars → St → Prop) : Prop :=
  ∀ (s : Shared) (Q : Unit → Shared → Prop) wv, At hB c fr st s.heap → RelV s.heap st v wv →
    (∀ fr' st' h' tk', R fr' st' → At hB c fr' st' h' → Ext (· ∈ c.own) s.heap st h' st' → Q () { s with heap := h', toks := tk' }) →
    wpC (model prog w) c.A (assign t c.env wv) Q (EX s E) s
end
end Mine
end
section
open PySem PySem.W PyProof.Rows
namespace Mine

section
variable {prog : Program} {w : World} {hB : Heap} {c : Cx} {fr : Vars} {st : St} {E : EE} {K : Frag}

theorem At.ext {fr st h h' st'} (a : At hB c fr st h) (i : Inv hB h' st') (k : Ext NoX h st h' st') : At hB c fr st' h' := ⟨i, a.frm.ext k⟩

/-- only the tokens change -/
theorem same {R : V → St → Prop} {s : Shared} {Q : Value → Shared → Prop} {v : V} {u : Value} {tk : Nat} (a : At hB c fr st s.heap) (hR : R v st) (hv : RelV s.heap st v u)
    (hQ : ∀ v st' u h' tk', R v st' → At hB c fr st' h' → Ext NoX s.heap st h' st' → RelV h' st' v u → Q u { s with heap := h', toks := tk' }) :
    Q u { s with toks := tk } := hQ v st u s.heap tk hR a .refl hv

/-! ## constants, names -/
theorem TE_int {i : Int} {k pos} {R : V → St → Prop} (h : R (.int i) st) : TE prog w hB c (.Constant (.int i) k pos) fr st E R := by
  intro s Q ha hQ
  exact wpC.any (wpAny_Constant_int (same ha h (.int i _) hQ))
theorem TE_str {x : Str} {k pos} {R : V → St → Prop} (h : R (.str x) st) : TE prog w hB c (.Constant (.str x) k pos) fr st E R := by
  intro s Q ha hQ
  exact wpC.any (Calls.Constant_str (same ha h (.str x _) hQ))
theorem TE_none {k pos} {R : V → St → Prop} (h : R .none st) : TE prog w hB c (.Constant .none k pos) fr st E R := by
  intro s Q ha hQ
  exact fun _ _ _ _ => same ha h .none hQ
theorem TE_bool {b k pos} {R : V → St → Prop} (h : R (.bool b) st) : TE prog w hB c (.Constant (.bool b) k pos) fr st E R := by
  intro s Q ha hQ
  exact fun _ _ _ _ => same ha h (.bool b) hQ
theorem TE_bytes {b : List UInt8} {k pos} {R : V → St → Prop} (h : R (.bytes b) st) : TE prog w hB c (.Constant (.bytes b) k pos) fr st E R := by
  intro s Q ha hQ
  exact fun _ _ _ _ => same ha h (.bytes b _) hQ

theorem TE_name {x : Str} {pos} {v : V} {R : V → St → Prop} (hv : fr.lookup x = some v) (h : R v st)
    (hd : (x == ("__debug__" : Str)) = false := by decide) (hn : (x == ("__classdict__" : Str)) = false := by decide) : TE prog w hB c (.Name x pos) fr st E R := by
  intro s Q ha hQ
  obtain ⟨m, hns, hm⟩ := ha.frm.vars
  obtain ⟨wv, hr, hat⟩ := hm x v hv
  refine wpC.any (wpAny_Name ?_ hd)
  have fin : Q wv s := hQ v st wv s.heap s.toks h ha .refl hr
  rcases hat with ⟨hk, he⟩ | ⟨hk, cA, hl, hc⟩
  · exact wpAny_loadName_local ha.frm.kind hk hns he fin
  · rcases hk with hk | hk
    · exact wpAny_loadName_cell ha.frm.kind hk hl hc fin
    · exact wpAny_loadName_free ha.frm.kind hk hl hc fin hn

theorem keepB {h : Heap} (i : Inv hB h st) : ∀ b o, hB.get? b = some o → h.get? b = some o := fun b o e => (i.stays b o e).1

theorem TE_global {x : Str} {pos} {v : V} {u : Value} (G : Gd w hB K) {R : V → St → Prop} (he : nsIn K mainGlobals x = some (some u)) (hv : ∀ h st, Inv hB h st → RelV h st v u) (h : R v st)
    (hx : c.env.kindOf x = some .globalImplicit) (hd : (x == ("__debug__" : Str)) = false := by decide) : TE prog w hB c (.Name x pos) fr st E R := by
  intro s Q ha hQ
  have kp := keepB ha.inv
  exact wpC.any (Calls.Name_function_global ha.frm.kind hx (Calls.loadGlobal_global (by rw [ha.frm.glob]; exact G.g.keeps kp) (mg_of G.kin G.g he) (hQ v st u s.heap s.toks h ha .refl (hv _ _ ha.inv))) hd)

theorem TE_builtin {x : Str} {pos} {u : Value} (G : Gd w hB K) {R : V → St → Prop} (he : nsIn K mainGlobals x = some none) (hu : bootBuiltins x = some u) (hn : x ≠ "__name__") (h : R (.val u) st)
    (hx : c.env.kindOf x = some .globalImplicit) (hd : (x == ("__debug__" : Str)) = false := by decide) : TE prog w hB c (.Name x pos) fr st E R := by
  intro s Q ha hQ
  have kp := keepB ha.inv
  exact wpC.any (Calls.Name_function_global ha.frm.kind hx (Calls.loadGlobal_builtin (by rw [ha.frm.glob]; exact G.g.keeps kp) (mg_none_of G.kin G.g he) (by rw [ha.frm.blt]; exact G.b.keeps kp) ((G.blt x hn).trans hu)
    (hQ (.val u) st u s.heap s.toks h ha .refl (.val u))) hd)

/-! ## operators -/
theorem TE_binop {l op r pos} {R : V → St → Prop} (h : TE prog w hB c l fr st E fun a st1 => TE prog w hB c r fr st1 E fun b st2 => TO2 prog w hB c (binaryOp op) a b fr st2 E R) :
    TE prog w hB c (.BinOp l op r pos) fr st E R := by
  intro s Q ha hQ
  refine cBinOp (h s _ ha ?_)
  intro a st1 wa h1 tk1 hr1 a1 e1 r1
  refine hr1 { s with heap := h1, toks := tk1 } _ a1 ?_
  intro b st2 wb h2 tk2 hr2 a2 e2 r2
  refine wpC.any (hr2 { s with heap := h2, toks := tk2 } _ wa wb a2 (r1.tr e2.tr) r2 ?_)
  intro v st3 u h3 tk3 hR a3 e3 r3
  exact hQ v st3 u h3 tk3 hR a3 (e1.trans (e2.trans e3)) r3

theorem TE_cmp {l op r pos} {R : V → St → Prop} (h : TE prog w hB c l fr st E fun a st1 => TE prog w hB c r fr st1 E fun b st2 => TO2 prog w hB c (compareOp op) a b fr st2 E R)
    (hm : behindInMarks op r = false := by with_unfolding_all rfl) : TE prog w hB c (.Compare l [op] [r] pos) fr st E R := by
  intro s Q ha hQ
  refine cCompare1 (h s _ ha ?_) hm
  intro a st1 wa h1 tk1 hr1 a1 e1 r1
  refine hr1 { s with heap := h1, toks := tk1 } _ a1 ?_
  intro b st2 wb h2 tk2 hr2 a2 e2 r2
  refine wpC.any (hr2 { s with heap := h2, toks := tk2 } _ wa wb a2 (r1.tr e2.tr) r2 ?_)
  intro v st3 u h3 tk3 hR a3 e3 r3
  exact hQ v st3 u h3 tk3 hR a3 (e1.trans (e2.trans e3)) r3

theorem TB_cmp {l op r pos} {R : Bool → St → Prop}
    (h : TE prog w hB c l fr st E fun a st1 => TE prog w hB c r fr st1 E fun b st2 => TO2 prog w hB c (compareOp op) a b fr st2 E fun x st3 => TT prog w hB c x fr st3 E R)
    (hm : behindInMarks op r = false := by with_unfolding_all rfl) : TB prog w hB c (.Compare l [op] [r] pos) fr st E R := by
  intro s Q ha hQ
  refine cTest1 (h s _ ha ?_) hm
  intro a st1 wa h1 tk1 hr1 a1 e1 r1
  refine hr1 { s with heap := h1, toks := tk1 } _ a1 ?_
  intro b st2 wb h2 tk2 hr2 a2 e2 r2
  refine wpC.any (hr2 { s with heap := h2, toks := tk2 } _ wa wb a2 (r1.tr e2.tr) r2 ?_)
  intro v st3 u h3 tk3 hr3 a3 e3 r3
  refine wpC.any (hr3 { s with heap := h3, toks := tk3 } _ u a3 r3 ?_)
  intro b' st4 h4 tk4 hR a4 e4
  exact hQ b' st4 h4 tk4 hR a4 (e1.trans (e2.trans (e3.trans e4)))

/-- l op₁ m op₂ r as a test -/
theorem TB_cmp2 {l op₁ m op₂ r pos} {R : Bool → St → Prop}
    (h : TE prog w hB c l fr st E fun a st1 => TE prog w hB c m fr st1 E fun b st2 => TO2 prog w hB c (compareOp op₁) a b fr st2 E fun x st3 => TT prog w hB c x fr st3 E fun t st4 =>
      if t then TE prog w hB c r fr st4 E fun d st5 => TO2 prog w hB c (compareOp op₂) b d fr st5 E fun x st6 => TT prog w hB c x fr st6 E R else R false st4)
    (hm : lastMarks [op₁, op₂] [m, r] = false := by with_unfolding_all rfl) : TB prog w hB c (.Compare l [op₁, op₂] [m, r] pos) fr st E R := by
  intro s Q ha hQ
  refine cTest2 (h s _ ha ?_) hm
  intro a st1 wa h1 tk1 hr1 a1 e1 r1
  refine cTestLink (hr1 { s with heap := h1, toks := tk1 } _ a1 ?_)
  intro b st2 wb h2 tk2 hr2 a2 e2 r2
  refine wpC.any (hr2 { s with heap := h2, toks := tk2 } _ wa wb a2 (r1.tr e2.tr) r2 ?_)
  intro x st3 u h3 tk3 hr3 a3 e3 r3
  refine wpC.any (hr3 { s with heap := h3, toks := tk3 } _ u a3 r3 ?_)
  intro t st4 h4 tk4 hR a4 e4
  have e14 := e1.trans (e2.trans (e3.trans e4))
  cases t with
  | false => exact hQ false st4 h4 tk4 hR a4 e14
  | true =>
    refine cTestLast (hR { s with heap := h4, toks := tk4 } _ a4 ?_)
    intro d st5 wd h5 tk5 hr5 a5 e5 r5
    refine wpC.any (hr5 { s with heap := h5, toks := tk5 } _ wb wd a5 (((r2.tr e3.tr).tr e4.tr).tr e5.tr) r5 ?_)
    intro x st6 u6 h6 tk6 hr6 a6 e6 r6
    refine wpC.any (hr6 { s with heap := h6, toks := tk6 } _ u6 a6 r6 ?_)
    intro b' st7 h7 tk7 hR a7 e7
    exact hQ b' st7 h7 tk7 hR a7 (e14.trans (e5.trans (e6.trans e7)))

theorem TT_bool {b : Bool} {R : Bool → St → Prop} (h : R b st) : TT prog w hB c (.bool b) fr st E R := by
  intro s Q wa ha hr hQ
  (first | obtain rfl := RelV.i_val hr | obtain rfl := RelV.i_ref hr | obtain ⟨_, rfl⟩ := RelV.i_int hr | obtain ⟨_, rfl⟩ := RelV.i_str hr | obtain ⟨_, rfl⟩ := RelV.i_bytes hr | obtain rfl := RelV.i_bool hr | obtain rfl := RelVs.i_nil hr | cases hr)
  exact wpAny_truthy_bool (hQ b st s.heap s.toks h ha .refl)

theorem TB_not {x pos} {R : Bool → St → Prop} (h : TB prog w hB c x fr st E fun b st' => R (!b) st') : TB prog w hB c (.UnaryOp .Not x pos) fr st E R := by
  intro s Q ha hQ
  exact cNot (h s _ ha fun b st' h' tk' hR a1 e1 => hQ _ st' h' tk' hR a1 e1)
theorem TB_and_nil {pos} {R : Bool → St → Prop} (h : R true st) : TB prog w hB c (.BoolOp .And [] pos) fr st E R := by
  intro s Q ha hQ
  exact wpC.any (PyProof.Rows.isTrue_and_nil (hQ true st s.heap s.toks h ha .refl))
theorem TB_or_nil {pos} {R : Bool → St → Prop} (h : R false st) : TB prog w hB c (.BoolOp .Or [] pos) fr st E R := by
  intro s Q ha hQ
  exact wpC.any (PyProof.Rows.isTrue_or_nil (hQ false st s.heap s.toks h ha .refl))
theorem TB_and {x rest pos} {R : Bool → St → Prop} (h : TB prog w hB c x fr st E fun b st' => if b then TB prog w hB c (.BoolOp .And rest pos) fr st' E R else R false st') :
    TB prog w hB c (.BoolOp .And (x :: rest) pos) fr st E R := by
  intro s Q ha hQ
  refine cAnd (h s _ ha fun b st1 h1 tk1 hR a1 e1 => ?_)
  cases b with
  | false => exact hQ false st1 h1 tk1 hR a1 e1
  | true => exact hR { s with heap := h1, toks := tk1 } _ a1 fun b st2 h2 tk2 hR2 a2 e2 => hQ b st2 h2 tk2 hR2 a2 (e1.trans e2)
theorem TB_or {x rest pos} {R : Bool → St → Prop} (h : TB prog w hB c x fr st E fun b st' => if b then R true st' else TB prog w hB c (.BoolOp .Or rest pos) fr st' E R) :
    TB prog w hB c (.BoolOp .Or (x :: rest) pos) fr st E R := by
  intro s Q ha hQ
  refine cOr (h s _ ha fun b st1 h1 tk1 hR a1 e1 => ?_)
  cases b with
  | true => exact hQ true st1 h1 tk1 hR a1 e1
  | false => exact hR { s with heap := h1, toks := tk1 } _ a1 fun b st2 h2 tk2 hR2 a2 e2 => hQ b st2 h2 tk2 hR2 a2 (e1.trans e2)
/-- any other expression as a test -/
theorem TB_val {e : Expr} {R : Bool → St → Prop} (h : TE prog w hB c e fr st E fun v st' => TT prog w hB c v fr st' E R)
    (he : ∀ env whole, isTrue e env whole = (do let v ← whole; standAt e.pos; holding [v] (truthy v)) := by intros; rfl) : TB prog w hB c e fr st E R := by
  intro s Q ha hQ
  refine cPlain (h s _ ha fun v st1 u h1 tk1 hR a1 e1 r1 => ?_) (he _ _)
  exact wpC.any (hR { s with heap := h1, toks := tk1 } _ u a1 r1 fun b st2 h2 tk2 hR2 a2 e2 => hQ b st2 h2 tk2 hR2 a2 (e1.trans e2))

theorem TE_ifexp {t b o pos} {R : V → St → Prop} (h : TB prog w hB c t fr st E fun x st' => if x then TE prog w hB c b fr st' E R else TE prog w hB c o fr st' E R) :
    TE prog w hB c (.IfExp t b o pos) fr st E R := by
  intro s Q ha hQ
  show wpC _ _ (do if ← isTrue t c.env (eval t c.env) then eval b c.env else eval o c.env) Q (EX s E) s
  refine wpC_bind (h s _ ha fun x st1 h1 tk1 hR a1 e1 => ?_)
  cases x <;> exact hR { s with heap := h1, toks := tk1 } _ a1 fun v st2 u h2 tk2 hR2 a2 e2 r2 => hQ v st2 u h2 tk2 hR2 a2 (e1.trans e2) r2

theorem TE_neg {x pos} {R : V → St → Prop} (h : TE prog w hB c x fr st E fun v st' => TO1 prog w hB c (unaryOp .USub) v fr st' E R) : TE prog w hB c (.UnaryOp .USub x pos) fr st E R := by
  intro s Q ha hQ
  show wpC _ _ (do let v ← eval x c.env; standAt pos; holding [v] (unaryOp .USub v)) Q (EX s E) s
  refine wpC_bind (h s _ ha fun v st1 u h1 tk1 hR a1 e1 r1 => wpC_bind (wpC_standAt (wpC_holding ?_)))
  exact wpC.any (hR { s with heap := h1, toks := tk1 } _ u a1 r1 fun v2 st2 u2 h2 tk2 hR2 a2 e2 r2 => hQ v2 st2 u2 h2 tk2 hR2 a2 (e1.trans e2) r2)

/-! ## arguments, displays -/
theorem TA_nil {R : List V → St → Prop} (h : R [] st) : TA prog w hB c [] fr st E R := by
  intro s Q pos ha hQ
  exact wpC.any (PyProof.Rows.spliced_none (hQ [] st [] s.heap s.toks h ha .refl .nil))
theorem TA_cons {e rest} {R : List V → St → Prop} (h : TE prog w hB c e fr st E fun v st1 => TA prog w hB c rest fr st1 E fun vs st2 => R (v :: vs) st2)
    (he : ∀ env, starEach (e :: rest) env = (false, eval e env) :: starEach rest env := by intro; rfl) : TA prog w hB c (e :: rest) fr st E R := by
  intro s Q pos ha hQ
  refine cArgs (h s _ ha fun v st1 u h1 tk1 hR a1 e1 r1 => ?_) (he _)
  exact hR { s with heap := h1, toks := tk1 } _ pos a1 fun vs st2 us h2 tk2 hR2 a2 e2 r2 => hQ (v :: vs) st2 (u :: us) h2 tk2 hR2 a2 (e1.trans e2) (.cons (r1.tr e2.tr) r2)

/-! ## statements -/
theorem TS_nil {R : Fl → Vars → St → Prop} (h : R .next fr st) : TS prog w hB c [] fr st E R := by
  intro s Q ha hQ
  exact wpC.any (wpAny_execs_nil (hQ .next fr st .next s.heap s.toks h ha .refl .next))
theorem TS_cons {x rest} {R : Fl → Vars → St → Prop} (h : T1 prog w hB c x fr st E fun f fr' st' => match f with | .next => TS prog w hB c rest fr' st' E R | f => R f fr' st') :
    TS prog w hB c (x :: rest) fr st E R := by
  intro s Q ha hQ
  refine cExecs (h s _ ha fun f fr1 st1 u h1 tk1 hR a1 e1 r1 => ?_)
  cases r1 with
  | next => exact hR { s with heap := h1, toks := tk1 } _ a1 fun f2 fr2 st2 u2 h2 tk2 hR2 a2 e2 r2 => hQ f2 fr2 st2 u2 h2 tk2 hR2 a2 (e1.trans e2) r2
  | brk => exact hQ _ _ _ _ _ _ hR a1 e1 .brk
  | cont => exact hQ _ _ _ _ _ _ hR a1 e1 .cont
  | ret r => exact hQ _ _ _ _ _ _ hR a1 e1 (.ret r)

/-- what follows, seen through a name -/
abbrev Imp (K N : Fl → Vars → St → Prop) : Prop := ∀ f fr st, K f fr st → N f fr st
theorem TS_consG {x rest} {R : Fl → Vars → St → Prop} (h : ∀ N, Imp (fun f fr' st' => match f with | .next => TS prog w hB c rest fr' st' E R | f => R f fr' st') N → T1 prog w hB c x fr st E N) :
    TS prog w hB c (x :: rest) fr st E R := TS_cons (h _ fun _ _ _ x => x)
theorem T1_ret {e pos} {R : Fl → Vars → St → Prop} (h : TE prog w hB c e fr st E fun v st' => R (.ret v) fr st') : T1 prog w hB c (.Return (some e) pos) fr st E R := by
  intro s Q ha hQ
  exact cReturn (h s _ ha fun v st1 u h1 tk1 hR a1 e1 r1 => hQ _ _ _ _ _ _ hR a1 e1.weaken (.ret r1))
theorem T1_cont {pos} {R : Fl → Vars → St → Prop} (h : R .cont fr st) : T1 prog w hB c (.Continue pos) fr st E R := by
  intro s Q ha hQ
  show wpC _ _ (do standAt pos; pure .cont) Q (EX s E) s
  exact wpC_bind (wpC_standAt (wpC_pure (hQ _ _ _ _ _ s.toks h ha .refl .cont)))
theorem T1_pass {pos} {R : Fl → Vars → St → Prop} (h : R .next fr st) : T1 prog w hB c (.Pass pos) fr st E R := by
  intro s Q ha hQ
  exact wpC.any (wpAny_Pass (hQ _ _ _ _ _ s.toks h ha .refl .next))
theorem T1_if {t b o pos} {R : Fl → Vars → St → Prop} (h : TB prog w hB c t fr st E fun x st' => if x then TS prog w hB c b fr st' E R else TS prog w hB c o fr st' E R) :
    T1 prog w hB c (.If t b o pos) fr st E R := by
  intro s Q ha hQ
  refine cIf (h s _ ha fun x st1 h1 tk1 hR a1 e1 => ?_)
  cases x <;> exact hR { s with heap := h1, toks := tk1 } _ a1 fun f2 fr2 st2 u2 h2 tk2 hR2 a2 e2 r2 => hQ f2 fr2 st2 u2 h2 tk2 hR2 a2 (e1.weaken.trans e2) r2
end
end Mine
end
section
open PySem PySem.W PyProof.Rows
namespace Mine

def setVar : Vars → Str → V → Vars
  | [], x, v => [(x, v)]
  | (y, u) :: r, x, v => if x == y then (y, v) :: r else (y, u) :: setVar r x v

theorem lookup_setVar (x y : Str) (v : V) : ∀ fr : Vars, (setVar fr x v).lookup y = if y = x then some v else fr.lookup y
  | [] => by
    by_cases h : y = x
    · subst h; simp [setVar]
    · have : (y == x) = false := by simpa using h
      simp [setVar, List.lookup, this, h]
  | (z, u) :: r => by
    have ih := lookup_setVar x y v r
    by_cases hz : x = z
    · subst hz
      simp only [setVar, beq_self_eq_true, if_true]
      by_cases h : y = x
      · subst h; simp [List.lookup]
      · have : (y == x) = false := by simpa using h
        simp [List.lookup, this, h]
    · have hxz : (x == z) = false := by simpa using hz
      simp only [setVar, hxz, Bool.false_eq_true, if_false]
      by_cases h : y = z
      · subst h
        have : ¬ (y = x) := fun e => hz e.symm
        simp [List.lookup, this]
      · have : (y == z) = false := by simpa using h
        simp only [List.lookup, this]
        exact ih

section
variable {prog : Program} {w : World} {hB : Heap} {c : Cx} {fr : Vars} {st : St} {E : EE} {K : Frag}

/-- one object that is of the frame is turned -/
theorem RelO.upd {h h' : Heap} {b : Addr} {o : O} (k : Tr h st h' st) (e : h'.get? b = h.get? b) (x : RelO h st b o) : RelO h' st b o := by
  cases o with
  | list xs => obtain ⟨ws, n, ho, hr⟩ := x; exact ⟨ws, n, e.trans ho, hr.tr k⟩
  | barr bs => exact e.trans x
  | inst C dx => exact e.trans x
  | dct es => obtain ⟨es', n, ho, hr⟩ := x; exact ⟨es', n, e.trans ho, hr.tr k⟩
  | obj ob => exact e.trans x

theorem tr_same {h h' : Heap} {a : Addr} {o : Obj} (ho : h.get? a = some o) (hf : frameData o.data = true) (hs : Heap.SameBut a h h') : Tr h st h' st := fun b ob e n hd => by
  have : b ≠ a := fun q => by subst q; rw [ho] at e; cases e; rw [imm_frame hf] at hd; cases hd
  exact ⟨(hs.2 b this).trans e, n⟩

theorem At.store_local {h h' : Heap} {x : Str} {v : V} {wv : Value} {m : Str → Option Value} (a : At hB c fr st h) (hr : RelV h st v wv) (hk : c.env.kindOf x = some .local)
    (hm : h.Ns c.env.locals m) (hv : ∀ y u, fr.lookup y = some u → ∃ w, RelV h st u w ∧ VarAt c.env h m y w)
    (hn : h'.Ns c.env.locals (fun y => if y = x then some wv else m y)) (hs : Heap.SameBut c.env.locals h h') : At hB c (setVar fr x v) st h' ∧ Ext (· ∈ c.own) h st h' st := by
  obtain ⟨oL, es, ep, hL, hLd, _, _⟩ := id hm
  have hfd : frameData oL.data = true := by rw [hLd]; rfl
  have T : Tr h st h' st := tr_same hL hfd hs
  obtain ⟨nL, gL, _⟩ := a.frm.own _ a.frm.loc
  refine ⟨⟨⟨fun b o e => ?_, fun b o e => ?_⟩, ?_⟩, ⟨fun b o e n hx => ⟨(hs.2 b fun q => hx (q ▸ a.frm.loc)).trans e, n⟩⟩⟩
  · have := a.inv.stays b o e
    exact ⟨(hs.2 b fun q => by rw [q] at e; rw [gL] at e; cases e).trans this.1, this.2⟩
  · exact (a.inv.objs b o e).upd T (hs.2 b fun q => by rw [q, nL] at e; cases e)
  · refine { a.frm with own := fun b hb => ?_, free := fun y hy => ?_, vars := ⟨_, hn, fun y u e => ?_⟩ }
    · obtain ⟨n, g, o, ho, hd⟩ := a.frm.own b hb
      by_cases q : b = c.env.locals
      · subst q
        obtain ⟨o', es', ep', ho', hd', _⟩ := hn
        exact ⟨n, g, o', ho', by rw [hd']; rfl⟩
      · exact ⟨n, g, o, (hs.2 b q).trans ho, hd⟩
    · obtain ⟨n, ne, ov, hc⟩ := a.frm.free y hy
      exact ⟨n, ne, ov, hc.sameBut hs ne⟩
    · rw [lookup_setVar] at e
      by_cases q : y = x
      · subst q
        rw [if_pos rfl] at e; cases e
        exact ⟨wv, hr.tr T, .inl ⟨hk, by simp⟩⟩
      · rw [if_neg q] at e
        obtain ⟨u', h1, h2⟩ := hv y u e
        refine ⟨u', h1.tr T, ?_⟩
        rcases h2 with ⟨k1, k2⟩ | ⟨k1, cA, k2, k3⟩
        · exact .inl ⟨k1, by simpa [q] using k2⟩
        · exact .inr ⟨k1, cA, k2, k3.sameBut hs (a.frm.free _ (lookup_mem k2)).2.1⟩

theorem At.store_cell {h h' : Heap} {x : Str} {v : V} {wv : Value} {cA : Addr} (a : At hB c fr st h) (hr : RelV h st v wv) (hk : c.env.kindOf x = some .cell) (hl : c.env.cells.lookup x = some cA)
    (ho : c.own = c.env.locals :: c.env.cells.map (·.2))
    (hn : h'.IsCell cA (some wv)) (hs : Heap.SameBut cA h h') : At hB c (setVar fr x v) st h' ∧ Ext (· ∈ c.own) h st h' st := by
  obtain ⟨nC, neC, ov, ⟨oC, hoC, hdC⟩⟩ := a.frm.free _ (lookup_mem hl)
  dsimp only at nC neC hoC hdC
  have hfd : frameData oC.data = true := by rw [hdC]; rfl
  have T : Tr h st h' st := tr_same hoC hfd hs
  have hin : cA ∈ c.own := by rw [ho]; exact List.mem_cons_of_mem _ (List.mem_map.mpr ⟨_, lookup_mem hl, rfl⟩)
  obtain ⟨_, gC, _⟩ := a.frm.own _ hin
  refine ⟨⟨⟨fun b o e => ?_, fun b o e => ?_⟩, ?_⟩, ⟨fun b o e n hx => ⟨(hs.2 b fun q => hx (q ▸ hin)).trans e, n⟩⟩⟩
  · have := a.inv.stays b o e
    exact ⟨(hs.2 b fun q => by rw [q] at e; rw [gC] at e; cases e).trans this.1, this.2⟩
  · exact (a.inv.objs b o e).upd T (hs.2 b fun q => by rw [q, nC] at e; cases e)
  · obtain ⟨m, hm, hv⟩ := a.frm.vars
    refine { a.frm with own := fun b hb => ?_, free := fun y hy => ?_, vars := ⟨m, hm.sameBut hs (Ne.symm neC), fun y u e => ?_⟩ }
    · obtain ⟨n, g, o, ho, hd⟩ := a.frm.own b hb
      by_cases q : b = cA
      · subst q
        obtain ⟨o', ho', hd'⟩ := hn
        exact ⟨n, g, o', ho', by rw [hd']; rfl⟩
      · exact ⟨n, g, o, (hs.2 b q).trans ho, hd⟩
    · obtain ⟨n, ne, ov', hc⟩ := a.frm.free y hy
      by_cases q : y.2 = cA
      · exact ⟨n, ne, some wv, q ▸ hn⟩
      · exact ⟨n, ne, ov', hc.sameBut hs q⟩
    · rw [lookup_setVar] at e
      by_cases q : y = x
      · subst q
        rw [if_pos rfl] at e; cases e
        exact ⟨wv, hr.tr T, .inr ⟨.inl hk, cA, hl, hn⟩⟩
      · rw [if_neg q] at e
        obtain ⟨u', h1, h2⟩ := hv y u e
        refine ⟨u', h1.tr T, ?_⟩
        rcases h2 with h2 | ⟨k1, cB, k2, k3⟩
        · exact .inl h2
        · refine .inr ⟨k1, cB, k2, k3.sameBut hs fun z => q ?_⟩
          have m1 := lookup_mem k2
          have m2 := lookup_mem hl
          rw [z] at m1
          obtain ⟨i, hi, e1⟩ := List.getElem_of_mem m1
          obtain ⟨j, hj, e2⟩ := List.getElem_of_mem m2
          have nd := a.frm.nodup
          have : i = j := by
            refine (List.getElem_inj (xs := c.env.cells.map (·.2)) (h₀ := by simpa using hi) (h₁ := by simpa using hj) nd).mp ?_
            simp [e1, e2]
          subst this
          rw [e1] at e2
          exact congrArg Prod.fst e2

theorem storeName_any {E' : Value → Shared → Prop} {x : Str} {v : V} {wv : Value} {s : Shared} {Q : Unit → Shared → Prop} (a : At hB c fr st s.heap) (hr : RelV s.heap st v wv)
    (hk : c.env.kindOf x = some .local ∨ (c.env.kindOf x = some .cell ∧ (c.env.cells.lookup x).isSome = true ∧ c.own = c.env.locals :: c.env.cells.map (·.2)))
    (hQ : ∀ h' tk', At hB c (setVar fr x v) st h' → Ext (· ∈ c.own) s.heap st h' st → Q () { s with heap := h', toks := tk' }) :
    wpAny (model prog w) c.A (storeName c.env x wv) Q E' s := by
  obtain ⟨m, hns, hm⟩ := a.frm.vars
  rcases hk with hk | ⟨hk, hl, ho⟩
  · refine wpAny_storeName_local hk hns (fun h' hn' hs' => ?_) ?_
    · have := a.store_local hr hk hns hm hn' hs'
      exact hQ h' _ this.1 this.2
    · rw [a.frm.kind]; rfl
  · obtain ⟨cA, hl⟩ := Option.isSome_iff_exists.mp hl
    obtain ⟨_, _, ov, hc⟩ := a.frm.free _ (lookup_mem hl)
    refine wpAny_storeName_cell a.frm.kind hk hl hc (fun h' hn' hs' => ?_)
    have := a.store_cell hr hk hl ho hn' hs'
    exact hQ h' s.toks this.1 this.2

abbrev CanStore (c : Cx) (x : Str) : Prop := c.env.kindOf x = some .local ∨ (c.env.kindOf x = some .cell ∧ (c.env.cells.lookup x).isSome = true ∧ c.own = c.env.locals :: c.env.cells.map (·.2))

theorem T1_assign {x : Str} {pos' pos} {e : Expr} {R : Fl → Vars → St → Prop} (h : TE prog w hB c e fr st E fun v st' => R .next (setVar fr x v) st')
    (hk : CanStore c x) (hs : swapsWith e (some (.Name x pos')) pos.line c.env = pure false) : T1 prog w hB c (.Assign [.Name x pos'] e pos) fr st E R := by
  intro s Q ha hQ
  refine cAssignName (h s _ ha fun v st1 u h1 tk1 hR a1 e1 r1 => ?_) hs
  refine wpC.any ?_
  exact storeName_any (s := { s with heap := h1, toks := tk1 }) a1 r1 hk fun h2 tk2 a2 e2 => hQ .next _ _ .next h2 tk2 hR a2 (e1.weaken.trans e2) .next

/-- a store of an item -/
def TSetI (prog : Program) (w : World) (hB : Heap) (c : Cx) (v ov iv : V) (fr : Vars) (st : St) (E : EE) (P : St → Prop) : Prop :=
  ∀ (s : Shared) (Q : Unit → Shared → Prop) wv wo wi, At hB c fr st s.heap → RelV s.heap st v wv → RelV s.heap st ov wo → RelV s.heap st iv wi →
    (∀ st' h' tk', P st' → At hB c fr st' h' → Ext NoX s.heap st h' st' → Q () { s with heap := h', toks := tk' }) → wpAny (model prog w) c.A (setItem wo wi wv) Q (EX s E) s
/-- a store of an attribute -/
def TSetA (prog : Program) (w : World) (hB : Heap) (c : Cx) (attr : Str) (v ov : V) (fr : Vars) (st : St) (E : EE) (P : St → Prop) : Prop :=
  ∀ (s : Shared) (Q : Unit → Shared → Prop) wv wo, At hB c fr st s.heap → RelV s.heap st v wv → RelV s.heap st ov wo →
    (∀ st' h' tk', P st' → At hB c fr st' h' → Ext NoX s.heap st h' st' → Q () { s with heap := h', toks := tk' }) → wpAny (model prog w) c.A (setAttr wo attr wv) Q (EX s E) s

theorem T1_assign_sub {o i pos' pos} {e : Expr} {R : Fl → Vars → St → Prop}
    (h : TE prog w hB c e fr st E fun v st1 => TE prog w hB c o fr st1 E fun ov st2 => TE prog w hB c i fr st2 E fun iv st3 => TSetI prog w hB c v ov iv fr st3 E fun st' => R .next fr st')
    (hs : swapsWith e (some (.Subscript o i pos')) pos.line c.env = pure false := by rfl) : T1 prog w hB c (.Assign [.Subscript o i pos'] e pos) fr st E R := by
  intro s Q ha hQ
  refine cAssignSub (h s _ ha fun v st1 wv h1 tk1 hR1 a1 e1 r1 => ?_) hs
  refine hR1 { s with heap := h1, toks := tk1 } _ a1 fun ov st2 wo h2 tk2 hR2 a2 e2 r2 => ?_
  refine hR2 { s with heap := h2, toks := tk2 } _ a2 fun iv st3 wi h3 tk3 hR3 a3 e3 r3 => ?_
  refine wpC.any (hR3 { s with heap := h3, toks := tk3 } _ wv wo wi a3 ((r1.tr e2.tr).tr e3.tr) (r2.tr e3.tr) r3 fun st4 h4 tk4 hR a4 e4 => ?_)
  exact hQ .next fr st4 .next h4 tk4 hR a4 (e1.trans (e2.trans (e3.trans e4))).weaken .next

theorem T1_assign_attr {o attr pos' pos} {e : Expr} {R : Fl → Vars → St → Prop}
    (h : TE prog w hB c e fr st E fun v st1 => TE prog w hB c o fr st1 E fun ov st2 => TSetA prog w hB c attr v ov fr st2 E fun st' => R .next fr st')
    (hs : swapsWith e (some (.Attribute o attr pos')) pos.line c.env = pure false := by rfl) : T1 prog w hB c (.Assign [.Attribute o attr pos'] e pos) fr st E R := by
  intro s Q ha hQ
  refine cAssignAttr (h s _ ha fun v st1 wv h1 tk1 hR1 a1 e1 r1 => ?_) hs
  refine hR1 { s with heap := h1, toks := tk1 } _ a1 fun ov st2 wo h2 tk2 hR2 a2 e2 r2 => ?_
  refine wpC.any (hR2 { s with heap := h2, toks := tk2 } _ wv wo a2 (r1.tr e2.tr) r2 fun st4 h4 tk4 hR a4 e4 => ?_)
  exact hQ .next fr st4 .next h4 tk4 hR a4 (e1.trans (e2.trans e4)).weaken .next

/-- an expression as a statement -/
theorem T1_expr {e pos} {R : Fl → Vars → St → Prop} (h : TE prog w hB c e fr st E fun v st' => (match v with | .ref _ | .tup _ | .rng .. | .slc .. | .val _ => False | _ => True) ∧ R .next fr st')
    (hi : interactive c.env = false) (hs : swapsWith e none pos.line c.env = pure false) : T1 prog w hB c (.Expr e pos) fr st E R := by
  intro s Q ha hQ
  refine cExpr (h s _ ha fun v st1 u h1 tk1 hR a1 e1 r1 => ?_) hi hs
  have fin := hQ .next fr st1 .next h1 tk1 hR.2 a1 e1.weaken .next
  cases r1 <;> first | exact fin | exact hR.1.elim

/-! ## calls -/
def Callee (G : Gd w hB K) (f : V) : Prop := (∃ T, f = .val (.type T)) ∨ (∃ id, f = .val (.builtin id)) ∨ (∃ a, f = .val (.ref a) ∧ keepIn K (.ref a) = true)

theorem call_tail {w₁ : Value} {ws : List Value} {pre : List V} {vs : List V} {pw : List Value} {f : V} {R : V → St → Prop} {st₀ : St} {s : Shared} {s₁ : Shared} {Q : Value → Shared → Prop}
    (hc : TC prog w hB c c.A f (pre ++ vs) fr st E R) (a : At hB c fr st s₁.heap) (e : Ext NoX s.heap st₀ s₁.heap st) (rf : RelV s₁.heap st f w₁) (rp : RelVs s₁.heap st pre pw) (rv : RelVs s₁.heap st vs ws)
    (hs : ∃ h tk, s₁ = { s with heap := h, toks := tk })
    (hQ : ∀ v st' u h' tk', R v st' → At hB c fr st' h' → Ext NoX s.heap st₀ h' st' → RelV h' st' v u → Q u { s with heap := h', toks := tk' }) :
    wpC (model prog w) c.A (call w₁ (pw ++ ws)) Q (EX s E) s₁ := by
  obtain ⟨h, tk, rfl⟩ := hs
  exact hc _ _ _ _ a rf (rp.append rv) fun v st2 u h2 tk2 hR a2 e2 r2 => hQ v st2 u h2 tk2 hR a2 (e.trans e2) r2

theorem cCallArgs {E : Value → Shared → Prop} {M : Model} {A : Around} {s : Shared} {K : Frag} {pos : Pos} {f : Value} {first : List Value} {env : Env} {e : Expr} {rest : List Expr} {Q : Value → Shared → Prop} (hk : (∀ a, f ≠ .ref a) ∨ keepIn K f = true)
    (h : wpC M A (spliced (backTo pos (starEach (e :: rest) env))) (fun vs s₁ => K.In s₁.heap ∧ wpC M A (call f (first ++ vs)) Q E s₁) E s)
    (h1 : starEach (e :: rest) env = (false, eval e env) :: starEach rest env) (h2 : (backTo pos (starEach rest env)).any (·.1) = false) :
    wpC M A (callWith pos f first (backTo pos (starEach (e :: rest) env)) []) Q E s := by
  rw [h1] at h ⊢
  refine cCallWith (K := K) (args := (false, eval e env) :: backTo pos (starEach rest env)) (by simpa using h2) hk (cEvalArgs ?_)
  exact h

theorem callee_ok (G : Gd w hB K) {f : V} {wf : Value} {h : Heap} (hc : Callee G f) (r : RelV h st f wf) : (∀ a, wf ≠ .ref a) ∨ keepIn K wf = true := by
  rcases hc with ⟨T, rfl⟩ | ⟨id, rfl⟩ | ⟨b, rfl, hk⟩ <;> cases r
  · exact .inl fun a e => nomatch e
  · exact .inl fun a e => nomatch e
  · exact .inr hk

theorem TE_call (G : Gd w hB K) {fe e : Expr} {rest : List Expr} {pos} {R : V → St → Prop}
    (h : TE prog w hB c fe fr st E fun f st1 => Callee G f ∧ TA prog w hB c (e :: rest) fr st1 E fun vs st2 => TC prog w hB c c.A f vs fr st2 E R)
    (he : ∀ env, eval (.Call fe (e :: rest) [] pos) env = (do callWith pos (← eval fe env) [] (backTo pos (starEach (e :: rest) env)) (backToKw pos (keywordEach [] env))) := by intro; rfl)
    (h1 : ∀ env, starEach (e :: rest) env = (false, eval e env) :: starEach rest env := by intro; rfl)
    (h2 : ∀ env, (backTo pos (starEach rest env)).any (·.1) = false := by intro; rfl) : TE prog w hB c (.Call fe (e :: rest) [] pos) fr st E R := by
  intro s Q ha hQ
  refine cCall (h s _ ha fun f st1 wf h1' tk1 hR a1 e1 r1 => ?_) (he _)
  obtain ⟨hcal, hta⟩ := hR
  refine cCallArgs (K := K) (callee_ok G hcal r1) (hta { s with heap := h1', toks := tk1 } _ pos a1 fun vs st2 us h2' tk2 hR2 a2 e2 r2 => ⟨G.kin.keeps (keepB a2.inv), ?_⟩) (h1 _) (h2 _)
  refine call_tail (pre := []) (pw := []) hR2 a2 (e1.trans e2) (r1.tr e2.tr) .nil r2 ⟨h2', tk2, rfl⟩ hQ

theorem TE_call0 (G : Gd w hB K) {fe : Expr} {pos} {R : V → St → Prop}
    (h : TE prog w hB c fe fr st E fun f st1 => Callee G f ∧ TC prog w hB c c.A f [] fr st1 E R)
    (he : ∀ env, eval (.Call fe [] [] pos) env = (do callWith pos (← eval fe env) [] (backTo pos (starEach [] env)) (backToKw pos (keywordEach [] env))) := by intro; rfl) :
    TE prog w hB c (.Call fe [] [] pos) fr st E R := by
  intro s Q ha hQ
  refine cCall (h s _ ha fun f st1 wf h1' tk1 hR a1 e1 r1 => ?_) (he _)
  obtain ⟨hcal, hR2⟩ := hR
  refine cCallWith (K := K) rfl (callee_ok G hcal r1) (cEvalArgs0 ⟨G.kin.keeps (keepB a1.inv), ?_⟩)
  exact call_tail (pre := []) (pw := []) (vs := []) hR2 a1 e1 r1 .nil .nil ⟨h1', tk1, rfl⟩ hQ

/-- the method's name gives a built-in, or a def of the text's own -/
def MethB (prog : Program) (w : World) (hB : Heap) (c : Cx) (fr : Vars) (st : St) (ov : V) (name : Str) (f : Value) : Prop :=
  ∀ (s : Shared) (Q : Value × List Value → Shared → Prop) (E : Value → Shared → Prop) (pl : Sem Bool) wo, At hB c fr st s.heap → RelV s.heap st ov wo → (∀ tk, Q (f, [wo]) { s with toks := tk }) → wpAny (model prog w) c.A (getMethod wo name pl) Q E s

def CalleeM (G : Gd w hB K) (f : Value) : Prop := (∃ id, f = .builtin id) ∨ (∃ a, f = .ref a ∧ keepIn K (.ref a) = true)
theorem calleeM_ok (G : Gd w hB K) {f : Value} (hc : CalleeM G f) : (∀ a, f ≠ .ref a) ∨ keepIn K f = true := by
  rcases hc with ⟨id, rfl⟩ | ⟨b, rfl, hk⟩
  · exact .inl fun a e => nomatch e
  · exact .inr hk

theorem TE_meth (G : Gd w hB K) {o e : Expr} {rest : List Expr} {name : Str} {apos pos} {R : V → St → Prop}
    (h : TE prog w hB c o fr st E fun ov st1 => ∃ f, MethB prog w hB c fr st1 ov name f ∧ CalleeM G f ∧ TA prog w hB c (e :: rest) fr st1 E fun vs st2 => TC prog w hB c c.A (.val f) (ov :: vs) fr st2 E R)
    (he : ∃ pl, eval (.Call (.Attribute o name apos) (e :: rest) [] pos) c.env = (do
      let ov ← eval o c.env
      standAt apos.atName
      let (f, first) ← holding [ov] (getMethod ov name pl)
      callWith pos f first (backTo pos (starEach (e :: rest) c.env)) []) := by exact ⟨_, rfl⟩)
    (h1 : ∀ env, starEach (e :: rest) env = (false, eval e env) :: starEach rest env := by intro; rfl)
    (h2 : ∀ env, (backTo pos (starEach rest env)).any (·.1) = false := by intro; rfl) : TE prog w hB c (.Call (.Attribute o name apos) (e :: rest) [] pos) fr st E R := by
  intro s Q ha hQ
  obtain ⟨pl, he⟩ := he
  refine cMeth (pl := pl) (h s _ ha fun ov st1 wo h1' tk1 hR a1 e1 r1 => ?_) he
  obtain ⟨f, hm, hcal, hta⟩ := hR
  refine wpC.any (hm { s with heap := h1', toks := tk1 } _ _ _ wo a1 r1 fun tk => ?_)
  dsimp only
  refine cCallArgs (K := K) (calleeM_ok G hcal) (hta { s with heap := h1', toks := tk } _ pos a1 fun vs st2 us h2' tk2 hR2 a2 e2 r2 => ⟨G.kin.keeps (keepB a2.inv), ?_⟩) (h1 _) (h2 _)
  exact call_tail (pre := [ov]) (pw := [wo]) hR2 a2 (e1.trans e2) (.val _) (.cons (r1.tr e2.tr) .nil) r2 ⟨h2', tk2, rfl⟩ hQ

theorem TE_meth0 (G : Gd w hB K) {o : Expr} {name : Str} {apos pos} {R : V → St → Prop}
    (h : TE prog w hB c o fr st E fun ov st1 => ∃ f, MethB prog w hB c fr st1 ov name f ∧ CalleeM G f ∧ TC prog w hB c c.A (.val f) [ov] fr st1 E R)
    (he : ∃ pl, eval (.Call (.Attribute o name apos) [] [] pos) c.env = (do
      let ov ← eval o c.env
      standAt apos.atName
      let (f, first) ← holding [ov] (getMethod ov name pl)
      callWith pos f first (backTo pos (starEach [] c.env)) []) := by exact ⟨_, rfl⟩) : TE prog w hB c (.Call (.Attribute o name apos) [] [] pos) fr st E R := by
  intro s Q ha hQ
  obtain ⟨pl, he⟩ := he
  refine cMeth (pl := pl) (h s _ ha fun ov st1 wo h1' tk1 hR a1 e1 r1 => ?_) he
  obtain ⟨f, hm, hcal, hta⟩ := hR
  refine wpC.any (hm { s with heap := h1', toks := tk1 } _ _ _ wo a1 r1 fun tk => ?_)
  dsimp only
  refine cCallWith (K := K) rfl (calleeM_ok G hcal) (cEvalArgs0 ⟨G.kin.keeps (keepB a1.inv), ?_⟩)
  exact call_tail (s := s) (s₁ := { s with heap := h1', toks := tk }) (pre := [ov]) (pw := [wo]) (vs := []) (ws := []) hta a1 e1 (.val _) (.cons r1 .nil) .nil ⟨h1', tk, rfl⟩ hQ
end
end Mine
end
section
open PySem PySem.W PyProof.Rows
namespace Mine

def St.set (st : St) (a : Addr) (o : O) : St := fun b => if b = a then some o else st b
@[simp] theorem St.set_self (st : St) (a : Addr) (o : O) : St.set st a o a = some o := by simp [St.set]
theorem St.set_ne {st : St} {a b : Addr} {o : O} (h : b ≠ a) : St.set st a o b = st b := by simp [St.set, h]

section
variable {prog : Program} {w : World} {hB : Heap} {c : Cx} {fr : Vars} {st : St} {E : EE}

/-- an object laid that is never changed -/
theorem At.push {h : Heap} (a : At hB c fr st h) (o : Obj) : At hB c fr st (h.push o) ∧ Ext NoX h st (h.push o) st := by
  have k : Ext NoX h st (h.push o) st := ⟨fun b ob e n _ => ⟨Heap.get?_push_of_some _ e, n⟩⟩
  refine ⟨a.ext ⟨fun b ob e => ⟨Heap.get?_push_of_some _ (a.inv.stays b ob e).1, (a.inv.stays b ob e).2⟩, fun b ob e => ?_⟩ k, k⟩
  have x := a.inv.objs b ob e
  cases ob with
  | list xs => obtain ⟨ws, n, ho, hr⟩ := x; exact ⟨ws, n, Heap.get?_push_of_some _ ho, hr.tr k.tr⟩
  | barr bs => exact Heap.get?_push_of_some _ x
  | inst C dx => exact Heap.get?_push_of_some _ x
  | dct es => obtain ⟨es', n, ho, hr⟩ := x; exact ⟨es', n, Heap.get?_push_of_some _ ho, hr.tr k.tr⟩
  | obj ob => exact Heap.get?_push_of_some _ x

theorem At.fresh {h : Heap} (a : At hB c fr st h) : st h.objs.size = none := by
  cases e : st h.objs.size with
  | none => rfl
  | some o =>
    have x := a.inv.objs _ _ e
    cases o with
    | list xs => obtain ⟨ws, n, ho, hr⟩ := x; exact absurd (Heap.lt_size ho) (Nat.lt_irrefl _)
    | barr bs => exact absurd (Heap.lt_size x) (Nat.lt_irrefl _)
    | inst C dx => exact absurd (Heap.lt_size x) (Nat.lt_irrefl _)
    | dct es => obtain ⟨es', n, ho, hr⟩ := x; exact absurd (Heap.lt_size ho) (Nat.lt_irrefl _)
    | obj ob => exact absurd (Heap.lt_size x) (Nat.lt_irrefl _)

theorem RelO.tr {h h' : Heap} {st' : St} {b : Addr} {o : O} (k : Tr h st h' st') (e : ∀ ob, h.get? b = some ob → h'.get? b = some ob) (x : RelO h st b o) : RelO h' st' b o := by
  cases o with
  | list xs => obtain ⟨ws, n, ho, hr⟩ := x; exact ⟨ws, n, e _ ho, hr.tr k⟩
  | barr bs => exact e _ x
  | inst C dx => exact e _ x
  | dct es => obtain ⟨es', n, ho, hr⟩ := x; exact ⟨es', n, e _ ho, hr.tr k⟩
  | obj ob => exact e _ x

/-- a new object that may be changed later -/
theorem At.alloc {h : Heap} (a : At hB c fr st h) {ob : Obj} {o : O} (ho : ∀ st', Tr h st (h.push ob) st' → RelO (h.push ob) st' h.objs.size o) :
    At hB c fr (st.set h.objs.size o) (h.push ob) ∧ Ext NoX h st (h.push ob) (st.set h.objs.size o) := by
  have k : Ext NoX h st (h.push ob) (st.set h.objs.size o) := by
    refine ⟨fun b x e n _ => ⟨Heap.get?_push_of_some _ e, ?_⟩⟩
    rw [St.set_ne (Nat.ne_of_lt (Heap.lt_size e))]; exact n
  refine ⟨a.ext ⟨fun b x e => ?_, fun b x e => ?_⟩ k, k⟩
  · have := a.inv.stays b x e
    exact ⟨Heap.get?_push_of_some _ this.1, by rw [St.set_ne (Nat.ne_of_lt (Heap.lt_size this.1))]; exact this.2⟩
  · unfold St.set at e
    split at e
    · rename_i q; subst q; cases e
      exact ho _ k.tr
    · exact (a.inv.objs b x e).tr k.tr fun ob e => Heap.get?_push_of_some _ e

/-- a change of one of the objects in hand -/
theorem At.update {h h' : Heap} (a : At hB c fr st h) {d : Addr} {o o' : O} (hd : st d = some o) (hs : Heap.SameBut d h h') (ho : ∀ st', Tr h st h' st' → RelO h' st' d o') :
    At hB c fr (st.set d o') h' ∧ Ext NoX h st h' (st.set d o') := by
  have k : Ext NoX h st h' (st.set d o') := by
    refine ⟨fun b x e n _ => ?_⟩
    have hne : b ≠ d := fun q => by rw [q, hd] at n; cases n
    exact ⟨(hs.2 b hne).trans e, by rw [St.set_ne hne]; exact n⟩
  refine ⟨a.ext ⟨fun b x e => ?_, fun b x e => ?_⟩ k, k⟩
  · have := a.inv.stays b x e
    have hne : b ≠ d := fun q => by rw [q, hd] at this; cases this.2
    exact ⟨(hs.2 b hne).trans this.1, by rw [St.set_ne hne]; exact this.2⟩
  · unfold St.set at e
    split at e
    · rename_i q; subst q; cases e
      exact ho _ k.tr
    · rename_i q
      exact (a.inv.objs b x e).tr k.tr fun ob e => (hs.2 b q).trans e

theorem At.list {h : Heap} (a : At hB c fr st h) {l : Addr} {xs : List V} (e : st l = some (.list xs)) : ∃ ws n, h.get? l = some (listOf (List.toArray ws) n) ∧ RelVs h st xs ws := a.inv.objs _ _ e
theorem isList_of {h : Heap} {l : Addr} {items : Array Value} {n : Nat} (e : h.get? l = some (listOf items n)) : h.IsList l items := ⟨_, e, rfl, n, rfl⟩

/-! ## ints -/
theorem O_add {x y : Int} {R : V → St → Prop} (h : R (.int (x + y)) st) : TO2 prog w hB c (binaryOp .Add) (.int x) (.int y) fr st E R := by
  intro s Q wa wb ha ra rb hQ; (first | obtain rfl := RelV.i_val ra | obtain rfl := RelV.i_ref ra | obtain ⟨_, rfl⟩ := RelV.i_int ra | obtain ⟨_, rfl⟩ := RelV.i_str ra | obtain ⟨_, rfl⟩ := RelV.i_bytes ra | obtain rfl := RelV.i_bool ra | obtain rfl := RelVs.i_nil ra | cases ra); (first | obtain rfl := RelV.i_val rb | obtain rfl := RelV.i_ref rb | obtain ⟨_, rfl⟩ := RelV.i_int rb | obtain ⟨_, rfl⟩ := RelV.i_str rb | obtain ⟨_, rfl⟩ := RelV.i_bytes rb | obtain rfl := RelV.i_bool rb | obtain rfl := RelVs.i_nil rb | cases rb)
  exact P.add_int (same ha h (.int _ _) hQ)
theorem O_sub {x y : Int} {R : V → St → Prop} (h : R (.int (x - y)) st) : TO2 prog w hB c (binaryOp .Sub) (.int x) (.int y) fr st E R := by
  intro s Q wa wb ha ra rb hQ; (first | obtain rfl := RelV.i_val ra | obtain rfl := RelV.i_ref ra | obtain ⟨_, rfl⟩ := RelV.i_int ra | obtain ⟨_, rfl⟩ := RelV.i_str ra | obtain ⟨_, rfl⟩ := RelV.i_bytes ra | obtain rfl := RelV.i_bool ra | obtain rfl := RelVs.i_nil ra | cases ra); (first | obtain rfl := RelV.i_val rb | obtain rfl := RelV.i_ref rb | obtain ⟨_, rfl⟩ := RelV.i_int rb | obtain ⟨_, rfl⟩ := RelV.i_str rb | obtain ⟨_, rfl⟩ := RelV.i_bytes rb | obtain rfl := RelV.i_bool rb | obtain rfl := RelVs.i_nil rb | cases rb)
  exact P.sub_int (same ha h (.int _ _) hQ)
theorem O_mul {x y : Int} {R : V → St → Prop} (h : R (.int (x * y)) st) (hm : IntMulOk x y) : TO2 prog w hB c (binaryOp .Mult) (.int x) (.int y) fr st E R := by
  intro s Q wa wb ha ra rb hQ; (first | obtain rfl := RelV.i_val ra | obtain rfl := RelV.i_ref ra | obtain ⟨_, rfl⟩ := RelV.i_int ra | obtain ⟨_, rfl⟩ := RelV.i_str ra | obtain ⟨_, rfl⟩ := RelV.i_bytes ra | obtain rfl := RelV.i_bool ra | obtain rfl := RelVs.i_nil ra | cases ra); (first | obtain rfl := RelV.i_val rb | obtain rfl := RelV.i_ref rb | obtain ⟨_, rfl⟩ := RelV.i_int rb | obtain ⟨_, rfl⟩ := RelV.i_str rb | obtain ⟨_, rfl⟩ := RelV.i_bytes rb | obtain rfl := RelV.i_bool rb | obtain rfl := RelVs.i_nil rb | cases rb)
  exact P.mul_int (same ha h (.int _ _) hQ) hm
theorem O_fdiv {x y : Int} {R : V → St → Prop} (hy : y ≠ 0) (hp : Builtin.divisionGoesByPylong x y = false) (h : R (.int (x.fdiv y)) st) : TO2 prog w hB c (binaryOp .FloorDiv) (.int x) (.int y) fr st E R := by
  intro s Q wa wb ha ra rb hQ; (first | obtain rfl := RelV.i_val ra | obtain rfl := RelV.i_ref ra | obtain ⟨_, rfl⟩ := RelV.i_int ra | obtain ⟨_, rfl⟩ := RelV.i_str ra | obtain ⟨_, rfl⟩ := RelV.i_bytes ra | obtain rfl := RelV.i_bool ra | obtain rfl := RelVs.i_nil ra | cases ra); (first | obtain rfl := RelV.i_val rb | obtain rfl := RelV.i_ref rb | obtain ⟨_, rfl⟩ := RelV.i_int rb | obtain ⟨_, rfl⟩ := RelV.i_str rb | obtain ⟨_, rfl⟩ := RelV.i_bytes rb | obtain rfl := RelV.i_bool rb | obtain rfl := RelVs.i_nil rb | cases rb)
  exact PyProof.Rows.floordiv_int hy (same ha h (.int _ _) hQ) (.inl hp)
theorem O_mod {x y : Int} {R : V → St → Prop} (hy : y ≠ 0) (h : R (.int (x.fmod y)) st) : TO2 prog w hB c (binaryOp .Mod) (.int x) (.int y) fr st E R := by
  intro s Q wa wb ha ra rb hQ; (first | obtain rfl := RelV.i_val ra | obtain rfl := RelV.i_ref ra | obtain ⟨_, rfl⟩ := RelV.i_int ra | obtain ⟨_, rfl⟩ := RelV.i_str ra | obtain ⟨_, rfl⟩ := RelV.i_bytes ra | obtain rfl := RelV.i_bool ra | obtain rfl := RelVs.i_nil ra | cases ra); (first | obtain rfl := RelV.i_val rb | obtain rfl := RelV.i_ref rb | obtain ⟨_, rfl⟩ := RelV.i_int rb | obtain ⟨_, rfl⟩ := RelV.i_str rb | obtain ⟨_, rfl⟩ := RelV.i_bytes rb | obtain rfl := RelV.i_bool rb | obtain rfl := RelVs.i_nil rb | cases rb)
  exact PyProof.Rows.mod_int' hy (same ha h (.int _ _) hQ)
theorem O_pow {x y : Int} {R : V → St → Prop} (h0 : 0 ≤ y) (h1 : y ≤ 1000000) (hx : x.natAbs < 2 ^ 64) (h : R (.int (x ^ y.toNat)) st) : TO2 prog w hB c (binaryOp .Pow) (.int x) (.int y) fr st E R := by
  intro s Q wa wb ha ra rb hQ; (first | obtain rfl := RelV.i_val ra | obtain rfl := RelV.i_ref ra | obtain ⟨_, rfl⟩ := RelV.i_int ra | obtain ⟨_, rfl⟩ := RelV.i_str ra | obtain ⟨_, rfl⟩ := RelV.i_bytes ra | obtain rfl := RelV.i_bool ra | obtain rfl := RelVs.i_nil ra | cases ra); (first | obtain rfl := RelV.i_val rb | obtain rfl := RelV.i_ref rb | obtain ⟨_, rfl⟩ := RelV.i_int rb | obtain ⟨_, rfl⟩ := RelV.i_str rb | obtain ⟨_, rfl⟩ := RelV.i_bytes rb | obtain rfl := RelV.i_bool rb | obtain rfl := RelVs.i_nil rb | cases rb)
  exact PyProof.Rows.pow_int_small h0 h1 hx (same ha h (.int _ _) hQ)
theorem O_neg {x : Int} {R : V → St → Prop} (h : R (.int (-x)) st) : TO1 prog w hB c (unaryOp .USub) (.int x) fr st E R := by
  intro s Q wa ha ra hQ; (first | obtain rfl := RelV.i_val ra | obtain rfl := RelV.i_ref ra | obtain ⟨_, rfl⟩ := RelV.i_int ra | obtain ⟨_, rfl⟩ := RelV.i_str ra | obtain ⟨_, rfl⟩ := RelV.i_bytes ra | obtain rfl := RelV.i_bool ra | obtain rfl := RelVs.i_nil ra | cases ra)
  exact P.neg_int (same ha h (.int _ _) hQ)
theorem C_eq {x y : Int} {R : V → St → Prop} (h : R (.bool (x == y)) st) : TO2 prog w hB c (compareOp .Eq) (.int x) (.int y) fr st E R := by
  intro s Q wa wb ha ra rb hQ; (first | obtain rfl := RelV.i_val ra | obtain rfl := RelV.i_ref ra | obtain ⟨_, rfl⟩ := RelV.i_int ra | obtain ⟨_, rfl⟩ := RelV.i_str ra | obtain ⟨_, rfl⟩ := RelV.i_bytes ra | obtain rfl := RelV.i_bool ra | obtain rfl := RelVs.i_nil ra | cases ra); (first | obtain rfl := RelV.i_val rb | obtain rfl := RelV.i_ref rb | obtain ⟨_, rfl⟩ := RelV.i_int rb | obtain ⟨_, rfl⟩ := RelV.i_str rb | obtain ⟨_, rfl⟩ := RelV.i_bytes rb | obtain rfl := RelV.i_bool rb | obtain rfl := RelVs.i_nil rb | cases rb)
  exact P.eq_int (same ha h (.bool _) hQ)
theorem C_ne {x y : Int} {R : V → St → Prop} (h : R (.bool (x != y)) st) : TO2 prog w hB c (compareOp .NotEq) (.int x) (.int y) fr st E R := by
  intro s Q wa wb ha ra rb hQ; (first | obtain rfl := RelV.i_val ra | obtain rfl := RelV.i_ref ra | obtain ⟨_, rfl⟩ := RelV.i_int ra | obtain ⟨_, rfl⟩ := RelV.i_str ra | obtain ⟨_, rfl⟩ := RelV.i_bytes ra | obtain rfl := RelV.i_bool ra | obtain rfl := RelVs.i_nil ra | cases ra); (first | obtain rfl := RelV.i_val rb | obtain rfl := RelV.i_ref rb | obtain ⟨_, rfl⟩ := RelV.i_int rb | obtain ⟨_, rfl⟩ := RelV.i_str rb | obtain ⟨_, rfl⟩ := RelV.i_bytes rb | obtain rfl := RelV.i_bool rb | obtain rfl := RelVs.i_nil rb | cases rb)
  exact P.ne_int (same ha h (.bool _) hQ)
theorem C_lt {x y : Int} {R : V → St → Prop} (h : R (.bool (decide (x < y))) st) : TO2 prog w hB c (compareOp .Lt) (.int x) (.int y) fr st E R := by
  intro s Q wa wb ha ra rb hQ; (first | obtain rfl := RelV.i_val ra | obtain rfl := RelV.i_ref ra | obtain ⟨_, rfl⟩ := RelV.i_int ra | obtain ⟨_, rfl⟩ := RelV.i_str ra | obtain ⟨_, rfl⟩ := RelV.i_bytes ra | obtain rfl := RelV.i_bool ra | obtain rfl := RelVs.i_nil ra | cases ra); (first | obtain rfl := RelV.i_val rb | obtain rfl := RelV.i_ref rb | obtain ⟨_, rfl⟩ := RelV.i_int rb | obtain ⟨_, rfl⟩ := RelV.i_str rb | obtain ⟨_, rfl⟩ := RelV.i_bytes rb | obtain rfl := RelV.i_bool rb | obtain rfl := RelVs.i_nil rb | cases rb)
  exact P.lt_int (same ha h (.bool _) hQ)
theorem C_le {x y : Int} {R : V → St → Prop} (h : R (.bool (decide (x ≤ y))) st) : TO2 prog w hB c (compareOp .LtE) (.int x) (.int y) fr st E R := by
  intro s Q wa wb ha ra rb hQ; (first | obtain rfl := RelV.i_val ra | obtain rfl := RelV.i_ref ra | obtain ⟨_, rfl⟩ := RelV.i_int ra | obtain ⟨_, rfl⟩ := RelV.i_str ra | obtain ⟨_, rfl⟩ := RelV.i_bytes ra | obtain rfl := RelV.i_bool ra | obtain rfl := RelVs.i_nil ra | cases ra); (first | obtain rfl := RelV.i_val rb | obtain rfl := RelV.i_ref rb | obtain ⟨_, rfl⟩ := RelV.i_int rb | obtain ⟨_, rfl⟩ := RelV.i_str rb | obtain ⟨_, rfl⟩ := RelV.i_bytes rb | obtain rfl := RelV.i_bool rb | obtain rfl := RelVs.i_nil rb | cases rb)
  exact P.le_int (same ha h (.bool _) hQ)
theorem C_gt {x y : Int} {R : V → St → Prop} (h : R (.bool (decide (x > y))) st) : TO2 prog w hB c (compareOp .Gt) (.int x) (.int y) fr st E R := by
  intro s Q wa wb ha ra rb hQ; (first | obtain rfl := RelV.i_val ra | obtain rfl := RelV.i_ref ra | obtain ⟨_, rfl⟩ := RelV.i_int ra | obtain ⟨_, rfl⟩ := RelV.i_str ra | obtain ⟨_, rfl⟩ := RelV.i_bytes ra | obtain rfl := RelV.i_bool ra | obtain rfl := RelVs.i_nil ra | cases ra); (first | obtain rfl := RelV.i_val rb | obtain rfl := RelV.i_ref rb | obtain ⟨_, rfl⟩ := RelV.i_int rb | obtain ⟨_, rfl⟩ := RelV.i_str rb | obtain ⟨_, rfl⟩ := RelV.i_bytes rb | obtain rfl := RelV.i_bool rb | obtain rfl := RelVs.i_nil rb | cases rb)
  exact P.gt_int (same ha h (.bool _) hQ)
theorem C_ge {x y : Int} {R : V → St → Prop} (h : R (.bool (decide (x ≥ y))) st) : TO2 prog w hB c (compareOp .GtE) (.int x) (.int y) fr st E R := by
  intro s Q wa wb ha ra rb hQ; (first | obtain rfl := RelV.i_val ra | obtain rfl := RelV.i_ref ra | obtain ⟨_, rfl⟩ := RelV.i_int ra | obtain ⟨_, rfl⟩ := RelV.i_str ra | obtain ⟨_, rfl⟩ := RelV.i_bytes ra | obtain rfl := RelV.i_bool ra | obtain rfl := RelVs.i_nil ra | cases ra); (first | obtain rfl := RelV.i_val rb | obtain rfl := RelV.i_ref rb | obtain ⟨_, rfl⟩ := RelV.i_int rb | obtain ⟨_, rfl⟩ := RelV.i_str rb | obtain ⟨_, rfl⟩ := RelV.i_bytes rb | obtain rfl := RelV.i_bool rb | obtain rfl := RelVs.i_nil rb | cases rb)
  exact P.ge_int (same ha h (.bool _) hQ)

/-! ## displays -/
theorem sizeLine_ge : (1000000 : Nat) ≤ sizeLine := by decide
theorem TE_list {es : List Expr} {pos} {R : V → St → Prop} (h : TA prog w hB c es fr st E fun vs st' => vs.length ≤ 1000000 ∧ ∀ a, st' a = none → R (.ref a) (st'.set a (.list vs))) :
    TE prog w hB c (.List es pos) fr st E R := by
  intro s Q ha hQ
  refine cList (h s _ pos ha fun vs st1 us h1 tk1 hR a1 e1 r1 => ?_)
  have hf := a1.fresh
  have hl : us.length ≤ sizeLine := by have := r1.length; have := sizeLine_ge; omega
  have := a1.alloc (ob := listOf us.toArray 0) (o := .list vs) fun st' k => ⟨us, 0, Heap.get?_push_size _ rfl, r1.tr k⟩
  refine wpC.any (wpAny_newObj_type (T := "list") (hQ _ _ _ _ _ (hR.2 _ hf) this.1 (e1.trans this.2) (.ref _)) ?_)
  show us.toArray.size ≤ sizeLine
  simpa using hl
theorem TE_tuple {es : List Expr} {k pos} {R : V → St → Prop} (h : TA prog w hB c es fr st E fun vs st' => vs.length ≤ 1000000 ∧ R (.tup vs) st') :
    TE prog w hB c (.Tuple es k pos) fr st E R := by
  intro s Q ha hQ
  refine cTuple (h s _ pos ha fun vs st1 us h1 tk1 hR a1 e1 r1 => ?_)
  have hf := a1.fresh
  have hl : us.length ≤ sizeLine := by have := r1.length; have := sizeLine_ge; omega
  have := a1.push ({ cls := .type "tuple", data := .seq us.toArray } : Obj)
  refine wpC.any (wpAny_newObj_type (T := "tuple") (hQ (.tup vs) _ _ _ _ hR.2 this.1 (e1.trans this.2) (.tup ⟨_, Heap.get?_push_size _ rfl, rfl, _, rfl⟩ hf (r1.tr this.2.tr))) ?_)
  show us.toArray.size ≤ sizeLine
  simpa using hl

/-! ## subscripts -/
/-- an item or a slice of what is no object of the text's own -/
def TItem (prog : Program) (w : World) (hB : Heap) (c : Cx) (slice : Expr) (ov iv : V) (fr : Vars) (st : St) (E : EE) (R : V → St → Prop) : Prop :=
  ∀ (s : Shared) (Q : Value → Shared → Prop) wo wi, At hB c fr st s.heap → RelV s.heap st ov wo → RelV s.heap st iv wi →
    (∀ v st' u h' tk', R v st' → At hB c fr st' h' → Ext NoX s.heap st h' st' → RelV h' st' v u → Q u { s with heap := h', toks := tk' }) →
    wpAny (model prog w) c.A (do let r ← subscripted slice (← getitemInPython wo) wo wi; pure r) Q (EX s E) s
theorem TE_sub {o i : Expr} {pos} {R : V → St → Prop} (h : TE prog w hB c o fr st E fun ov st1 => TE prog w hB c i fr st1 E fun iv st2 => TItem prog w hB c i ov iv fr st2 E R) :
    TE prog w hB c (.Subscript o i pos) fr st E R := by
  intro s Q ha hQ
  refine cSub (h s _ ha fun ov st1 wo h1 tk1 hR1 a1 e1 r1 => ?_)
  refine hR1 { s with heap := h1, toks := tk1 } _ a1 fun iv st2 wi h2 tk2 hR2 a2 e2 r2 => ?_
  have key := hR2 { s with heap := h2, toks := tk2 } (fun u s' => Q u s') wo wi a2 (r1.tr e2.tr) r2 fun v st3 u h3 tk3 hR a3 e3 r3 => hQ v st3 u h3 tk3 hR a3 (e1.trans (e2.trans e3)) r3
  unfold PyProof.Rows.subscriptTail
  refine wpC.any ?_
  intro Γ p hΓ
  have := key Γ p hΓ
  simp only [Sem.wp_bind', Sem.wp_pure'] at this ⊢
  refine Sem.wp_mono _ Γ _ (fun b p1 s1 h1 => ?_) (fun _ _ _ x => x) _ _ this
  refine Sem.wp_mono _ Γ _ (fun r p2 s2 h2 => ?_) (fun _ _ _ x => x) _ _ h1
  exact wpAny_letTemporaryGo (Q := fun _ s' => Q r s') h2 Γ p2 hΓ
end
end Mine
end
section
open PySem PySem.W PyProof.Rows
namespace Mine

section
variable {prog : Program} {w : World} {hB : Heap} {c : Cx} {fr : Vars} {st : St} {E : EE}

theorem subscripted_ops (slice : Expr) (o i : Value) : ∃ ops, subscripted slice false o i = operate ops (getItem o i) := by
  unfold subscripted
  split
  · exact ⟨_, rfl⟩
  · rename_i h; cases h
  · exact ⟨_, rfl⟩

theorem titem_of {E : Value → Shared → Prop} {M : Model} {A : Around} {s : Shared} {slice : Expr} {o i : Value} {T id : String} {Q : Value → Shared → Prop} (hT : s.TypeIs o T)
    (hl : typeLookup (.type T) "__getitem__" = pure (some (.builtin id))) (h : wpAny M A (getItem o i) Q E s) :
    wpAny M A (do let r ← subscripted slice (← getitemInPython o) o i; pure r) Q E s := by
  refine wpAny_bind ?_
  rw [getitemInPython_of_ne hT.not_modules]
  refine wpAny_bind (wpAny_specialOf hT hl ?_)
  obtain ⟨ops, hs⟩ := subscripted_ops slice o i
  have fin : wpAny M A (subscripted slice false o i) Q E s := by
    rw [hs]
    exact PyProof.Rows.wpAny_operate' h
  exact wpAny_pure fin

theorem I_tup {slice : Expr} {vs : List V} {k : Int} {v : V} {R : V → St → Prop} (h0 : 0 ≤ k) (hk : k < 2 ^ 62) (hv : vs[k.toNat]? = some v) (h : R v st) : TItem prog w hB c slice (.tup vs) (.int k) fr st E R := by
  intro s Q wo wi ha ro ri hQ
  (first | obtain rfl := RelV.i_val ri | obtain rfl := RelV.i_ref ri | obtain ⟨_, rfl⟩ := RelV.i_int ri | obtain ⟨_, rfl⟩ := RelV.i_str ri | obtain ⟨_, rfl⟩ := RelV.i_bytes ri | obtain rfl := RelV.i_bool ri | obtain rfl := RelVs.i_nil ri | cases ri)
  cases ro with
  | tup ht hn hr =>
    obtain ⟨u, hu, hru⟩ := hr.get _ hv
    rename_i t a ws
    have hlt : k.toNat < ws.length := (List.getElem?_eq_some_iff.mp hu).1
    have hj : seqIndex? k ws.toArray.size = some k.toNat := by
      have h1 : ¬ k < 0 := by omega
      have h2 : k < ws.length := by omega
      simp [seqIndex?, h1, h0, h2]
    exact titem_of ht.typeIs slot_tuple_getitem.lookup (PyProof.Rows.getItem_tuple ht (by omega) (by omega) hj (by simpa using hu) (hQ v st u s.heap s.toks h ha .refl hru))

theorem I_list {slice : Expr} {l : Addr} {xs : List V} {k : Int} {v : V} {R : V → St → Prop} (hl : st l = some (.list xs)) (h0 : 0 ≤ k) (hk : k < 2 ^ 62) (hv : xs[k.toNat]? = some v) (h : R v st) :
    TItem prog w hB c slice (.ref l) (.int k) fr st E R := by
  intro s Q wo wi ha ro ri hQ
  (first | obtain rfl := RelV.i_val ri | obtain rfl := RelV.i_ref ri | obtain ⟨_, rfl⟩ := RelV.i_int ri | obtain ⟨_, rfl⟩ := RelV.i_str ri | obtain ⟨_, rfl⟩ := RelV.i_bytes ri | obtain rfl := RelV.i_bool ri | obtain rfl := RelVs.i_nil ri | cases ri); (first | obtain rfl := RelV.i_val ro | obtain rfl := RelV.i_ref ro | obtain ⟨_, rfl⟩ := RelV.i_int ro | obtain ⟨_, rfl⟩ := RelV.i_str ro | obtain ⟨_, rfl⟩ := RelV.i_bytes ro | obtain rfl := RelV.i_bool ro | obtain rfl := RelVs.i_nil ro | cases ro)
  obtain ⟨ws, n, ho, hr⟩ := ha.list hl
  obtain ⟨u, hu, hru⟩ := hr.get _ hv
  have hL := isList_of ho
  exact titem_of (Heap.IsList.typeIs hL) slot_list_getitem.lookup (wpAny_getItem_list hL h0 (by omega) (by simpa using hu) (hQ v st u s.heap s.toks h ha .refl hru))

theorem I_list_neg {slice : Expr} {l : Addr} {xs : List V} {k : Int} {v : V} {R : V → St → Prop} (hl : st l = some (.list xs)) (h0 : k < 0) (h1 : -(xs.length : Int) ≤ k) (hk : -(2 ^ 62) ≤ k) (hv : xs[(k + xs.length).toNat]? = some v) (h : R v st) :
    TItem prog w hB c slice (.ref l) (.int k) fr st E R := by
  intro s Q wo wi ha ro ri hQ
  (first | obtain rfl := RelV.i_val ri | obtain rfl := RelV.i_ref ri | obtain ⟨_, rfl⟩ := RelV.i_int ri | obtain ⟨_, rfl⟩ := RelV.i_str ri | obtain ⟨_, rfl⟩ := RelV.i_bytes ri | obtain rfl := RelV.i_bool ri | obtain rfl := RelVs.i_nil ri | cases ri); (first | obtain rfl := RelV.i_val ro | obtain rfl := RelV.i_ref ro | obtain ⟨_, rfl⟩ := RelV.i_int ro | obtain ⟨_, rfl⟩ := RelV.i_str ro | obtain ⟨_, rfl⟩ := RelV.i_bytes ro | obtain rfl := RelV.i_bool ro | obtain rfl := RelVs.i_nil ro | cases ro)
  obtain ⟨ws, n, ho, hr⟩ := ha.list hl
  have hlen := hr.length
  obtain ⟨u, hu, hru⟩ := hr.get _ hv
  have hL := isList_of ho
  refine titem_of (Heap.IsList.typeIs hL) slot_list_getitem.lookup (wpAny_getItem_list_neg hL h0 (by simp; omega) (by omega) ?_ (hQ v st u s.heap s.toks h ha .refl hru))
  rw [hlen] at hu
  simpa using hu

theorem I_bytes {slice : Expr} {b : List UInt8} {k : Int} {R : V → St → Prop} (h0 : 0 ≤ k) (hk : k < b.length) (hz : b.length ≤ 1000000) (h : R (.int (b.getD k.toNat 0).toNat) st) :
    TItem prog w hB c slice (.bytes b) (.int k) fr st E R := by
  intro s Q wo wi ha ro ri hQ
  (first | obtain rfl := RelV.i_val ri | obtain rfl := RelV.i_ref ri | obtain ⟨_, rfl⟩ := RelV.i_int ri | obtain ⟨_, rfl⟩ := RelV.i_str ri | obtain ⟨_, rfl⟩ := RelV.i_bytes ri | obtain rfl := RelV.i_bool ri | obtain rfl := RelVs.i_nil ri | cases ri); (first | obtain rfl := RelV.i_val ro | obtain rfl := RelV.i_ref ro | obtain ⟨_, rfl⟩ := RelV.i_int ro | obtain ⟨_, rfl⟩ := RelV.i_str ro | obtain ⟨_, rfl⟩ := RelV.i_bytes ro | obtain rfl := RelV.i_bool ro | obtain rfl := RelVs.i_nil ro | cases ro)
  exact titem_of (typeIs_bytes s _ _) FB.slot_bytes_getitem.lookup (getItem_bytes (by omega) h0 hk (same ha h (.int _ _) hQ))

/-- the parts of a slice -/
inductive Part : V → Option Nat → Prop
  | none : Part .none none
  | int (n : Nat) : Part (.int n) (some n)

def cut {α : Type} (xs : List α) (lo hi : Option Nat) : List α := (xs.take (hi.getD xs.length)).drop (lo.getD 0)

theorem cut_clip {α : Type} (xs : List α) (lo hi : Option Nat) :
    (xs.drop ((lo.map (Int.ofNat ·)).elim 0 (clipAt xs.length))).take ((hi.map (Int.ofNat ·)).elim xs.length (clipAt xs.length) - (lo.map (Int.ofNat ·)).elim 0 (clipAt xs.length)) = cut xs lo hi := by
  have e : ∀ n a : Nat, clipAt n (Int.ofNat a) = min a n := fun n a => clipAt_nat n a
  unfold cut
  cases lo <;> cases hi <;> simp only [Option.map_none, Option.map_some, Option.elim_none, Option.elim_some, Option.getD_none, Option.getD_some, e, List.drop_zero, Nat.sub_zero]
  · rename_i b
    by_cases h : b ≤ xs.length
    · rw [Nat.min_eq_left h]
    · rw [Nat.min_eq_right (by omega), List.take_of_length_le (Nat.le_refl _), List.take_of_length_le (by omega)]
  · rename_i a
    rw [List.take_of_length_le (Nat.le_refl xs.length), List.take_of_length_le (by rw [List.length_drop]; exact Nat.le_refl _)]
    by_cases h : a ≤ xs.length
    · rw [Nat.min_eq_left h]
    · rw [Nat.min_eq_right (by omega), List.drop_of_length_le (Nat.le_refl _), List.drop_of_length_le (by omega)]
  · rename_i a b
    rw [List.drop_take]
    by_cases h : a ≤ xs.length
    · rw [Nat.min_eq_left h]
      by_cases h2 : b ≤ xs.length
      · rw [Nat.min_eq_left h2]
      · rw [Nat.min_eq_right (by omega), List.take_of_length_le (by rw [List.length_drop]; exact Nat.le_refl _), List.take_of_length_le (by rw [List.length_drop]; omega)]
    · rw [Nat.min_eq_right (show xs.length ≤ a by omega), List.drop_of_length_le (Nat.le_refl _), List.drop_of_length_le (show xs.length ≤ a by omega)]; simp

theorem isPart_of {h : Heap} {v : V} {u : Value} {o : Option Nat} (p : Part v o) (r : RelV h st v u) : IsPart u (o.map (Int.ofNat ·)) := by
  cases p <;> cases r
  · exact .none
  · exact .int _ _

theorem isSlice_of {h : Heap} {sl : Addr} {wl wu : Value} (e : h.get? sl = some { cls := .type "slice", data := .fields #[wl, wu, .none] }) : h.IsSliceOf sl wl wu .none := ⟨_, e, rfl, rfl⟩

theorem RelVs.cut {h : Heap} {vs : List V} {ws : List Value} (r : RelVs h st vs ws) (lo hi : Option Nat) : RelVs h st (cut vs lo hi) (Mine.cut ws lo hi) := by
  unfold Mine.cut
  rw [r.length]
  exact (r.take _).drop _

theorem I_list_slice {slice : Expr} {l : Addr} {xs : List V} {lv uv : V} {lo hi : Option Nat} {R : V → St → Prop} (hl : st l = some (.list xs)) (pl : Part lv lo) (pu : Part uv hi) (hz : xs.length ≤ 1000000)
    (h : ∀ a, st a = none → R (.ref a) (st.set a (.list (cut xs lo hi)))) : TItem prog w hB c slice (.ref l) (.slc lv uv) fr st E R := by
  intro s Q wo wi ha ro ri hQ
  (first | obtain rfl := RelV.i_val ro | obtain rfl := RelV.i_ref ro | obtain ⟨_, rfl⟩ := RelV.i_int ro | obtain ⟨_, rfl⟩ := RelV.i_str ro | obtain ⟨_, rfl⟩ := RelV.i_bytes ro | obtain rfl := RelV.i_bool ro | obtain rfl := RelVs.i_nil ro | cases ro)
  cases ri with
  | slc hs hn rl ru =>
    obtain ⟨ws, n, ho, hr⟩ := ha.list hl
    have hL := isList_of ho
    have hlen := hr.length
    have e : slicePick ws.toArray (lo.map (Int.ofNat ·)) (hi.map (Int.ofNat ·)) none = (cut ws lo hi).toArray := by
      rw [slicePick_plain, ← cut_clip]; simp
    refine titem_of (Heap.IsList.typeIs hL) slot_list_getitem.lookup (wpAny_getItem_list_slice hL (isSlice_of hs) (isPart_of pl rl) (isPart_of pu ru) .none (by simp) ?_ (by have := sizeLine_ge; simp; omega))
    rw [e]
    have := ha.alloc (ob := listOf (cut ws lo hi).toArray 0) (o := .list (cut xs lo hi)) fun st' k => ⟨_, 0, Heap.get?_push_size _ rfl, (hr.cut lo hi).tr k⟩
    exact hQ _ _ _ _ s.toks (h _ ha.fresh) this.1 this.2 (.ref _)

theorem I_bytes_slice {slice : Expr} {b : List UInt8} {lv uv : V} {lo hi : Option Nat} {R : V → St → Prop} (pl : Part lv lo) (pu : Part uv hi) (hz : b.length ≤ 1000000)
    (h : R (.bytes (cut b lo hi)) st) : TItem prog w hB c slice (.bytes b) (.slc lv uv) fr st E R := by
  intro s Q wo wi ha ro ri hQ
  (first | obtain rfl := RelV.i_val ro | obtain rfl := RelV.i_ref ro | obtain ⟨_, rfl⟩ := RelV.i_int ro | obtain ⟨_, rfl⟩ := RelV.i_str ro | obtain ⟨_, rfl⟩ := RelV.i_bytes ro | obtain rfl := RelV.i_bool ro | obtain rfl := RelVs.i_nil ro | cases ro)
  cases ri with
  | slc hs hn rl ru =>
    rename_i t sl wl wu
    have e : KBy.picked b.toArray (lo.map (Int.ofNat ·)) (hi.map (Int.ofNat ·)) = (cut b lo hi).toArray := by
      rw [KBc.picked_eq, ← cut_clip]; simp
    refine titem_of (typeIs_bytes s _ _) FB.slot_bytes_getitem.lookup ?_
    refine getItem_meets (typeIs_bytes _ _ _) (by decide) FB.slot_bytes_getitem FB.entry_bytes_getitem (FB.args_bytes_getitem_2 _ _) (KBc.meets_slice2 b.toArray t sl (isPart_of pl rl) (isPart_of pu ru)) ⟨isSlice_of hs, ?_, fun t' k => ?_⟩
    · refine Nat.le_trans (KBc.size_picked_le _ _ _) ?_
      have := sizeLine_ge; simp; omega
    · rw [e]
      exact hQ _ _ _ _ k h ha .refl (.bytes _ _)

theorem TE_slice {lo hi : Option Expr} {pos} {R : V → St → Prop}
    (h : (match lo with | none => fun (K : V → St → Prop) => K .none st | some e => fun K => TE prog w hB c e fr st E K) fun lv st1 =>
      (match hi with | none => fun (K : V → St → Prop) => K .none st1 | some e => fun K => TE prog w hB c e fr st1 E K) fun uv st2 => R (.slc lv uv) st2) :
    TE prog w hB c (.Slice lo hi none pos) fr st E R := by
  intro s Q ha hQ
  show wpC _ _ (do
    let l ← valueOrNone (evalOpt lo c.env)
    let u ← holding [l] (valueOrNone (evalOpt hi c.env))
    let st ← holding [l, u] (valueOrNone (evalOpt none c.env))
    newFields "slice" [l, u, st]) Q (EX s E) s
  have fin : ∀ (s2 : Shared) lv uv wl wu st2, At hB c fr st2 s2.heap → RelV s2.heap st2 lv wl → RelV s2.heap st2 uv wu → R (.slc lv uv) st2 →
      (∀ v st' u h' tk', R v st' → At hB c fr st' h' → Ext NoX s2.heap st2 h' st' → RelV h' st' v u → Q u { s2 with heap := h', toks := tk' }) →
      wpC (model prog w) c.A (do let st ← holding [wl, wu] (valueOrNone (evalOpt none c.env)); newFields "slice" [wl, wu, st]) Q (EX s2 E) s2 := by
    intro s2 lv uv wl wu st2 a2 rl ru hR hQ2
    refine wpC_bind (wpC_holding (wpC_pure ?_))
    have := a2.push ({ cls := .type "slice", data := .fields #[wl, wu, .none] } : Obj)
    refine wpC.any (wpAny_newObj_type (T := "slice") (hQ2 (.slc lv uv) _ _ _ _ hR this.1 this.2 (.slc (Heap.get?_push_size _ rfl) a2.fresh (rl.tr this.2.tr) (ru.tr this.2.tr))) ?_)
    show #[wl, wu, Value.none].size ≤ sizeLine + 2
    have := sizeLine_ge
    simp; omega
  have mid : ∀ (s1 : Shared) lv wl st1, At hB c fr st1 s1.heap → RelV s1.heap st1 lv wl →
      ((match hi with | none => fun (K : V → St → Prop) => K .none st1 | some e => fun K => TE prog w hB c e fr st1 E K) fun uv st2 => R (.slc lv uv) st2) →
      (∀ v st' u h' tk', R v st' → At hB c fr st' h' → Ext NoX s1.heap st1 h' st' → RelV h' st' v u → Q u { s1 with heap := h', toks := tk' }) →
      wpC (model prog w) c.A (do
        let u ← holding [wl] (valueOrNone (evalOpt hi c.env))
        let st ← holding [wl, u] (valueOrNone (evalOpt none c.env))
        newFields "slice" [wl, u, st]) Q (EX s1 E) s1 := by
    intro s1 lv wl st1 a1 rl hR hQ1
    cases hi with
    | none => exact wpC_bind (wpC_holding (wpC_pure (fin s1 lv .none wl .none st1 a1 rl .none hR hQ1)))
    | some e =>
      refine wpC_bind (wpC_holding (hR s1 _ a1 fun uv st2 wu h2 tk2 hR2 a2 e2 r2 => ?_))
      exact fin { s1 with heap := h2, toks := tk2 } lv uv wl wu st2 a2 (rl.tr e2.tr) r2 hR2 fun v st3 u h3 tk3 hR3 a3 e3 r3 => hQ1 v st3 u h3 tk3 hR3 a3 (e2.trans e3) r3
  cases lo with
  | none => exact wpC_bind (wpC_pure (mid s .none .none st ha .none h hQ))
  | some e =>
    refine wpC_bind (h s _ ha fun lv st1 wl h1 tk1 hR1 a1 e1 r1 => ?_)
    exact mid { s with heap := h1, toks := tk1 } lv wl st1 a1 r1 hR1 fun v st3 u h3 tk3 hR3 a3 e3 r3 => hQ v st3 u h3 tk3 hR3 a3 (e1.trans e3) r3
end
end Mine
end
section
open PySem PySem.W PyProof.Rows
namespace Mine

section
variable {prog : Program} {w : World} {hB : Heap} {c : Cx} {fr : Vars} {st : St} {E : EE}

/-- what is asked of the ground about rooms -/
structure Room (A : Around) (n : Nat) : Prop where
  handled : A.handled = none
  depth : A.depth + 2 * n ≤ 900
  units : A.units + 20 * n ≤ 9000

theorem ints_of {h : Heap} : ∀ {ns : List Int} {ws : List Value}, RelVs h st (ns.map V.int) ws → IntsAre ws ns
  | [], _, .nil => .nil
  | _ :: _, _, .cons a b => by cases a; exact .cons _ _ (ints_of b)
theorem ints_to {h : Heap} {ns : List Int} {ws : List Value} (H : IntsAre ws ns) : RelVs h st (ns.map V.int) ws := by
  induction H with
  | nil => exact .nil
  | cons n t b ih => exact .cons (.int n t) ih

/-! ## lists by operators -/
theorem O_add_list {a b : Addr} {xs ys : List V} {R : V → St → Prop} (ea : st a = some (.list xs)) (eb : st b = some (.list ys)) (hz : xs.length + ys.length ≤ 1000000)
    (h : ∀ d, st d = none → R (.ref d) (st.set d (.list (xs ++ ys)))) : TO2 prog w hB c (binaryOp .Add) (.ref a) (.ref b) fr st E R := by
  intro s Q wa wb ha ra rb hQ; (first | obtain rfl := RelV.i_val ra | obtain rfl := RelV.i_ref ra | obtain ⟨_, rfl⟩ := RelV.i_int ra | obtain ⟨_, rfl⟩ := RelV.i_str ra | obtain ⟨_, rfl⟩ := RelV.i_bytes ra | obtain rfl := RelV.i_bool ra | obtain rfl := RelVs.i_nil ra | cases ra); (first | obtain rfl := RelV.i_val rb | obtain rfl := RelV.i_ref rb | obtain ⟨_, rfl⟩ := RelV.i_int rb | obtain ⟨_, rfl⟩ := RelV.i_str rb | obtain ⟨_, rfl⟩ := RelV.i_bytes rb | obtain rfl := RelV.i_bool rb | obtain rfl := RelVs.i_nil rb | cases rb)
  obtain ⟨ws, n, ho, hr⟩ := ha.list ea
  obtain ⟨us, n2, ho2, hr2⟩ := ha.list eb
  have l1 := hr.length
  have l2 := hr2.length
  have := ha.alloc (ob := listOf (ws.toArray ++ us.toArray) 0) (o := .list (xs ++ ys)) fun st' k => ⟨ws ++ us, 0, by rw [Heap.get?_push_size _ rfl]; simp, (hr.append hr2).tr k⟩
  exact P.add_list ho ho2 (hQ _ _ _ _ s.toks (h _ ha.fresh) this.1 this.2 (.ref _)) (by have := sizeLine_ge; simp; omega)

theorem repl_one (x : Value) (k : Nat) : List.foldl (fun x1 x2 => x1 ++ x2) #[] (List.replicate k #[x]) = (List.replicate k x).toArray := by
  have gen : ∀ (k : Nat) (acc : List Value), List.foldl (fun x1 x2 => x1 ++ x2) acc.toArray (List.replicate k #[x]) = (acc ++ List.replicate k x).toArray := by
    intro k
    induction k with
    | zero => intro acc; simp
    | succ k ih =>
      intro acc
      rw [List.replicate_succ, List.foldl_cons]
      have := ih (acc ++ [x])
      rw [show acc.toArray ++ #[x] = (acc ++ [x]).toArray by simp, this, List.append_assoc, List.replicate_succ]
      rfl
  simpa using gen k []

theorem RelVs.replicate {h : Heap} {v : V} {u : Value} (r : RelV h st v u) : ∀ k : Nat, RelVs h st (List.replicate k v) (List.replicate k u)
  | 0 => .nil
  | k + 1 => .cons r (RelVs.replicate r k)

theorem O_mul_list {a : Addr} {x : V} {k : Int} {R : V → St → Prop} (ea : st a = some (.list [x])) (h0 : 0 ≤ k) (hz : k ≤ 1000000)
    (h : ∀ d, st d = none → R (.ref d) (st.set d (.list (List.replicate k.toNat x)))) : TO2 prog w hB c (binaryOp .Mult) (.ref a) (.int k) fr st E R := by
  intro s Q wa wb ha ra rb hQ; (first | obtain rfl := RelV.i_val ra | obtain rfl := RelV.i_ref ra | obtain ⟨_, rfl⟩ := RelV.i_int ra | obtain ⟨_, rfl⟩ := RelV.i_str ra | obtain ⟨_, rfl⟩ := RelV.i_bytes ra | obtain rfl := RelV.i_bool ra | obtain rfl := RelVs.i_nil ra | cases ra); (first | obtain rfl := RelV.i_val rb | obtain rfl := RelV.i_ref rb | obtain ⟨_, rfl⟩ := RelV.i_int rb | obtain ⟨_, rfl⟩ := RelV.i_str rb | obtain ⟨_, rfl⟩ := RelV.i_bytes rb | obtain rfl := RelV.i_bool rb | obtain rfl := RelVs.i_nil rb | cases rb)
  rename_i u
  obtain ⟨ws, n, ho, hr⟩ := ha.list ea
  cases hr with
  | cons r0 rn =>
  (first | obtain rfl := RelV.i_val rn | obtain rfl := RelV.i_ref rn | obtain ⟨_, rfl⟩ := RelV.i_int rn | obtain ⟨_, rfl⟩ := RelV.i_str rn | obtain ⟨_, rfl⟩ := RelV.i_bytes rn | obtain rfl := RelV.i_bool rn | obtain rfl := RelVs.i_nil rn | cases rn)
  rename_i v0
  have e := repl_one v0 k.toNat
  have := ha.alloc (ob := listOf (List.replicate k.toNat v0).toArray 0) (o := .list (List.replicate k.toNat x)) fun st' t => ⟨_, 0, Heap.get?_push_size _ rfl, (RelVs.replicate r0 _).tr t⟩
  have fin := hQ _ _ _ _ s.toks (h _ ha.fresh) this.1 this.2 (.ref _)
  refine wpAny_binaryOp_repeat_ref (T := "list") (U := "int") (by decide) ⟨_, ho, rfl⟩ (fun s' => typeIs_int s' k u) noFill_list_mul F.fills_int_mul F.slot_int_rmul repeat_list F.slot_int_index.lookup
    (call_meets F.slot_int_rmul (typeIs_int s k u) F.entry_int_rmul (F.args_int_rmul_2 _ _) (int___rmul___int_list k u a _ n)
      ⟨ho, rfl, ⟨_, ho, rfl⟩, call_meets F.slot_list_mul ⟨_, ho, rfl⟩ F.entry_list_mul (F.args_list_mul_2 _ _)
        (AutoListH.list___mul___list_int_3 a _ n k u (by simp [Builtin.List.listFitsIndex]; omega) (by simp; omega) (by simp [Builtin.List.listTooLong, sizeLine]; omega))
        ⟨ho, ?_⟩⟩)
  have e2 : List.foldl (fun x1 x2 => x1 ++ x2) #[] (List.replicate (if (#[v0] : Array Value).isEmpty = true then 0 else k.toNat) #[v0]) = (List.replicate k.toNat v0).toArray := by
    rw [← e]; simp
  show Q _ { s with heap := s.heap.push { cls := Value.type "list", data := Data.seq (List.foldl (fun x1 x2 => x1 ++ x2) #[] (List.replicate (if (#[v0] : Array Value).isEmpty = true then 0 else k.toNat) #[v0])) } }
  rw [e2]
  exact fin

theorem C_eq_ints {a b : Addr} {ns ms : List Int} {R : V → St → Prop} (ea : st a = some (.list (ns.map V.int))) (eb : st b = some (.list (ms.map V.int))) (hr : Room c.A 4)
    (h : R (.bool (decide (ns = ms))) st) : TO2 prog w hB c (compareOp .Eq) (.ref a) (.ref b) fr st E R := by
  intro s Q wa wb ha ra rb hQ; (first | obtain rfl := RelV.i_val ra | obtain rfl := RelV.i_ref ra | obtain ⟨_, rfl⟩ := RelV.i_int ra | obtain ⟨_, rfl⟩ := RelV.i_str ra | obtain ⟨_, rfl⟩ := RelV.i_bytes ra | obtain rfl := RelV.i_bool ra | obtain rfl := RelVs.i_nil ra | cases ra); (first | obtain rfl := RelV.i_val rb | obtain rfl := RelV.i_ref rb | obtain ⟨_, rfl⟩ := RelV.i_int rb | obtain ⟨_, rfl⟩ := RelV.i_str rb | obtain ⟨_, rfl⟩ := RelV.i_bytes rb | obtain rfl := RelV.i_bool rb | obtain rfl := RelVs.i_nil rb | cases rb)
  obtain ⟨ws, n, ho, hr1⟩ := ha.list ea
  obtain ⟨us, n2, ho2, hr2⟩ := ha.list eb
  refine eq_intsK (isList_of ho) (ints_of hr1) (isList_of ho2) (ints_of hr2) ?_ (hQ _ _ _ _ _ h ha .refl (.bool _))
  have := hr.units
  show c.A.units + 64 < 9900
  omega

/-! ## bytes by operators -/
theorem O_add_bytes {b d : List UInt8} {R : V → St → Prop} (hz : b.length + d.length ≤ 1000000) (h : R (.bytes (b ++ d)) st) : TO2 prog w hB c (binaryOp .Add) (.bytes b) (.bytes d) fr st E R := by
  intro s Q wa wb ha ra rb hQ; (first | obtain rfl := RelV.i_val ra | obtain rfl := RelV.i_ref ra | obtain ⟨_, rfl⟩ := RelV.i_int ra | obtain ⟨_, rfl⟩ := RelV.i_str ra | obtain ⟨_, rfl⟩ := RelV.i_bytes ra | obtain rfl := RelV.i_bool ra | obtain rfl := RelVs.i_nil ra | cases ra); (first | obtain rfl := RelV.i_val rb | obtain rfl := RelV.i_ref rb | obtain ⟨_, rfl⟩ := RelV.i_int rb | obtain ⟨_, rfl⟩ := RelV.i_str rb | obtain ⟨_, rfl⟩ := RelV.i_bytes rb | obtain rfl := RelV.i_bool rb | obtain rfl := RelVs.i_nil rb | cases rb)
  refine KBy.add_bytes (by simp; omega) fun t' k => ?_
  have e : b.toArray ++ d.toArray = (b ++ d).toArray := by simp
  rw [e]
  exact hQ _ _ _ _ k h ha .refl (.bytes _ _)
theorem C_eq_bytes {b d : List UInt8} {R : V → St → Prop} (h : R (.bool (b == d)) st) : TO2 prog w hB c (compareOp .Eq) (.bytes b) (.bytes d) fr st E R := by
  intro s Q wa wb ha ra rb hQ; (first | obtain rfl := RelV.i_val ra | obtain rfl := RelV.i_ref ra | obtain ⟨_, rfl⟩ := RelV.i_int ra | obtain ⟨_, rfl⟩ := RelV.i_str ra | obtain ⟨_, rfl⟩ := RelV.i_bytes ra | obtain rfl := RelV.i_bool ra | obtain rfl := RelVs.i_nil ra | cases ra); (first | obtain rfl := RelV.i_val rb | obtain rfl := RelV.i_ref rb | obtain ⟨_, rfl⟩ := RelV.i_int rb | obtain ⟨_, rfl⟩ := RelV.i_str rb | obtain ⟨_, rfl⟩ := RelV.i_bytes rb | obtain rfl := RelV.i_bool rb | obtain rfl := RelVs.i_nil rb | cases rb)
  exact eq_bytes (by simpa using hQ _ _ _ _ s.toks h ha .refl (.bool _))
theorem C_ne_bytes {b d : List UInt8} {R : V → St → Prop} (h : R (.bool (b != d)) st) : TO2 prog w hB c (compareOp .NotEq) (.bytes b) (.bytes d) fr st E R := by
  intro s Q wa wb ha ra rb hQ; (first | obtain rfl := RelV.i_val ra | obtain rfl := RelV.i_ref ra | obtain ⟨_, rfl⟩ := RelV.i_int ra | obtain ⟨_, rfl⟩ := RelV.i_str ra | obtain ⟨_, rfl⟩ := RelV.i_bytes ra | obtain rfl := RelV.i_bool ra | obtain rfl := RelVs.i_nil ra | cases ra); (first | obtain rfl := RelV.i_val rb | obtain rfl := RelV.i_ref rb | obtain ⟨_, rfl⟩ := RelV.i_int rb | obtain ⟨_, rfl⟩ := RelV.i_str rb | obtain ⟨_, rfl⟩ := RelV.i_bytes rb | obtain rfl := RelV.i_bool rb | obtain rfl := RelVs.i_nil rb | cases rb)
  exact ne_bytes (by simpa using hQ _ _ _ _ s.toks h ha .refl (.bool _))

/-! ## strs, data -/
theorem C_eq_str {x y : Str} {R : V → St → Prop} (h : R (.bool (x == y)) st) : TO2 prog w hB c (compareOp .Eq) (.str x) (.str y) fr st E R := by
  intro s Q wa wb ha ra rb hQ; (first | obtain rfl := RelV.i_val ra | obtain rfl := RelV.i_ref ra | obtain ⟨_, rfl⟩ := RelV.i_int ra | obtain ⟨_, rfl⟩ := RelV.i_str ra | obtain ⟨_, rfl⟩ := RelV.i_bytes ra | obtain rfl := RelV.i_bool ra | obtain rfl := RelVs.i_nil ra | cases ra); (first | obtain rfl := RelV.i_val rb | obtain rfl := RelV.i_ref rb | obtain ⟨_, rfl⟩ := RelV.i_int rb | obtain ⟨_, rfl⟩ := RelV.i_str rb | obtain ⟨_, rfl⟩ := RelV.i_bytes rb | obtain rfl := RelV.i_bool rb | obtain rfl := RelVs.i_nil rb | cases rb)
  exact PyProof.Rows.eq_str (hQ _ _ _ _ s.toks h ha .refl (.bool _))

inductive PyOf : V → PyData → Prop
  | int (i : Int) : PyOf (.int i) (.int i)
  | str (x : Str) : PyOf (.str x) (.str x)
inductive PysOf : List V → List PyData → Prop
  | nil : PysOf [] []
  | cons {v d vs ds} : PyOf v d → PysOf vs ds → PysOf (v :: vs) (d :: ds)
theorem reads_of {h : Heap} {v : V} {d : PyData} {u : Value} (p : PyOf v d) (r : RelV h st v u) : Reads h u d [] := by
  cases p <;> cases r
  · exact .int _ _
  · exact .str _ _
theorem readsAll_of {h : Heap} : ∀ {vs : List V} {ds : List PyData} {us : List Value}, PysOf vs ds → RelVs h st vs us → ReadsAll h us ds []
  | _, _, _, .nil, .nil => .nil
  | _, _, _, .cons p ps, .cons r rs => .cons (reads_of p r) (readsAll_of ps rs)
theorem readsT_of {h : Heap} {vs : List V} {ds : List PyData} {u : Value} (p : PysOf vs ds) (r : RelV h st (.tup vs) u) : Reads h u (.tuple ds) [] := by
  cases r with
  | tup ht hn hr =>
    obtain ⟨o, ho, hc, n, hd⟩ := ht
    exact .tuple ho hc hd (by simpa using readsAll_of p hr)
theorem C_eq_tup {vs us : List V} {ds es : List PyData} {R : V → St → Prop} (p : PysOf vs ds) (q : PysOf us es) (hs : SeqAt.shaped (.tuple ds) = true) (ht : SeqAt.shaped (.tuple es) = true) (hr : Room c.A 4)
    (h : R (.bool (PyData.eqv (.tuple ds) (.tuple es))) st) : TO2 prog w hB c (compareOp .Eq) (.tup vs) (.tup us) fr st E R := by
  intro s Q wa wb ha ra rb hQ
  refine PyProof.Rows.eq_dataH (readsT_of p ra) (readsT_of q rb) hs ht ?_ (hQ _ _ _ _ s.toks h ha .refl (.bool _))
  have := hr.units
  show c.A.units + 64 < 9900
  omega

/-! ## calls of built-ins -/
theorem K_len_list {a : Addr} {xs : List V} {R : V → St → Prop} (ea : st a = some (.list xs)) (hz : xs.length ≤ 1000000) (h : R (.int xs.length) st) :
    TC prog w hB c c.A (.val (.builtin "len")) [.ref a] fr st E R := by
  intro s Q wf ws ha rf rs hQ
  (first | obtain rfl := RelV.i_val rf | obtain rfl := RelV.i_ref rf | obtain ⟨_, rfl⟩ := RelV.i_int rf | obtain ⟨_, rfl⟩ := RelV.i_str rf | obtain ⟨_, rfl⟩ := RelV.i_bytes rf | obtain rfl := RelV.i_bool rf | obtain rfl := RelVs.i_nil rf | cases rf)
  cases rs with
  | cons r rn => (first | obtain rfl := RelV.i_val rn | obtain rfl := RelV.i_ref rn | obtain ⟨_, rfl⟩ := RelV.i_int rn | obtain ⟨_, rfl⟩ := RelV.i_str rn | obtain ⟨_, rfl⟩ := RelV.i_bytes rn | obtain rfl := RelV.i_bool rn | obtain rfl := RelVs.i_nil rn | cases rn); (first | obtain rfl := RelV.i_val r | obtain rfl := RelV.i_ref r | obtain ⟨_, rfl⟩ := RelV.i_int r | obtain ⟨_, rfl⟩ := RelV.i_str r | obtain ⟨_, rfl⟩ := RelV.i_bytes r | obtain rfl := RelV.i_bool r | obtain rfl := RelVs.i_nil r | cases r)
                 obtain ⟨us, n, ho, hr⟩ := ha.list ea
                 have hl := hr.length
                 refine wpC.any (PyProof.Rows.len_list (isList_of ho) (by simp; omega) ?_)
                 have : ((us.toArray.size : Nat) : Int) = (xs.length : Int) := by simp [hl]
                 rw [this]
                 exact hQ _ _ _ _ _ h ha .refl (.int _ _)
theorem K_len_tup {xs : List V} {R : V → St → Prop} (hz : xs.length ≤ 1000000) (h : R (.int xs.length) st) :
    TC prog w hB c c.A (.val (.builtin "len")) [.tup xs] fr st E R := by
  intro s Q wf ws ha rf rs hQ
  (first | obtain rfl := RelV.i_val rf | obtain rfl := RelV.i_ref rf | obtain ⟨_, rfl⟩ := RelV.i_int rf | obtain ⟨_, rfl⟩ := RelV.i_str rf | obtain ⟨_, rfl⟩ := RelV.i_bytes rf | obtain rfl := RelV.i_bool rf | obtain rfl := RelVs.i_nil rf | cases rf)
  cases rs with
  | cons r rn =>
    (first | obtain rfl := RelV.i_val rn | obtain rfl := RelV.i_ref rn | obtain ⟨_, rfl⟩ := RelV.i_int rn | obtain ⟨_, rfl⟩ := RelV.i_str rn | obtain ⟨_, rfl⟩ := RelV.i_bytes rn | obtain rfl := RelV.i_bool rn | obtain rfl := RelVs.i_nil rn | cases rn)
    cases r with
    | tup ht hn hr =>
      have hl := hr.length
      refine wpC.any (PyProof.Rows.len_tuple ht (by simp; omega) ?_)
      rename_i us
      have : ((us.toArray.size : Nat) : Int) = (xs.length : Int) := by simp [hl]
      rw [this]
      exact hQ _ _ _ _ _ h ha .refl (.int _ _)
theorem K_len_bytes {b : List UInt8} {R : V → St → Prop} (hz : b.length ≤ 1000000) (h : R (.int b.length) st) :
    TC prog w hB c c.A (.val (.builtin "len")) [.bytes b] fr st E R := by
  intro s Q wf ws ha rf rs hQ
  (first | obtain rfl := RelV.i_val rf | obtain rfl := RelV.i_ref rf | obtain ⟨_, rfl⟩ := RelV.i_int rf | obtain ⟨_, rfl⟩ := RelV.i_str rf | obtain ⟨_, rfl⟩ := RelV.i_bytes rf | obtain rfl := RelV.i_bool rf | obtain rfl := RelVs.i_nil rf | cases rf)
  cases rs with
  | cons r rn => (first | obtain rfl := RelV.i_val rn | obtain rfl := RelV.i_ref rn | obtain ⟨_, rfl⟩ := RelV.i_int rn | obtain ⟨_, rfl⟩ := RelV.i_str rn | obtain ⟨_, rfl⟩ := RelV.i_bytes rn | obtain rfl := RelV.i_bool rn | obtain rfl := RelVs.i_nil rn | cases rn); (first | obtain rfl := RelV.i_val r | obtain rfl := RelV.i_ref r | obtain ⟨_, rfl⟩ := RelV.i_int r | obtain ⟨_, rfl⟩ := RelV.i_str r | obtain ⟨_, rfl⟩ := RelV.i_bytes r | obtain rfl := RelV.i_bool r | obtain rfl := RelVs.i_nil r | cases r)
                 refine wpC.any (len_bytes (by simp; omega) ?_)
                 have : ((b.toArray.size : Nat) : Int) = (b.length : Int) := by simp
                 rw [this]
                 exact hQ _ _ _ _ _ h ha .refl (.int _ _)

theorem K_range {n : Int} {R : V → St → Prop} (h : R (.rng 0 n) st) : TC prog w hB c c.A (.val (.type "range")) [.int n] fr st E R := by
  intro s Q wf ws ha rf rs hQ
  (first | obtain rfl := RelV.i_val rf | obtain rfl := RelV.i_ref rf | obtain ⟨_, rfl⟩ := RelV.i_int rf | obtain ⟨_, rfl⟩ := RelV.i_str rf | obtain ⟨_, rfl⟩ := RelV.i_bytes rf | obtain rfl := RelV.i_bool rf | obtain rfl := RelVs.i_nil rf | cases rf)
  cases rs with
  | cons r rn =>
    (first | obtain rfl := RelV.i_val rn | obtain rfl := RelV.i_ref rn | obtain ⟨_, rfl⟩ := RelV.i_int rn | obtain ⟨_, rfl⟩ := RelV.i_str rn | obtain ⟨_, rfl⟩ := RelV.i_bytes rn | obtain rfl := RelV.i_bool rn | obtain rfl := RelVs.i_nil rn | cases rn); (first | obtain rfl := RelV.i_val r | obtain rfl := RelV.i_ref r | obtain ⟨_, rfl⟩ := RelV.i_int r | obtain ⟨_, rfl⟩ := RelV.i_str r | obtain ⟨_, rfl⟩ := RelV.i_bytes r | obtain rfl := RelV.i_bool r | obtain rfl := RelVs.i_nil r | cases r)
    rename_i t
    refine wpC.any (call_range_1 ?_)
    have := ha.push ({ cls := .type "range", data := .fields #[.int 0 s.toks, .int n t, .int 1 (s.toks + 1)] } : Obj)
    exact hQ (.rng 0 n) _ _ _ _ h this.1 this.2 (.rng (Heap.get?_push_size _ rfl) ha.fresh)

/-- a heap that has grown, a list at its first new place -/
theorem At.grown_list {h h' : Heap} (a : At hB c fr st h) {xs : List V} {ws : List Value} {n : Nat} (hr : RelVs h st xs ws) (hk : ∀ b o, h.get? b = some o → h'.get? b = some o)
    (hD : h'.get? h.objs.size = some (listOf (List.toArray ws) n)) : At hB c fr (st.set h.objs.size (.list xs)) h' ∧ Ext NoX h st h' (st.set h.objs.size (.list xs)) := by
  have k : Ext NoX h st h' (st.set h.objs.size (.list xs)) := by
    refine ⟨fun b x e n _ => ⟨hk _ _ e, ?_⟩⟩
    rw [St.set_ne (Nat.ne_of_lt (Heap.lt_size e))]; exact n
  refine ⟨a.ext ⟨fun b x e => ?_, fun b x e => ?_⟩ k, k⟩
  · have := a.inv.stays b x e
    exact ⟨hk _ _ this.1, by rw [St.set_ne (Nat.ne_of_lt (Heap.lt_size this.1))]; exact this.2⟩
  · unfold St.set at e
    split at e
    · rename_i q; subst q; cases e
      exact ⟨ws, n, hD, hr.tr k.tr⟩
    · exact (a.inv.objs b x e).tr k.tr fun ob e => hk _ _ e
/-- a heap that has grown -/
theorem At.grown {h h' : Heap} (a : At hB c fr st h) (hk : ∀ b o, h.get? b = some o → h'.get? b = some o) : At hB c fr st h' ∧ Ext NoX h st h' st := by
  have k : Ext NoX h st h' st := ⟨fun b x e n _ => ⟨hk _ _ e, n⟩⟩
  exact ⟨a.ext ⟨fun b x e => ⟨hk _ _ (a.inv.stays b x e).1, (a.inv.stays b x e).2⟩, fun b x e => (a.inv.objs b x e).tr k.tr fun ob e => hk _ _ e⟩ k, k⟩

theorem K_list_list {a : Addr} {xs : List V} {R : V → St → Prop} (ea : st a = some (.list xs)) (hz : xs.length ≤ 1000000) (h : ∀ d, st d = none → R (.ref d) (st.set d (.list xs))) :
    TC prog w hB c c.A (.val (.type "list")) [.ref a] fr st E R := by
  intro s Q wf ws ha rf rs hQ
  (first | obtain rfl := RelV.i_val rf | obtain rfl := RelV.i_ref rf | obtain ⟨_, rfl⟩ := RelV.i_int rf | obtain ⟨_, rfl⟩ := RelV.i_str rf | obtain ⟨_, rfl⟩ := RelV.i_bytes rf | obtain rfl := RelV.i_bool rf | obtain rfl := RelVs.i_nil rf | cases rf)
  cases rs with
  | cons r rn =>
    (first | obtain rfl := RelV.i_val rn | obtain rfl := RelV.i_ref rn | obtain ⟨_, rfl⟩ := RelV.i_int rn | obtain ⟨_, rfl⟩ := RelV.i_str rn | obtain ⟨_, rfl⟩ := RelV.i_bytes rn | obtain rfl := RelV.i_bool rn | obtain rfl := RelVs.i_nil rn | cases rn); (first | obtain rfl := RelV.i_val r | obtain rfl := RelV.i_ref r | obtain ⟨_, rfl⟩ := RelV.i_int r | obtain ⟨_, rfl⟩ := RelV.i_str r | obtain ⟨_, rfl⟩ := RelV.i_bytes r | obtain rfl := RelV.i_bool r | obtain rfl := RelVs.i_nil r | cases r)
    obtain ⟨us, n, ho, hr⟩ := ha.list ea
    have hl := hr.length
    refine wpC.any (call_list_seq (hsz := by have := sizeLine_ge; simp; omega) a (.inl rfl) ho rfl rfl fun h' c' hk hD => ?_)
    have := ha.grown_list (xs := xs) (ws := us) (n := c') hr hk hD
    exact hQ _ _ _ _ s.toks (h _ ha.fresh) this.1 this.2 (.ref _)
end
end Mine
end
section
open PySem PySem.W PyProof.Rows
namespace Mine

def NoE : EE := fun _ _ => False
theorem noE {s s' : Shared} {e : Value} {E : EE} (x : EX s NoE e s') : EX s E e s' := by obtain ⟨_, _, _, f⟩ := x; exact f.elim

section
variable {prog : Program} {w : World} {hB : Heap} {c : Cx} {fr : Vars} {st : St} {E : EE}

theorem TE.noE {e : Expr} {R : V → St → Prop} (h : TE prog w hB c e fr st NoE R) : TE prog w hB c e fr st E R := fun s Q ha hQ => wpC_mono (h s Q ha hQ) (fun _ _ x => x) fun _ _ x => Mine.noE x
theorem TC.noE {A : Around} {f : V} {vs : List V} {R : V → St → Prop} (h : TC prog w hB c A f vs fr st NoE R) : TC prog w hB c A f vs fr st E R := fun s Q wf ws ha rf rs hQ => wpC_mono (h s Q wf ws ha rf rs hQ) (fun _ _ x => x) fun _ _ x => Mine.noE x
theorem TE.mono {e : Expr} {R R' : V → St → Prop} (h : TE prog w hB c e fr st E R) (k : ∀ v st', R v st' → R' v st') : TE prog w hB c e fr st E R' :=
  fun s Q ha hQ => h s Q ha fun v st' u h' tk' r => hQ v st' u h' tk' (k _ _ r)
theorem TB.mono {e : Expr} {R R' : Bool → St → Prop} (h : TB prog w hB c e fr st E R) (k : ∀ v st', R v st' → R' v st') : TB prog w hB c e fr st E R' :=
  fun s Q ha hQ => h s Q ha fun v st' h' tk' r => hQ v st' h' tk' (k _ _ r)
theorem TC.mono {A : Around} {f : V} {vs : List V} {R R' : V → St → Prop} (h : TC prog w hB c A f vs fr st E R) (k : ∀ v st', R v st' → R' v st') : TC prog w hB c A f vs fr st E R' :=
  fun s Q wf ws ha rf rs hQ => h s Q wf ws ha rf rs fun v st' u h' tk' r => hQ v st' u h' tk' (k _ _ r)
theorem TS.mono {xs : List Stmt} {R R' : Fl → Vars → St → Prop} (h : TS prog w hB c xs fr st E R) (k : ∀ f fr' st', R f fr' st' → R' f fr' st') : TS prog w hB c xs fr st E R' :=
  fun s Q ha hQ => h s Q ha fun f fr' st' u h' tk' r => hQ f fr' st' u h' tk' (k _ _ _ r)
theorem T1.mono {x : Stmt} {R R' : Fl → Vars → St → Prop} (h : T1 prog w hB c x fr st E R) (k : ∀ f fr' st', R f fr' st' → R' f fr' st') : T1 prog w hB c x fr st E R' :=
  fun s Q ha hQ => h s Q ha fun f fr' st' u h' tk' r => hQ f fr' st' u h' tk' (k _ _ _ r)

/-- an exception that leaves a loop's turn -/
def PassE (prog : Program) (w : World) (c : Cx) (E : EE) : Prop :=
  ∀ (s : Shared) (e : Value), E e s.heap → notedC (model prog w) c.A c.env (cameC (model prog w) c.A c.env (EX s E)) e s
theorem PassE.never : PassE prog w c NoE := fun _ _ f => f.elim

/-- one object that is no part of a value is turned, and objects are laid -/
theorem At.hidden {h h' : Heap} {it : Addr} {ob : Obj} (a : At hB c fr st h) (hn : st it = none) (ho : it ∉ c.own) (hb : hB.get? it = none) (hc : ∀ x ∈ c.env.cells, x.2 ≠ it) (hi : h.get? it = some ob) (him : imm ob = false)
    (hk : ∀ b o, b ≠ it → h.get? b = some o → h'.get? b = some o) : At hB c fr st h' ∧ Ext (· = it) h st h' st ∧ Tr h st h' st := by
  have T : Tr h st h' st := fun b o e n d => ⟨hk b o (fun q => by subst q; rw [hi] at e; cases e; rw [him] at d; cases d) e, n⟩
  refine ⟨⟨⟨fun b o e => ?_, fun b o e => ?_⟩, ?_⟩, ⟨fun b o e n hx => ⟨hk b o hx e, n⟩⟩, T⟩
  · have := a.inv.stays b o e
    exact ⟨hk b o (fun q => by rw [q, hb] at e; cases e) this.1, this.2⟩
  · exact (a.inv.objs b o e).tr T fun ob' e' => hk b ob' (fun q => by rw [q, hn] at e; cases e) e'
  · have hl : c.env.locals ≠ it := fun q => ho (q ▸ a.frm.loc)
    obtain ⟨m, hm, hv⟩ := a.frm.vars
    refine { a.frm with own := fun b hb' => ?_, free := fun y hy => ?_, vars := ⟨m, hm.at' fun o e => hk _ _ hl e, fun y u e => ?_⟩ }
    · obtain ⟨n, g, o, ho', hd⟩ := a.frm.own b hb'
      exact ⟨n, g, o, hk b o (fun q => ho (q ▸ hb')) ho', hd⟩
    · obtain ⟨n, ne, ov, oc, hoc, hdc⟩ := a.frm.free y hy
      exact ⟨n, ne, ov, oc, hk _ _ (hc y hy) hoc, hdc⟩
    · obtain ⟨u', h1, h2⟩ := hv y u e
      refine ⟨u', h1.tr T, ?_⟩
      rcases h2 with h2 | ⟨k1, cA, k2, oc, hoc, hdc⟩
      · exact .inl h2
      · exact .inr ⟨k1, cA, k2, oc, hk _ _ (hc _ (lookup_mem k2)) hoc, hdc⟩

/-- what a loop asks of the value that it goes over -/
structure Iterates (prog : Program) (w : World) (hB : Heap) (A : Around) (target : Expr) (v : V) (items : List V) (P : Nat → Obj → Prop) (pre : St → Prop) : Prop where
  imm : ∀ i o, P i o → imm o = false
  next : ∀ i it st (s : Shared) (Q : Option Value → Shared → Prop) (E : Value → Shared → Prop) o, Inv hB s.heap st → pre st → s.heap.get? it = some o → P i o →
    (∀ v u o' h' tk', items[i]? = some v → h'.get? it = some o' → P (i + 1) o' → (∀ b o, b ≠ it → s.heap.get? b = some o → h'.get? b = some o) → RelV s.heap st v u → Q (some u) { s with heap := h', toks := tk' }) →
    (∀ h' tk', items[i]? = none → (∀ b o, b ≠ it → s.heap.get? b = some o → h'.get? b = some o) → Q none { s with heap := h', toks := tk' }) →
    wpAny (model prog w) A (pyNext (.ref it)) Q E s
  start : ∀ st (s : Shared) (Q : Value → Shared → Prop) (E : Value → Shared → Prop) wv, Inv hB s.heap st → pre st → RelV s.heap st v wv →
    (∀ o h' tk', h'.get? s.heap.objs.size = some o → P 0 o → (∀ b o, s.heap.get? b = some o → h'.get? b = some o) → Q (.ref s.heap.objs.size) { s with heap := h', toks := tk' }) →
    wpAny (model prog w) A (pyIter wv) Q E s
  again : ∀ i it (s : Shared) (Q : Value → Shared → Prop) (E : Value → Shared → Prop) o, s.heap.get? it = some o → P i o → Q (.ref it) s → wpAny (model prog w) A (pyIter (.ref it)) Q E s
  go : ∀ i it (s : Shared) (Q : Unit → Shared → Prop) (E : Value → Shared → Prop) o u, s.heap.get? it = some o → P i o → (∀ o' h', h'.get? it = some o' → P i o' → (∀ b o, b ≠ it → s.heap.get? b = some o → h'.get? b = some o) → Q () { s with heap := h' }) →
    wpAny (model prog w) A (letOwnedTupleGo target (.ref it) u) Q E s

theorem get_none_size (h : Heap) : h.get? h.objs.size = none := by
  cases e : h.get? h.objs.size with
  | none => rfl
  | some o => exact absurd (Heap.lt_size e) (Nat.lt_irrefl _)

theorem it_list {x : Str} {px : Pos} {l : Addr} {items : List V} (hh : c.A.handled = none) :
    Iterates prog w hB c.A (.Name x px) (.ref l) items (fun i o => o.cls = .type "list_iterator" ∧ o.data = .fields #[.ref l, .int i 0]) (fun st => st l = some (.list items)) where
  imm := fun i o h => by unfold Mine.imm; rw [h.1, h.2]; rfl
  next := by
    intro i it st s Q E o ha hpre ho hP hs hn
    obtain ⟨ws, n, hl, hr⟩ := ha.objs _ _ hpre
    have hL := isList_of hl
    have hit : s.heap.IsListIter it l i := ⟨o, ho, hP.1, hP.2⟩
    cases hv : items[i]? with
    | none =>
      have hw : ws.toArray[i]? = none := by
        have := List.getElem?_eq_none_iff.mp hv
        have := hr.length
        simp; omega
      exact wpAny_pyNext_list_end hh hit hL hw fun h' hk => hn h' s.toks hv hk
    | some v =>
      obtain ⟨u, hu, hru⟩ := hr.get i hv
      refine wpAny_pyNext_list_item hit hL (by simpa using hu) fun h' hit' hs' => ?_
      obtain ⟨o', ho', hP'⟩ := hit'
      exact hs v u o' h' s.toks hv ho' hP' (fun b o hb e => (hs'.2 b hb).trans e) hru
  start := by
    intro st s Q E wv ha hpre hr hQ
    (first | obtain rfl := RelV.i_val hr | obtain rfl := RelV.i_ref hr | obtain ⟨_, rfl⟩ := RelV.i_int hr | obtain ⟨_, rfl⟩ := RelV.i_str hr | obtain ⟨_, rfl⟩ := RelV.i_bytes hr | obtain rfl := RelV.i_bool hr | obtain rfl := RelVs.i_nil hr | cases hr)
    obtain ⟨ws, n, hl, hr⟩ := ha.objs _ _ hpre
    exact wpAny_pyIter_list (isList_of hl) (hQ _ _ s.toks (Heap.get?_push_size _ rfl) ⟨rfl, rfl⟩ fun b o e => Heap.get?_push_of_some _ e)
  again := by
    intro i it s Q E o ho hP hQ
    exact wpAny_pyIter_listiter (l := l) (i := i) ⟨o, ho, hP.1, hP.2⟩ hQ
  go := fun _ _ s Q E o _ ho hP hQ => by
    have := hQ o s.heap ho hP (fun _ _ _ e => e)
    exact wpAny_pure this

theorem it_bytes {x : Str} {px : Pos} {b : List UInt8} (hh : c.A.handled = none) :
    Iterates prog w hB c.A (.Name x px) (.bytes b) (b.map fun x => V.int x.toNat) (fun i o => ∃ t, o.cls = .type "bytes_iterator" ∧ o.data = .fields #[.bytes b.toArray t, .int i 0]) (fun _ => True) where
  imm := fun i o h => by obtain ⟨t, h⟩ := h; unfold Mine.imm; rw [h.1, h.2]; rfl
  next := by
    intro i it st s Q E o ha hpre ho hP hs hn
    obtain ⟨t, hP⟩ := hP
    have hit : KBw.IsBytesIter s.heap it b.toArray t i := ⟨o, ho, hP.1, hP.2⟩
    cases hv : b[i]? with
    | none => exact KBw.next_end hh hit (by simpa using hv) fun h' hk => hn h' s.toks (by simp [hv]) hk
    | some v =>
      refine KBw.next_item hit (c := v) (by simpa using hv) fun h' hit' hs' => ?_
      obtain ⟨o', ho', hP'⟩ := hit'
      exact hs (.int v.toNat) _ o' h' (s.toks + 1) (by simp [hv]) ho' ⟨t, hP'⟩ (fun b o hb e => (hs'.2 b hb).trans e) (.int _ _)
  start := by
    intro st s Q E wv ha hpre hr hQ
    (first | obtain rfl := RelV.i_val hr | obtain rfl := RelV.i_ref hr | obtain ⟨_, rfl⟩ := RelV.i_int hr | obtain ⟨_, rfl⟩ := RelV.i_str hr | obtain ⟨_, rfl⟩ := RelV.i_bytes hr | obtain rfl := RelV.i_bool hr | obtain rfl := RelVs.i_nil hr | cases hr)
    exact KBw.pyIter_bytes (hQ _ _ s.toks (Heap.get?_push_size _ rfl) ⟨_, rfl, rfl⟩ fun b o e => Heap.get?_push_of_some _ e)
  again := by
    intro i it s Q E o ho hP hQ
    obtain ⟨t, hP⟩ := hP
    exact KBw.pyIter_self (b := b.toArray) (t := t) (i := i) ⟨o, ho, hP.1, hP.2⟩ hQ
  go := fun _ _ s Q E o _ ho hP hQ => by
    have := hQ o s.heap ho hP (fun _ _ _ e => e)
    exact wpAny_pure this

def rngItems (n : Nat) : List V := (List.range n).map fun (k : Nat) => V.int (k : Int)
theorem rngItems_get (n i : Nat) : (rngItems n)[i]? = if i < n then some (.int (i : Int)) else none := by
  unfold rngItems
  by_cases h : i < n
  · simp [h]
  · simp [h]
theorem rngItems_len (n : Nat) : (rngItems n).length = n := by simp [rngItems]
theorem small_of {n : Nat} (h : n ≤ 1000000) : Builtin.Range.small 0 n 1 = true := by
  have hs : Builtin.Range.rangeSize 0 n 1 = n := by
    unfold Builtin.Range.rangeSize
    simp; omega
  have f : ∀ k : Int, -1 ≤ k → k ≤ 1000001 → Builtin.Range.rangeFitsLong k = true := by
    intro k h1 h2
    unfold Builtin.Range.rangeFitsLong
    simp
    omega
  unfold Builtin.Range.small
  rw [hs]
  have a1 := f 0 (by omega) (by omega)
  have a2 := f n (by omega) (by omega)
  have a3 := f 1 (by omega) (by omega)
  simp only [a1, a2, a3]
  simp
  right
  exact a2
theorem rangeSize_nat (n : Nat) : Builtin.Range.rangeSize 0 n 1 = n := by
  unfold Builtin.Range.rangeSize
  simp; omega

theorem it_range {x : Str} {px : Pos} {n : Nat} (hh : c.A.handled = none) (hz : n ≤ 1000000) :
    Iterates prog w hB c.A (.Name x px) (.rng 0 n) (rngItems n) (fun i o => o = { cls := .type "range_iterator", dict := none, data := .fields #[rawInt (i : Int), rawInt ((n : Int) - i), rawInt 1], slots := #[] }) (fun _ => True) where
  imm := fun i o h => by subst h; rfl
  next := by
    intro i it st s Q E o ha hpre ho hP hs hn
    subst hP
    have hit : IsRangeIter s.heap it i ((n : Int) - i) 1 := ho
    by_cases hi : i < n
    · refine wpAny_pyNext_range_item hit (by omega) fun h' hit' hs' => ?_
      refine hs (.int i) _ _ h' (s.toks + 1) (by rw [rngItems_get, if_pos hi]) hit' ?_ (fun b o hb e => (hs'.2 b hb).trans e) (.int _ _)
      have e1 : ((i : Int) + 1) = ((i + 1 : Nat) : Int) := by omega
      have e2 : ((n : Int) - i - 1) = (n : Int) - ((i + 1 : Nat) : Int) := by omega
      rw [e2, e1]
    · exact wpAny_pyNext_range_end hh hit (by omega) fun h' hk => hn h' s.toks (by rw [rngItems_get, if_neg hi]) hk
  start := by
    intro st s Q E wv ha hpre hr hQ
    cases hr with
    | rng hr hn =>
      refine wpAny_pyIter_range hr (small_of hz) ?_
      refine hQ _ _ s.toks (Heap.get?_push_size _ rfl) ?_ fun b o e => Heap.get?_push_of_some _ e
      rw [rangeSize_nat]
      simp
  again := by
    intro i it s Q E o ho hP hQ
    subst hP
    exact wpAny_pyIter_rangeiter ho hQ
  go := fun _ _ s Q E o _ ho hP hQ => by
    have := hQ o s.heap ho hP (fun _ _ _ e => e)
    exact wpAny_pure this

theorem cAssign {x : Str} {px : Pos} {u : Value} {M : Model} {E' : Value → Shared → Prop} {s : Shared} {Q : Unit → Shared → Prop} (h : wpC M c.A (storeName c.env x u) Q E' s) : wpC M c.A (assign (.Name x px) c.env u) Q E' s := by
  rw [PySem.assign_Name]
  exact wpC_bind (wpC_standAt (cBind h))

/-- what is asked of a loop over a value -/
inductive ForOK (prog : Program) (w : World) (hB : Heap) (c : Cx) (x : Str) (px : Pos) (body : List Stmt) (fr : Vars) (E : EE) (R : Fl → Vars → St → Prop) (v : V) (st1 : St) : Prop
  | mk (items : List V) (P : Nat → Obj → Prop) (pre : St → Prop) (hI : Iterates prog w hB c.A (.Name x px) v items P pre) (J : Nat → Vars → St → Prop) (h0 : J 0 fr st1) (hpre : ∀ i fr st, J i fr st → pre st)
      (hturn : ∀ i fr st v, i < items.length → J i fr st → items[i]? = some v → TS prog w hB c body (setVar fr x v) st E fun f fr3 st3 => match f with
        | .next => J (i + 1) fr3 st3 | .cont => J (i + 1) fr3 st3 | .brk => R .next fr3 st3 | .ret r => R (.ret r) fr3 st3)
      (hend : ∀ fr st, J items.length fr st → R .next fr st)
theorem T1_for {x : Str} {px : Pos} {iter : Expr} {body : List Stmt} {pos : Pos} {R : Fl → Vars → St → Prop} (hE : PassE prog w c E) (hx : CanStore c x)
    (h : TE prog w hB c iter fr st E fun v st1 => ForOK prog w hB c x px body fr E R v st1)
    (hs : ∀ x, foldedSetIterable iter c.env x = pure x := by intro _; rfl) : T1 prog w hB c (.For (.Name x px) iter body [] pos) fr st E R := by
  intro s Q ha hQ
  refine cFor (h s _ ha fun v st1 u h1 tk1 hR a1 e1 r1 => ?_) hs
  obtain ⟨items, P, pre, hI, J, hJ0, hpre, hturn, hend⟩ := hR
  refine wpC.any (hI.start st1 { s with heap := h1, toks := tk1 } _ _ u a1.inv (hpre _ _ _ hJ0) r1 fun o h2 tk2 ho hP hk => ?_)
  dsimp only at ho hk ⊢
  have g1 := a1.grown hk
  have hit : h1.get? h1.objs.size = none := get_none_size h1
  have hits : s.heap.get? h1.objs.size = none ∨ st h1.objs.size ≠ none ∨ h1.objs.size ∈ c.own := by
    cases e : s.heap.get? h1.objs.size with
    | none => exact .inl rfl
    | some o =>
      by_cases hn : st h1.objs.size = none
      · have := (e1.keep _ o e hn (fun f => f)).1
        rw [hit] at this; cases this
      · exact .inr (.inl hn)
  have hown : h1.objs.size ∉ c.own := fun hm => by
    obtain ⟨_, _, o, ho', _⟩ := a1.frm.own _ hm
    rw [hit] at ho'; cases ho'
  have hB0 : hB.get? h1.objs.size = none := by
    cases e : hB.get? h1.objs.size with
    | none => rfl
    | some o => have := (a1.inv.stays _ o e).1; rw [hit] at this; cases this
  have hcl : ∀ y ∈ c.env.cells, y.2 ≠ h1.objs.size := fun y hy q => by
    obtain ⟨_, _, ov, oc, hoc, _⟩ := a1.frm.free y hy
    rw [q, hit] at hoc; cases hoc
  generalize h1.objs.size = it at *
  have hn1 : st1 it = none := by
    cases e : st1 it with
    | none => rfl
    | some o =>
      have x := a1.inv.objs _ _ e
      cases o with
      | list xs => obtain ⟨ws, n, ho, hr⟩ := x; rw [hit] at ho; cases ho
      | barr bs => rw [show h1.get? it = _ from x] at hit; cases hit
      | inst C dx => rw [show h1.get? it = _ from x] at hit; cases hit
      | dct es => obtain ⟨es', n, ho, hr⟩ := x; rw [hit] at ho; cases ho
      | obj ob => rw [show h1.get? it = _ from x] at hit; cases hit
  obtain ⟨II, hII⟩ : ∃ II : Nat → Shared → Prop, ∀ n s', II n s' ↔ ∃ i fr' st' h' tk' o', s' = { s with heap := h', toks := tk' } ∧ J i fr' st' ∧ i ≤ items.length ∧ n = items.length - i ∧ At hB c fr' st' h' ∧
    Ext (· ∈ c.own) s.heap st h' st' ∧ st' it = none ∧ h'.get? it = some o' ∧ P i o' := ⟨_, fun _ _ => Iff.rfl⟩
  refine codeC_forLoop II ?_ items.length ((hII _ _).mpr ⟨0, fr, st1, h2, tk2, o, rfl, hJ0, Nat.zero_le _, rfl, g1.1, (e1.trans g1.2).weaken, hn1, ho, hP⟩)
  rintro n _ hn
  refine e6 ((hII _ _).mp hn) fun i fr' st' h' tk' o' hh => a9 hh fun q1 hJ hle q2 a' e' hn' ho' hP' => ?_
  clear hh hn
  subst q1 q2
  have passE : ∀ {h'' : Heap} {tk''} (e : Value) (s' : Shared), EX { s with heap := h'', toks := tk'' } E e s' → notedC (model prog w) c.A c.env (cameC (model prog w) c.A c.env (EX s E)) e s' := by
    rintro h'' tk'' e _ ⟨h5, tk5, rfl, he⟩
    exact hE { s with heap := h5, toks := tk5 } e he
  have cmp : ∀ {h3 : Heap}, Ext (· = it) h' st' h3 st' → Ext (· ∈ c.own) s.heap st h3 st' := fun {h3} k => ⟨fun b o q n hb => by
    have := e'.keep b o q n hb
    refine k.keep b o this.1 this.2 fun z => ?_
    subst z
    rcases hits with x | x | x
    · rw [x] at q; cases q
    · exact x n
    · exact hb x⟩
  refine wpC.any (hI.next i it st' _ _ _ o' a'.inv (hpre _ _ _ hJ) ho' hP' ?_ ?_)
  · intro v u o2 h3 tk3 hv ho2 hP2 hsb r3
    dsimp only at hsb r3 ⊢
    have hlt : i < items.length := (List.getElem?_eq_some_iff.mp hv).1
    have a3 := a'.hidden hn' hown hB0 hcl ho' (hI.imm _ _ hP') hsb
    refine cAssign (wpC.any (storeName_any (s := { s with heap := h3, toks := tk3 }) a3.1 (r3.tr a3.2.2) hx fun h4 tk4 a4 e4 => ?_))
    refine wpC_mono (hturn i fr' st' v hlt hJ hv { s with heap := h4, toks := tk4 } (fun f s₃ => match f with
          | .next | .cont => ∃ m, m < items.length - i ∧ II m s₃
          | .brk => Q .next s₃
          | .ret v => Q (.ret v) s₃) a4 fun f fr5 st5 u5 h5 tk5 hR5 a5 e5 r5 => ?_) (fun f s3 h3 => ?_) (fun e s' x => passE e s' x)
    · have k4 := e4.keep it o2 ho2 hn' hown
      have k5 := e5.keep it o2 k4.1 k4.2 hown
      have ee := ((cmp a3.2.1).trans e4).trans e5
      cases r5 with
      | next => exact ⟨items.length - (i + 1), Nat.sub_succ_lt_self _ _ hlt, (hII _ _).mpr ⟨i + 1, fr5, st5, h5, tk5, o2, rfl, hR5, hlt, rfl, a5, ee, k5.2, k5.1, hP2⟩⟩
      | cont => exact ⟨items.length - (i + 1), Nat.sub_succ_lt_self _ _ hlt, (hII _ _).mpr ⟨i + 1, fr5, st5, h5, tk5, o2, rfl, hR5, hlt, rfl, a5, ee, k5.2, k5.1, hP2⟩⟩
      | brk => exact hQ _ _ _ _ _ _ hR5 a5 ee .next
      | ret r => exact hQ _ _ _ _ _ _ hR5 a5 ee (.ret r)
    · cases f <;> exact h3
  · intro h3 tk3 hv hsb
    dsimp only at hsb ⊢
    have hge : items.length ≤ i := List.getElem?_eq_none_iff.mp hv
    obtain rfl : i = items.length := by omega
    have a3 := a'.hidden hn' hown hB0 hcl ho' (hI.imm _ _ hP') hsb
    exact hQ _ _ _ _ _ _ (hend _ _ hJ) a3.1 (cmp a3.2.1) .next

theorem T1_while {test : Expr} {body : List Stmt} {pos : Pos} {R : Fl → Vars → St → Prop} (hE : PassE prog w c E) (J : Nat → Vars → St → Prop) (n : Nat) (h0 : J n fr st)
    (h : ∀ n fr st, J n fr st → TB prog w hB c test fr st E fun b st1 => if b then TS prog w hB c body fr st1 E (fun f fr3 st3 => match f with
        | .next => ∃ m, m < n ∧ J m fr3 st3 | .cont => ∃ m, m < n ∧ J m fr3 st3 | .brk => R .next fr3 st3 | .ret r => R (.ret r) fr3 st3) else R .next fr st1) : T1 prog w hB c (.While test body [] pos) fr st E R := by
  intro s Q ha hQ
  refine cWhile ?_
  obtain ⟨II, hII⟩ : ∃ II : Nat → Shared → Prop, ∀ n s', II n s' ↔ ∃ fr' st' h' tk', s' = { s with heap := h', toks := tk' } ∧ J n fr' st' ∧ At hB c fr' st' h' ∧ Ext (· ∈ c.own) s.heap st h' st' := ⟨_, fun _ _ => Iff.rfl⟩
  refine codeC_whileLoop II ?_ n ((hII _ _).mpr ⟨fr, st, s.heap, s.toks, rfl, h0, ha, .refl⟩)
  rintro n _ hn
  obtain ⟨fr', st', h', tk', rfl, hJ, a', e'⟩ := (hII _ _).mp hn
  have passE : ∀ {h'' : Heap} {tk''} (e : Value) (s' : Shared), EX { s with heap := h'', toks := tk'' } E e s' → notedC (model prog w) c.A c.env (cameC (model prog w) c.A c.env (EX s E)) e s' := by
    rintro h'' tk'' e _ ⟨h5, tk5, rfl, he⟩
    exact hE { s with heap := h5, toks := tk5 } e he
  refine wpC_mono (h n fr' st' hJ { s with heap := h', toks := tk' } (fun b s₂ =>
        if b then wpC (model prog w) c.A (execs body c.env) (fun f s₃ => match f with
            | .next | .cont => ∃ m, m < n ∧ II m s₃
            | .brk => Q .next s₃
            | .ret v => Q (.ret v) s₃) (notedC (model prog w) c.A c.env (cameC (model prog w) c.A c.env (EX s E))) s₂
        else Q .next s₂) a' fun b st1 h1 tk1 hR a1 e1 => ?_) (fun b s3 h3 => ?_) (fun e s' x => passE e s' x)
  · cases b with
    | false => exact hQ _ _ _ _ _ _ hR a1 (e'.trans e1.weaken) .next
    | true =>
      simp only [if_true] at hR ⊢
      refine wpC_mono (hR { s with heap := h1, toks := tk1 } (fun f s₃ => match f with
            | .next | .cont => ∃ m, m < n ∧ II m s₃
            | .brk => Q .next s₃
            | .ret v => Q (.ret v) s₃) a1 fun f fr5 st5 u5 h5 tk5 hR5 a5 e5 r5 => ?_) (fun _ _ x => x) (fun e s' x => passE e s' x)
      have ee := (e'.trans e1.weaken).trans e5
      cases r5 with
      | next => obtain ⟨m, hm, hj⟩ := hR5; exact ⟨m, hm, (hII _ _).mpr ⟨fr5, st5, h5, tk5, rfl, hj, a5, ee⟩⟩
      | cont => obtain ⟨m, hm, hj⟩ := hR5; exact ⟨m, hm, (hII _ _).mpr ⟨fr5, st5, h5, tk5, rfl, hj, a5, ee⟩⟩
      | brk => exact hQ _ _ _ _ _ _ hR5 a5 ee .next
      | ret r => exact hQ _ _ _ _ _ _ hR5 a5 ee (.ret r)
  · cases b with
    | false => exact h3
    | true =>
      simp only [if_true] at h3 ⊢
      exact wpC_mono h3 (fun f s h => by cases f <;> exact h) fun _ _ x => x
end
end Mine
end
section
open PySem PySem.W PyProof.Rows PySem.Calls
namespace Mine

theorem lookup_zip {α : Type} : ∀ {names : List Str} {vs : List α} {x : Str} {v : α}, (names.zip vs).lookup x = some v → x ∈ names
  | [], _, _, _, h => by simp at h
  | _ :: _, [], _, _, h => by simp at h
  | n :: ns, u :: us, x, v, h => by
    rw [List.zip_cons_cons, List.lookup_cons] at h
    cases hb : x == n with
    | true => rw [beq_iff_eq.mp hb]; exact List.mem_cons_self
    | false => rw [hb] at h; exact List.mem_cons_of_mem _ (lookup_zip h)

theorem zip_rel {h : Heap} {st : St} : ∀ {names : List Str} {vs : List V} {ws : List Value} {x : Str} {v : V}, RelVs h st vs ws → (names.zip vs).lookup x = some v → ∃ w, (names.zip ws).lookup x = some w ∧ RelV h st v w
  | [], _, _, _, _, _, e => by simp at e
  | _ :: _, [], _, _, _, _, e => by simp at e
  | n :: ns, _, _, x, v, .cons (v := u) (w := y) r rs, e => by
    rw [List.zip_cons_cons, List.lookup_cons] at e ⊢
    cases hb : x == n with
    | true => rw [hb] at e; cases e; exact ⟨_, rfl, r⟩
    | false => rw [hb] at e; exact zip_rel rs e

theorem bindL_off {kindOf : Str → Option NameKind} {x : Str} : ∀ {binds : List (Str × Value)} {m : Str → Option Value}, x ∉ binds.map (·.1) → bindL kindOf binds m x = m x
  | [], _, _ => rfl
  | (n, v) :: r, m, h => by
    simp only [List.map_cons, List.mem_cons, not_or] at h
    unfold bindL
    rw [bindL_off h.2]
    split
    · simp [h.1]
    · rfl
theorem bindC_off {kindOf : Str → Option NameKind} {x : Str} : ∀ {binds : List (Str × Value)} {m : Str → Option Value}, x ∉ binds.map (·.1) → bindC kindOf binds m x = m x
  | [], _, _ => rfl
  | (n, v) :: r, m, h => by
    simp only [List.map_cons, List.mem_cons, not_or] at h
    unfold bindC
    rw [bindC_off h.2]
    split
    · rfl
    · simp [h.1]
theorem bindL_at {kindOf : Str → Option NameKind} {x : Str} {u : Value} (hk : kindOf x = some .local) : ∀ {binds : List (Str × Value)} {m : Str → Option Value}, (binds.map (·.1)).Nodup → binds.lookup x = some u → bindL kindOf binds m x = some u
  | [], _, _, e => by simp at e
  | (n, v) :: r, m, nd, e => by
    rw [List.map_cons, List.nodup_cons] at nd
    rw [List.lookup_cons] at e
    unfold bindL
    cases hb : x == n with
    | true =>
      rw [hb] at e; cases e
      have := beq_iff_eq.mp hb
      subst this
      rw [bindL_off nd.1]
      simp [hk]
    | false => rw [hb] at e; exact bindL_at hk nd.2 e
theorem bindC_at {kindOf : Str → Option NameKind} {x : Str} {u : Value} (hk : kindOf x ≠ some .local) : ∀ {binds : List (Str × Value)} {m : Str → Option Value}, (binds.map (·.1)).Nodup → binds.lookup x = some u → bindC kindOf binds m x = some u
  | [], _, _, e => by simp at e
  | (n, v) :: r, m, nd, e => by
    rw [List.map_cons, List.nodup_cons] at nd
    rw [List.lookup_cons] at e
    unfold bindC
    cases hb : x == n with
    | true =>
      rw [hb] at e; cases e
      have := beq_iff_eq.mp hb
      subst this
      rw [bindC_off nd.1]
      simp [hk]
    | false => rw [hb] at e; exact bindC_at hk nd.2 e

theorem zip_names {α : Type} : ∀ {names : List Str} {vs : List α}, names.length = vs.length → (names.zip vs).map (·.1) = names
  | [], _, _ => by simp
  | _ :: _, [], h => by simp at h
  | n :: ns, _ :: vs, h => by simp [zip_names (names := ns) (vs := vs) (by simpa using h)]

abbrev CxOf (A : Around) (qual : Str) (scope : Scope) (f : Addr) (cdv : Value) (L : Addr) : Cx :=
  ⟨envX qual scope L f cdv (cellsFrom (L + 1) scope.names []), A.deeper (envX qual scope L f cdv (cellsFrom (L + 1) scope.names [])), L :: (cellsFrom (L + 1) scope.names []).map (·.2)⟩

section
variable {prog : Program} {w : World} {hB : Heap} {c : Cx} {fr : Vars} {st : St} {E : EE} {K : Frag}

theorem st_none {h : Heap} (a : At hB c fr st h) {b : Addr} (e : h.get? b = none) : st b = none := by
  cases q : st b with
  | none => rfl
  | some o =>
    have x := a.inv.objs _ _ q
    cases o with
    | list xs => obtain ⟨ws, n, ho, hr⟩ := x; rw [e] at ho; cases ho
    | barr bs => rw [show h.get? b = _ from x] at e; cases e
    | inst C dx => rw [show h.get? b = _ from x] at e; cases e
    | dct es => obtain ⟨es', n, ho, hr⟩ := x; rw [e] at ho; cases ho
    | obj ob => rw [show h.get? b = _ from x] at e; cases e
theorem hB_none {h : Heap} (a : At hB c fr st h) {b : Addr} (e : h.get? b = none) : hB.get? b = none := by
  cases q : hB.get? b with
  | none => rfl
  | some o => have := (a.inv.stays _ o q).1; rw [e] at this; cases this
theorem none_ge {h : Heap} {b : Addr} (e : h.objs.size ≤ b) : h.get? b = none := by
  cases q : h.get? b with
  | none => rfl
  | some o => exact absurd (Heap.lt_size q) (Nat.not_lt.mpr e)

/-! lists of so many parts -/
theorem len0 {P : List Value → Prop} (h : P []) (l : List Value) (e : l.length = 0) : P l := by
  rw [List.eq_nil_of_length_eq_zero e]; exact h
theorem lenS {n : Nat} {P : List Value → Prop} (h : ∀ x l, l.length = n → P (x :: l)) (l : List Value) (e : l.length = n + 1) : P l := by
  cases l with
  | nil => cases e
  | cons x l => exact h x l (Nat.succ.inj e)
theorem len1 {P : List Value → Prop} (h : ∀ a, P [a]) (l : List Value) (e : l.length = 1) : P l := lenS (fun x l e => len0 (P := fun l => P (x :: l)) (h x) l e) l e
theorem len2 {P : List Value → Prop} (h : ∀ a b, P [a, b]) (l : List Value) (e : l.length = 2) : P l := lenS (fun x l e => len1 (P := fun l => P (x :: l)) (h x) l e) l e
theorem len3 {P : List Value → Prop} (h : ∀ a b d, P [a, b, d]) (l : List Value) (e : l.length = 3) : P l := lenS (fun x l e => len2 (P := fun l => P (x :: l)) (h x) l e) l e
theorem len4 {P : List Value → Prop} (h : ∀ a b d e, P [a, b, d, e]) (l : List Value) (e : l.length = 4) : P l := lenS (fun x l e => len3 (P := fun l => P (x :: l)) (h x) l e) l e
theorem len5 {P : List Value → Prop} (h : ∀ a b d e f, P [a, b, d, e, f]) (l : List Value) (e : l.length = 5) : P l := lenS (fun x l e => len4 (P := fun l => P (x :: l)) (h x) l e) l e
theorem len6 {P : List Value → Prop} (h : ∀ a b d e f g, P [a, b, d, e, f, g]) (l : List Value) (e : l.length = 6) : P l := lenS (fun x l e => len5 (P := fun l => P (x :: l)) (h x) l e) l e
/-- what a call leaves in its caller's frame when an exception flies through it -/
def LeaveE (prog : Program) (w : World) (c' : Cx) (E' E : EE) : Prop :=
  ∀ (s : Shared) (e : Value), E' e s.heap → wpC (model prog w) c'.A (leaving c'.env e) (fun _ s'' => EX s E e s'') (fun e' s'' => EX s E e' s'') s

/-- a call, as the code that it is -/
def TCd (prog : Program) (w : World) (hB : Heap) (c : Cx) (A : Around) (f : V) (args : List V) (fr : Vars) (st : St) (E : EE) (R : V → St → Prop) : Prop :=
  ∀ (s : Shared) (Q : Value → Shared → Prop) wf ws, At hB c fr st s.heap → RelV s.heap st f wf → RelVs s.heap st args ws →
    (∀ v st' u h' tk', R v st' → At hB c fr st' h' → Ext NoX s.heap st h' st' → RelV h' st' v u → Q u { s with heap := h', toks := tk' }) →
    codeC (model prog w) A (.call wf ⟨ws, []⟩) (fun r s' => match r with | .ok (.ret v) => Q v s' | .ok _ => False | .error e => EX s E e s') s
theorem TCd.tc {A : Around} {f : V} {args : List V} {R : V → St → Prop} (h : TCd prog w hB c A f args fr st E R) : TC prog w hB c A f args fr st E R :=
  fun s Q wf ws ha rf rs hQ => wpC_call (h s Q wf ws ha rf rs hQ)

theorem D_fnE (G : Gd w hB K) {f : Addr} {oc : Value} {od an : Option Addr} {osl : Array (Option Value)} {name qual : Str} {params : Arguments} {body : List Stmt} {scope : Scope} {dV kV doc pm cdv ct : Value} {vs : List V} {R : V → St → Prop} (names : List Str)
    (ho : K.lookup f = some ⟨oc, od, .func (fnOf name qual params body scope dV kV doc pm an cdv ct), osl⟩) (hcd : codeIn K cdv qual = true)
    (hroom : c.A.depth < recursionLimit) (hlen : names.length = vs.length)
    (hbind : ∀ (s : Shared) ws, ws.length = names.length → K.In s.heap → BindsTo s (fnOf name qual params body scope dV kV doc pm an cdv ct) ⟨ws, []⟩ (names.zip ws))
    (hkind : ∀ x ∈ names, scope.names.lookup x = some .local ∨ (scope.names.lookup x = some .cell ∧ ((cellsFrom 0 scope.names []).lookup x).isSome = true))
    (hnames : names.Nodup) (hnd : ((cellsFrom 0 scope.names []).map (·.1)).Nodup) (E' : Addr → EE) (hlv : ∀ L, LeaveE prog w (CxOf c.A qual scope f cdv L) (E' L) E)
    (h : ∀ L, TS prog w hB (CxOf c.A qual scope f cdv L) body (names.zip vs) st (E' L) fun fl _ st' => R (match fl with | .ret v => v | _ => .none) st')
    (hco : scope.isCoroutine = false := by rfl) (hgen : scope.isGenerator = false := by rfl) (hk : scope.kind = .function := by rfl) : TCd prog w hB c c.A (.val (.ref f)) vs fr st E R := by
  intro s Q wf ws ha rf rs hQ
  (first | obtain rfl := RelV.i_val rf | obtain rfl := RelV.i_ref rf | obtain ⟨_, rfl⟩ := RelV.i_int rf | obtain ⟨_, rfl⟩ := RelV.i_str rf | obtain ⟨_, rfl⟩ := RelV.i_bytes rf | obtain rfl := RelV.i_bool rf | obtain rfl := RelVs.i_nil rf | cases rf)
  have hK : K.In s.heap := G.kin.keeps (keepB ha.inv)
  have hwl : ws.length = names.length := by rw [hlen]; exact rs.length.symm
  have hnodup : ((names.zip ws).map (·.1)).Nodup := by rw [zip_names hwl.symm]; exact hnames
  have hkind' : ∀ n, ∀ x ∈ names.zip ws, scope.names.lookup x.1 = some .local ∨ (scope.names.lookup x.1 = some .cell ∧ ((cellsFrom n scope.names []).lookup x.1).isSome = true) := by
    intro n x hx
    have hm : x.1 ∈ names := (List.of_mem_zip hx).1
    rcases hkind _ hm with k | ⟨k1, k2⟩
    · exact .inl k
    · refine .inr ⟨k1, ?_⟩
      have e := cellsFrom_names scope.names 0 n [] [] rfl
      have h1 : x.1 ∈ (cellsFrom 0 scope.names []).map (·.1) := by
        obtain ⟨c', hc'⟩ := Option.isSome_iff_exists.mp k2
        exact List.mem_map.mpr ⟨_, lookup_mem hc', rfl⟩
      rw [e] at h1
      obtain ⟨y, hy, hy2⟩ := List.mem_map.mp h1
      have := lookup_of_mem_nodup (cs := cellsFrom n scope.names []) (by rw [← e]; exact hnd) (show (x.1, y.2) ∈ _ by rw [← hy2]; exact hy)
      rw [this]; rfl
  refine codeC_call_function hroom (hK _ _ ho) rfl hco hgen rfl (codeRec_of hK hcd) (wpC.any (hbind s ws hwl hK _ _ _ _ ?_))
  refine wpC.any (wpAny_newFunctionEnv_cells hk (hkind' _) fun env' he s' x => ?_)
  subst he
  have hkeep := x.toInCall.keep
  refine ⟨((G.nolimit.keeps (keepB ha.inv)).keeps hkeep), codeC_func ?_⟩
  obtain ⟨h₁, tk, rfl, _⟩ := x.done
  dsimp only at hkeep
  have gr := ha.grown (h' := h₁) hkeep
  have hnd1 : ((cellsFrom (s.heap.objs.size + 1) scope.names []).map (·.1)).Nodup := by rw [cellsFrom_names scope.names (s.heap.objs.size + 1) 0 [] [] rfl]; exact hnd
  have own_ge : ∀ b ∈ (CxOf c.A qual scope f cdv s.heap.objs.size).own, s.heap.objs.size ≤ b := by
    intro b hb
    rcases List.mem_cons.mp hb with rfl | hb
    · exact Nat.le_refl _
    · obtain ⟨y, hy, rfl⟩ := List.mem_map.mp hb
      exact Nat.le_of_lt (x.above y.1 y.2 hy)
  have a0 : At hB (CxOf c.A qual scope f cdv s.heap.objs.size) (names.zip vs) st h₁ := by
    refine ⟨gr.1.inv, { kind := hk, glob := rfl, blt := rfl, own := fun b hb => ?_, free := fun y hy => ?_, nodup := ?_, loc := List.mem_cons_self, vars := ⟨_, x.toInCall.ns, fun y u e => ?_⟩ }⟩
    · have hge := own_ge b hb
      have hno := none_ge hge
      refine ⟨st_none ha hno, hB_none ha hno, ?_⟩
      rcases List.mem_cons.mp hb with rfl | hb
      · obtain ⟨o, es, ep, ho', hd', _⟩ := x.toInCall.ns
        exact ⟨o, ho', by rw [hd']; rfl⟩
      · obtain ⟨y, hy, rfl⟩ := List.mem_map.mp hb
        obtain ⟨o, ho', hd'⟩ := x.cell y.1 y.2 (lookup_of_mem_nodup hnd1 hy)
        exact ⟨o, ho', by rw [hd']; rfl⟩
    · have hab := x.above y.1 y.2 hy
      refine ⟨st_none ha (none_ge (Nat.le_of_lt hab)), Nat.ne_of_gt hab, ?_⟩
      exact ⟨_, x.cell y.1 y.2 (lookup_of_mem_nodup hnd1 hy)⟩
    · exact List.pairwise_map.mpr x.apart
    · obtain ⟨u', hu', hru⟩ := zip_rel rs e
      refine ⟨u', hru.tr gr.2.tr, ?_⟩
      rcases hkind y (lookup_zip e) with k | ⟨k1, k2⟩
      · exact .inl ⟨k, bindL_at k hnodup hu'⟩
      · have hm : (y, u') ∈ names.zip ws := lookup_mem hu'
        rcases hkind' (s.heap.objs.size + 1) _ hm with k | ⟨_, k3⟩
        · rw [k1] at k; cases k
        obtain ⟨cA, hcA⟩ := Option.isSome_iff_exists.mp k3
        refine .inr ⟨.inl k1, cA, hcA, ?_⟩
        have hc := x.cell y cA hcA
        have hkk : (newEnv scope s.heap.objs.size mainGlobals (cellsFrom (s.heap.objs.size + 1) scope.names []) (qual ++ ".<locals>.") (some f) cdv none builtinsNs).kindOf y ≠ some .local := by
          show scope.names.lookup y ≠ some .local
          rw [k1]; intro q; cases q
        rw [bindC_at hkk hnodup hu'] at hc
        exact hc
  refine wpC_mono (h s.heap.objs.size { s with heap := h₁, toks := tk } (fun f s' => Q (match f with | .ret v => v | _ => .none) s') a0 fun fl fr' st' u h' tk' hR a' e' r' => ?_) (fun f s3 h3 => h3) (fun e s3 x3 => ?_)
  · have ee : Ext NoX s.heap st h' st' := ⟨fun b o q n _ => by
      refine e'.keep b o (hkeep b o q) n fun hb => ?_
      exact absurd (Heap.lt_size q) (Nat.not_lt.mpr (own_ge b hb))⟩
    refine hQ _ st' _ h' tk' hR ⟨a'.inv, ha.frm.ext ee⟩ ee ?_
    cases r' with
    | next => exact .none
    | brk => exact .none
    | cont => exact .none
    | ret r => exact r
  · obtain ⟨h5, tk5, rfl, he⟩ := x3
    exact hlv _ { s with heap := h5, toks := tk5 } e he

theorem D_fn (G : Gd w hB K) {f : Addr} {oc : Value} {od an : Option Addr} {osl : Array (Option Value)} {name qual : Str} {params : Arguments} {b0 : Stmt} {bs : List Stmt} {s1 : ScopeKind} {s2 : List (Str × NameKind)} {s3 s4 : Bool} {s5 : List (Str × Const)} {dV kV doc pm cdv ct : Value} {vs : List V} {R : V → St → Prop} (names : List Str)
    (ho : K.lookup f = some ⟨oc, od, .func (fnOf name qual params (b0 :: bs) ⟨s1, s2, s3, s4, s5⟩ dV kV doc pm an cdv ct), osl⟩) (hcd : codeIn K cdv qual = true)
    (hroom : c.A.depth < recursionLimit) (hlen : names.length = vs.length)
    (hbind : ∀ (s : Shared) ws, ws.length = names.length → K.In s.heap → BindsTo s (fnOf name qual params (b0 :: bs) ⟨s1, s2, s3, s4, s5⟩ dV kV doc pm an cdv ct) ⟨ws, []⟩ (names.zip ws))
    (hkind : ∀ x ∈ names, (⟨s1, s2, s3, s4, s5⟩ : Scope).names.lookup x = some .local ∨ ((⟨s1, s2, s3, s4, s5⟩ : Scope).names.lookup x = some .cell ∧ ((cellsFrom 0 (⟨s1, s2, s3, s4, s5⟩ : Scope).names []).lookup x).isSome = true))
    (hnames : names.Nodup) (hnd : ((cellsFrom 0 (⟨s1, s2, s3, s4, s5⟩ : Scope).names []).map (·.1)).Nodup)
    (h : ∀ L, TS prog w hB (CxOf c.A qual ⟨s1, s2, s3, s4, s5⟩ f cdv L) (b0 :: bs) (names.zip vs) st NoE fun fl _ st' => R (match fl with | .ret v => v | _ => .none) st')
    (hco : (⟨s1, s2, s3, s4, s5⟩ : Scope).isCoroutine = false := by rfl) (hgen : (⟨s1, s2, s3, s4, s5⟩ : Scope).isGenerator = false := by rfl) (hk : (⟨s1, s2, s3, s4, s5⟩ : Scope).kind = .function := by rfl) : TCd prog w hB c c.A (.val (.ref f)) vs fr st E R :=
  D_fnE G names ho hcd hroom hlen hbind hkind hnames hnd (fun _ => NoE) (fun _ _ _ f => f.elim) h hco hgen hk
theorem K_fn (G : Gd w hB K) {f : Addr} {oc : Value} {od an : Option Addr} {osl : Array (Option Value)} {name qual : Str} {params : Arguments} {b0 : Stmt} {bs : List Stmt} {s1 : ScopeKind} {s2 : List (Str × NameKind)} {s3 s4 : Bool} {s5 : List (Str × Const)} {dV kV doc pm cdv ct : Value} {vs : List V} {R : V → St → Prop} (names : List Str)
    (ho : K.lookup f = some ⟨oc, od, .func (fnOf name qual params (b0 :: bs) ⟨s1, s2, s3, s4, s5⟩ dV kV doc pm an cdv ct), osl⟩) (hcd : codeIn K cdv qual = true)
    (hroom : c.A.depth < recursionLimit) (hlen : names.length = vs.length)
    (hbind : ∀ (s : Shared) ws, ws.length = names.length → K.In s.heap → BindsTo s (fnOf name qual params (b0 :: bs) ⟨s1, s2, s3, s4, s5⟩ dV kV doc pm an cdv ct) ⟨ws, []⟩ (names.zip ws))
    (hkind : ∀ x ∈ names, (⟨s1, s2, s3, s4, s5⟩ : Scope).names.lookup x = some .local ∨ ((⟨s1, s2, s3, s4, s5⟩ : Scope).names.lookup x = some .cell ∧ ((cellsFrom 0 (⟨s1, s2, s3, s4, s5⟩ : Scope).names []).lookup x).isSome = true))
    (hnames : names.Nodup) (hnd : ((cellsFrom 0 (⟨s1, s2, s3, s4, s5⟩ : Scope).names []).map (·.1)).Nodup)
    (h : ∀ L, TS prog w hB (CxOf c.A qual ⟨s1, s2, s3, s4, s5⟩ f cdv L) (b0 :: bs) (names.zip vs) st NoE fun fl _ st' => R (match fl with | .ret v => v | _ => .none) st')
    (hco : (⟨s1, s2, s3, s4, s5⟩ : Scope).isCoroutine = false := by rfl) (hgen : (⟨s1, s2, s3, s4, s5⟩ : Scope).isGenerator = false := by rfl) (hk : (⟨s1, s2, s3, s4, s5⟩ : Scope).kind = .function := by rfl) : TC prog w hB c c.A (.val (.ref f)) vs fr st E R :=
  (D_fn G names ho hcd hroom hlen hbind hkind hnames hnd h hco hgen hk).tc
end
end Mine
end
section
open PySem PySem.W PyProof.Rows PySem.Calls
namespace Mine

/-- the place in which a comprehension's parts are reckoned -/
abbrev CxC (c : Cx) (scope : Scope) (cl : List (Str × Addr)) (C : Addr) : Cx := ⟨compEnvC scope cl C c.env, c.A, [C]⟩

section
variable {prog : Program} {w : World} {hB : Heap} {c : Cx} {fr : Vars} {st : St} {E : EE}

theorem At.weak {h : Heap} {fr' : Vars} (a : At hB c fr st h) (k : ∀ y u, fr'.lookup y = some u → fr.lookup y = some u) : At hB c fr' st h :=
  ⟨a.inv, { a.frm with vars := let ⟨m, hm, hv⟩ := a.frm.vars; ⟨m, hm, fun y u e => hv y u (k y u e)⟩ }⟩

/-- a hidden list comes to light -/
theorem At.reveal {h : Heap} {acc : Addr} {ys : List V} {ws : List Value} {n : Nat} (a : At hB c fr st h) (hn : st acc = none) (ho : acc ∉ c.own) (hb : hB.get? acc = none) (hc : ∀ x ∈ c.env.cells, x.2 ≠ acc)
    (hi : h.get? acc = some (listOf (List.toArray ws) n)) (hr : RelVs h st ys ws) : At hB c fr (st.set acc (.list ys)) h ∧ Tr h st h (st.set acc (.list ys)) := by
  have T : Tr h st h (st.set acc (.list ys)) := fun b o e n' d => ⟨e, by
    rw [St.set_ne (fun q => by subst q; rw [hi] at e; cases e; cases d)]; exact n'⟩
  refine ⟨⟨⟨fun b o e => ?_, fun b o e => ?_⟩, ?_⟩, T⟩
  · have := a.inv.stays b o e
    exact ⟨this.1, by rw [St.set_ne (fun q => by rw [q, hb] at e; cases e)]; exact this.2⟩
  · unfold St.set at e
    split at e
    · rename_i q; subst q; cases e
      exact ⟨ws, n, hi, hr.tr T⟩
    · exact (a.inv.objs b o e).tr T fun _ e => e
  · obtain ⟨m, hm, hv⟩ := a.frm.vars
    refine { a.frm with own := fun b hb' => ?_, free := fun y hy => ?_, vars := ⟨m, hm, fun y u e => ?_⟩ }
    · obtain ⟨n', g, o, ho', hd⟩ := a.frm.own b hb'
      exact ⟨by rw [St.set_ne (fun q : b = acc => ho (by rw [← q]; exact hb'))]; exact n', g, o, ho', hd⟩
    · obtain ⟨n', ne, ov, hcc⟩ := a.frm.free y hy
      exact ⟨by rw [St.set_ne (hc y hy)]; exact n', ne, ov, hcc⟩
    · obtain ⟨u', h1, h2⟩ := hv y u e
      exact ⟨u', h1.tr T, h2⟩

def TTests (prog : Program) (w : World) (hB : Heap) (c : Cx) (ifs : List Expr) (fr : Vars) (st : St) (E : EE) (R : Bool → St → Prop) : Prop :=
  match ifs with
  | [] => R true st
  | [t] => TB prog w hB c t fr st E R
  | _ => False

/-- what an item of a comprehension's loop binds -/
def Binds (prog : Program) (w : World) (hB : Heap) (c : Cx) (target : Expr) (bnd : V → Vars → Vars) (items : List V) (fr : Vars) : Prop :=
  ∀ (st : St) (s : Shared) (Q : Unit → Shared → Prop) (E : Value → Shared → Prop) v u, v ∈ items → At hB c fr st s.heap → RelV s.heap st v u →
    (∀ h' tk', At hB c (bnd v fr) st h' → Ext (· ∈ c.own) s.heap st h' st → Q () { s with heap := h', toks := tk' }) → wpC (model prog w) c.A (assign target c.env u) Q E s

theorem binds_name {x : Str} {px : Pos} {items : List V} (hx : CanStore c x) : Binds prog w hB c (.Name x px) (fun v fr => setVar fr x v) items fr := by
  intro st s Q E v u _ ha hr hQ
  exact cAssign (wpC.any (storeName_any ha hr hx hQ))

/-- what is asked of a comprehension's clauses, in its own place -/
inductive CompJ (prog : Program) (w : World) (hB : Heap) (c : Cx) (elt target : Expr) (ifs : List Expr) (scope : Scope) (cl : List (Str × Addr)) (cap : Vars) (bnd : V → Vars → Vars) (st1 : St) (R : List V → St → Prop) (items : List V) (pre : St → Prop) (C : Addr) : Prop
  | mk (hbind : Binds prog w hB (CxC c scope cl C) target bnd items cap) (J : Nat → List V → St → Prop) (h0 : J 0 [] st1) (hpre : ∀ i ys st, J i ys st → pre st)
      (hturn : ∀ i ys st v, i < items.length → J i ys st → items[i]? = some v → TTests prog w hB (CxC c scope cl C) ifs (bnd v cap) st NoE fun b st' =>
        if b then TE prog w hB (CxC c scope cl C) elt (bnd v cap) st' NoE fun y st'' => J (i + 1) (ys ++ [y]) st'' else J (i + 1) ys st')
      (hend : ∀ ys st, J items.length ys st → R ys st)
/-- what is asked of a comprehension's clauses -/
inductive CompH (prog : Program) (w : World) (hB : Heap) (c : Cx) (elt target : Expr) (ifs : List Expr) (scope : Scope) (cl : List (Str × Addr)) (cap : Vars) (bnd : V → Vars → Vars) (v : V) (st1 : St) (R : List V → St → Prop) : Prop
  | mk (items : List V) (P : Nat → Obj → Prop) (pre : St → Prop) (hI : Iterates prog w hB c.A target v items P pre) (hlen : items.length ≤ 1000000) (hpre1 : pre st1)
      (hbig : ∀ C, CompJ prog w hB c elt target ifs scope cl cap bnd st1 R items pre C)

structure CompS (c : Cx) (fr : Vars) (scope : Scope) (cl : List (Str × Addr)) (cap : Vars) (bnd : V → Vars → Vars) : Prop where
  clos : closureFor scope c.env = pure cl
  kind : scope.kind = .function
  names : ∀ x ∈ scope.names, x.2 = .local → scope.names.lookup x.1 = some .local
  cell : ∀ y ∈ scope.names, y.2 ≠ .cell
  clm : ∀ x ∈ cl, x ∈ c.env.cells
  cld : (cl.map (·.2)).Nodup
  capt : ∀ y u, cap.lookup y = some u → fr.lookup y = some u ∧ (c.env.kindOf y = some .cell ∨ c.env.kindOf y = some .free) ∧ cl.lookup y = c.env.cells.lookup y ∧
    ((relabel scope c.env).names.lookup y = some .cell ∨ (relabel scope c.env).names.lookup y = some .free)
  bound : ∀ v y u, cap.lookup y = some u → (bnd v cap).lookup y = some u

theorem comp_core {elt target iter : Expr} {ifs : List Expr} {scope : Scope} {cl : List (Str × Addr)} {pos : Pos} {cap : Vars} {bnd : V → Vars → Vars} {v : V} {st1 : St} {R : List V → St → Prop} {E₀ : Value → Shared → Prop}
    (S : CompS c fr scope cl cap bnd) (hR : CompH prog w hB c elt target ifs scope cl cap bnd v st1 R) {s : Shared} {u : Value} {RR : Value → Addr → Result → Shared → Prop} (a1 : At hB c fr st1 s.heap) (r1 : RelV s.heap st1 v u)
    (hRR : ∀ acc C h' tk' m ys ws k st', R ys st' → At hB c fr st' h' → Ext NoX s.heap st1 h' st' → st' acc = none → h'.get? acc = some (listOf (List.toArray ws) k) → RelVs h' st' ys ws → h'.Ns C m → st' C = none →
      s.heap.get? acc = none → s.heap.get? C = none → acc ≠ C → RR (.ref acc) C (.ok .next) { s with heap := h', toks := tk' }) :
    wpC (model prog w) c.A (pyIter u) (fun it s₂ => wpC (model prog w) c.A (newList []) (fun acc s₃ =>
      wpC (model prog w) c.A (newFunctionEnv scope c.env.globals cl [] c.env.qual none .none (some c.env)) (fun cenv s₄ =>
        codeC (model prog w) c.A (.compStart (.ListComp elt [⟨target, iter, ifs, 0⟩] scope pos) 0 it acc { cenv with scope := relabel scope c.env }) (RR acc cenv.locals) s₄) E₀ s₃) E₀ s₂) E₀ s := by
  obtain ⟨items, P, pre, hI, hlen, hpre1, hbig⟩ := hR
  refine wpC.any (hI.start st1 s _ _ u a1.inv hpre1 r1 fun o h2 tk2 ho hP hk => ?_)
  refine wpC.any (wpAny_newObj_type ?_ (by size_fits))
  refine wpC.any (wpAny_newFunctionEnv S.cell (by intro y hy; simp at hy) (fun h₁ hns hsb => ?_) S.kind)
  simp only [Option.isSome_some, if_true] at hns hsb ⊢
  generalize hH : h2.push { cls := .type "list", dict := none, data := .seq ([] : List Value).toArray } = H2 at hns hsb ⊢
  have hHs : H2.objs.size = h2.objs.size + 1 := by rw [← hH, Heap.size_push]
  have hlt : s.heap.objs.size < h2.objs.size := Heap.lt_size ho
  have f_it : s.heap.get? s.heap.objs.size = none := get_none_size s.heap
  have f_acc : s.heap.get? h2.objs.size = none := none_ge (Nat.le_of_lt hlt)
  have f_C : s.heap.get? H2.objs.size = none := none_ge (by omega)
  have ltacc : ∀ b o, h2.get? b = some o → b < h2.objs.size := fun _ _ e => Heap.lt_size e
  generalize hitE : s.heap.objs.size = it at *
  generalize haccE : h2.objs.size = acc at *
  have hitacc : it ≠ acc := Nat.ne_of_lt hlt
  have hCE : H2.objs.size = acc + 1 := hHs
  generalize hCE' : H2.objs.size = C at *
  have hitC : it ≠ C := by omega
  have haccC : acc ≠ C := by omega
  have k1 : ∀ b o, h2.get? b = some o → h₁.get? b = some o := fun b o e => by
    have hb := ltacc b o e
    exact hsb.extBut b o (Nat.ne_of_lt (Nat.lt_of_lt_of_le hb (by rw [hCE]; exact Nat.le_succ _))) (Heap.get?_push_of_some _ (by rw [← hH]; exact Heap.get?_push_of_some _ e))
  have k0 : ∀ b o, s.heap.get? b = some o → h₁.get? b = some o := fun b o e => k1 b o (hk b o e)
  have oit : h₁.get? it = some o := k1 _ _ ho
  have oacc : h₁.get? acc = some (listOf (List.toArray []) 0) := by
    refine hsb.extBut _ _ haccC (Heap.get?_push_of_some _ ?_)
    rw [← hH, ← haccE]
    exact Heap.get?_push_size _ rfl
  obtain ⟨hbind, J, hJ0, hpre, hturn, hend⟩ := hbig C
  have g1 := a1.grown k0
  have own_of : ∀ {a : Addr}, s.heap.get? a = none → a ∉ c.own := fun e hm => by
    obtain ⟨_, _, o', ho', _⟩ := a1.frm.own _ hm
    rw [e] at ho'; cases ho'
  have cells_of : ∀ {a : Addr}, s.heap.get? a = none → ∀ x ∈ c.env.cells, x.2 ≠ a := fun e x hx q => by
    obtain ⟨_, _, ov, oc, hoc, _⟩ := a1.frm.free x hx
    rw [q, e] at hoc; cases hoc
  -- the comprehension's own frame
  have a2 : At hB (CxC c scope cl C) cap st1 h₁ := by
    obtain ⟨om, hm, hv⟩ := g1.1.frm.vars
    refine ⟨g1.1.inv, { kind := S.kind, glob := a1.frm.glob, blt := a1.frm.blt, own := fun b hb => ?_, free := fun y hy => ?_, nodup := S.cld, loc := List.mem_singleton.mpr rfl, vars := ⟨_, hns, fun y u e => ?_⟩ }⟩
    · obtain rfl : b = C := List.mem_singleton.mp hb
      obtain ⟨o', es, ep, ho', hd', _⟩ := hns
      exact ⟨st_none a1 f_C, hB_none a1 f_C, o', ho', by rw [hd']; rfl⟩
    · obtain ⟨n', ne, ov, hc⟩ := g1.1.frm.free y (S.clm y hy)
      exact ⟨n', cells_of f_C y (S.clm y hy), ov, hc⟩
    · obtain ⟨e1, e2, e3, e4⟩ := S.capt y u e
      obtain ⟨u', hru, hat⟩ := hv y u e1
      refine ⟨u', hru, ?_⟩
      rcases hat with ⟨kk, _⟩ | ⟨_, cA, hcA, hic⟩
      · rw [kk] at e2; rcases e2 with q | q <;> cases q
      · exact .inr ⟨e4, cA, by rw [← hcA]; exact e3, hic⟩
  have oC : ∀ {fr' : Vars} {st' : St} {h' : Heap}, At hB (CxC c scope cl C) fr' st' h' → st' C = none := fun a => (a.frm.own C (List.mem_singleton.mpr rfl)).1
  have nC : ∀ {x : Addr}, x ≠ C → x ∉ (CxC c scope cl C).own := fun hx hm => hx (List.mem_singleton.mp hm)
  have cellsC : ∀ {a : Addr}, s.heap.get? a = none → ∀ x ∈ (CxC c scope cl C).env.cells, x.2 ≠ a := fun e x hx => cells_of e x (S.clm x hx)
  have loop : codeC (model prog w) c.A (.compLoop (.ListComp elt [⟨target, iter, ifs, 0⟩] scope pos) 0 (.ref it) (.ref acc) (compEnvC scope cl C c.env)) (RR (.ref acc) C) { s with heap := h₁, toks := tk2 + ([] : List (Str × Value)).length } := by
    obtain ⟨II, hII⟩ : ∃ II : Nat → Shared → Prop, ∀ n s', II n s' ↔ ∃ i ys st' h' tk' o' ws k, s' = { s with heap := h', toks := tk' } ∧ J i ys st' ∧ i ≤ items.length ∧ n = items.length - i ∧ ys.length ≤ i ∧ At hB (CxC c scope cl C) cap st' h' ∧
      Ext NoX s.heap st1 h' st' ∧ st' it = none ∧ h'.get? it = some o' ∧ P i o' ∧ st' acc = none ∧ h'.get? acc = some (listOf (List.toArray ws) k) ∧ RelVs h' st' ys ws := ⟨_, fun _ _ => Iff.rfl⟩
    refine codeC_compLoop_tests II ?_ items.length
      ((hII _ _).mpr ⟨0, [], st1, h₁, _, o, [], 0, rfl, hJ0, Nat.zero_le _, rfl, Nat.zero_le _, a2, g1.2, st_none a1 f_it, oit, hP, st_none a1 f_acc, oacc, .nil⟩)
    rintro n _ hn
    refine e8 ((hII _ _).mp hn) fun i ys st' h' tk' o' ws k hh => a13 hh fun q1 hJ hle q2 hyl a' e' hn' ho' hP' hna hoa hra => ?_
    clear hh hn
    subst q1 q2
    have nf : ∀ {h'' : Heap} {tk''} (e : Value) (s' : Shared), EX { s with heap := h'', toks := tk'' } NoE e s' → notedC (model prog w) c.A (compEnvC scope cl C c.env) (fun e s' => RR (.ref acc) C (.error e) s') e s' := by
      rintro h'' tk'' e _ ⟨_, _, _, f⟩
      exact f.elim
    have cmp : ∀ {h3 : Heap} {a : Addr}, s.heap.get? a = none → Ext (· = a) h' st' h3 st' → Ext NoX s.heap st1 h3 st' := fun {h3 a} f k => ⟨fun b o q n _ => by
      have := e'.keep b o q n (fun f => f)
      exact k.keep b o this.1 this.2 fun z => by subst z; rw [f] at q; cases q⟩
    refine wpC.any (hI.next i it st' _ _ _ o' a'.inv (hpre _ _ _ hJ) ho' hP' ?_ ?_)
    · intro v2 u2 o2 h3 tk3 hv ho2 hP2 hsb3 r3
      dsimp only at hsb3 r3 ⊢
      have hlt2 : i < items.length := (List.getElem?_eq_some_iff.mp hv).1
      have a3 := a'.hidden hn' (nC hitC) (hB_none a1 f_it) (cellsC f_it) ho' (hI.imm _ _ hP') hsb3
      refine wpC.any (hI.go (i + 1) it { s with heap := h3, toks := tk3 } _ _ o2 u2 ho2 hP2 fun o3 h4 ho3 hP3 hsb4 => ?_)
      dsimp only at ho3 hsb4 ⊢
      have a4 := a3.1.hidden hn' (nC hitC) (hB_none a1 f_it) (cellsC f_it) ho2 (hI.imm _ _ hP2) hsb4
      have eA : Ext NoX s.heap st1 h4 st' := ⟨fun b o q n _ => by
        have := (cmp f_it a3.2.1).keep b o q n (fun f => f)
        exact a4.2.1.keep b o this.1 this.2 fun z => by subst z; rw [f_it] at q; cases q⟩
      have hoa4 : h4.get? acc = some (listOf (List.toArray ws) k) := hsb4 _ _ (Ne.symm hitacc) (hsb3 _ _ (Ne.symm hitacc) hoa)
      have hra4 : RelVs h4 st' ys ws := (hra.tr a3.2.2).tr a4.2.2
      refine hbind st' { s with heap := h4, toks := tk3 } _ _ v2 u2 (List.mem_of_getElem? hv) a4.1 ((r3.tr a3.2.2).tr a4.2.2) fun h5 tk5 a5 e5 => ?_
      dsimp only at e5 ⊢
      have ht := hturn i ys st' v2 hlt2 hJ hv
      have ko5 := e5.keep it o3 ho3 hn' (nC hitC)
      have ka5 := e5.keep acc _ hoa4 hna (nC haccC)
      have eA5 : Ext NoX s.heap st1 h5 st' := ⟨fun b o q n _ => by
        have := eA.keep b o q n (fun f => f)
        exact e5.keep b o this.1 this.2 fun z => by rw [List.mem_singleton.mp z, f_C] at q; cases q⟩
      have hra5 : RelVs h5 st' ys ws := hra4.tr fun b o q n d => by
        refine e5.keep b o q n fun z => ?_
        obtain rfl := List.mem_singleton.mp z
        obtain ⟨oo, es, ep, hoo, hdd, _⟩ := a4.1.frm.vars.choose_spec.1
        rw [show h4.get? b = some oo from hoo] at q
        cases q
        rw [imm_frame (by rw [hdd]; rfl)] at d; cases d
      -- the element
      have elem : ∀ st6 h6 tk6, TE prog w hB (CxC c scope cl C) elt (bnd v2 cap) st6 NoE (fun y st'' => J (i + 1) (ys ++ [y]) st'') → At hB (CxC c scope cl C) (bnd v2 cap) st6 h6 → Ext NoX h5 st' h6 st6 →
          wpC (model prog w) c.A (eval elt (compEnvC scope cl C c.env)) (fun x s₄ => wpC (model prog w) c.A (call (.builtin "list.append") [.ref acc, x]) (fun _ s₅ => ∃ m, m < items.length - i ∧ II m s₅) (notedC (model prog w) c.A (compEnvC scope cl C c.env) fun e s' => RR (.ref acc) C (.error e) s') s₄)
          (notedC (model prog w) c.A (compEnvC scope cl C c.env) fun e s' => RR (.ref acc) C (.error e) s') { s with heap := h6, toks := tk6 } := by
        intro st6 h6 tk6 hte a6 e6
        have ko6 := e6.keep it o3 ko5.1 ko5.2 (fun f => f)
        have ka6 := e6.keep acc _ ka5.1 ka5.2 (fun f => f)
        refine wpC_mono (hte { s with heap := h6, toks := tk6 } (fun x s₄ => wpC (model prog w) c.A (call (.builtin "list.append") [.ref acc, x]) (fun _ s₅ => ∃ m, m < items.length - i ∧ II m s₅) (notedC (model prog w) c.A (compEnvC scope cl C c.env) fun e s' => RR (.ref acc) C (.error e) s') s₄) a6 fun y st7 u7 h7 tk7 hJ7 a7 e7 r7 => ?_) (fun _ _ x => x) (fun e s' x => nf e s' x)
        have ko7 := e7.keep it o3 ko6.1 ko6.2 (fun f => f)
        have ka7 := e7.keep acc _ ka6.1 ka6.2 (fun f => f)
        have hra7 : RelVs h7 st7 ys ws := (hra5.tr e6.tr).tr e7.tr
        have hwl : ws.length = ys.length := hra7.length.symm
        refine wpC.any (append_at (A := c.A) ka7.1 (fun h8 hs8 ho8 => ?_) (by have := sizeLine_ge; simp; omega))
        have a8 := a7.hidden ka7.2 (nC haccC) (hB_none a1 f_acc) (cellsC f_acc) ka7.1 rfl (fun b o hb e => (hs8.2 b hb).trans e)
        refine ⟨items.length - (i + 1), Nat.sub_succ_lt_self _ _ hlt2, (hII _ _).mpr ⟨i + 1, ys ++ [y], st7, h8, tk7, o3, ws ++ [u7], k + 1, rfl, hJ7, hlt2, rfl, by simp; omega, a8.1.weak fun y' u' q => S.bound v2 y' u' q, ?_, ko7.2, (hs8.2 it hitacc).trans ko7.1, hP3, ka7.2, by rw [ho8]; simp [W.listOf], (hra7.append (.cons r7 .nil)).tr a8.2.2⟩⟩
        exact ⟨fun b o q n _ => by
          have h9 := eA5.keep b o q n (fun f => f)
          have h10 := (e6.trans e7).keep b o h9.1 h9.2 (fun f => f)
          exact a8.2.1.keep b o h10.1 h10.2 fun z => by subst z; rw [f_acc] at q; cases q⟩
      match ifs, ht with
      | [], ht =>
        refine tests_nil ?_
        simp only [if_true]
        simp only [TTests, if_true] at ht
        exact elem st' h5 tk5 ht a5 .refl
      | [t], ht =>
        refine tests_one (wpC_mono ((show TB prog w hB (CxC c scope cl C) t (bnd v2 cap) st' NoE _ from ht) { s with heap := h5, toks := tk5 } (fun ok s₃ => if ok = true then wpC (model prog w) c.A (eval elt (compEnvC scope cl C c.env)) (fun x s₄ => wpC (model prog w) c.A (call (.builtin "list.append") [.ref acc, x]) (fun _ s₅ => ∃ m, m < items.length - i ∧ II m s₅) (notedC (model prog w) c.A (compEnvC scope cl C c.env) fun e s' => RR (.ref acc) C (.error e) s') s₄)
          (notedC (model prog w) c.A (compEnvC scope cl C c.env) fun e s' => RR (.ref acc) C (.error e) s') s₃ else ∃ m, m < items.length - i ∧ II m s₃) a5 fun b st6 h6 tk6 hR6 a6 e6 => ?_) (fun _ _ x => x) (fun e s' x => nf e s' x))
        cases b with
        | true =>
          simp only [if_true] at hR6 ⊢
          exact elem st6 h6 tk6 hR6 a6 e6
        | false =>
          simp only [Bool.false_eq_true, if_false] at hR6 ⊢
          have ko6 := e6.keep it o3 ko5.1 ko5.2 (fun f => f)
          have ka6 := e6.keep acc _ ka5.1 ka5.2 (fun f => f)
          exact ⟨items.length - (i + 1), Nat.sub_succ_lt_self _ _ hlt2, (hII _ _).mpr ⟨i + 1, ys, st6, h6, tk6, o3, ws, k, rfl, hR6, hlt2, rfl, Nat.le_succ_of_le hyl, a6.weak fun y' u' q => S.bound v2 y' u' q, eA5.trans e6, ko6.2, ko6.1, hP3, ka6.2, ka6.1, hra5.tr e6.tr⟩⟩
      | _ :: _ :: _, ht => exact (show False from ht).elim
    · intro h3 tk3 hv hsb3
      dsimp only at hsb3 ⊢
      have hge : items.length ≤ i := List.getElem?_eq_none_iff.mp hv
      obtain rfl : i = items.length := by omega
      have a3 := a'.hidden hn' (nC hitC) (hB_none a1 f_it) (cellsC f_it) ho' (hI.imm _ _ hP') hsb3
      have ee := cmp f_it a3.2.1
      obtain ⟨m, hm, _⟩ := a3.1.frm.vars
      exact hRR acc C h3 tk3 m ys ws k st' (hend _ _ hJ) ⟨a3.1.inv, a1.frm.ext ee⟩ ee hna (hsb3 _ _ (Ne.symm hitacc) hoa) (hra.tr a3.2.2) hm (oC a3.1) f_acc f_C haccC
  exact codeC_compStart_list loop (wpC.any (hI.again 0 it _ _ _ o oit hP loop))

theorem TE_comp {elt target iter : Expr} {ifs : List Expr} {scope : Scope} {cl : List (Str × Addr)} {pos : Pos} {R : V → St → Prop} (cap : Vars) (bnd : V → Vars → Vars)
    (S : CompS c fr scope cl cap bnd)
    (h : TE prog w hB c iter fr st E fun v st1 => CompH prog w hB c elt target ifs scope cl cap bnd v st1 fun ys st' => ∀ a, st' a = none → R (.ref a) (st'.set a (.list ys)))
    (hs : ∀ x, foldedSetIterable iter c.env x = pure x := by intro _; rfl) : TE prog w hB c (.ListComp elt [⟨target, iter, ifs, 0⟩] scope pos) fr st E R := by
  intro s Q ha hQ
  rw [eval_ListComp]
  refine cComp (use := none) rfl hs S.clos S.kind S.names (h s _ ha fun v st1 u h1 tk1 hR a1 e1 r1 => ?_)
  refine comp_core (s := { s with heap := h1, toks := tk1 }) (RR := compQ (model prog w) c.A (EX s E) none Q) S hR a1 r1 ?_
  intro acc C h' tk' m ys ws k st' hRy a' e' hna hoa hra hm hCn f_acc f_C hne
  dsimp only at e' f_acc f_C
  refine ⟨m, hm, fun h'' hsC => ?_⟩
  have own_of : ∀ {a : Addr}, h1.get? a = none → a ∉ c.own := fun e hm => by
    obtain ⟨_, _, o', ho', _⟩ := a1.frm.own _ hm
    rw [e] at ho'; cases ho'
  have cells_of : ∀ {a : Addr}, h1.get? a = none → ∀ x ∈ c.env.cells, x.2 ≠ a := fun e x hx q => by
    obtain ⟨_, _, ov, oc, hoc, _⟩ := a1.frm.free x hx
    rw [q, e] at hoc; cases hoc
  obtain ⟨oC, es, ep, hoC, hdC, _⟩ := hm
  have aC := a'.hidden hCn (own_of f_C) (hB_none a1 f_C) (cells_of f_C) hoC (imm_frame (by rw [hdC]; rfl)) (fun b o hb e => (hsC.2 b hb).trans e)
  have aR := aC.1.reveal hna (own_of f_acc) (hB_none a1 f_acc) (cells_of f_acc) ((hsC.2 acc hne).trans hoa) (hra.tr aC.2.2)
  refine hQ _ _ _ h'' tk' (hRy acc hna) aR.1 (e1.trans ⟨fun b o q n _ => ?_⟩) (.ref acc)
  have h9 := e'.keep b o q n (fun f => f)
  have h10 := aC.2.1.keep b o h9.1 h9.2 fun z => by subst z; rw [f_C] at q; cases q
  exact ⟨h10.1, by rw [St.set_ne (fun z => by subst z; rw [f_acc] at q; cases q)]; exact h10.2⟩

theorem T1_assign_comp {elt target iter : Expr} {ifs : List Expr} {scope : Scope} {cl : List (Str × Addr)} {cpos pos pos' : Pos} {x : Str} {R : Fl → Vars → St → Prop} (cap : Vars) (bnd : V → Vars → Vars)
    (S : CompS c fr scope cl cap bnd) (hx : c.env.kindOf x = some .local)
    (h : TE prog w hB c iter fr st E fun v st1 => CompH prog w hB c elt target ifs scope cl cap bnd v st1 fun ys st' => ∀ a, st' a = none → R .next (setVar fr x (.ref a)) (st'.set a (.list ys)))
    (hsw : swapsWith (.ListComp elt [⟨target, iter, ifs, 0⟩] scope cpos) (some (.Name x pos')) pos.line c.env = pure true)
    (hs : ∀ x, foldedSetIterable iter c.env x = pure x := by intro _; rfl) : T1 prog w hB c (.Assign [.Name x pos'] (.ListComp elt [⟨target, iter, ifs, 0⟩] scope cpos) pos) fr st E R := by
  intro s Q ha hQ
  rw [exec_Assign_Name_used x pos' _ pos hsw]
  refine wpC_bind (wpC_standAt (wpC_bind ?_))
  show wpC _ c.A (do let _ ← comprehension (.ListComp elt [⟨target, iter, ifs, 0⟩] scope cpos) scope c.env _ (newList []) false (eval iter c.env) (some (assign (.Name x pos') c.env))) _ _ s
  refine wpC_bind (wpC_mono (cComp (g := ⟨target, iter, ifs, 0⟩) (gs := []) (use := some (assign (.Name x pos') c.env)) (Q := fun _ s' => Q .next s') rfl hs S.clos S.kind S.names (h s _ ha fun v st1 u h1 tk1 hR a1 e1 r1 => ?_)) (fun _ s' hq => wpC_pure (wpC_pure hq)) fun _ _ e => e)
  refine comp_core (s := { s with heap := h1, toks := tk1 }) (RR := compQ (model prog w) c.A (EX s E) (some (assign (.Name x pos') c.env)) (fun _ s' => Q .next s')) S hR a1 r1 ?_
  intro acc C h' tk' m ys ws k st' hRy a' e' hna hoa hra hm hCn f_acc f_C hne
  dsimp only at e' f_acc f_C
  have own_of : ∀ {a : Addr}, h1.get? a = none → a ∉ c.own := fun e hm => by
    obtain ⟨_, _, o', ho', _⟩ := a1.frm.own _ hm
    rw [e] at ho'; cases ho'
  have cells_of : ∀ {a : Addr}, h1.get? a = none → ∀ x ∈ c.env.cells, x.2 ≠ a := fun e x hx q => by
    obtain ⟨_, _, ov, oc, hoc, _⟩ := a1.frm.free x hx
    rw [q, e] at hoc; cases hoc
  have aR := a'.reveal hna (own_of f_acc) (hB_none a1 f_acc) (cells_of f_acc) hoa hra
  show wpC (model prog w) c.A (assign (.Name x pos') c.env (.ref acc)) _ _ _
  refine cAssign (wpC.any (storeName_any (s := { s with heap := h', toks := tk' }) aR.1 (.ref acc) (.inl hx) fun h5 tk5 a5 e5 => ?_))
  dsimp only at e5 ⊢
  obtain ⟨oC, es, ep, hoC, hdC, hkC⟩ := hm
  have hCn2 : (St.set st' acc (.list ys)) C = none := by rw [St.set_ne (Ne.symm hne)]; exact hCn
  have kC := e5.keep C oC hoC hCn2 (own_of f_C)
  refine ⟨m, ⟨oC, es, ep, kC.1, hdC, hkC⟩, fun h'' hsC => ?_⟩
  have aC := a5.hidden kC.2 (own_of f_C) (hB_none a1 f_C) (cells_of f_C) kC.1 (imm_frame (by rw [hdC]; rfl)) (fun b o hb e => (hsC.2 b hb).trans e)
  refine hQ .next _ _ _ h'' tk5 (hRy acc hna) aC.1 (e1.weaken.trans ⟨fun b o q n hb => ?_⟩) RelF.next
  have h9 := e'.keep b o q n (fun f => f)
  have h10 : (St.set st' acc (.list ys)) b = none := by rw [St.set_ne (fun z => by subst z; rw [f_acc] at q; cases q)]; exact h9.2
  have h11 := e5.keep b o h9.1 h10 hb
  exact aC.2.1.keep b o h11.1 h11.2 fun z => by subst z; rw [f_C] at q; cases q
end
end Mine
end
section
open PySem PySem.W PyProof.Rows PySem.Calls
namespace Mine

def namesOf : List Expr → Option (List (Str × Pos))
  | [] => some []
  | .Name x p :: r => match namesOf r with | some l => some ((x, p) :: l) | none => none
  | _ :: _ => none
theorem namesOf_eq : ∀ {es : List Expr} {ns : List (Str × Pos)}, namesOf es = some ns → es = ns.map fun x => .Name x.1 x.2
  | [], ns, h => by cases h; rfl
  | e :: r, ns, h => by
    unfold namesOf at h
    split at h
    · rename_i hh; cases hh
    · rename_i x p r' hh
      cases hh
      split at h
      · rename_i l hl; cases h; rw [namesOf_eq hl]; rfl
      · cases h
    · cases h

def setVars (fr : Vars) : List Str → List V → Vars
  | n :: ns, v :: vs => setVars (setVar fr n v) ns vs
  | _, _ => fr

section
variable {prog : Program} {w : World} {hB : Heap} {c : Cx} {st : St} {E : EE}

theorem inOrder {α : Type} (nm : α → Str) (stores : α → Value → Sem Unit) {E' : Value → Shared → Prop}
    (hst : ∀ (x : α) (fr : Vars) (v : V) (u : Value) (s : Shared) (Q : Unit → Shared → Prop), CanStore c (nm x) → At hB c fr st s.heap → RelV s.heap st v u →
      (∀ h' tk', At hB c (setVar fr (nm x) v) st h' → Ext (· ∈ c.own) s.heap st h' st → Q () { s with heap := h', toks := tk' }) → wpC (model prog w) c.A (stores x u) Q E' s) :
    ∀ (ns : List α) (vs : List V) (us : List Value) (fr : Vars) (s : Shared) (Q : Unit → Shared → Prop), (∀ x ∈ ns, CanStore c (nm x)) → At hB c fr st s.heap → RelVs s.heap st vs us →
      (∀ h' tk', At hB c (setVars fr (ns.map nm) vs) st h' → Ext (· ∈ c.own) s.heap st h' st → Q () { s with heap := h', toks := tk' }) → wpC (model prog w) c.A (assignInOrder (ns.map stores) us) Q E' s := by
  intro ns
  induction ns with
  | nil =>
    intro vs us fr s Q _ ha _ hQ
    have := hQ s.heap s.toks (by cases vs <;> exact ha) .refl
    cases us <;> exact wpC_pure this
  | cons n ns ih =>
    intro vs us fr s Q hk ha hr hQ
    cases hr with
    | nil => exact wpC_pure (hQ s.heap s.toks ha .refl)
    | cons r rs =>
      rename_i v u vs us
      show wpC (model prog w) c.A (do holding us (stores n u); assignInOrder (ns.map stores) us) Q E' s
      refine wpC_bind (wpC_holding (hst n fr v u s _ (hk n List.mem_cons_self) ha r fun h1 tk1 a1 e1 => ?_))
      have T : Tr s.heap st h1 st := fun b o q n' d => e1.keep b o q n' fun hm => by
        obtain ⟨_, _, o', ho', hd⟩ := ha.frm.own b hm
        rw [q] at ho'; cases ho'
        rw [imm_frame hd] at d; cases d
      exact ih vs us (setVar fr (nm n) v) { s with heap := h1, toks := tk1 } Q (fun x hx => hk x (List.mem_cons_of_mem _ hx)) a1 (rs.tr T) fun h2 tk2 a2 e2 => hQ h2 tk2 a2 (e1.trans e2)

variable {fr : Vars}

theorem assignEach_names : ∀ (ns : List (Str × Pos)) (env : Env), assignEach (ns.map fun x => Expr.Name x.1 x.2) env = ns.map fun x => (false, assign (.Name x.1 x.2) env)
  | [], _ => rfl
  | x :: ns, env => by
    show (false, assign (.Name x.1 x.2) env) :: assignEach (ns.map fun x => Expr.Name x.1 x.2) env = _
    rw [assignEach_names ns env]; rfl

theorem findIdx_false {α : Type} : ∀ (l : List (Bool × α)), (∀ x ∈ l, x.1 = false) → l.findIdx? (·.1) = none := by
  intro l h
  rw [List.findIdx?_eq_none_iff]
  intro x hx; simpa using h x hx

theorem unpack_tup {vs : List V} {u : Value} {s : Shared} {E' : Value → Shared → Prop} {Q : List Value → Shared → Prop} {n : Nat} (hh : c.A.handled = none) (ha : At hB c fr st s.heap) (hr : RelV s.heap st (.tup vs) u) (hn : n = vs.length)
    (hQ : ∀ us h', At hB c fr st h' → Ext NoX s.heap st h' st → RelVs h' st vs us → Q us { s with heap := h' }) : wpC (model prog w) c.A (unpackItems u n none) Q E' s := by
  cases hr with
  | tup ht hn' hr =>
    rename_i a us
    have e : n = us.toArray.size := by rw [hn, hr.length]; simp
    rw [e]
    refine wpC.any (unpackItems_tuple hh ht fun h' hk => ?_)
    have g := ha.grown (h' := h') fun b o q => hk b o (Nat.ne_of_lt (Heap.lt_size q)) q
    exact hQ _ h' g.1 g.2 (hr.tr g.2.tr)

/-- a tuple is taken apart, the names from left to right -/
theorem T1_unpack {elts : List Expr} {ns : List (Str × Pos)} {k tpos pos} {e : Expr} {R : Fl → Vars → St → Prop}
    (h : TE prog w hB c e fr st E fun v st' => ∃ vs, v = .tup vs ∧ ns.length = vs.length ∧ R .next (setVars fr (ns.map (·.1)) vs) st')
    (hh : c.A.handled = none) (he : namesOf elts = some ns) (hk : ∀ x ∈ ns, CanStore c x.1)
    (hs : swapsWithSole [.Tuple elts k tpos] e pos.line c.env = pure false)
    (hw : swappedStores [.Tuple elts k tpos] e c.env = pure none) : T1 prog w hB c (.Assign [.Tuple elts k tpos] e pos) fr st E R := by
  intro s Q ha hQ
  have he' := namesOf_eq he
  rw [PyProof.Rows.exec_Assign]
  refine wpC_bind (wpC_standAt ?_)
  rw [hs]
  refine wpC_bind (wpC_pure ?_)
  rw [if_neg (by decide)]
  refine wpC_bind (h s _ ha fun v st1 u h1 tk1 hR a1 e1 r1 => ?_)
  obtain ⟨vs, rfl, hlen, hR⟩ := hR
  rw [hw]
  refine wpC_bind (wpC_pure ?_)
  show wpC _ c.A (do assignAll u [assign (.Tuple elts k tpos) c.env]; pure .next) Q _ _
  refine wpC_bind ?_
  show wpC _ c.A (assign (.Tuple elts k tpos) c.env u) _ _ _
  rw [PyProof.Rows.assign_Tuple]
  refine wpC_bind (wpC_standAt ?_)
  unfold unpack
  rw [he', assignEach_names, findIdx_false _ (by intro x hx; obtain ⟨y, _, rfl⟩ := List.mem_map.mp hx; rfl)]
  refine wpC_bind (wpC_holding (unpack_tup hh a1 r1 (by simpa using hlen) fun us h2 a2 e2 r2 => ?_))
  rw [List.map_map]
  refine inOrder (·.1) (fun x => assign (.Name x.1 x.2) c.env) (fun x fr v u s Q hx ha hr hQ => cAssign (wpC.any (storeName_any ha hr hx hQ))) ns vs us fr { s with heap := h2, toks := tk1 } _ hk a2 r2 fun h3 tk3 a3 e3 => ?_
  exact wpC_pure (hQ .next _ _ .next h3 tk3 hR a3 ((e1.trans e2).weaken.trans e3) .next)

/-- the same with the stores turned about -/
theorem T1_unpack_swapped {elts : List Expr} {names : List Str} {k tpos pos} {e : Expr} {R : Fl → Vars → St → Prop}
    (h : TE prog w hB c e fr st E fun v st' => ∃ vs, v = .tup vs ∧ names.length = vs.length ∧ R .next (setVars fr names.reverse vs.reverse) st')
    (hh : c.A.handled = none) (hk : ∀ x ∈ names, CanStore c x)
    (hs : swapsWithSole [.Tuple elts k tpos] e pos.line c.env = pure false)
    (hw : swappedStores [.Tuple elts k tpos] e c.env = pure (some names)) : T1 prog w hB c (.Assign [.Tuple elts k tpos] e pos) fr st E R := by
  intro s Q ha hQ
  rw [PyProof.Rows.exec_Assign]
  refine wpC_bind (wpC_standAt ?_)
  rw [hs]
  refine wpC_bind (wpC_pure ?_)
  rw [if_neg (by decide)]
  refine wpC_bind (h s _ ha fun v st1 u h1 tk1 hR a1 e1 r1 => ?_)
  obtain ⟨vs, rfl, hlen, hR⟩ := hR
  rw [hw]
  refine wpC_bind (wpC_pure ?_)
  show wpC _ c.A (do rule "assign.swapped-stores"; let items ← unpackItems u names.length none; assignInOrder (names.reverse.map fun n => bindName c.env n) items.reverse; pure .next) Q _ _
  refine wpC_bind (wpC_rule (wpC_bind (unpack_tup hh a1 r1 hlen fun us h2 a2 e2 r2 => ?_)))
  refine wpC_bind (inOrder id (fun x => bindName c.env x) (fun x fr v u s Q hx ha hr hQ => cBind (wpC.any (storeName_any ha hr hx hQ))) names.reverse vs.reverse us.reverse fr { s with heap := h2, toks := tk1 } _ (fun x hx => hk x (List.mem_reverse.mp hx)) a2 ?_ fun h3 tk3 a3 e3 => ?_)
  · have rev : ∀ {vs : List V} {us : List Value}, RelVs h2 st1 vs us → RelVs h2 st1 vs.reverse us.reverse := by
      intro vs us r
      induction vs generalizing us with
      | nil => cases r; exact .nil
      | cons v vs ih => cases r with | cons a b => rw [List.reverse_cons, List.reverse_cons]; exact (ih b).append (.cons a .nil)
    exact rev r2
  · rw [List.map_id] at a3
    exact wpC_pure (hQ .next _ _ .next h3 tk3 hR a3 ((e1.trans e2).weaken.trans e3) .next)
end
end Mine
end
section
open PySem PySem.W PyProof.Rows PySem.Calls
set_option maxRecDepth 100000
namespace Mine

theorem mapSeq_list (f : Array Value → Array Value) (its : Array Value) (n : Nat) : ∃ n', Obj.mapSeq f (W.listOf its n) = W.listOf (f its) n' := by
  simp [Obj.mapSeq, W.listOf]
theorem update_list {h : Heap} {l : Addr} {its : Array Value} {n : Nat} {us : List Value} (ho : h.get? l = some (W.listOf its n)) (f : Array Value → Array Value) (e : f its = us.toArray) : ∃ k, (h.update l (Obj.mapSeq f)).get? l = some (W.listOf us.toArray k) := by
  obtain ⟨k, hk⟩ := mapSeq_list f its n
  exact ⟨k, by rw [Heap.get?_update_self _ ho (by rw [hk]; rfl), hk, e]⟩

section
variable {prog : Program} {w : World} {hB : Heap} {c : Cx} {fr : Vars} {st : St} {E : EE}

theorem meth_list {l : Addr} {xs : List V} {name : Str} {id : String} (hl : st l = some (.list xs)) (slot : Slot "list" name id) (hty : typeOf (.builtin id) = pure (.type "method_descriptor")) : MethB prog w hB c fr st (.ref l) name (.builtin id) := by
  intro s Q E pl wo ha hr hQ
  (first | obtain rfl := RelV.i_val hr | obtain rfl := RelV.i_ref hr | obtain ⟨_, rfl⟩ := RelV.i_int hr | obtain ⟨_, rfl⟩ := RelV.i_str hr | obtain ⟨_, rfl⟩ := RelV.i_bytes hr | obtain rfl := RelV.i_bool hr | obtain rfl := RelVs.i_nil hr | cases hr)
  obtain ⟨_, _, ho, _⟩ := ha.list hl
  exact getMethod_builtin (T := "list") ⟨_, ho, rfl⟩ F.plainAttrs_list slot hty (fun a e => by cases e; exact ⟨_, ho, rfl⟩) (hQ s.toks)

theorem m_append {l : Addr} {xs : List V} (hl : st l = some (.list xs)) : MethB prog w hB c fr st (.ref l) "append" (.builtin "list.append") := meth_list hl slot_list_append type_list_append
theorem m_pop {l : Addr} {xs : List V} (hl : st l = some (.list xs)) : MethB prog w hB c fr st (.ref l) "pop" (.builtin "list.pop") := meth_list hl F.slot_list_pop F.type_list_pop
theorem m_insert {l : Addr} {xs : List V} (hl : st l = some (.list xs)) : MethB prog w hB c fr st (.ref l) "insert" (.builtin "list.insert") := meth_list hl F.slot_list_insert F.type_list_insert

theorem pop_meets (l : Addr) (us : Array Value) (n k : Nat) (i : Int) (t0 : Tok) (u : Value) (f1 : Builtin.List.listFitsIndex i = true) (e1 : seqIndex? i us.size = some k) (f2 : us[k]? = some u) (f3 : us.size ≤ sizeLine) :
    Meets (Builtin.«list.pop» ⟨[.ref l, .int i t0], []⟩)
      (fun _ R s => s.heap.get? l = some { cls := .type "list", dict := none, data := .seq us n, slots := #[] } ∧ R (.ok (.ret u)) { s with heap := s.heap.update l (Obj.mapSeq fun xs => xs.eraseIdxIfInBounds k) }) :=
  MeetsSeq.list_pop_at l us n i t0 k u f1 e1 f2 f3
/-- a list turned by one of its own methods -/
theorem turned {l : Addr} {xs ys : List V} {R : V → St → Prop} {s : Shared} {Q : Value → Shared → Prop} {us : List Value} {k tk : Nat} {h' : Heap} {v : V} {u : Value} (hl : st l = some (.list xs)) (ha : At hB c fr st s.heap)
    (hs : Heap.SameBut l s.heap h') (ho : h'.get? l = some (W.listOf us.toArray k)) (hr : RelVs s.heap st ys us) (hv : RelV s.heap st v u) (h : R v (st.set l (.list ys)))
    (hQ : ∀ v st' u h' tk', R v st' → At hB c fr st' h' → Ext NoX s.heap st h' st' → RelV h' st' v u → Q u { s with heap := h', toks := tk' }) : Q u { s with heap := h', toks := tk } := by
  have := ha.update (o' := .list ys) hl hs fun st' k' => ⟨us, k, ho, hr.tr k'⟩
  exact hQ _ _ _ h' tk h this.1 this.2 (hv.tr this.2.tr)

theorem K_append {l : Addr} {xs : List V} {v : V} {R : V → St → Prop} (hl : st l = some (.list xs)) (hz : xs.length ≤ 1000000) (h : R .none (st.set l (.list (xs ++ [v])))) :
    TC prog w hB c c.A (.val (.builtin "list.append")) [.ref l, v] fr st E R := by
  intro s Q wf ws ha rf rs hQ
  (first | obtain rfl := RelV.i_val rf | obtain rfl := RelV.i_ref rf | obtain ⟨_, rfl⟩ := RelV.i_int rf | obtain ⟨_, rfl⟩ := RelV.i_str rf | obtain ⟨_, rfl⟩ := RelV.i_bytes rf | obtain rfl := RelV.i_bool rf | obtain rfl := RelVs.i_nil rf | cases rf)
  cases rs with
  | cons r rs =>
    (first | obtain rfl := RelV.i_val r | obtain rfl := RelV.i_ref r | obtain ⟨_, rfl⟩ := RelV.i_int r | obtain ⟨_, rfl⟩ := RelV.i_str r | obtain ⟨_, rfl⟩ := RelV.i_bytes r | obtain rfl := RelV.i_bool r | obtain rfl := RelVs.i_nil r | cases r)
    cases rs with
    | cons rv rn =>
      (first | obtain rfl := RelV.i_val rn | obtain rfl := RelV.i_ref rn | obtain ⟨_, rfl⟩ := RelV.i_int rn | obtain ⟨_, rfl⟩ := RelV.i_str rn | obtain ⟨_, rfl⟩ := RelV.i_bytes rn | obtain rfl := RelV.i_bool rn | obtain rfl := RelVs.i_nil rn | cases rn)
      obtain ⟨us, n, ho, hr⟩ := ha.list hl
      have hlen := hr.length
      refine wpC.any (append_at ho (fun h' hs ho' => ?_) (by have := sizeLine_ge; simp; omega))
      exact turned (tk := s.toks) (us := us ++ [_]) (k := n + 1) hl ha hs (by rw [ho']; simp [W.listOf]) (hr.append (.cons rv .nil)) .none h hQ

theorem K_pop {l : Addr} {xs : List V} {i : Nat} {j : Int} {v : V} {R : V → St → Prop} (hj : j = i) (hl : st l = some (.list xs)) (hz : xs.length ≤ 1000000) (hv : xs[i]? = some v) (h : R v (st.set l (.list (xs.eraseIdx i)))) :
    TC prog w hB c c.A (.val (.builtin "list.pop")) [.ref l, .int j] fr st E R := by
  intro s Q wf ws ha rf rs hQ
  (first | obtain rfl := RelV.i_val rf | obtain rfl := RelV.i_ref rf | obtain ⟨_, rfl⟩ := RelV.i_int rf | obtain ⟨_, rfl⟩ := RelV.i_str rf | obtain ⟨_, rfl⟩ := RelV.i_bytes rf | obtain rfl := RelV.i_bool rf | obtain rfl := RelVs.i_nil rf | cases rf)
  cases rs with
  | cons r rs =>
    (first | obtain rfl := RelV.i_val r | obtain rfl := RelV.i_ref r | obtain ⟨_, rfl⟩ := RelV.i_int r | obtain ⟨_, rfl⟩ := RelV.i_str r | obtain ⟨_, rfl⟩ := RelV.i_bytes r | obtain rfl := RelV.i_bool r | obtain rfl := RelVs.i_nil r | cases r)
    cases rs with
    | cons rv rn =>
      (first | obtain rfl := RelV.i_val rn | obtain rfl := RelV.i_ref rn | obtain ⟨_, rfl⟩ := RelV.i_int rn | obtain ⟨_, rfl⟩ := RelV.i_str rn | obtain ⟨_, rfl⟩ := RelV.i_bytes rn | obtain rfl := RelV.i_bool rn | obtain rfl := RelVs.i_nil rn | cases rn)
      (first | obtain rfl := RelV.i_val rv | obtain rfl := RelV.i_ref rv | obtain ⟨_, rfl⟩ := RelV.i_int rv | obtain ⟨_, rfl⟩ := RelV.i_str rv | obtain ⟨_, rfl⟩ := RelV.i_bytes rv | obtain rfl := RelV.i_bool rv | obtain rfl := RelVs.i_nil rv | cases rv)
      obtain ⟨us, n, ho, hr⟩ := ha.list hl
      have hlen := hr.length
      obtain ⟨u, hu, hru⟩ := hr.get i hv
      have hi : i < us.length := (List.getElem?_eq_some_iff.mp hu).1
      have e1 : seqIndex? j us.toArray.size = some i := by
        subst hj
        have h2 : (i : Int) < us.length := by omega
        have h3 : ¬ (i : Int) < 0 := by omega
        simp [seqIndex?, h2, h3]
      have f1 : Builtin.List.listFitsIndex j = true := by simp [Builtin.List.listFitsIndex]; omega
      have f2 : us.toArray[i]? = some u := by simpa using hu
      have f3 : us.toArray.size ≤ sizeLine := by have := sizeLine_ge; simp; omega
      rename_i t0
      have M := pop_meets l (List.toArray us) n i j t0 u f1 e1 f2 f3
      refine wpC.any (call_meets (S := _) F.slot_list_pop (self := .ref l) (rest := [.int j t0]) ⟨_, ho, rfl⟩ F.entry_list_pop (F.args_list_pop_2 _ _) M ?_)
      refine ⟨ho, ?_⟩
      obtain ⟨k, hk⟩ := update_list ho (us := us.eraseIdx i) (fun xs => xs.eraseIdxIfInBounds i) (by simp [Array.eraseIdxIfInBounds, hi])
      refine turned (tk := s.toks) (us := us.eraseIdx i) (k := k) hl ha (Heap.SameBut.update ..) hk ?_ hru h hQ
      · have era : ∀ {i : Nat} {xs : List V} {us : List Value}, RelVs s.heap st xs us → RelVs s.heap st (xs.eraseIdx i) (us.eraseIdx i) := by
          intro i xs us r
          induction r using RelVs.rec (motive_1 := fun _ _ _ => True) generalizing i with
          | nil => exact .nil
          | cons a b _ ih => cases i with
            | zero => exact b
            | succ i => exact .cons a ih
          | _ => trivial
        exact era hr

theorem K_pop0 {l : Addr} {xs : List V} {v : V} {R : V → St → Prop} (hl : st l = some (.list (xs ++ [v]))) (hz : xs.length ≤ 999999) (h : R v (st.set l (.list xs))) :
    TC prog w hB c c.A (.val (.builtin "list.pop")) [.ref l] fr st E R := by
  intro s Q wf ws ha rf rs hQ
  (first | obtain rfl := RelV.i_val rf | obtain rfl := RelV.i_ref rf | obtain ⟨_, rfl⟩ := RelV.i_int rf | obtain ⟨_, rfl⟩ := RelV.i_str rf | obtain ⟨_, rfl⟩ := RelV.i_bytes rf | obtain rfl := RelV.i_bool rf | obtain rfl := RelVs.i_nil rf | cases rf)
  cases rs with
  | cons r rs =>
    (first | obtain rfl := RelV.i_val r | obtain rfl := RelV.i_ref r | obtain ⟨_, rfl⟩ := RelV.i_int r | obtain ⟨_, rfl⟩ := RelV.i_str r | obtain ⟨_, rfl⟩ := RelV.i_bytes r | obtain rfl := RelV.i_bool r | obtain rfl := RelVs.i_nil r | cases r)
    (first | obtain rfl := RelV.i_val rs | obtain rfl := RelV.i_ref rs | obtain ⟨_, rfl⟩ := RelV.i_int rs | obtain ⟨_, rfl⟩ := RelV.i_str rs | obtain ⟨_, rfl⟩ := RelV.i_bytes rs | obtain rfl := RelV.i_bool rs | obtain rfl := RelVs.i_nil rs | cases rs)
    obtain ⟨us, n, ho, hr⟩ := ha.list hl
    have hlen := hr.length
    simp only [List.length_append, List.length_singleton] at hlen
    obtain ⟨u, hu, hru⟩ := hr.get xs.length (v := v) (by simp)
    have e1 : us.length - 1 = xs.length := by omega
    have hs : us = us.take xs.length ++ [u] := by
      have h1 := List.take_append_drop xs.length us
      have h2 : us.drop xs.length = [u] := by
        rw [List.drop_eq_getElem?_toList_append, hu]
        simp; omega
      rw [h2] at h1
      exact h1.symm
    refine wpC.any (call_meets F.slot_list_pop ⟨_, ho, rfl⟩ F.entry_list_pop (F.args_list_pop_1 _)
      (MeetsSeq.list_pop_last l us.toArray n u (by simp [e1, hu]) (by have := sizeLine_ge; simp; omega)) ⟨ho, ?_⟩)
    obtain ⟨k, hk⟩ := update_list ho (us := us.take xs.length) (fun xs => xs.eraseIdxIfInBounds (us.toArray.size - 1)) (by
      have h1 : xs.length < us.length := by omega
      simp [Array.eraseIdxIfInBounds, e1, h1]
      rw [List.eraseIdx_eq_take_drop_succ]
      have : us.drop (xs.length + 1) = [] := List.drop_of_length_le (by omega)
      rw [this]; simp)
    refine turned (tk := s.toks) (us := us.take xs.length) (k := k) hl ha (Heap.SameBut.update ..) hk ?_ hru h hQ
    · have := hr.take xs.length
      simpa using this

theorem K_insert0 {l : Addr} {xs : List V} {v : V} {R : V → St → Prop} (hl : st l = some (.list xs)) (hz : xs.length ≤ 1000000) (h : R .none (st.set l (.list (v :: xs)))) :
    TC prog w hB c c.A (.val (.builtin "list.insert")) [.ref l, .int 0, v] fr st E R := by
  intro s Q wf ws ha rf rs hQ
  (first | obtain rfl := RelV.i_val rf | obtain rfl := RelV.i_ref rf | obtain ⟨_, rfl⟩ := RelV.i_int rf | obtain ⟨_, rfl⟩ := RelV.i_str rf | obtain ⟨_, rfl⟩ := RelV.i_bytes rf | obtain rfl := RelV.i_bool rf | obtain rfl := RelVs.i_nil rf | cases rf)
  cases rs with
  | cons r rs =>
    (first | obtain rfl := RelV.i_val r | obtain rfl := RelV.i_ref r | obtain ⟨_, rfl⟩ := RelV.i_int r | obtain ⟨_, rfl⟩ := RelV.i_str r | obtain ⟨_, rfl⟩ := RelV.i_bytes r | obtain rfl := RelV.i_bool r | obtain rfl := RelVs.i_nil r | cases r)
    cases rs with
    | cons r0 rs =>
      (first | obtain rfl := RelV.i_val r0 | obtain rfl := RelV.i_ref r0 | obtain ⟨_, rfl⟩ := RelV.i_int r0 | obtain ⟨_, rfl⟩ := RelV.i_str r0 | obtain ⟨_, rfl⟩ := RelV.i_bytes r0 | obtain rfl := RelV.i_bool r0 | obtain rfl := RelVs.i_nil r0 | cases r0)
      cases rs with
      | cons rv rn =>
        (first | obtain rfl := RelV.i_val rn | obtain rfl := RelV.i_ref rn | obtain ⟨_, rfl⟩ := RelV.i_int rn | obtain ⟨_, rfl⟩ := RelV.i_str rn | obtain ⟨_, rfl⟩ := RelV.i_bytes rn | obtain rfl := RelV.i_bool rn | obtain rfl := RelVs.i_nil rn | cases rn)
        obtain ⟨us, n, ho, hr⟩ := ha.list hl
        have hlen := hr.length
        refine wpC.any (call_meets F.slot_list_insert ⟨_, ho, rfl⟩ F.entry_list_insert (F.args_list_insert_3 _ _ _)
          (AutoListH.list_insert_list_int_val_1 l us.toArray n 0 _ _ (by simp [Builtin.List.listFitsIndex]) (by have := sizeLine_ge; simp; omega)) ⟨ho, ?_⟩)
        rename_i u
        obtain ⟨k, hk⟩ := update_list ho (us := u :: us) (fun xs => have k := if (0 : Int) < 0 then ((0 : Int) + ((xs.size : Nat) : Int)).toNat else min (0 : Int).toNat xs.size; (xs.extract 0 k).push u ++ xs.extract k) (by simp)
        exact turned (tk := s.toks) (us := u :: us) (k := k) hl ha (Heap.SameBut.update ..) hk (.cons rv hr) .none h hQ

/-- a store to an item -/
theorem S_list {l : Addr} {xs : List V} {i : Nat} {j : Int} {v : V} {P : St → Prop} (hj : j = i) (hl : st l = some (.list xs)) (hi : i < xs.length) (hz : xs.length ≤ 1000000) (h : P (st.set l (.list (xs.set i v)))) :
    TSetI prog w hB c v (.ref l) (.int j) fr st E P := by
  subst hj
  intro s Q wv wo wi ha rv ro ri hQ
  (first | obtain rfl := RelV.i_val ro | obtain rfl := RelV.i_ref ro | obtain ⟨_, rfl⟩ := RelV.i_int ro | obtain ⟨_, rfl⟩ := RelV.i_str ro | obtain ⟨_, rfl⟩ := RelV.i_bytes ro | obtain rfl := RelV.i_bool ro | obtain rfl := RelVs.i_nil ro | cases ro); (first | obtain rfl := RelV.i_val ri | obtain rfl := RelV.i_ref ri | obtain ⟨_, rfl⟩ := RelV.i_int ri | obtain ⟨_, rfl⟩ := RelV.i_str ri | obtain ⟨_, rfl⟩ := RelV.i_bytes ri | obtain rfl := RelV.i_bool ri | obtain rfl := RelVs.i_nil ri | cases ri)
  obtain ⟨us, n, ho, hr⟩ := ha.list hl
  have hlen := hr.length
  obtain ⟨k, hk⟩ := update_list ho (us := us.set i wv) (·.setIfInBounds i wv) (by simp)
  refine ki_setAt ho (by omega) (by omega) (by simp; omega) ?_
  have st' : ∀ {i : Nat} {xs : List V} {us : List Value}, RelVs s.heap st xs us → RelVs s.heap st (xs.set i v) (us.set i wv) := by
    intro i xs us r
    induction r using RelVs.rec (motive_1 := fun _ _ _ => True) generalizing i with
    | nil => exact .nil
    | cons a b _ ih => cases i with
      | zero => exact .cons rv b
      | succ i => exact .cons a ih
    | _ => trivial
  have := ha.update (o' := .list (xs.set i v)) hl (h' := s.heap.update l (Obj.mapSeq (·.setIfInBounds i wv))) (Heap.SameBut.update ..) fun st'' k' => ⟨us.set i wv, k, hk, (st' hr).tr k'⟩
  exact hQ _ _ s.toks h this.1 this.2
end
end Mine
end
section
open PySem PySem.W PyProof.Rows PySem.Calls
set_option maxRecDepth 100000
namespace Mine

section
variable {prog : Program} {w : World} {hB : Heap} {c : Cx} {fr : Vars} {st : St} {E : EE}

theorem getD_at {α : Type} {l : List α} {j : Nat} {d : α} (h : j < l.length) : l.getD j d = l[j] := by simp [List.getD, h]
theorem max_ints {s : Shared} {A : Around} {E' : Value → Shared → Prop} {l : Addr} {vs : List Value} {ns : List Int} {Q : Value → Shared → Prop} {prog : Program} {w : World} (hh : A.handled = none) (hl : s.heap.IsList l vs.toArray) (hi : IntsAre vs ns) (hne : 0 < ns.length)
    (h : ∀ h' X (t : Tok) tk, (∀ b o, s.heap.get? b = some o → h'.get? b = some o) → X ∈ ns → (∀ a, a ∈ ns → a ≤ X) → Q (.int X t) { s with heap := h', toks := tk }) :
    wpAny (model prog w) A (call (.builtin "max") [.ref l]) Q E' s := by
  obtain ⟨xs, e⟩ := hi.allInts.items
  have hns : ns = xs.toList.map (·.1) := by rw [← hi.numsOf, ← nums_intItems, ← e]
  have hsz : 0 < xs.size := by rw [hns, List.length_map, Array.length_toList] at hne; exact hne
  rw [e] at hl
  refine max_intList hh hl hsz fun v h' tk hv hk => ?_
  obtain ⟨t, rfl⟩ := intItems_at hv
  obtain ⟨h1, h2⟩ := argBest_gt (numAt xs) (xs.size - 1)
  have key : ∀ j, j < xs.size → numAt xs j ∈ ns := fun j hj => by
    rw [hns, numAt_eq, getD_at (by simpa using hj)]
    exact List.getElem_mem _
  refine h _ _ t tk hk (key _ (by omega)) fun a ha => ?_
  rw [hns] at ha
  obtain ⟨j, hj, rfl⟩ := List.getElem_of_mem ha
  rw [List.length_map, Array.length_toList] at hj
  have := h2 j (by omega)
  rw [numAt_eq, getD_at (by simpa using hj)] at this
  exact this

theorem K_max {a : Addr} {ns : List Int} {R : V → St → Prop} (ea : st a = some (.list (ns.map V.int))) (hne : 0 < ns.length) (hh : c.A.handled = none) (h : ∀ X, X ∈ ns → (∀ a, a ∈ ns → a ≤ X) → R (.int X) st) :
    TC prog w hB c c.A (.val (.builtin "max")) [.ref a] fr st E R := by
  intro s Q wf ws ha rf rs hQ
  (first | obtain rfl := RelV.i_val rf | obtain rfl := RelV.i_ref rf | obtain ⟨_, rfl⟩ := RelV.i_int rf | obtain ⟨_, rfl⟩ := RelV.i_str rf | obtain ⟨_, rfl⟩ := RelV.i_bytes rf | obtain rfl := RelV.i_bool rf | obtain rfl := RelVs.i_nil rf | cases rf)
  cases rs with
  | cons r rn =>
    (first | obtain rfl := RelV.i_val rn | obtain rfl := RelV.i_ref rn | obtain ⟨_, rfl⟩ := RelV.i_int rn | obtain ⟨_, rfl⟩ := RelV.i_str rn | obtain ⟨_, rfl⟩ := RelV.i_bytes rn | obtain rfl := RelV.i_bool rn | obtain rfl := RelVs.i_nil rn | cases rn); (first | obtain rfl := RelV.i_val r | obtain rfl := RelV.i_ref r | obtain ⟨_, rfl⟩ := RelV.i_int r | obtain ⟨_, rfl⟩ := RelV.i_str r | obtain ⟨_, rfl⟩ := RelV.i_bytes r | obtain rfl := RelV.i_bool r | obtain rfl := RelVs.i_nil r | cases r)
    obtain ⟨us, n, ho, hr⟩ := ha.list ea
    refine wpC.any (max_ints hh (isList_of ho) (ints_of hr) hne fun h' X t tk hk h1 h2 => ?_)
    have g := ha.grown hk
    exact hQ (.int X) st _ h' tk (h X h1 h2) g.1 g.2 (.int X t)

theorem K_int_bool {b : Bool} {R : V → St → Prop} (h : R (.int (if b then 1 else 0)) st) : TC prog w hB c c.A (.val (.type "int")) [.bool b] fr st E R := by
  intro s Q wf ws ha rf rs hQ
  (first | obtain rfl := RelV.i_val rf | obtain rfl := RelV.i_ref rf | obtain ⟨_, rfl⟩ := RelV.i_int rf | obtain ⟨_, rfl⟩ := RelV.i_str rf | obtain ⟨_, rfl⟩ := RelV.i_bytes rf | obtain rfl := RelV.i_bool rf | obtain rfl := RelVs.i_nil rf | cases rf)
  cases rs with
  | cons r rn => (first | obtain rfl := RelV.i_val rn | obtain rfl := RelV.i_ref rn | obtain ⟨_, rfl⟩ := RelV.i_int rn | obtain ⟨_, rfl⟩ := RelV.i_str rn | obtain ⟨_, rfl⟩ := RelV.i_bytes rn | obtain rfl := RelV.i_bool rn | obtain rfl := RelVs.i_nil rn | cases rn); (first | obtain rfl := RelV.i_val r | obtain rfl := RelV.i_ref r | obtain ⟨_, rfl⟩ := RelV.i_int r | obtain ⟨_, rfl⟩ := RelV.i_str r | obtain ⟨_, rfl⟩ := RelV.i_bytes r | obtain rfl := RelV.i_bool r | obtain rfl := RelVs.i_nil r | cases r); exact wpC.any (call_int_bool (same ha h (.int _ _) hQ))

theorem K_str {i : Int} {R : V → St → Prop} (hi : i.natAbs.log2 < 1920) (h : R (.str (toString i)) st) : TC prog w hB c c.A (.val (.type "str")) [.int i] fr st E R := by
  intro s Q wf ws ha rf rs hQ
  (first | obtain rfl := RelV.i_val rf | obtain rfl := RelV.i_ref rf | obtain ⟨_, rfl⟩ := RelV.i_int rf | obtain ⟨_, rfl⟩ := RelV.i_str rf | obtain ⟨_, rfl⟩ := RelV.i_bytes rf | obtain rfl := RelV.i_bool rf | obtain rfl := RelVs.i_nil rf | cases rf)
  cases rs with
  | cons r rn => (first | obtain rfl := RelV.i_val rn | obtain rfl := RelV.i_ref rn | obtain ⟨_, rfl⟩ := RelV.i_int rn | obtain ⟨_, rfl⟩ := RelV.i_str rn | obtain ⟨_, rfl⟩ := RelV.i_bytes rn | obtain rfl := RelV.i_bool rn | obtain rfl := RelVs.i_nil rn | cases rn); (first | obtain rfl := RelV.i_val r | obtain rfl := RelV.i_ref r | obtain ⟨_, rfl⟩ := RelV.i_int r | obtain ⟨_, rfl⟩ := RelV.i_str r | obtain ⟨_, rfl⟩ := RelV.i_bytes r | obtain rfl := RelV.i_bool r | obtain rfl := RelVs.i_nil r | cases r); exact wpC.any (P.str_of_int hi (same ha h (.str _ _) hQ))

theorem K_isi_int_int {i : Int} {R : V → St → Prop} (h : R (.bool true) st) : TC prog w hB c c.A (.val (.builtin "isinstance")) [.int i, .val (.type "int")] fr st E R := by
  intro s Q wf ws ha rf rs hQ
  (first | obtain rfl := RelV.i_val rf | obtain rfl := RelV.i_ref rf | obtain ⟨_, rfl⟩ := RelV.i_int rf | obtain ⟨_, rfl⟩ := RelV.i_str rf | obtain ⟨_, rfl⟩ := RelV.i_bytes rf | obtain rfl := RelV.i_bool rf | obtain rfl := RelVs.i_nil rf | cases rf)
  cases rs with
  | cons r rs => cases rs with
    | cons r2 rn => (first | obtain rfl := RelV.i_val rn | obtain rfl := RelV.i_ref rn | obtain ⟨_, rfl⟩ := RelV.i_int rn | obtain ⟨_, rfl⟩ := RelV.i_str rn | obtain ⟨_, rfl⟩ := RelV.i_bytes rn | obtain rfl := RelV.i_bool rn | obtain rfl := RelVs.i_nil rn | cases rn); (first | obtain rfl := RelV.i_val r | obtain rfl := RelV.i_ref r | obtain ⟨_, rfl⟩ := RelV.i_int r | obtain ⟨_, rfl⟩ := RelV.i_str r | obtain ⟨_, rfl⟩ := RelV.i_bytes r | obtain rfl := RelV.i_bool r | obtain rfl := RelVs.i_nil r | cases r); (first | obtain rfl := RelV.i_val r2 | obtain rfl := RelV.i_ref r2 | obtain ⟨_, rfl⟩ := RelV.i_int r2 | obtain ⟨_, rfl⟩ := RelV.i_str r2 | obtain ⟨_, rfl⟩ := RelV.i_bytes r2 | obtain rfl := RelV.i_bool r2 | obtain rfl := RelVs.i_nil r2 | cases r2); exact wpC.any (IsiPair.int_int (same (tk := s.toks) ha h (.bool _) hQ))
theorem K_isi_int_bool {i : Int} {R : V → St → Prop} (h : R (.bool false) st) : TC prog w hB c c.A (.val (.builtin "isinstance")) [.int i, .val (.type "bool")] fr st E R := by
  intro s Q wf ws ha rf rs hQ
  (first | obtain rfl := RelV.i_val rf | obtain rfl := RelV.i_ref rf | obtain ⟨_, rfl⟩ := RelV.i_int rf | obtain ⟨_, rfl⟩ := RelV.i_str rf | obtain ⟨_, rfl⟩ := RelV.i_bytes rf | obtain rfl := RelV.i_bool rf | obtain rfl := RelVs.i_nil rf | cases rf)
  cases rs with
  | cons r rs => cases rs with
    | cons r2 rn => (first | obtain rfl := RelV.i_val rn | obtain rfl := RelV.i_ref rn | obtain ⟨_, rfl⟩ := RelV.i_int rn | obtain ⟨_, rfl⟩ := RelV.i_str rn | obtain ⟨_, rfl⟩ := RelV.i_bytes rn | obtain rfl := RelV.i_bool rn | obtain rfl := RelVs.i_nil rn | cases rn); (first | obtain rfl := RelV.i_val r | obtain rfl := RelV.i_ref r | obtain ⟨_, rfl⟩ := RelV.i_int r | obtain ⟨_, rfl⟩ := RelV.i_str r | obtain ⟨_, rfl⟩ := RelV.i_bytes r | obtain rfl := RelV.i_bool r | obtain rfl := RelVs.i_nil r | cases r); (first | obtain rfl := RelV.i_val r2 | obtain rfl := RelV.i_ref r2 | obtain ⟨_, rfl⟩ := RelV.i_int r2 | obtain ⟨_, rfl⟩ := RelV.i_str r2 | obtain ⟨_, rfl⟩ := RelV.i_bytes r2 | obtain rfl := RelV.i_bool r2 | obtain rfl := RelVs.i_nil r2 | cases r2); exact wpC.any (IsiPair.int_bool (same ha h (.bool _) hQ))
theorem K_isi_tup {vs : List V} {R : V → St → Prop} (h : R (.bool true) st) : TC prog w hB c c.A (.val (.builtin "isinstance")) [.tup vs, .val (.type "tuple")] fr st E R := by
  intro s Q wf ws ha rf rs hQ
  (first | obtain rfl := RelV.i_val rf | obtain rfl := RelV.i_ref rf | obtain ⟨_, rfl⟩ := RelV.i_int rf | obtain ⟨_, rfl⟩ := RelV.i_str rf | obtain ⟨_, rfl⟩ := RelV.i_bytes rf | obtain rfl := RelV.i_bool rf | obtain rfl := RelVs.i_nil rf | cases rf)
  cases rs with
  | cons r rs => cases rs with
    | cons r2 rn =>
      (first | obtain rfl := RelV.i_val rn | obtain rfl := RelV.i_ref rn | obtain ⟨_, rfl⟩ := RelV.i_int rn | obtain ⟨_, rfl⟩ := RelV.i_str rn | obtain ⟨_, rfl⟩ := RelV.i_bytes rn | obtain rfl := RelV.i_bool rn | obtain rfl := RelVs.i_nil rn | cases rn); (first | obtain rfl := RelV.i_val r2 | obtain rfl := RelV.i_ref r2 | obtain ⟨_, rfl⟩ := RelV.i_int r2 | obtain ⟨_, rfl⟩ := RelV.i_str r2 | obtain ⟨_, rfl⟩ := RelV.i_bytes r2 | obtain rfl := RelV.i_bool r2 | obtain rfl := RelVs.i_nil r2 | cases r2)
      cases r with
      | tup ht hn hr =>
        obtain ⟨o, ho, hc, _⟩ := ht
        exact wpC.any (IsiPair.tuple_tuple ho hc (same (tk := s.toks) ha h (.bool _) hQ))

theorem bytes_ints {b : List UInt8} : byteArr (b.map fun x => (x.toNat : Int)) = b.toArray := by
  unfold byteArr
  rw [List.map_map]
  congr 1
  conv => rhs; rw [← List.map_id b]
  apply List.map_congr_left
  intro x _
  simp
theorem K_bytes_list {a : Addr} {b : List UInt8} {R : V → St → Prop} (ea : st a = some (.list (b.map fun x => V.int x.toNat))) (hz : b.length ≤ 1000000) (hh : c.A.handled = none) (h : R (.bytes b) st) :
    TC prog w hB c c.A (.val (.type "bytes")) [.ref a] fr st E R := by
  intro s Q wf ws ha rf rs hQ
  (first | obtain rfl := RelV.i_val rf | obtain rfl := RelV.i_ref rf | obtain ⟨_, rfl⟩ := RelV.i_int rf | obtain ⟨_, rfl⟩ := RelV.i_str rf | obtain ⟨_, rfl⟩ := RelV.i_bytes rf | obtain rfl := RelV.i_bool rf | obtain rfl := RelVs.i_nil rf | cases rf)
  cases rs with
  | cons r rn =>
    (first | obtain rfl := RelV.i_val rn | obtain rfl := RelV.i_ref rn | obtain ⟨_, rfl⟩ := RelV.i_int rn | obtain ⟨_, rfl⟩ := RelV.i_str rn | obtain ⟨_, rfl⟩ := RelV.i_bytes rn | obtain rfl := RelV.i_bool rn | obtain rfl := RelVs.i_nil rn | cases rn); (first | obtain rfl := RelV.i_val r | obtain rfl := RelV.i_ref r | obtain ⟨_, rfl⟩ := RelV.i_int r | obtain ⟨_, rfl⟩ := RelV.i_str r | obtain ⟨_, rfl⟩ := RelV.i_bytes r | obtain rfl := RelV.i_bool r | obtain rfl := RelVs.i_nil r | cases r)
    obtain ⟨us, n, ho, hr⟩ := ha.list ea
    have hr' : RelVs s.heap st ((b.map fun x => (x.toNat : Int)).map V.int) us := by rw [List.map_map]; exact hr
    have hl := hr.length
    simp only [List.length_map] at hl
    refine wpC.any (call_bytes_ints (isList_of ho) (ints_of hr') (by
      intro k hk
      obtain ⟨x, _, rfl⟩ := List.mem_map.mp hk
      have := x.toNat_lt
      omega) (by have := sizeLine_ge; omega) hh fun h' t k hk => ?_)
    rw [bytes_ints]
    have g := ha.grown hk
    exact hQ (.bytes b) st _ h' k h g.1 g.2 (.bytes b t)

theorem ints_at {h : Heap} : ∀ {ws : List Value} {k : Nat} {f : Nat → Int}, (∀ (j : Nat) (v : Value), ws[j]? = some v → ∃ t, v = Value.int (f (k + j)) t) → RelVs h st ((List.range' k ws.length).map fun (j : Nat) => V.int (f j)) ws
  | [], _, _, _ => .nil
  | w :: ws, k, f, hj => by
    obtain ⟨t, ht⟩ := hj 0 w rfl
    subst ht
    refine RelVs.cons (RelV.int _ _) (ints_at (k := k + 1) fun j v e => ?_)
    obtain ⟨t, ht⟩ := hj (j + 1) v (by simpa using e)
    exact ⟨t, by rw [ht]; congr 2; omega⟩
theorem K_list_range {n : Nat} {R : V → St → Prop} (hz : n ≤ 1000000) (hh : c.A.handled = none) (h : ∀ d, st d = none → R (.ref d) (st.set d (.list (rngItems n)))) :
    TC prog w hB c c.A (.val (.type "list")) [.rng 0 n] fr st E R := by
  intro s Q wf ws ha rf rs hQ
  (first | obtain rfl := RelV.i_val rf | obtain rfl := RelV.i_ref rf | obtain ⟨_, rfl⟩ := RelV.i_int rf | obtain ⟨_, rfl⟩ := RelV.i_str rf | obtain ⟨_, rfl⟩ := RelV.i_bytes rf | obtain rfl := RelV.i_bool rf | obtain rfl := RelVs.i_nil rf | cases rf)
  cases rs with
  | cons r rn =>
    (first | obtain rfl := RelV.i_val rn | obtain rfl := RelV.i_ref rn | obtain ⟨_, rfl⟩ := RelV.i_int rn | obtain ⟨_, rfl⟩ := RelV.i_str rn | obtain ⟨_, rfl⟩ := RelV.i_bytes rn | obtain rfl := RelV.i_bool rn | obtain rfl := RelVs.i_nil rn | cases rn)
    cases r with
    | rng hr hn =>
      refine wpC.any (call_list_range hh hr (small_of hz) (rangeSize_nat n) (by omega) fun h' tk acc' c' hk hD hacc => ?_)
      have hr2 : RelVs s.heap st (rngItems n) acc'.toList := by
        have := ints_at (h := s.heap) (st := st) (ws := acc'.toList) (k := 0) (f := fun j => (j : Int)) fun j v e => by
          obtain ⟨t, ht⟩ := hacc.2 j v (by simpa using e)
          exact ⟨t, by rw [ht]; congr 1; simp⟩
        have e : acc'.toList.length = n := by rw [Array.length_toList, hacc.1]
        rw [e] at this
        unfold rngItems
        rw [List.range_eq_range']
        exact this
      have := ha.grown_list (xs := rngItems n) (ws := acc'.toList) (n := c') hr2 hk (by rw [hD])
      exact hQ _ _ _ _ tk (h _ ha.fresh) this.1 this.2 (.ref _)
end
end Mine
end
section
open PySem PySem.W PyProof.Rows PySem.Calls
set_option maxRecDepth 100000
namespace Mine

abbrev baObj (b : Array UInt8) : Obj := { cls := .type "bytearray", data := .bytearray b 0 }

section
variable {prog : Program} {w : World} {A : Around} {E : Value → Shared → Prop} {s : Shared}

theorem c_if_false {α : Type} {M : Model} {c : Bool} {a b : Sem α} {Q : α → Shared → Prop} (hc : c = false) (h : wpC M A b Q E s) : wpC M A (if c = true then a else b) Q E s := by
  subst hc
  exact h
theorem c_if_true {α : Type} {M : Model} {c : Bool} {a b : Sem α} {Q : α → Shared → Prop} (hc : c = true) (h : wpC M A a Q E s) : wpC M A (if c = true then a else b) Q E s := by
  subst hc
  exact h

theorem ba_write {S : Addr} {b : Array UInt8} {f : Array UInt8 → Array UInt8} {Q : Unit → Shared → Prop} (ho : s.heap.get? S = some (baObj b)) (hz : (f b).size ≤ sizeLine)
    (h : ∀ h', Heap.SameBut S s.heap h' → h'.get? S = some (baObj (f b)) → Q () { s with heap := h' }) : wpAny (model prog w) A (Builtin.Bytes.write (.ref S) f) Q E s := by
  show wpAny _ _ (updateBytearray S f) _ _ _
  unfold updateBytearray
  refine wpAny_bind (wpAny_load ho ?_)
  show wpAny _ _ (update S (Obj.mapBytearray f) >>= fun _ => lookBehind S) _ _ _
  refine wpAny_bind (wpAny_update ho ?_)
  have hS : (s.heap.update S (Obj.mapBytearray f)).get? S = some (baObj (f b)) := Heap.get?_update_self (Obj.mapBytearray f) ho rfl
  refine wpAny_lookBehind hS ?_ (h _ (Heap.SameBut.update ..) hS)
  show (if (f b).size > sizeLine then some "bytearray:memory" else none) = none
  rw [if_neg (by omega)]

theorem ba_release {S : Addr} {b : Array UInt8} {Q : Bool → Shared → Prop} (ho : s.heap.get? S = some (baObj b)) (h : Q false s) : wpAny (model prog w) A (Builtin.Bytes.ownRelease (.ref S)) Q E s := by
  have hT : s.TypeIs (.ref S) "bytearray" := ⟨_, ho, rfl⟩
  unfold Builtin.Bytes.ownRelease
  refine wpAny_bind ?_
  unfold Builtin.Bytes.slotIsOwn
  refine wpAny_bind (wpAny_specialOf hT BA.release ?_)
  show wpAny _ _ (if (!("bytearray.__release_buffer__" : String).endsWith ("." ++ "__release_buffer__")) = true then _ else _) _ _ _
  refine bm_if_false (by decide +kernel) ?_
  have e : ("bytearray.__release_buffer__" : String).dropRight (("__release_buffer__" : String).length + 1) = "bytearray" := by decide +kernel
  rw [e]
  refine wpAny_isInstance hT BA.sub_self ?_
  exact wpAny_pure h

theorem ba_exports {M : Model} {S : Addr} {b : Array UInt8} {Q : Bool → Shared → Prop} (ho : s.heap.get? S = some (baObj b)) (h : Q false s) :
    wpC M A (Builtin.Bytes.exported (.ref S) <||> (do return (← Builtin.Bytes.exportsOf (.ref S)) > 0)) Q E s := by
  unfold orM
  refine wpC_bind (cExported ?_)
  show wpC M A (do return decide ((← Builtin.Bytes.exportsOf (.ref S)) > 0)) Q E s
  refine wpC_bind ?_
  unfold Builtin.Bytes.exportsOf
  refine wpC.any (wpAny_bind (wpAny_load ho ?_))
  exact wpAny_pure (wpC_pure h)

theorem ba_init0 {S : Addr} {b : Array UInt8} {Q : Fin → Shared → Prop} (ho : s.heap.get? S = some (baObj b))
    (h : ∀ h', Heap.SameBut S s.heap h' → h'.get? S = some (baObj #[]) → Q (.done (.ret .none)) { s with heap := h' }) :
    wpC (model prog w) A (Builtin.«bytearray.__init__» ⟨[.ref S], []⟩) Q E s := by
  unfold Builtin.«bytearray.__init__»
  refine wpC_bind (wpC.any (ba_release ho ?_))
  refine c_if_false rfl ?_
  refine wpC_bind (wpC_of_eq BA.bind0 ?_)
  refine wpC_bind (wpC_of_eq (a := ()) rfl ?_)
  refine wpC_bind (wpC_of_eq (a := ()) rfl ?_)
  refine wpC_bind (ba_exports ho ?_)
  refine c_if_false rfl ?_
  refine wpC_bind (wpC.any (ba_write ho (Nat.zero_le _) fun h' hs ho' => ?_))
  exact wpC_bind (wpC_pure (wpC_pure (h h' hs ho')))

theorem b_buffer {id : String} {b : Array UInt8} {t : Tok} {Q : Option (Array UInt8) → Shared → Prop} (h : Q (some b) s) : wpAny (model prog w) A (Builtin.Bytes.buffer? id (.bytes b t) true) Q E s := by
  have hT : s.TypeIs (.bytes b t) "bytes" := typeIs_bytes _ _ _
  unfold Builtin.Bytes.buffer?
  refine wpAny_bind (wpAny_specialOf hT BA.bbuffer ?_)
  refine wpAny_bind ?_
  unfold Builtin.Bytes.slotIsOwn
  refine wpAny_bind (wpAny_specialOf hT BA.bbuffer ?_)
  show wpAny _ _ (if (!("bytes.__buffer__" : String).endsWith ("." ++ "__buffer__")) = true then _ else _) _ _ _
  refine bm_if_false (by decide +kernel) ?_
  have e : ("bytes.__buffer__" : String).dropRight (("__buffer__" : String).length + 1) = "bytes" := by decide +kernel
  rw [e]
  refine wpAny_isInstance hT F.bm_sub ?_
  refine bm_if_false rfl ?_
  refine wpAny_bind (wpAny_specialOf hT BA.bbuffer ?_)
  show wpAny _ _ (Builtin.Bytes.ownRelease (.bytes b t) >>= _) _ _ _
  refine wpAny_bind ?_
  unfold Builtin.Bytes.ownRelease Builtin.Bytes.slotIsOwn
  refine wpAny_bind (wpAny_bind (wpAny_specialOf hT BA.brelease ?_))
  refine wpAny_pure (wpAny_pure ?_)
  refine bm_if_false rfl ?_
  exact wpAny_bind (wpAny_pure (wpAny_pure h))

theorem ba_init1 {S : Addr} {b0 b : Array UInt8} {t : Tok} {Q : Fin → Shared → Prop} (ho : s.heap.get? S = some (baObj b0)) (hz : b.size ≤ sizeLine)
    (h : ∀ h', Heap.SameBut S s.heap h' → h'.get? S = some (baObj b) → Q (.done (.ret .none)) { s with heap := h' }) :
    wpC (model prog w) A (Builtin.«bytearray.__init__» ⟨[.ref S, .bytes b t], []⟩) Q E s := by
  unfold Builtin.«bytearray.__init__»
  refine wpC_bind (wpC.any (ba_release ho ?_))
  refine c_if_false rfl ?_
  refine wpC_bind (wpC_of_eq (BA.bind1 _) ?_)
  refine wpC_bind (wpC_of_eq (a := ()) rfl ?_)
  refine wpC_bind (wpC_of_eq (a := ()) rfl ?_)
  refine wpC_bind (ba_exports ho ?_)
  refine c_if_false rfl ?_
  refine wpC_bind (wpC.any (ba_write ho (Nat.zero_le _) fun h' hs ho' => ?_))
  refine wpC_bind (wpC_of_eq (a := none) rfl ?_)
  refine c_if_false rfl ?_
  refine wpC_bind (wpC_pure ?_)
  have hT : ({ s with heap := h' } : Shared).TypeIs (.bytes b t) "bytes" := typeIs_bytes _ _ _
  refine wpC_bind (wpC.any (wpAny_specialOf hT BA.b_no_index ?_))
  refine c_if_false rfl ?_
  refine wpC_bind (wpC.any (b_buffer ?_))
  refine wpC_bind (wpC_rule (wpC_bind (wpC.any (ba_write ho' hz fun h2 hs2 ho2 => ?_))))
  exact wpC_bind (wpC_pure (wpC_pure (h h2 (hs.trans hs2) ho2)))
end
end Mine
end
section
open PySem PySem.W PyProof.Rows PySem.Calls
set_option maxRecDepth 100000
namespace Mine

set_option maxRecDepth 1000000 in
set_option maxHeartbeats 4000000 in
theorem ba_owner : ("bytearray.__new__".splitOn ".__new__").headD "" = "bytearray" := by simp +decide [String.splitOn, String.splitOnAux]

section
variable {prog : Program} {w : World} {A : Around} {E : Value → Shared → Prop} {s : Shared}

theorem ba_new (args : List Value) (hc : checkBuiltinCall "bytearray.__new__" ⟨.type "bytearray" :: args, []⟩ = pure ()) {Q₁ : Value → Shared → Prop} (h : Q₁ (.ref s.heap.objs.size) { s with heap := s.heap.push (baObj #[]) }) :
    codeAny (model prog w) A (.call (.builtin "bytearray.__new__") ⟨.type "bytearray" :: args, []⟩) (wants Q₁ E) s := by
  refine codeAny_of_tree ?_
  show wpAny _ A.in1 (do checkBuiltinCall "bytearray.__new__" ⟨.type "bytearray" :: args, []⟩; again (.builtin "bytearray.__new__" ⟨.type "bytearray" :: args, []⟩)) _ _ s
  refine wpAny_bind (wpAny_of_eq hc (wpAny_pure ⟨plainId_quiet BA.plain_new _, codeAny_builtin_stack BA.entry_new rfl fun p st => ?_⟩))
  rw [Around.under_plainId BA.plain_new _]
  have hsub := BA.sub_self
  have hown := ba_owner
  obtain ⟨hp, g, d, tk, os⟩ := s
  simp only [hown]
  wp_walk
  exact h

theorem call_ba0 {Q : Value → Shared → Prop} (h : ∀ h', (∀ b o, s.heap.get? b = some o → h'.get? b = some o) → h'.get? s.heap.objs.size = some (baObj #[]) → Q (.ref s.heap.objs.size) { s with heap := h' }) :
    wpC (model prog w) A (call (.type "bytearray") []) Q E s := by
  refine cTypeCall (Q₁ := fun obj s₁ => obj = .ref s.heap.objs.size ∧ s₁ = { s with heap := s.heap.push (baObj #[]) }) BA.called BA.typeCall0 BA.entry_init (fun a => rfl) (ba_new [] BA.newCall0 ⟨rfl, rfl⟩) ?_
  rintro obj s₁ ⟨rfl, rfl⟩
  have hS : (s.heap.push (baObj #[])).get? s.heap.objs.size = some (baObj #[]) := Heap.get?_push_size _ rfl
  refine ⟨⟨_, hS, rfl⟩, BA.args_init1 _, ba_init0 hS fun h' hs ho' => ⟨rfl, h h' (fun b o e => ?_) ho'⟩⟩
  exact (hs.2 b (Nat.ne_of_lt (Heap.lt_size e))).trans (Heap.get?_push_of_some _ e)
theorem call_ba1 {b : Array UInt8} {t : Tok} {Q : Value → Shared → Prop} (hz : b.size ≤ sizeLine) (h : ∀ h', (∀ b o, s.heap.get? b = some o → h'.get? b = some o) → h'.get? s.heap.objs.size = some (baObj b) → Q (.ref s.heap.objs.size) { s with heap := h' }) :
    wpC (model prog w) A (call (.type "bytearray") [.bytes b t]) Q E s := by
  refine cTypeCall (Q₁ := fun obj s₁ => obj = .ref s.heap.objs.size ∧ s₁ = { s with heap := s.heap.push (baObj #[]) }) BA.called (BA.typeCall1 _) BA.entry_init (fun a => rfl) (ba_new [_] (BA.newCall1 _) ⟨rfl, rfl⟩) ?_
  rintro obj s₁ ⟨rfl, rfl⟩
  have hS : (s.heap.push (baObj #[])).get? s.heap.objs.size = some (baObj #[]) := Heap.get?_push_size _ rfl
  refine ⟨⟨_, hS, rfl⟩, BA.args_init2 _ _, ba_init1 hS hz fun h' hs ho' => ⟨rfl, h h' (fun b o e => ?_) ho'⟩⟩
  exact (hs.2 b (Nat.ne_of_lt (Heap.lt_size e))).trans (Heap.get?_push_of_some _ e)

theorem ba_append {S : Addr} {b : Array UInt8} {x : UInt8} {t : Tok} {Q : Value → Shared → Prop} (ho : s.heap.get? S = some (baObj b)) (hz : b.size + 1 ≤ sizeLine)
    (h : ∀ h', Heap.SameBut S s.heap h' → h'.get? S = some (baObj (b.push x)) → Q .none { s with heap := h' }) : wpC (model prog w) A (call (.builtin "bytearray.append") [.ref S, .int x.toNat t]) Q E s := by
  refine wpC_call (codeC_call_builtin BA.slot_append.plain rfl BA.entry_append (wpC.any (BA.slot_append.check _ _ _ _ _ _ _ _ ⟨_, ho, rfl⟩ (BA.args_append _ _) ?_)))
  unfold Builtin.«bytearray.append»
  refine wpC_bind (wpC_of_eq (a := (.ref S, .int x.toNat t)) rfl ?_)
  refine wpC_bind ?_
  unfold Builtin.Bytes.byteValue
  refine wpC_bind (wpC_of_eq (a := (x.toNat : Int)) rfl ?_)
  refine c_if_false ?_ ?_
  · have := x.toNat_lt
    simp
    omega
  refine wpC_pure ?_
  have e : ((x.toNat : Int)).toNat.toUInt8 = x := by simp
  rw [e]
  refine wpC_bind ?_
  unfold Builtin.Bytes.checkResize
  refine wpC_bind (ba_exports ho ?_)
  refine c_if_false rfl ?_
  refine wpC_pure ?_
  refine wpC_bind (wpC.any (ba_write ho (by simpa using hz) fun h' hs ho' => ?_))
  exact wpC_pure (h h' hs ho')

theorem ba_len {S : Addr} {b : Array UInt8} {Q : Value → Shared → Prop} (ho : s.heap.get? S = some (baObj b)) (hz : b.size ≤ 1000000) (h : ∀ t k, Q (.int b.size t) { s with toks := k }) : wpAny (model prog w) A (call (.builtin "len") [.ref S]) Q E s := by
  have hT : s.TypeIs (.ref S) "bytearray" := ⟨_, ho, rfl⟩
  refine call_len_slot (n := b.size) hT BA.slot_len (fun Q' hq => wpAny_call_entry BA.slot_len hT BA.entry_len ?_ (BA.args_len _)) (by omega) (by omega) (h _ _)
  unfold Builtin.«bytearray.__len__»
  refine wpAny_bind (wpAny_of_eq (a := (.ref S, [])) rfl ?_)
  refine wpAny_bind ?_
  unfold Builtin.Bytes.payload Builtin.Bytes.payload?
  refine wpAny_bind (wpAny_bind (wpAny_load ho ?_))
  refine wpAny_pure (wpAny_pure ?_)
  exact wpAny_bind (wpAny_mkInt (wpAny_pure ⟨_, rfl, hq⟩))

theorem ba_item {S : Addr} {b : Array UInt8} {i : Nat} {j : Int} {x : UInt8} {t : Tok} {Q : Value → Shared → Prop} (hj : j = i) (ho : s.heap.get? S = some (baObj b)) (hz : b.size ≤ 1000000) (hx : b[i]? = some x) (h : ∀ t k, Q (.int x.toNat t) { s with toks := k }) :
    wpAny (model prog w) A (getItem (.ref S) (.int j t)) Q E s := by
  have hT : s.TypeIs (.ref S) "bytearray" := ⟨_, ho, rfl⟩
  have hi : i < b.size := (Array.getElem?_eq_some_iff.mp hx).1
  refine wpAny_getItem_slot hT (by decide) BA.slot_getitem (wpAny_call_entry BA.slot_getitem hT BA.entry_getitem ?_ (BA.args_getitem _ _))
  unfold Builtin.«bytearray.__getitem__»
  refine wpAny_bind (wpAny_of_eq (a := (.ref S, [.int j t])) rfl ?_)
  refine wpAny_bind ?_
  unfold Builtin.Bytes.subscript?
  refine wpAny_bind (wpAny_specialOf (T := "int") (typeIs_int _ _ _) F.slot_int_index.lookup ?_)
  refine bm_if_false rfl ?_
  refine wpAny_bind (wpAny_of_eq (a := j) rfl ?_)
  refine bm_if_false ?_ ?_
  · simp [Builtin.Bytes.fitsIndex]; omega
  refine wpAny_pure ?_
  show wpAny _ _ (Builtin.Bytes.payload (.ref S) >>= _) _ _ _
  refine wpAny_bind ?_
  unfold Builtin.Bytes.payload Builtin.Bytes.payload?
  refine wpAny_bind (wpAny_bind (wpAny_load ho ?_))
  refine wpAny_pure (wpAny_pure ?_)
  have e : seqIndex? j b.size = some i := by
    subst hj
    have h2 : (i : Int) < b.size := by omega
    have h3 : ¬ (i : Int) < 0 := by omega
    simp [seqIndex?, h2, h3]
  rw [e]
  show wpAny _ _ (match b[i]? with | some x => _ | none => _) _ _ _
  rw [hx]
  exact wpAny_bind (wpAny_mkInt (wpAny_pure ⟨_, rfl, h _ _⟩))

theorem ba_from {S : Addr} {b : Array UInt8} {n : Nat} {a : Addr} {t : Tok} {Q : Value → Shared → Prop} (ho : s.heap.get? S = some (baObj b)) (hz : b.size ≤ 1000000) (hsl : s.heap.IsSliceOf a (.int n t) .none .none)
    (h : ∀ k, Q (.ref s.heap.objs.size) { s with heap := s.heap.push (baObj (b.toList.drop n).toArray), toks := k }) : wpAny (model prog w) A (getItem (.ref S) (.ref a)) Q E s := by
  have hT : s.TypeIs (.ref S) "bytearray" := ⟨_, ho, rfl⟩
  obtain ⟨o, hoa, hc, hd⟩ := hsl
  have hTa : s.TypeIs (.ref a) "slice" := ⟨o, hoa, hc⟩
  refine wpAny_getItem_slot hT (by decide) BA.slot_getitem (wpAny_call_entry BA.slot_getitem hT BA.entry_getitem ?_ (BA.args_getitem _ _))
  unfold Builtin.«bytearray.__getitem__»
  refine wpAny_bind (wpAny_of_eq (a := (.ref S, [.ref a])) rfl ?_)
  refine wpAny_bind ?_
  unfold Builtin.Bytes.subscript?
  refine wpAny_bind (wpAny_specialOf hTa slice_no_index (wpAny_pure ?_))
  refine wpAny_bind (wpAny_typeOf hTa ?_)
  refine bm_if_false rfl ?_
  refine wpAny_bind ?_
  unfold Builtin.Bytes.sliceParts
  refine wpAny_bind (wpAny_field (x := .none) hoa hd rfl ?_)
  kby_none
  refine wpAny_ite (KBy.ite_no (show ¬ ((Value.none == rawInt 0) = true) from Bool.false_ne_true) ?_)
  refine wpAny_bind (wpAny_field (x := .int n t) hoa hd rfl ?_)
  have go : wpAny (model prog w) A.in1 (sliceIndices (rawPart (some (n : Int))) (rawPart none) (rawPart none) b.size) (fun r s' => r = sliceBounds (some (n : Int)) none none b.size ∧ s' = s) (fun _ _ => False) s :=
    wpAny_of_eq (sliceIndices_raw (some (n : Int)) none none b.size (fun e => nomatch e)) ⟨rfl, rfl⟩
  kby_int
  refine wpAny_bind (wpAny_field (x := .none) hoa hd rfl ?_)
  kby_none
  refine wpAny_pure ?_
  show wpAny _ _ (Builtin.Bytes.payload (.ref S) >>= _) _ _ _
  refine wpAny_bind ?_
  unfold Builtin.Bytes.payload Builtin.Bytes.payload?
  refine wpAny_bind (wpAny_bind (wpAny_load ho ?_))
  refine wpAny_pure (wpAny_pure ?_)
  refine wpAny_bind (wpAny_mono go (fun r s' hr => ?_) fun _ _ e => e.elim)
  obtain ⟨hr1, hr2⟩ := hr
  subst hr1 hr2
  have e : Builtin.Bytes.sliced b (sliceBounds (some (n : Int)) none none b.size).1 (sliceBounds (some (n : Int)) none none b.size).2.1 (sliceBounds (some (n : Int)) none none b.size).2.2 = (b.toList.drop n).toArray := by
    have := KBc.picked_eq b (some (n : Int)) none
    unfold KBy.picked at this
    rw [this]
    simp only [Option.elim_some, Option.elim_none, clipAt_nat]
    congr 1
    rw [List.take_of_length_le (by simp)]
    by_cases hh : n ≤ b.size
    · rw [Nat.min_eq_left hh]
    · rw [Nat.min_eq_right (by omega), List.drop_of_length_le (by simp), List.drop_of_length_le (by simp; omega)]
  refine wpAny_bind ?_
  unfold Builtin.Bytes.newBytearray
  refine wpAny_newObj_type ?_ ?_
  · have h9 := h s'.toks
    rw [← e] at h9
    exact wpAny_pure ⟨_, rfl, h9⟩
  · have h9 : (b.toList.drop n).toArray.size ≤ sizeLine := by
      have := sizeLine_ge
      simp; omega
    rw [← e] at h9
    exact h9
end
end Mine
end
section
open PySem PySem.W PyProof.Rows PySem.Calls
set_option maxRecDepth 100000
namespace Mine

section
variable {prog : Program} {w : World} {A : Around} {E : Value → Shared → Prop} {s : Shared}

theorem ba_buffer {id : String} {S : Addr} {b : Array UInt8} {Q : Option (Array UInt8) → Shared → Prop} (ho : s.heap.get? S = some (baObj b)) (h : Q (some b) s) : wpAny (model prog w) A (Builtin.Bytes.buffer? id (.ref S) true) Q E s := by
  have hT : s.TypeIs (.ref S) "bytearray" := ⟨_, ho, rfl⟩
  unfold Builtin.Bytes.buffer?
  refine wpAny_bind (wpAny_specialOf hT BA.buffer ?_)
  refine wpAny_bind ?_
  unfold Builtin.Bytes.slotIsOwn
  refine wpAny_bind (wpAny_specialOf hT BA.buffer ?_)
  show wpAny _ _ (if (!("bytearray.__buffer__" : String).endsWith ("." ++ "__buffer__")) = true then _ else _) _ _ _
  refine bm_if_false (by decide +kernel) ?_
  have e : ("bytearray.__buffer__" : String).dropRight (("__buffer__" : String).length + 1) = "bytearray" := by decide +kernel
  rw [e]
  refine wpAny_isInstance hT BA.sub_self ?_
  refine bm_if_false rfl ?_
  refine wpAny_bind (wpAny_specialOf hT BA.buffer ?_)
  show wpAny _ _ (Builtin.Bytes.ownRelease (.ref S) >>= _) _ _ _
  refine wpAny_bind (ba_release ho ?_)
  refine bm_if_false rfl ?_
  unfold Builtin.Bytes.payload Builtin.Bytes.payload?
  refine wpAny_bind (wpAny_bind (wpAny_bind (wpAny_load ho ?_)))
  exact wpAny_pure (wpAny_pure (wpAny_pure h))

theorem bb_new {S : Addr} {b : Array UInt8} {Q : Value → Shared → Prop} (ho : s.heap.get? S = some (baObj b)) (hz : b.size ≤ sizeLine) (hQ : ∀ t k, Q (.bytes b t) { s with toks := k }) :
    codeAny (model prog w) A (.call (.builtin "bytes.__new__") ⟨[.type "bytes", .ref S], []⟩) (wants Q E) s := by
  refine codeAny_of_tree ?_
  show wpAny _ A.in1 (do checkBuiltinCall "bytes.__new__" ⟨[.type "bytes", .ref S], []⟩; again (.builtin "bytes.__new__" ⟨[.type "bytes", .ref S], []⟩)) _ _ s
  refine wpAny_bind (wpAny_of_eq (F.bm_newCall _) (wpAny_pure ⟨plainId_quiet F.bm_plain _, codeAny_builtin F.bm_entry ?_⟩))
  rw [Around.under_plainId F.bm_plain _]
  have hT : s.TypeIs (.ref S) "bytearray" := ⟨_, ho, rfl⟩
  unfold Builtin.«bytes.__new__»
  refine wpAny_bind (wpAny_of_eq (a := true) rfl ?_)
  refine bm_if_false rfl ?_
  refine wpAny_bind (wpAny_of_eq F.bm_sub ?_)
  refine bm_if_false rfl ?_
  refine wpAny_bind (wpAny_of_eq (F.bm_bind _) ?_)
  refine wpAny_bind (wpAny_of_eq (a := ()) rfl ?_)
  refine wpAny_bind (wpAny_of_eq (a := ()) rfl ?_)
  refine bm_if_false rfl ?_
  refine wpAny_bind (wpAny_specialOf hT BA.nobytes ?_)
  refine wpAny_bind (wpAny_bind ?_)
  show wpAny _ _ (load S >>= _) _ _ _
  refine wpAny_bind (wpAny_load ho ?_)
  refine wpAny_pure (wpAny_pure ?_)
  refine bm_if_false rfl ?_
  refine wpAny_bind (wpAny_specialOf hT BA.noindex ?_)
  refine bm_if_true rfl ?_
  first
    | show wpAny _ _ (Builtin.Bytes.buffer? "bytes.__new__" (.ref S) true >>= _) _ _ _
    | (refine wpAny_bind ?_; show wpAny _ _ (Builtin.Bytes.buffer? "bytes.__new__" (.ref S) true >>= _) _ _ _)
  refine wpAny_bind (ba_buffer ho ?_)
  refine wpAny_bind (wpAny_rule ?_)
  refine wpAny_bind (wpAny_mkBytes ?_ hz)
  show wpAny _ _ (if (Value.type "bytes" == Value.type "bytes") = true then _ else _) _ _ _
  refine bm_if_true (by decide) ?_
  first
    | exact wpAny_pure (hQ _ _)
    | exact wpAny_bind (wpAny_pure (wpAny_pure (hQ _ _)))

theorem call_bytes_ba {S : Addr} {b : Array UInt8} {Q : Value → Shared → Prop} (ho : s.heap.get? S = some (baObj b)) (hz : b.size ≤ sizeLine) (hQ : ∀ t k, Q (.bytes b t) { s with toks := k }) :
    wpAny (model prog w) A (call (.type "bytes") [.ref S]) Q E s := by
  refine callType_codes (Q₁ := fun obj s₁ => s₁.TypeIs obj "bytes" ∧ Q obj s₁) F.bm_called (F.bm_typeCall _) F.entry_object_init
    (bb_new ho hz fun t k => ⟨PySem.W.typeIs_bytes _ _ _, hQ t k⟩) fun obj s₁ h₁ => ?_
  exact ⟨h₁.1, F.args_object_init_2 obj _, object_init_meets F.bm_called.init.lookup F.bm_called.made (by decide) prog w A.in1 _ s₁ ⟨h₁.1, rfl, h₁.2⟩⟩

theorem byteArr_range (i : Nat) : byteArr ((List.range (i + 1)).map fun (k : Nat) => (k : Int)) = (byteArr ((List.range i).map fun (k : Nat) => (k : Int))).push ((i : Int).toNat.toUInt8) := by
  simp [byteArr, List.range_succ]

theorem br_loop {R : Result → Shared → Prop} {I S : Addr} {n : Nat} (hh : A.handled = none) (hn : n ≤ 256) (hIS : I ≠ S) :
    ∀ (k i : Nat) (s : Shared), n - i = k → i ≤ n → IsRangeIter s.heap I i ((n : Int) - i) 1 → s.heap.get? S = some (baObj (byteArr ((List.range i).map fun (k : Nat) => (k : Int)))) →
      (∀ h' t k', (∀ b o, b ≠ I → b ≠ S → s.heap.get? b = some o → h'.get? b = some o) → R (.ok (.ret (.bytes (byteArr ((List.range n).map fun (k : Nat) => (k : Int))) t))) { s with heap := h', toks := k' }) →
      codeAny (model prog w) A (.builtin "bytes.__new__.loop" ⟨[.type "bytes", .ref I, .ref S], []⟩) R s := by
  intro k
  induction k with
  | zero =>
    intro i s hk hle hit hS hR
    have hin : i = n := by omega
    subst hin
    refine codeAny_builtin F.bm_entry_loop ?_
    rw [Around.under_plainId F.bm_plain_loop _]
    show wpAny _ A.in1 (pyNext (.ref I) >>= _) _ _ s
    refine wpAny_bind (wpAny_pyNext_range_end hh hit (by omega) fun h' he => ?_)
    have hS' : h'.get? S = some (baObj (byteArr ((List.range i).map fun (k : Nat) => (k : Int)))) := he S _ (Ne.symm hIS) hS
    refine wpAny_bind ?_
    unfold Builtin.Bytes.payload Builtin.Bytes.payload?
    refine wpAny_bind (wpAny_bind (wpAny_load hS' ?_))
    refine wpAny_pure (wpAny_pure ?_)
    refine wpAny_bind (wpAny_mkBytes ?_ (by rw [byteArr_size]; have := sizeLine_ge; simp; omega))
    show wpAny _ _ (if (Value.type "bytes" == Value.type "bytes") = true then _ else _) _ _ _
    refine bm_if_true (by decide) ?_
    first
      | exact wpAny_pure (hR h' _ _ fun b o hb _ e => he b o hb e)
      | exact wpAny_bind (wpAny_pure (wpAny_pure (hR h' _ _ fun b o hb _ e => he b o hb e)))
  | succ k ih =>
    intro i s hk hle hit hS hR
    have hlt : i < n := by omega
    refine codeAny_builtin F.bm_entry_loop ?_
    rw [Around.under_plainId F.bm_plain_loop _]
    show wpAny _ A.in1 (pyNext (.ref I) >>= _) _ _ s
    refine wpAny_bind (wpAny_pyNext_range_item hit (by omega) fun h' hit' hs => ?_)
    have hS' : h'.get? S = some (baObj (byteArr ((List.range i).map fun (k : Nat) => (k : Int)))) := (hs.2 S (Ne.symm hIS)).trans hS
    refine wpAny_bind (wpAny_holding (wpAny_of_eq (rfl : asIndex (.int (i : Int) _) = pure (i : Int)) ?_))
    refine wpAny_bind (wpAny_letGo ?_)
    refine bm_if_false (by simp only [Bool.or_eq_false_iff, decide_eq_false_iff_not]; omega) ?_
    refine wpAny_bind (ba_write hS' ?_ fun h2 hs2 ho2 => ?_)
    · rw [Array.size_push, byteArr_size]
      have := sizeLine_ge
      simp; omega
    rw [← byteArr_range] at ho2
    have e1 : ((i : Int) + 1) = ((i + 1 : Nat) : Int) := by omega
    have e2 : ((n : Int) - i - 1) = (n : Int) - ((i + 1 : Nat) : Int) := by omega
    rw [e1, e2] at hit'
    refine wpAny_pure ⟨plainId_quiet F.bm_plain_loop _, ih (i + 1) { s with heap := h2, toks := s.toks + 1 } (by omega) hlt ((hs2.2 I hIS).trans hit') ho2 fun h3 t' k' hk3 => ?_⟩
    exact hR h3 t' k' fun b o hbI hbS e => hk3 b o hbI hbS ((hs2.2 b hbS).trans ((hs.2 b hbI).trans e))

theorem range_hint {r : Addr} {n : Nat} {t u v : Tok} {Q : Unit → Shared → Prop} (hr : IsRange s.heap r 0 n 1 t u v) (hn : n ≤ 256) (h : Q () { s with toks := s.toks + 1 + 1 }) :
    wpAny (model prog w) A (Builtin.Bytes.lengthHint "bytes.__new__" (.ref r)) Q E s := by
  have hT : s.TypeIs (.ref r) "range" := ⟨_, hr, rfl⟩
  unfold Builtin.Bytes.lengthHint
  refine wpAny_bind (wpAny_specialOf hT F.slot_range_len.lookup ?_)
  dsimp only
  rw [show splitId "range.__len__" = some ("range", "__len__") from by decide +kernel]
  dsimp only
  refine wpAny_bind (wpAny_isInstance (b := true) hT (by rw [isSubtype_type]; kernel_rfl) ?_)
  refine bm_if_false rfl ?_
  refine bm_if_false (by decide +kernel) ?_
  refine bm_if_true rfl ?_
  refine wpAny_bind (wpAny_rule ?_)
  refine wpAny_bind (wpAny_attempt (call_len_range hr (rangeSize_nat n) (by omega) ?_))
  refine wpAny_bind (m := asInt? _) (wpAny_pure ?_)
  refine bm_if_false ?_ (wpAny_pure h)
  have := sizeLine_ge
  simp [Builtin.Bytes.tooLong]
  omega

theorem br_new {r : Addr} {n : Nat} {t u v : Tok} {Q : Value → Shared → Prop} (hh : A.handled = none) (hr : IsRange s.heap r 0 n 1 t u v) (hn : n ≤ 256)
    (hQ : ∀ h' t k, (∀ b o, s.heap.get? b = some o → h'.get? b = some o) → Q (.bytes (byteArr ((List.range n).map fun (k : Nat) => (k : Int))) t) { s with heap := h', toks := k }) :
    codeAny (model prog w) A (.call (.builtin "bytes.__new__") ⟨[.type "bytes", .ref r], []⟩) (wants Q E) s := by
  refine codeAny_of_tree ?_
  show wpAny _ A.in1 (do checkBuiltinCall "bytes.__new__" ⟨[.type "bytes", .ref r], []⟩; again (.builtin "bytes.__new__" ⟨[.type "bytes", .ref r], []⟩)) _ _ s
  refine wpAny_bind (wpAny_of_eq (F.bm_newCall _) (wpAny_pure ⟨plainId_quiet F.bm_plain _, codeAny_builtin F.bm_entry ?_⟩))
  rw [Around.under_plainId F.bm_plain _]
  have hT : s.TypeIs (.ref r) "range" := ⟨_, hr, rfl⟩
  unfold Builtin.«bytes.__new__»
  refine wpAny_bind (wpAny_of_eq (a := true) rfl ?_)
  refine bm_if_false rfl ?_
  refine wpAny_bind (wpAny_of_eq F.bm_sub ?_)
  refine bm_if_false rfl ?_
  refine wpAny_bind (wpAny_of_eq (F.bm_bind _) ?_)
  refine wpAny_bind (wpAny_of_eq (a := ()) rfl ?_)
  refine wpAny_bind (wpAny_of_eq (a := ()) rfl ?_)
  refine bm_if_false rfl ?_
  refine wpAny_bind (wpAny_specialOf hT BA.r_no_bytes ?_)
  refine wpAny_bind (wpAny_bind ?_)
  show wpAny _ _ (load r >>= _) _ _ _
  refine wpAny_bind (wpAny_load hr ?_)
  refine wpAny_pure (wpAny_pure ?_)
  refine bm_if_false rfl ?_
  refine wpAny_bind (wpAny_specialOf hT BA.r_no_index ?_)
  refine bm_if_true rfl ?_
  first
    | show wpAny _ _ (Builtin.Bytes.buffer? "bytes.__new__" (.ref r) true >>= _) _ _ _
    | (refine wpAny_bind ?_; show wpAny _ _ (Builtin.Bytes.buffer? "bytes.__new__" (.ref r) true >>= _) _ _ _)
  refine wpAny_bind ?_
  unfold Builtin.Bytes.buffer?
  refine wpAny_bind (wpAny_specialOf hT BA.r_no_buffer ?_)
  refine wpAny_bind (wpAny_specialOf hT BA.r_no_buffer ?_)
  refine wpAny_pure ?_
  refine wpAny_bind (wpAny_tryCatch (wpAny_pyIter_range hr (small_of (by omega)) ?_))
  have hr1 : IsRange (s.heap.push { cls := .type "range_iterator", data := .fields #[rawInt 0, rawInt (Builtin.Range.rangeSize 0 n 1), rawInt 1] }) r 0 n 1 t u v := Heap.get?_push_of_some _ hr
  refine wpAny_bind (wpAny_holding (range_hint (s := { s with heap := s.heap.push { cls := .type "range_iterator", data := .fields #[rawInt 0, rawInt (Builtin.Range.rangeSize 0 n 1), rawInt 1] } }) hr1 hn ?_))
  refine wpAny_bind ?_
  unfold Builtin.Bytes.newBytearray
  refine wpAny_newObj_type ?_ (Nat.zero_le _)
  dsimp only
  have hsz : (s.heap.push { cls := .type "range_iterator", data := .fields #[rawInt 0, rawInt (Builtin.Range.rangeSize 0 n 1), rawInt 1] }).objs.size = s.heap.objs.size + 1 := Heap.size_push _ _
  have hI : IsRangeIter ((s.heap.push { cls := .type "range_iterator", data := .fields #[rawInt 0, rawInt (Builtin.Range.rangeSize 0 n 1), rawInt 1] }).push (baObj #[])) s.heap.objs.size ((0 : Nat) : Int) ((n : Int) - ((0 : Nat) : Int)) 1 := by
    have := Heap.get?_push_of_some (baObj #[]) (Heap.get?_push_size s.heap (o := { cls := .type "range_iterator", data := .fields #[rawInt 0, rawInt (Builtin.Range.rangeSize 0 n 1), rawInt 1] }) rfl)
    unfold IsRangeIter
    rw [this, rangeSize_nat]
    simp
  have main := br_loop (prog := prog) (w := w) (A := A) (R := wants Q E) (I := s.heap.objs.size) (S := (s.heap.push { cls := .type "range_iterator", data := .fields #[rawInt 0, rawInt (Builtin.Range.rangeSize 0 n 1), rawInt 1] }).objs.size) hh hn (by rw [hsz]; exact Nat.ne_of_lt (Nat.lt_succ_self _))
    n 0 { s with heap := (s.heap.push { cls := .type "range_iterator", data := .fields #[rawInt 0, rawInt (Builtin.Range.rangeSize 0 n 1), rawInt 1] }).push (baObj #[]), toks := s.toks + 1 + 1 } rfl (Nat.zero_le _) hI (Heap.get?_push_size _ rfl)
    fun h' t k hk => hQ h' t k fun b o e => hk b o (Nat.ne_of_lt (Heap.lt_size e)) (by rw [hsz]; exact Nat.ne_of_lt (Nat.lt_succ_of_lt (Heap.lt_size e))) (Heap.get?_push_of_some _ (Heap.get?_push_of_some _ e))
  first
    | exact wpAny_pure ⟨plainId_quiet F.bm_plain_loop _, main⟩
    | exact wpAny_pure (wpAny_pure ⟨plainId_quiet F.bm_plain_loop _, main⟩)

theorem call_bytes_range {r : Addr} {n : Nat} {t u v : Tok} {Q : Value → Shared → Prop} (hh : A.handled = none) (hr : IsRange s.heap r 0 n 1 t u v) (hn : n ≤ 256)
    (hQ : ∀ h' t k, (∀ b o, s.heap.get? b = some o → h'.get? b = some o) → Q (.bytes (byteArr ((List.range n).map fun (k : Nat) => (k : Int))) t) { s with heap := h', toks := k }) : wpAny (model prog w) A (call (.type "bytes") [.ref r]) Q E s := by
  refine callType_codes (Q₁ := fun obj s₁ => s₁.TypeIs obj "bytes" ∧ Q obj s₁) F.bm_called (F.bm_typeCall _) F.entry_object_init
    (br_new hh hr hn fun h' t k hk => ⟨PySem.W.typeIs_bytes _ _ _, hQ h' t k hk⟩) fun obj s₁ h₁ => ?_
  exact ⟨h₁.1, F.args_object_init_2 obj _, object_init_meets F.bm_called.init.lookup F.bm_called.made (by decide) prog w A.in1 _ s₁ ⟨h₁.1, rfl, h₁.2⟩⟩
end
end Mine
end
section
open PySem PySem.W PyProof.Rows PySem.Calls
set_option maxRecDepth 100000
namespace Mine

section
variable {prog : Program} {w : World} {hB : Heap} {c : Cx} {fr : Vars} {st : St} {E : EE}

/-- a heap that has grown, an object in hand at its first new place -/
theorem At.grown_obj {h h' : Heap} (a : At hB c fr st h) {o : O} (hk : ∀ b o, h.get? b = some o → h'.get? b = some o) (hD : ∀ st', Tr h st h' st' → RelO h' st' h.objs.size o) :
    At hB c fr (st.set h.objs.size o) h' ∧ Ext NoX h st h' (st.set h.objs.size o) := by
  have k : Ext NoX h st h' (st.set h.objs.size o) := by
    refine ⟨fun b x e n _ => ⟨hk _ _ e, ?_⟩⟩
    rw [St.set_ne (Nat.ne_of_lt (Heap.lt_size e))]; exact n
  refine ⟨a.ext ⟨fun b x e => ?_, fun b x e => ?_⟩ k, k⟩
  · have := a.inv.stays b x e
    exact ⟨hk _ _ this.1, by rw [St.set_ne (Nat.ne_of_lt (Heap.lt_size this.1))]; exact this.2⟩
  · unfold St.set at e
    split at e
    · rename_i q; subst q; cases e
      exact hD _ k.tr
    · exact (a.inv.objs b x e).tr k.tr fun ob e => hk _ _ e

theorem K_ba0 {R : V → St → Prop} (h : ∀ d, st d = none → R (.ref d) (st.set d (.barr []))) : TC prog w hB c c.A (.val (.type "bytearray")) [] fr st E R := by
  intro s Q wf ws ha rf rs hQ
  (first | obtain rfl := RelV.i_val rf | obtain rfl := RelV.i_ref rf | obtain ⟨_, rfl⟩ := RelV.i_int rf | obtain ⟨_, rfl⟩ := RelV.i_str rf | obtain ⟨_, rfl⟩ := RelV.i_bytes rf | obtain rfl := RelV.i_bool rf | obtain rfl := RelVs.i_nil rf | cases rf); (first | obtain rfl := RelV.i_val rs | obtain rfl := RelV.i_ref rs | obtain ⟨_, rfl⟩ := RelV.i_int rs | obtain ⟨_, rfl⟩ := RelV.i_str rs | obtain ⟨_, rfl⟩ := RelV.i_bytes rs | obtain rfl := RelV.i_bool rs | obtain rfl := RelVs.i_nil rs | cases rs)
  refine call_ba0 fun h' hk ho => ?_
  have := ha.grown_obj (o := .barr []) hk fun st' _ => ho
  exact hQ _ _ _ h' s.toks (h _ ha.fresh) this.1 this.2 (.ref _)
theorem K_ba1 {b : List UInt8} {R : V → St → Prop} (hz : b.length ≤ 1000000) (h : ∀ d, st d = none → R (.ref d) (st.set d (.barr b))) : TC prog w hB c c.A (.val (.type "bytearray")) [.bytes b] fr st E R := by
  intro s Q wf ws ha rf rs hQ
  (first | obtain rfl := RelV.i_val rf | obtain rfl := RelV.i_ref rf | obtain ⟨_, rfl⟩ := RelV.i_int rf | obtain ⟨_, rfl⟩ := RelV.i_str rf | obtain ⟨_, rfl⟩ := RelV.i_bytes rf | obtain rfl := RelV.i_bool rf | obtain rfl := RelVs.i_nil rf | cases rf)
  cases rs with
  | cons r rn =>
    (first | obtain rfl := RelV.i_val rn | obtain rfl := RelV.i_ref rn | obtain ⟨_, rfl⟩ := RelV.i_int rn | obtain ⟨_, rfl⟩ := RelV.i_str rn | obtain ⟨_, rfl⟩ := RelV.i_bytes rn | obtain rfl := RelV.i_bool rn | obtain rfl := RelVs.i_nil rn | cases rn); (first | obtain rfl := RelV.i_val r | obtain rfl := RelV.i_ref r | obtain ⟨_, rfl⟩ := RelV.i_int r | obtain ⟨_, rfl⟩ := RelV.i_str r | obtain ⟨_, rfl⟩ := RelV.i_bytes r | obtain rfl := RelV.i_bool r | obtain rfl := RelVs.i_nil r | cases r)
    refine call_ba1 (by have := sizeLine_ge; simp; omega) fun h' hk ho => ?_
    have := ha.grown_obj (o := .barr b) hk fun st' _ => ho
    exact hQ _ _ _ h' s.toks (h _ ha.fresh) this.1 this.2 (.ref _)

theorem m_bappend {a : Addr} {b : List UInt8} (hl : st a = some (.barr b)) : MethB prog w hB c fr st (.ref a) "append" (.builtin "bytearray.append") := by
  intro s Q E pl wo ha hr hQ
  (first | obtain rfl := RelV.i_val hr | obtain rfl := RelV.i_ref hr | obtain ⟨_, rfl⟩ := RelV.i_int hr | obtain ⟨_, rfl⟩ := RelV.i_str hr | obtain ⟨_, rfl⟩ := RelV.i_bytes hr | obtain rfl := RelV.i_bool hr | obtain rfl := RelVs.i_nil hr | cases hr)
  have ho : s.heap.get? a = some (baObj b.toArray) := ha.inv.objs _ _ hl
  exact getMethod_builtin (T := "bytearray") ⟨_, ho, rfl⟩ BA.plainAttrs BA.slot_append BA.type_append (fun a e => by cases e; exact ⟨_, ho, rfl⟩) (hQ s.toks)

theorem turned_ba {l : Addr} {b b' : List UInt8} {R : V → St → Prop} {s : Shared} {Q : Value → Shared → Prop} {tk : Nat} {h' : Heap} {v : V} {u : Value} (hl : st l = some (.barr b)) (ha : At hB c fr st s.heap)
    (hs : Heap.SameBut l s.heap h') (ho : h'.get? l = some (baObj b'.toArray)) (hv : RelV s.heap st v u) (h : R v (st.set l (.barr b')))
    (hQ : ∀ v st' u h' tk', R v st' → At hB c fr st' h' → Ext NoX s.heap st h' st' → RelV h' st' v u → Q u { s with heap := h', toks := tk' }) : Q u { s with heap := h', toks := tk } := by
  have := ha.update (o' := .barr b') hl hs fun st' k' => ho
  exact hQ _ _ _ h' tk h this.1 this.2 (hv.tr this.2.tr)

theorem K_bappend {a : Addr} {b : List UInt8} {x : UInt8} {i : Int} {R : V → St → Prop} (hi : i = x.toNat) (hl : st a = some (.barr b)) (hz : b.length < 1000000) (h : R .none (st.set a (.barr (b ++ [x])))) :
    TC prog w hB c c.A (.val (.builtin "bytearray.append")) [.ref a, .int i] fr st E R := by
  intro s Q wf ws ha rf rs hQ
  (first | obtain rfl := RelV.i_val rf | obtain rfl := RelV.i_ref rf | obtain ⟨_, rfl⟩ := RelV.i_int rf | obtain ⟨_, rfl⟩ := RelV.i_str rf | obtain ⟨_, rfl⟩ := RelV.i_bytes rf | obtain rfl := RelV.i_bool rf | obtain rfl := RelVs.i_nil rf | cases rf)
  cases rs with
  | cons r rs =>
    (first | obtain rfl := RelV.i_val r | obtain rfl := RelV.i_ref r | obtain ⟨_, rfl⟩ := RelV.i_int r | obtain ⟨_, rfl⟩ := RelV.i_str r | obtain ⟨_, rfl⟩ := RelV.i_bytes r | obtain rfl := RelV.i_bool r | obtain rfl := RelVs.i_nil r | cases r)
    cases rs with
    | cons rv rn =>
      (first | obtain rfl := RelV.i_val rn | obtain rfl := RelV.i_ref rn | obtain ⟨_, rfl⟩ := RelV.i_int rn | obtain ⟨_, rfl⟩ := RelV.i_str rn | obtain ⟨_, rfl⟩ := RelV.i_bytes rn | obtain rfl := RelV.i_bool rn | obtain rfl := RelVs.i_nil rn | cases rn)
      subst hi
      (first | obtain rfl := RelV.i_val rv | obtain rfl := RelV.i_ref rv | obtain ⟨_, rfl⟩ := RelV.i_int rv | obtain ⟨_, rfl⟩ := RelV.i_str rv | obtain ⟨_, rfl⟩ := RelV.i_bytes rv | obtain rfl := RelV.i_bool rv | obtain rfl := RelVs.i_nil rv | cases rv)
      have ho : s.heap.get? a = some (baObj b.toArray) := ha.inv.objs _ _ hl
      refine ba_append ho (by have := sizeLine_ge; simp; omega) fun h' hs ho' => ?_
      exact turned_ba (tk := s.toks) (b' := b ++ [x]) hl ha hs (by rw [ho']; simp) .none h hQ

theorem K_len_ba {a : Addr} {b : List UInt8} {R : V → St → Prop} (hl : st a = some (.barr b)) (hz : b.length ≤ 1000000) (h : R (.int b.length) st) : TC prog w hB c c.A (.val (.builtin "len")) [.ref a] fr st E R := by
  intro s Q wf ws ha rf rs hQ
  (first | obtain rfl := RelV.i_val rf | obtain rfl := RelV.i_ref rf | obtain ⟨_, rfl⟩ := RelV.i_int rf | obtain ⟨_, rfl⟩ := RelV.i_str rf | obtain ⟨_, rfl⟩ := RelV.i_bytes rf | obtain rfl := RelV.i_bool rf | obtain rfl := RelVs.i_nil rf | cases rf)
  cases rs with
  | cons r rn =>
    (first | obtain rfl := RelV.i_val rn | obtain rfl := RelV.i_ref rn | obtain ⟨_, rfl⟩ := RelV.i_int rn | obtain ⟨_, rfl⟩ := RelV.i_str rn | obtain ⟨_, rfl⟩ := RelV.i_bytes rn | obtain rfl := RelV.i_bool rn | obtain rfl := RelVs.i_nil rn | cases rn); (first | obtain rfl := RelV.i_val r | obtain rfl := RelV.i_ref r | obtain ⟨_, rfl⟩ := RelV.i_int r | obtain ⟨_, rfl⟩ := RelV.i_str r | obtain ⟨_, rfl⟩ := RelV.i_bytes r | obtain rfl := RelV.i_bool r | obtain rfl := RelVs.i_nil r | cases r)
    have ho : s.heap.get? a = some (baObj b.toArray) := ha.inv.objs _ _ hl
    refine wpC.any (ba_len ho (by simp; omega) fun t k => ?_)
    have : ((b.toArray.size : Nat) : Int) = (b.length : Int) := by simp
    rw [this]
    exact hQ _ _ _ _ k h ha .refl (.int _ _)

theorem I_ba {slice : Expr} {a : Addr} {b : List UInt8} {i : Nat} {j : Int} {x : UInt8} {R : V → St → Prop} (hj : j = i) (hl : st a = some (.barr b)) (hz : b.length ≤ 1000000) (hx : b[i]? = some x) (h : R (.int x.toNat) st) :
    TItem prog w hB c slice (.ref a) (.int j) fr st E R := by
  intro s Q wo wi ha ro ri hQ
  (first | obtain rfl := RelV.i_val ri | obtain rfl := RelV.i_ref ri | obtain ⟨_, rfl⟩ := RelV.i_int ri | obtain ⟨_, rfl⟩ := RelV.i_str ri | obtain ⟨_, rfl⟩ := RelV.i_bytes ri | obtain rfl := RelV.i_bool ri | obtain rfl := RelVs.i_nil ri | cases ri); (first | obtain rfl := RelV.i_val ro | obtain rfl := RelV.i_ref ro | obtain ⟨_, rfl⟩ := RelV.i_int ro | obtain ⟨_, rfl⟩ := RelV.i_str ro | obtain ⟨_, rfl⟩ := RelV.i_bytes ro | obtain rfl := RelV.i_bool ro | obtain rfl := RelVs.i_nil ro | cases ro)
  have ho : s.heap.get? a = some (baObj b.toArray) := ha.inv.objs _ _ hl
  exact titem_of (T := "bytearray") ⟨_, ho, rfl⟩ BA.slot_getitem.lookup (ba_item hj ho (by simp; omega) (by simpa using hx) fun t k => hQ _ _ _ _ k h ha .refl (.int _ _))

theorem I_ba_from {slice : Expr} {a : Addr} {b : List UInt8} {n : Nat} {R : V → St → Prop} (hl : st a = some (.barr b)) (hz : b.length ≤ 1000000) (h : ∀ d, st d = none → R (.ref d) (st.set d (.barr (b.drop n)))) :
    TItem prog w hB c slice (.ref a) (.slc (.int n) .none) fr st E R := by
  intro s Q wo wi ha ro ri hQ
  (first | obtain rfl := RelV.i_val ro | obtain rfl := RelV.i_ref ro | obtain ⟨_, rfl⟩ := RelV.i_int ro | obtain ⟨_, rfl⟩ := RelV.i_str ro | obtain ⟨_, rfl⟩ := RelV.i_bytes ro | obtain rfl := RelV.i_bool ro | obtain rfl := RelVs.i_nil ro | cases ro)
  cases ri with
  | slc hs hn rl ru =>
    (first | obtain rfl := RelV.i_val rl | obtain rfl := RelV.i_ref rl | obtain ⟨_, rfl⟩ := RelV.i_int rl | obtain ⟨_, rfl⟩ := RelV.i_str rl | obtain ⟨_, rfl⟩ := RelV.i_bytes rl | obtain rfl := RelV.i_bool rl | obtain rfl := RelVs.i_nil rl | cases rl); (first | obtain rfl := RelV.i_val ru | obtain rfl := RelV.i_ref ru | obtain ⟨_, rfl⟩ := RelV.i_int ru | obtain ⟨_, rfl⟩ := RelV.i_str ru | obtain ⟨_, rfl⟩ := RelV.i_bytes ru | obtain rfl := RelV.i_bool ru | obtain rfl := RelVs.i_nil ru | cases ru)
    have ho : s.heap.get? a = some (baObj b.toArray) := ha.inv.objs _ _ hl
    refine titem_of (T := "bytearray") ⟨_, ho, rfl⟩ BA.slot_getitem.lookup (ba_from ho (by simp; omega) (isSlice_of hs) fun k => ?_)
    have e : (b.toArray.toList.drop n).toArray = (b.drop n).toArray := by simp
    rw [e]
    have := ha.alloc (ob := baObj (b.drop n).toArray) (o := .barr (b.drop n)) fun st' _ => Heap.get?_push_size _ rfl
    exact hQ _ _ _ _ k (h _ ha.fresh) this.1 this.2 (.ref _)

theorem K_bytes_ba {a : Addr} {b : List UInt8} {R : V → St → Prop} (hl : st a = some (.barr b)) (hz : b.length ≤ 1000000) (h : R (.bytes b) st) : TC prog w hB c c.A (.val (.type "bytes")) [.ref a] fr st E R := by
  intro s Q wf ws ha rf rs hQ
  (first | obtain rfl := RelV.i_val rf | obtain rfl := RelV.i_ref rf | obtain ⟨_, rfl⟩ := RelV.i_int rf | obtain ⟨_, rfl⟩ := RelV.i_str rf | obtain ⟨_, rfl⟩ := RelV.i_bytes rf | obtain rfl := RelV.i_bool rf | obtain rfl := RelVs.i_nil rf | cases rf)
  cases rs with
  | cons r rn =>
    (first | obtain rfl := RelV.i_val rn | obtain rfl := RelV.i_ref rn | obtain ⟨_, rfl⟩ := RelV.i_int rn | obtain ⟨_, rfl⟩ := RelV.i_str rn | obtain ⟨_, rfl⟩ := RelV.i_bytes rn | obtain rfl := RelV.i_bool rn | obtain rfl := RelVs.i_nil rn | cases rn); (first | obtain rfl := RelV.i_val r | obtain rfl := RelV.i_ref r | obtain ⟨_, rfl⟩ := RelV.i_int r | obtain ⟨_, rfl⟩ := RelV.i_str r | obtain ⟨_, rfl⟩ := RelV.i_bytes r | obtain rfl := RelV.i_bool r | obtain rfl := RelVs.i_nil r | cases r)
    have ho : s.heap.get? a = some (baObj b.toArray) := ha.inv.objs _ _ hl
    exact wpC.any (call_bytes_ba ho (by have := sizeLine_ge; simp; omega) fun t k => hQ (.bytes b) _ _ _ k h ha .refl (.bytes _ _))

def upTo (n : Nat) : List UInt8 := (List.range n).map fun k => k.toUInt8
theorem K_bytes_rng {n : Nat} {R : V → St → Prop} (hn : n ≤ 256) (hh : c.A.handled = none) (h : R (.bytes (upTo n)) st) : TC prog w hB c c.A (.val (.type "bytes")) [.rng 0 n] fr st E R := by
  intro s Q wf ws ha rf rs hQ
  (first | obtain rfl := RelV.i_val rf | obtain rfl := RelV.i_ref rf | obtain ⟨_, rfl⟩ := RelV.i_int rf | obtain ⟨_, rfl⟩ := RelV.i_str rf | obtain ⟨_, rfl⟩ := RelV.i_bytes rf | obtain rfl := RelV.i_bool rf | obtain rfl := RelVs.i_nil rf | cases rf)
  cases rs with
  | cons r rn =>
    (first | obtain rfl := RelV.i_val rn | obtain rfl := RelV.i_ref rn | obtain ⟨_, rfl⟩ := RelV.i_int rn | obtain ⟨_, rfl⟩ := RelV.i_str rn | obtain ⟨_, rfl⟩ := RelV.i_bytes rn | obtain rfl := RelV.i_bool rn | obtain rfl := RelVs.i_nil rn | cases rn)
    cases r with
    | rng hr hn' =>
      refine wpC.any (call_bytes_range hh hr hn fun h' t k hk => ?_)
      have e : byteArr ((List.range n).map fun (k : Nat) => (k : Int)) = (upTo n).toArray := by simp [byteArr, upTo]
      rw [e]
      have g := ha.grown hk
      exact hQ (.bytes (upTo n)) st _ h' k h g.1 g.2 (.bytes _ t)
end
end Mine
end
section
open PySem PySem.W PyProof.Rows PySem.Calls
set_option maxRecDepth 100000
namespace Mine

section
variable {prog : Program} {w : World} {A : Around} {E : Value → Shared → Prop} {s : Shared}

theorem cAttr {env : Env} {o : Expr} {attr : Str} {pos : Pos} {Q : Value → Shared → Prop} (h : wpC (model prog w) A (eval o env) (fun ov s₁ => ∀ e, wpAny (model prog w) A (getAttr ov attr e) Q E s₁) E s)
    (hb : attributeBase o attr env (eval o env) = eval o env) : wpC (model prog w) A (eval (.Attribute o attr pos) env) Q E s := by
  rw [arm_eval_Attribute, hb]
  exact wpC_bind (wpC_mono h (fun ov s₁ h₁ => wpC_bind (wpC_standAt (wpC_bind (wpC_holding (wpC.any (wpAny_mono (h₁ _) (fun r s₂ h₂ => wpC_bind (wpC.any (wpAny_letTemporaryGo (wpC_pure h₂)))) fun _ _ x => x)))))) fun _ _ x => x)

/-- a new name, or a turned one, in an object's own dict -/
theorem osa_put {ox : Obj} {x C dx : Addr} {K : Frag} {name : Str} {tk : Tok} {v : Value} {es : List DictEntry} {n : Nat} {R : Result → Shared → Prop} (X : K.In s.heap)
    (I : InstAt s.heap x ox C (some (dictOf es n))) (hd : ox.dict = some dx) (hp : plainOver K C = true) (ht : takerIn K C name = some none) (hh : (clsIn K C).any (·.hasDict) = true)
    (hl : (lookIn name (dictOf es n)).isSome = true) (hz : (putL name (PyData.keyHash w.params name) (.str name s.toks) v es).length ≤ 1000)
    (h : R (.ok (.ret .none)) { s with heap := s.heap.update dx (Obj.putName name (PyData.keyHash w.params name) (.str name s.toks) v), toks := s.toks + 1 }) :
    codeAny (model prog w) A (.call (.builtin "object.__setattr__") ⟨[.ref x, .str name tk, v], []⟩) R s := by
  refine osa_open X I hp ht fun b => ?_
  obtain ⟨cd, hc, hd'⟩ := any_some hh
  obtain ⟨hx, hcl, hn, hdo⟩ := I
  obtain ⟨oc, odi, oda, osl⟩ := ox
  dsimp only at hcl hd hdo
  subst hcl hd
  have D : s.heap.get? dx = some (dictOf es n) := hdo
  have e := putName_dict name (PyData.keyHash w.params name) (.str name s.toks) v es n
  have D' : (s.heap.update dx (Obj.putName name (PyData.keyHash w.params name) (.str name s.toks) v)).get? dx = some (dictOf (putL name (PyData.keyHash w.params name) (.str name s.toks) v es) (putN name es n)) := by
    rw [Heap.get?_update_self _ D (by rw [e]; rfl), e]
  refine wpAny_bind (wpAny_pure (wpAny_bind (wpAny_bind (wpAny_loadPart hx (wpAny_bind ((looks_clsIn X hc).here ?_))))))
  rw [hd']
  refine wpAny_pure (a := some dx) (wpAny_bind (wpAny_pure (wpAny_bind ?_)))
  unfold nsSet
  refine wpAny_bind (wpAny_bind (wpAny_askSetting (wpAny_pure (wpAny_bind (wpAny_mkText (wpAny_bind (wpAny_loadPart D ?_)))))))
  unfold lookIn at hl
  dsimp only at hl ⊢
  have c : (!es.toArray.any (·.key.isStr name) && es.toArray.any (·.refKey)) = false := by
    rw [← Array.any_toList, ← Array.any_toList]
    split at hl
    · rename_i en he
      rw [List.any_eq_true.mpr ⟨en, List.mem_of_find?_eq_some he, List.find?_some he⟩]; rfl
    · split at hl
      · cases hl
      · rename_i z; rw [Bool.not_eq_true] at z; rw [z, Bool.and_false]
  rw [aRefKeyMayBeTheName_at, c]
  refine wpAny_updatePart D ?_
  refine wpAny_bind (wpAny_lookBehind D' (pastItsLine_dict (by rw [List.size_toArray, sizeLine_eq]; omega)) ?_)
  exact wpAny_pure h

/-- a call of a class of the text's own -/
theorem cMake {C fI : Addr} {rest : List Value} {R : Result → Shared → Prop} {K : Frag} (X : K.In s.heap) (hm : makesIn K C = true) (hi : findIn K (.ref C) "__init__" = some (some (.ref fI))) (hf : isFn K (.ref fI) = true)
    (hq : codeC (model prog w) (A.under (.builtin "type.__call__" ⟨.ref C :: rest, []⟩)) (.call (.ref fI) ⟨.ref (s.heap.objs.size + 1) :: rest, []⟩) (InitBack (s.heap.objs.size + 1) R)
      { s with heap := (s.heap.push emptyDict).push (instObj C s.heap.objs.size) }) :
    codeC (model prog w) A (.call (.ref C) ⟨rest, []⟩) R s := by
  have Y := makes_of (M := model prog w) X hm
  have hi' : Looks (model prog w) s.heap (typeLookup (.ref C) "__init__") (some (.ref fI)) := looks_findIn X hi
  have hb : ∀ self, Looks (model prog w) s.heap (bindSpecial (.ref fI) self) (.ref fI, [self]) := fun self => bind_fn X self (beq_iff_eq.mp hf)
  obtain ⟨h, g, d, t, os⟩ := s
  have Y' := Y
  obtain ⟨⟨oc, od, cd, sl, hC, e1, e2, e4⟩, made, base, self, top, call, typ⟩ := Y
  refine codeC_of_tree ?_
  show wpC _ _ (callAny (.ref C) _) _ _ _
  refine wpC.any (nd_load hC ?_)
  show wpAny _ _ (callAny.viaDunder (.ref C) _) _ _ _
  unfold callAny.viaDunder
  refine wpAny_bind (call.at ?_)
  dsimp only
  rw [tc_bind]
  refine wpAny_bind (wpAny_pure (wpAny_bind (wpAny_pure ?_)))
  refine wpAny_pure (a := Fin.again (.call (.builtin "type.__call__") ⟨.ref C :: rest, []⟩)) ⟨rfl, rfl, ?_⟩
  refine codeC_of_tree ?_
  show wpC _ A.in1 (do checkBuiltinCall "type.__call__" ⟨.ref C :: rest, []⟩; again (.builtin "type.__call__" ⟨.ref C :: rest, []⟩)) _ _ _
  refine wpC_bind (wpC.any (check_slot tc_kind tc_split typ (tc_args _ _ _) ?_))
  refine wpC_pure ⟨Code.quiet_builtin _ (by decide +kernel), rfl, codeC_builtin entry_typeCall ?_⟩
  unfold Builtin.«type.__call__»
  have hm : Looks (model prog w) h (mroOf (.ref C)) cd.mro := ((Looks.ld (part := none) hC).andThen .now).andThen .now
  have hne : (Value.ref C == Value.type "type") = false := rfl
  simp only [hne, Bool.false_eq_true, if_false]
  refine wpC_bind (wpC.any (hm.at ?_))
  rw [e4]
  refine c_if_false rfl ?_
  refine wpC_bind (wpC.any (made.at ?_))
  refine wpC_bind (wpC_pure ?_)
  refine wpC_bind (wpC_holding (wpC_call (codeC.any (new_K Y' hi' (.inl rfl) ?_))))
  have k : ∀ b o, h.get? b = some o → ((h.push emptyDict).push (instObj C h.objs.size)).get? b = some o := fun b o e => Heap.get?_push_of_some _ (Heap.get?_push_of_some _ e)
  have hx : ((h.push emptyDict).push (instObj C h.objs.size)).get? (h.objs.size + 1) = some (instObj C h.objs.size) := by
    have := Heap.get?_push_size (h.push emptyDict) (o := instObj C h.objs.size) rfl
    rwa [Heap.size_push] at this
  have t1 : Looks (model prog w) ((h.push emptyDict).push (instObj C h.objs.size)) (typeOf (.ref (h.objs.size + 1))) (.ref C) := (Looks.ld hx).andThen .now
  have s1 := self.keeps k
  have i1 := hi'.keeps k
  have b1 := (hb (.ref (h.objs.size + 1))).keeps k
  refine wpC_bind ?_
  unfold isInstance
  refine wpC_bind (wpC.any (t1.at (wpC.any (s1.at ?_))))
  simp only [Bool.not_true, Bool.false_eq_true, if_false]
  refine wpC_bind (wpC_holding ?_)
  unfold callSpecial? specialOf
  refine wpC_bind (wpC_bind (wpC.any (t1.at (wpC.any (i1.at ?_)))))
  refine wpC_holding (wpC_bind (wpC.any (b1.at ?_)))
  refine wpC_bind (wpC_call (codeC_mono hq fun r s' z => ?_))
  rcases r with e | (v | _ | _ | _) <;> first | exact z | exact z.elim | skip
  obtain ⟨rfl, z⟩ := z
  exact wpC_pure (wpC_pure z)
end
end Mine
end
section
open PySem PySem.W PyProof.Rows PySem.Calls
set_option maxRecDepth 100000
namespace Mine

def putD (name : Str) (v : V) : List (Str × V) → List (Str × V)
  | [] => [(name, v)]
  | (k, u) :: r => if k == name then (k, v) :: r else (k, u) :: putD name v r

theorem putD_len (name : Str) (v : V) : ∀ es : List (Str × V), (putD name v es).length ≤ es.length + 1
  | [] => by simp [putD]
  | (k, u) :: r => by
    unfold putD
    split
    · simp
    · have := putD_len name v r
      simp only [List.length_cons]
      omega

section
variable {prog : Program} {w : World} {hB : Heap} {c : Cx} {fr : Vars} {st : St} {E : EE} {K : Frag}

theorem relD_get {h : Heap} {name : Str} : ∀ {es : List (Str × V)} {es' : List DictEntry} {v : V}, RelD h st es es' → es.lookup name = some v → ∃ u, getL name es' = some (some u) ∧ RelV h st v u
  | _, _, v, .nil, e => by simp at e
  | _, _, v, .cons (k := k) (hs := hs) (t := t) (w := u) (es := es) (es' := es') r rs, e => by
    rw [List.lookup_cons] at e
    have hk : (⟨hs, .str k t, u⟩ : DictEntry).key.isStr name = (k == name) := rfl
    cases hb : name == k with
    | true =>
      rw [hb] at e; cases e
      have hb' : (k == name) = true := by simpa using (beq_iff_eq.mp hb).symm
      exact ⟨u, by simp only [getL, List.find?_cons, hk, hb'], r⟩
    | false =>
      rw [hb] at e
      obtain ⟨u', h1, h2⟩ := relD_get rs e
      have hb' : (k == name) = false := by
        cases q : k == name with
        | false => rfl
        | true => have := beq_iff_eq.mp q; rw [this] at hb; simp at hb
      refine ⟨u', ?_, h2⟩
      simp only [getL, List.find?_cons, hk, hb'] at h1 ⊢
      cases hf : List.find? (fun x => x.key.isStr name) es' with
      | some en => rw [hf] at h1; exact h1
      | none =>
        rw [hf] at h1
        simp only [] at h1
        split at h1 <;> cases h1
theorem relD_none {h : Heap} {name : Str} : ∀ {es : List (Str × V)} {es' : List DictEntry}, RelD h st es es' → es.lookup name = none → getL name es' = some none
  | _, _, .nil, _ => rfl
  | _, _, .cons (k := k) (hs := hs) (t := t) (w := u) (es := es) (es' := es') r rs, e => by
    rw [List.lookup_cons] at e
    have hk : (⟨hs, .str k t, u⟩ : DictEntry).key.isStr name = (k == name) := rfl
    cases hb : name == k with
    | true => rw [hb] at e; cases e
    | false =>
      rw [hb] at e
      have ih := relD_none rs e
      have hb' : (k == name) = false := by
        cases q : k == name with
        | false => rfl
        | true => have := beq_iff_eq.mp q; rw [this] at hb; simp at hb
      simp only [getL, List.find?_cons, hk, hb'] at ih ⊢
      cases hf : List.find? (fun x => x.key.isStr name) es' with
      | some en => rw [hf] at ih; cases ih
      | none =>
        rw [hf] at ih
        have hr : (((⟨hs, .str k t, u⟩ : DictEntry) :: es').any fun x => x.refKey) = (es'.any fun x => x.refKey) := rfl
        simp only [hr]
        exact ih
theorem relD_put {h : Heap} {name : Str} {hsh : Int} {t : Tok} {v : V} {u : Value} (rv : RelV h st v u) : ∀ {es : List (Str × V)} {es' : List DictEntry}, RelD h st es es' → RelD h st (putD name v es) (putL name hsh (.str name t) u es')
  | _, _, .nil => .cons rv .nil
  | _, _, .cons (k := k) (hs := hs) (t := t') (w := u') (es := es) (es' := es') r rs => by
    have hk : (⟨hs, .str k t', u'⟩ : DictEntry).key.isStr name = (k == name) := rfl
    unfold putD putL
    rw [hk]
    cases hb : k == name with
    | true => simp only [if_true]; exact .cons rv rs
    | false => simp only [Bool.false_eq_true, if_false]; exact .cons r (relD_put rv rs)
theorem relD_len {h : Heap} : ∀ {es : List (Str × V)} {es' : List DictEntry}, RelD h st es es' → es.length = es'.length
  | _, _, .nil => rfl
  | _, _, .cons _ rs => by simp [relD_len rs]

theorem inst_of {h : Heap} {x C dx : Addr} {es : List (Str × V)} (a : At hB c fr st h) (hx : st x = some (.inst C dx)) (hd : st dx = some (.dct es)) :
    ∃ es' n, InstAt h x (instObj C dx) C (some (dictOf es' n)) ∧ RelD h st es es' ∧ h.get? dx = some (dictOf es' n) := by
  obtain ⟨es', n, ho, hr⟩ := a.inv.objs _ _ hd
  exact ⟨es', n, ⟨a.inv.objs _ _ hx, rfl, rfl, ho⟩, hr, ho⟩

/-- an attribute that lies in the object's own dict -/
theorem TE_attr (G : Gd w hB K) {o : Expr} {attr : Str} {pos : Pos} {R : V → St → Prop}
    (h : TE prog w hB c o fr st E fun ov st1 => ∃ x C dx es l, ov = .ref x ∧ st1 x = some (.inst C dx) ∧ st1 dx = some (.dct es) ∧ es.lookup attr = some (.ref l) ∧ R (.ref l) st1 ∧
      plainGet K C attr = true ∧ hasDictIn K C = true ∧ ∃ at', findIn K (.ref C) attr = some at' ∧ noGet K at' = true)
    (hb : attributeBase o attr c.env (eval o c.env) = eval o c.env) : TE prog w hB c (.Attribute o attr pos) fr st E R := by
  intro s Q ha hQ
  refine cAttr (h s _ ha fun ov st1 u h1 tk1 hR a1 e1 r1 => ?_) hb
  obtain ⟨x, C, dx, es, l, rfl, hx, hd, hl, hR, hg, hh, at', hf, hn⟩ := hR
  (first | obtain rfl := RelV.i_val r1 | obtain rfl := RelV.i_ref r1 | obtain ⟨_, rfl⟩ := RelV.i_int r1 | obtain ⟨_, rfl⟩ := RelV.i_str r1 | obtain ⟨_, rfl⟩ := RelV.i_bytes r1 | obtain rfl := RelV.i_bool r1 | obtain rfl := RelVs.i_nil r1 | cases r1)
  intro e
  obtain ⟨es', n, I, hr, _⟩ := inst_of a1 hx hd
  obtain ⟨u, hu, hru⟩ := relD_get hr hl
  cases hru
  refine get_value (s := { s with heap := h1, toks := tk1 }) (G.kin.keeps (keepB a1.inv)) I (plainGet_of hg).1 (findObj_own hh hf hn (show lookIn attr (dictOf es' n) = some (some _) from hu)) rfl ?_
  exact hQ _ _ _ h1 (tk1 + 1) hR a1 e1 (.ref l)

/-- a store to an attribute that lies in the object's own dict -/
theorem S_attr (G : Gd w hB K) {x C dx : Addr} {es : List (Str × V)} {attr : Str} {v : V} {P : St → Prop} (hx : st x = some (.inst C dx)) (hd : st dx = some (.dct es)) (hz : es.length ≤ 900)
    (hs : findIn K (.ref C) "__setattr__" = some (some (.builtin "object.__setattr__"))) (hp : plainOver K C = true) (ht : takerIn K C attr = some none) (hh : (clsIn K C).any (·.hasDict) = true)
    (h : P (st.set dx (.dct (putD attr v es)))) : TSetA prog w hB c attr v (.ref x) fr st E P := by
  intro s Q wv wo ha rv ro hQ
  (first | obtain rfl := RelV.i_val ro | obtain rfl := RelV.i_ref ro | obtain ⟨_, rfl⟩ := RelV.i_int ro | obtain ⟨_, rfl⟩ := RelV.i_str ro | obtain ⟨_, rfl⟩ := RelV.i_bytes ro | obtain rfl := RelV.i_bool ro | obtain rfl := RelVs.i_nil ro | cases ro)
  obtain ⟨es', n, I, hr, hdo⟩ := inst_of ha hx hd
  have hK := G.kin.keeps (keepB ha.inv)
  refine set_plain hK I hs (osa_put (s := { s with toks := s.toks + 1 }) hK I rfl hp ht hh ?_ ?_ ?_)
  · rw [lookIn_dict]
    cases q : es.lookup attr with
    | some u => obtain ⟨u', h1, _⟩ := relD_get hr q; rw [h1]; rfl
    | none => rw [relD_none hr q]; rfl
  · have l1 := relD_len (relD_put (name := attr) (hsh := PyData.keyHash w.params attr) (t := s.toks + 1) rv hr)
    have l2 := putD_len attr v es
    show (putL attr _ (.str attr (s.toks + 1)) wv es').length ≤ 1000
    omega
  · have e := putName_dict attr (PyData.keyHash w.params attr) (.str attr (s.toks + 1)) wv es' n
    have hg : (s.heap.update dx (Obj.putName attr (PyData.keyHash w.params attr) (.str attr (s.toks + 1)) wv)).get? dx = some (dictOf (putL attr (PyData.keyHash w.params attr) (.str attr (s.toks + 1)) wv es') (putN attr es' n)) := by
      rw [Heap.get?_update_self _ hdo (by rw [e]; rfl), e]
    have := ha.update (o' := .dct (putD attr v es)) (h' := s.heap.update dx (Obj.putName attr (PyData.keyHash w.params attr) (.str attr (s.toks + 1)) wv)) hd (Heap.SameBut.update ..) fun st' k => ⟨_, _, hg, (relD_put rv hr).tr k⟩
    exact hQ _ _ _ h this.1 this.2

/-- a method of the object's own class -/
theorem m_inst (G : Gd w hB K) {x C dx f : Addr} {es : List (Str × V)} {name : Str} (hx : st x = some (.inst C dx)) (hd : st dx = some (.dct es)) (hl : es.lookup name = none)
    (hg : plainGet K C name = true) (hf : findIn K (.ref C) name = some (some (.ref f))) (ht : isFn K (.ref f) = true) : MethB prog w hB c fr st (.ref x) name (.ref f) := by
  intro s Q E pl wo ha hr hQ
  (first | obtain rfl := RelV.i_val hr | obtain rfl := RelV.i_ref hr | obtain ⟨_, rfl⟩ := RelV.i_int hr | obtain ⟨_, rfl⟩ := RelV.i_str hr | obtain ⟨_, rfl⟩ := RelV.i_bytes hr | obtain rfl := RelV.i_bool hr | obtain rfl := RelVs.i_nil hr | cases hr)
  obtain ⟨es', n, I, hr, _⟩ := inst_of ha hx hd
  refine method_fn (G.kin.keeps (keepB ha.inv)) I (plainGet_of hg).1 (plainGet_of hg).2 hf (beq_iff_eq.mp ht) ?_ (hQ s.toks)
  show (lookIn name (dictOf es' n)).map _ = _
  rw [lookIn_dict, relD_none hr hl]; rfl

theorem At.reA {h : Heap} {A' : Around} (a : At hB c fr st h) : At hB { c with A := A' } fr st h := ⟨a.inv, a.frm.kind, a.frm.glob, a.frm.blt, a.frm.own, a.frm.free, a.frm.nodup, a.frm.loc, a.frm.vars⟩
theorem At.unA {h : Heap} {A' : Around} (a : At hB { c with A := A' } fr st h) : At hB c fr st h := ⟨a.inv, a.frm.kind, a.frm.glob, a.frm.blt, a.frm.own, a.frm.free, a.frm.nodup, a.frm.loc, a.frm.vars⟩

/-- a call of a class of the text's own, whose init is a def -/
theorem K_class (G : Gd w hB K) {C fI : Addr} {args : List V} {R : V → St → Prop} (hm : makesIn K C = true) (hi : findIn K (.ref C) "__init__" = some (some (.ref fI))) (hf : isFn K (.ref fI) = true)
    (h : ∀ A' x dx, A'.handled = c.A.handled → A'.depth = c.A.depth + 1 → A'.units = c.A.units + 1 → st x = none → st dx = none → x ≠ dx →
      TCd prog w hB { c with A := A' } A' (.val (.ref fI)) (.ref x :: args) fr ((st.set dx (.dct [])).set x (.inst C dx)) E fun v st' => v = .none ∧ R (.ref x) st') :
    TC prog w hB c c.A (.val (.ref C)) args fr st E R := by
  intro s Q wf ws ha rf rs hQ
  (first | obtain rfl := RelV.i_val rf | obtain rfl := RelV.i_ref rf | obtain ⟨_, rfl⟩ := RelV.i_int rf | obtain ⟨_, rfl⟩ := RelV.i_str rf | obtain ⟨_, rfl⟩ := RelV.i_bytes rf | obtain rfl := RelV.i_bool rf | obtain rfl := RelVs.i_nil rf | cases rf)
  refine wpC_call (cMake (G.kin.keeps (keepB ha.inv)) hm hi hf ?_)
  have hn1 : st s.heap.objs.size = none := ha.fresh
  have p1 := ha.alloc (ob := emptyDict) (o := .dct []) fun st' _ => ⟨[], 0, Heap.get?_push_size _ rfl, .nil⟩
  have hs : (s.heap.push emptyDict).objs.size = s.heap.objs.size + 1 := Heap.size_push _ _
  have p2 := p1.1.alloc (ob := instObj C s.heap.objs.size) (o := .inst C s.heap.objs.size) fun st' _ => Heap.get?_push_size _ rfl
  rw [hs] at p2
  have hn2 : st (s.heap.objs.size + 1) = none := by
    have := p1.1.fresh
    rw [hs, St.set_ne (Nat.succ_ne_self _)] at this
    exact this
  have tc := h (c.A.under (.builtin "type.__call__" ⟨.ref C :: ws, []⟩)) (s.heap.objs.size + 1) s.heap.objs.size rfl rfl rfl hn2 hn1 (Nat.succ_ne_self _)
  have e12 := p1.2.trans p2.2
  refine codeC_mono (tc { s with heap := (s.heap.push emptyDict).push (instObj C s.heap.objs.size) } (fun v s' => v = .none ∧ Q (.ref (s.heap.objs.size + 1)) s') (.ref fI) (.ref (s.heap.objs.size + 1) :: ws) p2.1.reA (.val _) (.cons (.ref _) (rs.tr e12.tr))
    (fun v st' u h' tk' hR a' e' r' => by
      obtain ⟨rfl, hR⟩ := hR
      cases r'
      exact ⟨rfl, hQ _ _ _ h' tk' hR a'.unA (e12.trans e') (.ref _)⟩)) fun r s' z => ?_
  rcases r with e | (v | _ | _ | _) <;> exact z
end
end Mine
end
section
open PySem PySem.W PyProof.Rows PySem.Calls
set_option maxRecDepth 100000
namespace Mine

section
variable {prog : Program} {w : World} {A : Around} {E : Value → Shared → Prop} {s : Shared}
theorem strs_tree {t : Addr} {items : Array Value} {ns : List Str} {x : Str} {u : Tok} {P : Fin → Shared → Prop} (ht : IsTup s.heap t items) (hi : StrsAre items.toList ns)
    (h : P (.done (.ret (.bool (ns.any (· == x))))) s) : wpAny (model prog w) A (Builtin.«tuple.__contains__» ⟨[.ref t, .str x u], []⟩) P E s := by
  show wpAny _ _ (Builtin.Tuple.tupleItemsOf (.ref t) >>= _) _ _ s
  refine wpAny_bind (tupleItemsOf_ ht ?_)
  refine wpAny_bind (forIn_array_ _ (fun rest b s' => b.1 = none ∧ s' = s ∧ ∃ ms, StrsAre rest ms ∧ P (.done (.ret (.bool (ms.any (· == x))))) s) _ ?_ ?_ items _ ⟨rfl, rfl, ns, hi, h⟩)
  · rintro y rest b s' ⟨hb, rfl, ms, hm, hP⟩
    cases hm with
    | cons n tk hm' =>
      refine wpAny_bind (eqBool_str ?_)
      rw [List.any_cons] at hP
      cases hnx : (n == x) with
      | true =>
        rw [hnx] at hP
        exact wpAny_bind (wpAny_pure (wpAny_pure (wpAny_pure (by simpa using hP))))
      | false =>
        rw [hnx] at hP
        exact wpAny_pure ⟨rfl, rfl, _, hm', by simpa using hP⟩
  · rintro ⟨b1, b2⟩ s' ⟨hb, rfl, ms, hm, hP⟩
    cases hm
    simp only at hb
    subst hb
    exact wpAny_pure (by simpa using hP)
theorem contains_strs {t : Addr} {items : Array Value} {ns : List Str} {x : Str} {u : Tok} {Q : Bool → Shared → Prop} (ht : IsTup s.heap t items) (hi : StrsAre items.toList ns)
    (h : Q (ns.any (· == x)) s) : wpAny (model prog w) A (contains (.ref t) (.str x u)) Q E s := by
  unfold contains
  refine wpAny_holding ?_
  refine wpAny_bind (wpAny_specialOf ht.typeIs slot_tuple_contains.lookup ?_)
  rw [if_neg (by decide)]
  exact wpAny_bind (wpAny_callSpecialUnlessNone?_slot (name := Str.ofString "__contains__") ht.typeIs slot_tuple_contains
    (wpAny_call_entry slot_tuple_contains ht.typeIs entry_tuple_contains (strs_tree ht hi ⟨_, rfl, wpAny_truthy_bool h⟩) (args_tuple_contains _ _)))
end

section
variable {prog : Program} {w : World} {hB : Heap} {c : Cx} {fr : Vars} {st : St} {E : EE} {K : Frag}
theorem strs_of {h : Heap} : ∀ {ns : List Str} {ws : List Value}, RelVs h st (ns.map V.str) ws → StrsAre ws ns
  | [], _, .nil => .nil
  | _ :: _, _, .cons a b => by cases a; exact .cons _ _ (strs_of b)
theorem C_in_tup {x : Str} {ns : List Str} {vs : List V} {R : V → St → Prop} (hv : vs = ns.map V.str) (h : R (.bool (ns.any (· == x))) st) : TO2 prog w hB c (compareOp .In) (.str x) (.tup vs) fr st E R := by
  subst hv
  intro s Q wa wb ha ra rb hQ; (first | obtain rfl := RelV.i_val ra | obtain rfl := RelV.i_ref ra | obtain ⟨_, rfl⟩ := RelV.i_int ra | obtain ⟨_, rfl⟩ := RelV.i_str ra | obtain ⟨_, rfl⟩ := RelV.i_bytes ra | obtain rfl := RelV.i_bool ra | obtain rfl := RelVs.i_nil ra | cases ra)
  cases rb with
  | tup ht hn hr =>
    show wpAny _ _ (do return Value.bool (← contains (.ref _) (.str x _))) _ _ s
    exact wpAny_bind (contains_strs ht (by simpa using strs_of hr) (wpAny_pure (hQ _ _ _ _ s.toks h ha .refl (.bool _))))
theorem C_notin_tup {x : Str} {ns : List Str} {vs : List V} {R : V → St → Prop} (hv : vs = ns.map V.str) (h : R (.bool (!ns.any (· == x))) st) : TO2 prog w hB c (compareOp .NotIn) (.str x) (.tup vs) fr st E R := by
  subst hv
  intro s Q wa wb ha ra rb hQ; (first | obtain rfl := RelV.i_val ra | obtain rfl := RelV.i_ref ra | obtain ⟨_, rfl⟩ := RelV.i_int ra | obtain ⟨_, rfl⟩ := RelV.i_str ra | obtain ⟨_, rfl⟩ := RelV.i_bytes ra | obtain rfl := RelV.i_bool ra | obtain rfl := RelVs.i_nil ra | cases ra)
  cases rb with
  | tup ht hn hr =>
    show wpAny _ _ (do return Value.bool (!(← contains (.ref _) (.str x _)))) _ _ s
    exact wpAny_bind (contains_strs ht (by simpa using strs_of hr) (wpAny_pure (hQ _ _ _ _ s.toks h ha .refl (.bool _))))
theorem C_isnot_none_int {x : Int} {R : V → St → Prop} (h : R (.bool true) st) : TO2 prog w hB c (compareOp .IsNot) (.int x) .none fr st E R := by
  intro s Q wa wb ha ra rb hQ; (first | obtain rfl := RelV.i_val ra | obtain rfl := RelV.i_ref ra | obtain ⟨_, rfl⟩ := RelV.i_int ra | obtain ⟨_, rfl⟩ := RelV.i_str ra | obtain ⟨_, rfl⟩ := RelV.i_bytes ra | obtain rfl := RelV.i_bool ra | obtain rfl := RelVs.i_nil ra | cases ra); (first | obtain rfl := RelV.i_val rb | obtain rfl := RelV.i_ref rb | obtain ⟨_, rfl⟩ := RelV.i_int rb | obtain ⟨_, rfl⟩ := RelV.i_str rb | obtain ⟨_, rfl⟩ := RelV.i_bytes rb | obtain rfl := RelV.i_bool rb | obtain rfl := RelVs.i_nil rb | cases rb)
  exact wpAny_isNot_other rfl (fun e => nomatch e) (hQ _ _ _ _ s.toks h ha .refl (.bool _))
theorem C_is_none_ref {x : Addr} {R : V → St → Prop} (h : R (.bool false) st) : TO2 prog w hB c (compareOp .Is) (.ref x) .none fr st E R := by
  intro s Q wa wb ha ra rb hQ; (first | obtain rfl := RelV.i_val ra | obtain rfl := RelV.i_ref ra | obtain ⟨_, rfl⟩ := RelV.i_int ra | obtain ⟨_, rfl⟩ := RelV.i_str ra | obtain ⟨_, rfl⟩ := RelV.i_bytes ra | obtain rfl := RelV.i_bool ra | obtain rfl := RelVs.i_nil ra | cases ra); (first | obtain rfl := RelV.i_val rb | obtain rfl := RelV.i_ref rb | obtain ⟨_, rfl⟩ := RelV.i_int rb | obtain ⟨_, rfl⟩ := RelV.i_str rb | obtain ⟨_, rfl⟩ := RelV.i_bytes rb | obtain rfl := RelV.i_bool rb | obtain rfl := RelVs.i_nil rb | cases rb)
  exact wpAny_is_other rfl (fun e => nomatch e) (hQ _ _ _ _ s.toks h ha .refl (.bool _))

/-- a name of the text's own that is a tuple of strs -/
theorem TE_gtup (G : Gd w hB K) {x : Str} {pos} {a : Addr} {o : Obj} {ns : List Str} {R : V → St → Prop} (he : nsIn K mainGlobals x = some (some (.ref a))) (ho : K.lookup a = some o) (hc : o.cls = .type "tuple") {us : List Value} {n : Nat} (hd : o.data = .seq us.toArray n) (hs : StrsAre us ns)
    (h : R (.tup (ns.map V.str)) st) (hx : c.env.kindOf x = some .globalImplicit) (hdb : (x == ("__debug__" : Str)) = false := by decide) : TE prog w hB c (.Name x pos) fr st E R := by
  refine TE_global G he (fun h' st' hI => ?_) h hx hdb
  have hg := hI.stays a o (G.kin _ _ ho)
  have rel : ∀ {us : List Value} {ns : List Str}, StrsAre us ns → RelVs h' st' (ns.map V.str) us := by
    intro us ns hs
    induction hs with
    | nil => exact .nil
    | cons n t _ ih => exact .cons (.str _ _) ih
  exact .tup ⟨o, hg.1, hc, n, by rw [hd]⟩ hg.2 (rel hs)
end
end Mine
end
section
open PySem PySem.W PyProof.Rows PySem.Calls
set_option maxRecDepth 100000
namespace Mine

section
variable {prog : Program} {w : World} {hB : Heap} {c : Cx} {fr : Vars} {st : St} {E : EE} {K : Frag}

/-- some objects that are no part of a value are turned, and objects are laid -/
theorem At.hiddens {h h' : Heap} {its : List Addr} (a : At hB c fr st h) (hn : ∀ x ∈ its, st x = none) (ho : ∀ x ∈ its, x ∉ c.own) (hb : ∀ x ∈ its, hB.get? x = none) (hc : ∀ y ∈ c.env.cells, y.2 ∉ its)
    (hi : ∀ x ∈ its, ∃ ob, h.get? x = some ob ∧ imm ob = false) (hk : ∀ b o, b ∉ its → h.get? b = some o → h'.get? b = some o) : At hB c fr st h' ∧ Ext (· ∈ its) h st h' st ∧ Tr h st h' st := by
  have T : Tr h st h' st := fun b o e n d => ⟨hk b o (fun q => by
    obtain ⟨ob, h1, h2⟩ := hi b q
    rw [h1] at e; cases e; rw [h2] at d; cases d) e, n⟩
  refine ⟨⟨⟨fun b o e => ?_, fun b o e => ?_⟩, ?_⟩, ⟨fun b o e n hx => ⟨hk b o hx e, n⟩⟩, T⟩
  · have := a.inv.stays b o e
    exact ⟨hk b o (fun q => by rw [hb b q] at e; cases e) this.1, this.2⟩
  · exact (a.inv.objs b o e).tr T fun ob' e' => hk b ob' (fun q => by rw [hn b q] at e; cases e) e'
  · have hl : c.env.locals ∉ its := fun q => ho _ q a.frm.loc
    obtain ⟨m, hm, hv⟩ := a.frm.vars
    refine { a.frm with own := fun b hb' => ?_, free := fun y hy => ?_, vars := ⟨m, hm.at' fun o e => hk _ _ hl e, fun y u e => ?_⟩ }
    · obtain ⟨n, g, o, ho', hd⟩ := a.frm.own b hb'
      exact ⟨n, g, o, hk b o (fun q => ho b q hb') ho', hd⟩
    · obtain ⟨n, ne, ov, oc, hoc, hdc⟩ := a.frm.free y hy
      exact ⟨n, ne, ov, oc, hk _ _ (hc y hy) hoc, hdc⟩
    · obtain ⟨u', h1, h2⟩ := hv y u e
      refine ⟨u', h1.tr T, ?_⟩
      rcases h2 with h2 | ⟨k1, cA, k2, oc, hoc, hdc⟩
      · exact .inl h2
      · exact .inr ⟨k1, cA, k2, oc, hk _ _ (hc _ (lookup_mem k2)) hoc, hdc⟩

/-- a tuple is taken apart by a target -/
theorem assign_tup {elts : List Expr} {ns : List (Str × Pos)} {k tpos} {vs : List V} {u : Value} {s : Shared} {Q : Unit → Shared → Prop} {E' : Value → Shared → Prop} (hh : c.A.handled = none) (he : namesOf elts = some ns)
    (hk : ∀ x ∈ ns, CanStore c x.1) (hlen : ns.length = vs.length) (ha : At hB c fr st s.heap) (hr : RelV s.heap st (.tup vs) u)
    (hQ : ∀ h' tk', At hB c (setVars fr (ns.map (·.1)) vs) st h' → Ext (· ∈ c.own) s.heap st h' st → Q () { s with heap := h', toks := tk' }) : wpC (model prog w) c.A (assign (.Tuple elts k tpos) c.env u) Q E' s := by
  have he' := namesOf_eq he
  rw [PyProof.Rows.assign_Tuple]
  refine wpC_bind (wpC_standAt ?_)
  unfold unpack
  rw [he', assignEach_names, findIdx_false _ (by intro x hx; obtain ⟨y, _, rfl⟩ := List.mem_map.mp hx; rfl)]
  refine wpC_bind (wpC_holding (unpack_tup hh ha hr (by simpa using hlen) fun us h2 a2 e2 r2 => ?_))
  rw [List.map_map]
  exact inOrder (·.1) (fun x => assign (.Name x.1 x.2) c.env) (fun x fr v u s Q hx ha hr hQ => cAssign (wpC.any (storeName_any ha hr hx hQ))) ns vs us fr { s with heap := h2, toks := s.toks } _ hk a2 r2 fun h3 tk3 a3 e3 => hQ h3 tk3 a3 (e2.weaken.trans e3)

theorem imm_enum {h : Heap} {e it : Addr} {i : Int} {old : Value} (he : IsEnum h e it i old) : ∃ ob, h.get? e = some ob ∧ imm ob = false := ⟨_, he, rfl⟩
theorem imm_enumOut {h : Heap} {e it a : Addr} {i : Int} {old : Value} (he : IsEnumOut h e it i old a) : ∃ ob, h.get? e = some ob ∧ imm ob = false := ⟨_, he, rfl⟩
theorem imm_liter {h : Heap} {it l : Addr} {i : Nat} (he : h.IsListIter it l i) : ∃ ob, h.get? it = some ob ∧ imm ob = false := by
  obtain ⟨o, ho, hc, hd⟩ := he
  exact ⟨o, ho, by unfold Mine.imm; rw [hc, hd]; rfl⟩

/-- a comprehension over the pairs that enumerate gives of a list -/
theorem comp_enum {elt iter : Expr} {xi xv : Str} {pi pv pt : Pos} {x1 : Nat} {scope : Scope} {cl : List (Str × Addr)} {pos : Pos} {l : Addr} {items : List V} {st1 : St} {R : List V → St → Prop} {E₀ : Value → Shared → Prop}
    (S : CompS c fr scope cl [] (fun _ fr => fr)) (hh : c.A.handled = none) (hlen : items.length ≤ 1000000)
    (hxi : ∀ C, CanStore (CxC c scope cl C) xi) (hxv : ∀ C, CanStore (CxC c scope cl C) xv)
    (J : Nat → List V → St → Prop) (hJ0 : J 0 [] st1) (hpre : ∀ i ys st, J i ys st → st l = some (.list items))
    (hturn : ∀ C i ys st v, i < items.length → J i ys st → items[i]? = some v → TE prog w hB (CxC c scope cl C) elt (setVars [] [xi, xv] [.int (i : Int), v]) st NoE fun y st'' => J (i + 1) (ys ++ [y]) st'')
    (hend : ∀ ys st, J items.length ys st → R ys st)
    {hb : Heap} {s : Shared} {RR : Value → Addr → Result → Shared → Prop} (a1 : At hB c fr st1 hb) (hk0 : ∀ b o, hb.get? b = some o → s.heap.get? b = some o)
    (he0 : IsEnum s.heap (hb.objs.size + 1) hb.objs.size 0 .none) (hit0 : s.heap.IsListIter hb.objs.size l 0)
    (hRR : ∀ acc C h' tk' m ys ws k st', R ys st' → At hB c fr st' h' → Ext NoX hb st1 h' st' → st' acc = none → h'.get? acc = some (listOf (List.toArray ws) k) → RelVs h' st' ys ws → h'.Ns C m → st' C = none →
      hb.get? acc = none → hb.get? C = none → acc ≠ C → RR (.ref acc) C (.ok .next) { s with heap := h', toks := tk' }) :
    wpC (model prog w) c.A (pyIter (.ref (hb.objs.size + 1))) (fun it s₂ => wpC (model prog w) c.A (newList []) (fun acc s₃ =>
      wpC (model prog w) c.A (newFunctionEnv scope c.env.globals cl [] c.env.qual none .none (some c.env)) (fun cenv s₄ =>
        codeC (model prog w) c.A (.compStart (.ListComp elt [⟨.Tuple [.Name xi pi, .Name xv pv] x1 pt, iter, [], 0⟩] scope pos) 0 it acc { cenv with scope := relabel scope c.env }) (RR acc cenv.locals) s₄) E₀ s₃) E₀ s₂) E₀ s := by
  refine wpC.any (wpAny_pyIter_enum he0 ?_)
  refine wpC.any (wpAny_newObj_type ?_ (by size_fits))
  refine wpC.any (wpAny_newFunctionEnv S.cell (by intro y hy; simp at hy) (fun h₁ hns hsb => ?_) S.kind)
  simp only [Option.isSome_some, if_true] at hns hsb ⊢
  generalize hH : s.heap.push { cls := .type "list", dict := none, data := .seq ([] : List Value).toArray } = H2 at hns hsb ⊢
  have hHs : H2.objs.size = s.heap.objs.size + 1 := by rw [← hH, Heap.size_push]
  have hlt : hb.objs.size + 1 < s.heap.objs.size := Heap.lt_size he0
  have f_it : hb.get? hb.objs.size = none := get_none_size hb
  have f_e : hb.get? (hb.objs.size + 1) = none := none_ge (Nat.le_succ _)
  have f_acc : hb.get? s.heap.objs.size = none := none_ge (by omega)
  have f_C : hb.get? H2.objs.size = none := none_ge (by omega)
  have ltacc : ∀ b o, s.heap.get? b = some o → b < s.heap.objs.size := fun _ _ e => Heap.lt_size e
  generalize heE : hb.objs.size + 1 = e at *
  generalize hitE : hb.objs.size = it at *
  generalize haccE : s.heap.objs.size = acc at *
  have hei : e ≠ it := by omega
  have heacc : e ≠ acc := by omega
  have hitacc : it ≠ acc := by omega
  have hCE : H2.objs.size = acc + 1 := hHs
  generalize hCE' : H2.objs.size = C at *
  have heC : e ≠ C := by rw [hCE]; exact Nat.ne_of_lt (Nat.lt_succ_of_lt hlt)
  have hitC : it ≠ C := by omega
  have haccC : acc ≠ C := by omega
  have k1 : ∀ b o, s.heap.get? b = some o → h₁.get? b = some o := fun b o q => by
    have hb := ltacc b o q
    exact hsb.extBut b o (by rw [hCE]; exact Nat.ne_of_lt (Nat.lt_succ_of_lt hb)) (Heap.get?_push_of_some _ (by rw [← hH]; exact Heap.get?_push_of_some _ q))
  have k0 : ∀ b o, hb.get? b = some o → h₁.get? b = some o := fun b o e => k1 b o (hk0 b o e)
  have oe : IsEnum h₁ e it 0 .none := k1 _ _ he0
  have oit : h₁.IsListIter it l 0 := hit0.at fun o q => k1 _ _ q
  have oacc : h₁.get? acc = some (listOf (List.toArray []) 0) := by
    refine hsb.extBut _ _ haccC (Heap.get?_push_of_some _ ?_)
    rw [← hH, ← haccE]
    exact Heap.get?_push_size _ rfl
  have g1 := a1.grown k0
  have own_of : ∀ {a : Addr}, hb.get? a = none → a ∉ c.own := fun e hm => by
    obtain ⟨_, _, o', ho', _⟩ := a1.frm.own _ hm
    rw [e] at ho'; cases ho'
  have cells_of : ∀ {a : Addr}, hb.get? a = none → ∀ x ∈ c.env.cells, x.2 ≠ a := fun e x hx q => by
    obtain ⟨_, _, ov, oc, hoc, _⟩ := a1.frm.free x hx
    rw [q, e] at hoc; cases hoc
  -- the comprehension's own frame
  have a2 : At hB (CxC c scope cl C) [] st1 h₁ := by
    obtain ⟨om, hm, hv⟩ := g1.1.frm.vars
    refine ⟨g1.1.inv, { kind := S.kind, glob := a1.frm.glob, blt := a1.frm.blt, own := fun b hb => ?_, free := fun y hy => ?_, nodup := S.cld, loc := List.mem_singleton.mpr rfl, vars := ⟨_, hns, fun y u e => by simp at e⟩ }⟩
    · obtain rfl : b = C := List.mem_singleton.mp hb
      obtain ⟨o', es, ep, ho', hd', _⟩ := hns
      exact ⟨st_none a1 f_C, hB_none a1 f_C, o', ho', by rw [hd']; rfl⟩
    · obtain ⟨n', ne, ov, hc⟩ := g1.1.frm.free y (S.clm y hy)
      exact ⟨n', cells_of f_C y (S.clm y hy), ov, hc⟩
  have oC : ∀ {fr' : Vars} {st' : St} {h' : Heap}, At hB (CxC c scope cl C) fr' st' h' → st' C = none := fun a => (a.frm.own C (List.mem_singleton.mpr rfl)).1
  have nC : ∀ {x : Addr}, x ≠ C → x ∉ (CxC c scope cl C).own := fun hx hm => hx (List.mem_singleton.mp hm)
  have cellsC : ∀ {a : Addr}, hb.get? a = none → ∀ x ∈ (CxC c scope cl C).env.cells, x.2 ≠ a := fun e x hx => cells_of e x (S.clm x hx)
  have two : ∀ {P : Addr → Prop}, P e → P it → ∀ x ∈ [e, it], P x := fun p q x hx => by
    rcases List.mem_cons.mp hx with rfl | hx
    · exact p
    · rw [List.mem_singleton.mp hx]; exact q
  have notin : ∀ {x : Addr}, x ≠ e → x ≠ it → x ∉ [e, it] := fun p q hx => by
    rcases List.mem_cons.mp hx with h | hx
    · exact p h
    · exact q (List.mem_singleton.mp hx)
  have loop : codeC (model prog w) c.A (.compLoop (.ListComp elt [⟨.Tuple [.Name xi pi, .Name xv pv] x1 pt, iter, [], 0⟩] scope pos) 0 (.ref e) (.ref acc) (compEnvC scope cl C c.env)) (RR (.ref acc) C) { s with heap := h₁, toks := s.toks + ([] : List (Str × Value)).length } := by
    obtain ⟨II, hII⟩ : ∃ II : Nat → Shared → Prop, ∀ n s', II n s' ↔ ∃ (i : Nat) (ys : List V) (st' : St) (h' : Heap) (tk' : Nat) (old : Value) (ws : List Value) (k : Nat), s' = { s with heap := h', toks := tk' } ∧ J i ys st' ∧ i ≤ items.length ∧ n = items.length - i ∧ ys.length ≤ i ∧ At hB (CxC c scope cl C) [] st' h' ∧
      Ext NoX hb st1 h' st' ∧ st' e = none ∧ st' it = none ∧ IsEnum h' e it (i : Int) old ∧ h'.IsListIter it l i ∧ st' acc = none ∧ h'.get? acc = some (listOf (List.toArray ws) k) ∧ RelVs h' st' ys ws := ⟨_, fun _ _ => Iff.rfl⟩
    refine codeC_compLoop_tests II ?_ items.length
      ((hII _ _).mpr ⟨0, [], st1, h₁, _, .none, [], 0, rfl, hJ0, Nat.zero_le _, rfl, Nat.zero_le _, a2, g1.2, st_none a1 f_e, st_none a1 f_it, oe, oit, st_none a1 f_acc, oacc, .nil⟩)
    rintro n _ hn
    refine e8 ((hII _ _).mp hn) fun i ys st' h' tk' old ws k hh => a14 hh fun q1 hJ hle q2 hyl a' e' hne hni he' hit' hna hoa hra => ?_
    clear hh hn
    subst q1 q2
    have nf : ∀ {h'' : Heap} {tk''} (e : Value) (s' : Shared), EX { s with heap := h'', toks := tk'' } NoE e s' → notedC (model prog w) c.A (compEnvC scope cl C c.env) (fun e s' => RR (.ref acc) C (.error e) s') e s' := by
      rintro h'' tk'' e _ ⟨_, _, _, f⟩
      exact f.elim
    obtain ⟨us, nl, hl, hrl⟩ := a'.list (hpre _ _ _ hJ)
    have hL : h'.IsList l us.toArray := isList_of hl
    have hul := hrl.length
    have hle' : l ≠ e := fun q => by have := hpre _ _ _ hJ; rw [q, hne] at this; cases this
    have hli' : l ≠ it := fun q => by have := hpre _ _ _ hJ; rw [q, hni] at this; cases this
    have cmp : ∀ {h3 : Heap}, Ext (· ∈ [e, it]) h' st' h3 st' → Ext NoX hb st1 h3 st' := fun {h3} k => ⟨fun b o q n _ => by
      have := e'.keep b o q n (fun f => f)
      refine k.keep b o this.1 this.2 fun z => ?_
      rcases List.mem_cons.mp z with z | z
      · rw [z, f_e] at q; cases q
      · rw [List.mem_singleton.mp z, f_it] at q; cases q⟩
    rcases Nat.lt_or_ge i items.length with hlt2 | hge
    · obtain ⟨v2, hv⟩ : ∃ v, items[i]? = some v := ⟨_, List.getElem?_eq_getElem hlt2⟩
      obtain ⟨x, hx, hrx⟩ := hrl.get i hv
      refine wpC.any (wpAny_pyNext_enum_item (s := { s with heap := h', toks := tk' }) he' hit' hL (by simpa using hx) hei fun h3 he3 hit3 hT3 hsz3 hk3 => ?_)
      dsimp only at he3 hit3 hT3 hsz3 hk3 ⊢
      have hTe : h'.objs.size ≠ e := Nat.ne_of_gt (Heap.lt_size he')
      have hTi : h'.objs.size ≠ it := by obtain ⟨o, ho, _⟩ := hit'; exact Nat.ne_of_gt (Heap.lt_size ho)
      have a3 := a'.hiddens (h' := h3) (its := [e, it]) (two hne hni) (two (nC heC) (nC hitC)) (two (hB_none a1 f_e) (hB_none a1 f_it)) (fun y hy => notin (cellsC f_e y hy) (cellsC f_it y hy)) (two (imm_enum he') (imm_liter hit'))
        fun b o hb q => hk3 b o (fun z => hb (by simp [z])) (fun z => hb (by simp [z])) q
      refine wpC.any (wpAny_letOwnedTupleGo_enum (s := { s with heap := h3, toks := tk' + 1 }) he3 fun h4 he4 hs4 => ?_)
      dsimp only at hs4 ⊢
      have a4 := a3.1.hiddens (h' := h4) (its := [e, it]) (two hne hni) (two (nC heC) (nC hitC)) (two (hB_none a1 f_e) (hB_none a1 f_it)) (fun y hy => notin (cellsC f_e y hy) (cellsC f_it y hy)) (two (imm_enumOut he3) (imm_liter hit3))
        fun b o hb q => (hs4.2 b (fun z => hb (by simp [z]))).trans q
      have hit4 : h4.IsListIter it l (i + 1) := hit3.at fun o q => (hs4.2 it (Ne.symm hei)).trans q
      have eA : Ext NoX hb st1 h4 st' := ⟨fun b o q n _ => by
        have := (cmp a3.2.1).keep b o q n (fun f => f)
        refine a4.2.1.keep b o this.1 this.2 fun z => ?_
        rcases List.mem_cons.mp z with z | z
        · rw [z, f_e] at q; cases q
        · rw [List.mem_singleton.mp z, f_it] at q; cases q⟩
      have hoa4 : h4.get? acc = some (listOf (List.toArray ws) k) := (hs4.2 acc (Ne.symm heacc)).trans (hk3 acc _ (Ne.symm heacc) (Ne.symm hitacc) hoa)
      have hra4 : RelVs h4 st' ys ws := (hra.tr a3.2.2).tr a4.2.2
      have hT4 : IsTup h4 h'.objs.size [Value.int i tk', x].toArray := ⟨_, (hs4.2 _ hTe).trans hT3, rfl, _, rfl⟩
      have hnT : st' h'.objs.size = none := st_none a' (get_none_size h')
      have hrT : RelV h4 st' (.tup [.int (i : Int), v2]) (.ref h'.objs.size) := .tup hT4 hnT (.cons (.int _ _) (.cons ((hrx.tr a3.2.2).tr a4.2.2) .nil))
      refine assign_tup (c := CxC c scope cl C) (ns := [(xi, pi), (xv, pv)]) (vs := [.int (i : Int), v2]) hh rfl (by
        intro y hy
        rcases List.mem_cons.mp hy with rfl | hy
        · exact hxi C
        · rw [List.mem_singleton.mp hy]; exact hxv C) rfl a4.1 hrT fun h5 tk5 a5 e5 => ?_
      dsimp only at e5 ⊢
      have hte := hturn C i ys st' v2 hlt2 hJ hv
      have ke5 := e5.keep e _ he4 hne (nC heC)
      have ki5 : h5.IsListIter it l (i + 1) := hit4.at fun o q => (e5.keep it o q hni (nC hitC)).1
      have ka5 := e5.keep acc _ hoa4 hna (nC haccC)
      have eA5 : Ext NoX hb st1 h5 st' := ⟨fun b o q n _ => by
        have := eA.keep b o q n (fun f => f)
        exact e5.keep b o this.1 this.2 fun z => by rw [List.mem_singleton.mp z, f_C] at q; cases q⟩
      have hra5 : RelVs h5 st' ys ws := hra4.tr fun b o q n d => by
        refine e5.keep b o q n fun z => ?_
        obtain rfl := List.mem_singleton.mp z
        obtain ⟨oo, es, ep, hoo, hdd, _⟩ := a4.1.frm.vars.choose_spec.1
        rw [show h4.get? b = some oo from hoo] at q
        cases q
        rw [imm_frame (by rw [hdd]; rfl)] at d; cases d
      refine tests_nil ?_
      simp only [if_true]
      refine wpC_mono (hte { s with heap := h5, toks := tk5 } (fun x s₄ => wpC (model prog w) c.A (call (.builtin "list.append") [.ref acc, x]) (fun _ s₅ => ∃ m, m < items.length - i ∧ II m s₅) (notedC (model prog w) c.A (compEnvC scope cl C c.env) fun e s' => RR (.ref acc) C (.error e) s') s₄) a5 fun y st7 u7 h7 tk7 hJ7 a7 e7 r7 => ?_) (fun _ _ x => x) (fun e s' x => nf e s' x)
      dsimp only at e7
      have ke7 := e7.keep e _ ke5.1 ke5.2 (fun f => f)
      have hni7 : st7 it = none := by
        obtain ⟨o, ho, _⟩ := ki5
        exact (e7.keep it o ho hni (fun f => f)).2
      have ki7 : h7.IsListIter it l (i + 1) := ki5.at fun o q => (e7.keep it o q hni (fun f => f)).1
      have ka7 := e7.keep acc _ ka5.1 ka5.2 (fun f => f)
      have hra7 : RelVs h7 st7 ys ws := hra5.tr e7.tr
      have hwl : ws.length = ys.length := hra7.length.symm
      refine wpC.any (append_at (A := c.A) ka7.1 (fun h8 hs8 ho8 => ?_) (by have := sizeLine_ge; simp; omega))
      have a8 := a7.hidden ka7.2 (nC haccC) (hB_none a1 f_acc) (cellsC f_acc) ka7.1 rfl (fun b o hb e => (hs8.2 b hb).trans e)
      refine ⟨items.length - (i + 1), Nat.sub_succ_lt_self _ _ hlt2, (hII _ _).mpr ⟨i + 1, ys ++ [y], st7, h8, tk7, x, ws ++ [u7], k + 1, rfl, hJ7, hlt2, rfl, by simp; omega, a8.1.weak fun y' u' q => by simp at q, ?_, ke7.2, hni7, ?_, ki7.at fun o q => (hs8.2 it hitacc).trans q, ka7.2, by rw [ho8]; simp [W.listOf], (hra7.append (.cons r7 .nil)).tr a8.2.2⟩⟩
      · exact ⟨fun b o q n _ => by
          have h9 := eA5.keep b o q n (fun f => f)
          have h10 := e7.keep b o h9.1 h9.2 (fun f => f)
          exact a8.2.1.keep b o h10.1 h10.2 fun z => by subst z; rw [f_acc] at q; cases q⟩
      · exact (hs8.2 e heacc).trans ke7.1
    · obtain rfl : i = items.length := by omega
      refine wpC.any (wpAny_pyNext_enum_end (s := { s with heap := h', toks := tk' }) hh he' hit' hL (by simp; omega) fun h3 hx3 => ?_)
      dsimp only at hx3 ⊢
      have a3 := a'.hiddens (h' := h3) (its := [e, it]) (two hne hni) (two (nC heC) (nC hitC)) (two (hB_none a1 f_e) (hB_none a1 f_it)) (fun y hy => notin (cellsC f_e y hy) (cellsC f_it y hy)) (two (imm_enum he') (imm_liter hit'))
        fun b o hb q => hx3 b o (fun z => hb (by simp [z])) q
      have ee := cmp a3.2.1
      obtain ⟨m, hm, _⟩ := a3.1.frm.vars
      exact hRR acc C h3 tk' m ys ws k st' (hend _ _ hJ) ⟨a3.1.inv, a1.frm.ext ee⟩ ee hna (hx3 _ _ (Ne.symm hitacc) hoa) (hra.tr a3.2.2) hm (oC a3.1) f_acc f_C haccC
  exact codeC_compStart_list loop (wpC.any (wpAny_pyIter_enum oe loop))

theorem TE_comp_enum (G : Gd w hB K) {elt fe xe : Expr} {xi xv : Str} {pi pv pt pc : Pos} {x1 : Nat} {scope : Scope} {cl : List (Str × Addr)} {pos : Pos} {l : Addr} {items : List V} {R : V → St → Prop}
    (S : CompS c fr scope cl [] (fun _ fr => fr)) (hh : c.A.handled = none) (hlen : items.length ≤ 1000000)
    (hxi : ∀ C, CanStore (CxC c scope cl C) xi) (hxv : ∀ C, CanStore (CxC c scope cl C) xv) (J : Nat → List V → St → Prop) (hpre : ∀ i ys st, J i ys st → st l = some (.list items))
    (h : TE prog w hB c fe fr st E fun f st0 => f = .val (.type "enumerate") ∧ TE prog w hB c xe fr st0 E fun v st1 => v = .ref l ∧ J 0 [] st1)
    (hturn : ∀ C i ys st v, i < items.length → J i ys st → items[i]? = some v → TE prog w hB (CxC c scope cl C) elt (setVars [] [xi, xv] [.int (i : Int), v]) st NoE fun y st'' => J (i + 1) (ys ++ [y]) st'')
    (hend : ∀ ys st, J items.length ys st → ∀ a, st a = none → R (.ref a) (st.set a (.list ys)))
    (hs : ∀ x, foldedSetIterable (.Call fe [xe] [] pc) c.env x = pure x := by intro _; rfl)
    (he : ∀ env, eval (.Call fe [xe] [] pc) env = (do callWith pc (← eval fe env) [] (backTo pc (starEach [xe] env)) (backToKw pc (keywordEach [] env))) := by intro; rfl)
    (h1 : ∀ env, starEach [xe] env = [(false, eval xe env)] := by intro; rfl) :
    TE prog w hB c (.ListComp elt [⟨.Tuple [.Name xi pi, .Name xv pv] x1 pt, .Call fe [xe] [] pc, [], 0⟩] scope pos) fr st E R := by
  intro s Q ha hQ
  rw [eval_ListComp]
  refine cComp (use := none) rfl hs S.clos S.kind S.names ?_
  refine cCall (h s _ ha fun f st0 wf h0 tk0 hR0 a0 e0 r0 => ?_) (he _)
  obtain ⟨rfl, hxe⟩ := hR0
  (first | obtain rfl := RelV.i_val r0 | obtain rfl := RelV.i_ref r0 | obtain ⟨_, rfl⟩ := RelV.i_int r0 | obtain ⟨_, rfl⟩ := RelV.i_str r0 | obtain ⟨_, rfl⟩ := RelV.i_bytes r0 | obtain rfl := RelV.i_bool r0 | obtain rfl := RelVs.i_nil r0 | cases r0)
  refine cCallArgs (K := K) (.inl fun a e => nomatch e) (cArgs (hxe { s with heap := h0, toks := tk0 } _ a0 fun v st1 u hb tk1 hR a1 e1 r1 => ?_) (h1 _)) (h1 _) rfl
  obtain ⟨rfl, hJ0⟩ := hR
  (first | obtain rfl := RelV.i_val r1 | obtain rfl := RelV.i_ref r1 | obtain ⟨_, rfl⟩ := RelV.i_int r1 | obtain ⟨_, rfl⟩ := RelV.i_str r1 | obtain ⟨_, rfl⟩ := RelV.i_bytes r1 | obtain rfl := RelV.i_bool r1 | obtain rfl := RelVs.i_nil r1 | cases r1)
  refine wpC_pure ⟨G.kin.keeps (keepB a1.inv), ?_⟩
  dsimp only at e1 ⊢
  obtain ⟨us, nl, hl, hrl⟩ := a1.list (hpre _ _ _ hJ0)
  refine wpC.any (call_enumerate_list (s := { s with heap := hb, toks := tk1 }) (isList_of hl) fun h2 he2 hit2 hsz hk => ?_)
  dsimp only at he2 hit2 hsz hk ⊢
  refine comp_enum (R := fun ys st => ∀ a, st a = none → R (.ref a) (st.set a (.list ys))) (RR := compQ (model prog w) c.A (EX s E) none Q) S hh hlen hxi hxv J hJ0 hpre hturn hend (s := { s with heap := h2, toks := tk1 }) a1 hk he2 hit2 ?_
  intro acc C h' tk' m ys ws k st' hRy a' e' hna hoa hra hm hCn f_acc f_C hne
  refine ⟨m, hm, fun h'' hsC => ?_⟩
  have own_of : ∀ {a : Addr}, hb.get? a = none → a ∉ c.own := fun e hm => by
    obtain ⟨_, _, o', ho', _⟩ := a1.frm.own _ hm
    rw [e] at ho'; cases ho'
  have cells_of : ∀ {a : Addr}, hb.get? a = none → ∀ x ∈ c.env.cells, x.2 ≠ a := fun e x hx q => by
    obtain ⟨_, _, ov, oc, hoc, _⟩ := a1.frm.free x hx
    rw [q, e] at hoc; cases hoc
  obtain ⟨oC, es, ep, hoC, hdC, _⟩ := hm
  have aC := a'.hidden hCn (own_of f_C) (hB_none a1 f_C) (cells_of f_C) hoC (imm_frame (by rw [hdC]; rfl)) (fun b o hb e => (hsC.2 b hb).trans e)
  have aR := aC.1.reveal hna (own_of f_acc) (hB_none a1 f_acc) (cells_of f_acc) ((hsC.2 acc hne).trans hoa) (hra.tr aC.2.2)
  refine hQ _ _ _ h'' tk' (hRy acc hna) aR.1 ((e0.trans e1).trans ⟨fun b o q n _ => ?_⟩) (.ref acc)
  have h9 := e'.keep b o q n (fun f => f)
  have h10 := aC.2.1.keep b o h9.1 h9.2 fun z => by subst z; rw [f_C] at q; cases q
  exact ⟨h10.1, by rw [St.set_ne (fun z => by subst z; rw [f_acc] at q; cases q)]; exact h10.2⟩
end
end Mine
end
section
open PySem PySem.W PyProof.Rows PySem.Calls
set_option maxRecDepth 100000
namespace Mine

section
variable {M : Model} {A : Around} {E : Value → Shared → Prop} {h : Heap} {g : Array GenState} {d : Drawn} {t : Nat} {os : OsState}
variable {nm q : Str} {C N : Addr} {bs bm bmB : List Value} {hdct : Bool} {sn : List Str} {sub : List Value} {ab : Bool} {col : Option Bool} {dd : Option Addr} {k0 k1 k2 k3 k5 : Option Value} {B newId initId : String}

/-- a new exception of a class whose line holds a built-in one -/
theorem x_check_new (F : ExcBaseFacts B newId initId bmB) (hcont : (Value.ref C :: bm).contains (.type B) = true) {rest : List Value} {Q : Unit → Shared → Prop}
    (hC : h.get? C = some (excClassObj nm q C N bs bm hdct sn sub ab col dd k0 k1 k2 k3 k5 newId)) (hq : Q () ⟨h, g, d, t, os⟩) : wpAny M A (checkBuiltinCall newId ⟨.ref C :: rest, []⟩) Q E ⟨h, g, d, t, os⟩ := by
  have hstar := F.noStar
  simp only [checkBuiltinCall, F.newKind, F.newSplit, F.newRow]
  repeat (first | refine wpAny_loadPart_at hC ?_ | (refine wpAny_isSubtype_exc hC ?_; rw [hcont]) | refine wpAny_staticBase_exc hC ?_ | refine wpAny_madeBy_exc hC ?_ | simp only [bne_self_eq_false, Bool.false_eq_true, if_false] | wp_step)
  exact hq
end

section
variable {prog : Program} {w : World} {A : Around} {R : Result → Shared → Prop} {h : Heap} {g : Array GenState} {d : Drawn} {t : Nat} {os : OsState}
variable {nm q : Str} {C N : Addr} {bs bm bmB : List Value} {hdct : Bool} {sn : List Str} {sub : List Value} {ab : Bool} {col : Option Bool} {dd : Option Addr} {k0 k1 k2 k3 k5 : Option Value} {B newId initId : String}

abbrev excNew (C t : Addr) : Obj := { cls := .ref C, data := .fields #[.ref t, .none, .none, .none, .bool false, .none] }

theorem x_new (F : ExcBaseFacts B newId initId bmB) (hcB : (Value.ref C :: bm).contains (.type B) = true) (hcA : (Value.ref C :: bm).contains (.type "AttributeError") = false) (hcN : (Value.ref C :: bm).contains (.type "NameError") = false)
    {rest : List Value} (hC : h.get? C = some (excClassObj nm q C N bs bm hdct sn sub ab col dd k0 k1 k2 k3 k5 newId))
    (hq : R (.ok (.ret (.ref (h.objs.size + 1)))) ⟨(h.push { cls := .type "tuple", data := .seq rest.toArray }).push (excNew C h.objs.size), g, d, t, os⟩) (hrest : rest.length ≤ sizeLine) :
    codeAny (model prog w) A (.call (.builtin newId) ⟨.ref C :: rest, []⟩) R ⟨h, g, d, t, os⟩ := by
  refine codeAny_call_builtin_code (Code.quiet_builtin _ F.quiet) (x_check_new F hcB hC ?_)
  have hends := F.ends
  refine PySem.codeAny_builtinAt F.entry ?_
  unfold Builtin.«BaseException.__new__»
  refine PySem.wpAt_bind ?_
  show PySem.wpAt _ _ _ (stack >>= _) _ _ _
  refine PySem.wpAt_bind (PySem.wpAt_stack fun p below => PySem.wpAt_of_wpAny ?_)
  wp_walk
  refine PySem.wpAt_of_wpAny ?_
  rw [F.owner]
  repeat (first | with_reducible refine wpAny_madeHere_exc F.canon hC ?_ | with_reducible refine wpAny_loadPart_at hC ?_ | (with_reducible refine wpAny_isSubtype_exc hC ?_; first | rw [hcB] | rw [hcA] | rw [hcN]) | wp_step)
  show R _ _
  rw [Heap.size_push]
  exact hq

/-- a call of an exception class of the text's own, whose init is a def -/
theorem cMakeE (F : ExcBaseFacts B newId initId bmB) {fI : Addr} {rest : List Value} {s : Shared} {K : Frag} (X : K.In s.heap) (hC : K.lookup C = some (excClassObj nm q C N bs bm hdct sn sub ab col dd k0 k1 k2 k3 k5 newId))
    (hcB : (Value.ref C :: bm).contains (.type B) = true) (hcA : (Value.ref C :: bm).contains (.type "AttributeError") = false) (hcN : (Value.ref C :: bm).contains (.type "NameError") = false)
    (hi : findIn K (.ref C) "__init__" = some (some (.ref fI))) (hf : isFn K (.ref fI) = true) (hcall : specialIn K (.ref C) "__call__" = some (some (.builtin "type.__call__"))) (hty : instIn K (.ref C) (.type "type") = some true)
    (hrest : rest.length ≤ sizeLine)
    (hq : codeC (model prog w) (A.under (.builtin "type.__call__" ⟨.ref C :: rest, []⟩)) (.call (.ref fI) ⟨.ref (s.heap.objs.size + 1) :: rest, []⟩) (InitBack (s.heap.objs.size + 1) R)
      { s with heap := (s.heap.push { cls := .type "tuple", data := .seq rest.toArray }).push (excNew C s.heap.objs.size) }) :
    codeC (model prog w) A (.call (.ref C) ⟨rest, []⟩) R s := by
  have hi' : Looks (model prog w) s.heap (typeLookup (.ref C) "__init__") (some (.ref fI)) := looks_findIn X hi
  have hb : ∀ self, Looks (model prog w) s.heap (bindSpecial (.ref fI) self) (.ref fI, [self]) := fun self => bind_fn X self (beq_iff_eq.mp hf)
  have call : Looks (model prog w) s.heap (specialOf (.ref C) "__call__") (some (.builtin "type.__call__")) := looks_specialIn X hcall
  have typ : Looks (model prog w) s.heap (isInstance (.ref C) (.type "type")) true := looks_instIn X hty
  have hC := X _ _ hC
  obtain ⟨h, g, d, t, os⟩ := s
  dsimp only at hC hi' hb call typ hq
  refine codeC_of_tree ?_
  show wpC _ _ (callAny (.ref C) _) _ _ _
  refine wpC.any (nd_load hC ?_)
  show wpAny _ _ (callAny.viaDunder (.ref C) _) _ _ _
  unfold callAny.viaDunder
  refine wpAny_bind (call.at ?_)
  dsimp only
  rw [tc_bind]
  refine wpAny_bind (wpAny_pure (wpAny_bind (wpAny_pure ?_)))
  refine wpAny_pure (a := Fin.again (.call (.builtin "type.__call__") ⟨.ref C :: rest, []⟩)) ⟨rfl, rfl, ?_⟩
  refine codeC_of_tree ?_
  show wpC _ A.in1 (do checkBuiltinCall "type.__call__" ⟨.ref C :: rest, []⟩; again (.builtin "type.__call__" ⟨.ref C :: rest, []⟩)) _ _ _
  refine wpC_bind (wpC.any (check_slot tc_kind tc_split typ (tc_args _ _ _) ?_))
  refine wpC_pure ⟨Code.quiet_builtin _ (by decide +kernel), rfl, codeC_builtin entry_typeCall ?_⟩
  unfold Builtin.«type.__call__»
  have hm : Looks (model prog w) h (mroOf (.ref C)) (.ref C :: bm) := ((Looks.ld (part := none) hC).andThen .now).andThen .now
  have hne : (Value.ref C == Value.type "type") = false := rfl
  simp only [hne, Bool.false_eq_true, if_false]
  refine wpC_bind (wpC.any (hm.at ?_))
  refine c_if_false rfl ?_
  refine wpC_bind (wpC.any (wpAny_madeBy_exc hC ?_))
  refine wpC_bind (wpC_pure ?_)
  refine wpC_bind (wpC_holding (wpC_call (codeC.any (x_new F hcB hcA hcN hC ?_ hrest))))
  have k : ∀ b o, h.get? b = some o → ((h.push { cls := .type "tuple", data := .seq rest.toArray }).push (excNew C h.objs.size)).get? b = some o := fun b o e => Heap.get?_push_of_some _ (Heap.get?_push_of_some _ e)
  have hx : ((h.push { cls := .type "tuple", data := .seq rest.toArray }).push (excNew C h.objs.size)).get? (h.objs.size + 1) = some (excNew C h.objs.size) := by
    have := Heap.get?_push_size (h.push { cls := .type "tuple", data := .seq rest.toArray }) (o := excNew C h.objs.size) rfl
    rwa [Heap.size_push] at this
  have t1 : Looks (model prog w) ((h.push { cls := .type "tuple", data := .seq rest.toArray }).push (excNew C h.objs.size)) (typeOf (.ref (h.objs.size + 1))) (.ref C) := (Looks.ld hx).andThen .now
  have i1 := hi'.keeps k
  have b1 := (hb (.ref (h.objs.size + 1))).keeps k
  have hcC : (Value.ref C :: bm).contains (.ref C) = true := by simp
  refine wpC_bind ?_
  unfold isInstance
  refine wpC_bind (wpC.any (t1.at (wpC.any (wpAny_isSubtype_exc (k _ _ hC) ?_))))
  rw [hcC]
  simp only [Bool.not_true, Bool.false_eq_true, if_false]
  refine wpC_bind (wpC_holding ?_)
  unfold callSpecial? specialOf
  refine wpC_bind (wpC_bind (wpC.any (t1.at (wpC.any (i1.at ?_)))))
  refine wpC_holding (wpC_bind (wpC.any (b1.at ?_)))
  refine wpC_bind (wpC_call (codeC_mono hq fun r s' z => ?_))
  rcases r with e | (v | _ | _ | _) <;> first | exact z | exact z.elim | skip
  obtain ⟨rfl, z⟩ := z
  exact wpC_pure (wpC_pure z)
end
end Mine
end
section
open PySem PySem.W PyProof.Rows PySem.Calls Builtin Builtin.ObjectAttr
set_option maxRecDepth 100000
namespace Mine

section
variable {prog : Program} {w : World} {hB : Heap} {c : Cx} {fr : Vars} {st : St} {E : EE} {K : Frag}

/-- one object in hand is turned, others are laid -/
theorem At.turnObj {h h' : Heap} {x : Addr} {o o' : O} {ob' : Obj} (a : At hB c fr st h) (hx : st x = some o) (ho : o' = .obj ob') (hx' : h'.get? x = some ob') (hk : ∀ b ob, b ≠ x → h.get? b = some ob → h'.get? b = some ob) :
    At hB c fr (st.set x o') h' ∧ Ext NoX h st h' (st.set x o') := by
  subst ho
  have k : Ext NoX h st h' (st.set x (.obj ob')) := by
    refine ⟨fun b ob e n _ => ?_⟩
    have hne : b ≠ x := fun q => by rw [q, hx] at n; cases n
    exact ⟨hk b ob hne e, by rw [St.set_ne hne]; exact n⟩
  refine ⟨a.ext ⟨fun b ob e => ?_, fun b ob e => ?_⟩ k, k⟩
  · have := a.inv.stays b ob e
    have hne : b ≠ x := fun q => by rw [q, hx] at this; cases this.2
    exact ⟨hk b ob hne this.1, by rw [St.set_ne hne]; exact this.2⟩
  · unfold St.set at e
    split at e
    · rename_i q; subst q; cases e
      exact hx'
    · rename_i q
      exact (a.inv.objs b ob e).tr k.tr fun ob e => hk b ob q e

/-- the method's name gives what takes no receiver -/
def MethS (prog : Program) (w : World) (hB : Heap) (c : Cx) (fr : Vars) (st : St) (ov : V) (name : Str) (f : Value) : Prop :=
  ∀ (s : Shared) (Q : Value × List Value → Shared → Prop) (E : Value → Shared → Prop) (pl : Sem Bool) wo, At hB c fr st s.heap → RelV s.heap st ov wo → (∀ tk, Q (f, []) { s with toks := tk }) → wpAny (model prog w) c.A (getMethod wo name pl) Q E s

theorem TE_methS (G : Gd w hB K) {o e : Expr} {rest : List Expr} {name : Str} {apos pos} {R : V → St → Prop}
    (h : TE prog w hB c o fr st E fun ov st1 => ∃ f, MethS prog w hB c fr st1 ov name f ∧ CalleeM G f ∧ TA prog w hB c (e :: rest) fr st1 E fun vs st2 => TC prog w hB c c.A (.val f) vs fr st2 E R)
    (he : ∃ pl, eval (.Call (.Attribute o name apos) (e :: rest) [] pos) c.env = (do
      let ov ← eval o c.env
      standAt apos.atName
      let (f, first) ← holding [ov] (getMethod ov name pl)
      callWith pos f first (backTo pos (starEach (e :: rest) c.env)) []) := by exact ⟨_, rfl⟩)
    (h1 : ∀ env, starEach (e :: rest) env = (false, eval e env) :: starEach rest env := by intro; rfl)
    (h2 : ∀ env, (backTo pos (starEach rest env)).any (·.1) = false := by intro; rfl) : TE prog w hB c (.Call (.Attribute o name apos) (e :: rest) [] pos) fr st E R := by
  intro s Q ha hQ
  obtain ⟨pl, he⟩ := he
  refine cMeth (pl := pl) (h s _ ha fun ov st1 wo h1' tk1 hR a1 e1 r1 => ?_) he
  obtain ⟨f, hm, hcal, hta⟩ := hR
  refine wpC.any (hm { s with heap := h1', toks := tk1 } _ _ _ wo a1 r1 fun tk => ?_)
  dsimp only
  refine cCallArgs (K := K) (calleeM_ok G hcal) (hta { s with heap := h1', toks := tk } _ pos a1 fun vs st2 us h2' tk2 hR2 a2 e2 r2 => ⟨G.kin.keeps (keepB a2.inv), ?_⟩) (h1 _) (h2 _)
  exact call_tail (pre := []) (pw := []) hR2 a2 (e1.trans e2) (.val _) .nil r2 ⟨h2', tk2, rfl⟩ hQ

/-- a name of a built-in class, that a class body of the library holds -/
theorem m_type (G : Gd w hB K) {T : String} {name : Str} {f : Value} (ho : opaqueClassAbove (.type T) = pure none)
    (hga : findIn K (.type "type") "__getattribute__" = some (some (.builtin "type.__getattribute__"))) (hi : subIn K (.type "type") (.type "type") = some true)
    (e : findCls K (.type T) (.type "type") name = some (.val f)) (hh : handedIn f = true) (ht : typeOf (.type T) = pure (.type "type")) : MethS prog w hB c fr st (.val (.type T)) name f := by
  intro s Q E pl wo ha hr hQ
  (first | obtain rfl := RelV.i_val hr | obtain rfl := RelV.i_ref hr | obtain ⟨_, rfl⟩ := RelV.i_int hr | obtain ⟨_, rfl⟩ := RelV.i_str hr | obtain ⟨_, rfl⟩ := RelV.i_bytes hr | obtain rfl := RelV.i_bool hr | obtain rfl := RelVs.i_nil hr | cases hr)
  have X := G.kin.keeps (keepB ha.inv)
  unfold getMethod
  have sp : Looks (model prog w) s.heap (specialOf (.type T) "__getattribute__") (some (.builtin "type.__getattribute__")) := (Looks.of_pure ht).andThen (looks_findIn X hga)
  refine wpAny_bind (sp.here ?_)
  dsimp only
  rw [if_pos canon_tga]
  refine wpAny_bind (wpAny_mono (cls_open (Q := fun v s' => Q (v, []) s') X (Looks.of_pure ho) (Looks.of_pure ht) hga (hook := none) (looks_hook X (by rfl)) hi e ?_) (fun _ _ z => wpAny_pure z) fun _ _ z => z)
  refine wpAny_pure ?_
  show wpAny _ _ (handedOut f) _ _ _
  rw [handedOut_of hh]
  exact wpAny_pure (hQ _)

theorem x_check_init {M : Model} {A : Around} {E : Value → Shared → Prop} {B newId initId : String} {bmB : List Value} (F : ExcBaseFacts B newId initId bmB)
    {nm q : Str} {C N e : Addr} {bs bm : List Value} {hdct : Bool} {sn : List Str} {sub : List Value} {ab : Bool} {col : Option Bool} {dd : Option Addr} {k0 k1 k2 k3 k5 : Option Value} {oe : Obj} {rest : List Value} {Q : Unit → Shared → Prop}
    {h : Heap} {g : Array GenState} {d : Drawn} {t : Nat} {os : OsState}
    (hcB : (Value.ref C :: bm).contains (.type B) = true) (hC : h.get? C = some (excClassObj nm q C N bs bm hdct sn sub ab col dd k0 k1 k2 k3 k5 newId)) (he : h.get? e = some oe) (hcls : oe.cls = .ref C) (hq : Q () ⟨h, g, d, t, os⟩) :
    wpAny M A (checkBuiltinCall initId ⟨.ref e :: rest, []⟩) Q E ⟨h, g, d, t, os⟩ := by
  have hshort := F.noStar
  simp only [checkBuiltinCall, F.initKind, F.initSplit, F.initRow]
  repeat (first | (with_reducible refine wpAny_loadPart_at he ?_; rw [hcls]) | with_reducible refine wpAny_loadPart_at hC ?_ | (with_reducible refine wpAny_isSubtype_exc hC ?_; rw [hcB]) | wp_step)
  refine wpAny_onRaise ?_
  rw [show ∀ (a b : String) (n : Nat), Bind.check ⟨.positional, "*", B, .self, [⟨"args", .varPos, false⟩]⟩ a b n (List.map (fun x => x.fst) ({ pos := .ref e :: rest } : Args).kw) = pure () from
    fun a b n => check_star_args _ _ _ _ _ _]
  exact wpAny_pure hq

/-- an exception's own first init -/
theorem K_excinit (G : Gd w hB K) {B newId initId : String} {bmB : List Value} (F : ExcBaseFacts B newId initId bmB) {nm q : Str} {C N : Addr} {bs bm : List Value} {hdct : Bool} {sn : List Str} {sub : List Value} {ab : Bool} {col : Option Bool} {dd : Option Addr} {k0 k1 k2 k3 k5 : Option Value}
    (hC : K.lookup C = some (excClassObj nm q C N bs bm hdct sn sub ab col dd k0 k1 k2 k3 k5 newId)) (hcB : (Value.ref C :: bm).contains (.type B) = true) {x : Addr} {dct : Option Addr} {vs : Array Value} {v : V} {R : V → St → Prop}
    (hx : st x = some (.obj { cls := .ref C, dict := dct, data := .fields vs })) (h0 : (vs[0]?).isSome = true)
    (h : ∀ t, R .none (st.set x (.obj { cls := .ref C, dict := dct, data := .fields (vs.setIfInBounds 0 (.ref t)) }))) :
    TC prog w hB c c.A (.val (.builtin initId)) [.ref x, v] fr st E R := by
  intro s Q wf ws ha rf rs hQ
  (first | obtain rfl := RelV.i_val rf | obtain rfl := RelV.i_ref rf | obtain ⟨_, rfl⟩ := RelV.i_int rf | obtain ⟨_, rfl⟩ := RelV.i_str rf | obtain ⟨_, rfl⟩ := RelV.i_bytes rf | obtain rfl := RelV.i_bool rf | obtain rfl := RelVs.i_nil rf | cases rf)
  cases rs with
  | cons r rs =>
    (first | obtain rfl := RelV.i_val r | obtain rfl := RelV.i_ref r | obtain ⟨_, rfl⟩ := RelV.i_int r | obtain ⟨_, rfl⟩ := RelV.i_str r | obtain ⟨_, rfl⟩ := RelV.i_bytes r | obtain rfl := RelV.i_bool r | obtain rfl := RelVs.i_nil r | cases r)
    cases rs with
    | cons rv rn =>
      (first | obtain rfl := RelV.i_val rn | obtain rfl := RelV.i_ref rn | obtain ⟨_, rfl⟩ := RelV.i_int rn | obtain ⟨_, rfl⟩ := RelV.i_str rn | obtain ⟨_, rfl⟩ := RelV.i_bytes rn | obtain rfl := RelV.i_bool rn | obtain rfl := RelVs.i_nil rn | cases rn)
      rename_i u
      have X := G.kin.keeps (keepB ha.inv)
      have hox : s.heap.get? x = some { cls := .ref C, dict := dct, data := .fields vs } := ha.inv.objs _ _ hx
      obtain ⟨v0, hv0⟩ := Option.isSome_iff_exists.mp h0
      have hsz : 0 < vs.size := (Array.getElem?_eq_some_iff.mp hv0).1
      have hCC := X _ _ hC
      obtain ⟨hh, g, d, t0, os⟩ := s
      dsimp only at hox hCC ha X hQ
      refine wpC.any (wpAny_call (codeAny_call_builtin F.init.plain F.initEntry (x_check_init F hcB hCC hox rfl ?_)))
      unfold Builtin.«BaseException.__init__»
      show wpAny _ _ (newTuple [u] >>= _) _ _ _
      refine wpAny_bind (wpAny_newTuple ?_)
      unfold Builtin.BaseException.bexcPut
      have hox' := Heap.get?_push_of_some ({ cls := .type "tuple", data := .seq [u].toArray } : Obj) hox
      refine wpAny_bind (wpAny_bind (wpAny_field hox' rfl hv0 (wpAny_bind (wpAny_setField hox' rfl hsz ?_))))
      have e1 := Heap.get?_update_self (Obj.mapFields (·.setIfInBounds 0 (Value.ref hh.objs.size))) hox' rfl
      have fin := ha.turnObj (h' := (hh.push { cls := .type "tuple", data := .seq [u].toArray }).update x (Obj.mapFields (·.setIfInBounds 0 (Value.ref hh.objs.size)))) hx rfl e1
        fun b ob hb e => (Heap.get?_update_other _ _ (Ne.symm hb)).trans (Heap.get?_push_of_some _ e)
      have done := hQ .none _ .none _ t0 (h hh.objs.size) fin.1 fin.2 .none
      cases v0 with
      | ref a => exact wpAny_letGo (wpAny_pure done)
      | _ => exact wpAny_pure (wpAny_pure done)

set_option maxHeartbeats 4000000 in
/-- a new name in the dict of an exception that has none yet -/
theorem S_excattr (G : Gd w hB K) {x C : Addr} {vs : Array Value} {cd : ClassData} {attr : Str} {v : V} {P : St → Prop}
    (hx : st x = some (.obj { cls := .ref C, dict := none, data := .fields vs })) (hc : clsIn K C = some cd) (hm : ∀ self, refuseLoop self "__setattr__" cd.mro = pure ()) (hd : cd.hasDict = true)
    (hty : subIn K (.ref C) (.type "object") = some true) (hs : findIn K (.ref C) "__setattr__" = some (some (.builtin "object.__setattr__"))) (ht : takerIn K C attr = some none)
    (h : ∀ D, P (st.set x (.obj { cls := .ref C, dict := some D, data := .fields vs }))) : TSetA prog w hB c attr v (.ref x) fr st E P := by
  rintro ⟨h0, g, d, tk, os⟩ Q wv wo ha rv ro hQ
  (first | obtain rfl := RelV.i_val ro | obtain rfl := RelV.i_ref ro | obtain ⟨_, rfl⟩ := RelV.i_int ro | obtain ⟨_, rfl⟩ := RelV.i_str ro | obtain ⟨_, rfl⟩ := RelV.i_bytes ro | obtain rfl := RelV.i_bool ro | obtain rfl := RelVs.i_nil ro | cases ro)
  dsimp only at ha rv hQ
  have X : K.In h0 := G.kin.keeps (keepB ha.inv)
  have hox : h0.get? x = some { cls := .ref C, dict := none, data := .fields vs } := ha.inv.objs _ _ hx
  have I : InstAt h0 x { cls := .ref C, dict := none, data := .fields vs } C none := ⟨hox, rfl, rfl, trivial⟩
  refine set_plain X I hs ?_
  dsimp only
  have S0 := PySem.F.store_object
  have ty : Looks (model prog w) h0 (typeOf (.ref x)) (.ref C) := I.type
  have sub : Looks (model prog w) h0 (isInstance (.ref x) (.type "object")) true := ty.andThen (looks_subIn X hty)
  refine codeAny_call_builtin S0.slot.plain S0.entry (@check_slot (model prog w) _ _ ⟨h0, g, d, tk + 1, os⟩ "object.__setattr__" "object" "__setattr__" (.ref x) [.str attr tk, wv] [] _ S0.kind S0.split sub (S0.args (.ref x) (.str attr tk) wv) ?_)
  obtain ⟨attr', hat, hr⟩ := Option.bind_eq_some_iff.mp ht
  have hmro : Looks (model prog w) h0 (mroOf (.ref C)) cd.mro := (looks_clsIn X hc).andThen .now
  have lat : Looks (model prog w) h0 (typeLookup (.ref C) attr) attr' := looks_findIn X hat
  have L3 : Looks (model prog w) h0 (storeTaker? attr') none := by
    cases attr' with
    | none => exact .now
    | some a =>
      obtain ⟨b, hb, hb2⟩ := Option.map_eq_some_iff.mp hr
      cases b with
      | true => simp at hb2
      | false => exact (looks_takesIn X hb).andThen .now
  rw [osa_eq, refuse_eq]
  refine wpAny_bind (wpAny_bind (ty.at (wpAny_bind (hmro.at ?_))))
  rw [hm]
  refine wpAny_pure (wpAny_bind (ty.at (wpAny_bind (lat.at (wpAny_bind (L3.at ?_))))))
  refine wpAny_bind (wpAny_pure (wpAny_bind (wpAny_bind (wpAny_loadPart' hox (wpAny_bind ((looks_clsIn X hc).at ?_))))))
  rw [hd]
  have hox1 : (h0.push { cls := .type "dict", data := .dict #[] }).get? x = some { cls := .ref C, dict := none, data := .fields vs } := Heap.get?_push_of_some _ hox
  have hxs : x ≠ h0.objs.size := Nat.ne_of_lt (Heap.lt_size hox)
  show wpAny _ _ (alloc { cls := .type "dict", data := .dict #[] } >>= fun d => update x (fun o => { cls := o.cls, dict := some d, data := o.data, slots := o.slots }) >>= fun _ => dictMade (.ref C) x d) _ _ _
  refine wpAny_bind (wpAny_alloc' ?_)
  refine wpAny_bind (wpAny_update' hox1 ?_)
  refine wpAny_pure ?_
  have hgd : ((h0.push { cls := .type "dict", data := .dict #[] }).update x fun o => { cls := o.cls, dict := some h0.objs.size, data := o.data, slots := o.slots }).get? h0.objs.size = some { cls := .type "dict", data := .dict #[] } :=
    (Heap.get?_update_ne _ _ _ _ hxs.symm).trans (Heap.get?_push_at rfl rfl)
  have hnd : ((h0.push { cls := .type "dict", data := .dict #[] }).update x fun o => { cls := o.cls, dict := some h0.objs.size, data := o.data, slots := o.slots }).Ns h0.objs.size (fun _ => none) :=
    ⟨_, #[], _, hgd, rfl, fun e he => absurd he (by simp), fun _ => rfl⟩
  show wpAny _ _ (storeInDict h0.objs.size (.str attr tk) attr wv) _ _ _
  unfold storeInDict newKeyGuard
  refine wpAny_bind (wpAny_pure (wpAny_bind (wpAny_nsSet1 (Heap.Ns1.of_empty hnd) fun h' hn' hs' => ?_)))
  obtain ⟨oD, esD, epD, hoD, hdD, hcD⟩ := hn'.count (Within.cons attr wv Within.nil)
  refine wpAny_bind (wpAny_lookBehind hoD (by rw [hdD]; exact pastItsLine_dict (Nat.le_trans hcD (by rw [List.length_cons, List.length_nil, sizeLine_eq]; omega))) ?_)
  refine wpAny_pure ?_
  have hx' : h'.get? x = some { cls := .ref C, dict := some h0.objs.size, data := .fields vs } := (hs'.2 x hxs).trans (Heap.get?_update_self _ hox1 rfl)
  have fin := ha.turnObj (h' := h') (o' := .obj { cls := .ref C, dict := some h0.objs.size, data := .fields vs }) hx rfl hx' fun b ob hb e =>
    (hs'.2 b (Nat.ne_of_lt (Heap.lt_size e))).trans ((Heap.get?_update_ne _ _ _ _ hb).trans (Heap.get?_push_of_some _ e))
  exact hQ _ h' _ (h _) fin.1 fin.2

/-- a call of an exception class of the text's own, whose init is a def -/
theorem K_excclass (G : Gd w hB K) {B newId initId : String} {bmB : List Value} (F : ExcBaseFacts B newId initId bmB) {nm q : Str} {C N fI : Addr} {bs bm : List Value} {hdct : Bool} {sn : List Str} {sub : List Value} {ab : Bool} {col : Option Bool} {dd : Option Addr} {k0 k1 k2 k3 k5 : Option Value} {args : List V} {R : V → St → Prop}
    (hC : K.lookup C = some (excClassObj nm q C N bs bm hdct sn sub ab col dd k0 k1 k2 k3 k5 newId))
    (hcB : (Value.ref C :: bm).contains (.type B) = true) (hcA : (Value.ref C :: bm).contains (.type "AttributeError") = false) (hcN : (Value.ref C :: bm).contains (.type "NameError") = false)
    (hi : findIn K (.ref C) "__init__" = some (some (.ref fI))) (hf : isFn K (.ref fI) = true) (hcall : specialIn K (.ref C) "__call__" = some (some (.builtin "type.__call__"))) (hty : instIn K (.ref C) (.type "type") = some true)
    (hz : args.length ≤ 1000)
    (h : ∀ A' x t, A'.handled = c.A.handled → A'.depth = c.A.depth + 1 → A'.units = c.A.units + 1 → st x = none →
      TCd prog w hB { c with A := A' } A' (.val (.ref fI)) (.ref x :: args) fr (st.set x (.obj (excNew C t))) E fun v st' => v = .none ∧ R (.ref x) st') :
    TC prog w hB c c.A (.val (.ref C)) args fr st E R := by
  intro s Q wf ws ha rf rs hQ
  (first | obtain rfl := RelV.i_val rf | obtain rfl := RelV.i_ref rf | obtain ⟨_, rfl⟩ := RelV.i_int rf | obtain ⟨_, rfl⟩ := RelV.i_str rf | obtain ⟨_, rfl⟩ := RelV.i_bytes rf | obtain rfl := RelV.i_bool rf | obtain rfl := RelVs.i_nil rf | cases rf)
  have hl : ws.length ≤ sizeLine := by have := rs.length; have := sizeLine_ge; omega
  refine wpC_call (cMakeE F (G.kin.keeps (keepB ha.inv)) hC hcB hcA hcN hi hf hcall hty hl ?_)
  have p1 := ha.push ({ cls := .type "tuple", data := .seq ws.toArray } : Obj)
  have hs : (s.heap.push { cls := .type "tuple", data := .seq ws.toArray }).objs.size = s.heap.objs.size + 1 := Heap.size_push _ _
  have p2 := p1.1.alloc (ob := excNew C s.heap.objs.size) (o := .obj (excNew C s.heap.objs.size)) fun st' _ => Heap.get?_push_size _ rfl
  have hn := p1.1.fresh
  rw [hs] at p2 hn
  have tc := h (c.A.under (.builtin "type.__call__" ⟨.ref C :: ws, []⟩)) (s.heap.objs.size + 1) s.heap.objs.size rfl rfl rfl hn
  have e12 := p1.2.trans p2.2
  refine codeC_mono (tc { s with heap := (s.heap.push { cls := .type "tuple", data := .seq ws.toArray }).push (excNew C s.heap.objs.size) } (fun v s' => v = .none ∧ Q (.ref (s.heap.objs.size + 1)) s') (.ref fI) (.ref (s.heap.objs.size + 1) :: ws) p2.1.reA (.val _) (.cons (.ref _) (rs.tr e12.tr))
    (fun v st' u h' tk' hR a' e' r' => by
      obtain ⟨rfl, hR⟩ := hR
      cases r'
      exact ⟨rfl, hQ _ _ _ h' tk' hR a'.unA (e12.trans e') (.ref _)⟩)) fun r s' z => ?_
  rcases r with e | (v | _ | _ | _) <;> exact z

/-- an exception is raised that lies in hand -/
theorem T1_raise {e : Expr} {pos : Pos} {R : Fl → Vars → St → Prop} (G : Gd w hB K) (hh : c.A.handled = none)
    (h : TE prog w hB c e fr st E fun v st' => ∃ x C d vs, v = .ref x ∧ st' x = some (.obj { cls := .ref C, dict := d, data := .fields vs }) ∧ vs[1]? = some .none ∧ subIn K (.ref C) (.type "BaseException") = some true ∧ typeIn K (.ref C) = some (.type "type") ∧
      ∀ h', At hB c fr st' h' → E (.ref x) h')
    (he : ∀ env, exec (.Raise (some e) none pos) env = (do standAt pos; raiseStmt env (some (do let v ← eval e env; standAt pos; pure v)) none) := by intro; rfl) :
    T1 prog w hB c (.Raise (some e) none pos) fr st E R := by
  intro s Q ha hQ
  rw [he]
  refine wpC_bind (wpC_standAt ?_)
  unfold raiseStmt
  dsimp only
  refine wpC_bind (wpC_bind (h s _ ha fun v st1 u h1 tk1 hR a1 e1 r1 => wpC_bind (wpC_standAt (wpC_pure ?_))))
  obtain ⟨x, C, d, vs, rfl, hx, hv1, hb, hty, hE⟩ := hR
  (first | obtain rfl := RelV.i_val r1 | obtain rfl := RelV.i_ref r1 | obtain ⟨_, rfl⟩ := RelV.i_int r1 | obtain ⟨_, rfl⟩ := RelV.i_str r1 | obtain ⟨_, rfl⟩ := RelV.i_bytes r1 | obtain rfl := RelV.i_bool r1 | obtain rfl := RelVs.i_nil r1 | cases r1)
  have X : K.In h1 := G.kin.keeps (keepB a1.inv)
  have hox : h1.get? x = some { cls := .ref C, dict := d, data := .fields vs } := a1.inv.objs _ _ hx
  have ty : Looks (model prog w) h1 (typeOf (.ref x)) (.ref C) := (Looks.ld hox).andThen .now
  have isT : Looks (model prog w) h1 (isType (.ref x)) false := (Looks.ld hox).andThen .now
  have ex : Looks (model prog w) h1 (isExcClass (.ref x)) false := isT.andThen .now
  have inst : Looks (model prog w) h1 (isInstance (.ref x) (.type "BaseException")) true := ty.andThen (looks_subIn X hb)
  refine wpC_bind (wpC_pure ?_)
  refine wpC_bind (wpC_holding ?_)
  unfold excFromValue
  refine wpC_bind (wpC.any (ex.at ?_))
  refine c_if_false rfl ?_
  refine wpC_bind (wpC.any (inst.at ?_))
  refine c_if_true rfl ?_
  refine wpC_pure ?_
  refine wpC_bind (wpC.any (isT.at ?_))
  have tt : Looks (model prog w) h1 (typeOf (.ref C)) (.type "type") := looks_typeIn X hty
  have ri : Looks (model prog w) h1 (raisedInstance (.ref x)) (.ref x) := ty.andThen (tt.andThen .now)
  refine wpC_bind (m := raisedInstance (.ref x)) (wpC.any (ri.at ?_))
  refine wpC_bind (wpC.any ?_)
  unfold setFlight
  refine wpAny_bind (wpAny_field hox rfl hv1 ?_)
  refine wpAny_pure ?_
  exact wpC.any (wpAny_raiseNew_none hh ⟨h1, tk1, rfl, hE h1 a1⟩)
end
end Mine
end
section
open PySem PySem.W PyProof.Rows PySem.Calls Builtin Builtin.ObjectAttr
set_option maxRecDepth 100000
namespace Mine

/-- a place in which the frames behind are kept too -/
abbrev CxX (A : Around) (out : List Addr) (qual : Str) (scope : Scope) (f : Addr) (cdv : Value) (L : Addr) : Cx :=
  ⟨envX qual scope L f cdv (cellsFrom (L + 1) scope.names []), A.deeper (envX qual scope L f cdv (cellsFrom (L + 1) scope.names [])), (L :: (cellsFrom (L + 1) scope.names []).map (·.2)) ++ out⟩

section
variable (prog : Program) (w : World) (hB : Heap) (c : Cx)
/-- statements, of which nothing is asked but what they give -/
def TSx (xs : List Stmt) (fr : Vars) (st : St) (E : EE) (P : Flow → Heap → Prop) : Prop :=
  ∀ (s : Shared) (Q : Flow → Shared → Prop), At hB c fr st s.heap → (∀ u h' tk', P u h' → Q u { s with heap := h', toks := tk' }) → wpC (model prog w) c.A (execs xs c.env) Q (EX s E) s
def TEx (e : Expr) (fr : Vars) (st : St) (E : EE) (P : Value → Heap → Prop) : Prop :=
  ∀ (s : Shared) (Q : Value → Shared → Prop), At hB c fr st s.heap → (∀ u h' tk', P u h' → Q u { s with heap := h', toks := tk' }) → wpC (model prog w) c.A (eval e c.env) Q (EX s E) s
def TCx (A : Around) (f : V) (args : List V) (fr : Vars) (st : St) (E : EE) (P : Value → Heap → Prop) : Prop :=
  ∀ (s : Shared) (Q : Value → Shared → Prop) wf ws, At hB c fr st s.heap → RelV s.heap st f wf → RelVs s.heap st args ws → (∀ u h' tk', P u h' → Q u { s with heap := h', toks := tk' }) →
    wpC (model prog w) A (call wf ws) Q (EX s E) s
end

section
variable {prog : Program} {w : World} {hB : Heap} {c : Cx} {fr : Vars} {st : St} {E : EE} {K : Frag}

theorem TSx_cons {x : Stmt} {rest : List Stmt} {P : Flow → Heap → Prop}
    (h : T1 prog w hB c x fr st E fun f fr' st' => match f with | .next => TSx prog w hB c rest fr' st' E P | f => ∀ u h', At hB c fr' st' h' → RelF h' st' f u → P u h') : TSx prog w hB c (x :: rest) fr st E P := by
  intro s Q ha hQ
  refine cExecs (h s _ ha fun f fr1 st1 u h1 tk1 hR a1 e1 r1 => ?_)
  cases r1 with
  | next => exact hR { s with heap := h1, toks := tk1 } _ a1 hQ
  | brk => exact hQ _ _ _ (hR _ _ a1 .brk)
  | cont => exact hQ _ _ _ (hR _ _ a1 .cont)
  | ret r => exact hQ _ _ _ (hR _ _ a1 (.ret r))
theorem TSx_ret {e : Expr} {pos : Pos} {rest : List Stmt} {P : Flow → Heap → Prop} (h : TEx prog w hB c e fr st E fun u h' => P (.ret u) h') : TSx prog w hB c (.Return (some e) pos :: rest) fr st E P := by
  intro s Q ha hQ
  refine cExecs (cReturn (h s _ ha fun u h' tk' hP => ?_))
  exact hQ _ _ _ hP
theorem TEx_call (G : Gd w hB K) {fe e : Expr} {rest : List Expr} {pos} {P : Value → Heap → Prop}
    (h : TE prog w hB c fe fr st E fun f st1 => Callee G f ∧ TA prog w hB c (e :: rest) fr st1 E fun vs st2 => TCx prog w hB c c.A f vs fr st2 E P)
    (he : ∀ env, eval (.Call fe (e :: rest) [] pos) env = (do callWith pos (← eval fe env) [] (backTo pos (starEach (e :: rest) env)) (backToKw pos (keywordEach [] env))) := by intro; rfl)
    (h1 : ∀ env, starEach (e :: rest) env = (false, eval e env) :: starEach rest env := by intro; rfl)
    (h2 : ∀ env, (backTo pos (starEach rest env)).any (·.1) = false := by intro; rfl) : TEx prog w hB c (.Call fe (e :: rest) [] pos) fr st E P := by
  intro s Q ha hQ
  refine cCall (h s _ ha fun f st1 wf h1' tk1 hR a1 e1 r1 => ?_) (he _)
  obtain ⟨hcal, hta⟩ := hR
  refine cCallArgs (K := K) (callee_ok G hcal r1) (hta { s with heap := h1', toks := tk1 } _ pos a1 fun vs st2 us h2' tk2 hR2 a2 e2 r2 => ⟨G.kin.keeps (keepB a2.inv), ?_⟩) (h1 _) (h2 _)
  exact hR2 { s with heap := h2', toks := tk2 } _ _ _ a2 (r1.tr e2.tr) r2 hQ

theorem Inv.none_st {h : Heap} (a : Inv hB h st) {b : Addr} (e : h.get? b = none) : st b = none := by
  cases q : st b with
  | none => rfl
  | some o =>
    have x := a.objs _ _ q
    cases o with
    | list xs => obtain ⟨ws, n, ho, hr⟩ := x; rw [e] at ho; cases ho
    | barr bs => rw [show h.get? b = _ from x] at e; cases e
    | inst C dx => rw [show h.get? b = _ from x] at e; cases e
    | dct es => obtain ⟨es', n, ho, hr⟩ := x; rw [e] at ho; cases ho
    | obj ob => rw [show h.get? b = _ from x] at e; cases e
theorem Inv.none_B {h : Heap} (a : Inv hB h st) {b : Addr} (e : h.get? b = none) : hB.get? b = none := by
  cases q : hB.get? b with
  | none => rfl
  | some o => have := (a.stays _ o q).1; rw [e] at this; cases this
theorem Inv.grown {h h' : Heap} (a : Inv hB h st) (hk : ∀ b o, h.get? b = some o → h'.get? b = some o) : Inv hB h' st := by
  have k : Ext NoX h st h' st := ⟨fun b x e n _ => ⟨hk _ _ e, n⟩⟩
  exact ⟨fun b x e => ⟨hk _ _ (a.stays b x e).1, (a.stays b x e).2⟩, fun b x e => (a.objs b x e).tr k.tr fun ob e => hk _ _ e⟩

/-- a call of a def, from any place -/
theorem D_core (G : Gd w hB K) {A : Around} {out : List Addr} {f : Addr} {oc : Value} {od an : Option Addr} {osl : Array (Option Value)} {name qual : Str} {params : Arguments} {body : List Stmt} {scope : Scope} {dV kV doc pm cdv ct : Value} {vs : List V} {P : Value → Heap → Prop} (names : List Str)
    (ho : K.lookup f = some ⟨oc, od, .func (fnOf name qual params body scope dV kV doc pm an cdv ct), osl⟩) (hcd : codeIn K cdv qual = true)
    (hroom : A.depth < recursionLimit) (hlen : names.length = vs.length)
    (hbind : ∀ (s : Shared) ws, ws.length = names.length → K.In s.heap → BindsTo s (fnOf name qual params body scope dV kV doc pm an cdv ct) ⟨ws, []⟩ (names.zip ws))
    (hkind : ∀ x ∈ names, scope.names.lookup x = some .local ∨ (scope.names.lookup x = some .cell ∧ ((cellsFrom 0 scope.names []).lookup x).isSome = true))
    (hnames : names.Nodup) (hnd : ((cellsFrom 0 scope.names []).map (·.1)).Nodup) (E' : Addr → EE) (hlv : ∀ L, LeaveE prog w (CxX A out qual scope f cdv L) (E' L) E)
    {s : Shared} {ws : List Value} (hi : Inv hB s.heap st) (rs : RelVs s.heap st vs ws) (hout : ∀ b ∈ out, st b = none ∧ hB.get? b = none ∧ ∃ o, s.heap.get? b = some o ∧ frameData o.data = true)
    (h : ∀ L, TSx prog w hB (CxX A out qual scope f cdv L) body (names.zip vs) st (E' L) fun u h' => P (match u with | .ret v => v | _ => .none) h')
    {Q : Value → Shared → Prop} (hQ : ∀ u h' tk', P u h' → Q u { s with heap := h', toks := tk' })
    (hco : scope.isCoroutine = false := by rfl) (hgen : scope.isGenerator = false := by rfl) (hk : scope.kind = .function := by rfl) :
    wpC (model prog w) A (call (.ref f) ws) Q (EX s E) s := by
  refine wpC_call ?_
  have hK : K.In s.heap := G.kin.keeps (keepB hi)
  have hwl : ws.length = names.length := by rw [hlen]; exact rs.length.symm
  have hnodup : ((names.zip ws).map (·.1)).Nodup := by rw [zip_names hwl.symm]; exact hnames
  have hkind' : ∀ n, ∀ x ∈ names.zip ws, scope.names.lookup x.1 = some .local ∨ (scope.names.lookup x.1 = some .cell ∧ ((cellsFrom n scope.names []).lookup x.1).isSome = true) := by
    intro n x hx
    have hm : x.1 ∈ names := (List.of_mem_zip hx).1
    rcases hkind _ hm with k | ⟨k1, k2⟩
    · exact .inl k
    · refine .inr ⟨k1, ?_⟩
      have e := cellsFrom_names scope.names 0 n [] [] rfl
      have h1 : x.1 ∈ (cellsFrom 0 scope.names []).map (·.1) := by
        obtain ⟨c', hc'⟩ := Option.isSome_iff_exists.mp k2
        exact List.mem_map.mpr ⟨_, lookup_mem hc', rfl⟩
      rw [e] at h1
      obtain ⟨y, hy, hy2⟩ := List.mem_map.mp h1
      have := lookup_of_mem_nodup (cs := cellsFrom n scope.names []) (by rw [← e]; exact hnd) (show (x.1, y.2) ∈ _ by rw [← hy2]; exact hy)
      rw [this]; rfl
  refine codeC_call_function hroom (hK _ _ ho) rfl hco hgen rfl (codeRec_of hK hcd) (wpC.any (hbind s ws hwl hK _ _ _ _ ?_))
  refine wpC.any (wpAny_newFunctionEnv_cells hk (hkind' _) fun env' he s' x => ?_)
  subst he
  have hkeep := x.toInCall.keep
  refine ⟨((G.nolimit.keeps (keepB hi)).keeps hkeep), codeC_func ?_⟩
  obtain ⟨h₁, tk, rfl, _⟩ := x.done
  dsimp only at hkeep
  have gr := hi.grown hkeep
  have hnd1 : ((cellsFrom (s.heap.objs.size + 1) scope.names []).map (·.1)).Nodup := by rw [cellsFrom_names scope.names (s.heap.objs.size + 1) 0 [] [] rfl]; exact hnd
  have own_ge : ∀ b ∈ (s.heap.objs.size :: (cellsFrom (s.heap.objs.size + 1) scope.names []).map (·.2)), s.heap.objs.size ≤ b := by
    intro b hb
    rcases List.mem_cons.mp hb with rfl | hb
    · exact Nat.le_refl _
    · obtain ⟨y, hy, rfl⟩ := List.mem_map.mp hb
      exact Nat.le_of_lt (x.above y.1 y.2 hy)
  have T : Tr s.heap st h₁ st := fun b o e n _ => ⟨hkeep b o e, n⟩
  have a0 : At hB (CxX A out qual scope f cdv s.heap.objs.size) (names.zip vs) st h₁ := by
    refine ⟨gr, { kind := hk, glob := rfl, blt := rfl, own := fun b hb => ?_, free := fun y hy => ?_, nodup := ?_, loc := List.mem_append_left _ List.mem_cons_self, vars := ⟨_, x.toInCall.ns, fun y u e => ?_⟩ }⟩
    · rcases List.mem_append.mp hb with hb | hb
      · have hge := own_ge b hb
        have hno := none_ge hge
        refine ⟨hi.none_st hno, hi.none_B hno, ?_⟩
        rcases List.mem_cons.mp hb with rfl | hb
        · obtain ⟨o, es, ep, ho', hd', _⟩ := x.toInCall.ns
          exact ⟨o, ho', by rw [hd']; rfl⟩
        · obtain ⟨y, hy, rfl⟩ := List.mem_map.mp hb
          obtain ⟨o, ho', hd'⟩ := x.cell y.1 y.2 (lookup_of_mem_nodup hnd1 hy)
          exact ⟨o, ho', by rw [hd']; rfl⟩
      · obtain ⟨o1, o2, o, o3, o4⟩ := hout b hb
        exact ⟨o1, o2, o, hkeep _ _ o3, o4⟩
    · have hab := x.above y.1 y.2 hy
      refine ⟨hi.none_st (none_ge (Nat.le_of_lt hab)), Nat.ne_of_gt hab, ?_⟩
      exact ⟨_, x.cell y.1 y.2 (lookup_of_mem_nodup hnd1 hy)⟩
    · exact List.pairwise_map.mpr x.apart
    · obtain ⟨u', hu', hru⟩ := zip_rel rs e
      refine ⟨u', hru.tr T, ?_⟩
      rcases hkind y (lookup_zip e) with k | ⟨k1, k2⟩
      · exact .inl ⟨k, bindL_at k hnodup hu'⟩
      · have hm : (y, u') ∈ names.zip ws := lookup_mem hu'
        rcases hkind' (s.heap.objs.size + 1) _ hm with k | ⟨_, k3⟩
        · rw [k1] at k; cases k
        obtain ⟨cA, hcA⟩ := Option.isSome_iff_exists.mp k3
        refine .inr ⟨.inl k1, cA, hcA, ?_⟩
        have hc := x.cell y cA hcA
        have hkk : (newEnv scope s.heap.objs.size mainGlobals (cellsFrom (s.heap.objs.size + 1) scope.names []) (qual ++ ".<locals>.") (some f) cdv none builtinsNs).kindOf y ≠ some .local := by
          show scope.names.lookup y ≠ some .local
          rw [k1]; intro q; cases q
        rw [bindC_at hkk hnodup hu'] at hc
        exact hc
  refine wpC_mono (h s.heap.objs.size { s with heap := h₁, toks := tk } (fun f s' => Q (match f with | .ret v => v | _ => .none) s') a0 fun u h' tk' hP => hQ _ _ _ hP) (fun f s3 h3 => h3) (fun e s3 x3 => ?_)
  obtain ⟨h5, tk5, rfl, he⟩ := x3
  exact hlv _ { s with heap := h5, toks := tk5 } e he

theorem D_coreL (G : Gd w hB K) {A : Around} {out : List Addr} {f : Addr} {oc : Value} {od an : Option Addr} {osl : Array (Option Value)} {name qual : Str} {params : Arguments} {b0 : Stmt} {bs : List Stmt} {s1 : ScopeKind} {s2 : List (Str × NameKind)} {s3 s4 : Bool} {s5 : List (Str × Const)} {dV kV doc pm cdv ct : Value} {vs : List V} {P : Value → Heap → Prop} (names : List Str)
    (ho : K.lookup f = some ⟨oc, od, .func (fnOf name qual params (b0 :: bs) ⟨s1, s2, s3, s4, s5⟩ dV kV doc pm an cdv ct), osl⟩) (hcd : codeIn K cdv qual = true)
    (hroom : A.depth < recursionLimit) (hlen : names.length = vs.length)
    (hbind : ∀ (s : Shared) ws, ws.length = names.length → K.In s.heap → BindsTo s (fnOf name qual params (b0 :: bs) ⟨s1, s2, s3, s4, s5⟩ dV kV doc pm an cdv ct) ⟨ws, []⟩ (names.zip ws))
    (hkind : ∀ x ∈ names, (⟨s1, s2, s3, s4, s5⟩ : Scope).names.lookup x = some .local ∨ ((⟨s1, s2, s3, s4, s5⟩ : Scope).names.lookup x = some .cell ∧ ((cellsFrom 0 (⟨s1, s2, s3, s4, s5⟩ : Scope).names []).lookup x).isSome = true))
    (hnames : names.Nodup) (hnd : ((cellsFrom 0 (⟨s1, s2, s3, s4, s5⟩ : Scope).names []).map (·.1)).Nodup) (E' : Addr → EE) (hlv : ∀ L, LeaveE prog w (CxX A out qual ⟨s1, s2, s3, s4, s5⟩ f cdv L) (E' L) E)
    {s : Shared} {ws : List Value} (hi : Inv hB s.heap st) (rs : RelVs s.heap st vs ws) (hout : ∀ b ∈ out, st b = none ∧ hB.get? b = none ∧ ∃ o, s.heap.get? b = some o ∧ frameData o.data = true)
    (h : ∀ L, TSx prog w hB (CxX A out qual ⟨s1, s2, s3, s4, s5⟩ f cdv L) (b0 :: bs) (names.zip vs) st (E' L) fun u h' => P (match u with | .ret v => v | _ => .none) h')
    {Q : Value → Shared → Prop} (hQ : ∀ u h' tk', P u h' → Q u { s with heap := h', toks := tk' })
    (hco : (⟨s1, s2, s3, s4, s5⟩ : Scope).isCoroutine = false := by rfl) (hgen : (⟨s1, s2, s3, s4, s5⟩ : Scope).isGenerator = false := by rfl) (hk : (⟨s1, s2, s3, s4, s5⟩ : Scope).kind = .function := by rfl) :
    wpC (model prog w) A (call (.ref f) ws) Q (EX s E) s :=
  D_core G names ho hcd hroom hlen hbind hkind hnames hnd E' hlv hi rs hout h hQ hco hgen hk

/-- a call of a def, by which the frames behind may be turned -/
theorem D_fnX (G : Gd w hB K) {f : Addr} {oc : Value} {od an : Option Addr} {osl : Array (Option Value)} {name qual : Str} {params : Arguments} {b0 : Stmt} {bs : List Stmt} {s1 : ScopeKind} {s2 : List (Str × NameKind)} {s3 s4 : Bool} {s5 : List (Str × Const)} {dV kV doc pm cdv ct : Value} {vs : List V} {P : Value → Heap → Prop} (names : List Str)
    (ho : K.lookup f = some ⟨oc, od, .func (fnOf name qual params (b0 :: bs) ⟨s1, s2, s3, s4, s5⟩ dV kV doc pm an cdv ct), osl⟩) (hcd : codeIn K cdv qual = true)
    (hroom : c.A.depth < recursionLimit) (hlen : names.length = vs.length)
    (hbind : ∀ (s : Shared) ws, ws.length = names.length → K.In s.heap → BindsTo s (fnOf name qual params (b0 :: bs) ⟨s1, s2, s3, s4, s5⟩ dV kV doc pm an cdv ct) ⟨ws, []⟩ (names.zip ws))
    (hkind : ∀ x ∈ names, (⟨s1, s2, s3, s4, s5⟩ : Scope).names.lookup x = some .local ∨ ((⟨s1, s2, s3, s4, s5⟩ : Scope).names.lookup x = some .cell ∧ ((cellsFrom 0 (⟨s1, s2, s3, s4, s5⟩ : Scope).names []).lookup x).isSome = true))
    (hnames : names.Nodup) (hnd : ((cellsFrom 0 (⟨s1, s2, s3, s4, s5⟩ : Scope).names []).map (·.1)).Nodup) (E' : Addr → EE) (hlv : ∀ L, LeaveE prog w (CxX c.A c.own qual ⟨s1, s2, s3, s4, s5⟩ f cdv L) (E' L) E)
    (h : ∀ L, TSx prog w hB (CxX c.A c.own qual ⟨s1, s2, s3, s4, s5⟩ f cdv L) (b0 :: bs) (names.zip vs) st (E' L) fun u h' => P (match u with | .ret v => v | _ => .none) h')
    (hco : (⟨s1, s2, s3, s4, s5⟩ : Scope).isCoroutine = false := by rfl) (hgen : (⟨s1, s2, s3, s4, s5⟩ : Scope).isGenerator = false := by rfl) (hk : (⟨s1, s2, s3, s4, s5⟩ : Scope).kind = .function := by rfl) : TCx prog w hB c c.A (.val (.ref f)) vs fr st E P := by
  intro s Q wf ws ha rf rs hQ
  (first | obtain rfl := RelV.i_val rf | obtain rfl := RelV.i_ref rf | obtain ⟨_, rfl⟩ := RelV.i_int rf | obtain ⟨_, rfl⟩ := RelV.i_str rf | obtain ⟨_, rfl⟩ := RelV.i_bytes rf | obtain rfl := RelV.i_bool rf | obtain rfl := RelVs.i_nil rf | cases rf)
  exact D_core G names ho hcd hroom hlen hbind hkind hnames hnd E' hlv ha.inv rs ha.frm.own h hQ hco hgen hk

/-! ## exceptions on their way -/
def RawE (hB : Heap) (l : List Env) (C : Addr) : EE := fun e h => ∃ x oe vs a0, e = .ref x ∧ hB.StaysIn h ∧ hB.get? x = none ∧ h.FunFrames hB l ∧ h.get? x = some oe ∧ oe.cls = .ref C ∧ oe.data = .fields vs ∧ vs[1]? = some .none ∧ vs[0]? = some a0
def HeldE (hB : Heap) (l : List Env) (C L : Addr) : EE := fun e h => ∃ x a0, e = .ref x ∧ Heap.HeldW hB l x (.ref C) a0 L h
def OutE (hB : Heap) (l : List Env) (C L : Addr) : EE := fun e h => RawE hB l C e h ∨ HeldE hB l C L e h
def FlyE (hB : Heap) (l : List Env) (C : Addr) : EE := fun e h => ∃ x a0, e = .ref x ∧ Heap.FlyingW hB l x (.ref C) a0 h

theorem funFrames_of {h : Heap} {l : List Env} (a : At hB c fr st h) (hl : ∀ env ∈ l, env.scope.kind ≠ .module ∧ ∃ L ∈ c.own, env.frame = some L) : h.FunFrames hB l := by
  induction l with
  | nil => trivial
  | cons env l ih =>
    obtain ⟨hk, L, hm, hf⟩ := hl env List.mem_cons_self
    obtain ⟨_, hn, o, ho, hd⟩ := a.frm.own L hm
    exact ⟨hk, ⟨L, o, hf, hn, ho, fun vs q => by rw [q] at hd; cases hd⟩, ih fun e he => hl e (List.mem_cons_of_mem _ he)⟩

theorem setFlight_held {M : Model} {A : Around} {E' : Value → Shared → Prop} {s : Shared} {base : Heap} {l : List Env} {x L : Addr} {cls a0 : Value} {Q : Unit → Shared → Prop} (hh : Heap.HeldW base l x cls a0 L s.heap)
    (h : ∀ h', Heap.HeldW base l x cls a0 L h' → Q () { s with heap := h' }) : wpAny M A (setFlight (.ref x) (some L)) Q E' s := by
  obtain ⟨f1, f2, f3, oe, vs, T, oT, ts, he, hcls, hd, h1, hnT, hTe, hT, hdT, h3⟩ := hh
  have hsz3 : 3 < ts.size := (Array.getElem?_eq_some_iff.mp h3).1
  have other : ∀ b, b ≠ T → (s.heap.update T (Obj.mapFields (·.setIfInBounds 3 ((some L : Option Addr).elim Value.none fun f => rawInt f)))).get? b = s.heap.get? b :=
    fun b hb => Heap.get?_update_other _ _ (Ne.symm hb)
  have noRecord : ∀ b o, s.heap.get? b = some o → (∀ vs, o.data ≠ .fields vs) → b ≠ T := fun b o hb hnf q => by
    rw [q, hT] at hb; injection hb with hb; subst hb; exact hnf ts hdT
  unfold setFlight
  refine wpAny_bind (wpAny_field he hd h1 ?_)
  rw [if_pos (show (Value.ref T != Value.none) = true from by simp)]
  refine wpAny_setField hT hdT hsz3 (h _ ⟨fun b o hbo => (other b fun q => by rw [q, hnT] at hbo; cases hbo).trans (f1 b o hbo), f2,
    f3.of_keeps fun b o hb hnf => ⟨o, (other b (noRecord b o hb hnf)).trans hb, rfl⟩, ?_⟩)
  exact ⟨oe, vs, T, _, _, (other x (Ne.symm hTe)).trans he, hcls, hd, h1, hnT, hTe, Heap.get?_update_self _ hT (Obj.isFreed_of_fields (Obj.data_mapFields hdT _)), Obj.data_mapFields hdT _, by simp [hsz3]⟩

theorem came_held {l : List Env} {C L : Addr} {s : Shared} {e : Value} {A : Around} {env : Env} (hf : env.frame = some L) (hh : HeldE hB l C L e s.heap) : cameC (model prog w) A env (EX s (OutE hB l C L)) e s := by
  obtain ⟨x, a0, rfl, hh⟩ := hh
  refine wpC.any ?_
  obtain ⟨oe, vs, T, oT, ts, he, hcls, hd, h1, hnT, hTe, hT, hdT, h3⟩ := id hh.2.2.2
  refine wpAny_bind (wpAny_field he hd h1 ?_)
  rw [if_neg (show ¬ ((Value.ref T == Value.none) = true) from Bool.false_ne_true), hf]
  exact setFlight_held hh fun h' hh' => ⟨h', s.toks, rfl, .inr ⟨x, a0, rfl, hh'⟩⟩

theorem PassE.out {C L : Addr} {outer : List Env} (hfr : c.A.frames = some (c.env :: outer)) (hf : c.env.frame = some L) : PassE prog w c (OutE hB (c.env :: outer) C L) := by
  intro s e he
  rcases he with ⟨x, oe, vs, a0, rfl, hst, hn, hl, hx, hc, hd, h1, h0⟩ | ⟨x, a0, rfl, hh⟩
  · refine wpC.any ?_
    unfold noteFrame
    simp only [hf]
    refine wpAny_bind (wpAny_field hx hd h1 ?_)
    rw [if_neg (by decide)]
    refine wpAny_entryW hfr hl hf hx hst hn hd (Array.getElem?_eq_some_iff.mp h1).1 h0 fun h' hN => ?_
    obtain ⟨k1, k2, k3, _⟩ := hN
    rw [hc] at k3
    exact came_held (s := { s with heap := h' }) hf ⟨x, a0, rfl, k1, hn, k2, k3⟩
  · exact wpC.any (wpAny_noteFrame_againW hf hh.2.2.2 (came_held hf ⟨x, a0, rfl, hh⟩))

theorem LeaveE.out {C L : Addr} {outer : List Env} (hfr : c.A.frames = some (c.env :: outer)) (hf : c.env.frame = some L) : LeaveE prog w c (OutE hB (c.env :: outer) C L) (FlyE hB outer C) := by
  intro s e he
  rcases he with ⟨x, oe, vs, a0, rfl, hst, hn, hl, hx, hc, hd, h1, h0⟩ | ⟨x, a0, rfl, hh⟩
  · refine wpC.any (wpAny_leaving_firstW hfr hl hf hx hst hn hd h1 h0 fun h' hL => ?_)
    obtain ⟨k1, ⟨_, _, k2⟩, k3, _⟩ := hL
    rw [hc] at k3
    exact ⟨h', s.toks, rfl, x, a0, rfl, k1, hn, k2, k3⟩
  · exact wpC.any (wpAny_leaves_heldW hf hh fun h' hfl => ⟨h', s.toks, rfl, x, a0, rfl, hfl⟩)
end
end Mine
end
section
open PySem PySem.W PyProof.Rows PySem.Calls Builtin Builtin.ObjectAttr
set_option maxRecDepth 100000
namespace Mine

section
variable {prog : Program} {w : World} {hB : Heap} {c : Cx} {fr : Vars} {st : St} {E : EE} {K : Frag}

theorem cTry {M : Model} {A : Around} {E : Value → Shared → Prop} {s : Shared} {env : Env} {body : List Stmt} {h₀ : ExceptHandler} {hs : List ExceptHandler} {pos : Pos} {Q : Flow → Shared → Prop}
    (h : wpC M A (execs body env) (fun _ _ => False)
      (fun e s₁ => wpAny M A (noteFrame e env) (fun _ s₂ => wpAny M A (setFlight e none) (fun _ s₃ => wpAny M A (handleBy e env (h₀ :: hs)) Q E s₃) E s₂) E s₁) s) :
    wpC M A (exec (.Try body (h₀ :: hs) [] [] pos) env) Q E s := by
  rw [arm_exec_Try]
  refine wpC_bind (wpC_standAt ?_)
  unfold tryStmt
  simp only [List.isEmpty_nil, if_true, List.isEmpty_cons, Bool.false_and, Bool.false_eq_true, if_false]
  refine wpC_bind (wpC_attempt (wpC_mono h (fun f s₁ h₁ => h₁.elim) fun e s₁ h₁ => ?_))
  exact wpC_bind (wpC.any (wpAny_mono h₁ (fun _ _ h₂ => wpC_bind (wpC.any (wpAny_mono h₂ (fun _ _ h₃ => wpC.any h₃) fun _ _ x => x))) fun _ _ x => x))

/-- a try whose body's one call raises, and whose handler gives True -/
theorem TSx_try (G : Gd w hB K) {C : Addr} {call : Expr} {x : Str} {p1 np rp hp pos cp : Pos} {k : Nat} {rest : List Stmt} {outer : List Env} {L : Addr} {P : Flow → Heap → Prop}
    (hfr : c.A.frames = some (c.env :: outer)) (hf : c.env.frame = some L) (hkind : c.env.scope.kind = .function) (hgl : c.env.globals = mainGlobals)
    (hx : c.env.kindOf x = some .globalImplicit) (hd : (x == ("__debug__" : Str)) = false) (he : nsIn K mainGlobals x = some (some (.ref C))) (hm : exmOne K (.ref C) (.ref C) = some true)
    (hi : interactive c.env = false) (hs : swapsWith call none p1.line c.env = pure false)
    (h : TEx prog w hB c call fr st (FlyE hB (c.env :: outer) C) fun _ _ => False) (hP : ∀ h', hB.StaysIn h' → P (.ret (.bool true)) h') :
    TSx prog w hB c (.Try [.Expr call p1] [.ExceptHandler (some (.Name x np)) none [.Return (some (.Constant (.bool true) k cp)) rp] hp] [] [] pos :: rest) fr st E P := by
  intro s Q ha hQ
  refine cExecs (cTry (cExecs (cExpr (wpC_mono (h s (fun _ _ => False) ha fun u h' tk' z => z) (fun v s' z => z.elim) fun e s₁ z => ?_) hi hs)))
  obtain ⟨h1, tk1, rfl, e', a0, rfl, hfl⟩ := z
  refine wpAny_looks_onW hfr hf hfl fun h2 hheld hsm2 => ?_
  refine wpAny_landsW hheld fun h3 hfly hsm3 => ?_
  dsimp only
  have X : K.In h3 := G.kin.keeps hfly.1
  obtain ⟨ob, hob, hobc⟩ := hfly.there
  have LT : Looks (model prog w) h3 (typeOf (.ref e')) (.ref C) := by
    rw [← hobc]
    exact (Looks.ld hob).andThen .now
  refine wpAny_handleBy_cons (codeAny_handlers_test ?_) (by intro q; cases q)
  refine Calls.Name_function_global hkind hx (Calls.loadGlobal_global (by rw [hgl]; exact G.g.keeps hfly.1) (mg_of G.kin G.g he) ?_) hd
  refine (exm_one X LT hm).at ?_
  refine codeAny_handlers_suite ?_
  refine lands_againW hfly fun h4 hfly4 _ => ?_
  refine wpAny_execs_cons (wpAny_Return_some (wpAny_Constant_bool ?_))
  exact hQ _ h4 tk1 (hP h4 hfly4.1)
end
end Mine
end
section
open PySem PySem.W PyProof.Rows PySem.Calls
namespace Mine

theorem clean_caller : Clean ⟨.builtin "claim.caller" {}, none, none, [], none⟩ := ⟨by decide, fun x hx => nomatch hx⟩
theorem wp_of_wpC_done {M : Model} {t : Sem Fin} {R : Result → Shared → Prop} {s : Shared}
    (h : wpC M callerA t (fun fin s' => ∃ f, fin = .done f ∧ R (.ok f) s') (fun e s' => R (.error e) s') s) (p : Pos) :
    Sem.wp M ⟨.builtin "claim.caller" {}, none, none, [], none⟩ t (Sem.finPost M ⟨.builtin "claim.caller" {}, none, none, [], none⟩ R) (fun e _ s' => R (.error e) s') p s := by
  refine Sem.wp_mono M _ t (fun fin p' s' h' => ?_) (fun _ _ _ h' => h') p s (h _ p caller_in clean_caller)
  obtain ⟨f, rfl, hf⟩ := h'
  exact hf
theorem thread_ends_bothC {prog : Program} {w : World} {t : Sem Fin} {s : Shared} {R : Result → Shared → Prop} (hreg : s.asleep)
    (h : wpC (model prog w) callerA t (fun fin s' => ∃ f, fin = .done f ∧ (R (.ok f) s' ∧ leftWithCleanup s'.gens = false)) (fun e s' => R (.error e) s' ∧ leftWithCleanup s'.gens = false) s) :
    ∃ n r s' s'', runN (denote table) prog w n s ⟨t, .builtin "claim.caller" {}, default, []⟩ = .halted (outcomeOf r) s' ∧
      schedN (denote table) prog w n (.single s ⟨t, .builtin "claim.caller" {}, default, []⟩) = .halted (outcomeOf r) s' ∧ s'.forget = s''.forget ∧ R r s'' := by
  obtain ⟨n, r, s₁, s₂, hs, hn, hfo, hR⟩ := wp_halts_full (M := model prog w) (R := R) hreg (wp_of_wpC_done (R := fun r s' => R r s' ∧ leftWithCleanup s'.gens = false) h default)
  exact ⟨n, r, s₂, s₁, hn, hs, hfo, hR⟩

theorem callFrom_of_specC {c : ClaimW} {tree : List Value → Sem Fin} {w : World} {s : Shared} {free : Addr → Prop} {gens : Prop} {kept : Heap → Prop} (hz : s.asleep) (hgens : s.gens = #[])
    (hspec : ∀ args, c.pre args = true → WData.layableAll args = true →
      ∀ ord : List DictEntry → List DictEntry, (∀ l, (ord l).Perm l) →
      ∃ vs s₁, layAllW c.records (classAt s.heap) w.params ord args s = some (vs, s₁) ∧
        wpC (model c.prog w) callerA (tree vs) (fun fin s' => ∃ f, fin = .done f ∧ (c.Ends s args vs s₁ (.ok f) s' ∧ s'.os = s.os ∧ AllBare s'.gens ∧ kept s'.heap))
          (fun e s' => c.Ends s args vs s₁ (.error e) s' ∧ s'.os = s.os ∧ AllBare s'.gens ∧ kept s'.heap) s₁) :
    c.CallFrom (fun vs => ⟨tree vs, .builtin "claim.caller" {}, default, []⟩) w free gens kept s := by
  intro args hpre hlay ord hord
  obtain ⟨vs, s₁, hlaid, hcode⟩ := hspec args hpre hlay ord hord
  have hal := layAllW_rest _ _ _ hlaid
  refine e4 (thread_ends_bothC (prog := c.prog) (w := w) (t := tree vs) (s := s₁)
    (R := fun r s' => c.Ends s args vs s₁ r s' ∧ s'.os = s.os ∧ kept s'.heap)
    (Shared.asleep_of_life hal.2.2.2 hz)
    (wpC_mono hcode (fun fin s' hh => hh.elim fun f hh => ⟨f, hh.1, ⟨hh.2.1, hh.2.2.1, hh.2.2.2.2⟩, leftWithCleanup_false_of_bare hh.2.2.2.1⟩)
      fun e s' hh => ⟨⟨hh.1, hh.2.1, hh.2.2.2⟩, leftWithCleanup_false_of_bare hh.2.2.1⟩)) fun k r s' s'' hh => a6 hh fun hrun hsched hfo hcase hos hkp => ?_
  clear hh
  obtain ⟨eh, _, _, eo, _⟩ := Shared.forget_eq hfo
  have hcase := hcase.congr eh
  have hkp : kept s'.heap := by first | exact eh ▸ hkp | (rw [eh] at hkp; exact hkp) | (rw [← eh] at hkp; exact hkp)
  rw [← eo] at hos
  have hlife : s'.heap.life = s.heap.life := (runN_life _ _ _ hrun).trans hal.2.2.2
  refine ⟨vs, s₁, hlaid, k, _, s', hsched, ?_, (fun _ i x hx => by rw [hgens] at hx; simp at hx), hkp, by rw [hlife], Shared.rest_eq hos⟩
  refine hcase.elim (fun hh => .inl ?_) fun hh => .inr ?_
  · exact e1 hh fun v hh => ⟨v, congrArg outcomeOf hh.1, hh.2.1, hh.2.2.1, hh.2.2.2.1, fun b o y _ => hh.2.2.2.2.1 b o y, hh.2.2.2.2.2⟩
  · exact e3 hh fun e ob cls hh => ⟨e, ob, cls, congrArg outcomeOf hh.1, hh.2.1, hh.2.2.1, hh.2.2.2.1, hh.2.2.2.2.1, fun b o y _ => hh.2.2.2.2.2 b o y⟩

theorem open_anyC {r : RowW} {run : Value → List Value → Sem Value} {tree : List Value → Sem Fin} {q : Program} {loose defs kps : List Str} {writes : Bool} {Xt : Shared → Bool} {XP : (Str → Option Value) → Heap → Prop} {α : Type} {Yf : Shared → α} {Ya : World → α} {YP : World → Heap → Prop} {N : Nat}
    (left : LeftO r.prog q loose Xt Yf Ya N) (hY : ∀ w s, Yf s = Ya w → YP w s.heap) (hYk : ∀ w h h', YP w h → (∀ b o, h.get? b = some o → h'.get? b = some o) → YP w h') (hX : ∀ s, Xt s = true → XP (s.heap.nsMap mainGlobals) s.heap) (hXk : ∀ mg h h', XP mg h → (∀ b o, h.get? b = some o → h'.get? b = some o) → XP mg h')
    (hRf : ∀ s, Xt s = true → RecFacts r.records s.heap) (hwr : (!writes || r.records.isEmpty) = true) (ok : (chainsOk q && opensWell r.prog && (frees r && r.within.isEmpty)) = true) (hb : r.prog.bare) (hw : r.promised)
    (ht : ∀ vs (w : World) (s : Shared) mg f (Q : Fin → Shared → Prop) (E : Value → Shared → Prop), s.heap.Ns mainGlobals mg → mg r.name = some f → wpC (model r.prog w) callerA (run f vs) (fun v s' => Q (.done (.ret v)) s') E s → wpC (model r.prog w) callerA (tree vs) Q E s)
    (pin : ∀ w s, s.heap.isNs mainGlobals = true → Ground q loose [] XP w s (s.heap.nsMap mainGlobals) (s.heap.nsMap builtinsNs) s.heap → ∀ n ∈ defs, isTheDefsW r.prog s.heap n)
    (call : ∀ (w : World) (s₀ s₁ : Shared) (mg mb : Str → Option Value), Ground q loose r.records XP w s₀ mg mb s₁.heap → YP w s₁.heap → ∀ (args : List WData) (vs : List Value) (as : List Addr),
      r.claim.pre args = true → WData.layableAll args = true → Laid r.records w s₀ s₁ args vs as → sysModules < s₀.heap.objs.size → ∃ f, mg r.name = some f ∧
        wpC (model r.prog w) callerA (run f vs) (fun v s' => GoodWG r.claim (classAt s₀.heap) (ExcName.means s₀.heap) args s₁ (.ok (.ret v)) s')
          (fun e s' => GoodWG r.claim (classAt s₀.heap) (ExcName.means s₀.heap) args s₁ (.error e) s') s₁) : r.claim.HoldsOpenBy (fun vs => ⟨tree vs, .builtin "claim.caller" {}, default, []⟩) defs kps writes := by
  obtain ⟨ok, k5⟩ := Bool.and_eq_true_iff.mp ok
  obtain ⟨hch, o1⟩ := Bool.and_eq_true_iff.mp ok
  obtain ⟨k5, k6⟩ := Bool.and_eq_true_iff.mp k5
  obtain ⟨hsame, hu, ha, hap, hm⟩ := frees_parts k5
  refine ⟨⟨hb, o1, by show r.makers.map _ = []; rw [hm]; rfl⟩, hw.witness, fun w => ⟨(left.behind hX hch w).1, fun s' hs' => ?_⟩⟩
  obtain ⟨s₀, hf, hg0, s, hT, hz, hgens, hg, G00, y⟩ := (left.behind (XP := fun mg h => XP mg h ∧ RecFacts r.records h) (fun s hs => ⟨hX s hs, hRf s hs⟩) hch w).2 s' hs'
  have G0 : Ground q loose [] XP w s (s.heap.nsMap mainGlobals) (s.heap.nsMap builtinsNs) s.heap := ⟨G00.T, G00.B, G00.D, G00.TE, G00.TD, G00.W, G00.X.1, G00.cls, G00.has, G00.apart, G00.once, G00.K⟩
  have RF := G00.X.2
  have hT' := hT
  refine ⟨s₀, hf, hg0, s, hT, pin w s hg G0, RF.1, RF.2.1, ?_⟩
  have hgens : s.gens = #[] := Array.eq_empty_of_size_eq_zero (beq_iff_eq.mp hgens)
  have G : Ground q loose r.records XP w s _ _ s.heap := RF.ground G0
  refine callFrom_of_specC (c := r.claim) hz hgens fun args hpre hlay ord hord => ?_
  obtain ⟨⟨vs, s₁⟩, hlaid⟩ := Option.isSome_iff_exists.mp (layAllW_isSome (P := w.params) (ord := ord) G.has args r.args s (pre_splitW hpre).1)
  have keeps := layAllW_keeps _ _ _ hlaid
  have hal := layAllW_rest _ _ _ hlaid
  obtain ⟨as, hrd, hin, hold⟩ := reads_layAllW hord _ _ _ hlaid hlay s₁.heap (fun _ _ e => e)
  have L : Laid r.records w s s₁ args vs as := ⟨⟨ord, hord, hlaid⟩, hrd, hin, hold, keeps, hal.1.trans hgens, hal.2.2.1⟩
  have G₁ := G.keeps hXk keeps
  obtain ⟨f, hf, h⟩ := call w s s₁ _ _ G₁ (hYk _ _ _ (hY w s y) keeps) args vs as hpre hlay L G.low
  have hi := ident_freeW hu ha hap
  have hwi : r.claim.within = [] := List.isEmpty_iff.mp k6
  exact ⟨vs, s₁, hlaid, ht vs w s₁ _ f _ _ G₁.T.g hf (wpC_mono h (fun v s' g => ⟨_, rfl, have z := g.laid (c := r.claim) hsame hwi hi L; ⟨z.1, z.2.1, z.2.2, fun q => ⟨namesKept_of hT' hg kps keeps g.2.1.old, noTable hwr q⟩⟩⟩) fun e s' g => have z := g.laid (c := r.claim) hsame hwi hi L; ⟨z.1, z.2.1, z.2.2, fun q => ⟨namesKept_of hT' hg kps keeps g.2.1.old, noTable hwr q⟩⟩)⟩

abbrev WalkC (q : Program) (loose : List Str) (XP : (Str → Option Value) → Heap → Prop) (YP : World → Heap → Prop) (r : RowW) (d : DefRec) (kwd : List (Str × Expr)) (run : Value → List Value → Sem Value) : Prop :=
  ∀ (w : World) (s₀ s₁ : Shared) (mg mb : Str → Option Value), Ground q loose r.records XP w s₀ mg mb s₁.heap → YP w s₁.heap → ∀ (a : Addr) (o : Obj) (pm cd doc dV kV : Value), s₁.heap.get? a = some o →
    o.data = .func { docDef d.name d.params d.body d.scope pm cd doc with defaults := dV, kwdefaults := kV } → s₁.heap.CodeRec cd d.name → Dflts mg s₁.heap d.params kwd dV kV → mg d.name = some (.ref a) → s₁.gens = #[] →
    ∀ (args : List WData) (vals : List Value) (as : List Addr), r.claim.pre args = true → WData.layableAll args = true → ReadsAllW r.records (classAt s₀.heap) s₁.heap vals args as → WellAll w.params s₁.heap vals args → (∀ a ∈ as, (a == sysModules) = false) →
      wpC (model r.prog w) callerA (run (.ref a) vals) (fun v s' => GoodWG r.claim (classAt s₀.heap) (ExcName.means s₀.heap) args s₁ (.ok (.ret v)) s')
        (fun e s' => GoodWG r.claim (classAt s₀.heap) (ExcName.means s₀.heap) args s₁ (.error e) s') s₁

theorem PySem.W.holds_open {r : OpenRow} {q : Program} {loose : List Str} {Xt : Shared → Bool} {XP : (Str → Option Value) → Heap → Prop} {α : Type} {Yf : Shared → α} {Ya : World → α} {YP : World → Heap → Prop} {d : DefRec} {kwd : List (Str × Expr)} {N : Nat}
    (left : LeftO r.prog q loose Xt Yf Ya N) (hY : ∀ w s, Yf s = Ya w → YP w s.heap) (hYk : ∀ w h h', YP w h → (∀ b o, h.get? b = some o → h'.get? b = some o) → YP w h')
    (hX : ∀ s, Xt s = true → XP (s.heap.nsMap mainGlobals) s.heap) (hXk : ∀ mg h h', XP mg h → (∀ b o, h.get? b = some o → h'.get? b = some o) → XP mg h')
    (hdef : defOf q r.name = some (d, kwd)) (hp : r.prog.theDef r.name = some (d.params, d.body, d.scope)) (hk : kwWritten? d.params.kwonlyargs d.params.kw_defaults = some kwd) (hRf : ∀ s, Xt s = true → RecFacts r.records s.heap) (hwr : (!r.writes || r.records.isEmpty) = true)
    (k1 : r.wellSaid = true) (ok : (chainsOk q && opensWell r.prog && (frees r.toRowW && r.within.isEmpty)) = true) (hb : r.prog.bare) (hw : r.toRowW.promised)
    (call : WalkC q loose XP YP r.toRowW d kwd fun f vs => PySem.call f vs) : r.Holds := by
  refine ⟨k1, hw, open_anyC (r := r.toRowW) (run := fun f vs => PySem.call f vs) (tree := fun vs => do match ← nsGet mainNs r.name with
      | some f => do ret (← PySem.call f vs)
      | none => unsupported "claim.caller:no-such-global") left hY hYk hX hXk hRf hwr ok hb hw
    (fun vs w s mg f Q E hg hf h => wpC_bind (wpC.any (wpAny_nsGet hg (by rw [hf]; exact wpC_bind (wpC_mono h (fun _ _ x => wpC_pure x) fun _ _ x => x)))))
    (fun w s hg G n hn => ?_) fun w s₀ s₁ mg mb G Y args vs as hpre hlay L low => ?_⟩
  · obtain rfl : n = r.name := by split at hn <;> simp_all
    exact pinned_of_view hg G hdef hp hk
  · obtain ⟨a, o, pm, cd, doc, dV, kV, h1, h2, h3, h4, h5⟩ := G.fn hdef
    exact ⟨.ref a, h1, call w s₀ s₁ mg mb G Y a o pm cd doc dV kV h2 h3 h4 h5 (defOf_name hdef ▸ h1) L.gens args vs as hpre hlay L.reads L.well (L.low low)⟩
end Mine
end
section
open PySem PySem.W PyProof.Rows PySem.Calls
set_option maxRecDepth 100000
set_option maxHeartbeats 8000000
set_option linter.unusedVariables false
namespace Mine
abbrev PB : List Stmt := PySem.Challenge.pw_tg0033_01.main.body
/-- a statement by its place -/
noncomputable def nthS : List Stmt → Nat → Stmt
  | [], _ => .Pass ⟨0, 0, 0, 0⟩
  | x :: _, 0 => x
  | _ :: l, n + 1 => nthS l n
noncomputable def bodyS : Stmt → List Stmt
  | .FunctionDef _ _ b .. => b
  | .ClassDef _ _ _ b .. => b
  | _ => []
noncomputable def argsS : Stmt → Arguments
  | .FunctionDef _ a .. => a
  | _ => ⟨[], [], none, [], [], none, []⟩
noncomputable def scopeS : Stmt → Scope
  | .FunctionDef _ _ _ _ _ _ s .. => s
  | .ClassDef _ _ _ _ _ _ s .. => s
  | _ => PySem.Challenge.pw_tg0033_01.main.scope
noncomputable def posS : Stmt → Pos
  | .FunctionDef _ _ _ _ _ _ _ _ _ p => p
  | _ => ⟨0, 0, 0, 0⟩

/-! the run of the top, in seven steps -/
noncomputable def o_43 (P : Params) : Obj := (Obj.mk (Value.type "tuple") none (Data.seq (List.toArray []) 0) (List.toArray []))
noncomputable def o_44 (P : Params) : Obj := (Obj.mk Value.none none (Data.fields (List.toArray [])) (List.toArray []))
noncomputable def o_45 (P : Params) : Obj := (Obj.mk (Value.type "code") none (Data.fields (List.toArray [(Value.str "<module>" 182), (Value.str "<module>" 183), (Value.str "/claim/cut.py" 184), (Value.int 1 0), (Value.int 0 0), (Value.int 0 0), (Value.int 0 0), (Value.int 0 0), (Value.ref 11), (Value.bool Bool.false), (Value.int 181 0), (Value.ref 12), Value.none, Value.none, Value.none, Value.none, (Value.int 185 0), (Value.int 1 0), (Value.str "/claim/cut.py" 186)])) (List.toArray []))
noncomputable def o_46 (P : Params) : Obj := (Obj.mk (Value.type "frame") none Data.plain (List.toArray [(some (Value.ref 13)), (some (Value.ref 3)), (some (Value.ref 3)), none, (some (Value.str "__main__" 164)), none, (some (Value.ref 0))]))
noncomputable def o_49 (P : Params) : Obj := (Obj.mk (Value.type "dict") none (Data.dict (List.toArray [(DictEntry.mk (PyData.keyHash P "__name__") (Value.str "__name__" 165) (Value.str "threepress.errors" 194)), (DictEntry.mk (PyData.keyHash P "__doc__") (Value.str "__doc__" 166) Value.none), (DictEntry.mk (PyData.keyHash P "__package__") (Value.str "__package__" 167) Value.none), (DictEntry.mk (PyData.keyHash P "__loader__") (Value.str "__loader__" 168) (Value.builtin "__main__.__loader__#opaque")), (DictEntry.mk (PyData.keyHash P "__spec__") (Value.str "__spec__" 169) Value.none), (DictEntry.mk (PyData.keyHash P "__annotations__") (Value.str "__annotations__" 170) (Value.ref 6)), (DictEntry.mk (PyData.keyHash P "__builtins__") (Value.str "__builtins__" 171) (Value.ref 4)), (DictEntry.mk (PyData.keyHash P "__file__") (Value.str "__file__" 173) (Value.str "/claim/cut.py" 172)), (DictEntry.mk (PyData.keyHash P "__cached__") (Value.str "__cached__" 174) Value.none), (DictEntry.mk (PyData.keyHash P "_wall") (Value.str "_wall" 193) (Value.ref 21)), (DictEntry.mk (PyData.keyHash P "PressError") (Value.str "PressError" 223) (Value.ref 39))]) 11) (List.toArray []))
noncomputable def o_50 (P : Params) : Obj := (Obj.mk Value.none none (Data.fields (List.toArray [(Value.int 1 0), (Value.int 0 0), (Value.ref 20), (Value.int 5 0), (Value.int 0 0), (Value.ref 27)])) (List.toArray []))
noncomputable def o_51 (P : Params) : Obj := (Obj.mk (Value.type "tuple") none (Data.seq (List.toArray []) 0) (List.toArray []))
noncomputable def o_52 (P : Params) : Obj := (Obj.mk Value.none none (Data.fields (List.toArray [])) (List.toArray []))
noncomputable def o_53 (P : Params) : Obj := (Obj.mk (Value.type "tuple") none (Data.seq (List.toArray [(Value.str "k" 190)]) 0) (List.toArray []))
noncomputable def o_54 (P : Params) : Obj := (Obj.mk (Value.type "tuple") none (Data.seq (List.toArray []) 0) (List.toArray []))
noncomputable def o_55 (P : Params) : Obj := (Obj.mk Value.none none (Data.func (FuncData.mk "_wall" "_wall" (argsS (nthS PB 0)) (FuncBody.stmts (bodyS (nthS PB 0))) (scopeS (nthS PB 0)) 0 [] Value.none Value.none Value.none Value.none none Value.none Value.none 0)) (List.toArray []))
noncomputable def o_56 (P : Params) : Obj := (Obj.mk (Value.type "code") none (Data.fields (List.toArray [(Value.str "_wall" 187), (Value.str "_wall" 188), (Value.str "/claim/cut.py" 189), (Value.int 1 0), (Value.int 1 0), (Value.int 0 0), (Value.int 0 0), (Value.int 3 0), (Value.ref 15), (Value.bool Bool.true), (Value.int 181 0), (Value.ref 16), Value.none, (Value.ref 17), (Value.ref 18), (Value.ref 19), (Value.int 191 0), (Value.int 1 0), (Value.str "/claim/cut.py" 192)])) (List.toArray []))
noncomputable def o_57 (P : Params) : Obj := (Obj.mk (Value.type "function") none (Data.func (FuncData.mk "_wall" "_wall" (argsS (nthS PB 0)) (FuncBody.stmts (bodyS (nthS PB 0))) (scopeS (nthS PB 0)) 3 [] Value.none Value.none Value.none (Value.str "__main__" 164) none (Value.ref 20) Value.none 0)) (List.toArray []))
noncomputable def o_58 (P : Params) : Obj := (Obj.mk (Value.type "tuple") none (Data.seq (List.toArray [(Value.type "ValueError")]) 0) (List.toArray []))
noncomputable def o_59 (P : Params) : Obj := (Obj.mk (Value.type "builtin_function_or_method") none (Data.fields (List.toArray [(Value.builtin "type.__prepare__"), (Value.type "type")])) (List.toArray []))
noncomputable def o_60 (P : Params) : Obj := (Obj.mk (Value.type "dict") none (Data.dict (List.toArray [(DictEntry.mk (PyData.keyHash P "__module__") (Value.str "__module__" 203) (Value.str "threepress.errors" 194)), (DictEntry.mk (PyData.keyHash P "__qualname__") (Value.str "__qualname__" 205) (Value.str "PressError" 204)), (DictEntry.mk (PyData.keyHash P "__firstlineno__") (Value.str "__firstlineno__" 207) (Value.int 5 206)), (DictEntry.mk (PyData.keyHash P "__init__") (Value.str "__init__" 216) (Value.ref 36)), (DictEntry.mk (PyData.keyHash P "__static_attributes__") (Value.str "__static_attributes__" 218) (Value.ref 37))]) 5) (List.toArray []))
noncomputable def o_61 (P : Params) : Obj := (Obj.mk (Value.type "tuple") none (Data.seq (List.toArray []) 0) (List.toArray []))
noncomputable def o_62 (P : Params) : Obj := (Obj.mk Value.none none (Data.fields (List.toArray [(Value.int 7 0), (Value.int 4 0), (Value.ref 35)])) (List.toArray []))
noncomputable def o_63 (P : Params) : Obj := (Obj.mk (Value.type "code") none (Data.fields (List.toArray [(Value.str "PressError" 198), (Value.str "PressError" 199), (Value.str "/claim/cut.py" 200), (Value.int 5 0), (Value.int 0 0), (Value.int 0 0), (Value.int 0 0), (Value.int 0 0), (Value.ref 25), (Value.bool Bool.false), (Value.int 181 0), (Value.ref 26), Value.none, Value.none, Value.none, Value.none, (Value.int 201 0), (Value.int 5 0), (Value.str "/claim/cut.py" 202)])) (List.toArray []))
noncomputable def o_64 (P : Params) : Obj := (Obj.mk (Value.type "frame") none Data.plain (List.toArray [(some (Value.ref 27)), (some (Value.ref 3)), (some (Value.ref 24)), none, (some (Value.str "threepress.errors" 194)), none, (some (Value.ref 0))]))
noncomputable def o_65 (P : Params) : Obj := (Obj.mk (Value.type "tuple") none (Data.seq (List.toArray [(Value.str "" 208)]) 0) (List.toArray []))
noncomputable def o_66 (P : Params) : Obj := (Obj.mk (Value.type "tuple") none (Data.seq (List.toArray []) 0) (List.toArray []))
noncomputable def o_67 (P : Params) : Obj := (Obj.mk Value.none none (Data.fields (List.toArray [])) (List.toArray []))
noncomputable def o_68 (P : Params) : Obj := (Obj.mk (Value.type "tuple") none (Data.seq (List.toArray [(Value.str "self" 212), (Value.str "reason" 213)]) 0) (List.toArray []))
noncomputable def o_69 (P : Params) : Obj := (Obj.mk (Value.type "tuple") none (Data.seq (List.toArray []) 0) (List.toArray []))
noncomputable def o_70 (P : Params) : Obj := (Obj.mk Value.none none (Data.func (FuncData.mk "__init__" "PressError.__init__" (argsS (nthS (bodyS (nthS PB 2)) 0)) (FuncBody.stmts (bodyS (nthS (bodyS (nthS PB 2)) 0))) (scopeS (nthS (bodyS (nthS PB 2)) 0)) 0 [] Value.none Value.none Value.none Value.none none Value.none Value.none 0)) (List.toArray []))
noncomputable def o_71 (P : Params) : Obj := (Obj.mk (Value.type "code") none (Data.fields (List.toArray [(Value.str "__init__" 209), (Value.str "PressError.__init__" 210), (Value.str "/claim/cut.py" 211), (Value.int 7 0), (Value.int 2 0), (Value.int 0 0), (Value.int 0 0), (Value.int 3 0), (Value.ref 30), (Value.bool Bool.true), (Value.int 181 0), (Value.ref 31), Value.none, (Value.ref 32), (Value.ref 33), (Value.ref 34), (Value.int 214 0), (Value.int 7 0), (Value.str "/claim/cut.py" 215)])) (List.toArray []))
noncomputable def o_72 (P : Params) : Obj := (Obj.mk (Value.type "function") none (Data.func (FuncData.mk "__init__" "PressError.__init__" (argsS (nthS (bodyS (nthS PB 2)) 0)) (FuncBody.stmts (bodyS (nthS (bodyS (nthS PB 2)) 0))) (scopeS (nthS (bodyS (nthS PB 2)) 0)) 3 [] (Value.ref 29) Value.none Value.none (Value.str "threepress.errors" 194) none (Value.ref 35) Value.none 0)) (List.toArray []))
noncomputable def o_73 (P : Params) : Obj := (Obj.mk (Value.type "tuple") none (Data.seq (List.toArray [(Value.str "reason" 217)]) 0) (List.toArray []))
noncomputable def o_74 (P : Params) : Obj := (Obj.mk (Value.type "dict") none (Data.dict (List.toArray [(DictEntry.mk (PyData.keyHash P "__module__") (Value.str "__module__" 203) (Value.str "threepress.errors" 194)), (DictEntry.mk (PyData.keyHash P "__firstlineno__") (Value.str "__firstlineno__" 207) (Value.int 5 206)), (DictEntry.mk (PyData.keyHash P "__init__") (Value.str "__init__" 216) (Value.ref 36)), (DictEntry.mk (PyData.keyHash P "__static_attributes__") (Value.str "__static_attributes__" 218) (Value.ref 37)), (DictEntry.mk (PyData.keyHash P "__weakref__") (Value.str "__weakref__" 220) (Value.ref 40)), (DictEntry.mk (PyData.keyHash P "__doc__") (Value.str "__doc__" 221) Value.none)]) 3) (List.toArray []))
noncomputable def o_75 (P : Params) : Obj := (Obj.mk (Value.type "type") none (Data.cls (ClassData.mk "PressError" [(Value.type "ValueError")] [(Value.ref 39), (Value.type "ValueError"), (Value.type "Exception"), (Value.type "BaseException"), (Value.type "object")] 38 "PressError" Bool.true [] [] Bool.false none Bool.false)) (List.toArray [(some (Value.ref 22)), none, (some (Value.str "PressError" 196)), (some (Value.str "PressError" 204)), (some (Value.builtin "ValueError.__new__")), (some (Value.bool Bool.true))]))
noncomputable def o_76 (P : Params) : Obj := (Obj.mk (Value.type "getset_descriptor") none (Data.fields (List.toArray [(Value.str "__weakref__" 219), (Value.ref 39), (Value.builtin "ExceptionGroup.__weakref__"), Value.none])) (List.toArray []))
noncomputable def o_77 (P : Params) : Obj := (Obj.mk (Value.type "super") none (Data.fields (List.toArray [(Value.ref 39), (Value.ref 39), (Value.ref 39)])) (List.toArray []))
noncomputable def o_78 (P : Params) : Obj := (Obj.mk (Value.type "builtin_function_or_method") none (Data.fields (List.toArray [(Value.builtin "object.__init_subclass__"), (Value.ref 39)])) (List.toArray []))
noncomputable def o_79 (P : Params) : Obj := (Obj.mk (Value.type "dict") none (Data.dict (List.toArray [(DictEntry.mk (PyData.keyHash P "__name__") (Value.str "__name__" 165) (Value.str "threepress.errors" 194)), (DictEntry.mk (PyData.keyHash P "__doc__") (Value.str "__doc__" 166) Value.none), (DictEntry.mk (PyData.keyHash P "__package__") (Value.str "__package__" 167) Value.none), (DictEntry.mk (PyData.keyHash P "__loader__") (Value.str "__loader__" 168) (Value.builtin "__main__.__loader__#opaque")), (DictEntry.mk (PyData.keyHash P "__spec__") (Value.str "__spec__" 169) Value.none), (DictEntry.mk (PyData.keyHash P "__annotations__") (Value.str "__annotations__" 170) (Value.ref 6)), (DictEntry.mk (PyData.keyHash P "__builtins__") (Value.str "__builtins__" 171) (Value.ref 4)), (DictEntry.mk (PyData.keyHash P "__file__") (Value.str "__file__" 173) (Value.str "/claim/cut.py" 172)), (DictEntry.mk (PyData.keyHash P "__cached__") (Value.str "__cached__" 174) Value.none), (DictEntry.mk (PyData.keyHash P "_wall") (Value.str "_wall" 193) (Value.ref 21)), (DictEntry.mk (PyData.keyHash P "PressError") (Value.str "PressError" 223) (Value.ref 39)), (DictEntry.mk (PyData.keyHash P "BadDistance") (Value.str "BadDistance" 239) (Value.ref 52))]) 12) (List.toArray []))
noncomputable def o_80 (P : Params) : Obj := (Obj.mk Value.none none (Data.fields (List.toArray [(Value.int 1 0), (Value.int 0 0), (Value.ref 20), (Value.int 5 0), (Value.int 0 0), (Value.ref 27), (Value.int 10 0), (Value.int 0 0), (Value.ref 48)])) (List.toArray []))
noncomputable def o_81 (P : Params) : Obj := (Obj.mk (Value.type "type") none (Data.cls (ClassData.mk "PressError" [(Value.type "ValueError")] [(Value.ref 39), (Value.type "ValueError"), (Value.type "Exception"), (Value.type "BaseException"), (Value.type "object")] 38 "PressError" Bool.true [] [(Value.ref 52)] Bool.false none Bool.false)) (List.toArray [(some (Value.ref 22)), none, (some (Value.str "PressError" 196)), (some (Value.str "PressError" 204)), (some (Value.builtin "ValueError.__new__")), (some (Value.bool Bool.true))]))
noncomputable def o_82 (P : Params) : Obj := (Obj.mk (Value.type "tuple") none (Data.seq (List.toArray [(Value.ref 39)]) 0) (List.toArray []))
noncomputable def o_83 (P : Params) : Obj := (Obj.mk (Value.type "builtin_function_or_method") none (Data.fields (List.toArray [(Value.builtin "type.__prepare__"), (Value.type "type")])) (List.toArray []))
noncomputable def o_84 (P : Params) : Obj := (Obj.mk (Value.type "dict") none (Data.dict (List.toArray [(DictEntry.mk (PyData.keyHash P "__module__") (Value.str "__module__" 231) (Value.str "threepress.errors" 194)), (DictEntry.mk (PyData.keyHash P "__qualname__") (Value.str "__qualname__" 233) (Value.str "BadDistance" 232)), (DictEntry.mk (PyData.keyHash P "__firstlineno__") (Value.str "__firstlineno__" 235) (Value.int 10 234)), (DictEntry.mk (PyData.keyHash P "__static_attributes__") (Value.str "__static_attributes__" 236) (Value.ref 50))]) 4) (List.toArray []))
noncomputable def o_85 (P : Params) : Obj := (Obj.mk (Value.type "tuple") none (Data.seq (List.toArray []) 0) (List.toArray []))
noncomputable def o_86 (P : Params) : Obj := (Obj.mk Value.none none (Data.fields (List.toArray [])) (List.toArray []))
noncomputable def o_87 (P : Params) : Obj := (Obj.mk (Value.type "code") none (Data.fields (List.toArray [(Value.str "BadDistance" 226), (Value.str "BadDistance" 227), (Value.str "/claim/cut.py" 228), (Value.int 10 0), (Value.int 0 0), (Value.int 0 0), (Value.int 0 0), (Value.int 0 0), (Value.ref 46), (Value.bool Bool.false), (Value.int 181 0), (Value.ref 47), Value.none, Value.none, Value.none, Value.none, (Value.int 229 0), (Value.int 10 0), (Value.str "/claim/cut.py" 230)])) (List.toArray []))
noncomputable def o_88 (P : Params) : Obj := (Obj.mk (Value.type "frame") none Data.plain (List.toArray [(some (Value.ref 48)), (some (Value.ref 3)), (some (Value.ref 45)), none, (some (Value.str "threepress.errors" 194)), none, (some (Value.ref 0))]))
noncomputable def o_89 (P : Params) : Obj := (Obj.mk (Value.type "tuple") none (Data.seq (List.toArray []) 0) (List.toArray []))
noncomputable def o_90 (P : Params) : Obj := (Obj.mk (Value.type "dict") none (Data.dict (List.toArray [(DictEntry.mk (PyData.keyHash P "__module__") (Value.str "__module__" 231) (Value.str "threepress.errors" 194)), (DictEntry.mk (PyData.keyHash P "__firstlineno__") (Value.str "__firstlineno__" 235) (Value.int 10 234)), (DictEntry.mk (PyData.keyHash P "__static_attributes__") (Value.str "__static_attributes__" 236) (Value.ref 50)), (DictEntry.mk (PyData.keyHash P "__doc__") (Value.str "__doc__" 237) Value.none)]) 2) (List.toArray []))
noncomputable def o_91 (P : Params) : Obj := (Obj.mk (Value.type "type") none (Data.cls (ClassData.mk "BadDistance" [(Value.ref 39)] [(Value.ref 52), (Value.ref 39), (Value.type "ValueError"), (Value.type "Exception"), (Value.type "BaseException"), (Value.type "object")] 51 "BadDistance" Bool.true [] [] Bool.false none Bool.false)) (List.toArray [(some (Value.ref 43)), none, (some (Value.str "BadDistance" 224)), (some (Value.str "BadDistance" 232)), (some (Value.builtin "ValueError.__new__")), (some (Value.bool Bool.true))]))
noncomputable def o_92 (P : Params) : Obj := (Obj.mk (Value.type "super") none (Data.fields (List.toArray [(Value.ref 52), (Value.ref 52), (Value.ref 52)])) (List.toArray []))
noncomputable def o_93 (P : Params) : Obj := (Obj.mk (Value.type "builtin_function_or_method") none (Data.fields (List.toArray [(Value.builtin "object.__init_subclass__"), (Value.ref 52)])) (List.toArray []))
noncomputable def o_94 (P : Params) : Obj := (Obj.mk (Value.type "dict") none (Data.dict (List.toArray [(DictEntry.mk (PyData.keyHash P "__name__") (Value.str "__name__" 165) (Value.str "threepress.lzmastate" 256)), (DictEntry.mk (PyData.keyHash P "__doc__") (Value.str "__doc__" 166) Value.none), (DictEntry.mk (PyData.keyHash P "__package__") (Value.str "__package__" 167) Value.none), (DictEntry.mk (PyData.keyHash P "__loader__") (Value.str "__loader__" 168) (Value.builtin "__main__.__loader__#opaque")), (DictEntry.mk (PyData.keyHash P "__spec__") (Value.str "__spec__" 169) Value.none), (DictEntry.mk (PyData.keyHash P "__annotations__") (Value.str "__annotations__" 170) (Value.ref 6)), (DictEntry.mk (PyData.keyHash P "__builtins__") (Value.str "__builtins__" 171) (Value.ref 4)), (DictEntry.mk (PyData.keyHash P "__file__") (Value.str "__file__" 173) (Value.str "/claim/cut.py" 172)), (DictEntry.mk (PyData.keyHash P "__cached__") (Value.str "__cached__" 174) Value.none), (DictEntry.mk (PyData.keyHash P "_wall") (Value.str "_wall" 193) (Value.ref 21)), (DictEntry.mk (PyData.keyHash P "PressError") (Value.str "PressError" 223) (Value.ref 39)), (DictEntry.mk (PyData.keyHash P "BadDistance") (Value.str "BadDistance" 239) (Value.ref 52)), (DictEntry.mk (PyData.keyHash P "BadArgument") (Value.str "BadArgument" 255) (Value.ref 64)), (DictEntry.mk (PyData.keyHash P "LEAST_MATCH") (Value.str "LEAST_MATCH" 259) (Value.int 2 258)), (DictEntry.mk (PyData.keyHash P "MOST_MATCH") (Value.str "MOST_MATCH" 261) (Value.int 273 260))]) 15) (List.toArray []))
noncomputable def o_95 (P : Params) : Obj := (Obj.mk Value.none none (Data.fields (List.toArray [(Value.int 1 0), (Value.int 0 0), (Value.ref 20), (Value.int 5 0), (Value.int 0 0), (Value.ref 27), (Value.int 10 0), (Value.int 0 0), (Value.ref 48), (Value.int 12 0), (Value.int 0 0), (Value.ref 60)])) (List.toArray []))
noncomputable def o_96 (P : Params) : Obj := (Obj.mk (Value.type "type") none (Data.cls (ClassData.mk "PressError" [(Value.type "ValueError")] [(Value.ref 39), (Value.type "ValueError"), (Value.type "Exception"), (Value.type "BaseException"), (Value.type "object")] 38 "PressError" Bool.true [] [(Value.ref 52), (Value.ref 64)] Bool.false none Bool.false)) (List.toArray [(some (Value.ref 22)), none, (some (Value.str "PressError" 196)), (some (Value.str "PressError" 204)), (some (Value.builtin "ValueError.__new__")), (some (Value.bool Bool.true))]))
noncomputable def o_97 (P : Params) : Obj := (Obj.mk (Value.type "tuple") none (Data.seq (List.toArray [(Value.ref 39)]) 0) (List.toArray []))
noncomputable def o_98 (P : Params) : Obj := (Obj.mk (Value.type "builtin_function_or_method") none (Data.fields (List.toArray [(Value.builtin "type.__prepare__"), (Value.type "type")])) (List.toArray []))
noncomputable def o_99 (P : Params) : Obj := (Obj.mk (Value.type "dict") none (Data.dict (List.toArray [(DictEntry.mk (PyData.keyHash P "__module__") (Value.str "__module__" 247) (Value.str "threepress.errors" 194)), (DictEntry.mk (PyData.keyHash P "__qualname__") (Value.str "__qualname__" 249) (Value.str "BadArgument" 248)), (DictEntry.mk (PyData.keyHash P "__firstlineno__") (Value.str "__firstlineno__" 251) (Value.int 12 250)), (DictEntry.mk (PyData.keyHash P "__static_attributes__") (Value.str "__static_attributes__" 252) (Value.ref 62))]) 4) (List.toArray []))
noncomputable def o_100 (P : Params) : Obj := (Obj.mk (Value.type "tuple") none (Data.seq (List.toArray []) 0) (List.toArray []))
noncomputable def o_101 (P : Params) : Obj := (Obj.mk Value.none none (Data.fields (List.toArray [])) (List.toArray []))
noncomputable def o_102 (P : Params) : Obj := (Obj.mk (Value.type "code") none (Data.fields (List.toArray [(Value.str "BadArgument" 242), (Value.str "BadArgument" 243), (Value.str "/claim/cut.py" 244), (Value.int 12 0), (Value.int 0 0), (Value.int 0 0), (Value.int 0 0), (Value.int 0 0), (Value.ref 58), (Value.bool Bool.false), (Value.int 181 0), (Value.ref 59), Value.none, Value.none, Value.none, Value.none, (Value.int 245 0), (Value.int 12 0), (Value.str "/claim/cut.py" 246)])) (List.toArray []))
noncomputable def o_103 (P : Params) : Obj := (Obj.mk (Value.type "frame") none Data.plain (List.toArray [(some (Value.ref 60)), (some (Value.ref 3)), (some (Value.ref 57)), none, (some (Value.str "threepress.errors" 194)), none, (some (Value.ref 0))]))
noncomputable def o_104 (P : Params) : Obj := (Obj.mk (Value.type "tuple") none (Data.seq (List.toArray []) 0) (List.toArray []))
noncomputable def o_105 (P : Params) : Obj := (Obj.mk (Value.type "dict") none (Data.dict (List.toArray [(DictEntry.mk (PyData.keyHash P "__module__") (Value.str "__module__" 247) (Value.str "threepress.errors" 194)), (DictEntry.mk (PyData.keyHash P "__firstlineno__") (Value.str "__firstlineno__" 251) (Value.int 12 250)), (DictEntry.mk (PyData.keyHash P "__static_attributes__") (Value.str "__static_attributes__" 252) (Value.ref 62)), (DictEntry.mk (PyData.keyHash P "__doc__") (Value.str "__doc__" 253) Value.none)]) 2) (List.toArray []))
noncomputable def o_106 (P : Params) : Obj := (Obj.mk (Value.type "type") none (Data.cls (ClassData.mk "BadArgument" [(Value.ref 39)] [(Value.ref 64), (Value.ref 39), (Value.type "ValueError"), (Value.type "Exception"), (Value.type "BaseException"), (Value.type "object")] 63 "BadArgument" Bool.true [] [] Bool.false none Bool.false)) (List.toArray [(some (Value.ref 55)), none, (some (Value.str "BadArgument" 240)), (some (Value.str "BadArgument" 248)), (some (Value.builtin "ValueError.__new__")), (some (Value.bool Bool.true))]))
noncomputable def o_107 (P : Params) : Obj := (Obj.mk (Value.type "super") none (Data.fields (List.toArray [(Value.ref 64), (Value.ref 64), (Value.ref 64)])) (List.toArray []))
noncomputable def o_108 (P : Params) : Obj := (Obj.mk (Value.type "builtin_function_or_method") none (Data.fields (List.toArray [(Value.builtin "object.__init_subclass__"), (Value.ref 64)])) (List.toArray []))
noncomputable def o_109 (P : Params) : Obj := (Obj.mk (Value.type "dict") none (Data.dict (List.toArray [(DictEntry.mk (PyData.keyHash P "__name__") (Value.str "__name__" 165) (Value.str "threepress.lzmaencode" 333)), (DictEntry.mk (PyData.keyHash P "__doc__") (Value.str "__doc__" 166) Value.none), (DictEntry.mk (PyData.keyHash P "__package__") (Value.str "__package__" 167) Value.none), (DictEntry.mk (PyData.keyHash P "__loader__") (Value.str "__loader__" 168) (Value.builtin "__main__.__loader__#opaque")), (DictEntry.mk (PyData.keyHash P "__spec__") (Value.str "__spec__" 169) Value.none), (DictEntry.mk (PyData.keyHash P "__annotations__") (Value.str "__annotations__" 170) (Value.ref 6)), (DictEntry.mk (PyData.keyHash P "__builtins__") (Value.str "__builtins__" 171) (Value.ref 4)), (DictEntry.mk (PyData.keyHash P "__file__") (Value.str "__file__" 173) (Value.str "/claim/cut.py" 172)), (DictEntry.mk (PyData.keyHash P "__cached__") (Value.str "__cached__" 174) Value.none), (DictEntry.mk (PyData.keyHash P "_wall") (Value.str "_wall" 193) (Value.ref 21)), (DictEntry.mk (PyData.keyHash P "PressError") (Value.str "PressError" 223) (Value.ref 39)), (DictEntry.mk (PyData.keyHash P "BadDistance") (Value.str "BadDistance" 239) (Value.ref 52)), (DictEntry.mk (PyData.keyHash P "BadArgument") (Value.str "BadArgument" 255) (Value.ref 64)), (DictEntry.mk (PyData.keyHash P "LEAST_MATCH") (Value.str "LEAST_MATCH" 259) (Value.int 2 258)), (DictEntry.mk (PyData.keyHash P "MOST_MATCH") (Value.str "MOST_MATCH" 261) (Value.int 273 260)), (DictEntry.mk (PyData.keyHash P "Reps") (Value.str "Reps" 332) (Value.ref 120))]) 16) (List.toArray []))
noncomputable def o_110 (P : Params) : Obj := (Obj.mk Value.none none (Data.fields (List.toArray [(Value.int 1 0), (Value.int 0 0), (Value.ref 20), (Value.int 5 0), (Value.int 0 0), (Value.ref 27), (Value.int 10 0), (Value.int 0 0), (Value.ref 48), (Value.int 12 0), (Value.int 0 0), (Value.ref 60), (Value.int 17 0), (Value.int 0 0), (Value.ref 72)])) (List.toArray []))
noncomputable def o_111 (P : Params) : Obj := (Obj.mk (Value.type "tuple") none (Data.seq (List.toArray []) 0) (List.toArray []))
noncomputable def o_112 (P : Params) : Obj := (Obj.mk (Value.type "builtin_function_or_method") none (Data.fields (List.toArray [(Value.builtin "type.__prepare__"), (Value.type "type")])) (List.toArray []))
noncomputable def o_113 (P : Params) : Obj := (Obj.mk (Value.type "dict") none (Data.dict (List.toArray [(DictEntry.mk (PyData.keyHash P "__module__") (Value.str "__module__" 269) (Value.str "threepress.lzmastate" 256)), (DictEntry.mk (PyData.keyHash P "__qualname__") (Value.str "__qualname__" 271) (Value.str "Reps" 270)), (DictEntry.mk (PyData.keyHash P "__firstlineno__") (Value.str "__firstlineno__" 273) (Value.int 17 272)), (DictEntry.mk (PyData.keyHash P "__init__") (Value.str "__init__" 285) (Value.ref 82)), (DictEntry.mk (PyData.keyHash P "reset") (Value.str "reset" 292) (Value.ref 89)), (DictEntry.mk (PyData.keyHash P "first") (Value.str "first" 299) (Value.ref 96)), (DictEntry.mk (PyData.keyHash P "use") (Value.str "use" 308) (Value.ref 103)), (DictEntry.mk (PyData.keyHash P "put") (Value.str "put" 316) (Value.ref 110)), (DictEntry.mk (PyData.keyHash P "copy") (Value.str "copy" 323) (Value.ref 117)), (DictEntry.mk (PyData.keyHash P "__static_attributes__") (Value.str "__static_attributes__" 325) (Value.ref 118))]) 10) (List.toArray []))
noncomputable def o_114 (P : Params) : Obj := (Obj.mk (Value.type "tuple") none (Data.seq (List.toArray []) 0) (List.toArray []))
noncomputable def o_115 (P : Params) : Obj := (Obj.mk Value.none none (Data.fields (List.toArray [(Value.int 19 0), (Value.int 4 0), (Value.ref 81), (Value.int 22 0), (Value.int 4 0), (Value.ref 88), (Value.int 25 0), (Value.int 4 0), (Value.ref 95), (Value.int 28 0), (Value.int 4 0), (Value.ref 102), (Value.int 33 0), (Value.int 4 0), (Value.ref 109), (Value.int 36 0), (Value.int 4 0), (Value.ref 116)])) (List.toArray []))
noncomputable def o_116 (P : Params) : Obj := (Obj.mk (Value.type "code") none (Data.fields (List.toArray [(Value.str "Reps" 264), (Value.str "Reps" 265), (Value.str "/claim/cut.py" 266), (Value.int 17 0), (Value.int 0 0), (Value.int 0 0), (Value.int 0 0), (Value.int 0 0), (Value.ref 70), (Value.bool Bool.false), (Value.int 181 0), (Value.ref 71), Value.none, Value.none, Value.none, Value.none, (Value.int 267 0), (Value.int 17 0), (Value.str "/claim/cut.py" 268)])) (List.toArray []))
noncomputable def o_117 (P : Params) : Obj := (Obj.mk (Value.type "frame") none Data.plain (List.toArray [(some (Value.ref 72)), (some (Value.ref 3)), (some (Value.ref 69)), none, (some (Value.str "threepress.lzmastate" 256)), none, (some (Value.ref 0))]))
noncomputable def o_118 (P : Params) : Obj := (Obj.mk (Value.type "tuple") none (Data.seq (List.toArray [(Value.int 1 274), (Value.int 1 275), (Value.int 1 276), (Value.int 1 277)]) 0) (List.toArray []))
noncomputable def o_119 (P : Params) : Obj := (Obj.mk (Value.type "tuple") none (Data.seq (List.toArray [(Value.ref 74)]) 0) (List.toArray []))
noncomputable def o_120 (P : Params) : Obj := (Obj.mk (Value.type "tuple") none (Data.seq (List.toArray []) 0) (List.toArray []))
noncomputable def o_121 (P : Params) : Obj := (Obj.mk Value.none none (Data.fields (List.toArray [])) (List.toArray []))
noncomputable def o_122 (P : Params) : Obj := (Obj.mk (Value.type "tuple") none (Data.seq (List.toArray [(Value.str "self" 281), (Value.str "row" 282)]) 0) (List.toArray []))
noncomputable def o_123 (P : Params) : Obj := (Obj.mk (Value.type "tuple") none (Data.seq (List.toArray []) 0) (List.toArray []))
noncomputable def o_124 (P : Params) : Obj := (Obj.mk Value.none none (Data.func (FuncData.mk "__init__" "Reps.__init__" (argsS (nthS (bodyS (nthS PB 8)) 0)) (FuncBody.stmts (bodyS (nthS (bodyS (nthS PB 8)) 0))) (scopeS (nthS (bodyS (nthS PB 8)) 0)) 0 [] Value.none Value.none Value.none Value.none none Value.none Value.none 0)) (List.toArray []))
noncomputable def o_125 (P : Params) : Obj := (Obj.mk (Value.type "code") none (Data.fields (List.toArray [(Value.str "__init__" 278), (Value.str "Reps.__init__" 279), (Value.str "/claim/cut.py" 280), (Value.int 19 0), (Value.int 2 0), (Value.int 0 0), (Value.int 0 0), (Value.int 3 0), (Value.ref 76), (Value.bool Bool.true), (Value.int 181 0), (Value.ref 77), Value.none, (Value.ref 78), (Value.ref 79), (Value.ref 80), (Value.int 283 0), (Value.int 19 0), (Value.str "/claim/cut.py" 284)])) (List.toArray []))
noncomputable def o_126 (P : Params) : Obj := (Obj.mk (Value.type "function") none (Data.func (FuncData.mk "__init__" "Reps.__init__" (argsS (nthS (bodyS (nthS PB 8)) 0)) (FuncBody.stmts (bodyS (nthS (bodyS (nthS PB 8)) 0))) (scopeS (nthS (bodyS (nthS PB 8)) 0)) 3 [] (Value.ref 75) Value.none Value.none (Value.str "threepress.lzmastate" 256) none (Value.ref 81) Value.none 0)) (List.toArray []))
noncomputable def o_127 (P : Params) : Obj := (Obj.mk (Value.type "tuple") none (Data.seq (List.toArray []) 0) (List.toArray []))
noncomputable def o_128 (P : Params) : Obj := (Obj.mk Value.none none (Data.fields (List.toArray [])) (List.toArray []))
noncomputable def o_129 (P : Params) : Obj := (Obj.mk (Value.type "tuple") none (Data.seq (List.toArray [(Value.str "self" 289)]) 0) (List.toArray []))
noncomputable def o_130 (P : Params) : Obj := (Obj.mk (Value.type "tuple") none (Data.seq (List.toArray []) 0) (List.toArray []))
noncomputable def o_131 (P : Params) : Obj := (Obj.mk Value.none none (Data.func (FuncData.mk "reset" "Reps.reset" (argsS (nthS (bodyS (nthS PB 8)) 1)) (FuncBody.stmts (bodyS (nthS (bodyS (nthS PB 8)) 1))) (scopeS (nthS (bodyS (nthS PB 8)) 1)) 0 [] Value.none Value.none Value.none Value.none none Value.none Value.none 0)) (List.toArray []))
noncomputable def o_132 (P : Params) : Obj := (Obj.mk (Value.type "code") none (Data.fields (List.toArray [(Value.str "reset" 286), (Value.str "Reps.reset" 287), (Value.str "/claim/cut.py" 288), (Value.int 22 0), (Value.int 1 0), (Value.int 0 0), (Value.int 0 0), (Value.int 3 0), (Value.ref 83), (Value.bool Bool.true), (Value.int 181 0), (Value.ref 84), Value.none, (Value.ref 85), (Value.ref 86), (Value.ref 87), (Value.int 290 0), (Value.int 22 0), (Value.str "/claim/cut.py" 291)])) (List.toArray []))
noncomputable def o_133 (P : Params) : Obj := (Obj.mk (Value.type "function") none (Data.func (FuncData.mk "reset" "Reps.reset" (argsS (nthS (bodyS (nthS PB 8)) 1)) (FuncBody.stmts (bodyS (nthS (bodyS (nthS PB 8)) 1))) (scopeS (nthS (bodyS (nthS PB 8)) 1)) 3 [] Value.none Value.none Value.none (Value.str "threepress.lzmastate" 256) none (Value.ref 88) Value.none 0)) (List.toArray []))
noncomputable def o_134 (P : Params) : Obj := (Obj.mk (Value.type "tuple") none (Data.seq (List.toArray []) 0) (List.toArray []))
noncomputable def o_135 (P : Params) : Obj := (Obj.mk Value.none none (Data.fields (List.toArray [])) (List.toArray []))
noncomputable def o_136 (P : Params) : Obj := (Obj.mk (Value.type "tuple") none (Data.seq (List.toArray [(Value.str "self" 296)]) 0) (List.toArray []))
noncomputable def o_137 (P : Params) : Obj := (Obj.mk (Value.type "tuple") none (Data.seq (List.toArray []) 0) (List.toArray []))
noncomputable def o_138 (P : Params) : Obj := (Obj.mk Value.none none (Data.func (FuncData.mk "first" "Reps.first" (argsS (nthS (bodyS (nthS PB 8)) 2)) (FuncBody.stmts (bodyS (nthS (bodyS (nthS PB 8)) 2))) (scopeS (nthS (bodyS (nthS PB 8)) 2)) 0 [] Value.none Value.none Value.none Value.none none Value.none Value.none 0)) (List.toArray []))
noncomputable def o_139 (P : Params) : Obj := (Obj.mk (Value.type "code") none (Data.fields (List.toArray [(Value.str "first" 293), (Value.str "Reps.first" 294), (Value.str "/claim/cut.py" 295), (Value.int 25 0), (Value.int 1 0), (Value.int 0 0), (Value.int 0 0), (Value.int 3 0), (Value.ref 90), (Value.bool Bool.true), (Value.int 181 0), (Value.ref 91), Value.none, (Value.ref 92), (Value.ref 93), (Value.ref 94), (Value.int 297 0), (Value.int 25 0), (Value.str "/claim/cut.py" 298)])) (List.toArray []))
noncomputable def o_140 (P : Params) : Obj := (Obj.mk (Value.type "function") none (Data.func (FuncData.mk "first" "Reps.first" (argsS (nthS (bodyS (nthS PB 8)) 2)) (FuncBody.stmts (bodyS (nthS (bodyS (nthS PB 8)) 2))) (scopeS (nthS (bodyS (nthS PB 8)) 2)) 3 [] Value.none Value.none Value.none (Value.str "threepress.lzmastate" 256) none (Value.ref 95) Value.none 0)) (List.toArray []))
noncomputable def o_141 (P : Params) : Obj := (Obj.mk (Value.type "tuple") none (Data.seq (List.toArray []) 0) (List.toArray []))
noncomputable def o_142 (P : Params) : Obj := (Obj.mk Value.none none (Data.fields (List.toArray [])) (List.toArray []))
noncomputable def o_143 (P : Params) : Obj := (Obj.mk (Value.type "tuple") none (Data.seq (List.toArray [(Value.str "self" 303), (Value.str "index" 304), (Value.str "distance" 305)]) 0) (List.toArray []))
noncomputable def o_144 (P : Params) : Obj := (Obj.mk (Value.type "tuple") none (Data.seq (List.toArray []) 0) (List.toArray []))
noncomputable def o_145 (P : Params) : Obj := (Obj.mk Value.none none (Data.func (FuncData.mk "use" "Reps.use" (argsS (nthS (bodyS (nthS PB 8)) 3)) (FuncBody.stmts (bodyS (nthS (bodyS (nthS PB 8)) 3))) (scopeS (nthS (bodyS (nthS PB 8)) 3)) 0 [] Value.none Value.none Value.none Value.none none Value.none Value.none 0)) (List.toArray []))
noncomputable def o_146 (P : Params) : Obj := (Obj.mk (Value.type "code") none (Data.fields (List.toArray [(Value.str "use" 300), (Value.str "Reps.use" 301), (Value.str "/claim/cut.py" 302), (Value.int 28 0), (Value.int 2 0), (Value.int 0 0), (Value.int 0 0), (Value.int 3 0), (Value.ref 97), (Value.bool Bool.true), (Value.int 181 0), (Value.ref 98), Value.none, (Value.ref 99), (Value.ref 100), (Value.ref 101), (Value.int 306 0), (Value.int 28 0), (Value.str "/claim/cut.py" 307)])) (List.toArray []))
noncomputable def o_147 (P : Params) : Obj := (Obj.mk (Value.type "function") none (Data.func (FuncData.mk "use" "Reps.use" (argsS (nthS (bodyS (nthS PB 8)) 3)) (FuncBody.stmts (bodyS (nthS (bodyS (nthS PB 8)) 3))) (scopeS (nthS (bodyS (nthS PB 8)) 3)) 3 [] Value.none Value.none Value.none (Value.str "threepress.lzmastate" 256) none (Value.ref 102) Value.none 0)) (List.toArray []))
noncomputable def o_148 (P : Params) : Obj := (Obj.mk (Value.type "tuple") none (Data.seq (List.toArray []) 0) (List.toArray []))
noncomputable def o_149 (P : Params) : Obj := (Obj.mk Value.none none (Data.fields (List.toArray [])) (List.toArray []))
noncomputable def o_150 (P : Params) : Obj := (Obj.mk (Value.type "tuple") none (Data.seq (List.toArray [(Value.str "self" 312), (Value.str "distance" 313)]) 0) (List.toArray []))
noncomputable def o_151 (P : Params) : Obj := (Obj.mk (Value.type "tuple") none (Data.seq (List.toArray []) 0) (List.toArray []))
noncomputable def o_152 (P : Params) : Obj := (Obj.mk Value.none none (Data.func (FuncData.mk "put" "Reps.put" (argsS (nthS (bodyS (nthS PB 8)) 4)) (FuncBody.stmts (bodyS (nthS (bodyS (nthS PB 8)) 4))) (scopeS (nthS (bodyS (nthS PB 8)) 4)) 0 [] Value.none Value.none Value.none Value.none none Value.none Value.none 0)) (List.toArray []))
noncomputable def o_153 (P : Params) : Obj := (Obj.mk (Value.type "code") none (Data.fields (List.toArray [(Value.str "put" 309), (Value.str "Reps.put" 310), (Value.str "/claim/cut.py" 311), (Value.int 33 0), (Value.int 2 0), (Value.int 0 0), (Value.int 0 0), (Value.int 3 0), (Value.ref 104), (Value.bool Bool.true), (Value.int 181 0), (Value.ref 105), Value.none, (Value.ref 106), (Value.ref 107), (Value.ref 108), (Value.int 314 0), (Value.int 33 0), (Value.str "/claim/cut.py" 315)])) (List.toArray []))
noncomputable def o_154 (P : Params) : Obj := (Obj.mk (Value.type "function") none (Data.func (FuncData.mk "put" "Reps.put" (argsS (nthS (bodyS (nthS PB 8)) 4)) (FuncBody.stmts (bodyS (nthS (bodyS (nthS PB 8)) 4))) (scopeS (nthS (bodyS (nthS PB 8)) 4)) 3 [] Value.none Value.none Value.none (Value.str "threepress.lzmastate" 256) none (Value.ref 109) Value.none 0)) (List.toArray []))
noncomputable def o_155 (P : Params) : Obj := (Obj.mk (Value.type "tuple") none (Data.seq (List.toArray []) 0) (List.toArray []))
noncomputable def o_156 (P : Params) : Obj := (Obj.mk Value.none none (Data.fields (List.toArray [])) (List.toArray []))
noncomputable def o_157 (P : Params) : Obj := (Obj.mk (Value.type "tuple") none (Data.seq (List.toArray [(Value.str "self" 320)]) 0) (List.toArray []))
noncomputable def o_158 (P : Params) : Obj := (Obj.mk (Value.type "tuple") none (Data.seq (List.toArray []) 0) (List.toArray []))
noncomputable def o_159 (P : Params) : Obj := (Obj.mk Value.none none (Data.func (FuncData.mk "copy" "Reps.copy" (argsS (nthS (bodyS (nthS PB 8)) 5)) (FuncBody.stmts (bodyS (nthS (bodyS (nthS PB 8)) 5))) (scopeS (nthS (bodyS (nthS PB 8)) 5)) 0 [] Value.none Value.none Value.none Value.none none Value.none Value.none 0)) (List.toArray []))
noncomputable def o_160 (P : Params) : Obj := (Obj.mk (Value.type "code") none (Data.fields (List.toArray [(Value.str "copy" 317), (Value.str "Reps.copy" 318), (Value.str "/claim/cut.py" 319), (Value.int 36 0), (Value.int 1 0), (Value.int 0 0), (Value.int 0 0), (Value.int 3 0), (Value.ref 111), (Value.bool Bool.true), (Value.int 181 0), (Value.ref 112), Value.none, (Value.ref 113), (Value.ref 114), (Value.ref 115), (Value.int 321 0), (Value.int 36 0), (Value.str "/claim/cut.py" 322)])) (List.toArray []))
noncomputable def o_161 (P : Params) : Obj := (Obj.mk (Value.type "function") none (Data.func (FuncData.mk "copy" "Reps.copy" (argsS (nthS (bodyS (nthS PB 8)) 5)) (FuncBody.stmts (bodyS (nthS (bodyS (nthS PB 8)) 5))) (scopeS (nthS (bodyS (nthS PB 8)) 5)) 3 [] Value.none Value.none Value.none (Value.str "threepress.lzmastate" 256) none (Value.ref 116) Value.none 0)) (List.toArray []))
noncomputable def o_162 (P : Params) : Obj := (Obj.mk (Value.type "tuple") none (Data.seq (List.toArray [(Value.str "row" 324)]) 0) (List.toArray []))
noncomputable def o_163 (P : Params) : Obj := (Obj.mk (Value.type "dict") none (Data.dict (List.toArray [(DictEntry.mk (PyData.keyHash P "__module__") (Value.str "__module__" 269) (Value.str "threepress.lzmastate" 256)), (DictEntry.mk (PyData.keyHash P "__firstlineno__") (Value.str "__firstlineno__" 273) (Value.int 17 272)), (DictEntry.mk (PyData.keyHash P "__init__") (Value.str "__init__" 285) (Value.ref 82)), (DictEntry.mk (PyData.keyHash P "reset") (Value.str "reset" 292) (Value.ref 89)), (DictEntry.mk (PyData.keyHash P "first") (Value.str "first" 299) (Value.ref 96)), (DictEntry.mk (PyData.keyHash P "use") (Value.str "use" 308) (Value.ref 103)), (DictEntry.mk (PyData.keyHash P "put") (Value.str "put" 316) (Value.ref 110)), (DictEntry.mk (PyData.keyHash P "copy") (Value.str "copy" 323) (Value.ref 117)), (DictEntry.mk (PyData.keyHash P "__static_attributes__") (Value.str "__static_attributes__" 325) (Value.ref 118)), (DictEntry.mk (PyData.keyHash P "__dict__") (Value.str "__dict__" 327) (Value.ref 121)), (DictEntry.mk (PyData.keyHash P "__weakref__") (Value.str "__weakref__" 329) (Value.ref 122)), (DictEntry.mk (PyData.keyHash P "__doc__") (Value.str "__doc__" 330) Value.none)]) 4) (List.toArray []))
noncomputable def o_164 (P : Params) : Obj := (Obj.mk (Value.type "type") none (Data.cls (ClassData.mk "Reps" [(Value.type "object")] [(Value.ref 120), (Value.type "object")] 119 "Reps" Bool.true [] [] Bool.false none Bool.false)) (List.toArray [none, none, (some (Value.str "Reps" 262)), (some (Value.str "Reps" 270)), (some (Value.builtin "object.__new__")), (some (Value.bool Bool.true))]))
noncomputable def o_165 (P : Params) : Obj := (Obj.mk (Value.type "getset_descriptor") none (Data.fields (List.toArray [(Value.str "__dict__" 326), (Value.ref 120), (Value.builtin "function.__dict__"), (Value.builtin "function.__dict__#set")])) (List.toArray []))
noncomputable def o_166 (P : Params) : Obj := (Obj.mk (Value.type "getset_descriptor") none (Data.fields (List.toArray [(Value.str "__weakref__" 328), (Value.ref 120), (Value.builtin "ExceptionGroup.__weakref__"), Value.none])) (List.toArray []))
noncomputable def o_167 (P : Params) : Obj := (Obj.mk (Value.type "super") none (Data.fields (List.toArray [(Value.ref 120), (Value.ref 120), (Value.ref 120)])) (List.toArray []))
noncomputable def o_168 (P : Params) : Obj := (Obj.mk (Value.type "builtin_function_or_method") none (Data.fields (List.toArray [(Value.builtin "object.__init_subclass__"), (Value.ref 120)])) (List.toArray []))
noncomputable def o_169 (P : Params) : Obj := (Obj.mk (Value.type "dict") none (Data.dict (List.toArray [(DictEntry.mk (PyData.keyHash P "__name__") (Value.str "__name__" 165) (Value.str "law_tg0033_01" 406)), (DictEntry.mk (PyData.keyHash P "__doc__") (Value.str "__doc__" 166) Value.none), (DictEntry.mk (PyData.keyHash P "__package__") (Value.str "__package__" 167) Value.none), (DictEntry.mk (PyData.keyHash P "__loader__") (Value.str "__loader__" 168) (Value.builtin "__main__.__loader__#opaque")), (DictEntry.mk (PyData.keyHash P "__spec__") (Value.str "__spec__" 169) Value.none), (DictEntry.mk (PyData.keyHash P "__annotations__") (Value.str "__annotations__" 170) (Value.ref 6)), (DictEntry.mk (PyData.keyHash P "__builtins__") (Value.str "__builtins__" 171) (Value.ref 4)), (DictEntry.mk (PyData.keyHash P "__file__") (Value.str "__file__" 173) (Value.str "/claim/cut.py" 172)), (DictEntry.mk (PyData.keyHash P "__cached__") (Value.str "__cached__" 174) Value.none), (DictEntry.mk (PyData.keyHash P "_wall") (Value.str "_wall" 193) (Value.ref 21)), (DictEntry.mk (PyData.keyHash P "PressError") (Value.str "PressError" 223) (Value.ref 39)), (DictEntry.mk (PyData.keyHash P "BadDistance") (Value.str "BadDistance" 239) (Value.ref 52)), (DictEntry.mk (PyData.keyHash P "BadArgument") (Value.str "BadArgument" 255) (Value.ref 64)), (DictEntry.mk (PyData.keyHash P "LEAST_MATCH") (Value.str "LEAST_MATCH" 259) (Value.int 2 258)), (DictEntry.mk (PyData.keyHash P "MOST_MATCH") (Value.str "MOST_MATCH" 261) (Value.int 273 260)), (DictEntry.mk (PyData.keyHash P "Reps") (Value.str "Reps" 332) (Value.ref 120)), (DictEntry.mk (PyData.keyHash P "KINDS") (Value.str "KINDS" 339) (Value.ref 125)), (DictEntry.mk (PyData.keyHash P "need_whole") (Value.str "need_whole" 347) (Value.ref 132)), (DictEntry.mk (PyData.keyHash P "need_number") (Value.str "need_number" 357) (Value.ref 139)), (DictEntry.mk (PyData.keyHash P "step_length") (Value.str "step_length" 364) (Value.ref 146)), (DictEntry.mk (PyData.keyHash P "distance_of") (Value.str "distance_of" 374) (Value.ref 153)), (DictEntry.mk (PyData.keyHash P "play_steps") (Value.str "play_steps" 391) (Value.ref 161)), (DictEntry.mk (PyData.keyHash P "literals_of") (Value.str "literals_of" 405) (Value.ref 169)), (DictEntry.mk (PyData.keyHash P "_law_box") (Value.str "_law_box" 417) (Value.ref 176)), (DictEntry.mk (PyData.keyHash P "_law_take") (Value.str "_law_take" 427) (Value.ref 183)), (DictEntry.mk (PyData.keyHash P "_law_row") (Value.str "_law_row" 433) (Value.ref 188)), (DictEntry.mk (PyData.keyHash P "_law_named") (Value.str "_law_named" 439) (Value.ref 193)), (DictEntry.mk (PyData.keyHash P "_law_size") (Value.str "_law_size" 446) (Value.ref 200))]) 28) (List.toArray []))
noncomputable def o_170 (P : Params) : Obj := (Obj.mk Value.none none (Data.fields (List.toArray [(Value.int 1 0), (Value.int 0 0), (Value.ref 20), (Value.int 5 0), (Value.int 0 0), (Value.ref 27), (Value.int 10 0), (Value.int 0 0), (Value.ref 48), (Value.int 12 0), (Value.int 0 0), (Value.ref 60), (Value.int 17 0), (Value.int 0 0), (Value.ref 72), (Value.int 40 0), (Value.int 0 0), (Value.ref 131), (Value.int 43 0), (Value.int 0 0), (Value.ref 138), (Value.int 47 0), (Value.int 0 0), (Value.ref 145), (Value.int 60 0), (Value.int 0 0), (Value.ref 152), (Value.int 72 0), (Value.int 0 0), (Value.ref 160), (Value.int 89 0), (Value.int 0 0), (Value.ref 168), (Value.int 101 0), (Value.int 0 0), (Value.ref 175), (Value.int 109 0), (Value.int 0 0), (Value.ref 182), (Value.int 117 0), (Value.int 0 0), (Value.ref 187), (Value.int 141 0), (Value.int 0 0), (Value.ref 192), (Value.int 166 0), (Value.int 0 0), (Value.ref 199)])) (List.toArray []))
noncomputable def o_171 (P : Params) : Obj := (Obj.mk (Value.type "tuple") none (Data.seq (List.toArray [(Value.str "lit" 335), (Value.str "match" 336), (Value.str "rep" 337), (Value.str "short" 338)]) 0) (List.toArray []))
noncomputable def o_172 (P : Params) : Obj := (Obj.mk (Value.type "tuple") none (Data.seq (List.toArray []) 0) (List.toArray []))
noncomputable def o_173 (P : Params) : Obj := (Obj.mk Value.none none (Data.fields (List.toArray [])) (List.toArray []))
noncomputable def o_174 (P : Params) : Obj := (Obj.mk (Value.type "tuple") none (Data.seq (List.toArray [(Value.str "number" 343), (Value.str "word" 344)]) 0) (List.toArray []))
noncomputable def o_175 (P : Params) : Obj := (Obj.mk (Value.type "tuple") none (Data.seq (List.toArray []) 0) (List.toArray []))
noncomputable def o_176 (P : Params) : Obj := (Obj.mk Value.none none (Data.func (FuncData.mk "need_whole" "need_whole" (argsS (nthS PB 11)) (FuncBody.stmts (bodyS (nthS PB 11))) (scopeS (nthS PB 11)) 0 [] Value.none Value.none Value.none Value.none none Value.none Value.none 0)) (List.toArray []))
noncomputable def o_177 (P : Params) : Obj := (Obj.mk (Value.type "code") none (Data.fields (List.toArray [(Value.str "need_whole" 340), (Value.str "need_whole" 341), (Value.str "/claim/cut.py" 342), (Value.int 40 0), (Value.int 2 0), (Value.int 0 0), (Value.int 0 0), (Value.int 3 0), (Value.ref 126), (Value.bool Bool.true), (Value.int 181 0), (Value.ref 127), Value.none, (Value.ref 128), (Value.ref 129), (Value.ref 130), (Value.int 345 0), (Value.int 40 0), (Value.str "/claim/cut.py" 346)])) (List.toArray []))
noncomputable def o_178 (P : Params) : Obj := (Obj.mk (Value.type "function") none (Data.func (FuncData.mk "need_whole" "need_whole" (argsS (nthS PB 11)) (FuncBody.stmts (bodyS (nthS PB 11))) (scopeS (nthS PB 11)) 3 [] Value.none Value.none Value.none (Value.str "threepress.lzmaencode" 333) none (Value.ref 131) Value.none 0)) (List.toArray []))
noncomputable def o_179 (P : Params) : Obj := (Obj.mk (Value.type "tuple") none (Data.seq (List.toArray []) 0) (List.toArray []))
noncomputable def o_180 (P : Params) : Obj := (Obj.mk Value.none none (Data.fields (List.toArray [])) (List.toArray []))
noncomputable def o_181 (P : Params) : Obj := (Obj.mk (Value.type "tuple") none (Data.seq (List.toArray [(Value.str "number" 351), (Value.str "least" 352), (Value.str "most" 353), (Value.str "word" 354)]) 0) (List.toArray []))
noncomputable def o_182 (P : Params) : Obj := (Obj.mk (Value.type "tuple") none (Data.seq (List.toArray []) 0) (List.toArray []))
noncomputable def o_183 (P : Params) : Obj := (Obj.mk Value.none none (Data.func (FuncData.mk "need_number" "need_number" (argsS (nthS PB 12)) (FuncBody.stmts (bodyS (nthS PB 12))) (scopeS (nthS PB 12)) 0 [] Value.none Value.none Value.none Value.none none Value.none Value.none 0)) (List.toArray []))
noncomputable def o_184 (P : Params) : Obj := (Obj.mk (Value.type "code") none (Data.fields (List.toArray [(Value.str "need_number" 348), (Value.str "need_number" 349), (Value.str "/claim/cut.py" 350), (Value.int 43 0), (Value.int 4 0), (Value.int 0 0), (Value.int 0 0), (Value.int 3 0), (Value.ref 133), (Value.bool Bool.true), (Value.int 181 0), (Value.ref 134), Value.none, (Value.ref 135), (Value.ref 136), (Value.ref 137), (Value.int 355 0), (Value.int 43 0), (Value.str "/claim/cut.py" 356)])) (List.toArray []))
noncomputable def o_185 (P : Params) : Obj := (Obj.mk (Value.type "function") none (Data.func (FuncData.mk "need_number" "need_number" (argsS (nthS PB 12)) (FuncBody.stmts (bodyS (nthS PB 12))) (scopeS (nthS PB 12)) 3 [] Value.none Value.none Value.none (Value.str "threepress.lzmaencode" 333) none (Value.ref 138) Value.none 0)) (List.toArray []))
noncomputable def o_186 (P : Params) : Obj := (Obj.mk (Value.type "tuple") none (Data.seq (List.toArray []) 0) (List.toArray []))
noncomputable def o_187 (P : Params) : Obj := (Obj.mk Value.none none (Data.fields (List.toArray [])) (List.toArray []))
noncomputable def o_188 (P : Params) : Obj := (Obj.mk (Value.type "tuple") none (Data.seq (List.toArray [(Value.str "step" 361)]) 0) (List.toArray []))
noncomputable def o_189 (P : Params) : Obj := (Obj.mk (Value.type "tuple") none (Data.seq (List.toArray []) 0) (List.toArray []))
noncomputable def o_190 (P : Params) : Obj := (Obj.mk Value.none none (Data.func (FuncData.mk "step_length" "step_length" (argsS (nthS PB 13)) (FuncBody.stmts (bodyS (nthS PB 13))) (scopeS (nthS PB 13)) 0 [] Value.none Value.none Value.none Value.none none Value.none Value.none 0)) (List.toArray []))
noncomputable def o_191 (P : Params) : Obj := (Obj.mk (Value.type "code") none (Data.fields (List.toArray [(Value.str "step_length" 358), (Value.str "step_length" 359), (Value.str "/claim/cut.py" 360), (Value.int 47 0), (Value.int 1 0), (Value.int 0 0), (Value.int 0 0), (Value.int 3 0), (Value.ref 140), (Value.bool Bool.true), (Value.int 181 0), (Value.ref 141), Value.none, (Value.ref 142), (Value.ref 143), (Value.ref 144), (Value.int 362 0), (Value.int 47 0), (Value.str "/claim/cut.py" 363)])) (List.toArray []))
noncomputable def o_192 (P : Params) : Obj := (Obj.mk (Value.type "function") none (Data.func (FuncData.mk "step_length" "step_length" (argsS (nthS PB 13)) (FuncBody.stmts (bodyS (nthS PB 13))) (scopeS (nthS PB 13)) 3 [] Value.none Value.none Value.none (Value.str "threepress.lzmaencode" 333) none (Value.ref 145) Value.none 0)) (List.toArray []))
noncomputable def o_193 (P : Params) : Obj := (Obj.mk (Value.type "tuple") none (Data.seq (List.toArray []) 0) (List.toArray []))
noncomputable def o_194 (P : Params) : Obj := (Obj.mk Value.none none (Data.fields (List.toArray [])) (List.toArray []))
noncomputable def o_195 (P : Params) : Obj := (Obj.mk (Value.type "tuple") none (Data.seq (List.toArray [(Value.str "step" 370), (Value.str "reps" 371)]) 0) (List.toArray []))
noncomputable def o_196 (P : Params) : Obj := (Obj.mk (Value.type "tuple") none (Data.seq (List.toArray []) 0) (List.toArray []))
noncomputable def o_197 (P : Params) : Obj := (Obj.mk Value.none none (Data.func (FuncData.mk "distance_of" "distance_of" (argsS (nthS PB 15)) (FuncBody.stmts (bodyS (nthS PB 15))) (scopeS (nthS PB 15)) 0 [] Value.none Value.none Value.none Value.none none Value.none Value.none 0)) (List.toArray []))
noncomputable def o_198 (P : Params) : Obj := (Obj.mk (Value.type "code") none (Data.fields (List.toArray [(Value.str "distance_of" 367), (Value.str "distance_of" 368), (Value.str "/claim/cut.py" 369), (Value.int 60 0), (Value.int 2 0), (Value.int 0 0), (Value.int 0 0), (Value.int 3 0), (Value.ref 147), (Value.bool Bool.true), (Value.int 181 0), (Value.ref 148), Value.none, (Value.ref 149), (Value.ref 150), (Value.ref 151), (Value.int 372 0), (Value.int 60 0), (Value.str "/claim/cut.py" 373)])) (List.toArray []))
noncomputable def o_199 (P : Params) : Obj := (Obj.mk (Value.type "function") none (Data.func (FuncData.mk "distance_of" "distance_of" (argsS (nthS PB 15)) (FuncBody.stmts (bodyS (nthS PB 15))) (scopeS (nthS PB 15)) 3 [] Value.none Value.none Value.none (Value.str "threepress.lzmaparse" 365) none (Value.ref 152) Value.none 0)) (List.toArray []))
noncomputable def o_200 (P : Params) : Obj := (Obj.mk (Value.type "tuple") none (Data.seq (List.toArray [(Value.bytes (List.toArray []) 375), Value.none]) 0) (List.toArray []))
noncomputable def o_201 (P : Params) : Obj := (Obj.mk (Value.type "tuple") none (Data.seq (List.toArray []) 0) (List.toArray []))
noncomputable def o_202 (P : Params) : Obj := (Obj.mk Value.none none (Data.fields (List.toArray [])) (List.toArray []))
noncomputable def o_203 (P : Params) : Obj := (Obj.mk (Value.type "tuple") none (Data.seq (List.toArray [(Value.str "steps" 379), (Value.str "literals" 380), (Value.str "history" 381), (Value.str "reps" 382), (Value.str "out" 383), (Value.str "spare" 384), (Value.str "own" 385), (Value.str "step" 386), (Value.str "distance" 387), (Value.str "turn" 388)]) 0) (List.toArray []))
noncomputable def o_204 (P : Params) : Obj := (Obj.mk (Value.type "tuple") none (Data.seq (List.toArray []) 0) (List.toArray []))
noncomputable def o_205 (P : Params) : Obj := (Obj.mk Value.none none (Data.func (FuncData.mk "play_steps" "play_steps" (argsS (nthS PB 16)) (FuncBody.stmts (bodyS (nthS PB 16))) (scopeS (nthS PB 16)) 0 [] Value.none Value.none Value.none Value.none none Value.none Value.none 0)) (List.toArray []))
noncomputable def o_206 (P : Params) : Obj := (Obj.mk (Value.type "code") none (Data.fields (List.toArray [(Value.str "play_steps" 376), (Value.str "play_steps" 377), (Value.str "/claim/cut.py" 378), (Value.int 72 0), (Value.int 4 0), (Value.int 0 0), (Value.int 0 0), (Value.int 3 0), (Value.ref 155), (Value.bool Bool.true), (Value.int 181 0), (Value.ref 156), Value.none, (Value.ref 157), (Value.ref 158), (Value.ref 159), (Value.int 389 0), (Value.int 72 0), (Value.str "/claim/cut.py" 390)])) (List.toArray []))
noncomputable def o_207 (P : Params) : Obj := (Obj.mk (Value.type "function") none (Data.func (FuncData.mk "play_steps" "play_steps" (argsS (nthS PB 16)) (FuncBody.stmts (bodyS (nthS PB 16))) (scopeS (nthS PB 16)) 3 [] (Value.ref 154) Value.none Value.none (Value.str "threepress.lzmaparse" 365) none (Value.ref 160) Value.none 0)) (List.toArray []))
noncomputable def o_208 (P : Params) : Obj := (Obj.mk (Value.type "tuple") none (Data.seq (List.toArray [(Value.int 0 392)]) 0) (List.toArray []))
noncomputable def o_209 (P : Params) : Obj := (Obj.mk (Value.type "tuple") none (Data.seq (List.toArray []) 0) (List.toArray []))
noncomputable def o_210 (P : Params) : Obj := (Obj.mk Value.none none (Data.fields (List.toArray [])) (List.toArray []))
noncomputable def o_211 (P : Params) : Obj := (Obj.mk (Value.type "tuple") none (Data.seq (List.toArray [(Value.str "steps" 396), (Value.str "octets" 397), (Value.str "start" 398), (Value.str "found" 399), (Value.str "place" 400), (Value.str "step" 401), (Value.str "here" 402)]) 0) (List.toArray []))
noncomputable def o_212 (P : Params) : Obj := (Obj.mk (Value.type "tuple") none (Data.seq (List.toArray []) 0) (List.toArray []))
noncomputable def o_213 (P : Params) : Obj := (Obj.mk Value.none none (Data.func (FuncData.mk "literals_of" "literals_of" (argsS (nthS PB 17)) (FuncBody.stmts (bodyS (nthS PB 17))) (scopeS (nthS PB 17)) 0 [] Value.none Value.none Value.none Value.none none Value.none Value.none 0)) (List.toArray []))
noncomputable def o_214 (P : Params) : Obj := (Obj.mk (Value.type "code") none (Data.fields (List.toArray [(Value.str "literals_of" 393), (Value.str "literals_of" 394), (Value.str "/claim/cut.py" 395), (Value.int 89 0), (Value.int 3 0), (Value.int 0 0), (Value.int 0 0), (Value.int 3 0), (Value.ref 163), (Value.bool Bool.true), (Value.int 181 0), (Value.ref 164), Value.none, (Value.ref 165), (Value.ref 166), (Value.ref 167), (Value.int 403 0), (Value.int 89 0), (Value.str "/claim/cut.py" 404)])) (List.toArray []))
noncomputable def o_215 (P : Params) : Obj := (Obj.mk (Value.type "function") none (Data.func (FuncData.mk "literals_of" "literals_of" (argsS (nthS PB 17)) (FuncBody.stmts (bodyS (nthS PB 17))) (scopeS (nthS PB 17)) 3 [] (Value.ref 162) Value.none Value.none (Value.str "threepress.lzmaparse" 365) none (Value.ref 168) Value.none 0)) (List.toArray []))
noncomputable def o_216 (P : Params) : Obj := (Obj.mk (Value.type "tuple") none (Data.seq (List.toArray []) 0) (List.toArray []))
noncomputable def o_217 (P : Params) : Obj := (Obj.mk Value.none none (Data.fields (List.toArray [])) (List.toArray []))
noncomputable def o_218 (P : Params) : Obj := (Obj.mk (Value.type "tuple") none (Data.seq (List.toArray [(Value.str "script" 411), (Value.str "digits" 412), (Value.str "mixed" 413), (Value.str "cell" 414)]) 0) (List.toArray []))
noncomputable def o_219 (P : Params) : Obj := (Obj.mk (Value.type "tuple") none (Data.seq (List.toArray []) 0) (List.toArray []))
noncomputable def o_220 (P : Params) : Obj := (Obj.mk Value.none none (Data.func (FuncData.mk "_law_box" "_law_box" (argsS (nthS PB 19)) (FuncBody.stmts (bodyS (nthS PB 19))) (scopeS (nthS PB 19)) 0 [] Value.none Value.none Value.none Value.none none Value.none Value.none 0)) (List.toArray []))
noncomputable def o_221 (P : Params) : Obj := (Obj.mk (Value.type "code") none (Data.fields (List.toArray [(Value.str "_law_box" 408), (Value.str "_law_box" 409), (Value.str "/claim/cut.py" 410), (Value.int 101 0), (Value.int 1 0), (Value.int 0 0), (Value.int 0 0), (Value.int 3 0), (Value.ref 170), (Value.bool Bool.true), (Value.int 181 0), (Value.ref 171), Value.none, (Value.ref 172), (Value.ref 173), (Value.ref 174), (Value.int 415 0), (Value.int 101 0), (Value.str "/claim/cut.py" 416)])) (List.toArray []))
noncomputable def o_222 (P : Params) : Obj := (Obj.mk (Value.type "function") none (Data.func (FuncData.mk "_law_box" "_law_box" (argsS (nthS PB 19)) (FuncBody.stmts (bodyS (nthS PB 19))) (scopeS (nthS PB 19)) 3 [] Value.none Value.none Value.none (Value.str "law_tg0033_01" 406) none (Value.ref 175) Value.none 0)) (List.toArray []))
noncomputable def o_223 (P : Params) : Obj := (Obj.mk (Value.type "tuple") none (Data.seq (List.toArray []) 0) (List.toArray []))
noncomputable def o_224 (P : Params) : Obj := (Obj.mk Value.none none (Data.fields (List.toArray [])) (List.toArray []))
noncomputable def o_225 (P : Params) : Obj := (Obj.mk (Value.type "tuple") none (Data.seq (List.toArray [(Value.str "box" 421), (Value.str "many" 422), (Value.str "digit" 423), (Value.str "at" 424)]) 0) (List.toArray []))
noncomputable def o_226 (P : Params) : Obj := (Obj.mk (Value.type "tuple") none (Data.seq (List.toArray []) 0) (List.toArray []))
noncomputable def o_227 (P : Params) : Obj := (Obj.mk Value.none none (Data.func (FuncData.mk "_law_take" "_law_take" (argsS (nthS PB 20)) (FuncBody.stmts (bodyS (nthS PB 20))) (scopeS (nthS PB 20)) 0 [] Value.none Value.none Value.none Value.none none Value.none Value.none 0)) (List.toArray []))
noncomputable def o_228 (P : Params) : Obj := (Obj.mk (Value.type "code") none (Data.fields (List.toArray [(Value.str "_law_take" 418), (Value.str "_law_take" 419), (Value.str "/claim/cut.py" 420), (Value.int 109 0), (Value.int 2 0), (Value.int 0 0), (Value.int 0 0), (Value.int 3 0), (Value.ref 177), (Value.bool Bool.true), (Value.int 181 0), (Value.ref 178), Value.none, (Value.ref 179), (Value.ref 180), (Value.ref 181), (Value.int 425 0), (Value.int 109 0), (Value.str "/claim/cut.py" 426)])) (List.toArray []))
noncomputable def o_229 (P : Params) : Obj := (Obj.mk (Value.type "function") none (Data.func (FuncData.mk "_law_take" "_law_take" (argsS (nthS PB 20)) (FuncBody.stmts (bodyS (nthS PB 20))) (scopeS (nthS PB 20)) 3 [] Value.none Value.none Value.none (Value.str "law_tg0033_01" 406) none (Value.ref 182) Value.none 0)) (List.toArray []))
noncomputable def o_230 (P : Params) : Obj := (Obj.mk (Value.type "tuple") none (Data.seq (List.toArray []) 0) (List.toArray []))
noncomputable def o_231 (P : Params) : Obj := (Obj.mk Value.none none (Data.fields (List.toArray [])) (List.toArray []))
noncomputable def o_232 (P : Params) : Obj := (Obj.mk Value.none none (Data.func (FuncData.mk "_law_row" "_law_row" (argsS (nthS PB 21)) (FuncBody.stmts (bodyS (nthS PB 21))) (scopeS (nthS PB 21)) 0 [] Value.none Value.none Value.none Value.none none Value.none Value.none 0)) (List.toArray []))
noncomputable def o_233 (P : Params) : Obj := (Obj.mk (Value.type "code") none (Data.fields (List.toArray [(Value.str "_law_row" 428), (Value.str "_law_row" 429), (Value.str "/claim/cut.py" 430), (Value.int 117 0), (Value.int 2 0), (Value.int 0 0), (Value.int 0 0), (Value.int 3 0), (Value.ref 184), (Value.bool Bool.true), (Value.int 181 0), (Value.ref 185), Value.none, Value.none, Value.none, (Value.ref 186), (Value.int 431 0), (Value.int 117 0), (Value.str "/claim/cut.py" 432)])) (List.toArray []))
noncomputable def o_234 (P : Params) : Obj := (Obj.mk (Value.type "function") none (Data.func (FuncData.mk "_law_row" "_law_row" (argsS (nthS PB 21)) (FuncBody.stmts (bodyS (nthS PB 21))) (scopeS (nthS PB 21)) 3 [] Value.none Value.none Value.none (Value.str "law_tg0033_01" 406) none (Value.ref 187) Value.none 0)) (List.toArray []))
noncomputable def o_235 (P : Params) : Obj := (Obj.mk (Value.type "tuple") none (Data.seq (List.toArray []) 0) (List.toArray []))
noncomputable def o_236 (P : Params) : Obj := (Obj.mk Value.none none (Data.fields (List.toArray [])) (List.toArray []))
noncomputable def o_237 (P : Params) : Obj := (Obj.mk Value.none none (Data.func (FuncData.mk "_law_named" "_law_named" (argsS (nthS PB 22)) (FuncBody.stmts (bodyS (nthS PB 22))) (scopeS (nthS PB 22)) 0 [] Value.none Value.none Value.none Value.none none Value.none Value.none 0)) (List.toArray []))
noncomputable def o_238 (P : Params) : Obj := (Obj.mk (Value.type "code") none (Data.fields (List.toArray [(Value.str "_law_named" 434), (Value.str "_law_named" 435), (Value.str "/claim/cut.py" 436), (Value.int 141 0), (Value.int 3 0), (Value.int 0 0), (Value.int 0 0), (Value.int 3 0), (Value.ref 189), (Value.bool Bool.true), (Value.int 181 0), (Value.ref 190), Value.none, Value.none, Value.none, (Value.ref 191), (Value.int 437 0), (Value.int 141 0), (Value.str "/claim/cut.py" 438)])) (List.toArray []))
noncomputable def o_239 (P : Params) : Obj := (Obj.mk (Value.type "function") none (Data.func (FuncData.mk "_law_named" "_law_named" (argsS (nthS PB 22)) (FuncBody.stmts (bodyS (nthS PB 22))) (scopeS (nthS PB 22)) 3 [] Value.none Value.none Value.none (Value.str "law_tg0033_01" 406) none (Value.ref 192) Value.none 0)) (List.toArray []))
noncomputable def o_240 (P : Params) : Obj := (Obj.mk (Value.type "tuple") none (Data.seq (List.toArray []) 0) (List.toArray []))
noncomputable def o_241 (P : Params) : Obj := (Obj.mk Value.none none (Data.fields (List.toArray [])) (List.toArray []))
noncomputable def o_242 (P : Params) : Obj := (Obj.mk (Value.type "tuple") none (Data.seq (List.toArray [(Value.str "step" 443)]) 0) (List.toArray []))
noncomputable def o_243 (P : Params) : Obj := (Obj.mk (Value.type "tuple") none (Data.seq (List.toArray []) 0) (List.toArray []))
noncomputable def o_244 (P : Params) : Obj := (Obj.mk Value.none none (Data.func (FuncData.mk "_law_size" "_law_size" (argsS (nthS PB 23)) (FuncBody.stmts (bodyS (nthS PB 23))) (scopeS (nthS PB 23)) 0 [] Value.none Value.none Value.none Value.none none Value.none Value.none 0)) (List.toArray []))
noncomputable def o_245 (P : Params) : Obj := (Obj.mk (Value.type "code") none (Data.fields (List.toArray [(Value.str "_law_size" 440), (Value.str "_law_size" 441), (Value.str "/claim/cut.py" 442), (Value.int 166 0), (Value.int 1 0), (Value.int 0 0), (Value.int 0 0), (Value.int 3 0), (Value.ref 194), (Value.bool Bool.true), (Value.int 181 0), (Value.ref 195), Value.none, (Value.ref 196), (Value.ref 197), (Value.ref 198), (Value.int 444 0), (Value.int 166 0), (Value.str "/claim/cut.py" 445)])) (List.toArray []))
noncomputable def o_246 (P : Params) : Obj := (Obj.mk (Value.type "function") none (Data.func (FuncData.mk "_law_size" "_law_size" (argsS (nthS PB 23)) (FuncBody.stmts (bodyS (nthS PB 23))) (scopeS (nthS PB 23)) 3 [] Value.none Value.none Value.none (Value.str "law_tg0033_01" 406) none (Value.ref 199) Value.none 0)) (List.toArray []))
noncomputable def o_247 (P : Params) : Obj := (Obj.mk (Value.type "dict") none (Data.dict (List.toArray [(DictEntry.mk (PyData.keyHash P "__name__") (Value.str "__name__" 165) (Value.str "law_tg0033_01" 406)), (DictEntry.mk (PyData.keyHash P "__doc__") (Value.str "__doc__" 166) Value.none), (DictEntry.mk (PyData.keyHash P "__package__") (Value.str "__package__" 167) Value.none), (DictEntry.mk (PyData.keyHash P "__loader__") (Value.str "__loader__" 168) (Value.builtin "__main__.__loader__#opaque")), (DictEntry.mk (PyData.keyHash P "__spec__") (Value.str "__spec__" 169) Value.none), (DictEntry.mk (PyData.keyHash P "__annotations__") (Value.str "__annotations__" 170) (Value.ref 6)), (DictEntry.mk (PyData.keyHash P "__builtins__") (Value.str "__builtins__" 171) (Value.ref 4)), (DictEntry.mk (PyData.keyHash P "__file__") (Value.str "__file__" 173) (Value.str "/claim/cut.py" 172)), (DictEntry.mk (PyData.keyHash P "__cached__") (Value.str "__cached__" 174) Value.none), (DictEntry.mk (PyData.keyHash P "_wall") (Value.str "_wall" 193) (Value.ref 21)), (DictEntry.mk (PyData.keyHash P "PressError") (Value.str "PressError" 223) (Value.ref 39)), (DictEntry.mk (PyData.keyHash P "BadDistance") (Value.str "BadDistance" 239) (Value.ref 52)), (DictEntry.mk (PyData.keyHash P "BadArgument") (Value.str "BadArgument" 255) (Value.ref 64)), (DictEntry.mk (PyData.keyHash P "LEAST_MATCH") (Value.str "LEAST_MATCH" 259) (Value.int 2 258)), (DictEntry.mk (PyData.keyHash P "MOST_MATCH") (Value.str "MOST_MATCH" 261) (Value.int 273 260)), (DictEntry.mk (PyData.keyHash P "Reps") (Value.str "Reps" 332) (Value.ref 120)), (DictEntry.mk (PyData.keyHash P "KINDS") (Value.str "KINDS" 339) (Value.ref 125)), (DictEntry.mk (PyData.keyHash P "need_whole") (Value.str "need_whole" 347) (Value.ref 132)), (DictEntry.mk (PyData.keyHash P "need_number") (Value.str "need_number" 357) (Value.ref 139)), (DictEntry.mk (PyData.keyHash P "step_length") (Value.str "step_length" 364) (Value.ref 146)), (DictEntry.mk (PyData.keyHash P "distance_of") (Value.str "distance_of" 374) (Value.ref 153)), (DictEntry.mk (PyData.keyHash P "play_steps") (Value.str "play_steps" 391) (Value.ref 161)), (DictEntry.mk (PyData.keyHash P "literals_of") (Value.str "literals_of" 405) (Value.ref 169)), (DictEntry.mk (PyData.keyHash P "_law_box") (Value.str "_law_box" 417) (Value.ref 176)), (DictEntry.mk (PyData.keyHash P "_law_take") (Value.str "_law_take" 427) (Value.ref 183)), (DictEntry.mk (PyData.keyHash P "_law_row") (Value.str "_law_row" 433) (Value.ref 188)), (DictEntry.mk (PyData.keyHash P "_law_named") (Value.str "_law_named" 439) (Value.ref 193)), (DictEntry.mk (PyData.keyHash P "_law_size") (Value.str "_law_size" 446) (Value.ref 200)), (DictEntry.mk (PyData.keyHash P "_law_led_right") (Value.str "_law_led_right" 459) (Value.ref 207)), (DictEntry.mk (PyData.keyHash P "_law_cuts_right") (Value.str "_law_cuts_right" 477) (Value.ref 214)), (DictEntry.mk (PyData.keyHash P "_law_roots") (Value.str "_law_roots" 488) (Value.ref 221)), (DictEntry.mk (PyData.keyHash P "_law_picked_right") (Value.str "_law_picked_right" 494) (Value.ref 226)), (DictEntry.mk (PyData.keyHash P "_law_reach_right") (Value.str "_law_reach_right" 500) (Value.ref 231)), (DictEntry.mk (PyData.keyHash P "law") (Value.str "law" 518) (Value.ref 238))]) 34) (List.toArray []))
noncomputable def o_248 (P : Params) : Obj := (Obj.mk Value.none none (Data.fields (List.toArray [(Value.int 1 0), (Value.int 0 0), (Value.ref 20), (Value.int 5 0), (Value.int 0 0), (Value.ref 27), (Value.int 10 0), (Value.int 0 0), (Value.ref 48), (Value.int 12 0), (Value.int 0 0), (Value.ref 60), (Value.int 17 0), (Value.int 0 0), (Value.ref 72), (Value.int 40 0), (Value.int 0 0), (Value.ref 131), (Value.int 43 0), (Value.int 0 0), (Value.ref 138), (Value.int 47 0), (Value.int 0 0), (Value.ref 145), (Value.int 60 0), (Value.int 0 0), (Value.ref 152), (Value.int 72 0), (Value.int 0 0), (Value.ref 160), (Value.int 89 0), (Value.int 0 0), (Value.ref 168), (Value.int 101 0), (Value.int 0 0), (Value.ref 175), (Value.int 109 0), (Value.int 0 0), (Value.ref 182), (Value.int 117 0), (Value.int 0 0), (Value.ref 187), (Value.int 141 0), (Value.int 0 0), (Value.ref 192), (Value.int 166 0), (Value.int 0 0), (Value.ref 199), (Value.int 168 0), (Value.int 0 0), (Value.ref 206), (Value.int 175 0), (Value.int 0 0), (Value.ref 213), (Value.int 192 0), (Value.int 0 0), (Value.ref 220), (Value.int 198 0), (Value.int 0 0), (Value.ref 225), (Value.int 204 0), (Value.int 0 0), (Value.ref 230), (Value.int 215 0), (Value.int 0 0), (Value.ref 237)])) (List.toArray []))
noncomputable def o_249 (P : Params) : Obj := (Obj.mk (Value.type "tuple") none (Data.seq (List.toArray []) 0) (List.toArray []))
noncomputable def o_250 (P : Params) : Obj := (Obj.mk Value.none none (Data.fields (List.toArray [])) (List.toArray []))
noncomputable def o_251 (P : Params) : Obj := (Obj.mk (Value.type "tuple") none (Data.seq (List.toArray [(Value.str "steps" 450), (Value.str "four" 451), (Value.str "spots" 452), (Value.str "behind" 453), (Value.str "row" 454), (Value.str "place" 455), (Value.str "step" 456)]) 0) (List.toArray []))
noncomputable def o_252 (P : Params) : Obj := (Obj.mk (Value.type "tuple") none (Data.seq (List.toArray []) 0) (List.toArray []))
noncomputable def o_253 (P : Params) : Obj := (Obj.mk Value.none none (Data.func (FuncData.mk "_law_led_right" "_law_led_right" (argsS (nthS PB 24)) (FuncBody.stmts (bodyS (nthS PB 24))) (scopeS (nthS PB 24)) 0 [] Value.none Value.none Value.none Value.none none Value.none Value.none 0)) (List.toArray []))
noncomputable def o_254 (P : Params) : Obj := (Obj.mk (Value.type "code") none (Data.fields (List.toArray [(Value.str "_law_led_right" 447), (Value.str "_law_led_right" 448), (Value.str "/claim/cut.py" 449), (Value.int 168 0), (Value.int 4 0), (Value.int 0 0), (Value.int 0 0), (Value.int 3 0), (Value.ref 201), (Value.bool Bool.true), (Value.int 181 0), (Value.ref 202), Value.none, (Value.ref 203), (Value.ref 204), (Value.ref 205), (Value.int 457 0), (Value.int 168 0), (Value.str "/claim/cut.py" 458)])) (List.toArray []))
noncomputable def o_255 (P : Params) : Obj := (Obj.mk (Value.type "function") none (Data.func (FuncData.mk "_law_led_right" "_law_led_right" (argsS (nthS PB 24)) (FuncBody.stmts (bodyS (nthS PB 24))) (scopeS (nthS PB 24)) 3 [] Value.none Value.none Value.none (Value.str "law_tg0033_01" 406) none (Value.ref 206) Value.none 0)) (List.toArray []))
noncomputable def o_256 (P : Params) : Obj := (Obj.mk (Value.type "tuple") none (Data.seq (List.toArray []) 0) (List.toArray []))
noncomputable def o_257 (P : Params) : Obj := (Obj.mk Value.none none (Data.fields (List.toArray [])) (List.toArray []))
noncomputable def o_258 (P : Params) : Obj := (Obj.mk (Value.type "tuple") none (Data.seq (List.toArray [(Value.str "steps" 463), (Value.str "singles" 464), (Value.str "early" 465), (Value.str "four" 466), (Value.str "whole" 467), (Value.str "grown" 468), (Value.str "row" 469), (Value.str "spare" 470), (Value.str "k" 471), (Value.str "step" 472), (Value.str "own" 473), (Value.str "piece" 474)]) 0) (List.toArray []))
noncomputable def o_259 (P : Params) : Obj := (Obj.mk (Value.type "tuple") none (Data.seq (List.toArray []) 0) (List.toArray []))
noncomputable def o_260 (P : Params) : Obj := (Obj.mk Value.none none (Data.func (FuncData.mk "_law_cuts_right" "_law_cuts_right" (argsS (nthS PB 25)) (FuncBody.stmts (bodyS (nthS PB 25))) (scopeS (nthS PB 25)) 0 [] Value.none Value.none Value.none Value.none none Value.none Value.none 0)) (List.toArray []))
noncomputable def o_261 (P : Params) : Obj := (Obj.mk (Value.type "code") none (Data.fields (List.toArray [(Value.str "_law_cuts_right" 460), (Value.str "_law_cuts_right" 461), (Value.str "/claim/cut.py" 462), (Value.int 175 0), (Value.int 5 0), (Value.int 0 0), (Value.int 0 0), (Value.int 3 0), (Value.ref 208), (Value.bool Bool.true), (Value.int 181 0), (Value.ref 209), Value.none, (Value.ref 210), (Value.ref 211), (Value.ref 212), (Value.int 475 0), (Value.int 175 0), (Value.str "/claim/cut.py" 476)])) (List.toArray []))
noncomputable def o_262 (P : Params) : Obj := (Obj.mk (Value.type "function") none (Data.func (FuncData.mk "_law_cuts_right" "_law_cuts_right" (argsS (nthS PB 25)) (FuncBody.stmts (bodyS (nthS PB 25))) (scopeS (nthS PB 25)) 3 [] Value.none Value.none Value.none (Value.str "law_tg0033_01" 406) none (Value.ref 213) Value.none 0)) (List.toArray []))
noncomputable def o_263 (P : Params) : Obj := (Obj.mk (Value.type "tuple") none (Data.seq (List.toArray []) 0) (List.toArray []))
noncomputable def o_264 (P : Params) : Obj := (Obj.mk Value.none none (Data.fields (List.toArray [])) (List.toArray []))
noncomputable def o_265 (P : Params) : Obj := (Obj.mk (Value.type "tuple") none (Data.seq (List.toArray [(Value.str "many" 481), (Value.str "spots" 482), (Value.str "found" 483), (Value.str "last" 484), (Value.str "far" 485)]) 0) (List.toArray []))
noncomputable def o_266 (P : Params) : Obj := (Obj.mk (Value.type "tuple") none (Data.seq (List.toArray []) 0) (List.toArray []))
noncomputable def o_267 (P : Params) : Obj := (Obj.mk Value.none none (Data.func (FuncData.mk "_law_roots" "_law_roots" (argsS (nthS PB 26)) (FuncBody.stmts (bodyS (nthS PB 26))) (scopeS (nthS PB 26)) 0 [] Value.none Value.none Value.none Value.none none Value.none Value.none 0)) (List.toArray []))
noncomputable def o_268 (P : Params) : Obj := (Obj.mk (Value.type "code") none (Data.fields (List.toArray [(Value.str "_law_roots" 478), (Value.str "_law_roots" 479), (Value.str "/claim/cut.py" 480), (Value.int 192 0), (Value.int 2 0), (Value.int 0 0), (Value.int 0 0), (Value.int 3 0), (Value.ref 215), (Value.bool Bool.true), (Value.int 181 0), (Value.ref 216), Value.none, (Value.ref 217), (Value.ref 218), (Value.ref 219), (Value.int 486 0), (Value.int 192 0), (Value.str "/claim/cut.py" 487)])) (List.toArray []))
noncomputable def o_269 (P : Params) : Obj := (Obj.mk (Value.type "function") none (Data.func (FuncData.mk "_law_roots" "_law_roots" (argsS (nthS PB 26)) (FuncBody.stmts (bodyS (nthS PB 26))) (scopeS (nthS PB 26)) 3 [] Value.none Value.none Value.none (Value.str "law_tg0033_01" 406) none (Value.ref 220) Value.none 0)) (List.toArray []))
noncomputable def o_270 (P : Params) : Obj := (Obj.mk (Value.type "tuple") none (Data.seq (List.toArray []) 0) (List.toArray []))
noncomputable def o_271 (P : Params) : Obj := (Obj.mk Value.none none (Data.fields (List.toArray [])) (List.toArray []))
noncomputable def o_272 (P : Params) : Obj := (Obj.mk Value.none none (Data.func (FuncData.mk "_law_picked_right" "_law_picked_right" (argsS (nthS PB 27)) (FuncBody.stmts (bodyS (nthS PB 27))) (scopeS (nthS PB 27)) 0 [] Value.none Value.none Value.none Value.none none Value.none Value.none 0)) (List.toArray []))
noncomputable def o_273 (P : Params) : Obj := (Obj.mk (Value.type "code") none (Data.fields (List.toArray [(Value.str "_law_picked_right" 489), (Value.str "_law_picked_right" 490), (Value.str "/claim/cut.py" 491), (Value.int 198 0), (Value.int 6 0), (Value.int 0 0), (Value.int 0 0), (Value.int 3 0), (Value.ref 222), (Value.bool Bool.true), (Value.int 181 0), (Value.ref 223), Value.none, Value.none, Value.none, (Value.ref 224), (Value.int 492 0), (Value.int 198 0), (Value.str "/claim/cut.py" 493)])) (List.toArray []))
noncomputable def o_274 (P : Params) : Obj := (Obj.mk (Value.type "function") none (Data.func (FuncData.mk "_law_picked_right" "_law_picked_right" (argsS (nthS PB 27)) (FuncBody.stmts (bodyS (nthS PB 27))) (scopeS (nthS PB 27)) 3 [] Value.none Value.none Value.none (Value.str "law_tg0033_01" 406) none (Value.ref 225) Value.none 0)) (List.toArray []))
noncomputable def o_275 (P : Params) : Obj := (Obj.mk (Value.type "tuple") none (Data.seq (List.toArray []) 0) (List.toArray []))
noncomputable def o_276 (P : Params) : Obj := (Obj.mk Value.none none (Data.fields (List.toArray [])) (List.toArray []))
noncomputable def o_277 (P : Params) : Obj := (Obj.mk Value.none none (Data.func (FuncData.mk "_law_reach_right" "_law_reach_right" (argsS (nthS PB 28)) (FuncBody.stmts (bodyS (nthS PB 28))) (scopeS (nthS PB 28)) 0 [] Value.none Value.none Value.none Value.none none Value.none Value.none 0)) (List.toArray []))
noncomputable def o_278 (P : Params) : Obj := (Obj.mk (Value.type "code") none (Data.fields (List.toArray [(Value.str "_law_reach_right" 495), (Value.str "_law_reach_right" 496), (Value.str "/claim/cut.py" 497), (Value.int 204 0), (Value.int 6 0), (Value.int 0 0), (Value.int 0 0), (Value.int 3 0), (Value.ref 227), (Value.bool Bool.true), (Value.int 181 0), (Value.ref 228), Value.none, Value.none, Value.none, (Value.ref 229), (Value.int 498 0), (Value.int 204 0), (Value.str "/claim/cut.py" 499)])) (List.toArray []))
noncomputable def o_279 (P : Params) : Obj := (Obj.mk (Value.type "function") none (Data.func (FuncData.mk "_law_reach_right" "_law_reach_right" (argsS (nthS PB 28)) (FuncBody.stmts (bodyS (nthS PB 28))) (scopeS (nthS PB 28)) 3 [] Value.none Value.none Value.none (Value.str "law_tg0033_01" 406) none (Value.ref 230) Value.none 0)) (List.toArray []))
noncomputable def o_280 (P : Params) : Obj := (Obj.mk (Value.type "tuple") none (Data.seq (List.toArray []) 0) (List.toArray []))
noncomputable def o_281 (P : Params) : Obj := (Obj.mk Value.none none (Data.fields (List.toArray [])) (List.toArray []))
noncomputable def o_282 (P : Params) : Obj := (Obj.mk (Value.type "tuple") none (Data.seq (List.toArray [(Value.str "script" 504), (Value.str "box" 505), (Value.str "count" 506), (Value.str "early" 507), (Value.str "four" 508), (Value.str "steps" 509), (Value.str "singles" 510), (Value.str "spots" 511), (Value.str "behind" 512), (Value.str "twin" 513), (Value.str "other" 514), (Value.str "told" 515)]) 0) (List.toArray []))
noncomputable def o_283 (P : Params) : Obj := (Obj.mk (Value.type "tuple") none (Data.seq (List.toArray []) 0) (List.toArray []))
noncomputable def o_284 (P : Params) : Obj := (Obj.mk Value.none none (Data.func (FuncData.mk "law" "law" (argsS (nthS PB 29)) (FuncBody.stmts (bodyS (nthS PB 29))) (scopeS (nthS PB 29)) 0 [] Value.none Value.none Value.none Value.none none Value.none Value.none 0)) (List.toArray []))
noncomputable def o_285 (P : Params) : Obj := (Obj.mk (Value.type "code") none (Data.fields (List.toArray [(Value.str "law" 501), (Value.str "law" 502), (Value.str "/claim/cut.py" 503), (Value.int 215 0), (Value.int 1 0), (Value.int 0 0), (Value.int 0 0), (Value.int 3 0), (Value.ref 232), (Value.bool Bool.true), (Value.int 181 0), (Value.ref 233), Value.none, (Value.ref 234), (Value.ref 235), (Value.ref 236), (Value.int 516 0), (Value.int 215 0), (Value.str "/claim/cut.py" 517)])) (List.toArray []))
noncomputable def o_286 (P : Params) : Obj := (Obj.mk (Value.type "function") none (Data.func (FuncData.mk "law" "law" (argsS (nthS PB 29)) (FuncBody.stmts (bodyS (nthS PB 29))) (scopeS (nthS PB 29)) 3 [] Value.none Value.none Value.none (Value.str "law_tg0033_01" 406) none (Value.ref 237) Value.none 0)) (List.toArray []))
noncomputable def tree_47 (P : Params) : BT := (BT.node (boot_o_0 P) (BT.node (boot_o_1 P) (BT.node (boot_o_3 P) (BT.node (boot_o_7 P) BT.nil BT.nil) (BT.node (o_43 P) BT.nil BT.nil)) (BT.node (boot_o_5 P) (BT.node (boot_o_9 P) BT.nil BT.nil) (BT.node (o_45 P) BT.nil BT.nil))) (BT.node (boot_o_2 P) (BT.node (boot_o_4 P) (BT.node (boot_o_8 P) BT.nil BT.nil) (BT.node (o_44 P) BT.nil BT.nil)) (BT.node (boot_o_6 P) (BT.node (boot_o_10 P) BT.nil BT.nil) (BT.node (o_46 P) BT.nil BT.nil))))
noncomputable def tree_78 (P : Params) : BT := (BT.node (boot_o_0 P) (BT.node (boot_o_1 P) (BT.node (o_49 P) (BT.node (boot_o_7 P) (BT.node (o_51 P) (BT.node (o_67 P) BT.nil BT.nil) BT.nil) (BT.node (o_59 P) (BT.node (o_75 P) BT.nil BT.nil) BT.nil)) (BT.node (o_43 P) (BT.node (o_55 P) (BT.node (o_71 P) BT.nil BT.nil) BT.nil) (BT.node (o_63 P) BT.nil BT.nil))) (BT.node (boot_o_5 P) (BT.node (boot_o_9 P) (BT.node (o_53 P) (BT.node (o_69 P) BT.nil BT.nil) BT.nil) (BT.node (o_61 P) (BT.node (o_77 P) BT.nil BT.nil) BT.nil)) (BT.node (o_45 P) (BT.node (o_57 P) (BT.node (o_73 P) BT.nil BT.nil) BT.nil) (BT.node (o_65 P) BT.nil BT.nil)))) (BT.node (boot_o_2 P) (BT.node (boot_o_4 P) (BT.node (boot_o_8 P) (BT.node (o_52 P) (BT.node (o_68 P) BT.nil BT.nil) BT.nil) (BT.node (o_60 P) (BT.node (o_76 P) BT.nil BT.nil) BT.nil)) (BT.node (o_50 P) (BT.node (o_56 P) (BT.node (o_72 P) BT.nil BT.nil) BT.nil) (BT.node (o_64 P) BT.nil BT.nil))) (BT.node (boot_o_6 P) (BT.node (boot_o_10 P) (BT.node (o_54 P) (BT.node (o_70 P) BT.nil BT.nil) BT.nil) (BT.node (o_62 P) (BT.node (o_78 P) BT.nil BT.nil) BT.nil)) (BT.node (o_46 P) (BT.node (o_58 P) (BT.node (o_74 P) BT.nil BT.nil) BT.nil) (BT.node (o_66 P) BT.nil BT.nil)))))
noncomputable def tree_93 (P : Params) : BT := (BT.node (boot_o_0 P) (BT.node (boot_o_1 P) (BT.node (o_79 P) (BT.node (boot_o_7 P) (BT.node (o_51 P) (BT.node (o_67 P) BT.nil BT.nil) (BT.node (o_86 P) BT.nil BT.nil)) (BT.node (o_59 P) (BT.node (o_81 P) BT.nil BT.nil) BT.nil)) (BT.node (o_43 P) (BT.node (o_55 P) (BT.node (o_71 P) BT.nil BT.nil) (BT.node (o_90 P) BT.nil BT.nil)) (BT.node (o_63 P) (BT.node (o_82 P) BT.nil BT.nil) BT.nil))) (BT.node (boot_o_5 P) (BT.node (boot_o_9 P) (BT.node (o_53 P) (BT.node (o_69 P) BT.nil BT.nil) (BT.node (o_88 P) BT.nil BT.nil)) (BT.node (o_61 P) (BT.node (o_77 P) BT.nil BT.nil) BT.nil)) (BT.node (o_45 P) (BT.node (o_57 P) (BT.node (o_73 P) BT.nil BT.nil) (BT.node (o_92 P) BT.nil BT.nil)) (BT.node (o_65 P) (BT.node (o_84 P) BT.nil BT.nil) BT.nil)))) (BT.node (boot_o_2 P) (BT.node (boot_o_4 P) (BT.node (boot_o_8 P) (BT.node (o_52 P) (BT.node (o_68 P) BT.nil BT.nil) (BT.node (o_87 P) BT.nil BT.nil)) (BT.node (o_60 P) (BT.node (o_76 P) BT.nil BT.nil) BT.nil)) (BT.node (o_80 P) (BT.node (o_56 P) (BT.node (o_72 P) BT.nil BT.nil) (BT.node (o_91 P) BT.nil BT.nil)) (BT.node (o_64 P) (BT.node (o_83 P) BT.nil BT.nil) BT.nil))) (BT.node (boot_o_6 P) (BT.node (boot_o_10 P) (BT.node (o_54 P) (BT.node (o_70 P) BT.nil BT.nil) (BT.node (o_89 P) BT.nil BT.nil)) (BT.node (o_62 P) (BT.node (o_78 P) BT.nil BT.nil) BT.nil)) (BT.node (o_46 P) (BT.node (o_58 P) (BT.node (o_74 P) BT.nil BT.nil) (BT.node (o_93 P) BT.nil BT.nil)) (BT.node (o_66 P) (BT.node (o_85 P) BT.nil BT.nil) BT.nil)))))
noncomputable def tree_108 (P : Params) : BT := (BT.node (boot_o_0 P) (BT.node (boot_o_1 P) (BT.node (o_94 P) (BT.node (boot_o_7 P) (BT.node (o_51 P) (BT.node (o_67 P) (BT.node (o_105 P) BT.nil BT.nil) BT.nil) (BT.node (o_86 P) BT.nil BT.nil)) (BT.node (o_59 P) (BT.node (o_96 P) BT.nil BT.nil) (BT.node (o_97 P) BT.nil BT.nil))) (BT.node (o_43 P) (BT.node (o_55 P) (BT.node (o_71 P) BT.nil BT.nil) (BT.node (o_90 P) BT.nil BT.nil)) (BT.node (o_63 P) (BT.node (o_82 P) BT.nil BT.nil) (BT.node (o_101 P) BT.nil BT.nil)))) (BT.node (boot_o_5 P) (BT.node (boot_o_9 P) (BT.node (o_53 P) (BT.node (o_69 P) (BT.node (o_107 P) BT.nil BT.nil) BT.nil) (BT.node (o_88 P) BT.nil BT.nil)) (BT.node (o_61 P) (BT.node (o_77 P) BT.nil BT.nil) (BT.node (o_99 P) BT.nil BT.nil))) (BT.node (o_45 P) (BT.node (o_57 P) (BT.node (o_73 P) BT.nil BT.nil) (BT.node (o_92 P) BT.nil BT.nil)) (BT.node (o_65 P) (BT.node (o_84 P) BT.nil BT.nil) (BT.node (o_103 P) BT.nil BT.nil))))) (BT.node (boot_o_2 P) (BT.node (boot_o_4 P) (BT.node (boot_o_8 P) (BT.node (o_52 P) (BT.node (o_68 P) (BT.node (o_106 P) BT.nil BT.nil) BT.nil) (BT.node (o_87 P) BT.nil BT.nil)) (BT.node (o_60 P) (BT.node (o_76 P) BT.nil BT.nil) (BT.node (o_98 P) BT.nil BT.nil))) (BT.node (o_95 P) (BT.node (o_56 P) (BT.node (o_72 P) BT.nil BT.nil) (BT.node (o_91 P) BT.nil BT.nil)) (BT.node (o_64 P) (BT.node (o_83 P) BT.nil BT.nil) (BT.node (o_102 P) BT.nil BT.nil)))) (BT.node (boot_o_6 P) (BT.node (boot_o_10 P) (BT.node (o_54 P) (BT.node (o_70 P) (BT.node (o_108 P) BT.nil BT.nil) BT.nil) (BT.node (o_89 P) BT.nil BT.nil)) (BT.node (o_62 P) (BT.node (o_78 P) BT.nil BT.nil) (BT.node (o_100 P) BT.nil BT.nil))) (BT.node (o_46 P) (BT.node (o_58 P) (BT.node (o_74 P) BT.nil BT.nil) (BT.node (o_93 P) BT.nil BT.nil)) (BT.node (o_66 P) (BT.node (o_85 P) BT.nil BT.nil) (BT.node (o_104 P) BT.nil BT.nil))))))
noncomputable def tree_168 (P : Params) : BT := (BT.node (boot_o_0 P) (BT.node (boot_o_1 P) (BT.node (o_109 P) (BT.node (boot_o_7 P) (BT.node (o_51 P) (BT.node (o_67 P) (BT.node (o_105 P) BT.nil BT.nil) (BT.node (o_139 P) BT.nil BT.nil)) (BT.node (o_86 P) (BT.node (o_123 P) BT.nil BT.nil) (BT.node (o_155 P) BT.nil BT.nil))) (BT.node (o_59 P) (BT.node (o_96 P) (BT.node (o_115 P) BT.nil BT.nil) (BT.node (o_147 P) BT.nil BT.nil)) (BT.node (o_97 P) (BT.node (o_131 P) BT.nil BT.nil) (BT.node (o_163 P) BT.nil BT.nil)))) (BT.node (o_43 P) (BT.node (o_55 P) (BT.node (o_71 P) (BT.node (o_111 P) BT.nil BT.nil) (BT.node (o_143 P) BT.nil BT.nil)) (BT.node (o_90 P) (BT.node (o_127 P) BT.nil BT.nil) (BT.node (o_159 P) BT.nil BT.nil))) (BT.node (o_63 P) (BT.node (o_82 P) (BT.node (o_119 P) BT.nil BT.nil) (BT.node (o_151 P) BT.nil BT.nil)) (BT.node (o_101 P) (BT.node (o_135 P) BT.nil BT.nil) (BT.node (o_167 P) BT.nil BT.nil))))) (BT.node (boot_o_5 P) (BT.node (boot_o_9 P) (BT.node (o_53 P) (BT.node (o_69 P) (BT.node (o_107 P) BT.nil BT.nil) (BT.node (o_141 P) BT.nil BT.nil)) (BT.node (o_88 P) (BT.node (o_125 P) BT.nil BT.nil) (BT.node (o_157 P) BT.nil BT.nil))) (BT.node (o_61 P) (BT.node (o_77 P) (BT.node (o_117 P) BT.nil BT.nil) (BT.node (o_149 P) BT.nil BT.nil)) (BT.node (o_99 P) (BT.node (o_133 P) BT.nil BT.nil) (BT.node (o_165 P) BT.nil BT.nil)))) (BT.node (o_45 P) (BT.node (o_57 P) (BT.node (o_73 P) (BT.node (o_113 P) BT.nil BT.nil) (BT.node (o_145 P) BT.nil BT.nil)) (BT.node (o_92 P) (BT.node (o_129 P) BT.nil BT.nil) (BT.node (o_161 P) BT.nil BT.nil))) (BT.node (o_65 P) (BT.node (o_84 P) (BT.node (o_121 P) BT.nil BT.nil) (BT.node (o_153 P) BT.nil BT.nil)) (BT.node (o_103 P) (BT.node (o_137 P) BT.nil BT.nil) BT.nil))))) (BT.node (boot_o_2 P) (BT.node (boot_o_4 P) (BT.node (boot_o_8 P) (BT.node (o_52 P) (BT.node (o_68 P) (BT.node (o_106 P) BT.nil BT.nil) (BT.node (o_140 P) BT.nil BT.nil)) (BT.node (o_87 P) (BT.node (o_124 P) BT.nil BT.nil) (BT.node (o_156 P) BT.nil BT.nil))) (BT.node (o_60 P) (BT.node (o_76 P) (BT.node (o_116 P) BT.nil BT.nil) (BT.node (o_148 P) BT.nil BT.nil)) (BT.node (o_98 P) (BT.node (o_132 P) BT.nil BT.nil) (BT.node (o_164 P) BT.nil BT.nil)))) (BT.node (o_110 P) (BT.node (o_56 P) (BT.node (o_72 P) (BT.node (o_112 P) BT.nil BT.nil) (BT.node (o_144 P) BT.nil BT.nil)) (BT.node (o_91 P) (BT.node (o_128 P) BT.nil BT.nil) (BT.node (o_160 P) BT.nil BT.nil))) (BT.node (o_64 P) (BT.node (o_83 P) (BT.node (o_120 P) BT.nil BT.nil) (BT.node (o_152 P) BT.nil BT.nil)) (BT.node (o_102 P) (BT.node (o_136 P) BT.nil BT.nil) (BT.node (o_168 P) BT.nil BT.nil))))) (BT.node (boot_o_6 P) (BT.node (boot_o_10 P) (BT.node (o_54 P) (BT.node (o_70 P) (BT.node (o_108 P) BT.nil BT.nil) (BT.node (o_142 P) BT.nil BT.nil)) (BT.node (o_89 P) (BT.node (o_126 P) BT.nil BT.nil) (BT.node (o_158 P) BT.nil BT.nil))) (BT.node (o_62 P) (BT.node (o_78 P) (BT.node (o_118 P) BT.nil BT.nil) (BT.node (o_150 P) BT.nil BT.nil)) (BT.node (o_100 P) (BT.node (o_134 P) BT.nil BT.nil) (BT.node (o_166 P) BT.nil BT.nil)))) (BT.node (o_46 P) (BT.node (o_58 P) (BT.node (o_74 P) (BT.node (o_114 P) BT.nil BT.nil) (BT.node (o_146 P) BT.nil BT.nil)) (BT.node (o_93 P) (BT.node (o_130 P) BT.nil BT.nil) (BT.node (o_162 P) BT.nil BT.nil))) (BT.node (o_66 P) (BT.node (o_85 P) (BT.node (o_122 P) BT.nil BT.nil) (BT.node (o_154 P) BT.nil BT.nil)) (BT.node (o_104 P) (BT.node (o_138 P) BT.nil BT.nil) BT.nil))))))
noncomputable def tree_246 (P : Params) : BT := (BT.node (boot_o_0 P) (BT.node (boot_o_1 P) (BT.node (o_169 P) (BT.node (boot_o_7 P) (BT.node (o_51 P) (BT.node (o_67 P) (BT.node (o_105 P) (BT.node (o_173 P) BT.nil BT.nil) (BT.node (o_237 P) BT.nil BT.nil)) (BT.node (o_139 P) (BT.node (o_205 P) BT.nil BT.nil) BT.nil)) (BT.node (o_86 P) (BT.node (o_123 P) (BT.node (o_189 P) BT.nil BT.nil) BT.nil) (BT.node (o_155 P) (BT.node (o_221 P) BT.nil BT.nil) BT.nil))) (BT.node (o_59 P) (BT.node (o_96 P) (BT.node (o_115 P) (BT.node (o_181 P) BT.nil BT.nil) (BT.node (o_245 P) BT.nil BT.nil)) (BT.node (o_147 P) (BT.node (o_213 P) BT.nil BT.nil) BT.nil)) (BT.node (o_97 P) (BT.node (o_131 P) (BT.node (o_197 P) BT.nil BT.nil) BT.nil) (BT.node (o_163 P) (BT.node (o_229 P) BT.nil BT.nil) BT.nil)))) (BT.node (o_43 P) (BT.node (o_55 P) (BT.node (o_71 P) (BT.node (o_111 P) (BT.node (o_177 P) BT.nil BT.nil) (BT.node (o_241 P) BT.nil BT.nil)) (BT.node (o_143 P) (BT.node (o_209 P) BT.nil BT.nil) BT.nil)) (BT.node (o_90 P) (BT.node (o_127 P) (BT.node (o_193 P) BT.nil BT.nil) BT.nil) (BT.node (o_159 P) (BT.node (o_225 P) BT.nil BT.nil) BT.nil))) (BT.node (o_63 P) (BT.node (o_82 P) (BT.node (o_119 P) (BT.node (o_185 P) BT.nil BT.nil) BT.nil) (BT.node (o_151 P) (BT.node (o_217 P) BT.nil BT.nil) BT.nil)) (BT.node (o_101 P) (BT.node (o_135 P) (BT.node (o_201 P) BT.nil BT.nil) BT.nil) (BT.node (o_167 P) (BT.node (o_233 P) BT.nil BT.nil) BT.nil))))) (BT.node (boot_o_5 P) (BT.node (boot_o_9 P) (BT.node (o_53 P) (BT.node (o_69 P) (BT.node (o_107 P) (BT.node (o_175 P) BT.nil BT.nil) (BT.node (o_239 P) BT.nil BT.nil)) (BT.node (o_141 P) (BT.node (o_207 P) BT.nil BT.nil) BT.nil)) (BT.node (o_88 P) (BT.node (o_125 P) (BT.node (o_191 P) BT.nil BT.nil) BT.nil) (BT.node (o_157 P) (BT.node (o_223 P) BT.nil BT.nil) BT.nil))) (BT.node (o_61 P) (BT.node (o_77 P) (BT.node (o_117 P) (BT.node (o_183 P) BT.nil BT.nil) BT.nil) (BT.node (o_149 P) (BT.node (o_215 P) BT.nil BT.nil) BT.nil)) (BT.node (o_99 P) (BT.node (o_133 P) (BT.node (o_199 P) BT.nil BT.nil) BT.nil) (BT.node (o_165 P) (BT.node (o_231 P) BT.nil BT.nil) BT.nil)))) (BT.node (o_45 P) (BT.node (o_57 P) (BT.node (o_73 P) (BT.node (o_113 P) (BT.node (o_179 P) BT.nil BT.nil) (BT.node (o_243 P) BT.nil BT.nil)) (BT.node (o_145 P) (BT.node (o_211 P) BT.nil BT.nil) BT.nil)) (BT.node (o_92 P) (BT.node (o_129 P) (BT.node (o_195 P) BT.nil BT.nil) BT.nil) (BT.node (o_161 P) (BT.node (o_227 P) BT.nil BT.nil) BT.nil))) (BT.node (o_65 P) (BT.node (o_84 P) (BT.node (o_121 P) (BT.node (o_187 P) BT.nil BT.nil) BT.nil) (BT.node (o_153 P) (BT.node (o_219 P) BT.nil BT.nil) BT.nil)) (BT.node (o_103 P) (BT.node (o_137 P) (BT.node (o_203 P) BT.nil BT.nil) BT.nil) (BT.node (o_171 P) (BT.node (o_235 P) BT.nil BT.nil) BT.nil)))))) (BT.node (boot_o_2 P) (BT.node (boot_o_4 P) (BT.node (boot_o_8 P) (BT.node (o_52 P) (BT.node (o_68 P) (BT.node (o_106 P) (BT.node (o_174 P) BT.nil BT.nil) (BT.node (o_238 P) BT.nil BT.nil)) (BT.node (o_140 P) (BT.node (o_206 P) BT.nil BT.nil) BT.nil)) (BT.node (o_87 P) (BT.node (o_124 P) (BT.node (o_190 P) BT.nil BT.nil) BT.nil) (BT.node (o_156 P) (BT.node (o_222 P) BT.nil BT.nil) BT.nil))) (BT.node (o_60 P) (BT.node (o_76 P) (BT.node (o_116 P) (BT.node (o_182 P) BT.nil BT.nil) (BT.node (o_246 P) BT.nil BT.nil)) (BT.node (o_148 P) (BT.node (o_214 P) BT.nil BT.nil) BT.nil)) (BT.node (o_98 P) (BT.node (o_132 P) (BT.node (o_198 P) BT.nil BT.nil) BT.nil) (BT.node (o_164 P) (BT.node (o_230 P) BT.nil BT.nil) BT.nil)))) (BT.node (o_170 P) (BT.node (o_56 P) (BT.node (o_72 P) (BT.node (o_112 P) (BT.node (o_178 P) BT.nil BT.nil) (BT.node (o_242 P) BT.nil BT.nil)) (BT.node (o_144 P) (BT.node (o_210 P) BT.nil BT.nil) BT.nil)) (BT.node (o_91 P) (BT.node (o_128 P) (BT.node (o_194 P) BT.nil BT.nil) BT.nil) (BT.node (o_160 P) (BT.node (o_226 P) BT.nil BT.nil) BT.nil))) (BT.node (o_64 P) (BT.node (o_83 P) (BT.node (o_120 P) (BT.node (o_186 P) BT.nil BT.nil) BT.nil) (BT.node (o_152 P) (BT.node (o_218 P) BT.nil BT.nil) BT.nil)) (BT.node (o_102 P) (BT.node (o_136 P) (BT.node (o_202 P) BT.nil BT.nil) BT.nil) (BT.node (o_168 P) (BT.node (o_234 P) BT.nil BT.nil) BT.nil))))) (BT.node (boot_o_6 P) (BT.node (boot_o_10 P) (BT.node (o_54 P) (BT.node (o_70 P) (BT.node (o_108 P) (BT.node (o_176 P) BT.nil BT.nil) (BT.node (o_240 P) BT.nil BT.nil)) (BT.node (o_142 P) (BT.node (o_208 P) BT.nil BT.nil) BT.nil)) (BT.node (o_89 P) (BT.node (o_126 P) (BT.node (o_192 P) BT.nil BT.nil) BT.nil) (BT.node (o_158 P) (BT.node (o_224 P) BT.nil BT.nil) BT.nil))) (BT.node (o_62 P) (BT.node (o_78 P) (BT.node (o_118 P) (BT.node (o_184 P) BT.nil BT.nil) BT.nil) (BT.node (o_150 P) (BT.node (o_216 P) BT.nil BT.nil) BT.nil)) (BT.node (o_100 P) (BT.node (o_134 P) (BT.node (o_200 P) BT.nil BT.nil) BT.nil) (BT.node (o_166 P) (BT.node (o_232 P) BT.nil BT.nil) BT.nil)))) (BT.node (o_46 P) (BT.node (o_58 P) (BT.node (o_74 P) (BT.node (o_114 P) (BT.node (o_180 P) BT.nil BT.nil) (BT.node (o_244 P) BT.nil BT.nil)) (BT.node (o_146 P) (BT.node (o_212 P) BT.nil BT.nil) BT.nil)) (BT.node (o_93 P) (BT.node (o_130 P) (BT.node (o_196 P) BT.nil BT.nil) BT.nil) (BT.node (o_162 P) (BT.node (o_228 P) BT.nil BT.nil) BT.nil))) (BT.node (o_66 P) (BT.node (o_85 P) (BT.node (o_122 P) (BT.node (o_188 P) BT.nil BT.nil) BT.nil) (BT.node (o_154 P) (BT.node (o_220 P) BT.nil BT.nil) BT.nil)) (BT.node (o_104 P) (BT.node (o_138 P) (BT.node (o_204 P) BT.nil BT.nil) BT.nil) (BT.node (o_172 P) (BT.node (o_236 P) BT.nil BT.nil) BT.nil)))))))
noncomputable def tree_286 (P : Params) : BT := (BT.node (boot_o_0 P) (BT.node (boot_o_1 P) (BT.node (o_247 P) (BT.node (boot_o_7 P) (BT.node (o_51 P) (BT.node (o_67 P) (BT.node (o_105 P) (BT.node (o_173 P) BT.nil BT.nil) (BT.node (o_237 P) BT.nil BT.nil)) (BT.node (o_139 P) (BT.node (o_205 P) BT.nil BT.nil) (BT.node (o_271 P) BT.nil BT.nil))) (BT.node (o_86 P) (BT.node (o_123 P) (BT.node (o_189 P) BT.nil BT.nil) (BT.node (o_255 P) BT.nil BT.nil)) (BT.node (o_155 P) (BT.node (o_221 P) BT.nil BT.nil) BT.nil))) (BT.node (o_59 P) (BT.node (o_96 P) (BT.node (o_115 P) (BT.node (o_181 P) BT.nil BT.nil) (BT.node (o_245 P) BT.nil BT.nil)) (BT.node (o_147 P) (BT.node (o_213 P) BT.nil BT.nil) (BT.node (o_279 P) BT.nil BT.nil))) (BT.node (o_97 P) (BT.node (o_131 P) (BT.node (o_197 P) BT.nil BT.nil) (BT.node (o_263 P) BT.nil BT.nil)) (BT.node (o_163 P) (BT.node (o_229 P) BT.nil BT.nil) BT.nil)))) (BT.node (o_43 P) (BT.node (o_55 P) (BT.node (o_71 P) (BT.node (o_111 P) (BT.node (o_177 P) BT.nil BT.nil) (BT.node (o_241 P) BT.nil BT.nil)) (BT.node (o_143 P) (BT.node (o_209 P) BT.nil BT.nil) (BT.node (o_275 P) BT.nil BT.nil))) (BT.node (o_90 P) (BT.node (o_127 P) (BT.node (o_193 P) BT.nil BT.nil) (BT.node (o_259 P) BT.nil BT.nil)) (BT.node (o_159 P) (BT.node (o_225 P) BT.nil BT.nil) BT.nil))) (BT.node (o_63 P) (BT.node (o_82 P) (BT.node (o_119 P) (BT.node (o_185 P) BT.nil BT.nil) (BT.node (o_251 P) BT.nil BT.nil)) (BT.node (o_151 P) (BT.node (o_217 P) BT.nil BT.nil) (BT.node (o_283 P) BT.nil BT.nil))) (BT.node (o_101 P) (BT.node (o_135 P) (BT.node (o_201 P) BT.nil BT.nil) (BT.node (o_267 P) BT.nil BT.nil)) (BT.node (o_167 P) (BT.node (o_233 P) BT.nil BT.nil) BT.nil))))) (BT.node (boot_o_5 P) (BT.node (boot_o_9 P) (BT.node (o_53 P) (BT.node (o_69 P) (BT.node (o_107 P) (BT.node (o_175 P) BT.nil BT.nil) (BT.node (o_239 P) BT.nil BT.nil)) (BT.node (o_141 P) (BT.node (o_207 P) BT.nil BT.nil) (BT.node (o_273 P) BT.nil BT.nil))) (BT.node (o_88 P) (BT.node (o_125 P) (BT.node (o_191 P) BT.nil BT.nil) (BT.node (o_257 P) BT.nil BT.nil)) (BT.node (o_157 P) (BT.node (o_223 P) BT.nil BT.nil) BT.nil))) (BT.node (o_61 P) (BT.node (o_77 P) (BT.node (o_117 P) (BT.node (o_183 P) BT.nil BT.nil) (BT.node (o_249 P) BT.nil BT.nil)) (BT.node (o_149 P) (BT.node (o_215 P) BT.nil BT.nil) (BT.node (o_281 P) BT.nil BT.nil))) (BT.node (o_99 P) (BT.node (o_133 P) (BT.node (o_199 P) BT.nil BT.nil) (BT.node (o_265 P) BT.nil BT.nil)) (BT.node (o_165 P) (BT.node (o_231 P) BT.nil BT.nil) BT.nil)))) (BT.node (o_45 P) (BT.node (o_57 P) (BT.node (o_73 P) (BT.node (o_113 P) (BT.node (o_179 P) BT.nil BT.nil) (BT.node (o_243 P) BT.nil BT.nil)) (BT.node (o_145 P) (BT.node (o_211 P) BT.nil BT.nil) (BT.node (o_277 P) BT.nil BT.nil))) (BT.node (o_92 P) (BT.node (o_129 P) (BT.node (o_195 P) BT.nil BT.nil) (BT.node (o_261 P) BT.nil BT.nil)) (BT.node (o_161 P) (BT.node (o_227 P) BT.nil BT.nil) BT.nil))) (BT.node (o_65 P) (BT.node (o_84 P) (BT.node (o_121 P) (BT.node (o_187 P) BT.nil BT.nil) (BT.node (o_253 P) BT.nil BT.nil)) (BT.node (o_153 P) (BT.node (o_219 P) BT.nil BT.nil) (BT.node (o_285 P) BT.nil BT.nil))) (BT.node (o_103 P) (BT.node (o_137 P) (BT.node (o_203 P) BT.nil BT.nil) (BT.node (o_269 P) BT.nil BT.nil)) (BT.node (o_171 P) (BT.node (o_235 P) BT.nil BT.nil) BT.nil)))))) (BT.node (boot_o_2 P) (BT.node (boot_o_4 P) (BT.node (boot_o_8 P) (BT.node (o_52 P) (BT.node (o_68 P) (BT.node (o_106 P) (BT.node (o_174 P) BT.nil BT.nil) (BT.node (o_238 P) BT.nil BT.nil)) (BT.node (o_140 P) (BT.node (o_206 P) BT.nil BT.nil) (BT.node (o_272 P) BT.nil BT.nil))) (BT.node (o_87 P) (BT.node (o_124 P) (BT.node (o_190 P) BT.nil BT.nil) (BT.node (o_256 P) BT.nil BT.nil)) (BT.node (o_156 P) (BT.node (o_222 P) BT.nil BT.nil) BT.nil))) (BT.node (o_60 P) (BT.node (o_76 P) (BT.node (o_116 P) (BT.node (o_182 P) BT.nil BT.nil) (BT.node (o_246 P) BT.nil BT.nil)) (BT.node (o_148 P) (BT.node (o_214 P) BT.nil BT.nil) (BT.node (o_280 P) BT.nil BT.nil))) (BT.node (o_98 P) (BT.node (o_132 P) (BT.node (o_198 P) BT.nil BT.nil) (BT.node (o_264 P) BT.nil BT.nil)) (BT.node (o_164 P) (BT.node (o_230 P) BT.nil BT.nil) BT.nil)))) (BT.node (o_248 P) (BT.node (o_56 P) (BT.node (o_72 P) (BT.node (o_112 P) (BT.node (o_178 P) BT.nil BT.nil) (BT.node (o_242 P) BT.nil BT.nil)) (BT.node (o_144 P) (BT.node (o_210 P) BT.nil BT.nil) (BT.node (o_276 P) BT.nil BT.nil))) (BT.node (o_91 P) (BT.node (o_128 P) (BT.node (o_194 P) BT.nil BT.nil) (BT.node (o_260 P) BT.nil BT.nil)) (BT.node (o_160 P) (BT.node (o_226 P) BT.nil BT.nil) BT.nil))) (BT.node (o_64 P) (BT.node (o_83 P) (BT.node (o_120 P) (BT.node (o_186 P) BT.nil BT.nil) (BT.node (o_252 P) BT.nil BT.nil)) (BT.node (o_152 P) (BT.node (o_218 P) BT.nil BT.nil) (BT.node (o_284 P) BT.nil BT.nil))) (BT.node (o_102 P) (BT.node (o_136 P) (BT.node (o_202 P) BT.nil BT.nil) (BT.node (o_268 P) BT.nil BT.nil)) (BT.node (o_168 P) (BT.node (o_234 P) BT.nil BT.nil) BT.nil))))) (BT.node (boot_o_6 P) (BT.node (boot_o_10 P) (BT.node (o_54 P) (BT.node (o_70 P) (BT.node (o_108 P) (BT.node (o_176 P) BT.nil BT.nil) (BT.node (o_240 P) BT.nil BT.nil)) (BT.node (o_142 P) (BT.node (o_208 P) BT.nil BT.nil) (BT.node (o_274 P) BT.nil BT.nil))) (BT.node (o_89 P) (BT.node (o_126 P) (BT.node (o_192 P) BT.nil BT.nil) (BT.node (o_258 P) BT.nil BT.nil)) (BT.node (o_158 P) (BT.node (o_224 P) BT.nil BT.nil) BT.nil))) (BT.node (o_62 P) (BT.node (o_78 P) (BT.node (o_118 P) (BT.node (o_184 P) BT.nil BT.nil) (BT.node (o_250 P) BT.nil BT.nil)) (BT.node (o_150 P) (BT.node (o_216 P) BT.nil BT.nil) (BT.node (o_282 P) BT.nil BT.nil))) (BT.node (o_100 P) (BT.node (o_134 P) (BT.node (o_200 P) BT.nil BT.nil) (BT.node (o_266 P) BT.nil BT.nil)) (BT.node (o_166 P) (BT.node (o_232 P) BT.nil BT.nil) BT.nil)))) (BT.node (o_46 P) (BT.node (o_58 P) (BT.node (o_74 P) (BT.node (o_114 P) (BT.node (o_180 P) BT.nil BT.nil) (BT.node (o_244 P) BT.nil BT.nil)) (BT.node (o_146 P) (BT.node (o_212 P) BT.nil BT.nil) (BT.node (o_278 P) BT.nil BT.nil))) (BT.node (o_93 P) (BT.node (o_130 P) (BT.node (o_196 P) BT.nil BT.nil) (BT.node (o_262 P) BT.nil BT.nil)) (BT.node (o_162 P) (BT.node (o_228 P) BT.nil BT.nil) BT.nil))) (BT.node (o_66 P) (BT.node (o_85 P) (BT.node (o_122 P) (BT.node (o_188 P) BT.nil BT.nil) (BT.node (o_254 P) BT.nil BT.nil)) (BT.node (o_154 P) (BT.node (o_220 P) BT.nil BT.nil) (BT.node (o_286 P) BT.nil BT.nil))) (BT.node (o_104 P) (BT.node (o_138 P) (BT.node (o_204 P) BT.nil BT.nil) (BT.node (o_270 P) BT.nil BT.nil)) (BT.node (o_172 P) (BT.node (o_236 P) BT.nil BT.nil) BT.nil)))))))
noncomputable def heap_46 (P : Params) : Heap := (Heap.mk (Array.mk [(boot_o_0 P), (boot_o_1 P), (boot_o_2 P), (boot_o_3 P), (boot_o_4 P), (boot_o_5 P), (boot_o_6 P), (boot_o_7 P), (boot_o_8 P), (boot_o_9 P), (boot_o_10 P), (o_43 P), (o_44 P), (o_45 P), (o_46 P)]) (Life.mk [] [] [] 0 [] [] Bool.false (List.toArray []) [] 0 Bool.false Bool.false Bool.false 0 [2000, 10, 10] Bool.false 0 Bool.true [] [] 0 Bool.false))
noncomputable def heap_287 (P : Params) : Heap := (Heap.mk (Array.mk [(boot_o_0 P), (boot_o_1 P), (boot_o_2 P), (o_247 P), (boot_o_4 P), (boot_o_5 P), (boot_o_6 P), (boot_o_7 P), (boot_o_8 P), (boot_o_9 P), (boot_o_10 P), (o_43 P), (o_248 P), (o_45 P), (o_46 P), (o_51 P), (o_52 P), (o_53 P), (o_54 P), (o_55 P), (o_56 P), (o_57 P), (o_58 P), (o_59 P), (o_60 P), (o_61 P), (o_62 P), (o_63 P), (o_64 P), (o_65 P), (o_66 P), (o_67 P), (o_68 P), (o_69 P), (o_70 P), (o_71 P), (o_72 P), (o_73 P), (o_74 P), (o_96 P), (o_76 P), (o_77 P), (o_78 P), (o_82 P), (o_83 P), (o_84 P), (o_85 P), (o_86 P), (o_87 P), (o_88 P), (o_89 P), (o_90 P), (o_91 P), (o_92 P), (o_93 P), (o_97 P), (o_98 P), (o_99 P), (o_100 P), (o_101 P), (o_102 P), (o_103 P), (o_104 P), (o_105 P), (o_106 P), (o_107 P), (o_108 P), (o_111 P), (o_112 P), (o_113 P), (o_114 P), (o_115 P), (o_116 P), (o_117 P), (o_118 P), (o_119 P), (o_120 P), (o_121 P), (o_122 P), (o_123 P), (o_124 P), (o_125 P), (o_126 P), (o_127 P), (o_128 P), (o_129 P), (o_130 P), (o_131 P), (o_132 P), (o_133 P), (o_134 P), (o_135 P), (o_136 P), (o_137 P), (o_138 P), (o_139 P), (o_140 P), (o_141 P), (o_142 P), (o_143 P), (o_144 P), (o_145 P), (o_146 P), (o_147 P), (o_148 P), (o_149 P), (o_150 P), (o_151 P), (o_152 P), (o_153 P), (o_154 P), (o_155 P), (o_156 P), (o_157 P), (o_158 P), (o_159 P), (o_160 P), (o_161 P), (o_162 P), (o_163 P), (o_164 P), (o_165 P), (o_166 P), (o_167 P), (o_168 P), (o_171 P), (o_172 P), (o_173 P), (o_174 P), (o_175 P), (o_176 P), (o_177 P), (o_178 P), (o_179 P), (o_180 P), (o_181 P), (o_182 P), (o_183 P), (o_184 P), (o_185 P), (o_186 P), (o_187 P), (o_188 P), (o_189 P), (o_190 P), (o_191 P), (o_192 P), (o_193 P), (o_194 P), (o_195 P), (o_196 P), (o_197 P), (o_198 P), (o_199 P), (o_200 P), (o_201 P), (o_202 P), (o_203 P), (o_204 P), (o_205 P), (o_206 P), (o_207 P), (o_208 P), (o_209 P), (o_210 P), (o_211 P), (o_212 P), (o_213 P), (o_214 P), (o_215 P), (o_216 P), (o_217 P), (o_218 P), (o_219 P), (o_220 P), (o_221 P), (o_222 P), (o_223 P), (o_224 P), (o_225 P), (o_226 P), (o_227 P), (o_228 P), (o_229 P), (o_230 P), (o_231 P), (o_232 P), (o_233 P), (o_234 P), (o_235 P), (o_236 P), (o_237 P), (o_238 P), (o_239 P), (o_240 P), (o_241 P), (o_242 P), (o_243 P), (o_244 P), (o_245 P), (o_246 P), (o_249 P), (o_250 P), (o_251 P), (o_252 P), (o_253 P), (o_254 P), (o_255 P), (o_256 P), (o_257 P), (o_258 P), (o_259 P), (o_260 P), (o_261 P), (o_262 P), (o_263 P), (o_264 P), (o_265 P), (o_266 P), (o_267 P), (o_268 P), (o_269 P), (o_270 P), (o_271 P), (o_272 P), (o_273 P), (o_274 P), (o_275 P), (o_276 P), (o_277 P), (o_278 P), (o_279 P), (o_280 P), (o_281 P), (o_282 P), (o_283 P), (o_284 P), (o_285 P), (o_286 P)]) (Life.mk [] [] [] 0 [] [] Bool.false (List.toArray []) [] 0 Bool.false Bool.false Bool.false 0 [2000, 10, 10] Bool.false 0 Bool.true [] [] 0 Bool.false))
noncomputable def KH (P : Params) : Frag := [(2, boot_o_2 P), (3, o_247 P), (15, o_51 P), (17, o_53 P), (18, o_54 P), (20, o_56 P), (21, o_57 P), (22, o_58 P), (29, o_65 P), (30, o_66 P), (32, o_68 P), (33, o_69 P), (35, o_71 P), (36, o_72 P), (37, o_73 P), (38, o_74 P), (39, o_96 P), (40, o_76 P), (43, o_82 P), (50, o_89 P), (51, o_90 P), (52, o_91 P), (55, o_97 P), (62, o_104 P), (63, o_105 P), (64, o_106 P), (74, o_118 P), (75, o_119 P), (76, o_120 P), (78, o_122 P), (79, o_123 P), (81, o_125 P), (82, o_126 P), (83, o_127 P), (85, o_129 P), (86, o_130 P), (88, o_132 P), (89, o_133 P), (90, o_134 P), (92, o_136 P), (93, o_137 P), (95, o_139 P), (96, o_140 P), (97, o_141 P), (99, o_143 P), (100, o_144 P), (102, o_146 P), (103, o_147 P), (104, o_148 P), (106, o_150 P), (107, o_151 P), (109, o_153 P), (110, o_154 P), (111, o_155 P), (113, o_157 P), (114, o_158 P), (116, o_160 P), (117, o_161 P), (118, o_162 P), (119, o_163 P), (120, o_164 P), (121, o_165 P), (122, o_166 P), (125, o_171 P), (126, o_172 P), (128, o_174 P), (129, o_175 P), (131, o_177 P), (132, o_178 P), (133, o_179 P), (135, o_181 P), (136, o_182 P), (138, o_184 P), (139, o_185 P), (140, o_186 P), (142, o_188 P), (143, o_189 P), (145, o_191 P), (146, o_192 P), (147, o_193 P), (149, o_195 P), (150, o_196 P), (152, o_198 P), (153, o_199 P), (154, o_200 P), (155, o_201 P), (157, o_203 P), (158, o_204 P), (160, o_206 P), (161, o_207 P), (162, o_208 P), (163, o_209 P), (165, o_211 P), (166, o_212 P), (168, o_214 P), (169, o_215 P), (170, o_216 P), (172, o_218 P), (173, o_219 P), (175, o_221 P), (176, o_222 P), (177, o_223 P), (179, o_225 P), (180, o_226 P), (182, o_228 P), (183, o_229 P), (184, o_230 P), (187, o_233 P), (188, o_234 P), (189, o_235 P), (192, o_238 P), (193, o_239 P), (194, o_240 P), (196, o_242 P), (197, o_243 P), (199, o_245 P), (200, o_246 P), (201, o_249 P), (203, o_251 P), (204, o_252 P), (206, o_254 P), (207, o_255 P), (208, o_256 P), (210, o_258 P), (211, o_259 P), (213, o_261 P), (214, o_262 P), (215, o_263 P), (217, o_265 P), (218, o_266 P), (220, o_268 P), (221, o_269 P), (222, o_270 P), (225, o_273 P), (226, o_274 P), (227, o_275 P), (230, o_278 P), (231, o_279 P), (232, o_280 P), (234, o_282 P), (235, o_283 P), (237, o_285 P), (238, o_286 P)]
abbrev PW : Program := PySem.Challenge.rw_tg0033_01.row.toRowW.prog
noncomputable def ls1 : List Stmt := [0, 1, 2].map (nthS PB)
noncomputable def ls2 : List Stmt := [3].map (nthS PB)
noncomputable def ls3 : List Stmt := [4, 5, 6, 7].map (nthS PB)
noncomputable def ls4 : List Stmt := [8, 9].map (nthS PB)
noncomputable def ls5 : List Stmt := [10, 11, 12, 13, 14, 15, 16, 17, 18, 19, 20, 21, 22, 23].map (nthS PB)
noncomputable def ls6 : List Stmt := [24, 25, 26, 27, 28, 29].map (nthS PB)
noncomputable def bodyT : List Stmt := ls1 ++ (ls2 ++ (ls3 ++ (ls4 ++ (ls5 ++ (ls6 ++ [])))))
noncomputable def envT : Env := ⟨PW.main.scope, mainNs, mainNs, [], Str.empty, none, .ref 13, some 14, 0⟩
noncomputable abbrev cT : Code := .body bodyT envT
abbrev p0 : Pos := ⟨0, 0, 0, 0⟩
abbrev shT (t : Params → BT) (n k : Nat) (w : World) (os : OsState) : SharedT := { tree := t w.params, n := n, life := {}, gens := #[], drawn := {}, toks := k, os := os }
abbrev SegT (l : List Stmt) (m : Nat) (t : Params → BT) (n k : Nat) (p : Pos) (t' : Params → BT) (n' k' : Nat) (p' : Pos) : Prop :=
  ∀ w : World, (fun os => segRunT treeTable PW w 11 (some (.ref 6)) 1 m (shT t n k w os) (piecesOf l envT cT p [topFrame p0])) = fun os => some (.next, shT t' n' k' w os, cT, p')
theorem seg0 (w : World) : (fun os => topGo treeTable PW w 11 (some (.ref 6)) 12 ⟨boot_heap w.params, #[], boot_drawn, boot_toks, os⟩ (topStub PW)) =
    fun os => some (⟨heap_46 w.params, #[], {}, 187, os⟩, ⟨denote treeTable cT, cT, p0, [topFrame p0]⟩) := by kernel_rfl
theorem segB (w : World) : (fun os => segRun treeTable PW w 11 (some (.ref 6)) 1 1 ⟨heap_46 w.params, #[], {}, 187, os⟩ (blockOf bodyT envT cT p0 [topFrame p0])) = fun os => some (.next, (shT tree_47 15 187 w os).abs, cT, p0) := by kernel_rfl
theorem seg1 : SegT ls1 259 tree_47 15 187 ⟨0, 0, 0, 0⟩ tree_78 43 224 ⟨5, 0, 9, 28⟩ := fun w => by kernel_rfl
theorem seg2 : SegT ls2 214 tree_78 43 224 ⟨5, 0, 9, 28⟩ tree_93 55 240 ⟨10, 0, 11, 8⟩ := fun w => by kernel_rfl
theorem seg3 : SegT ls3 241 tree_93 55 240 ⟨10, 0, 11, 8⟩ tree_108 67 262 ⟨16, 0, 16, 10⟩ := fun w => by kernel_rfl
theorem seg4 : SegT ls4 397 tree_108 67 262 ⟨16, 0, 16, 10⟩ tree_168 125 335 ⟨38, 0, 38, 8⟩ := fun w => by kernel_rfl
theorem seg5 : SegT ls5 376 tree_168 125 335 ⟨38, 0, 38, 8⟩ tree_246 201 447 ⟨166, 0, 167, 43⟩ := fun w => by kernel_rfl
theorem seg6 : SegT ls6 201 tree_246 201 447 ⟨166, 0, 167, 43⟩ tree_286 239 519 ⟨215, 0, 229, 69⟩ := fun w => by kernel_rfl
theorem segZ (w : World) : (fun os => topRun treeTable PW w 11 (some (.ref 6)) 2 (shT tree_286 239 519 w os).abs ⟨doneF .next, cT, ⟨215, 0, 229, 69⟩, [topFrame p0]⟩) = fun os => some ⟨heap_287 w.params, #[], ⟨0, 0, 0, 0⟩, 519, os⟩ := by kernel_rfl
theorem run_all (w : World) (os : OsState) : topRun treeTable PW w 11 (some (.ref 6)) (12 + (1 + (259 + (214 + (241 + (397 + (376 + (201 + 2)))))))) ⟨boot_heap w.params, #[], boot_drawn, boot_toks, os⟩ (topStub PW) = some ⟨heap_287 w.params, #[], ⟨0, 0, 0, 0⟩, 519, os⟩ :=
  go_top (congrFun (seg0 w) os) (piece_block (congrFun (segB w) os)
    (piece_app (l := ls1) (segRun_of (congrFun (seg1 w) os)) (piece_app (l := ls2) (segRun_of (congrFun (seg2 w) os)) (piece_app (l := ls3) (segRun_of (congrFun (seg3 w) os))
      (piece_app (l := ls4) (segRun_of (congrFun (seg4 w) os)) (piece_app (l := ls5) (segRun_of (congrFun (seg5 w) os)) (piece_app (l := ls6) (segRun_of (congrFun (seg6 w) os)) (piece_nil (congrFun (segZ w) os)))))))))
noncomputable def view : Program := { PySem.Challenge.pw_tg0033_01 with main := { PySem.Challenge.pw_tg0033_01.main with body := [0, 2, 3, 4, 6, 7, 8, 10, 11, 12, 13, 15, 19, 20, 21, 22, 23, 24, 25, 26, 27, 28, 29].map (nthS PB) } }
noncomputable def lawD : DefRec := ⟨"law", argsS (nthS PB 29), bodyS (nthS PB 29), scopeS (nthS PB 29), posS (nthS PB 29)⟩
noncomputable def Hk : Hook := kHook KH [2, 3, 15, 17, 18, 20, 21, 22, 29, 30, 32, 33, 35, 36, 37, 38, 39, 40, 43, 50, 51, 52, 55, 62, 63, 64, 74, 75, 76, 78, 79, 81, 82, 83, 85, 86, 88, 89, 90, 92, 93, 95, 96, 97, 99, 100, 102, 103, 104, 106, 107, 109, 110, 111, 113, 114, 116, 117, 118, 119, 120, 121, 122, 125, 126, 128, 129, 131, 132, 133, 135, 136, 138, 139, 140, 142, 143, 145, 146, 147, 149, 150, 152, 153, 154, 155, 157, 158, 160, 161, 162, 163, 165, 166, 168, 169, 170, 172, 173, 175, 176, 177, 179, 180, 182, 183, 184, 187, 188, 189, 192, 193, 194, 196, 197, 199, 200, 201, 203, 204, 206, 207, 208, 210, 211, 213, 214, 215, 217, 218, 220, 221, 222, 225, 226, 227, 230, 231, 232, 234, 235, 237, 238] (fun _ => by kernel_rfl)
theorem sizeT (w : World) : ((boot_heap w.params).isNs mainGlobals && (#[] : Array GenState).size == 0, (boot_heap w.params).objs.size, (boot_heap w.params).nsMap mainGlobals "__annotations__") = (true, 11, some (.ref 6)) := by kernel_rfl
theorem looksT (w : World) : (fun os => ((staticsOk (importedModules PW.main.body) (boot_heap w.params) (heap_287 w.params) && namesBound PW (heap_287 w.params) && gensDone ⟨heap_287 w.params, #[], ⟨0, 0, 0, 0⟩, 519, os⟩ && laidKept (boot_heap w.params) (heap_287 w.params)),
    openSeen view ["PressError", "Reps", "play_steps", "literals_of"] (importedModules PW.main.body) (fun s => xlAt view [] s && recOk (RowW.records PySem.Challenge.rw_tg0033_01.row.toRowW) s) true ⟨heap_287 w.params, #[], ⟨0, 0, 0, 0⟩, 519, os⟩, Hook.obs Hk ⟨heap_287 w.params, #[], ⟨0, 0, 0, 0⟩, 519, os⟩)) = fun _ => (true, openGood view ["PressError", "Reps", "play_steps", "literals_of"], Hook.val Hk w) := by kernel_rfl
theorem leftT : LeftO PW view ["PressError", "Reps", "play_steps", "literals_of"] (fun s => xlAt view [] s && recOk (RowW.records PySem.Challenge.rw_tg0033_01.row.toRowW) s) (Hook.obs Hk) (Hook.val Hk) 3490 :=
  LeftO.of_pieces (boot_open (by kernel_rfl) rfl fun s => rfl) sizeT run_all rfl looksT
theorem lawSaid : OpenLaw.wellSaid PySem.Challenge.rw_tg0033_01 = true := by
  unfold OpenLaw.wellSaid OpenRow.wellSaid OpenRow.partSaid looksOpen
  repeat' with_reducible apply look_both
  all_goals decide +kernel
theorem hd (hc : WalkC view ["PressError", "Reps", "play_steps", "literals_of"] (XL view []) (Hook.says Hk) PySem.Challenge.rw_tg0033_01.row.toRowW lawD [] fun f vs => PySem.call f vs) : PySem.Challenge.rw_tg0033_01.Holds := by
  w_on
  refine holds_law lawSaid fun said => ?_
  refine PySem.W.holds_open (q := view) (loose := ["PressError", "Reps", "play_steps", "literals_of"]) (Xt := fun s => xlAt view [] s && recOk (RowW.records PySem.Challenge.rw_tg0033_01.row.toRowW) s) (XP := XL view []) (Yf := Hook.obs Hk) (Ya := Hook.val Hk) (YP := Hook.says Hk) (N := 3490) (d := lawD) (kwd := []) ?hl (Hook.of Hk) (Hook.keeps Hk) (fun s e => xl_of s (Bool.and_eq_true_iff.mp e).1) XL.keeps (by kernel_rfl) (by kernel_rfl) (by kernel_rfl) (fun s e => recFacts_of (Bool.and_eq_true_iff.mp e).2) (by rfl) said (by decide +kernel) ⟨rfl, rfl, rfl, rfl, rfl, by decide +kernel⟩ ?hw ?hc
  case hl => exact leftT
  case hw => w_witness2
  case hc => exact hc
end Mine
end
section
open PySem PySem.W PyProof.Rows PySem.Calls
set_option maxRecDepth 100000
set_option maxHeartbeats 4000000
namespace Mine
noncomputable abbrev KK (w : World) : Frag := KH w.params

theorem Room.deeper {A : Around} {n : Nat} (h : Room A (n + 1)) (env : Env) : Room (A.deeper env) n := by
  obtain ⟨h1, h2, h3⟩ := h
  exact ⟨h1, by show A.depth + 1 + 2 * n ≤ 900; omega, by show A.units + 3 + 20 * n ≤ 9000; omega⟩
theorem Room.limit {A : Around} {n : Nat} (h : Room A n) : A.depth < recursionLimit := by
  have := h.depth; show A.depth < 1000; omega
theorem Room.less {A : Around} {n m : Nat} (h : Room A n) (hm : m ≤ n) : Room A m := ⟨h.handled, by have := h.depth; omega, by have := h.units; omega⟩
theorem mulOk_left {a b : Int} (h1 : -4611686018427387904 ≤ a) (h2 : a ≤ 4611686018427387904) : IntMulOk a b := PySem.IntMulOk.of_left (PySem.intBits_le_64 (by omega) (by omega))
theorem mulOk_right {a b : Int} (h1 : -4611686018427387904 ≤ b) (h2 : b ≤ 4611686018427387904) : IntMulOk a b := PySem.IntMulOk.of_right (PySem.intBits_le_64 (by omega) (by omega))
theorem pylong_small {x y : Int} (h1 : 0 < y) (h2 : y ≤ 4611686018427387904) : Builtin.divisionGoesByPylong x y = false := by
  unfold Builtin.divisionGoesByPylong
  have : y.natAbs.log2 < 64 := by
    rw [Nat.log2_lt (by omega)]
    omega
  have hy : (y == 0) = false := by simp; omega
  simp only [hy]
  simp
  intro h
  omega
theorem fmod_lo {a b : Int} (h : 0 < b) : 0 ≤ a.fmod b := by
  rw [Int.fmod_eq_emod_of_nonneg _ (by omega)]
  exact Int.emod_nonneg _ (by omega)
theorem fmod_hi {a b : Int} (h : 0 < b) : a.fmod b < b := by
  rw [Int.fmod_eq_emod_of_nonneg _ (by omega)]
  exact Int.emod_lt_of_pos _ h
theorem fdiv_lo {a b : Int} (h0 : 0 ≤ a) (h : 0 < b) : 0 ≤ a.fdiv b := by
  rw [Int.fdiv_eq_ediv_of_nonneg _ (by omega)]
  exact Int.ediv_nonneg h0 (by omega)

theorem ite_t {b : Bool} {A B : Prop} (hb : b = true) (h : A) : if b = true then A else B := by rw [if_pos hb]; exact h
theorem ite_f {b : Bool} {A B : Prop} (hb : b = false) (h : B) : if b = true then A else B := by rw [if_neg (by rw [hb]; decide)]; exact h
theorem callee_type {w : World} {hB : Heap} {K : Frag} {G : Gd w hB K} {T : String} {P : Prop} (h : P) : Callee G (.val (.type T)) ∧ P := ⟨.inl ⟨_, rfl⟩, h⟩
theorem callee_bi {w : World} {hB : Heap} {K : Frag} {G : Gd w hB K} {T : String} {P : Prop} (h : P) : Callee G (.val (.builtin T)) ∧ P := ⟨.inr (.inl ⟨_, rfl⟩), h⟩
theorem callee_ref {w : World} {hB : Heap} {K : Frag} {G : Gd w hB K} {a : Addr} {P : Prop} (hk : keepIn K (.ref a) = true) (h : P) : Callee G (.val (.ref a)) ∧ P := ⟨.inr (.inr ⟨_, rfl, hk⟩), h⟩

/-- nothing but the named objects is turned -/
def Keep (ex : List Addr) (st st' : St) : Prop := ∀ b o, st b = some o → b ∉ ex → st' b = some o
theorem Keep.refl {ex : List Addr} {st : St} : Keep ex st st := fun _ _ e _ => e
theorem Keep.trans {ex : List Addr} {a b d : St} (x : Keep ex a b) (y : Keep ex b d) : Keep ex a d := fun p o e n => y p o (x p o e n) n
theorem Keep.new {ex : List Addr} {st : St} {a : Addr} {o : O} (h : st a = none) : Keep ex st (st.set a o) := fun b o' e _ => by
  rw [St.set_ne (fun q => by rw [q, h] at e; cases e)]; exact e
theorem Keep.set {ex : List Addr} {st : St} {a : Addr} {o : O} (h : a ∈ ex) : Keep ex st (st.set a o) := fun b o' e n => by
  rw [St.set_ne (fun q => n (by rw [q]; exact h))]; exact e
theorem Keep.one {a : Addr} {st st' : St} (x : Keep [a] st st') {b : Addr} {o : O} (e : st b = some o) (n : b ≠ a) : st' b = some o := x b o e (by simpa using n)
theorem Keep.all {st st' : St} (x : Keep [] st st') {b : Addr} {o : O} (e : st b = some o) : st' b = some o := x b o e (by simp)
theorem Keep.more {ex ex' : List Addr} {st st' : St} (x : Keep ex st st') (h : ∀ a ∈ ex, a ∈ ex') : Keep ex' st st' := fun b o e n => x b o e fun q => n (h b q)

/-- the box of digits: nothing is known of its numbers but their bounds -/
def BoxOK (st : St) (box : Addr) (T : Nat) : Prop := ∃ a b t : Int, st box = some (.list [.int a, .int b, .int t]) ∧ 0 ≤ a ∧ 0 ≤ b ∧ b ≤ 1000003 ∧ 0 ≤ t ∧ t ≤ T
theorem BoxOK.keep {st st' : St} {box : Addr} {T : Nat} {ex : List Addr} (h : BoxOK st box T) (k : Keep ex st st') (n : box ∉ ex) : BoxOK st' box T := by
  obtain ⟨a, b, t, e, r⟩ := h
  exact ⟨a, b, t, k _ _ e n, r⟩
theorem BoxOK.le {st : St} {box : Addr} {T T' : Nat} (h : BoxOK st box T) (k : T ≤ T') : BoxOK st box T' := by
  obtain ⟨a, b, t, e, h1, h2, h3, h4, h5⟩ := h
  exact ⟨a, b, t, e, h1, h2, h3, h4, Int.le_trans h5 (Int.ofNat_le.mpr k)⟩
set_option compiler.extract_closed false
local macro_rules | `(tactic| walk_at "te") => `(tactic| first
  | ((with_reducible show TE _ _ _ _ (Expr.Name _ _) _ _ _ _); (first | refine TE_name rfl ?_ | refine TE_global (K := KK _) (v := V.val _) (by assumption) rfl (fun _ _ _ => RelV.val _) ?_ rfl | refine TE_builtin (K := KK _) (by assumption) rfl (by first | exact Boot.«len» | exact Boot.«isinstance» | exact Boot.«int» | exact Boot.«bool» | exact Boot.«tuple» | exact Boot.«range» | exact Boot.«list» | exact Boot.«bytes» | exact Boot.«bytearray» | exact Boot.«max» | exact Boot.«str» | exact Boot.«enumerate») (by decide) ?_ rfl))
  | (with_reducible first | refine TE_int ?_ | refine TE_str ?_ | refine TE_none ?_ | refine TE_bool ?_ | refine TE_bytes ?_ | refine TE_binop ?_ | refine TE_sub ?_ | refine TB_not ?_ | refine TB_and ?_ | refine TB_or ?_ | refine TB_and_nil ?_ | refine TB_or_nil ?_ | refine TE_ifexp ?_ | refine TE_neg ?_ | refine TE_slice ?_ | refine TE_list ?_ | refine TE_tuple ?_ | refine TA_nil ?_ | refine TT_bool ?_ | refine TS_nil ?_ | refine T1_ret ?_ | refine T1_if ?_ | refine T1_cont ?_ | refine T1_pass ?_ | refine O_add ?_ | refine O_sub ?_ | refine O_neg ?_ | refine C_eq ?_ | refine C_ne ?_ | refine C_lt ?_ | refine C_le ?_ | refine C_gt ?_ | refine C_ge ?_ | refine C_eq_str ?_ | refine callee_type ?_ | refine callee_bi ?_ | refine TS_consG fun _ _ => ?_)
  | ((with_reducible first | refine TE_cmp ?_ ?hm | refine TB_cmp ?_ ?hm | refine TB_cmp2 ?_ ?hm); (case hm => with_unfolding_all rfl))
  | ((with_reducible refine TA_cons ?_ ?he); (case he => intro; exact rfl))
  | ((with_reducible refine T1_assign ?_ ?h1 ?h2); (case h1 => first | exact .inl rfl | exact .inr ⟨rfl, rfl, rfl⟩); (case h2 => exact rfl)) | ((with_reducible first | refine T1_assign_sub ?_ ?h2 | refine T1_assign_attr ?_ ?h2); (case h2 => exact rfl))
  | ((with_reducible refine T1_expr ?_ ?h1 ?h2); (case h1 => exact rfl); (case h2 => exact rfl))
  | ((with_reducible show TE _ _ _ _ (Expr.Call _ _ _ _) _ _ _ _); (first | refine TE_call (K := KK _) (by assumption) ?_ | refine TE_call0 (K := KK _) (by assumption) ?_ | refine TE_meth (K := KK _) (by assumption) ?_ | refine TE_meth0 (K := KK _) (by assumption) ?_))
  | ((with_reducible refine callee_ref ?hk ?_); (case hk => exact rfl))
  | ((with_reducible refine TB_val ?_ ?he); (case he => intros; exact rfl))
  | with_reducible refine (by assumption : Imp _ _) _ _ _ ?_)
local macro_rules | `(tactic| walk_at "tes") => `(tactic| repeat (walk_at "te"))


section
variable {prog : Program} {w : World} {hB : Heap} {c : Cx} {fr : Vars} {st : St} {E : EE}
theorem take_spec (G : Gd w hB (KK w)) (hr : Room c.A 1) {box : Addr} {T : Nat} {many : Int} {R : V → St → Prop} (hb : BoxOK st box T) (hT : T ≤ 1000000) (m1 : 1 ≤ many) (m2 : many ≤ 1000000)
    (h : ∀ r st', 0 ≤ r → r < many → BoxOK st' box (T + 1) → Keep [box] st st' → R (.int r) st') : TC prog w hB c c.A (.val (.ref 183)) [.ref box, .int many] fr st E R := by
  obtain ⟨a, b, t, hb, ha, hb0, hb1, ht0, ht1⟩ := hb
  refine TC.noE (K_fn G ["box", "many"] rfl rfl hr.limit rfl ?_ (by decide) (by decide) (by decide) ?_)
  · intro s
    exact len2 fun u1 u2 hK => BindsTo.of_eq rfl
  · intro L
    walk_at "tes"
    refine I_list hb (by decide) (by decide) rfl ?_
    walk_at "tes"
    split
    · rename_i hpos
      have hpos : a > 0 := of_decide_eq_true hpos
      walk_at "te"
      walk_at "tes"
      refine I_list hb (by decide) (by decide) rfl ?_
      walk_at "tes"
      refine O_mod (by omega) ?_
      walk_at "tes"
      refine I_list hb (by decide) (by decide) rfl ?_
      walk_at "tes"
      refine O_fdiv (by omega) (pylong_small (by omega) (by omega)) ?_
      walk_at "tes"
      refine S_list (i := 0) rfl hb (by simp) (by simp) ?_
      walk_at "tes"
      exact h _ _ (fmod_lo (by omega)) (fmod_hi (by omega)) ⟨_, _, _, St.set_self .., fdiv_lo ha (by omega), hb0, hb1, ht0, by omega⟩ (Keep.set (by simp))
    · walk_at "tes"
      refine I_list hb (by decide) (by decide) rfl ?_
      walk_at "tes"
      refine S_list (i := 2) rfl hb (by simp) (by simp) ?_
      walk_at "tes"
      refine I_list (St.set_self ..) (by decide) (by decide) rfl ?_
      walk_at "tes"
      refine O_mul ?_ (mulOk_left (by omega) (by omega))
      walk_at "tes"
      refine O_mul ?_ (mulOk_left (by omega) (by omega))
      walk_at "tes"
      refine O_mul ?_ (mulOk_left (by omega) (by omega))
      walk_at "tes"
      refine O_mul ?_ (mulOk_left (by omega) (by omega))
      walk_at "tes"
      refine O_mul ?_ (mulOk_left (by omega) (by omega))
      walk_at "tes"
      refine O_mod (by omega) ?_
      walk_at "tes"
      refine O_mod (by omega) ?_
      walk_at "tes"
      exact h _ _ (fmod_lo (by omega)) (fmod_hi (by omega)) ⟨_, _, _, St.set_self .., ha, hb0, hb1, by omega, by omega⟩ (Keep.set (by simp))
end

inductive Stp where
  | lit | short
  | mat (far many : Nat)
  | rep (k many : Nat)
def Stp.v : Stp → V
  | .lit => .tup [.str "lit"]
  | .short => .tup [.str "short"]
  | .mat f m => .tup [.str "match", .int f, .int m]
  | .rep k m => .tup [.str "rep", .int k, .int m]
def Stp.size : Stp → Nat
  | .lit => 1
  | .short => 1
  | .mat _ m => m
  | .rep _ m => m
def Stp.ok : Stp → Prop
  | .lit => True
  | .short => True
  | .mat f m => f ≤ 1000000 ∧ 2 ≤ m ∧ m ≤ 273
  | .rep k m => k < 4 ∧ 2 ≤ m ∧ m ≤ 273

section
variable {prog : Program} {w : World} {hB : Heap} {c : Cx} {fr : Vars} {st : St} {E : EE}

theorem whole_spec (G : Gd w hB (KK w)) (hr : Room c.A 1) {i : Int} {x : Str} {R : V → St → Prop} (h : R .none st) : TC prog w hB c c.A (.val (.ref 132)) [.int i, .str x] fr st E R := by
  refine TC.noE (K_fn G ["number", "word"] rfl rfl hr.limit rfl ?_ (by decide) (by decide) (by decide) ?_)
  · intro s
    exact len2 fun u1 u2 hK => BindsTo.of_eq rfl
  · intro L
    walk_at "tes"
    refine K_isi_int_int ?_
    walk_at "tes"
    simp only [Bool.not_true, Bool.false_eq_true, if_false]
    walk_at "tes"
    refine K_isi_int_bool ?_
    walk_at "tes"
    simp only [Bool.false_eq_true, if_false]
    walk_at "tes"
    simp only [Bool.false_eq_true, if_false]
    walk_at "tes"
    exact h

theorem number_spec (G : Gd w hB (KK w)) (hr : Room c.A 2) {i lo hi : Int} {x : Str} {R : V → St → Prop} (h1 : lo ≤ i) (h2 : i ≤ hi) (h : R .none st) :
    TC prog w hB c c.A (.val (.ref 139)) [.int i, .int lo, .int hi, .str x] fr st E R := by
  refine TC.noE (K_fn G ["number", "least", "most", "word"] rfl rfl hr.limit rfl ?_ (by decide) (by decide) (by decide) ?_)
  · intro s
    exact len4 fun u1 u2 u3 u4 hK => BindsTo.of_eq rfl
  · intro L
    walk_at "tes"
    refine whole_spec G (hr.deeper _) ?_
    refine ⟨trivial, ?_⟩
    walk_at "tes"
    have e1 : decide (i < lo) = false := by simp; omega
    rw [e1]
    simp only [Bool.false_eq_true, if_false]
    walk_at "tes"
    refine C_isnot_none_int ?_
    walk_at "tes"
    simp only [if_true]
    walk_at "tes"
    have e2 : decide (i > hi) = false := by simp; omega
    rw [e2]
    simp only [Bool.false_eq_true, if_false]
    walk_at "tes"
    simp only [Bool.false_eq_true, if_false]
    walk_at "tes"
    exact h
end

section
variable {prog : Program} {w : World} {hB : Heap} {c : Cx} {fr : Vars} {st : St} {E : EE}

theorem length_spec (G : Gd w hB (KK w)) (hr : Room c.A 4) {s : Stp} (ho : s.ok) {R : V → St → Prop} (h : R (.int s.size) st) : TC prog w hB c c.A (.val (.ref 146)) [s.v] fr st E R := by
  refine TC.noE (K_fn G ["step"] rfl rfl hr.limit rfl ?_ (by decide) (by decide) (by decide) ?_)
  · intro s
    exact len1 fun u1 hK => BindsTo.of_eq rfl
  · intro L
    have r3 := hr.deeper (envX "step_length" { kind := ScopeKind.function, names := [], isGenerator := false, isCoroutine := false } L 146 (.ref 145) [])
    cases s with
    | lit =>
      walk_at "tes"
      refine K_isi_tup ?_
      walk_at "tes"
      refine ite_f rfl ?_
      walk_at "tes"
      refine K_len_tup (by decide) ?_
      walk_at "tes"
      refine ite_f rfl ?_
      walk_at "tes"
      refine I_tup (by decide) (by decide) rfl ?_
      refine TE_gtup (K := KK _) (ns := ["lit", "match", "rep", "short"]) G rfl rfl rfl rfl (.cons _ _ (.cons _ _ (.cons _ _ (.cons _ _ .nil)))) ?_ rfl
      refine C_notin_tup rfl ?_
      walk_at "tes"
      refine ite_f rfl ?_
      walk_at "tes"
      refine ite_f rfl ?_
      walk_at "tes"
      refine I_tup (by decide) (by decide) rfl ?_
      walk_at "tes"
      refine ⟨by decide, ?_⟩
      refine C_in_tup (ns := ["lit", "short"]) rfl ?_
      walk_at "tes"
      refine ite_t rfl ?_
      walk_at "tes"
      refine K_len_tup (by decide) ?_
      walk_at "tes"
      refine ite_f rfl ?_
      walk_at "tes"
      exact h
    | short =>
      walk_at "tes"
      refine K_isi_tup ?_
      walk_at "tes"
      refine ite_f rfl ?_
      walk_at "tes"
      refine K_len_tup (by decide) ?_
      walk_at "tes"
      refine ite_f rfl ?_
      walk_at "tes"
      refine I_tup (by decide) (by decide) rfl ?_
      refine TE_gtup (K := KK _) (ns := ["lit", "match", "rep", "short"]) G rfl rfl rfl rfl (.cons _ _ (.cons _ _ (.cons _ _ (.cons _ _ .nil)))) ?_ rfl
      refine C_notin_tup rfl ?_
      walk_at "tes"
      refine ite_f rfl ?_
      walk_at "tes"
      refine ite_f rfl ?_
      walk_at "tes"
      refine I_tup (by decide) (by decide) rfl ?_
      walk_at "tes"
      refine ⟨by decide, ?_⟩
      refine C_in_tup (ns := ["lit", "short"]) rfl ?_
      walk_at "tes"
      refine ite_t rfl ?_
      walk_at "tes"
      refine K_len_tup (by decide) ?_
      walk_at "tes"
      refine ite_f rfl ?_
      walk_at "tes"
      exact h
    | mat f m =>
      walk_at "tes"
      refine K_isi_tup ?_
      walk_at "tes"
      refine ite_f rfl ?_
      walk_at "tes"
      refine K_len_tup (by simp) ?_
      walk_at "tes"
      refine ite_f rfl ?_
      walk_at "tes"
      refine I_tup (by decide) (by decide) rfl ?_
      refine TE_gtup (K := KK _) (ns := ["lit", "match", "rep", "short"]) G rfl rfl rfl rfl (.cons _ _ (.cons _ _ (.cons _ _ (.cons _ _ .nil)))) ?_ rfl
      refine C_notin_tup rfl ?_
      walk_at "tes"
      refine ite_f rfl ?_
      walk_at "tes"
      refine ite_f rfl ?_
      walk_at "tes"
      refine I_tup (by decide) (by decide) rfl ?_
      walk_at "tes"
      refine ⟨by decide, ?_⟩
      refine C_in_tup (ns := ["lit", "short"]) rfl ?_
      walk_at "tes"
      refine ite_f rfl ?_
      walk_at "tes"
      refine K_len_tup (by simp) ?_
      walk_at "tes"
      refine ite_f rfl ?_
      walk_at "tes"
      refine I_tup (by decide) (by decide) rfl ?_
      walk_at "tes"
      refine whole_spec G ((hr.deeper _).less (by decide)) ?_
      refine ⟨trivial, ?_⟩
      walk_at "tes"
      refine I_tup (by decide) (by decide) rfl ?_
      refine TA_cons (TE_global (K := KK _) (v := V.int 2) G rfl (fun _ _ _ => RelV.int _ _) ?_ rfl)
      refine TA_cons (TE_global (K := KK _) (v := V.int 273) G rfl (fun _ _ _ => RelV.int _ _) ?_ rfl)
      walk_at "tes"
      refine number_spec G ((hr.deeper _).less (by decide)) ?_ ?_ ?_
      · have := ho.2.1; omega
      · have := ho.2.2; omega
      refine ⟨trivial, ?_⟩
      walk_at "tes"
      refine I_tup (by decide) (by decide) rfl ?_
      walk_at "tes"
      exact h
    | rep f m =>
      walk_at "tes"
      refine K_isi_tup ?_
      walk_at "tes"
      refine ite_f rfl ?_
      walk_at "tes"
      refine K_len_tup (by simp) ?_
      walk_at "tes"
      refine ite_f rfl ?_
      walk_at "tes"
      refine I_tup (by decide) (by decide) rfl ?_
      refine TE_gtup (K := KK _) (ns := ["lit", "match", "rep", "short"]) G rfl rfl rfl rfl (.cons _ _ (.cons _ _ (.cons _ _ (.cons _ _ .nil)))) ?_ rfl
      refine C_notin_tup rfl ?_
      walk_at "tes"
      refine ite_f rfl ?_
      walk_at "tes"
      refine ite_f rfl ?_
      walk_at "tes"
      refine I_tup (by decide) (by decide) rfl ?_
      walk_at "tes"
      refine ⟨by decide, ?_⟩
      refine C_in_tup (ns := ["lit", "short"]) rfl ?_
      walk_at "tes"
      refine ite_f rfl ?_
      walk_at "tes"
      refine K_len_tup (by simp) ?_
      walk_at "tes"
      refine ite_f rfl ?_
      walk_at "tes"
      refine I_tup (by decide) (by decide) rfl ?_
      walk_at "tes"
      refine whole_spec G ((hr.deeper _).less (by decide)) ?_
      refine ⟨trivial, ?_⟩
      walk_at "tes"
      refine I_tup (by decide) (by decide) rfl ?_
      refine TA_cons (TE_global (K := KK _) (v := V.int 2) G rfl (fun _ _ _ => RelV.int _ _) ?_ rfl)
      refine TA_cons (TE_global (K := KK _) (v := V.int 273) G rfl (fun _ _ _ => RelV.int _ _) ?_ rfl)
      walk_at "tes"
      refine number_spec G ((hr.deeper _).less (by decide)) ?_ ?_ ?_
      · have := ho.2.1; omega
      · have := ho.2.2; omega
      refine ⟨trivial, ?_⟩
      walk_at "tes"
      refine I_tup (by decide) (by decide) rfl ?_
      walk_at "tes"
      exact h
end

abbrev rowV (row : List Nat) : List V := row.map fun (n : Nat) => .int (n : Int)
def RepsAt (st : St) (x dx : Addr) (row : List Nat) : Prop := st x = some (.inst 120 dx) ∧ ∃ l, st dx = some (.dct [("row", .ref l)]) ∧ st l = some (.list (rowV row))
theorem RepsAt.keep {st st' : St} {x dx : Addr} {row : List Nat} (h : RepsAt st x dx row) (k : Keep [] st st') : RepsAt st' x dx row :=
  let ⟨a, l, b, d⟩ := h; ⟨k.all a, l, k.all b, k.all d⟩

theorem ne_of {st : St} {a b : Addr} {o p : O} (h1 : st a = some o) (h2 : st b = some p) (hne : o ≠ p) : a ≠ b := fun e => by subst e; rw [h1] at h2; exact hne (by simpa using h2)
theorem ne_new {st : St} {a b : Addr} {o : O} (h1 : st a = some o) (h2 : st b = none) : a ≠ b := fun e => by subst e; rw [h1] at h2; cases h2
theorem BoxOK.ne {st : St} {box d : Addr} {T : Nat} (b : BoxOK st box T) (h : st d = none) : box ≠ d := by
  obtain ⟨_, _, _, e, _⟩ := b
  exact ne_new e h

section
variable {prog : Program} {w : World} {hB : Heap} {c : Cx} {fr : Vars} {st : St} {E : EE}

theorem init_spec (G : Gd w hB (KK w)) (hr : Room c.A 1) {x dx a : Addr} {row : List V} {es : List (Str × V)} {R : V → St → Prop} (hx : st x = some (.inst 120 dx)) (hd : st dx = some (.dct es)) (hz : es.length ≤ 900) (ha : st a = some (.list row)) (hl : row.length ≤ 1000000)
    (h : ∀ l, st l = none → R .none ((st.set l (.list row)).set dx (.dct (putD "row" (.ref l) es)))) : TCd prog w hB c c.A (.val (.ref 82)) [.ref x, .ref a] fr st NoE R := by
  refine D_fn G ["self", "row"] rfl rfl hr.limit rfl ?_ (by decide) (by decide) (by decide) ?_
  · intro s
    exact len2 fun u1 u2 hK => binds_K hK rfl rfl rfl rfl rfl
  · intro L
    walk_at "tes"
    refine K_list_list ha hl fun l hl0 => ?_
    walk_at "tes"
    have n1 := ne_new hx hl0
    have n2 := ne_new hd hl0
    refine S_attr (K := KK _) G (C := 120) (dx := dx) (es := es) (by rw [St.set_ne n1]; exact hx) (by rw [St.set_ne n2]; exact hd) hz rfl rfl rfl rfl ?_
    walk_at "tes"
    exact h l hl0

theorem reps_spec (G : Gd w hB (KK w)) (hr : Room c.A 3) {a : Addr} {row : List Nat} {R : V → St → Prop} (ha : st a = some (.list (rowV row))) (hl : row.length ≤ 1000)
    (h : ∀ x dx st', st x = none → st dx = none → RepsAt st' x dx row → Keep [] st st' → R (.ref x) st') : TC prog w hB c c.A (.val (.ref 120)) [.ref a] fr st E R := by
  refine TC.noE (K_class (K := KK _) G rfl rfl rfl fun A' x dx e1 e2 e3 hx hd hne => ?_)
  have hr' : Room A' 1 := ⟨e1.trans hr.handled, by have := hr.depth; omega, by have := hr.units; omega⟩
  have nx := ne_new ha hx
  have nd := ne_new ha hd
  refine init_spec (c := { c with A := A' }) G hr' (x := x) (dx := dx) (a := a) (row := rowV row) (es := []) (St.set_self ..) (by rw [St.set_ne (Ne.symm hne)]; exact St.set_self ..) (by simp) (by rw [St.set_ne nx, St.set_ne nd]; exact ha) (by simp; omega) fun l hl0 => ⟨rfl, ?_⟩
  have lx : l ≠ x := fun e => by subst e; simp at hl0
  have ld : l ≠ dx := fun e => by subst e; rw [St.set_ne (Ne.symm hne)] at hl0; simp at hl0
  refine h x dx _ hx hd ⟨?_, l, St.set_self .., ?_⟩ ?_
  · rw [St.set_ne hne, St.set_ne (Ne.symm lx)]; exact St.set_self ..
  · rw [St.set_ne ld]; exact St.set_self ..
  · intro b o e _
    have b1 := ne_new e hx
    have b2 := ne_new e hd
    have b3 : b ≠ l := fun q => by subst q; rw [St.set_ne b1, St.set_ne b2] at hl0; rw [e] at hl0; cases hl0
    rw [St.set_ne b2, St.set_ne b3, St.set_ne b1, St.set_ne b2]
    exact e

theorem first_spec (G : Gd w hB (KK w)) (hr : Room c.A 1) {x dx : Addr} {row : List Nat} {d : Nat} {R : V → St → Prop} (hx : RepsAt st x dx row) (hd : row[0]? = some d) (h : R (.int d) st) :
    TC prog w hB c c.A (.val (.ref 96)) [.ref x] fr st E R := by
  obtain ⟨hx, l, hdx, hl⟩ := hx
  refine TC.noE (K_fn G ["self"] rfl rfl hr.limit rfl ?_ (by decide) (by decide) (by decide) ?_)
  · intro s
    exact len1 fun u1 hK => BindsTo.of_eq rfl
  · intro L
    walk_at "tes"
    refine TE_attr (K := KK _) G ?_ rfl
    walk_at "tes"
    refine ⟨x, 120, dx, _, l, rfl, hx, hdx, rfl, ?_, rfl, rfl, _, rfl, rfl⟩
    walk_at "tes"
    refine I_list hl (by decide) (by decide) (v := .int d) ?_ ?_
    · show (rowV row)[0]? = _
      simp [hd]
    walk_at "tes"
    exact h

/-- a row that is written anew -/
theorem reps_put {x dx l l' : Addr} {row' : List Nat} {st st' : St} (hx : st x = some (.inst 120 dx)) (hdx : st dx = some (.dct [("row", .ref l)])) (k : Keep [] st st') (hl : st' l' = some (.list (rowV row'))) :
    RepsAt (st'.set dx (.dct (putD "row" (.ref l') [("row", .ref l)]))) x dx row' ∧ Keep [dx] st (st'.set dx (.dct (putD "row" (.ref l') [("row", .ref l)]))) := by
  have hx' := k.all hx
  have hdx' := k.all hdx
  have n1 := ne_of hx' hdx' (fun e => nomatch e)
  have n2 := ne_of hl hdx' (fun e => nomatch e)
  refine ⟨⟨by rw [St.set_ne n1]; exact hx', l', ?_, by rw [St.set_ne n2]; exact hl⟩, fun b o e n => ?_⟩
  · rw [St.set_self]; rfl
  · rw [St.set_ne (by simpa using n)]; exact k.all e

theorem put_spec (G : Gd w hB (KK w)) (hr : Room c.A 1) {x dx : Addr} {row : List Nat} {d : Nat} {R : V → St → Prop} (hx : RepsAt st x dx row) (hz : row.length = 4)
    (h : ∀ st', RepsAt st' x dx (d :: row.take 3) → Keep [dx] st st' → R .none st') :
    TC prog w hB c c.A (.val (.ref 110)) [.ref x, .int d] fr st E R := by
  obtain ⟨hx, l, hdx, hl⟩ := hx
  refine TC.noE (K_fn G ["self", "distance"] rfl rfl hr.limit rfl ?_ (by decide) (by decide) (by decide) ?_)
  · intro s
    exact len2 fun u1 u2 hK => BindsTo.of_eq rfl
  · intro L
    walk_at "tes"
    refine ⟨by simp, fun a ha => ?_⟩
    have k1 : Keep [] st (st.set a (.list [.int d])) := Keep.new ha
    refine TE_sub (TE_attr (K := KK _) G ?_ rfl)
    walk_at "tes"
    refine ⟨x, 120, dx, _, l, rfl, k1.all hx, k1.all hdx, rfl, ?_, rfl, rfl, _, rfl, rfl⟩
    walk_at "tes"
    refine I_list_slice (lo := none) (hi := some 3) (k1.all hl) .none (.int 3) (by simp; omega) fun b hb => ?_
    have k2 := k1.trans (Keep.new (o := .list (cut (rowV row) none (some 3))) hb)
    have nab : a ≠ b := fun e => by subst e; simp at hb
    refine O_add_list (xs := [.int d]) (ys := cut (rowV row) none (some 3)) (by rw [St.set_ne nab]; exact St.set_self ..) (St.set_self ..) (by simp [cut]; omega) fun e he => ?_
    have k3 := k2.trans (Keep.new (o := .list ([V.int d] ++ cut (rowV row) none (some 3))) he)
    walk_at "tes"
    refine S_attr (K := KK _) G (C := 120) (dx := dx) (es := [("row", .ref l)]) (k3.all hx) (k3.all hdx) (by simp) rfl rfl rfl rfl ?_
    walk_at "tes"
    have := reps_put (row' := d :: row.take 3) (l' := e) hx hdx k3 (by rw [St.set_self]; simp [cut, List.map_take])
    exact h _ this.1 this.2

theorem use_spec (G : Gd w hB (KK w)) (hr : Room c.A 1) {x dx : Addr} {row : List Nat} {k d : Nat} {R : V → St → Prop} (hx : RepsAt st x dx row) (hz : row.length = 4) (hk : row[k]? = some d)
    (h : ∀ st', RepsAt st' x dx (d :: row.eraseIdx k) → Keep [dx] st st' → R (.int d) st') :
    TC prog w hB c c.A (.val (.ref 103)) [.ref x, .int k] fr st E R := by
  obtain ⟨hx, l, hdx, hl⟩ := hx
  have hk4 : k < 4 := by have := (List.getElem?_eq_some_iff.mp hk).1; omega
  refine TC.noE (K_fn G ["self", "index"] rfl rfl hr.limit rfl ?_ (by decide) (by decide) (by decide) ?_)
  · intro s
    exact len2 fun u1 u2 hK => BindsTo.of_eq rfl
  · intro L
    walk_at "tes"
    refine TE_attr (K := KK _) G ?_ rfl
    walk_at "tes"
    refine ⟨x, 120, dx, _, l, rfl, hx, hdx, rfl, ?_, rfl, rfl, _, rfl, rfl⟩
    walk_at "tes"
    refine I_list hl (by omega) (by omega) (v := .int d) ?_ ?_
    · simp [hk]
    walk_at "tes"
    refine ⟨by simp, fun a ha => ?_⟩
    have k1 : Keep [] st (st.set a (.list [.int d])) := Keep.new ha
    refine TE_sub (TE_attr (K := KK _) G ?_ rfl)
    walk_at "tes"
    refine ⟨x, 120, dx, _, l, rfl, k1.all hx, k1.all hdx, rfl, ?_, rfl, rfl, _, rfl, rfl⟩
    walk_at "tes"
    refine I_list_slice (lo := none) (hi := some k) (k1.all hl) .none (.int k) (by simp; omega) fun b hb => ?_
    have k2 := k1.trans (Keep.new (o := .list (cut (rowV row) none (some k))) hb)
    have nab : a ≠ b := fun e => by subst e; simp at hb
    refine O_add_list (xs := [.int d]) (ys := cut (rowV row) none (some k)) (by rw [St.set_ne nab]; exact St.set_self ..) (St.set_self ..) (by simp [cut]; omega) fun e he => ?_
    have k3 := k2.trans (Keep.new (o := .list ([V.int d] ++ cut (rowV row) none (some k))) he)
    refine TE_sub (TE_attr (K := KK _) G ?_ rfl)
    walk_at "tes"
    refine ⟨x, 120, dx, _, l, rfl, k3.all hx, k3.all hdx, rfl, ?_, rfl, rfl, _, rfl, rfl⟩
    walk_at "tes"
    refine I_list_slice (lo := some (k + 1)) (hi := none) (k3.all hl) (.int (k + 1)) .none (by simp; omega) fun f hf => ?_
    have k4 := k3.trans (Keep.new (o := .list (cut (rowV row) (some (k + 1)) none)) hf)
    have nef : e ≠ f := fun q => by subst q; simp at hf
    refine O_add_list (xs := [V.int d] ++ cut (rowV row) none (some k)) (ys := cut (rowV row) (some (k + 1)) none) (by rw [St.set_ne nef]; exact St.set_self ..) (St.set_self ..) (by simp [cut]; omega) fun g hg => ?_
    have k5 := k4.trans (Keep.new (o := .list (([V.int d] ++ cut (rowV row) none (some k)) ++ cut (rowV row) (some (k + 1)) none)) hg)
    walk_at "tes"
    refine S_attr (K := KK _) G (C := 120) (dx := dx) (es := [("row", .ref l)]) (k5.all hx) (k5.all hdx) (by simp) rfl rfl rfl rfl ?_
    walk_at "tes"
    have := reps_put (row' := d :: row.eraseIdx k) (l' := g) hx hdx k5 (by
      rw [St.set_self, List.eraseIdx_eq_take_drop_succ]
      simp [cut, List.map_take, List.map_drop, List.map_append]
      rw [List.take_of_length_le (by simp)])
    exact h _ this.1 this.2

theorem copy_spec (G : Gd w hB (KK w)) (hr : Room c.A 5) {x dx : Addr} {row : List Nat} {R : V → St → Prop} (hx : RepsAt st x dx row) (hz : row.length = 4)
    (h : ∀ y dy st', st y = none → st dy = none → RepsAt st' y dy row → Keep [] st st' → R (.ref y) st') :
    TC prog w hB c c.A (.val (.ref 117)) [.ref x] fr st E R := by
  obtain ⟨hx, l, hdx, hl⟩ := hx
  refine TC.noE (K_fn G ["self"] rfl rfl hr.limit rfl ?_ (by decide) (by decide) (by decide) ?_)
  · intro s
    exact len1 fun u1 hK => BindsTo.of_eq rfl
  · intro L
    walk_at "tes"
    refine TE_attr (K := KK _) G ?_ rfl
    walk_at "tes"
    refine ⟨x, 120, dx, _, l, rfl, hx, hdx, rfl, ?_, rfl, rfl, _, rfl, rfl⟩
    walk_at "tes"
    refine reps_spec G ((hr.deeper _).less (by decide)) hl (by omega) fun y dy st' hy hdy hR k => ?_
    walk_at "tes"
    exact h y dy st' hy hdy hR k
end

def Stp.far (s : Stp) (row : List Nat) : Nat := match s with
  | .lit => 0
  | .short => row.getD 0 0
  | .mat f _ => f
  | .rep k _ => row.getD k 0
def Stp.turn (s : Stp) (row : List Nat) : List Nat := match s with
  | .lit => row
  | .short => row
  | .mat f _ => f :: row.take 3
  | .rep k _ => row.getD k 0 :: row.eraseIdx k
theorem getq {row : List Nat} {k : Nat} (h : k < row.length) : row[k]? = some (row.getD k 0) := by simp [List.getD, h]
theorem turn_length {s : Stp} {row : List Nat} (ho : s.ok) (h : row.length = 4) : (s.turn row).length = 4 := by
  cases s with
  | lit => exact h
  | short => exact h
  | mat f m => simp [Stp.turn]; omega
  | rep k m =>
    have := ho.1
    simp only [Stp.turn, List.length_cons, List.length_eraseIdx]
    rw [if_pos (by omega)]; omega

section
variable {prog : Program} {w : World} {hB : Heap} {c : Cx} {fr : Vars} {st : St} {E : EE}

theorem distance_spec (G : Gd w hB (KK w)) (hr : Room c.A 6) {s : Stp} (ho : s.ok) {x dx : Addr} {row : List Nat} (hx : RepsAt st x dx row) (hz : row.length = 4) {R : V → St → Prop}
    (h : ∀ st', RepsAt st' x dx (s.turn row) → Keep [dx] st st' → R (.int (s.far row)) st') : TC prog w hB c c.A (.val (.ref 153)) [s.v, .ref x] fr st E R := by
  refine TC.noE (K_fn G ["step", "reps"] rfl rfl hr.limit rfl ?_ (by decide) (by decide) (by decide) ?_)
  · intro s
    exact len2 fun u1 u2 hK => BindsTo.of_eq rfl
  · intro L
    walk_at "tes"
    refine length_spec G ((hr.deeper _).less (by decide)) ho ?_
    refine ⟨trivial, ?_⟩
    have hx0 := hx.1
    obtain ⟨l, hdx, hl⟩ := hx.2
    cases s with
    | lit =>
      walk_at "tes"
      refine I_tup (by decide) (by decide) rfl ?_
      walk_at "tes"
      refine ite_t rfl ?_
      walk_at "tes"
      exact h st hx .refl
    | short =>
      walk_at "tes"
      refine I_tup (by decide) (by decide) rfl ?_
      walk_at "tes"
      refine ite_f rfl ?_
      walk_at "tes"
      refine I_tup (by decide) (by decide) rfl ?_
      walk_at "tes"
      refine ite_t rfl ?_
      walk_at "tes"
      refine ⟨.ref 96, m_inst (K := KK _) G hx0 hdx rfl rfl rfl rfl, .inr ⟨_, rfl, rfl⟩, ?_⟩
      refine first_spec G ((hr.deeper _).less (by decide)) hx (d := row.getD 0 0) (getq (by omega)) ?_
      walk_at "tes"
      exact h st hx .refl
    | mat f m =>
      walk_at "tes"
      refine I_tup (by decide) (by decide) rfl ?_
      walk_at "tes"
      refine ite_f rfl ?_
      walk_at "tes"
      refine I_tup (by decide) (by decide) rfl ?_
      walk_at "tes"
      refine ite_f rfl ?_
      walk_at "tes"
      refine I_tup (by decide) (by decide) rfl ?_
      walk_at "tes"
      refine ite_t rfl ?_
      walk_at "tes"
      refine ⟨.ref 110, m_inst (K := KK _) G hx0 hdx rfl rfl rfl rfl, .inr ⟨_, rfl, rfl⟩, ?_⟩
      walk_at "tes"
      refine I_tup (by decide) (by decide) rfl ?_
      walk_at "tes"
      refine put_spec G ((hr.deeper _).less (by decide)) hx hz fun st' hx' k => ?_
      refine ⟨trivial, ?_⟩
      walk_at "tes"
      refine I_tup (by decide) (by decide) rfl ?_
      walk_at "tes"
      exact h st' hx' k
    | rep k m =>
      have hk := ho.1
      walk_at "tes"
      refine I_tup (by decide) (by decide) rfl ?_
      walk_at "tes"
      refine ite_f rfl ?_
      walk_at "tes"
      refine I_tup (by decide) (by decide) rfl ?_
      walk_at "tes"
      refine ite_f rfl ?_
      walk_at "tes"
      refine I_tup (by decide) (by decide) rfl ?_
      walk_at "tes"
      refine ite_f rfl ?_
      walk_at "tes"
      refine I_tup (by decide) (by decide) rfl ?_
      walk_at "tes"
      refine ite_t (by simp) ?_
      walk_at "tes"
      refine ite_f (by simp; omega) ?_
      walk_at "tes"
      refine ⟨.ref 103, m_inst (K := KK _) G hx0 hdx rfl rfl rfl rfl, .inr ⟨_, rfl, rfl⟩, ?_⟩
      walk_at "tes"
      refine I_tup (by decide) (by decide) rfl ?_
      walk_at "tes"
      refine use_spec G ((hr.deeper _).less (by decide)) hx hz (d := row.getD k 0) (getq (by omega)) fun st' hx' kk => ?_
      walk_at "tes"
      exact h st' hx' kk
end

/-- the named variables are in the frame -/
def Sub : Vars → Vars → Prop
  | [], _ => True
  | (x, v) :: r, fr => fr.lookup x = some v ∧ Sub r fr
theorem Sub.get : ∀ {b fr : Vars} {x : Str} {v : V}, Sub b fr → b.lookup x = some v → fr.lookup x = some v
  | [], _, _, _, _, e => by simp at e
  | (y, u) :: r, fr, x, v, ⟨h1, h2⟩, e => by
    rw [List.lookup_cons] at e
    cases hb : x == y with
    | true => rw [hb] at e; cases e; rw [beq_iff_eq.mp hb]; exact h1
    | false => rw [hb] at e; exact Sub.get h2 e
theorem Sub.cons : ∀ {b fr : Vars} {x : Str} {v : V}, Sub b fr → b.lookup x = none → Sub b (setVar fr x v)
  | [], _, _, _, _, _ => trivial
  | (y, u) :: r, fr, x, v, ⟨h1, h2⟩, e => by
    rw [List.lookup_cons] at e
    cases hb : x == y with
    | true => rw [hb] at e; cases e
    | false =>
      rw [hb] at e
      refine ⟨?_, Sub.cons h2 e⟩
      rw [lookup_setVar, if_neg (fun q => by rw [q] at hb; simp at hb)]
      exact h1
theorem Sub.bind {b fr : Vars} {x : Str} {v : V} (h : Sub b fr) (e : b.lookup x = none) : Sub ((x, v) :: b) (setVar fr x v) := ⟨by rw [lookup_setVar, if_pos rfl], h.cons e⟩

section
variable {prog : Program} {w : World} {hB : Heap} {c : Cx} {fr : Vars} {st : St} {E : EE}
theorem TS.weak {xs : List Stmt} {b : Vars} {R : Fl → Vars → St → Prop} (hs : Sub b fr) (h : TS prog w hB c xs b st E R) : TS prog w hB c xs fr st E R :=
  fun s Q ha hQ => h s Q (ha.weak fun _ _ e => hs.get e) hQ
theorem TS.weakG {xs : List Stmt} {b : Vars} {R : Fl → Vars → St → Prop} (hs : Sub b fr) (h : ∀ N, Imp R N → TS prog w hB c xs b st E N) : TS prog w hB c xs fr st E R := TS.weak hs (h _ fun _ _ _ x => x)
theorem TB.weak {x : Expr} {b : Vars} {R : Bool → St → Prop} (hs : Sub b fr) (h : TB prog w hB c x b st E R) : TB prog w hB c x fr st E R :=
  fun s Q ha hQ => h s Q (ha.weak fun _ _ e => hs.get e) fun v st' h' tk' hR a' e' => hQ v st' h' tk' hR ⟨a'.inv, ha.frm.ext e'⟩ e'
end

def copyBack (d : Nat) : Nat → List UInt8 → List UInt8
  | 0, out => out
  | n + 1, out => copyBack d n out ++ [(copyBack d n out).getD ((copyBack d n out).length - d) 0]
theorem copyBack_length (d : Nat) : ∀ (n : Nat) (out : List UInt8), (copyBack d n out).length = out.length + n
  | 0, _ => rfl
  | n + 1, out => by rw [copyBack, List.length_append, copyBack_length d n]; rfl

/-- what play_steps does; an error says whether it is BadDistance -/
def playGo (lits : List UInt8) : List Stp → List Nat → List UInt8 → Nat → Except Bool (List UInt8 × Nat)
  | [], _, out, sp => .ok (out, sp)
  | .lit :: ss, row, out, sp => if sp < lits.length then playGo lits ss row (out ++ [lits.getD sp 0]) (sp + 1) else .error false
  | s :: ss, row, out, sp => if 1 ≤ s.far row ∧ s.far row ≤ out.length then playGo lits ss (s.turn row) (copyBack (s.far row) s.size out) sp else .error true

def sizes (ss : List Stp) : Nat := (ss.map Stp.size).sum


theorem playGo_lit {lits : List UInt8} {ss : List Stp} {row : List Nat} {out : List UInt8} {sp : Nat} {r : List UInt8 × Nat} (h : playGo lits (.lit :: ss) row out sp = .ok r) :
    sp < lits.length ∧ playGo lits ss row (out ++ [lits.getD sp 0]) (sp + 1) = .ok r := by
  unfold playGo at h
  split at h
  · exact ⟨by assumption, h⟩
  · cases h
theorem playGo_far {lits : List UInt8} {s : Stp} {ss : List Stp} {row : List Nat} {out : List UInt8} {sp : Nat} {r : List UInt8 × Nat} (hs : s ≠ .lit) (h : playGo lits (s :: ss) row out sp = .ok r) :
    (1 ≤ s.far row ∧ s.far row ≤ out.length) ∧ playGo lits ss (s.turn row) (copyBack (s.far row) s.size out) sp = .ok r := by
  cases s with
  | lit => exact absurd rfl hs
  | _ =>
    unfold playGo at h
    split at h
    · exact ⟨by assumption, h⟩
    · cases h
def Stp.name : Stp → Str
  | .lit => "lit"
  | .short => "short"
  | .mat _ _ => "match"
  | .rep _ _ => "rep"
def Stp.rest : Stp → List V
  | .lit => []
  | .short => []
  | .mat f m => [.int f, .int m]
  | .rep k m => [.int k, .int m]
theorem Stp.v_eq (s : Stp) : s.v = .tup (.str s.name :: s.rest) := by cases s <;> rfl

theorem RepsAt.keepx {st st' : St} {x dx o : Addr} {b : List UInt8} {row : List Nat} (h : RepsAt st x dx row) (ho : st o = some (.barr b)) (k : Keep [o] st st') : RepsAt st' x dx row :=
  let ⟨a, l, e, d⟩ := h; ⟨k.one a (ne_of a ho fun q => nomatch q), l, k.one e (ne_of e ho fun q => nomatch q), k.one d (ne_of d ho fun q => nomatch q)⟩
theorem getu {l : List UInt8} {i : Nat} (h : i < l.length) : l[i]? = some (l.getD i 0) := by simp [List.getD, h]
theorem name_lit {s : Stp} (h : s ≠ .lit) : (s.name == ("lit" : Str)) = false := by cases s <;> first | exact absurd rfl h | rfl
theorem sizes_cons (s : Stp) (ss : List Stp) : sizes (s :: ss) = s.size + sizes ss := by simp [sizes]
theorem size_le {s : Stp} (h : s.ok) : s.size ≤ 273 := by cases s <;> simp [Stp.size] <;> exact h.2.2

section
variable {prog : Program} {w : World} {hB : Heap} {c : Cx} {fr : Vars} {st : St} {E : EE}

theorem I_step0 {slice : Expr} {s : Stp} {R : V → St → Prop} (h : R (.str s.name) st) : TItem prog w hB c slice s.v (.int 0) fr st E R := by
  rw [Stp.v_eq]
  exact I_tup (by decide) (by decide) rfl h

theorem play_spec (G : Gd w hB (KK w)) (hr : Room c.A 8) {a x dx : Addr} {steps : List Stp} {lits hist out : List UInt8} {row : List Nat} {R : V → St → Prop} (ha : st a = some (.list (steps.map Stp.v))) (hx : RepsAt st x dx row) (hz : row.length = 4)
    (hok : ∀ s ∈ steps, s.ok) (hgo : playGo lits steps row hist 0 = .ok (out, lits.length)) (hl1 : steps.length ≤ 900000) (hl2 : lits.length ≤ 900000) (hl3 : hist.length + sizes steps ≤ 900000)
    (h : ∀ st', Keep [] st st' → R (.bytes (out.drop hist.length)) st') : TC prog w hB c c.A (.val (.ref 161)) [.ref a, .bytes lits, .bytes hist, .ref x] fr st E R := by
  refine TC.noE (K_fn G ["steps", "literals", "history", "reps"] rfl rfl hr.limit rfl ?_ (by decide) (by decide) (by decide) ?_)
  · intro s
    exact len4 fun u1 u2 u3 u4 hK => binds_K hK rfl rfl rfl rfl rfl
  · intro L
    have hx0 := hx.1
    obtain ⟨l, hdx, hl⟩ := hx.2
    refine TS_consG fun _ _ => (T1_unpack_swapped (names := ["out", "spare", "own"]) ?_ hr.handled ?_ rfl rfl)
    · walk_at "tes"
      refine K_ba1 (by omega) fun o ho => ?_
      have k1 : Keep [] st (st.set o (.barr hist)) := Keep.new ho
      walk_at "tes"
      refine C_is_none_ref ?_
      walk_at "tes"
      refine ite_f rfl ?_
      walk_at "tes"
      refine ⟨.ref 117, m_inst (K := KK _) G (k1.all hx0) (k1.all hdx) rfl rfl rfl rfl, .inr ⟨_, rfl, rfl⟩, ?_⟩
      refine copy_spec G ((hr.deeper _).less (by decide)) (hx.keep k1) hz fun y dy st2 hy hdy hown k2 => ?_
      walk_at "tes"
      refine ⟨by simp, _, rfl, rfl, ?_⟩
      have k12 := k1.trans k2
      have hout2 : st2 o = some (.barr hist) := k2.all (St.set_self ..)
      walk_at "te"
      refine TS_consG fun _ _ => (T1_for PassE.never (.inl rfl) ?_)
      walk_at "tes"
      refine ⟨steps.map Stp.v, _, _, it_list (l := a) (hr.deeper _).handled, fun i fr st' => ∃ row' out' sp, Sub [("out", .ref o), ("spare", .int (sp : Nat)), ("own", .ref y), ("literals", .bytes lits), ("history", .bytes hist)] fr ∧
        Keep [] st st' ∧ st' o = some (.barr out') ∧ RepsAt st' y dy row' ∧ row'.length = 4 ∧ playGo lits (steps.drop i) row' out' sp = .ok (out, lits.length) ∧ out'.length + sizes (steps.drop i) ≤ 900000, ?_, ?_, ?_, ?_⟩
      · exact ⟨row, hist, 0, ⟨rfl, rfl, rfl, rfl, rfl, trivial⟩, k12, hout2, hown, hz, hgo, hl3⟩
      · rintro i fr st' ⟨_, _, _, _, k, _⟩
        exact k.all ha
      · rintro i fr st3 v hi hh0 hv
        refine e3 hh0 fun row' out' sp hh1 => a7 hh1 fun hs k hout hown hz' hgo' hsz => ?_
        clear hh1 hh0
        have hi' : i < steps.length := by simpa using hi
        obtain ⟨s, hsi⟩ : ∃ s, steps[i]? = some s := ⟨steps[i], List.getElem?_eq_getElem hi'⟩
        have hve : v = s.v := by
          rw [List.getElem?_map, hsi] at hv
          simpa using hv.symm
        subst hve
        have hdrop : steps.drop i = s :: steps.drop (i + 1) := by
          rw [List.drop_eq_getElem_cons hi']
          congr 1
          have := List.getElem?_eq_getElem hi'
          rw [hsi] at this
          exact (Option.some.inj this).symm
        have hso : s.ok := hok s (List.mem_of_getElem? hsi)
        rw [hdrop] at hgo' hsz
        rw [sizes_cons] at hsz
        refine TS.weakG (hs.bind rfl) fun _ _ => ?_
        walk_at "tes"
        refine distance_spec G ((hr.deeper _).less (by decide)) hso hown hz' fun st4 hown4 k4 => ?_
        obtain ⟨_, ly, hdy3, _⟩ := id hown
        have hout4 : st4 o = some (.barr out') := k4.one hout (ne_of hout hdy3 fun q => nomatch q)
        have k34 : Keep [] st st4 := fun b o' e _ => by
          have e3 := k.all e
          exact k4.one e3 (fun q => by subst q; have h9 := k1.all e; rw [hdy] at h9; cases h9)
        walk_at "tes"
        refine I_step0 ?_
        walk_at "tes"
        by_cases hlit : s = .lit
        · subst hlit
          refine ite_t rfl ?_
          obtain ⟨hsp, hgo2⟩ := playGo_lit hgo'
          walk_at "tes"
          refine K_len_bytes (by omega) ?_
          walk_at "tes"
          refine ite_f (by simp; omega) ?_
          walk_at "tes"
          refine ⟨.builtin "bytearray.append", m_bappend hout4, .inl ⟨_, rfl⟩, ?_⟩
          walk_at "tes"
          refine I_bytes (by omega) (by omega) (by omega) ?_
          walk_at "tes"
          refine K_bappend (x := lits.getD sp 0) (by simp) hout4 (by omega) ?_
          refine ⟨trivial, ?_⟩
          walk_at "tes"
          refine ⟨row', out' ++ [lits.getD sp 0], sp + 1, ⟨rfl, rfl, rfl, rfl, rfl, trivial⟩, ?_, St.set_self .., ?_, hz', hgo2, ?_⟩
          · exact fun b o' e _ => by
              rw [St.set_ne (fun q => by subst q; rw [ho] at e; cases e)]
              exact k34.all e
          · exact hown4.keepx hout4 (Keep.set (by simp))
          · simp [Stp.size] at hsz ⊢; omega
        · refine ite_f (name_lit hlit) ?_
          obtain ⟨⟨hd1, hd2⟩, hgo2⟩ := playGo_far hlit hgo'
          have hss := size_le hso
          walk_at "tes"
          refine ite_t (by simp; omega) ?_
          walk_at "tes"
          refine K_len_ba hout4 (by omega) ?_
          walk_at "tes"
          refine ite_f (by simp; omega) ?_
          walk_at "tes"
          refine T1_for PassE.never (.inl rfl) ?_
          walk_at "tes"
          refine length_spec G ((hr.deeper _).less (by decide)) hso ?_
          walk_at "tes"
          refine K_range ?_
          refine ⟨rngItems s.size, _, _, it_range (n := s.size) (hr.deeper _).handled (by omega), fun j fr st5 => Sub [("out", .ref o), ("distance", .int (s.far row' : Nat)), ("spare", .int (sp : Nat)), ("own", .ref y), ("literals", .bytes lits), ("history", .bytes hist)] fr ∧
            Keep [o] st4 st5 ∧ st5 o = some (.barr (copyBack (s.far row') j out')), ?_, ?_, ?_, ?_⟩
          · exact ⟨⟨rfl, rfl, rfl, rfl, rfl, rfl, trivial⟩, .refl, hout4⟩
          · exact fun _ _ _ _ => trivial
          · rintro j fr st5 v hj ⟨hs5, k5, hout5⟩ hv
            rw [rngItems_len] at hj
            have hlen := copyBack_length (s.far row') j out'
            refine TS.weakG (hs5.bind rfl) fun _ _ => ?_
            walk_at "tes"
            refine ⟨.builtin "bytearray.append", m_bappend hout5, .inl ⟨_, rfl⟩, ?_⟩
            walk_at "tes"
            refine K_len_ba hout5 (by omega) ?_
            walk_at "tes"
            refine I_ba (i := (copyBack (s.far row') j out').length - s.far row') (x := (copyBack (s.far row') j out').getD ((copyBack (s.far row') j out').length - s.far row') 0) (by omega) hout5 (by omega) (getu (by omega)) ?_
            walk_at "tes"
            refine K_bappend rfl hout5 (by omega) ?_
            refine ⟨trivial, ?_⟩
            walk_at "tes"
            exact ⟨⟨rfl, rfl, rfl, rfl, rfl, rfl, trivial⟩, k5.trans (Keep.set (by simp)), by rw [St.set_self]; rfl⟩
          · rintro fr st5 ⟨hs5, k5, hout5⟩
            rw [rngItems_len] at hout5
            walk_at "tes"
            refine ⟨s.turn row', copyBack (s.far row') s.size out', sp, ⟨hs5.1, hs5.2.2.1, hs5.2.2.2.1, hs5.2.2.2.2.1, hs5.2.2.2.2.2.1, trivial⟩, ?_, hout5, hown4.keepx hout4 k5, turn_length hso hz', hgo2, ?_⟩
            · exact fun b o' e _ => k5.one (k34.all e) (fun q => by subst q; rw [ho] at e; cases e)
            · rw [copyBack_length]; omega
      · rintro fr st3 hh0
        refine e3 hh0 fun row' out' sp hh1 => a7 hh1 fun hs k hout hown hz' hgo' hsz => ?_
        clear hh1 hh0
        rw [show (steps.map Stp.v).length = steps.length by simp, List.drop_length] at hgo' hsz
        have e : out' = out ∧ sp = lits.length := by
          unfold playGo at hgo'
          cases hgo'
          exact ⟨rfl, rfl⟩
        obtain ⟨rfl, rfl⟩ := e
        walk_at "te"
        refine TS.weakG hs fun _ _ => ?_
        walk_at "tes"
        refine K_len_bytes (by omega) ?_
        walk_at "tes"
        refine ite_f (by simp) ?_
        walk_at "tes"
        refine K_len_bytes (by omega) ?_
        refine I_ba_from hout (by omega) fun d hd => ?_
        walk_at "tes"
        refine K_bytes_ba (St.set_self ..) (by simp; omega) ?_
        walk_at "tes"
        exact h _ (k.trans (Keep.new hd))
    · intro x hx
      simp at hx
      rcases hx with rfl | rfl | rfl <;> exact .inl rfl
end

def Stp.isLit : Stp → Bool
  | .lit => true
  | _ => false
/-- what literals_of reads -/
def litGo (o : List UInt8) : List Stp → Nat → List UInt8
  | [], _ => []
  | s :: ss, p => (if s.isLit then [o.getD p 0] else []) ++ litGo o ss (p + s.size)
theorem isLit_name (s : Stp) : (s.name == ("lit" : Str)) = s.isLit := by cases s <;> rfl
theorem drop_at {α : Type} {l : List α} {i : Nat} {x : α} (h : l[i]? = some x) : l.drop i = x :: l.drop (i + 1) := by
  have hi := (List.getElem?_eq_some_iff.mp h).1
  rw [List.drop_eq_getElem_cons hi]
  congr 1
  have := List.getElem?_eq_getElem hi
  rw [h] at this
  exact (Option.some.inj this).symm
theorem step_at {steps : List Stp} {i : Nat} {v : V} (h : (steps.map Stp.v)[i]? = some v) : ∃ s, steps[i]? = some s ∧ v = s.v := by
  rw [List.getElem?_map] at h
  cases hs : steps[i]? with
  | none => rw [hs] at h; cases h
  | some s => rw [hs] at h; exact ⟨s, rfl, by simpa using h.symm⟩
theorem litGo_length_le (o : List UInt8) : ∀ (ss : List Stp) (p : Nat), (litGo o ss p).length ≤ ss.length
  | [], _ => Nat.le_refl _
  | s :: ss, p => by
    have := litGo_length_le o ss (p + s.size)
    unfold litGo
    rw [List.length_append, List.length_cons]
    split <;> simp <;> omega

section
variable {prog : Program} {w : World} {hB : Heap} {c : Cx} {fr : Vars} {st : St} {E : EE}

theorem lawsize_spec (G : Gd w hB (KK w)) (hr : Room c.A 1) {s : Stp} {R : V → St → Prop} (h : R (.int s.size) st) : TC prog w hB c c.A (.val (.ref 200)) [s.v] fr st E R := by
  refine TC.noE (K_fn G ["step"] rfl rfl hr.limit rfl ?_ (by decide) (by decide) (by decide) ?_)
  · intro s
    exact len1 fun u1 hK => BindsTo.of_eq rfl
  · intro L
    cases s with
    | lit =>
      walk_at "tes"
      refine K_len_tup (by decide) ?_
      walk_at "tes"
      refine ite_t rfl ?_
      walk_at "tes"
      exact h
    | short =>
      walk_at "tes"
      refine K_len_tup (by decide) ?_
      walk_at "tes"
      refine ite_t rfl ?_
      walk_at "tes"
      exact h
    | mat f m =>
      walk_at "tes"
      refine K_len_tup (by simp) ?_
      walk_at "tes"
      refine ite_f rfl ?_
      walk_at "tes"
      refine I_tup (by decide) (by decide) rfl ?_
      walk_at "tes"
      exact h
    | rep f m =>
      walk_at "tes"
      refine K_len_tup (by simp) ?_
      walk_at "tes"
      refine ite_f rfl ?_
      walk_at "tes"
      refine I_tup (by decide) (by decide) rfl ?_
      walk_at "tes"
      exact h

theorem literals_spec (G : Gd w hB (KK w)) (hr : Room c.A 6) {a : Addr} {steps : List Stp} {oct : List UInt8} {start : Nat} {R : V → St → Prop} (ha : st a = some (.list (steps.map Stp.v)))
    (hok : ∀ s ∈ steps, s.ok) (hz1 : oct.length ≤ 900000) (hz2 : steps.length ≤ 900000) (hz : start + sizes steps ≤ oct.length) (h : ∀ st', Keep [] st st' → R (.bytes (litGo oct steps start)) st') :
    TC prog w hB c c.A (.val (.ref 169)) [.ref a, .bytes oct, .int start] fr st E R := by
  refine TC.noE (K_fn G ["steps", "octets", "start"] rfl rfl hr.limit rfl ?_ (by decide) (by decide) (by decide) ?_)
  · intro s
    exact len3 fun u1 u2 u3 hK => binds_K hK rfl rfl rfl rfl rfl
  · intro L
    refine TS_consG fun _ _ => (T1_unpack_swapped (names := ["found", "place"]) ?_ hr.handled ?_ rfl rfl)
    · walk_at "tes"
      refine K_ba0 fun o ho => ?_
      have k1 : Keep [] st (st.set o (.barr [])) := Keep.new ho
      walk_at "tes"
      refine ⟨by simp, _, rfl, rfl, ?_⟩
      walk_at "tes"
      refine ite_t (by simp) ?_
      walk_at "tes"
      refine K_len_bytes (by omega) ?_
      walk_at "tes"
      refine ite_f (by simp; omega) ?_
      walk_at "tes"
      refine T1_for PassE.never (.inl rfl) ?_
      walk_at "tes"
      refine ⟨steps.map Stp.v, _, _, it_list (l := a) (hr.deeper _).handled, fun i fr st' => ∃ got place, Sub [("found", .ref o), ("place", .int (place : Nat)), ("octets", .bytes oct)] fr ∧
        Keep [] st st' ∧ st' o = some (.barr got) ∧ got ++ litGo oct (steps.drop i) place = litGo oct steps start ∧ place + sizes (steps.drop i) ≤ oct.length, ?_, ?_, ?_, ?_⟩
      · exact ⟨[], start, ⟨rfl, rfl, rfl, trivial⟩, k1, St.set_self .., rfl, hz⟩
      · rintro i fr st' ⟨_, _, _, k, _⟩
        exact k.all ha
      · rintro i fr st3 v hi hh0 hv
        refine e2 hh0 fun got place hh1 => a5 hh1 fun hs k hout hgo hsz => ?_
        clear hh1 hh0
        obtain ⟨s, hsi, rfl⟩ := step_at hv
        have hdrop := drop_at hsi
        have hso : s.ok := hok s (List.mem_of_getElem? hsi)
        rw [hdrop] at hgo hsz
        rw [sizes_cons] at hsz
        have hgl : got.length ≤ steps.length := by
          have h1 := congrArg List.length hgo
          rw [List.length_append] at h1
          have h2 := litGo_length_le oct steps start
          omega
        refine TS.weakG (hs.bind rfl) fun _ _ => ?_
        refine TS_consG fun _ _ => (T1_unpack_swapped (names := ["here", "place"]) ?_ (hr.deeper _).handled ?_ rfl rfl)
        · walk_at "tes"
          refine length_spec G ((hr.deeper _).less (by decide)) hso ?_
          walk_at "tes"
          refine ⟨by simp, _, rfl, rfl, ?_⟩
          walk_at "tes"
          refine K_len_bytes (by omega) ?_
          walk_at "tes"
          refine ite_f (by simp; omega) ?_
          walk_at "tes"
          refine I_step0 ?_
          walk_at "tes"
          have hkk : Keep [] st (st3.set o (.barr (got ++ [oct.getD place 0]))) := fun b o' e _ => by
            rw [St.set_ne (fun q => by subst q; rw [ho] at e; cases e)]
            exact k.all e
          cases hlit : s.isLit with
          | true =>
            refine ite_t (by rw [isLit_name]; exact hlit) ?_
            have h1 : s.size = 1 := by cases s <;> first | rfl | cases hlit
            walk_at "tes"
            refine ⟨.builtin "bytearray.append", m_bappend hout, .inl ⟨_, rfl⟩, ?_⟩
            walk_at "tes"
            refine I_bytes (by omega) (by omega) (by omega) ?_
            walk_at "tes"
            refine K_bappend (x := oct.getD place 0) (by simp) hout (by omega) ?_
            refine ⟨trivial, ?_⟩
            walk_at "tes"
            refine ⟨got ++ [oct.getD place 0], place + s.size, ⟨rfl, rfl, rfl, trivial⟩, hkk, St.set_self .., ?_, by omega⟩
            rw [← hgo, litGo, if_pos hlit]; simp
          | false =>
            refine ite_f (by rw [isLit_name]; exact hlit) ?_
            walk_at "tes"
            refine ⟨got, place + s.size, ⟨rfl, rfl, rfl, trivial⟩, k, hout, ?_, by omega⟩
            rw [← hgo, litGo, if_neg (by rw [hlit]; decide)]; simp
        · intro x hx
          simp at hx
          rcases hx with rfl | rfl <;> exact .inl rfl
      · rintro fr st3 hh0
        refine e2 hh0 fun got place hh1 => a5 hh1 fun hs k hout hgo hsz => ?_
        clear hh1 hh0
        rw [show (steps.map Stp.v).length = steps.length by simp, List.drop_length] at hgo
        rw [litGo, List.append_nil] at hgo
        subst hgo
        walk_at "te"
        refine TS.weakG hs fun _ _ => ?_
        walk_at "tes"
        refine K_bytes_ba hout (by have := litGo_length_le oct steps start; omega) ?_
        walk_at "tes"
        exact h _ k
    · intro x hx
      simp at hx
      rcases hx with rfl | rfl <;> exact .inl rfl
end

def endRow : List Stp → List Nat → List Nat
  | [], row => row
  | s :: ss, row => endRow ss (s.turn row)
def spotsOf : List Stp → List Nat → List Nat
  | [], _ => []
  | s :: ss, row => List.replicate s.size (s.far row) ++ spotsOf ss (s.turn row)
theorem size_pos {s : Stp} (h : s.ok) : 1 ≤ s.size := by cases s <;> simp [Stp.size] <;> have := h.2.1 <;> omega
theorem spotsOf_length : ∀ (ss : List Stp) (row : List Nat), (spotsOf ss row).length = sizes ss
  | [], _ => rfl
  | s :: ss, row => by rw [spotsOf, List.length_append, spotsOf_length ss, sizes_cons]; simp

def fill {α : Type} (d0 : α) (lits : Nat → α) : List Nat → List α → Nat → List α
  | [], out, _ => out
  | 0 :: ds, out, sp => fill d0 lits ds (out ++ [lits sp]) (sp + 1)
  | (d + 1) :: ds, out, sp => fill d0 lits ds (out ++ [out.getD (out.length - (d + 1)) d0]) sp
def zeros : List Nat → Nat
  | [] => 0
  | 0 :: ds => zeros ds + 1
  | (_ + 1) :: ds => zeros ds
/-- no spot reaches behind the first byte -/
def Vld (many : Nat) (spots : List Nat) : Prop := ∀ i d, spots[i]? = some d → d ≤ many + i

abbrev intsU (b : List UInt8) : List V := b.map fun (x : UInt8) => V.int (x.toNat : Int)

section
variable {prog : Program} {w : World} {hB : Heap} {c : Cx} {fr : Vars} {st : St} {E : EE}

theorem led_spec (G : Gd w hB (KK w)) (hr : Room c.A 8) {a f p b : Addr} {steps : List Stp} {four spots : List Nat} {R : V → St → Prop} (ha : st a = some (.list (steps.map Stp.v))) (hf : st f = some (.list (rowV four))) (hp : st p = some (.list (rowV spots)))
    (hb : st b = some (.list (rowV (endRow steps four)))) (hz : four.length = 4) (hok : ∀ s ∈ steps, s.ok) (hs : spots = spotsOf steps four) (hl : spots.length ≤ 900000) (h : ∀ st', Keep [] st st' → R (.bool true) st') :
    TC prog w hB c c.A (.val (.ref 207)) [.ref a, .ref f, .ref p, .ref b] fr st E R := by
  refine TC.noE (K_fn G ["steps", "four", "spots", "behind"] rfl rfl hr.limit rfl ?_ (by decide) (by decide) (by decide) ?_)
  · intro s
    exact len4 fun u1 u2 u3 u4 hK => BindsTo.of_eq rfl
  · intro L
    refine TS_consG fun _ _ => (T1_unpack_swapped (names := ["row", "place"]) ?_ hr.handled ?_ rfl rfl)
    · walk_at "tes"
      refine reps_spec G ((hr.deeper _).less (by decide)) hf (by omega) fun x dx st2 hx0 hdx0 hx k2 => ?_
      walk_at "tes"
      refine ⟨by simp, _, rfl, rfl, ?_⟩
      walk_at "te"
      refine TS_consG fun _ _ => (T1_for PassE.never (.inl rfl) ?_)
      walk_at "tes"
      refine ⟨steps.map Stp.v, _, _, it_list (l := a) (hr.deeper _).handled, fun i fr st' => ∃ row place, Sub [("row", .ref x), ("place", .int (place : Nat)), ("spots", .ref p), ("behind", .ref b)] fr ∧
        Keep [] st st' ∧ RepsAt st' x dx row ∧ row.length = 4 ∧ spots.drop place = spotsOf (steps.drop i) row ∧ endRow (steps.drop i) row = endRow steps four, ?_, ?_, ?_, ?_⟩
      · exact ⟨four, 0, ⟨rfl, rfl, rfl, rfl, trivial⟩, k2, hx, hz, hs, rfl⟩
      · rintro i fr st' ⟨_, _, _, k, _⟩
        exact k.all ha
      · rintro i fr st3 v hi hh0 hv
        refine e2 hh0 fun row place hh1 => a6 hh1 fun hsb k hx3 hz3 hsp hend => ?_
        clear hh1 hh0
        obtain ⟨s, hsi, rfl⟩ := step_at hv
        have hdrop := drop_at hsi
        have hso : s.ok := hok s (List.mem_of_getElem? hsi)
        rw [hdrop] at hsp hend
        refine TS.weakG (hsb.bind rfl) fun _ _ => ?_
        have hpos := size_pos hso
        have hhead : spots[place]? = some (s.far row) := by
          have h1 : (spots.drop place)[0]? = some (s.far row) := by
            rw [hsp, spotsOf]
            obtain ⟨n, hn⟩ : ∃ n, s.size = n + 1 := ⟨s.size - 1, by omega⟩
            rw [hn, List.replicate_succ]; rfl
          simpa using h1
        have hpl : place < spots.length := (List.getElem?_eq_some_iff.mp hhead).1
        walk_at "tes"
        refine distance_spec G ((hr.deeper _).less (by decide)) hso hx3 hz3 fun st4 hx4 k4 => ?_
        have k34 : Keep [] st st4 := fun b' o' e _ => by
          exact k4.one (k.all e) (fun q => by subst q; rw [hdx0] at e; cases e)
        walk_at "tes"
        refine I_list (k34.all hp) (by omega) (by omega) (v := .int (s.far row)) (by simp [hhead]) ?_
        walk_at "tes"
        refine ite_f (by simp) ?_
        walk_at "tes"
        refine lawsize_spec G ((hr.deeper _).less (by decide)) ?_
        walk_at "tes"
        refine ⟨s.turn row, place + s.size, ⟨rfl, rfl, rfl, rfl, trivial⟩, k34, hx4, turn_length hso hz3, ?_, hend⟩
        rw [← List.drop_drop, hsp, spotsOf, List.drop_left' (by simp)]
      · rintro fr st3 hh0
        refine e2 hh0 fun row place hh1 => a6 hh1 fun hsb k hx3 hz3 hsp hend => ?_
        clear hh1 hh0
        rw [show (steps.map Stp.v).length = steps.length by simp, List.drop_length] at hend
        obtain ⟨hx30, l, hdx3, hl3⟩ := hx3
        walk_at "te"
        refine TS.weakG hsb fun _ _ => ?_
        walk_at "tes"
        refine TE_attr (K := KK _) G ?_ rfl
        walk_at "tes"
        refine ⟨x, 120, dx, _, l, rfl, hx30, hdx3, rfl, ?_, rfl, rfl, _, rfl, rfl⟩
        walk_at "tes"
        refine C_eq_ints (ns := row.map fun (n : Nat) => (n : Int)) (ms := (endRow steps four).map fun (n : Nat) => (n : Int)) (by rw [hl3]; simp) (by rw [k.all hb]; simp) ((hr.deeper _).less (by decide)) ?_
        have e : row = endRow steps four := hend
        rw [e]
        simp only [decide_true]
        walk_at "tes"
        exact h _ k
    · intro x hx
      simp at hx
      rcases hx with rfl | rfl <;> exact .inl rfl

theorem roots_spec (G : Gd w hB (KK w)) (hr : Room c.A 2) {p : Addr} {many : Nat} {spots : List Nat} {R : V → St → Prop} (hp : st p = some (.list (rowV spots))) (hv : Vld many spots) (hz : many + zeros spots ≤ 256) (hl : spots.length ≤ 900000)
    (h : ∀ st', Keep [] st st' → R (.bytes ((fill 0 (fun k => (many + k).toUInt8) spots (upTo many) 0).drop many)) st') : TC prog w hB c c.A (.val (.ref 221)) [.int many, .ref p] fr st E R := by
  refine TC.noE (K_fn G ["many", "spots"] rfl rfl hr.limit rfl ?_ (by decide) (by decide) (by decide) ?_)
  · intro s
    exact len2 fun u1 u2 hK => BindsTo.of_eq rfl
  · intro L
    refine TS_consG fun _ _ => (T1_unpack_swapped (names := ["found", "last"]) ?_ hr.handled ?_ rfl rfl)
    · walk_at "tes"
      refine K_range ?_
      walk_at "tes"
      refine K_list_range (n := many) (by omega) (hr.deeper _).handled fun o ho => ?_
      have k1 : Keep [] st (st.set o (.list (rngItems many))) := Keep.new ho
      have e0 : rngItems many = intsU (upTo many) := by
        unfold rngItems intsU upTo
        rw [List.map_map]
        apply List.map_congr_left
        intro k hk
        have : k < many := List.mem_range.mp hk
        simp
        omega
      walk_at "tes"
      refine ⟨by simp, _, rfl, rfl, ?_⟩
      walk_at "te"
      refine TS_consG fun _ _ => (T1_for PassE.never (.inl rfl) ?_)
      walk_at "tes"
      refine ⟨rowV spots, _, _, it_list (l := p) (hr.deeper _).handled, fun i fr st' => ∃ got sp, Sub [("found", .ref o), ("last", .int ((many + sp : Nat) : Int)), ("many", .int (many : Nat))] fr ∧
        Keep [] st st' ∧ st' o = some (.list (intsU got)) ∧ got.length = many + i ∧ sp + zeros (spots.drop i) = zeros spots ∧ fill 0 (fun k => (many + k).toUInt8) (spots.drop i) got sp = fill 0 (fun k => (many + k).toUInt8) spots (upTo many) 0, ?_, ?_, ?_, ?_⟩
      · exact ⟨upTo many, 0, ⟨rfl, rfl, rfl, trivial⟩, k1, by rw [St.set_self, e0], by simp [upTo], by simp, rfl⟩
      · rintro i fr st' ⟨_, _, _, k, _⟩
        exact k.all hp
      · rintro i fr st3 v hi hh0 hv3
        refine e2 hh0 fun got sp hh1 => a6 hh1 fun hsb k hout hgl hzs hfill => ?_
        clear hh1 hh0
        have hi' : i < spots.length := by simpa using hi
        obtain ⟨far, hfar, rfl⟩ : ∃ far, spots[i]? = some far ∧ v = .int (far : Int) := by
          rw [List.getElem?_map] at hv3
          cases hs : spots[i]? with
          | none => rw [hs] at hv3; cases hv3
          | some s => rw [hs] at hv3; exact ⟨s, rfl, by simpa using hv3.symm⟩
        have hdrop := drop_at hfar
        have hle := hv i far hfar
        rw [hdrop] at hzs hfill
        refine TS.weakG (hsb.bind rfl) fun _ _ => ?_
        walk_at "tes"
        refine ⟨.builtin "list.append", m_append hout, .inl ⟨_, rfl⟩, ?_⟩
        walk_at "tes"
        have kk : ∀ xs, Keep [] st (st3.set o (.list xs)) := fun xs b' o' e _ => by
          rw [St.set_ne (fun q => by subst q; rw [ho] at e; cases e)]
          exact k.all e
        cases far with
        | zero =>
          rw [zeros] at hzs
          rw [fill] at hfill
          refine ite_t rfl ?_
          walk_at "tes"
          refine K_append hout (by simp; omega) ?_
          refine ⟨trivial, ?_⟩
          walk_at "tes"
          refine K_int_bool ?_
          walk_at "tes"
          refine ⟨got ++ [(many + sp).toUInt8], sp + 1, ⟨rfl, rfl, rfl, trivial⟩, kk _, ?_, by simp; omega, by omega, hfill⟩
          rw [St.set_self]
          have : ((many + sp).toUInt8.toNat : Int) = ((many + sp : Nat) : Int) := by simp; omega
          simp [intsU]
          omega
        | succ far =>
          rw [zeros] at hzs
          rw [fill] at hfill
          refine ite_f (by simp; omega) ?_
          walk_at "tes"
          refine I_list_neg (v := .int ((got.getD (got.length - (far + 1)) 0).toNat : Int)) hout (by omega) (by simp; omega) (by omega) ?_ ?_
          · have e : (-(((far + 1 : Nat)) : Int) + ((intsU got).length : Int)).toNat = got.length - (far + 1) := by simp; omega
            rw [e, List.getElem?_map, getu (by omega)]; rfl
          walk_at "tes"
          refine K_append hout (by simp; omega) ?_
          refine ⟨trivial, ?_⟩
          walk_at "tes"
          refine K_int_bool ?_
          walk_at "tes"
          refine ⟨got ++ [got.getD (got.length - (far + 1)) 0], sp, ⟨rfl, ?_, rfl, trivial⟩, kk _, ?_, by simp; omega, by omega, hfill⟩
          · show some (V.int _) = _
            congr 2
          · rw [St.set_self]; simp [intsU]
      · rintro fr st3 hh0
        refine e2 hh0 fun got sp hh1 => a6 hh1 fun hsb k hout hgl hzs hfill => ?_
        clear hh1 hh0
        rw [show (rowV spots).length = spots.length by simp] at hfill hgl
        rw [List.drop_length, fill] at hfill
        walk_at "te"
        refine TS.weakG hsb fun _ _ => ?_
        walk_at "tes"
        refine I_list_slice (lo := some many) (hi := none) hout (.int many) .none (by simp; omega) fun d hd => ?_
        walk_at "tes"
        refine K_bytes_list (b := got.drop many) (by
          rw [St.set_self]
          congr 2
          simp only [cut, Option.getD_none, Option.getD_some]
          rw [List.take_of_length_le (Nat.le_refl _), List.map_drop]) (by simp; omega) (hr.deeper _).handled ?_
        walk_at "tes"
        rw [hfill]
        exact h _ (k.trans (Keep.new hd))
    · intro x hx
      simp at hx
      rcases hx with rfl | rfl <;> exact .inl rfl
end

theorem bound_name {cap : Vars} {x : Str} (h : cap.lookup x = none) : ∀ (v : V) (y : Str) (u : V), cap.lookup y = some u → (setVar cap x v).lookup y = some u := fun v _ _ e => by
  rw [lookup_setVar, if_neg (fun q => by rw [q, h] at e; cases e)]; exact e
theorem capt_of {cap : Vars} {P : Str → V → Prop} (h : ∀ p ∈ cap, P p.1 p.2) : ∀ y u, cap.lookup y = some u → P y u := fun y u e => h _ (lookup_mem e)
theorem fill_length {α : Type} (d0 : α) (lits : Nat → α) : ∀ (ds : List Nat) (out : List α) (sp : Nat), (fill d0 lits ds out sp).length = out.length + ds.length
  | [], _, _ => rfl
  | 0 :: ds, out, sp => by rw [fill, fill_length d0 lits ds]; simp; omega
  | (d + 1) :: ds, out, sp => by rw [fill, fill_length d0 lits ds]; simp; omega

section
variable {prog : Program} {w : World} {hB : Heap} {c : Cx} {fr : Vars} {st : St} {E : EE}

theorem TTests_nil {R : Bool → St → Prop} (h : R true st) : TTests prog w hB c [] fr st E R := h
theorem TTests_one {t : Expr} {R : Bool → St → Prop} (h : TB prog w hB c t fr st E R) : TTests prog w hB c [t] fr st E R := h

theorem picked_spec (G : Gd w hB (KK w)) (hr : Room c.A 10) {a f p : Addr} {steps : List Stp} {four spots : List Nat} {singles early told full : List UInt8} {R : V → St → Prop}
    (ha : st a = some (.list (steps.map Stp.v))) (hf : st f = some (.list (rowV four))) (hp : st p = some (.list (rowV spots))) (hz4 : four.length = 4) (hok : ∀ s ∈ steps, s.ok)
    (hv : Vld early.length spots) (hz : early.length + zeros spots ≤ 256) (hl : spots.length ≤ 800000) (hls : steps.length ≤ 800000) (hsz : sizes steps ≤ 800000) (hn : early.length + singles.length ≤ 256)
    (hgo : playGo ((upTo (early.length + singles.length)).drop early.length) steps four ((upTo (early.length + singles.length)).take early.length) 0 = .ok (full, ((upTo (early.length + singles.length)).drop early.length).length))
    (hdue : full.drop early.length = (fill 0 (fun k => (early.length + k).toUInt8) spots (upTo early.length) 0).drop early.length)
    (hb : ∀ x ∈ full.drop early.length, x.toNat < early.length + singles.length)
    (ht : told = (full.drop early.length).map fun x => (early ++ singles).getD x.toNat 0) (h : ∀ st', Keep [] st st' → R (.bool true) st') :
    TC prog w hB c c.A (.val (.ref 226)) [.ref a, .bytes singles, .bytes early, .ref f, .ref p, .bytes told] fr st E R := by
  refine TC.noE (K_fn G ["steps", "singles", "early", "four", "spots", "told"] rfl rfl hr.limit rfl ?_ (by decide) (by decide) (by decide) ?_)
  · intro s
    exact len6 fun u1 u2 u3 u4 u5 u6 hK => BindsTo.of_eq rfl
  · intro L
    refine TS_consG fun _ _ => (T1_unpack_swapped (names := ["many", "due"]) ?_ hr.handled ?_ rfl rfl)
    · walk_at "tes"
      refine K_len_bytes (by omega) ?_
      walk_at "tes"
      refine K_len_bytes (by omega) ?_
      walk_at "tes"
      refine roots_spec G ((hr.deeper _).less (by decide)) hp hv hz (by omega) fun st2 k2 => ?_
      walk_at "tes"
      refine ⟨by simp, _, rfl, rfl, ?_⟩
      walk_at "tes"
      refine K_len_bytes (by omega) ?_
      walk_at "tes"
      refine K_range ?_
      walk_at "tes"
      refine K_bytes_rng (n := early.length + singles.length) hn (hr.deeper _).handled ?_
      have hu : (upTo (early.length + singles.length)).length = early.length + singles.length := by simp [upTo]
      walk_at "tes"
      refine I_bytes_slice (lo := some early.length) (hi := none) (.int early.length) .none (by rw [hu]; omega) ?_
      walk_at "tes"
      refine I_bytes_slice (lo := none) (hi := some early.length) .none (.int early.length) (by rw [hu]; omega) ?_
      walk_at "tes"
      refine reps_spec G ((hr.deeper _).less (by decide)) (k2.all hf) (by omega) fun x dx st3 hx0 hdx0 hx k3 => ?_
      walk_at "tes"
      have e1 : cut (upTo (early.length + singles.length)) (some early.length) none = (upTo (early.length + singles.length)).drop early.length := by
        simp [cut]
      have e2 : cut (upTo (early.length + singles.length)) none (some early.length) = (upTo (early.length + singles.length)).take early.length := by
        simp [cut]
      rw [e1, e2]
      refine play_spec G ((hr.deeper _).less (by decide)) (k3.all (k2.all ha)) hx hz4 hok hgo (by omega) (by simp; omega) (by simp; omega) fun st4 k4 => ?_
      have hlen : ((upTo (early.length + singles.length)).take early.length).length = early.length := by rw [List.length_take, hu]; omega
      rw [hlen, hdue]
      walk_at "tes"
      refine C_ne_bytes ?_
      walk_at "tes"
      refine ite_f (by simp) ?_
      walk_at "tes"
      refine TE_comp (cap := [("early", .bytes early), ("singles", .bytes singles)]) (bnd := fun v fr => setVar fr "name" v) ⟨rfl, rfl, by decide, by decide, ?_, by simp, ?_, bound_name rfl⟩ ?_
      · intro x hx
        rcases List.mem_cons.mp hx with rfl | hx
        · exact List.mem_cons_of_mem _ List.mem_cons_self
        · rcases List.mem_cons.mp hx with rfl | hx
          · exact List.mem_cons_self
          · cases hx
      · refine capt_of ?_
        intro p hp
        simp only [List.mem_cons, List.not_mem_nil, or_false] at hp
        rcases hp with rfl | rfl
        · exact ⟨rfl, .inl rfl, rfl, .inl rfl⟩
        · exact ⟨rfl, .inl rfl, rfl, .inl rfl⟩
      · walk_at "tes"
        have hfl : ((fill 0 (fun k => (early.length + k).toUInt8) spots (upTo early.length) 0).drop early.length) = full.drop early.length := hdue.symm
        rw [hfl]
        have hflen : (full.drop early.length).length ≤ 1000000 := by
          rw [hdue, List.length_drop, fill_length]
          simp [upTo]; omega
        refine ⟨_, _, _, it_bytes (hr.deeper _).handled, by simpa using hflen, trivial, fun C => ⟨binds_name (.inl rfl), fun i ys st' => Keep [] st st' ∧ ys = ((full.drop early.length).take i).map fun x => V.int (((early ++ singles).getD x.toNat 0).toNat : Int), ⟨k2.trans (k3.trans k4), rfl⟩, fun _ _ _ _ => trivial, ?_, ?_⟩⟩
        · rintro i ys st5 v hi ⟨k5, rfl⟩ hv
          obtain ⟨x, hxi, rfl⟩ : ∃ x, (full.drop early.length)[i]? = some x ∧ v = .int (x.toNat : Int) := by
            rw [List.getElem?_map] at hv
            cases hs : (full.drop early.length)[i]? with
            | none => rw [hs] at hv; cases hv
            | some s => rw [hs] at hv; exact ⟨s, rfl, by simpa using hv.symm⟩
          have hlt := hb x (List.mem_of_getElem? hxi)
          refine TTests_nil ?_
          refine ite_t rfl ?_
          walk_at "tes"
          refine O_add_bytes (by omega) ?_
          walk_at "tes"
          refine I_bytes (by omega) (by simp; omega) (by simp; omega) ?_
          refine ⟨k5, ?_⟩
          rw [List.take_add_one, hxi]
          simp
        · rintro ys st5 ⟨k5, rfl⟩ d hd
          rw [List.length_map, List.take_length]
          walk_at "tes"
          refine K_bytes_list (b := told) (by rw [St.set_self, ht, List.map_map]; rfl) (by rw [ht]; simpa using hflen) (hr.deeper _).handled ?_
          refine C_eq_bytes ?_
          rw [beq_self_eq_true]
          walk_at "tes"
          exact h _ (k5.trans (Keep.new hd))
    · intro x hx
      simp at hx
      rcases hx with rfl | rfl <;> exact .inl rfl
end

section
variable {prog : Program} {w : World} {hB : Heap} {c : Cx} {fr : Vars} {st : St} {E : EE}

/-- a list of ints that stands in the ground -/
def Fixed (hB : Heap) (l : Addr) (ns : List Int) : Prop := ∃ ws : List Value, hB.IsList l ws.toArray ∧ IntsAre ws ns
theorem Fixed.at {h : Heap} {l : Addr} {ns : List Int} (f : Fixed hB l ns) (i : Inv hB h st) : ∃ ws : List Value, h.IsList l ws.toArray ∧ RelVs h st (ns.map V.int) ws := by
  obtain ⟨ws, ⟨o, ho, r⟩, hi⟩ := f
  exact ⟨ws, ⟨o, (i.stays _ _ ho).1, r⟩, ints_to hi⟩
theorem I_fixed_slice {slice : Expr} {l : Addr} {ns : List Int} {lv uv : V} {lo hi : Option Nat} {R : V → St → Prop} (hl : Fixed hB l ns) (pl : Part lv lo) (pu : Part uv hi) (hz : ns.length ≤ 1000000)
    (h : ∀ a, st a = none → R (.ref a) (st.set a (.list (cut (ns.map V.int) lo hi)))) : TItem prog w hB c slice (.val (.ref l)) (.slc lv uv) fr st E R := by
  intro s Q wo wi ha ro ri hQ
  cases ro
  cases ri with
  | slc hs hn rl ru =>
    obtain ⟨ws, hL, hr⟩ := hl.at ha.inv
    have hlen := hr.length
    rw [List.length_map] at hlen
    have e : slicePick ws.toArray (lo.map (Int.ofNat ·)) (hi.map (Int.ofNat ·)) none = (cut ws lo hi).toArray := by
      rw [slicePick_plain, ← cut_clip]; simp
    refine titem_of (Heap.IsList.typeIs hL) slot_list_getitem.lookup (wpAny_getItem_list_slice hL (isSlice_of hs) (isPart_of pl rl) (isPart_of pu ru) .none (by simp) ?_ (by have := sizeLine_ge; simp; omega))
    rw [e]
    have := ha.alloc (ob := W.listOf (cut ws lo hi).toArray 0) (o := .list (cut (ns.map V.int) lo hi)) fun st' k => ⟨_, 0, Heap.get?_push_size _ rfl, (hr.cut lo hi).tr k⟩
    exact hQ _ _ _ _ s.toks (h _ ha.fresh) this.1 this.2 (.ref _)
theorem K_len_fixed {l : Addr} {ns : List Int} {R : V → St → Prop} (hl : Fixed hB l ns) (hz : ns.length ≤ 1000000) (h : R (.int ns.length) st) : TC prog w hB c c.A (.val (.builtin "len")) [.val (.ref l)] fr st E R := by
  intro s Q wf ws ha rf rs hQ
  cases rf
  cases rs with
  | cons r rn =>
    cases rn; cases r
    obtain ⟨us, hL, hr⟩ := hl.at ha.inv
    have hlen := hr.length
    rw [List.length_map] at hlen
    refine wpC.any (PyProof.Rows.len_list hL (by simp; omega) ?_)
    have : ((us.toArray.size : Nat) : Int) = (ns.length : Int) := by simp [hlen]
    rw [this]
    exact hQ _ _ _ _ _ h ha .refl (.int _ _)

theorem box_spec (G : Gd w hB (KK w)) (hr : Room c.A 1) {l : Addr} {ns : List Int} {R : V → St → Prop} (hl : Fixed hB l ns) (hz : ns.length ≤ 1000)
    (h : ∀ a st', st a = none → BoxOK st' a 0 → Keep [] st st' → R (.ref a) st') : TC prog w hB c c.A (.val (.ref 176)) [.val (.ref l)] fr st E R := by
  refine TC.noE (K_fn G ["script"] rfl rfl hr.limit rfl ?_ (by decide) (by decide) (by decide) ?_)
  · intro s
    exact len1 fun u1 hK => BindsTo.of_eq rfl
  · intro L
    refine TS_consG fun _ _ => (T1_unpack (ns := [("digits", _), ("mixed", _)]) ?_ hr.handled rfl ?_ rfl rfl)
    · walk_at "tes"
      refine ⟨by simp, _, rfl, rfl, ?_⟩
      walk_at "te"
      refine TS_consG fun _ _ => (T1_for PassE.never (.inl rfl) ?_)
      walk_at "tes"
      refine I_fixed_slice (lo := none) (hi := some 63) hl .none (.int 63) (by omega) fun d hd => ?_
      have k1 : Keep [] st (st.set d (.list (cut (ns.map V.int) none (some 63)))) := Keep.new hd
      refine ⟨cut (ns.map V.int) none (some 63), _, _, it_list (l := d) (hr.deeper _).handled, fun i fr st' => ∃ x y : Int, Sub [("digits", .int x), ("mixed", .int y)] fr ∧ 0 ≤ x ∧ 0 ≤ y ∧ y ≤ 1000003 ∧ st' = st.set d (.list (cut (ns.map V.int) none (some 63))), ?_, ?_, ?_, ?_⟩
      · exact ⟨0, 0, ⟨rfl, rfl, trivial⟩, by omega, by omega, by omega, rfl⟩
      · rintro i fr st' ⟨_, _, _, _, _, _, rfl⟩
        exact St.set_self ..
      · rintro i fr st3 v hi hh0 hv
        refine e2 hh0 fun x y hh1 => a5 hh1 fun hs hx hy0 hy1 q1 => ?_
        clear hh1 hh0
        subst q1
        obtain ⟨n, rfl⟩ : ∃ n, v = .int n := by
          have h1 := List.mem_of_getElem? hv
          unfold cut at h1
          have h2 := List.mem_of_mem_take (List.mem_of_mem_drop h1)
          obtain ⟨n, _, rfl⟩ := List.mem_map.mp h2
          exact ⟨n, rfl⟩
        refine TS.weakG (hs.bind rfl) fun _ _ => ?_
        walk_at "tes"
        refine O_pow (by decide) (by decide) (by decide) ?_
        walk_at "tes"
        split
        · walk_at "tes"
          refine O_pow (by decide) (by decide) (by decide) ?_
          walk_at "tes"
          refine O_pow (by decide) (by decide) (by decide) ?_
          refine O_mod (by decide) ?_
          walk_at "tes"
          exact ⟨_, y, ⟨rfl, rfl, trivial⟩, fmod_lo (by decide), hy0, hy1, rfl⟩
        · walk_at "tes"
          refine O_mul ?_ (mulOk_left (by omega) (by omega))
          walk_at "tes"
          refine O_mod (by decide) ?_
          walk_at "tes"
          exact ⟨x, _, ⟨rfl, rfl, trivial⟩, hx, fmod_lo (by decide), Int.le_of_lt (Int.lt_of_lt_of_le (fmod_hi (by decide)) (by decide)), rfl⟩
      · rintro fr st3 hh0
        refine e2 hh0 fun x y hh1 => a5 hh1 fun hs hx hy0 hy1 q1 => ?_
        clear hh1 hh0
        subst q1
        walk_at "te"
        refine TS.weakG hs fun _ _ => ?_
        walk_at "tes"
        refine ⟨by simp, fun a ha => ?_⟩
        walk_at "tes"
        refine h a _ ?_ ⟨x, y, 0, St.set_self .., hx, hy0, hy1, by omega, by omega⟩ (k1.trans (Keep.new ha))
        by_cases e : a = d
        · subst e; exact hd
        · rw [St.set_ne e] at ha; exact ha
    · intro x hx
      simp at hx
      rcases hx with rfl | rfl <;> exact .inl rfl
end

theorem spotsOf_snoc (s : Stp) : ∀ (ss : List Stp) (row : List Nat), spotsOf (ss ++ [s]) row = spotsOf ss row ++ List.replicate s.size (s.far (endRow ss row))
  | [], row => by simp [spotsOf, endRow]
  | x :: ss, row => by rw [List.cons_append, spotsOf, spotsOf, endRow, spotsOf_snoc s ss, List.append_assoc]
theorem endRow_snoc (s : Stp) : ∀ (ss : List Stp) (row : List Nat), endRow (ss ++ [s]) row = s.turn (endRow ss row)
  | [], row => rfl
  | x :: ss, row => by rw [List.cons_append, endRow, endRow, endRow_snoc s ss]
theorem zeros_append : ∀ (a b : List Nat), zeros (a ++ b) = zeros a + zeros b
  | [], b => by simp [zeros]
  | 0 :: a, b => by rw [List.cons_append, zeros, zeros, zeros_append a]; omega
  | (n + 1) :: a, b => by rw [List.cons_append, zeros, zeros, zeros_append a]
theorem zeros_replicate {d : Nat} (h : 1 ≤ d) : ∀ n, zeros (List.replicate n d) = 0
  | 0 => rfl
  | n + 1 => by
    rw [List.replicate_succ]
    obtain ⟨k, rfl⟩ : ∃ k, d = k + 1 := ⟨d - 1, by omega⟩
    rw [zeros]; exact zeros_replicate h n
theorem Vld.append {m : Nat} {spots : List Nat} {n d : Nat} (h : Vld m spots) (hd : d ≤ m + spots.length) : Vld m (spots ++ List.replicate n d) := by
  intro i x hx
  by_cases hi : i < spots.length
  · rw [List.getElem?_append_left hi] at hx
    exact h i x hx
  · rw [List.getElem?_append_right (by omega)] at hx
    have := List.mem_of_getElem? hx
    have e := List.eq_of_mem_replicate this
    omega

/-- a step whose distance is none only where it is a literal -/
def Stp.pos : Stp → Prop
  | .mat f _ => 1 ≤ f
  | _ => True
/-- what _law_row keeps -/
structure RowInv (m : Nat) (begun row spots : List Nat) (sing : List UInt8) (steps : List Stp) (i : Nat) : Prop where
  begun4 : begun.length = 4
  row4 : row.length = 4
  bpos : ∀ d ∈ begun, 1 ≤ d ∧ d ≤ 100
  rpos : ∀ d ∈ row, 1 ≤ d ∧ d ≤ 100
  ok : ∀ s ∈ steps, s.ok
  spotsE : spots = spotsOf steps begun
  rowE : row = endRow steps begun
  vld : Vld m spots
  sing0 : sing.length = zeros spots
  len : spots.length ≤ 5 * i
  stp : steps.length = i
  pos : ∀ s ∈ steps, s.pos

theorem RowInv.start {m : Nat} {begun : List Nat} (h : begun.length = 4) (hp : ∀ d ∈ begun, 1 ≤ d ∧ d ≤ 100) : RowInv m begun begun [] [] [] 0 :=
  ⟨h, h, hp, hp, by simp, rfl, rfl, fun i d e => by simp at e, rfl, by simp, rfl, by simp⟩

theorem RowInv.lit {m : Nat} {begun row spots : List Nat} {sing : List UInt8} {steps : List Stp} {i : Nat} (h : RowInv m begun row spots sing steps i) (x : UInt8) :
    RowInv m begun row (spots ++ [0]) (sing ++ [x]) (steps ++ [.lit]) (i + 1) := by
  refine ⟨h.begun4, h.row4, h.bpos, h.rpos, ?_, ?_, ?_, ?_, ?_, ?_, ?_, ?_⟩
  · intro s hs
    rcases List.mem_append.mp hs with hs | hs
    · exact h.ok s hs
    · rw [List.mem_singleton.mp hs]; trivial
  · rw [spotsOf_snoc, ← h.spotsE]; rfl
  · rw [endRow_snoc, ← h.rowE]; rfl
  · exact h.vld.append (n := 1) (by omega)
  · rw [zeros_append, List.length_append, h.sing0]; rfl
  · have := h.len; simp; omega
  · have := h.stp; simp; omega
  · intro s hs
    rcases List.mem_append.mp hs with hs | hs
    · exact h.pos s hs
    · rw [List.mem_singleton.mp hs]; trivial

theorem RowInv.step {m : Nat} {begun row spots : List Nat} {sing : List UInt8} {steps : List Stp} {i : Nat} (h : RowInv m begun row spots sing steps i) {s : Stp} (hs : s.ok) (h5 : s.size ≤ 5) {far : Nat} {row' : List Nat}
    (hf : s.far row = far) (ht : s.turn row = row') (f1 : 1 ≤ far) (f2 : far ≤ m + spots.length) (f3 : far ≤ 100) : RowInv m begun row' (spots ++ List.replicate s.size far) sing (steps ++ [s]) (i + 1) := by
  subst hf ht
  refine ⟨h.begun4, turn_length hs h.row4, h.bpos, ?_, ?_, ?_, ?_, ?_, ?_, ?_, ?_, ?_⟩
  · intro d hd
    cases s with
    | lit => exact h.rpos d hd
    | short => exact h.rpos d hd
    | mat f n =>
      rcases List.mem_cons.mp hd with rfl | hd
      · exact ⟨f1, f3⟩
      · exact h.rpos d (List.mem_of_mem_take hd)
    | rep k n =>
      rcases List.mem_cons.mp hd with rfl | hd
      · exact ⟨f1, f3⟩
      · exact h.rpos d (List.mem_of_mem_eraseIdx hd)
  · intro x hx
    rcases List.mem_append.mp hx with hx | hx
    · exact h.ok x hx
    · rw [List.mem_singleton.mp hx]; exact hs
  · rw [spotsOf_snoc, ← h.spotsE, ← h.rowE]
  · rw [endRow_snoc, ← h.rowE]
  · exact h.vld.append f2
  · rw [zeros_append, zeros_replicate f1, h.sing0]; rfl
  · have := h.len; simp; omega
  · have := h.stp; simp; omega
  · intro x hx
    rcases List.mem_append.mp hx with hx | hx
    · exact h.pos x hx
    · rw [List.mem_singleton.mp hx]
      cases s with
      | mat f n => exact f1
      | _ => trivial

/-- the objects that _law_row holds -/
structure RowSt (st : St) (box B F S N P : Addr) (T : Nat) (begun row spots : List Nat) (sing : List UInt8) (steps : List Stp) : Prop where
  hb : BoxOK st box T
  hB : st B = some (.list (rowV begun))
  hF : st F = some (.list (rowV row))
  hS : st S = some (.list (steps.map Stp.v))
  hN : st N = some (.list (intsU sing))
  hP : st P = some (.list (rowV spots))
  nd : [box, B, F, S, N, P].Nodup

section
variable {st st' : St} {box B F S N P : Addr} {T : Nat} {begun row spots : List Nat} {sing : List UInt8} {steps : List Stp}
theorem RowSt.took (h : RowSt st box B F S N P T begun row spots sing steps) {T' : Nat} (b : BoxOK st' box T') (k : Keep [box] st st') : RowSt st' box B F S N P T' begun row spots sing steps := by
  have nd := h.nd
  simp only [List.nodup_cons, List.mem_cons, List.not_mem_nil, or_false, not_or] at nd
  obtain ⟨⟨n1, n2, n3, n4, n5⟩, -⟩ := nd
  exact ⟨b, k.one h.hB (Ne.symm n1), k.one h.hF (Ne.symm n2), k.one h.hS (Ne.symm n3), k.one h.hN (Ne.symm n4), k.one h.hP (Ne.symm n5), h.nd⟩
theorem RowSt.kept (h : RowSt st box B F S N P T begun row spots sing steps) (k : Keep [] st st') : RowSt st' box B F S N P T begun row spots sing steps :=
  ⟨h.hb.keep k (by simp), k.all h.hB, k.all h.hF, k.all h.hS, k.all h.hN, k.all h.hP, h.nd⟩
theorem RowSt.setS (h : RowSt st box B F S N P T begun row spots sing steps) {steps' : List Stp} {o : List V} (e : o = steps'.map Stp.v) : RowSt (st.set S (.list o)) box B F S N P T begun row spots sing steps' := by
  have nd := h.nd
  simp only [List.nodup_cons, List.mem_cons, List.not_mem_nil, or_false, not_or] at nd
  obtain ⟨⟨n1, n2, n3, n4, n5⟩, ⟨n6, n7, n8, n9⟩, ⟨n10, n11, n12⟩, ⟨n13, n14⟩, n15, -⟩ := nd
  obtain ⟨a, b, t, hb, hr⟩ := h.hb
  exact ⟨⟨a, b, t, by rw [St.set_ne n3]; exact hb, hr⟩, by rw [St.set_ne n7]; exact h.hB, by rw [St.set_ne n10]; exact h.hF, by rw [St.set_self, e], by rw [St.set_ne (Ne.symm n13)]; exact h.hN, by rw [St.set_ne (Ne.symm n14)]; exact h.hP, h.nd⟩
theorem RowSt.setN (h : RowSt st box B F S N P T begun row spots sing steps) {sing' : List UInt8} {o : List V} (e : o = intsU sing') : RowSt (st.set N (.list o)) box B F S N P T begun row spots sing' steps := by
  have nd := h.nd
  simp only [List.nodup_cons, List.mem_cons, List.not_mem_nil, or_false, not_or] at nd
  obtain ⟨⟨n1, n2, n3, n4, n5⟩, ⟨n6, n7, n8, n9⟩, ⟨n10, n11, n12⟩, ⟨n13, n14⟩, n15, -⟩ := nd
  obtain ⟨a, b, t, hb, hr⟩ := h.hb
  exact ⟨⟨a, b, t, by rw [St.set_ne n4]; exact hb, hr⟩, by rw [St.set_ne n8]; exact h.hB, by rw [St.set_ne n11]; exact h.hF, by rw [St.set_ne n13]; exact h.hS, by rw [St.set_self, e], by rw [St.set_ne (Ne.symm n15)]; exact h.hP, h.nd⟩
theorem RowSt.setF (h : RowSt st box B F S N P T begun row spots sing steps) {row' : List Nat} {o : List V} (e : o = rowV row') : RowSt (st.set F (.list o)) box B F S N P T begun row' spots sing steps := by
  have nd := h.nd
  simp only [List.nodup_cons, List.mem_cons, List.not_mem_nil, or_false, not_or] at nd
  obtain ⟨⟨n1, n2, n3, n4, n5⟩, ⟨n6, n7, n8, n9⟩, ⟨n10, n11, n12⟩, ⟨n13, n14⟩, n15, -⟩ := nd
  obtain ⟨a, b, t, hb, hr⟩ := h.hb
  exact ⟨⟨a, b, t, by rw [St.set_ne n2]; exact hb, hr⟩, by rw [St.set_ne n6]; exact h.hB, by rw [St.set_self, e], by rw [St.set_ne (Ne.symm n10)]; exact h.hS, by rw [St.set_ne (Ne.symm n11)]; exact h.hN, by rw [St.set_ne (Ne.symm n12)]; exact h.hP, h.nd⟩
theorem RowSt.setP (h : RowSt st box B F S N P T begun row spots sing steps) {spots' : List Nat} {o : List V} (e : o = rowV spots') : RowSt (st.set P (.list o)) box B F S N P T begun row spots' sing steps := by
  have nd := h.nd
  simp only [List.nodup_cons, List.mem_cons, List.not_mem_nil, or_false, not_or] at nd
  obtain ⟨⟨n1, n2, n3, n4, n5⟩, ⟨n6, n7, n8, n9⟩, ⟨n10, n11, n12⟩, ⟨n13, n14⟩, n15, -⟩ := nd
  obtain ⟨a, b, t, hb, hr⟩ := h.hb
  exact ⟨⟨a, b, t, by rw [St.set_ne n5]; exact hb, hr⟩, by rw [St.set_ne n9]; exact h.hB, by rw [St.set_ne n12]; exact h.hF, by rw [St.set_ne n14]; exact h.hS, by rw [St.set_ne n15]; exact h.hN, by rw [St.set_self, e], h.nd⟩
theorem RowSt.newP (h : RowSt st box B F S N P T begun row spots sing steps) {P' : Addr} (hn : st P' = none) {spots' : List Nat} {o : List V} (e : o = rowV spots') : RowSt (st.set P' (.list o)) box B F S N P' T begun row spots' sing steps := by
  have nd := h.nd
  simp only [List.nodup_cons, List.mem_cons, List.not_mem_nil, or_false, not_or] at nd
  obtain ⟨⟨n1, n2, n3, n4, n5⟩, ⟨n6, n7, n8, n9⟩, ⟨n10, n11, n12⟩, ⟨n13, n14⟩, n15, -⟩ := nd
  have k := h.kept (Keep.new (o := .list o) hn)
  refine ⟨k.hb, k.hB, k.hF, k.hS, k.hN, by rw [St.set_self, e], ?_⟩
  obtain ⟨a, b, t, hb, hr⟩ := h.hb
  simp only [List.nodup_cons, List.mem_cons, List.not_mem_nil, or_false, not_or]
  exact ⟨⟨n1, n2, n3, n4, ne_new hb hn⟩, ⟨n6, n7, n8, ne_new h.hB hn⟩, ⟨n10, n11, ne_new h.hF hn⟩, ⟨n13, ne_new h.hS hn⟩, ne_new h.hN hn, by simp⟩
end

theorem Keep.over {ex : List Addr} {st st' : St} {a : Addr} {o : O} (k : Keep ex st st') (h : st a = none) : Keep ex st (st'.set a o) := fun b o' e n => by
  rw [St.set_ne (fun q => by subst q; rw [h] at e; cases e)]; exact k b o' e n

theorem Keep.none {st st' : St} {a d : Addr} (k : Keep [a] st st') (h : st' d = none) (n : a ≠ d) : st d = none := by
  cases e : st d with
  | none => rfl
  | some o => rw [k.one e (Ne.symm n)] at h; cases h

theorem getD_mem {α : Type} {l : List α} {k : Nat} {d : α} (h : k < l.length) : l.getD k d ∈ l := by simp [List.getD, h]
theorem erase_rowV : ∀ (row : List Nat) (j : Nat), (rowV row).eraseIdx j = rowV (row.eraseIdx j)
  | [], _ => rfl
  | _ :: _, 0 => rfl
  | a :: row, j + 1 => congrArg (V.int (a : Int) :: ·) (erase_rowV row j)
theorem St.back {st : St} {a d : Addr} {o : O} (h : st.set a o d = none) : st d = none := by
  by_cases e : d = a
  · subst e; rw [St.set_self] at h; cases h
  · rwa [St.set_ne e] at h
theorem zeros_le : ∀ l : List Nat, zeros l ≤ l.length
  | [] => by simp [zeros]
  | 0 :: l => by have := zeros_le l; rw [zeros]; simp; omega
  | (_ + 1) :: l => by have := zeros_le l; rw [zeros]; simp; omega
section
variable {st : St} {box B F S N P : Addr} {T : Nat} {begun row spots : List Nat} {sing : List UInt8} {steps : List Stp}
theorem RowSt.boxB (h : RowSt st box B F S N P T begun row spots sing steps) : box ≠ B := fun e => by subst e; have := h.nd; simp at this
theorem RowSt.boxF (h : RowSt st box B F S N P T begun row spots sing steps) : box ≠ F := fun e => by subst e; have := h.nd; simp at this
theorem RowSt.boxS (h : RowSt st box B F S N P T begun row spots sing steps) : box ≠ S := fun e => by subst e; have := h.nd; simp at this
theorem RowSt.boxN (h : RowSt st box B F S N P T begun row spots sing steps) : box ≠ N := fun e => by subst e; have := h.nd; simp at this
theorem RowSt.boxP (h : RowSt st box B F S N P T begun row spots sing steps) : box ≠ P := fun e => by subst e; have := h.nd; simp at this
theorem RowSt.make (b : BoxOK st box T) (hF : st F = none) (hB : st.set F (.list (rowV begun)) B = none) (hS : (st.set F (.list (rowV begun))).set B (.list (rowV begun)) S = none)
    (hN : ((st.set F (.list (rowV begun))).set B (.list (rowV begun))).set S (.list []) N = none) (hP : (((st.set F (.list (rowV begun))).set B (.list (rowV begun))).set S (.list [])).set N (.list []) P = none) :
    RowSt ((((st.set F (.list (rowV begun))).set B (.list (rowV begun))).set S (.list [])).set N (.list []) |>.set P (.list [])) box B F S N P T begun begun [] [] [] ∧ st F = none ∧ st B = none ∧ st S = none ∧ st N = none ∧ st P = none := by
  have b1 := b.keep (Keep.new (ex := []) (o := .list (rowV begun)) hF) (by simp)
  have b2 := b1.keep (Keep.new (ex := []) (o := .list (rowV begun)) hB) (by simp)
  have b3 := b2.keep (Keep.new (ex := []) (o := .list []) hS) (by simp)
  have b4 := b3.keep (Keep.new (ex := []) (o := .list []) hN) (by simp)
  have b5 := b4.keep (Keep.new (ex := []) (o := .list []) hP) (by simp)
  have f1 : st.set F (.list (rowV begun)) F = some (.list (rowV begun)) := St.set_self ..
  have f2 := (Keep.new (ex := []) (o := .list (rowV begun)) hB).all f1
  have g2 : (st.set F (.list (rowV begun))).set B (.list (rowV begun)) B = some (.list (rowV begun)) := St.set_self ..
  have f3 := (Keep.new (ex := []) (o := .list []) hS).all f2
  have g3 := (Keep.new (ex := []) (o := .list []) hS).all g2
  have s3 : ((st.set F (.list (rowV begun))).set B (.list (rowV begun))).set S (.list []) S = some (.list []) := St.set_self ..
  have f4 := (Keep.new (ex := []) (o := .list []) hN).all f3
  have g4 := (Keep.new (ex := []) (o := .list []) hN).all g3
  have s4 := (Keep.new (ex := []) (o := .list []) hN).all s3
  have n4 : (((st.set F (.list (rowV begun))).set B (.list (rowV begun))).set S (.list [])).set N (.list []) N = some (.list []) := St.set_self ..
  have f5 := (Keep.new (ex := []) (o := .list []) hP).all f4
  have g5 := (Keep.new (ex := []) (o := .list []) hP).all g4
  have s5 := (Keep.new (ex := []) (o := .list []) hP).all s4
  have n5 := (Keep.new (ex := []) (o := .list []) hP).all n4
  have bx : ∀ {st' : St} {d : Addr}, BoxOK st' box T → st' d = none → box ≠ d := fun b e => b.ne e
  refine ⟨⟨b5, g5, f5, s5, n5, St.set_self .., ?_⟩, hF, St.back hB, St.back (St.back hS), St.back (St.back (St.back hN)), St.back (St.back (St.back (St.back hP)))⟩
  simp only [List.nodup_cons, List.mem_cons, List.not_mem_nil, or_false, not_or]
  exact ⟨⟨bx b1 hB, bx b hF, bx b2 hS, bx b3 hN, bx b4 hP⟩, ⟨Ne.symm (ne_new f1 hB), ne_new g2 hS, ne_new g3 hN, ne_new g4 hP⟩, ⟨ne_new f2 hS, ne_new f3 hN, ne_new f4 hP⟩, ⟨ne_new s3 hN, ne_new s4 hP⟩, ne_new n4 hP, by simp⟩
end

section
variable {prog : Program} {w : World} {hB : Heap} {c : Cx} {fr : Vars} {st : St} {E : EE}
theorem TB_mono {x : Expr} {R R' : Bool → St → Prop} (h : TB prog w hB c x fr st E R') (hm : ∀ b st', R' b st' → R b st') : TB prog w hB c x fr st E R :=
  fun s Q ha hQ => h s Q ha fun b st' h' tk' hR => hQ b st' h' tk' (hm _ _ hR)
theorem TE_mono {x : Expr} {R R' : V → St → Prop} (h : TE prog w hB c x fr st E R') (hm : ∀ b st', R' b st' → R b st') : TE prog w hB c x fr st E R :=
  fun s Q ha hQ => h s Q ha fun b st' u h' tk' hR => hQ b st' u h' tk' (hm _ _ hR)

theorem row_spec (G : Gd w hB (KK w)) (hr : Room c.A 8) {box : Addr} {T count : Nat} {R : V → St → Prop} (hb : BoxOK st box T) (hT : T ≤ 1000) (hc : count ≤ 8)
    (h : ∀ (early sing : List UInt8) (begun row spots : List Nat) (steps : List Stp) (B S P F : Addr) st', early.length ≤ 6 → RowInv early.length begun row spots sing steps count → BoxOK st' box (T + 100) →
      st' B = some (.list (rowV begun)) → st' S = some (.list (steps.map Stp.v)) → st' P = some (.list (rowV spots)) → st' F = some (.list (rowV row)) → B ≠ box → S ≠ box → P ≠ box → F ≠ box → Keep [box] st st' →
      R (.tup [.bytes early, .ref B, .ref S, .bytes sing, .ref P, .ref F]) st') :
    TC prog w hB c c.A (.val (.ref 188)) [.ref box, .int count] fr st E R := by
  refine TC.noE (K_fn G ["box", "count"] rfl rfl hr.limit rfl ?_ (by decide) (by decide) (by decide) ?_)
  · intro s
    exact len2 fun u1 u2 hK => BindsTo.of_eq rfl
  · intro L
    walk_at "tes"
    refine take_spec G ((hr.deeper _).less (by decide)) hb (by omega) (by omega) (by omega) fun r1 st1 r10 r11 b1 k1 => ?_
    obtain ⟨n, rfl⟩ := Int.eq_ofNat_of_zero_le r10
    walk_at "tes"
    refine TE_comp (cap := [("box", .ref box)]) (bnd := fun v fr => setVar fr "k" v) ⟨rfl, rfl, by decide, by decide, ?_, by simp, ?_, bound_name rfl⟩ ?_
    · intro x hx
      rcases List.mem_cons.mp hx with rfl | hx
      · exact lookup_mem rfl
      · cases hx
    · refine capt_of ?_
      intro p hp
      simp only [List.mem_cons, List.not_mem_nil, or_false] at hp
      subst hp
      exact ⟨rfl, .inl rfl, rfl, .inl rfl⟩
    · walk_at "tes"
      refine K_range ?_
      refine ⟨rngItems n, _, _, it_range (n := n) (hr.deeper _).handled (by omega), by simp [rngItems]; omega, trivial, fun C => ⟨binds_name (.inl rfl), fun i ys st' => ∃ bs : List UInt8, ys = intsU bs ∧ bs.length = i ∧ BoxOK st' box (T + 1 + i) ∧ Keep [box] st st', ⟨[], rfl, rfl, b1, k1⟩, fun _ _ _ _ => trivial, ?_, ?_⟩⟩
      · rintro i ys st2 v hi hh0 hv
        refine e1 hh0 fun bs hh1 => a4 hh1 fun q1 hbl b2 k2 => ?_
        clear hh1 hh0
        subst q1
        have hi' : i < n := by simpa [rngItems] using hi
        refine TTests_nil ?_
        refine ite_t rfl ?_
        walk_at "tes"
        refine take_spec G ((hr.deeper _).less (by decide)) b2 (by omega) (by omega) (by omega) fun r st3 r0 r1 b3 k3 => ?_
        obtain ⟨x, rfl⟩ := Int.eq_ofNat_of_zero_le r0
        refine ⟨bs ++ [x.toUInt8], ?_, by simp [hbl], b3.le (by omega), k2.trans k3⟩
        have : (x.toUInt8.toNat : Int) = (x : Int) := by simp; omega
        simp [intsU]
        omega
      · rintro ys st2 ⟨early, rfl, hel, b2, k2⟩ d hd
        have hel' : early.length = n := by rw [hel]; simp [rngItems]
        have hbd : box ≠ d := b2.ne hd
        walk_at "tes"
        refine K_bytes_list (b := early) (St.set_self ..) (by omega) (hr.deeper _).handled ?_
        walk_at "tes"
        refine TE_comp (cap := [("box", .ref box)]) (bnd := fun v fr => setVar fr "k" v) ⟨rfl, rfl, by decide, by decide, ?_, by simp, ?_, bound_name rfl⟩ ?_
        · intro x hx
          rcases List.mem_cons.mp hx with rfl | hx
          · exact lookup_mem rfl
          · cases hx
        · refine capt_of ?_
          intro p hp
          simp only [List.mem_cons, List.not_mem_nil, or_false] at hp
          subst hp
          exact ⟨rfl, .inl rfl, rfl, .inl rfl⟩
        · walk_at "tes"
          refine K_range ?_
          refine ⟨rngItems 4, _, _, it_range (n := 4) (hr.deeper _).handled (by omega), by simp [rngItems], trivial, fun C => ⟨binds_name (.inl rfl), fun i ys st' => ∃ bs : List Nat, ys = rowV bs ∧ bs.length = i ∧ (∀ d ∈ bs, 1 ≤ d ∧ d ≤ 100) ∧ BoxOK st' box (T + 1 + 6 + i) ∧ Keep [box] st st', ⟨[], rfl, rfl, by simp, (b2.keep (Keep.new (ex := []) hd) (by simp)).le (by simp [rngItems]; omega), k2.over (k2.none hd hbd)⟩, fun _ _ _ _ => trivial, ?_, ?_⟩⟩
          · rintro i ys st4 v hi hh0 hv
            refine e1 hh0 fun bs hh1 => a5 hh1 fun q1 hbl hbs b4 k4 => ?_
            clear hh1 hh0
            subst q1
            have hi' : i < 4 := by simpa [rngItems] using hi
            refine TTests_nil ?_
            refine ite_t rfl ?_
            walk_at "tes"
            refine take_spec G ((hr.deeper _).less (by decide)) b4 (by omega) (by omega) (by omega) fun r st5 r0 r1 b5 k5 => ?_
            obtain ⟨x, rfl⟩ := Int.eq_ofNat_of_zero_le r0
            walk_at "tes"
            refine ⟨bs ++ [1 + x], by simp, by simp [hbl], ?_, b5.le (by omega), k4.trans k5⟩
            intro d hd
            rcases List.mem_append.mp hd with hd | hd
            · exact hbs d hd
            · rw [List.mem_singleton.mp hd]; omega
          · rintro ys st4 hh0 F hF
            refine e1 hh0 fun begun hh1 => a5 hh1 fun q1 hbl hbs b4 k4 => ?_
            clear hh1 hh0
            subst q1
            have hbl' : begun.length = 4 := by rw [hbl]; simp [rngItems]
            have hbF : box ≠ F := b4.ne hF
            have nF := k4.none hF hbF
            have b6 := b4.keep (Keep.new (ex := []) (o := .list (rowV begun)) hF) (by simp)
            have k6 := k4.over (o := .list (rowV begun)) nF
            walk_at "tes"
            refine T1_unpack (ns := [("begun", _), ("steps", _), ("singles", _), ("spots", _)]) ?_ hr.handled rfl ?_ rfl rfl
            · walk_at "tes"
              refine K_list_list (St.set_self ..) (by simp; omega) fun B hB' => ?_
              walk_at "tes"
              refine ⟨by decide, fun S hS => ?_⟩
              walk_at "tes"
              refine ⟨by decide, fun N hN => ?_⟩
              walk_at "tes"
              refine ⟨by decide, fun P hP => ?_⟩
              walk_at "tes"
              refine ⟨by simp, _, rfl, rfl, ?_⟩
              obtain ⟨rs, zF, zB, zS, zN, zP⟩ := RowSt.make b4 hF hB' hS hN hP
              have yF := k4.none zF hbF
              have yB := k4.none zB (rs.boxB)
              have yS := k4.none zS (rs.boxS)
              have yN := k4.none zN (rs.boxN)
              have yP := k4.none zP (rs.boxP)
              have k7 := ((((k4.over (o := .list (rowV begun)) yF).over (o := .list (rowV begun)) yB).over (o := .list []) yS).over (o := .list []) yN).over (o := .list []) yP
              walk_at "te"
              refine TS_consG fun _ _ => (T1_for PassE.never (.inl rfl) ?_)
              walk_at "tes"
              refine K_range ?_
              refine ⟨rngItems count, _, _, it_range (n := count) (hr.deeper _).handled (by omega), fun i fr st' => ∃ (row spots : List Nat) (sing : List UInt8) (steps : List Stp) (P : Addr), Sub [("box", .ref box), ("early", .bytes early), ("four", .ref F), ("begun", .ref B), ("steps", .ref S), ("singles", .ref N), ("spots", .ref P)] fr ∧
                RowInv early.length begun row spots sing steps i ∧ RowSt st' box B F S N P (T + 11 + 4 * i) begun row spots sing steps ∧ Keep [box] st st' ∧ st P = none, ?_, fun _ _ _ _ => trivial, ?_, ?_⟩
              · refine ⟨begun, [], [], [], P, ?_, RowInv.start hbl' hbs, ⟨rs.hb.le (by simp [rngItems]), rs.hB, rs.hF, rs.hS, rs.hN, rs.hP, rs.nd⟩, k7, yP⟩
                exact ⟨rfl, rfl, rfl, rfl, rfl, rfl, rfl, trivial⟩
              · rintro i fr st7 v hi hh0 hv
                refine e5 hh0 fun row spots sing steps P hh1 => a5 hh1 fun hsb inv rs k8 zP => ?_
                clear hh1 hh0
                have hi' : i < count := by simpa [rngItems] using hi
                refine TS.weakG (hsb.bind rfl) fun _ _ => ?_
                have hlen := inv.len
                have hrow := inv.row4
                refine TS_consG fun _ _ => (T1_unpack (ns := [("way", _), ("made", _)]) ?_ hr.handled rfl ?_ rfl rfl)
                · walk_at "tes"
                  refine take_spec G ((hr.deeper _).less (by decide)) rs.hb (by omega) (by omega) (by omega) fun r st8 r0 r1 b9 k9 => ?_
                  obtain ⟨way, rfl⟩ := Int.eq_ofNat_of_zero_le r0
                  have rs := rs.took b9 k9
                  have k8 := k8.trans k9
                  walk_at "tes"
                  refine K_len_bytes (by omega) ?_
                  walk_at "tes"
                  refine K_len_list rs.hP (by simp; omega) ?_
                  walk_at "tes"
                  have hm : ((early.length : Int) + ((rowV spots).length : Int)) = ((early.length + spots.length : Nat) : Int) := by simp
                  rw [hm]
                  obtain ⟨M, hM⟩ : ∃ M, M = early.length + spots.length := ⟨_, rfl⟩
                  rw [← hM]
                  refine ⟨by simp, _, rfl, rfl, ?_⟩
                  walk_at "te"
                  refine TS_consG fun _ _ => (T1_assign_comp (cap := [("four", .ref F), ("made", .int M)]) (bnd := fun v fr => setVar fr "k" v) ⟨rfl, rfl, by decide, by decide, ?_, by simp, ?_, bound_name rfl⟩ rfl ?_ rfl)
                  · intro x hx
                    rcases List.mem_cons.mp hx with rfl | hx
                    · exact lookup_mem rfl
                    · rcases List.mem_cons.mp hx with rfl | hx
                      · exact lookup_mem rfl
                      · cases hx
                  · refine capt_of ?_
                    intro p hp
                    simp only [List.mem_cons, List.not_mem_nil, or_false] at hp
                    rcases hp with rfl | rfl
                    · exact ⟨rfl, .inl rfl, rfl, .inl rfl⟩
                    · exact ⟨rfl, .inl rfl, rfl, .inl rfl⟩
                  · walk_at "tes"
                    refine K_range ?_
                    refine ⟨rngItems 4, _, _, it_range (n := 4) (hr.deeper _).handled (by omega), by simp [rngItems], trivial, fun C => ⟨binds_name (.inl rfl), fun i ys st' => st' = st8 ∧ ys = rowV ((List.range i).filter fun k => decide (row.getD k 0 ≤ M)), ⟨rfl, rfl⟩, fun _ _ _ _ => trivial, ?_, ?_⟩⟩
                    · rintro k ys st9 v hi ⟨rfl, rfl⟩ hv
                      have hi' : k < 4 := by simpa [rngItems] using hi
                      have hv' : v = .int (k : Int) := by
                        unfold rngItems at hv
                        rw [List.getElem?_map, List.getElem?_range hi'] at hv
                        simpa using hv.symm
                      subst hv'
                      refine TTests_one ?_
                      walk_at "tes"
                      refine I_list (v := .int (row.getD k 0 : Nat)) rs.hF (by omega) (by omega) (by rw [show (k : Int).toNat = k by omega, List.getElem?_map, getq (by omega)]; rfl) ?_
                      walk_at "tes"
                      by_cases hk : row.getD k 0 ≤ M
                      · refine ite_t (by simp only [decide_eq_true_eq]; omega) ?_
                        walk_at "tes"
                        refine ⟨rfl, ?_⟩
                        rw [List.range_succ, List.filter_append, List.filter_cons_of_pos (by simpa using hk)]
                        simp
                      · refine ite_f (by simp only [decide_eq_false_iff_not]; omega) ?_
                        refine ⟨rfl, ?_⟩
                        rw [List.range_succ, List.filter_append, List.filter_cons_of_neg (by simpa using hk)]
                        simp
                    · rintro ys st9 ⟨rfl, rfl⟩ D hD
                      have hnear : ∀ k ∈ (List.range (rngItems 4).length).filter (fun k => decide (row.getD k 0 ≤ M)), k < 4 ∧ row.getD k 0 ≤ M := by
                        intro k hk
                        obtain ⟨h1, h2⟩ := List.mem_filter.mp hk
                        exact ⟨by simpa [rngItems] using h1, by simpa using h2⟩
                      have hnl : ((List.range (rngItems 4).length).filter (fun k => decide (row.getD k 0 ≤ M))).length ≤ 4 := by
                        refine Nat.le_trans (List.length_filter_le _ _) ?_
                        simp [rngItems]
                      generalize (List.range (rngItems 4).length).filter (fun k => decide (row.getD k 0 ≤ M)) = near at hnear hnl
                      have rs := rs.kept (Keep.new (o := .list (rowV near)) hD)
                      have k8 : Keep [box] st (st9.set D (.list (rowV near))) := k8.trans (Keep.new (o := .list (rowV near)) hD)
                      have hDs : St.set st9 D (.list (rowV near)) D = some (.list (rowV near)) := St.set_self ..
                      have hDb : box ≠ D := b9.ne hD
                      generalize st9.set D (.list (rowV near)) = st10 at rs k8 hDs
                      walk_at "te"
                      refine TS_consG fun _ _ => (T1_if (TB_mono (R' := fun b st' => b = (decide (way = 0) || decide (M = 0) || (decide (way > 1) && decide (near = []))) ∧ Keep [] st10 st') ?_ ?_))
                      · walk_at "tes"
                        by_cases hw : way = 0
                        · exact ite_t (by simp [hw]) ⟨by simp [hw], Keep.refl⟩
                        refine ite_f (by simp; omega) ?_
                        walk_at "tes"
                        by_cases hM0 : M = 0
                        · exact ite_t (by simp [hM0]) ⟨by simp [hM0], Keep.refl⟩
                        refine ite_f (by simp; omega) ?_
                        walk_at "tes"
                        by_cases hw1 : way > 1
                        · refine ite_t (by simp; omega) ?_
                          walk_at "tes"
                          refine ⟨by decide, fun e he => ?_⟩
                          walk_at "tes"
                          have hDe : D ≠ e := ne_new hDs he
                          refine C_eq_ints (ns := near.map fun (n : Nat) => (n : Int)) (ms := []) (by rw [St.set_ne hDe, hDs]; simp) (by rw [St.set_self]; rfl) ((hr.deeper _).less (by decide)) ?_
                          have hq : decide ((near.map fun (n : Nat) => (n : Int)) = []) = decide (near = []) := by simp
                          rw [hq]
                          walk_at "tes"
                          by_cases hne : near = []
                          · refine ite_t (decide_eq_true hne) ?_
                            walk_at "tes"
                            exact ite_t rfl ⟨by simp [hne, hw1], Keep.new he⟩
                          · refine ite_f (decide_eq_false hne) ?_
                            walk_at "tes"
                            refine ite_f rfl ?_
                            walk_at "tes"
                            exact ⟨by simp [hne, hw, hM0], Keep.new he⟩
                        · refine ite_f (by simp; omega) ?_
                          walk_at "tes"
                          refine ite_f rfl ?_
                          walk_at "tes"
                          exact ⟨by simp [hw, hM0, hw1], Keep.refl⟩
                      · rintro b st11 ⟨rfl, k11⟩
                        have rs := rs.kept k11
                        have k8 := k8.trans (k11.more (by simp))
                        have hDs := k11.all hDs
                        by_cases hc0 : (decide (way = 0) || decide (M = 0) || (decide (way > 1) && decide (near = []))) = true
                        · refine ite_t hc0 ?_
                          walk_at "tes"
                          refine ⟨.builtin "list.append", m_append rs.hS, .inl ⟨_, rfl⟩, ?_⟩
                          walk_at "tes"
                          refine ⟨by simp, ?_⟩
                          walk_at "tes"
                          refine K_append rs.hS (by have := inv.stp; simp; omega) ?_
                          refine ⟨trivial, ?_⟩
                          have rs1 := rs.setS (steps' := steps ++ [.lit]) (o := steps.map Stp.v ++ [V.tup [V.str "lit"]]) (by simp [Stp.v])
                          walk_at "tes"
                          refine ⟨.builtin "list.append", m_append rs1.hP, .inl ⟨_, rfl⟩, ?_⟩
                          walk_at "tes"
                          refine K_append rs1.hP (by simp; omega) ?_
                          refine ⟨trivial, ?_⟩
                          have rs2 := rs1.setP (spots' := spots ++ [0]) (o := rowV spots ++ [V.int 0]) (by simp)
                          walk_at "tes"
                          refine ⟨.builtin "list.append", m_append rs2.hN, .inl ⟨_, rfl⟩, ?_⟩
                          walk_at "tes"
                          refine take_spec G ((hr.deeper _).less (by decide)) rs2.hb (by omega) (by omega) (by omega) fun r st12 r20 r21 b12 k12 => ?_
                          obtain ⟨x, rfl⟩ := Int.eq_ofNat_of_zero_le r20
                          have rs3 := rs2.took b12 k12
                          have k13 := ((k8.over (o := .list (steps.map Stp.v ++ [V.tup [V.str "lit"]])) yS).over (o := .list (rowV spots ++ [V.int 0])) zP).trans k12
                          walk_at "tes"
                          refine K_append rs3.hN (by have := inv.sing0; have := zeros_le spots; simp; omega) ?_
                          refine ⟨trivial, ?_⟩
                          have rs4 := rs3.setN (sing' := sing ++ [x.toUInt8]) (o := intsU sing ++ [V.int x]) (by simp [intsU]; omega)
                          walk_at "tes"
                          refine ⟨row, _, _, _, P, ?_, inv.lit x.toUInt8, ⟨rs4.hb.le (by omega), rs4.hB, rs4.hF, rs4.hS, rs4.hN, rs4.hP, rs4.nd⟩, k13.over yN, zP⟩
                          exact ⟨rfl, rfl, rfl, rfl, rfl, rfl, rfl, trivial⟩
                        · have hc1 : (decide (way = 0) || decide (M = 0) || (decide (way > 1) && decide (near = []))) = false := by simpa using hc0
                          refine ite_f hc1 ?_
                          have hw0 : way ≠ 0 := fun e => by simp [e] at hc1
                          have hM0 : M ≠ 0 := fun e => by simp [e] at hc1
                          have hne : way > 1 → near ≠ [] := fun h1 e => by simp [e, h1] at hc1
                          refine TS_consG fun _ _ => (T1_if (TB_mono (R' := fun b st' => b = decide (way > 4 ∧ near.getD 0 1 = 0) ∧ st' = st11) ?_ ?_))
                          · walk_at "tes"
                            by_cases hw4 : way > 4
                            · refine ite_t (by simp; omega) ?_
                              obtain ⟨k0, rest, rfl⟩ : ∃ k0 rest, near = k0 :: rest := by
                                cases near with
                                | nil => exact absurd rfl (hne (by omega))
                                | cons a b => exact ⟨a, b, rfl⟩
                              walk_at "tes"
                              refine I_list (v := .int (k0 : Nat)) hDs (by omega) (by omega) rfl ?_
                              walk_at "tes"
                              by_cases hk0 : k0 = 0
                              · refine ite_t (by simp [hk0]) ?_
                                walk_at "tes"
                                exact ⟨by simp [hk0, hw4], rfl⟩
                              · refine ite_f (by simp; omega) ?_
                                exact ⟨by simp [hk0], rfl⟩
                            · refine ite_f (by simp; omega) ?_
                              exact ⟨by simp [hw4], rfl⟩
                          · rintro b st12 ⟨rfl, rfl⟩
                            by_cases hc2 : way > 4 ∧ near.getD 0 1 = 0
                            · refine ite_t (decide_eq_true hc2) ?_
                              have h0 : row.getD 0 0 ≤ M := by
                                obtain ⟨h4, h5⟩ := hc2
                                cases near with
                                | nil => exact absurd rfl (hne (by omega))
                                | cons a b => exact ((show a = 0 from h5) ▸ hnear a List.mem_cons_self).2
                              have hp0 := inv.rpos (row.getD 0 0) (getD_mem (by omega))
                              walk_at "tes"
                              refine ⟨.builtin "list.append", m_append rs.hS, .inl ⟨_, rfl⟩, ?_⟩
                              walk_at "tes"
                              refine ⟨by simp, ?_⟩
                              walk_at "tes"
                              refine K_append rs.hS (by have := inv.stp; simp; omega) ?_
                              refine ⟨trivial, ?_⟩
                              have rs1 := rs.setS (steps' := steps ++ [.short]) (o := steps.map Stp.v ++ [V.tup [V.str "short"]]) (by simp [Stp.v])
                              walk_at "tes"
                              refine ⟨.builtin "list.append", m_append rs1.hP, .inl ⟨_, rfl⟩, ?_⟩
                              walk_at "tes"
                              refine I_list (v := .int (row.getD 0 0 : Nat)) rs1.hF (by omega) (by omega) (by rw [show (0 : Int).toNat = 0 from rfl, List.getElem?_map, getq (by omega)]; rfl) ?_
                              walk_at "tes"
                              refine K_append rs1.hP (by simp; omega) ?_
                              refine ⟨trivial, ?_⟩
                              have rs2 := rs1.setP (spots' := spots ++ [row.getD 0 0]) (o := rowV spots ++ [V.int (row.getD 0 0 : Nat)]) (by simp)
                              walk_at "tes"
                              refine ⟨row, _, _, _, P, ?_, inv.step (s := .short) trivial (by decide) (far := row.getD 0 0) rfl rfl hp0.1 (by omega) hp0.2, ⟨rs2.hb.le (by omega), rs2.hB, rs2.hF, rs2.hS, rs2.hN, rs2.hP, rs2.nd⟩, (k8.over yS).over zP, zP⟩
                              exact ⟨rfl, rfl, rfl, rfl, rfl, rfl, rfl, trivial⟩
                            · refine ite_f (decide_eq_false hc2) ?_
                              refine TS_consG fun _ _ => (T1_assign (TE_mono (R' := fun v st' => ∃ k : Nat, v = .int k ∧ k < 4 ∧ (way = 1 → k = 3) ∧ (way ≠ 1 → row.getD k 0 ≤ M) ∧ BoxOK st' box (T + 11 + 4 * i + 2) ∧ Keep [box] st12 st') ?_ ?_) (.inl rfl) rfl)
                              · walk_at "tes"
                                by_cases hw1 : way = 1
                                · refine ite_t (by simp [hw1]) ?_
                                  walk_at "tes"
                                  exact ⟨3, rfl, by omega, fun _ => rfl, fun e => absurd hw1 e, rs.hb.le (by omega), Keep.refl⟩
                                · refine ite_f (by simp; omega) ?_
                                  have hne' := hne (by omega)
                                  have hnp : 0 < near.length := List.length_pos_iff.mpr hne'
                                  walk_at "tes"
                                  refine K_len_list hDs (by simp; omega) ?_
                                  walk_at "tes"
                                  refine take_spec G ((hr.deeper _).less (by decide)) rs.hb (by omega) (by simp; omega) (by simp; omega) fun r st13 r20 r21 b13 k13 => ?_
                                  obtain ⟨x, rfl⟩ := Int.eq_ofNat_of_zero_le r20
                                  have hx : x < near.length := by simpa using r21
                                  refine I_list (v := .int (near.getD x 0 : Nat)) (k13.one hDs (Ne.symm hDb)) (by omega) (by omega) (by rw [show (x : Int).toNat = x by omega, List.getElem?_map, getq hx]; rfl) ?_
                                  have hm := hnear (near.getD x 0) (getD_mem hx)
                                  exact ⟨_, rfl, hm.1, fun e => absurd e hw1, fun _ => hm.2, b13.le (by omega), k13⟩
                              · rintro v st13 hh0
                                refine e1 hh0 fun k hh1 => a6 hh1 fun q1 hk4 hk3 hkM b13 k13 => ?_
                                clear hh1 hh0
                                subst q1
                                have rs := rs.took b13 k13
                                have k8 := k8.trans k13
                                have hpk := inv.rpos (row.getD k 0) (getD_mem (by omega))
                                have hrow4 : (rowV row)[k]? = some (.int (row.getD k 0 : Nat)) := by rw [List.getElem?_map, getq (by omega)]; rfl
                                walk_at "te"
                                refine TS_consG fun _ _ => (T1_assign (TE_mono (R' := fun v st' => ∃ far : Nat, v = .int far ∧ 1 ≤ far ∧ far ≤ M ∧ far ≤ 100 ∧ (way ≠ 1 → far = row.getD k 0) ∧ BoxOK st' box (T + 11 + 4 * i + 3) ∧ Keep [box] st13 st') ?_ ?_) (.inl rfl) rfl)
                                · walk_at "tes"
                                  by_cases hw1 : way = 1
                                  · refine ite_t (by simp [hw1]) ?_
                                    walk_at "tes"
                                    refine take_spec G ((hr.deeper _).less (by decide)) rs.hb (by omega) (by omega) (by omega) fun r st14 r20 r21 b14 k14 => ?_
                                    obtain ⟨x, rfl⟩ := Int.eq_ofNat_of_zero_le r20
                                    walk_at "tes"
                                    exact ⟨1 + x, rfl, by omega, by omega, by omega, fun e => absurd hw1 e, b14.le (by omega), k14⟩
                                  · refine ite_f (by simp; omega) ?_
                                    walk_at "tes"
                                    refine I_list (v := .int (row.getD k 0 : Nat)) rs.hF (by omega) (by omega) (by rw [show (k : Int).toNat = k by omega]; exact hrow4) ?_
                                    exact ⟨_, rfl, hpk.1, hkM hw1, hpk.2, fun _ => rfl, rs.hb.le (by omega), Keep.refl⟩
                                · rintro v st14 hh0
                                  refine e1 hh0 fun far hh1 => a7 hh1 fun q1 hf1 hfM hf100 hfk b14 k14 => ?_
                                  clear hh1 hh0
                                  subst q1
                                  have rs := rs.took b14 k14
                                  have k8 := k8.trans k14
                                  walk_at "tes"
                                  refine take_spec G ((hr.deeper _).less (by decide)) rs.hb (by omega) (by omega) (by omega) fun r st15 r20 r21 b15 k15 => ?_
                                  obtain ⟨x, rfl⟩ := Int.eq_ofNat_of_zero_le r20
                                  have rs := rs.took b15 k15
                                  have k8 := k8.trans k15
                                  walk_at "tes"
                                  refine ⟨.builtin "list.append", m_append rs.hS, .inl ⟨_, rfl⟩, ?_⟩
                                  obtain ⟨j, hj⟩ : ∃ j, j = if way < 3 then 3 else k := ⟨_, rfl⟩
                                  have hs : ∃ s : Stp, s.ok ∧ s.size = 2 + x ∧ s.far row = far ∧ s.turn row = far :: row.eraseIdx j ∧ s.v = (if way < 3 then Stp.mat far (2 + x) else Stp.rep k (2 + x)).v := by
                                    by_cases hw3 : way < 3
                                    · refine ⟨.mat far (2 + x), ⟨by omega, by omega, by omega⟩, rfl, rfl, ?_, by rw [if_pos hw3]⟩
                                      rw [hj, if_pos hw3]
                                      have : row.take 3 = row.eraseIdx 3 := by
                                        rw [List.eraseIdx_eq_take_drop_succ, List.drop_of_length_le (by omega), List.append_nil]
                                      exact congrArg _ this
                                    · refine ⟨.rep k (2 + x), ⟨hk4, by omega, by omega⟩, rfl, (hfk (by omega)).symm, ?_, by rw [if_neg hw3]⟩
                                      rw [hj, if_neg hw3, hfk (by omega)]
                                      rfl
                                  obtain ⟨s, s1, s2, s3, s4, s5⟩ := hs
                                  have hj4 : j < 4 := by rw [hj]; split <;> omega
                                  refine TA_cons (TE_mono (R' := fun v st' => v = s.v ∧ st' = st15) ?_ ?_) (fun _ => rfl)
                                  · walk_at "tes"
                                    by_cases hw3 : way < 3
                                    · refine ite_t (by simp; omega) ?_
                                      rw [if_pos hw3] at s5
                                      walk_at "tes"
                                      refine ⟨by simp, ?_, rfl⟩
                                      rw [s5]
                                      rfl
                                    · refine ite_f (by simp; omega) ?_
                                      rw [if_neg hw3] at s5
                                      walk_at "tes"
                                      refine ⟨by simp, ?_, rfl⟩
                                      rw [s5]
                                      rfl
                                  · rintro v st16 ⟨rfl, rfl⟩
                                    walk_at "tes"
                                    refine K_append rs.hS (by have := inv.stp; simp; omega) ?_
                                    refine ⟨trivial, ?_⟩
                                    have rs := rs.setS (steps' := steps ++ [s]) (o := steps.map Stp.v ++ [s.v]) (by simp)
                                    have k8 := k8.over (o := .list (steps.map Stp.v ++ [s.v])) yS
                                    walk_at "tes"
                                    refine ⟨.builtin "list.pop", m_pop rs.hF, .inl ⟨_, rfl⟩, ?_⟩
                                    refine TA_cons (TE_mono (R' := fun v st' => v = .int j ∧ st' = St.set st16 S (.list (steps.map Stp.v ++ [s.v]))) ?_ ?_) (fun _ => rfl)
                                    · walk_at "tes"
                                      by_cases hw3 : way < 3
                                      · refine ite_t (by simp; omega) ?_
                                        rw [if_pos hw3] at hj
                                        walk_at "tes"
                                        exact ⟨by rw [hj]; rfl, rfl⟩
                                      · refine ite_f (by simp; omega) ?_
                                        rw [if_neg hw3] at hj
                                        walk_at "tes"
                                        exact ⟨by rw [hj], rfl⟩
                                    · rintro v st17 ⟨rfl, rfl⟩
                                      walk_at "tes"
                                      have hpop : (rowV row)[j]? = some (.int (row.getD j 0 : Nat)) := by rw [List.getElem?_map, getq (by omega)]; rfl
                                      refine K_pop (i := j) rfl rs.hF (by simp; omega) hpop ?_
                                      refine ⟨trivial, ?_⟩
                                      have rs := rs.setF (row' := row.eraseIdx j) (o := (rowV row).eraseIdx j) (erase_rowV row j)
                                      have k8 := k8.over (o := .list ((rowV row).eraseIdx j)) yF
                                      walk_at "tes"
                                      refine ⟨.builtin "list.insert", m_insert rs.hF, .inl ⟨_, rfl⟩, ?_⟩
                                      walk_at "tes"
                                      refine K_insert0 (xs := rowV (row.eraseIdx j)) rs.hF (by simp; have := List.length_eraseIdx_le row j; omega) ?_
                                      refine ⟨trivial, ?_⟩
                                      have rs := rs.setF (row' := far :: row.eraseIdx j) (o := V.int far :: rowV (row.eraseIdx j)) (by simp)
                                      have k8 := k8.over (o := .list (V.int far :: rowV (row.eraseIdx j))) yF
                                      walk_at "tes"
                                      refine ⟨by simp, fun e he => ?_⟩
                                      have k8 := k8.over (o := .list [V.int far]) (k8.none he (rs.hb.ne he))
                                      have rs := rs.kept (Keep.new (o := .list [V.int far]) he)
                                      walk_at "tes"
                                      refine O_mul_list (x := .int far) (St.set_self ..) (by omega) (by omega) fun g hg => ?_
                                      have k8 := k8.over (o := .list (List.replicate (2 + (x : Int)).toNat (.int far))) (k8.none hg (rs.hb.ne hg))
                                      have rs := rs.kept (Keep.new (o := .list (List.replicate (2 + (x : Int)).toNat (.int far))) hg)
                                      walk_at "tes"
                                      refine O_add_list rs.hP (St.set_self ..) (by simp; omega) fun q hq => ?_
                                      have yq := k8.none hq (rs.hb.ne hq)
                                      have k8 := k8.over (o := .list (rowV spots ++ List.replicate (2 + (x : Int)).toNat (.int far))) yq
                                      have rs := rs.newP hq (spots' := spots ++ List.replicate s.size far) (o := rowV spots ++ List.replicate (2 + (x : Int)).toNat (.int far)) (by rw [s2, show (2 + (x : Int)).toNat = 2 + x by omega]; simp)
                                      walk_at "tes"
                                      refine ⟨_, _, _, _, q, ?_, inv.step (s := s) s1 (by omega) s3 s4 hf1 (by omega) hf100, ⟨rs.hb.le (by omega), rs.hB, rs.hF, rs.hS, rs.hN, rs.hP, rs.nd⟩, k8, yq⟩
                                      exact ⟨rfl, rfl, rfl, rfl, rfl, rfl, rfl, trivial⟩
                · intro x hx
                  simp at hx
                  rcases hx with rfl | rfl
                  · exact .inl rfl
                  · exact .inr ⟨rfl, rfl, rfl⟩
              · rintro fr st7 hh0
                refine e5 hh0 fun row spots sing steps P hh1 => a5 hh1 fun hsb inv rs k8 zP => ?_
                clear hh1 hh0
                rw [show (rngItems count).length = count by simp [rngItems]] at inv rs
                walk_at "te"
                refine TS.weakG hsb fun _ _ => ?_
                walk_at "tes"
                refine K_bytes_list (b := sing) rs.hN (by have := inv.sing0; have := zeros_le spots; have := inv.len; omega) (hr.deeper _).handled ?_
                walk_at "tes"
                refine ⟨by simp, ?_⟩
                walk_at "tes"
                exact h early sing begun row spots steps B S P F st7 (by omega) inv (rs.hb.le (by omega)) rs.hB rs.hS rs.hP rs.hF (Ne.symm rs.boxB) (Ne.symm rs.boxS) (Ne.symm rs.boxP) (Ne.symm rs.boxF) k8
            · intro x hx
              simp at hx
              rcases hx with rfl | rfl | rfl | rfl <;> exact .inl rfl
end

/-- the last spot that is not 0 -/
def lastNZ (b : Nat) : List Nat → Nat
  | [] => b
  | 0 :: l => lastNZ b l
  | (d + 1) :: l => lastNZ (d + 1) l
theorem lastNZ_append : ∀ (b : Nat) (l r : List Nat), lastNZ b (l ++ r) = lastNZ (lastNZ b l) r
  | _, [], _ => rfl
  | b, 0 :: l, r => by rw [List.cons_append, lastNZ, lastNZ, lastNZ_append b l r]
  | b, (d + 1) :: l, r => by rw [List.cons_append, lastNZ, lastNZ, lastNZ_append (d + 1) l r]
theorem lastNZ_zeros (b : Nat) : ∀ n, lastNZ b (List.replicate n 0) = b
  | 0 => rfl
  | n + 1 => by rw [List.replicate_succ, lastNZ, lastNZ_zeros b n]
theorem lastNZ_rep {d : Nat} (h : 1 ≤ d) : ∀ (b n : Nat), 1 ≤ n → lastNZ b (List.replicate n d) = d
  | b, 0, e => by omega
  | b, 1, _ => by
    obtain ⟨k, rfl⟩ : ∃ k, d = k + 1 := ⟨d - 1, by omega⟩
    rfl
  | b, n + 2, _ => by
    obtain ⟨k, rfl⟩ : ∃ k, d = k + 1 := ⟨d - 1, by omega⟩
    rw [List.replicate_succ, lastNZ, lastNZ_rep h (k + 1) (n + 1) (by omega)]

/-- the rows that are led: four, all positive -/
def Pos4 (row : List Nat) : Prop := row.length = 4 ∧ ∀ d ∈ row, 1 ≤ d
theorem mem_getD {row : List Nat} {k : Nat} (h : k < row.length) : row.getD k 0 ∈ row := by simp [List.getD, h]
theorem far_pos {s : Stp} {row : List Nat} (ho : s.ok) (hp : s.pos) (hr : Pos4 row) (hl : s ≠ .lit) : 1 ≤ s.far row := by
  cases s with
  | lit => exact absurd rfl hl
  | short => exact hr.2 _ (mem_getD (by have := hr.1; omega))
  | mat f n => exact hp
  | rep k n => exact hr.2 _ (mem_getD (by have := hr.1; have := ho.1; omega))
theorem turn_pos {s : Stp} {row : List Nat} (ho : s.ok) (hp : s.pos) (hr : Pos4 row) : Pos4 (s.turn row) := by
  refine ⟨turn_length ho hr.1, fun d hd => ?_⟩
  cases s with
  | lit => exact hr.2 d hd
  | short => exact hr.2 d hd
  | mat f n =>
    rcases List.mem_cons.mp hd with rfl | hd
    · exact hp
    · exact hr.2 d (List.mem_of_mem_take hd)
  | rep k n =>
    rcases List.mem_cons.mp hd with rfl | hd
    · exact hr.2 _ (mem_getD (by have := hr.1; have := ho.1; omega))
    · exact hr.2 d (List.mem_of_mem_eraseIdx hd)
/-- the first of the four is the last distance -/
theorem turn_head {s : Stp} {row : List Nat} (ho : s.ok) (hp : s.pos) (hr : Pos4 row) : (s.turn row).getD 0 0 = lastNZ (row.getD 0 0) (List.replicate s.size (s.far row)) := by
  cases s with
  | lit => rfl
  | short => exact (lastNZ_rep (far_pos ho hp hr (fun e => nomatch e)) _ 1 (by omega)).symm
  | mat f n => exact (lastNZ_rep (far_pos ho hp hr (fun e => nomatch e)) _ _ (size_pos ho)).symm
  | rep k n => exact (lastNZ_rep (far_pos ho hp hr (fun e => nomatch e)) _ _ (size_pos ho)).symm
theorem endRow_pos : ∀ {ss : List Stp} {row : List Nat}, (∀ s ∈ ss, s.ok) → (∀ s ∈ ss, s.pos) → Pos4 row → Pos4 (endRow ss row)
  | [], _, _, _, hr => hr
  | s :: ss, row, ho, hp, hr => endRow_pos (ss := ss) (fun x hx => ho x (List.mem_cons_of_mem _ hx)) (fun x hx => hp x (List.mem_cons_of_mem _ hx)) (turn_pos (ho s List.mem_cons_self) (hp s List.mem_cons_self) hr)
theorem endRow_head : ∀ {ss : List Stp} {row : List Nat}, (∀ s ∈ ss, s.ok) → (∀ s ∈ ss, s.pos) → Pos4 row → (endRow ss row).getD 0 0 = lastNZ (row.getD 0 0) (spotsOf ss row)
  | [], _, _, _, _ => rfl
  | s :: ss, row, ho, hp, hr => by
    rw [endRow, spotsOf, lastNZ_append, ← turn_head (ho s List.mem_cons_self) (hp s List.mem_cons_self) hr]
    exact endRow_head (fun x hx => ho x (List.mem_cons_of_mem _ hx)) (fun x hx => hp x (List.mem_cons_of_mem _ hx)) (turn_pos (ho s List.mem_cons_self) (hp s List.mem_cons_self) hr)

/-- what short steps can tell -/
def Runs (b : Nat) (spots : List Nat) : Prop := ∀ (p d : Nat), spots[p]? = some d → 1 ≤ d → d = lastNZ b (spots.take p) ∨ spots[p + 1]? = some d
theorem runs_of : ∀ {ss : List Stp} {row : List Nat}, (∀ s ∈ ss, s.ok) → (∀ s ∈ ss, s.pos) → Pos4 row → Runs (row.getD 0 0) (spotsOf ss row)
  | [], _, _, _, _, p, d, e, _ => by simp [spotsOf] at e
  | s :: ss, row, ho, hp, hr, p, d, e, hd => by
    have ho0 := ho s List.mem_cons_self
    have hp0 := hp s List.mem_cons_self
    have ih := runs_of (fun x hx => ho x (List.mem_cons_of_mem _ hx)) (fun x hx => hp x (List.mem_cons_of_mem _ hx)) (turn_pos ho0 hp0 hr)
    rw [spotsOf] at e ⊢
    by_cases hi : p < s.size
    · rw [List.getElem?_append_left (by simpa using hi)] at e
      obtain rfl := List.eq_of_mem_replicate (List.mem_of_getElem? e)
      rw [List.take_append_of_le_length (by simp; omega), List.take_replicate, Nat.min_eq_left (by omega)]
      by_cases hp1 : p + 1 < s.size
      · right
        rw [List.getElem?_append_left (by simpa using hp1)]
        simp [hp1]
      · left
        by_cases h1 : 1 ≤ p
        · exact (lastNZ_rep hd _ p h1).symm
        · obtain rfl : p = 0 := by omega
          cases s with
          | lit => exact absurd hd (Nat.not_succ_le_zero 0)
          | short => rfl
          | mat f n => have := ho0.2.1; simp [Stp.size] at hp1; omega
          | rep k n => have := ho0.2.1; simp [Stp.size] at hp1; omega
    · rw [List.getElem?_append_right (by simp; omega)] at e
      simp only [List.length_replicate] at e
      rcases ih (p - s.size) d e hd with h1 | h1
      · left
        rw [h1, turn_head ho0 hp0 hr, ← lastNZ_append, List.take_append, List.take_of_length_le (l := List.replicate _ _) (by simp; omega)]
        simp
      · right
        rw [List.getElem?_append_right (by simp; omega)]
        simp only [List.length_replicate]
        rw [show p + 1 - s.size = p - s.size + 1 by omega]
        exact h1

theorem run_iff {spots : List Nat} {p n d : Nat} : (spots.drop p).take n = List.replicate n d ↔ ∀ j < n, spots[p + j]? = some d := by
  constructor
  · intro e j hj
    have := congrArg (·[j]?) e
    simp only [List.getElem?_take, List.getElem?_replicate, if_pos hj, List.getElem?_drop] at this
    exact this
  · intro h
    apply List.ext_getElem?
    intro j
    rw [List.getElem?_take, List.getElem?_replicate]
    by_cases hj : j < n
    · rw [if_pos hj, if_pos hj, List.getElem?_drop]; exact h j hj
    · rw [if_neg hj, if_neg hj]
theorem take_run {spots : List Nat} {p n d : Nat} (h : ∀ j < n, spots[p + j]? = some d) : spots.take (p + n) = spots.take p ++ List.replicate n d := by
  rw [List.take_add, run_iff.mpr h]

section
variable {prog : Program} {w : World} {hB : Heap} {c : Cx} {fr : Vars} {st : St} {E : EE}
theorem T1_mono {x : Stmt} {R R' : Fl → Vars → St → Prop} (h : T1 prog w hB c x fr st E R') (hm : ∀ f fr' st', R' f fr' st' → R f fr' st') : T1 prog w hB c x fr st E R :=
  fun s Q ha hQ => h s Q ha fun f fr' st' r h' tk' hR => hQ f fr' st' r h' tk' (hm _ _ _ hR)

theorem T1_monoG {x : Stmt} {R R' : Fl → Vars → St → Prop} (h : ∀ N, Imp R' N → T1 prog w hB c x fr st E N) (hm : ∀ f fr' st', R' f fr' st' → R f fr' st') : T1 prog w hB c x fr st E R :=
  T1_mono (h _ fun _ _ _ x => x) hm

theorem named_spec (G : Gd w hB (KK w)) (hr : Room c.A 8) {box P F0 : Addr} {T : Nat} {spots begun : List Nat} {R : V → St → Prop} (hb : BoxOK st box T) (hT : T ≤ 2000) (hP : st P = some (.list (rowV spots))) (hF0 : st F0 = some (.list (rowV begun)))
    (hPb : P ≠ box) (hp4 : Pos4 begun) (hruns : Runs (begun.getD 0 0) spots) (hl : spots.length ≤ 100) (h100 : ∀ d ∈ spots, d ≤ 100)
    (h : ∀ (twin : List Stp) S F st', (∀ s ∈ twin, s.ok) → (∀ s ∈ twin, s.pos) → spotsOf twin begun = spots → BoxOK st' box (T + 400) → st' S = some (.list (twin.map Stp.v)) → st' F = some (.list (rowV (endRow twin begun))) →
      S ≠ box → F ≠ box → Keep [box] st st' → R (.tup [.ref S, .ref F]) st') : TC prog w hB c c.A (.val (.ref 193)) [.ref box, .ref P, .ref F0] fr st E R := by
  refine TC.noE (K_fn G ["box", "spots", "four"] rfl rfl hr.limit rfl ?_ (by decide) (by decide) (by decide) ?_)
  · intro s
    exact len3 fun u1 u2 u3 hK => BindsTo.of_eq rfl
  · intro L
    refine TS_consG fun _ _ => (T1_unpack (ns := [("four", _), ("steps", _), ("place", _)]) ?_ hr.handled rfl ?_ rfl rfl)
    · walk_at "tes"
      refine K_list_list hF0 (by have := hp4.1; simp; omega) fun F hF => ?_
      walk_at "tes"
      refine ⟨by decide, fun S hS => ?_⟩
      walk_at "tes"
      refine ⟨by simp, _, rfl, rfl, ?_⟩
      have yF := hF
      have yS := St.back hS
      have nbF : box ≠ F := hb.ne yF
      have nbS : box ≠ S := hb.ne yS
      have nFS : F ≠ S := ne_new (o := .list (rowV begun)) (St.set_self ..) hS
      have k0 : Keep [box] st (St.set (St.set st F (.list (rowV begun))) S (.list [])) := (Keep.new yF).over yS
      walk_at "te"
      refine TS_consG fun _ _ => (T1_while PassE.never (fun n fr st' => ∃ (twin : List Stp) (p : Nat), n = spots.length - p ∧ p ≤ spots.length ∧ twin.length ≤ p ∧ Sub [("box", .ref box), ("spots", .ref P), ("four", .ref F), ("steps", .ref S), ("place", .int (p : Nat))] fr ∧
        (∀ s ∈ twin, s.ok) ∧ (∀ s ∈ twin, s.pos) ∧ spotsOf twin begun = spots.take p ∧ BoxOK st' box (T + 4 * p) ∧ st' S = some (.list (twin.map Stp.v)) ∧ st' F = some (.list (rowV (endRow twin begun))) ∧ Keep [box] st st') spots.length ?_ ?_)
      · exact ⟨[], 0, by omega, by omega, by simp, ⟨rfl, rfl, rfl, rfl, rfl, trivial⟩, by simp, by simp, by simp [spotsOf], (hb.keep (Keep.new (ex := []) yF) (by simp)).keep (Keep.new (ex := []) hS) (by simp) , St.set_self .., by rw [St.set_ne nFS]; exact St.set_self .., k0⟩
      · rintro n fr st1 hh0
        refine e2 hh0 fun twin p hh1 => a11 hh1 fun q1 hp htl hsb hok hpos hsp b1 hS1 hF1 k1 => ?_
        clear hh1 hh0
        subst q1
        have hP1 := k1.one hP hPb
        refine TB.weak hsb ?_
        walk_at "tes"
        refine K_len_list hP1 (by simp; omega) ?_
        walk_at "tes"
        by_cases hlt : p < spots.length
        · refine ite_t (by simp; omega) ?_
          refine TS.weakG hsb fun _ _ => ?_
          refine TS_consG fun _ _ => (T1_unpack (ns := [("far", _), ("size", _)]) ?_ hr.handled rfl ?_ rfl rfl)
          · obtain ⟨d, hd⟩ : ∃ d, spots[p]? = some d := ⟨_, getq hlt⟩
            walk_at "tes"
            refine I_list (v := .int (d : Nat)) hP1 (by omega) (by omega) (by rw [show (p : Int).toNat = p by omega, List.getElem?_map, hd]; rfl) ?_
            walk_at "tes"
            refine ⟨by simp, _, rfl, rfl, ?_⟩
            walk_at "te"
            refine TS_consG fun _ _ => (T1_while PassE.never (fun n fr st' => ∃ z : Nat, n = 6 - z ∧ 1 ≤ z ∧ z ≤ 6 ∧ (∀ j < z, spots[p + j]? = some d) ∧ Sub [("far", .int d), ("size", .int z), ("box", .ref box), ("spots", .ref P), ("four", .ref F), ("steps", .ref S), ("place", .int (p : Nat))] fr ∧ Keep [] st1 st') 5 ?_ ?_)
            · refine ⟨1, by omega, by omega, by omega, fun j hj => ?_, ⟨rfl, rfl, rfl, rfl, rfl, rfl, rfl, trivial⟩, Keep.refl⟩
              rw [show p + j = p by omega]; exact hd
            · rintro n fr2 st2 hh0
              refine e1 hh0 fun z hh1 => a6 hh1 fun q1 hz1 hz6 hrun hsb2 k2 => ?_
              clear hh1 hh0
              subst q1
              have hP2 := k2.all hP1
              refine TB.weak hsb2 ?_
              refine TB_mono (R' := fun b st' => b = decide (z < 6 ∧ ∀ j < z + 1, spots[p + j]? = some d) ∧ Keep [] st2 st') ?_ ?_
              · walk_at "tes"
                by_cases hz : z < 6
                · refine ite_t (by simp; omega) ?_
                  walk_at "tes"
                  have e1 : (p : Int) + (z : Int) + 1 = ((p + z + 1 : Nat) : Int) := by omega
                  rw [e1]
                  refine I_list_slice (lo := some p) (hi := some (p + z + 1)) hP2 (.int p) (.int (p + z + 1)) (by simp; omega) fun a ha => ?_
                  walk_at "tes"
                  refine ⟨by simp, fun e he => ?_⟩
                  walk_at "tes"
                  refine O_mul_list (x := .int d) (St.set_self ..) (by omega) (by omega) fun g hg => ?_
                  walk_at "tes"
                  have ka := (Keep.new (ex := []) (o := .list (cut (rowV spots) (some p) (some (p + z + 1)))) ha)
                  have ke := ka.trans (Keep.new (ex := []) (o := .list [V.int d]) he)
                  have kg := ke.trans (Keep.new (ex := []) (o := .list (List.replicate ((z : Int) + 1).toNat (V.int d))) hg)
                  have hcut : cut (rowV spots) (some p) (some (p + z + 1)) = (((spots.drop p).take (z + 1)).map fun (n : Nat) => (n : Int)).map V.int := by
                    simp only [cut, rowV, List.map_map, Option.getD_some]
                    rw [← List.map_take, ← List.map_drop, List.drop_take, show p + z + 1 - p = z + 1 by omega]
                    rfl
                  have hga := (((Keep.new (ex := []) (o := .list [V.int d]) he)).trans (Keep.new (ex := []) (o := .list (List.replicate ((z : Int) + 1).toNat (V.int d))) hg)).all (St.set_self (st := st2) (a := a) (o := O.list (cut (rowV spots) (some p) (some (p + z + 1)))))
                  refine C_eq_ints (ns := ((spots.drop p).take (z + 1)).map fun (n : Nat) => (n : Int)) (ms := (List.replicate (z + 1) d).map fun (n : Nat) => (n : Int)) (hga.trans (by rw [hcut])) ((St.set_self ..).trans (by rw [show ((z : Int) + 1).toNat = z + 1 by omega]; simp)) ((hr.deeper _).less (by decide)) ?_
                  have hq : decide ((((spots.drop p).take (z + 1)).map fun (n : Nat) => (n : Int)) = (List.replicate (z + 1) d).map fun (n : Nat) => (n : Int)) = decide (z < 6 ∧ ∀ j < z + 1, spots[p + j]? = some d) := by
                    apply decide_eq_decide.mpr
                    rw [List.map_inj_right (f := fun (n : Nat) => (n : Int)) (by intro a b h; have h : (a : Int) = (b : Int) := h; omega), run_iff]
                    exact ⟨fun h => ⟨hz, h⟩, fun h => h.2⟩
                  rw [hq]
                  walk_at "tes"
                  cases hdec : decide (z < 6 ∧ ∀ j < z + 1, spots[p + j]? = some d) with
                  | true =>
                    refine ite_t rfl ?_
                    walk_at "tes"
                    exact ⟨rfl, kg⟩
                  | false =>
                    refine ite_f rfl ?_
                    exact ⟨rfl, kg⟩
                · refine ite_f (by simp; omega) ?_
                  exact ⟨by simp [hz], Keep.refl⟩
              · rintro b st3 ⟨rfl, k3⟩
                have k3 := k2.trans k3
                by_cases hc : z < 6 ∧ ∀ j < z + 1, spots[p + j]? = some d
                · refine ite_t (decide_eq_true hc) ?_
                  refine TS.weakG hsb2 fun _ _ => ?_
                  walk_at "tes"
                  exact ⟨6 - (z + 1), by omega, z + 1, rfl, by omega, by omega, hc.2, ⟨rfl, rfl, rfl, rfl, rfl, rfl, rfl, trivial⟩, k3⟩
                · refine ite_f (decide_eq_false hc) ?_
                  walk_at "te"
                  refine TS.weakG hsb2 fun _ _ => ?_
                  have hz1' : z = 1 → spots[p + 1]? ≠ some d := by
                    intro e1 e2
                    refine hc ⟨by omega, fun j hj => ?_⟩
                    by_cases hj0 : j < z
                    · exact hrun j hj0
                    · rw [show j = 1 by omega]; exact e2
                  have hcur := endRow_pos hok hpos hp4
                  have hhead := endRow_head hok hpos hp4
                  rw [hsp] at hhead
                  have hd100 := h100 d (List.mem_of_getElem? hd)
                  have b3 := b1.keep k3 (by simp)
                  have hS3 := k3.all hS1
                  have hF3 := k3.all hF1
                  have hP3 := k3.all hP1
                  have k3 : Keep [box] st st3 := k1.trans (k3.more (by simp))
                  generalize hcg : endRow twin begun = cur at hcur hhead hF3
                  have hc4 := hcur.1
                  refine TS_consG fun _ _ => (T1_monoG (R' := fun f fr' st' => f = .next ∧ ∃ (s : Stp) (y : Nat), s.ok ∧ s.pos ∧ s.size = y ∧ s.far cur = d ∧ (∀ j < y, spots[p + j]? = some d) ∧ 1 ≤ y ∧ Sub [("size", .int y), ("box", .ref box), ("spots", .ref P), ("four", .ref F), ("steps", .ref S), ("place", .int (p : Nat))] fr' ∧
                    BoxOK st' box (T + 4 * p + 4) ∧ st' S = some (.list ((twin ++ [s]).map Stp.v)) ∧ st' F = some (.list (rowV (s.turn cur))) ∧ Keep [box] st st') (fun _ _ => ?_) ?_)
                  · refine T1_if ?_
                    walk_at "tes"
                    by_cases hd0 : d = 0
                    · subst hd0
                      refine ite_t rfl ?_
                      walk_at "tes"
                      refine ⟨.builtin "list.append", m_append hS3, .inl ⟨_, rfl⟩, ?_⟩
                      walk_at "tes"
                      refine ⟨by simp, ?_⟩
                      walk_at "tes"
                      refine K_append hS3 (by simp; omega) ?_
                      refine ⟨trivial, ?_⟩
                      walk_at "tes"
                      refine ⟨rfl, .lit, 1, trivial, trivial, rfl, rfl, fun j hj => ?_, by omega, ⟨rfl, rfl, rfl, rfl, rfl, rfl, trivial⟩, ?_, ?_, ?_, k3.over yS⟩
                      · rw [show p + j = p by omega]; exact hd
                      · obtain ⟨a, b, t, e, hr'⟩ := b3.le (show T + 4 * p ≤ T + 4 * p + 4 by omega)
                        exact ⟨a, b, t, by rw [St.set_ne nbS]; exact e, hr'⟩
                      · rw [St.set_self]; simp [Stp.v]
                      · rw [St.set_ne nFS]; exact hF3
                    · refine ite_f (by simp; omega) ?_
                      have hshort : z = 1 → d = cur.getD 0 0 := by
                        intro e1
                        rcases hruns p d hd (by omega) with h1 | h1
                        · rw [hhead]; exact h1
                        · exact absurd h1 (hz1' e1)
                      have hget : ∀ k, k < 4 → (rowV cur)[k]? = some (.int (cur.getD k 0 : Nat)) := fun k hk => by rw [List.getElem?_map, getq (by omega)]; rfl
                      refine TS_consG fun _ _ => (T1_if (TB_mono (R' := fun b st' => (b = true → d = cur.getD 0 0) ∧ (b = false → 2 ≤ z) ∧ BoxOK st' box (T + 4 * p + 1) ∧ Keep [box] st3 st') ?_ ?_))
                      · walk_at "tes"
                        by_cases hz : z = 1
                        · refine ite_t (by simp [hz]) ?_
                          exact ⟨fun _ => hshort hz, fun e => (nomatch e), b3.le (by omega), Keep.refl⟩
                        · refine ite_f (by simp; omega) ?_
                          walk_at "tes"
                          refine I_list (v := .int (cur.getD 0 0 : Nat)) hF3 (by omega) (by omega) (hget 0 (by omega)) ?_
                          walk_at "tes"
                          by_cases hdc : d = cur.getD 0 0
                          · refine ite_t (by simp [hdc]) ?_
                            walk_at "tes"
                            refine take_spec G ((hr.deeper _).less (by decide)) b3 (by omega) (by omega) (by omega) fun r st4 r0 r1 b4 k4 => ?_
                            walk_at "tes"
                            by_cases hr0 : r = 0
                            · refine ite_t (by simp [hr0]) ?_
                              walk_at "tes"
                              exact ite_t rfl ⟨fun _ => hdc, fun e => (nomatch e), b4.le (by omega), k4⟩
                            · refine ite_f (by simp; omega) ?_
                              refine ite_f rfl ?_
                              walk_at "tes"
                              exact ⟨fun e => (nomatch e), fun _ => by omega, b4.le (by omega), k4⟩
                          · refine ite_f (by rw [beq_eq_false_iff_ne]; omega) ?_
                            refine ite_f rfl ?_
                            walk_at "tes"
                            exact ⟨fun e => (nomatch e), fun _ => by omega, b3.le (by omega), Keep.refl⟩
                      · rintro b st4 ⟨ht, hf, b4, k4⟩
                        have hS4 := k4.one hS3 (Ne.symm nbS)
                        have hF4 := k4.one hF3 (Ne.symm nbF)
                        have k4 := k3.trans k4
                        cases b with
                        | true =>
                          refine ite_t rfl ?_
                          walk_at "tes"
                          refine ⟨.builtin "list.append", m_append hS4, .inl ⟨_, rfl⟩, ?_⟩
                          walk_at "tes"
                          refine ⟨by simp, ?_⟩
                          walk_at "tes"
                          refine K_append hS4 (by simp; omega) ?_
                          refine ⟨trivial, ?_⟩
                          walk_at "tes"
                          refine ⟨rfl, .short, 1, trivial, trivial, rfl, (ht rfl).symm, fun j hj => ?_, by omega, ⟨rfl, rfl, rfl, rfl, rfl, rfl, trivial⟩, ?_, ?_, ?_, k4.over yS⟩
                          · rw [show p + j = p by omega]; exact hd
                          · obtain ⟨a, b, t, e, hr'⟩ := b4.le (show T + 4 * p + 1 ≤ T + 4 * p + 4 by omega)
                            exact ⟨a, b, t, by rw [St.set_ne nbS]; exact e, hr'⟩
                          · rw [St.set_self]; simp [Stp.v]
                          · rw [St.set_ne nFS]; exact hF4
                        | false =>
                          refine ite_f rfl ?_
                          have hz2 := hf rfl
                          walk_at "tes"
                          refine take_spec G ((hr.deeper _).less (by decide)) b4 (by omega) (by omega) (by omega) fun r st5 r0 r1 b5 k5 => ?_
                          obtain ⟨x, rfl⟩ := Int.eq_ofNat_of_zero_le r0
                          have hS5 := k5.one hS4 (Ne.symm nbS)
                          have hF5 := k5.one hF4 (Ne.symm nbF)
                          have k5 := k4.trans k5
                          obtain ⟨y, hy⟩ : ∃ y, y = 2 + x := ⟨_, rfl⟩
                          have hyz : y ≤ z := by omega
                          have ey : (2 : Int) + (x : Int) = (y : Int) := by omega
                          refine O_add ?_
                          rw [ey]
                          walk_at "te"
                          refine TS_consG fun _ _ => (T1_assign_comp (cap := [("four", .ref F), ("far", .int d)]) (bnd := fun v fr => setVar fr "k" v) ⟨rfl, rfl, by decide, by decide, ?_, by simp, ?_, bound_name rfl⟩ rfl ?_ rfl)
                          · intro x hx
                            rcases List.mem_cons.mp hx with rfl | hx
                            · exact lookup_mem rfl
                            · rcases List.mem_cons.mp hx with rfl | hx
                              · exact lookup_mem rfl
                              · cases hx
                          · refine capt_of ?_
                            intro p hp
                            simp only [List.mem_cons, List.not_mem_nil, or_false] at hp
                            rcases hp with rfl | rfl
                            · exact ⟨rfl, .inl rfl, rfl, .inl rfl⟩
                            · exact ⟨rfl, .inl rfl, rfl, .inl rfl⟩
                          · walk_at "tes"
                            refine K_range ?_
                            refine ⟨rngItems 4, _, _, it_range (n := 4) (hr.deeper _).handled (by omega), by simp [rngItems], trivial, fun C => ⟨binds_name (.inl rfl), fun i ys st' => st' = st5 ∧ ys = rowV ((List.range i).filter fun k => decide (cur.getD k 0 = d)), ⟨rfl, rfl⟩, fun _ _ _ _ => trivial, ?_, ?_⟩⟩
                            · rintro k ys st6 v hi ⟨rfl, rfl⟩ hv
                              have hi' : k < 4 := by simpa [rngItems] using hi
                              have hv' : v = .int (k : Int) := by
                                unfold rngItems at hv
                                rw [List.getElem?_map, List.getElem?_range hi'] at hv
                                simpa using hv.symm
                              subst hv'
                              refine TTests_one ?_
                              walk_at "tes"
                              refine I_list (v := .int (cur.getD k 0 : Nat)) hF5 (by omega) (by omega) (by rw [show (k : Int).toNat = k by omega]; exact hget k hi') ?_
                              walk_at "tes"
                              by_cases hk : cur.getD k 0 = d
                              · refine ite_t (by rw [hk]; simp) ?_
                                walk_at "tes"
                                refine ⟨rfl, ?_⟩
                                rw [List.range_succ, List.filter_append, List.filter_cons_of_pos (by simpa using hk)]
                                simp
                              · refine ite_f (by rw [beq_eq_false_iff_ne]; omega) ?_
                                refine ⟨rfl, ?_⟩
                                rw [List.range_succ, List.filter_append, List.filter_cons_of_neg (by simpa using hk)]
                                simp
                            · rintro ys st6 ⟨rfl, rfl⟩ D hD
                              have hsame : ∀ k ∈ (List.range (rngItems 4).length).filter (fun k => decide (cur.getD k 0 = d)), k < 4 ∧ cur.getD k 0 = d := by
                                intro k hk
                                obtain ⟨h1, h2⟩ := List.mem_filter.mp hk
                                exact ⟨by simpa [rngItems] using h1, by simpa using h2⟩
                              have hsl : ((List.range (rngItems 4).length).filter (fun k => decide (cur.getD k 0 = d))).length ≤ 4 := by
                                refine Nat.le_trans (List.length_filter_le _ _) ?_
                                simp [rngItems]
                              generalize (List.range (rngItems 4).length).filter (fun k => decide (cur.getD k 0 = d)) = same at hsame hsl
                              have hDb : box ≠ D := b5.ne hD
                              have kD := Keep.new (ex := []) (o := .list (rowV same)) hD
                              have hDs : St.set st6 D (.list (rowV same)) D = some (.list (rowV same)) := St.set_self ..
                              have b7 := b5.keep kD (by simp)
                              have hS7 := kD.all hS5
                              have hF7 := kD.all hF5
                              have k7 := k5.trans (kD.more (ex' := [box]) (by simp))
                              generalize st6.set D (.list (rowV same)) = st7 at hDs b7 hS7 hF7 k7
                              walk_at "te"
                              refine TS_consG fun _ _ => (T1_monoG (R' := fun f fr' st' => f = .next ∧ ∃ (s : Stp) (l : List Nat), s.ok ∧ s.pos ∧ s.size = y ∧ s.far cur = d ∧ s.turn cur = d :: l ∧ l.length = 3 ∧ Sub [("far", .int d), ("size", .int y), ("box", .ref box), ("spots", .ref P), ("four", .ref F), ("steps", .ref S), ("place", .int (p : Nat))] fr' ∧
                                BoxOK st' box (T + 4 * p + 4) ∧ st' S = some (.list ((twin ++ [s]).map Stp.v)) ∧ st' F = some (.list (rowV l)) ∧ Keep [box] st st') (fun _ _ => ?_) ?_)
                              · refine T1_if (TB_mono (R' := fun b st' => (b = false → same ≠ []) ∧ BoxOK st' box (T + 4 * p + 3) ∧ Keep [box] st7 st') ?_ ?_)
                                · walk_at "tes"
                                  refine ⟨by decide, fun e he => ?_⟩
                                  walk_at "tes"
                                  have hDe : D ≠ e := ne_new hDs he
                                  have kE := Keep.new (ex := []) (o := .list []) he
                                  have bE := b7.keep kE (by simp)
                                  refine C_eq_ints (ns := same.map fun (n : Nat) => (n : Int)) (ms := []) (by rw [St.set_ne hDe, hDs]; simp) (by rw [St.set_self]; rfl) ((hr.deeper _).less (by decide)) ?_
                                  have hq : decide ((same.map fun (n : Nat) => (n : Int)) = []) = decide (same = []) := by simp
                                  rw [hq]
                                  walk_at "tes"
                                  by_cases hne : same = []
                                  · exact ite_t (decide_eq_true hne) ⟨fun e => (nomatch e), bE.le (by omega), kE.more (by simp)⟩
                                  · refine ite_f (decide_eq_false hne) ?_
                                    walk_at "tes"
                                    refine take_spec G ((hr.deeper _).less (by decide)) bE (by omega) (by omega) (by omega) fun r st8 r0 r1 b8 k8 => ?_
                                    walk_at "tes"
                                    cases (r == 0) with
                                    | true => exact ite_t rfl ⟨fun e => (nomatch e), b8.le (by omega), (kE.more (by simp)).trans k8⟩
                                    | false =>
                                      refine ite_f rfl ?_
                                      walk_at "tes"
                                      exact ⟨fun _ => hne, b8.le (by omega), (kE.more (by simp)).trans k8⟩
                                · rintro b st8 ⟨hb8, b8, k8⟩
                                  have hS8 := k8.one hS7 (Ne.symm nbS)
                                  have hF8 := k8.one hF7 (Ne.symm nbF)
                                  have hD8 := k8.one hDs (Ne.symm hDb)
                                  have k8 := k7.trans k8
                                  cases b with
                                  | true =>
                                    refine ite_t rfl ?_
                                    walk_at "tes"
                                    refine ⟨.builtin "list.append", m_append hS8, .inl ⟨_, rfl⟩, ?_⟩
                                    walk_at "tes"
                                    refine ⟨by simp, ?_⟩
                                    walk_at "tes"
                                    refine K_append hS8 (by simp; omega) ?_
                                    refine ⟨trivial, ?_⟩
                                    have hF9 : St.set st8 S (.list (twin.map Stp.v ++ [V.tup [.str "match", .int d, .int y]])) F = some (.list (rowV cur)) := by rw [St.set_ne nFS]; exact hF8
                                    walk_at "tes"
                                    refine ⟨.builtin "list.pop", m_pop hF9, .inl ⟨_, rfl⟩, ?_⟩
                                    walk_at "tes"
                                    have hcut : rowV cur = rowV (cur.take 3) ++ [.int (cur.getD 3 0 : Nat)] := by
                                      obtain ⟨hc4', _⟩ := hcur
                                      match cur, hc4' with
                                      | [a, b, c', e], _ => rfl
                                    refine K_pop0 (xs := rowV (cur.take 3)) (hF9.trans (by rw [hcut])) (by simp; omega) ?_
                                    refine ⟨trivial, ?_⟩
                                    walk_at "tes"
                                    refine ⟨rfl, .mat d y, cur.take 3, ⟨by omega, by omega, by omega⟩, (show 1 ≤ d by omega), rfl, rfl, rfl, by simp; omega, ⟨rfl, rfl, rfl, rfl, rfl, rfl, rfl, trivial⟩, ?_, ?_, St.set_self .., (k8.over yS).over yF⟩
                                    · obtain ⟨a, b, t, e, hr'⟩ := b8.le (show T + 4 * p + 3 ≤ T + 4 * p + 4 by omega)
                                      exact ⟨a, b, t, by rw [St.set_ne nbF, St.set_ne nbS]; exact e, hr'⟩
                                    · rw [St.set_ne (Ne.symm nFS), St.set_self]; simp [Stp.v]
                                  | false =>
                                    refine ite_f rfl ?_
                                    have hne := hb8 rfl
                                    have hnp : 0 < same.length := List.length_pos_iff.mpr hne
                                    walk_at "tes"
                                    refine K_len_list hD8 (by simp; omega) ?_
                                    walk_at "tes"
                                    refine take_spec G ((hr.deeper _).less (by decide)) b8 (by omega) (by simp; omega) (by simp; omega) fun r st9 r0 r1 b9 k9 => ?_
                                    obtain ⟨q, rfl⟩ := Int.eq_ofNat_of_zero_le r0
                                    have hx : q < same.length := by simpa using r1
                                    refine I_list (v := .int (same.getD q 0 : Nat)) (k9.one hD8 (Ne.symm hDb)) (by omega) (by omega) (by rw [show (q : Int).toNat = q by omega, List.getElem?_map, getq hx]; rfl) ?_
                                    have hm := hsame (same.getD q 0) (getD_mem hx)
                                    generalize same.getD q 0 = k at hm
                                    obtain ⟨hk4, hkd⟩ := hm
                                    have hS9 := k9.one hS8 (Ne.symm nbS)
                                    have hF9 := k9.one hF8 (Ne.symm nbF)
                                    have k9 := k8.trans k9
                                    walk_at "tes"
                                    refine ⟨.builtin "list.append", m_append hS9, .inl ⟨_, rfl⟩, ?_⟩
                                    walk_at "tes"
                                    refine ⟨by simp, ?_⟩
                                    walk_at "tes"
                                    refine K_append hS9 (by simp; omega) ?_
                                    refine ⟨trivial, ?_⟩
                                    have hF10 : St.set st9 S (.list (twin.map Stp.v ++ [V.tup [.str "rep", .int k, .int y]])) F = some (.list (rowV cur)) := by rw [St.set_ne nFS]; exact hF9
                                    walk_at "tes"
                                    refine ⟨.builtin "list.pop", m_pop hF10, .inl ⟨_, rfl⟩, ?_⟩
                                    walk_at "tes"
                                    refine K_pop (i := k) rfl hF10 (by simp; omega) (hget k hk4) ?_
                                    refine ⟨trivial, ?_⟩
                                    walk_at "tes"
                                    refine ⟨rfl, .rep k y, cur.eraseIdx k, ⟨hk4, by omega, by omega⟩, trivial, rfl, hkd, by rw [← hkd]; rfl, by rw [List.length_eraseIdx_of_lt (by omega)]; omega, ⟨rfl, rfl, rfl, rfl, rfl, rfl, rfl, trivial⟩, ?_, ?_, (St.set_self ..).trans (by rw [erase_rowV]), (k9.over yS).over yF⟩
                                    · obtain ⟨a, b, t, e, hr'⟩ := b9.le (show T + 4 * p + 3 + 1 ≤ T + 4 * p + 4 by omega)
                                      exact ⟨a, b, t, by rw [St.set_ne nbF, St.set_ne nbS]; exact e, hr'⟩
                                    · rw [St.set_ne (Ne.symm nFS), St.set_self]; simp [Stp.v]
                              · rintro f fr8 st8 ⟨rfl, s, l, hh⟩
                                refine a11 hh fun s1 s2 s3 s4 s5 hl3 hsb8 b8 hS8 hF8 k8 => ?_
                                clear hh
                                walk_at "te"
                                refine TS.weakG hsb8 fun _ _ => ?_
                                walk_at "tes"
                                refine ⟨.builtin "list.insert", m_insert hF8, .inl ⟨_, rfl⟩, ?_⟩
                                walk_at "tes"
                                refine K_insert0 (xs := rowV l) hF8 (by simp; omega) ?_
                                refine ⟨trivial, ?_⟩
                                walk_at "tes"
                                refine ⟨rfl, s, y, s1, s2, s3, s4, fun j hj => hrun j (by omega), by omega, ⟨rfl, rfl, rfl, rfl, rfl, rfl, trivial⟩, ?_, ?_, ?_, k8.over yF⟩
                                · obtain ⟨a, b, t, e, hr'⟩ := b8
                                  exact ⟨a, b, t, by rw [St.set_ne nbF]; exact e, hr'⟩
                                · rw [St.set_ne (Ne.symm nFS)]; exact hS8
                                · rw [St.set_self, s5]; rfl
                  · rintro f fr4 st4 ⟨rfl, s, y, hh⟩
                    refine a11 hh fun s1 s2 s3 s4 hry hy1 hsb4 b4 hS4 hF4 k4 => ?_
                    clear hh
                    walk_at "te"
                    refine TS.weakG hsb4 fun _ _ => ?_
                    walk_at "tes"
                    have hlast := hry (y - 1) (by omega)
                    have hpy : p + (y - 1) < spots.length := by
                      rcases Nat.lt_or_ge (p + (y - 1)) spots.length with h9 | h9
                      · exact h9
                      · rw [List.getElem?_eq_none h9] at hlast; cases hlast
                    refine ⟨spots.length - (p + y), by omega, twin ++ [s], p + y, rfl, by omega, by simp; omega, ⟨rfl, rfl, rfl, rfl, ?_, trivial⟩, ?_, ?_, ?_, b4.le (by omega), hS4, ?_, k4⟩
                    · rfl
                    · intro x hx
                      rcases List.mem_append.mp hx with hx | hx
                      · exact hok x hx
                      · rw [List.mem_singleton.mp hx]; exact s1
                    · intro x hx
                      rcases List.mem_append.mp hx with hx | hx
                      · exact hpos x hx
                      · rw [List.mem_singleton.mp hx]; exact s2
                    · rw [spotsOf_snoc, hsp, hcg, s3, s4, take_run hry]
                    · rw [endRow_snoc, hcg]; exact hF4
          · intro x hx
            simp at hx
            rcases hx with rfl | rfl
            · exact .inr ⟨rfl, rfl, rfl⟩
            · exact .inl rfl
        · refine ite_f (by simp; omega) ?_
          walk_at "te"
          refine TS.weakG hsb fun _ _ => ?_
          walk_at "tes"
          refine ⟨by simp, ?_⟩
          walk_at "tes"
          exact h twin S F st1 hok hpos (by rw [hsp, List.take_of_length_le (by omega)]) (b1.le (by omega)) hS1 hF1 (Ne.symm nbS) (Ne.symm nbF) k1
    · intro x hx
      simp at hx
      rcases hx with rfl | rfl | rfl
      · exact .inr ⟨rfl, rfl, rfl⟩
      · exact .inl rfl
      · exact .inl rfl
end

theorem fill_append {α : Type} (d0 : α) (f : Nat → α) : ∀ (a b : List Nat) (out : List α) (sp : Nat), fill d0 f (a ++ b) out sp = fill d0 f b (fill d0 f a out sp) (sp + zeros a)
  | [], b, out, sp => rfl
  | 0 :: a, b, out, sp => by
    rw [List.cons_append, fill, fill, zeros, fill_append d0 f a b]
    congr 1
    omega
  | (d + 1) :: a, b, out, sp => by rw [List.cons_append, fill, fill, zeros, fill_append d0 f a b]
theorem copyBack_fill {f : Nat → UInt8} {d : Nat} (h : 1 ≤ d) (sp : Nat) : ∀ (n : Nat) (out : List UInt8), copyBack d n out = fill 0 f (List.replicate n d) out sp
  | 0, _ => rfl
  | n + 1, out => by
    obtain ⟨k, rfl⟩ : ∃ k, d = k + 1 := ⟨d - 1, by omega⟩
    rw [copyBack, List.replicate_succ', fill_append, ← copyBack_fill h sp n out]
    rfl
theorem Vld.tail {m : Nat} {a b : List Nat} (h : Vld m (a ++ b)) : Vld (m + a.length) b := by
  intro i d e
  have := h (a.length + i) d (by rw [List.getElem?_append_right (by omega)]; simpa using e)
  omega
theorem Vld.head {m : Nat} {a b : List Nat} (h : Vld m (a ++ b)) : Vld m a := by
  intro i d e
  have hi : i < a.length := by
    rcases Nat.lt_or_ge i a.length with h9 | h9
    · exact h9
    · rw [List.getElem?_eq_none h9] at e; cases e
  exact h i d (by rw [List.getElem?_append_left hi]; exact e)

/-- right steps play what their spots tell -/
theorem playGo_fill {lits : List UInt8} : ∀ {ss : List Stp} {row : List Nat} {out : List UInt8} {sp : Nat}, (∀ s ∈ ss, s.ok) → (∀ s ∈ ss, s.pos) → Pos4 row → Vld out.length (spotsOf ss row) → sp + zeros (spotsOf ss row) ≤ lits.length →
    playGo lits ss row out sp = .ok (fill 0 (fun k => lits.getD k 0) (spotsOf ss row) out sp, sp + zeros (spotsOf ss row))
  | [], _, _, _, _, _, _, _, _ => rfl
  | s :: ss, row, out, sp, ho, hp, hr, hv, hz => by
    have ho0 := ho s List.mem_cons_self
    have hp0 := hp s List.mem_cons_self
    have ho1 := fun x hx => ho x (List.mem_cons_of_mem s hx)
    have hp1 := fun x hx => hp x (List.mem_cons_of_mem s hx)
    have hr1 := turn_pos ho0 hp0 hr
    rw [spotsOf] at hv hz ⊢
    rw [zeros_append] at hz ⊢
    rw [fill_append]
    have hv1 := hv.tail
    rw [List.length_replicate] at hv1
    by_cases hl : s = .lit
    · subst hl
      have z1 : zeros (List.replicate Stp.lit.size (Stp.lit.far row)) = 1 := rfl
      rw [z1] at hz ⊢
      have ih := playGo_fill (lits := lits) (out := out ++ [lits.getD sp 0]) (sp := sp + 1) ho1 hp1 hr1 (by rw [List.length_append]; exact hv1) (by omega)
      rw [playGo, if_pos (by omega)]
      rw [show Stp.lit.turn row = row from rfl] at ih ⊢
      rw [ih]
      rw [show fill 0 (fun k => lits.getD k 0) (List.replicate Stp.lit.size (Stp.lit.far row)) out sp = out ++ [lits.getD sp 0] from rfl]
      rw [Nat.add_assoc]
    · have hf := far_pos ho0 hp0 hr hl
      have z0 := zeros_replicate hf s.size
      rw [z0] at hz ⊢
      have hsz := size_pos ho0
      have hle : s.far row ≤ out.length := by
        have := hv 0 (s.far row) (by rw [List.getElem?_append_left (by rw [List.length_replicate]; omega), List.getElem?_replicate, if_pos (by omega)])
        omega
      have ih := playGo_fill (lits := lits) (out := copyBack (s.far row) s.size out) (sp := sp) ho1 hp1 hr1 (by rw [copyBack_length]; exact hv1) (by omega)
      have e : playGo lits (s :: ss) row out sp = playGo lits ss (s.turn row) (copyBack (s.far row) s.size out) sp := by
        cases s with
        | lit => exact absurd rfl hl
        | _ => rw [playGo, if_pos ⟨hf, hle⟩]; exact fun e => nomatch e
      rw [e, ih, ← copyBack_fill hf sp s.size out]
      simp

theorem fill_congr {α : Type} (d0 : α) (f g : Nat → α) : ∀ (ds : List Nat) (out : List α) (sp sp' : Nat), (∀ k < zeros ds, f (sp + k) = g (sp' + k)) → fill d0 f ds out sp = fill d0 g ds out sp'
  | [], _, _, _, _ => rfl
  | 0 :: ds, out, sp, sp', h => by
    rw [zeros] at h
    rw [fill, fill, show f sp = g sp' from h 0 (by omega)]
    refine fill_congr d0 f g ds _ _ _ fun k hk => ?_
    have := h (k + 1) (by omega)
    rw [show sp + 1 + k = sp + (k + 1) by omega, show sp' + 1 + k = sp' + (k + 1) by omega]
    exact this
  | (d + 1) :: ds, out, sp, sp', h => by
    rw [zeros] at h
    rw [fill, fill]
    exact fill_congr d0 f g ds _ _ _ h
theorem getD_map {α β : Type} (g : α → β) (l : List α) (i : Nat) (d : α) : (l.map g).getD i (g d) = g (l.getD i d) := by
  simp only [List.getD, List.getElem?_map]
  cases l[i]? <;> rfl
theorem fill_map {α β : Type} (g : α → β) (d0 : α) (f : Nat → α) : ∀ (ds : List Nat) (out : List α) (sp : Nat), (fill d0 f ds out sp).map g = fill (g d0) (fun k => g (f k)) ds (out.map g) sp
  | [], _, _ => rfl
  | 0 :: ds, out, sp => by rw [fill, fill, fill_map g d0 f ds]; simp
  | (d + 1) :: ds, out, sp => by
    rw [fill, fill, fill_map g d0 f ds, List.map_append, List.map_cons, List.map_nil, List.length_map, getD_map]
theorem fill_pre {α : Type} (d0 : α) (f : Nat → α) : ∀ (ds : List Nat) (out : List α) (sp : Nat), ∃ r, fill d0 f ds out sp = out ++ r ∧ r.length = ds.length
  | [], out, _ => ⟨[], by simp [fill], rfl⟩
  | 0 :: ds, out, sp => by
    obtain ⟨r, h1, h2⟩ := fill_pre d0 f ds (out ++ [f sp]) (sp + 1)
    exact ⟨f sp :: r, by rw [fill, h1, List.append_assoc]; rfl, by simp [h2]⟩
  | (d + 1) :: ds, out, sp => by
    obtain ⟨r, h1, h2⟩ := fill_pre d0 f ds (out ++ [out.getD (out.length - (d + 1)) d0]) sp
    exact ⟨out.getD (out.length - (d + 1)) d0 :: r, by rw [fill, h1, List.append_assoc]; rfl, by simp [h2]⟩
/-- any default will do where the spots are valid -/
theorem fill_default {α : Type} (d0 d1 : α) (f : Nat → α) : ∀ (ds : List Nat) (out : List α) (sp : Nat), Vld out.length ds → fill d0 f ds out sp = fill d1 f ds out sp
  | [], _, _, _ => rfl
  | 0 :: ds, out, sp, h => by
    rw [fill, fill]
    refine fill_default d0 d1 f ds _ _ ?_
    rw [List.length_append]
    exact Vld.tail (a := [0]) h
  | (d + 1) :: ds, out, sp, h => by
    have h0 := h 0 (d + 1) rfl
    rw [fill, fill]
    have e : out.getD (out.length - (d + 1)) d0 = out.getD (out.length - (d + 1)) d1 := by
      have : out.length - (d + 1) < out.length := by omega
      simp [List.getD, this]
    rw [e]
    refine fill_default d0 d1 f ds _ _ ?_
    rw [List.length_append]
    exact Vld.tail (a := [d + 1]) h
/-- the literals stand where the steps say -/
theorem litGo_fill (f : Nat → UInt8) : ∀ {ss : List Stp} {row : List Nat} {out : List UInt8} {sp : Nat}, (∀ s ∈ ss, s.ok) → (∀ s ∈ ss, s.pos) → Pos4 row →
    litGo (fill 0 f (spotsOf ss row) out sp) ss out.length = (List.range (zeros (spotsOf ss row))).map fun k => f (sp + k)
  | [], _, _, _, _, _, _ => rfl
  | s :: ss, row, out, sp, ho, hp, hr => by
    have ho0 := ho s List.mem_cons_self
    have hp0 := hp s List.mem_cons_self
    have ho1 := fun x hx => ho x (List.mem_cons_of_mem s hx)
    have hp1 := fun x hx => hp x (List.mem_cons_of_mem s hx)
    have hr1 := turn_pos ho0 hp0 hr
    rw [litGo, spotsOf, fill_append, zeros_append]
    obtain ⟨r, hr2, hrl⟩ := fill_pre 0 f (List.replicate s.size (s.far row)) out sp
    rw [List.length_replicate] at hrl
    have ih := litGo_fill f (out := fill 0 f (List.replicate s.size (s.far row)) out sp) (sp := sp + zeros (List.replicate s.size (s.far row))) ho1 hp1 hr1
    have hlen : (fill 0 f (List.replicate s.size (s.far row)) out sp).length = out.length + s.size := by rw [hr2, List.length_append, hrl]
    rw [hlen] at ih
    rw [ih]
    by_cases hl : s = .lit
    · subst hl
      have e1 : fill 0 f (List.replicate Stp.lit.size (Stp.lit.far row)) out sp = out ++ [f sp] := rfl
      have e2 : zeros (List.replicate Stp.lit.size (Stp.lit.far row)) = 1 := rfl
      obtain ⟨q, hq, _⟩ := fill_pre 0 f (spotsOf ss (Stp.lit.turn row)) (out ++ [f sp]) (sp + 1)
      rw [e1, e2, hq, show Stp.lit.isLit = true from rfl, if_pos rfl]
      have e3 : (out ++ [f sp] ++ q).getD out.length 0 = f sp := by simp [List.getD]
      rw [e3, Nat.add_comm 1, List.range_succ_eq_map, List.map_cons, List.map_map]
      simp only [List.cons_append, List.nil_append, Nat.add_zero]
      congr 1
      apply List.map_congr_left
      intro k _
      show f (sp + 1 + k) = f (sp + (k + 1))
      congr 1; omega
    · have z0 := zeros_replicate (far_pos ho0 hp0 hr hl) s.size
      have e : s.isLit = false := by cases s <;> first | exact absurd rfl hl | rfl
      rw [z0, e]
      simp

theorem spotsOf_append : ∀ (a b : List Stp) (row : List Nat), spotsOf (a ++ b) row = spotsOf a row ++ spotsOf b (endRow a row)
  | [], _, _ => rfl
  | s :: a, b, row => by rw [List.cons_append, spotsOf, spotsOf, endRow, spotsOf_append a b, List.append_assoc]
theorem endRow_append : ∀ (a b : List Stp) (row : List Nat), endRow (a ++ b) row = endRow b (endRow a row)
  | [], _, _ => rfl
  | s :: a, b, row => by rw [List.cons_append, endRow, endRow, endRow_append a b]

/-- what the law knows of its row -/
structure RowOf (steps : List Stp) (four : List Nat) (early singles : List UInt8) : Prop where
  ok : ∀ s ∈ steps, s.ok
  pos : ∀ s ∈ steps, s.pos
  hfour : Pos4 four
  vld : Vld early.length (spotsOf steps four)
  sing : singles.length = zeros (spotsOf steps four)

def outAt (steps : List Stp) (four : List Nat) (early singles : List UInt8) (k : Nat) : List UInt8 := fill 0 (fun j => singles.getD j 0) (spotsOf (steps.take k) four) early 0
def spAt (steps : List Stp) (four : List Nat) (k : Nat) : Nat := zeros (spotsOf (steps.take k) four)
def rowAt (steps : List Stp) (four : List Nat) (k : Nat) : List Nat := endRow (steps.take k) four

section
variable {steps : List Stp} {four : List Nat} {early singles : List UInt8}
theorem RowOf.split (h : RowOf steps four early singles) (k : Nat) : spotsOf steps four = spotsOf (steps.take k) four ++ spotsOf (steps.drop k) (rowAt steps four k) := by
  rw [rowAt, ← spotsOf_append, List.take_append_drop]
theorem RowOf.sp (h : RowOf steps four early singles) (k : Nat) : singles.length = spAt steps four k + zeros (spotsOf (steps.drop k) (rowAt steps four k)) := by
  rw [h.sing, h.split k, zeros_append]; rfl
theorem RowOf.out_len (k : Nat) : (outAt steps four early singles k).length = early.length + (spotsOf (steps.take k) four).length := by
  obtain ⟨r, h1, h2⟩ := fill_pre 0 (fun j => singles.getD j 0) (spotsOf (steps.take k) four) early 0
  rw [outAt, h1, List.length_append, h2]
theorem RowOf.row_pos (h : RowOf steps four early singles) (k : Nat) : Pos4 (rowAt steps four k) :=
  endRow_pos (fun s hs => h.ok s (List.mem_of_mem_take hs)) (fun s hs => h.pos s (List.mem_of_mem_take hs)) h.hfour
theorem RowOf.vldAt (h : RowOf steps four early singles) (k : Nat) : Vld (outAt steps four early singles k).length (spotsOf (steps.drop k) (rowAt steps four k)) := by
  have := h.vld
  rw [h.split k] at this
  rw [RowOf.out_len]
  exact this.tail
theorem RowOf.whole (h : RowOf steps four early singles) (k : Nat) : fill 0 (fun j => singles.getD j 0) (spotsOf (steps.drop k) (rowAt steps four k)) (outAt steps four early singles k) (spAt steps four k) = outAt steps four early singles steps.length := by
  have e : outAt steps four early singles steps.length = fill 0 (fun j => singles.getD j 0) (spotsOf steps four) early 0 := by rw [outAt, List.take_length]
  rw [e, h.split k, fill_append, Nat.zero_add]; rfl
theorem getD_take {l : List UInt8} {n j : Nat} (h : j < n) : (l.take n).getD j 0 = l.getD j 0 := by simp [List.getD, List.getElem?_take, h]
theorem getD_drop {l : List UInt8} {n j : Nat} : (l.drop n).getD j 0 = l.getD (n + j) 0 := by simp [List.getD, List.getElem?_drop]

theorem cut_a (h : RowOf steps four early singles) (k : Nat) : playGo (singles.take (spAt steps four k)) (steps.take k) four early 0 = .ok (outAt steps four early singles k, (singles.take (spAt steps four k)).length) := by
  have hsp := h.sp k
  have hv : Vld early.length (spotsOf (steps.take k) four) := by
    have := h.vld; rw [h.split k] at this; exact this.head
  have hl : (singles.take (spAt steps four k)).length = spAt steps four k := by rw [List.length_take]; omega
  rw [playGo_fill (fun s hs => h.ok s (List.mem_of_mem_take hs)) (fun s hs => h.pos s (List.mem_of_mem_take hs)) h.hfour hv (by rw [hl]; unfold spAt; omega), hl]
  rw [fill_congr 0 _ (fun j => singles.getD j 0) _ _ 0 0 (fun j hj => getD_take (by unfold spAt; omega))]
  rw [Nat.zero_add]; rfl
theorem cut_b (h : RowOf steps four early singles) (k : Nat) : playGo (singles.drop (spAt steps four k)) (steps.drop k) (rowAt steps four k) (outAt steps four early singles k) 0 = .ok (outAt steps four early singles steps.length, (singles.drop (spAt steps four k)).length) := by
  have hsp := h.sp k
  have hl : (singles.drop (spAt steps four k)).length = zeros (spotsOf (steps.drop k) (rowAt steps four k)) := by rw [List.length_drop]; omega
  rw [playGo_fill (fun s hs => h.ok s (List.mem_of_mem_drop hs)) (fun s hs => h.pos s (List.mem_of_mem_drop hs)) (h.row_pos k) (h.vldAt k) (by rw [hl]; omega), hl]
  rw [fill_congr 0 _ (fun j => singles.getD j 0) _ _ 0 (spAt steps four k) (fun j hj => by rw [Nat.zero_add]; exact getD_drop)]
  rw [h.whole k, Nat.zero_add]
theorem cut_c (h : RowOf steps four early singles) (k : Nat) : litGo (outAt steps four early singles steps.length) (steps.drop k) (outAt steps four early singles k).length = singles.drop (spAt steps four k) := by
  have hsp := h.sp k
  rw [← h.whole k, litGo_fill _ (fun s hs => h.ok s (List.mem_of_mem_drop hs)) (fun s hs => h.pos s (List.mem_of_mem_drop hs)) (h.row_pos k)]
  apply List.ext_getElem?
  intro j
  rw [List.getElem?_map, List.getElem?_drop]
  by_cases hj : j < zeros (spotsOf (steps.drop k) (rowAt steps four k))
  · rw [List.getElem?_range hj]
    have : spAt steps four k + j < singles.length := by omega
    simp [List.getD, this]
  · rw [List.getElem?_eq_none (by simpa using hj), List.getElem?_eq_none (by omega)]; rfl
theorem cut_d (h : RowOf steps four early singles) {k : Nat} {s : Stp} (hs : steps[k]? = some s) :
    playGo ((singles.drop (spAt steps four k)).take (if s.isLit then 1 else 0)) [s] (rowAt steps four k) (outAt steps four early singles k) 0 = .ok (outAt steps four early singles (k + 1), ((singles.drop (spAt steps four k)).take (if s.isLit then 1 else 0)).length) ∧
    (outAt steps four early singles (k + 1)).length = (outAt steps four early singles k).length + s.size ∧ spAt steps four (k + 1) = spAt steps four k + (if s.isLit then 1 else 0) ∧ rowAt steps four (k + 1) = s.turn (rowAt steps four k) ∧
    ((singles.drop (spAt steps four k)).take (if s.isLit then 1 else 0)).length = (if s.isLit then 1 else 0) := by
  have hk : k < steps.length := by
    rcases Nat.lt_or_ge k steps.length with h9 | h9
    · exact h9
    · rw [List.getElem?_eq_none h9] at hs; cases hs
  have hmem := List.mem_of_getElem? hs
  have ho0 := h.ok s hmem
  have hp0 := h.pos s hmem
  have et : steps.take (k + 1) = steps.take k ++ [s] := by rw [List.take_add_one, hs]; rfl
  have ed : steps.drop k = s :: steps.drop (k + 1) := by rw [List.drop_eq_getElem_cons hk]; rw [List.getElem?_eq_getElem hk] at hs; cases hs; rfl
  have z : zeros (List.replicate s.size (s.far (rowAt steps four k))) = if s.isLit then 1 else 0 := by
    by_cases hl : s = .lit
    · subst hl; rfl
    · rw [zeros_replicate (far_pos ho0 hp0 (h.row_pos k) hl)]
      cases s <;> first | exact absurd rfl hl | rfl
  have hsp := h.sp k
  rw [ed, spotsOf, zeros_append, z] at hsp
  have e1 : spotsOf [s] (rowAt steps four k) = List.replicate s.size (s.far (rowAt steps four k)) := by simp [spotsOf]
  have e2 : outAt steps four early singles (k + 1) = fill 0 (fun j => singles.getD j 0) (List.replicate s.size (s.far (rowAt steps four k))) (outAt steps four early singles k) (spAt steps four k) := by
    rw [outAt, et, spotsOf_snoc, fill_append, Nat.zero_add]; rfl
  have hl : ((singles.drop (spAt steps four k)).take (if s.isLit then 1 else 0)).length = if s.isLit then 1 else 0 := by
    rw [List.length_take, List.length_drop]; omega
  have hv : Vld (outAt steps four early singles k).length (spotsOf [s] (rowAt steps four k)) := by
    have := h.vldAt k
    rw [ed, spotsOf] at this
    rw [e1]; exact this.head
  refine ⟨?_, ?_, ?_, ?_, hl⟩
  · rw [playGo_fill (by simpa using ho0) (by simpa using hp0) (h.row_pos k) hv (by rw [e1, z, hl]; omega), hl, e1, z, e2]
    rw [fill_congr 0 _ (fun j => singles.getD j 0) _ _ 0 (spAt steps four k) (fun j hj => by rw [z] at hj; rw [Nat.zero_add, getD_take hj]; exact getD_drop), Nat.zero_add]
  · rw [RowOf.out_len, RowOf.out_len, et, spotsOf_snoc]; simp; omega
  · rw [spAt, et, spotsOf_snoc, zeros_append]; rw [show endRow (steps.take k) four = rowAt steps four k from rfl, z]; rfl
  · rw [rowAt, et, endRow_snoc]; rfl
end

theorem keep_hide {st st2 st3 : St} {d : Addr} (k : Keep [] st st2) (k' : Keep [d] st2 st3) (h : st d = none) : Keep [] st st3 := fun b o e _ =>
  Keep.one k' (Keep.all k e) (ne_new e h)
theorem sizes_take (steps : List Stp) (k : Nat) : sizes (steps.take k) + sizes (steps.drop k) = sizes steps := by
  have h : sizes (steps.take k ++ steps.drop k) = sizes steps := by rw [List.take_append_drop]
  unfold sizes at h ⊢
  rw [List.map_append, List.sum_append] at h
  exact h
section
variable {prog : Program} {w : World} {hB : Heap} {c : Cx} {fr : Vars} {st : St} {E : EE}

theorem C_eq_lit {s : Stp} {R : V → St → Prop} (hr : Room c.A 4) (h : R (.bool s.isLit) st) : TO2 prog w hB c (compareOp .Eq) s.v (.tup [.str "lit"]) fr st E R := by
  cases s with
  | lit => exact C_eq_tup (.cons (.str _) .nil) (.cons (.str _) .nil) (by simp [SeqAt.shaped, PyData.canLay0, PyData.canLayAll0, PyData.depth, PyData.depthAll]; with_unfolding_all decide) (by simp [SeqAt.shaped, PyData.canLay0, PyData.canLayAll0, PyData.depth, PyData.depthAll]; with_unfolding_all decide) hr (by first | (simpa [PyData.eqv, PyData.eqvAll, Stp.isLit] using h) | (simp [PyData.eqv, PyData.eqvAll]; exact h))
  | short => exact C_eq_tup (.cons (.str _) .nil) (.cons (.str _) .nil) (by simp [SeqAt.shaped, PyData.canLay0, PyData.canLayAll0, PyData.depth, PyData.depthAll]; with_unfolding_all decide) (by simp [SeqAt.shaped, PyData.canLay0, PyData.canLayAll0, PyData.depth, PyData.depthAll]; with_unfolding_all decide) hr (by first | (simpa [PyData.eqv, PyData.eqvAll, Stp.isLit] using h) | (simp [PyData.eqv, PyData.eqvAll]; exact h))
  | mat f m => exact C_eq_tup (.cons (.str _) (.cons (.int _) (.cons (.int _) .nil))) (.cons (.str _) .nil) (by simp [SeqAt.shaped, PyData.canLay0, PyData.canLayAll0, PyData.depth, PyData.depthAll]; with_unfolding_all decide) (by simp [SeqAt.shaped, PyData.canLay0, PyData.canLayAll0, PyData.depth, PyData.depthAll]; with_unfolding_all decide) hr (by first | (simpa [PyData.eqv, PyData.eqvAll, Stp.isLit] using h) | (simp [PyData.eqv, PyData.eqvAll]; exact h))
  | rep f m => exact C_eq_tup (.cons (.str _) (.cons (.int _) (.cons (.int _) .nil))) (.cons (.str _) .nil) (by simp [SeqAt.shaped, PyData.canLay0, PyData.canLayAll0, PyData.depth, PyData.depthAll]; with_unfolding_all decide) (by simp [SeqAt.shaped, PyData.canLay0, PyData.canLayAll0, PyData.depth, PyData.depthAll]; with_unfolding_all decide) hr (by first | (simpa [PyData.eqv, PyData.eqvAll, Stp.isLit] using h) | (simp [PyData.eqv, PyData.eqvAll]; exact h))

theorem cuts_spec (G : Gd w hB (KK w)) (hr : Room c.A 10) {a f : Addr} {steps : List Stp} {four : List Nat} {early singles : List UInt8} {R : V → St → Prop}
    (ha : st a = some (.list (steps.map Stp.v))) (hf : st f = some (.list (rowV four))) (H : RowOf steps four early singles) (hb1 : early.length ≤ 1000) (hb2 : sizes steps ≤ 1000) (hb3 : steps.length ≤ 1000) (hb4 : singles.length ≤ 1000)
    (h : ∀ st', Keep [] st st' → R (.bool true) st') :
    TC prog w hB c c.A (.val (.ref 214)) [.ref a, .bytes singles, .bytes early, .ref f, .bytes (outAt steps four early singles steps.length)] fr st E R := by
  refine TC.noE (K_fn G ["steps", "singles", "early", "four", "whole"] rfl rfl hr.limit rfl ?_ (by decide) (by decide) (by decide) ?_)
  · intro s
    exact len5 fun u1 u2 u3 u4 u5 hK => BindsTo.of_eq rfl
  · intro L
    have hf4 := H.hfour.1
    refine TS_consG fun _ _ => (T1_unpack_swapped (names := ["grown", "row", "spare"]) ?_ hr.handled ?_ rfl rfl)
    · walk_at "tes"
      refine reps_spec G ((hr.deeper _).less (by decide)) hf (by omega) fun x dx st1 hx0 hdx0 hx k1 => ?_
      walk_at "tes"
      refine ⟨by simp, _, rfl, rfl, ?_⟩
      walk_at "te"
      refine TS_consG fun _ _ => (T1_for PassE.never (.inl rfl) ?_)
      walk_at "tes"
      refine K_len_list (k1.all ha) (by simp; omega) ?_
      walk_at "tes"
      refine K_range ?_
      have en : ((steps.map Stp.v).length : Int) + 1 = ((steps.length + 1 : Nat) : Int) := by simp
      rw [en]
      refine ⟨rngItems (steps.length + 1), _, _, it_range (n := steps.length + 1) (hr.deeper _).handled (by omega), fun k fr st' => Sub [("steps", .ref a), ("singles", .bytes singles), ("early", .bytes early), ("four", .ref f), ("whole", .bytes (outAt steps four early singles steps.length)), ("row", .ref x),
          ("grown", .bytes (outAt steps four early singles k)), ("spare", .int (spAt steps four k : Nat))] fr ∧ Keep [] st st' ∧ RepsAt st' x dx (rowAt steps four k), ?_, fun _ _ _ _ => trivial, ?_, ?_⟩
      · exact ⟨⟨rfl, rfl, rfl, rfl, rfl, rfl, rfl, rfl, trivial⟩, k1, hx⟩
      · rintro k fr st2 v hi ⟨hsb, k2, hx2⟩ hv
        have hk : k ≤ steps.length := by have : k < (rngItems (steps.length + 1)).length := hi; simp [rngItems] at this; omega
        have hv' : v = .int (k : Int) := by
          unfold rngItems at hv
          rw [List.getElem?_map, List.getElem?_range (by omega)] at hv
          simpa using hv.symm
        subst hv'
        refine TS.weakG (hsb.bind rfl) fun _ _ => ?_
        have hsz := sizes_take steps k
        have hlk := RowOf.out_len (steps := steps) (four := four) (early := early) (singles := singles) k
        rw [spotsOf_length] at hlk
        have hsp := H.sp k
        have hla := RowOf.out_len (steps := steps) (four := four) (early := early) (singles := singles) steps.length
        rw [spotsOf_length, List.take_length] at hla
        walk_at "tes"
        refine I_list_slice (lo := none) (hi := some k) (k2.all ha) .none (.int k) (by simp; omega) fun b hb => ?_
        have kb := k2.trans (Keep.new (ex := []) (o := .list (cut (steps.map Stp.v) none (some k))) hb)
        have hxb := hx2.keep (Keep.new (ex := []) (o := .list (cut (steps.map Stp.v) none (some k))) hb)
        have hbs : St.set st2 b (.list (cut (steps.map Stp.v) none (some k))) b = some (.list ((steps.take k).map Stp.v)) := by rw [St.set_self]; simp [cut, List.map_take]
        generalize st2.set b (.list (cut (steps.map Stp.v) none (some k))) = st3 at kb hxb hbs
        walk_at "tes"
        refine I_bytes_slice (lo := none) (hi := some (spAt steps four k)) .none (.int _) (by omega) ?_
        have ec : cut singles none (some (spAt steps four k)) = singles.take (spAt steps four k) := by simp [cut]
        rw [ec]
        walk_at "tes"
        refine reps_spec G ((hr.deeper _).less (by decide)) (kb.all hf) (by omega) fun y dy st4 hy0 hdy0 hy k4 => ?_
        walk_at "tes"
        refine play_spec G ((hr.deeper _).less (by decide)) (k4.all hbs) hy hf4 (fun s hs => H.ok s (List.mem_of_mem_take hs)) (cut_a H k) (by simp; omega) (by simp; omega) (by omega) fun st5 k5 => ?_
        have kk5 := (kb.trans k4).trans k5
        have hx5 := (hxb.keep k4).keep k5
        walk_at "tes"
        have hdl : ∀ j, ((outAt steps four early singles j).drop early.length).length = (outAt steps four early singles j).length - early.length := fun j => List.length_drop
        refine O_add_bytes (by rw [hdl]; omega) ?_
        have hpre : early ++ (outAt steps four early singles k).drop early.length = outAt steps four early singles k := by
          obtain ⟨r, h1, _⟩ := fill_pre 0 (fun j => singles.getD j 0) (spotsOf (steps.take k) four) early 0
          rw [show outAt steps four early singles k = early ++ r from h1, List.drop_left]
        rw [hpre]
        walk_at "tes"
        refine C_ne_bytes ?_
        walk_at "tes"
        refine ite_f (by simp) ?_
        walk_at "tes"
        refine I_list_slice (lo := some k) (hi := none) (kk5.all ha) (.int k) .none (by simp; omega) fun d hd => ?_
        have kd := kk5.trans (Keep.new (ex := []) (o := .list (cut (steps.map Stp.v) (some k) none)) hd)
        have hxd := hx5.keep (Keep.new (ex := []) (o := .list (cut (steps.map Stp.v) (some k) none)) hd)
        have hds : St.set st5 d (.list (cut (steps.map Stp.v) (some k) none)) d = some (.list ((steps.drop k).map Stp.v)) := by rw [St.set_self]; simp only [cut, Option.getD_some, Option.getD_none, List.take_length, List.map_drop]
        generalize st5.set d (.list (cut (steps.map Stp.v) (some k) none)) = st6 at kd hxd hds
        walk_at "tes"
        refine I_bytes_slice (lo := some (spAt steps four k)) (hi := none) (.int _) .none (by omega) ?_
        have ed : cut singles (some (spAt steps four k)) none = singles.drop (spAt steps four k) := by simp [cut]
        rw [ed]
        walk_at "tes"
        refine play_spec G ((hr.deeper _).less (by decide)) hds hxd (H.row_pos k).1 (fun s hs => H.ok s (List.mem_of_mem_drop hs)) (cut_b H k) (by simp; omega) (by simp; omega) (by omega) fun st7 k7 => ?_
        have kk7 := kd.trans k7
        have hx7 := hxd.keep k7
        walk_at "tes"
        refine O_add_bytes (by rw [List.length_drop]; omega) ?_
        have hpre2 : outAt steps four early singles k ++ (outAt steps four early singles steps.length).drop (outAt steps four early singles k).length = outAt steps four early singles steps.length := by
          rw [← H.whole k]
          obtain ⟨r, h1, _⟩ := fill_pre 0 (fun j => singles.getD j 0) (spotsOf (steps.drop k) (rowAt steps four k)) (outAt steps four early singles k) (spAt steps four k)
          rw [h1, List.drop_left]
        rw [hpre2]
        walk_at "tes"
        refine C_ne_bytes ?_
        walk_at "tes"
        refine ite_f (by simp) ?_
        walk_at "tes"
        refine I_list_slice (lo := some k) (hi := none) (kk7.all ha) (.int k) .none (by simp; omega) fun e he => ?_
        have ke := kk7.trans (Keep.new (ex := []) (o := .list (cut (steps.map Stp.v) (some k) none)) he)
        have hxe := hx7.keep (Keep.new (ex := []) (o := .list (cut (steps.map Stp.v) (some k) none)) he)
        have hes : St.set st7 e (.list (cut (steps.map Stp.v) (some k) none)) e = some (.list ((steps.drop k).map Stp.v)) := by rw [St.set_self]; simp only [cut, Option.getD_some, Option.getD_none, List.take_length, List.map_drop]
        generalize st7.set e (.list (cut (steps.map Stp.v) (some k) none)) = st8 at ke hxe hes
        walk_at "tes"
        refine K_len_bytes (by omega) ?_
        walk_at "tes"
        refine literals_spec G ((hr.deeper _).less (by decide)) hes (fun s hs => H.ok s (List.mem_of_mem_drop hs)) (by omega) (by simp; omega) (by omega) fun st9 k9 => ?_
        have kk9 := ke.trans k9
        have hx9 := hxe.keep k9
        walk_at "tes"
        refine I_bytes_slice (lo := some (spAt steps four k)) (hi := none) (.int _) .none (by omega) ?_
        rw [ed, cut_c H k]
        walk_at "tes"
        refine C_ne_bytes ?_
        walk_at "tes"
        refine ite_f (by simp) ?_
        walk_at "tes"
        refine T1_for PassE.never (.inl rfl) ?_
        walk_at "tes"
        have ek : (k : Int) + 1 = ((k + 1 : Nat) : Int) := by omega
        rw [ek]
        refine I_list_slice (lo := some k) (hi := some (k + 1)) (kk9.all ha) (.int k) (.int (k + 1)) (by simp; omega) fun g hg => ?_
        have kg := kk9.trans (Keep.new (ex := []) (o := .list (cut (steps.map Stp.v) (some k) (some (k + 1)))) hg)
        have hxg := hx9.keep (Keep.new (ex := []) (o := .list (cut (steps.map Stp.v) (some k) (some (k + 1)))) hg)
        have hcut : cut (steps.map Stp.v) (some k) (some (k + 1)) = ((steps.drop k).take 1).map Stp.v := by
          simp only [cut, Option.getD_some]
          rw [← List.map_take, ← List.map_drop, List.drop_take, show k + 1 - k = 1 by omega]
        have hgs : St.set st9 g (.list (cut (steps.map Stp.v) (some k) (some (k + 1)))) g = some (.list (((steps.drop k).take 1).map Stp.v)) := by rw [St.set_self, hcut]
        generalize st9.set g (.list (cut (steps.map Stp.v) (some k) (some (k + 1)))) = st10 at kg hxg hgs
        refine ⟨((steps.drop k).take 1).map Stp.v, _, _, it_list (l := g) (hr.deeper _).handled, fun i fr st' => Sub [("steps", .ref a), ("singles", .bytes singles), ("early", .bytes early), ("four", .ref f), ("whole", .bytes (outAt steps four early singles steps.length)), ("row", .ref x),
          ("grown", .bytes (outAt steps four early singles (k + i))), ("spare", .int (spAt steps four (k + i) : Nat))] fr ∧ Keep [] st st' ∧ st' g = some (.list (((steps.drop k).take 1).map Stp.v)) ∧ RepsAt st' x dx (rowAt steps four (k + i)), ?_, fun i fr st' z => z.2.2.1, ?_, ?_⟩
        · exact ⟨⟨rfl, rfl, rfl, rfl, rfl, rfl, rfl, rfl, trivial⟩, kg, hgs, hxg⟩
        · rintro i fr4 st11 v hi ⟨hsb4, k11, hg11, hx11⟩ hv4
          have hi0 : i = 0 ∧ k < steps.length := by
            rw [List.length_map, List.length_take, List.length_drop] at hi
            omega
          obtain ⟨rfl, hkl⟩ := hi0
          obtain ⟨s, hs, rfl⟩ : ∃ s, steps[k]? = some s ∧ v = s.v := by
            rw [List.getElem?_map, List.getElem?_take, List.getElem?_drop] at hv4
            cases hq : steps[k]? with
            | none => rw [Nat.add_zero, hq] at hv4; cases hv4
            | some s => rw [Nat.add_zero, hq] at hv4; exact ⟨s, rfl, by simpa using hv4.symm⟩
          obtain ⟨d1, d2, d3, d4, d5⟩ := cut_d H hs
          have hmem := List.mem_of_getElem? hs
          refine TS.weakG (hsb4.bind rfl) fun _ _ => ?_
          rw [Nat.add_zero] at hx11
          walk_at "tes"
          refine ⟨by simp, ?_⟩
          refine C_eq_lit ((hr.deeper _).less (by decide)) ?_
          walk_at "tes"
          refine K_int_bool ?_
          walk_at "tes"
          have hso : s.ok := H.ok s hmem
          have hle : singles.length ≤ 1000 := hb4
          have eb : ((spAt steps four k : Nat) : Int) + (if s.isLit = true then 1 else 0) = ((spAt steps four k + (if s.isLit = true then 1 else 0) : Nat) : Int) := by split <;> simp
          rw [Nat.add_zero, eb]
          refine I_bytes_slice (lo := some (spAt steps four k)) (hi := some (spAt steps four k + (if s.isLit = true then 1 else 0))) (.int _) (.int _) (by omega) ?_
          have ec4 : cut singles (some (spAt steps four k)) (some (spAt steps four k + (if s.isLit = true then 1 else 0))) = (singles.drop (spAt steps four k)).take (if s.isLit = true then 1 else 0) := by
            simp only [cut, Option.getD_some]
            rw [List.drop_take]
            congr 1
            omega
          rw [ec4]
          generalize hown : (singles.drop (spAt steps four k)).take (if s.isLit = true then 1 else 0) = own at d1 d5
          walk_at "tes"
          refine ⟨by simp, fun q hq => ?_⟩
          have kq := k11.trans (Keep.new (ex := []) (o := .list [s.v]) hq)
          have hxq := hx11.keep (Keep.new (ex := []) (o := .list [s.v]) hq)
          have hqs : St.set st11 q (.list [s.v]) q = some (.list ([s].map Stp.v)) := by rw [St.set_self]; rfl
          have hgq := (Keep.new (ex := []) (o := .list [s.v]) hq).all hg11
          generalize st11.set q (.list [s.v]) = st12 at kq hxq hqs hgq
          walk_at "tes"
          have e1s : sizes [s] = s.size := by simp [sizes]
          have hss := size_le hso
          refine play_spec G ((hr.deeper _).less (by decide)) hqs hxq (H.row_pos k).1 (by simpa using hso) d1 (by simp) (by omega) (by rw [e1s]; omega) fun st13 k13 => ?_
          have kk13 := kq.trans k13
          have hx13 := hxq.keep k13
          have hg13 := k13.all hgq
          have hpl : ((outAt steps four early singles (k + 1)).drop (outAt steps four early singles k).length).length = s.size := by rw [List.length_drop]; omega
          walk_at "tes"
          refine K_len_bytes (by rw [hpl]; omega) ?_
          walk_at "tes"
          refine lawsize_spec G ((hr.deeper _).less (by decide)) ?_
          rw [hpl]
          walk_at "tes"
          refine ite_f (by simp) ?_
          walk_at "tes"
          refine distance_spec G ((hr.deeper _).less (by decide)) hso hx13 (H.row_pos k).1 fun st14 hx14 k14 => ?_
          refine ⟨trivial, ?_⟩
          have kk14 := keep_hide kk13 k14 hdx0
          have hg14 : st14 g = some (.list (((steps.drop k).take 1).map Stp.v)) := Keep.one k14 hg13 (ne_of hg13 hx13.2.choose_spec.1 (fun e => nomatch e))
          walk_at "te"
          refine TS_consG fun _ _ => (T1_unpack_swapped (names := ["grown", "spare"]) ?_ (hr.deeper _).handled ?_ rfl rfl)
          · walk_at "tes"
            refine O_add_bytes (by rw [hpl]; omega) ?_
            walk_at "tes"
            refine K_len_bytes (by rw [d5]; split <;> omega) ?_
            walk_at "tes"
            refine ⟨by simp, _, rfl, rfl, ?_⟩
            walk_at "tes"
            have eg : outAt steps four early singles k ++ (outAt steps four early singles (k + 1)).drop (outAt steps four early singles k).length = outAt steps four early singles (k + 1) := by
              obtain ⟨r, h1, _⟩ := fill_pre 0 (fun j => singles.getD j 0) (spotsOf [s] (rowAt steps four k)) (outAt steps four early singles k) (spAt steps four k)
              have e2 : outAt steps four early singles (k + 1) = fill 0 (fun j => singles.getD j 0) (spotsOf [s] (rowAt steps four k)) (outAt steps four early singles k) (spAt steps four k) := by
                have et : steps.take (k + 1) = steps.take k ++ [s] := by rw [List.take_add_one, hs]; rfl
                rw [outAt, et, spotsOf_append, fill_append, Nat.zero_add]; rfl
              rw [e2, h1, List.drop_left]
            refine ⟨⟨rfl, rfl, rfl, rfl, rfl, rfl, ?_, ?_, trivial⟩, kk14, hg14, ?_⟩
            · show some (V.bytes _) = some (V.bytes _)
              rw [Nat.add_zero, eg]
            · show some (V.int _) = some (V.int _)
              rw [d5, Nat.zero_add, d3]
              simp
            · rw [Nat.zero_add, d4]
              exact hx14
          · intro x hx
            simp at hx
            rcases hx with rfl | rfl <;> exact .inl rfl
        · rintro fr4 st11 ⟨hsb4, k11, hg11, hx11⟩
          by_cases hkl : k < steps.length
          · have el : (((steps.drop k).take 1).map Stp.v).length = 1 := by simp; omega
            rw [el] at hsb4 hx11
            walk_at "te"
            refine TS_nil ?_
            walk_at "tes"
            exact ⟨hsb4, k11, hx11⟩
          · have el : (((steps.drop k).take 1).map Stp.v).length = 0 := by simp; omega
            rw [el] at hsb4 hx11
            have et : steps.take (k + 1) = steps.take k := by rw [List.take_of_length_le (by omega), List.take_of_length_le (by omega)]
            walk_at "te"
            refine TS_nil ?_
            walk_at "tes"
            refine ⟨?_, k11, ?_⟩
            · walk_at "tes"
              unfold outAt spAt at hsb4 ⊢
              rw [et]; exact hsb4
            · unfold rowAt at hx11 ⊢
              rw [et]; exact hx11
      · rintro fr st2 ⟨hsb, k2, hx2⟩
        walk_at "te"
        refine TS.weakG hsb fun _ _ => ?_
        walk_at "tes"
        exact h st2 k2
    · intro x hx
      simp at hx
      rcases hx with rfl | rfl | rfl <;> exact .inl rfl
end

/-- what is not reached may be dropped -/
theorem fill_drop {α : Type} (d0 : α) (f : Nat → α) : ∀ (ds : List Nat) (out : List α) (sp k : Nat), k ≤ out.length → Vld (out.length - k) ds → fill d0 f ds (out.drop k) sp = (fill d0 f ds out sp).drop k
  | [], _, _, _, _, _ => rfl
  | 0 :: ds, out, sp, k, hk, hv => by
    have hv1 := Vld.tail (a := [0]) hv
    have ih := fill_drop d0 f ds (out ++ [f sp]) (sp + 1) k (by simp; omega) (by
      rw [List.length_append]
      simp only [List.length_singleton] at hv1 ⊢
      rw [show out.length + 1 - k = out.length - k + 1 by omega]
      exact hv1)
    rw [fill, fill, ← ih, List.drop_append_of_le_length hk]
  | (d + 1) :: ds, out, sp, k, hk, hv => by
    have h0 := hv 0 (d + 1) rfl
    have hv1 := Vld.tail (a := [d + 1]) hv
    have ih := fill_drop d0 f ds (out ++ [out.getD (out.length - (d + 1)) d0]) sp k (by simp; omega) (by
      rw [List.length_append]
      simp only [List.length_singleton] at hv1 ⊢
      rw [show out.length + 1 - k = out.length - k + 1 by omega]
      exact hv1)
    rw [fill, fill, ← ih, List.drop_append_of_le_length hk]
    congr 3
    simp only [List.getD, List.getElem?_drop, List.length_drop]
    congr 2
    omega

/-- a distance that reaches behind the first octet is refused -/
theorem playGo_err {lits : List UInt8} : ∀ {ss : List Stp} {row : List Nat} {out : List UInt8} {sp : Nat}, (∀ s ∈ ss, s.ok) → (∀ s ∈ ss, s.pos) → Pos4 row → ¬ Vld out.length (spotsOf ss row) → sp + zeros (spotsOf ss row) ≤ lits.length →
    playGo lits ss row out sp = .error true
  | [], _, _, _, _, _, _, hv, _ => absurd (fun i d e => by simp [spotsOf] at e) hv
  | s :: ss, row, out, sp, ho, hp, hr, hv, hz => by
    have ho0 := ho s List.mem_cons_self
    have hp0 := hp s List.mem_cons_self
    have ho1 := fun x hx => ho x (List.mem_cons_of_mem s hx)
    have hp1 := fun x hx => hp x (List.mem_cons_of_mem s hx)
    have hr1 := turn_pos ho0 hp0 hr
    rw [spotsOf] at hv hz
    rw [zeros_append] at hz
    have rest : ∀ m, s.far row ≤ m → ¬ Vld m (List.replicate s.size (s.far row) ++ spotsOf ss (s.turn row)) → ¬ Vld (m + s.size) (spotsOf ss (s.turn row)) := fun m hm h1 h2 => h1 fun i d e => by
      by_cases hi : i < s.size
      · rw [List.getElem?_append_left (by simpa using hi), List.getElem?_replicate, if_pos hi] at e
        cases e
        omega
      · rw [List.getElem?_append_right (by simp; omega)] at e
        simp only [List.length_replicate] at e
        have := h2 _ _ e
        omega
    by_cases hl : s = .lit
    · subst hl
      have z1 : zeros (List.replicate Stp.lit.size (Stp.lit.far row)) = 1 := rfl
      rw [z1] at hz
      have h1 := rest out.length (Nat.zero_le _) hv
      have ih := playGo_err (lits := lits) (out := out ++ [lits.getD sp 0]) (sp := sp + 1) ho1 hp1 hr1 (by rw [List.length_append]; exact h1) (by omega)
      rw [playGo, if_pos (by omega)]
      exact ih
    · have hf := far_pos ho0 hp0 hr hl
      have z0 := zeros_replicate hf s.size
      rw [z0] at hz
      by_cases hle : s.far row ≤ out.length
      · have ih := playGo_err (lits := lits) (out := copyBack (s.far row) s.size out) (sp := sp) ho1 hp1 hr1 (by rw [copyBack_length]; exact rest _ hle hv) (by omega)
        cases s with
        | lit => exact absurd rfl hl
        | _ => rw [playGo, if_pos ⟨hf, hle⟩]; exact ih; exact fun e => nomatch e
      · cases s with
        | lit => exact absurd rfl hl
        | _ => rw [playGo, if_neg (fun h => hle h.2)]; exact fun e => nomatch e

/-- what a fill holds was there, or is a literal -/
theorem fill_mem {α : Type} (d0 : α) (f : Nat → α) : ∀ (ds : List Nat) (out : List α) (sp : Nat), Vld out.length ds → ∀ x ∈ fill d0 f ds out sp, x ∈ out ∨ ∃ k < zeros ds, x = f (sp + k)
  | [], _, _, _, x, hx => .inl hx
  | 0 :: ds, out, sp, hv, x, hx => by
    rw [fill] at hx
    have hv1 := Vld.tail (a := [0]) hv
    rcases fill_mem d0 f ds (out ++ [f sp]) (sp + 1) (by rw [List.length_append]; exact hv1) x hx with h | ⟨k, hk, h⟩
    · rcases List.mem_append.mp h with h | h
      · exact .inl h
      · exact .inr ⟨0, by rw [zeros]; omega, List.mem_singleton.mp h⟩
    · refine .inr ⟨k + 1, by rw [zeros]; omega, ?_⟩
      rw [h]
      congr 1
      omega
  | (d + 1) :: ds, out, sp, hv, x, hx => by
    rw [fill] at hx
    have h0 := hv 0 (d + 1) rfl
    have hv1 := Vld.tail (a := [d + 1]) hv
    rcases fill_mem d0 f ds (out ++ [out.getD (out.length - (d + 1)) d0]) sp (by rw [List.length_append]; exact hv1) x hx with h | ⟨k, hk, h⟩
    · rcases List.mem_append.mp h with h | h
      · exact .inl h
      · rw [List.mem_singleton.mp h]
        have : out.length - (d + 1) < out.length := by omega
        exact .inl (by simp [List.getD, this])
    · exact .inr ⟨k, by rw [zeros]; exact hk, h⟩

theorem upTo_len (n : Nat) : (upTo n).length = n := by simp [upTo]
theorem upTo_take {n e : Nat} (h : e ≤ n) : (upTo n).take e = upTo e := by
  rw [upTo, upTo, ← List.map_take, List.take_range, Nat.min_eq_left h]
theorem upTo_get {n k : Nat} (h : k < n) : (upTo n).getD k 0 = k.toUInt8 := by simp [List.getD, upTo, h]

section
variable {steps : List Stp} {four spots : List Nat} {early singles : List UInt8}

/-- the names play to what the list alone tells -/
theorem picked_plain (H : RowOf steps four early singles) (hs : spots = spotsOf steps four) (hn : early.length + singles.length ≤ 256) :
    ∃ full, playGo ((upTo (early.length + singles.length)).drop early.length) steps four ((upTo (early.length + singles.length)).take early.length) 0 = .ok (full, ((upTo (early.length + singles.length)).drop early.length).length) ∧
      full.drop early.length = (fill 0 (fun k => (early.length + k).toUInt8) spots (upTo early.length) 0).drop early.length ∧
      (∀ x ∈ full.drop early.length, x.toNat < early.length + singles.length) ∧
      (outAt steps four early singles steps.length).drop early.length = (full.drop early.length).map fun x => (early ++ singles).getD x.toNat 0 := by
  have hsing := H.sing
  rw [← hs] at hsing
  have hv := H.vld
  rw [← hs] at hv
  have hl : ((upTo (early.length + singles.length)).drop early.length).length = singles.length := by rw [List.length_drop, upTo_len]; omega
  have ht := upTo_take (n := early.length + singles.length) (e := early.length) (by omega)
  have hlt : (upTo early.length).length = early.length := upTo_len _
  have e1 := playGo_fill (lits := (upTo (early.length + singles.length)).drop early.length) (out := (upTo (early.length + singles.length)).take early.length) (sp := 0) H.ok H.pos H.hfour (by rw [ht, hlt]; exact H.vld) (by rw [hl, Nat.zero_add, ← hs]; omega)
  rw [Nat.zero_add, ← hs, ← hsing, ht] at e1
  have e2 : fill 0 (fun k => ((upTo (early.length + singles.length)).drop early.length).getD k 0) spots (upTo early.length) 0 = fill 0 (fun k => (early.length + k).toUInt8) spots (upTo early.length) 0 :=
    fill_congr 0 _ _ _ _ _ _ fun k hk => by
      rw [getD_drop, upTo_get (by omega)]
  rw [e2] at e1
  -- the names as numbers
  have e3 : (fill 0 (fun k => early.length + k) spots (List.range early.length) 0).map (fun i : Nat => i.toUInt8) = fill 0 (fun k => (early.length + k).toUInt8) spots (upTo early.length) 0 := fill_map _ _ _ _ _ _
  have e4 : (fill 0 (fun k => early.length + k) spots (List.range early.length) 0).map (fun i : Nat => (early ++ singles).getD i 0) = outAt steps four early singles steps.length := by
    rw [fill_map]
    have h1 : (List.range early.length).map (fun i : Nat => (early ++ singles).getD i 0) = early := by
      apply List.ext_getElem?
      intro i
      rw [List.getElem?_map]
      by_cases hi : i < early.length
      · rw [List.getElem?_range hi]
        simp [List.getD, List.getElem?_append_left hi, hi]
      · rw [List.getElem?_eq_none (by simpa using hi), List.getElem?_eq_none (by omega)]; rfl
    rw [h1, fill_default _ 0 _ _ _ _ hv, outAt, List.take_length, ← hs]
    refine fill_congr 0 _ _ _ _ _ _ fun k hk => ?_
    rw [Nat.zero_add]
    simp [List.getD, List.getElem?_append_right (show early.length ≤ early.length + k by omega)]
  have hmem : ∀ i ∈ fill 0 (fun k => early.length + k) spots (List.range early.length) 0, i < early.length + singles.length := fun i hi => by
    rcases fill_mem 0 _ spots (List.range early.length) 0 (by rw [List.length_range]; exact hv) i hi with h | ⟨k, hk, h⟩
    · have := List.mem_range.mp h; omega
    · omega
  refine ⟨_, by rw [hl, ht]; exact e1, rfl, ?_, ?_⟩
  · intro x hx
    have hx' := List.mem_of_mem_drop hx
    rw [← e3] at hx'
    obtain ⟨i, hi, rfl⟩ := List.mem_map.mp hx'
    have := hmem i hi
    simp
    omega
  · rw [← e4, ← e3, ← List.map_drop, ← List.map_drop, List.map_map]
    apply List.map_congr_left
    intro i hi
    have := hmem i (List.mem_of_mem_drop hi)
    have h2 : i.toUInt8.toNat = i := by simp; omega
    show _ = (early ++ singles).getD (i.toUInt8.toNat) 0
    rw [h2]

theorem RowOf.told (_ : RowOf steps four early singles) : early ++ (outAt steps four early singles steps.length).drop early.length = outAt steps four early singles steps.length := by
  obtain ⟨r, h1, _⟩ := fill_pre 0 (fun j => singles.getD j 0) (spotsOf steps four) early 0
  have e : outAt steps four early singles steps.length = early ++ r := by rw [outAt, List.take_length]; exact h1
  rw [e, List.drop_left]
theorem RowOf.play (H : RowOf steps four early singles) : playGo singles steps four early 0 = .ok (outAt steps four early singles steps.length, singles.length) := by
  rw [playGo_fill H.ok H.pos H.hfour H.vld (by rw [H.sing, Nat.zero_add]; exact Nat.le_refl _), outAt, List.take_length, Nat.zero_add, H.sing]
theorem RowOf.lits (H : RowOf steps four early singles) : litGo (outAt steps four early singles steps.length) steps early.length = singles := by
  have h := cut_c H 0
  have e1 : outAt steps four early singles 0 = early := rfl
  have e2 : spAt steps four 0 = 0 := rfl
  rw [e1, e2, List.drop_zero, List.drop_zero] at h
  exact h
/-- another row of the same spots tells the same -/
theorem RowOf.twin (H : RowOf steps four early singles) {twin : List Stp} (h1 : ∀ s ∈ twin, s.ok) (h2 : ∀ s ∈ twin, s.pos) (h3 : spotsOf twin four = spotsOf steps four) :
    RowOf twin four early singles ∧ outAt twin four early singles twin.length = outAt steps four early singles steps.length :=
  ⟨⟨h1, h2, H.hfour, h3 ▸ H.vld, h3 ▸ H.sing⟩, by rw [outAt, outAt, List.take_length, List.take_length, h3]⟩
end
theorem len_sizes : ∀ {ss : List Stp}, (∀ s ∈ ss, s.ok) → ss.length ≤ sizes ss
  | [], _ => Nat.le_refl _
  | s :: ss, h => by
    have := size_pos (h s List.mem_cons_self)
    have ih := len_sizes (ss := ss) fun x hx => h x (List.mem_cons_of_mem _ hx)
    rw [sizes_cons, List.length_cons]
    omega
section
open Builtin Builtin.ObjectAttr

abbrev badObj (t D : Addr) : Obj := { cls := .ref 52, dict := some D, data := .fields #[.ref t, .none, .none, .none, .bool false, .none] }

section
variable {prog : Program} {w : World} {hB : Heap} {c : Cx} {fr : Vars} {st : St} {E : EE}

theorem badinit_spec (G : Gd w hB (KK w)) (hr : Room c.A 1) {x t : Addr} {msg : Str} {R : V → St → Prop} (hx : st x = some (.obj (excNew 52 t)))
    (h : ∀ st' t' D, st' x = some (.obj (badObj t' D)) → Keep [x] st st' → R .none st') : TCd prog w hB c c.A (.val (.ref 36)) [.ref x, .str msg] fr st NoE R := by
  refine D_fn G ["self", "reason"] rfl rfl hr.limit rfl ?_ (by decide) (by decide) (by decide) ?_
  · intro s
    exact len2 fun u1 u2 hK => binds_K hK rfl rfl rfl rfl rfl
  · intro L
    refine TS_consG fun _ _ => (T1_expr (TE_methS (K := KK _) G (TE_builtin (K := KK _) G rfl PyProof.Rows.Boot.«ValueError» (by decide) ?_ rfl)) rfl rfl)
    refine ⟨.builtin "ValueError.__init__", m_type (K := KK _) G rfl rfl rfl rfl rfl rfl, .inl ⟨_, rfl⟩, ?_⟩
    walk_at "tes"
    refine K_excinit (K := KK _) G PySem.F.excBase_ValueError (C := 52) rfl (by decide) hx rfl fun t' => ⟨trivial, ?_⟩
    walk_at "tes"
    refine S_excattr (K := KK _) G (C := 52) (vs := #[.ref t', .none, .none, .none, .bool false, .none]) (St.set_self ..) rfl ?_ rfl rfl rfl rfl fun D => ?_
    · intro self
      show refuseLoop self "__setattr__" (.ref 52 :: .ref 39 :: [.type "ValueError", .type "Exception", .type "BaseException", .type "object"]) = pure ()
      rw [refuseLoop_ref, refuseLoop_ref]
      exact PySem.F.store_ValueError.passes self
    walk_at "tes"
    exact h _ t' D (St.set_self ..) ((Keep.set (by simp)).trans (Keep.set (by simp)))

theorem bad_spec (G : Gd w hB (KK w)) (hr : Room c.A 2) {msg : Str} {R : V → St → Prop} (h : ∀ x st' t D, st' x = some (.obj (badObj t D)) → Keep [] st st' → R (.ref x) st') :
    TC prog w hB c c.A (.val (.ref 52)) [.str msg] fr st E R := by
  refine TC.noE (K_excclass (K := KK _) G PySem.F.excBase_ValueError (C := 52) (fI := 36) rfl (by decide) (by decide) (by decide) rfl rfl rfl rfl (by simp) fun A' x t e1 e2 e3 hx => ?_)
  have hr' : Room A' 1 := ⟨e1.trans hr.handled, by have := hr.depth; omega, by have := hr.units; omega⟩
  refine badinit_spec (c := { c with A := A' }) G hr' (St.set_self ..) fun st' t' D hx' k => ⟨rfl, h x st' t' D hx' fun b o e _ => ?_⟩
  have hb := ne_new e hx
  exact k.one (by rw [St.set_ne hb]; exact e) hb
end
end

theorem small_text : ∀ i : Fin 1000, (Str.ofString (toString ((i : Nat) : Int))).length ≤ 20 := by decide +kernel

theorem playGo_lit_err {lits : List UInt8} {ss : List Stp} {row : List Nat} {out : List UInt8} {sp : Nat} (h : playGo lits (.lit :: ss) row out sp = .error true) :
    sp < lits.length ∧ playGo lits ss row (out ++ [lits.getD sp 0]) (sp + 1) = .error true := by
  unfold playGo at h
  split at h
  · exact ⟨by assumption, h⟩
  · cases h
theorem playGo_far_err {lits : List UInt8} {s : Stp} {ss : List Stp} {row : List Nat} {out : List UInt8} {sp : Nat} (hs : s ≠ .lit) (h : playGo lits (s :: ss) row out sp = .error true) :
    ((1 ≤ s.far row ∧ s.far row ≤ out.length) ∧ playGo lits ss (s.turn row) (copyBack (s.far row) s.size out) sp = .error true) ∨ ¬ (1 ≤ s.far row ∧ s.far row ≤ out.length) := by
  cases s with
  | lit => exact absurd rfl hs
  | _ =>
    unfold playGo at h
    split at h
    · exact .inl ⟨by assumption, h⟩
    · exact .inr (by assumption)

section
variable {prog : Program} {w : World} {hB : Heap} {c : Cx} {fr : Vars} {st : St} {E : EE}
theorem O_add_str {x y : Str} {R : V → St → Prop} (hz : x.length + y.length ≤ 1000000) (h : R (.str (x ++ y)) st) : TO2 prog w hB c (binaryOp .Add) (.str x) (.str y) fr st E R := by
  intro s Q wa wb ha ra rb hQ; cases ra; cases rb
  exact PyProof.Rows.add_str (fun t' tk => hQ _ _ _ _ tk h ha .refl (.str _ _)) (by have := sizeLine_ge; omega)

theorem play_raise (G : Gd w hB (KK w)) (hr : Room c.A 9) {outer : List Env} (hfr : c.A.frames = some outer) (houter : ∀ env ∈ outer, env.scope.kind ≠ .module ∧ ∃ L ∈ c.own, env.frame = some L)
    {a x dx : Addr} {steps : List Stp} {lits hist : List UInt8} {row : List Nat} (ha : st a = some (.list (steps.map Stp.v))) (hx : RepsAt st x dx row) (hz : row.length = 4)
    (hok : ∀ s ∈ steps, s.ok) (hgo : playGo lits steps row hist 0 = .error true) (hl1 : steps.length ≤ 900000) (hl2 : lits.length ≤ 900000) (hl3 : hist.length + sizes steps ≤ 900000) (hfar : ∀ d ∈ spotsOf steps row, d < 1000) :
    TCx prog w hB c c.A (.val (.ref 161)) [.ref a, .bytes lits, .bytes hist, .ref x] fr st (FlyE hB outer 52) (fun _ _ => False) := by
  refine D_fnX G ["steps", "literals", "history", "reps"] rfl rfl hr.limit rfl ?_ (by decide) (by decide) (by decide) (fun L => OutE hB ((CxX c.A c.own _ _ _ _ L).env :: outer) 52 L) (fun L => LeaveE.out (Around.frames_deeper hfr) rfl) ?_
  · intro s
    exact len4 fun u1 u2 u3 u4 hK => binds_K hK rfl rfl rfl rfl rfl
  · intro L
    have hx0 := hx.1
    obtain ⟨l, hdx, hl⟩ := hx.2
    refine TSx_cons (T1_unpack_swapped (names := ["out", "spare", "own"]) ?_ hr.handled ?_ rfl rfl)
    · walk_at "tes"
      refine K_ba1 (by omega) fun o ho => ?_
      have k1 : Keep [] st (st.set o (.barr hist)) := Keep.new ho
      walk_at "tes"
      refine C_is_none_ref ?_
      walk_at "tes"
      refine ite_f rfl ?_
      walk_at "tes"
      refine ⟨.ref 117, m_inst (K := KK _) G (k1.all hx0) (k1.all hdx) rfl rfl rfl rfl, .inr ⟨_, rfl, rfl⟩, ?_⟩
      refine copy_spec G ((hr.deeper _).less (by decide)) (hx.keep k1) hz fun y dy st2 hy hdy hown k2 => ?_
      walk_at "tes"
      refine ⟨by simp, _, rfl, rfl, ?_⟩
      have k12 := k1.trans k2
      have hout2 : st2 o = some (.barr hist) := k2.all (St.set_self ..)
      refine TSx_cons (T1_for (PassE.out (Around.frames_deeper hfr) rfl) (.inl rfl) ?_)
      walk_at "tes"
      refine ⟨steps.map Stp.v, _, _, it_list (l := a) (hr.deeper _).handled, fun i fr st' => ∃ row' out' sp, Sub [("out", .ref o), ("spare", .int (sp : Nat)), ("own", .ref y), ("literals", .bytes lits), ("history", .bytes hist)] fr ∧
        Keep [] st st' ∧ st' o = some (.barr out') ∧ RepsAt st' y dy row' ∧ row'.length = 4 ∧ playGo lits (steps.drop i) row' out' sp = .error true ∧ out'.length + sizes (steps.drop i) ≤ 900000 ∧ ∀ d ∈ spotsOf (steps.drop i) row', d < 1000, ?_, ?_, ?_, ?_⟩
      · exact ⟨row, hist, 0, ⟨rfl, rfl, rfl, rfl, rfl, trivial⟩, k12, hout2, hown, hz, hgo, hl3, hfar⟩
      · rintro i fr st' ⟨_, _, _, _, k, _⟩
        exact k.all ha
      · rintro i fr st3 v hi hh0 hv
        refine e3 hh0 fun row' out' sp hh1 => a8 hh1 fun hs k hout hown hz' hgo' hsz hfar' => ?_
        clear hh1 hh0
        obtain ⟨s, hsi, rfl⟩ := step_at hv
        have hdrop := drop_at hsi
        have hso : s.ok := hok s (List.mem_of_getElem? hsi)
        rw [hdrop] at hgo' hsz hfar'
        rw [sizes_cons] at hsz
        have hpos := size_pos hso
        have hf1 : s.far row' < 1000 := hfar' _ (by
          rw [spotsOf]
          exact List.mem_append_left _ (List.mem_replicate.mpr ⟨by omega, rfl⟩))
        have hfr' : ∀ d ∈ spotsOf (steps.drop (i + 1)) (s.turn row'), d < 1000 := fun d hd => hfar' d (by
          rw [spotsOf]
          exact List.mem_append_right _ hd)
        refine TS.weakG (hs.bind rfl) fun _ _ => ?_
        walk_at "tes"
        refine distance_spec G ((hr.deeper _).less (by decide)) hso hown hz' fun st4 hown4 k4 => ?_
        obtain ⟨_, ly, hdy3, _⟩ := id hown
        have hout4 : st4 o = some (.barr out') := k4.one hout (ne_of hout hdy3 fun q => nomatch q)
        have k34 : Keep [] st st4 := fun b o' e _ => by
          have e3 := k.all e
          exact k4.one e3 (fun q => by subst q; have h9 := k1.all e; rw [hdy] at h9; cases h9)
        walk_at "tes"
        refine I_step0 ?_
        walk_at "tes"
        by_cases hlit : s = .lit
        · subst hlit
          refine ite_t rfl ?_
          obtain ⟨hsp, hgo2⟩ := playGo_lit_err hgo'
          walk_at "tes"
          refine K_len_bytes (by omega) ?_
          walk_at "tes"
          refine ite_f (by simp; omega) ?_
          walk_at "tes"
          refine ⟨.builtin "bytearray.append", m_bappend hout4, .inl ⟨_, rfl⟩, ?_⟩
          walk_at "tes"
          refine I_bytes (by omega) (by omega) (by omega) ?_
          walk_at "tes"
          refine K_bappend (x := lits.getD sp 0) (by simp) hout4 (by omega) ?_
          refine ⟨trivial, ?_⟩
          walk_at "tes"
          refine ⟨row', out' ++ [lits.getD sp 0], sp + 1, ⟨rfl, rfl, rfl, rfl, rfl, trivial⟩, ?_, St.set_self .., ?_, hz', hgo2, ?_, hfr'⟩
          · exact fun b o' e _ => by
              rw [St.set_ne (fun q => by subst q; rw [ho] at e; cases e)]
              exact k34.all e
          · exact hown4.keepx hout4 (Keep.set (by simp))
          · simp [Stp.size] at hsz ⊢; omega
        · refine ite_f (name_lit hlit) ?_
          have hss := size_le hso
          rcases playGo_far_err hlit hgo' with ⟨⟨hd1, hd2⟩, hgo2⟩ | hbad
          · walk_at "tes"
            refine ite_t (by simp; omega) ?_
            walk_at "tes"
            refine K_len_ba hout4 (by omega) ?_
            walk_at "tes"
            refine ite_f (by simp; omega) ?_
            walk_at "tes"
            refine T1_for (PassE.out (Around.frames_deeper hfr) rfl) (.inl rfl) ?_
            walk_at "tes"
            refine length_spec G ((hr.deeper _).less (by decide)) hso ?_
            walk_at "tes"
            refine K_range ?_
            refine ⟨rngItems s.size, _, _, it_range (n := s.size) (hr.deeper _).handled (by omega), fun j fr st5 => Sub [("out", .ref o), ("distance", .int (s.far row' : Nat)), ("spare", .int (sp : Nat)), ("own", .ref y), ("literals", .bytes lits), ("history", .bytes hist)] fr ∧
              Keep [o] st4 st5 ∧ st5 o = some (.barr (copyBack (s.far row') j out')), ?_, ?_, ?_, ?_⟩
            · exact ⟨⟨rfl, rfl, rfl, rfl, rfl, rfl, trivial⟩, .refl, hout4⟩
            · exact fun _ _ _ _ => trivial
            · rintro j fr st5 v hj ⟨hs5, k5, hout5⟩ hv
              rw [rngItems_len] at hj
              have hlen := copyBack_length (s.far row') j out'
              refine TS.weakG (hs5.bind rfl) fun _ _ => ?_
              walk_at "tes"
              refine ⟨.builtin "bytearray.append", m_bappend hout5, .inl ⟨_, rfl⟩, ?_⟩
              walk_at "tes"
              refine K_len_ba hout5 (by omega) ?_
              walk_at "tes"
              refine I_ba (i := (copyBack (s.far row') j out').length - s.far row') (x := (copyBack (s.far row') j out').getD ((copyBack (s.far row') j out').length - s.far row') 0) (by omega) hout5 (by omega) (getu (by omega)) ?_
              walk_at "tes"
              refine K_bappend rfl hout5 (by omega) ?_
              refine ⟨trivial, ?_⟩
              walk_at "tes"
              exact ⟨⟨rfl, rfl, rfl, rfl, rfl, rfl, trivial⟩, k5.trans (Keep.set (by simp)), by rw [St.set_self]; rfl⟩
            · rintro fr st5 ⟨hs5, k5, hout5⟩
              rw [rngItems_len] at hout5
              walk_at "tes"
              refine ⟨s.turn row', copyBack (s.far row') s.size out', sp, ⟨hs5.1, hs5.2.2.1, hs5.2.2.2.1, hs5.2.2.2.2.1, hs5.2.2.2.2.2.1, trivial⟩, ?_, hout5, hown4.keepx hout4 k5, turn_length hso hz', hgo2, ?_, hfr'⟩
              · exact fun b o' e _ => k5.one (k34.all e) (fun q => by subst q; rw [ho] at e; cases e)
              · rw [copyBack_length]; omega
          · walk_at "tes"
            by_cases hd1 : 1 ≤ s.far row'
            · refine ite_t (by simp; omega) ?_
              walk_at "tes"
              refine K_len_ba hout4 (by omega) ?_
              walk_at "tes"
              refine ite_t (by simp; omega) ?_
              walk_at "tes"
              refine T1_raise (K := KK _) G (hr.deeper _).handled ?_
              walk_at "tes"
              refine K_str (by
                have h1 := Nat.log2_le_self (s.far row')
                have h2 : ((s.far row' : Nat) : Int).natAbs = s.far row' := by simp
                rw [h2]; omega) ?_
              have h2 := small_text ⟨s.far row', hf1⟩
              refine O_add_str (by
                have h3 : (Str.ofString "a step at a distance of ").length ≤ 100 := by decide
                exact Nat.le_trans (Nat.add_le_add h3 h2) (by decide)) ?_
              walk_at "tes"
              refine bad_spec G ((hr.deeper _).less (by decide)) fun x st5 t D hx5 k5 => ?_
              refine ⟨x, 52, some D, _, rfl, hx5, rfl, rfl, rfl, fun h' ha' => .inl ⟨x, _, _, _, rfl, fun b ob e => (ha'.inv.stays b ob e).1, ?_, funFrames_of ha' ?_, ha'.inv.objs _ _ hx5, rfl, rfl, rfl, rfl⟩⟩
              · cases q : hB.get? x with
                | none => rfl
                | some ob => have := (ha'.inv.stays _ _ q).2; rw [hx5] at this; cases this
              · intro env he
                rcases List.mem_cons.mp he with rfl | he
                · exact ⟨fun e => (nomatch e), L, List.mem_append_left _ List.mem_cons_self, rfl⟩
                · obtain ⟨h1, L', h2, h3⟩ := houter env he
                  exact ⟨h1, L', List.mem_append_right _ h2, h3⟩
            · refine ite_f (by simp; omega) ?_
              refine ite_t rfl ?_
              walk_at "tes"
              refine T1_raise (K := KK _) G (hr.deeper _).handled ?_
              walk_at "tes"
              refine K_str (by
                have h1 := Nat.log2_le_self (s.far row')
                have h2 : ((s.far row' : Nat) : Int).natAbs = s.far row' := by simp
                rw [h2]; omega) ?_
              have h2 := small_text ⟨s.far row', hf1⟩
              refine O_add_str (by
                have h3 : (Str.ofString "a step at a distance of ").length ≤ 100 := by decide
                exact Nat.le_trans (Nat.add_le_add h3 h2) (by decide)) ?_
              walk_at "tes"
              refine bad_spec G ((hr.deeper _).less (by decide)) fun x st5 t D hx5 k5 => ?_
              refine ⟨x, 52, some D, _, rfl, hx5, rfl, rfl, rfl, fun h' ha' => .inl ⟨x, _, _, _, rfl, fun b ob e => (ha'.inv.stays b ob e).1, ?_, funFrames_of ha' ?_, ha'.inv.objs _ _ hx5, rfl, rfl, rfl, rfl⟩⟩
              · cases q : hB.get? x with
                | none => rfl
                | some ob => have := (ha'.inv.stays _ _ q).2; rw [hx5] at this; cases this
              · intro env he
                rcases List.mem_cons.mp he with rfl | he
                · exact ⟨fun e => (nomatch e), L, List.mem_append_left _ List.mem_cons_self, rfl⟩
                · obtain ⟨h1, L', h2, h3⟩ := houter env he
                  exact ⟨h1, L', List.mem_append_right _ h2, h3⟩
      · rintro fr st3 hh0
        refine e3 hh0 fun row' out' sp hh1 => a8 hh1 fun hs k hout hown hz' hgo' hsz _ => ?_
        clear hh1 hh0
        rw [show (steps.map Stp.v).length = steps.length by simp, List.drop_length] at hgo'
        unfold playGo at hgo'
        cases hgo'
    · intro x hx
      simp at hx
      rcases hx with rfl | rfl | rfl <;> exact .inl rfl
end

section
variable {prog : Program} {w : World} {hB : Heap} {c : Cx} {fr : Vars} {st : St} {E : EE}

def needs (spots : List Nat) : List Int := (List.range spots.length).map fun (j : Nat) => ((spots.getD j 0 : Nat) : Int) - (j : Int)

theorem reach_spec (G : Gd w hB (KK w)) (hr : Room c.A 11) {outer : List Env} (hfr : c.A.frames = some outer) (houter : ∀ env ∈ outer, env.scope.kind ≠ .module ∧ ∃ L ∈ c.own, env.frame = some L)
    {a f p : Addr} {steps : List Stp} {four spots : List Nat} {early singles told : List UInt8} (ha : st a = some (.list (steps.map Stp.v))) (hf : st f = some (.list (rowV four))) (hp : st p = some (.list (rowV spots)))
    (H : RowOf steps four early singles) (hs : spots = spotsOf steps four) (ht : told = (outAt steps four early singles steps.length).drop early.length)
    (hb1 : early.length ≤ 100) (hb2 : spots.length ≤ 800) (hb3 : steps.length ≤ 800) :
    TCx prog w hB c c.A (.val (.ref 231)) [.ref a, .bytes singles, .bytes early, .ref f, .ref p, .bytes told] fr st NoE (fun u h' => u = .bool true ∧ hB.StaysIn h') := by
  have hsz : sizes steps = spots.length := by rw [hs, spotsOf_length]
  have hz4 := H.hfour.1
  have hv := H.vld
  rw [← hs] at hv
  have hsing := H.sing
  rw [← hs] at hsing
  have hzl : zeros spots ≤ spots.length := by
    have : ∀ l : List Nat, zeros l ≤ l.length := fun l => by
      induction l with
      | nil => exact Nat.le_refl _
      | cons d l ih => cases d <;> (rw [zeros]; simp; omega)
    exact this _
  refine D_fnX G ["steps", "singles", "early", "four", "spots", "told"] rfl rfl hr.limit rfl ?_ (by decide) (by decide) (by decide) (fun _ => NoE) (fun _ _ _ x => x.elim) ?_
  · intro s
    exact len6 fun u1 u2 u3 u4 u5 u6 hK => BindsTo.of_eq rfl
  · intro L
    refine TSx_cons ?_
    walk_at "tes"
    refine K_len_bytes (by omega) ?_
    walk_at "tes"
    refine ⟨by simp, fun q hq => ?_⟩
    have k1 : Keep [] st (st.set q (.list [.int 0])) := Keep.new hq
    have hq1 : St.set st q (.list [.int 0]) q = some (.list (([0] : List Int).map V.int)) := St.set_self ..
    generalize st.set q (.list [.int 0]) = st1 at k1 hq1
    refine TE_comp_enum (K := KK _) G (l := p) (items := rowV spots) ⟨rfl, rfl, by decide, by decide, by simp, by simp, by intro y u e; simp at e, fun _ _ _ e => e⟩ (hr.deeper _).handled (by simp; omega) (fun C => .inl rfl) (fun C => .inl rfl)
      (fun i ys st' => Keep [] st1 st' ∧ st' p = some (.list (rowV spots)) ∧ ys = ((List.range i).map fun (j : Nat) => V.int (((spots.getD j 0 : Nat) : Int) - (j : Int)))) (fun i ys st' z => z.2.1) ?_ ?_ ?_
    · walk_at "tes"
      refine ⟨rfl, ?_⟩
      walk_at "tes"
      exact ⟨rfl, .refl, k1.all hp, rfl⟩
    · rintro C i ys st' v hi ⟨k, hp', rfl⟩ hv'
      obtain ⟨d, hd, rfl⟩ : ∃ d, spots[i]? = some d ∧ v = .int (d : Int) := by
        rw [List.getElem?_map] at hv'
        cases q : spots[i]? with
        | none => rw [q] at hv'; cases hv'
        | some d => rw [q] at hv'; exact ⟨d, rfl, by simpa using hv'.symm⟩
      walk_at "tes"
      refine ⟨k, hp', ?_⟩
      rw [List.range_succ, List.map_append]
      simp [List.getD, hd]
    · rintro ys st' ⟨k, hp', rfl⟩ e he
      have hlen : (rowV spots).length = spots.length := by simp
      rw [hlen]
      have k2 : Keep [] st1 (st'.set e (.list ((List.range spots.length).map fun (j : Nat) => V.int (((spots.getD j 0 : Nat) : Int) - (j : Int))))) := k.trans (Keep.new he)
      have he2 : St.set st' e (.list ((List.range spots.length).map fun (j : Nat) => V.int (((spots.getD j 0 : Nat) : Int) - (j : Int)))) e = some (.list ((needs spots).map V.int)) := by
        rw [St.set_self, needs, List.map_map]; rfl
      generalize st'.set e (.list ((List.range spots.length).map fun (j : Nat) => V.int (((spots.getD j 0 : Nat) : Int) - (j : Int)))) = st2 at k2 he2
      refine O_add_list (k2.all hq1) he2 (by simp [needs]; omega) fun g hg => ?_
      have k3 := k2.trans (Keep.new (ex := []) (o := .list (([0] : List Int).map V.int ++ (needs spots).map V.int)) hg)
      have hg3 : St.set st2 g (.list (([0] : List Int).map V.int ++ (needs spots).map V.int)) g = some (.list ((0 :: needs spots).map V.int)) := by rw [St.set_self]; rfl
      generalize st2.set g (.list (([0] : List Int).map V.int ++ (needs spots).map V.int)) = st3 at k3 hg3
      walk_at "tes"
      refine K_max (ns := 0 :: needs spots) hg3 (by simp) (hr.deeper _).handled fun X hX hmax => ?_
      have hX0 : 0 ≤ X := hmax 0 List.mem_cons_self
      obtain ⟨X0, rfl⟩ : ∃ X0 : Nat, X = (X0 : Int) := ⟨X.toNat, by omega⟩
      have hneed : ∀ j, j < spots.length → ((spots.getD j 0 : Nat) : Int) - (j : Int) ∈ needs spots := fun j hj => List.mem_map.mpr ⟨j, List.mem_range.mpr hj, rfl⟩
      have hvX : Vld X0 spots := fun i d e => by
        have hi := (List.getElem?_eq_some_iff.mp e).1
        have h1 := hmax _ (List.mem_cons_of_mem _ (hneed i hi))
        have h2 : spots.getD i 0 = d := by simp [List.getD, e]
        rw [h2] at h1
        omega
      have hcase : X0 = 0 ∨ ∃ j d, spots[j]? = some d ∧ d = X0 + j := by
        rcases List.mem_cons.mp hX with h1 | h1
        · exact .inl (by omega)
        · obtain ⟨j, hj, h2⟩ := List.mem_map.mp h1
          have hj' := List.mem_range.mp hj
          have h3 : spots[j]? = some (spots.getD j 0) := by simp [List.getD, hj']
          exact .inr ⟨j, _, h3, by omega⟩
      have hXle : X0 ≤ early.length := by
        rcases hcase with h1 | ⟨j, d, h1, h2⟩
        · omega
        · have := hv j d h1
          omega
      obtain ⟨sh, hsh⟩ : ∃ sh : Nat, sh = early.length - X0 := ⟨_, rfl⟩
      have esh : (early.length : Int) - (X0 : Int) = (sh : Int) := by omega
      walk_at "tes"
      rw [esh]
      have kk3 := k1.trans k3
      refine TSx_cons ?_
      walk_at "tes"
      refine I_bytes_slice (lo := some sh) (hi := none) (.int sh) .none (by omega) ?_
      have ec : cut early (some sh) none = early.drop sh := by simp [cut]
      rw [ec]
      walk_at "tes"
      refine reps_spec G ((hr.deeper _).less (by decide)) (kk3.all hf) (by omega) fun x dx st4 hx0 hdx0 hx k4 => ?_
      have kk4 := kk3.trans k4
      have hdl : (early.drop sh).length = X0 := by rw [List.length_drop]; omega
      have hfd := fill_drop (0 : UInt8) (fun j => singles.getD j 0) spots early 0 sh (by omega) (by rw [show early.length - sh = X0 by omega]; exact hvX)
      have hgo : playGo singles steps four (early.drop sh) 0 = .ok ((outAt steps four early singles steps.length).drop sh, singles.length) := by
        rw [playGo_fill H.ok H.pos H.hfour (by rw [hdl, ← hs]; exact hvX) (by rw [← hs]; omega), ← hs, hfd, outAt, List.take_length, ← hs, Nat.zero_add, hsing]
      have htold : ((outAt steps four early singles steps.length).drop sh).drop (early.drop sh).length = told := by
        rw [List.drop_drop, hdl, ht]
        congr 1
        omega
      walk_at "tes"
      refine play_spec G ((hr.deeper _).less (by decide)) (kk4.all ha) hx hz4 H.ok hgo (by omega) (by omega) (by omega) fun st5 k5 => ?_
      have kk5 := kk4.trans k5
      rw [htold]
      walk_at "tes"
      refine C_ne_bytes ?_
      walk_at "tes"
      refine ite_f (by simp) ?_
      walk_at "tes"
      refine TSx_cons ?_
      walk_at "tes"
      refine K_len_bytes (by omega) ?_
      walk_at "tes"
      by_cases hX1 : X0 = 0
      · refine ite_t (by simp; omega) ?_
        walk_at "tes"
        intro u h' ha' hru
        cases hru with
        | ret r => cases r; exact ⟨rfl, fun b o e => (ha'.inv.stays b o e).1⟩
      · refine ite_f (by simp; omega) ?_
        walk_at "tes"
        have hnv : ¬ Vld (X0 - 1) spots := fun hv' => by
          rcases hcase with h1 | ⟨j, d, h1, h2⟩
          · exact hX1 h1
          · have := hv' j d h1
            omega
        have hdl2 : (early.drop (sh + 1)).length = X0 - 1 := by rw [List.length_drop]; omega
        have hbad : playGo singles steps four (early.drop (sh + 1)) 0 = .error true :=
          playGo_err H.ok H.pos H.hfour (by rw [hdl2, ← hs]; exact hnv) (by rw [← hs]; omega)
        refine TSx_try (K := KK _) G (C := 52) (L := L) (outer := outer) (Around.frames_deeper hfr) rfl rfl rfl rfl rfl rfl rfl rfl rfl ?_ fun h' hst => ⟨rfl, hst⟩
        refine TEx_call (K := KK _) G ?_
        walk_at "tes"
        have e1 : (sh : Int) + 1 = ((sh + 1 : Nat) : Int) := by omega
        rw [e1]
        refine I_bytes_slice (lo := some (sh + 1)) (hi := none) (.int _) .none (by omega) ?_
        have ec2 : cut early (some (sh + 1)) none = early.drop (sh + 1) := by simp [cut]
        rw [ec2]
        walk_at "tes"
        refine reps_spec G ((hr.deeper _).less (by decide)) (kk5.all hf) (by omega) fun y dy st6 hy0 hdy0 hy k6 => ?_
        have kk6 := kk5.trans k6
        walk_at "tes"
        refine play_raise G ((hr.deeper _).less (by decide)) (Around.frames_deeper hfr) ?_ (kk6.all ha) hy hz4 H.ok hbad (by omega) (by omega) (by omega) ?_
        · intro env he
          rcases List.mem_cons.mp he with rfl | he
          · exact ⟨fun e => (nomatch e), L, List.mem_append_left _ List.mem_cons_self, rfl⟩
          · obtain ⟨h1, L', h2, h3⟩ := houter env he
            exact ⟨h1, L', List.mem_append_right _ h2, h3⟩
        · intro d hd
          rw [← hs] at hd
          obtain ⟨i, hi, rfl⟩ := List.getElem_of_mem hd
          have := hv i _ (List.getElem?_eq_getElem hi)
          omega
end

section
variable {prog : Program} {w : World} {hB : Heap} {c : Cx} {fr : Vars} {st : St} {E : EE}

theorem TSx.weak {xs : List Stmt} {b : Vars} {P : Flow → Heap → Prop} (hs : Sub b fr) (h : TSx prog w hB c xs b st E P) : TSx prog w hB c xs fr st E P :=
  fun s Q ha hQ => h s Q (ha.weak fun _ _ e => hs.get e) hQ

theorem law_spec (G : Gd w hB (KK w)) {A : Around} (hr : Room A 13) (hfr : A.frames = some []) {l : Addr} {ns : List Int} (hl : Fixed hB l ns) (hz : ns.length ≤ 1000) {s : Shared} (hi : Inv hB s.heap fun _ => none)
    {Q : Value → Shared → Prop} (hQ : ∀ u h' tk', (u = .bool true ∧ hB.StaysIn h') → Q u { s with heap := h', toks := tk' }) :
    wpC (model prog w) A (call (.ref 238) [.ref l]) Q (EX s NoE) s := by
  refine D_coreL (st := fun _ => none) (vs := [.val (.ref l)]) (out := []) (P := fun u h' => u = .bool true ∧ hB.StaysIn h') G ["script"] rfl rfl hr.limit rfl ?_ (by decide) (by decide) (by decide) (fun _ => NoE) (fun _ _ _ x => x.elim) hi (.cons (.val _) .nil) (fun b hb => by cases hb) ?_ hQ
  · intro s
    exact len1 fun u1 hK => BindsTo.of_eq rfl
  · intro L
    refine TSx_cons ?_
    walk_at "tes"
    refine box_spec G ((hr.deeper _).less (by decide)) hl (by omega) fun box st1 hbox0 b1 k1 => ?_
    walk_at "tes"
    refine TSx_cons (T1_assign (TE_mono (R' := fun v st' => ∃ n : Nat, v = .int (n : Int) ∧ n ≤ 8 ∧ BoxOK st' box 1) (TE_ifexp (TB_mono (R' := fun _ st' => st' = st1) ?_ ?_)) ?_) (.inl rfl) rfl)
    · walk_at "tes"
      refine K_len_fixed hl (by omega) ?_
      walk_at "tes"
      split
      · exact rfl
      · walk_at "tes"
        obtain ⟨x1, x2, x3, hb1, _⟩ := b1
        refine I_list hb1 (by decide) (by decide) rfl ?_
        walk_at "tes"
        split
        · exact rfl
        · walk_at "tes"
          exact rfl
    · rintro b st' rfl
      split
      · walk_at "tes"
        refine take_spec G ((hr.deeper _).less (by decide)) b1 (by omega) (by omega) (by omega) fun r st2 r0 r1 b2 k2 => ?_
        walk_at "tes"
        obtain ⟨n, rfl⟩ := Int.eq_ofNat_of_zero_le r0
        exact ⟨3 + n, by simp, by omega, b2⟩
      · walk_at "tes"
        refine take_spec G ((hr.deeper _).less (by decide)) b1 (by omega) (by omega) (by omega) fun r st2 r0 r1 b2 k2 => ?_
        walk_at "tes"
        obtain ⟨n, rfl⟩ := Int.eq_ofNat_of_zero_le r0
        exact ⟨2 + n, by simp, by omega, b2⟩
    rintro v st2 ⟨count, rfl, hc, b2⟩
    refine TSx_cons (T1_unpack (ns := [("early", _), ("four", _), ("steps", _), ("singles", _), ("spots", _), ("behind", _)]) ?_ (hr.deeper _).handled rfl ?_ rfl rfl)
    · walk_at "tes"
      refine row_spec G ((hr.deeper _).less (by decide)) b2 (by omega) hc fun early singles begun behind spots steps B S P F st3 he6 I b3 hB3 hS3 hP3 hF3 nB nS nP nF k3 => ?_
      walk_at "tes"
      refine ⟨_, rfl, rfl, ?_⟩
      have hfour : Pos4 begun := ⟨I.begun4, fun d hd => (I.bpos d hd).1⟩
      have H : RowOf steps begun early singles := ⟨I.ok, I.pos, hfour, by rw [← I.spotsE]; exact I.vld, by rw [← I.spotsE]; exact I.sing0⟩
      have hlen := I.len
      have hstp := I.stp
      have hsz : sizes steps = spots.length := by rw [I.spotsE, spotsOf_length]
      have hzl := zeros_le spots
      have hsing := I.sing0
      have h46 : ∀ d ∈ spots, d ≤ 46 := fun d hd => by
        obtain ⟨i, hi, rfl⟩ := List.getElem_of_mem hd
        have := I.vld i _ (List.getElem?_eq_getElem hi)
        omega
      refine TSx_cons (T1_unpack (ns := [("twin", _), ("other", _)]) ?_ (hr.deeper _).handled rfl ?_ rfl rfl)
      · walk_at "tes"
        refine named_spec G ((hr.deeper _).less (by decide)) b3 (by omega) hP3 hB3 nP hfour (by have := runs_of I.ok I.pos hfour; rw [← I.spotsE] at this; exact this) (by omega) (fun d hd => by have := h46 d hd; omega)
          fun twin S2 F2 st4 tok tpos tspots b4 hS4 hF4 nS4 nF4 k4 => ?_
        walk_at "tes"
        refine ⟨_, rfl, rfl, ?_⟩
        obtain ⟨HT, hTout⟩ := H.twin tok tpos (by rw [tspots, I.spotsE])
        have hB4 := k4.one hB3 nB
        have hSS4 := k4.one hS3 nS
        have hP4 := k4.one hP3 nP
        have hFF4 := k4.one hF3 nF
        have hszT : sizes twin = spots.length := by rw [← spotsOf_length twin begun, tspots]
        have hlT := len_sizes tok
        have hol := RowOf.out_len (steps := steps) (four := begun) (early := early) (singles := singles) steps.length
        rw [List.take_length, ← I.spotsE] at hol
        obtain ⟨told, htold⟩ : ∃ told, told = (outAt steps begun early singles steps.length).drop early.length := ⟨_, rfl⟩
        have htl : told.length = spots.length := by rw [htold, List.length_drop]; omega
        have het : early ++ told = outAt steps begun early singles steps.length := by rw [htold]; exact H.told
        refine TSx.weak (b := [("early", .bytes early), ("four", .ref B), ("steps", .ref S), ("singles", .bytes singles), ("spots", .ref P), ("behind", .ref F), ("twin", .ref S2), ("other", .ref F2)]) ⟨rfl, rfl, rfl, rfl, rfl, rfl, rfl, rfl, trivial⟩ ?_
        refine TSx_cons ?_
        walk_at "tes"
        refine reps_spec G ((hr.deeper _).less (by decide)) hB4 (by have := hfour.1; omega) fun x dx st5 hx0 hdx0 hx k5 => ?_
        walk_at "tes"
        refine play_spec G ((hr.deeper _).less (by decide)) (k5.all hSS4) hx hfour.1 H.ok H.play (by omega) (by omega) (by omega) fun st6 k6 => ?_
        rw [← htold]
        have kk6 := k5.trans k6
        walk_at "tes"
        refine TSx_cons ?_
        walk_at "tes"
        refine led_spec G ((hr.deeper _).less (by decide)) (kk6.all hSS4) (kk6.all hB4) (kk6.all hP4) (by rw [← I.rowE]; exact kk6.all hFF4) hfour.1 I.ok I.spotsE (by omega) fun st7 k7 => ?_
        have kk7 := kk6.trans k7
        walk_at "tes"
        refine ite_f rfl ?_
        walk_at "tes"
        refine led_spec G ((hr.deeper _).less (by decide)) (kk7.all hS4) (kk7.all hB4) (kk7.all hP4) (kk7.all hF4) hfour.1 tok tspots.symm (by omega) fun st8 k8 => ?_
        have kk8 := kk7.trans k8
        walk_at "tes"
        refine ite_f rfl ?_
        walk_at "tes"
        refine ite_f rfl ?_
        walk_at "tes"
        refine TSx_cons ?_
        walk_at "tes"
        refine O_add_bytes (by omega) ?_
        rw [het]
        walk_at "tes"
        refine cuts_spec G ((hr.deeper _).less (by decide)) (kk8.all hSS4) (kk8.all hB4) H (by omega) (by omega) (by omega) (by omega) fun st9 k9 => ?_
        have kk9 := kk8.trans k9
        walk_at "tes"
        refine ite_f rfl ?_
        walk_at "tes"
        refine TSx_cons ?_
        walk_at "tes"
        refine reps_spec G ((hr.deeper _).less (by decide)) (kk9.all hB4) (by have := hfour.1; omega) fun y dy st10 hy0 hdy0 hy k10 => ?_
        have kk10 := kk9.trans k10
        walk_at "tes"
        refine play_spec G ((hr.deeper _).less (by decide)) (kk10.all hS4) hy hfour.1 tok HT.play (by omega) (by omega) (by omega) fun st11 k11 => ?_
        have kk11 := kk10.trans k11
        rw [hTout, ← htold]
        walk_at "tes"
        refine C_ne_bytes ?_
        walk_at "tes"
        refine ite_f (by simp) ?_
        walk_at "tes"
        refine O_add_bytes (by omega) ?_
        rw [het]
        walk_at "tes"
        refine K_len_bytes (by omega) ?_
        walk_at "tes"
        refine literals_spec G ((hr.deeper _).less (by decide)) (kk11.all hS4) tok (by omega) (by omega) (by omega) fun st12 k12 => ?_
        have kk12 := kk11.trans k12
        rw [← hTout, HT.lits]
        walk_at "tes"
        refine C_ne_bytes ?_
        walk_at "tes"
        refine ite_f (by simp) ?_
        walk_at "tes"
        refine ite_f rfl ?_
        walk_at "tes"
        refine TSx_cons ?_
        walk_at "tes"
        obtain ⟨full, p1, p2, p3, p4⟩ := picked_plain H I.spotsE (by omega)
        refine picked_spec G ((hr.deeper _).less (by decide)) (kk12.all hSS4) (kk12.all hB4) (kk12.all hP4) hfour.1 I.ok I.vld (by omega) (by omega) (by omega) (by omega) (by omega) p1 p2 p3 (by rw [htold]; exact p4) fun st13 k13 => ?_
        have kk13 := kk12.trans k13
        walk_at "tes"
        refine ite_f rfl ?_
        walk_at "tes"
        refine TSx_ret (TEx_call (K := KK _) G ?_)
        walk_at "tes"
        refine reach_spec G ((hr.deeper _).less (by decide)) (Around.frames_deeper hfr) ?_ (kk13.all hSS4) (kk13.all hB4) (kk13.all hP4) H I.spotsE htold (by omega) (by omega) (by omega)
        intro env he
        rcases List.mem_cons.mp he with rfl | he
        · exact ⟨fun e => (nomatch e), L, List.mem_append_left _ List.mem_cons_self, rfl⟩
        · cases he
      · intro x hx
        simp at hx
        rcases hx with rfl | rfl <;> exact .inl rfl
    · intro x hx
      simp at hx
      rcases hx with rfl | rfl | rfl | rfl | rfl | rfl <;> exact .inl rfl
end
theorem post_true (R : WRecords) (as ds : List WData) : (WShape.has R (.bool true) .bool && WTm.holds R (.eq .res (.lit (.bool true))) { args := as, res := some (.bool true), after := ds }) = true := by
  have h1 : WShape.has R (.bool true) .bool = true := by simp [WShape.has, WShape.arms]
  rw [h1, Bool.true_and]
  unfold WTm.holds
  rw [w_eq_bool (k := true) (l := true) (w_res rfl) w_lit]
  rfl
theorem law_walk : PySem.Challenge.rw_tg0033_01.Holds := by
  refine hd ?_
  intro w s₀ s₁ mg mb G Y fa o pm cd doc dV kV ho hd hcd hD hmg hg args vals as hpre hlay hrd hwl hlo
  have X : (KK w).In s₁.heap := kIn_of Y
  clear Y ho hd hcd hD
  have GD : Gd w s₁.heap (KK w) := ⟨mg, mb, X, G.T.g, G.T.b, G.T.nolimit, G.T.builtins⟩
  have hfa : fa = 238 := by
    have e := mg_of (n := "law") X G.T.g rfl
    have e2 : mg "law" = some (.ref fa) := hmg
    rw [e2] at e
    cases e
    rfl
  clear hmg
  subst hfa
  wrow_args hpre hlay hrd hwl hlo
  rename_i ns _ _ _ _ _ _ _ l vs _ hL _ _ _ hI _ hlen _
  have hz : ns.length ≤ 1000 := by omega
  have hi : Inv s₁.heap s₁.heap fun _ => none := ⟨fun b o e => ⟨e, rfl⟩, fun b o e => by cases e⟩
  refine wpC_mono (law_spec (Q := fun v s' => GoodWG Challenge.rw_tg0033_01.row.claim (classAt s₀.heap) (ExcName.means s₀.heap) [ofPy (PyData.list (List.map PyData.int ns))] s₁ (.ok (.ret v)) s') GD ⟨rfl, by decide, by decide⟩ rfl ⟨vs, hL, hI⟩ hz hi ?_) (fun _ _ z => z) fun e s' z => ?_
  · rintro u h' tk' ⟨rfl, hst⟩
    refine GoodW.toG ⟨.inl ⟨.bool true, .bool true, [], rfl, fun _ => rfl, .bool _, ?_, fun _ => ⟨List.nodup_nil, fun a ha => by cases ha⟩⟩, fun b o e => hst b o e, rfl, hg⟩
    exact post_true _ _ _
  · obtain ⟨_, _, _, f⟩ := z
    exact f.elim
end Mine
end
theorem PySem.Challenge.cw_tg0033_01_holds : PySem.Challenge.rw_tg0033_01.Holds := by
  exact Mine.law_walk

import PyProof.Rows.All
import Wide.All
import OpenK.AllK
import Wide.FinOn
import Lean
import PySem.Challenge.RW_pf0272_01
set_option Elab.async false
set_option linter.all false
set_option genSizeOf false
set_option linter.deprecated false
set_option maxRecDepth 100000
set_option maxHeartbeats 8000000
section
open PySem PySem.W PySem.Spec PySem.Calls PyProof.Rows
namespace Mine.Internal
local macro_rules | `(tactic| walk_at $s:str) => `(tactic| k_extra $s)
set_option hygiene false in
local macro_rules | `(tactic| x_close) => `(tactic| k_extra "xc")
local macro_rules | `(tactic| k_ne) => `(tactic| (refine neN ?_; (try dsimp only); lia))

noncomputable section
theorem neW : Nonempty World := ⟨aWorld 1⟩
theorem neA : Nonempty PySem.Around := ⟨⟨default, default, default, default, default⟩⟩
theorem neS : Nonempty Shared := ⟨(start (default : Program)).1⟩
instance : Nonempty Shared := neS
theorem exAta : ∃ f : (α : Type) → Nonempty α → Nat → (α → Prop) → α, ∀ α ne k (P : α → Prop), P (f α ne k P) → ∀ x, P x := by
  refine ⟨fun α ne k P => @Classical.epsilon α ne fun x => ¬ P x, ?_⟩
  intro α ne k P h x
  apply Classical.byContradiction
  intro hx
  exact Classical.epsilon_spec (p := fun x => ¬ P x) ⟨x, hx⟩ h
@[irreducible] def ata {α : Type} [ne : Nonempty α] (k : Nat) (P : α → Prop) : α := Classical.choose exAta α ne k P
theorem ata_spec {α : Type} [ne : Nonempty α] {k : Nat} {P : α → Prop} (h : P (ata k P)) : ∀ x, P x := by
  unfold ata at h
  exact Classical.choose_spec exAta α ne k P h
theorem by_goal {P : Prop} (h : ∀ G : Prop, (P → G) → G) : P := h P id
theorem room_lt {a c j k M : Nat} (h : a + k < M) (e : Nat.ble (c + j) k = true) : a + c + j < M :=
  Nat.lt_of_le_of_lt (by rw [Nat.add_assoc]; exact Nat.add_le_add_left (Nat.le_of_ble_eq_true e) a) h
theorem room_lt1 {a k M : Nat} (h : a + k < M) : a < M := Nat.lt_of_le_of_lt (Nat.le_add_right a k) h
noncomputable def Syn (α : Type) : Type := α
noncomputable abbrev IdT (α : Type) : Type := α
noncomputable def unS {α : Type} (x : Syn α) : α := x
class Box (k : Nat) (T : Type → Type) {α : Type} (P : α → Prop) where
  val : T α
noncomputable instance boxI {α : Type} [Nonempty α] {k : Nat} {P : α → Prop} : Box k IdT P := ⟨ata k P⟩
theorem epsd {α : Type} [Nonempty α] (k : Nat) {P : α → Prop} {c : Syn α} (i : Box k Syn P) (_ : i = ⟨c⟩) (hc : unS c = ata k P) (h : P (unS c)) : ∀ x, P x := by
  rw [hc] at h
  exact ata_spec h
noncomputable def un2 {α1 α2 : Type} (P : α1 → α2 → Prop) (x : α1 × α2) : Prop := P (x.1) (x.2)
theorem eps2 {α1 α2 : Type} [Nonempty (α1 × α2)] (k : Nat) {P : α1 → α2 → Prop} {c : Syn (α1 × α2)} (i : Box k Syn (un2 P)) (_ : i = ⟨c⟩) (hc : unS c = ata k (un2 P)) (h : P ((unS c).1) ((unS c).2)) : ∀ a0 a1, P a0 a1 := by
  have h2 : un2 P (unS c) := h
  rw [hc] at h2
  exact fun a0 a1 => ata_spec h2 (a0, a1)
noncomputable def un3 {α1 α2 α3 : Type} (P : α1 → α2 → α3 → Prop) (x : α1 × α2 × α3) : Prop := P (x.1) (x.2.1) (x.2.2)
theorem eps3 {α1 α2 α3 : Type} [Nonempty (α1 × α2 × α3)] (k : Nat) {P : α1 → α2 → α3 → Prop} {c : Syn (α1 × α2 × α3)} (i : Box k Syn (un3 P)) (_ : i = ⟨c⟩) (hc : unS c = ata k (un3 P)) (h : P ((unS c).1) ((unS c).2.1) ((unS c).2.2)) : ∀ a0 a1 a2, P a0 a1 a2 := by
  have h2 : un3 P (unS c) := h
  rw [hc] at h2
  exact fun a0 a1 a2 => ata_spec h2 (a0, a1, a2)
noncomputable def un4 {α1 α2 α3 α4 : Type} (P : α1 → α2 → α3 → α4 → Prop) (x : α1 × α2 × α3 × α4) : Prop := P (x.1) (x.2.1) (x.2.2.1) (x.2.2.2)
theorem eps4 {α1 α2 α3 α4 : Type} [Nonempty (α1 × α2 × α3 × α4)] (k : Nat) {P : α1 → α2 → α3 → α4 → Prop} {c : Syn (α1 × α2 × α3 × α4)} (i : Box k Syn (un4 P)) (_ : i = ⟨c⟩) (hc : unS c = ata k (un4 P)) (h : P ((unS c).1) ((unS c).2.1) ((unS c).2.2.1) ((unS c).2.2.2)) : ∀ a0 a1 a2 a3, P a0 a1 a2 a3 := by
  have h2 : un4 P (unS c) := h
  rw [hc] at h2
  exact fun a0 a1 a2 a3 => ata_spec h2 (a0, a1, a2, a3)
noncomputable def un5 {α1 α2 α3 α4 α5 : Type} (P : α1 → α2 → α3 → α4 → α5 → Prop) (x : α1 × α2 × α3 × α4 × α5) : Prop := P (x.1) (x.2.1) (x.2.2.1) (x.2.2.2.1) (x.2.2.2.2)
theorem eps5 {α1 α2 α3 α4 α5 : Type} [Nonempty (α1 × α2 × α3 × α4 × α5)] (k : Nat) {P : α1 → α2 → α3 → α4 → α5 → Prop} {c : Syn (α1 × α2 × α3 × α4 × α5)} (i : Box k Syn (un5 P)) (_ : i = ⟨c⟩) (hc : unS c = ata k (un5 P)) (h : P ((unS c).1) ((unS c).2.1) ((unS c).2.2.1) ((unS c).2.2.2.1) ((unS c).2.2.2.2)) : ∀ a0 a1 a2 a3 a4, P a0 a1 a2 a3 a4 := by
  have h2 : un5 P (unS c) := h
  rw [hc] at h2
  exact fun a0 a1 a2 a3 a4 => ata_spec h2 (a0, a1, a2, a3, a4)
noncomputable def un6 {α1 α2 α3 α4 α5 α6 : Type} (P : α1 → α2 → α3 → α4 → α5 → α6 → Prop) (x : α1 × α2 × α3 × α4 × α5 × α6) : Prop := P (x.1) (x.2.1) (x.2.2.1) (x.2.2.2.1) (x.2.2.2.2.1) (x.2.2.2.2.2)
theorem eps6 {α1 α2 α3 α4 α5 α6 : Type} [Nonempty (α1 × α2 × α3 × α4 × α5 × α6)] (k : Nat) {P : α1 → α2 → α3 → α4 → α5 → α6 → Prop} {c : Syn (α1 × α2 × α3 × α4 × α5 × α6)} (i : Box k Syn (un6 P)) (_ : i = ⟨c⟩) (hc : unS c = ata k (un6 P)) (h : P ((unS c).1) ((unS c).2.1) ((unS c).2.2.1) ((unS c).2.2.2.1) ((unS c).2.2.2.2.1) ((unS c).2.2.2.2.2)) : ∀ a0 a1 a2 a3 a4 a5, P a0 a1 a2 a3 a4 a5 := by
  have h2 : un6 P (unS c) := h
  rw [hc] at h2
  exact fun a0 a1 a2 a3 a4 a5 => ata_spec h2 (a0, a1, a2, a3, a4, a5)
noncomputable def un7 {α1 α2 α3 α4 α5 α6 α7 : Type} (P : α1 → α2 → α3 → α4 → α5 → α6 → α7 → Prop) (x : α1 × α2 × α3 × α4 × α5 × α6 × α7) : Prop := P (x.1) (x.2.1) (x.2.2.1) (x.2.2.2.1) (x.2.2.2.2.1) (x.2.2.2.2.2.1) (x.2.2.2.2.2.2)
theorem eps7 {α1 α2 α3 α4 α5 α6 α7 : Type} [Nonempty (α1 × α2 × α3 × α4 × α5 × α6 × α7)] (k : Nat) {P : α1 → α2 → α3 → α4 → α5 → α6 → α7 → Prop} {c : Syn (α1 × α2 × α3 × α4 × α5 × α6 × α7)} (i : Box k Syn (un7 P)) (_ : i = ⟨c⟩) (hc : unS c = ata k (un7 P)) (h : P ((unS c).1) ((unS c).2.1) ((unS c).2.2.1) ((unS c).2.2.2.1) ((unS c).2.2.2.2.1) ((unS c).2.2.2.2.2.1) ((unS c).2.2.2.2.2.2)) : ∀ a0 a1 a2 a3 a4 a5 a6, P a0 a1 a2 a3 a4 a5 a6 := by
  have h2 : un7 P (unS c) := h
  rw [hc] at h2
  exact fun a0 a1 a2 a3 a4 a5 a6 => ata_spec h2 (a0, a1, a2, a3, a4, a5, a6)
noncomputable def un8 {α1 α2 α3 α4 α5 α6 α7 α8 : Type} (P : α1 → α2 → α3 → α4 → α5 → α6 → α7 → α8 → Prop) (x : α1 × α2 × α3 × α4 × α5 × α6 × α7 × α8) : Prop := P (x.1) (x.2.1) (x.2.2.1) (x.2.2.2.1) (x.2.2.2.2.1) (x.2.2.2.2.2.1) (x.2.2.2.2.2.2.1) (x.2.2.2.2.2.2.2)
theorem eps8 {α1 α2 α3 α4 α5 α6 α7 α8 : Type} [Nonempty (α1 × α2 × α3 × α4 × α5 × α6 × α7 × α8)] (k : Nat) {P : α1 → α2 → α3 → α4 → α5 → α6 → α7 → α8 → Prop} {c : Syn (α1 × α2 × α3 × α4 × α5 × α6 × α7 × α8)} (i : Box k Syn (un8 P)) (_ : i = ⟨c⟩) (hc : unS c = ata k (un8 P)) (h : P ((unS c).1) ((unS c).2.1) ((unS c).2.2.1) ((unS c).2.2.2.1) ((unS c).2.2.2.2.1) ((unS c).2.2.2.2.2.1) ((unS c).2.2.2.2.2.2.1) ((unS c).2.2.2.2.2.2.2)) : ∀ a0 a1 a2 a3 a4 a5 a6 a7, P a0 a1 a2 a3 a4 a5 a6 a7 := by
  have h2 : un8 P (unS c) := h
  rw [hc] at h2
  exact fun a0 a1 a2 a3 a4 a5 a6 a7 => ata_spec h2 (a0, a1, a2, a3, a4, a5, a6, a7)
end
noncomputable section
noncomputable def Tg {α : Type} (_ : Nat) (_ : α) : Prop := True
theorem tg {α : Type} {k : Nat} {x : α} : Tg k x := trivial
end
noncomputable section
theorem kw_1 : True := by
  k_with_none
  k_with "g1" => refine by_goal fun zG zh => ?_
  k_with "g2" => (refine zh ?_; clear zh zG)
  trivial
noncomputable def decIds : List String := ["bytearray.__contains__", "bytearray.__mod__", "bytearray.__rmod__", "_struct.pack_into.held", "bytearray.find.held"] ++ Builtin.Bytes.decodersThatHold
noncomputable def notDec : Code → Bool
  | .builtin id _ => !decIds.contains id
  | _ => true
noncomputable def NoDec (Γ : PySem.Ctx) : Prop := notDec Γ.code = true ∧ ∀ x ∈ Γ.below, notDec x.1 = true
noncomputable def wpN {α : Type} (M : Model) (A : Around) (t : Sem α) (Q : α → Shared → Prop) (E : Value → Shared → Prop) (s : Shared) : Prop :=
  ∀ Γ p, Γ.In A → NoDec Γ → Sem.wp M Γ t (fun a _ s' => Q a s') (fun e _ s' => E e s') p s
noncomputable def codeN (M : Model) (A : Around) (c : Code) (R : Result → Shared → Prop) (s : Shared) : Prop :=
  ∀ Γ p, Γ.code = c → Γ.Below A → NoDec Γ → wpCode M Γ R p s
section
variable {α β : Type} {M : Model} {A : Around} {E : Value → Shared → Prop} {s : Shared} {env : Env}
theorem wpN_of_any {t : Sem α} {Q : α → Shared → Prop} (h : wpAny M A t Q E s) : wpN M A t Q E s := fun Γ p hΓ _ => h Γ p hΓ
theorem codeN_of_any {c : Code} {R : Result → Shared → Prop} (h : codeAny M A c R s) : codeN M A c R s := fun Γ p hc hΓ _ => h Γ p hc hΓ
theorem wpN_mono {t : Sem α} {Q Q' : α → Shared → Prop} {E' : Value → Shared → Prop} (h : wpN M A t Q E s)
    (hQ : ∀ a s, Q a s → Q' a s) (hE : ∀ e s, E e s → E' e s) : wpN M A t Q' E' s :=
  fun Γ p hΓ hN => Sem.wp_mono M Γ t (fun a _ s => hQ a s) (fun e _ s => hE e s) p s (h Γ p hΓ hN)
theorem codeN_mono {c : Code} {R R' : Result → Shared → Prop} (h : codeN M A c R s) (hR : ∀ r s, R r s → R' r s) : codeN M A c R' s :=
  fun Γ p hc hΓ hN => wpCode_mono hR (h Γ p hc hΓ hN)
theorem wpN_pure {a : α} {Q : α → Shared → Prop} (h : Q a s) : wpN M A (pure a) Q E s := fun _ _ _ _ => h
theorem wpN_bind {m : Sem α} {f : α → Sem β} {Q : β → Shared → Prop} (h : wpN M A m (fun a s' => wpN M A (f a) Q E s') E s) :
    wpN M A (m >>= f) Q E s := fun Γ p hΓ hN => by
  rw [Sem.wp_bind']
  exact Sem.wp_mono M Γ m (fun a p' s' h' => h' Γ p' hΓ hN) (fun _ _ _ h' => h') p s (h Γ p hΓ hN)
theorem wpN_holding {vs : List Value} {m : Sem α} {Q : α → Shared → Prop} (h : wpN M A m Q E s) : wpN M A (holding vs m) Q E s :=
  fun Γ p hΓ hN => by rw [Sem.wp_holding]; exact h Γ p hΓ hN
theorem wpN_onRaise {m : Sem α} {k : Value → Sem Unit} {Q : α → Shared → Prop}
    (h : wpN M A m Q (fun e s' => wpN M A (k e) (fun _ s'' => E e s'') E s') s) : wpN M A (m.onRaise k) Q E s := fun Γ p hΓ hN => by
  rw [Sem.wp_onRaise]
  exact Sem.wp_mono M Γ m (fun _ _ _ h' => h') (fun e p' s' h' => h' Γ p' hΓ hN) p s (h Γ p hΓ hN)
theorem wpN_standAt {pos : Pos} {Q : Unit → Shared → Prop} (h : Q () s) : wpN M A (standAt pos) Q E s := fun _ _ _ _ => h
theorem wpN_point {Q : Unit → Shared → Prop} (h : Q () s) : wpN M A point Q E s := wpN_of_any (wpAny_point h)
theorem wpN_run {c : Code} {h : Option Value} {Q : Flow → Shared → Prop} (hd : notDec c = true)
    (hc : codeN M (A.mark h) c (fun r s' => match r with | .ok f => Q f s' | .error e => E e s') s) (hnb : h ≠ some byPass := by intro x; cases x) :
    wpN M A (run c h) Q E s :=
  fun Γ p hΓ hN => by
    rw [Sem.wp_run]
    exact hc _ p rfl (hΓ.enter c h p hnb) ⟨hd, fun x hx => by
      rcases List.mem_cons.mp hx with rfl | hx
      · exact hN.1
      · exact hN.2 x hx⟩
theorem wpN_runValue {c : Code} {Q : Value → Shared → Prop} (hd : notDec c = true)
    (hc : codeN M A c (fun r s' => match r with | .ok (.ret v) => Q v s' | .ok _ => False | .error e => E e s') s) :
    wpN M A (runValue c) Q E s := fun Γ p hΓ hN => by
  rw [Sem.wp_runValue]
  exact hc _ p rfl (hΓ.enter c none p (by intro x; cases x)) ⟨hd, fun x hx => by
      rcases List.mem_cons.mp hx with rfl | hx
      · exact hN.1
      · exact hN.2 x hx⟩
theorem wpN_call {f : Value} {pos : List Value} {kw : List (Str × Value)} {Q : Value → Shared → Prop}
    (hc : codeN M A (.call f ⟨pos, kw⟩) (fun r s' => match r with | .ok (.ret v) => Q v s' | .ok _ => False | .error e => E e s') s) :
    wpN M A (call f pos kw) Q E s := wpN_runValue rfl hc
theorem codeN_of_tree {c : Code} {R : Result → Shared → Prop} 
    (h : wpN M (A.under c) (M.den c) (fun fin s' => match fin with | .done f => R (.ok f) s' | .again c' => c'.quiet = true ∧ notDec c' = true ∧ codeN M A c' R s')
      (fun e s' => R (.error e) s') s) : codeN M A c R s := fun Γ p hc hΓ hN => by
  rw [wpCode_iff_wp, hc]
  refine Sem.wp_mono M Γ _ (fun fin p' s' h' => ?_) (fun _ _ _ h' => h') p s (h Γ p (hc ▸ hΓ.in) hN)
  cases fin with
  | done f => exact h'
  | again c' => exact ⟨h'.1, h'.2.2 (Γ.goto c') p' rfl (hΓ.goto c') ⟨h'.2.1, hN.2⟩⟩
-- statements
theorem wpN_execs_nil {Q : Flow → Shared → Prop} (h : Q .next s) : wpN M A (execs [] env) Q E s := fun _ _ _ _ => h
theorem wpN_execs_cons {st rest} {Q : Flow → Shared → Prop}
    (h : wpN M A (exec st env) (fun f s' => match f with | .next => wpN M A (execs rest env) Q E s' | f => Q f s') E s) :
    wpN M A (execs (st :: rest) env) Q E s := fun Γ p hΓ hN => by
  rw [execs_cons, Sem.wp_bind']
  refine Sem.wp_mono M Γ _ (fun f p' s' h' => ?_) (fun _ _ _ h' => h') _ _ (h Γ p hΓ hN)
  cases f <;> first | exact h' Γ p' hΓ hN | exact h'
theorem wpN_Return_some {e pos} {Q : Flow → Shared → Prop} (h : wpN M A (eval e env) (fun v => Q (.ret v)) E s) :
    wpN M A (exec (.Return (some e) pos) env) Q E s := fun Γ p hΓ hN => by
  simp only [exec_Return_some, Sem.wp_bind', Sem.wp_cmd_standAt, Sem.wp_pure']; exact h Γ _ hΓ hN
theorem wpN_If {test body orelse pos} {Q : Flow → Shared → Prop}
    (h : wpN M A (isTrue test env (eval test env))
      (fun b s₂ => if b then wpN M A (execs body env) Q E s₂ else wpN M A (execs orelse env) Q E s₂) E s) :
    wpN M A (exec (.If test body orelse pos) env) Q E s := fun Γ p hΓ hN => by
  simp only [exec_If, Sem.wp_bind', Sem.wp_cmd_standAt]
  refine Sem.wp_mono M Γ _ (fun b p₂ s₂ h₂ => ?_) (fun _ _ _ h' => h') _ _ (h Γ _ hΓ hN)
  cases b <;> exact h₂ Γ p₂ hΓ hN
theorem wpN_isTrue_Compare1 {l op r pos whole} {Q : Bool → Shared → Prop}
    (h : wpN M A (eval l env) (fun a s₁ => wpN M A (eval r env) (fun b s₂ => wpN M A (compareOp op a b)
      (fun c s₃ => wpN M A (truthy c) Q E s₃) E s₂) E s₁) E s)
    (hm : behindInMarks op r = false := by with_unfolding_all rfl) : wpN M A (isTrue (.Compare l [op] [r] pos) env whole) Q E s := fun Γ p hΓ hN => by
  simp only [isTrue_Compare1, markedBehindIn_of_false hm, Sem.wp_bind', Sem.wp_holding, Sem.wp_cmd_standAt, Sem.wp_operate]
  exact Sem.wp_mono M Γ _ (fun a p₁ s₁ h₁ => Sem.wp_mono M Γ _ (fun b _ s₂ h₂ => Sem.wp_mono M Γ _ (fun c p₃ s₃ h₃ => h₃ Γ p₃ hΓ hN)
    (fun _ _ _ h' => h') _ _ (h₂ Γ _ hΓ hN)) (fun _ _ _ h' => h') _ _ (h₁ Γ p₁ hΓ hN)) (fun _ _ _ h' => h') _ _ (h Γ p hΓ hN)
theorem wpN_BinOp {l op r pos} {Q : Value → Shared → Prop}
    (h : wpN M A (eval l env) (fun a s₁ => wpN M A (eval r env) (fun b s₂ => wpN M A (binaryOp op a b) Q E s₂) E s₁) E s) :
    wpN M A (eval (.BinOp l op r pos) env) Q E s := fun Γ p hΓ hN => by
  simp only [eval_BinOp, Sem.wp_bind', Sem.wp_holding, Sem.wp_cmd_standAt, Sem.wp_operate]
  exact Sem.wp_mono M Γ _ (fun a p₁ s₁ h₁ => Sem.wp_mono M Γ _ (fun b _ s₂ h₂ => h₂ Γ _ hΓ hN) (fun _ _ _ h' => h') _ _ (h₁ Γ p₁ hΓ hN))
    (fun _ _ _ h' => h') _ _ (h Γ p hΓ hN)
theorem wpN_Assign_Name {x pos' value pos} {Q : Flow → Shared → Prop}
    (h : wpN M A (eval value env) (fun v s₁ => wpN M A (storeName env x v) (fun _ => Q .next) E s₁) E s)
    (hs : swapsWith value (some (.Name x pos')) pos.line env = pure false := by rfl) :
    wpN M A (exec (.Assign [.Name x pos'] value pos) env) Q E s := fun Γ p hΓ hN => by
  simp only [exec_Assign_Name env x pos' value pos hs, Sem.wp_bind', Sem.wp_cmd_standAt, Sem.wp_bindName, Sem.wp_pure']
  exact Sem.wp_mono M Γ _ (fun v _ s₁ h₁ => h₁ Γ _ hΓ hN) (fun _ _ _ h' => h') _ _ (h Γ _ hΓ hN)
theorem wpN_AugAssign_Name {x pos' op value pos} {Q : Flow → Shared → Prop}
    (h : wpN M A (loadName env x) (fun old s₁ => wpN M A (eval value env) (fun v s₂ => wpN M A (inplaceOp op old v)
      (fun r s₃ => wpN M A (storeName env x r) (fun _ => Q .next) E s₃) E s₂) E s₁) E s) :
    wpN M A (exec (.AugAssign (.Name x pos') op value pos) env) Q E s := fun Γ p hΓ hN => by
  simp only [exec_AugAssign_Name, Sem.wp_bind', Sem.wp_holding, Sem.wp_cmd_standAt, Sem.wp_operate, Sem.wp_bindName, Sem.wp_pure']
  exact Sem.wp_mono M Γ _ (fun old p₁ s₁ h₁ => Sem.wp_mono M Γ _ (fun v _ s₂ h₂ => Sem.wp_mono M Γ _ (fun r _ s₃ h₃ => h₃ Γ _ hΓ hN)
    (fun _ _ _ h' => h') _ _ (h₂ Γ _ hΓ hN)) (fun _ _ _ h' => h') _ _ (h₁ Γ p₁ hΓ hN)) (fun _ _ _ h' => h') _ _ (h Γ _ hΓ hN)
end
section
variable {prog : Program} {w : World} {A : Around} {E : Value → Shared → Prop} {s : Shared} {R : Result → Shared → Prop}
theorem codeN_func {body env}
    (h : wpN (model prog w) (A.deeper env) (execs body env) (fun f s' => R (.ok (.ret (match f with | .ret v => v | _ => .none))) s')
      (fun e s' => wpN (model prog w) (A.deeper env) (leaving env e) (fun _ s'' => R (.error e) s'') (fun e' s'' => R (.error e') s'') s') s) :
    codeN (model prog w) A (.func body env) R s := by
  refine codeN_of_tree ?_
  show wpN _ (A.deeper env) (do point; match ← (execs body env).onRaise (leaving env) with | .ret v => ret v | _ => ret .none) _ _ s
  refine wpN_bind (wpN_point (wpN_bind (wpN_onRaise (wpN_mono h (fun f s' h' => ?_) fun _ _ h' => h'))))
  cases f <;> exact wpN_pure h'
theorem codeN_call_function {a : Addr} {args : Args} {o : Obj} {fd : FuncData} {body : List Stmt} (hroom : A.depth < recursionLimit)
    (ho : s.heap.get? a = some o)
    (hd' : o.data = .func fd) (hco : fd.scope.isCoroutine = false) (hgen : fd.scope.isGenerator = false) (hbody : fd.body = .stmts body) (hcd : s.heap.CodeRec fd.code fd.qualname)
    (h : wpAny (model prog w) A.in1 (bindArgs fd args) (fun binds s₁ =>
      wpAny (model prog w) A.in1 (newFunctionEnv fd.scope fd.globals fd.closure binds (fd.qualname ++ ".<locals>.") (some a) fd.code none fd.builtins)
        (fun env s₂ => s₂.heap.NoLimit ∧ codeN (model prog w) A (.func body env) R s₂) (fun e s' => R (.error e) s') s₁) (fun e s' => R (.error e) s') s) :
    codeN (model prog w) A (.call (.ref a) args) R s := by
  refine codeN_of_tree ?_
  show wpN _ A.in1 (callAny (.ref a) args) _ _ s
  refine wpN_of_any ?_
  refine wpAny_bind (wpAny_load ho ?_)
  k_extra "g1"
  obtain ⟨c, oc, vs, tq, hc, hoc, hdc, hq⟩ := hcd
  k_extra "g2"
  rw [hd']
  dsimp only
  unfold callFunction
  rw [hbody, hco, hgen, hc]
  dsimp only
  rw [hc] at h
  refine wpAny_bind (m := field (.ref c) 1) (wpAny_field hoc hdc hq (wpAny_bind (wpAny_pure ?_)))
  exact wpAny_bind (wpAny_mono h (fun binds s₁ h₁ => wpAny_bind (wpAny_mono h₁ (fun env s₂ h₂ => wpAny_bind (wpAny_enterFrame h₂.1 hroom
    (wpAny_pure (And.intro rfl (And.intro rfl h₂.2))))) fun _ _ h' => h')) fun _ _ h' => h')
theorem codeN_call_def {a : Addr} {o : Obj} {fd : FuncData} {body : List Stmt} {args : Args} {binds : List (Str × Value)}
    (hroom : A.depth < recursionLimit) (ho : s.heap.get? a = some o) (hdata : o.data = .func fd) (hlim : s.heap.NoLimit) (hcd : s.heap.CodeRec fd.code fd.qualname)
    (hbody : fd.body = .stmts body) (hbind : BindsTo s fd args binds)
    (hcell : ∀ x ∈ fd.scope.names, x.2 ≠ .cell) (hloc : ∀ x ∈ binds, fd.scope.names.lookup x.1 = some .local)
    (h : ∀ h₀, h₀.Ns s.heap.objs.size (fun x => binds.reverse.lookup x) → (∀ b o, s.heap.get? b = some o → h₀.get? b = some o) →
      wpN (model prog w) (A.deeper (callEnv fd s.heap.objs.size a)) (execs body (callEnv fd s.heap.objs.size a)) (fun f s' => R (.ok (.ret (match f with | .ret v => v | _ => .none))) s')
        (fun e s' => wpN (model prog w) (A.deeper (callEnv fd s.heap.objs.size a)) (leaving (callEnv fd s.heap.objs.size a) e) (fun _ s'' => R (.error e) s'') (fun e' s'' => R (.error e') s'') s')
        { s with heap := h₀, toks := s.toks + binds.length })
    (hco : fd.scope.isCoroutine = false := by rfl) (hgen : fd.scope.isGenerator = false := by rfl) (hk : fd.scope.kind = .function := by rfl) :
    codeN (model prog w) A (.call (.ref a) args) R s := by
  refine codeN_call_function hroom ho hdata hco hgen hbody hcd (hbind _ _ _ _ ?_)
  refine wpAny_newFunctionEnv hcell hloc (fun h₀ hns₀ hsb₀ => ⟨hlim.fresh _ hsb₀, codeN_func (h h₀ hns₀ fun b o e => ?_)⟩) hk
  exact hsb₀.extBut b o (Nat.ne_of_lt (Heap.lt_size e)) (Heap.get?_push_of_some _ e)
end
end
noncomputable section
set_option linter.deprecated false
theorem kw_2 : True := by
  k_with_none
  k_with "g1" => refine by_goal fun zG zh => ?_
  k_with "g2" => (refine zh ?_; clear zh zG)
  trivial
theorem dec_ids {id : String} {args : Args} (h : notDec (.builtin id args) = true) : decIds.contains id = false := by
  have h : (!decIds.contains id) = true := h
  rwa [Bool.not_eq_true'] at h
theorem dec_no {id : String} {args : Args} (h : notDec (.builtin id args) = true) : Builtin.Bytes.decodersThatHold.contains id = false := by
  have h := dec_ids h
  unfold decIds at h
  rw [List.contains_eq_any_beq, List.any_append, Bool.or_eq_false_iff] at h
  rw [List.contains_eq_any_beq]; exact h.2
theorem dec_ne {id x : String} {args : Args} (h : notDec (.builtin id args) = true) (hx : decIds.contains x = true) : id ≠ x := fun e => by
  rw [← e, dec_ids h] at hx; cases hx
theorem wpN_exported {M : Model} {A : Around} {E : Value → Shared → Prop} {s : Shared} {self : Value} {Q : Bool → Shared → Prop} (h : Q false s) : wpN M A (Builtin.Bytes.exported self) Q E s := fun Γ p _ hN => by
  unfold Builtin.Bytes.exported
  rw [Sem.wp_bind']
  show Sem.wp M Γ (.stack .pure) _ _ p s
  rw [Sem.wp_stack, Sem.wp_pure, Sem.wp_pure']
  refine cast (congrArg (fun b => Q b s) (Eq.symm ?_)) h
  rw [List.any_eq_false]
  rintro ⟨c, q⟩ hx
  have h : notDec c = true := by
    rcases List.mem_cons.mp hx with h1 | h1
    · cases h1; exact hN.1
    · exact hN.2 _ h1
  rw [Bool.not_eq_true]
  clear hx
  cases c with
  | builtin id args =>
    obtain ⟨pos, kw⟩ := args
    have h1 := dec_ne (x := "bytearray.__contains__") h (by decide +kernel)
    have h2 := dec_ne (x := "bytearray.__mod__") h (by decide +kernel)
    have h3 := dec_ne (x := "bytearray.__rmod__") h (by decide +kernel)
    have h4 := dec_ne (x := "_struct.pack_into.held") h (by decide +kernel)
    have h5 := dec_ne (x := "bytearray.find.held") h (by decide +kernel)
    delta Builtin.Bytes.exported.match_1
    refine (dif_neg h1).trans ?_
    refine (dif_neg h2).trans ?_
    refine (dif_neg h3).trans ?_
    refine (dif_neg h4).trans ?_
    refine (dif_neg h5).trans ?_
    cases pos with
    | nil => rfl
    | cons v t => exact (congrArg (_ && ·) (dec_no h)).trans (Bool.and_false _)
  | _ => rfl
theorem lk_ba_release : typeLookup (.type "bytearray") (Str.ofString "__release_buffer__") = pure (some (.builtin "bytearray.__release_buffer__")) := by rw [typeLookup_type, builtinLookup_eq_fast]; kernel_rfl
theorem lk_int_index : typeLookup (.type "int") (Str.ofString "__index__") = pure (some (.builtin "int.__index__")) := by rw [typeLookup_type, builtinLookup_eq_fast]; kernel_rfl
theorem sub_ba : isSubtype (.type "bytearray") (.type "bytearray") = pure true := by rw [isSubtype_type]; kernel_rfl
theorem typeIs_ba {s : Shared} {a : Addr} {b : Array UInt8} (ha : s.heap.get? a = some ⟨.type "bytearray", none, .bytearray b 0, #[]⟩) : s.TypeIs (.ref a) "bytearray" := ⟨_, ha, rfl⟩
theorem ownRelease_ba {M : Model} {A : Around} {E : Value → Shared → Prop} {Q : Bool → Shared → Prop} {s : Shared} {a : Addr} {b : Array UInt8} 
   (ha : s.heap.get? a = some ⟨.type "bytearray", none, .bytearray b 0, #[]⟩) (h : Q false s) : wpAny M A (Builtin.Bytes.ownRelease (.ref a)) Q E s := by
  have hT := typeIs_ba ha
  have h1 := lk_ba_release
  have h2 := sub_ba
  have h3 : ("bytearray.__release_buffer__".endsWith ("." ++ "__release_buffer__")) = true := by decide +kernel
  have h4 : ("bytearray.__release_buffer__".dropRight ("__release_buffer__".length + 1)) = "bytearray" := by decide +kernel
  unfold Builtin.Bytes.ownRelease Builtin.Bytes.slotIsOwn
  wp_walk
  rw [h3, h4]
  wp_walk
  exact h
theorem bindOpt_1 (x : Value) : Builtin.Bytes.bindOptional "bytearray.__init__" "bytearray" ["source", "encoding", "errors"] [x] [] = pure [some x, none, none] := by
  first | rfl | kernel_rfl
theorem write_ba {M : Model} {A : Around} {E : Value → Shared → Prop} {Q : Unit → Shared → Prop} {s : Shared} {a : Addr} {b : Array UInt8} {f : Array UInt8 → Array UInt8} (hf : (f b).size ≤ 64)
   (ha : s.heap.get? a = some ⟨.type "bytearray", none, .bytearray b 0, #[]⟩) (h : ∀ h', h'.get? a = some ⟨.type "bytearray", none, .bytearray (f b) 0, #[]⟩ → Heap.SameBut a s.heap h' → Q () { s with heap := h' }) : wpAny M A (Builtin.Bytes.write (.ref a) f) Q E s := by
  have ha' : (s.heap.update a (Obj.mapBytearray f)).get? a = some ⟨.type "bytearray", none, .bytearray (f b) 0, #[]⟩ := Heap.get?_update_self _ ha rfl
  show wpAny M A (updateBytearray a f) Q E s
  unfold updateBytearray
  refine wpAny_bind (wpAny_load ha ?_)
  dsimp only
  refine wpAny_bind (wpAny_update ha ?_)
  refine wpAny_lookBehind ha' ?_ (h _ ha' (Heap.SameBut.update ..))
  show (if (f b).size > sizeLine then _ else _) = none
  rw [if_neg]
  rw [sizeLine_eq]; lia
namespace init_N
noncomputable def St0 (prog : Program) (w : World) (A : Around) (E : Value → Shared → Prop) (Q : PySem.Fin → Shared → Prop) (s : Shared) (a : Addr) (n : Int) (tk : Tok) : Prop := ∀ (h0 : 0 < n) (h1 : n ≤ 64) (ha : s.heap.get? a = some ⟨.type "bytearray", none, .bytearray #[] 0, #[]⟩) (hQ : ∀ h', h'.get? a = some ⟨.type "bytearray", none, .bytearray (Array.replicate n.toNat 0) 0, #[]⟩ → Heap.SameBut a s.heap h' → Q (.done (.ret .none)) { s with heap := h' }),
   wpN (model prog w) A (Builtin.«bytearray.__init__» ⟨[.ref a, .int n tk], []⟩) Q E s
noncomputable abbrev Ty0 : Type := (Program) × (World) × (Around) × (Value → Shared → Prop) × (PySem.Fin → Shared → Prop) × (Shared) × (Addr) × (Int) × (Tok)
theorem ne0 : Nonempty Ty0 := ⟨Classical.choice inferInstance, Classical.choice neW, Classical.choice neA, Classical.choice inferInstance, Classical.choice inferInstance, Classical.choice neS, Classical.choice inferInstance, Classical.choice inferInstance, Classical.choice inferInstance⟩
noncomputable def P0 (vv0 : Ty0) : Prop := St0 (vv0.1) (vv0.2.1) (vv0.2.2.1) (vv0.2.2.2.1) (vv0.2.2.2.2.1) (vv0.2.2.2.2.2.1) (vv0.2.2.2.2.2.2.1) (vv0.2.2.2.2.2.2.2.1) (vv0.2.2.2.2.2.2.2.2)
@[irreducible] def vv0 : Ty0 := @ata _ ne0 0 P0
@[irreducible] def w : World := vv0.2.1
@[irreducible] def A : Around := vv0.2.2.1
@[irreducible] def Q : PySem.Fin → Shared → Prop := vv0.2.2.2.2.1
@[irreducible] def s : Shared := vv0.2.2.2.2.2.1
@[irreducible] def a : Addr := vv0.2.2.2.2.2.2.1
@[irreducible] def n : Int := vv0.2.2.2.2.2.2.2.1
theorem prf0 : St0 (vv0.1) w A (vv0.2.2.2.1) Q s a n (vv0.2.2.2.2.2.2.2.2) := by
  intro h0 h1 ha hQ
  unfold Builtin.«bytearray.__init__»
  dsimp only
  refine wpN_bind (wpN_of_any (ownRelease_ba ha ?_))
  rw [if_neg (by decide)]
  rw [bindOpt_1]
  rw [pure_bind]
  dsimp only
  refine wpN_bind (wpN_of_any (wpAny_pure ?_))
  refine wpN_bind (wpN_of_any (wpAny_pure ?_))
  refine wpN_bind (wpN_bind (wpN_exported ?_))
  refine wpN_of_any ?_
  dsimp only [toBool]
  have hT := typeIs_ba ha
  have hi := lk_int_index
  unfold Builtin.Bytes.exportsOf
  wp_walk
  refine wpN_of_any ?_
  rw [if_neg (by decide)]
  refine wpAny_bind (write_ba (by simp) ha fun h₁ ha₁ sb₁ => ?_)
  have hf : Builtin.Bytes.fitsIndex n = true := by unfold Builtin.Bytes.fitsIndex; simp; lia
  have ht : Builtin.Bytes.tooLong n.toNat = false := by unfold Builtin.Bytes.tooLong; simp [sizeLine_eq]; lia
  have hn : ¬ n < 0 := by lia
  have hm : (n == 2 ^ 63 - 1) = false := by simp; lia
  have hp : n > 0 := h0
  wp_walk
  rw [if_neg (by rw [hm]; decide), if_neg (by rw [ht]; decide)]
  refine wpAny_bind (wpAny_rule ?_)
  rw [if_pos hp]
  refine wpAny_bind (write_ba (by simp; lia) ha₁ fun h₂ ha₂ sb₂ => ?_)
  wp_walk
  exact hQ _ ha₂ (sb₁.trans sb₂)
end init_N
theorem init_N {prog : Program} {w : World} {A : Around} {E : Value → Shared → Prop} {Q : PySem.Fin → Shared → Prop} {s : Shared} {a : Addr} {n : Int} {tk : Tok} : init_N.St0 prog w A E Q s a n tk :=
  @ata_spec _ init_N.ne0 0 init_N.P0 (by with_unfolding_all exact init_N.prf0) (prog, w, A, E, Q, s, a, n, tk)
theorem mro_ba : mroOf (.type "bytearray") = pure [.type "bytearray", .type "object"] := by rw [mroOf_type]; kernel_rfl
theorem lk_ba_new : typeLookup (.type "bytearray") (Str.ofString "__new__") = pure (some (.builtin "bytearray.__new__")) := by rw [typeLookup_type, builtinLookup_eq_fast]; kernel_rfl
theorem lk_ba_init : typeLookup (.type "bytearray") (Str.ofString "__init__") = pure (some (.builtin "bytearray.__init__")) := by rw [typeLookup_type, builtinLookup_eq_fast]; kernel_rfl
theorem madeBy_ba : Bind.madeBy (.type "bytearray") = pure (some "bytearray.__new__") := madeBy_type mro_ba lk_ba_new (by decide +kernel)
theorem typeCall_ba (a : Value) : checkTypeCall "bytearray" ⟨[a], []⟩ = pure () := by kernel_rfl
theorem newCall_ba (a : Value) : checkBuiltinCall "bytearray.__new__" ⟨[.type "bytearray", a], []⟩ = pure () := by kernel_rfl
theorem entry_ba_new : entryFor table "bytearray.__new__" = some Builtin.«list.__new__» := entryFor_alias (id' := "list.__new__") (by kernel_rfl) (by decide +kernel) (by decide +kernel) (by kernel_rfl)
theorem entry_ba_init : entryFor table "bytearray.__init__" = some Builtin.«bytearray.__init__» := entryFor_of_tree (by kernel_rfl)
theorem plain_ba_new : plainId "bytearray.__new__" = true := by decide +kernel
theorem plain_ba_init : plainId "bytearray.__init__" = true := by decide +kernel
set_option maxRecDepth 1000000 in
set_option maxHeartbeats 4000000 in
theorem owner_ba_new : ("bytearray.__new__".splitOn ".__new__").headD "" = "bytearray" := by rw [PySem.W.splitQ_eq]; decide +kernel
section
variable {prog : Program} {w : World} {A : Around} {E : Value → Shared → Prop} {s : Shared}
theorem code_ba_new (x : Value) {Q₁ : Value → Shared → Prop}
    (h : Q₁ (.ref s.heap.objs.size) { s with heap := s.heap.push { cls := .type "bytearray", data := .bytearray #[] } }) :
    codeAny (model prog w) A (.call (.builtin "bytearray.__new__") ⟨[.type "bytearray", x], []⟩) (wants Q₁ E) s := by
  refine codeAny_of_tree ?_
  show wpAny _ A.in1 (do checkBuiltinCall "bytearray.__new__" ⟨[.type "bytearray", x], []⟩; again (.builtin "bytearray.__new__" ⟨[.type "bytearray", x], []⟩)) _ _ s
  refine wpAny_bind (wpAny_of_eq (newCall_ba x) (wpAny_pure ⟨plainId_quiet plain_ba_new _, codeAny_builtin_stack entry_ba_new rfl fun p st => ?_⟩))
  rw [Around.under_plainId plain_ba_new _]
  have hsub := sub_ba
  have hown := owner_ba_new
  k_extra "g1"
  obtain ⟨hp, g, d, tk, os⟩ := s
  k_extra "g2"
  dsimp only
  rw [hown]
  wp_walk
  exact h
end
theorem tree_ba (x : Value) : Builtin.«type.__call__» ⟨[.type "bytearray", x], []⟩ = (do
      let obj ← holding [Value.builtin "bytearray.__new__"] (call (Value.builtin "bytearray.__new__") [Value.type "bytearray", x])
      let b ← isInstance obj (Value.type "bytearray")
      if (!b) = true then do
          rule "type.call.new-gave-other-type"
          ret obj
        else do
          let m ← holding [obj] (callSpecial? obj (Str.ofString "__init__") [x])
          match m with
            | none => ret obj
            | some r =>
              if (r != Value.none) = true then do
                rule "type.call.init-returned-value"
                raiseError "TypeError" s!"__init__() should return None, not '{← PySem.typeNameOf r}'"
                ret obj
              else ret obj) := by
  have h1 : (Value.type "bytearray" == Value.type "type") = false := by decide +kernel
  have h2 : ((Manifest.find? "bytearray").bind (·.mro.findSome? fun t => (Manifest.find? t).bind fun b => if b.noNew then some true else if b.attrs.any (·.1 == "__new__") then some false else none)).getD false = false := by decide +kernel
  unfold Builtin.«type.__call__»
  dsimp only
  rw [if_neg (by rw [h1]; decide), if_neg (by rw [h2]; decide)]
  rw [typeCall_ba, pure_bind, mro_ba, pure_bind, madeBy_ba, pure_bind]
  dsimp only
  rw [if_neg (by decide)]
  rfl
theorem slot_ba_init : Slot "bytearray" (Str.ofString "__init__") "bytearray.__init__" :=
  .of (owner := "bytearray") (n := "__init__") lk_ba_init (by decide +kernel) (by decide +kernel) (by decide +kernel)
    (by first | exact .inl (by decide +kernel) | exact .inr (by decide +kernel)) sub_ba
theorem args_ba_init (a b : Value) : argsOk "bytearray.__init__" ⟨[a, b], []⟩ := by
  unfold argsOk; kernel_rfl
theorem wpN_callSpecial_ba {prog : Program} {w : World} {A : Around} {E : Value → Shared → Prop} {s : Shared} {a : Addr} {x : Value} {Q : Option Value → Shared → Prop} (hT : s.TypeIs (.ref a) "bytearray")
   (h : wpN (model prog w) A (call (.builtin "bytearray.__init__") [.ref a, x]) (fun v s' => Q (some v) s') E s) : wpN (model prog w) A (callSpecial? (.ref a) (Str.ofString "__init__") [x]) Q E s := by
  have hl := lk_ba_init
  unfold callSpecial?
  refine wpN_bind (wpN_of_any (wpAny_specialOf hT hl ?_))
  dsimp only
  refine wpN_holding ?_
  have hb : bindSpecial (.builtin "bytearray.__init__") (.ref a) = pure (.builtin "bytearray.__init__", [.ref a]) := by
    exact slot_ba_init.bind _
  rw [hb, pure_bind]
  exact wpN_bind (wpN_mono h (fun v s' q => wpN_pure q) fun _ _ q => q)
end
noncomputable section
section
variable {prog : Program} {w : World} {A : Around} {E : Value → Shared → Prop} {s : Shared} {R : Result → Shared → Prop}
theorem codeN_builtin {id : String} {args : Args} {b : Builtin} (hb : entryFor table id = some b)
    (h : wpN (model prog w) (A.under (.builtin id args)) (b args)
      (fun fin s' => match fin with | .done f => R (.ok f) s' | .again c' => c'.quiet = true ∧ notDec c' = true ∧ codeN (model prog w) A c' R s') (fun e s' => R (.error e) s') s) :
    codeN (model prog w) A (.builtin id args) R s := by
  refine codeN_of_tree ?_
  show wpN _ _ (match entryFor table id with | some b => b args | none => unsupported ((withoutEnding? id "#data").getD id)) _ _ s
  rw [hb]; exact h
theorem call_init_N {a : Addr} {n : Int} {tk : Tok} (h0 : 0 < n) (h1 : n ≤ 64) {Q : Value → Shared → Prop}
   (ha : s.heap.get? a = some ⟨.type "bytearray", none, .bytearray #[] 0, #[]⟩) 
   (hQ : ∀ h', h'.get? a = some ⟨.type "bytearray", none, .bytearray (Array.replicate n.toNat 0) 0, #[]⟩ → Heap.SameBut a s.heap h' → Q .none { s with heap := h' }) :
   wpN (model prog w) A (call (.builtin "bytearray.__init__") [.ref a, .int n tk]) Q E s := by
  refine wpN_call (codeN_of_tree ?_)
  show wpN _ A.in1 (do checkBuiltinCall "bytearray.__init__" ⟨[.ref a, .int n tk], []⟩; again (.builtin "bytearray.__init__" ⟨[.ref a, .int n tk], []⟩)) _ _ s
  refine wpN_bind (wpN_of_any (slot_ba_init.check _ _ _ _ _ _ _ _ (typeIs_ba ha) (args_ba_init _ _) ?_))
  refine wpN_pure ⟨plainId_quiet plain_ba_init _, by (show (!decIds.contains "bytearray.__init__") = true; decide +kernel), codeN_builtin entry_ba_init (init_N h0 h1 ha fun h' e1 e2 => ?_)⟩
  exact hQ h' e1 e2
theorem notDec_type (args : Args) : notDec (.builtin "type.__call__" args) = true := by
  show (!decIds.contains "type.__call__") = true
  decide +kernel
theorem call_bytearray_N {n : Int} {tk : Tok} (h0 : 0 < n) (h1 : n ≤ 64) {Q : Value → Shared → Prop}
   (hQ : ∀ h', h'.get? s.heap.objs.size = some ⟨.type "bytearray", none, .bytearray (Array.replicate n.toNat 0) 0, #[]⟩ → (∀ b o, s.heap.get? b = some o → h'.get? b = some o) → Q (.ref s.heap.objs.size) { s with heap := h' }) :
   wpN (model prog w) A (call (.type "bytearray") [.int n tk]) Q E s := by
  refine wpN_call (codeN_of_tree ?_)
  show wpN _ _ (callAny (.type "bytearray") _) _ _ _
  refine wpN_pure ⟨Code.quiet_builtin _ (by decide +kernel), notDec_type _, codeN_builtin F.entry_type_call ?_⟩
  show wpN _ _ (Builtin.«type.__call__» ⟨[.type "bytearray", .int n tk], []⟩) _ _ _
  rw [tree_ba, Around.under_plain (weight_type_call_type "bytearray" _ []) rfl]
  refine wpN_bind (wpN_holding (wpN_of_any (wpAny_call (codeAny_mono (code_ba_new (E := E) (Q₁ := fun v s' => v = .ref s.heap.objs.size ∧ s' = { s with heap := s.heap.push { cls := .type "bytearray", data := .bytearray #[] } }) (.int n tk) ⟨rfl, rfl⟩) fun r s₁ hr => ?_))))
  cases r with
  | error e => exact hr
  | ok fl =>
    cases fl with
    | ret obj =>
      obtain ⟨rfl, rfl⟩ : obj = .ref s.heap.objs.size ∧ s₁ = _ := hr
      have ha : (s.heap.push { cls := .type "bytearray", data := .bytearray #[] }).get? s.heap.objs.size = some ⟨.type "bytearray", none, .bytearray #[] 0, #[]⟩ := Heap.get?_push_size _ rfl
      have hT := typeIs_ba (s := { s with heap := s.heap.push { cls := .type "bytearray", data := .bytearray #[] } }) ha
      refine wpN_bind (wpN_of_any (wpAny_isInstance hT sub_ba ?_))
      rw [if_neg (by decide)]
      refine wpN_bind (wpN_holding (wpN_callSpecial_ba hT (call_init_N h0 h1 ha fun h' e1 e2 => ?_)))
      dsimp only
      rw [if_neg (by decide)]
      refine wpN_pure ?_
      exact hQ h' e1 fun b o e => (e2.2 b (Nat.ne_of_lt (Heap.lt_size e))).trans (Heap.get?_push_of_some _ e)
    | _ => exact hr.elim
end
end
noncomputable section
section
local macro_rules | `(tactic| o_head $_) => `(tactic| skip)
theorem mkK (h : PySem.Challenge.rw_pf0272_01.row.Holds) : PySem.Challenge.rw_pf0272_01.row.Holds := by
  k_head
  exact h
end
end
noncomputable section
set_option maxRecDepth 1000000
set_option maxHeartbeats 0
noncomputable section
noncomputable def tb0 : Obj := { cls := Value.none, data := Data.fields #[] }
noncomputable def fnRaw (o : Obj) : Obj := match o.data with
  | .func f => { cls := .none, data := .func { name := f.name, qualname := f.qualname, params := f.params, body := f.body, scope := f.scope, globals := 0, closure := [], defaults := .none, kwdefaults := .none } }
  | _ => o
noncomputable def lack (P : Params) : List (Option Obj) :=
  [some (boot_o_0 P),
   some (boot_o_1 P),
   some (boot_o_4 P),
   some (boot_o_5 P),
   some (boot_o_6 P),
   some (boot_o_7 P),
   some (boot_o_8 P),
   some (boot_o_9 P),
   some (boot_o_10 P),
   some { cls := Value.type "tuple", data := Data.seq #[] },
   some { cls := Value.none, data := Data.fields #[Value.int 1 0, Value.int 0 0, Value.ref 20, Value.int 6 0, Value.int 0 0, Value.ref 27, Value.int 41 0, Value.int 0 0, Value.ref 48, Value.int 49 0, Value.int 0 0, Value.ref 55, Value.int 54 0, Value.int 0 0, Value.ref 62, Value.int 63 0, Value.int 0 0, Value.ref 68, Value.int 65 0, Value.int 0 0, Value.ref 75, Value.int 67 0, Value.int 0 0, Value.ref 82, Value.int 74 0, Value.int 0 0, Value.ref 89, Value.int 79 0, Value.int 0 0, Value.ref 96, Value.int 84 0, Value.int 0 0, Value.ref 103, Value.int 87 0, Value.int 0 0, Value.ref 110, Value.int 92 0, Value.int 0 0, Value.ref 117, Value.int 105 0, Value.int 0 0, Value.ref 124, Value.int 123 0, Value.int 0 0, Value.ref 131, Value.int 127 0, Value.int 0 0, Value.ref 139, Value.int 129 0, Value.int 0 0, Value.ref 146, Value.int 133 0, Value.int 0 0, Value.ref 153, Value.int 141 0, Value.int 0 0, Value.ref 160, Value.int 151 0, Value.int 0 0, Value.ref 167, Value.int 162 0, Value.int 0 0, Value.ref 172, Value.int 174 0, Value.int 0 0, Value.ref 177, Value.int 185 0, Value.int 0 0, Value.ref 184, Value.int 261 0, Value.int 0 0, Value.ref 329, Value.int 266 0, Value.int 0 0, Value.ref 334, Value.int 268 0, Value.int 0 0, Value.ref 339, Value.int 277 0, Value.int 0 0, Value.ref 346, Value.int 282 0, Value.int 0 0, Value.ref 351, Value.int 306 0, Value.int 0 0, Value.ref 356] },
   some { cls := Value.type "code", data := Data.fields #[Value.str (Str.ofString "<module>") 182, Value.str (Str.ofString "<module>") 183, Value.str (Str.ofString "/claim/cut.py") 184, Value.int 1 0, Value.int 0 0, Value.int 0 0, Value.int 0 0, Value.int 0 0, Value.ref 11, Value.bool false, Value.int 181 0, Value.ref 12, Value.none, Value.none, Value.none, Value.none, Value.int 185 0, Value.int 1 0, Value.str (Str.ofString "/claim/cut.py") 186] },
   some { cls := Value.type "frame", slots := #[some (Value.ref 13), some (Value.ref 3), some (Value.ref 3), none, some (Value.str (Str.ofString "__main__") 164), none, some (Value.ref 0)] },
   some tb0,
   none,
   some { cls := Value.type "builtin_function_or_method", data := Data.fields #[Value.builtin "type.__prepare__", Value.type "type"] },
   some { cls := Value.type "dict", data := Data.dict #[{ hash := PyData.keyHash P (Str.ofString "__module__"), key := Value.str (Str.ofString "__module__") 205, val := Value.str (Str.ofString "quic.errors") 194 }, { hash := PyData.keyHash P (Str.ofString "__qualname__"), key := Value.str (Str.ofString "__qualname__") 207, val := Value.str (Str.ofString "QuicError") 206 }, { hash := PyData.keyHash P (Str.ofString "__firstlineno__"), key := Value.str (Str.ofString "__firstlineno__") 209, val := Value.int 6 208 }, { hash := PyData.keyHash P (Str.ofString "__init__"), key := Value.str (Str.ofString "__init__") 219, val := Value.ref 35 }, { hash := PyData.keyHash P (Str.ofString "__static_attributes__"), key := Value.str (Str.ofString "__static_attributes__") 223, val := Value.ref 36 }] 5 },
   some { cls := Value.type "tuple", data := Data.seq #[] },
   some { cls := Value.none, data := Data.fields #[Value.int 8 0, Value.int 4 0, Value.ref 34] },
   some { cls := Value.type "code", data := Data.fields #[Value.str (Str.ofString "QuicError") 200, Value.str (Str.ofString "QuicError") 201, Value.str (Str.ofString "/claim/cut.py") 202, Value.int 6 0, Value.int 0 0, Value.int 0 0, Value.int 0 0, Value.int 0 0, Value.ref 25, Value.bool false, Value.int 181 0, Value.ref 26, Value.none, Value.none, Value.none, Value.none, Value.int 203 0, Value.int 6 0, Value.str (Str.ofString "/claim/cut.py") 204] },
   some { cls := Value.type "frame", slots := #[some (Value.ref 27), some (Value.ref 3), some (Value.ref 24), none, some (Value.str (Str.ofString "quic.errors") 194), none, some (Value.ref 0)] },
   some tb0,
   none,
   some { cls := Value.type "super", data := Data.fields #[Value.ref 38, Value.ref 38, Value.ref 38] },
   some { cls := Value.type "builtin_function_or_method", data := Data.fields #[Value.builtin "object.__init_subclass__", Value.ref 38] },
   some tb0,
   none,
   some tb0,
   none,
   some tb0,
   none,
   some tb0,
   none,
   some tb0,
   none,
   some tb0,
   none,
   some tb0,
   none,
   some tb0,
   none,
   some tb0,
   none,
   some tb0,
   none,
   some tb0,
   none,
   some tb0,
   none,
   some tb0,
   none,
   some tb0,
   none,
   some tb0,
   none,
   some tb0,
   none,
   some tb0,
   none,
   some tb0,
   none,
   some tb0,
   none,
   some tb0,
   none,
   some { cls := Value.type "tuple", data := Data.seq #[] },
   some { cls := Value.type "builtin_function_or_method", data := Data.fields #[Value.builtin "type.__prepare__", Value.type "type"] },
   some { cls := Value.type "dict", data := Data.dict #[{ hash := PyData.keyHash P (Str.ofString "__module__"), key := Value.str (Str.ofString "__module__") 519, val := Value.str (Str.ofString "quic.spaces") 510 }, { hash := PyData.keyHash P (Str.ofString "__qualname__"), key := Value.str (Str.ofString "__qualname__") 521, val := Value.str (Str.ofString "Space") 520 }, { hash := PyData.keyHash P (Str.ofString "__firstlineno__"), key := Value.str (Str.ofString "__firstlineno__") 523, val := Value.int 185 522 }, { hash := PyData.keyHash P (Str.ofString "__init__"), key := Value.str (Str.ofString "__init__") 531, val := Value.ref 192 }, { hash := PyData.keyHash P (Str.ofString "is_known"), key := Value.str (Str.ofString "is_known") 539, val := Value.ref 199 }, { hash := PyData.keyHash P (Str.ofString "on_received"), key := Value.str (Str.ofString "on_received") 550, val := Value.ref 206 }, { hash := PyData.keyHash P (Str.ofString "ack_frame"), key := Value.str (Str.ofString "ack_frame") 559, val := Value.ref 213 }, { hash := PyData.keyHash P (Str.ofString "on_ack_sent"), key := Value.str (Str.ofString "on_ack_sent") 566, val := Value.ref 220 }, { hash := PyData.keyHash P (Str.ofString "owes_ack"), key := Value.str (Str.ofString "owes_ack") 573, val := Value.ref 227 }, { hash := PyData.keyHash P (Str.ofString "take_number"), key := Value.str (Str.ofString "take_number") 580, val := Value.ref 234 }, { hash := PyData.keyHash P (Str.ofString "on_sent"), key := Value.str (Str.ofString "on_sent") 591, val := Value.ref 241 }, { hash := PyData.keyHash P (Str.ofString "take"), key := Value.str (Str.ofString "take") 597, val := Value.ref 246 }, { hash := PyData.keyHash P (Str.ofString "acked_by"), key := Value.str (Str.ofString "acked_by") 605, val := Value.ref 253 }, { hash := PyData.keyHash P (Str.ofString "note_acked"), key := Value.str (Str.ofString "note_acked") 613, val := Value.ref 260 }, { hash := PyData.keyHash P (Str.ofString "note_ranges"), key := Value.str (Str.ofString "note_ranges") 621, val := Value.ref 267 }, { hash := PyData.keyHash P (Str.ofString "is_beyond"), key := Value.str (Str.ofString "is_beyond") 629, val := Value.ref 274 }, { hash := PyData.keyHash P (Str.ofString "note_largest"), key := Value.str (Str.ofString "note_largest") 637, val := Value.ref 281 }, { hash := PyData.keyHash P (Str.ofString "eliciting_left"), key := Value.str (Str.ofString "eliciting_left") 644, val := Value.ref 288 }, { hash := PyData.keyHash P (Str.ofString "bare_numbers"), key := Value.str (Str.ofString "bare_numbers") 651, val := Value.ref 295 }, { hash := PyData.keyHash P (Str.ofString "octets_out"), key := Value.str (Str.ofString "octets_out") 658, val := Value.ref 302 }, { hash := PyData.keyHash P (Str.ofString "sent_rows"), key := Value.str (Str.ofString "sent_rows") 665, val := Value.ref 309 }, { hash := PyData.keyHash P (Str.ofString "forget"), key := Value.str (Str.ofString "forget") 672, val := Value.ref 316 }, { hash := PyData.keyHash P (Str.ofString "__static_attributes__"), key := Value.str (Str.ofString "__static_attributes__") 690, val := Value.ref 317 }] 23 },
   some { cls := Value.type "tuple", data := Data.seq #[] },
   some { cls := Value.none, data := Data.fields #[Value.int 187 0, Value.int 4 0, Value.ref 191, Value.int 206 0, Value.int 4 0, Value.ref 198, Value.int 209 0, Value.int 4 0, Value.ref 205, Value.int 212 0, Value.int 4 0, Value.ref 212, Value.int 215 0, Value.int 4 0, Value.ref 219, Value.int 218 0, Value.int 4 0, Value.ref 226, Value.int 221 0, Value.int 4 0, Value.ref 233, Value.int 224 0, Value.int 4 0, Value.ref 240, Value.int 227 0, Value.int 4 0, Value.ref 245, Value.int 231 0, Value.int 4 0, Value.ref 252, Value.int 234 0, Value.int 4 0, Value.ref 259, Value.int 237 0, Value.int 4 0, Value.ref 266, Value.int 240 0, Value.int 4 0, Value.ref 273, Value.int 243 0, Value.int 4 0, Value.ref 280, Value.int 246 0, Value.int 4 0, Value.ref 287, Value.int 249 0, Value.int 4 0, Value.ref 294, Value.int 252 0, Value.int 4 0, Value.ref 301, Value.int 255 0, Value.int 4 0, Value.ref 308, Value.int 258 0, Value.int 4 0, Value.ref 315] },
   some { cls := Value.type "code", data := Data.fields #[Value.str (Str.ofString "Space") 514, Value.str (Str.ofString "Space") 515, Value.str (Str.ofString "/claim/cut.py") 516, Value.int 185 0, Value.int 0 0, Value.int 0 0, Value.int 0 0, Value.int 0 0, Value.ref 182, Value.bool false, Value.int 181 0, Value.ref 183, Value.none, Value.none, Value.none, Value.none, Value.int 517 0, Value.int 185 0, Value.str (Str.ofString "/claim/cut.py") 518] },
   some { cls := Value.type "frame", slots := #[some (Value.ref 184), some (Value.ref 3), some (Value.ref 181), none, some (Value.str (Str.ofString "quic.spaces") 510), none, some (Value.ref 0)] },
   some tb0,
   none,
   some tb0,
   none,
   some tb0,
   none,
   some tb0,
   none,
   some tb0,
   none,
   some tb0,
   none,
   some tb0,
   none,
   some tb0,
   none,
   some tb0,
   none,
   some tb0,
   none,
   some tb0,
   none,
   some tb0,
   none,
   some tb0,
   none,
   some tb0,
   none,
   some tb0,
   none,
   some tb0,
   none,
   some tb0,
   none,
   some tb0,
   none,
   some tb0,
   none,
   some { cls := Value.type "super", data := Data.fields #[Value.ref 319, Value.ref 319, Value.ref 319] },
   some { cls := Value.type "builtin_function_or_method", data := Data.fields #[Value.builtin "object.__init_subclass__", Value.ref 319] },
   some tb0,
   none,
   some tb0,
   none,
   some tb0,
   none,
   some tb0,
   none,
   some tb0,
   none,
   some tb0,
   none]
noncomputable def mrg : Nat → Nat → Frag → List (Option Obj) → List Obj
  | 0, _, _, _ => []
  | f + 1, i, [], X => match X with
    | some x :: X' => x :: mrg f (i + 1) [] X'
    | _ => []
  | f + 1, i, (a, y) :: K, X => match Nat.beq a i with
    | true => y :: mrg f (i + 1) K X
    | false => match X with
      | some x :: X' => x :: mrg f (i + 1) ((a, y) :: K) X'
      | none :: X' => fnRaw (match K with | q :: _ => q.2 | [] => y) :: mrg f (i + 1) ((a, y) :: K) X'
      | [] => []
noncomputable def fin (P : Params) : List Obj := mrg 358 0 (mkK.heap_1 P) (lack P)
noncomputable def renm (nm : String) (tk : Nat) : List DictEntry → List DictEntry
  | e :: r => { e with val := .str (Str.ofString nm) tk } :: r
  | [] => []
noncomputable def few3 (k : Nat) (nm : String) (tk : Nat) (o : Obj) : Obj := match o.data with
  | .dict es _ => { o with data := .dict (Array.mk (renm nm tk (es.toList.take k))) k }
  | _ => o
noncomputable def few (k : Nat) (o : Obj) : Obj := match o.data with
  | .dict es _ => { o with data := .dict (Array.mk (es.toList.take k)) k }
  | .fields es => { o with data := .fields (Array.mk (es.toList.take k)) }
  | _ => o
noncomputable def cutL (nm : String) (tk k2 k3 k12 : Nat) : Nat → Nat → List Obj → List Obj
  | 0, _, _ => []
  | _ + 1, _, [] => []
  | n + 1, i, x :: r => (match Nat.blt 12 i with
    | true => x
    | false => match Nat.beq i 2 with
      | true => few k2 x
      | false => match Nat.beq i 3 with
        | true => few3 k3 nm tk x
        | false => match Nat.beq i 12 with
          | true => few k12 x
          | false => x) :: cutL nm tk k2 k3 k12 n (i + 1) r
noncomputable def alt : List Obj → Bool → List Obj
  | [], _ => []
  | a :: r, true => a :: alt r false
  | _ :: r, false => alt r true
noncomputable def bt : Nat → List Obj → BT
  | 0, _ => .nil
  | _ + 1, [] => .nil
  | f + 1, x :: r => .node x (bt f (alt r true)) (bt f (alt r false))
noncomputable def st (w : World) (os : OsState) (nm : String) (tk n k2 k3 k12 toks : Nat) : SharedT := ⟨bt 10 (cutL nm tk k2 k3 k12 n 0 (fin w.params)), n, {}, Array.mk [], {}, toks, os⟩
noncomputable abbrev pw := PySem.Challenge.pw_pf0272_01
noncomputable def ev : Env := { scope := pw.main.scope, locals := mainNs, globals := mainNs, cells := [], code := .ref 13, frame := some 14 }
noncomputable def bE : List Stmt := behindTheImports pw
noncomputable def cE : Code := .body bE ev
noncomputable def ps0 : Pos := ⟨0, 0, 0, 0⟩
noncomputable def ann0 : Option Value := some (.ref 6)
noncomputable def sts (a b : Nat) : List Stmt := (bE.drop a).take b
noncomputable abbrev SegAt (a b N : Nat) (w : World) (os : OsState) (nm : String) (tk n k2 k3 k12 toks : Nat) (q : Pos) (nm' : String) (tk' n' k2' k3' k12' toks' : Nat) (q' : Pos) : Prop :=
  segRunT treeTable pw w 11 ann0 1 N (st w os nm tk n k2 k3 k12 toks) (piecesOf (sts a b) ev cE q [topFrame ps0]) = some (.next, st w os nm' tk' n' k2' k3' k12' toks', cE, q')
end
end
noncomputable section
set_option maxRecDepth 1000000
set_option maxHeartbeats 0
theorem sg_0 (w : World) (os : OsState) : SegAt 0 17 397 w os "__main__" 164 15 0 9 0 187 ⟨0, 0, 0, 0⟩ "quic.errors" 194 42 2 25 6 257 ⟨25, 0, 25, 12⟩ := by
  unfold SegAt; rw [PySem.W.Fast.te10110043849684766642, PySem.W.Fast.te14364793385576792824]; kernel_rfl
theorem sg_1 (w : World) (os : OsState) : SegAt 17 19 243 w os "quic.errors" 194 42 2 25 6 257 ⟨25, 0, 25, 12⟩ "quic.framesout" 317 64 2 42 15 319 ⟨61, 0, 61, 8⟩ := by
  unfold SegAt; rw [PySem.W.Fast.te10110043849684766642, PySem.W.Fast.te14364793385576792824]; kernel_rfl
theorem sg_2f (w : World) (os : OsState) : SegAt 36 1 155 (w.withFollow "special-get-raises" false) os "quic.framesout" 317 64 2 42 15 319 ⟨61, 0, 61, 8⟩ "quic.framesout" 317 65 2 43 15 338 ⟨62, 0, 62, 13⟩ := by
  unfold SegAt; rw [PySem.W.Fast.te10110043849684766642, PySem.W.Fast.te14364793385576792824]; kernel_rfl
theorem sg_2t (w : World) (os : OsState) : SegAt 36 1 155 (w.withFollow "special-get-raises" true) os "quic.framesout" 317 64 2 42 15 319 ⟨61, 0, 61, 8⟩ "quic.framesout" 317 65 2 43 15 338 ⟨62, 0, 62, 13⟩ := by
  unfold SegAt; rw [PySem.W.Fast.te10110043849684766642, PySem.W.Fast.te14364793385576792824]; kernel_rfl
theorem sg_2 (w : World) (os : OsState) : SegAt 36 1 155 w os "quic.framesout" 317 64 2 42 15 319 ⟨61, 0, 61, 8⟩ "quic.framesout" 317 65 2 43 15 338 ⟨62, 0, 62, 13⟩ := by
  exact byRow2 "special-get-raises" (P := fun w => SegAt 36 1 155 w os "quic.framesout" 317 64 2 42 15 319 ⟨61, 0, 61, 8⟩ "quic.framesout" 317 65 2 43 15 338 ⟨62, 0, 62, 13⟩) (fun w => sg_2f w os) (fun w => sg_2t w os) w
theorem sg_3 (w : World) (os : OsState) : SegAt 37 13 371 w os "quic.framesout" 317 65 2 43 15 338 ⟨62, 0, 62, 13⟩ "quic.packing" 440 141 2 55 48 452 ⟨127, 0, 128, 57⟩ := by
  unfold SegAt; rw [PySem.W.Fast.te10110043849684766642, PySem.W.Fast.te14364793385576792824]; kernel_rfl
theorem sg_4 (w : World) (os : OsState) : SegAt 50 8 203 w os "quic.packing" 440 141 2 55 48 452 ⟨127, 0, 128, 57⟩ "quic.spaces" 510 179 2 61 66 512 ⟨184, 0, 184, 8⟩ := by
  unfold SegAt; rw [PySem.W.Fast.te10110043849684766642, PySem.W.Fast.te14364793385576792824]; kernel_rfl
theorem sg_5 (w : World) (os : OsState) : SegAt 58 1 810 w os "quic.spaces" 510 179 2 61 66 512 ⟨184, 0, 184, 8⟩ "quic.spaces" 510 324 2 62 69 698 ⟨185, 0, 259, 17⟩ := by
  unfold SegAt; rw [PySem.W.Fast.te10110043849684766642, PySem.W.Fast.te14364793385576792824]; kernel_rfl
theorem sg_6 (w : World) (os : OsState) : SegAt 59 7 175 w os "quic.spaces" 510 324 2 62 69 698 ⟨185, 0, 259, 17⟩ "law_pf0272_01" 698 358 2 68 87 741 ⟨306, 0, 333, 78⟩ := by
  unfold SegAt; rw [PySem.W.Fast.te10110043849684766642, PySem.W.Fast.te14364793385576792824]; kernel_rfl
end
noncomputable section
set_option maxRecDepth 1000000
set_option maxHeartbeats 0
noncomputable section
noncomputable abbrev S15 (w : World) (os : OsState) : SharedT := st w os "__main__" 164 15 0 9 0 187
noncomputable abbrev S65 (w : World) (os : OsState) : SharedT := st w os "law_pf0272_01" 698 358 2 68 87 741
noncomputable abbrev B0 : List Frame := [topFrame ps0]
noncomputable def H1 (P : Params) : Heap := ⟨Array.mk (fin P), {}⟩
noncomputable def SF (w : World) (os : OsState) : Shared := ⟨H1 w.params, Array.mk [], {}, 741, os⟩
theorem run_pre (w : World) (os : OsState) : topGo treeTable pw w 11 ann0 12 ⟨boot_heap w.params, Array.mk [], boot_drawn, boot_toks, os⟩ (topStub pw) = some ((S15 w os).abs, ⟨denote treeTable cE, cE, ps0, B0⟩) := by
  rw [PySem.W.Fast.te15667345088766844465, PySem.W.Fast.te14364793385576792824, PySem.W.Fast.te11892475500146522536]; kernel_rfl
theorem run_block (w : World) (os : OsState) : segRunT treeTable pw w 11 ann0 1 1 (S15 w os) (blockOf bE ev cE ps0 B0) = some (.next, S15 w os, cE, ps0) := by
  rw [PySem.W.Fast.te10110043849684766642, PySem.W.Fast.te14364793385576792824]; kernel_rfl
theorem run_fin (w : World) (os : OsState) : topRun treeTable pw w 11 ann0 2 (S65 w os).abs ⟨doneF .next, cE, ⟨306, 0, 333, 78⟩, B0⟩ = some (SF w os) := by
  rw [PySem.W.Fast.te14082659384304107361, PySem.W.Fast.te14364793385576792824]; kernel_rfl
theorem body_is : sts 0 17 ++ (sts 17 19 ++ (sts 36 1 ++ (sts 37 13 ++ (sts 50 8 ++ (sts 58 1 ++ (sts 59 7 ++ [])))))) = bE := by kernel_rfl
theorem run_all (w : World) (os : OsState) : topRun treeTable pw w 11 ann0 2369 ⟨boot_heap w.params, Array.mk [], boot_drawn, boot_toks, os⟩ (topStub pw) = some (SF w os) := by
  have k := piece_app (segRun_of (sg_0 w os)) (piece_app (segRun_of (sg_1 w os)) (piece_app (segRun_of (sg_2 w os)) (piece_app (segRun_of (sg_3 w os)) (piece_app (segRun_of (sg_4 w os)) (piece_app (segRun_of (sg_5 w os)) (piece_app (segRun_of (sg_6 w os)) (piece_nil (run_fin w os))))))))
  rw [body_is] at k
  exact go_top (run_pre w os) (piece_block (segRun_of (run_block w os)) k)
theorem is_open : ∀ w : World, (fencedOpening treeTable pw w 4820).map (fun s => (s.heap, s.gens, s.drawn, s.toks)) = some (boot_heap w.params, Array.mk [], boot_drawn, boot_toks) := by
  refine boot_open ?_ ?_ ?_
  · kernel_rfl
  · rfl
  · intro s; kernel_rfl
theorem is_size : ∀ w : World, ((boot_heap w.params).isNs mainGlobals && (Array.mk [] : Array GenState).size == 0, (boot_heap w.params).objs.size, (boot_heap w.params).nsMap mainGlobals "__annotations__") = (true, 11, ann0) := by
  intro w; kernel_rfl
end
end
noncomputable section
theorem kw_3 : True := by
  k_with_none
  k_with "g1" => refine by_goal fun zG zh => ?_
  k_with "g2" => (refine zh ?_; clear zh zG)
  trivial
theorem thread_N {prog : Program} {w : World} {t : Sem Fin} {s : Shared} {R : Result → Shared → Prop} (hreg : s.asleep)
    (h : wpN (model prog w) callerA t (fun fin s' => ∃ f, fin = .done f ∧ (R (.ok f) s' ∧ leftWithCleanup s'.gens = false)) (fun e s' => R (.error e) s' ∧ leftWithCleanup s'.gens = false) s) :
    ∃ n r s' s'', runN (denote table) prog w n s ⟨t, .builtin "claim.caller" {}, default, []⟩ = .halted (outcomeOf r) s' ∧
      schedN (denote table) prog w n (.single s ⟨t, .builtin "claim.caller" {}, default, []⟩) = .halted (outcomeOf r) s' ∧ s'.forget = s''.forget ∧ R r s'' := by
  have nd : NoDec (⟨.builtin "claim.caller" {}, none, none, [], none⟩ : PySem.Ctx) := ⟨by show (!decIds.contains "claim.caller") = true; decide +kernel, fun x hx => nomatch hx⟩
  have hw : Sem.wp (model prog w) ⟨.builtin "claim.caller" {}, none, none, [], none⟩ t (Sem.finPost (model prog w) ⟨.builtin "claim.caller" {}, none, none, [], none⟩ (fun r s' => R r s' ∧ leftWithCleanup s'.gens = false))
      (fun e _ s' => R (.error e) s' ∧ leftWithCleanup s'.gens = false) default s := by
    refine Sem.wp_mono _ _ t (fun fin p' s' q => ?_) (fun _ _ _ q => q) default s (h _ default caller_in nd)
    k_extra "g1"
    obtain ⟨f, rfl, hf⟩ := q
    k_extra "g2"
    exact hf
  k_extra "g1"
  obtain ⟨n, r, s₁, s₂, hs, hn, hfo, hR⟩ := wp_halts_full (M := model prog w) (R := R) hreg hw
  k_extra "g2"
  exact ⟨n, r, s₂, s₁, hn, hs, hfo, hR⟩
theorem callFrom_N {c : ClaimW} {tree : List Value → Sem Fin} {w : World} {s : Shared} {free : Addr → Prop} {gens : Prop} {kept : Heap → Prop} (hz : s.asleep) (hgens : s.gens = #[])
    (hspec : ∀ args, c.pre args = true → WData.layableAll args = true → ∀ ord : List DictEntry → List DictEntry, (∀ l, (ord l).Perm l) →
      ∃ vs s₁, layAllW c.records (classAt s.heap) w.params ord args s = some (vs, s₁) ∧
        wpN (model c.prog w) callerA (tree vs) (fun fin s' => ∃ f, fin = .done f ∧ (c.Ends s args vs s₁ (.ok f) s' ∧ s'.os = s.os ∧ AllBare s'.gens ∧ kept s'.heap)) (fun _ _ => False) s₁) :
    c.CallFrom (fun vs => ⟨tree vs, .builtin "claim.caller" {}, default, []⟩) w free gens kept s := by
  intro args hpre hlay ord hord
  k_extra "g1"
  obtain ⟨vs, s₁, hlaid, hcode⟩ := hspec args hpre hlay ord hord
  k_extra "g2"
  have life := layAllW_rest _ _ _ hlaid
  have run := thread_N (prog := c.prog) (w := w) (t := tree vs) (s := s₁) (R := fun r s' => c.Ends s args vs s₁ r s' ∧ s'.os = s.os ∧ kept s'.heap) (Shared.asleep_of_life life.2.2.2 hz)
    (wpN_mono hcode (fun fin s' ⟨f, e, q1, q2, q3, q4⟩ => ⟨f, e, ⟨q1, q2, q4⟩, leftWithCleanup_false_of_bare q3⟩) fun _ _ q => q.elim)
  k_extra "g1"
  obtain ⟨k, r, s', s'', hrun, hsched, hfo, hE, hos, hkp⟩ := run
  k_extra "g2"
  k_extra "g1"
  obtain ⟨eh, _, _, eo, _⟩ := Shared.forget_eq hfo
  k_extra "g2"
  have hE' := hE.congr eh
  refine ⟨vs, s₁, hlaid, k, _, s', hsched, ?_, (fun _ i x hx => by rw [hgens] at hx; simp at hx), by rw [eh]; exact hkp, ?_, Shared.rest_eq (eo.trans hos)⟩
  · rcases hE' with ⟨v, rfl, d1, d2, d3, d4, d5⟩ | ⟨e, ob, cls, rfl, d1, d2, d3, d4, d5⟩
    · exact .inl ⟨v, rfl, d1, d2, d3, fun b o y _ => d4 b o y, d5⟩
    · exact .inr ⟨e, ob, cls, rfl, d1, d2, d3, d4, fun b o y _ => d5 b o y⟩
  · rw [show s'.heap.life = s.heap.life from (runN_life _ _ _ hrun).trans life.2.2.2]
noncomputable abbrev WalkM (q : Program) (loose : List Str) (XP : (Str → Option Value) → Heap → Prop) (YP : World → Heap → Prop) (r : RowW) (d : DefRec) (kwd : List (Str × Expr)) : Prop :=
  ∀ (w : World) (s₀ s₁ : Shared) (mg mb : Str → Option Value), Ground q loose r.records XP w s₀ mg mb s₁.heap → YP w s₁.heap → ∀ (a : Addr) (o : Obj) (pm cd doc dV kV : Value), s₁.heap.get? a = some o →
    o.data = .func { docDef d.name d.params d.body d.scope pm cd doc with defaults := dV, kwdefaults := kV } → s₁.heap.CodeRec cd d.name → Dflts mg s₁.heap d.params kwd dV kV → mg d.name = some (.ref a) → s₁.gens = #[] →
    ∀ (args : List WData) (vals : List Value) (as : List Addr), r.claim.pre args = true → WData.layableAll args = true → ReadsAllW r.records (classAt s₀.heap) s₁.heap vals args as → WellAll w.params s₁.heap vals args → (∀ a ∈ as, (a == sysModules) = false) →
      wpN (model r.prog w) callerA (PySem.call (.ref a) vals) (fun v s' => GoodWG r.claim (classAt s₀.heap) (ExcName.means s₀.heap) args s₁ (.ok (.ret v)) s') (fun _ _ => False) s₁
theorem holds_open_N {r : OpenRow} {q : Program} {loose : List Str} {Xt : Shared → Bool} {XP : (Str → Option Value) → Heap → Prop} {α : Type} {Yf : Shared → α} {Ya : World → α} {YP : World → Heap → Prop} {d : DefRec} {kwd : List (Str × Expr)} {N : Nat}
    (left : LeftO r.prog q loose Xt Yf Ya N) (hY : ∀ w s, Yf s = Ya w → YP w s.heap) (hYk : ∀ w h h', YP w h → (∀ b o, h.get? b = some o → h'.get? b = some o) → YP w h')
    (hX : ∀ s, Xt s = true → XP (s.heap.nsMap mainGlobals) s.heap) (hXk : ∀ mg h h', XP mg h → (∀ b o, h.get? b = some o → h'.get? b = some o) → XP mg h')
    (hdef : defOf q r.name = some (d, kwd)) (hp : r.prog.theDef r.name = some (d.params, d.body, d.scope)) (hk : kwWritten? d.params.kwonlyargs d.params.kw_defaults = some kwd) (hRf : ∀ s, Xt s = true → RecFacts r.records s.heap) (hwr : (!r.writes || r.records.isEmpty) = true)
    (k1 : r.wellSaid = true) (ok : (chainsOk q && opensWell r.prog && (frees r.toRowW && r.within.isEmpty)) = true) (hb : r.prog.bare) (hw : r.toRowW.promised)
    (call : WalkM q loose XP YP r.toRowW d kwd) : r.Holds := by
  have hfree := Bool.and_eq_true_iff.mp ok
  have hwell := Bool.and_eq_true_iff.mp hfree.1
  have hfr := Bool.and_eq_true_iff.mp hfree.2
  k_extra "g1"
  obtain ⟨hsame, hu, ha, hap, hm⟩ := frees_parts hfr.1
  k_extra "g2"
  have hident := ident_freeW hu ha hap
  have hwithin : r.toRowW.claim.within = [] := List.isEmpty_iff.mp hfr.2
  refine ⟨k1, hw, ⟨hb, hwell.2, by show r.makers.map _ = []; rw [hm]; rfl⟩, hw.witness, fun w => ⟨(left.behind hX hwell.1 w).1, fun s' hs' => ?_⟩⟩
  k_extra "g1"
  obtain ⟨s₀, hf, hg0, s, hT, hz, hgens, hg, G, y⟩ := (left.behind (XP := fun mg h => XP mg h ∧ RecFacts r.records h) (fun s hs => ⟨hX s hs, hRf s hs⟩) hwell.1 w).2 s' hs'
  k_extra "g2"
  have RF : RecFacts r.records s.heap := G.X.2
  have G0 : Ground q loose [] XP w s (s.heap.nsMap mainGlobals) (s.heap.nsMap builtinsNs) s.heap := ⟨G.T, G.B, G.D, G.TE, G.TD, G.W, G.X.1, G.cls, G.has, G.apart, G.once, G.K⟩
  refine ⟨s₀, hf, hg0, s, hT, fun n hn => ?_, RF.1, RF.2.1, ?_⟩
  · obtain rfl : n = r.name := by split at hn <;> simp_all
    exact pinned_of_view hg G0 hdef hp hk
  have hgens : s.gens = #[] := Array.eq_empty_of_size_eq_zero (beq_iff_eq.mp hgens)
  have G1 : Ground q loose r.records XP w s _ _ s.heap := RF.ground G0
  refine callFrom_N (c := r.toRowW.claim) hz hgens fun args hpre hlay ord hord => ?_
  k_extra "g1"
  obtain ⟨⟨vs, s₁⟩, hlaid⟩ := Option.isSome_iff_exists.mp (layAllW_isSome (P := w.params) (ord := ord) G1.has args r.args s (pre_splitW hpre).1)
  k_extra "g2"
  have keeps := layAllW_keeps _ _ _ hlaid
  have rest := layAllW_rest _ _ _ hlaid
  k_extra "g1"
  obtain ⟨as, hrd, hin, hold⟩ := reads_layAllW hord _ _ _ hlaid hlay s₁.heap (fun _ _ e => e)
  k_extra "g2"
  have L : Laid r.records w s s₁ args vs as := ⟨⟨ord, hord, hlaid⟩, hrd, hin, hold, keeps, rest.1.trans hgens, rest.2.2.1⟩
  have G2 := G1.keeps hXk keeps
  k_extra "g1"
  obtain ⟨a, o, pm, cd, doc, dV, kV, f1, f2, f3, f4, f5⟩ := G2.fn hdef
  k_extra "g2"
  have hcall := call w s s₁ _ _ G2 (hYk _ _ _ (hY w s y) keeps) a o pm cd doc dV kV f2 f3 f4 f5 (defOf_name hdef ▸ f1) L.gens args vs as hpre hlay L.reads L.well (L.low G1.low)
  refine ⟨vs, s₁, hlaid, ?_⟩
  refine wpN_bind (wpN_of_any (wpAny_nsGet G2.T.g ?_))
  rw [f1]
  refine wpN_bind (wpN_mono hcall (fun v s' g => wpN_pure ⟨_, rfl, ?_⟩) fun _ _ q => q)
  have z := g.laid (c := r.toRowW.claim) hsame hwithin hident L
  exact ⟨z.1, z.2.1, z.2.2, fun _ => ⟨namesKept_of hT hg _ keeps g.2.1.old, noTable hwr (by assumption)⟩⟩
end
noncomputable section
set_option maxRecDepth 1000000
noncomputable section
noncomputable def keepB {α : Type} : List Bool → List α → List α
  | b :: bs, x :: xs => match b with | true => x :: keepB bs xs | false => keepB bs xs
  | _, _ => []
noncomputable def vw : Program := { PySem.Challenge.pw_pf0272_01 with main := { PySem.Challenge.pw_pf0272_01.main with body := keepB [true, false, true, true, true, true, true, true, true, true, true, true, true, true, true, true, true, true, true, true, true, true, true, true, true, true, true, true, true, true, false, true, true, true, true, false, true, true, true, true, true, true, true, true, true, true, true, false, true, true, true, true, true, true, false, true, true, false, true, false, true, true, true, true, true, true] PySem.Challenge.pw_pf0272_01.main.body } }
noncomputable abbrev lo0 : List Str := [PySem.Str.ofString "NUMBER_FRAMES"]
noncomputable abbrev mods0 : List Str := importedModules pw.main.body
theorem look_a (w : World) (os : OsState) : (staticsOk mods0 (boot_heap w.params) (H1 w.params) && namesBound pw (H1 w.params) && gensDone (SF w os) && laidKept (boot_heap w.params) (H1 w.params)) = true := by kernel_rfl
theorem look_1 (w : World) (os : OsState) : seen ((recsOf vw).map (·.name)) (ownsOf vw) [] { SF w os with gens := #[] } = expectedOf vw := by kernel_rfl
theorem look_2 (w : World) (os : OsState) : (SF w os).heap.bltView = bltViewBooted := by kernel_rfl
theorem look_3 (w : World) (os : OsState) : ((SF w os).heap.keysOk (looseW vw lo0) ((recsOf vw).map (·.name)) ((litsOf vw).map (·.1)) ((clssOf vw (looseW vw lo0)).map (·.name)) && (SF w os).heap.accountedOkI mods0 && (SF w os).heap.isNs mainGlobals && (SF w os).heap.isNs builtinsNs && tablesOk vw (SF w os).heap && (xlAt vw [] (SF w os) && recOk Challenge.rw_pf0272_01.row.records (SF w os)) && (if true then (SF w os).gens.size == 0 else !leftWithCleanup (SF w os).gens)) = true := by kernel_rfl
theorem look_4 (w : World) (os : OsState) : tabsOk vw (SF w os) = true := by kernel_rfl
theorem look_5 (w : World) (os : OsState) : pinSeenD vw (drecsOf vw) (SF w os) = pinGoodD (drecsOf vw) := by kernel_rfl
theorem look_6 (w : World) (os : OsState) : plainSeenE vw (looseW vw lo0) (SF w os) = plainGoodE vw (looseW vw lo0) := by kernel_rfl
theorem look_7 (w : World) (os : OsState) : plainSeenD vw lo0 (SF w os) = plainGoodD vw lo0 := by kernel_rfl
theorem look_8 (w : World) (os : OsState) : wideSeen vw (SF w os) = wideGood vw := by kernel_rfl
theorem look_9 (w : World) (os : OsState) : clsSeenW vw lo0 (SF w os) = clsGoodW vw lo0 := by kernel_rfl
end
end
noncomputable section
set_option maxRecDepth 1000000
theorem left_of {α : Type} {Yf : Shared → α} {Ya : World → α} (h : ∀ (w : World) (os : OsState), Yf (SF w os) = Ya w) :
    LeftO pw vw lo0 (fun s => xlAt vw [] s && recOk Challenge.rw_pf0272_01.row.records s) Yf Ya 4820 true :=
  LeftO.of_pieces (H₀ := boot_heap) (H₁ := H1) (gs₀ := Array.mk []) (gs₁ := Array.mk []) (d₀ := boot_drawn) (d₁ := {}) (k₀ := boot_toks) (k₁ := 741) (m₀ := 11) (ann := ann0) (M := 2369) is_open is_size run_all rfl
    (fun w => funext fun os => looks_pair (look_a w os) (looks_pair (looks_pair (look_1 w os) (looks_pair (look_2 w os) (looks_pair (look_3 w os) (looks_pair (look_4 w os) (looks_pair (look_5 w os) (looks_pair (look_6 w os) (looks_pair (look_7 w os) (looks_pair (look_8 w os) (look_9 w os))))))))) (h w os)))
noncomputable def LawEnd : Prop := ∀ {w : World} {s₁ : Shared} {p : Program} {loose : List Str} {mean : ExcName → Option Value} {mg mb : Str → Option Value} {fa sc : Addr} {vs : List Value} {ns : List Int} (cl : Str → Option Addr) (mean2 : ExcName → Option Value) (args : List WData) (KX : (mkK.heap_1 w.params).In s₁.heap) (hT8 : s₁.heap.get? 349 = some (tabObj #[])) (T : Top p loose mean mg mb s₁.heap) (hmg : mg (Str.ofString "law") = some (.ref fa)) (hg : s₁.gens = #[]) (hL : s₁.heap.IsList sc vs.toArray) (hI : IntsAre vs ns) (hlen : ns.length ≤ 63),
   wpN (model Challenge.pw_pf0272_01 w) callerA (call (.ref fa) [.ref sc]) (fun v s' => GoodWG Challenge.rw_pf0272_01.row.claim cl mean2 args s₁ (.ok (.ret v)) s') (fun _ _ => False) s₁
theorem law_said : PySem.Challenge.rw_pf0272_01.wellSaid = true := by kernel_rfl
section
noncomputable abbrev hk := kmHook mkK.heap_1 [2, 3, 15, 17, 18, 20, 21, 22, 29, 31, 32, 34, 35, 36, 37, 38, 39, 42, 43, 45, 46, 48, 49, 50, 52, 53, 55, 56, 57, 59, 60, 62, 63, 64, 65, 68, 69, 70, 72, 73, 75, 76, 77, 79, 80, 82, 83, 84, 86, 87, 89, 90, 91, 93, 94, 96, 97, 98, 100, 101, 103, 104, 105, 107, 108, 110, 111, 112, 114, 115, 117, 118, 119, 121, 122, 124, 125, 126, 128, 129, 131, 132, 133, 134, 136, 137, 139, 140, 141, 143, 144, 146, 147, 148, 150, 151, 153, 154, 155, 157, 158, 160, 161, 162, 164, 165, 167, 168, 169, 172, 173, 174, 177, 178, 186, 188, 189, 191, 192, 193, 195, 196, 198, 199, 200, 202, 203, 205, 206, 207, 209, 210, 212, 213, 214, 216, 217, 219, 220, 221, 223, 224, 226, 227, 228, 230, 231, 233, 234, 235, 237, 238, 240, 241, 242, 245, 246, 247, 249, 250, 252, 253, 254, 256, 257, 259, 260, 261, 263, 264, 266, 267, 268, 270, 271, 273, 274, 275, 277, 278, 280, 281, 282, 284, 285, 287, 288, 289, 291, 292, 294, 295, 296, 298, 299, 301, 302, 303, 305, 306, 308, 309, 310, 312, 313, 315, 316, 317, 318, 319, 320, 321, 324, 326, 327, 329, 330, 331, 334, 335, 336, 339, 340, 341, 343, 344, 346, 347, 348, 351, 352, 353, 356, 357] (fun _ => by kernel_rfl) [349]
theorem top_of (law_end : LawEnd) : PySem.Challenge.rw_pf0272_01.Holds := by
  w_on
  refine holds_law (l := PySem.Challenge.rw_pf0272_01) law_said fun said => ?_
  refine Mine.Internal.holds_open_N (q := vw) (loose := [PySem.Str.ofString "NUMBER_FRAMES"]) (Xt := fun s => xlAt vw [] s && recOk (RowW.records (OpenRow.toRowW (OpenLaw.row PySem.Challenge.rw_pf0272_01))) s) (XP := XL vw []) (Yf := Hook.obs hk) (Ya := Hook.val hk) (YP := Hook.says hk) (N := 4820) ?hl (Hook.of hk) (Hook.keeps hk) (fun s e => xl_of s (Bool.and_eq_true_iff.mp e).1) XL.keeps (by rfl) (by rfl) (by rfl) (fun s e => recFacts_of (Bool.and_eq_true_iff.mp e).2) (by rfl) (by first | assumption | decide +kernel) (by decide +kernel) ⟨rfl, rfl, rfl, rfl, rfl, by decide +kernel⟩ ?hw ?hc
  (case hw => w_witness2)
  (case hl => exact left_of (fun w os => by kernel_rfl))
  k_fill
  intro w s₀ s₁ mg mb G Y fa o pm cd doc dV kV ho hd hcd hD hmg hg args vals as hpre hlay hrd hwl hlo
  have KX := km_in_of Y
  have hT8 := km_tabs_of Y
  refine Ground.open G ?_
  intro T B D TE TW
  clear ho hd hcd hD
  wrow_args hpre hlay hrd hwl hlo
  rename Heap.IsList _ _ _ => hL9
  rename IntsAre _ _ => hI9
  rename ¬ _ => hc9
  have hn9 : _ ≤ 63 := Nat.le_of_not_lt fun h => hc9 (Int.ofNat_lt.mpr h)
  have KX2 : (mkK.heap_1 w.params).In s₁.heap := KX
  exact law_end _ _ _ KX2 (hT8 349 (.head _)) T hmg hg hL9 hI9 hn9
theorem off_h : True := by
  w_top off
  trivial
end
end
noncomputable section
section
variable {M : Model} {A : Around} {E : Value → Shared → Prop} {s : Shared} {env : Env}
theorem kw_4 : True := by
  k_with_none
  k_with "g1" => refine by_goal fun zG zh => ?_
  k_with "g2" => (refine zh ?_; clear zh zG)
  trivial
theorem spliced_nil_N {Q : List Value → Shared → Prop} (h : Q [] s) : wpN M A (spliced []) Q E s := wpN_of_any (spliced_nil h)
theorem spliced_cons_N {x : Sem Value} {rest : List (Bool × Sem Value)} {Q : List Value → Shared → Prop}
    (h : wpN M A x (fun v s₁ => wpN M A (spliced rest) (fun vs s₂ => Q (v :: vs) s₂) E s₁) E s) : wpN M A (spliced ((false, x) :: rest)) Q E s := by
  rw [spliced]
  refine wpN_bind (wpN_mono h (fun v s₁ h₁ => ?_) fun _ _ x => x)
  simp only [Bool.false_eq_true, if_false]
  exact wpN_bind (wpN_pure (wpN_bind (wpN_holding (wpN_mono h₁ (fun vs s₂ h₂ => wpN_pure h₂) fun _ _ x => x))))
theorem args_nil_N {pos : Pos} {Q : List Value → Shared → Prop} (h : Q [] s) : wpN M A (spliced (backTo pos (starEach [] env))) Q E s := spliced_nil_N h
theorem args_cons_N {e : Expr} {rest : List Expr} {pos : Pos} {Q : List Value → Shared → Prop}
    (h : wpN M A (eval e env) (fun v s₁ => wpN M A (spliced (backTo pos (starEach rest env))) (fun vs s₂ => Q (v :: vs) s₂) E s₁) E s)
    (he : starEach (e :: rest) env = (false, eval e env) :: starEach rest env := by rfl) : wpN M A (spliced (backTo pos (starEach (e :: rest) env))) Q E s := by
  rw [he]; exact spliced_cons_N h
theorem evalArgs_plain_N {f : Value} {x : Sem Value} {rest : List (Bool × Sem Value)} {Q : Args → Shared → Prop}
    (h : wpN M A (spliced ((false, x) :: rest)) (fun vs s' => Q ⟨vs, []⟩ s') E s) : wpN M A (evalArgs f true ((false, x) :: rest) []) Q E s := by
  unfold evalArgs
  show wpN M A (spliced ((false, x) :: rest) >>= _) Q E s
  refine wpN_bind (wpN_mono h (fun vs s' h' => ?_) fun _ _ x => x)
  refine wpN_holding ?_
  exact wpN_bind (wpN_pure (wpN_bind (wpN_pure (wpN_pure h'))))
theorem wpN_keep {α : Type} {vs : List Value} {m : Sem α} {Q : α → Shared → Prop} (h : wpN M A m Q E s) : wpN M A (m.keep vs) Q E s :=
  fun Γ p hΓ hN => by rw [Sem.wp_keep]; exact h Γ p hΓ hN
theorem callWith_ofN {P : Heap → Prop} {f : Value} {first : List Value} {pos : Pos} {args : List (Bool × Sem Value)} {keywords : List (Option Str × Sem Value)} {Q : Value → Shared → Prop} (hplain : (args.any (·.1) || keywords.any (·.1.isNone)) = false)
    (hk : ∀ h, P h → ∃ k, (k = Keeper.frame ∨ k = Keeper.machine ∨ k = Keeper.boundFrame) ∧ Looks M h (keeperOf f) k)
    (h : wpN M A (evalArgs f true args keywords) (fun a s₁ => P s₁.heap ∧ wpN M A (call f (first ++ a.pos) a.kw) Q E s₁) E s) : wpN M A (callWith pos f first args keywords) Q E s := by
  unfold callWith
  refine wpN_bind (wpN_holding (wpN_mono h (fun a s₁ h₁ => wpN_bind (wpN_standAt ?_)) fun _ _ x => x))
  k_extra "g1"
  obtain ⟨k, hk', L⟩ := hk _ h₁.1
  k_extra "g2"
  dsimp only
  rw [hplain]
  refine wpN_bind (wpN_of_any (L.here ?_))
  have tail : ∀ {t : Sem Value}, wpN M A t Q E s₁ → wpN M A (t >>= fun r => holding [r] point >>= fun _ => pure r) Q E s₁ :=
    fun ht => wpN_bind (wpN_mono ht (fun r s₂ hr => wpN_bind (wpN_holding (wpN_point (wpN_pure hr)))) fun _ _ x => x)
  have marked (mk : Value) : wpN M A (callMarked mk f (first ++ a.pos) a.kw) Q E s₁ := by unfold callMarked; exact wpN_keep h₁.2
  rcases hk' with rfl | rfl | rfl <;> dsimp only <;> first | exact tail h₁.2 | (by_cases hc : args.length + 2 * keywords.length > 30 <;> first | (rw [if_pos hc]; exact tail h₁.2) | (rw [if_neg hc]; exact tail (marked _)))
theorem callWith_NK {K : Frag} {f : Value} {first : List Value} {pos : Pos} {e : Expr} {rest : List Expr} {Q : Value → Shared → Prop} (hk : keepIn K f = true) (h : wpN M A (spliced (backTo pos (starEach (e :: rest) env))) (fun vs s₁ => K.In s₁.heap ∧ wpN M A (call f (first ++ vs)) Q E s₁) E s)
    (he : starEach (e :: rest) env = (false, eval e env) :: starEach rest env := by rfl) (hplain : (backTo pos (starEach rest env)).any (·.1) = false := by rfl) :
    wpN M A (callWith pos f first (backTo pos (starEach (e :: rest) env)) []) Q E s := by
  rw [he] at h ⊢
  exact callWith_ofN (by show ((false || (backTo pos (starEach rest env)).any (·.1)) || false) = false; rw [hplain]; rfl) (keeps_K hk) (evalArgs_plain_N h)
theorem callWith_NT {T : String} {first : List Value} {pos : Pos} {e : Expr} {rest : List Expr} {Q : Value → Shared → Prop} (h : wpN M A (spliced (backTo pos (starEach (e :: rest) env))) (fun vs s₁ => wpN M A (call (.type T) (first ++ vs)) Q E s₁) E s)
    (he : starEach (e :: rest) env = (false, eval e env) :: starEach rest env := by rfl) (hplain : (backTo pos (starEach rest env)).any (·.1) = false := by rfl) :
    wpN M A (callWith pos (.type T) first (backTo pos (starEach (e :: rest) env)) []) Q E s := by
  rw [he] at h ⊢
  exact callWith_ofN (P := fun _ => True) (by show ((false || (backTo pos (starEach rest env)).any (·.1)) || false) = false; rw [hplain]; rfl) (fun _ _ => ⟨.machine, .inr (.inl rfl), .now⟩) (evalArgs_plain_N (wpN_mono h (fun _ _ q => ⟨trivial, q⟩) fun _ _ q => q))
theorem callWith_NB {T : String} {first : List Value} {pos : Pos} {e : Expr} {rest : List Expr} {Q : Value → Shared → Prop} (h : wpN M A (spliced (backTo pos (starEach (e :: rest) env))) (fun vs s₁ => wpN M A (call (.builtin T) (first ++ vs)) Q E s₁) E s)
    (he : starEach (e :: rest) env = (false, eval e env) :: starEach rest env := by rfl) (hplain : (backTo pos (starEach rest env)).any (·.1) = false := by rfl) :
    wpN M A (callWith pos (.builtin T) first (backTo pos (starEach (e :: rest) env)) []) Q E s := by
  rw [he] at h ⊢
  exact callWith_ofN (P := fun _ => True) (by show ((false || (backTo pos (starEach rest env)).any (·.1)) || false) = false; rw [hplain]; rfl) (fun _ _ => ⟨.machine, .inr (.inl rfl), .now⟩) (evalArgs_plain_N (wpN_mono h (fun _ _ q => ⟨trivial, q⟩) fun _ _ q => q))
theorem Call_N {x : Str} {xp : Pos} {args : List Expr} {pos : Pos} {Q : Value → Shared → Prop}
    (h : wpN M A (eval (.Name x xp) env) (fun f s₁ => wpN M A (callWith pos f [] (backTo pos (starEach args env)) []) Q E s₁) E s) :
    wpN M A (eval (.Call (.Name x xp) args [] pos) env) Q E s := by
  have he : eval (.Call (.Name x xp) args [] pos) env = (do callWith pos (← eval (.Name x xp) env) [] (backTo pos (starEach args env)) (backToKw pos (keywordEach [] env))) := by rfl
  rw [he]; exact wpN_bind h
end
section
variable {prog : Program} {w : World} {A : Around} {s : Shared} {R : Result → Shared → Prop} {K : Frag} {p : Program} {loose : List Str} {mean : ExcName → Option Value} {mg mb : Str → Option Value}
theorem code_defN (binds : List (Str × Value)) {name qual : Str} {params : Arguments} {body : List Stmt} {scope : Scope} {dV kV doc pm cdv ct oc : Value} {an od : Option Addr} {osl : Array (Option Value)} {f : Addr} {args : Args}
    (X : K.In s.heap) (T : Top p loose mean mg mb s.heap) (ho : K.lookup f = some ⟨oc, od, .func (fnOf name qual params body scope dV kV doc pm an cdv ct), osl⟩) (hcd : codeIn K cdv qual = true) (hroom : A.depth < recursionLimit)
    (hbind : BindsTo s (fnOf name qual params body scope dV kV doc pm an cdv ct) args binds) (hloc : ∀ y ∈ binds, scope.names.lookup y.1 = some .local)
    (h : ∀ L' h₁, Fr s.heap L' h₁ (fun y => binds.reverse.lookup y) → News s.heap L' h₁ [] → 
      wpN (model prog w) (A.deeper (envOf qual scope L' f cdv)) (execs body (envOf qual scope L' f cdv))
        (fun fl s' => R (.ok (.ret (match fl with | .ret v => v | _ => .none))) s') (fun _ _ => False)
        { s with heap := h₁, toks := s.toks + binds.length })
    (hco : scope.isCoroutine = false) (hgen : scope.isGenerator = false) (hk : scope.kind = .function)
    (hcell : ∀ x ∈ scope.names, x.2 ≠ .cell) : codeN (model prog w) A (.call (.ref f) args) R s := by
  refine codeN_call_def (fd := fnOf name qual params body scope dV kV doc pm an cdv ct) (body := body) (binds := binds) hroom (X _ _ ho) rfl T.nolimit (codeRec_of X hcd) rfl hbind hcell hloc (fun h₁ hns hk₁ => ?_) hco hgen hk
  exact wpN_mono (h s.heap.objs.size h₁ ⟨hns, hk₁, Nat.le_refl _⟩ News.nil) (fun _ _ q => q) fun _ _ q => q.elim
theorem fr_keep {h₀ h h' : Heap} {L : Addr} {m : Str → Option Value} (F : Fr h₀ L h m) (k : ∀ b o, h.get? b = some o → h'.get? b = some o) : Fr h₀ L h' m :=
  ⟨F.ns.keeps k, fun b o e => k b o (F.keep b o e), F.above⟩
theorem news_keep {h₀ h h' : Heap} {L : Addr} {news : List (Addr × Obj)} (N : News h₀ L h news) (k : ∀ b o, h.get? b = some o → h'.get? b = some o) : News h₀ L h' news :=
  fun p hp => ⟨k _ _ (N p hp).1, (N p hp).2⟩
end
end
noncomputable section
theorem lk_ba_set : typeLookup (.type "bytearray") (Str.ofString "__setitem__") = pure (some (.builtin "bytearray.__setitem__")) := by rw [typeLookup_type, builtinLookup_eq_fast]; kernel_rfl
theorem slot_ba_set : Slot "bytearray" (Str.ofString "__setitem__") "bytearray.__setitem__" :=
  .of (owner := "bytearray") (n := "__setitem__") lk_ba_set (by decide +kernel) (by decide +kernel) (by decide +kernel)
    (by first | exact .inl (by decide +kernel) | exact .inr (by decide +kernel)) sub_ba
theorem args_ba_set (a b c : Value) : argsOk "bytearray.__setitem__" ⟨[a, b, c], []⟩ := by
  unfold argsOk; kernel_rfl
theorem entry_ba_set : entryFor table "bytearray.__setitem__" = some Builtin.«bytearray.__setitem__» := entryFor_of_tree (by kernel_rfl)
section
variable {prog : Program} {w : World} {A : Around} {E : Value → Shared → Prop} {s : Shared}
theorem setItem_ba {a : Addr} {b : Array UInt8} {k v : Int} {t t' : Tok} {Q : Unit → Shared → Prop} (ha : s.heap.get? a = some ⟨.type "bytearray", none, .bytearray b 0, #[]⟩)
    (h0 : 0 ≤ k) (hn : k < b.size) (hb : b.size ≤ 64) (hv : 0 ≤ v) (hv' : v < 256)
    (hQ : ∀ h', h'.get? a = some ⟨.type "bytearray", none, .bytearray (b.setIfInBounds k.toNat v.toNat.toUInt8) 0, #[]⟩ → Heap.SameBut a s.heap h' → Q () { s with heap := h' }) :
    wpAny (model prog w) A (setItem (.ref a) (.int k t) (.int v t')) Q E s := by
  have hT := typeIs_ba ha
  unfold setItem
  try with_reducible refine wpAny_holding ?_
  refine wpAny_bind (wpAny_sequenceKey hT (by decide) ?_)
  refine wpAny_bind (wpAny_callSpecial?_slot (name := Str.ofString "__setitem__") hT slot_ba_set
    (wpAny_call_entry slot_ba_set hT entry_ba_set ?_ (args_ba_set _ _ _)))
  have hi := lk_int_index
  have hf : Builtin.Bytes.fitsIndex k = true := by unfold Builtin.Bytes.fitsIndex; simp; lia
  have hs : seqIndex? k b.size = some k.toNat := by unfold seqIndex?; simp; lia
  have hv1 : (v < 0 || v ≥ 256) = false := by simp; lia
  show wpAny _ _ (Builtin.Bytes.subscript? (.int k t) >>= _) _ _ s
  unfold Builtin.Bytes.subscript?
  wp_walk
  rw [hs]
  refine wpAny_bind (write_ba (by simp; exact hb) ha fun h' e1 e2 => ?_)
  wp_walk
  exact ⟨_, rfl, wpAny_pure (hQ h' e1 e2)⟩
end
end
noncomputable section
open PySem PySem.W PySem.W.X PySem.Spec PySem.Calls PyProof.Rows
theorem kw_6 : True := by
  k_with_none
  k_with "g1" => refine by_goal fun zG zh => ?_
  k_with "g2" => (refine zh ?_; clear zh zG)
  trivial
theorem kw_5 : True := by
  k_with "xc" => exact hQ _ _
  trivial
theorem call_bytes_ba {prog : Program} {w : World} {A : Around} {E : Value → Shared → Prop} {s : Shared} {a : Addr} {b : Array UInt8} {Q : Value → Shared → Prop} (ha : s.heap.get? a = some ⟨.type "bytearray", none, .bytearray b 0, #[]⟩) (hb : b.size ≤ 64)
   (hQ : ∀ tk tk', Q (.bytes b tk) { s with toks := tk' }) : wpAny (model prog w) A (call (.type "bytes") [.ref a] []) Q E s := by
  x_run
theorem setItem_baK {prog : Program} {w : World} {A : Around} {E : Value → Shared → Prop} {s : Shared} {h₀ : Heap} {L a : Addr} {m : Str → Option Value} {news news' : List (Addr × Obj)} {b : Array UInt8} {k v : Int} {t t' : Tok} {Q : Unit → Shared → Prop}
    (F : Fr h₀ L s.heap m) (N : News h₀ L s.heap news) (U : Upd a ⟨.type "bytearray", none, .bytearray b 0, #[]⟩ ⟨.type "bytearray", none, .bytearray (b.setIfInBounds k.toNat v.toNat.toUInt8) 0, #[]⟩ news news')
    (h0 : 0 ≤ k) (hn : k < b.size) (hb : b.size ≤ 64) (hv : 0 ≤ v) (hv' : v < 256)
    (h : ∀ h', Fr h₀ L h' m → News h₀ L h' news' → Q () { s with heap := h' }) : wpAny (model prog w) A (setItem (.ref a) (.int k t) (.int v t')) Q E s := by
  k_extra "g1"
  obtain ⟨pre, post, rfl, rfl, e1, e2⟩ := U.split
  k_extra "g2"
  have z := N (a, _) (List.mem_append.mpr (.inr (.head _)))
  exact setItem_ba z.1 h0 hn hb hv hv' fun h' ho' hs => h h' (F.change hs z.2.1 z.2.2) (news_set N e1 e2 hs ho')
theorem call_bytes_baK {prog : Program} {w : World} {A : Around} {E : Value → Shared → Prop} {s : Shared} {h₀ : Heap} {L a : Addr} {news : List (Addr × Obj)} {b : Array UInt8} {Q : Value → Shared → Prop} 
    (N : News h₀ L s.heap news) (hm : (a, (⟨.type "bytearray", none, .bytearray b 0, #[]⟩ : Obj)) ∈ news) (hb : b.size ≤ 64)
    (hQ : ∀ tk tk', Q (.bytes b tk) { s with toks := tk' }) : wpAny (model prog w) A (call (.type "bytes") [.ref a] []) Q E s := call_bytes_ba (N _ hm).1 hb hQ
theorem news_new_keep {h₀ h h' : Heap} {L : Addr} {m : Str → Option Value} {news : List (Addr × Obj)} {o : Obj} (F : Fr h₀ L h m) (N : News h₀ L h news) (k : ∀ b o, h.get? b = some o → h'.get? b = some o) (ho : h'.get? h.objs.size = some o) : News h₀ L h' ((h.objs.size, o) :: news) := by
  k_extra "g1"
  obtain ⟨oL, _, _, hL, _⟩ := F.ns
  k_extra "g2"
  intro p hp
  rcases List.mem_cons.mp hp with rfl | hp
  · refine ⟨ho, Nat.ne_of_gt (Heap.lt_size hL), ?_⟩
    cases hq : h₀.get? h.objs.size with
    | none => rfl
    | some o' => exact absurd (Heap.lt_size (F.keep _ _ hq)) (Nat.lt_irrefl _)
  · exact ⟨k _ _ (N p hp).1, (N p hp).2⟩
end
noncomputable section
noncomputable abbrev Ak (dp un : Nat) (fr : Option (List Env)) (gd : Option (List Code)) : Around := { handled := none, depth := dp, frames := fr, guards := gd, units := un }
section
variable {prog : Program} {w : World} {A : Around} {E : Value → Shared → Prop} {s : Shared} {env : Env} {h₀ : Heap} {x : Str} {body : List Stmt} {Q : Flow → Shared → Prop}
theorem kw_7 : True := by
  k_with_none
  k_with "g1" => refine by_goal fun zG zh => ?_
  k_with "g2" => (refine zh ?_; clear zh zG)
  trivial
theorem iter_downN {r : Addr} {a₀ b₀ : Int} {t₀ u₀ v₀ : Tok} {n : Nat} {m₀ : Str → Option Value} {news : List (Addr × Obj)} (J : Nat → (Str → Option Value) → List (Addr × Obj) → Prop)
    (hh : A.handled = none) (hr : IsRange s.heap r a₀ b₀ (-1) t₀ u₀ v₀) (hsmall : Builtin.Range.small a₀ b₀ (-1) = true) (hn : Builtin.Range.rangeSize a₀ b₀ (-1) = (n : Int)) (F : Fr h₀ env.locals s.heap m₀) (N : News h₀ env.locals s.heap news) (hj : J 0 m₀ news)
    (turn : ∀ i t m₁ news₁ h tk own, i < n → news₁.map (·.1) = news.map (·.1) → OwnOff own (news.map (·.1)) → J i m₁ news₁ → Fr h₀ env.locals h (fun y => if y = x then some (.int (a₀ - (i : Int)) t) else m₁ y) → News h₀ env.locals h (news₁ ++ own) →
      wpAny (model prog w) A (execs body env) (InvPostN h₀ env.locals (J (i + 1)) own (news.map (·.1)) { s with heap := h, toks := tk } Q) E { s with heap := h, toks := tk })
    (done : ∀ m₁ news₁ h tk, J n m₁ news₁ → Fr h₀ env.locals h m₁ → News h₀ env.locals h news₁ → Q .next { s with heap := h, toks := tk }) :
    wpAny (model prog w) A (pyIter (.ref r)) (fun it s₂ => LoopAtV prog w A h₀ env x body Q E it s₂) E s := by
  refine wpAny_pyIter_range hr hsmall ?_
  have W : Walks prog w A s.heap.objs.size [s.heap.objs.size] [s.heap.objs.size] n (fun i v => i < n ∧ ∃ t, v = .int (a₀ + i * (-1)) t)
      (fun i h => IsRangeIter h s.heap.objs.size (a₀ + (i : Nat) * (-1)) ((n : Int) - (i : Nat)) (-1)) := (Walks.range hh _ a₀ (-1) n).bound
  refine loop_invN J W ?_ ?_ ?_ ?_ (by show IsRangeIter _ _ _ _ _; rw [hn]; simpa using Heap.get?_push_size _ rfl) (F.push _) (fun p hp => ⟨Heap.get?_push_of_some _ (N p hp).1, (N p hp).2⟩) hj ?_ ?_
  · intro hm
    exact absurd F.ns.lt ((List.mem_singleton.mp hm) ▸ Nat.lt_irrefl _)
  · intro b hb
    rw [List.mem_singleton.mp hb]
    exact next_is_new F
  · intro p hp hI
    exact absurd (Heap.lt_size (N p hp).1) ((List.mem_singleton.mp hI) ▸ Nat.lt_irrefl _)
  · intro p hp hI
    exact absurd (Heap.lt_size (N p hp).1) ((List.mem_singleton.mp hI) ▸ Nat.lt_irrefl _)
  · rintro i v m₁ nx h tk own hi zx
    k_extra "g1"
    obtain ⟨_, t, rfl⟩ := zx
    k_extra "g2"
    rintro ha hoff hJ F₁ N₁
    have e1 : a₀ + (i : Int) * (-1) = a₀ - (i : Int) := by lia
    rw [e1] at F₁
    exact turn i t m₁ nx h tk own hi ha hoff hJ F₁ N₁
  · exact done
end
end
noncomputable section
section
variable {M : Model} {A : Around} {E : Value → Shared → Prop} {R : Result → Shared → Prop} {s : Shared} {env : Env}
theorem kw_8 : True := by
  k_with_none
  k_with "g1" => refine by_goal fun zG zh => ?_
  k_with "g2" => (refine zh ?_; clear zh zG)
  trivial
theorem codeN_loop {c : Code} (hq : c.quiet = true) (hd : notDec c = true) (I : Nat → Shared → Prop)
    (turn : ∀ n s, I n s → wpN M (A.under c) (M.den c)
      (fun fin s' => match fin with | .done f => R (.ok f) s' | .again c' => c' = c ∧ ∃ m, m < n ∧ I m s') (fun e s' => R (.error e) s') s)
    (n : Nat) (h : I n s) : codeN M A c R s := by
  induction n using Nat.strongRecOn generalizing s with
  | ind n ih =>
    refine codeN_of_tree (wpN_mono (turn n s h) (fun fin s' hf => ?_) fun _ _ h' => h')
    cases fin with
    | done f => exact hf
    | again c' => obtain ⟨rfl, m, hm, hI⟩ := hf; exact ⟨hq, hd, ih m hm hI⟩
theorem wpN_of_eq {α : Type} {t t' : Sem α} {Q : α → Shared → Prop} (e : t = t') (h : wpN M A t' Q E s) : wpN M A t Q E s := e ▸ h
theorem wpN_never {α : Type} {t : Sem α} {k : Value → Sem Unit} {Q : α → Shared → Prop} (h : wpN M A t Q (fun _ _ => False) s) : wpN M A (t.onRaise k) Q E s :=
  wpN_onRaise (wpN_mono h (fun _ _ q => q) fun _ _ q => q.elim)
theorem wpN_attempt {α : Type} {m : Sem α} {Q : Except Value α → Shared → Prop} (h : wpN M A m (fun a => Q (.ok a)) (fun e => Q (.error e)) s) :
    wpN M A m.attempt Q E s := fun Γ p hΓ hN => by rw [Sem.wp_attempt]; exact h Γ p hΓ hN
theorem wpN_standIf {α : Type} {c : Prop} [Decidable c] {pos : Pos} {k : PUnit → Sem α} {Q : α → Shared → Prop} (h : wpN M A (k ()) Q E s) :
    wpN M A (if c then (standAt pos >>= k) else k ()) Q E s := by
  split
  · exact wpN_bind (wpN_standAt h)
  · exact h
theorem comprehension_N {e : Expr} {scope : Scope} {pos : Pos} {newAcc first : Sem Value} {g : Comprehension} {gs : List Comprehension} {Q : Value → Shared → Prop} (hdc : ∀ it acc cenv, notDec (.compStart e 0 it acc cenv) = true)
    (hcl : clausesOf e = g :: gs) (hs : ∀ x, foldedSetIterable g.iter env x = pure x)
    (hfree : ∀ x ∈ scope.names, x.2 ≠ .free) (hkind : scope.kind = .function) (hnames : ∀ x ∈ scope.names, x.2 = .local → scope.names.lookup x.1 = some .local)
    (h : wpN M A first (fun x s₁ => wpAny M A (pyIter x) (fun it s₂ => wpAny M A newAcc (fun acc s₃ =>
      wpAny M A (newFunctionEnv scope env.globals [] [] env.qual none .none (some env)) (fun cenv s₄ =>
        codeN M A (.compStart e 0 it acc { cenv with scope := scope }) (fun r s' => ∃ m, s'.heap.Ns cenv.locals m ∧ ∀ h', Heap.SameBut cenv.locals s'.heap h' →
          match r with | .ok _ => Q acc { s' with heap := h' } | .error _ => False) s₄) E s₃) E s₂) E s₁) E s) :
    wpN M A (comprehension e scope env pos newAcc false first) Q E s := by
  unfold comprehension
  rw [closureFor_none hfree, hcl]
  refine wpN_bind (wpN_mono h (fun x s₁ h₁ => wpN_bind (wpN_standAt (wpN_bind (wpN_of_eq (hs x) (wpN_pure (wpN_bind (wpN_holding (wpN_of_any (wpAny_mono h₁ (fun it s₂ h₂ =>
    wpN_standIf (wpN_bind (wpN_of_any (wpAny_mono h₂ (fun acc s₃ h₃ => wpN_bind (wpN_pure (wpN_bind (wpN_of_any (wpAny_mono h₃ (fun cenv s₄ h₄ => ?_) fun _ _ h' => h'))))) fun _ _ h' => h'))))
      fun _ _ h' => h'))))))))) fun _ _ h' => h')
  dsimp only
  rw [map_eq_self (l := scope.names) (fun x hx => by
    obtain ⟨n, k⟩ := x
    have : (k == NameKind.free) = false := by simpa using hfree _ hx
    simp [this])]
  have hv : ∀ x ∈ (scope.names.filter fun x => (x.2 == .local || x.2 == .cell) && x.1 != (".0" : Str)).reverse, x.2 = .local →
      Env.kindOf { cenv with scope := scope } x.1 = some .local := fun x hx hl => hnames x (List.mem_filter.mp (List.mem_reverse.mp hx)).1 hl
  refine wpN_holding (wpN_bind (wpN_attempt (wpN_holding (wpN_run (hdc _ _ _) (codeN_mono h₄ fun r s' hr => ?_)))))
  k_extra "g1"
  obtain ⟨m, hn, hr⟩ := hr
  k_extra "g2"
  cases r with
  | ok f => exact wpN_of_any (wpAny_bind (wpAny_holding (wpAny_comp_letGo (cenv := { cenv with scope := scope }) hkind _ s' m hv hn fun h' m' _ hs' => wpAny_pure (hr h' hs'))))
  | error x => exact (hr s'.heap (Heap.SameBut.refl ..)).elim
end
section
variable {prog : Program} {w : World} {A : Around} {E : Value → Shared → Prop} {R : Result → Shared → Prop} {s : Shared} {env : Env}
theorem compStart_N {elt target iter ifs rest scope pos it acc env}
    (h0 : codeN (model prog w) A (.compLoop (.ListComp elt (⟨target, iter, ifs, 0⟩ :: rest) scope pos) 0 it acc env) R s)
    (h : wpAny (model prog w) A (pyIter it) (fun it' s' => codeN (model prog w) A (.compLoop (.ListComp elt (⟨target, iter, ifs, 0⟩ :: rest) scope pos) 0 it' acc env) R s')
      (fun _ _ => False) s) :
    codeN (model prog w) A (.compStart (.ListComp elt (⟨target, iter, ifs, 0⟩ :: rest) scope pos) 0 it acc env) R s := by
  refine codeN_of_tree ?_
  show wpN _ _ ((compStart (.ListComp elt (⟨target, iter, ifs, 0⟩ :: rest) scope pos) 0 it acc env).onRaise (fun x => do noteFrame x env; standAt theWindowsPlace)) _ _ s
  refine wpN_never ?_
  unfold compStart
  show wpN _ _ (ask >>= _) _ _ s
  refine wpN_bind (wpN_of_any (wpAny_askSetting ?_))
  split
  · exact wpN_pure ⟨rfl, rfl, h0⟩
  · refine wpN_bind (wpN_of_any (wpAny_rule ?_))
    show wpN _ _ (standAt iter.pos >>= _) _ _ s
    exact wpN_bind (wpN_standAt (wpN_bind (wpN_of_any (wpAny_mono h (fun it' s' h' => wpN_pure ⟨rfl, rfl, h'⟩) fun _ _ x => x))))
theorem compLoop_N {elt target iter : Expr} {scope : Scope} {pos : Pos} {it acc : Value} {env : Env} (I : Nat → Shared → Prop)
    (turn : ∀ n s, I n s → wpAny (model prog w) A (pyNext it) (fun r s₁ => match r with
      | none => R (.ok .next) s₁
      | some v => wpAny (model prog w) A (assign target env v) (fun _ s₂ => wpN (model prog w) A (eval elt env) (fun x s₃ =>
          wpAny (model prog w) A (call (.builtin "list.append") [acc, x]) (fun _ s₄ => ∃ m, m < n ∧ I m s₄) (fun _ _ => False) s₃)
          (fun _ _ => False) s₂) (fun _ _ => False) s₁) (fun _ _ => False) s)
    (n : Nat) (h : I n s) (ht : ∀ v, letOwnedTupleGo target it v = pure () := by intro _; rfl) :
    codeN (model prog w) A (.compLoop (.ListComp elt [⟨target, iter, [], 0⟩] scope pos) 0 it acc env) R s := by
  refine codeN_loop rfl rfl I (fun n s hI => ?_) n h
  show wpN _ A ((compTurn (.ListComp elt [⟨target, iter, [], 0⟩] scope pos) 0 it acc env).onRaise (fun x => do noteFrame x env; theTreesLotGoes x)) _ _ s
  refine wpN_never ?_
  rw [compTurn_list1]
  refine wpN_bind (wpN_standAt (wpN_bind (wpN_of_any (wpAny_mono (turn n s hI) (fun r s₁ h₁ => ?_) fun _ _ h' => h'))))
  cases r with
  | none => exact wpN_pure h₁
  | some v =>
    refine wpN_bind (wpN_of_eq (ht v) (wpN_pure ?_))
    exact wpN_bind (wpN_of_any (wpAny_mono h₁ (fun _ s₂ h₂ => wpN_bind (wpN_bind (wpN_mono h₂ (fun x s₃ h₃ => wpN_bind (wpN_of_any (wpAny_mono h₃
      (fun _ s₄ h₄ => wpN_pure (wpN_pure ⟨rfl, h₄⟩)) fun _ _ h' => h'))) fun _ _ h' => h'))) fun _ _ h' => h'))
end
namespace compMap_N
noncomputable def St0 (prog : Program) (w : World) (A : Around) (R : Result → Shared → Prop) (s : Shared) (elt : Expr) (iter : Expr) (x : Str) (px : Pos) (scope : Scope) (pos : Pos) (I : Addr) (ax : Addr) (D : Addr) (cenv : Env) (items : Array Value) (m : Str → Option Value) : Prop := ∀ (G : Value → Value → Prop) (hh : A.handled = none) (hx : cenv.kindOf x = some .local) (hp : (cenv.scope.kind == .class || (cenv.scope.kind == .module && cenv.locals != cenv.globals)) = false) (hDI : D ≠ I) (hDC : D ≠ cenv.locals) (hIC : I ≠ cenv.locals) (haI : ax ≠ I) (haC : ax ≠ cenv.locals) (haD : ax ≠ D) (hit : s.heap.IsListIter I ax 0) (hl : s.heap.IsList ax items) (hacc : s.heap.IsList D #[]) (hn : s.heap.Ns cenv.locals m) (helt : ∀ v s₂ m₂, v ∈ items → s₂.heap.Ns cenv.locals m₂ → m₂ x = some v → (∃ h t, s₂ = { s with heap := h, toks := t }) → (∀ b o, b ≠ cenv.locals → b ≠ I → b ≠ D → s.heap.get? b = some o → s₂.heap.get? b = some o) →
      wpN (model prog w) A (eval elt cenv) (fun y s₃ => G v y ∧ Keeps s₂ s₃) (fun _ _ => False) s₂) (hR : ∀ h' tk m' ys, h'.Ns cenv.locals m' → h'.IsList D ys → Paired G items.toList ys.toList →
      (∀ b o, b ≠ cenv.locals → b ≠ I → b ≠ D → s.heap.get? b = some o → h'.get? b = some o) → R (.ok .next) { s with heap := h', toks := tk }) (hsz : items.size ≤ sizeLine),
   codeN (model prog w) A (.compLoop (.ListComp elt [⟨.Name x px, iter, [], 0⟩] scope pos) 0 (.ref I) (.ref D) cenv) R s
noncomputable abbrev Ty0 : Type := (Program) × (World) × (Around) × (Result → Shared → Prop) × (Shared) × (Expr) × (Expr) × (Str) × (Pos) × (Scope) × (Pos) × (Addr) × (Addr) × (Addr) × (Env) × (Array Value) × (Str → Option Value)
theorem ne0 : Nonempty Ty0 := ⟨Classical.choice inferInstance, Classical.choice neW, Classical.choice neA, Classical.choice inferInstance, Classical.choice neS, Classical.choice inferInstance, Classical.choice inferInstance, Classical.choice inferInstance, Classical.choice inferInstance, Classical.choice inferInstance, Classical.choice inferInstance, Classical.choice inferInstance, Classical.choice inferInstance, Classical.choice inferInstance, Classical.choice inferInstance, Classical.choice inferInstance, Classical.choice inferInstance⟩
noncomputable def P0 (vv0 : Ty0) : Prop := St0 (vv0.1) (vv0.2.1) (vv0.2.2.1) (vv0.2.2.2.1) (vv0.2.2.2.2.1) (vv0.2.2.2.2.2.1) (vv0.2.2.2.2.2.2.1) (vv0.2.2.2.2.2.2.2.1) (vv0.2.2.2.2.2.2.2.2.1) (vv0.2.2.2.2.2.2.2.2.2.1) (vv0.2.2.2.2.2.2.2.2.2.2.1) (vv0.2.2.2.2.2.2.2.2.2.2.2.1) (vv0.2.2.2.2.2.2.2.2.2.2.2.2.1) (vv0.2.2.2.2.2.2.2.2.2.2.2.2.2.1) (vv0.2.2.2.2.2.2.2.2.2.2.2.2.2.2.1) (vv0.2.2.2.2.2.2.2.2.2.2.2.2.2.2.2.1) (vv0.2.2.2.2.2.2.2.2.2.2.2.2.2.2.2.2)
@[irreducible] def vv0 : Ty0 := @ata _ ne0 0 P0
@[irreducible] def w : World := vv0.2.1
@[irreducible] def A : Around := vv0.2.2.1
@[irreducible] def R : Result → Shared → Prop := vv0.2.2.2.1
@[irreducible] def s : Shared := vv0.2.2.2.2.1
@[irreducible] def elt : Expr := vv0.2.2.2.2.2.1
@[irreducible] def x : Str := vv0.2.2.2.2.2.2.2.1
@[irreducible] def I : Addr := vv0.2.2.2.2.2.2.2.2.2.2.2.1
@[irreducible] def ax : Addr := vv0.2.2.2.2.2.2.2.2.2.2.2.2.1
@[irreducible] def D : Addr := vv0.2.2.2.2.2.2.2.2.2.2.2.2.2.1
@[irreducible] def cenv : Env := vv0.2.2.2.2.2.2.2.2.2.2.2.2.2.2.1
@[irreducible] def items : Array Value := vv0.2.2.2.2.2.2.2.2.2.2.2.2.2.2.2.1
@[irreducible] def m : Str → Option Value := vv0.2.2.2.2.2.2.2.2.2.2.2.2.2.2.2.2
theorem prf0 : St0 (vv0.1) w A R s elt (vv0.2.2.2.2.2.2.1) x (vv0.2.2.2.2.2.2.2.2.1) (vv0.2.2.2.2.2.2.2.2.2.1) (vv0.2.2.2.2.2.2.2.2.2.2.1) I ax D cenv items m := by
  intro G hh hx hp hDI hDC hIC haI haC haD hit hl hacc hn helt hR hsz
  refine compLoop_N
    (fun k s' => ∃ h' tk m' ys i, s' = { s with heap := h', toks := tk } ∧ h'.IsListIter I ax i ∧ h'.IsList ax items ∧ h'.IsList D ys ∧ h'.Ns cenv.locals m' ∧
      Paired G (items.toList.take i) ys.toList ∧ i ≤ items.size ∧ k = items.size + 1 - i ∧
      ∀ b o, b ≠ cenv.locals → b ≠ I → b ≠ D → s.heap.get? b = some o → h'.get? b = some o) ?_ (items.size + 1)
    ⟨s.heap, s.toks, m, #[], 0, rfl, hit, hl, hacc, hn, by simpa using Paired.nil, Nat.zero_le _, rfl, fun _ _ _ _ _ e => e⟩
  rintro k s' zx
  k_extra "g1"
  obtain ⟨H, tk, m', ys, i, rfl, hit', hl', hacc', hn', hF, hi, rfl, hk⟩ := zx
  k_extra "g2"
  cases hv : items[i]? with
  | none =>
    have hsz : items.toList.length ≤ i := by simpa using hv
    refine wpAny_pyNext_list_end hh hit' hl' hv fun h₁ he₁ => ?_
    refine hR h₁ tk m' ys (hn'.extBut he₁ (Ne.symm hIC)) (hacc'.extBut he₁ hDI) ?_ fun b o hbC hbI hbD e => he₁ b o hbI (hk b o hbC hbI hbD e)
    rwa [List.take_of_length_le hsz] at hF
  | some v =>
    have hlt : i < items.size := (Array.getElem?_eq_some_iff.mp hv).1
    have hmem : v ∈ items := by obtain ⟨h1, rfl⟩ := Array.getElem?_eq_some_iff.mp hv; exact Array.getElem_mem h1
    have hvl : items.toList[i]? = some v := by simpa using hv
    refine wpAny_pyNext_list_item hit' hl' hv fun h₁ hit₁ hs₁ => ?_
    refine wpAny_assign_Name (wpAny_storeName_local hx (hn'.sameBut hs₁ (Ne.symm hIC)) (fun h₂ hn₂ hs₂ => ?_) hp)
    have up₂ : ∀ b o, b ≠ cenv.locals → b ≠ I → H.get? b = some o → h₂.get? b = some o := fun b o hbC hbI e => hs₂.extBut b o hbC (hs₁.extBut b o hbI e)
    refine wpN_mono (helt v _ _ hmem hn₂ (by simp) ⟨_, _, rfl⟩ fun b o hbC hbI hbD e => up₂ b o hbC hbI (hk b o hbC hbI hbD e)) (fun y s₄ h₄ => ?_) fun _ _ e => e
    k_extra "g1"
    obtain ⟨hFy, h₄, tk₄, rfl, hk₄⟩ := h₄
    k_extra "g2"
    have hit₃ : h₂.IsListIter I ax (i + 1) := (hit₁.extBut hs₂.extBut hIC)
    have hl₃ : h₂.IsList ax items := hl'.at fun o e => up₂ ax o haC haI e
    have hacc₃ : h₂.IsList D ys := hacc'.at fun o e => up₂ D o hDC hDI e
    have hys : ys.size ≤ sizeLine := by
      have e1 := hF.length
      have e3 : (items.toList.take i).length ≤ items.size := by rw [List.length_take]; simp; lia
      have e4 : ys.toList.length = ys.size := by simp
      lia
    refine wpAny_list_append (hsz := hys) (hacc₃.at fun o e => hk₄ _ o e) fun h₅ hl₅ hs₅ => ?_
    refine ⟨items.size + 1 - (i + 1), by lia, h₅, tk₄, _, ys.push y, i + 1, rfl, (hit₃.at fun o e => hk₄ _ o e).extBut hs₅.extBut (Ne.symm hDI), (hl₃.at fun o e => hk₄ _ o e).extBut hs₅.extBut haD, hl₅,
      (hn₂.keeps hk₄).sameBut hs₅ (Ne.symm hDC), ?_, hlt, rfl, fun b o hbC hbI hbD e => hs₅.extBut b o hbD (hk₄ b o (up₂ b o hbC hbI (hk b o hbC hbI hbD e)))⟩
    rw [List.take_add_one, hvl]
    simpa using Paired.snoc hF hFy
end compMap_N
theorem compMap_N {prog : Program} {w : World} {A : Around} {R : Result → Shared → Prop} {s : Shared} {elt : Expr} {iter : Expr} {x : Str} {px : Pos} {scope : Scope} {pos : Pos} {I : Addr} {ax : Addr} {D : Addr} {cenv : Env} {items : Array Value} {m : Str → Option Value} : compMap_N.St0 prog w A R s elt iter x px scope pos I ax D cenv items m :=
  @ata_spec _ compMap_N.ne0 0 compMap_N.P0 (by with_unfolding_all exact compMap_N.prf0) (prog, w, A, R, s, elt, iter, x, px, scope, pos, I, ax, D, cenv, items, m)
section
variable {prog : Program} {w : World} {A : Around} {E : Value → Shared → Prop} {R : Result → Shared → Prop} {s : Shared} {env : Env}
theorem ListComp_N {elt iter : Expr} {x : Str} {px : Pos} {scope : Scope} {pos : Pos} {Q : Value → Shared → Prop} (G : Value → Value → Prop)
    (hh : A.handled = none) (hfree : ∀ y ∈ scope.names, y.2 ≠ .free) (hcell : ∀ y ∈ scope.names, y.2 ≠ .cell) (hkind : scope.kind = .function)
    (hnames : ∀ y ∈ scope.names, y.2 = .local → scope.names.lookup y.1 = some .local) (hx : scope.names.lookup x = some .local)
    (h : wpN (model prog w) A (eval iter env) (fun xv s₁ => ∃ ax items, xv = .ref ax ∧ s₁.heap.IsList ax items ∧ items.size ≤ sizeLine ∧
      (∀ C v s₂ m₂, v ∈ items → s₁.heap.objs.size ≤ C → s₂.heap.Ns C m₂ → m₂ x = some v → (∃ h t, s₂ = { s₁ with heap := h, toks := t }) → (∀ b o, s₁.heap.get? b = some o → s₂.heap.get? b = some o) → wpN (model prog w) A (eval elt (compEnv scope C env)) (fun y s₃ => G v y ∧ Keeps s₂ s₃) (fun _ _ => False) s₂) ∧
      (∀ D h' tk ys, s₁.heap.get? D = none → h'.IsList D ys → Paired G items.toList ys.toList → (∀ b o, s₁.heap.get? b = some o → h'.get? b = some o) →
        Q (.ref D) { s₁ with heap := h', toks := tk })) E s)
    (hs : ∀ x, foldedSetIterable iter env x = pure x := by intro _; rfl) :
    wpN (model prog w) A (eval (.ListComp elt [⟨.Name x px, iter, [], 0⟩] scope pos) env) Q E s := by
  rw [eval_ListComp]
  refine comprehension_N (fun _ _ _ => rfl) rfl hs hfree hkind hnames (wpN_mono h (fun xv s₁ h₁ => ?_) fun _ _ e => e)
  k_extra "g1"
  obtain ⟨ax, items, rfl, hl, hsz, helt, hQ⟩ := h₁
  k_extra "g2"
  refine wpAny_pyIter_list hl (wpAny_newObj_type (hd := by size_fits) (wpAny_newFunctionEnv hcell (by intro y hy; simp at hy) (fun h₁ hns₁ hsb₁ => ?_) hkind))
  dsimp only at hns₁ hsb₁ ⊢
  k_extra "g1"
  obtain ⟨ol, hol, hol'⟩ := id hl
  k_extra "g2"
  have hax : ax < s₁.heap.objs.size := Heap.lt_size hol
  generalize hH1 : s₁.heap.push { cls := .type "list_iterator", data := .fields #[.ref ax, .int 0 0] } = H1 at hns₁ hsb₁ ⊢
  have hD : H1.objs.size = s₁.heap.objs.size + 1 := by rw [← hH1, Heap.size_push]
  generalize hH2 : H1.push { cls := .type "list", dict := none, data := .seq ([] : List Value).toArray } = H2 at hns₁ hsb₁ ⊢
  have hC : H2.objs.size = s₁.heap.objs.size + 2 := by rw [← hH2, Heap.size_push, hD]
  have hDI : H1.objs.size ≠ s₁.heap.objs.size := by lia
  have hDC : H1.objs.size ≠ H2.objs.size := by lia
  have hIC : s₁.heap.objs.size ≠ H2.objs.size := by lia
  have below : ∀ b, b < s₁.heap.objs.size → b ≠ H2.objs.size ∧ b ≠ s₁.heap.objs.size ∧ b ≠ H1.objs.size := fun b hb => by
    have hb' : @LT.lt Nat _ b s₁.heap.objs.size := hb
    refine ⟨?_, ?_, ?_⟩ <;> (intro e; lia)
  have old : ∀ b o, s₁.heap.get? b = some o → h₁.get? b = some o := fun b o e =>
    hsb₁.extBut b o (below b (Heap.lt_size e)).1 (Heap.get?_push_of_some _ (hH2 ▸ Heap.get?_push_of_some _ (hH1 ▸ Heap.get?_push_of_some _ e)))
  have hit : h₁.IsListIter s₁.heap.objs.size ax 0 :=
    ⟨_, hsb₁.extBut _ _ hIC (Heap.get?_push_of_some _ (hH2 ▸ Heap.get?_push_of_some _ (hH1 ▸ Heap.get?_push_size _ rfl))), rfl, rfl⟩
  have hacc : h₁.IsList H1.objs.size #[] := ⟨_, hsb₁.extBut _ _ hDC (Heap.get?_push_of_some _ (hH2 ▸ Heap.get?_push_size _ rfl)), rfl, _, rfl⟩
  have hl₁ : h₁.IsList ax items := ⟨ol, old _ _ hol, hol'⟩
  have hnew : s₁.heap.get? H1.objs.size = none := by
    cases e : s₁.heap.get? H1.objs.size with
    | none => rfl
    | some o' => have := Heap.lt_size e; rw [hD] at this; exact absurd this (Nat.not_lt.mpr (Nat.le_succ _))
  have loop : ∀ s₂ : Shared, s₂ = { s₁ with heap := h₁, toks := s₁.toks + ([] : List (Str × Value)).length } →
      codeN (model prog w) A (.compLoop (.ListComp elt [⟨.Name x px, iter, [], 0⟩] scope pos) 0 (.ref s₁.heap.objs.size) (.ref H1.objs.size) (compEnv scope H2.objs.size env))
        (fun r s' => ∃ m, s'.heap.Ns H2.objs.size m ∧ ∀ h', Heap.SameBut H2.objs.size s'.heap h' →
          match r with | .ok _ => Q (.ref H1.objs.size) { s' with heap := h' } | .error x => False) s₂ := by
    rintro s₂ rfl
    refine compMap_N (hsz := hsz) (cenv := compEnv scope H2.objs.size env) G hh hx (by simp [compEnv, hkind]) hDI hDC hIC (below ax hax).2.1 (below ax hax).1 (below ax hax).2.2 hit hl₁ hacc hns₁
      (fun v s₂ m₂ hv hn hm hst hk => helt _ v s₂ m₂ hv (by rw [hC]; exact Nat.le_add_right _ _) hn hm (by obtain ⟨h, t, rfl⟩ := hst; exact ⟨h, t, rfl⟩) fun b o e => hk b o (below b (Heap.lt_size e)).1 (below b (Heap.lt_size e)).2.1 (below b (Heap.lt_size e)).2.2 (old b o e)) fun h' tk m' ys hn ha hF hk => ?_
    exact ⟨m', hn, fun h'' hs'' => hQ _ h'' tk ys hnew (ha.extBut hs''.extBut hDC) hF fun b o e =>
      hs''.extBut b o (below b (Heap.lt_size e)).1 (hk b o (below b (Heap.lt_size e)).1 (below b (Heap.lt_size e)).2.1 (below b (Heap.lt_size e)).2.2 (old b o e))⟩
  exact compStart_N (loop _ rfl) (wpAny_pyIter_listiter hit (loop _ rfl))
end
end
noncomputable section
section
variable {prog : Program} {w : World} {A : Around} {E : Value → Shared → Prop} {s : Shared} {env : Env}
theorem Call_meth_N {o : Expr} {name : Str} {apos pos : Pos} {args : List Expr} {Q : Value → Shared → Prop}
    (h : wpN (model prog w) A (eval o env) (fun ov s₁ => wpAny (model prog w) A (getMethod ov name (do return (← importBound o env).getD true)) (fun fm s₂ =>
      wpN (model prog w) A (callWith pos fm.1 fm.2 (backTo pos (starEach args env)) []) Q E s₂) E s₁) E s)
    (hbase : attributeBase o name env (eval o env) = eval o env := by rfl)
    (hfew : ((backTo pos (starEach args env)).all (fun x => !x.1) && (backToKw pos (keywordEach [] env)).all (fun x => x.1.isSome)
      && decide (args.length + ([] : List Keyword).length + (if ([] : List Keyword).isEmpty then 0 else 1) < 30)) = true := by rfl)
    (hline : (apos.endLine == pos.line) = true := by rfl) :
    wpN (model prog w) A (eval (.Call (.Attribute o name apos) args [] pos) env) Q E s := by
  rw [arm_eval_Call, hbase]
  refine wpN_bind (wpN_mono h (fun ov s₁ h₁ => ?_) fun _ _ e => e)
  refine wpN_bind (wpN_standAt ?_)
  have hform : methodCallForm (args.length + ([] : List Keyword).length) (backTo pos (starEach args env)) (backToKw pos (keywordEach [] env)) = true := hfew
  have hpos : methodCallPos true o env apos pos = pure pos := by unfold methodCallPos; simp [hline]
  unfold methodCall
  rw [hform]
  refine wpN_bind (wpN_holding (wpN_of_any ?_))
  unfold calleeOf
  rw [if_pos rfl]
  refine wpAny_mono h₁ (fun fm s₂ h₂ => ?_) fun _ _ e => e
  obtain ⟨f, first⟩ := fm
  exact wpN_bind (wpN_of_eq hpos (wpN_pure h₂))
end
end
noncomputable section
section
variable {M : Model} {A : Around} {E : Value → Shared → Prop} {s : Shared} {env : Env}
theorem wpN_IfExp {test body orelse : Expr} {pos : Pos} {Q : Value → Shared → Prop}
    (h : wpN M A (isTrue test env (eval test env)) (fun b s₁ => if b then wpN M A (eval body env) Q E s₁ else wpN M A (eval orelse env) Q E s₁) E s) :
    wpN M A (eval (.IfExp test body orelse pos) env) Q E s := by
  rw [arm_eval_IfExp]
  refine wpN_bind (wpN_mono h (fun b s₁ h₁ => ?_) fun _ _ e => e)
  cases b <;> exact h₁
end
end
noncomputable section
section
variable {M : Model} {A : Around} {E : Value → Shared → Prop} {s : Shared} {env : Env}
theorem kw_9 : True := by
  k_with_none
  k_with "g1" => refine by_goal fun zG zh => ?_
  k_with "g2" => (refine zh ?_; clear zh zG)
  trivial
theorem wpN_Assign_Tuple {elts k tpos value pos} {Q : Flow → Shared → Prop}
    (h : wpN M A (eval value env) (fun v s₁ => wpAny M A (assign (.Tuple elts k tpos) env v) (fun _ => Q .next) E s₁) E s)
    (hs : swapsWithSole [.Tuple elts k tpos] value pos.line env = pure false := by rfl)
    (hw : swappedStores [.Tuple elts k tpos] value env = pure none := by rfl) :
    wpN M A (exec (.Assign [.Tuple elts k tpos] value pos) env) Q E s := by
  rw [exec_Assign]
  refine wpN_bind (wpN_standAt ?_)
  rw [hs]
  refine wpN_bind (wpN_pure ?_)
  rw [if_neg (by decide)]
  refine wpN_bind (wpN_mono h (fun v s₁ h₁ => ?_) fun _ _ x => x)
  rw [hw]
  refine wpN_bind (wpN_pure ?_)
  refine wpN_of_any ?_
  show wpAny M A (do assignAll v [assign (.Tuple elts k tpos) env]; pure .next) Q E s₁
  exact wpAny_bind (wpAny_mono h₁ (fun _ _ x => wpAny_pure x) fun _ _ x => x)
end
section
variable {prog : Program} {w : World} {A : Around} {E : Value → Shared → Prop} {R : Result → Shared → Prop} {s : Shared} {env : Env}
theorem codeN_loop' {M : Model} {c : Code} (hq : c.quiet = true) (hd : notDec c = true) (I : Nat → Shared → Prop)
    (turn : ∀ n s, I n s → wpN M (A.under c) (M.den c)
      (fun fin s' => match fin with | .done f => R (.ok f) s' | .again c' => (c' = c ∧ ∃ m, m < n ∧ I m s') ∨ (c'.quiet = true ∧ notDec c' = true ∧ codeN M A c' R s')) (fun e s' => R (.error e) s') s)
    (n : Nat) (h : I n s) : codeN M A c R s := by
  induction n using Nat.strongRecOn generalizing s with
  | ind n ih =>
    refine codeN_of_tree (wpN_mono (turn n s h) (fun fin s' hf => ?_) fun _ _ h' => h')
    cases fin with
    | done f => exact hf
    | again c' =>
      rcases hf with ⟨rfl, m, hm, hI⟩ | hf
      · exact ⟨hq, hd, ih m hm hI⟩
      · exact hf
theorem wpN_runOwn {c : Code} {Q : Flow → Shared → Prop} (hd : notDec c = true)
    (hc : codeN (model prog w) A c (fun r s' => match r with | .ok f => Q f s' | .error _ => False) s) :
    wpN (model prog w) A (runOwn c env) Q E s := by
  unfold runOwn
  refine wpN_never (wpN_run hd (codeN_mono hc fun r s' h => ?_) (by intro x; cases x))
  cases r <;> exact h
theorem codeN_blockNil (h : R (.ok .next) s) : codeN (model prog w) A (.block [] env) R s := codeN_of_any (codeAny_block (wpAny_execs_nil h))
theorem codeN_forLoop {target it body} (I : Nat → Shared → Prop)
    (turn : ∀ n s, I n s → wpAny (model prog w) A (pyNext it) (fun r s₁ => match r with
      | none => R (.ok .next) s₁
      | some v => wpAny (model prog w) A (assign target env v) (fun _ s₂ => wpN (model prog w) A (execs body env) (fun f s₃ => match f with
          | .next | .cont => ∃ m, m < n ∧ I m s₃
          | .brk => R (.ok .next) s₃
          | .ret v => R (.ok (.ret v)) s₃) (fun _ _ => False) s₂) (fun _ _ => False) s₁) (fun _ _ => False) s)
    (n : Nat) (h : I n s) (ht : ∀ v, letOwnedTupleGo target it v = pure () := by intro _; rfl) : codeN (model prog w) A (.forLoop target it body [] env) R s := by
  refine codeN_loop' rfl rfl I (fun n s hI => ?_) n h
  show wpN _ A ((forTurn target it body [] env).onRaise (fun x => do noteFrame x env; theTreesLotGoes x)) _ _ s
  refine wpN_never ?_
  unfold forTurn
  refine wpN_bind (wpN_standAt (wpN_bind (wpN_of_any (wpAny_onRaise (wpAny_mono (turn n s hI) (fun r s₁ h₁ => ?_) fun _ _ h' => h'.elim)))))
  cases r with
  | none => exact wpN_pure (.inr ⟨rfl, rfl, codeN_blockNil h₁⟩)
  | some v =>
    refine wpN_bind (wpN_of_eq (ht v) (wpN_pure ?_))
    refine wpN_bind (wpN_of_any (wpAny_mono h₁ (fun _ s₂ h₂ => wpN_bind (wpN_mono h₂ (fun f s₃ h₃ => ?_) fun _ _ h' => h')) fun _ _ h' => h'))
    cases f with
    | next => exact wpN_pure (.inl ⟨rfl, h₃⟩)
    | cont => exact wpN_pure (.inl ⟨rfl, h₃⟩)
    | brk => exact wpN_pure h₃
    | ret v => exact wpN_pure h₃
theorem codeN_whileLoop {test body} (I : Nat → Shared → Prop)
    (turn : ∀ n s, I n s → wpN (model prog w) A (isTrue test env (eval test env)) (fun b s₁ => 
      if b then wpN (model prog w) A (execs body env) (fun f s₃ => match f with
          | .next | .cont => ∃ m, m < n ∧ I m s₃
          | .brk => R (.ok .next) s₃
          | .ret v => R (.ok (.ret v)) s₃) (fun _ _ => False) s₁
      else R (.ok .next) s₁) (fun _ _ => False) s)
    (n : Nat) (h : I n s) : codeN (model prog w) A (.whileLoop test body [] env) R s := by
  refine codeN_loop' rfl rfl I (fun n s hI => ?_) n h
  show wpN _ A ((whileTurn test body [] env).onRaise (fun x => do noteFrame x env; theTreesLotGoes x)) _ _ s
  refine wpN_never ?_
  unfold whileTurn
  refine wpN_bind (wpN_mono (turn n s hI) (fun b s₁ h₁ => ?_) fun _ _ h' => h')
  cases b with
  | false => exact wpN_bind (wpN_execs_nil (wpN_pure h₁))
  | true =>
    refine wpN_bind (wpN_mono h₁ (fun f s₃ h₃ => ?_) fun _ _ h' => h')
    cases f with
    | next => exact wpN_pure (.inl ⟨rfl, h₃⟩)
    | cont => exact wpN_pure (.inl ⟨rfl, h₃⟩)
    | brk => exact wpN_pure h₃
    | ret v => exact wpN_pure h₃
theorem wpN_For {target iter body pos} {Q : Flow → Shared → Prop}
    (h : wpN (model prog w) A (eval iter env) (fun x s₁ => wpAny (model prog w) A (pyIter x) (fun it s₂ =>
      codeN (model prog w) A (.forLoop target it body [] env) (fun r s' => match r with | .ok f => Q f s' | .error _ => False) s₂) E s₁) E s)
    (hs : ∀ x, foldedSetIterable iter env x = pure x := by intro _; rfl) :
    wpN (model prog w) A (exec (.For target iter body [] pos) env) Q E s := by
  rw [exec_For]
  exact wpN_bind (wpN_standAt (wpN_bind (wpN_mono h (fun x s₁ h₁ => wpN_bind (wpN_of_eq (hs x) (wpN_pure (wpN_bind (wpN_standAt (wpN_bind (wpN_holding
    (wpN_of_any (wpAny_mono h₁ (fun it s₂ h₂ => wpN_runOwn rfl h₂) fun _ _ h' => h')))))))))
    fun _ _ h' => h')))
theorem wpN_While {test body pos} {Q : Flow → Shared → Prop}
    (h : codeN (model prog w) A (.whileLoop test body [] env) (fun r s' => match r with | .ok f => Q f s' | .error _ => False) s) :
    wpN (model prog w) A (exec (.While test body [] pos) env) Q E s := by
  rw [exec_While]; exact wpN_bind (wpN_standAt (wpN_runOwn rfl h))
end
namespace iter_list_N
noncomputable def St0 (prog : Program) (w : World) (A : Around) (E : Value → Shared → Prop) (R : Result → Shared → Prop) (s : Shared) (env : Env) (x : Str) (px : Pos) (body : List Stmt) (l : Addr) (items : Array Value) (h₀ : Heap) (m₀ : Str → Option Value) (news₀ : List (Addr × Obj)) (adr : List Addr) : Prop := ∀ (J : Nat → (Str → Option Value) → List (Addr × Obj) → Prop) (hh : A.handled = none) (hx : env.kindOf x = some .local) (hp : (env.scope.kind == .class || (env.scope.kind == .module && env.locals != env.globals)) = false) (F : Fr h₀ env.locals s.heap m₀) (N : News h₀ env.locals s.heap news₀) (j0 : J 0 m₀ news₀) (hadr : ∀ i m news, J i m news → news.map (·.1) = adr) (hl : ∀ i m news h, J i m news → Fr h₀ env.locals h m → News h₀ env.locals h news → h.IsList l items) (turn : ∀ i v m₁ news₁ I o h tk, items[i]? = some v → J i m₁ news₁ → (∀ a ∈ adr, a < I) → Fr h₀ env.locals h (fun y => if y = x then some v else m₁ y) → News h₀ env.locals h ((I, o) :: news₁) →
      wpN (model prog w) A (execs body env) (fun f s' => match f with
        | .next | .cont => ∃ h' tk' m' news', s' = { s with heap := h', toks := tk' } ∧ Fr h₀ env.locals h' m' ∧ News h₀ env.locals h' ((I, o) :: news') ∧ J (i + 1) m' news'
        | .brk => R (.ok .next) s' | .ret v => R (.ok (.ret v)) s') (fun _ _ => False) { s with heap := h, toks := tk }) (done : ∀ m₁ news₁ h tk, J items.size m₁ news₁ → Fr h₀ env.locals h m₁ → News h₀ env.locals h news₁ → R (.ok .next) { s with heap := h, toks := tk }),
   wpAny (model prog w) A (pyIter (.ref l)) (fun it s₂ => codeN (model prog w) A (.forLoop (.Name x px) it body [] env) R s₂) E s
noncomputable abbrev Ty0 : Type := (Program) × (World) × (Around) × (Value → Shared → Prop) × (Result → Shared → Prop) × (Shared) × (Env) × (Str) × (Pos) × (List Stmt) × (Addr) × (Array Value) × (Heap) × (Str → Option Value) × (List (Addr × Obj)) × (List Addr)
theorem ne0 : Nonempty Ty0 := ⟨Classical.choice inferInstance, Classical.choice neW, Classical.choice neA, Classical.choice inferInstance, Classical.choice inferInstance, Classical.choice neS, Classical.choice inferInstance, Classical.choice inferInstance, Classical.choice inferInstance, Classical.choice inferInstance, Classical.choice inferInstance, Classical.choice inferInstance, Classical.choice inferInstance, Classical.choice inferInstance, Classical.choice inferInstance, Classical.choice inferInstance⟩
noncomputable def P0 (vv0 : Ty0) : Prop := St0 (vv0.1) (vv0.2.1) (vv0.2.2.1) (vv0.2.2.2.1) (vv0.2.2.2.2.1) (vv0.2.2.2.2.2.1) (vv0.2.2.2.2.2.2.1) (vv0.2.2.2.2.2.2.2.1) (vv0.2.2.2.2.2.2.2.2.1) (vv0.2.2.2.2.2.2.2.2.2.1) (vv0.2.2.2.2.2.2.2.2.2.2.1) (vv0.2.2.2.2.2.2.2.2.2.2.2.1) (vv0.2.2.2.2.2.2.2.2.2.2.2.2.1) (vv0.2.2.2.2.2.2.2.2.2.2.2.2.2.1) (vv0.2.2.2.2.2.2.2.2.2.2.2.2.2.2.1) (vv0.2.2.2.2.2.2.2.2.2.2.2.2.2.2.2)
@[irreducible] def vv0 : Ty0 := @ata _ ne0 0 P0
@[irreducible] def w : World := vv0.2.1
@[irreducible] def A : Around := vv0.2.2.1
@[irreducible] def E : Value → Shared → Prop := vv0.2.2.2.1
@[irreducible] def s : Shared := vv0.2.2.2.2.2.1
@[irreducible] def env : Env := vv0.2.2.2.2.2.2.1
@[irreducible] def x : Str := vv0.2.2.2.2.2.2.2.1
@[irreducible] def l : Addr := vv0.2.2.2.2.2.2.2.2.2.2.1
@[irreducible] def items : Array Value := vv0.2.2.2.2.2.2.2.2.2.2.2.1
@[irreducible] def h₀ : Heap := vv0.2.2.2.2.2.2.2.2.2.2.2.2.1
@[irreducible] def m₀ : Str → Option Value := vv0.2.2.2.2.2.2.2.2.2.2.2.2.2.1
@[irreducible] def news₀ : List (Addr × Obj) := vv0.2.2.2.2.2.2.2.2.2.2.2.2.2.2.1
@[irreducible] def adr : List Addr := vv0.2.2.2.2.2.2.2.2.2.2.2.2.2.2.2
theorem prf0 : St0 (vv0.1) w A E (vv0.2.2.2.2.1) s env x (vv0.2.2.2.2.2.2.2.2.1) (vv0.2.2.2.2.2.2.2.2.2.1) l items h₀ m₀ news₀ adr := by
  intro J hh hx hp F N j0 hadr hl turn done
  refine wpAny_pyIter_list (hl 0 _ _ _ j0 F N) ?_
  have hI0 : ∀ a ∈ adr, a < s.heap.objs.size := by
    intro a ha
    rw [← hadr _ _ _ j0] at ha
    k_extra "g1"
    obtain ⟨p, hp, rfl⟩ := List.mem_map.mp ha
    k_extra "g2"
    exact Heap.lt_size (N p hp).1
  have hLI : env.locals < s.heap.objs.size := F.ns.lt
  generalize hIe : s.heap.objs.size = I at hI0 hLI ⊢
  have hIn : h₀.get? I = none := by
    cases q : h₀.get? I with
    | none => rfl
    | some o => exact absurd (Heap.lt_size (F.keep _ _ q)) (by rw [hIe]; exact Nat.lt_irrefl _)
  refine codeN_forLoop
    (fun k s' => ∃ h' tk m' news' i, s' = { s with heap := h', toks := tk } ∧ h'.IsListIter I l i ∧ Fr h₀ env.locals h' m' ∧ News h₀ env.locals h' news' ∧ J i m' news' ∧ i ≤ items.size ∧ k = items.size + 1 - i) ?_ (items.size + 1)
    ⟨_, s.toks, m₀, news₀, 0, rfl, ⟨_, by rw [← hIe]; exact Heap.get?_push_size _ rfl, rfl, rfl⟩, F.push _, fun p hp => ⟨Heap.get?_push_of_some _ (N p hp).1, (N p hp).2⟩, j0, Nat.zero_le _, rfl⟩
  rintro k s' zx
  k_extra "g1"
  obtain ⟨H, tk, m', news', i, rfl, hit, F', N', hJ, hi, rfl⟩ := zx
  k_extra "g2"
  have hl' := hl i m' news' H hJ F' N'
  have hne : ∀ p ∈ news', p.1 ≠ I := fun p hp e => absurd (hI0 p.1 (by rw [← hadr _ _ _ hJ]; exact List.mem_map_of_mem hp)) (by rw [e]; exact Nat.lt_irrefl _)
  cases hv : items[i]? with
  | none =>
    refine wpAny_pyNext_list_end hh hit hl' hv fun h₁ he₁ => ?_
    have hsz : items.size ≤ i := by simpa using hv
    have hie : i = items.size := Nat.le_antisymm hi hsz
    subst hie
    refine done m' news' h₁ tk hJ ⟨F'.ns.extBut he₁ (Nat.ne_of_lt hLI), fun b o e => he₁ b o (fun e' => ?_) (F'.keep b o e), F'.above⟩ fun p hp => ⟨he₁ _ _ (hne p hp) (N' p hp).1, (N' p hp).2⟩
    rw [e', hIn] at e; cases e
  | some v =>
    have hlt : i < items.size := (Array.getElem?_eq_some_iff.mp hv).1
    refine wpAny_pyNext_list_item hit hl' hv fun h₁ hit₁ hs₁ => ?_
    have F₁ : Fr h₀ env.locals h₁ m' := ⟨F'.ns.sameBut hs₁ (Nat.ne_of_lt hLI), fun b o e => hs₁.extBut b o (fun e' => by rw [e', hIn] at e; cases e) (F'.keep b o e), F'.above⟩
    have N₁ : News h₀ env.locals h₁ news' := fun p hp => ⟨hs₁.extBut _ _ (hne p hp) (N' p hp).1, (N' p hp).2⟩
    refine wpAny_assign_Name (wpAny_storeName_local hx F₁.ns (fun h₂ hn₂ hs₂ => ?_) hp)
    k_extra "g1"
    obtain ⟨o, ho, hoc⟩ := id hit₁
    k_extra "g2"
    have F₂ := F₁.set hn₂ hs₂
    have N₂ := N₁.set hs₂
    have ho₂ : h₂.get? I = some o := hs₂.extBut _ _ (Nat.ne_of_gt hLI) ho
    refine wpN_mono (turn i v m' news' I o h₂ _ hv hJ hI0 F₂ fun p hp => ?_) (fun f s₃ h₃ => ?_) fun _ _ e => e
    · rcases List.mem_cons.mp hp with rfl | hp
      · exact ⟨ho₂, Nat.ne_of_gt hLI, hIn⟩
      · exact N₂ p hp
    · have fin : (∃ h' tk' m' news', s₃ = { s with heap := h', toks := tk' } ∧ Fr h₀ env.locals h' m' ∧ News h₀ env.locals h' ((I, o) :: news') ∧ J (i + 1) m' news') → 
          ∃ m, m < items.size + 1 - i ∧ ∃ h' tk m' news' i, s₃ = { s with heap := h', toks := tk } ∧ h'.IsListIter I l i ∧ Fr h₀ env.locals h' m' ∧ News h₀ env.locals h' news' ∧ J i m' news' ∧ i ≤ items.size ∧ m = items.size + 1 - i := by
        rintro zx
        k_extra "g1"
        obtain ⟨h₄, tk₃, m₃, news₃, rfl, F₃, N₃, hJ₃⟩ := zx
        k_extra "g2"
        exact ⟨items.size + 1 - (i + 1), by lia, h₄, tk₃, m₃, news₃, i + 1, rfl, ⟨o, (N₃ _ (.head _)).1, hoc⟩, F₃, fun p hp => N₃ p (.tail _ hp), hJ₃, hlt, rfl⟩
      cases f with
      | next => exact fin h₃
      | cont => exact fin h₃
      | brk => exact h₃
      | ret v => exact h₃
end iter_list_N
theorem iter_list_N {prog : Program} {w : World} {A : Around} {E : Value → Shared → Prop} {R : Result → Shared → Prop} {s : Shared} {env : Env} {x : Str} {px : Pos} {body : List Stmt} {l : Addr} {items : Array Value} {h₀ : Heap} {m₀ : Str → Option Value} {news₀ : List (Addr × Obj)} {adr : List Addr} : iter_list_N.St0 prog w A E R s env x px body l items h₀ m₀ news₀ adr :=
  @ata_spec _ iter_list_N.ne0 0 iter_list_N.P0 (by with_unfolding_all exact iter_list_N.prf0) (prog, w, A, E, R, s, env, x, px, body, l, items, h₀, m₀, news₀, adr)
section
variable {prog : Program} {w : World} {A : Around} {E : Value → Shared → Prop} {R : Result → Shared → Prop} {s : Shared} {env : Env}
end
end
noncomputable section
section
variable {prog : Program} {w : World} {A : Around} {E : Value → Shared → Prop} {s : Shared} {R : Result → Shared → Prop} {h₀ : Heap} {news : List (Addr × Obj)} {K : Frag} {p : Program} {loose : List Str} {mean : ExcName → Option Value} {mg mb : Str → Option Value}
theorem kw_10 : True := by
  k_with_none
  k_with "g1" => refine by_goal fun zG zh => ?_
  k_with "g2" => (refine zh ?_; clear zh zG)
  trivial
noncomputable def Led (h₀ h : Heap) (news : List (Addr × Obj)) : Prop := ∀ p ∈ news, h.get? p.1 = some p.2 ∧ h₀.get? p.1 = none
theorem led_base {h : Heap} (keep : ∀ b o, h₀.get? b = some o → h.get? b = some o) (Ld : Led h₀ h news) : ∀ b o, h₀.get? b = some o → (hideAll h (news.map (·.1))).get? b = some o := fun b o e =>
  hideAll_get _ (keep b o e) fun q => by
    k_extra "g1"
    obtain ⟨p, hp, rfl⟩ := List.mem_map.mp q
    k_extra "g2"
    rw [(Ld p hp).2] at e; cases e
theorem code_defM_any {name qual : Str} {params : Arguments} {body : List Stmt} {scope : Scope} {doc pm cdv ct oc dV kV : Value} {an od : Option Addr} {osl : Array (Option Value)} {f : Addr} {args : Args} (h₀ : Heap) (news : List (Addr × Obj)) (binds : List (Str × Value))
    (keep : ∀ b o, h₀.get? b = some o → s.heap.get? b = some o) (X : K.In h₀) (T : Top p loose mean mg mb h₀) (Ld : Led h₀ s.heap news)
    (ho : K.lookup f = some ⟨oc, od, .func (fnOf name qual params body scope dV kV doc pm an cdv ct), osl⟩) (hcd : codeIn K cdv qual = true) (hroom : A.depth < recursionLimit)
    (hbind : BindsTo s (fnOf name qual params body scope dV kV doc pm an cdv ct) args binds) (hloc : ∀ y ∈ binds, scope.names.lookup y.1 = some .local)
    (h : ∀ g L' h₁, K.In g → Top p loose mean mg mb g → (∀ b o, b ∉ news.map (·.1) → s.heap.get? b = some o → g.get? b = some o) → (∀ b o, h₀.get? b = some o → g.get? b = some o) → Fr g L' h₁ (fun y => binds.reverse.lookup y) → News g L' h₁ news → (∀ p ∈ news, p.1 < L') → g.objs.size ≤ L' → 
      wpAny (model prog w) (A.deeper (envOf qual scope L' f cdv)) (execs body (envOf qual scope L' f cdv))
        (fun fl s' => R (.ok (.ret (match fl with | .ret v => v | _ => .none))) s') (fun _ _ => False)
        { s with heap := h₁, toks := s.toks + binds.length })
    (hco : scope.isCoroutine = false) (hgen : scope.isGenerator = false) (hk : scope.kind = .function)
    (hcell : ∀ x ∈ scope.names, x.2 ≠ .cell) : codeAny (model prog w) A (.call (.ref f) args) R s := by
  have st := led_base keep Ld
  refine codeAny_call_def (fd := fnOf name qual params body scope dV kV doc pm an cdv ct) (body := body) (binds := binds) hroom (keep _ _ (X _ _ ho)) rfl (T.nolimit.keeps keep) (codeRec_of (X.keeps keep) hcd) rfl hbind hcell hloc (fun h₁ hns hk₁ => ?_) hco hgen hk
  exact wpAny_mono (h _ s.heap.objs.size h₁ (X.keeps st) (T.keeps st) (fun b o hb e => hideAll_get _ e hb) st ⟨hns, fun b o e => hk₁ b o (of_hideAll _ e), Nat.le_of_eq (hideAll_size _ _)⟩
    (fun p hp => ⟨hk₁ _ _ (Ld p hp).1, Nat.ne_of_lt (Heap.lt_size (Ld p hp).1), hideAll_none _ (List.mem_map_of_mem hp)⟩) (fun p hp => Heap.lt_size (Ld p hp).1) (Nat.le_of_eq (hideAll_size _ _))) (fun _ _ q => q) fun _ _ q => q.elim
theorem code_defM_N {name qual : Str} {params : Arguments} {body : List Stmt} {scope : Scope} {doc pm cdv ct oc dV kV : Value} {an od : Option Addr} {osl : Array (Option Value)} {f : Addr} {args : Args} (h₀ : Heap) (news : List (Addr × Obj)) (binds : List (Str × Value))
    (keep : ∀ b o, h₀.get? b = some o → s.heap.get? b = some o) (X : K.In h₀) (T : Top p loose mean mg mb h₀) (Ld : Led h₀ s.heap news)
    (ho : K.lookup f = some ⟨oc, od, .func (fnOf name qual params body scope dV kV doc pm an cdv ct), osl⟩) (hcd : codeIn K cdv qual = true) (hroom : A.depth < recursionLimit)
    (hbind : BindsTo s (fnOf name qual params body scope dV kV doc pm an cdv ct) args binds) (hloc : ∀ y ∈ binds, scope.names.lookup y.1 = some .local)
    (h : ∀ g L' h₁, K.In g → Top p loose mean mg mb g → (∀ b o, b ∉ news.map (·.1) → s.heap.get? b = some o → g.get? b = some o) → (∀ b o, h₀.get? b = some o → g.get? b = some o) → Fr g L' h₁ (fun y => binds.reverse.lookup y) → News g L' h₁ news → (∀ p ∈ news, p.1 < L') → g.objs.size ≤ L' → 
      wpN (model prog w) (A.deeper (envOf qual scope L' f cdv)) (execs body (envOf qual scope L' f cdv))
        (fun fl s' => R (.ok (.ret (match fl with | .ret v => v | _ => .none))) s') (fun _ _ => False)
        { s with heap := h₁, toks := s.toks + binds.length })
    (hco : scope.isCoroutine = false) (hgen : scope.isGenerator = false) (hk : scope.kind = .function)
    (hcell : ∀ x ∈ scope.names, x.2 ≠ .cell) : codeN (model prog w) A (.call (.ref f) args) R s := by
  have st := led_base keep Ld
  refine codeN_call_def (fd := fnOf name qual params body scope dV kV doc pm an cdv ct) (body := body) (binds := binds) hroom (keep _ _ (X _ _ ho)) rfl (T.nolimit.keeps keep) (codeRec_of (X.keeps keep) hcd) rfl hbind hcell hloc (fun h₁ hns hk₁ => ?_) hco hgen hk
  exact wpN_mono (h _ s.heap.objs.size h₁ (X.keeps st) (T.keeps st) (fun b o hb e => hideAll_get _ e hb) st ⟨hns, fun b o e => hk₁ b o (of_hideAll _ e), Nat.le_of_eq (hideAll_size _ _)⟩
    (fun p hp => ⟨hk₁ _ _ (Ld p hp).1, Nat.ne_of_lt (Heap.lt_size (Ld p hp).1), hideAll_none _ (List.mem_map_of_mem hp)⟩) (fun p hp => Heap.lt_size (Ld p hp).1) (Nat.le_of_eq (hideAll_size _ _))) (fun _ _ q => q) fun _ _ q => q.elim
theorem code_defC_any {name qual : Str} {params : Arguments} {body : List Stmt} {scope : Scope} {doc pm cdv ct oc dV kV : Value} {an od : Option Addr} {osl : Array (Option Value)} {f : Addr} {args : Args} (h₀ : Heap) (news : List (Addr × Obj)) (binds : List (Str × Value))
    (keep : ∀ b o, h₀.get? b = some o → s.heap.get? b = some o) (X : K.In h₀) (T : Top p loose mean mg mb h₀) (Ld : Led h₀ s.heap news)
    (ho : K.lookup f = some ⟨oc, od, .func (fnOf name qual params body scope dV kV doc pm an cdv ct), osl⟩) (hcd : codeIn K cdv qual = true) (hroom : A.depth < recursionLimit)
    (hbind : BindsTo s (fnOf name qual params body scope dV kV doc pm an cdv ct) args binds) 
    (hkind : (binds.all fun y => scope.names.lookup y.1 == some .local || scope.names.lookup y.1 == some .cell) = true)
    (hnd : ((cellsFrom 0 scope.names []).map (·.1)).Nodup)
    (h : ∀ g L' h₁ tk cells, K.In g → Top p loose mean mg mb g → (∀ b o, b ∉ news.map (·.1) → s.heap.get? b = some o → g.get? b = some o) → (∀ b o, h₀.get? b = some o → g.get? b = some o) → 
      Fr g L' h₁ (bindL (envOfC qual scope L' f cdv).kindOf binds fun _ => none) → News g L' h₁ (cells ++ news) → CellsAre (bindC (envOfC qual scope L' f cdv).kindOf binds fun _ => none) (cellsFrom (L' + 1) scope.names []) cells → (∀ p ∈ news, p.1 < L') → g.objs.size ≤ L' → 
      wpAny (model prog w) (A.deeper (envOfC qual scope L' f cdv)) (execs body (envOfC qual scope L' f cdv))
        (fun fl s' => R (.ok (.ret (match fl with | .ret v => v | _ => .none))) s') (fun _ _ => False)
        { s with heap := h₁, toks := tk })
    (hco : scope.isCoroutine = false) (hgen : scope.isGenerator = false) (hk : scope.kind = .function) : codeAny (model prog w) A (.call (.ref f) args) R s := by
  have st := led_base keep Ld
  refine codeAny_call_function hroom (keep _ _ (X _ _ ho)) rfl hco hgen rfl (codeRec_of (X.keeps keep) hcd) (hbind _ _ _ _ ?_)
  refine wpAny_newFunctionEnv_cells hk (kindsX hkind _) fun env' he s' x => ?_
  subst he
  refine ⟨(T.nolimit.keeps keep).keeps x.toInCall.keep, codeAny_func ?_⟩
  k_extra "g1"
  obtain ⟨h₁, tk, rfl, _⟩ := x.done
  k_extra "g2"
  have hk₁ := x.toInCall.keep
  k_extra "g1"
  obtain ⟨cells, NC, Y⟩ := Cl.news (h₀ := s.heap) (Nat.le_refl _) fun n c hm => ⟨x.cell n c (lookup_of_mem_nodup (cellsFrom_names scope.names 0 (s.heap.objs.size + 1) [] [] rfl ▸ hnd) hm), x.above n c hm⟩
  k_extra "g2"
  refine wpAny_mono (h _ s.heap.objs.size h₁ tk cells (X.keeps st) (T.keeps st) (fun b o hb e => hideAll_get _ e hb) st ⟨x.toInCall.ns, fun b o e => hk₁ b o (of_hideAll _ e), Nat.le_of_eq (hideAll_size _ _)⟩ (fun p hp => ?_) Y (fun p hp => Heap.lt_size (Ld p hp).1) (Nat.le_of_eq (hideAll_size _ _))) (fun fl s' hl => hl) fun _ _ y => y.elim
  rcases List.mem_append.mp hp with hp | hp
  · refine ⟨(NC p hp).1, (NC p hp).2.1, ?_⟩
    cases q : (hideAll s.heap (news.map (·.1))).get? p.1 with
    | none => rfl
    | some o => have := of_hideAll _ q; rw [(NC p hp).2.2] at this; cases this
  · exact ⟨hk₁ _ _ (Ld p hp).1, Nat.ne_of_lt (Heap.lt_size (Ld p hp).1), hideAll_none _ (List.mem_map_of_mem hp)⟩
theorem code_defC_N {name qual : Str} {params : Arguments} {body : List Stmt} {scope : Scope} {doc pm cdv ct oc dV kV : Value} {an od : Option Addr} {osl : Array (Option Value)} {f : Addr} {args : Args} (h₀ : Heap) (news : List (Addr × Obj)) (binds : List (Str × Value))
    (keep : ∀ b o, h₀.get? b = some o → s.heap.get? b = some o) (X : K.In h₀) (T : Top p loose mean mg mb h₀) (Ld : Led h₀ s.heap news)
    (ho : K.lookup f = some ⟨oc, od, .func (fnOf name qual params body scope dV kV doc pm an cdv ct), osl⟩) (hcd : codeIn K cdv qual = true) (hroom : A.depth < recursionLimit)
    (hbind : BindsTo s (fnOf name qual params body scope dV kV doc pm an cdv ct) args binds) 
    (hkind : (binds.all fun y => scope.names.lookup y.1 == some .local || scope.names.lookup y.1 == some .cell) = true)
    (hnd : ((cellsFrom 0 scope.names []).map (·.1)).Nodup)
    (h : ∀ g L' h₁ tk cells, K.In g → Top p loose mean mg mb g → (∀ b o, b ∉ news.map (·.1) → s.heap.get? b = some o → g.get? b = some o) → (∀ b o, h₀.get? b = some o → g.get? b = some o) → 
      Fr g L' h₁ (bindL (envOfC qual scope L' f cdv).kindOf binds fun _ => none) → News g L' h₁ (cells ++ news) → CellsAre (bindC (envOfC qual scope L' f cdv).kindOf binds fun _ => none) (cellsFrom (L' + 1) scope.names []) cells → (∀ p ∈ news, p.1 < L') → g.objs.size ≤ L' → 
      wpN (model prog w) (A.deeper (envOfC qual scope L' f cdv)) (execs body (envOfC qual scope L' f cdv))
        (fun fl s' => R (.ok (.ret (match fl with | .ret v => v | _ => .none))) s') (fun _ _ => False)
        { s with heap := h₁, toks := tk })
    (hco : scope.isCoroutine = false) (hgen : scope.isGenerator = false) (hk : scope.kind = .function) : codeN (model prog w) A (.call (.ref f) args) R s := by
  have st := led_base keep Ld
  refine codeN_call_function hroom (keep _ _ (X _ _ ho)) rfl hco hgen rfl (codeRec_of (X.keeps keep) hcd) (hbind _ _ _ _ ?_)
  refine wpAny_newFunctionEnv_cells hk (kindsX hkind _) fun env' he s' x => ?_
  subst he
  refine ⟨(T.nolimit.keeps keep).keeps x.toInCall.keep, codeN_func ?_⟩
  k_extra "g1"
  obtain ⟨h₁, tk, rfl, _⟩ := x.done
  k_extra "g2"
  have hk₁ := x.toInCall.keep
  k_extra "g1"
  obtain ⟨cells, NC, Y⟩ := Cl.news (h₀ := s.heap) (Nat.le_refl _) fun n c hm => ⟨x.cell n c (lookup_of_mem_nodup (cellsFrom_names scope.names 0 (s.heap.objs.size + 1) [] [] rfl ▸ hnd) hm), x.above n c hm⟩
  k_extra "g2"
  refine wpN_mono (h _ s.heap.objs.size h₁ tk cells (X.keeps st) (T.keeps st) (fun b o hb e => hideAll_get _ e hb) st ⟨x.toInCall.ns, fun b o e => hk₁ b o (of_hideAll _ e), Nat.le_of_eq (hideAll_size _ _)⟩ (fun p hp => ?_) Y (fun p hp => Heap.lt_size (Ld p hp).1) (Nat.le_of_eq (hideAll_size _ _))) (fun fl s' hl => hl) fun _ _ y => y.elim
  rcases List.mem_append.mp hp with hp | hp
  · refine ⟨(NC p hp).1, (NC p hp).2.1, ?_⟩
    cases q : (hideAll s.heap (news.map (·.1))).get? p.1 with
    | none => rfl
    | some o => have := of_hideAll _ q; rw [(NC p hp).2.2] at this; cases this
  · exact ⟨hk₁ _ _ (Ld p hp).1, Nat.ne_of_lt (Heap.lt_size (Ld p hp).1), hideAll_none _ (List.mem_map_of_mem hp)⟩
theorem code_defX_any {name qual : Str} {params : Arguments} {body : List Stmt} {scope : Scope} {cl : List (Str × Addr)} {doc pm cdv ct dV kV : Value} {an : Option Addr} {fo : Obj} {f : Addr} {args : Args} (h₀ : Heap) (news : List (Addr × Obj)) (binds : List (Str × Value))
    (keep : ∀ b o, h₀.get? b = some o → s.heap.get? b = some o) (X : K.In h₀) (T : Top p loose mean mg mb h₀) (Ld : Led h₀ s.heap news)
    (ho : s.heap.get? f = some fo) (hd : fo.data = .func (fnX name qual params body scope cl dV kV doc pm an cdv ct)) (hcd : s.heap.CodeRec cdv qual) (hroom : A.depth < recursionLimit)
    (hbind : BindsTo s (fnX name qual params body scope cl dV kV doc pm an cdv ct) args binds) (hloc : ∀ y ∈ binds, scope.names.lookup y.1 = some .local)
    (h : ∀ g L' h₁, K.In g → Top p loose mean mg mb g → (∀ b o, b ∉ news.map (·.1) → s.heap.get? b = some o → g.get? b = some o) → (∀ b o, h₀.get? b = some o → g.get? b = some o) → Fr g L' h₁ (fun y => binds.reverse.lookup y) → News g L' h₁ news → (∀ p ∈ news, p.1 < L') → g.objs.size ≤ L' → 
      wpAny (model prog w) (A.deeper (envX qual scope L' f cdv cl)) (execs body (envX qual scope L' f cdv cl))
        (fun fl s' => R (.ok (.ret (match fl with | .ret v => v | _ => .none))) s') (fun _ _ => False)
        { s with heap := h₁, toks := s.toks + binds.length })
    (hco : scope.isCoroutine = false) (hgen : scope.isGenerator = false) (hk : scope.kind = .function)
    (hcell : ∀ x ∈ scope.names, x.2 ≠ .cell) : codeAny (model prog w) A (.call (.ref f) args) R s := by
  have st := led_base keep Ld
  refine codeAny_call_def (fd := fnX name qual params body scope cl dV kV doc pm an cdv ct) (body := body) (binds := binds) hroom ho hd (T.nolimit.keeps keep) hcd rfl hbind hcell hloc (fun h₁ hns hk₁ => ?_) hco hgen hk
  exact wpAny_mono (h _ s.heap.objs.size h₁ (X.keeps st) (T.keeps st) (fun b o hb e => hideAll_get _ e hb) st ⟨hns, fun b o e => hk₁ b o (of_hideAll _ e), Nat.le_of_eq (hideAll_size _ _)⟩
    (fun p hp => ⟨hk₁ _ _ (Ld p hp).1, Nat.ne_of_lt (Heap.lt_size (Ld p hp).1), hideAll_none _ (List.mem_map_of_mem hp)⟩) (fun p hp => Heap.lt_size (Ld p hp).1) (Nat.le_of_eq (hideAll_size _ _))) (fun _ _ q => q) fun _ _ q => q.elim
theorem back {h h' : Heap} {L : Addr} {m : Str → Option Value} {all news' rest : List (Addr × Obj)} (F : Fr h₀ L h m) (N : News h₀ L h all) (fp : List Addr) (hfp : ∀ a ∈ fp, ∃ o, (a, o) ∈ all)
    (k : ∀ b o, b ∉ fp → h.get? b = some o → h'.get? b = some o) (hn : ∀ p ∈ news', h'.get? p.1 = some p.2 ∧ (p.1 ∈ fp ∨ h.get? p.1 = none)) (hr : ∀ p ∈ rest, p ∈ all ∧ p.1 ∉ fp) :
    Fr h₀ L h' m ∧ News h₀ L h' (news' ++ rest) := by
  have hL : L ∉ fp := fun q => by
    obtain ⟨o, ho⟩ := hfp L q
    exact (N _ ho).2.1 rfl
  have h0 : ∀ a ∈ fp, h₀.get? a = none := fun a ha => by
    obtain ⟨o, ho⟩ := hfp a ha
    exact (N _ ho).2.2
  k_extra "g1"
  obtain ⟨oL, es, ep, hL1, r⟩ := F.ns
  k_extra "g2"
  refine ⟨⟨⟨oL, es, ep, k _ _ hL hL1, r⟩, fun b o e => k b o (fun q => by rw [h0 b q] at e; cases e) (F.keep b o e), F.above⟩, fun p hp => ?_⟩
  rcases List.mem_append.mp hp with hp | hp
  · obtain ⟨h1, h2⟩ := hn p hp
    rcases h2 with h2 | h2
    · exact ⟨h1, fun q => hL (q ▸ h2), h0 _ h2⟩
    · refine ⟨h1, fun q => ?_, ?_⟩
      · rw [q, hL1] at h2; cases h2
      · cases q : h₀.get? p.1 with
        | none => rfl
        | some o => rw [F.keep _ _ q] at h2; cases h2
  · obtain ⟨h1, h2⟩ := hr p hp
    exact ⟨k _ _ h2 (N p h1).1, (N p h1).2⟩
end
end
noncomputable section
theorem kw_12 : True := by
  k_with_none
  k_with "rm" => first | exact room_lt (by assumption) rfl | exact room_lt1 (by assumption) | lia
  k_with "W" => (repeat' (first | ((with_reducible show wpAny _ _ _ _ _ _); walk1) | ((with_reducible show ite _ _ _); walk1)))
  trivial
theorem kw_11 : True := by
  k_with "call builtin:len" => (k_here; (with_reducible show wpAny _ _ (call (Value.builtin "len") [Value.ref _]) _ _ _); refine len_list (Fr.lst (by assumption) (by assumption)) (by simp; lia) ?_)
  trivial
theorem take_A {w : World} {dp un : Nat} {fr : Option (List Env)} {gd : Option (List Code)} {s : Shared} {p : Program} {loose : List Str} {mean : ExcName → Option Value} {mg mb : Str → Option Value} {E : Value → Shared → Prop} {Q : Value → Shared → Prop} {h₀ : Heap}
   (keep : ∀ b o, h₀.get? b = some o → s.heap.get? b = some o) (X : (mkK.heap_1 w.params).In h₀) (T : Top p loose mean mg mb h₀) (hd : dp + 10 < recursionLimit) (hu : un + 100 < cLine) {bx bl : Addr} {k m : Int} {t u : Tok} {n : Nat} {vs : List Value} {ns : List Int} (Ld : Led h₀ s.heap [(bx, W.listOf #[.ref bl, .int k t] n)])
   (hbl : s.heap.IsList bl vs.toArray) (hne : @Ne Nat bl bx) (hi : IntsAre vs ns) (hlen : vs.length ≤ 1048576) (hk : 0 ≤ k ∧ k ≤ 100000) (hm : 0 < m ∧ m ≤ 100)
   (hQ : ∀ v tk h' tk' t' n', 0 ≤ v → v < m → (∀ b o, b ≠ bx → s.heap.get? b = some o → h'.get? b = some o) → h'.get? bx = some (W.listOf #[.ref bl, .int (k + 1) t'] n') → Q (.int v tk) { s with heap := h', toks := tk' }) :
   wpAny (model Challenge.pw_pf0272_01 w) (Ak dp un fr gd) (call (.ref 330) [.ref bx, .int m u]) Q E s := by
  have _h : Challenge.rw_pf0272_01 = Challenge.rw_pf0272_01 ∧ mkK.heap_1 = mkK.heap_1 := by
    k_fill
    exact ⟨rfl, rfl⟩
  clear _h
  refine wpAny_call ?_
  refine code_defM_any h₀ [(bx, W.listOf #[.ref bl, .int k t] n)] [(Str.ofString "box", .ref bx), (Str.ofString "many", .int m u)] keep X T Ld (by k_is) (by k_is) (by (show dp < recursionLimit); k_extra "rm") (BindsTo.of_eq rfl) (locs rfl) ?_ rfl rfl rfl (by decide)
  clear X T
  intro g L h X T kg kb F N hlt hgL
  dsimp only
  have hbg : g.IsList bl vs.toArray := hbl.at fun o e => kg bl o (by simp; exact hne) e
  k_extra "W"
  · 
    rename Fr _ _ _ _ => F
    rename News _ _ _ _ => N
    refine hQ _ _ _ _ _ _ ?_ ?_ (fun b o hb e => F.keep b o (kg b o (by simp; exact hb) e)) (N _ (.head _)).1
    · rw [Int.fmod_eq_emod_of_nonneg _ (by lia)]; exact Int.emod_nonneg _ (by lia)
    · rw [Int.fmod_eq_emod_of_nonneg _ (by lia)]; exact Int.emod_lt_of_pos _ (by lia)
  · dsimp only
    k_extra "W"
    rename Fr _ _ _ _ => F
    rename News _ _ _ _ => N
    refine hQ _ _ _ _ _ _ ?_ ?_ (fun b o hb e => F.keep b o (kg b o (by simp; exact hb) e)) (N _ (.head _)).1
    · rw [Int.fmod_eq_emod_of_nonneg _ (by lia)]; exact Int.emod_nonneg _ (by lia)
    · rw [Int.fmod_eq_emod_of_nonneg _ (by lia)]; exact Int.emod_lt_of_pos _ (by lia)
end
noncomputable section
noncomputable abbrev baObj (b : Array UInt8) : Obj := ⟨.type "bytearray", none, .bytearray b 0, #[]⟩
theorem kw_14 : True := by
  k_with_none
  k_with "rm" => first | exact room_lt (by assumption) rfl | exact room_lt1 (by assumption) | lia
  k_with "g1" => refine by_goal fun zG zh => ?_
  k_with "g2" => (refine zh ?_; clear zh zG)
  trivial
noncomputable def pwMap (n0 sz0 : Value) (ba : Addr) (u : Option Value) (c : Value) : Str → Option Value := fun y => if y = Str.ofString "place" then u else if y = Str.ofString "n" then some c else if y = Str.ofString "found" then some (.ref ba) else List.lookup y [(Str.ofString "n", n0), (Str.ofString "size", sz0)].reverse
theorem kw_13 : True := by
  k_with "setItem ref int" => (k_here; k_dflt (refine setItem_baK (by k_asm) (by k_asm) (by k_upd) (by lia) (by lia) (by lia) (by (rw [Int.fmod_eq_emod_of_nonneg _ (by lia)]; lia)) (by (rw [Int.fmod_eq_emod_of_nonneg _ (by lia)]; lia)) ?_; k_whole); intro _ _ _)
  trivial
namespace put_whole_N
noncomputable def St0 (w : World) (dp : Nat) (un : Nat) (fr : Option (List Env)) (gd : Option (List Code)) (s : Shared) (p : Program) (loose : List Str) (mean : ExcName → Option Value) (mg : Str → Option Value) (mb : Str → Option Value) (E : Value → Shared → Prop) (Q : Value → Shared → Prop) (t1 : Tok) (t2 : Tok) : Prop := ∀ (X : (mkK.heap_1 w.params).In s.heap) (T : Top p loose mean mg mb s.heap) (hd : dp + 10 < recursionLimit) (hu : un + 50 < cLine) {n sz : Int} (h0 : 0 ≤ n) (h1 : (sz = 1 ∧ n < 256) ∨ (sz = 2 ∧ n < 65536) ∨ (sz = 4 ∧ n < 4294967296)) (hQ : ∀ b tk h' tk', (b.size : Int) = sz → (∀ a o, s.heap.get? a = some o → h'.get? a = some o) → Q (.bytes b tk) { s with heap := h', toks := tk' }),
   wpN (model Challenge.pw_pf0272_01 w) (Ak dp un fr gd) (call (.ref 49) [.int n t1, .int sz t2]) Q E s
noncomputable abbrev Ty0 : Type := (World) × (Nat) × (Nat) × (Option (List Env)) × (Option (List Code)) × (Shared) × (Program) × (List Str) × (ExcName → Option Value) × (Str → Option Value) × (Str → Option Value) × (Value → Shared → Prop) × (Value → Shared → Prop) × (Tok) × (Tok)
theorem ne0 : Nonempty Ty0 := ⟨Classical.choice neW, Classical.choice inferInstance, Classical.choice inferInstance, Classical.choice inferInstance, Classical.choice inferInstance, Classical.choice neS, Classical.choice inferInstance, Classical.choice inferInstance, Classical.choice inferInstance, Classical.choice inferInstance, Classical.choice inferInstance, Classical.choice inferInstance, Classical.choice inferInstance, Classical.choice inferInstance, Classical.choice inferInstance⟩
noncomputable def P0 (vv0 : Ty0) : Prop := St0 (vv0.1) (vv0.2.1) (vv0.2.2.1) (vv0.2.2.2.1) (vv0.2.2.2.2.1) (vv0.2.2.2.2.2.1) (vv0.2.2.2.2.2.2.1) (vv0.2.2.2.2.2.2.2.1) (vv0.2.2.2.2.2.2.2.2.1) (vv0.2.2.2.2.2.2.2.2.2.1) (vv0.2.2.2.2.2.2.2.2.2.2.1) (vv0.2.2.2.2.2.2.2.2.2.2.2.1) (vv0.2.2.2.2.2.2.2.2.2.2.2.2.1) (vv0.2.2.2.2.2.2.2.2.2.2.2.2.2.1) (vv0.2.2.2.2.2.2.2.2.2.2.2.2.2.2)
@[irreducible] def vv0 : Ty0 := @ata _ ne0 0 P0
@[irreducible] def w : World := vv0.1
@[irreducible] def dp : Nat := vv0.2.1
@[irreducible] def un : Nat := vv0.2.2.1
@[irreducible] def fr : Option (List Env) := vv0.2.2.2.1
@[irreducible] def s : Shared := vv0.2.2.2.2.2.1
@[irreducible] def p : Program := vv0.2.2.2.2.2.2.1
@[irreducible] def E : Value → Shared → Prop := vv0.2.2.2.2.2.2.2.2.2.2.2.1
@[irreducible] def Q : Value → Shared → Prop := vv0.2.2.2.2.2.2.2.2.2.2.2.2.1
@[irreducible] def t1 : Tok := vv0.2.2.2.2.2.2.2.2.2.2.2.2.2.1
@[irreducible] def t2 : Tok := vv0.2.2.2.2.2.2.2.2.2.2.2.2.2.2
theorem prf0 : St0 w dp un fr (vv0.2.2.2.2.1) s p (vv0.2.2.2.2.2.2.2.1) (vv0.2.2.2.2.2.2.2.2.1) (vv0.2.2.2.2.2.2.2.2.2.1) (vv0.2.2.2.2.2.2.2.2.2.2.1) E Q t1 t2 := by
  intro X T hd hu n sz h0 h1 hQ
  have _h : Challenge.rw_pf0272_01 = Challenge.rw_pf0272_01 ∧ mkK.heap_1 = mkK.heap_1 := by
    k_fill
    exact ⟨rfl, rfl⟩
  clear _h
  refine wpN_call ?_
  refine code_defN [(Str.ofString "n", .int n t1), (Str.ofString "size", .int sz t2)] X T (by k_is) (by k_is) (by (show dp < recursionLimit); k_extra "rm") (BindsTo.of_eq rfl) (locs rfl) ?_ rfl rfl rfl (by decide)
  intro L h F N
  dsimp only
  have hz : sz = 1 ∨ sz = 2 ∨ sz = 4 := by lia
  have hs : n.fdiv (2 ^ (8 * sz).toNat) = 0 := by
    rcases h1 with ⟨rfl, h1⟩ | ⟨rfl, h1⟩ | ⟨rfl, h1⟩
    · show n.fdiv 256 = 0
      rw [Int.fdiv_eq_ediv_of_nonneg _ (by lia)]; lia
    · show n.fdiv 65536 = 0
      rw [Int.fdiv_eq_ediv_of_nonneg _ (by lia)]; lia
    · show n.fdiv 4294967296 = 0
      rw [Int.fdiv_eq_ediv_of_nonneg _ (by lia)]; lia
  clear h1
  refine wpN_execs_cons (wpN_of_any ?_)
  repeat' (first | (exfalso; exact absurd hs (by assumption)) | walk1)
  dsimp only
  refine wpN_execs_cons (wpN_Assign_Name (Call_N (wpN_of_any ?_)))
  repeat' walk1
  refine callWith_NT (args_cons_N (wpN_of_any ?_))
  repeat' walk1
  refine args_nil_N ?_
  dsimp only [List.nil_append]
  refine call_bytearray_N (by lia) (by lia) fun h2 g2 k2 => ?_
  rename Fr _ _ _ _ => F
  rename News _ _ _ _ => N
  dsimp only at g2 k2
  have F2 := fr_keep F k2
  have N2 := news_new_keep F N k2 g2
  generalize h.objs.size = ba at *
  clear g2 k2 F N
  refine wpN_of_any ?_
  repeat' walk1
  dsimp only
  refine wpN_execs_cons (wpN_of_any ?_)
  repeat' ((fail_if_success (with_reducible show wpAny _ _ (pyIter _) _ _ _)); walk1)
  rename Fr _ _ _ _ => F3
  rename News _ _ _ _ => N3
  rename IsRange _ _ _ _ _ _ _ _ => R3
  refine iter_downN (a₀ := sz - 1) (b₀ := -1) (fun i m nx => ∃ b u c tc, nx = [(ba, baObj b)] ∧ (b.size : Int) = sz ∧ 0 ≤ c ∧ m = pwMap (.int n t1) (.int sz t2) ba u (.int c tc)) rfl R3 (small_down (by lia) (by lia) (by lia) (by lia)) (rangeSize_downNat _ _) F3 N3 ⟨_, none, n, t1, rfl, ?_, h0, ?_⟩ ?_ ?_
  · simp; lia
  · funext y
    unfold pwMap
    by_cases e1 : y = Str.ofString "place"
    · subst e1; rfl
    · rw [if_neg e1]
      by_cases e2 : y = Str.ofString "n"
      · subst e2; rfl
      · rw [if_neg e2]
  · rintro i t m₁ news₁ h tk own hi _ hoff zx
    k_extra "g1"
    obtain ⟨b, u, c, tc, rfl, hb, hc, rfl⟩ := zx
    k_extra "g2"
    rintro F N
    clear F3 N3
    repeat' walk1
    rename Fr _ _ _ _ => F4
    rename News _ _ _ _ => N4
    refine InvEndN.intro F4 N4 (nx := [(ba, baObj (b.setIfInBounds (sz - 1 - (i:Int)).toNat (c.fmod 256).toNat.toUInt8))]) ⟨_, some (.int (sz - 1 - (i:Int)) t), c.fdiv 256, tk + 1 + 1 + 1, rfl, by simpa using hb, ?_, ?_⟩ rfl (by intro p hp; rw [List.mem_singleton.mp hp]; exact .head _) (fun p hp => .tail _ hp)
    · rw [Int.fdiv_eq_ediv_of_nonneg _ (by lia)]; lia
    · funext y
      unfold pwMap
      by_cases e1 : y = Str.ofString "place"
      · subst e1; rfl
      · by_cases e2 : y = Str.ofString "n"
        · subst e2; rfl
        · simp only [if_neg e1, if_neg e2]
  · rintro m₁ news₁ h tk zx
    k_extra "g1"
    obtain ⟨b, u, c, tc, rfl, hb, hc, rfl⟩ := zx
    k_extra "g2"
    rintro F N
    clear F3 N3
    dsimp only
    refine wpN_execs_cons (wpN_of_any ?_)
    repeat' walk1
    exact call_bytes_baK N (.head _) (by lia) fun tk1 tk2 => hQ b tk1 h tk2 hb F.keep
end put_whole_N
theorem put_whole_N {w : World} {dp : Nat} {un : Nat} {fr : Option (List Env)} {gd : Option (List Code)} {s : Shared} {p : Program} {loose : List Str} {mean : ExcName → Option Value} {mg : Str → Option Value} {mb : Str → Option Value} {E : Value → Shared → Prop} {Q : Value → Shared → Prop} {t1 : Tok} {t2 : Tok} : put_whole_N.St0 w dp un fr gd s p loose mean mg mb E Q t1 t2 :=
  @ata_spec _ put_whole_N.ne0 0 put_whole_N.P0 (by with_unfolding_all exact put_whole_N.prf0) (w, dp, un, fr, gd, s, p, loose, mean, mg, mb, E, Q, t1, t2)
end
noncomputable section
open PySem PySem.W PySem.W.X PySem.Spec PySem.Calls PyProof.Rows
theorem kw_16 : True := by
  k_with_none
  trivial
theorem kw_15 : True := by
  k_with "xc" => (exact hQ _ _)
  trivial
theorem index_42 {w : World} {A : Around} {s : Shared} {E : Value → Shared → Prop} {Q : Value → Shared → Prop} {t : Tok} {k : Int} (hk : k = 1 ∨ k = 2 ∨ k = 4)
   (X : (mkK.heap_1 w.params).In s.heap) (hQ : ∀ tk tk', Q (.int (if k = 1 then 0 else if k = 2 then 1 else 2) tk) { s with toks := tk' }) :
   wpAny (model Challenge.pw_pf0272_01 w) A (call (.builtin "tuple.index") [.ref 42, .int k t] []) Q E s := by
  have _h : Challenge.rw_pf0272_01 = Challenge.rw_pf0272_01 ∧ mkK.heap_1 = mkK.heap_1 := by
    k_fill
    exact ⟨rfl, rfl⟩
  clear _h
  rcases hk with rfl | rfl | rfl
  · x_run
  · x_run
  · x_run
theorem method_42 {w : World} {A : Around} {s : Shared} {E : Value → Shared → Prop} {Q : Value × List Value → Shared → Prop} {pl : Sem Bool}
   (ht : s.heap.get? 42 = some ⟨.type "tuple", none, .seq #[Value.int 1 285, Value.int 2 286, Value.int 4 287, Value.int 8 288] 0, #[]⟩) (h : Q (.builtin "tuple.index", [.ref 42]) s) :
   wpAny (model Challenge.pw_pf0272_01 w) A (getMethod (.ref 42) (Str.ofString "index") pl) Q E s :=
  getMethod_builtin ⟨_, ht, rfl⟩ F.plainAttrs_tuple F.slot_tuple_index F.type_tuple_index (fun a e => by cases e; exact ⟨_, ht, rfl⟩) h
theorem get_42 {w : World} {h : Heap} (X : (mkK.heap_1 w.params).In h) : h.get? 42 = some ⟨.type "tuple", none, .seq #[Value.int 1 285, Value.int 2 286, Value.int 4 287, Value.int 8 288] 0, #[]⟩ := X _ _ (by k_is)
end
noncomputable section
theorem kw_18 : True := by
  k_with_none
  k_with "rm" => first | exact room_lt (by assumption) rfl | exact room_lt1 (by assumption) | lia
  k_with "fl" => ((have _h : Challenge.rw_pf0272_01 = Challenge.rw_pf0272_01 ∧ mkK.heap_1 = mkK.heap_1 := by (k_fill; exact ⟨rfl, rfl⟩)); clear _h)
  trivial
theorem bitor_bounds {x y : Int} (hx : 0 ≤ x) (hy : 0 ≤ y) : 0 ≤ Builtin.bitOr x y ∧ Builtin.bitOr x y ≤ x + y := by
  obtain ⟨a, rfl⟩ := Int.eq_ofNat_of_zero_le hx
  obtain ⟨b, rfl⟩ := Int.eq_ofNat_of_zero_le hy
  have h : Builtin.bitAnd (a : Int) (b : Int) = ((a &&& b : Nat) : Int) := rfl
  rw [bitOr_and, h]
  have := @Nat.and_le_left a b
  lia
noncomputable def wide (n : Int) : Int := if n < 64 then 1 else if n < 16384 then 2 else 4
namespace varint_size_N
noncomputable def St0 (w : World) (dp : Nat) (un : Nat) (fr : Option (List Env)) (gd : Option (List Code)) (s : Shared) (p : Program) (loose : List Str) (mean : ExcName → Option Value) (mg : Str → Option Value) (mb : Str → Option Value) (E : Value → Shared → Prop) (Q : Value → Shared → Prop) (t1 : Tok) : Prop := ∀ (X : (mkK.heap_1 w.params).In s.heap) (T : Top p loose mean mg mb s.heap) (hd : dp + 10 < recursionLimit) (hu : un + 50 < cLine) {n : Int} (h0 : 0 ≤ n) (h1 : n < 1073741824) (hQ : ∀ v tk h' tk', v = wide n → (∀ a o, s.heap.get? a = some o → h'.get? a = some o) → Q (.int v tk) { s with heap := h', toks := tk' }),
   wpN (model Challenge.pw_pf0272_01 w) (Ak dp un fr gd) (call (.ref 56) [.int n t1]) Q E s
noncomputable abbrev Ty0 : Type := (World) × (Nat) × (Nat) × (Option (List Env)) × (Option (List Code)) × (Shared) × (Program) × (List Str) × (ExcName → Option Value) × (Str → Option Value) × (Str → Option Value) × (Value → Shared → Prop) × (Value → Shared → Prop) × (Tok)
theorem ne0 : Nonempty Ty0 := ⟨Classical.choice neW, Classical.choice inferInstance, Classical.choice inferInstance, Classical.choice inferInstance, Classical.choice inferInstance, Classical.choice neS, Classical.choice inferInstance, Classical.choice inferInstance, Classical.choice inferInstance, Classical.choice inferInstance, Classical.choice inferInstance, Classical.choice inferInstance, Classical.choice inferInstance, Classical.choice inferInstance⟩
noncomputable def P0 (vv0 : Ty0) : Prop := St0 (vv0.1) (vv0.2.1) (vv0.2.2.1) (vv0.2.2.2.1) (vv0.2.2.2.2.1) (vv0.2.2.2.2.2.1) (vv0.2.2.2.2.2.2.1) (vv0.2.2.2.2.2.2.2.1) (vv0.2.2.2.2.2.2.2.2.1) (vv0.2.2.2.2.2.2.2.2.2.1) (vv0.2.2.2.2.2.2.2.2.2.2.1) (vv0.2.2.2.2.2.2.2.2.2.2.2.1) (vv0.2.2.2.2.2.2.2.2.2.2.2.2.1) (vv0.2.2.2.2.2.2.2.2.2.2.2.2.2)
@[irreducible] def vv0 : Ty0 := @ata _ ne0 0 P0
@[irreducible] def w : World := vv0.1
@[irreducible] def dp : Nat := vv0.2.1
@[irreducible] def un : Nat := vv0.2.2.1
@[irreducible] def s : Shared := vv0.2.2.2.2.2.1
@[irreducible] def p : Program := vv0.2.2.2.2.2.2.1
@[irreducible] def Q : Value → Shared → Prop := vv0.2.2.2.2.2.2.2.2.2.2.2.2.1
@[irreducible] def t1 : Tok := vv0.2.2.2.2.2.2.2.2.2.2.2.2.2
theorem prf0 : St0 w dp un (vv0.2.2.2.1) (vv0.2.2.2.2.1) s p (vv0.2.2.2.2.2.2.2.1) (vv0.2.2.2.2.2.2.2.2.1) (vv0.2.2.2.2.2.2.2.2.2.1) (vv0.2.2.2.2.2.2.2.2.2.2.1) (vv0.2.2.2.2.2.2.2.2.2.2.2.1) Q t1 := by
  intro X T hd hu n h0 h1 hQ
  k_extra "fl"
  refine wpN_call ?_
  refine code_defN [(Str.ofString "n", .int n t1)] X T (by k_is) (by k_is) (by (show dp < recursionLimit); k_extra "rm") (BindsTo.of_eq rfl) (locs rfl) ?_ rfl rfl rfl (by decide)
  intro L h F N
  (try dsimp only)
  refine wpN_of_any ?_
  have ht : IsTup s.heap 42 #[Value.int 1 285, Value.int 2 286, Value.int 4 287, Value.int 8 288] := ⟨_, X _ _ (by k_is), rfl, _, rfl⟩
  have e1 : (1 : Int) * 2 ^ ((8 : Int) * 1 - 2).toNat = 64 := by decide
  have e2 : (1 : Int) * 2 ^ ((8 : Int) * 2 - 2).toNat = 16384 := by decide
  have e3 : (1 : Int) * 2 ^ ((8 : Int) * 4 - 2).toNat = 1073741824 := by decide
  repeat' walk1
  all_goals exact hQ _ _ _ _ (by unfold wide; (repeat' split) <;> lia) (Fr.keep (by assumption))
end varint_size_N
theorem varint_size_N {w : World} {dp : Nat} {un : Nat} {fr : Option (List Env)} {gd : Option (List Code)} {s : Shared} {p : Program} {loose : List Str} {mean : ExcName → Option Value} {mg : Str → Option Value} {mb : Str → Option Value} {E : Value → Shared → Prop} {Q : Value → Shared → Prop} {t1 : Tok} : varint_size_N.St0 w dp un fr gd s p loose mean mg mb E Q t1 :=
  @ata_spec _ varint_size_N.ne0 0 varint_size_N.P0 (by with_unfolding_all exact varint_size_N.prf0) (w, dp, un, fr, gd, s, p, loose, mean, mg, mb, E, Q, t1)
theorem kw_17 : True := by
  k_with "getMethod ref" => ((with_reducible show wpAny _ _ (getMethod (Value.ref 42) _ _) _ _ _); refine method_42 (get_42 (Frag.In.keeps (by assumption) (Fr.keep (by assumption)))) ?_)
  k_with "call builtin:tuple.index" => ((with_reducible show wpAny _ _ (call _ [Value.ref 42, Value.int _ _] _) _ _ _); refine index_42 (by lia) (Frag.In.keeps (by assumption) (Fr.keep (by assumption))) ?_; intro _ _; (try dsimp only))
  trivial
namespace put_varint_N
noncomputable def St0 (w : World) (dp : Nat) (un : Nat) (fr : Option (List Env)) (gd : Option (List Code)) (s : Shared) (p : Program) (loose : List Str) (mean : ExcName → Option Value) (mg : Str → Option Value) (mb : Str → Option Value) (E : Value → Shared → Prop) (Q : Value → Shared → Prop) (t1 : Tok) : Prop := ∀ (X : (mkK.heap_1 w.params).In s.heap) (T : Top p loose mean mg mb s.heap) (hd : dp + 20 < recursionLimit) (hu : un + 100 < cLine) {n : Int} (h0 : 0 ≤ n) (h1 : n < 1073741824) (hQ : ∀ b tk h' tk', (b.size : Int) = wide n → (∀ a o, s.heap.get? a = some o → h'.get? a = some o) → Q (.bytes b tk) { s with heap := h', toks := tk' }),
   wpN (model Challenge.pw_pf0272_01 w) (Ak dp un fr gd) (call (.ref 63) [.int n t1, .none]) Q E s
noncomputable abbrev Ty0 : Type := (World) × (Nat) × (Nat) × (Option (List Env)) × (Option (List Code)) × (Shared) × (Program) × (List Str) × (ExcName → Option Value) × (Str → Option Value) × (Str → Option Value) × (Value → Shared → Prop) × (Value → Shared → Prop) × (Tok)
theorem ne0 : Nonempty Ty0 := ⟨Classical.choice neW, Classical.choice inferInstance, Classical.choice inferInstance, Classical.choice inferInstance, Classical.choice inferInstance, Classical.choice neS, Classical.choice inferInstance, Classical.choice inferInstance, Classical.choice inferInstance, Classical.choice inferInstance, Classical.choice inferInstance, Classical.choice inferInstance, Classical.choice inferInstance, Classical.choice inferInstance⟩
noncomputable def P0 (vv0 : Ty0) : Prop := St0 (vv0.1) (vv0.2.1) (vv0.2.2.1) (vv0.2.2.2.1) (vv0.2.2.2.2.1) (vv0.2.2.2.2.2.1) (vv0.2.2.2.2.2.2.1) (vv0.2.2.2.2.2.2.2.1) (vv0.2.2.2.2.2.2.2.2.1) (vv0.2.2.2.2.2.2.2.2.2.1) (vv0.2.2.2.2.2.2.2.2.2.2.1) (vv0.2.2.2.2.2.2.2.2.2.2.2.1) (vv0.2.2.2.2.2.2.2.2.2.2.2.2.1) (vv0.2.2.2.2.2.2.2.2.2.2.2.2.2)
@[irreducible] def vv0 : Ty0 := @ata _ ne0 0 P0
@[irreducible] def w : World := vv0.1
@[irreducible] def dp : Nat := vv0.2.1
@[irreducible] def un : Nat := vv0.2.2.1
@[irreducible] def fr : Option (List Env) := vv0.2.2.2.1
@[irreducible] def s : Shared := vv0.2.2.2.2.2.1
@[irreducible] def p : Program := vv0.2.2.2.2.2.2.1
@[irreducible] def Q : Value → Shared → Prop := vv0.2.2.2.2.2.2.2.2.2.2.2.2.1
@[irreducible] def t1 : Tok := vv0.2.2.2.2.2.2.2.2.2.2.2.2.2
theorem prf0 : St0 w dp un fr (vv0.2.2.2.2.1) s p (vv0.2.2.2.2.2.2.2.1) (vv0.2.2.2.2.2.2.2.2.1) (vv0.2.2.2.2.2.2.2.2.2.1) (vv0.2.2.2.2.2.2.2.2.2.2.1) (vv0.2.2.2.2.2.2.2.2.2.2.2.1) Q t1 := by
  intro X T hd hu n h0 h1 hQ
  k_extra "fl"
  refine wpN_call ?_
  refine code_defN [(Str.ofString "n", .int n t1), (Str.ofString "size", .none)] X T (by k_is) (by k_is) (by (show dp < recursionLimit); k_extra "rm") (BindsTo.of_eq rfl) (locs rfl) ?_ rfl rfl rfl (by decide)
  intro L h F N
  (try dsimp only)
  refine wpN_execs_cons (wpN_Assign_Name (Call_N (wpN_of_any ?_)))
  repeat' walk1
  refine callWith_NK (K := mkK.heap_1 w.params) (by k_is) (args_cons_N (wpN_of_any ?_))
  repeat' walk1
  refine args_nil_N ⟨X.keeps (Fr.keep (by assumption)), ?_⟩
  rename Fr _ _ _ _ => F
  rename News _ _ _ _ => N
  refine varint_size_N (X.keeps F.keep) (T.keeps F.keep) (by (show dp + 1 + 10 < recursionLimit); k_extra "rm") (by (show un + 3 + 50 < cLine); k_extra "rm") h0 h1 fun v tk h2 tk2 hv k2 => ?_
  have F2 := fr_keep F k2
  have N2 := news_keep N k2
  clear F N
  refine wpN_of_any ?_
  repeat' walk1
  (try dsimp only)
  refine wpN_execs_cons (wpN_of_any ?_)
  repeat' walk1
  (try dsimp only)
  have hz : v = 1 ∨ v = 2 ∨ v = 4 := by subst hv; unfold wide; (repeat' split) <;> lia
  have ht : IsTup s.heap 42 #[Value.int 1 285, Value.int 2 286, Value.int 4 287, Value.int 8 288] := ⟨_, X _ _ (by k_is), rfl, _, rfl⟩
  refine wpN_execs_cons (wpN_of_any ?_)
  rcases hz with rfl | rfl | rfl
  all_goals (repeat' walk1)
  all_goals dsimp only
  all_goals (refine wpN_execs_cons (wpN_Return_some (Call_N (wpN_of_any ?_))))
  all_goals (repeat' walk1)
  all_goals (refine callWith_NK (K := mkK.heap_1 w.params) (by k_is) (args_cons_N (wpN_of_any ?_)))
  all_goals (repeat' walk1)
  all_goals (refine args_cons_N (wpN_of_any ?_))
  all_goals (repeat' walk1)
  all_goals (refine args_nil_N ⟨X.keeps (Fr.keep (by assumption)), ?_⟩)
  all_goals (rename Fr _ _ _ _ => F)
  all_goals (refine put_whole_N (X.keeps F.keep) (T.keeps F.keep) (by (show dp + 1 + 10 < recursionLimit); k_extra "rm") (by (show un + 3 + 50 < cLine); k_extra "rm") ?_ ?_ fun b tk h2 tk2 hb k2 => hQ b tk h2 tk2 (by rw [hb, ← hv]) (fun a o e => k2 a o (F.keep a o e)))
  all_goals clear hQ F T X
  · exact (bitor_bounds (x := 0) (by lia) h0).1
  · have := (bitor_bounds (x := 0) (by lia) h0).2
    have h3 : n < 64 := by unfold wide at hv; split at hv <;> (try split at hv) <;> lia
    left; exact ⟨rfl, Int.lt_of_le_of_lt this (by lia)⟩
  · exact (bitor_bounds (x := 16384) (by lia) h0).1
  · have := (bitor_bounds (x := 16384) (by lia) h0).2
    have h3 : n < 16384 := by unfold wide at hv; split at hv <;> (try split at hv) <;> lia
    right; left; exact ⟨rfl, Int.lt_of_le_of_lt this (by lia)⟩
  · exact (bitor_bounds (x := 2147483648) (by lia) h0).1
  · have := (bitor_bounds (x := 2147483648) (by lia) h0).2
    right; right; exact ⟨rfl, Int.lt_of_le_of_lt this (by lia)⟩
end put_varint_N
theorem put_varint_N {w : World} {dp : Nat} {un : Nat} {fr : Option (List Env)} {gd : Option (List Code)} {s : Shared} {p : Program} {loose : List Str} {mean : ExcName → Option Value} {mg : Str → Option Value} {mb : Str → Option Value} {E : Value → Shared → Prop} {Q : Value → Shared → Prop} {t1 : Tok} : put_varint_N.St0 w dp un fr gd s p loose mean mg mb E Q t1 :=
  @ata_spec _ put_varint_N.ne0 0 put_varint_N.P0 (by with_unfolding_all exact put_varint_N.prf0) (w, dp, un, fr, gd, s, p, loose, mean, mg, mb, E, Q, t1)
end
noncomputable section
open PySem PySem.W PySem.W.X PySem.Spec PySem.Calls PyProof.Rows
theorem kw_20 : True := by
  k_with_none
  trivial
theorem no_ble {x : Nat} (h : x ≤ 4096) : ¬ (Nat.ble (Nat.succ sizeLine) x = true) := by
  intro e
  have := Nat.le_of_ble_eq_true e
  rw [sizeLine_eq] at this
  omega
theorem sz2 {b1 b2 : Array UInt8} (h1 : b1.size ≤ 64) (h2 : b2.size ≤ 64) : b1.size + b2.size ≤ 4096 := by omega
theorem sz3 {b1 b2 b3 : Array UInt8} (h1 : b1.size ≤ 64) (h2 : b2.size ≤ 64) (h3 : b3.size ≤ 64) : b1.size + b2.size + b3.size ≤ 4096 := by omega
theorem sz3' {b1 b2 b3 : Array UInt8} (h1 : b1.size ≤ 64) (h2 : b2.size ≤ 64) (h3 : b3.size ≤ 64) : b1.size + (b2.size + b3.size) ≤ 4096 := by omega
section
theorem kw_19 : True := by
  k_with "xc" => first | exact hQ _ _ _ rfl | (apply hQ; simp [Builtin.Bytes.joined, Nat.add_assoc])
  k_with "om" => (rename Nat.ble (Nat.succ sizeLine) _ = true => hbl; refine absurd hbl (no_ble ?_); (try simp [Builtin.Bytes.joined]); first | exact sz2 h1 h2 | exact sz3 h1 h2 h3 | exact sz3' h1 h2 h3)
  trivial
set_option hygiene false in
local macro_rules | `(tactic| omega) => `(tactic| k_extra "om")
theorem join_1 {prog : Program} {w : World} {A : Around} {s : Shared} {E : Value → Shared → Prop} {Q : Value → Shared → Prop} {t0 t1 : Tok} {l : Addr} {b1 : Array UInt8} 
   (hL : s.heap.IsList l #[.bytes b1 t1]) (hQ : ∀ b tk tk', b.size = b1.size → Q (.bytes b tk) { s with toks := tk' }) :
   wpAny (model prog w) A (call (.builtin "bytes.join") [.bytes #[] t0, .ref l] []) Q E s := by
  obtain ⟨d, n, sl, hl⟩ := isList_open hL
  x_run
theorem join_2 {prog : Program} {w : World} {A : Around} {s : Shared} {E : Value → Shared → Prop} {Q : Value → Shared → Prop} {t0 t1 t2 : Tok} {l : Addr} {b1 b2 : Array UInt8} (h1 : b1.size ≤ 64) (h2 : b2.size ≤ 64)
   (hL : s.heap.IsList l #[.bytes b1 t1, .bytes b2 t2]) (hQ : ∀ b tk tk', b.size = b1.size + b2.size → Q (.bytes b tk) { s with toks := tk' }) :
   wpAny (model prog w) A (call (.builtin "bytes.join") [.bytes #[] t0, .ref l] []) Q E s := by
  obtain ⟨d, n, sl, hl⟩ := isList_open hL
  x_run
theorem join_3 {prog : Program} {w : World} {A : Around} {s : Shared} {E : Value → Shared → Prop} {Q : Value → Shared → Prop} {t0 t1 t2 t3 : Tok} {l : Addr} {b1 b2 b3 : Array UInt8} (h1 : b1.size ≤ 64) (h2 : b2.size ≤ 64) (h3 : b3.size ≤ 64)
   (hL : s.heap.IsList l #[.bytes b1 t1, .bytes b2 t2, .bytes b3 t3]) (hQ : ∀ b tk tk', b.size = b1.size + b2.size + b3.size → Q (.bytes b tk) { s with toks := tk' }) :
   wpAny (model prog w) A (call (.builtin "bytes.join") [.bytes #[] t0, .ref l] []) Q E s := by
  obtain ⟨d, n, sl, hl⟩ := isList_open hL
  x_run
end
theorem slot_bytes_join : Slot "bytes" (Str.ofString "join") "bytes.join" :=
  .of (owner := "bytes") (n := "join") (by rw [typeLookup_type, builtinLookup_eq_fast]; kernel_rfl) (by decide +kernel) (by decide +kernel) (by decide +kernel)
    (by first | exact .inl (by decide +kernel) | exact .inr (by decide +kernel)) (by rw [isSubtype_type]; kernel_rfl)
theorem type_bytes_join : typeOf (.builtin "bytes.join") = pure (.type "method_descriptor") := by show builtinType _ = _; rw [builtinType_eq_fast]; kernel_rfl
theorem getMethod_join {M : Model} {A : Around} {s : Shared} {E : Value → Shared → Prop} {b : Array UInt8} {t : Tok} {pl : Sem Bool} {Q : Value × List Value → Shared → Prop} (h : Q (.builtin "bytes.join", [.bytes b t]) s) :
    wpAny M A (getMethod (.bytes b t) (Str.ofString "join") pl) Q E s :=
  getMethod_builtin (typeIs_bytes _ _ _) FB.plainAttrs_bytes slot_bytes_join type_bytes_join (fun a e => by cases e) h
end
noncomputable section
theorem kw_21 : True := by
  k_with_none
  k_with "rm" => first | exact room_lt (by assumption) rfl | exact room_lt1 (by assumption) | lia
  k_with "g1" => refine by_goal fun zG zh => ?_
  k_with "g2" => (refine zh ?_; clear zh zG)
  trivial
theorem ints_mem {vs : List Value} {ns : List Int} (h : IntsAre vs ns) {v : Value} (hv : v ∈ vs) : ∃ n t, v = .int n t ∧ n ∈ ns := by
  induction h with
  | nil => cases hv
  | cons n t _ ih =>
    rcases List.mem_cons.mp hv with rfl | hv
    · exact ⟨n, t, rfl, .head _⟩
    · k_extra "g1"
      obtain ⟨n, t, e, hm⟩ := ih hv
      k_extra "g2"
      exact ⟨n, t, e, .tail _ hm⟩
theorem wide_le (n : Int) : wide n ≤ 4 := by unfold wide; (repeat' split) <;> lia
theorem join_paired {prog : Program} {w : World} {A : Around} {s : Shared} {E : Value → Shared → Prop} {Q : Value → Shared → Prop} {t0 : Tok} {D : Addr} {ys : Array Value} {vs : List Value} {ns : List Int}
   (hi : IntsAre vs ns) (hp : Paired (fun v y => ∃ n t b tk, v = Value.int n t ∧ y = Value.bytes b tk ∧ (b.size : Int) = wide n) vs ys.toList) (hn : 1 ≤ ns.length ∧ ns.length ≤ 3) (hL : s.heap.IsList D ys)
   (hQ : ∀ b tk tk', (b.size : Int) = (ns.map wide).sum → Q (.bytes b tk) { s with toks := tk' }) :
   wpAny (model prog w) A (call (.builtin "bytes.join") [.bytes #[] t0, .ref D]) Q E s := by
  obtain ⟨yl⟩ := ys
  simp only at hp
  cases hi with
  | nil => simp at hn
  | cons n1 t1 hi =>
  cases hp with
  | cons h1 hp =>
  k_extra "g1"
  obtain ⟨_, _, b1, k1, e1, rfl, hb1⟩ := h1
  k_extra "g2"
  cases e1
  have w1 := wide_le n1
  cases hi with
  | nil =>
    cases hp
    refine join_1 hL fun b tk tk' hb => hQ b tk tk' ?_
    simp; lia
  | cons n2 t2 hi =>
  cases hp with
  | cons h2 hp =>
  k_extra "g1"
  obtain ⟨_, _, b2, k2, e2, rfl, hb2⟩ := h2
  k_extra "g2"
  cases e2
  have w2 := wide_le n2
  cases hi with
  | nil =>
    cases hp
    refine join_2 (by lia) (by lia) hL fun b tk tk' hb => hQ b tk tk' ?_
    simp; lia
  | cons n3 t3 hi =>
  cases hp with
  | cons h3 hp =>
  k_extra "g1"
  obtain ⟨_, _, b3, k3, e3, rfl, hb3⟩ := h3
  k_extra "g2"
  cases e3
  have w3 := wide_le n3
  cases hi with
  | nil =>
    cases hp
    refine join_3 (by lia) (by lia) (by lia) hL fun b tk tk' hb => hQ b tk tk' ?_
    simp; lia
  | cons => simp at hn
theorem put_numbers_N {w : World} {dp un : Nat} {fr : Option (List Env)} {gd : Option (List Code)} {s : Shared} {p : Program} {loose : List Str} {mean : ExcName → Option Value} {mg mb : Str → Option Value} {E : Value → Shared → Prop} {Q : Value → Shared → Prop}
   (X : (mkK.heap_1 w.params).In s.heap) (T : Top p loose mean mg mb s.heap) (hd : dp + 30 < recursionLimit) (hu : un + 200 < cLine) {l : Addr} {vs : List Value} {ns : List Int}
   (hl : s.heap.IsList l vs.toArray) (hi : IntsAre vs ns) (hr : ∀ n ∈ ns, 0 ≤ n ∧ n < 1073741824) (hn : 1 ≤ ns.length ∧ ns.length ≤ 3)
   (hQ : ∀ b tk h' tk', (b.size : Int) = (ns.map wide).sum → (∀ a o, s.heap.get? a = some o → h'.get? a = some o) → Q (.bytes b tk) { s with heap := h', toks := tk' }) :
   wpN (model Challenge.pw_pf0272_01 w) (Ak dp un fr gd) (call (.ref 69) [.ref l]) Q E s := by
  have _h : Challenge.rw_pf0272_01 = Challenge.rw_pf0272_01 ∧ mkK.heap_1 = mkK.heap_1 := by
    k_fill
    exact ⟨rfl, rfl⟩
  clear _h
  refine wpN_call ?_
  refine code_defN [(Str.ofString "numbers", .ref l)] X T (by k_is) (by k_is) (by (show dp < recursionLimit); k_extra "rm") (BindsTo.of_eq rfl) (locs rfl) ?_ rfl rfl rfl (by decide)
  intro L h F N
  dsimp only
  refine wpN_execs_cons (wpN_Return_some (Call_meth_N (wpN_of_any ?_)))
  repeat' walk1
  refine getMethod_join ?_
  dsimp only
  refine callWith_NB (args_cons_N (ListComp_N (fun v y => ∃ n t b tk, v = .int n t ∧ y = .bytes b tk ∧ (b.size : Int) = wide n) rfl (by decide) (by decide) rfl (by decide) rfl (wpN_of_any ?_)))
  repeat' ((with_reducible show wpAny _ _ _ _ _ _); walk1)
  have hlen : vs.length = ns.length := hi.length
  refine ⟨l, vs.toArray, rfl, hl.at (F.keep _), by rw [sizeLine_eq]; simp; lia, ?_, ?_⟩
  · intro C v s₂ m₂ hv hC hns hm hst hk
    have zx := ints_mem hi (by simpa using hv)
    k_extra "g1"
    obtain ⟨n, t, rfl, hmem⟩ := zx
    k_extra "g2"
    k_extra "g1"
    obtain ⟨h2, t2, rfl⟩ := hst
    k_extra "g2"
    have F₂ : Fr s.heap C h2 m₂ := ⟨hns, fun b o e => hk b o (F.keep b o e), Nat.le_trans F.above (Nat.le_trans (Nat.le_of_lt F.ns.lt) hC)⟩
    have N₂ : News s.heap C h2 [] := News.nil
    clear F N
    refine Call_N (wpN_of_any ?_)
    repeat' ((with_reducible show wpAny _ _ _ _ _ _); walk1)
    refine callWith_NK (K := mkK.heap_1 w.params) (by k_is) (args_cons_N (wpN_of_any ?_))
    repeat' ((with_reducible show wpAny _ _ _ _ _ _); walk1)
    refine args_cons_N (wpN_of_any ?_)
    repeat' ((with_reducible show wpAny _ _ _ _ _ _); walk1)
    rename Fr _ _ _ _ => F₂
    refine args_nil_N ⟨X.keeps F₂.keep, ?_⟩
    refine put_varint_N (X.keeps F₂.keep) (T.keeps F₂.keep) (by (show dp + 1 + 20 < recursionLimit); k_extra "rm") (by (show un + 3 + 100 < cLine); k_extra "rm") (hr n hmem).1 (hr n hmem).2 fun b tk h' tk' hb k => ?_
    exact ⟨⟨n, t, b, tk, rfl, rfl, hb⟩, h', tk', rfl, k⟩
  · intro D h' tk ys hD hys hp hk
    refine args_nil_N ?_
    dsimp only [List.nil_append, List.cons_append]
    refine wpN_of_any ?_
    have hk2 : ∀ b o, s.heap.get? b = some o → h'.get? b = some o := fun b o e => hk b o (F.keep b o e)
    exact join_paired hi (by simpa using hp) hn hys fun b tk1 tk2 hb => hQ b tk1 h' tk2 hb hk2
end
noncomputable section
theorem kw_22 : True := by
  k_with_none
  k_with "rm" => first | exact room_lt (by assumption) rfl | exact room_lt1 (by assumption) | lia
  trivial
theorem put_counted_N {w : World} {dp un : Nat} {fr : Option (List Env)} {gd : Option (List Code)} {s : Shared} {p : Program} {loose : List Str} {mean : ExcName → Option Value} {mg mb : Str → Option Value} {E : Value → Shared → Prop} {Q : Value → Shared → Prop}
   (X : (mkK.heap_1 w.params).In s.heap) (T : Top p loose mean mg mb s.heap) (hd : dp + 30 < recursionLimit) (hu : un + 200 < cLine) {d : Array UInt8} {t : Tok} (hs : d.size ≤ 64)
   (hQ : ∀ b tk h' tk', (b.size : Int) = wide d.size + d.size → (∀ a o, s.heap.get? a = some o → h'.get? a = some o) → Q (.bytes b tk) { s with heap := h', toks := tk' }) :
   wpN (model Challenge.pw_pf0272_01 w) (Ak dp un fr gd) (call (.ref 76) [.bytes d t]) Q E s := by
  have _h : Challenge.rw_pf0272_01 = Challenge.rw_pf0272_01 ∧ mkK.heap_1 = mkK.heap_1 := by
    k_fill
    exact ⟨rfl, rfl⟩
  clear _h
  refine wpN_call ?_
  refine code_defN [(Str.ofString "data", .bytes d t)] X T (by k_is) (by k_is) (by (show dp < recursionLimit); k_extra "rm") (BindsTo.of_eq rfl) (locs rfl) ?_ rfl rfl rfl (by decide)
  intro L h F N
  dsimp only
  refine wpN_execs_cons (wpN_Return_some (wpN_BinOp (Call_N (wpN_of_any ?_))))
  repeat' ((with_reducible show wpAny _ _ _ _ _ _); walk1)
  refine callWith_NK (K := mkK.heap_1 w.params) (by k_is) (args_cons_N (wpN_of_any ?_))
  repeat' ((with_reducible show wpAny _ _ _ _ _ _); walk1)
  refine args_cons_N (wpN_of_any ?_)
  repeat' ((with_reducible show wpAny _ _ _ _ _ _); walk1)
  rename Fr _ _ _ _ => F
  refine args_nil_N ⟨X.keeps F.keep, ?_⟩
  refine put_varint_N (X.keeps F.keep) (T.keeps F.keep) (by (show dp + 1 + 20 < recursionLimit); k_extra "rm") (by (show un + 3 + 100 < cLine); k_extra "rm") (by lia) (by lia) fun b tk h2 tk2 hb k2 => ?_
  have F2 := fr_keep F k2
  have N2 := news_keep N k2
  clear N
  refine wpN_of_any ?_
  repeat' ((with_reducible show wpAny _ _ _ _ _ _); walk1)
  have w1 := wide_le d.size
  refine wpN_of_any (PySem.W.KBy.add_bytes (by lia) fun t' k => hQ _ _ _ _ (by simp; lia) fun a o e => k2 a o (F.keep a o e))
end
noncomputable section
theorem kw_23 : True := by
  k_with_none
  k_with "rm" => first | exact room_lt (by assumption) rfl | exact room_lt1 (by assumption) | lia
  k_with "W" => (repeat' (first | ((with_reducible show wpAny _ _ _ _ _ _); walk1) | ((with_reducible show ite _ _ _); walk1)))
  trivial
theorem put_oct_tok_N {w : World} {dp un : Nat} {fr : Option (List Env)} {gd : Option (List Code)} {s : Shared} {p : Program} {loose : List Str} {mean : ExcName → Option Value} {mg mb : Str → Option Value} {E : Value → Shared → Prop} {Q : Value → Shared → Prop}
   (X : (mkK.heap_1 w.params).In s.heap) (T : Top p loose mean mg mb s.heap) (hd : dp + 40 < recursionLimit) (hu : un + 300 < cLine) {a : Addr} {t1 t2 : Tok} {b : Array UInt8} (hs : b.size ≤ 64)
   (ht : IsTup s.heap a #[.str (Str.ofString "new_token") t1, .bytes b t2])
   (hQ : ∀ c tk h' tk', (c.size : Int) = 1 + wide b.size + b.size → (∀ a o, s.heap.get? a = some o → h'.get? a = some o) → Q (.bytes c tk) { s with heap := h', toks := tk' }) :
   wpN (model Challenge.pw_pf0272_01 w) (Ak dp un fr gd) (call (.ref 118) [.ref a]) Q E s := by
  have _h : Challenge.rw_pf0272_01 = Challenge.rw_pf0272_01 ∧ mkK.heap_1 = mkK.heap_1 := by
    k_fill
    exact ⟨rfl, rfl⟩
  clear _h
  refine wpN_call ?_
  refine code_defN [(Str.ofString "f", .ref a)] X T (by k_is) (by k_is) (by (show dp < recursionLimit); k_extra "rm") (BindsTo.of_eq rfl) (locs rfl) ?_ rfl rfl rfl (by decide)
  intro L h F N
  dsimp only
  refine wpN_execs_cons (wpN_of_any ?_)
  k_extra "W"
  dsimp only
  refine wpN_execs_cons (wpN_of_any ?_)
  k_extra "W"
  dsimp only
  refine wpN_execs_cons (wpN_If (wpN_of_any ?_))
  k_extra "W"
  refine wpN_execs_cons (wpN_Return_some (wpN_BinOp (Call_N (wpN_of_any ?_))))
  k_extra "W"
  refine callWith_NK (K := mkK.heap_1 w.params) (by k_is) (args_cons_N (wpN_of_any ?_))
  k_extra "W"
  rename Fr _ _ _ _ => F
  rename News _ _ _ _ => N
  refine args_nil_N ⟨X.keeps F.keep, ?_⟩
  refine put_numbers_N (vs := [_]) (ns := [7]) (X.keeps F.keep) (T.keeps F.keep) (by (show dp + 1 + 30 < recursionLimit); k_extra "rm") (by (show un + 3 + 200 < cLine); k_extra "rm") ⟨_, (N _ (.head _)).1, rfl, _, rfl⟩ (.cons _ _ .nil) (by simp) (by simp) fun c tk h2 tk2 hc k2 => ?_
  have F2 := fr_keep F k2
  have N2 := news_keep N k2
  clear F N
  refine Call_N (wpN_of_any ?_)
  k_extra "W"
  refine callWith_NK (K := mkK.heap_1 w.params) (by k_is) (args_cons_N (wpN_of_any ?_))
  k_extra "W"
  rename Fr _ _ _ _ => F
  rename News _ _ _ _ => N
  refine args_nil_N ⟨X.keeps F.keep, ?_⟩
  refine put_counted_N (X.keeps F.keep) (T.keeps F.keep) (by (show dp + 1 + 30 < recursionLimit); k_extra "rm") (by (show un + 3 + 200 < cLine); k_extra "rm") hs fun c2 tk h3 tk3 hc2 k3 => ?_
  have w1 := wide_le b.size
  have w2 := wide_le 7
  simp at hc
  refine wpN_of_any (PySem.W.KBy.add_bytes (by lia) fun t' k => hQ _ _ _ _ ?_ fun a o e => k3 a o (F.keep a o e))
  have w3 : wide 7 = 1 := by decide
  simp; lia
end
noncomputable section
variable {w : World} {dp un : Nat} {fr : Option (List Env)} {gd : Option (List Code)} {s : Shared} {p : Program} {loose : List Str} {mean : ExcName → Option Value} {mg mb : Str → Option Value} {E : Value → Shared → Prop} {Q : Value → Shared → Prop}
theorem kw_24 : True := by
  k_with_none
  k_with "rm" => first | exact room_lt (by assumption) rfl | exact room_lt1 (by assumption) | lia
  k_with "fl" => ((have _h : Challenge.rw_pf0272_01 = Challenge.rw_pf0272_01 ∧ mkK.heap_1 = mkK.heap_1 := by (k_fill; exact ⟨rfl, rfl⟩)); clear _h)
  k_with "W" => (repeat' (first | ((with_reducible show wpAny _ _ _ _ _ _); walk1) | ((with_reducible show ite _ _ _); walk1)))
  trivial
theorem put_oct_resp_N 
   (X : (mkK.heap_1 w.params).In s.heap) (T : Top p loose mean mg mb s.heap) (hd : dp + 40 < recursionLimit) (hu : un + 300 < cLine) {a : Addr} {t1 t2 : Tok} {b : Array UInt8} (hs : b.size ≤ 64)
   (ht : IsTup s.heap a #[.str (Str.ofString "path_response") t1, .bytes b t2])
   (hQ : ∀ c tk h' tk', (c.size : Int) = 1 + b.size → (∀ a o, s.heap.get? a = some o → h'.get? a = some o) → Q (.bytes c tk) { s with heap := h', toks := tk' }) :
   wpN (model Challenge.pw_pf0272_01 w) (Ak dp un fr gd) (call (.ref 118) [.ref a]) Q E s := by
  k_extra "fl"
  refine wpN_call ?_
  refine code_defN [(Str.ofString "f", .ref a)] X T (by k_is) (by k_is) (by (show dp < recursionLimit); k_extra "rm") (BindsTo.of_eq rfl) (locs rfl) ?_ rfl rfl rfl (by decide)
  intro L h F N
  dsimp only
  refine wpN_execs_cons (wpN_of_any ?_)
  k_extra "W"
  dsimp only
  refine wpN_execs_cons (wpN_of_any ?_)
  k_extra "W"
  dsimp only
  refine wpN_execs_cons (wpN_of_any ?_)
  k_extra "W"
  dsimp only
  refine wpN_execs_cons (wpN_If (wpN_of_any ?_))
  k_extra "W"
  refine wpN_execs_cons (wpN_Return_some (wpN_BinOp (Call_N (wpN_of_any ?_))))
  k_extra "W"
  refine callWith_NK (K := mkK.heap_1 w.params) (by k_is) (args_cons_N (wpN_of_any ?_))
  k_extra "W"
  rename Fr _ _ _ _ => F
  rename News _ _ _ _ => N
  refine args_nil_N ⟨X.keeps F.keep, ?_⟩
  refine put_numbers_N (vs := [_]) (ns := [27]) (X.keeps F.keep) (T.keeps F.keep) (by (show dp + 1 + 30 < recursionLimit); k_extra "rm") (by (show un + 3 + 200 < cLine); k_extra "rm") ⟨_, (N _ (.head _)).1, rfl, _, rfl⟩ (.cons _ _ .nil) (by simp) (by simp) fun c tk h2 tk2 hc k2 => ?_
  have F2 := fr_keep F k2
  have N2 := news_keep N k2
  clear F N
  refine wpN_of_any ?_
  k_extra "W"
  have w2 := wide_le 27
  simp at hc
  refine wpN_of_any (PySem.W.KBy.add_bytes (by lia) fun t' k => hQ _ _ _ _ ?_ F2.keep)
  have w3 : wide 27 = 1 := by decide
  simp; lia
theorem put_oct_chal_N 
   (X : (mkK.heap_1 w.params).In s.heap) (T : Top p loose mean mg mb s.heap) (hd : dp + 40 < recursionLimit) (hu : un + 300 < cLine) {a : Addr} {t1 t2 : Tok} {b : Array UInt8} (hs : b.size ≤ 64)
   (ht : IsTup s.heap a #[.str (Str.ofString "path_challenge") t1, .bytes b t2])
   (hQ : ∀ c tk h' tk', (c.size : Int) = 1 + b.size → (∀ a o, s.heap.get? a = some o → h'.get? a = some o) → Q (.bytes c tk) { s with heap := h', toks := tk' }) :
   wpN (model Challenge.pw_pf0272_01 w) (Ak dp un fr gd) (call (.ref 118) [.ref a]) Q E s := by
  k_extra "fl"
  refine wpN_call ?_
  refine code_defN [(Str.ofString "f", .ref a)] X T (by k_is) (by k_is) (by (show dp < recursionLimit); k_extra "rm") (BindsTo.of_eq rfl) (locs rfl) ?_ rfl rfl rfl (by decide)
  intro L h F N
  dsimp only
  refine wpN_execs_cons (wpN_of_any ?_)
  k_extra "W"
  dsimp only
  refine wpN_execs_cons (wpN_of_any ?_)
  k_extra "W"
  dsimp only
  refine wpN_execs_cons (wpN_of_any ?_)
  k_extra "W"
  dsimp only
  refine wpN_execs_cons (wpN_If (wpN_of_any ?_))
  k_extra "W"
  refine wpN_execs_cons (wpN_Return_some (wpN_BinOp (Call_N (wpN_of_any ?_))))
  k_extra "W"
  refine callWith_NK (K := mkK.heap_1 w.params) (by k_is) (args_cons_N (wpN_of_any ?_))
  k_extra "W"
  rename Fr _ _ _ _ => F
  rename News _ _ _ _ => N
  refine args_nil_N ⟨X.keeps F.keep, ?_⟩
  refine put_numbers_N (vs := [_]) (ns := [26]) (X.keeps F.keep) (T.keeps F.keep) (by (show dp + 1 + 30 < recursionLimit); k_extra "rm") (by (show un + 3 + 200 < cLine); k_extra "rm") ⟨_, (N _ (.head _)).1, rfl, _, rfl⟩ (.cons _ _ .nil) (by simp) (by simp) fun c tk h2 tk2 hc k2 => ?_
  have F2 := fr_keep F k2
  have N2 := news_keep N k2
  clear F N
  refine wpN_of_any ?_
  k_extra "W"
  have w2 := wide_le 26
  simp at hc
  refine wpN_of_any (PySem.W.KBy.add_bytes (by lia) fun t' k => hQ _ _ _ _ ?_ F2.keep)
  have w3 : wide 26 = 1 := by decide
  simp; lia
end
noncomputable section
variable {w : World} {dp un : Nat} {fr : Option (List Env)} {gd : Option (List Code)} {s : Shared} {p : Program} {loose : List Str} {mean : ExcName → Option Value} {mg mb : Str → Option Value} {E : Value → Shared → Prop} {Q : Value → Shared → Prop}
theorem kw_26 : True := by
  k_with_none
  k_with "rm" => first | exact room_lt (by assumption) rfl | exact room_lt1 (by assumption) | lia
  k_with "fl" => ((have _h : Challenge.rw_pf0272_01 = Challenge.rw_pf0272_01 ∧ mkK.heap_1 = mkK.heap_1 := by (k_fill; exact ⟨rfl, rfl⟩)); clear _h)
  k_with "W" => (repeat' (first | ((with_reducible show wpAny _ _ _ _ _ _); walk1) | ((with_reducible show ite _ _ _); walk1)))
  trivial
theorem kw_25 : True := by
  k_with "subscriptTail Name Slice ref ref" => (k_here; (with_reducible show wpAny _ _ (subscriptTail _ _ (Value.ref _) (Value.ref _)) _ _ _); (with_unfolding_all refine slice_tuple_from (a := 1) (by assumption) (by assumption) (Fr.tup (by assumption) (by assumption)) (by decide) (by simp) ?_); intro _ _ _)
  trivial
theorem put_frame_hs_N 
   (X : (mkK.heap_1 w.params).In s.heap) (T : Top p loose mean mg mb s.heap) (hd : dp + 50 < recursionLimit) (hu : un + 400 < cLine) {a : Addr} {t1 : Tok} 
   (ht : IsTup s.heap a #[.str (Str.ofString "handshake_done") t1])
   (hQ : ∀ c tk h' tk', (c.size : Int) = 1 → (∀ a o, s.heap.get? a = some o → h'.get? a = some o) → Q (.bytes c tk) { s with heap := h', toks := tk' }) :
   wpN (model Challenge.pw_pf0272_01 w) (Ak dp un fr gd) (call (.ref 125) [.ref a]) Q E s := by
  k_extra "fl"
  refine wpN_call ?_
  refine code_defN [(Str.ofString "f", .ref a)] X T (by k_is) (by k_is) (by (show dp < recursionLimit); k_extra "rm") (BindsTo.of_eq rfl) (locs rfl) ?_ rfl rfl rfl (by decide)
  intro L h F N
  dsimp only
  refine wpN_execs_cons (wpN_of_any ?_)
  k_extra "W"
  dsimp only
  refine wpN_execs_cons (wpN_of_any ?_)
  k_extra "W"
  dsimp only
  refine wpN_execs_cons (wpN_If (wpN_of_any ?_))
  k_extra "W"
  refine wpN_execs_cons (wpN_Return_some (Call_N (wpN_of_any ?_)))
  k_extra "W"
  refine callWith_NK (K := mkK.heap_1 w.params) (by k_is) (args_cons_N (wpN_of_any ?_))
  k_extra "W"
  rename Fr _ _ _ _ => F
  rename News _ _ _ _ => N
  refine args_nil_N ⟨X.keeps F.keep, ?_⟩
  have w1 : wide 30 = 1 := by decide
  refine put_numbers_N (vs := [_]) (ns := [30]) (X.keeps F.keep) (T.keeps F.keep) (by (show dp + 1 + 30 < recursionLimit); k_extra "rm") (by (show un + 3 + 200 < cLine); k_extra "rm") ⟨_, (N _ (.head _)).1, rfl, _, rfl⟩ (.cons _ _ (.nil)) (by simp) (by simp) fun c tk h2 tk2 hc k2 => ?_
  exact hQ c tk h2 tk2 (by simp at hc; lia) fun a o e => k2 a o (F.keep a o e)
theorem put_frame_ping_N 
   (X : (mkK.heap_1 w.params).In s.heap) (T : Top p loose mean mg mb s.heap) (hd : dp + 50 < recursionLimit) (hu : un + 400 < cLine) {a : Addr} {t1 : Tok} 
   (ht : IsTup s.heap a #[.str (Str.ofString "ping") t1])
   (hQ : ∀ c tk h' tk', (c.size : Int) = 1 → (∀ a o, s.heap.get? a = some o → h'.get? a = some o) → Q (.bytes c tk) { s with heap := h', toks := tk' }) :
   wpN (model Challenge.pw_pf0272_01 w) (Ak dp un fr gd) (call (.ref 125) [.ref a]) Q E s := by
  k_extra "fl"
  refine wpN_call ?_
  refine code_defN [(Str.ofString "f", .ref a)] X T (by k_is) (by k_is) (by (show dp < recursionLimit); k_extra "rm") (BindsTo.of_eq rfl) (locs rfl) ?_ rfl rfl rfl (by decide)
  intro L h F N
  dsimp only
  refine wpN_execs_cons (wpN_of_any ?_)
  k_extra "W"
  dsimp only
  refine wpN_execs_cons (wpN_of_any ?_)
  k_extra "W"
  dsimp only
  refine wpN_execs_cons (wpN_If (wpN_of_any ?_))
  k_extra "W"
  refine wpN_execs_cons (wpN_Return_some (Call_N (wpN_of_any ?_)))
  k_extra "W"
  refine callWith_NK (K := mkK.heap_1 w.params) (by k_is) (args_cons_N (wpN_of_any ?_))
  k_extra "W"
  rename Fr _ _ _ _ => F
  rename News _ _ _ _ => N
  refine args_nil_N ⟨X.keeps F.keep, ?_⟩
  have w1 : wide 1 = 1 := by decide
  refine put_numbers_N (vs := [_]) (ns := [1]) (X.keeps F.keep) (T.keeps F.keep) (by (show dp + 1 + 30 < recursionLimit); k_extra "rm") (by (show un + 3 + 200 < cLine); k_extra "rm") ⟨_, (N _ (.head _)).1, rfl, _, rfl⟩ (.cons _ _ (.nil)) (by simp) (by simp) fun c tk h2 tk2 hc k2 => ?_
  exact hQ c tk h2 tk2 (by simp at hc; lia) fun a o e => k2 a o (F.keep a o e)
theorem put_frame_ret_N 
   (X : (mkK.heap_1 w.params).In s.heap) (T : Top p loose mean mg mb s.heap) (hd : dp + 50 < recursionLimit) (hu : un + 400 < cLine) {a : Addr} {t1 : Tok} {n : Int} {t2 : Tok} (h0 : 0 ≤ n) (h1 : n < 1073741824)
   (ht : IsTup s.heap a #[.str (Str.ofString "retire_connection_id") t1, .int n t2])
   (hQ : ∀ c tk h' tk', (c.size : Int) = 1 + wide n → (∀ a o, s.heap.get? a = some o → h'.get? a = some o) → Q (.bytes c tk) { s with heap := h', toks := tk' }) :
   wpN (model Challenge.pw_pf0272_01 w) (Ak dp un fr gd) (call (.ref 125) [.ref a]) Q E s := by
  k_extra "fl"
  refine wpN_call ?_
  refine code_defN [(Str.ofString "f", .ref a)] X T (by k_is) (by k_is) (by (show dp < recursionLimit); k_extra "rm") (BindsTo.of_eq rfl) (locs rfl) ?_ rfl rfl rfl (by decide)
  intro L h F N
  dsimp only
  refine wpN_execs_cons (wpN_of_any ?_)
  k_extra "W"
  dsimp only
  refine wpN_execs_cons (wpN_of_any ?_)
  k_extra "W"
  dsimp only
  refine wpN_execs_cons (wpN_If (wpN_of_any ?_))
  k_extra "W"
  refine wpN_execs_cons (wpN_Return_some (Call_N (wpN_of_any ?_)))
  k_extra "W"
  refine callWith_NK (K := mkK.heap_1 w.params) (by k_is) (args_cons_N (wpN_of_any ?_))
  k_extra "W"
  rename Fr _ _ _ _ => F
  rename News _ _ _ _ => N
  refine args_nil_N ⟨X.keeps F.keep, ?_⟩
  have w1 : wide 25 = 1 := by decide
  refine put_numbers_N (vs := [_, _]) (ns := [25, n]) (X.keeps F.keep) (T.keeps F.keep) (by (show dp + 1 + 30 < recursionLimit); k_extra "rm") (by (show un + 3 + 200 < cLine); k_extra "rm") ⟨_, (N _ (.head _)).1, rfl, _, rfl⟩ (.cons _ _ (.cons _ _ .nil)) (by simp; lia) (by simp) fun c tk h2 tk2 hc k2 => ?_
  exact hQ c tk h2 tk2 (by simp at hc; lia) fun a o e => k2 a o (F.keep a o e)
theorem put_frame_maxd_N 
   (X : (mkK.heap_1 w.params).In s.heap) (T : Top p loose mean mg mb s.heap) (hd : dp + 50 < recursionLimit) (hu : un + 400 < cLine) {a : Addr} {t1 : Tok} {n : Int} {t2 : Tok} (h0 : 0 ≤ n) (h1 : n < 1073741824)
   (ht : IsTup s.heap a #[.str (Str.ofString "max_data") t1, .int n t2])
   (hQ : ∀ c tk h' tk', (c.size : Int) = 1 + wide n → (∀ a o, s.heap.get? a = some o → h'.get? a = some o) → Q (.bytes c tk) { s with heap := h', toks := tk' }) :
   wpN (model Challenge.pw_pf0272_01 w) (Ak dp un fr gd) (call (.ref 125) [.ref a]) Q E s := by
  k_extra "fl"
  refine wpN_call ?_
  refine code_defN [(Str.ofString "f", .ref a)] X T (by k_is) (by k_is) (by (show dp < recursionLimit); k_extra "rm") (BindsTo.of_eq rfl) (locs rfl) ?_ rfl rfl rfl (by decide)
  intro L h F N
  dsimp only
  refine wpN_execs_cons (wpN_of_any ?_)
  k_extra "W"
  dsimp only
  refine wpN_execs_cons (wpN_of_any ?_)
  k_extra "W"
  dsimp only
  refine wpN_execs_cons (wpN_If (wpN_of_any ?_))
  k_extra "W"
  refine wpN_execs_cons (wpN_Return_some (Call_N (wpN_of_any ?_)))
  k_extra "W"
  refine callWith_NK (K := mkK.heap_1 w.params) (by k_is) (args_cons_N (wpN_of_any ?_))
  k_extra "W"
  rename Fr _ _ _ _ => F
  rename News _ _ _ _ => N
  refine args_nil_N ⟨X.keeps F.keep, ?_⟩
  have w1 : wide 16 = 1 := by decide
  refine put_numbers_N (vs := [_, _]) (ns := [16, n]) (X.keeps F.keep) (T.keeps F.keep) (by (show dp + 1 + 30 < recursionLimit); k_extra "rm") (by (show un + 3 + 200 < cLine); k_extra "rm") ⟨_, (N _ (.head _)).1, rfl, _, rfl⟩ (.cons _ _ (.cons _ _ .nil)) (by simp; lia) (by simp) fun c tk h2 tk2 hc k2 => ?_
  exact hQ c tk h2 tk2 (by simp at hc; lia) fun a o e => k2 a o (F.keep a o e)
end
noncomputable section
noncomputable section
theorem kw_28 : True := by
  k_with_none
  k_with "rm" => first | exact room_lt (by assumption) rfl | exact room_lt1 (by assumption) | lia
  k_with "W" => (repeat' (first | ((with_reducible show wpAny _ _ _ _ _ _); walk1) | ((with_reducible show ite _ _ _); walk1)))
  trivial
theorem kw_27 : True := by
  k_with "cl1" => first | refine no_implicit_lambda% (eps8 0 (inferInstanceAs (Box 0 IdT _)) rfl rfl ?_) | refine no_implicit_lambda% (eps7 0 (inferInstanceAs (Box 0 IdT _)) rfl rfl ?_) | refine no_implicit_lambda% (eps6 0 (inferInstanceAs (Box 0 IdT _)) rfl rfl ?_) | refine no_implicit_lambda% (eps5 0 (inferInstanceAs (Box 0 IdT _)) rfl rfl ?_) | refine no_implicit_lambda% (eps4 0 (inferInstanceAs (Box 0 IdT _)) rfl rfl ?_) | refine no_implicit_lambda% (eps3 0 (inferInstanceAs (Box 0 IdT _)) rfl rfl ?_) | refine no_implicit_lambda% (eps2 0 (inferInstanceAs (Box 0 IdT _)) rfl rfl ?_) | refine no_implicit_lambda% (epsd 0 (inferInstanceAs (Box 0 IdT _)) rfl rfl ?_)
  k_with "cl" => (set_option tactic.hygienic false in ((repeat ((first | rename Heap => q9 | rename Addr => q9 | rename Nat => q9 | rename Obj => q9 | rename Value => q9 | rename Int => q9 | rename List _ => q9 | rename Str → Option Value => q9 | rename Bool => q9 | rename Option _ => q9 | rename Array _ => q9 | rename Str => q9 | rename _ × _ => q9 | rename Shared => q9 | rename Program => q9 | rename ExcName → Option Value => q9 | rename Value → Shared → Prop => q9); revert q9)); (repeat (first | k_extra "cl1" | (with_reducible intro _)))))
  trivial
namespace put_stream_N
noncomputable def St0 (w : World) (dp : Nat) (un : Nat) (fr : Option (List Env)) (gd : Option (List Code)) (s : Shared) (p : Program) (loose : List Str) (mean : ExcName → Option Value) (mg : Str → Option Value) (mb : Str → Option Value) (E : Value → Shared → Prop) (Q : Value → Shared → Prop) (a : Addr) (t1 : Tok) (t2 : Tok) (t3 : Tok) (t4 : Tok) (num : Int) (off : Int) (b : Array UInt8) : Prop := ∀ (X : (mkK.heap_1 w.params).In s.heap) (T : Top p loose mean mg mb s.heap) (hd : dp + 50 < recursionLimit) (hu : un + 400 < cLine) (h0 : 0 ≤ num) (h1 : num < 1073741824) (h2 : 0 ≤ off) (h3 : off < 1073741824) (hs : b.size ≤ 60) (ht : IsTup s.heap a #[.str (Str.ofString "stream") t1, .int num t2, .int off t3, .bytes b t4, .bool false]) (hQ : ∀ c tk h' tk', (c.size : Int) = 1 + wide num + (if off > 0 then wide off else 0) + 1 + b.size → (∀ a o, s.heap.get? a = some o → h'.get? a = some o) → Q (.bytes c tk) { s with heap := h', toks := tk' }),
   wpN (model Challenge.pw_pf0272_01 w) (Ak dp un fr gd) (call (.ref 97) [.ref a, .bool false]) Q E s
noncomputable abbrev Ty0 : Type := (World) × (Nat) × (Nat) × (Option (List Env)) × (Option (List Code)) × (Shared) × (Program) × (List Str) × (ExcName → Option Value) × (Str → Option Value) × (Str → Option Value) × (Value → Shared → Prop) × (Value → Shared → Prop) × (Addr) × (Tok) × (Tok) × (Tok) × (Tok) × (Int) × (Int) × (Array UInt8)
theorem ne0 : Nonempty Ty0 := ⟨Classical.choice neW, Classical.choice inferInstance, Classical.choice inferInstance, Classical.choice inferInstance, Classical.choice inferInstance, Classical.choice neS, Classical.choice inferInstance, Classical.choice inferInstance, Classical.choice inferInstance, Classical.choice inferInstance, Classical.choice inferInstance, Classical.choice inferInstance, Classical.choice inferInstance, Classical.choice inferInstance, Classical.choice inferInstance, Classical.choice inferInstance, Classical.choice inferInstance, Classical.choice inferInstance, Classical.choice inferInstance, Classical.choice inferInstance, Classical.choice inferInstance⟩
noncomputable def P0 (vv0 : Ty0) : Prop := St0 (vv0.1) (vv0.2.1) (vv0.2.2.1) (vv0.2.2.2.1) (vv0.2.2.2.2.1) (vv0.2.2.2.2.2.1) (vv0.2.2.2.2.2.2.1) (vv0.2.2.2.2.2.2.2.1) (vv0.2.2.2.2.2.2.2.2.1) (vv0.2.2.2.2.2.2.2.2.2.1) (vv0.2.2.2.2.2.2.2.2.2.2.1) (vv0.2.2.2.2.2.2.2.2.2.2.2.1) (vv0.2.2.2.2.2.2.2.2.2.2.2.2.1) (vv0.2.2.2.2.2.2.2.2.2.2.2.2.2.1) (vv0.2.2.2.2.2.2.2.2.2.2.2.2.2.2.1) (vv0.2.2.2.2.2.2.2.2.2.2.2.2.2.2.2.1) (vv0.2.2.2.2.2.2.2.2.2.2.2.2.2.2.2.2.1) (vv0.2.2.2.2.2.2.2.2.2.2.2.2.2.2.2.2.2.1) (vv0.2.2.2.2.2.2.2.2.2.2.2.2.2.2.2.2.2.2.1) (vv0.2.2.2.2.2.2.2.2.2.2.2.2.2.2.2.2.2.2.2.1) (vv0.2.2.2.2.2.2.2.2.2.2.2.2.2.2.2.2.2.2.2.2)
@[irreducible] def vv0 : Ty0 := @ata _ ne0 0 P0
@[irreducible] def w : World := vv0.1
@[irreducible] def dp : Nat := vv0.2.1
@[irreducible] def un : Nat := vv0.2.2.1
@[irreducible] def fr : Option (List Env) := vv0.2.2.2.1
@[irreducible] def s : Shared := vv0.2.2.2.2.2.1
@[irreducible] def p : Program := vv0.2.2.2.2.2.2.1
@[irreducible] def mb : Str → Option Value := vv0.2.2.2.2.2.2.2.2.2.2.1
@[irreducible] def E : Value → Shared → Prop := vv0.2.2.2.2.2.2.2.2.2.2.2.1
@[irreducible] def Q : Value → Shared → Prop := vv0.2.2.2.2.2.2.2.2.2.2.2.2.1
@[irreducible] def a : Addr := vv0.2.2.2.2.2.2.2.2.2.2.2.2.2.1
@[irreducible] def num : Int := vv0.2.2.2.2.2.2.2.2.2.2.2.2.2.2.2.2.2.2.1
@[irreducible] def off : Int := vv0.2.2.2.2.2.2.2.2.2.2.2.2.2.2.2.2.2.2.2.1
@[irreducible] def b : Array UInt8 := vv0.2.2.2.2.2.2.2.2.2.2.2.2.2.2.2.2.2.2.2.2
theorem prf0 : St0 w dp un fr (vv0.2.2.2.2.1) s p (vv0.2.2.2.2.2.2.2.1) (vv0.2.2.2.2.2.2.2.2.1) (vv0.2.2.2.2.2.2.2.2.2.1) mb E Q a (vv0.2.2.2.2.2.2.2.2.2.2.2.2.2.2.1) (vv0.2.2.2.2.2.2.2.2.2.2.2.2.2.2.2.1) (vv0.2.2.2.2.2.2.2.2.2.2.2.2.2.2.2.2.1) (vv0.2.2.2.2.2.2.2.2.2.2.2.2.2.2.2.2.2.1) num off b := by
  intro X T hd hu h0 h1 h2 h3 hs ht hQ
  have _h : Challenge.rw_pf0272_01 = Challenge.rw_pf0272_01 ∧ mkK.heap_1 = mkK.heap_1 := by
    k_fill
    exact ⟨rfl, rfl⟩
  clear _h
  refine wpN_call ?_
  refine code_defN [(Str.ofString "f", .ref a), (Str.ofString "is_last", .bool false)] X T (by k_is) (by k_is) (by (show dp < recursionLimit); k_extra "rm") (BindsTo.of_eq rfl) (locs rfl) ?_ rfl rfl rfl (by decide)
  intro L h F N
  dsimp only
  have w1 : wide 10 = 1 := by decide
  have w2 : wide 14 = 1 := by decide
  have w3 := wide_le num
  have w4 := wide_le off
  have w5 : wide b.size = 1 := by unfold wide; split <;> lia
  refine wpN_execs_cons (wpN_of_any ?_)
  k_extra "W"
  dsimp only
  refine wpN_execs_cons (wpN_of_any ?_)
  k_extra "W"
  all_goals dsimp only
  all_goals (refine wpN_execs_cons (wpN_Assign_Name (Call_N (wpN_of_any ?_))))
  all_goals k_extra "W"
  all_goals (refine callWith_NK (K := mkK.heap_1 w.params) (by k_is) (args_cons_N (wpN_of_any ?_)))
  all_goals k_extra "W"
  all_goals (first | (exfalso; lia) | skip)
  all_goals (rename Fr _ _ _ _ => F)
  all_goals (rename News _ _ _ _ => N)
  all_goals (refine args_nil_N ⟨X.keeps F.keep, ?_⟩)
  · refine put_numbers_N (vs := [_, _, _]) (ns := [14, num, off]) (X.keeps F.keep) (T.keeps F.keep) (by (show dp + 1 + 30 < recursionLimit); k_extra "rm") (by (show un + 3 + 200 < cLine); k_extra "rm") ⟨_, (N _ (.head _)).1, rfl, _, rfl⟩ (.cons _ _ (.cons _ _ (.cons _ _ .nil))) (by simp; lia) (by simp) fun c tk h2 tk2 hc k2 => ?_
    have F2 := fr_keep F k2
    have N2 := news_keep N k2
    clear F N
    simp at hc
    refine wpN_of_any ?_
    k_extra "W"
    dsimp only
    refine wpN_execs_cons (wpN_Return_some (wpN_BinOp (wpN_of_any ?_)))
    k_extra "W"
    refine wpN_IfExp (wpN_of_any ?_)
    k_extra "W"
    refine Call_N (wpN_of_any ?_)
    k_extra "W"
    refine callWith_NK (K := mkK.heap_1 w.params) (by k_is) (args_cons_N (wpN_of_any ?_))
    k_extra "W"
    rename Fr _ _ _ _ => F
    rename News _ _ _ _ => N
    refine args_nil_N ⟨X.keeps F.keep, ?_⟩
    refine put_counted_N (X.keeps F.keep) (T.keeps F.keep) (by (show dp + 1 + 30 < recursionLimit); k_extra "rm") (by (show un + 3 + 200 < cLine); k_extra "rm") (by lia) fun c2 tk h3 tk3 hc2 k3 => ?_
    refine wpN_of_any (PySem.W.KBy.add_bytes (by lia) fun t' k => hQ _ _ _ _ ?_ fun a o e => k3 a o (F.keep a o e))
    rw [if_pos (by assumption)]; simp; lia
  · refine put_numbers_N (vs := [_, _]) (ns := [10, num]) (X.keeps F.keep) (T.keeps F.keep) (by (show dp + 1 + 30 < recursionLimit); k_extra "rm") (by (show un + 3 + 200 < cLine); k_extra "rm") ⟨_, (N _ (.head _)).1, rfl, _, rfl⟩ (.cons _ _ (.cons _ _ .nil)) (by simp; lia) (by simp) fun c tk h2 tk2 hc k2 => ?_
    have F2 := fr_keep F k2
    have N2 := news_keep N k2
    clear F N
    simp at hc
    refine wpN_of_any ?_
    k_extra "W"
    dsimp only
    refine wpN_execs_cons (wpN_Return_some (wpN_BinOp (wpN_of_any ?_)))
    k_extra "W"
    refine wpN_IfExp (wpN_of_any ?_)
    k_extra "W"
    refine Call_N (wpN_of_any ?_)
    k_extra "W"
    refine callWith_NK (K := mkK.heap_1 w.params) (by k_is) (args_cons_N (wpN_of_any ?_))
    k_extra "W"
    rename Fr _ _ _ _ => F
    rename News _ _ _ _ => N
    refine args_nil_N ⟨X.keeps F.keep, ?_⟩
    refine put_counted_N (X.keeps F.keep) (T.keeps F.keep) (by (show dp + 1 + 30 < recursionLimit); k_extra "rm") (by (show un + 3 + 200 < cLine); k_extra "rm") (by lia) fun c2 tk h3 tk3 hc2 k3 => ?_
    refine wpN_of_any (PySem.W.KBy.add_bytes (by lia) fun t' k => hQ _ _ _ _ ?_ fun a o e => k3 a o (F.keep a o e))
    rw [if_neg (by assumption)]; simp; lia
end put_stream_N
theorem put_stream_N {w : World} {dp : Nat} {un : Nat} {fr : Option (List Env)} {gd : Option (List Code)} {s : Shared} {p : Program} {loose : List Str} {mean : ExcName → Option Value} {mg : Str → Option Value} {mb : Str → Option Value} {E : Value → Shared → Prop} {Q : Value → Shared → Prop} {a : Addr} {t1 : Tok} {t2 : Tok} {t3 : Tok} {t4 : Tok} {num : Int} {off : Int} {b : Array UInt8} : put_stream_N.St0 w dp un fr gd s p loose mean mg mb E Q a t1 t2 t3 t4 num off b :=
  @ata_spec _ put_stream_N.ne0 0 put_stream_N.P0 (by with_unfolding_all exact put_stream_N.prf0) (w, dp, un, fr, gd, s, p, loose, mean, mg, mb, E, Q, a, t1, t2, t3, t4, num, off, b)
end
end
noncomputable section
inductive Fd where
  | hs | ping | ret (n : Int) | maxd (n : Int) | tok (b : Array UInt8) | resp (b : Array UInt8) | chal (b : Array UInt8) | strm (num off : Int) (b : Array UInt8)
instance : Nonempty Fd := ⟨.hs⟩
variable {w : World} {dp un : Nat} {fr : Option (List Env)} {gd : Option (List Code)} {s : Shared} {p : Program} {loose : List Str} {mean : ExcName → Option Value} {mg mb : Str → Option Value} {E : Value → Shared → Prop} {Q : Value → Shared → Prop}
theorem kw_29 : True := by
  k_with_none
  k_with "rm" => first | exact room_lt (by assumption) rfl | exact room_lt1 (by assumption) | lia
  k_with "fl" => ((have _h : Challenge.rw_pf0272_01 = Challenge.rw_pf0272_01 ∧ mkK.heap_1 = mkK.heap_1 := by (k_fill; exact ⟨rfl, rfl⟩)); clear _h)
  k_with "W" => (repeat' (first | ((with_reducible show wpAny _ _ _ _ _ _); walk1) | ((with_reducible show ite _ _ _); walk1)))
  trivial
noncomputable def Fd.sz : Fd → Int
  | .hs => 1 | .ping => 1 | .ret n => 1 + wide n | .maxd n => 1 + wide n | .tok b => 1 + wide b.size + b.size | .resp b => 1 + b.size | .chal b => 1 + b.size
  | .strm num off b => 1 + wide num + (if off > 0 then wide off else 0) + 1 + b.size
noncomputable def Fd.ok : Fd → Prop
  | .hs => True | .ping => True | .ret n => 0 ≤ n ∧ n < 1073741824 | .maxd n => 0 ≤ n ∧ n < 1073741824 | .tok b => b.size ≤ 60 | .resp b => b.size = 8 | .chal b => b.size = 8
  | .strm num off b => 0 ≤ num ∧ num < 1073741824 ∧ 0 ≤ off ∧ off < 1073741824 ∧ b.size ≤ 60
noncomputable def FrAt (h : Heap) (a : Addr) : Fd → Prop
  | .hs => ∃ t, IsTup h a #[.str (Str.ofString "handshake_done") t]
  | .ping => ∃ t, IsTup h a #[.str (Str.ofString "ping") t]
  | .ret n => ∃ t u, IsTup h a #[.str (Str.ofString "retire_connection_id") t, .int n u]
  | .maxd n => ∃ t u, IsTup h a #[.str (Str.ofString "max_data") t, .int n u]
  | .tok b => ∃ t u, IsTup h a #[.str (Str.ofString "new_token") t, .bytes b u]
  | .resp b => ∃ t u, IsTup h a #[.str (Str.ofString "path_response") t, .bytes b u]
  | .chal b => ∃ t u, IsTup h a #[.str (Str.ofString "path_challenge") t, .bytes b u]
  | .strm num off b => ∃ t u v x, IsTup h a #[.str (Str.ofString "stream") t, .int num u, .int off v, .bytes b x, .bool false]
theorem isTup_keeps {h h' : Heap} {a : Addr} {items : Array Value} (ht : IsTup h a items) (k : ∀ b o, h.get? b = some o → h'.get? b = some o) : IsTup h' a items := by
  obtain ⟨o, ho, r⟩ := ht; exact ⟨o, k _ _ ho, r⟩
theorem FrAt.keeps {h h' : Heap} {a : Addr} {d : Fd} (H : FrAt h a d) (k : ∀ b o, h.get? b = some o → h'.get? b = some o) : FrAt h' a d := by
  cases d <;> first
    | (obtain ⟨t, H⟩ := H; exact ⟨t, isTup_keeps H k⟩)
    | (obtain ⟨t, u, H⟩ := H; exact ⟨t, u, isTup_keeps H k⟩)
    | (obtain ⟨t, u, v, x, H⟩ := H; exact ⟨t, u, v, x, isTup_keeps H k⟩)
theorem Fd.sz_pos {d : Fd} (h : d.ok) : 1 ≤ d.sz ∧ d.sz ≤ 100 := by
  have w0 : ∀ n, 1 ≤ wide n := fun n => by unfold wide; (repeat' split) <;> lia
  cases d <;> simp only [Fd.ok, Fd.sz] at h ⊢
  case ret n => have := w0 n; have := wide_le n; lia
  case maxd n => have := w0 n; have := wide_le n; lia
  case tok b => have := w0 b.size; have := wide_le b.size; lia
  case resp b => lia
  case chal b => lia
  case strm n o b => have := w0 n; have := w0 o; have := wide_le n; have := wide_le o; split <;> lia
  all_goals lia
theorem put_frame_tok_N 
   (X : (mkK.heap_1 w.params).In s.heap) (T : Top p loose mean mg mb s.heap) (hd : dp + 60 < recursionLimit) (hu : un + 500 < cLine) {a : Addr} {t1 t2 : Tok} {b : Array UInt8} (hs : b.size ≤ 60)
   (ht : IsTup s.heap a #[.str (Str.ofString "new_token") t1, .bytes b t2])
   (hQ : ∀ c tk h' tk', (c.size : Int) = 1 + wide b.size + b.size → (∀ a o, s.heap.get? a = some o → h'.get? a = some o) → Q (.bytes c tk) { s with heap := h', toks := tk' }) :
   wpN (model Challenge.pw_pf0272_01 w) (Ak dp un fr gd) (call (.ref 125) [.ref a]) Q E s := by
  k_extra "fl"
  refine wpN_call ?_
  refine code_defN [(Str.ofString "f", .ref a)] X T (by k_is) (by k_is) (by (show dp < recursionLimit); k_extra "rm") (BindsTo.of_eq rfl) (locs rfl) ?_ rfl rfl rfl (by decide)
  intro L h F N
  dsimp only
  iterate 7
    refine wpN_execs_cons (wpN_of_any ?_)
    k_extra "W"
    dsimp only
  refine wpN_execs_cons (wpN_Assign_Name (Call_N (wpN_of_any ?_)))
  k_extra "W"
  refine callWith_NK (K := mkK.heap_1 w.params) (by k_is) (args_cons_N (wpN_of_any ?_))
  k_extra "W"
  rename Fr _ _ _ _ => F
  rename News _ _ _ _ => N
  refine args_nil_N ⟨X.keeps F.keep, ?_⟩
  refine put_oct_tok_N (X.keeps F.keep) (T.keeps F.keep) (by (show dp + 1 + 40 < recursionLimit); k_extra "rm") (by (show un + 3 + 300 < cLine); k_extra "rm") (by lia) (isTup_keeps ht F.keep) fun c tk h2 tk2 hc k2 => ?_
  have F2 := fr_keep F k2
  have N2 := news_keep N k2
  clear F N
  refine wpN_of_any ?_
  k_extra "W"
  dsimp only
  refine wpN_execs_cons (wpN_of_any ?_)
  k_extra "W"
  dsimp only
  refine wpN_execs_cons (wpN_of_any ?_)
  k_extra "W"
  rename Fr _ _ _ _ => F
  exact hQ _ _ _ _ hc F.keep
theorem put_frame_resp_N 
   (X : (mkK.heap_1 w.params).In s.heap) (T : Top p loose mean mg mb s.heap) (hd : dp + 60 < recursionLimit) (hu : un + 500 < cLine) {a : Addr} {t1 t2 : Tok} {b : Array UInt8} (hs : b.size ≤ 60)
   (ht : IsTup s.heap a #[.str (Str.ofString "path_response") t1, .bytes b t2])
   (hQ : ∀ c tk h' tk', (c.size : Int) = 1 + b.size → (∀ a o, s.heap.get? a = some o → h'.get? a = some o) → Q (.bytes c tk) { s with heap := h', toks := tk' }) :
   wpN (model Challenge.pw_pf0272_01 w) (Ak dp un fr gd) (call (.ref 125) [.ref a]) Q E s := by
  k_extra "fl"
  refine wpN_call ?_
  refine code_defN [(Str.ofString "f", .ref a)] X T (by k_is) (by k_is) (by (show dp < recursionLimit); k_extra "rm") (BindsTo.of_eq rfl) (locs rfl) ?_ rfl rfl rfl (by decide)
  intro L h F N
  dsimp only
  iterate 7
    refine wpN_execs_cons (wpN_of_any ?_)
    k_extra "W"
    dsimp only
  refine wpN_execs_cons (wpN_Assign_Name (Call_N (wpN_of_any ?_)))
  k_extra "W"
  refine callWith_NK (K := mkK.heap_1 w.params) (by k_is) (args_cons_N (wpN_of_any ?_))
  k_extra "W"
  rename Fr _ _ _ _ => F
  rename News _ _ _ _ => N
  refine args_nil_N ⟨X.keeps F.keep, ?_⟩
  refine put_oct_resp_N (X.keeps F.keep) (T.keeps F.keep) (by (show dp + 1 + 40 < recursionLimit); k_extra "rm") (by (show un + 3 + 300 < cLine); k_extra "rm") (by lia) (isTup_keeps ht F.keep) fun c tk h2 tk2 hc k2 => ?_
  have F2 := fr_keep F k2
  have N2 := news_keep N k2
  clear F N
  refine wpN_of_any ?_
  k_extra "W"
  dsimp only
  refine wpN_execs_cons (wpN_of_any ?_)
  k_extra "W"
  dsimp only
  refine wpN_execs_cons (wpN_of_any ?_)
  k_extra "W"
  rename Fr _ _ _ _ => F
  exact hQ _ _ _ _ hc F.keep
theorem put_frame_chal_N 
   (X : (mkK.heap_1 w.params).In s.heap) (T : Top p loose mean mg mb s.heap) (hd : dp + 60 < recursionLimit) (hu : un + 500 < cLine) {a : Addr} {t1 t2 : Tok} {b : Array UInt8} (hs : b.size ≤ 60)
   (ht : IsTup s.heap a #[.str (Str.ofString "path_challenge") t1, .bytes b t2])
   (hQ : ∀ c tk h' tk', (c.size : Int) = 1 + b.size → (∀ a o, s.heap.get? a = some o → h'.get? a = some o) → Q (.bytes c tk) { s with heap := h', toks := tk' }) :
   wpN (model Challenge.pw_pf0272_01 w) (Ak dp un fr gd) (call (.ref 125) [.ref a]) Q E s := by
  k_extra "fl"
  refine wpN_call ?_
  refine code_defN [(Str.ofString "f", .ref a)] X T (by k_is) (by k_is) (by (show dp < recursionLimit); k_extra "rm") (BindsTo.of_eq rfl) (locs rfl) ?_ rfl rfl rfl (by decide)
  intro L h F N
  dsimp only
  iterate 7
    refine wpN_execs_cons (wpN_of_any ?_)
    k_extra "W"
    dsimp only
  refine wpN_execs_cons (wpN_Assign_Name (Call_N (wpN_of_any ?_)))
  k_extra "W"
  refine callWith_NK (K := mkK.heap_1 w.params) (by k_is) (args_cons_N (wpN_of_any ?_))
  k_extra "W"
  rename Fr _ _ _ _ => F
  rename News _ _ _ _ => N
  refine args_nil_N ⟨X.keeps F.keep, ?_⟩
  refine put_oct_chal_N (X.keeps F.keep) (T.keeps F.keep) (by (show dp + 1 + 40 < recursionLimit); k_extra "rm") (by (show un + 3 + 300 < cLine); k_extra "rm") (by lia) (isTup_keeps ht F.keep) fun c tk h2 tk2 hc k2 => ?_
  have F2 := fr_keep F k2
  have N2 := news_keep N k2
  clear F N
  refine wpN_of_any ?_
  k_extra "W"
  dsimp only
  refine wpN_execs_cons (wpN_of_any ?_)
  k_extra "W"
  dsimp only
  refine wpN_execs_cons (wpN_of_any ?_)
  k_extra "W"
  rename Fr _ _ _ _ => F
  exact hQ _ _ _ _ hc F.keep
theorem put_frame_strm_N 
   (X : (mkK.heap_1 w.params).In s.heap) (T : Top p loose mean mg mb s.heap) (hd : dp + 60 < recursionLimit) (hu : un + 500 < cLine) {a : Addr} {t1 t2 t3 t4 : Tok} {num off : Int} {b : Array UInt8} (h0 : 0 ≤ num) (h1 : num < 1073741824) (h2 : 0 ≤ off) (h3 : off < 1073741824) (hs : b.size ≤ 60)
   (ht : IsTup s.heap a #[.str (Str.ofString "stream") t1, .int num t2, .int off t3, .bytes b t4, .bool false])
   (hQ : ∀ c tk h' tk', (c.size : Int) = 1 + wide num + (if off > 0 then wide off else 0) + 1 + b.size → (∀ a o, s.heap.get? a = some o → h'.get? a = some o) → Q (.bytes c tk) { s with heap := h', toks := tk' }) :
   wpN (model Challenge.pw_pf0272_01 w) (Ak dp un fr gd) (call (.ref 125) [.ref a]) Q E s := by
  k_extra "fl"
  refine wpN_call ?_
  refine code_defN [(Str.ofString "f", .ref a)] X T (by k_is) (by k_is) (by (show dp < recursionLimit); k_extra "rm") (BindsTo.of_eq rfl) (locs rfl) ?_ rfl rfl rfl (by decide)
  intro L h F N
  dsimp only
  iterate 4
    refine wpN_execs_cons (wpN_of_any ?_)
    k_extra "W"
    dsimp only
  refine wpN_execs_cons (wpN_If (wpN_of_any ?_))
  k_extra "W"
  refine wpN_execs_cons (wpN_Return_some (Call_N (wpN_of_any ?_)))
  k_extra "W"
  refine callWith_NK (K := mkK.heap_1 w.params) (by k_is) (args_cons_N (wpN_of_any ?_))
  k_extra "W"
  refine args_cons_N (wpN_of_any ?_)
  k_extra "W"
  rename Fr _ _ _ _ => F
  rename News _ _ _ _ => N
  refine args_nil_N ⟨X.keeps F.keep, ?_⟩
  exact put_stream_N (X.keeps F.keep) (T.keeps F.keep) (by (show dp + 1 + 50 < recursionLimit); k_extra "rm") (by (show un + 3 + 400 < cLine); k_extra "rm") h0 h1 h2 h3 hs (isTup_keeps ht F.keep) fun c tk h2 tk2 hc k2 => hQ c tk h2 tk2 hc fun a o e => k2 a o (F.keep a o e)
theorem put_frame_N 
   (X : (mkK.heap_1 w.params).In s.heap) (T : Top p loose mean mg mb s.heap) (hd : dp + 60 < recursionLimit) (hu : un + 500 < cLine) {a : Addr} {d : Fd} (hok : d.ok) (ht : FrAt s.heap a d)
   (hQ : ∀ c tk h' tk', (c.size : Int) = d.sz → (∀ a o, s.heap.get? a = some o → h'.get? a = some o) → Q (.bytes c tk) { s with heap := h', toks := tk' }) :
   wpN (model Challenge.pw_pf0272_01 w) (Ak dp un fr gd) (call (.ref 125) [.ref a]) Q E s := by
  cases d with
  | hs => obtain ⟨t, ht⟩ := ht; exact put_frame_hs_N X T (by lia) (by lia) ht hQ
  | ping => obtain ⟨t, ht⟩ := ht; exact put_frame_ping_N X T (by lia) (by lia) ht hQ
  | ret n => obtain ⟨t, u, ht⟩ := ht; exact put_frame_ret_N X T (by lia) (by lia) hok.1 hok.2 ht hQ
  | maxd n => obtain ⟨t, u, ht⟩ := ht; exact put_frame_maxd_N X T (by lia) (by lia) hok.1 hok.2 ht hQ
  | tok b => obtain ⟨t, u, ht⟩ := ht; exact put_frame_tok_N X T hd hu hok ht hQ
  | resp b => obtain ⟨t, u, ht⟩ := ht; exact put_frame_resp_N X T hd hu (by simp only [Fd.ok] at hok; lia) ht hQ
  | chal b => obtain ⟨t, u, ht⟩ := ht; exact put_frame_chal_N X T hd hu (by simp only [Fd.ok] at hok; lia) ht hQ
  | strm n o b => obtain ⟨t, u, v, x, ht⟩ := ht; exact put_frame_strm_N X T hd hu hok.1 hok.2.1 hok.2.2.1 hok.2.2.2.1 hok.2.2.2.2 ht hQ
theorem frame_size_N 
   (X : (mkK.heap_1 w.params).In s.heap) (T : Top p loose mean mg mb s.heap) (hd : dp + 70 < recursionLimit) (hu : un + 600 < cLine) {a : Addr} {d : Fd} (hok : d.ok) (ht : FrAt s.heap a d)
   (hQ : ∀ tk h' tk', (∀ a o, s.heap.get? a = some o → h'.get? a = some o) → Q (.int d.sz tk) { s with heap := h', toks := tk' }) :
   wpN (model Challenge.pw_pf0272_01 w) (Ak dp un fr gd) (call (.ref 132) [.ref a]) Q E s := by
  k_extra "fl"
  refine wpN_call ?_
  refine code_defN [(Str.ofString "f", .ref a)] X T (by k_is) (by k_is) (by (show dp < recursionLimit); k_extra "rm") (BindsTo.of_eq rfl) (locs rfl) ?_ rfl rfl rfl (by decide)
  intro L h F N
  dsimp only
  refine wpN_execs_cons (wpN_Return_some (Call_N (wpN_of_any ?_)))
  k_extra "W"
  refine callWith_NB (args_cons_N (Call_N (wpN_of_any ?_)))
  k_extra "W"
  refine callWith_NK (K := mkK.heap_1 w.params) (by k_is) (args_cons_N (wpN_of_any ?_))
  k_extra "W"
  rename Fr _ _ _ _ => F
  rename News _ _ _ _ => N
  refine args_nil_N ⟨X.keeps F.keep, ?_⟩
  refine put_frame_N (X.keeps F.keep) (T.keeps F.keep) (by (show dp + 1 + 60 < recursionLimit); k_extra "rm") (by (show un + 3 + 500 < cLine); k_extra "rm") hok (ht.keeps F.keep) fun c tk h2 tk2 hc k2 => ?_
  have F2 := fr_keep F k2
  have N2 := news_keep N k2
  clear F N
  have hb := Fd.sz_pos hok
  refine args_nil_N ?_
  refine wpN_of_any ?_
  dsimp only [List.nil_append]
  k_extra "W"
  rename Fr _ _ _ _ => F
  rw [hc]
  exact hQ _ _ _ F.keep
end
noncomputable section
open PySem PySem.W PySem.Spec PySem.Calls PyProof.Rows PyProof.Rows.LCg
section
variable {prog : Program} {w : World} {A : Around} {E : Value → Shared → Prop} {R : Result → Shared → Prop} {s : Shared} {env : Env}
noncomputable abbrev tests (ifs : List Expr) (env : Env) : Sem Bool := forIn ifs true fun c r => if r = true then do let ok ← isTrue c env (eval c env); pure (ForInStep.yield ok) else pure (ForInStep.yield r)
theorem kw_30 : True := by
  k_with_none
  k_with "g1" => refine by_goal fun zG zh => ?_
  k_with "g2" => (refine zh ?_; clear zh zG)
  trivial
theorem comp_loop {elt target iter : Expr} {ifs : List Expr} {scope : Scope} {pos : Pos} {it acc : Value} (I : Nat → Shared → Prop)
    (turn : ∀ n s, I n s → wpAny (model prog w) A (pyNext it) (fun r s₁ => match r with
      | none => R (.ok .next) s₁
      | some v => wpAny (model prog w) A (letOwnedTupleGo target it v) (fun _ s₁ => wpAny (model prog w) A (assign target env v) (fun _ s₂ =>
          wpAny (model prog w) A (tests ifs env) (fun ok s₃ =>
            if ok = true then wpAny (model prog w) A (eval elt env) (fun x s₄ =>
              wpAny (model prog w) A (call (.builtin "list.append") [acc, x]) (fun _ s₅ => ∃ m, m < n ∧ I m s₅) (fun _ _ => False) s₄) (fun _ _ => False) s₃
            else ∃ m, m < n ∧ I m s₃) (fun _ _ => False) s₂) (fun _ _ => False) s₁) (fun _ _ => False) s₁) (fun _ _ => False) s)
    (n : Nat) (h : I n s) : codeAny (model prog w) A (.compLoop (.ListComp elt [⟨target, iter, ifs, 0⟩] scope pos) 0 it acc env) R s := by
  refine codeAny_loop rfl I (fun n s hI => ?_) n h
  show wpAny _ A ((compTurn (.ListComp elt [⟨target, iter, ifs, 0⟩] scope pos) 0 it acc env).onRaise (fun x => do noteFrame x env; theTreesLotGoes x)) _ _ s
  refine wpAny_onRaise (wpAny_mono (E := fun _ _ => False) ?_ (fun _ _ q => q) fun _ _ q => q.elim)
  rw [compTurn_list]
  refine wpAny_bind (wpAny_standAt (wpAny_bind (wpAny_mono (turn n s hI) (fun r s₁ h₁ => ?_) fun _ _ h' => h')))
  cases r with
  | none => exact wpAny_pure h₁
  | some v =>
    refine wpAny_bind (wpAny_mono h₁ (fun _ s₁ h₁ => ?_) fun _ _ h' => h')
    refine wpAny_bind (wpAny_mono h₁ (fun _ s₂ h₂ => wpAny_bind (wpAny_mono h₂ (fun ok s₃ h₃ => ?_) fun _ _ h' => h')) fun _ _ h' => h')
    cases ok with
    | false => exact wpAny_pure ⟨rfl, h₃⟩
    | true =>
      exact wpAny_bind (wpAny_bind (wpAny_mono h₃ (fun x s₄ h₄ => wpAny_bind (wpAny_mono h₄ (fun _ s₅ h₅ => wpAny_pure (wpAny_pure ⟨rfl, h₅⟩)) fun _ _ h' => h')) fun _ _ h' => h'))
noncomputable def SrcO (own : List Addr) (prog : Program) (w : World) (A : Around) (xv : Value) (target : Expr) (n : Nat) (P : Nat → Value → Prop) (bad : List Addr) (s₁ : Shared) : Prop :=
  ∀ (Q : Value → Shared → Prop) (E : Value → Shared → Prop), (∀ (o : Obj) (fp : List Addr) (St : Nat → Heap → Prop), Walks prog w A s₁.heap.objs.size fp [s₁.heap.objs.size] n P St → o.isFreed = false → St 0 (s₁.heap.push o) →
    (∀ b ∈ fp, b ≠ s₁.heap.objs.size → (∃ o, s₁.heap.get? b = some o) ∧ b ∉ bad ∧ b ∈ own) →
    (∀ i v (s' : Shared) (Q : Unit → Shared → Prop) (E : Value → Shared → Prop), St i s'.heap → Q () s' → wpAny (model prog w) A (letOwnedTupleGo target (.ref s₁.heap.objs.size) v) Q E s') →
    (∀ i h, St i h → ∃ o, h.get? s₁.heap.objs.size = some o) → Q (.ref s₁.heap.objs.size) { s₁ with heap := s₁.heap.push o }) → wpAny (model prog w) A (pyIter xv) Q E s₁
noncomputable def Src (prog : Program) (w : World) (A : Around) (xv : Value) (target : Expr) (n : Nat) (P : Nat → Value → Prop) (bad : List Addr) (s₁ : Shared) : Prop := ∃ own, SrcO own prog w A xv target n P bad s₁
theorem lot_plain {target : Expr} {I : Addr} {v : Value} {o : Obj} {T : String} {fs : Array Value} (ho : s.heap.get? I = some o) (hc : o.cls = .type T) (hd : o.data = .fields fs)
    (hT : ["enumerate", "zip", "dict_itemiterator", "dict_reverseitemiterator", "odict_iterator", "itertools.zip_longest", "itertools.pairwise"].contains T = false) {Q : Unit → Shared → Prop} (h : Q () s) :
    wpAny (model prog w) A (letOwnedTupleGo target (.ref I) v) Q E s := by
  have k : wpAny (model prog w) A (pure ()) Q E s := wpAny_pure h
  have q : wpAny (model prog w) A (letOwnedTupleGo (.Tuple [] 0 default) (.ref I) v) Q E s := by
    cases v <;> first
      | exact k
      | (refine wpAny_bind (wpAny_load ho ?_)
         rw [hc, hd]
         dsimp only
         rw [hT]
         exact k)
  cases target <;> first | exact k | exact q
theorem SrcO.list {ax : Addr} {its : Array Value} {target : Expr} {bad : List Addr} (hh : A.handled = none) (hl : s.heap.IsList ax its) (hb : ax ∉ bad) : SrcO [ax] prog w A (.ref ax) target its.size (fun i v => its[i]? = some v) bad s := by
  intro Q E h
  have hlt : ax < s.heap.objs.size := by obtain ⟨_, e, _⟩ := hl; exact Heap.lt_size e
  refine wpAny_pyIter_list hl (h _ _ _ (Walks.list hh _ ax (Nat.ne_of_lt hlt) its) rfl ⟨⟨_, Heap.get?_push_size _ rfl, rfl, rfl⟩, hl.push _⟩ (fun b hb' hne => ?_) ?_ fun i h st => by obtain ⟨o, e, _⟩ := st.1; exact ⟨o, e⟩)
  · rcases List.mem_cons.mp hb' with rfl | hb'
    · exact absurd rfl hne
    · rw [List.mem_singleton.mp hb']
      k_extra "g1"
      obtain ⟨o, e, _⟩ := hl
      k_extra "g2"
      exact ⟨⟨o, e⟩, hb, .head _⟩
  · intro i v s' Q E st hq
    k_extra "g1"
    obtain ⟨o, e, h1, h2⟩ := st.1
    k_extra "g2"
    exact lot_plain e h1 h2 (by decide +kernel) hq
theorem SrcO.tuple {ax : Addr} {its : Array Value} {target : Expr} {bad : List Addr} (hh : A.handled = none) (hl : s.heap.IsTuple ax its) (hb : ax ∉ bad) : SrcO [ax] prog w A (.ref ax) target its.size (fun i v => its[i]? = some v) bad s := by
  intro Q E h
  have hlt : ax < s.heap.objs.size := by obtain ⟨_, e, _⟩ := hl; exact Heap.lt_size e
  refine wpAny_pyIter_tuple hl (h _ _ _ (Walks.tuple hh _ ax (Nat.ne_of_lt hlt) its) rfl ⟨⟨_, Heap.get?_push_size _ rfl, rfl, rfl⟩, hl.at fun o e => Heap.get?_push_of_some _ e⟩ (fun b hb' hne => ?_) ?_ fun i h st => by obtain ⟨o, e, _⟩ := st.1; exact ⟨o, e⟩)
  · rcases List.mem_cons.mp hb' with rfl | hb'
    · exact absurd rfl hne
    · rw [List.mem_singleton.mp hb']
      k_extra "g1"
      obtain ⟨o, e, _⟩ := hl
      k_extra "g2"
      exact ⟨⟨o, e⟩, hb, .head _⟩
  · intro i v s' Q E st hq
    k_extra "g1"
    obtain ⟨o, e, h1, h2⟩ := st.1
    k_extra "g2"
    exact lot_plain e h1 h2 (by decide +kernel) hq
theorem SrcO.range {r : Addr} {a b : Int} {t u v : Tok} {n : Nat} {target : Expr} {bad : List Addr} (hh : A.handled = none) (hr : IsRange s.heap r a b 1 t u v) (hsm : Builtin.Range.small a b 1 = true) (hn : Builtin.Range.rangeSize a b 1 = ((n : Nat) : Int)) :
    SrcO [] prog w A (.ref r) target n (fun i v => ∃ t, v = .int (a + (i : Int)) t) bad s := by
  intro Q E h
  refine wpAny_pyIter_range hr hsm (h _ _ _ (range_walks hh a n) rfl (by show IsRangeIter _ _ _ _ _; rw [hn]; simpa using Heap.get?_push_size _ rfl) (fun b hb' hne => ?_) ?_ fun i h st => ⟨_, st⟩)
  · exact absurd (List.mem_singleton.mp hb') hne
  · intro i v s' Q E st hq
    exact lot_plain (T := "range_iterator") st rfl rfl (by decide +kernel) hq
noncomputable def Adr (news₀ : List (Addr × Obj)) (I D : Addr) (news : List (Addr × Obj)) : Prop := ∀ p ∈ news, p.1 ∈ news₀.map (·.1) ∨ (@Ne Nat p.1 I ∧ @Ne Nat p.1 D)
noncomputable def CompEnd1 (news₀ : List (Addr × Obj)) (g : Heap) (C I : Addr) (o : Obj) (D : Addr) (lsD : List Value) (J : List Value → List (Addr × Obj) → Prop) (s₂ : Shared) (ys : List Value) (s' : Shared) : Prop :=
  ∃ h' tk' m' news', s' = { s₂ with heap := h', toks := tk' } ∧ Fr g C h' m' ∧ News g C h' ((I, o) :: (D, lst lsD) :: news') ∧ Adr news₀ I D news' ∧ J ys news'
theorem adr_ne {news₀ news : List (Addr × Obj)} {I D : Addr} {p : Addr × Obj} (hI2 : ∀ a ∈ news₀.map (·.1), a < I) (hA : Adr news₀ I D news) (hp : p ∈ news) : p.1 ≠ I := by
  intro q
  rcases hA p hp with h | h
  · have := hI2 p.1 h
    rw [q] at this; exact absurd this (Nat.lt_irrefl _)
  · exact h.1 q
end
namespace comp_own
noncomputable def St0 (prog : Program) (w : World) (A : Around) (E : Value → Shared → Prop) (env : Env) (elt : Expr) (target : Expr) (iter : Expr) (ifs : List Expr) (scope : Scope) (pos : Pos) (cl : List (Str × Addr)) (I : Addr) (fp : List Addr) (n : Nat) (P : Nat → Value → Prop) (St : Nat → Heap → Prop) (s₂ : Shared) (h₀ : Heap) (K : Frag) (p : Program) (loose : List Str) (mean : ExcName → Option Value) (mg : Str → Option Value) (mb : Str → Option Value) (RR : Value → Addr → Result → Shared → Prop) : Prop := ∀ (news₀ : List (Addr × Obj)) (J : Nat → List Value → List (Addr × Obj) → Prop) (W : Walks prog w A I fp [I] n P St) (hsz : n ≤ sizeLine) (hcell : ∀ y ∈ scope.names, y.2 ≠ .cell) (hkind : scope.kind = .function) (hst : St 0 s₂.heap) (hI2 : ∀ a ∈ news₀.map (·.1), a < I) (hIn : I + 1 = s₂.heap.objs.size) (hfo : ∀ b ∈ fp, b ≠ I → (∃ o, s₂.heap.get? b = some o) ∧ b ∉ news₀.map (·.1)) (hIo : ∀ i h, St i h → ∃ o, h.get? I = some o) (lot : ∀ i v (s' : Shared) (Q : Unit → Shared → Prop) (E : Value → Shared → Prop), St i s'.heap → Q () s' → wpAny (model prog w) A (letOwnedTupleGo target (.ref I) v) Q E s') (keep : ∀ b o, h₀.get? b = some o → s₂.heap.get? b = some o) (hI0 : h₀.get? I = none) (X : K.In h₀) (T : Top p loose mean mg mb h₀) (Ld : Led h₀ s₂.heap news₀) (hadr : ∀ i ys news, J i ys news → ys.length ≤ sizeLine) (j0 : J 0 [] news₀) (turn : ∀ g C D, K.In g → Top p loose mean mg mb g → (∀ b o, b ∉ news₀.map (·.1) → b ≠ I → s₂.heap.get? b = some o → g.get? b = some o) → g.objs.size ≤ C → @LT.lt Nat _ I D → @LT.lt Nat _ D C → 
      ∀ i v ys mC news₁ o h tk, P i v → i < n → J i ys news₁ → Adr news₀ I D news₁ → Fr g C h mC → News g C h ((I, o) :: (D, lst ys) :: news₁) →
      wpAny (model prog w) A (assign target (compEnvC scope cl C env) v) (fun _ s₃ => wpAny (model prog w) A (tests ifs (compEnvC scope cl C env)) (fun ok s₄ =>
        if ok = true then wpAny (model prog w) A (eval elt (compEnvC scope cl C env)) (fun y s₅ => CompEnd1 news₀ g C I o D ys (J (i + 1)) s₂ (ys ++ [y]) s₅) (fun _ _ => False) s₄ 
        else CompEnd1 news₀ g C I o D ys (J (i + 1)) s₂ ys s₄) (fun _ _ => False) s₃) (fun _ _ => False) { s₂ with heap := h, toks := tk }) (hRR : ∀ D C h tk m' ys news, J n ys news → Adr news₀ I D news → (∀ p ∈ news, p.1 ∈ news₀.map (·.1) ∨ s₂.heap.get? p.1 = none) → h.Ns C m' → (∀ b o, b ∉ news₀.map (·.1) → b ≠ I → s₂.heap.get? b = some o → h.get? b = some o) → (∀ p ∈ news, h.get? p.1 = some p.2 ∧ p.1 ≠ C) → h.get? D = some (lst ys) → s₂.heap.get? D = none → s₂.heap.get? C = none → @Ne Nat C D → @LT.lt Nat _ I D → RR (.ref D) C (.ok .next) { s₂ with heap := h, toks := tk }),
   wpAny (model prog w) A (newList []) (fun acc s₃ => wpAny (model prog w) A (newFunctionEnv scope env.globals cl [] env.qual none .none (some env)) (fun cenv s₄ =>
      codeAny (model prog w) A (.compStart (.ListComp elt [⟨target, iter, ifs, 0⟩] scope pos) 0 (.ref I) acc { cenv with scope := relabel scope env }) (RR acc cenv.locals) s₄) E s₃) E s₂
noncomputable abbrev Ty0 : Type := (Program) × (World) × (Around) × (Value → Shared → Prop) × (Env) × (Expr) × (Expr) × (Expr) × (List Expr) × (Scope) × (Pos) × (List (Str × Addr)) × (Addr) × (List Addr) × (Nat) × (Nat → Value → Prop) × (Nat → Heap → Prop) × (Shared) × (Heap) × (Frag) × (Program) × (List Str) × (ExcName → Option Value) × (Str → Option Value) × (Str → Option Value) × (Value → Addr → Result → Shared → Prop)
theorem ne0 : Nonempty Ty0 := ⟨Classical.choice inferInstance, Classical.choice neW, Classical.choice neA, Classical.choice inferInstance, Classical.choice inferInstance, Classical.choice inferInstance, Classical.choice inferInstance, Classical.choice inferInstance, Classical.choice inferInstance, Classical.choice inferInstance, Classical.choice inferInstance, Classical.choice inferInstance, Classical.choice inferInstance, Classical.choice inferInstance, Classical.choice inferInstance, Classical.choice inferInstance, Classical.choice inferInstance, Classical.choice neS, Classical.choice inferInstance, Classical.choice inferInstance, Classical.choice inferInstance, Classical.choice inferInstance, Classical.choice inferInstance, Classical.choice inferInstance, Classical.choice inferInstance, Classical.choice inferInstance⟩
noncomputable def P0 (vv0 : Ty0) : Prop := St0 (vv0.1) (vv0.2.1) (vv0.2.2.1) (vv0.2.2.2.1) (vv0.2.2.2.2.1) (vv0.2.2.2.2.2.1) (vv0.2.2.2.2.2.2.1) (vv0.2.2.2.2.2.2.2.1) (vv0.2.2.2.2.2.2.2.2.1) (vv0.2.2.2.2.2.2.2.2.2.1) (vv0.2.2.2.2.2.2.2.2.2.2.1) (vv0.2.2.2.2.2.2.2.2.2.2.2.1) (vv0.2.2.2.2.2.2.2.2.2.2.2.2.1) (vv0.2.2.2.2.2.2.2.2.2.2.2.2.2.1) (vv0.2.2.2.2.2.2.2.2.2.2.2.2.2.2.1) (vv0.2.2.2.2.2.2.2.2.2.2.2.2.2.2.2.1) (vv0.2.2.2.2.2.2.2.2.2.2.2.2.2.2.2.2.1) (vv0.2.2.2.2.2.2.2.2.2.2.2.2.2.2.2.2.2.1) (vv0.2.2.2.2.2.2.2.2.2.2.2.2.2.2.2.2.2.2.1) (vv0.2.2.2.2.2.2.2.2.2.2.2.2.2.2.2.2.2.2.2.1) (vv0.2.2.2.2.2.2.2.2.2.2.2.2.2.2.2.2.2.2.2.2.1) (vv0.2.2.2.2.2.2.2.2.2.2.2.2.2.2.2.2.2.2.2.2.2.1) (vv0.2.2.2.2.2.2.2.2.2.2.2.2.2.2.2.2.2.2.2.2.2.2.1) (vv0.2.2.2.2.2.2.2.2.2.2.2.2.2.2.2.2.2.2.2.2.2.2.2.1) (vv0.2.2.2.2.2.2.2.2.2.2.2.2.2.2.2.2.2.2.2.2.2.2.2.2.1) (vv0.2.2.2.2.2.2.2.2.2.2.2.2.2.2.2.2.2.2.2.2.2.2.2.2.2)
@[irreducible] def vv0 : Ty0 := @ata _ ne0 0 P0
@[irreducible] def prog : Program := vv0.1
@[irreducible] def w : World := vv0.2.1
@[irreducible] def A : Around := vv0.2.2.1
@[irreducible] def E : Value → Shared → Prop := vv0.2.2.2.1
@[irreducible] def env : Env := vv0.2.2.2.2.1
@[irreducible] def elt : Expr := vv0.2.2.2.2.2.1
@[irreducible] def target : Expr := vv0.2.2.2.2.2.2.1
@[irreducible] def iter : Expr := vv0.2.2.2.2.2.2.2.1
@[irreducible] def ifs : List Expr := vv0.2.2.2.2.2.2.2.2.1
@[irreducible] def scope : Scope := vv0.2.2.2.2.2.2.2.2.2.1
@[irreducible] def pos : Pos := vv0.2.2.2.2.2.2.2.2.2.2.1
@[irreducible] def cl : List (Str × Addr) := vv0.2.2.2.2.2.2.2.2.2.2.2.1
@[irreducible] def I : Addr := vv0.2.2.2.2.2.2.2.2.2.2.2.2.1
@[irreducible] def n : Nat := vv0.2.2.2.2.2.2.2.2.2.2.2.2.2.2.1
@[irreducible] def P : Nat → Value → Prop := vv0.2.2.2.2.2.2.2.2.2.2.2.2.2.2.2.1
@[irreducible] def St : Nat → Heap → Prop := vv0.2.2.2.2.2.2.2.2.2.2.2.2.2.2.2.2.1
@[irreducible] def s₂ : Shared := vv0.2.2.2.2.2.2.2.2.2.2.2.2.2.2.2.2.2.1
@[irreducible] def h₀ : Heap := vv0.2.2.2.2.2.2.2.2.2.2.2.2.2.2.2.2.2.2.1
@[irreducible] def p : Program := vv0.2.2.2.2.2.2.2.2.2.2.2.2.2.2.2.2.2.2.2.2.1
@[irreducible] def RR : Value → Addr → Result → Shared → Prop := vv0.2.2.2.2.2.2.2.2.2.2.2.2.2.2.2.2.2.2.2.2.2.2.2.2.2
theorem prf0 : St0 prog w A E env elt target iter ifs scope pos cl I (vv0.2.2.2.2.2.2.2.2.2.2.2.2.2.1) n P St s₂ h₀ (vv0.2.2.2.2.2.2.2.2.2.2.2.2.2.2.2.2.2.2.2.1) p (vv0.2.2.2.2.2.2.2.2.2.2.2.2.2.2.2.2.2.2.2.2.2.1) (vv0.2.2.2.2.2.2.2.2.2.2.2.2.2.2.2.2.2.2.2.2.2.2.1) (vv0.2.2.2.2.2.2.2.2.2.2.2.2.2.2.2.2.2.2.2.2.2.2.2.1) (vv0.2.2.2.2.2.2.2.2.2.2.2.2.2.2.2.2.2.2.2.2.2.2.2.2.1) RR := by
  intro news₀ J W hsz hcell hkind hst hI2 hIn hfo hIo lot keep hI0 X T Ld hadr j0 turn hRR
  refine wpAny_newObj_type (wpAny_newFunctionEnv hcell (by intro y hy; simp at hy) (fun h₁ hns₁ hsb₁ => ?_) hkind)
  dsimp only at hns₁ hsb₁ ⊢
  generalize hDe : s₂.heap.objs.size = D at *
  generalize hH2 : s₂.heap.push { cls := .type "list", dict := none, data := .seq ([] : List Value).toArray } = H2 at hns₁ hsb₁ ⊢
  have hC : H2.objs.size = D + 1 := by rw [← hH2, Heap.size_push, hDe]
  generalize hCe : H2.objs.size = C at *
  have hDC : @LT.lt Nat _ D C := by rw [hC]; exact Nat.lt_succ_self _
  have hID : @LT.lt Nat _ I D := by rw [← hIn]; exact Nat.lt_succ_self _
  have ltD : ∀ b o, s₂.heap.get? b = some o → @LT.lt Nat _ b D := fun b o e => hDe ▸ Heap.lt_size e
  have neC : ∀ b : Nat, b < D → b ≠ C := fun b hb e => by lia
  have old : ∀ b o, s₂.heap.get? b = some o → h₁.get? b = some o := fun b o e => hsb₁.extBut b o (neC b (ltD b o e)) (Heap.get?_push_of_some _ (hH2 ▸ Heap.get?_push_of_some _ e))
  have hacc : h₁.get? D = some (lst []) := hsb₁.extBut _ _ (Nat.ne_of_lt hDC) (Heap.get?_push_of_some _ (hH2 ▸ hDe ▸ Heap.get?_push_size _ rfl))
  have fresh : ∀ a : Nat, D ≤ a → s₂.heap.get? a = none := fun a ha => by
    cases e : s₂.heap.get? a with
    | none => rfl
    | some o' => exact absurd (ltD a o' e) (Nat.not_lt.mpr ha)
  have st := led_base (news := (I, (⟨.none, none, .plain, #[]⟩ : Obj)) :: news₀) (h := s₂.heap) (h₀ := h₀) keep
  let g : Heap := hideAll s₂.heap (I :: news₀.map (·.1))
  have hgsz : g.objs.size = D := by rw [← hDe]; exact hideAll_size _ _
  have kg : ∀ b o, b ∉ news₀.map (·.1) → b ≠ I → s₂.heap.get? b = some o → g.get? b = some o := fun b o h1 h2 e => hideAll_get _ e (by
    intro q
    rcases List.mem_cons.mp q with q | q
    · exact h2 q
    · exact h1 q)
  have gb : ∀ b o, h₀.get? b = some o → g.get? b = some o := fun b o e => kg b o (fun q => by
    k_extra "g1"
    obtain ⟨p, hp, rfl⟩ := List.mem_map.mp q
    k_extra "g2"
    rw [(Ld p hp).2] at e; cases e) (fun q => by rw [q, hI0] at e; cases e) (keep b o e)
  have gs : ∀ b o, g.get? b = some o → s₂.heap.get? b = some o := fun b o e => of_hideAll _ e
  have gI : g.get? I = none := hideAll_none _ (.head _)
  have gn : ∀ a ∈ news₀.map (·.1), g.get? a = none := fun a ha => hideAll_none _ (.tail _ ha)
  have gD : g.get? D = none := by
    cases e : g.get? D with
    | none => rfl
    | some o => have := gs _ _ e; rw [fresh D (Nat.le_refl _)] at this; cases this
  have loop : ∀ s₃ : Shared, s₃ = { s₂ with heap := h₁, toks := s₂.toks + ([] : List (Str × Value)).length } →
      codeAny (model prog w) A (.compLoop (.ListComp elt [⟨target, iter, ifs, 0⟩] scope pos) 0 (.ref I) (.ref D) (compEnvC scope cl C env)) (RR (.ref D) C) s₃ := by
    rintro s₃ rfl
    refine comp_loop
      (fun k s' => ∃ h' tk i ys m' news' o, s' = { s₂ with heap := h', toks := tk } ∧ i ≤ n ∧ k = n + 1 - i ∧ St i h' ∧ Fr g C h' m' ∧ News g C h' ((I, o) :: (D, lst ys) :: news') ∧ Adr news₀ I D news' ∧ J i ys news') ?_ (n + 1) ?_
    · rintro k s' zx
      k_extra "g1"
      obtain ⟨h', tk, i, ys, m', news', o, rfl, hi, rfl, hst', F', N', hA, hJ⟩ := zx
      k_extra "g2"
      have hyl := hadr _ _ _ hJ
      by_cases hlt : i < n
      · refine W.item _ _ _ _ hlt hst' fun v h₂ tk₂ hP hst₂ hk₂ => ?_
        refine lot i.succ v _ _ _ hst₂ ?_
        obtain ⟨o₂, ho₂⟩ := hIo _ _ hst₂
        have F₂ : Fr g C h₂ m' := ⟨F'.ns.at' fun o e => hk₂ C o (fun q => absurd (List.mem_singleton.mp q) (Nat.ne_of_gt (Nat.lt_trans hID hDC))) e, fun b o e => hk₂ b o (fun q => by rw [List.mem_singleton.mp q, gI] at e; cases e) (F'.keep b o e), F'.above⟩
        have N₂ : News g C h₂ ((I, o₂) :: (D, lst ys) :: news') := by
          intro p hp
          rcases List.mem_cons.mp hp with rfl | hp
          · exact ⟨ho₂, by show I ≠ C; exact neC I hID, gI⟩
          · refine ⟨hk₂ _ _ ?_ (N' p (.tail _ hp)).1, (N' p (.tail _ hp)).2⟩
            intro q
            have q := List.mem_singleton.mp q
            rcases List.mem_cons.mp hp with rfl | hp
            · exact absurd q (Nat.ne_of_gt hID)
            · exact adr_ne hI2 hA hp q
        have fin : ∀ ys' (sz : ys'.length ≤ sizeLine) s₅, CompEnd1 news₀ g C I o₂ D ys (J (i + 1)) s₂ ys' s₅ → ∃ h' tk m' news', s₅ = { s₂ with heap := h', toks := tk } ∧ St (i + 1) h' ∧ Fr g C h' m' ∧ News g C h' ((I, o₂) :: (D, lst ys) :: news') ∧ Adr news₀ I D news' ∧ J (i + 1) ys' news' := by
          rintro ys' sz s₅ zx
          k_extra "g1"
          obtain ⟨h₅, tk₅, m₅, news₅, rfl, F₅, N₅, A₅, J₅⟩ := zx
          k_extra "g2"
          refine ⟨h₅, tk₅, m₅, news₅, rfl, W.frame _ _ _ hst₂ fun b hb ob e => ?_, F₅, N₅, A₅, J₅⟩
          by_cases hbI : b = I
          · subst hbI
            rw [ho₂] at e; cases e
            exact (N₅ _ (.head _)).1
          · k_extra "g1"
            obtain ⟨⟨o', e'⟩, hb'⟩ := hfo b hb hbI
            k_extra "g2"
            have e1 := kg b o' hb' hbI e'
            rw [F₂.keep b o' e1] at e; cases e
            exact F₅.keep b _ e1
        refine wpAny_mono (turn g C D (X.keeps gb) (T.keeps gb) kg (by rw [hgsz]; exact Nat.le_of_lt hDC) hID hDC i v ys m' news' o₂ h₂ tk₂ hP hlt hJ hA F₂ N₂) (fun _ s₃ h₃ => wpAny_mono h₃ (fun ok s₄ h₄ => ?_) fun _ _ q => q) fun _ _ q => q
        cases ok with
        | false =>
          rw [if_neg (by decide)] at h₄
          k_extra "g1"
          obtain ⟨h₆, tk₆, m₆, news₆, rfl, st₆, F₆, N₆, A₆, J₆⟩ := fin ys hyl _ h₄
          k_extra "g2"
          exact ⟨n + 1 - (i + 1), by lia, h₆, tk₆, i + 1, ys, m₆, news₆, o₂, rfl, hlt, rfl, st₆, F₆, N₆, A₆, J₆⟩
        | true =>
          rw [if_pos rfl] at h₄
          refine wpAny_mono h₄ (fun y s₅ h₅ => ?_) fun _ _ q => q
          have hyl' : (ys ++ [y]).length ≤ sizeLine := by
            k_extra "g1"
            obtain ⟨_, _, _, news₅, _, _, _, _, J₅⟩ := id h₅
            k_extra "g2"
            exact hadr _ _ _ J₅
          k_extra "g1"
          obtain ⟨h₆, tk₆, m₆, news₆, rfl, st₆, F₆, N₆, A₆, J₆⟩ := fin _ hyl' _ h₅
          k_extra "g2"
          have hDg : (h₆.get? D = some (lst ys)) := (N₆ _ (.tail _ (.head _))).1
          refine append_at (hsz := by simpa using hyl) hDg fun h₇ hs₇ ho₇ => ?_
          refine ⟨n + 1 - (i + 1), by lia, h₇, tk₆, i + 1, ys ++ [y], m₆, news₆, o₂, rfl, hlt, rfl, ?_, ?_, ?_, A₆, J₆⟩
          · refine W.frame _ _ _ st₆ fun b hb ob e => hs₇.extBut _ _ (fun q => ?_) e
            by_cases hbI : b = I
            · rw [hbI] at q; exact absurd q (Nat.ne_of_lt hID)
            · k_extra "g1"
              obtain ⟨⟨o', e'⟩, _⟩ := hfo b hb hbI
              k_extra "g2"
              have := ltD _ _ e'
              rw [q] at this; exact absurd this (Nat.lt_irrefl _)
          · exact ⟨F₆.ns.sameBut hs₇ (Nat.ne_of_gt hDC), fun b o e => hs₇.extBut b o (fun q => by rw [q, gD] at e; cases e) (F₆.keep b o e), F₆.above⟩
          · intro p hp
            rcases List.mem_cons.mp hp with rfl | hp
            · exact ⟨hs₇.extBut _ _ (Nat.ne_of_lt hID) (N₆ _ (.head _)).1, (N₆ _ (.head _)).2⟩
            · rcases List.mem_cons.mp hp with rfl | hp
              · exact ⟨ho₇.trans (congrArg some (lst_snoc ys y)), (N₆ _ (.tail _ (.head _))).2⟩
              · refine ⟨hs₇.extBut _ _ (fun q => ?_) (N₆ _ (.tail _ (.tail _ hp))).1, (N₆ _ (.tail _ (.tail _ hp))).2⟩
                rcases A₆ p hp with this | this
                · have := hI2 p.1 this
                  rw [q] at this; exact absurd (Nat.lt_trans this hID) (Nat.lt_irrefl _)
                · exact this.2 q
      · obtain rfl : i = n := Nat.le_antisymm hi (Nat.not_lt.mp hlt)
        refine W.done _ _ _ hst' fun h₂ tk₂ hk₂ => ?_
        refine hRR D C h₂ tk₂ m' ys news' hJ hA (fun p hp => ?_) (F'.ns.at' fun o e => hk₂ C o (fun q => absurd (List.mem_singleton.mp q) (Nat.ne_of_gt (Nat.lt_trans hID hDC))) e) (fun b o h1 h2 e => hk₂ b o (by simpa using h2) (F'.keep b o (kg b o h1 h2 e))) (fun p hp => ⟨hk₂ _ _ (fun q => ?_) (N' p (.tail _ (.tail _ hp))).1, (N' p (.tail _ (.tail _ hp))).2.1⟩) (hk₂ D _ (fun q => absurd (List.mem_singleton.mp q) (Nat.ne_of_gt hID)) (N' _ (.tail _ (.head _))).1) (fresh D (Nat.le_refl _)) (fresh C (Nat.le_of_lt hDC)) (Nat.ne_of_gt hDC) hID
        · by_cases hm : p.1 ∈ news₀.map (·.1)
          · exact .inl hm
          · refine .inr ?_
            cases e : s₂.heap.get? p.1 with
            | none => rfl
            | some o' =>
              have := kg _ _ hm (adr_ne hI2 hA hp) e
              rw [(N' p (.tail _ (.tail _ hp))).2.2] at this; cases this
        · exact adr_ne hI2 hA hp (List.mem_singleton.mp q)
    · obtain ⟨o, ho⟩ := hIo _ _ hst
      have F₁ : Fr g C h₁ _ := ⟨hns₁, fun b o e => old b o (gs b o e), by rw [hgsz]; exact Nat.le_of_lt hDC⟩
      refine ⟨h₁, _, 0, [], _, news₀, o, rfl, Nat.zero_le _, rfl, W.frame _ _ _ hst fun b _ o e => old b o e, F₁, ?_, (fun p hp => .inl (List.mem_map_of_mem hp)), j0⟩
      intro p hp
      rcases List.mem_cons.mp hp with rfl | hp
      · exact ⟨old _ _ ho, by show I ≠ C; exact neC I hID, gI⟩
      · rcases List.mem_cons.mp hp with rfl | hp
        · exact ⟨hacc, Nat.ne_of_lt hDC, gD⟩
        · have e := (Ld p hp).1
          exact ⟨old _ _ e, neC _ (ltD _ _ e), gn _ (List.mem_map_of_mem hp)⟩
  exact codeAny_compStart_list (loop _ rfl) (W.self 0 _ _ _ (W.frame _ _ _ hst fun b _ o e => old b o e) (loop _ rfl))
end comp_own
theorem comp_own {prog : Program} {w : World} {A : Around} {E : Value → Shared → Prop} {env : Env} {elt : Expr} {target : Expr} {iter : Expr} {ifs : List Expr} {scope : Scope} {pos : Pos} {cl : List (Str × Addr)} {I : Addr} {fp : List Addr} {n : Nat} {P : Nat → Value → Prop} {St : Nat → Heap → Prop} {s₂ : Shared} {h₀ : Heap} {K : Frag} {p : Program} {loose : List Str} {mean : ExcName → Option Value} {mg : Str → Option Value} {mb : Str → Option Value} {RR : Value → Addr → Result → Shared → Prop} : comp_own.St0 prog w A E env elt target iter ifs scope pos cl I fp n P St s₂ h₀ K p loose mean mg mb RR :=
  @ata_spec _ comp_own.ne0 0 comp_own.P0 (by with_unfolding_all exact comp_own.prf0) (prog, w, A, E, env, elt, target, iter, ifs, scope, pos, cl, I, fp, n, P, St, s₂, h₀, K, p, loose, mean, mg, mb, RR)
section
variable {prog : Program} {w : World} {A : Around} {E : Value → Shared → Prop} {R : Result → Shared → Prop} {s : Shared} {env : Env}
end
end
noncomputable section
open PySem PySem.W PySem.Spec PySem.Calls PyProof.Rows PyProof.Rows.LCg
section
variable {prog : Program} {w : World} {A : Around} {E : Value → Shared → Prop} {R : Result → Shared → Prop} {s : Shared} {env : Env}
theorem kw_31 : True := by
  k_with_none
  k_with "g1" => refine by_goal fun zG zh => ?_
  k_with "g2" => (refine zh ?_; clear zh zG)
  trivial
noncomputable def CompK (prog : Program) (w : World) (A : Around) (env : Env) (target elt : Expr) (ifs : List Expr) (scope : Scope) (cl : List (Str × Addr)) (Done : Heap → Addr → (Str → Option Value) → Shared → Addr → Heap → Nat → List (Addr × Obj) → Prop) (xv : Value) (s₁ : Shared) : Prop :=
  ∃ (K : Frag) (p : Program) (loose : List Str) (mean : ExcName → Option Value) (mg mb : Str → Option Value) (h₀ : Heap) (L : Addr) (m : Str → Option Value) (all news₀ rest : List (Addr × Obj)) (n : Nat) (P : Nat → Value → Prop) (J : Nat → List Value → List (Addr × Obj) → Prop),
    K.In h₀ ∧ Top p loose mean mg mb h₀ ∧ Fr h₀ L s₁.heap m ∧ News h₀ L s₁.heap all ∧ (∀ p ∈ news₀, p ∈ all) ∧ (∀ p ∈ rest, p ∈ all ∧ p.1 ∉ news₀.map (·.1)) ∧ Src prog w A xv target n P (news₀.map (·.1)) s₁ ∧ n ≤ sizeLine ∧
    (∀ i ys news, J i ys news → ys.length ≤ sizeLine) ∧ J 0 [] news₀ ∧
    (∀ g C D I (s₂ : Shared) (_ : ∃ h, s₂ = { s₁ with heap := h }), K.In g → Top p loose mean mg mb g → (∀ b o, b ∉ news₀.map (·.1) → s₁.heap.get? b = some o → g.get? b = some o) → g.objs.size ≤ C → (∀ p ∈ all, @LT.lt Nat _ p.1 I) → @LT.lt Nat _ I D → @LT.lt Nat _ D C → 
      ∀ i v ys mC news₁ o h tk, P i v → i < n → J i ys news₁ → Adr news₀ I D news₁ → Fr g C h mC → News g C h ((I, o) :: (D, lst ys) :: news₁) →
      wpAny (model prog w) A (assign target (compEnvC scope cl C env) v) (fun _ s₃ => wpAny (model prog w) A (tests ifs (compEnvC scope cl C env)) (fun ok s₄ =>
        if ok = true then wpAny (model prog w) A (eval elt (compEnvC scope cl C env)) (fun y s₅ => CompEnd1 news₀ g C I o D ys (J (i + 1)) s₂ (ys ++ [y]) s₅) (fun _ _ => False) s₄ 
        else CompEnd1 news₀ g C I o D ys (J (i + 1)) s₂ ys s₄) (fun _ _ => False) s₃) (fun _ _ => False) { s₂ with heap := h, toks := tk }) ∧
    (∀ D h tk ys news, J n ys news → (∀ p ∈ news, p.1 ∈ news₀.map (·.1) ∨ (s₁.heap.get? p.1 = none ∧ @Ne Nat p.1 D)) → Fr h₀ L h m → News h₀ L h ((D, lst ys) :: (news ++ rest)) → (∀ p ∈ all, @LT.lt Nat _ p.1 D) → Done h₀ L m s₁ D h tk ((D, lst ys) :: (news ++ rest)))
end
namespace compK_core
noncomputable def St0 (prog : Program) (w : World) (A : Around) (E : Value → Shared → Prop) (s : Shared) (env : Env) (elt : Expr) (target : Expr) (iter : Expr) (ifs : List Expr) (scope : Scope) (pos : Pos) (cl : List (Str × Addr)) (Done : Heap → Addr → (Str → Option Value) → Shared → Addr → Heap → Nat → List (Addr × Obj) → Prop) (xv : Value) (RR : Value → Addr → Result → Shared → Prop) : Prop := ∀ (hcell : ∀ y ∈ scope.names, y.2 ≠ .cell) (hkind : scope.kind = .function) (h : CompK prog w A env target elt ifs scope cl Done xv s) (hRR : ∀ h₀ L m D C h tk m' all, (∀ D' h' tk', (∀ p ∈ all, h'.get? p.1 = some p.2) → (∀ b o, h.get? b = some o → b ≠ C → h'.get? b = some o) → D' = D → Fr h₀ L h' m → News h₀ L h' all → Done h₀ L m s D' h' tk' all) → Fr h₀ L h m → News h₀ L h all → h.Ns C m' → @Ne Nat C L → h₀.get? C = none → (∀ p ∈ all, @Ne Nat p.1 C) → RR (.ref D) C (.ok .next) { s with heap := h, toks := tk }),
   wpAny (model prog w) A (pyIter xv) (fun it s₂ => wpAny (model prog w) A (newList []) (fun acc s₃ => wpAny (model prog w) A (newFunctionEnv scope env.globals cl [] env.qual none .none (some env)) (fun cenv s₄ =>
      codeAny (model prog w) A (.compStart (.ListComp elt [⟨target, iter, ifs, 0⟩] scope pos) 0 it acc { cenv with scope := relabel scope env }) (RR acc cenv.locals) s₄) E s₃) E s₂) E s
noncomputable abbrev Ty0 : Type := (Program) × (World) × (Around) × (Value → Shared → Prop) × (Shared) × (Env) × (Expr) × (Expr) × (Expr) × (List Expr) × (Scope) × (Pos) × (List (Str × Addr)) × (Heap → Addr → (Str → Option Value) → Shared → Addr → Heap → Nat → List (Addr × Obj) → Prop) × (Value) × (Value → Addr → Result → Shared → Prop)
theorem ne0 : Nonempty Ty0 := ⟨Classical.choice inferInstance, Classical.choice neW, Classical.choice neA, Classical.choice inferInstance, Classical.choice neS, Classical.choice inferInstance, Classical.choice inferInstance, Classical.choice inferInstance, Classical.choice inferInstance, Classical.choice inferInstance, Classical.choice inferInstance, Classical.choice inferInstance, Classical.choice inferInstance, Classical.choice inferInstance, Classical.choice inferInstance, Classical.choice inferInstance⟩
noncomputable def P0 (vv0 : Ty0) : Prop := St0 (vv0.1) (vv0.2.1) (vv0.2.2.1) (vv0.2.2.2.1) (vv0.2.2.2.2.1) (vv0.2.2.2.2.2.1) (vv0.2.2.2.2.2.2.1) (vv0.2.2.2.2.2.2.2.1) (vv0.2.2.2.2.2.2.2.2.1) (vv0.2.2.2.2.2.2.2.2.2.1) (vv0.2.2.2.2.2.2.2.2.2.2.1) (vv0.2.2.2.2.2.2.2.2.2.2.2.1) (vv0.2.2.2.2.2.2.2.2.2.2.2.2.1) (vv0.2.2.2.2.2.2.2.2.2.2.2.2.2.1) (vv0.2.2.2.2.2.2.2.2.2.2.2.2.2.2.1) (vv0.2.2.2.2.2.2.2.2.2.2.2.2.2.2.2)
@[irreducible] def vv0 : Ty0 := @ata _ ne0 0 P0
@[irreducible] def w : World := vv0.2.1
@[irreducible] def A : Around := vv0.2.2.1
@[irreducible] def s : Shared := vv0.2.2.2.2.1
@[irreducible] def RR : Value → Addr → Result → Shared → Prop := vv0.2.2.2.2.2.2.2.2.2.2.2.2.2.2.2
theorem prf0 : St0 (vv0.1) w A (vv0.2.2.2.1) s (vv0.2.2.2.2.2.1) (vv0.2.2.2.2.2.2.1) (vv0.2.2.2.2.2.2.2.1) (vv0.2.2.2.2.2.2.2.2.1) (vv0.2.2.2.2.2.2.2.2.2.1) (vv0.2.2.2.2.2.2.2.2.2.2.1) (vv0.2.2.2.2.2.2.2.2.2.2.2.1) (vv0.2.2.2.2.2.2.2.2.2.2.2.2.1) (vv0.2.2.2.2.2.2.2.2.2.2.2.2.2.1) (vv0.2.2.2.2.2.2.2.2.2.2.2.2.2.2.1) RR := by
  intro hcell hkind h hRR
  k_extra "g1"
  obtain ⟨K, p, loose, mean, mg, mb, h₀, L, m, all, news₀, rest, n, P, J, X, T, F, N, hsub, hrest, hsrc, hn, hadr, j0, turn, done⟩ := h
  k_extra "g2"
  obtain ⟨own, hsrc⟩ := hsrc
  refine hsrc _ _ fun o fp St W ho hst hfo lot hIo => ?_
  have hlt : ∀ p ∈ all, @LT.lt Nat _ p.1 s.heap.objs.size := fun p hp => Heap.lt_size (N p hp).1
  have up : ∀ b ob, s.heap.get? b = some ob → (s.heap.push o).get? b = some ob := fun b ob e => Heap.get?_push_of_some _ e
  refine comp_own (h₀ := h₀) (K := K) (s₂ := { s with heap := s.heap.push o }) news₀ J W hn hcell hkind hst (fun a ha => ?_) (Heap.size_push ..).symm (fun b hb hne => ⟨?_, (hfo b hb hne).2.1⟩) hIo lot (fun b ob e => up b ob (F.keep b ob e)) ?_ X T (fun p hp => ⟨up _ _ (N p (hsub p hp)).1, (N p (hsub p hp)).2.2⟩) hadr j0 ?_ ?_
  · k_extra "g1"
    obtain ⟨p, hp, rfl⟩ := List.mem_map.mp ha
    k_extra "g2"
    exact hlt p (hsub p hp)
  · obtain ⟨ob, e⟩ := (hfo b hb hne).1
    exact ⟨ob, up _ _ e⟩
  · cases q : h₀.get? s.heap.objs.size with
    | none => rfl
    | some ob => exact absurd (Heap.lt_size (F.keep _ _ q)) (Nat.lt_irrefl _)
  · intro g C D Xg Tg kg hgC hID hDC i v ys mC news₁ o' h tk hP hi hJ hA F' N'
    exact turn g C D _ { s with heap := s.heap.push o } ⟨_, rfl⟩ Xg Tg (fun b ob hb e => kg b ob hb (Nat.ne_of_lt (Heap.lt_size e)) (up b ob e)) hgC hlt hID hDC i v ys mC news₁ o' h tk hP hi hJ hA F' N'
  · intro D C h tk m' ys news hJ hA hAn hnC kp hnews hD hDn hCn hCD hID
    have k1 : ∀ b ob, b ∉ news₀.map (·.1) → s.heap.get? b = some ob → h.get? b = some ob := fun b ob hb e => kp b ob hb (Nat.ne_of_lt (Heap.lt_size e)) (up b ob e)
    have none_s : ∀ a, (s.heap.push o).get? a = none → s.heap.get? a = none := fun a e => by
      cases q : s.heap.get? a with
      | none => rfl
      | some ob => rw [up _ _ q] at e; cases e
    obtain ⟨FF, NN⟩ := back (h' := h) (news' := (D, lst ys) :: news) (rest := rest) F N (news₀.map (·.1)) (fun a ha => by
      k_extra "g1"
      obtain ⟨p, hp, rfl⟩ := List.mem_map.mp ha
      k_extra "g2"
      exact ⟨_, hsub p hp⟩) k1 (fun p hp => by
        rcases List.mem_cons.mp hp with rfl | hp
        · exact ⟨hD, .inr (none_s _ hDn)⟩
        · exact ⟨(hnews p hp).1, (hAn p hp).imp id (none_s _)⟩) hrest
    have hneC : ∀ b ob, s.heap.get? b = some ob → @Ne Nat b C := fun b ob e q => by
      have := none_s _ hCn
      rw [← q, e] at this; cases this
    have hLC : @Ne Nat C L := fun q => by
      k_extra "g1"
      obtain ⟨oL, _, _, hL, _⟩ := F.ns
      k_extra "g2"
      exact hneC _ _ hL q.symm
    refine hRR h₀ L m D C h tk m' ((D, lst ys) :: (news ++ rest)) (fun D' h' tk' ha hk hDD F' N' => ?_) FF NN hnC hLC ?_ ?_
    · subst hDD
      refine done D' h' tk' ys news hJ (fun p hp => (hAn p hp).elim .inl fun e => (hA p hp).imp id fun q => ⟨none_s _ e, q.2⟩) F' N' fun p hp => ?_
      exact Nat.lt_trans (hlt p hp) hID
    · cases q : h₀.get? C with
      | none => rfl
      | some ob => have := hneC _ _ (F.keep _ _ q); exact absurd rfl this
    · intro p hp
      rcases List.mem_cons.mp hp with rfl | hp
      · exact Ne.symm hCD
      · rcases List.mem_append.mp hp with hp | hp
        · exact (hnews p hp).2
        · exact hneC _ _ (N p (hrest p hp).1).1
end compK_core
theorem compK_core {prog : Program} {w : World} {A : Around} {E : Value → Shared → Prop} {s : Shared} {env : Env} {elt : Expr} {target : Expr} {iter : Expr} {ifs : List Expr} {scope : Scope} {pos : Pos} {cl : List (Str × Addr)} {Done : Heap → Addr → (Str → Option Value) → Shared → Addr → Heap → Nat → List (Addr × Obj) → Prop} {xv : Value} {RR : Value → Addr → Result → Shared → Prop} : compK_core.St0 prog w A E s env elt target iter ifs scope pos cl Done xv RR :=
  @ata_spec _ compK_core.ne0 0 compK_core.P0 (by with_unfolding_all exact compK_core.prf0) (prog, w, A, E, s, env, elt, target, iter, ifs, scope, pos, cl, Done, xv, RR)
section
variable {prog : Program} {w : World} {A : Around} {E : Value → Shared → Prop} {R : Result → Shared → Prop} {s : Shared} {env : Env}
noncomputable def DoneE (Q : Value → Shared → Prop) (h₀ : Heap) (L : Addr) (m : Str → Option Value) (s₁ : Shared) (D : Addr) (h : Heap) (tk : Nat) (all : List (Addr × Obj)) : Prop := Q (.ref D) { s₁ with heap := h, toks := tk }
theorem ListComp_K {elt target iter : Expr} {ifs : List Expr} {scope : Scope} {pos : Pos} {cl : List (Str × Addr)} {Q : Value → Shared → Prop}
    (hclos : closureFor scope env = pure cl) (hcell : ∀ y ∈ scope.names, y.2 ≠ .cell) (hkind : scope.kind = .function)
    (hnames : ∀ y ∈ scope.names, y.2 = .local → scope.names.lookup y.1 = some .local)
    (h : wpAny (model prog w) A (eval iter env) (CompK prog w A env target elt ifs scope cl (DoneE Q)) E s)
    (hs : ∀ x, foldedSetIterable iter env x = pure x := by intro _; rfl) :
    wpAny (model prog w) A (eval (.ListComp elt [⟨target, iter, ifs, 0⟩] scope pos) env) Q E s := by
  rw [eval_ListComp]
  refine wpAny_comprehension_free (use := none) rfl hs hclos hkind hnames (wpAny_mono h (fun xv s₁ h₁ => ?_) fun _ _ e => e)
  refine compK_core hcell hkind h₁ fun h₀ L m D C h tk m' all fin F N hC hCL hC0 hne => ?_
  refine ⟨m', hC, fun h'' hs'' => fin D h'' tk (fun p hp => ?_) (fun b o e hb => hs''.extBut b o hb e) rfl (F.change hs'' hCL hC0) fun p hp => ⟨hs''.extBut _ _ (hne p hp) (N p hp).1, (N p hp).2⟩⟩
  exact hs''.extBut _ _ (hne p hp) (N p hp).1
noncomputable def DoneA (y : Str) (Q : Flow → Shared → Prop) (env : Env) (h₀ : Heap) (L : Addr) (m : Str → Option Value) (s₁ : Shared) (D : Addr) (h : Heap) (tk : Nat) (all : List (Addr × Obj)) : Prop :=
  env.locals = L ∧ ∀ h' tk', Fr h₀ L h' (fun z => if z = y then some (.ref D) else m z) → News h₀ L h' all → Q .next { s₁ with heap := h', toks := tk' }
theorem Assign_ListComp_K {elt target iter : Expr} {ifs : List Expr} {y : Str} {py : Pos} {scope : Scope} {cl : List (Str × Addr)} {pos spos : Pos} {Q : Flow → Shared → Prop}
    (hsw : swapsWith (.ListComp elt [⟨target, iter, ifs, 0⟩] scope pos) (some (.Name y py)) spos.line env = pure true)
    (hclos : closureFor scope env = pure cl) (hcell : ∀ z ∈ scope.names, z.2 ≠ .cell) (hkind : scope.kind = .function)
    (hnames : ∀ z ∈ scope.names, z.2 = .local → scope.names.lookup z.1 = some .local)
    (hy : env.kindOf y = some .local) (hp : (env.scope.kind == .class || (env.scope.kind == .module && env.locals != env.globals)) = false)
    (h : wpAny (model prog w) A (eval iter env) (CompK prog w A env target elt ifs scope cl (DoneA y Q env)) E s)
    (hs : ∀ x, foldedSetIterable iter env x = pure x := by intro _; rfl) :
    wpAny (model prog w) A (exec (.Assign [.Name y py] (.ListComp elt [⟨target, iter, ifs, 0⟩] scope pos) spos) env) Q E s := by
  rw [exec_Assign_Name_used _ _ _ _ hsw]
  refine wpAny_bind (wpAny_standAt (wpAny_bind ?_))
  show wpAny _ A (do let _ ← comprehension (.ListComp elt [⟨target, iter, ifs, 0⟩] scope pos) scope env _ (newList []) false (eval iter env) (some (assign (.Name y py) env))) _ _ s
  refine wpAny_bind (wpAny_mono (wpAny_comprehension_free (use := some (assign (.Name y py) env)) (Q := fun _ s' => Q .next s') rfl hs hclos hkind hnames
    (wpAny_mono h (fun xv s₁ h₁ => ?_) fun _ _ e => e)) (fun _ s' hq => wpAny_pure (wpAny_pure hq)) fun _ _ e => e)
  refine compK_core hcell hkind h₁ fun h₀ L m D C h tk m' all fin F N hC hCL hC0 hne => ?_
  have hL : env.locals = L := (fin D h tk (fun p hp => (N p hp).1) (fun _ _ e _ => e) rfl F N).1
  subst hL
  show wpAny _ A (assign (.Name y py) env (.ref D)) _ _ _
  refine wpAny_assign_Name (wpAny_storeName_local hy F.ns (fun h₂ hn₂ hs₂ => ?_) hp)
  have F₂ := F.set hn₂ hs₂
  have N₂ := N.set hs₂
  refine ⟨m', hC.sameBut hs₂ hCL, fun h'' hs'' => (fin D h tk (fun p hp => (N p hp).1) (fun _ _ e _ => e) rfl F N).2 h'' _ (F₂.change hs'' hCL hC0) fun p hp => ⟨hs''.extBut _ _ (hne p hp) (N₂ p hp).1, (N₂ p hp).2⟩⟩
end
end
noncomputable section
open PySem PySem.W PySem.Spec PySem.Calls PyProof.Rows PyProof.Rows.LCg
section
variable {M : Model} {A : Around} {E : Value → Shared → Prop} {s : Shared} {K : Frag} {h₀ : Heap} {C : Addr} {m mg mb : Str → Option Value} {news : List (Addr × Obj)} {scope : Scope} {cl : List (Str × Addr)} {env : Env} {x : Str} {pos : Pos} {v : Value}
theorem st_comp {Q : Unit → Shared → Prop} (F : Fr h₀ C s.heap m) (N : News h₀ C s.heap news)
    (h : ∀ h', Fr h₀ C h' (fun y => if y = x then some v else m y) → News h₀ C h' news → Q () { s with heap := h', toks := s.toks + 1 })
    (hk : scope.kind = .function := by rfl) (hl : (compEnvC scope cl C env).kindOf x = some .local := by rfl) :
    wpAny M A (storeName (compEnvC scope cl C env) x v) Q E s :=
  wpAny_storeName_local hl F.ns (fun h' hn hs => h h' (F.set hn hs) (N.set hs))
    (by show (scope.kind == .class || (scope.kind == .module && C != env.globals)) = false; rw [hk]; rfl)
theorem ld_comp {Q : Value → Shared → Prop} (F : Fr h₀ C s.heap m) (hx : m x = some v) (h : Q v s)
    (hk : (compEnvC scope cl C env).scope.kind = .function := by rfl) (hl : (compEnvC scope cl C env).kindOf x = some .local := by rfl) (hd : (x == ("__debug__" : Str)) = false := by decide) :
    wpAny M A (eval (.Name x pos) (compEnvC scope cl C env)) Q E s := ldVarK F.ns hx h hk hl hd
theorem src_tup {prog : Program} {w : World} {A : Around} {s : Shared} {ax : Addr} {its : Array Value} {target : Expr} {bad : List Addr} {n : Nat} (hh : A.handled = none) (hl : s.heap.IsTuple ax its) (hn : its.size = n) (hb : ax ∉ bad) : Src prog w A (.ref ax) target n (fun i v => its[i]? = some v) bad s := ⟨_, hn ▸ SrcO.tuple hh hl hb⟩
theorem src_list {prog : Program} {w : World} {A : Around} {s : Shared} {ax : Addr} {its : Array Value} {target : Expr} {bad : List Addr} {n : Nat} (hh : A.handled = none) (hl : s.heap.IsList ax its) (hn : its.size = n) (hb : ax ∉ bad) : Src prog w A (.ref ax) target n (fun i v => its[i]? = some v) bad s := ⟨_, hn ▸ SrcO.list hh hl hb⟩
theorem src_range {prog : Program} {w : World} {A : Around} {s : Shared} {r : Addr} {a b : Int} {t u v : Tok} {n : Nat} {target : Expr} {bad : List Addr} (hh : A.handled = none) (hr : IsRange s.heap r a b 1 t u v) (hsm : Builtin.Range.small a b 1 = true) (hn : Builtin.Range.rangeSize a b 1 = ((n : Nat) : Int)) :
    Src prog w A (.ref r) target n (fun i v => ∃ t, v = .int (a + (i : Int)) t) bad s := ⟨_, SrcO.range hh hr hsm hn⟩
theorem isTup_of {h : Heap} {a : Addr} {items : Array Value} {n : Nat} (e : h.get? a = some { cls := .type "tuple", data := .seq items n }) : IsTup h a items := ⟨_, e, rfl, _, rfl⟩
theorem item_at {prog : Program} {w : World} {A : Around} {s : Shared} {value slice : PySem.Expr} {l : Addr} {vs : Array Value} {k : Int} {u : Tok} {v : Value} {Q : Value → Shared → Prop}
    (hl : s.heap.IsList l vs) (h0 : 0 ≤ k) (hhi : k < 2 ^ 63) (hx : vs[k.toNat]? = some v) (h : Q v s)
    (hs : subscripted slice false (.ref l) (.int k u) = operate [.ref l, .int k u] (getItem (.ref l) (.int k u)) := by with_unfolding_all rfl) :
    wpAny (model prog w) A (subscriptTail value slice (.ref l) (.int k u)) Q E s :=
  tail_any hl.typeIs slot_list_getitem.lookup (wpAny_getItem_list hl h0 hhi hx h) hs
theorem notin_one {a b : Nat} {o : Obj} (h : a ≠ b) : a ∉ List.map (fun x : Addr × Obj => x.1) [((b, o) : Addr × Obj)] := by simpa using h
theorem notin_nil {a : Nat} : a ∉ List.map (fun x : Addr × Obj => x.1) ([] : List (Addr × Obj)) := by simp
end
end
noncomputable section
open PySem PySem.W PySem.Spec PySem.Calls PyProof.Rows PyProof.Rows.LCg
theorem kw_33 : True := by
  k_with_none
  k_with "rm" => first | exact room_lt (by assumption) rfl | exact room_lt1 (by assumption) | lia
  k_with "W" => (repeat' (first | ((with_reducible show wpAny _ _ _ _ _ _); walk1) | ((with_reducible show ite _ _ _); walk1)))
  trivial
theorem kw_32 : True := by
  k_with "storeName" => (k_here; (with_reducible show wpAny _ _ (storeName (compEnvC _ _ _ _) _ _) _ _ _); k_dflt (refine st_comp (by k_asm) (by k_asm) ?_; k_whole); intro _ _ _)
  k_with "eval Name" => (k_here; (with_reducible show wpAny _ _ (eval (Expr.Name _ _) (compEnvC _ _ _ _)) _ _ _); k_dflt (refine ld_comp (by k_asm) (by exact rfl) ?_; k_whole))
  trivial
noncomputable def wideK (n : Int) : Nat := if n < 64 then 0 else if n < 16384 then 1 else 2
noncomputable def WJ (n : Int) (i : Nat) (ys : List Value) : Prop := i ≤ 4 ∧ ys.length ≤ i ∧ (i ≤ wideK n → ys = []) ∧ (wideK n < i → ∃ t r, ys = .int (wide n) t :: r)
theorem WJ.yes {n : Int} {i : Nat} {ys : List Value} {v : Value} (h : WJ n i ys) (hi : i < 4) (hle : wideK n ≤ i) (hv : wideK n = i → ∃ t, v = .int (wide n) t) : WJ n (i + 1) (ys ++ [v]) := by
  obtain ⟨h1, h2, h3, h4⟩ := h
  refine ⟨hi, by simp; lia, fun q => by lia, fun _ => ?_⟩
  by_cases e : wideK n = i
  · obtain ⟨t, rfl⟩ := hv e
    rw [h3 (by lia)]; exact ⟨t, [], rfl⟩
  · obtain ⟨t, r, rfl⟩ := h4 (by lia)
    exact ⟨t, r ++ [v], rfl⟩
theorem WJ.no {n : Int} {i : Nat} {ys : List Value} (h : WJ n i ys) (hi : i < 4) (hlt : i < wideK n) : WJ n (i + 1) ys := by
  obtain ⟨h1, h2, h3, h4⟩ := h
  exact ⟨hi, by lia, fun q => h3 (by lia), fun q => by lia⟩
theorem WJ.skip {n : Int} {i : Nat} {ys : List Value} (h : WJ n i ys) (hi : i < 4) (hlt : wideK n < i) : WJ n (i + 1) ys := by
  obtain ⟨h1, h2, h3, h4⟩ := h
  exact ⟨hi, by lia, fun q => by lia, fun _ => h4 hlt⟩
theorem wk0 {n : Int} (h : n < 64) : wideK n = 0 := if_pos h
theorem wk1 {n : Int} (h : n < 16384) : wideK n ≤ 1 := by
  unfold wideK; rw [if_pos h]; split <;> decide
theorem wk2 (n : Int) : wideK n ≤ 2 := by
  unfold wideK; split
  · decide
  · split <;> decide
theorem wk1' {n : Int} (h : ¬n < 64) : 0 < wideK n := by
  unfold wideK; rw [if_neg h]; split <;> decide
theorem wk2' {n : Int} (h : ¬n < 16384) : wideK n = 2 := by
  unfold wideK; rw [if_neg h, if_neg fun q => h (Int.lt_trans q (by decide))]
theorem wv0 {n : Int} (h : wideK n = 0) : 1 = wide n := by
  unfold wideK at h; unfold wide
  by_cases h1 : n < 64
  · rw [if_pos h1]
  · rw [if_neg h1] at h; by_cases h2 : n < 16384
    · rw [if_pos h2] at h; cases h
    · rw [if_neg h2] at h; cases h
theorem wv1 {n : Int} (h : wideK n = 1) : 2 = wide n := by
  unfold wideK at h; unfold wide
  by_cases h1 : n < 64
  · rw [if_pos h1] at h; cases h
  · rw [if_neg h1] at h ⊢; by_cases h2 : n < 16384
    · rw [if_pos h2]
    · rw [if_neg h2] at h; cases h
theorem wv2 {n : Int} (h : wideK n = 2) : 4 = wide n := by
  unfold wideK at h; unfold wide
  by_cases h1 : n < 64
  · rw [if_pos h1] at h; cases h
  · rw [if_neg h1] at h ⊢; by_cases h2 : n < 16384
    · rw [if_pos h2] at h; cases h
    · rw [if_neg h2]
theorem wide_A {w : World} {dp un : Nat} {fr : Option (List Env)} {gd : Option (List Code)} {s : Shared} {p : Program} {loose : List Str} {mean : ExcName → Option Value} {mg mb : Str → Option Value} {E : Value → Shared → Prop} {Q : Value → Shared → Prop} {h₀ : Heap}
   (keep : ∀ b o, h₀.get? b = some o → s.heap.get? b = some o) (X : (mkK.heap_1 w.params).In h₀) (T : Top p loose mean mg mb h₀) (hd : dp + 20 < recursionLimit) (hu : un + 200 < cLine) {n : Int} {t : Tok} (hn : 0 ≤ n ∧ n < 1073741824)
   (hQ : ∀ tk h' tk', (∀ a o, s.heap.get? a = some o → h'.get? a = some o) → Q (.int (wide n) tk) { s with heap := h', toks := tk' }) :
   wpAny (model Challenge.pw_pf0272_01 w) (Ak dp un fr gd) (call (.ref 335) [.int n t]) Q E s := by
  have _h : Challenge.rw_pf0272_01 = Challenge.rw_pf0272_01 ∧ mkK.heap_1 = mkK.heap_1 := by
    k_fill
    exact ⟨rfl, rfl⟩
  clear _h
  have Ld : Led h₀ s.heap [] := fun _ h => nomatch h
  refine wpAny_call ?_
  refine code_defC_any h₀ [] [(Str.ofString "number", .int n t)] keep X T Ld (by k_is) (by k_is) (by (show dp < recursionLimit); k_extra "rm") (BindsTo.of_eq rfl) (by rfl) (by decide) ?_ rfl rfl rfl
  clear X T
  intro g L h tk0 cells X T kg kb F N CA hlt hgL
  (try (replace hlt := allLt_of hlt; simp only [AllLt, and_true] at hlt))
  dsimp only
  obtain ⟨oc, rfl, hoc⟩ := CellsAre.one CA
  replace hoc : oc.data = .cell (some (.int n t)) := hoc
  simp only [List.append_nil] at N
  clear CA
  refine wpAny_execs_cons ?_
  refine wpAny_Return_some ?_
  refine Subscript_ ?_
  refine ListComp_K (cl := [(Str.ofString "number", L + 1)]) ?_ ?_ ?_ ?_ ?_ ?_
  · with_unfolding_all rfl
  · decide
  · rfl
  · decide
  · k_extra "W"
    have e30 : (2 : Int) ^ Int.toNat 30 = 1073741824 := by decide +kernel
    rename Fr _ _ _ _ => F
    rename News _ _ _ _ => N
    rw [e30] at N
    generalize (2 : Int) ^ Int.toNat 62 = big at N
    have m1 := (N _ (.tail _ (.tail _ (.tail _ (.tail _ (.head _)))))).1
    have m2 := (N _ (.tail _ (.tail _ (.tail _ (.head _))))).1
    have m3 := (N _ (.tail _ (.tail _ (.head _)))).1
    have m4 := (N _ (.tail _ (.head _))).1
    have hw2 := wk2 n
    refine ⟨_, _, _, _, _, _, g, L, _, _, [(L + 1, oc)], [], 4, _, fun i ys news => news = [(L + 1, oc)] ∧ WJ n i ys, X, T, F, N, ?_, ?_, src_tup rfl ⟨_, (N _ (.head _)).1, rfl, _, rfl⟩ rfl ?_, ?_, ?_, ?_, ?_, ?_⟩
    · intro p hp; rw [List.mem_singleton.mp hp]; exact .tail _ (.tail _ (.tail _ (.tail _ (.tail _ (.head _)))))
    · intro p hp; cases hp
    · exact notin_one (by lia)
    · rw [sizeLine_eq]; lia
    · rintro i ys news ⟨rfl, h4, h5, -, -⟩
      rw [sizeLine_eq]; lia
    · exact ⟨rfl, by lia, Nat.le_refl _, fun _ => rfl, fun h => absurd h (Nat.not_lt_zero _)⟩
    · rintro g' C D I s₂ ⟨hh, rfl⟩ X' T' kg' hgC hall hID hDC i v ys mC news₁ o h tk hP hi ⟨rfl, hW⟩ hA F' N'
      clear X T
      have hi' : i = 0 ∨ i = 1 ∨ i = 2 ∨ i = 3 := by lia
      dsimp only at kg' hP
      rcases hi' with rfl | rfl | rfl | rfl
      · obtain rfl : _ = v := by simpa using hP
        have ht := isTup_of (kg' _ _ (notin_one (by lia)) m1)
        clear F N m1 m2 m3 m4
        k_extra "W"
        · exact ⟨_, _, _, _, rfl, by assumption, by assumption, hA, rfl, hW.yes (by first | decide | exact Nat.le_of_eq (wk0 (by assumption)) | exact wk1 (by assumption) | exact wk1' (by assumption) | exact Nat.le_of_eq (wk2' (by assumption)).symm | exact Nat.lt_of_lt_of_eq (by decide) (wk2' (by assumption)).symm | exact Nat.lt_succ_of_le hw2 | exact hw2 | exact wv0 (by assumption) | exact wv1 (by assumption) | exact wv2 (by assumption) | lia) (by first | decide | exact Nat.le_of_eq (wk0 (by assumption)) | exact wk1 (by assumption) | exact wk1' (by assumption) | exact Nat.le_of_eq (wk2' (by assumption)).symm | exact Nat.lt_of_lt_of_eq (by decide) (wk2' (by assumption)).symm | exact Nat.lt_succ_of_le hw2 | exact hw2 | exact wv0 (by assumption) | exact wv1 (by assumption) | exact wv2 (by assumption) | lia) (fun q => ⟨_, congrArg (Value.int · _) (by first | decide | exact Nat.le_of_eq (wk0 (by assumption)) | exact wk1 (by assumption) | exact wk1' (by assumption) | exact Nat.le_of_eq (wk2' (by assumption)).symm | exact Nat.lt_of_lt_of_eq (by decide) (wk2' (by assumption)).symm | exact Nat.lt_succ_of_le hw2 | exact hw2 | exact wv0 (by assumption) | exact wv1 (by assumption) | exact wv2 (by assumption) | lia)⟩)⟩
        · exact ⟨_, _, _, _, rfl, by assumption, by assumption, hA, rfl, hW.no (by first | decide | exact Nat.le_of_eq (wk0 (by assumption)) | exact wk1 (by assumption) | exact wk1' (by assumption) | exact Nat.le_of_eq (wk2' (by assumption)).symm | exact Nat.lt_of_lt_of_eq (by decide) (wk2' (by assumption)).symm | exact Nat.lt_succ_of_le hw2 | exact hw2 | exact wv0 (by assumption) | exact wv1 (by assumption) | exact wv2 (by assumption) | lia) (by first | decide | exact Nat.le_of_eq (wk0 (by assumption)) | exact wk1 (by assumption) | exact wk1' (by assumption) | exact Nat.le_of_eq (wk2' (by assumption)).symm | exact Nat.lt_of_lt_of_eq (by decide) (wk2' (by assumption)).symm | exact Nat.lt_succ_of_le hw2 | exact hw2 | exact wv0 (by assumption) | exact wv1 (by assumption) | exact wv2 (by assumption) | lia)⟩
      · obtain rfl : _ = v := by simpa using hP
        have ht := isTup_of (kg' _ _ (notin_one (by lia)) m2)
        clear F N m1 m2 m3 m4
        k_extra "W"
        · exact ⟨_, _, _, _, rfl, by assumption, by assumption, hA, rfl, hW.yes (by first | decide | exact Nat.le_of_eq (wk0 (by assumption)) | exact wk1 (by assumption) | exact wk1' (by assumption) | exact Nat.le_of_eq (wk2' (by assumption)).symm | exact Nat.lt_of_lt_of_eq (by decide) (wk2' (by assumption)).symm | exact Nat.lt_succ_of_le hw2 | exact hw2 | exact wv0 (by assumption) | exact wv1 (by assumption) | exact wv2 (by assumption) | lia) (by first | decide | exact Nat.le_of_eq (wk0 (by assumption)) | exact wk1 (by assumption) | exact wk1' (by assumption) | exact Nat.le_of_eq (wk2' (by assumption)).symm | exact Nat.lt_of_lt_of_eq (by decide) (wk2' (by assumption)).symm | exact Nat.lt_succ_of_le hw2 | exact hw2 | exact wv0 (by assumption) | exact wv1 (by assumption) | exact wv2 (by assumption) | lia) (fun q => ⟨_, congrArg (Value.int · _) (by first | decide | exact Nat.le_of_eq (wk0 (by assumption)) | exact wk1 (by assumption) | exact wk1' (by assumption) | exact Nat.le_of_eq (wk2' (by assumption)).symm | exact Nat.lt_of_lt_of_eq (by decide) (wk2' (by assumption)).symm | exact Nat.lt_succ_of_le hw2 | exact hw2 | exact wv0 (by assumption) | exact wv1 (by assumption) | exact wv2 (by assumption) | lia)⟩)⟩
        · exact ⟨_, _, _, _, rfl, by assumption, by assumption, hA, rfl, hW.no (by first | decide | exact Nat.le_of_eq (wk0 (by assumption)) | exact wk1 (by assumption) | exact wk1' (by assumption) | exact Nat.le_of_eq (wk2' (by assumption)).symm | exact Nat.lt_of_lt_of_eq (by decide) (wk2' (by assumption)).symm | exact Nat.lt_succ_of_le hw2 | exact hw2 | exact wv0 (by assumption) | exact wv1 (by assumption) | exact wv2 (by assumption) | lia) (by first | decide | exact Nat.le_of_eq (wk0 (by assumption)) | exact wk1 (by assumption) | exact wk1' (by assumption) | exact Nat.le_of_eq (wk2' (by assumption)).symm | exact Nat.lt_of_lt_of_eq (by decide) (wk2' (by assumption)).symm | exact Nat.lt_succ_of_le hw2 | exact hw2 | exact wv0 (by assumption) | exact wv1 (by assumption) | exact wv2 (by assumption) | lia)⟩
      · obtain rfl : _ = v := by simpa using hP
        have ht := isTup_of (kg' _ _ (notin_one (by lia)) m3)
        clear F N m1 m2 m3 m4
        k_extra "W"
        · exact ⟨_, _, _, _, rfl, by assumption, by assumption, hA, rfl, hW.yes (by first | decide | exact Nat.le_of_eq (wk0 (by assumption)) | exact wk1 (by assumption) | exact wk1' (by assumption) | exact Nat.le_of_eq (wk2' (by assumption)).symm | exact Nat.lt_of_lt_of_eq (by decide) (wk2' (by assumption)).symm | exact Nat.lt_succ_of_le hw2 | exact hw2 | exact wv0 (by assumption) | exact wv1 (by assumption) | exact wv2 (by assumption) | lia) (by first | decide | exact Nat.le_of_eq (wk0 (by assumption)) | exact wk1 (by assumption) | exact wk1' (by assumption) | exact Nat.le_of_eq (wk2' (by assumption)).symm | exact Nat.lt_of_lt_of_eq (by decide) (wk2' (by assumption)).symm | exact Nat.lt_succ_of_le hw2 | exact hw2 | exact wv0 (by assumption) | exact wv1 (by assumption) | exact wv2 (by assumption) | lia) (fun q => ⟨_, congrArg (Value.int · _) (by first | decide | exact Nat.le_of_eq (wk0 (by assumption)) | exact wk1 (by assumption) | exact wk1' (by assumption) | exact Nat.le_of_eq (wk2' (by assumption)).symm | exact Nat.lt_of_lt_of_eq (by decide) (wk2' (by assumption)).symm | exact Nat.lt_succ_of_le hw2 | exact hw2 | exact wv0 (by assumption) | exact wv1 (by assumption) | exact wv2 (by assumption) | lia)⟩)⟩
      · obtain rfl : _ = v := by simpa using hP
        have ht := isTup_of (kg' _ _ (notin_one (by lia)) m4)
        clear F N m1 m2 m3 m4
        k_extra "W"
        · exact ⟨_, _, _, _, rfl, by assumption, by assumption, hA, rfl, hW.yes (by first | decide | exact Nat.le_of_eq (wk0 (by assumption)) | exact wk1 (by assumption) | exact wk1' (by assumption) | exact Nat.le_of_eq (wk2' (by assumption)).symm | exact Nat.lt_of_lt_of_eq (by decide) (wk2' (by assumption)).symm | exact Nat.lt_succ_of_le hw2 | exact hw2 | exact wv0 (by assumption) | exact wv1 (by assumption) | exact wv2 (by assumption) | lia) (by first | decide | exact Nat.le_of_eq (wk0 (by assumption)) | exact wk1 (by assumption) | exact wk1' (by assumption) | exact Nat.le_of_eq (wk2' (by assumption)).symm | exact Nat.lt_of_lt_of_eq (by decide) (wk2' (by assumption)).symm | exact Nat.lt_succ_of_le hw2 | exact hw2 | exact wv0 (by assumption) | exact wv1 (by assumption) | exact wv2 (by assumption) | lia) (fun q => absurd (Nat.le_of_eq q.symm) (Nat.not_le_of_gt (Nat.lt_succ_of_le hw2)))⟩
        · exact ⟨_, _, _, _, rfl, by assumption, by assumption, hA, rfl, hW.skip (by first | decide | exact Nat.le_of_eq (wk0 (by assumption)) | exact wk1 (by assumption) | exact wk1' (by assumption) | exact Nat.le_of_eq (wk2' (by assumption)).symm | exact Nat.lt_of_lt_of_eq (by decide) (wk2' (by assumption)).symm | exact Nat.lt_succ_of_le hw2 | exact hw2 | exact wv0 (by assumption) | exact wv1 (by assumption) | exact wv2 (by assumption) | lia) (by first | decide | exact Nat.le_of_eq (wk0 (by assumption)) | exact wk1 (by assumption) | exact wk1' (by assumption) | exact Nat.le_of_eq (wk2' (by assumption)).symm | exact Nat.lt_of_lt_of_eq (by decide) (wk2' (by assumption)).symm | exact Nat.lt_succ_of_le hw2 | exact hw2 | exact wv0 (by assumption) | exact wv1 (by assumption) | exact wv2 (by assumption) | lia)⟩
    · rintro D h tk ys news ⟨rfl, hW⟩ hA F' N' hall
      obtain ⟨t', r, rfl⟩ := hW.2.2.2 (Nat.lt_of_le_of_lt hw2 (by decide))
      clear F N m1 m2 m3 m4
      show wpAny _ _ _ _ _ _
      k_extra "W"
      exact hQ _ _ _ fun a o e => F'.keep a o (kg a o (by simp) e)
  · intro _; rfl
end
noncomputable section
open PyProof.Rows.LCg
variable {w : World} {dp un : Nat} {fr : Option (List Env)} {gd : Option (List Code)} {s : Shared} {p : Program} {loose : List Str} {mean : ExcName → Option Value} {mg mb : Str → Option Value} {E : Value → Shared → Prop} {Q : Value → Shared → Prop}
theorem kw_35 : True := by
  k_with_none
  k_with "rm" => first | exact room_lt (by assumption) rfl | exact room_lt1 (by assumption) | lia
  k_with "fl" => ((have _h : Challenge.rw_pf0272_01 = Challenge.rw_pf0272_01 ∧ mkK.heap_1 = mkK.heap_1 := by (k_fill; exact ⟨rfl, rfl⟩)); clear _h)
  k_with "WW" => (repeat' (first | ((with_reducible show wpAny _ _ _ _ _ _); (fail_if_success (with_reducible show wpAny _ _ (eval (Expr.ListComp _ _ _ _) _) _ _ _)); (fail_if_success (with_reducible show wpAny _ _ (pyIter _) _ _ _)); (fail_if_success (with_reducible show wpAny _ _ (exec (Stmt.Assign [Expr.Name _ _] (Expr.ListComp _ _ _ _) _) _) _ _ _)); walk1) | ((with_reducible show ite _ _ _); walk1) | ((with_reducible show (Frag.In _ _ ∧ wpAny _ _ _ _ _ _)); refine And.intro (Frag.In.keeps (by assumption) (Fr.keep (by assumption))) ?_) | ((with_reducible show (Heap.get? _ _ = some _ ∧ wpAny _ _ _ _ _ _)); refine And.intro (News.get (by assumption) (by k_mem)) ?_) | ((fail_if_success (with_reducible show wpAny _ _ _ _ _ _)); dsimp only)))
  trivial
theorem kw_34 : True := by
  k_with "storeName" => (k_here; (with_reducible show wpAny _ _ (storeName (compEnvC _ _ _ _) _ _) _ _ _); k_dflt (refine st_comp (by k_asm) (by k_asm) ?_; k_whole); intro _ _ _)
  k_with "eval Name" => (k_here; (with_reducible show wpAny _ _ (eval (Expr.Name _ _) (compEnvC _ _ _ _)) _ _ _); k_dflt (refine ld_comp (by k_asm) (by exact rfl) ?_; k_whole))
  k_with "subscriptTail Name Slice ref ref" => (k_here; (with_reducible show wpAny _ _ (subscriptTail _ _ (Value.ref _) (Value.ref _)) _ _ _); (with_unfolding_all refine slice_tuple_from (a := 1) (by assumption) (by assumption) (Fr.tup (by assumption) (by assumption)) (by decide) (by simp) ?_); intro _ _ _)
  k_with "call ref" => (k_here; (with_reducible show wpAny _ _ (call (Value.ref 335) [Value.int _ _]) _ _ _); (rename Fr _ _ _ _ => F); (rename News _ _ _ _ => N); (refine wide_A F.keep X T (by (show dp + 1 + 20 < recursionLimit); k_extra "rm") (by (show un + 3 + 200 < cLine); k_extra "rm") (by lia) fun tkw hw tkw2 kw => ?_); (have Fw := fr_keep F kw); (have Nw := news_keep N kw); clear kw F N)
  trivial
theorem size_resp_A {h₀ : Heap}
   (keep : ∀ b o, h₀.get? b = some o → s.heap.get? b = some o) (X : (mkK.heap_1 w.params).In h₀) (T : Top p loose mean mg mb h₀) (hd : dp + 40 < recursionLimit) (hu : un + 300 < cLine) {a : Addr} {t1 t2 : Tok} {b : Array UInt8} (hs : b.size = 8)
   (ht : IsTup s.heap a #[.str (Str.ofString "path_response") t1, .bytes b t2])
   (hQ : ∀ tk h' tk', (∀ a o, s.heap.get? a = some o → h'.get? a = some o) → Q (.int (1 + b.size) tk) { s with heap := h', toks := tk' }) :
   wpAny (model Challenge.pw_pf0272_01 w) (Ak dp un fr gd) (call (.ref 340) [.ref a]) Q E s := by
  k_extra "fl"
  have Ld : Led h₀ s.heap [] := fun _ h => nomatch h
  refine wpAny_call ?_
  refine code_defM_any h₀ [] [(Str.ofString "frame", .ref a)] keep X T Ld (by k_is) (by k_is) (by (show dp < recursionLimit); k_extra "rm") (BindsTo.of_eq rfl) (locs rfl) ?_ rfl rfl rfl (by decide)
  clear X T
  intro g L h X T kg kb F N hlt hgL
  dsimp only
  replace ht := isTup_keeps ht fun b o e => kg b o (by simp) e
  k_extra "WW"
  rw [show (1 : Int) + b.size = 9 by lia] at hQ
  rename Fr _ _ _ _ => F
  exact hQ _ _ _ fun b o e => F.keep b o (kg b o (by simp) e)
theorem size_chal_A {h₀ : Heap}
   (keep : ∀ b o, h₀.get? b = some o → s.heap.get? b = some o) (X : (mkK.heap_1 w.params).In h₀) (T : Top p loose mean mg mb h₀) (hd : dp + 40 < recursionLimit) (hu : un + 300 < cLine) {a : Addr} {t1 t2 : Tok} {b : Array UInt8} (hs : b.size = 8)
   (ht : IsTup s.heap a #[.str (Str.ofString "path_challenge") t1, .bytes b t2])
   (hQ : ∀ tk h' tk', (∀ a o, s.heap.get? a = some o → h'.get? a = some o) → Q (.int (1 + b.size) tk) { s with heap := h', toks := tk' }) :
   wpAny (model Challenge.pw_pf0272_01 w) (Ak dp un fr gd) (call (.ref 340) [.ref a]) Q E s := by
  k_extra "fl"
  have Ld : Led h₀ s.heap [] := fun _ h => nomatch h
  refine wpAny_call ?_
  refine code_defM_any h₀ [] [(Str.ofString "frame", .ref a)] keep X T Ld (by k_is) (by k_is) (by (show dp < recursionLimit); k_extra "rm") (BindsTo.of_eq rfl) (locs rfl) ?_ rfl rfl rfl (by decide)
  clear X T
  intro g L h X T kg kb F N hlt hgL
  dsimp only
  replace ht := isTup_keeps ht fun b o e => kg b o (by simp) e
  k_extra "WW"
  rw [show (1 : Int) + b.size = 9 by lia] at hQ
  rename Fr _ _ _ _ => F
  exact hQ _ _ _ fun b o e => F.keep b o (kg b o (by simp) e)
theorem size_tok_A {h₀ : Heap}
   (keep : ∀ b o, h₀.get? b = some o → s.heap.get? b = some o) (X : (mkK.heap_1 w.params).In h₀) (T : Top p loose mean mg mb h₀) (hd : dp + 40 < recursionLimit) (hu : un + 300 < cLine) {a : Addr} {t1 t2 : Tok} {b : Array UInt8} (hs : b.size ≤ 60)
   (ht : IsTup s.heap a #[.str (Str.ofString "new_token") t1, .bytes b t2])
   (hQ : ∀ tk h' tk', (∀ a o, s.heap.get? a = some o → h'.get? a = some o) → Q (.int (1 + wide b.size + b.size) tk) { s with heap := h', toks := tk' }) :
   wpAny (model Challenge.pw_pf0272_01 w) (Ak dp un fr gd) (call (.ref 340) [.ref a]) Q E s := by
  k_extra "fl"
  have Ld : Led h₀ s.heap [] := fun _ h => nomatch h
  refine wpAny_call ?_
  refine code_defM_any h₀ [] [(Str.ofString "frame", .ref a)] keep X T Ld (by k_is) (by k_is) (by (show dp < recursionLimit); k_extra "rm") (BindsTo.of_eq rfl) (locs rfl) ?_ rfl rfl rfl (by decide)
  clear X T
  intro g L h X T kg kb F N hlt hgL
  dsimp only
  replace ht := isTup_keeps ht fun b o e => kg b o (by simp) e
  have hwb := wide_le b.size
  k_extra "WW"
  rename Fr _ _ _ _ => F
  exact hQ _ _ _ fun b o e => F.keep b o (kg b o (by simp) e)
theorem size_strm_A {h₀ : Heap}
   (keep : ∀ b o, h₀.get? b = some o → s.heap.get? b = some o) (X : (mkK.heap_1 w.params).In h₀) (T : Top p loose mean mg mb h₀) (hd : dp + 40 < recursionLimit) (hu : un + 300 < cLine) {a : Addr} {t1 t2 t3 t4 : Tok} {num off : Int} {b : Array UInt8} (h0 : 0 ≤ num) (h1 : num < 1073741824) (h2 : 0 ≤ off) (h3 : off < 1073741824) (hs : b.size ≤ 60)
   (ht : IsTup s.heap a #[.str (Str.ofString "stream") t1, .int num t2, .int off t3, .bytes b t4, .bool false])
   (hQ : ∀ tk h' tk', (∀ a o, s.heap.get? a = some o → h'.get? a = some o) → Q (.int (1 + wide num + (if off > 0 then wide off else 0) + 1 + b.size) tk) { s with heap := h', toks := tk' }) :
   wpAny (model Challenge.pw_pf0272_01 w) (Ak dp un fr gd) (call (.ref 340) [.ref a]) Q E s := by
  k_extra "fl"
  have Ld : Led h₀ s.heap [] := fun _ h => nomatch h
  refine wpAny_call ?_
  refine code_defM_any h₀ [] [(Str.ofString "frame", .ref a)] keep X T Ld (by k_is) (by k_is) (by (show dp < recursionLimit); k_extra "rm") (BindsTo.of_eq rfl) (locs rfl) ?_ rfl rfl rfl (by decide)
  clear X T
  intro g L h X T kg kb F N hlt hgL
  dsimp only
  replace ht := isTup_keeps ht fun b o e => kg b o (by simp) e
  have hwb := wide_le num
  have hwo := wide_le off
  k_extra "WW"
  all_goals (rename Fr _ _ _ _ => F)
  · rw [if_pos (by lia)] at hQ
    exact hQ _ _ _ fun b o e => F.keep b o (kg b o (by simp) e)
  · rw [if_neg (by lia)] at hQ
    exact hQ _ _ _ fun b o e => F.keep b o (kg b o (by simp) e)
theorem size_nums_A {h₀ : Heap}
   (keep : ∀ b o, h₀.get? b = some o → s.heap.get? b = some o) (X : (mkK.heap_1 w.params).In h₀) (T : Top p loose mean mg mb h₀) (hd : dp + 40 < recursionLimit) (hu : un + 300 < cLine) {a : Addr} {k : Str} {t1 t2 : Tok} {n : Int} (h0 : 0 ≤ n) (h1 : n < 1073741824) (hk : k = Str.ofString "max_data" ∨ k = Str.ofString "retire_connection_id")
   (ht : IsTup s.heap a #[.str k t1, .int n t2])
   (hQ : ∀ tk h' tk', (∀ a o, s.heap.get? a = some o → h'.get? a = some o) → Q (.int (1 + wide n) tk) { s with heap := h', toks := tk' }) :
   wpAny (model Challenge.pw_pf0272_01 w) (Ak dp un fr gd) (call (.ref 340) [.ref a]) Q E s := by
  k_extra "fl"
  have Ld : Led h₀ s.heap [] := fun _ h => nomatch h
  refine wpAny_call ?_
  refine code_defM_any h₀ [] [(Str.ofString "frame", .ref a)] keep X T Ld (by k_is) (by k_is) (by (show dp < recursionLimit); k_extra "rm") (BindsTo.of_eq rfl) (locs rfl) ?_ rfl rfl rfl (by decide)
  clear X T
  intro g L h X T kg kb F N hlt hgL
  dsimp only
  replace ht := isTup_keeps ht fun b o e => kg b o (by simp) e
  have hwb := wide_le n
  rcases hk with rfl | rfl
  · k_extra "WW"
    refine ListComp_K (cl := []) (by with_unfolding_all rfl) (by decide) (by rfl) (by decide) ?_ (by intro _; rfl)
    k_extra "WW"
    rename Fr _ _ _ _ => F
    rename News _ _ _ _ => N
    refine ⟨_, _, _, _, _, _, g, L, _, _, [], [], 1, _, fun i ys news => news = [] ∧ (i = 0 → ys = []) ∧ (1 ≤ i → ∃ t, ys = [.int (wide n) t]), X, T, F, N, (fun p hp => nomatch hp), (fun p hp => nomatch hp), src_tup rfl ⟨_, (N _ (.head _)).1, rfl, _, rfl⟩ rfl notin_nil, ?_, ?_, ?_, ?_, ?_⟩
    · rw [sizeLine_eq]; lia
    · rintro i ys news ⟨rfl, h1, h2⟩
      by_cases q : i = 0
      · rw [h1 q, sizeLine_eq]; decide
      · obtain ⟨t, rfl⟩ := h2 (by lia)
        rw [sizeLine_eq]; simp
    · exact ⟨rfl, fun _ => rfl, fun q => by lia⟩
    · rintro g' C D I s₂ ⟨hh, rfl⟩ X' T' kg' hgC hall hID hDC i v ys mC news₁ o h tk hP hi
      rintro ⟨rfl, hJ, -⟩ hA F1 N1
      obtain rfl : i = 0 := by lia
      obtain rfl := hJ rfl
      obtain rfl : _ = v := by simpa using hP
      clear F N X T
      rename Frag.In _ _ => X
      rename Top _ _ _ _ _ _ => T
      k_extra "WW"
      rename Fr _ _ _ _ => F
      rename News _ _ _ _ => N
      exact ⟨_, _, _, _, rfl, F, N, hA, rfl, fun q => by lia, fun _ => ⟨_, rfl⟩⟩
    · rintro D h tk ys news ⟨rfl, -, hJ⟩ hA F1 N1 hall
      obtain ⟨t, rfl⟩ := hJ (by lia)
      clear F N
      show wpAny _ _ _ _ _ _
      k_extra "WW"
      rename Fr _ _ _ _ => F
      simp only [Int.add_zero]
      exact hQ _ _ _ fun b o e => F.keep b o (kg b o (by simp) e)
  · k_extra "WW"
    refine ListComp_K (cl := []) (by with_unfolding_all rfl) (by decide) (by rfl) (by decide) ?_ (by intro _; rfl)
    k_extra "WW"
    rename Fr _ _ _ _ => F
    rename News _ _ _ _ => N
    refine ⟨_, _, _, _, _, _, g, L, _, _, [], [], 1, _, fun i ys news => news = [] ∧ (i = 0 → ys = []) ∧ (1 ≤ i → ∃ t, ys = [.int (wide n) t]), X, T, F, N, (fun p hp => nomatch hp), (fun p hp => nomatch hp), src_tup rfl ⟨_, (N _ (.head _)).1, rfl, _, rfl⟩ rfl notin_nil, ?_, ?_, ?_, ?_, ?_⟩
    · rw [sizeLine_eq]; lia
    · rintro i ys news ⟨rfl, h1, h2⟩
      by_cases q : i = 0
      · rw [h1 q, sizeLine_eq]; decide
      · obtain ⟨t, rfl⟩ := h2 (by lia)
        rw [sizeLine_eq]; simp
    · exact ⟨rfl, fun _ => rfl, fun q => by lia⟩
    · rintro g' C D I s₂ ⟨hh, rfl⟩ X' T' kg' hgC hall hID hDC i v ys mC news₁ o h tk hP hi
      rintro ⟨rfl, hJ, -⟩ hA F1 N1
      obtain rfl : i = 0 := by lia
      obtain rfl := hJ rfl
      obtain rfl : _ = v := by simpa using hP
      clear F N X T
      rename Frag.In _ _ => X
      rename Top _ _ _ _ _ _ => T
      k_extra "WW"
      rename Fr _ _ _ _ => F
      rename News _ _ _ _ => N
      exact ⟨_, _, _, _, rfl, F, N, hA, rfl, fun q => by lia, fun _ => ⟨_, rfl⟩⟩
    · rintro D h tk ys news ⟨rfl, -, hJ⟩ hA F1 N1 hall
      obtain ⟨t, rfl⟩ := hJ (by lia)
      clear F N
      show wpAny _ _ _ _ _ _
      k_extra "WW"
      rename Fr _ _ _ _ => F
      simp only [Int.add_zero]
      exact hQ _ _ _ fun b o e => F.keep b o (kg b o (by simp) e)
theorem size_none_A {h₀ : Heap}
   (keep : ∀ b o, h₀.get? b = some o → s.heap.get? b = some o) (X : (mkK.heap_1 w.params).In h₀) (T : Top p loose mean mg mb h₀) (hd : dp + 40 < recursionLimit) (hu : un + 300 < cLine) {a : Addr} {k : Str} {t1 : Tok} (hk : k = Str.ofString "handshake_done" ∨ k = Str.ofString "ping")
   (ht : IsTup s.heap a #[.str k t1])
   (hQ : ∀ tk h' tk', (∀ a o, s.heap.get? a = some o → h'.get? a = some o) → Q (.int 1 tk) { s with heap := h', toks := tk' }) :
   wpAny (model Challenge.pw_pf0272_01 w) (Ak dp un fr gd) (call (.ref 340) [.ref a]) Q E s := by
  k_extra "fl"
  have Ld : Led h₀ s.heap [] := fun _ h => nomatch h
  refine wpAny_call ?_
  refine code_defM_any h₀ [] [(Str.ofString "frame", .ref a)] keep X T Ld (by k_is) (by k_is) (by (show dp < recursionLimit); k_extra "rm") (BindsTo.of_eq rfl) (locs rfl) ?_ rfl rfl rfl (by decide)
  clear X T
  intro g L h X T kg kb F N hlt hgL
  dsimp only
  replace ht := isTup_keeps ht fun b o e => kg b o (by simp) e
  rcases hk with rfl | rfl
  · k_extra "WW"
    refine ListComp_K (cl := []) (by with_unfolding_all rfl) (by decide) (by rfl) (by decide) ?_ (by intro _; rfl)
    k_extra "WW"
    rename Fr _ _ _ _ => F
    rename News _ _ _ _ => N
    refine ⟨_, _, _, _, _, _, g, L, _, _, [], [], 0, _, fun i ys news => news = [] ∧ ys = [], X, T, F, N, (fun p hp => nomatch hp), (fun p hp => nomatch hp), src_tup rfl ⟨_, (N _ (.head _)).1, rfl, _, rfl⟩ rfl notin_nil, ?_, ?_, ?_, ?_, ?_⟩
    · rw [sizeLine_eq]; lia
    · rintro i ys news ⟨rfl, rfl⟩
      rw [sizeLine_eq]; simp
    · exact ⟨rfl, rfl⟩
    · rintro g' C D I s₂ ⟨hh, rfl⟩ X' T' kg' hgC hall hID hDC i v ys mC news₁ o h tk hP hi
      exact absurd hi (by lia)
    · rintro D h tk ys news ⟨rfl, rfl⟩ hA F1 N1 hall
      clear F N
      show wpAny _ _ _ _ _ _
      k_extra "WW"
      rename Fr _ _ _ _ => F
      simp only [Int.add_zero]
      exact hQ _ _ _ fun b o e => F.keep b o (kg b o (by simp) e)
  · k_extra "WW"
    refine ListComp_K (cl := []) (by with_unfolding_all rfl) (by decide) (by rfl) (by decide) ?_ (by intro _; rfl)
    k_extra "WW"
    rename Fr _ _ _ _ => F
    rename News _ _ _ _ => N
    refine ⟨_, _, _, _, _, _, g, L, _, _, [], [], 0, _, fun i ys news => news = [] ∧ ys = [], X, T, F, N, (fun p hp => nomatch hp), (fun p hp => nomatch hp), src_tup rfl ⟨_, (N _ (.head _)).1, rfl, _, rfl⟩ rfl notin_nil, ?_, ?_, ?_, ?_, ?_⟩
    · rw [sizeLine_eq]; lia
    · rintro i ys news ⟨rfl, rfl⟩
      rw [sizeLine_eq]; simp
    · exact ⟨rfl, rfl⟩
    · rintro g' C D I s₂ ⟨hh, rfl⟩ X' T' kg' hgC hall hID hDC i v ys mC news₁ o h tk hP hi
      exact absurd hi (by lia)
    · rintro D h tk ys news ⟨rfl, rfl⟩ hA F1 N1 hall
      clear F N
      show wpAny _ _ _ _ _ _
      k_extra "WW"
      rename Fr _ _ _ _ => F
      simp only [Int.add_zero]
      exact hQ _ _ _ fun b o e => F.keep b o (kg b o (by simp) e)
theorem size_A {h₀ : Heap}
   (keep : ∀ b o, h₀.get? b = some o → s.heap.get? b = some o) (X : (mkK.heap_1 w.params).In h₀) (T : Top p loose mean mg mb h₀) (hd : dp + 40 < recursionLimit) (hu : un + 300 < cLine) {a : Addr} {d : Fd} (hok : d.ok) (ht : FrAt s.heap a d)
   (hQ : ∀ tk h' tk', (∀ a o, s.heap.get? a = some o → h'.get? a = some o) → Q (.int d.sz tk) { s with heap := h', toks := tk' }) :
   wpAny (model Challenge.pw_pf0272_01 w) (Ak dp un fr gd) (call (.ref 340) [.ref a]) Q E s := by
  cases d with
  | hs => obtain ⟨t, ht⟩ := ht; exact size_none_A keep X T hd hu (.inl rfl) ht hQ
  | ping => obtain ⟨t, ht⟩ := ht; exact size_none_A keep X T hd hu (.inr rfl) ht hQ
  | ret n => obtain ⟨t, u, ht⟩ := ht; exact size_nums_A keep X T hd hu hok.1 hok.2 (.inr rfl) ht hQ
  | maxd n => obtain ⟨t, u, ht⟩ := ht; exact size_nums_A keep X T hd hu hok.1 hok.2 (.inl rfl) ht hQ
  | tok b => obtain ⟨t, u, ht⟩ := ht; exact size_tok_A keep X T hd hu hok ht hQ
  | resp b => obtain ⟨t, u, ht⟩ := ht; exact size_resp_A keep X T hd hu hok ht hQ
  | chal b => obtain ⟨t, u, ht⟩ := ht; exact size_chal_A keep X T hd hu hok ht hQ
  | strm n o b => obtain ⟨t, u, v, x, ht⟩ := ht; exact size_strm_A keep X T hd hu hok.1 hok.2.1 hok.2.2.1 hok.2.2.2.1 hok.2.2.2.2 ht hQ
end
noncomputable section
open PyProof.Rows.LCg
section
variable {h₀ h h' : Heap} {L d : Addr} {m : Str → Option Value} {o o' : Obj} {news news' : List (Addr × Obj)}
theorem kw_36 : True := by
  k_with_none
  k_with "g1" => refine by_goal fun zG zh => ?_
  k_with "g2" => (refine zh ?_; clear zh zG)
  trivial
theorem upd_mem (U : Upd d o o' news news') : (d, o) ∈ news := by
  induction U with
  | head _ => exact .head _
  | tail _ _ ih => exact .tail _ ih
theorem upd_or (U : Upd d o o' news news') : ∀ p ∈ news', p = (d, o') ∨ (p ∈ news ∧ p.1 ≠ d) := by
  induction U with
  | head hr =>
    intro p hp
    rcases List.mem_cons.mp hp with rfl | hp
    · exact .inl rfl
    · exact .inr ⟨.tail _ hp, hr p hp⟩
  | tail hne _ ih =>
    intro p hp
    rcases List.mem_cons.mp hp with rfl | hp
    · exact .inr ⟨.head _, hne⟩
    · exact (ih p hp).imp id fun q => ⟨.tail _ q.1, q.2⟩
theorem fr_upd (F : Fr h₀ L h m) (N : News h₀ L h news) (hm : (d, o) ∈ news) (k : ∀ b ob, b ≠ d → h.get? b = some ob → h'.get? b = some ob) : Fr h₀ L h' m := by
  have hL : L ≠ d := fun q => (N _ hm).2.1 q.symm
  k_extra "g1"
  obtain ⟨oL, es, ep, hL1, r⟩ := F.ns
  k_extra "g2"
  exact ⟨⟨oL, es, ep, k _ _ hL hL1, r⟩, fun b ob e => k b ob (fun q => by rw [q, (N _ hm).2.2] at e; cases e) (F.keep b ob e), F.above⟩
theorem news_upd (N : News h₀ L h news) (k : ∀ b ob, b ≠ d → h.get? b = some ob → h'.get? b = some ob) (hd : h'.get? d = some o') (U : Upd d o o' news news') : News h₀ L h' news' := by
  intro p hp
  rcases upd_or U p hp with rfl | ⟨hp, hne⟩
  · exact ⟨hd, (N _ (upd_mem U)).2⟩
  · exact ⟨k _ _ hne (N p hp).1, (N p hp).2⟩
theorem led_one (N : News h₀ L h news) (hm : (d, o) ∈ news) : Led h₀ h [(d, o)] := fun p hp => by
  rw [List.mem_singleton.mp hp]; exact ⟨(N _ hm).1, (N _ hm).2.2⟩
theorem ne_base {a : Addr} {vs : Array Value} (N : News h₀ L h news) (hm : (d, o) ∈ news) (hl : h₀.IsList a vs) : @Ne Nat a d := by
  rintro rfl
  k_extra "g1"
  obtain ⟨_, e, _⟩ := hl
  k_extra "g2"
  rw [(N _ hm).2.2] at e; cases e
end
theorem take_U {w : World} {dp un : Nat} {fr : Option (List Env)} {gd : Option (List Code)} {s : Shared} {p : Program} {loose : List Str} {mean : ExcName → Option Value} {mg mb : Str → Option Value} {E : Value → Shared → Prop} {Q : Value → Shared → Prop} {h₀ : Heap}
   {L : Addr} {m : Str → Option Value} {news : List (Addr × Obj)} {bx bl : Addr} {k mm : Int} {t u : Tok} {n : Nat} {vs : List Value} {ns : List Int}
   (F : Fr h₀ L s.heap m) (N : News h₀ L s.heap news) (X : (mkK.heap_1 w.params).In h₀) (T : Top p loose mean mg mb h₀) (hbl : h₀.IsList bl vs.toArray) (hi : IntsAre vs ns) (hlen : vs.length ≤ 1048576) (hd : dp + 10 < recursionLimit) (hu : un + 100 < cLine)
   (hm : (bx, W.listOf #[.ref bl, .int k t] n) ∈ news) (hk : 0 ≤ k ∧ k ≤ 100000) (hmm : 0 < mm ∧ mm ≤ 100)
   (hQ : ∀ v tk h' tk' t' n', 0 ≤ v → v < mm → Fr h₀ L h' m → (∀ news', Upd bx (W.listOf #[.ref bl, .int k t] n) (W.listOf #[.ref bl, .int (k + 1) t'] n') news news' → News h₀ L h' news') → Q (.int v tk) { s with heap := h', toks := tk' }) :
   wpAny (model Challenge.pw_pf0272_01 w) (Ak dp un fr gd) (call (.ref 330) [.ref bx, .int mm u]) Q E s :=
  take_A F.keep X T hd hu (led_one N hm) (hbl.at (F.keep _)) (ne_base N hm hbl) hi hlen hk hmm fun v tk h' tk' t' n' h1 h2 h3 h4 =>
    hQ v tk h' tk' t' n' h1 h2 (fr_upd F N hm h3) fun news' U => news_upd N h3 h4 U
end
noncomputable section
theorem kw_37 : True := by
  k_with_none
  k_with "rm" => first | exact room_lt (by assumption) rfl | exact room_lt1 (by assumption) | lia
  k_with "g1" => refine by_goal fun zG zh => ?_
  k_with "g2" => (refine zh ?_; clear zh zG)
  k_with "fl" => ((have _h : Challenge.rw_pf0272_01 = Challenge.rw_pf0272_01 ∧ mkK.heap_1 = mkK.heap_1 := by (k_fill; exact ⟨rfl, rfl⟩)); clear _h)
  k_with "W" => (repeat' (first | ((with_reducible show wpAny _ _ _ _ _ _); walk1) | ((with_reducible show ite _ _ _); walk1)))
  trivial
theorem notIn_133 {w : World} {A : Around} {s : Shared} {E : Value → Shared → Prop} {Q : Value → Shared → Prop} {k : Str} {t : Tok} (X : (mkK.heap_1 w.params).In s.heap) (hu : A.units + 5 < cLine)
   (hk : (PyData.str k).canLay0 = true) (hn : ([PyData.str (Str.ofString "crypto"), PyData.str (Str.ofString "stream")].any fun y => PyData.eqv y (PyData.str k)) = false) (hQ : Q (.bool true) s) :
   wpAny (model Challenge.pw_pf0272_01 w) A (compareOp .NotIn (.str k t) (.ref 133)) Q E s := by
  k_extra "fl"
  refine PySem.SeqAt.notIn_tuple_reads (reads_tuple_at (X _ _ (by k_is)) rfl rfl (ReadsAll.cons (Reads.str _ _) (ReadsAll.cons (Reads.str _ _) ReadsAll.nil))) (Reads.str _ _) ?_ hk ?_ ?_
  · decide +kernel
  · simp only [PyData.depth, PyData.depthAll]; lia
  · rw [hn]; exact hQ
noncomputable def Fd.plain : Fd → Bool
  | .strm .. => false
  | _ => true
theorem cut_frame_N {w : World} {dp un : Nat} {fr : Option (List Env)} {gd : Option (List Code)} {s : Shared} {p : Program} {loose : List Str} {mean : ExcName → Option Value} {mg mb : Str → Option Value} {E : Value → Shared → Prop} {Q : Value → Shared → Prop}
   (X : (mkK.heap_1 w.params).In s.heap) (T : Top p loose mean mg mb s.heap) (hd : dp + 80 < recursionLimit) (hu : un + 700 < cLine) {a : Addr} {d : Fd} (hok : d.ok) (hpl : d.plain = true) (ht : FrAt s.heap a d) {room : Int} {t1 : Tok}
   (hQ : ∀ r h' tk', (∀ a o, s.heap.get? a = some o → h'.get? a = some o) → h'.get? r = some { cls := .type "tuple", data := .seq (if d.sz ≤ room then #[.ref a, .none] else #[.none, .ref a]) } → s.heap.get? r = none → Q (.ref r) { s with heap := h', toks := tk' }) :
   wpN (model Challenge.pw_pf0272_01 w) (Ak dp un fr gd) (call (.ref 161) [.ref a, .int room t1]) Q E s := by
  k_extra "fl"
  refine wpN_call ?_
  refine code_defN [(Str.ofString "frame", .ref a), (Str.ofString "room", .int room t1)] X T (by k_is) (by k_is) (by (show dp < recursionLimit); k_extra "rm") (BindsTo.of_eq rfl) (locs rfl) ?_ rfl rfl rfl (by decide)
  intro L h F N
  dsimp only
  refine wpN_execs_cons (wpN_If (wpN_isTrue_Compare1 (Call_N (wpN_of_any ?_))))
  k_extra "W"
  refine callWith_NK (K := mkK.heap_1 w.params) (by k_is) (args_cons_N (wpN_of_any ?_))
  k_extra "W"
  rename Fr _ _ _ _ => F
  rename News _ _ _ _ => N
  refine args_nil_N ⟨X.keeps F.keep, ?_⟩
  refine frame_size_N (X.keeps F.keep) (T.keeps F.keep) (by (show dp + 1 + 70 < recursionLimit); k_extra "rm") (by (show un + 3 + 600 < cLine); k_extra "rm") hok (ht.keeps F.keep) fun tk h2 tk2 k2 => ?_
  have F2 := fr_keep F k2
  have N2 := news_keep N k2
  clear F N
  refine wpN_of_any ?_
  k_extra "W"
  refine wpN_of_any ?_
  k_extra "W"
  refine wpN_of_any ?_
  k_extra "W"
  · refine wpN_of_any ?_
    k_extra "W"
    rename Fr _ _ _ _ => F
    rename News _ _ _ _ => N
    exact hQ _ _ _ F.keep (by rw [if_pos (by assumption)]; exact (N _ (.head _)).1) (N _ (.head _)).2.2
  · rename ¬ _ => hn
    refine wpN_of_any ?_
    refine wpAny_execs_nil ?_
    dsimp only
    cases d with
    | strm => cases hpl
    | hs =>
      obtain ⟨t, ht⟩ := ht
      refine wpN_execs_cons (wpN_of_any ?_)
      k_extra "W"
      refine notIn_133 (X.keeps (Fr.keep (by assumption))) (by (show un + 3 + 5 < cLine); k_extra "rm") (by decide +kernel) (by decide +kernel) ?_
      k_extra "W"
      rename Fr _ _ _ _ => F
      rename News _ _ _ _ => N
      exact hQ _ _ _ F.keep (by rw [if_neg (by assumption)]; exact (N _ (.head _)).1) (N _ (.head _)).2.2
    | ping =>
      obtain ⟨t, ht⟩ := ht
      refine wpN_execs_cons (wpN_of_any ?_)
      k_extra "W"
      refine notIn_133 (X.keeps (Fr.keep (by assumption))) (by (show un + 3 + 5 < cLine); k_extra "rm") (by decide +kernel) (by decide +kernel) ?_
      k_extra "W"
      rename Fr _ _ _ _ => F
      rename News _ _ _ _ => N
      exact hQ _ _ _ F.keep (by rw [if_neg (by assumption)]; exact (N _ (.head _)).1) (N _ (.head _)).2.2
    | ret =>
      k_extra "g1"
      obtain ⟨t, u, ht⟩ := ht
      k_extra "g2"
      refine wpN_execs_cons (wpN_of_any ?_)
      k_extra "W"
      refine notIn_133 (X.keeps (Fr.keep (by assumption))) (by (show un + 3 + 5 < cLine); k_extra "rm") (by decide +kernel) (by decide +kernel) ?_
      k_extra "W"
      rename Fr _ _ _ _ => F
      rename News _ _ _ _ => N
      exact hQ _ _ _ F.keep (by rw [if_neg (by assumption)]; exact (N _ (.head _)).1) (N _ (.head _)).2.2
    | maxd =>
      k_extra "g1"
      obtain ⟨t, u, ht⟩ := ht
      k_extra "g2"
      refine wpN_execs_cons (wpN_of_any ?_)
      k_extra "W"
      refine notIn_133 (X.keeps (Fr.keep (by assumption))) (by (show un + 3 + 5 < cLine); k_extra "rm") (by decide +kernel) (by decide +kernel) ?_
      k_extra "W"
      rename Fr _ _ _ _ => F
      rename News _ _ _ _ => N
      exact hQ _ _ _ F.keep (by rw [if_neg (by assumption)]; exact (N _ (.head _)).1) (N _ (.head _)).2.2
    | tok =>
      k_extra "g1"
      obtain ⟨t, u, ht⟩ := ht
      k_extra "g2"
      refine wpN_execs_cons (wpN_of_any ?_)
      k_extra "W"
      refine notIn_133 (X.keeps (Fr.keep (by assumption))) (by (show un + 3 + 5 < cLine); k_extra "rm") (by decide +kernel) (by decide +kernel) ?_
      k_extra "W"
      rename Fr _ _ _ _ => F
      rename News _ _ _ _ => N
      exact hQ _ _ _ F.keep (by rw [if_neg (by assumption)]; exact (N _ (.head _)).1) (N _ (.head _)).2.2
    | resp =>
      k_extra "g1"
      obtain ⟨t, u, ht⟩ := ht
      k_extra "g2"
      refine wpN_execs_cons (wpN_of_any ?_)
      k_extra "W"
      refine notIn_133 (X.keeps (Fr.keep (by assumption))) (by (show un + 3 + 5 < cLine); k_extra "rm") (by decide +kernel) (by decide +kernel) ?_
      k_extra "W"
      rename Fr _ _ _ _ => F
      rename News _ _ _ _ => N
      exact hQ _ _ _ F.keep (by rw [if_neg (by assumption)]; exact (N _ (.head _)).1) (N _ (.head _)).2.2
    | chal =>
      k_extra "g1"
      obtain ⟨t, u, ht⟩ := ht
      k_extra "g2"
      refine wpN_execs_cons (wpN_of_any ?_)
      k_extra "W"
      refine notIn_133 (X.keeps (Fr.keep (by assumption))) (by (show un + 3 + 5 < cLine); k_extra "rm") (by decide +kernel) (by decide +kernel) ?_
      k_extra "W"
      rename Fr _ _ _ _ => F
      rename News _ _ _ _ => N
      exact hQ _ _ _ F.keep (by rw [if_neg (by assumption)]; exact (N _ (.head _)).1) (N _ (.head _)).2.2
end
noncomputable section
theorem kw_40 : True := by
  k_with_none
  k_with "rm" => first | exact room_lt (by assumption) rfl | exact room_lt1 (by assumption) | lia
  k_with "g1" => refine by_goal fun zG zh => ?_
  k_with "g2" => (refine zh ?_; clear zh zG)
  k_with "W" => (repeat' (first | ((with_reducible show wpAny _ _ _ _ _ _); walk1) | ((with_reducible show ite _ _ _); walk1)))
  trivial
theorem kw_38 : True := by
  k_with "call builtin:list.append" => (k_here; (with_reducible show wpAny _ _ (call (Value.builtin _) [Value.ref _, _]) _ _ _); k_dflt (refine append_K (by k_asm) (by k_asm) (by k_upd) ?_ (by assumption); k_whole); intro _ _ _)
  trivial
noncomputable def fillStep (st : List Addr × List Addr × Int) (f : Addr × Fd) : List Addr × List Addr × Int :=
  if f.2.sz ≤ st.2.2 then (st.1 ++ [f.1], st.2.1, st.2.2 - f.2.sz) else (st.1, st.2.1 ++ [f.1], st.2.2)
noncomputable def fillAll (fs : List (Addr × Fd)) (room : Int) : List Addr × List Addr × Int := fs.foldl fillStep ([], [], room)
noncomputable def refs (l : List Addr) : Array Value := (l.map Value.ref).toArray
noncomputable def flMap (l : Addr) (r0 : Value) (ta la : Addr) (r : Value) (fr pt rs : Option Value) : Str → Option Value := fun y =>
  if y = Str.ofString "rest" then rs else if y = Str.ofString "part" then pt else if y = Str.ofString "frame" then fr else if y = Str.ofString "room" then some r else if y = Str.ofString "left" then some (.ref la) else if y = Str.ofString "taken" then some (.ref ta) else List.lookup y [(Str.ofString "frames", .ref l), (Str.ofString "room", r0)].reverse
theorem news_at {h₀ h h' : Heap} {L r : Addr} {m : Str → Option Value} {news : List (Addr × Obj)} {o : Obj} (F : Fr h₀ L h m) (N : News h₀ L h news) (k : ∀ b o, h.get? b = some o → h'.get? b = some o) (ho : h'.get? r = some o) (hr : h.get? r = none) : News h₀ L h' ((r, o) :: news) := by
  k_extra "g1"
  obtain ⟨oL, _, _, hL, _⟩ := F.ns
  k_extra "g2"
  intro p hp
  rcases List.mem_cons.mp hp with rfl | hp
  · refine ⟨ho, fun e => ?_, ?_⟩
    · dsimp only at e; rw [e, hL] at hr; cases hr
    cases hq : h₀.get? r with
    | none => rfl
    | some o' => rw [F.keep _ _ hq] at hr; cases hr
  · exact ⟨k _ _ (N p hp).1, (N p hp).2⟩
theorem news_ne {h₀ h : Heap} {L r a : Addr} {news : List (Addr × Obj)} {o : Obj} (N : News h₀ L h news) (hm : (a, o) ∈ news) (hr : h.get? r = none) : @Ne Nat r a := by
  rintro rfl
  rw [(N _ hm).1] at hr; cases hr
theorem refs_get {fs : List (Addr × Fd)} {i : Nat} {v : Value} (hv : (refs (fs.map (·.1)))[i]? = some v) : ∃ f, fs[i]? = some f ∧ f ∈ fs ∧ v = .ref f.1 := by
  unfold refs at hv
  simp only [List.getElem?_toArray, List.getElem?_map, Option.map_eq_some_iff] at hv
  k_extra "g1"
  obtain ⟨_, ⟨f, hf, rfl⟩, rfl⟩ := hv
  k_extra "g2"
  exact ⟨f, hf, List.mem_of_getElem? hf, rfl⟩
theorem refs_push (l : List Addr) (a : Addr) : (refs l).push (Value.ref a) = refs (l ++ [a]) := by simp [refs]
theorem fill_len (fs : List (Addr × Fd)) (st : List Addr × List Addr × Int) : (fs.foldl fillStep st).1.length + (fs.foldl fillStep st).2.1.length = st.1.length + st.2.1.length + fs.length := by
  induction fs generalizing st with
  | nil => simp
  | cons f fs ih =>
    rw [List.foldl_cons, ih]
    unfold fillStep
    split <;> simp <;> lia
theorem fill_next {fs : List (Addr × Fd)} {i : Nat} {f : Addr × Fd} {st : List Addr × List Addr × Int} (hf : fs[i]? = some f) : (fs.take (i + 1)).foldl fillStep st = fillStep ((fs.take i).foldl fillStep st) f := by
  rw [List.take_add_one, hf]; simp
theorem flMap_room {l ta la : Addr} {r0 r v : Value} {fr pt rs fr' pt' rs' : Option Value} : (fun y => if y = Str.ofString "room" then some v else if y = Str.ofString "rest" then rs' else if y = Str.ofString "part" then pt' else if y = Str.ofString "frame" then fr' else flMap l r0 ta la r fr pt rs y) = flMap l r0 ta la v fr' pt' rs' := by
  funext y
  by_cases e1 : y = Str.ofString "rest"
  · subst e1; rfl
  by_cases e2 : y = Str.ofString "part"
  · subst e2; rfl
  by_cases e3 : y = Str.ofString "frame"
  · subst e3; rfl
  by_cases e4 : y = Str.ofString "room"
  · subst e4; rfl
  simp only [flMap, if_neg e1, if_neg e2, if_neg e3, if_neg e4]
theorem flMap_no {l ta la : Addr} {r0 r : Value} {fr pt rs fr' pt' rs' : Option Value} : (fun y => if y = Str.ofString "rest" then rs' else if y = Str.ofString "part" then pt' else if y = Str.ofString "frame" then fr' else flMap l r0 ta la r fr pt rs y) = flMap l r0 ta la r fr' pt' rs' := by
  funext y
  by_cases e1 : y = Str.ofString "rest"
  · subst e1; rfl
  by_cases e2 : y = Str.ofString "part"
  · subst e2; rfl
  by_cases e3 : y = Str.ofString "frame"
  · subst e3; rfl
  by_cases e4 : y = Str.ofString "room"
  · subst e4; rfl
  simp only [flMap, if_neg e1, if_neg e2, if_neg e3, if_neg e4]
noncomputable section
theorem kw_39 : True := by
  k_with "cl1" => first | refine no_implicit_lambda% (eps8 0 (inferInstanceAs (Box 0 IdT _)) rfl rfl ?_) | refine no_implicit_lambda% (eps7 0 (inferInstanceAs (Box 0 IdT _)) rfl rfl ?_) | refine no_implicit_lambda% (eps6 0 (inferInstanceAs (Box 0 IdT _)) rfl rfl ?_) | refine no_implicit_lambda% (eps5 0 (inferInstanceAs (Box 0 IdT _)) rfl rfl ?_) | refine no_implicit_lambda% (eps4 0 (inferInstanceAs (Box 0 IdT _)) rfl rfl ?_) | refine no_implicit_lambda% (eps3 0 (inferInstanceAs (Box 0 IdT _)) rfl rfl ?_) | refine no_implicit_lambda% (eps2 0 (inferInstanceAs (Box 0 IdT _)) rfl rfl ?_) | refine no_implicit_lambda% (epsd 0 (inferInstanceAs (Box 0 IdT _)) rfl rfl ?_)
  k_with "cl" => (set_option tactic.hygienic false in ((repeat ((first | rename Heap => q9 | rename Addr => q9 | rename Nat => q9 | rename Obj => q9 | rename Value => q9 | rename Int => q9 | rename List _ => q9 | rename Str → Option Value => q9 | rename Bool => q9 | rename Option _ => q9 | rename Array _ => q9 | rename Str => q9 | rename _ × _ => q9 | rename Shared => q9 | rename Program => q9 | rename ExcName → Option Value => q9 | rename Value → Shared → Prop => q9); revert q9)); (repeat (first | k_extra "cl1" | (with_reducible intro _)))))
  trivial
namespace filled_N
noncomputable def St0 (w : World) (dp : Nat) (un : Nat) (fr : Option (List Env)) (gd : Option (List Code)) (s : Shared) (p : Program) (loose : List Str) (mean : ExcName → Option Value) (mg : Str → Option Value) (mb : Str → Option Value) (E : Value → Shared → Prop) (Q : Value → Shared → Prop) (l : Addr) (fs : List (Addr × Fd)) (room : Int) (t1 : Tok) : Prop := ∀ (X : (mkK.heap_1 w.params).In s.heap) (T : Top p loose mean mg mb s.heap) (hd : dp + 90 < recursionLimit) (hu : un + 800 < cLine) (hl : s.heap.IsList l (refs (fs.map (·.1)))) (hlen : fs.length ≤ 64) (hok : ∀ f ∈ fs, f.2.ok ∧ f.2.plain = true ∧ FrAt s.heap f.1 f.2) (hroom : -1000000 ≤ room ∧ room ≤ 1000000) (hQ : ∀ r ta la h' tk' n1 n2, (∀ a o, s.heap.get? a = some o → h'.get? a = some o) → h'.get? r = some { cls := .type "tuple", data := .seq #[.ref ta, .ref la] } → h'.get? ta = some (W.listOf (refs (fillAll fs room).1) n1) → h'.get? la = some (W.listOf (refs (fillAll fs room).2.1) n2) → s.heap.get? ta = none → s.heap.get? la = none → s.heap.get? r = none → @LT.lt Nat _ ta la → @LT.lt Nat _ la r → Q (.ref r) { s with heap := h', toks := tk' }),
   wpN (model Challenge.pw_pf0272_01 w) (Ak dp un fr gd) (call (.ref 168) [.ref l, .int room t1]) Q E s
noncomputable abbrev Ty0 : Type := (World) × (Nat) × (Nat) × (Option (List Env)) × (Option (List Code)) × (Shared) × (Program) × (List Str) × (ExcName → Option Value) × (Str → Option Value) × (Str → Option Value) × (Value → Shared → Prop) × (Value → Shared → Prop) × (Addr) × (List (Addr × Fd)) × (Int) × (Tok)
theorem ne0 : Nonempty Ty0 := ⟨Classical.choice neW, Classical.choice inferInstance, Classical.choice inferInstance, Classical.choice inferInstance, Classical.choice inferInstance, Classical.choice neS, Classical.choice inferInstance, Classical.choice inferInstance, Classical.choice inferInstance, Classical.choice inferInstance, Classical.choice inferInstance, Classical.choice inferInstance, Classical.choice inferInstance, Classical.choice inferInstance, Classical.choice inferInstance, Classical.choice inferInstance, Classical.choice inferInstance⟩
noncomputable def P0 (vv0 : Ty0) : Prop := St0 (vv0.1) (vv0.2.1) (vv0.2.2.1) (vv0.2.2.2.1) (vv0.2.2.2.2.1) (vv0.2.2.2.2.2.1) (vv0.2.2.2.2.2.2.1) (vv0.2.2.2.2.2.2.2.1) (vv0.2.2.2.2.2.2.2.2.1) (vv0.2.2.2.2.2.2.2.2.2.1) (vv0.2.2.2.2.2.2.2.2.2.2.1) (vv0.2.2.2.2.2.2.2.2.2.2.2.1) (vv0.2.2.2.2.2.2.2.2.2.2.2.2.1) (vv0.2.2.2.2.2.2.2.2.2.2.2.2.2.1) (vv0.2.2.2.2.2.2.2.2.2.2.2.2.2.2.1) (vv0.2.2.2.2.2.2.2.2.2.2.2.2.2.2.2.1) (vv0.2.2.2.2.2.2.2.2.2.2.2.2.2.2.2.2)
@[irreducible] def vv0 : Ty0 := @ata _ ne0 0 P0
@[irreducible] def w : World := vv0.1
@[irreducible] def dp : Nat := vv0.2.1
@[irreducible] def un : Nat := vv0.2.2.1
@[irreducible] def fr : Option (List Env) := vv0.2.2.2.1
@[irreducible] def s : Shared := vv0.2.2.2.2.2.1
@[irreducible] def p : Program := vv0.2.2.2.2.2.2.1
@[irreducible] def mb : Str → Option Value := vv0.2.2.2.2.2.2.2.2.2.2.1
@[irreducible] def E : Value → Shared → Prop := vv0.2.2.2.2.2.2.2.2.2.2.2.1
@[irreducible] def Q : Value → Shared → Prop := vv0.2.2.2.2.2.2.2.2.2.2.2.2.1
@[irreducible] def l : Addr := vv0.2.2.2.2.2.2.2.2.2.2.2.2.2.1
@[irreducible] def fs : List (Addr × Fd) := vv0.2.2.2.2.2.2.2.2.2.2.2.2.2.2.1
@[irreducible] def room : Int := vv0.2.2.2.2.2.2.2.2.2.2.2.2.2.2.2.1
@[irreducible] def t1 : Tok := vv0.2.2.2.2.2.2.2.2.2.2.2.2.2.2.2.2
theorem prf0 : St0 w dp un fr (vv0.2.2.2.2.1) s p (vv0.2.2.2.2.2.2.2.1) (vv0.2.2.2.2.2.2.2.2.1) (vv0.2.2.2.2.2.2.2.2.2.1) mb E Q l fs room t1 := by
  intro X T hd hu hl hlen hok hroom hQ
  have _h : Challenge.rw_pf0272_01 = Challenge.rw_pf0272_01 ∧ mkK.heap_1 = mkK.heap_1 := by
    k_fill
    exact ⟨rfl, rfl⟩
  clear _h
  refine wpN_call ?_
  refine code_defN [(Str.ofString "frames", .ref l), (Str.ofString "room", .int room t1)] X T (by k_is) (by k_is) (by (show dp < recursionLimit); k_extra "rm") (BindsTo.of_eq rfl) (locs rfl) ?_ rfl rfl rfl (by decide)
  intro L h F N
  dsimp only
  refine wpN_execs_cons (wpN_of_any ?_)
  k_extra "W"
  dsimp only
  refine wpN_execs_cons (wpN_For (wpN_of_any ?_))
  k_extra "W"
  rename Fr _ _ _ _ => F
  rename News _ _ _ _ => N
  rename_i ta _ _ la _ hlt D _ _ _ _ _
  have tg0 : Tg 0 ta := tg
  have tg1 : Tg 1 la := tg
  k_extra "cl"
  (have q9 : Tg 0 ?ta_1 := (by with_reducible assumption); clear q9)
  (have q9 : Tg 1 ?la_1 := (by with_reducible assumption); clear q9)
  clear tg0 tg1
  refine iter_list_N (adr := [?la_1, ?ta_1]) (items := refs (fs.map (·.1))) (fun i m news => ∃ r fr pt rs tk n1 n2, r = (fs.take i).foldl fillStep ([], [], room) ∧ m = flMap l (.int room t1) ?ta_1 ?la_1 (.int r.2.2 tk) fr pt rs ∧ news = [(?la_1, W.listOf (refs r.2.1) n1), (?ta_1, W.listOf (refs r.1) n2)]) rfl rfl rfl F (fun p hp => N p (.tail _ hp)) ⟨_, none, none, none, t1, 0, 0, rfl, ?_, rfl⟩ ?_ ?_ ?_ ?_
  · funext y
    by_cases e1 : y = Str.ofString "rest"
    · subst e1; rfl
    by_cases e2 : y = Str.ofString "part"
    · subst e2; rfl
    by_cases e3 : y = Str.ofString "frame"
    · subst e3; rfl
    by_cases e4 : y = Str.ofString "room"
    · subst e4; rfl
    by_cases e5 : y = Str.ofString "left"
    · subst e5; rfl
    simp only [flMap, if_neg e1, if_neg e2, if_neg e3, if_neg e4, if_neg e5]
  · rintro i m news ⟨r, fr, pt, rs, tk, n1, n2, -, -, rfl⟩; rfl
  · rintro i m news h - F -; exact hl.at (F.keep _)
  · rintro i v m₁ news₁ I o h tk hv zx
    k_extra "g1"
    obtain ⟨r, fr, pt, rs, tk, n1, n2, hr, rfl, rfl⟩ := zx
    k_extra "g2"
    rintro hI F N
    k_extra "g1"
    obtain ⟨f, hfi, hfm, rfl⟩ := refs_get hv
    k_extra "g2"
    k_extra "g1"
    obtain ⟨fok, fpl, fat⟩ := hok f hfm
    k_extra "g2"
    have hlen2 := fill_len (fs.take i) ([], [], room)
    rw [← hr] at hlen2
    have hz1 : (refs r.1).size ≤ sizeLine := by rw [sizeLine_eq]; simp [refs] at hlen2 ⊢; lia
    have hz2 : (refs r.2.1).size ≤ sizeLine := by rw [sizeLine_eq]; simp [refs] at hlen2 ⊢; lia
    have hnx := fill_next (st := ([], [], room)) hfi
    rw [← hr] at hnx
    have hI1 : @LT.lt Nat _ ?la_1 I := hI ?la_1 (.head _)
    have hI2 : @LT.lt Nat _ ?ta_1 I := hI ?ta_1 (.tail _ (.head _))
    have tg0 : Tg 0 r := tg
    have tg1 : Tg 1 n1 := tg
    have tg2 : Tg 2 n2 := tg
    have tg3 : Tg 3 f := tg
    k_extra "cl"
    (have q9 : Tg 0 ?r_2 := (by with_reducible assumption); clear q9)
    (have q9 : Tg 1 ?n1_2 := (by with_reducible assumption); clear q9)
    (have q9 : Tg 2 ?n2_2 := (by with_reducible assumption); clear q9)
    (have q9 : Tg 3 ?f_2 := (by with_reducible assumption); clear q9)
    clear tg0 tg1 tg2 tg3
    refine wpN_execs_cons (wpN_Assign_Tuple (Call_N (wpN_of_any ?_)))
    k_extra "W"
    refine callWith_NK (K := mkK.heap_1 w.params) (by k_is) (args_cons_N (wpN_of_any ?_))
    k_extra "W"
    refine args_cons_N (wpN_of_any ?_)
    k_extra "W"
    rename Fr _ _ _ _ => F
    rename News _ _ _ _ => N
    refine args_nil_N ⟨X.keeps F.keep, ?_⟩
    refine cut_frame_N (X.keeps F.keep) (T.keeps F.keep) (by (show dp + 1 + 80 < recursionLimit); k_extra "rm") (by (show un + 3 + 700 < cLine); k_extra "rm") fok fpl (fat.keeps F.keep) fun q h2 tk2 k2 g2 g3 => ?_
    dsimp only at k2 g2 g3
    have q1 := news_ne N (.head _) g3
    have q2 := news_ne N (.tail _ (.head _)) g3
    have q3 := news_ne N (.tail _ (.tail _ (.head _))) g3
    have N2 := news_at F N k2 g2 g3
    have F2 := fr_keep F k2
    clear F N
    k_extra "cl"
    by_cases hle : (?f_2).2.sz ≤ (?r_2).2.2
    · rw [if_pos hle] at N2
      k_extra "W"
      dsimp only
      refine wpN_execs_cons (wpN_If (wpN_of_any ?_))
      k_extra "W"
      refine wpN_execs_cons (wpN_of_any ?_)
      k_extra "W"
      refine wpN_execs_cons (wpN_AugAssign_Name (wpN_of_any ?_))
      k_extra "W"
      refine Call_N (wpN_of_any ?_)
      k_extra "W"
      refine callWith_NK (K := mkK.heap_1 w.params) (by k_is) (args_cons_N (wpN_of_any ?_))
      k_extra "W"
      rename Fr _ _ _ _ => F
      rename News _ _ _ _ => N
      refine args_nil_N ⟨X.keeps F.keep, ?_⟩
      refine frame_size_N (X.keeps F.keep) (T.keeps F.keep) (by (show dp + 1 + 70 < recursionLimit); k_extra "rm") (by (show un + 3 + 600 < cLine); k_extra "rm") fok (fat.keeps F.keep) fun tk h4 tk4 k4 => ?_
      have F4 := fr_keep F k4
      have N4 := news_keep N k4
      clear F N
      k_extra "cl"
      refine wpN_of_any ?_
      k_extra "W"
      refine wpN_of_any ?_
      k_extra "W"
      dsimp only
      refine wpN_execs_nil ?_
      dsimp only
      refine wpN_of_any ?_
      k_extra "W"
      dsimp only
      rename Fr _ _ _ _ => F
      rename News _ _ _ _ => N
      exact ⟨_, _, _, _, rfl, F, fun p hp => N p (.tail _ hp), ((?r_2).1 ++ [(?f_2).1], (?r_2).2.1, (?r_2).2.2 - (?f_2).2.sz), some (.ref (?f_2).1), some (.ref (?f_2).1), some .none, _, ?n1_2, ?n2_2 + 1, by rw [hnx]; exact (if_pos hle).symm, flMap_room, by rw [refs_push]⟩
    · rw [if_neg hle] at N2
      k_extra "W"
      dsimp only
      refine wpN_execs_cons (wpN_of_any ?_)
      k_extra "W"
      dsimp only
      refine wpN_execs_cons (wpN_of_any ?_)
      k_extra "W"
      dsimp only
      refine wpN_execs_nil ?_
      dsimp only
      rename Fr _ _ _ _ => F
      rename News _ _ _ _ => N
      exact ⟨_, _, _, _, rfl, F, fun p hp => N p (.tail _ hp), ((?r_2).1, (?r_2).2.1 ++ [(?f_2).1], (?r_2).2.2), some (.ref (?f_2).1), some .none, some (.ref (?f_2).1), _, ?n1_2 + 1, ?n2_2, by rw [hnx]; exact (if_neg hle).symm, flMap_no, by rw [refs_push]⟩
  · rintro m₁ news₁ h tk zx
    k_extra "g1"
    obtain ⟨r, fr, pt, rs, tk', n1, n2, hr, rfl, rfl⟩ := zx
    k_extra "g2"
    rintro F N
    rw [List.take_of_length_le (by simp [refs])] at hr
    dsimp only
    refine wpN_of_any ?_
    k_extra "W"
    rename Fr _ _ _ _ => F
    rename News _ _ _ _ => N
    rename (_ < _ ∧ _ < _) => hlt2
    subst hr
    exact hQ _ ?ta_1 ?la_1 _ _ n2 n1 F.keep (N _ (.head _)).1 (N _ (.tail _ (.tail _ (.head _)))).1 (N _ (.tail _ (.head _))).1 (N _ (.tail _ (.tail _ (.head _)))).2.2 (N _ (.tail _ (.head _))).2.2 (N _ (.head _)).2.2 hlt hlt2.1
end filled_N
theorem filled_N {w : World} {dp : Nat} {un : Nat} {fr : Option (List Env)} {gd : Option (List Code)} {s : Shared} {p : Program} {loose : List Str} {mean : ExcName → Option Value} {mg : Str → Option Value} {mb : Str → Option Value} {E : Value → Shared → Prop} {Q : Value → Shared → Prop} {l : Addr} {fs : List (Addr × Fd)} {room : Int} {t1 : Tok} : filled_N.St0 w dp un fr gd s p loose mean mg mb E Q l fs room t1 :=
  @ata_spec _ filled_N.ne0 0 filled_N.P0 (by with_unfolding_all exact filled_N.prf0) (w, dp, un, fr, gd, s, p, loose, mean, mg, mb, E, Q, l, fs, room, t1)
end
end
noncomputable section
open PyProof.Rows.LCg
theorem kw_43 : True := by
  k_with_none
  k_with "rm" => first | exact room_lt (by assumption) rfl | exact room_lt1 (by assumption) | lia
  k_with "g1" => refine by_goal fun zG zh => ?_
  k_with "g2" => (refine zh ?_; clear zh zG)
  k_with "WW" => (repeat' (first | ((with_reducible show wpAny _ _ _ _ _ _); (fail_if_success (with_reducible show wpAny _ _ (eval (Expr.ListComp _ _ _ _) _) _ _ _)); (fail_if_success (with_reducible show wpAny _ _ (pyIter _) _ _ _)); (fail_if_success (with_reducible show wpAny _ _ (exec (Stmt.Assign [Expr.Name _ _] (Expr.ListComp _ _ _ _) _) _) _ _ _)); walk1) | ((with_reducible show ite _ _ _); walk1) | ((with_reducible show (Frag.In _ _ ∧ wpAny _ _ _ _ _ _)); refine And.intro (Frag.In.keeps (by assumption) (Fr.keep (by assumption))) ?_) | ((with_reducible show (Heap.get? _ _ = some _ ∧ wpAny _ _ _ _ _ _)); refine And.intro (News.get (by assumption) (by k_mem)) ?_) | ((fail_if_success (with_reducible show wpAny _ _ _ _ _ _)); dsimp only)))
  trivial
noncomputable def FrO (o : Obj) (d : Fd) : Prop := ∃ items n, o.cls = .type "tuple" ∧ o.data = .seq items n ∧ (match d with
  | .hs => ∃ t, items = #[.str (Str.ofString "handshake_done") t]
  | .ping => ∃ t, items = #[.str (Str.ofString "ping") t]
  | .ret n => ∃ t u, items = #[.str (Str.ofString "retire_connection_id") t, .int n u]
  | .maxd n => ∃ t u, items = #[.str (Str.ofString "max_data") t, .int n u]
  | .tok b => ∃ t u, items = #[.str (Str.ofString "new_token") t, .bytes b u]
  | .resp b => ∃ t u, items = #[.str (Str.ofString "path_response") t, .bytes b u]
  | .chal b => ∃ t u, items = #[.str (Str.ofString "path_challenge") t, .bytes b u]
  | .strm num off b => ∃ t u v x, items = #[.str (Str.ofString "stream") t, .int num u, .int off v, .bytes b x, .bool false])
theorem frO_at {h : Heap} {a : Addr} {o : Obj} {d : Fd} (e : h.get? a = some o) (H : FrO o d) : FrAt h a d := by
  k_extra "g1"
  obtain ⟨items, n, hc, hd, H⟩ := H
  k_extra "g2"
  cases d <;> first
    | (obtain ⟨t, rfl⟩ := H; exact ⟨t, o, e, hc, n, hd⟩)
    | (obtain ⟨t, u, rfl⟩ := H; exact ⟨t, u, o, e, hc, n, hd⟩)
    | (obtain ⟨t, u, v, x, rfl⟩ := H; exact ⟨t, u, v, x, o, e, hc, n, hd⟩)
theorem kw_41 : True := by
  k_with "call ref" => (k_here; (with_reducible show wpAny _ _ (call (Value.ref 330) [Value.ref _, Value.int _ _]) _ _ _); (rename Fr _ _ _ _ => F); (rename News _ _ _ _ => N); (refine take_U F N X T (by k_asm) (by k_asm) (by k_asm) (by (show dp + 1 + 10 < recursionLimit); k_extra "rm") (by (show un + 3 + 100 < cLine); k_extra "rm") (by k_mem) (by lia) (by lia) fun vv vtk h2 tk2 vt vn hv0 hv1 F2 N2 => ?_); clear F N; (replace N2 := N2 _ (by k_upd)); (try dsimp only at N2))
  trivial
theorem num_ok (i : Nat) : 0 ≤ ([5, 63, 64, 16384] : List Int).getD i 0 ∧ ([5, 63, 64, 16384] : List Int).getD i 0 < 1073741824 := by
  rcases i with _ | _ | _ | _ | i <;> simp
theorem tok_ok (v : Int) (h : v < 4) : (List.replicate (1 + 6 * v).toNat [(116 : UInt8)]).flatten.toArray.size ≤ 60 := by
  simp; lia
theorem fresh_in {h₀ h h' : Heap} {L : Addr} {bs : List Addr} {v : Addr} {o : Obj} {news : List (Addr × Obj)} (kg : ∀ b o, b ∉ bs → h.get? b = some o → h₀.get? b = some o) (N : News h₀ L h' news) (hm : (v, o) ∈ news) (hv : v ∉ bs) : h.get? v = none := by
  cases e : h.get? v with
  | none => rfl
  | some ob =>
    have := kg _ _ hv e
    rw [(N _ hm).2.2] at this; cases this
theorem ne_one {a b : Nat} {o : Obj} (h : b < a) : a ∉ List.map (fun x : Addr × Obj => x.1) [((b, o) : Addr × Obj)] := by
  simp only [List.map_cons, List.map_nil, List.mem_singleton]
  exact Nat.ne_of_gt h
noncomputable section
theorem kw_42 : True := by
  k_with "cl1" => first | refine no_implicit_lambda% (eps8 0 (inferInstanceAs (Box 0 IdT _)) rfl rfl ?_) | refine no_implicit_lambda% (eps7 0 (inferInstanceAs (Box 0 IdT _)) rfl rfl ?_) | refine no_implicit_lambda% (eps6 0 (inferInstanceAs (Box 0 IdT _)) rfl rfl ?_) | refine no_implicit_lambda% (eps5 0 (inferInstanceAs (Box 0 IdT _)) rfl rfl ?_) | refine no_implicit_lambda% (eps4 0 (inferInstanceAs (Box 0 IdT _)) rfl rfl ?_) | refine no_implicit_lambda% (eps3 0 (inferInstanceAs (Box 0 IdT _)) rfl rfl ?_) | refine no_implicit_lambda% (eps2 0 (inferInstanceAs (Box 0 IdT _)) rfl rfl ?_) | refine no_implicit_lambda% (epsd 0 (inferInstanceAs (Box 0 IdT _)) rfl rfl ?_)
  k_with "cl" => (set_option tactic.hygienic false in ((repeat ((first | rename Heap => q9 | rename Addr => q9 | rename Nat => q9 | rename Obj => q9 | rename Value => q9 | rename Int => q9 | rename List _ => q9 | rename Str → Option Value => q9 | rename Bool => q9 | rename Option _ => q9 | rename Array _ => q9 | rename Str => q9 | rename _ × _ => q9 | rename Shared => q9 | rename Program => q9 | rename ExcName → Option Value => q9 | rename Value → Shared → Prop => q9); revert q9)); (repeat (first | k_extra "cl1" | (with_reducible intro _)))))
  trivial
namespace frame_A
noncomputable def St0 (w : World) (dp : Nat) (un : Nat) (fr : Option (List Env)) (gd : Option (List Code)) (s : Shared) (p : Program) (loose : List Str) (mean : ExcName → Option Value) (mg : Str → Option Value) (mb : Str → Option Value) (E : Value → Shared → Prop) (Q : Value → Shared → Prop) (h₀ : Heap) (bx : Addr) (bl : Addr) (k : Int) (t : Tok) (n : Nat) (vs : List Value) (ns : List Int) : Prop := ∀ (keep : ∀ b o, h₀.get? b = some o → s.heap.get? b = some o) (X : (mkK.heap_1 w.params).In h₀) (T : Top p loose mean mg mb h₀) (hd : dp + 40 < recursionLimit) (hu : un + 300 < cLine) (Ld : Led h₀ s.heap [(bx, W.listOf #[.ref bl, .int k t] n)]) (hbl : s.heap.IsList bl vs.toArray) (hne : @Ne Nat bl bx) (hi : IntsAre vs ns) (hlen : vs.length ≤ 1048576) (hk : 0 ≤ k ∧ k ≤ 90000) (hQ : ∀ v d o h' tk' k' t' n', d.ok → d.plain = true → 0 ≤ k' → k' ≤ k + 4 → (∀ b o, b ≠ bx → s.heap.get? b = some o → h'.get? b = some o) → h'.get? bx = some (W.listOf #[.ref bl, .int k' t'] n') → s.heap.get? v = none → h'.get? v = some o → FrO o d → Q (.ref v) { s with heap := h', toks := tk' }),
   wpAny (model Challenge.pw_pf0272_01 w) (Ak dp un fr gd) (call (.ref 347) [.ref bx]) Q E s
noncomputable abbrev Ty0 : Type := (World) × (Nat) × (Nat) × (Option (List Env)) × (Option (List Code)) × (Shared) × (Program) × (List Str) × (ExcName → Option Value) × (Str → Option Value) × (Str → Option Value) × (Value → Shared → Prop) × (Value → Shared → Prop) × (Heap) × (Addr) × (Addr) × (Int) × (Tok) × (Nat) × (List Value) × (List Int)
theorem ne0 : Nonempty Ty0 := ⟨Classical.choice neW, Classical.choice inferInstance, Classical.choice inferInstance, Classical.choice inferInstance, Classical.choice inferInstance, Classical.choice neS, Classical.choice inferInstance, Classical.choice inferInstance, Classical.choice inferInstance, Classical.choice inferInstance, Classical.choice inferInstance, Classical.choice inferInstance, Classical.choice inferInstance, Classical.choice inferInstance, Classical.choice inferInstance, Classical.choice inferInstance, Classical.choice inferInstance, Classical.choice inferInstance, Classical.choice inferInstance, Classical.choice inferInstance, Classical.choice inferInstance⟩
noncomputable def P0 (vv0 : Ty0) : Prop := St0 (vv0.1) (vv0.2.1) (vv0.2.2.1) (vv0.2.2.2.1) (vv0.2.2.2.2.1) (vv0.2.2.2.2.2.1) (vv0.2.2.2.2.2.2.1) (vv0.2.2.2.2.2.2.2.1) (vv0.2.2.2.2.2.2.2.2.1) (vv0.2.2.2.2.2.2.2.2.2.1) (vv0.2.2.2.2.2.2.2.2.2.2.1) (vv0.2.2.2.2.2.2.2.2.2.2.2.1) (vv0.2.2.2.2.2.2.2.2.2.2.2.2.1) (vv0.2.2.2.2.2.2.2.2.2.2.2.2.2.1) (vv0.2.2.2.2.2.2.2.2.2.2.2.2.2.2.1) (vv0.2.2.2.2.2.2.2.2.2.2.2.2.2.2.2.1) (vv0.2.2.2.2.2.2.2.2.2.2.2.2.2.2.2.2.1) (vv0.2.2.2.2.2.2.2.2.2.2.2.2.2.2.2.2.2.1) (vv0.2.2.2.2.2.2.2.2.2.2.2.2.2.2.2.2.2.2.1) (vv0.2.2.2.2.2.2.2.2.2.2.2.2.2.2.2.2.2.2.2.1) (vv0.2.2.2.2.2.2.2.2.2.2.2.2.2.2.2.2.2.2.2.2)
@[irreducible] def vv0 : Ty0 := @ata _ ne0 0 P0
@[irreducible] def w : World := vv0.1
@[irreducible] def dp : Nat := vv0.2.1
@[irreducible] def un : Nat := vv0.2.2.1
@[irreducible] def fr : Option (List Env) := vv0.2.2.2.1
@[irreducible] def s : Shared := vv0.2.2.2.2.2.1
@[irreducible] def p : Program := vv0.2.2.2.2.2.2.1
@[irreducible] def mb : Str → Option Value := vv0.2.2.2.2.2.2.2.2.2.2.1
@[irreducible] def E : Value → Shared → Prop := vv0.2.2.2.2.2.2.2.2.2.2.2.1
@[irreducible] def Q : Value → Shared → Prop := vv0.2.2.2.2.2.2.2.2.2.2.2.2.1
@[irreducible] def h₀ : Heap := vv0.2.2.2.2.2.2.2.2.2.2.2.2.2.1
@[irreducible] def bx : Addr := vv0.2.2.2.2.2.2.2.2.2.2.2.2.2.2.1
@[irreducible] def bl : Addr := vv0.2.2.2.2.2.2.2.2.2.2.2.2.2.2.2.1
@[irreducible] def k : Int := vv0.2.2.2.2.2.2.2.2.2.2.2.2.2.2.2.2.1
@[irreducible] def t : Tok := vv0.2.2.2.2.2.2.2.2.2.2.2.2.2.2.2.2.2.1
@[irreducible] def n : Nat := vv0.2.2.2.2.2.2.2.2.2.2.2.2.2.2.2.2.2.2.1
@[irreducible] def vs : List Value := vv0.2.2.2.2.2.2.2.2.2.2.2.2.2.2.2.2.2.2.2.1
@[irreducible] def ns : List Int := vv0.2.2.2.2.2.2.2.2.2.2.2.2.2.2.2.2.2.2.2.2
theorem prf0 : St0 w dp un fr (vv0.2.2.2.2.1) s p (vv0.2.2.2.2.2.2.2.1) (vv0.2.2.2.2.2.2.2.2.1) (vv0.2.2.2.2.2.2.2.2.2.1) mb E Q h₀ bx bl k t n vs ns := by
  intro keep X T hd hu Ld hbl hne hi hlen hk hQ
  have _h : Challenge.rw_pf0272_01 = Challenge.rw_pf0272_01 ∧ mkK.heap_1 = mkK.heap_1 := by
    k_fill
    exact ⟨rfl, rfl⟩
  clear _h
  refine wpAny_call ?_
  refine code_defM_any h₀ [(bx, W.listOf #[.ref bl, .int k t] n)] [(Str.ofString "box", .ref bx)] keep X T Ld (by k_is) (by k_is) (by (show dp < recursionLimit); k_extra "rm") (BindsTo.of_eq rfl) (locs rfl) ?_ rfl rfl rfl (by decide)
  clear X T
  intro g L h X T kg kb F N hlt hgL
  dsimp only
  have hbg : g.IsList bl vs.toArray := hbl.at fun o e => kg bl o (by simp; exact hne) e
  k_extra "cl"
  k_extra "WW"
  · refine' hQ _ ?dx0 ?ox0 _ _ (k + 1 + 1 + 1 + 1) _ _ ?okx0 ?plx0 ?l1x0 ?l2x0 ?kpx0 (N2.get ?m1x0) ?frx0 (N2.get ?m2x0) ?ffx0
    case m1x0 => k_mem
    case m2x0 => k_mem
    case l1x0 => lia
    case l2x0 => lia
    case kpx0 => exact fun b ob hb e => F2.keep b ob (kg b ob (by simpa using hb) e)
    case frx0 => exact fresh_in kg N2 (by k_mem) (ne_one (by lia))
    case ffx0 => (refine (?_ : FrO _ (Fd.hs)); exact ⟨_, _, rfl, rfl, by first | exact ⟨_, rfl⟩ | exact ⟨_, _, rfl⟩⟩)
    case plx0 => rfl
    case okx0 => exact trivial
  · refine' hQ _ ?dx1 ?ox1 _ _ (k + 1 + 1 + 1 + 1) _ _ ?okx1 ?plx1 ?l1x1 ?l2x1 ?kpx1 (N2.get ?m1x1) ?frx1 (N2.get ?m2x1) ?ffx1
    case m1x1 => k_mem
    case m2x1 => k_mem
    case l1x1 => lia
    case l2x1 => lia
    case kpx1 => exact fun b ob hb e => F2.keep b ob (kg b ob (by simpa using hb) e)
    case frx1 => exact fresh_in kg N2 (by k_mem) (ne_one (by lia))
    case ffx1 => (refine (?_ : FrO _ (Fd.ping)); exact ⟨_, _, rfl, rfl, by first | exact ⟨_, rfl⟩ | exact ⟨_, _, rfl⟩⟩)
    case plx1 => rfl
    case okx1 => exact trivial
  · refine' hQ _ ?dx2 ?ox2 _ _ (k + 1 + 1 + 1 + 1) _ _ ?okx2 ?plx2 ?l1x2 ?l2x2 ?kpx2 (N2.get ?m1x2) ?frx2 (N2.get ?m2x2) ?ffx2
    case m1x2 => k_mem
    case m2x2 => k_mem
    case l1x2 => lia
    case l2x2 => lia
    case kpx2 => exact fun b ob hb e => F2.keep b ob (kg b ob (by simpa using hb) e)
    case frx2 => exact fresh_in kg N2 (by k_mem) (ne_one (by lia))
    case ffx2 => (refine (?_ : FrO _ (Fd.ret _)); exact ⟨_, _, rfl, rfl, by first | exact ⟨_, rfl⟩ | exact ⟨_, _, rfl⟩⟩)
    case plx2 => rfl
    case okx2 => exact num_ok _
  · refine' hQ _ ?dx3 ?ox3 _ _ (k + 1 + 1 + 1 + 1) _ _ ?okx3 ?plx3 ?l1x3 ?l2x3 ?kpx3 (N2.get ?m1x3) ?frx3 (N2.get ?m2x3) ?ffx3
    case m1x3 => k_mem
    case m2x3 => k_mem
    case l1x3 => lia
    case l2x3 => lia
    case kpx3 => exact fun b ob hb e => F2.keep b ob (kg b ob (by simpa using hb) e)
    case frx3 => exact fresh_in kg N2 (by k_mem) (ne_one (by lia))
    case ffx3 => (refine (?_ : FrO _ (Fd.maxd _)); exact ⟨_, _, rfl, rfl, by first | exact ⟨_, rfl⟩ | exact ⟨_, _, rfl⟩⟩)
    case plx3 => rfl
    case okx3 => exact num_ok _
  · refine' hQ _ ?dx4 ?ox4 _ _ (k + 1 + 1 + 1 + 1) _ _ ?okx4 ?plx4 ?l1x4 ?l2x4 ?kpx4 (N2.get ?m1x4) ?frx4 (N2.get ?m2x4) ?ffx4
    case m1x4 => k_mem
    case m2x4 => k_mem
    case l1x4 => lia
    case l2x4 => lia
    case kpx4 => exact fun b ob hb e => F2.keep b ob (kg b ob (by simpa using hb) e)
    case frx4 => exact fresh_in kg N2 (by k_mem) (ne_one (by lia))
    case ffx4 => (refine (?_ : FrO _ (Fd.tok _)); exact ⟨_, _, rfl, rfl, by first | exact ⟨_, rfl⟩ | exact ⟨_, _, rfl⟩⟩)
    case plx4 => rfl
    case okx4 => exact tok_ok _ (by lia)
end frame_A
theorem frame_A {w : World} {dp : Nat} {un : Nat} {fr : Option (List Env)} {gd : Option (List Code)} {s : Shared} {p : Program} {loose : List Str} {mean : ExcName → Option Value} {mg : Str → Option Value} {mb : Str → Option Value} {E : Value → Shared → Prop} {Q : Value → Shared → Prop} {h₀ : Heap} {bx : Addr} {bl : Addr} {k : Int} {t : Tok} {n : Nat} {vs : List Value} {ns : List Int} : frame_A.St0 w dp un fr gd s p loose mean mg mb E Q h₀ bx bl k t n vs ns :=
  @ata_spec _ frame_A.ne0 0 frame_A.P0 (by with_unfolding_all exact frame_A.prf0) (w, dp, un, fr, gd, s, p, loose, mean, mg, mb, E, Q, h₀, bx, bl, k, t, n, vs, ns)
end
end
noncomputable section
open PyProof.Rows.LCg
theorem kw_45 : True := by
  k_with_none
  k_with "rm" => first | exact room_lt (by assumption) rfl | exact room_lt1 (by assumption) | lia
  k_with "WK" => (repeat' (first | ((with_reducible show wpAny _ _ (execs (_ :: _) _) _ _ _); (first | (k_gentoks; (set_option tactic.hygienic false in k_extra "cl")) | walk1)) | ((with_reducible show wpAny _ _ _ _ _ _); (fail_if_success (with_reducible show wpAny _ _ (eval (Expr.ListComp _ _ _ _) _) _ _ _)); (fail_if_success (with_reducible show wpAny _ _ (pyIter _) _ _ _)); (fail_if_success (with_reducible show wpAny _ _ (exec (Stmt.Assign [Expr.Name _ _] (Expr.ListComp _ _ _ _) _) _) _ _ _)); walk1; (set_option tactic.hygienic false in k_extra "cl")) | ((with_reducible show ite _ _ _); walk1) | ((with_reducible show (Frag.In _ _ ∧ wpAny _ _ _ _ _ _)); refine And.intro (Frag.In.keeps (by assumption) (Fr.keep (by assumption))) ?_) | ((with_reducible show (Heap.get? _ _ = some _ ∧ wpAny _ _ _ _ _ _)); refine And.intro (News.get (by assumption) (by k_mem)) ?_) | ((fail_if_success (with_reducible show wpAny _ _ _ _ _ _)); dsimp only)))
  trivial
noncomputable def DA (es : List DictEntry) (k : Nat) (f : Str → Option Value) : Prop := (∀ name, getL name es = some (f name)) ∧ es.length ≤ k
theorem da_of {es : List DictEntry} {k : Nat} (h : es.any (·.refKey) = false) (hl : es.length ≤ k) : DA es k (fun y => (getL y es).getD none) := by
  refine ⟨fun name => ?_, hl⟩
  show getL name es = some ((getL name es).getD none)
  have e : ∃ v, getL name es = some v := by
    unfold getL
    cases List.find? (fun x => x.key.isStr name) es with
    | some e => exact ⟨_, rfl⟩
    | none => simp only [h]; exact ⟨_, rfl⟩
  obtain ⟨v, e⟩ := e
  rw [e]; rfl
noncomputable section
theorem kw_44 : True := by
  k_with "cl1" => first | refine no_implicit_lambda% (eps8 0 (inferInstanceAs (Box 0 IdT _)) rfl rfl ?_) | refine no_implicit_lambda% (eps7 0 (inferInstanceAs (Box 0 IdT _)) rfl rfl ?_) | refine no_implicit_lambda% (eps6 0 (inferInstanceAs (Box 0 IdT _)) rfl rfl ?_) | refine no_implicit_lambda% (eps5 0 (inferInstanceAs (Box 0 IdT _)) rfl rfl ?_) | refine no_implicit_lambda% (eps4 0 (inferInstanceAs (Box 0 IdT _)) rfl rfl ?_) | refine no_implicit_lambda% (eps3 0 (inferInstanceAs (Box 0 IdT _)) rfl rfl ?_) | refine no_implicit_lambda% (eps2 0 (inferInstanceAs (Box 0 IdT _)) rfl rfl ?_) | refine no_implicit_lambda% (epsd 0 (inferInstanceAs (Box 0 IdT _)) rfl rfl ?_)
  k_with "cl" => (set_option tactic.hygienic false in ((repeat ((first | rename Heap => q9 | rename Addr => q9 | rename Nat => q9 | rename Obj => q9 | rename Value => q9 | rename Int => q9 | rename List _ => q9 | rename Str → Option Value => q9 | rename Bool => q9 | rename Option _ => q9 | rename Array _ => q9 | rename Str => q9 | rename _ × _ => q9 | rename Shared => q9 | rename Program => q9 | rename ExcName → Option Value => q9 | rename Value → Shared → Prop => q9); revert q9)); (repeat (first | k_extra "cl1" | (with_reducible intro _)))))
  trivial
namespace init_A
noncomputable def St0 (w : World) (dp : Nat) (un : Nat) (fr : Option (List Env)) (gd : Option (List Code)) (s : Shared) (p : Program) (loose : List Str) (mean : ExcName → Option Value) (mg : Str → Option Value) (mb : Str → Option Value) (E : Value → Shared → Prop) (Q : Value → Shared → Prop) (h₀ : Heap) (x : Addr) (d : Addr) (nm : Str) (t : Tok) : Prop := ∀ (keep : ∀ b o, h₀.get? b = some o → s.heap.get? b = some o) (X : (mkK.heap_1 w.params).In h₀) (T : Top p loose mean mg mb h₀) (hd : dp + 10 < recursionLimit) (hu : un + 100 < cLine) (Ld : Led h₀ s.heap [(x, instObj 319 d), (d, dictOf [] 0)]) (hdx : @LT.lt Nat _ d x) (hQ : ∀ es n f h' tk', DA es 17 f → (∀ b ob, b ≠ d → s.heap.get? b = some ob → h'.get? b = some ob) → h'.get? d = some (dictOf es n) → Q .none { s with heap := h', toks := tk' }),
   codeAny (model Challenge.pw_pf0272_01 w) (Ak dp un fr gd) (.call (.ref 192) ⟨[.ref x, .str nm t], []⟩) (fun r s' => match r with | .ok (.ret v) => Q v s' | .ok _ => False | .error e => E e s') s
noncomputable abbrev Ty0 : Type := (World) × (Nat) × (Nat) × (Option (List Env)) × (Option (List Code)) × (Shared) × (Program) × (List Str) × (ExcName → Option Value) × (Str → Option Value) × (Str → Option Value) × (Value → Shared → Prop) × (Value → Shared → Prop) × (Heap) × (Addr) × (Addr) × (Str) × (Tok)
theorem ne0 : Nonempty Ty0 := ⟨Classical.choice neW, Classical.choice inferInstance, Classical.choice inferInstance, Classical.choice inferInstance, Classical.choice inferInstance, Classical.choice neS, Classical.choice inferInstance, Classical.choice inferInstance, Classical.choice inferInstance, Classical.choice inferInstance, Classical.choice inferInstance, Classical.choice inferInstance, Classical.choice inferInstance, Classical.choice inferInstance, Classical.choice inferInstance, Classical.choice inferInstance, Classical.choice inferInstance, Classical.choice inferInstance⟩
noncomputable def P0 (vv0 : Ty0) : Prop := St0 (vv0.1) (vv0.2.1) (vv0.2.2.1) (vv0.2.2.2.1) (vv0.2.2.2.2.1) (vv0.2.2.2.2.2.1) (vv0.2.2.2.2.2.2.1) (vv0.2.2.2.2.2.2.2.1) (vv0.2.2.2.2.2.2.2.2.1) (vv0.2.2.2.2.2.2.2.2.2.1) (vv0.2.2.2.2.2.2.2.2.2.2.1) (vv0.2.2.2.2.2.2.2.2.2.2.2.1) (vv0.2.2.2.2.2.2.2.2.2.2.2.2.1) (vv0.2.2.2.2.2.2.2.2.2.2.2.2.2.1) (vv0.2.2.2.2.2.2.2.2.2.2.2.2.2.2.1) (vv0.2.2.2.2.2.2.2.2.2.2.2.2.2.2.2.1) (vv0.2.2.2.2.2.2.2.2.2.2.2.2.2.2.2.2.1) (vv0.2.2.2.2.2.2.2.2.2.2.2.2.2.2.2.2.2)
@[irreducible] def vv0 : Ty0 := @ata _ ne0 0 P0
@[irreducible] def w : World := vv0.1
@[irreducible] def dp : Nat := vv0.2.1
@[irreducible] def un : Nat := vv0.2.2.1
@[irreducible] def s : Shared := vv0.2.2.2.2.2.1
@[irreducible] def p : Program := vv0.2.2.2.2.2.2.1
@[irreducible] def mb : Str → Option Value := vv0.2.2.2.2.2.2.2.2.2.2.1
@[irreducible] def E : Value → Shared → Prop := vv0.2.2.2.2.2.2.2.2.2.2.2.1
@[irreducible] def Q : Value → Shared → Prop := vv0.2.2.2.2.2.2.2.2.2.2.2.2.1
@[irreducible] def h₀ : Heap := vv0.2.2.2.2.2.2.2.2.2.2.2.2.2.1
@[irreducible] def x : Addr := vv0.2.2.2.2.2.2.2.2.2.2.2.2.2.2.1
@[irreducible] def d : Addr := vv0.2.2.2.2.2.2.2.2.2.2.2.2.2.2.2.1
@[irreducible] def nm : Str := vv0.2.2.2.2.2.2.2.2.2.2.2.2.2.2.2.2.1
@[irreducible] def t : Tok := vv0.2.2.2.2.2.2.2.2.2.2.2.2.2.2.2.2.2
theorem prf0 : St0 w dp un (vv0.2.2.2.1) (vv0.2.2.2.2.1) s p (vv0.2.2.2.2.2.2.2.1) (vv0.2.2.2.2.2.2.2.2.1) (vv0.2.2.2.2.2.2.2.2.2.1) mb E Q h₀ x d nm t := by
  intro keep X T hd hu Ld hdx hQ
  have _h : Challenge.rw_pf0272_01 = Challenge.rw_pf0272_01 ∧ mkK.heap_1 = mkK.heap_1 := by
    k_fill
    exact ⟨rfl, rfl⟩
  clear _h
  refine code_defM_any h₀ [(x, instObj 319 d), (d, dictOf [] 0)] [(Str.ofString "self", .ref x), (Str.ofString "name", .str nm t)] keep X T Ld (by k_is) (by k_is) (by (show dp < recursionLimit); k_extra "rm") (BindsTo.of_eq rfl) (locs rfl) ?_ rfl rfl rfl (by decide)
  clear X T
  intro g L h X T kg kb F N hlt hgL
  dsimp only
  have hlt2 := ltN hdx
  k_extra "WK"
  rename Fr _ _ _ _ => F
  rename News _ _ _ _ => N
  refine' hQ ?esI ?nI _ _ _ (da_of ?rI ?lI) ?kI (N.get ?mI)
  case mI => k_mem
  case rI => rfl
  case lI => exact Nat.le_of_ble_eq_true rfl
  case kI =>
    intro b ob hb e
    by_cases hx : b = x
    · subst hx
      rw [(Ld _ (.head _)).1] at e; cases e
      exact N.get (by k_mem)
    · refine F.keep b ob (kg b ob ?_ e)
      simp only [List.map_cons, List.map_nil, List.mem_cons, List.not_mem_nil, or_false]
      exact fun q => q.elim hx hb
end init_A
theorem init_A {w : World} {dp : Nat} {un : Nat} {fr : Option (List Env)} {gd : Option (List Code)} {s : Shared} {p : Program} {loose : List Str} {mean : ExcName → Option Value} {mg : Str → Option Value} {mb : Str → Option Value} {E : Value → Shared → Prop} {Q : Value → Shared → Prop} {h₀ : Heap} {x : Addr} {d : Addr} {nm : Str} {t : Tok} : init_A.St0 w dp un fr gd s p loose mean mg mb E Q h₀ x d nm t :=
  @ata_spec _ init_A.ne0 0 init_A.P0 (by with_unfolding_all exact init_A.prf0) (w, dp, un, fr, gd, s, p, loose, mean, mg, mb, E, Q, h₀, x, d, nm, t)
end
end
noncomputable section
open PyProof.Rows.LCg
theorem kw_46 : True := by
  k_with_none
  k_with "g1" => refine by_goal fun zG zh => ?_
  k_with "g2" => (refine zh ?_; clear zh zG)
  trivial
theorem under_space (dp un : Nat) (fr : Option (List Env)) (gd : Option (List Code)) (pos : List Value) (kw : List (Str × Value)) : ∃ a b c g, a ≤ 5 ∧ b ≤ 10 ∧ (Ak dp un fr gd).under (.builtin "type.__call__" ⟨.ref 319 :: pos, kw⟩) = Ak (dp + a) (un + b) c g := by
  unfold Around.under
  exact ⟨_, _, _, _, Nat.le_of_ble_eq_true rfl, Nat.le_of_ble_eq_true rfl, rfl⟩
theorem space_U {w : World} {dp un : Nat} {fr : Option (List Env)} {gd : Option (List Code)} {s : Shared} {p : Program} {loose : List Str} {mean : ExcName → Option Value} {mg mb : Str → Option Value} {E : Value → Shared → Prop} {Q : Value → Shared → Prop} {h₀ : Heap}
   {L : Addr} {m : Str → Option Value} {news : List (Addr × Obj)} {nm : Str} {t : Tok}
   (F : Fr h₀ L s.heap m) (N : News h₀ L s.heap news) (X : (mkK.heap_1 w.params).In h₀) (T : Top p loose mean mg mb h₀) (hd : dp + 20 < recursionLimit) (hu : un + 200 < cLine)
   (hQ : ∀ x dx es n f h' tk', (∀ p ∈ news, p.1 < dx) → dx < x → DA es 17 f → Fr h₀ L h' m → News h₀ L h' ((x, instObj 319 dx) :: (dx, dictOf es n) :: news) → Q (.ref x) { s with heap := h', toks := tk' }) :
   wpAny (model Challenge.pw_pf0272_01 w) (Ak dp un fr gd) (call (.ref 319) [.str nm t]) Q E s := by
  have _h : Challenge.rw_pf0272_01 = Challenge.rw_pf0272_01 ∧ mkK.heap_1 = mkK.heap_1 := by
    k_fill
    exact ⟨rfl, rfl⟩
  clear _h
  refine call_cls F X N (by k_is) (by k_is) (by k_is) fun x dx h' F' N' l1 l2 => ?_
  k_extra "g1"
  obtain ⟨a, b, c, gg, ha, hb, e⟩ := under_space dp un fr gd [.str nm t] []
  k_extra "g2"
  rw [e]
  have hx : (dx, dictOf [] 0) ∈ (x, instObj 319 dx) :: (dx, dictOf [] 0) :: news := .tail _ (.head _)
  refine codeAny_mono (init_A (s := { s with heap := h' }) (Q := fun v s' => InitBack x (fun r s' => match r with | .ok (.ret v) => Q v s' | .ok _ => False | .error e => E e s') (.ok (.ret v)) s') (E := fun e s' => E e s') F'.keep X T (by lia) (by lia) (fun p hp => ?_) l2 fun es n f h₂ tk₂ hDA k₂ g₂ => ?_) fun r s' hr => ?_
  · rcases List.mem_cons.mp hp with rfl | hp
    · exact ⟨(N' _ (.head _)).1, (N' _ (.head _)).2.2⟩
    · rw [List.mem_singleton.mp hp]
      exact ⟨(N' _ hx).1, (N' _ hx).2.2⟩
  · refine ⟨rfl, hQ x dx es n f h₂ tk₂ l1 l2 hDA (fr_upd F' N' hx k₂) (news_upd (o := dictOf [] 0) N' k₂ g₂ ?_)⟩
    refine .tail (Nat.ne_of_gt l2) (.head fun p hp => Nat.ne_of_lt (l1 p hp))
  · cases r with
    | error e => exact hr
    | ok fl => cases fl <;> exact hr
section
variable {prog : Program} {w : World} {A : Around} {E : Value → Shared → Prop} {s : Shared} {K : Frag} {x C dx L : Addr} {h₀ : Heap} {m : Str → Option Value} {news : List (Addr × Obj)} {es : List DictEntry} {n k : Nat} {name : Str} {v : Value} {f : Str → Option Value}
theorem getA {expr : Bool} {Q : Value → Shared → Prop} {attr : Option Value} (F : Fr h₀ L s.heap m) (X₀ : K.In h₀) (N : News h₀ L s.heap news) (h1 : (x, instObj C dx) ∈ news) (h2 : (dx, dictOf es n) ∈ news) (hD : DA es k f) (hl : f name = some v)
    (hg : plainGet K C name = true) (hh : hasDictIn K C = true)
    (ha : findIn K (.ref C) name = some attr) (hn : noGet K attr = true) (hv : handedIn v = true) (h : Q v { s with toks := s.toks + 1 }) :
    wpAny (model prog w) A (getAttr (.ref x) name expr) Q E s :=
  get_own F X₀ (.of_news N h1 h2) hg hh ha hn ((hD.1 name).trans (congrArg some hl)) hv h
theorem isStr_eq {k : Value} {a b : Str} (ha : k.isStr a = true) : k.isStr b = (a == b) := by
  cases k <;> simp only [Value.isStr] at ha ⊢ <;> first | (cases ha; done) | skip
  rw [eq_of_beq ha]
theorem isStr_ref {k : Value} {a : Str} (ha : k.isStr a = true) (v v' : Value) (h h' : Int) : DictEntry.refKey ⟨h, k, v⟩ = false := by
  cases k <;> first | rfl | cases ha
theorem putL_any (hsh : Int) (t : Tok) (v : Value) : ∀ es : List DictEntry, (putL name hsh (.str name t) v es).any (·.refKey) = es.any (·.refKey) := by
  intro es
  induction es with
  | nil => exact rfl
  | cons e r ih =>
    unfold putL
    split
    · rename_i q
      simp only [List.any_cons]
      rw [isStr_ref q v v _ 0]
      have : e.refKey = false := isStr_ref q e.val v e.hash 0
      rw [this]
    · simp only [List.any_cons, ih]
theorem putL_self (hsh : Int) (t : Tok) (v : Value) : ∀ es : List DictEntry, ((putL name hsh (.str name t) v es).find? (·.key.isStr name)).map (·.val) = some v := by
  intro es
  induction es with
  | nil =>
    have : (Value.str name t).isStr name = true := by simp [Value.isStr]
    simp only [putL, List.find?_cons, this, Option.map_some]
  | cons e r ih =>
    unfold putL
    split
    · rename_i q
      simp only [List.find?_cons, q, Option.map_some]
    · rename_i q
      simp only [List.find?_cons, Bool.not_eq_true] at q ⊢
      rw [q]
      exact ih
theorem putL_other {y : Str} (hy : y ≠ name) (hsh : Int) (t : Tok) (v : Value) : ∀ es : List DictEntry, ((putL name hsh (.str name t) v es).find? (·.key.isStr y)).map (·.val) = (es.find? (·.key.isStr y)).map (·.val) := by
  intro es
  induction es with
  | nil =>
    have h1 : (Value.str name t).isStr name = true := by simp [Value.isStr]
    have h2 : (Value.str name t).isStr y = false := by rw [isStr_eq h1, beq_eq_false_iff_ne]; exact Ne.symm hy
    simp only [putL, List.find?_cons, h2, List.find?_nil]
  | cons e r ih =>
    unfold putL
    split
    · rename_i q
      have h2 : e.key.isStr y = false := by rw [isStr_eq q, beq_eq_false_iff_ne]; exact Ne.symm hy
      simp only [List.find?_cons, h2]
    · simp only [List.find?_cons]
      split
      · rfl
      · exact ih
theorem getL_map (y : Str) (es : List DictEntry) : getL y es = match (es.find? (·.key.isStr y)).map (·.val) with
    | some v => some (some v)
    | none => if es.any (·.refKey) then none else some none := by
  unfold getL
  cases es.find? (·.key.isStr y) <;> rfl
theorem putL_len (hsh : Int) (key v : Value) : ∀ es : List DictEntry, (putL name hsh key v es).length ≤ es.length + 1 := by
  intro es
  induction es with
  | nil => exact Nat.le_refl _
  | cons e r ih =>
    unfold putL
    split
    · simp
    · simpa using ih
theorem da_put (hD : DA es k f) (hsh : Int) (t : Tok) (v : Value) : DA (putL name hsh (.str name t) v es) (k + 1) (fun y => if y = name then some v else f y) := by
  refine ⟨fun y => ?_, Nat.le_trans (putL_len _ _ _ _) (Nat.add_le_add_right hD.2 1)⟩
  rw [getL_map, putL_any]
  by_cases hy : y = name
  · subst hy
    rw [putL_self]; dsimp only; rw [if_pos rfl]
  · rw [putL_other hy, ← getL_map]; dsimp only; rw [if_neg hy]; exact hD.1 y
theorem setA {news' : List DictEntry → Nat → List (Addr × Obj)} {Q : Unit → Shared → Prop} (F : Fr h₀ L s.heap m) (X₀ : K.In h₀) (N : News h₀ L s.heap news) (h1 : (x, instObj C dx) ∈ news) (h2 : (dx, dictOf es n) ∈ news) (hD : DA es k f)
    (hs : findIn K (.ref C) "__setattr__" = some (some (.builtin "object.__setattr__"))) (hp : plainOver K C = true) (ht : takerIn K C name = some none) (hh : hasDictIn K C = true)
    (U : ∀ es' n', Upd dx (dictOf es n) (dictOf es' n') news (news' es' n')) (hz : k + 1 ≤ 1000)
    (h : ∀ h' es' n', Fr h₀ L h' m → DA es' (k + 1) (fun y => if y = name then some v else f y) → News h₀ L h' (news' es' n') → Q () { s with heap := h', toks := s.toks + 2 }) :
    wpAny (model prog w) A (setAttr (.ref x) name v) Q E s :=
  set_dict F X₀ N (.of_news N h1 h2) rfl hs hp ht hh (by rw [hD.1 name]; rfl) rfl (U _ _) (Nat.le_trans (putL_len _ _ _ _) (Nat.le_trans (Nat.add_le_add_right hD.2 1) hz))
    fun h' F' N' => h h' _ _ F' (da_put hD _ _ v) N'
theorem methA {pl : Sem Bool} {Q : Value × List Value → Shared → Prop} (F : Fr h₀ L s.heap m) (X₀ : K.In h₀) (N : News h₀ L s.heap news) (h1 : (x, instObj C dx) ∈ news) (h2 : (dx, dictOf es n) ∈ news) (hD : DA es k f) (hl : f name = some v)
    (hg : plainGet K C name = true) (hh : hasDictIn K C = true) (ha : findIn K (.ref C) name = some none) (hv : handedIn v = true) (h : Q (v, []) { s with toks := s.toks + 1 }) :
    wpAny (model prog w) A (getMethod (.ref x) name pl) Q E s :=
  method_usual (X₀.keeps F.keep) (.of_news N h1 h2) (plainGet_of hg).1 (plainGet_of hg).2 ha rfl (getA F X₀ N h1 h2 hD hl hg hh ha rfl hv h)
end
end
noncomputable section
open PyProof.Rows.LCg
section
variable {prog : Program} {w : World} {A : Around} {E : Value → Shared → Prop} {R : Result → Shared → Prop} {s : Shared} {env : Env}
theorem kw_47 : True := by
  k_with_none
  k_with "g1" => refine by_goal fun zG zh => ?_
  k_with "g2" => (refine zh ?_; clear zh zG)
  trivial
theorem for_own {x : Str} {px : Pos} {body : List Stmt} {xv : Value} {h₀ : Heap} {m₀ : Str → Option Value} {news₀ : List (Addr × Obj)} {n : Nat} {P : Nat → Value → Prop} (J : Nat → (Str → Option Value) → List (Addr × Obj) → Prop)
    {own : List Addr} (hsrc : SrcO own prog w A xv (.Name x px) n P [] s) (hx : env.kindOf x = some .local)
    (hp : (env.scope.kind == .class || (env.scope.kind == .module && env.locals != env.globals)) = false)
    (F : Fr h₀ env.locals s.heap m₀) (N : News h₀ env.locals s.heap news₀) (j0 : J 0 m₀ news₀)
    (hnL : ∀ b ∈ own, b ≠ env.locals) (hfp : ∀ b ∈ own, ∀ o, s.heap.get? b = some o → ∀ i m news h, J i m news → Fr h₀ env.locals h m → News h₀ env.locals h news → h.get? b = some o)
    (turn : ∀ i v m₁ news₁ I o h tk, P i v → i < n → J i m₁ news₁ → (∀ p ∈ news₀, @LT.lt Nat _ p.1 I) → (∀ p ∈ news₁, @Ne Nat p.1 I) → Fr h₀ env.locals h (fun y => if y = x then some v else m₁ y) → News h₀ env.locals h ((I, o) :: news₁) →
      wpN (model prog w) A (execs body env) (fun f s' => match f with
        | .next | .cont => ∃ h' tk' m' news', s' = { s with heap := h', toks := tk' } ∧ Fr h₀ env.locals h' m' ∧ News h₀ env.locals h' ((I, o) :: news') ∧ (∀ p ∈ news', @Ne Nat p.1 I) ∧ J (i + 1) m' news'
        | .brk => R (.ok .next) s' | .ret v => R (.ok (.ret v)) s') (fun _ _ => False) { s with heap := h, toks := tk })
    (done : ∀ m₁ news₁ h tk, J n m₁ news₁ → Fr h₀ env.locals h m₁ → News h₀ env.locals h news₁ → R (.ok .next) { s with heap := h, toks := tk })
    (ht : ∀ v I, letOwnedTupleGo (.Name x px) I v = pure () := by intro _ _; rfl) :
    wpAny (model prog w) A (pyIter xv) (fun it s₂ => codeN (model prog w) A (.forLoop (.Name x px) it body [] env) R s₂) E s := by
  refine hsrc _ _ fun o fp St W ho hst hfo lot hIo => ?_
  have hlt : ∀ p ∈ news₀, @LT.lt Nat _ p.1 s.heap.objs.size := fun p hp => Heap.lt_size (N p hp).1
  have hLI : @LT.lt Nat _ env.locals s.heap.objs.size := F.ns.lt
  have hI : (s.heap.push o).get? s.heap.objs.size = some o := Heap.get?_push_size _ ho
  have up : ∀ b ob, s.heap.get? b = some ob → (s.heap.push o).get? b = some ob := fun b ob e => Heap.get?_push_of_some _ e
  have hIn : h₀.get? s.heap.objs.size = none := by
    cases q : h₀.get? s.heap.objs.size with
    | none => rfl
    | some ob => exact absurd (Heap.lt_size (F.keep _ _ q)) (Nat.lt_irrefl _)
  have N0 : News h₀ env.locals (s.heap.push o) news₀ := fun p hp => ⟨up _ _ (N p hp).1, (N p hp).2⟩
  have F0 := F.push o
  generalize s.heap.objs.size = I at *
  refine codeN_forLoop
    (fun k s' => ∃ h' tk m' news' i o, s' = { s with heap := h', toks := tk } ∧ St i h' ∧ h'.get? I = some o ∧ Fr h₀ env.locals h' m' ∧ News h₀ env.locals h' news' ∧ (∀ p ∈ news', @Ne Nat p.1 I) ∧ J i m' news' ∧ i ≤ n ∧ k = n + 1 - i) ?_ (n + 1)
    ⟨_, s.toks, m₀, news₀, 0, o, rfl, hst, hI, F0, N0, (fun p hp => Nat.ne_of_lt (hlt p hp)), j0, Nat.zero_le _, rfl⟩ (fun v => ht v _)
  rintro k s' zx
  k_extra "g1"
  obtain ⟨H, tk, m', news', i, oI, rfl, hst', hoI, F', N', hne, hJ, hi, rfl⟩ := zx
  k_extra "g2"
  by_cases hin : i < n
  · refine W.item _ _ _ _ hin hst' fun v h₁ tk₁ hP hst₁ hk₁ => ?_
    obtain ⟨o₁, ho₁⟩ := hIo _ _ hst₁
    have nI : ∀ b : Nat, b ≠ I → b ∉ [I] := fun b hb => by simpa using hb
    have F₁ : Fr h₀ env.locals h₁ m' := ⟨F'.ns.at' fun o e => hk₁ _ o (nI _ (Nat.ne_of_lt hLI)) e, fun b o e => hk₁ b o (nI _ fun e' => by rw [e', hIn] at e; cases e) (F'.keep b o e), F'.above⟩
    have N₁ : News h₀ env.locals h₁ news' := fun p hp => ⟨hk₁ _ _ (nI _ (hne p hp)) (N' p hp).1, (N' p hp).2⟩
    refine wpAny_assign_Name (wpAny_storeName_local hx F₁.ns (fun h₂ hn₂ hs₂ => ?_) hp)
    have F₂ := F₁.set hn₂ hs₂
    have N₂ := N₁.set hs₂
    have ho₂ : h₂.get? I = some o₁ := hs₂.extBut _ _ (Nat.ne_of_gt hLI) ho₁
    have hst₂ : St (i + 1) h₂ := W.frame _ _ _ hst₁ fun b hb ob e => hs₂.extBut _ _ (fun q => by
      by_cases hbI : b = I
      · exact absurd (hbI.symm.trans q) (Nat.ne_of_gt hLI)
      · exact hnL b (hfo b hb hbI).2.2 q) e
    · refine wpN_mono (turn i v m' news' I o₁ h₂ _ hP hin hJ hlt hne F₂ fun p hp => ?_) (fun f s₃ h₃ => ?_) fun _ _ e => e
      · rcases List.mem_cons.mp hp with rfl | hp
        · exact ⟨ho₂, Nat.ne_of_gt hLI, hIn⟩
        · exact N₂ p hp
      · have fin : (∃ h' tk' m' news', s₃ = { s with heap := h', toks := tk' } ∧ Fr h₀ env.locals h' m' ∧ News h₀ env.locals h' ((I, o₁) :: news') ∧ (∀ p ∈ news', @Ne Nat p.1 I) ∧ J (i + 1) m' news') →
            ∃ m, m < n + 1 - i ∧ ∃ h' tk m' news' i o, s₃ = { s with heap := h', toks := tk } ∧ St i h' ∧ h'.get? I = some o ∧ Fr h₀ env.locals h' m' ∧ News h₀ env.locals h' news' ∧ (∀ p ∈ news', @Ne Nat p.1 I) ∧ J i m' news' ∧ i ≤ n ∧ m = n + 1 - i := by
          rintro zx
          k_extra "g1"
          obtain ⟨h₄, tk₃, m₃, news₃, rfl, F₃, N₃, hne₃, hJ₃⟩ := zx
          k_extra "g2"
          have hI₄ := (N₃ _ (.head _)).1
          refine ⟨n + 1 - (i + 1), by lia, h₄, tk₃, m₃, news₃, i + 1, o₁, rfl, W.frame _ _ _ hst₂ fun b hb ob e => ?_, hI₄, F₃, fun p hp => N₃ p (.tail _ hp), hne₃, hJ₃, hin, rfl⟩
          by_cases hbI : b = I
          · subst hbI
            rw [ho₂] at e; cases e; exact hI₄
          · k_extra "g1"
            obtain ⟨⟨ob', e'⟩, -, hxv⟩ := hfo b hb hbI
            k_extra "g2"
            have e2 := hfp b hxv ob' e' _ _ _ _ hJ F' N'
            have e3 := hs₂.extBut b ob' (hnL b hxv) (hk₁ b ob' (nI _ hbI) e2)
            rw [e] at e3; cases e3
            exact hfp b hxv ob e' _ _ _ _ hJ₃ F₃ fun p hp => N₃ p (.tail _ hp)
        cases f with
        | next => exact fin h₃
        | cont => exact fin h₃
        | brk => exact h₃
        | ret v => exact h₃
  · obtain rfl : i = n := Nat.le_antisymm hi (Nat.not_lt.mp hin)
    refine W.done _ _ _ hst' fun h₁ tk₁ hk₁ => ?_
    have nI : ∀ b : Nat, b ≠ I → b ∉ [I] := fun b hb => by simpa using hb
    refine done m' news' h₁ tk₁ hJ ⟨F'.ns.at' fun o e => hk₁ _ o (nI _ (Nat.ne_of_lt hLI)) e, fun b o e => hk₁ b o (nI _ fun e' => by rw [e', hIn] at e; cases e) (F'.keep b o e), F'.above⟩ fun p hp => ⟨hk₁ _ _ (nI _ (hne p hp)) (N' p hp).1, (N' p hp).2⟩
end
end
noncomputable section
open PyProof.Rows.LCg
theorem kw_48 : True := by
  k_with_none
  k_with "g1" => refine by_goal fun zG zh => ?_
  k_with "g2" => (refine zh ?_; clear zh zG)
  trivial
theorem lt_head {a : Addr} {o : Obj} {r : List (Addr × Obj)} {d : Addr} (h : ∀ p ∈ (a, o) :: r, p.1 < d) : @LT.lt Nat _ a d := h (a, o) (.head _)
theorem all_gt {c d : Nat} {r : List (Addr × Obj)} (h : ∀ p ∈ r, @LT.lt Nat _ c p.1) (hd : d ≤ c) : ∀ p ∈ r, @Ne Nat p.1 d := fun p hp => Nat.ne_of_gt (Nat.lt_of_le_of_lt hd (h p hp))
noncomputable abbrev Wf := Addr × Obj × Fd
noncomputable def ents (ws : List Wf) : List (Addr × Obj) := ws.map fun f => (f.1, f.2.1)
noncomputable def wadr (ws : List Wf) : List Addr := ws.map (·.1)
noncomputable def WOk (c : Addr) (ws : List Wf) : Prop := ∀ f ∈ ws, FrO f.2.1 f.2.2 ∧ f.2.2.ok ∧ @LT.lt Nat _ c f.1
noncomputable def isStrm (ws : List Wf) : Prop := ∀ f ∈ ws, ∃ num off b, f.2.2 = .strm num off b
noncomputable def drop2 (a b : Addr) (E : List (Addr × Obj)) : List (Addr × Obj) := E.filter fun p => decide (@Ne Nat p.1 a ∧ @Ne Nat p.1 b)
theorem drop2_ne {a b : Addr} {E : List (Addr × Obj)} {p : Addr × Obj} (h : p ∈ drop2 a b E) : p ∈ E ∧ @Ne Nat p.1 a ∧ @Ne Nat p.1 b := by
  obtain ⟨h1, h2⟩ := List.mem_filter.mp h
  exact ⟨h1, of_decide_eq_true h2⟩
theorem drop2_in {a b : Addr} {E : List (Addr × Obj)} {p : Addr × Obj} (h : p ∈ E) (h1 : @Ne Nat p.1 a) (h2 : @Ne Nat p.1 b) : p ∈ drop2 a b E := List.mem_filter.mpr ⟨h, decide_eq_true ⟨h1, h2⟩⟩
theorem ents_mem {ws : List Wf} {p : Addr × Obj} (h : p ∈ ents ws) : ∃ f ∈ ws, p = (f.1, f.2.1) := by
  k_extra "g1"
  obtain ⟨f, hf, rfl⟩ := List.mem_map.mp h
  k_extra "g2"
  exact ⟨f, hf, rfl⟩
theorem ents_map (ws : List Wf) : (ents ws).map (·.1) = wadr ws := by simp [ents, wadr]
theorem ents_lt {c : Addr} {ws : List Wf} (W : WOk c ws) : ∀ p ∈ ents ws, @LT.lt Nat _ c p.1 := fun p hp => by
  k_extra "g1"
  obtain ⟨f, hf, rfl⟩ := ents_mem hp
  k_extra "g2"
  exact (W f hf).2.2
theorem refs_sz {ws : List Wf} {n : Nat} (h : ws.length ≤ n) (hn : n ≤ 100) : (refs (wadr ws)).size ≤ sizeLine := by
  rw [sizeLine_eq]; simp [refs, wadr]; lia
noncomputable def Bel (as : List Addr) (c : Nat) : Prop := as.Nodup ∧ ∀ a ∈ as, @LE.le Nat _ a c
theorem bel_step {G : Prop} {E : List (Addr × Obj)} {D : Addr} {c : Nat} (h : ∀ p ∈ E, p.1 < D) (B : Bel (E.map (·.1)) c) (k : Bel (D :: E.map (·.1)) D → G) : G := by
  refine k ⟨List.nodup_cons.mpr ⟨fun q => ?_, B.1⟩, fun a ha => ?_⟩
  · k_extra "g1"
    obtain ⟨p, hp, e⟩ := List.mem_map.mp q
    k_extra "g2"
    have := h p hp
    rw [e] at this; exact absurd this (Nat.lt_irrefl _)
  · rcases List.mem_cons.mp ha with rfl | ha
    · exact Nat.le_refl _
    · k_extra "g1"
      obtain ⟨p, hp, rfl⟩ := List.mem_map.mp ha
      k_extra "g2"
      exact Nat.le_of_lt (h p hp)
theorem bel_step2 {G : Prop} {E : List (Addr × Obj)} {as : List Addr} {D : Addr} {c : Nat} (h : ∀ p ∈ E, p.1 < D) (B : Bel as c) (e : E.map (·.1) = as) (k : Bel (D :: as) D → G) : G := by
  subst e; exact bel_step h B k
theorem bel_two {G : Prop} {as : List Addr} {c f : Nat} (h : @LT.lt Nat _ c f) (B : Bel as c) (k : Bel (f :: as) f → G) : G := by
  refine k ⟨List.nodup_cons.mpr ⟨fun q => absurd (Nat.lt_of_lt_of_le h (B.2 _ q)) (Nat.lt_irrefl _), B.1⟩, fun a ha => ?_⟩
  rcases List.mem_cons.mp ha with rfl | ha
  · exact Nat.le_refl _
  · exact Nat.le_trans (B.2 _ ha) (Nat.le_of_lt h)
theorem bel_tail {h₀ h : Heap} {L : Addr} {E tl : List (Addr × Obj)} {as : List Addr} {c : Nat} (B : Bel as c) (N : News h₀ L h E) (hE : E.map (·.1) = as ++ tl.map (·.1)) (hn : (tl.map (·.1)).Nodup) (hc : ∀ p ∈ tl, p.1 ∉ as) : Bel (E.map (·.1)) h.objs.size := by
  refine ⟨?_, fun a ha => ?_⟩
  · rw [hE]
    refine List.nodup_append.mpr ⟨B.1, hn, fun a ha b hb e => ?_⟩
    k_extra "g1"
    obtain ⟨p, hp, rfl⟩ := List.mem_map.mp hb
    k_extra "g2"
    exact hc p hp (e ▸ ha)
  · k_extra "g1"
    obtain ⟨p, hp, rfl⟩ := List.mem_map.mp ha
    k_extra "g2"
    exact Nat.le_of_lt (Heap.lt_size (N p hp).1)
theorem bel_comp {h₀ h h3 : Heap} {L D : Addr} {EE E1 cr : List (Addr × Obj)} {ob : Obj} {c : Nat} (N3 : News h₀ L h3 EE) (B : Bel (EE.map (·.1)) c) (hall : ∀ q ∈ EE, @LT.lt Nat _ q.1 D) (hcr : ∀ q ∈ cr, h3.get? q.1 = none ∧ @Ne Nat q.1 D) (hn : (cr.map (·.1)).Nodup) (N : News h₀ L h ((D, ob) :: (E1 ++ cr))) (hE : E1.map (·.1) = EE.map (·.1)) : Bel (((D, ob) :: (E1 ++ cr)).map (·.1)) h.objs.size := by
  refine bel_step hall B fun B2 => ?_
  refine bel_tail B2 N (tl := cr) (by simp [hE]) hn fun p hp q => ?_
  rcases List.mem_cons.mp q with e | q
  · exact (hcr p hp).2 e
  · k_extra "g1"
    obtain ⟨r, hr, e⟩ := List.mem_map.mp q
    k_extra "g2"
    have := (N3 r hr).1
    rw [e, (hcr p hp).1] at this; cases this
theorem bel_sub {as bs : List Addr} {c : Nat} (B : Bel as c) (h : bs.Sublist as) : Bel bs c := ⟨h.nodup B.1, fun a ha => B.2 a (h.subset ha)⟩
noncomputable def UW (d : Addr) (o o' : Obj) (E E' : List (Addr × Obj)) : Prop := (E.map (·.1)).Nodup → Upd d o o' E E' ∧ d ∈ E.map (·.1)
theorem UW.head {d : Addr} {o o' : Obj} {r : List (Addr × Obj)} : UW d o o' ((d, o) :: r) ((d, o') :: r) := fun h =>
  ⟨.head fun p hp e => (List.nodup_cons.mp h).1 (List.mem_map.mpr ⟨p, hp, e⟩), .head _⟩
theorem UW.tail {d : Addr} {o o' : Obj} {q : Addr × Obj} {r r' : List (Addr × Obj)} (u : UW d o o' r r') : UW d o o' (q :: r) (q :: r') := fun h => by
  obtain ⟨a, x⟩ := q
  obtain ⟨h1, h2⟩ := List.nodup_cons.mp h
  obtain ⟨u1, u2⟩ := u h2
  exact ⟨.tail (fun e => h1 (by have e : a = d := e; subst e; exact u2)) u1, .tail _ u2⟩
theorem UW.upd {d : Addr} {o o' : Obj} {E E' : List (Addr × Obj)} {c : Nat} (B : Bel (E.map (·.1)) c) (u : UW d o o' E E') : Upd d o o' E E' := (u B.1).1
noncomputable def UV (d : Addr) (o : Obj) (E : List (Addr × Obj)) (g : Obj → List (Addr × Obj)) : Prop := (E.map (·.1)).Nodup → UpdF d o E g ∧ d ∈ E.map (·.1)
theorem UV.head {d : Addr} {o : Obj} {r : List (Addr × Obj)} : UV d o ((d, o) :: r) (fun o' => (d, o') :: r) := fun h =>
  ⟨.head fun p hp e => (List.nodup_cons.mp h).1 (List.mem_map.mpr ⟨p, hp, e⟩), .head _⟩
theorem UV.tail {d : Addr} {o : Obj} {q : Addr × Obj} {r : List (Addr × Obj)} {g : Obj → List (Addr × Obj)} (u : UV d o r g) : UV d o (q :: r) (fun o' => q :: g o') := fun h => by
  obtain ⟨a, x⟩ := q
  obtain ⟨h1, h2⟩ := List.nodup_cons.mp h
  obtain ⟨u1, u2⟩ := u h2
  exact ⟨.tail (fun e => h1 (by have e : a = d := e; subst e; exact u2)) u1, .tail _ u2⟩
theorem UV.upd {d : Addr} {o : Obj} {E : List (Addr × Obj)} {g : Obj → List (Addr × Obj)} {c : Nat} (B : Bel (E.map (·.1)) c) (u : UV d o E g) : UpdF d o E g := (u B.1).1
section
variable {prog : Program} {w : World} {A : Around} {E : Value → Shared → Prop} {R : Result → Shared → Prop} {s : Shared} {env : Env}
noncomputable abbrev sTurn : Str := Str.ofString "turn"
noncomputable abbrev sSize : Str := Str.ofString "size"
end
namespace state_loop
noncomputable def St0 (prog : Program) (w : World) (A : Around) (R : Result → Shared → Prop) (s : Shared) (env : Env) (E : Value → Shared → Prop) (px : Pos) (body : List Stmt) (r : Addr) (v : Int) (t1 : Tok) (t2 : Tok) (t3 : Tok) (h₀ : Heap) (m₀ : Str → Option Value) (EE : List (Addr × Obj)) (c : Addr) (bx : Addr) (bl : Addr) (wl : Addr) (cb : Addr) (cw : Addr) (oc : Obj) (ob : Obj) (ow : Obj) (k : Int) (t : Tok) (nb : Nat) (nw : Nat) : Prop := ∀ (hh : A.handled = none) (hr : IsRange s.heap r 0 v 1 t1 t2 t3) (hv0 : 0 ≤ v) (hv1 : v < 4) (hx : env.kindOf sTurn = some .local) (hp : (env.scope.kind == .class || (env.scope.kind == .module && env.locals != env.globals)) = false) (F : Fr h₀ env.locals s.heap m₀) (N : News h₀ env.locals s.heap EE) (hcm : (c, oc) ∈ EE) (hb : (bx, W.listOf #[.ref bl, .int k t] nb) ∈ EE) (hw : (wl, W.listOf #[] nw) ∈ EE) (hcb : (cb, ob) ∈ EE) (hcw : (cw, ow) ∈ EE) (n1 : @Ne Nat wl bx) (n2 : @Ne Nat cb bx) (n3 : @Ne Nat cb wl) (n4 : @Ne Nat cw bx) (n5 : @Ne Nat cw wl) (hc : ∀ p ∈ EE, @LE.le Nat _ p.1 c) (turn : ∀ (i : Nat) (m₁ : Str → Option Value) (rest : List (Addr × Obj)) (ws : List Wf) k' t' nb' nw' I o h tk tt, i < 3 → k ≤ k' → k' ≤ k + 2 * (i : Int) → ws.length = i → WOk c ws → @LT.lt Nat _ c I → @LE.le Nat _ bx c → @LE.le Nat _ wl c → @LE.le Nat _ cb c → @LE.le Nat _ cw c → (∀ p ∈ rest, @Ne Nat p.1 bx) → (∀ p ∈ rest, @Ne Nat p.1 wl) → (∀ p ∈ ents ws, p ∈ rest) →
      Fr h₀ env.locals h (fun y => if y = sTurn then some (.int (0 + (i : Int)) tt) else m₁ y) →
      News h₀ env.locals h ((I, o) :: (bx, W.listOf #[.ref bl, .int k' t'] nb') :: (wl, W.listOf (refs (wadr ws)) nw') :: (cb, ob) :: (cw, ow) :: rest) →
      wpN (model prog w) A (execs body env) (fun f s' => f = .next ∧ ∃ h' tk' m' a o' d k2 u2 nb2 nw2, s' = { s with heap := h', toks := tk' } ∧ Fr h₀ env.locals h' m' ∧ (∀ y, y ≠ sTurn → y ≠ sSize → m' y = m₁ y) ∧
        News h₀ env.locals h' ((a, o') :: (I, o) :: (bx, W.listOf #[.ref bl, .int k2 u2] nb2) :: (wl, W.listOf (refs (wadr ws ++ [a])) nw2) :: (cb, ob) :: (cw, ow) :: rest) ∧ k ≤ k2 ∧ k2 ≤ k' + 2 ∧ @LT.lt Nat _ I a ∧ (∀ p ∈ ents ws, @Ne Nat p.1 a) ∧ FrO o' d ∧ d.ok ∧ ∃ num off b, d = .strm num off b)
        (fun _ _ => False) { s with heap := h, toks := tk }) (done : ∀ h tk ws k' u' nb' nw' sz tn, WOk c ws → isStrm ws → (wadr ws).Nodup → ws.length ≤ 3 → k ≤ k' → k' ≤ k + 6 → Fr h₀ env.locals h (fun y => if y = sSize then sz else if y = sTurn then tn else m₀ y) →
      (∀ E1 E2, Upd bx (W.listOf #[.ref bl, .int k t] nb) (W.listOf #[.ref bl, .int k' u'] nb') EE E1 → Upd wl (W.listOf #[] nw) (W.listOf (refs (wadr ws)) nw') E1 E2 → News h₀ env.locals h (E2 ++ ents ws)) →
      R (.ok .next) { s with heap := h, toks := tk }),
   wpAny (model prog w) A (pyIter (.ref r)) (fun it s₂ => codeN (model prog w) A (.forLoop (.Name sTurn px) it body [] env) R s₂) E s
noncomputable abbrev Ty0 : Type := (Program) × (World) × (Around) × (Result → Shared → Prop) × (Shared) × (Env) × (Value → Shared → Prop) × (Pos) × (List Stmt) × (Addr) × (Int) × (Tok) × (Tok) × (Tok) × (Heap) × (Str → Option Value) × (List (Addr × Obj)) × (Addr) × (Addr) × (Addr) × (Addr) × (Addr) × (Addr) × (Obj) × (Obj) × (Obj) × (Int) × (Tok) × (Nat) × (Nat)
theorem ne0 : Nonempty Ty0 := ⟨Classical.choice inferInstance, Classical.choice neW, Classical.choice neA, Classical.choice inferInstance, Classical.choice neS, Classical.choice inferInstance, Classical.choice inferInstance, Classical.choice inferInstance, Classical.choice inferInstance, Classical.choice inferInstance, Classical.choice inferInstance, Classical.choice inferInstance, Classical.choice inferInstance, Classical.choice inferInstance, Classical.choice inferInstance, Classical.choice inferInstance, Classical.choice inferInstance, Classical.choice inferInstance, Classical.choice inferInstance, Classical.choice inferInstance, Classical.choice inferInstance, Classical.choice inferInstance, Classical.choice inferInstance, Classical.choice inferInstance, Classical.choice inferInstance, Classical.choice inferInstance, Classical.choice inferInstance, Classical.choice inferInstance, Classical.choice inferInstance, Classical.choice inferInstance⟩
noncomputable def P0 (vv0 : Ty0) : Prop := St0 (vv0.1) (vv0.2.1) (vv0.2.2.1) (vv0.2.2.2.1) (vv0.2.2.2.2.1) (vv0.2.2.2.2.2.1) (vv0.2.2.2.2.2.2.1) (vv0.2.2.2.2.2.2.2.1) (vv0.2.2.2.2.2.2.2.2.1) (vv0.2.2.2.2.2.2.2.2.2.1) (vv0.2.2.2.2.2.2.2.2.2.2.1) (vv0.2.2.2.2.2.2.2.2.2.2.2.1) (vv0.2.2.2.2.2.2.2.2.2.2.2.2.1) (vv0.2.2.2.2.2.2.2.2.2.2.2.2.2.1) (vv0.2.2.2.2.2.2.2.2.2.2.2.2.2.2.1) (vv0.2.2.2.2.2.2.2.2.2.2.2.2.2.2.2.1) (vv0.2.2.2.2.2.2.2.2.2.2.2.2.2.2.2.2.1) (vv0.2.2.2.2.2.2.2.2.2.2.2.2.2.2.2.2.2.1) (vv0.2.2.2.2.2.2.2.2.2.2.2.2.2.2.2.2.2.2.1) (vv0.2.2.2.2.2.2.2.2.2.2.2.2.2.2.2.2.2.2.2.1) (vv0.2.2.2.2.2.2.2.2.2.2.2.2.2.2.2.2.2.2.2.2.1) (vv0.2.2.2.2.2.2.2.2.2.2.2.2.2.2.2.2.2.2.2.2.2.1) (vv0.2.2.2.2.2.2.2.2.2.2.2.2.2.2.2.2.2.2.2.2.2.2.1) (vv0.2.2.2.2.2.2.2.2.2.2.2.2.2.2.2.2.2.2.2.2.2.2.2.1) (vv0.2.2.2.2.2.2.2.2.2.2.2.2.2.2.2.2.2.2.2.2.2.2.2.2.1) (vv0.2.2.2.2.2.2.2.2.2.2.2.2.2.2.2.2.2.2.2.2.2.2.2.2.2.1) (vv0.2.2.2.2.2.2.2.2.2.2.2.2.2.2.2.2.2.2.2.2.2.2.2.2.2.2.1) (vv0.2.2.2.2.2.2.2.2.2.2.2.2.2.2.2.2.2.2.2.2.2.2.2.2.2.2.2.1) (vv0.2.2.2.2.2.2.2.2.2.2.2.2.2.2.2.2.2.2.2.2.2.2.2.2.2.2.2.2.1) (vv0.2.2.2.2.2.2.2.2.2.2.2.2.2.2.2.2.2.2.2.2.2.2.2.2.2.2.2.2.2)
@[irreducible] def vv0 : Ty0 := @ata _ ne0 0 P0
@[irreducible] def w : World := vv0.2.1
@[irreducible] def s : Shared := vv0.2.2.2.2.1
@[irreducible] def E : Value → Shared → Prop := vv0.2.2.2.2.2.2.1
@[irreducible] def r : Addr := vv0.2.2.2.2.2.2.2.2.2.1
@[irreducible] def v : Int := vv0.2.2.2.2.2.2.2.2.2.2.1
@[irreducible] def m₀ : Str → Option Value := vv0.2.2.2.2.2.2.2.2.2.2.2.2.2.2.2.1
@[irreducible] def EE : List (Addr × Obj) := vv0.2.2.2.2.2.2.2.2.2.2.2.2.2.2.2.2.1
@[irreducible] def c : Addr := vv0.2.2.2.2.2.2.2.2.2.2.2.2.2.2.2.2.2.1
@[irreducible] def bx : Addr := vv0.2.2.2.2.2.2.2.2.2.2.2.2.2.2.2.2.2.2.1
@[irreducible] def bl : Addr := vv0.2.2.2.2.2.2.2.2.2.2.2.2.2.2.2.2.2.2.2.1
@[irreducible] def wl : Addr := vv0.2.2.2.2.2.2.2.2.2.2.2.2.2.2.2.2.2.2.2.2.1
@[irreducible] def cb : Addr := vv0.2.2.2.2.2.2.2.2.2.2.2.2.2.2.2.2.2.2.2.2.2.1
@[irreducible] def cw : Addr := vv0.2.2.2.2.2.2.2.2.2.2.2.2.2.2.2.2.2.2.2.2.2.2.1
@[irreducible] def oc : Obj := vv0.2.2.2.2.2.2.2.2.2.2.2.2.2.2.2.2.2.2.2.2.2.2.2.1
@[irreducible] def ob : Obj := vv0.2.2.2.2.2.2.2.2.2.2.2.2.2.2.2.2.2.2.2.2.2.2.2.2.1
@[irreducible] def ow : Obj := vv0.2.2.2.2.2.2.2.2.2.2.2.2.2.2.2.2.2.2.2.2.2.2.2.2.2.1
@[irreducible] def k : Int := vv0.2.2.2.2.2.2.2.2.2.2.2.2.2.2.2.2.2.2.2.2.2.2.2.2.2.2.1
@[irreducible] def t : Tok := vv0.2.2.2.2.2.2.2.2.2.2.2.2.2.2.2.2.2.2.2.2.2.2.2.2.2.2.2.1
@[irreducible] def nb : Nat := vv0.2.2.2.2.2.2.2.2.2.2.2.2.2.2.2.2.2.2.2.2.2.2.2.2.2.2.2.2.1
@[irreducible] def nw : Nat := vv0.2.2.2.2.2.2.2.2.2.2.2.2.2.2.2.2.2.2.2.2.2.2.2.2.2.2.2.2.2
theorem prf0 : St0 (vv0.1) w (vv0.2.2.1) (vv0.2.2.2.1) s (vv0.2.2.2.2.2.1) E (vv0.2.2.2.2.2.2.2.1) (vv0.2.2.2.2.2.2.2.2.1) r v (vv0.2.2.2.2.2.2.2.2.2.2.2.1) (vv0.2.2.2.2.2.2.2.2.2.2.2.2.1) (vv0.2.2.2.2.2.2.2.2.2.2.2.2.2.1) (vv0.2.2.2.2.2.2.2.2.2.2.2.2.2.2.1) m₀ EE c bx bl wl cb cw oc ob ow k t nb nw := by
  intro hh hr hv0 hv1 hx hp F N hcm hb hw hcb hcw n1 n2 n3 n4 n5 hc turn done
  have hin : ∀ p, p ∈ EE → p = (bx, W.listOf #[.ref bl, .int k t] nb) ∨ p = (wl, W.listOf #[] nw) ∨ p ∈ drop2 bx wl EE := by
    intro p hp
    have uniq : ∀ q ∈ EE, p.1 = q.1 → p = q := fun q hq e => by
      have h1 := (N p hp).1
      have h2 := (N q hq).1
      rw [e, h2] at h1
      exact Prod.ext e (Option.some.inj h1).symm
    by_cases e1 : p.1 = bx
    · exact .inl (uniq _ hb e1)
    · by_cases e2 : p.1 = wl
      · exact .inr (.inl (uniq _ hw e2))
      · exact .inr (.inr (drop2_in hp e1 e2))
  have hcb' : @LE.le Nat _ bx c := hc _ hb
  have hcw' : @LE.le Nat _ wl c := hc _ hw
  refine for_own (news₀ := (bx, W.listOf #[.ref bl, .int k t] nb) :: (wl, W.listOf #[] nw) :: (cb, ob) :: (cw, ow) :: drop2 bx wl EE)
    (fun i m news => ∃ k' t' nb' nw' ws, news = (bx, W.listOf #[.ref bl, .int k' t'] nb') :: (wl, W.listOf (refs (wadr ws)) nw') :: (cb, ob) :: (cw, ow) :: (drop2 bx wl EE ++ ents ws) ∧ (∀ y, y ≠ sTurn → y ≠ sSize → m y = m₀ y) ∧ k ≤ k' ∧ k' ≤ k + 2 * (i : Int) ∧ ws.length = i ∧ WOk c ws ∧ isStrm ws ∧ (wadr ws).Nodup)
    (SrcO.range hh hr (small_one (by lia) (by lia) (by lia) (by lia)) (rangeSize_nat 0 v)) hx hp F ?_ ⟨k, t, nb, nw, [], by simp [ents, wadr, refs], fun _ _ _ => rfl, by lia, by lia, rfl, (fun f hf => nomatch hf), (fun f hf => nomatch hf), List.nodup_nil⟩
    (fun b hb => nomatch hb) (fun b hb => nomatch hb) ?_ ?_
  · intro p hp
    simp only [List.mem_cons] at hp
    rcases hp with rfl | rfl | rfl | rfl | hp
    · exact N _ hb
    · exact N _ hw
    · exact N _ hcb
    · exact N _ hcw
    · exact N _ (drop2_ne hp).1
  · rintro i vv m₁ news₁ I o h tk ⟨tt, rfl⟩ hi zx
    k_extra "g1"
    obtain ⟨k', t', nb', nw', ws, rfl, hm, hk1, hk2, hl, hW, hS, hND⟩ := zx
    k_extra "g2"
    rintro hlt hne F' N'
    have hcI : @LT.lt Nat _ c I := by
      rcases hin _ hcm with e | e | e
      · exact hlt (c, oc) (by rw [e]; exact .head _)
      · exact hlt (c, oc) (by rw [e]; exact .tail _ (.head _))
      · exact hlt (c, oc) (.tail _ (.tail _ (.tail _ (.tail _ e))))
    have ha : ∀ p ∈ drop2 bx wl EE ++ ents ws, @Ne Nat p.1 bx ∧ @Ne Nat p.1 wl := fun p hp => by
      rcases List.mem_append.mp hp with hp | hp
      · exact (drop2_ne hp).2
      · have := ents_lt hW p hp
        have h1 := hc _ hb
        have h2 := hc _ hw
        exact ⟨Nat.ne_of_gt (Nat.lt_of_le_of_lt h1 this), Nat.ne_of_gt (Nat.lt_of_le_of_lt h2 this)⟩
    refine wpN_mono (turn i m₁ (drop2 bx wl EE ++ ents ws) ws k' t' nb' nw' I o h tk tt (by lia) hk1 hk2 hl hW hcI (hc _ hb) (hc _ hw) (hc _ hcb) (hc _ hcw) (fun p hp => (ha p hp).1) (fun p hp => (ha p hp).2) (fun p hp => List.mem_append_right _ hp) F' N') ?_ fun _ _ q => q
    rintro f s' zx
    k_extra "g1"
    obtain ⟨rfl, h', tk', m', a, o', d, k2, u2, nb2, nw2, rfl, F2, hm2, N2, h1, h2, h3, h7, h4, h5, h6⟩ := zx
    k_extra "g2"
    refine ⟨h', tk', m', (bx, W.listOf #[.ref bl, .int k2 u2] nb2) :: (wl, W.listOf (refs (wadr ws ++ [a])) nw2) :: (cb, ob) :: (cw, ow) :: (drop2 bx wl EE ++ ents (ws ++ [(a, o', d)])), rfl, F2, ?_, ?_, k2, u2, nb2, nw2, ws ++ [(a, o', d)], ?_, fun y q1 q2 => (hm2 y q1 q2).trans (hm y q1 q2), h1, by lia, by simp [hl], ?_, ?_, ?_⟩
    · intro p hp
      refine N2 p ?_
      simp only [ents, List.map_append, List.map_cons, List.map_nil, List.mem_cons, List.mem_append, List.not_mem_nil, or_false] at hp ⊢
      rcases hp with hp | hp | hp | hp | hp | hp | hp | hp <;> simp [hp]
    · intro p hp
      simp only [List.mem_cons, List.mem_append] at hp
      rcases hp with rfl | rfl | rfl | rfl | hp | hp
      · exact Nat.ne_of_lt (Nat.lt_of_le_of_lt hcb' hcI)
      · exact Nat.ne_of_lt (Nat.lt_of_le_of_lt hcw' hcI)
      · exact Nat.ne_of_lt (Nat.lt_of_le_of_lt (hc _ hcb) hcI)
      · exact Nat.ne_of_lt (Nat.lt_of_le_of_lt (hc _ hcw) hcI)
      · exact Nat.ne_of_lt (Nat.lt_of_le_of_lt (hc _ (drop2_ne hp).1) hcI)
      · k_extra "g1"
        obtain ⟨f, hf, rfl⟩ := ents_mem hp
        k_extra "g2"
        rcases List.mem_append.mp hf with hf | hf
        · exact hne _ (.tail _ (.tail _ (.tail _ (.tail _ (List.mem_append_right _ (List.mem_map_of_mem hf))))))
        · rw [List.mem_singleton.mp hf]; exact Nat.ne_of_gt h3
    · simp [wadr]
    · intro f hf
      rcases List.mem_append.mp hf with hf | hf
      · exact hW f hf
      · rw [List.mem_singleton.mp hf]; exact ⟨h4, h5, Nat.lt_trans hcI h3⟩
    · intro f hf
      rcases List.mem_append.mp hf with hf | hf
      · exact hS f hf
      · rw [List.mem_singleton.mp hf]; exact h6
    · show (List.map (·.1) (ws ++ [(a, o', d)])).Nodup
      rw [List.map_append]
      refine List.nodup_append.mpr ⟨hND, by simp, fun x hx y hy e => ?_⟩
      k_extra "g1"
      obtain ⟨f, hf, rfl⟩ := List.mem_map.mp hx
      k_extra "g2"
      exact h7 (f.1, f.2.1) (List.mem_map_of_mem hf) (e.trans (List.mem_singleton.mp hy))
  · rintro m₁ news₁ h tk zx
    k_extra "g1"
    obtain ⟨k', t', nb', nw', ws, rfl, hm, hk1, hk2, hl, hW, hS, hND⟩ := zx
    k_extra "g2"
    rintro F' N'
    refine done h tk ws k' t' nb' nw' (m₁ sSize) (m₁ sTurn) hW hS hND (by lia) hk1 (by lia) ?_ ?_
    · have : (fun y => if y = sSize then m₁ sSize else if y = sTurn then m₁ sTurn else m₀ y) = m₁ := by
        funext y
        by_cases e1 : y = sSize
        · rw [e1, if_pos rfl]
        · by_cases e2 : y = sTurn
          · rw [if_neg e1, e2, if_pos rfl]
          · rw [if_neg e1, if_neg e2, hm y e2 e1]
      rw [this]; exact F'
    · intro E1 E2 U1 U2 p hp
      refine N' p ?_
      rcases List.mem_append.mp hp with hp | hp
      · rcases upd_or U2 p hp with rfl | ⟨hp, q1⟩
        · exact .tail _ (.head _)
        · rcases upd_or U1 p hp with rfl | ⟨hp, q2⟩
          · exact .head _
          · exact .tail _ (.tail _ (.tail _ (.tail _ (List.mem_append_left _ (drop2_in hp q2 q1)))))
      · exact .tail _ (.tail _ (.tail _ (.tail _ (List.mem_append_right _ hp))))
end state_loop
theorem state_loop {prog : Program} {w : World} {A : Around} {R : Result → Shared → Prop} {s : Shared} {env : Env} {E : Value → Shared → Prop} {px : Pos} {body : List Stmt} {r : Addr} {v : Int} {t1 : Tok} {t2 : Tok} {t3 : Tok} {h₀ : Heap} {m₀ : Str → Option Value} {EE : List (Addr × Obj)} {c : Addr} {bx : Addr} {bl : Addr} {wl : Addr} {cb : Addr} {cw : Addr} {oc : Obj} {ob : Obj} {ow : Obj} {k : Int} {t : Tok} {nb : Nat} {nw : Nat} : state_loop.St0 prog w A R s env E px body r v t1 t2 t3 h₀ m₀ EE c bx bl wl cb cw oc ob ow k t nb nw :=
  @ata_spec _ state_loop.ne0 0 state_loop.P0 (by with_unfolding_all exact state_loop.prf0) (prog, w, A, R, s, env, E, px, body, r, v, t1, t2, t3, h₀, m₀, EE, c, bx, bl, wl, cb, cw, oc, ob, ow, k, t, nb, nw)
section
variable {prog : Program} {w : World} {A : Around} {E : Value → Shared → Prop} {R : Result → Shared → Prop} {s : Shared} {env : Env}
end
end
noncomputable section
open PyProof.Rows.LCg
section
variable {prog : Program} {w : World} {A : Around} {E : Value → Shared → Prop} {R : Result → Shared → Prop} {s : Shared} {env : Env} {elt target : Expr} {ifs : List Expr} {scope : Scope} {cl : List (Str × Addr)}
  {K : Frag} {p : Program} {loose : List Str} {mean : ExcName → Option Value} {mg mb : Str → Option Value} {h₀ : Heap} {L bx : Addr} {m : Str → Option Value} {EE extra : List (Addr × Obj)} {n : Nat} {P : Nat → Value → Prop} {ob : Obj} {xv : Value} {Q : Value → Shared → Prop}
theorem kw_49 : True := by
  k_with_none
  k_with "g1" => refine by_goal fun zG zh => ?_
  k_with "g2" => (refine zh ?_; clear zh zG)
  trivial
noncomputable def dropL (as : List Addr) (E : List (Addr × Obj)) : List (Addr × Obj) := E.filter fun p => decide (p.1 ∉ as)
theorem dropL_mem {as : List Addr} {E : List (Addr × Obj)} {p : Addr × Obj} (h : p ∈ dropL as E) : p ∈ E ∧ p.1 ∉ as := by
  obtain ⟨h1, h2⟩ := List.mem_filter.mp h
  exact ⟨h1, of_decide_eq_true h2⟩
theorem dropL_in {as : List Addr} {E : List (Addr × Obj)} {p : Addr × Obj} (h : p ∈ E) (h1 : p.1 ∉ as) : p ∈ dropL as E := List.mem_filter.mpr ⟨h, decide_eq_true h1⟩
theorem news_uniq {h : Heap} (N : News h₀ L h EE) {p q : Addr × Obj} (hp : p ∈ EE) (hq : q ∈ EE) (e : p.1 = q.1) : p = q := by
  have h1 := (N p hp).1
  have h2 := (N q hq).1
  rw [e, h2] at h1
  exact Prod.ext e (Option.some.inj h1).symm
end
namespace comp1
noncomputable def St0 (prog : Program) (w : World) (A : Around) (s : Shared) (env : Env) (elt : Expr) (target : Expr) (ifs : List Expr) (scope : Scope) (cl : List (Str × Addr)) (K : Frag) (p : Program) (loose : List Str) (mean : ExcName → Option Value) (mg : Str → Option Value) (mb : Str → Option Value) (h₀ : Heap) (L : Addr) (bx : Addr) (m : Str → Option Value) (EE : List (Addr × Obj)) (extra : List (Addr × Obj)) (n : Nat) (P : Nat → Value → Prop) (ob : Obj) (xv : Value) (Done : Heap → Addr → (Str → Option Value) → Shared → Addr → Heap → Nat → List (Addr × Obj) → Prop) : Prop := ∀ (J : Nat → List Value → Obj → List (Addr × Obj) → Prop) (X : K.In h₀) (T : Top p loose mean mg mb h₀) (F : Fr h₀ L s.heap m) (N : News h₀ L s.heap EE) (hb : (bx, ob) ∈ EE) (hx : ∀ q ∈ extra, q ∈ EE ∧ @Ne Nat q.1 bx) (hsrc : Src prog w A xv target n P (((bx, ob) :: extra).map (·.1)) s) (hn : n ≤ sizeLine) (hlen : ∀ i ys o cr, J i ys o cr → ys.length ≤ sizeLine) (j0 : J 0 [] ob []) (turn : ∀ g C D I, K.In g → Top p loose mean mg mb g → (∀ b o, b ∉ ((bx, ob) :: extra).map (·.1) → s.heap.get? b = some o → g.get? b = some o) → g.objs.size ≤ C → (∀ q ∈ EE, @LT.lt Nat _ q.1 I) → @LT.lt Nat _ I D → @LT.lt Nat _ D C →
      ∀ i v ys mC o' cr o h tk, P i v → i < n → J i ys o' cr → (∀ q ∈ cr, @Ne Nat q.1 bx) → Fr g C h mC → News g C h ((D, lst ys) :: (I, o) :: (bx, o') :: (extra ++ cr)) →
      wpAny (model prog w) A (assign target (compEnvC scope cl C env) v) (fun _ s₃ => wpAny (model prog w) A (tests ifs (compEnvC scope cl C env)) (fun ok s₄ =>
        if ok = true then wpAny (model prog w) A (eval elt (compEnvC scope cl C env)) (fun y s₅ => ∃ h' tk' m' o₂ cr₂, s₅ = { s with heap := h', toks := tk' } ∧ Fr g C h' m' ∧ News g C h' ((D, lst ys) :: (I, o) :: (bx, o₂) :: (extra ++ (cr ++ cr₂))) ∧ (∀ q ∈ cr₂, @LT.lt Nat _ D q.1) ∧ J (i + 1) (ys ++ [y]) o₂ (cr ++ cr₂)) (fun _ _ => False) s₄
        else ∃ h' tk' m' o₂, s₄ = { s with heap := h', toks := tk' } ∧ Fr g C h' m' ∧ News g C h' ((D, lst ys) :: (I, o) :: (bx, o₂) :: (extra ++ cr)) ∧ J (i + 1) ys o₂ cr) (fun _ _ => False) s₃) (fun _ _ => False) { s with heap := h, toks := tk }) (done : ∀ D h tk ys o' cr all', J n ys o' cr → (∀ q ∈ cr, s.heap.get? q.1 = none ∧ @Ne Nat q.1 D) → Fr h₀ L h m → News h₀ L h all' → (∀ E1, Upd bx ob o' EE E1 → News h₀ L h ((D, lst ys) :: (E1 ++ cr))) → (∀ q ∈ EE, @LT.lt Nat _ q.1 D) → Done h₀ L m s D h tk all'),
   CompK prog w A env target elt ifs scope cl Done xv s
noncomputable abbrev Ty0 : Type := (Program) × (World) × (Around) × (Shared) × (Env) × (Expr) × (Expr) × (List Expr) × (Scope) × (List (Str × Addr)) × (Frag) × (Program) × (List Str) × (ExcName → Option Value) × (Str → Option Value) × (Str → Option Value) × (Heap) × (Addr) × (Addr) × (Str → Option Value) × (List (Addr × Obj)) × (List (Addr × Obj)) × (Nat) × (Nat → Value → Prop) × (Obj) × (Value) × (Heap → Addr → (Str → Option Value) → Shared → Addr → Heap → Nat → List (Addr × Obj) → Prop)
theorem ne0 : Nonempty Ty0 := ⟨Classical.choice inferInstance, Classical.choice neW, Classical.choice neA, Classical.choice neS, Classical.choice inferInstance, Classical.choice inferInstance, Classical.choice inferInstance, Classical.choice inferInstance, Classical.choice inferInstance, Classical.choice inferInstance, Classical.choice inferInstance, Classical.choice inferInstance, Classical.choice inferInstance, Classical.choice inferInstance, Classical.choice inferInstance, Classical.choice inferInstance, Classical.choice inferInstance, Classical.choice inferInstance, Classical.choice inferInstance, Classical.choice inferInstance, Classical.choice inferInstance, Classical.choice inferInstance, Classical.choice inferInstance, Classical.choice inferInstance, Classical.choice inferInstance, Classical.choice inferInstance, Classical.choice inferInstance⟩
noncomputable def P0 (vv0 : Ty0) : Prop := St0 (vv0.1) (vv0.2.1) (vv0.2.2.1) (vv0.2.2.2.1) (vv0.2.2.2.2.1) (vv0.2.2.2.2.2.1) (vv0.2.2.2.2.2.2.1) (vv0.2.2.2.2.2.2.2.1) (vv0.2.2.2.2.2.2.2.2.1) (vv0.2.2.2.2.2.2.2.2.2.1) (vv0.2.2.2.2.2.2.2.2.2.2.1) (vv0.2.2.2.2.2.2.2.2.2.2.2.1) (vv0.2.2.2.2.2.2.2.2.2.2.2.2.1) (vv0.2.2.2.2.2.2.2.2.2.2.2.2.2.1) (vv0.2.2.2.2.2.2.2.2.2.2.2.2.2.2.1) (vv0.2.2.2.2.2.2.2.2.2.2.2.2.2.2.2.1) (vv0.2.2.2.2.2.2.2.2.2.2.2.2.2.2.2.2.1) (vv0.2.2.2.2.2.2.2.2.2.2.2.2.2.2.2.2.2.1) (vv0.2.2.2.2.2.2.2.2.2.2.2.2.2.2.2.2.2.2.1) (vv0.2.2.2.2.2.2.2.2.2.2.2.2.2.2.2.2.2.2.2.1) (vv0.2.2.2.2.2.2.2.2.2.2.2.2.2.2.2.2.2.2.2.2.1) (vv0.2.2.2.2.2.2.2.2.2.2.2.2.2.2.2.2.2.2.2.2.2.1) (vv0.2.2.2.2.2.2.2.2.2.2.2.2.2.2.2.2.2.2.2.2.2.2.1) (vv0.2.2.2.2.2.2.2.2.2.2.2.2.2.2.2.2.2.2.2.2.2.2.2.1) (vv0.2.2.2.2.2.2.2.2.2.2.2.2.2.2.2.2.2.2.2.2.2.2.2.2.1) (vv0.2.2.2.2.2.2.2.2.2.2.2.2.2.2.2.2.2.2.2.2.2.2.2.2.2.1) (vv0.2.2.2.2.2.2.2.2.2.2.2.2.2.2.2.2.2.2.2.2.2.2.2.2.2.2)
@[irreducible] def vv0 : Ty0 := @ata _ ne0 0 P0
@[irreducible] def w : World := vv0.2.1
@[irreducible] def A : Around := vv0.2.2.1
@[irreducible] def s : Shared := vv0.2.2.2.1
@[irreducible] def K : Frag := vv0.2.2.2.2.2.2.2.2.2.2.1
@[irreducible] def p : Program := vv0.2.2.2.2.2.2.2.2.2.2.2.1
@[irreducible] def loose : List Str := vv0.2.2.2.2.2.2.2.2.2.2.2.2.1
@[irreducible] def mean : ExcName → Option Value := vv0.2.2.2.2.2.2.2.2.2.2.2.2.2.1
@[irreducible] def mg : Str → Option Value := vv0.2.2.2.2.2.2.2.2.2.2.2.2.2.2.1
@[irreducible] def mb : Str → Option Value := vv0.2.2.2.2.2.2.2.2.2.2.2.2.2.2.2.1
@[irreducible] def h₀ : Heap := vv0.2.2.2.2.2.2.2.2.2.2.2.2.2.2.2.2.1
@[irreducible] def L : Addr := vv0.2.2.2.2.2.2.2.2.2.2.2.2.2.2.2.2.2.1
@[irreducible] def bx : Addr := vv0.2.2.2.2.2.2.2.2.2.2.2.2.2.2.2.2.2.2.1
@[irreducible] def m : Str → Option Value := vv0.2.2.2.2.2.2.2.2.2.2.2.2.2.2.2.2.2.2.2.1
@[irreducible] def EE : List (Addr × Obj) := vv0.2.2.2.2.2.2.2.2.2.2.2.2.2.2.2.2.2.2.2.2.1
@[irreducible] def extra : List (Addr × Obj) := vv0.2.2.2.2.2.2.2.2.2.2.2.2.2.2.2.2.2.2.2.2.2.1
@[irreducible] def n : Nat := vv0.2.2.2.2.2.2.2.2.2.2.2.2.2.2.2.2.2.2.2.2.2.2.1
@[irreducible] def P : Nat → Value → Prop := vv0.2.2.2.2.2.2.2.2.2.2.2.2.2.2.2.2.2.2.2.2.2.2.2.1
@[irreducible] def ob : Obj := vv0.2.2.2.2.2.2.2.2.2.2.2.2.2.2.2.2.2.2.2.2.2.2.2.2.1
theorem prf0 : St0 (vv0.1) w A s (vv0.2.2.2.2.1) (vv0.2.2.2.2.2.1) (vv0.2.2.2.2.2.2.1) (vv0.2.2.2.2.2.2.2.1) (vv0.2.2.2.2.2.2.2.2.1) (vv0.2.2.2.2.2.2.2.2.2.1) K p loose mean mg mb h₀ L bx m EE extra n P ob (vv0.2.2.2.2.2.2.2.2.2.2.2.2.2.2.2.2.2.2.2.2.2.2.2.2.2.1) (vv0.2.2.2.2.2.2.2.2.2.2.2.2.2.2.2.2.2.2.2.2.2.2.2.2.2.2) := by
  intro J X T F N hb hx hsrc hn hlen j0 turn done
  have hmap : ∀ (o : Obj) (l : List (Addr × Obj)), ((bx, o) :: l).map (·.1) = bx :: l.map (·.1) := fun _ _ => rfl
  have hnd : ∀ q ∈ EE, q.1 ∈ ((bx, ob) :: extra).map (·.1) → q ∈ (bx, ob) :: extra := fun q hq e => by
    k_extra "g1"
    obtain ⟨r, hr, e'⟩ := List.mem_map.mp e
    k_extra "g2"
    have hrE : r ∈ EE := by
      rcases List.mem_cons.mp hr with rfl | hr
      · exact hb
      · exact (hx r hr).1
    rw [news_uniq N hq hrE e'.symm]; exact hr
  refine ⟨K, p, loose, mean, mg, mb, h₀, L, m, EE, (bx, ob) :: extra, dropL (((bx, ob) :: extra).map (·.1)) EE, n, P,
    fun i ys news => ∃ o' cr, news = (bx, o') :: (extra ++ cr) ∧ (∀ q ∈ cr, q.1 ∉ ((bx, ob) :: extra).map (·.1)) ∧ J i ys o' cr, X, T, F, N, ?_, (fun q hq => dropL_mem hq), hsrc, hn, ?_, ⟨ob, [], by simp, (fun q hq => nomatch hq), j0⟩, ?_, ?_⟩
  · intro q hq
    rcases List.mem_cons.mp hq with rfl | hq
    · exact hb
    · exact (hx q hq).1
  · rintro i ys news ⟨o', cr, -, -, hJ⟩; exact hlen _ _ _ _ hJ
  · rintro g C D I s₂ ⟨hh, rfl⟩ X' T' kg hgC hall hID hDC i v ys mC news₁ o h tk hP hi zx
    k_extra "g1"
    obtain ⟨o', cr, rfl, hcr, hJ⟩ := zx
    k_extra "g2"
    rintro hA F' N'
    have hcrb : ∀ q ∈ cr, @Ne Nat q.1 bx := fun q hq e => hcr q hq (by rw [e]; exact .head _)
    have N1 : News g C h ((D, lst ys) :: (I, o) :: (bx, o') :: (extra ++ cr)) := by
      intro q hq
      refine N' q ?_
      simp only [List.mem_cons] at hq ⊢
      rcases hq with hq | hq | hq
      · exact .inr (.inl hq)
      · exact .inl hq
      · exact .inr (.inr hq)
    have hIall : ∀ q ∈ ((bx, ob) :: extra), @LT.lt Nat _ q.1 I := fun q hq => by
      rcases List.mem_cons.mp hq with rfl | hq
      · exact hall _ hb
      · exact hall _ (hx q hq).1
    have hlt : ∀ a ∈ ((bx, ob) :: extra).map (·.1), @LT.lt Nat _ a D := fun a ha => by
      k_extra "g1"
      obtain ⟨q, hq, rfl⟩ := List.mem_map.mp ha
      k_extra "g2"
      exact Nat.lt_trans (hIall q hq) hID
    have hadr : ∀ (o₂ : Obj) (cr₂ : List (Addr × Obj)), (∀ q ∈ cr₂, @LT.lt Nat _ D q.1) → Adr ((bx, ob) :: extra) I D ((bx, o₂) :: (extra ++ (cr ++ cr₂))) ∧ ∀ q ∈ cr ++ cr₂, q.1 ∉ ((bx, ob) :: extra).map (·.1) := by
      intro o₂ cr₂ h2
      refine ⟨fun q hq => ?_, fun q hq => ?_⟩
      · rcases List.mem_cons.mp hq with rfl | hq
        · exact .inl (.head _)
        · rcases List.mem_append.mp hq with hq | hq
          · exact .inl (.tail _ (List.mem_map_of_mem hq))
          · rcases List.mem_append.mp hq with hq | hq
            · exact hA q (.tail _ (List.mem_append_right _ hq))
            · have := h2 q hq
              exact .inr ⟨Nat.ne_of_gt (Nat.lt_trans hID this), Nat.ne_of_gt this⟩
      · rcases List.mem_append.mp hq with hq | hq
        · exact hcr q hq
        · intro e
          exact absurd (Nat.lt_trans (hlt _ e) (h2 q hq)) (Nat.lt_irrefl _)
    refine wpAny_mono (turn g C D I X' T' kg hgC hall hID hDC i v ys mC o' cr o h tk hP hi hJ hcrb F' N1) (fun _ s₃ h₃ => wpAny_mono h₃ (fun ok s₄ h₄ => ?_) fun _ _ e => e) fun _ _ e => e
    have back2 : ∀ h' o₂ (cr₂ : List (Addr × Obj)), News g C h' ((D, lst ys) :: (I, o) :: (bx, o₂) :: (extra ++ (cr ++ cr₂))) → News g C h' ((I, o) :: (D, lst ys) :: (bx, o₂) :: (extra ++ (cr ++ cr₂))) := by
      intro h' o₂ cr₂ N q hq
      refine N q ?_
      simp only [List.mem_cons] at hq ⊢
      rcases hq with hq | hq | hq
      · exact .inr (.inl hq)
      · exact .inl hq
      · exact .inr (.inr hq)
    cases ok with
    | true =>
      rw [if_pos rfl] at h₄ ⊢
      refine wpAny_mono h₄ ?_ fun _ _ e => e
      rintro y s₅ zx
      k_extra "g1"
      obtain ⟨h', tk', m', o₂, cr₂, rfl, F5, N5, hD5, J5⟩ := zx
      k_extra "g2"
      exact ⟨h', tk', m', _, rfl, F5, back2 _ _ _ N5, (hadr o₂ cr₂ hD5).1, o₂, cr ++ cr₂, rfl, (hadr o₂ cr₂ hD5).2, J5⟩
    | false =>
      rw [if_neg (by decide)] at h₄ ⊢
      k_extra "g1"
      obtain ⟨h', tk', m', o₂, rfl, F5, N5, J5⟩ := h₄
      k_extra "g2"
      have q := hadr o₂ [] (fun q hq => nomatch hq)
      rw [List.append_nil] at q
      refine ⟨h', tk', m', _, rfl, F5, ?_, q.1, o₂, cr, rfl, q.2, J5⟩
      have := back2 h' o₂ [] (by rw [List.append_nil]; exact N5)
      rw [List.append_nil] at this; exact this
  · rintro D h tk ys news zx
    k_extra "g1"
    obtain ⟨o', cr, rfl, hcr, hJ⟩ := zx
    k_extra "g2"
    rintro hA F' N' hall
    refine done D h tk ys o' cr _ hJ (fun q hq => (hA q (.tail _ (List.mem_append_right _ hq))).resolve_left (hcr q hq)) F' N' (fun E1 U q hq => ?_) hall
    refine N' q ?_
    rcases List.mem_cons.mp hq with rfl | hq
    · exact .head _
    · refine .tail _ ?_
      rcases List.mem_append.mp hq with hq | hq
      · rcases upd_or U q hq with rfl | ⟨hq, hne⟩
        · exact List.mem_append_left _ (.head _)
        · by_cases e : q.1 ∈ ((bx, ob) :: extra).map (·.1)
          · have hm := hnd q hq e
            rcases List.mem_cons.mp hm with rfl | hm
            · exact absurd rfl hne
            · exact List.mem_append_left _ (.tail _ (List.mem_append_left _ hm))
          · exact List.mem_append_right _ (dropL_in hq e)
      · exact List.mem_append_left _ (.tail _ (List.mem_append_right _ hq))
end comp1
theorem comp1 {prog : Program} {w : World} {A : Around} {s : Shared} {env : Env} {elt : Expr} {target : Expr} {ifs : List Expr} {scope : Scope} {cl : List (Str × Addr)} {K : Frag} {p : Program} {loose : List Str} {mean : ExcName → Option Value} {mg : Str → Option Value} {mb : Str → Option Value} {h₀ : Heap} {L : Addr} {bx : Addr} {m : Str → Option Value} {EE : List (Addr × Obj)} {extra : List (Addr × Obj)} {n : Nat} {P : Nat → Value → Prop} {ob : Obj} {xv : Value} {Done : Heap → Addr → (Str → Option Value) → Shared → Addr → Heap → Nat → List (Addr × Obj) → Prop} : comp1.St0 prog w A s env elt target ifs scope cl K p loose mean mg mb h₀ L bx m EE extra n P ob xv Done :=
  @ata_spec _ comp1.ne0 0 comp1.P0 (by with_unfolding_all exact comp1.prf0) (prog, w, A, s, env, elt, target, ifs, scope, cl, K, p, loose, mean, mg, mb, h₀, L, bx, m, EE, extra, n, P, ob, xv, Done)
section
variable {prog : Program} {w : World} {A : Around} {E : Value → Shared → Prop} {R : Result → Shared → Prop} {s : Shared} {env : Env} {elt target : Expr} {ifs : List Expr} {scope : Scope} {cl : List (Str × Addr)} {K : Frag} {p : Program} {loose : List Str} {mean : ExcName → Option Value} {mg mb : Str → Option Value} {h₀ : Heap} {L bx : Addr} {m : Str → Option Value} {EE extra : List (Addr × Obj)} {n : Nat} {P : Nat → Value → Prop} {ob : Obj} {xv : Value} {Q : Value → Shared → Prop}
end
end
noncomputable section
open PyProof.Rows.LCg
section
variable {prog : Program} {w : World} {A : Around} {E : Value → Shared → Prop} {R : Result → Shared → Prop} {s : Shared} {env : Env} {elt target : Expr} {ifs : List Expr} {scope : Scope} {cl : List (Str × Addr)}
  {K : Frag} {p : Program} {loose : List Str} {mean : ExcName → Option Value} {mg mb : Str → Option Value} {h₀ : Heap} {L bx : Addr} {m : Str → Option Value} {EE extra : List (Addr × Obj)} {n : Nat} {P : Nat → Value → Prop} {ob : Obj} {xv : Value} {Q : Value → Shared → Prop}
end
theorem kw_50 : True := by
  k_with_none
  k_with "g1" => refine by_goal fun zG zh => ?_
  k_with "g2" => (refine zh ?_; clear zh zG)
  trivial
namespace comp3
noncomputable def St0 (prog : Program) (w : World) (A : Around) (s : Shared) (env : Env) (elt : Expr) (target : Expr) (ifs : List Expr) (scope : Scope) (cl : List (Str × Addr)) (K : Frag) (p : Program) (loose : List Str) (mean : ExcName → Option Value) (mg : Str → Option Value) (mb : Str → Option Value) (h₀ : Heap) (L : Addr) (bx : Addr) (m : Str → Option Value) (EE : List (Addr × Obj)) (extra : List (Addr × Obj)) (n : Nat) (P : Nat → Value → Prop) (ob : Obj) (xv : Value) (Done : Heap → Addr → (Str → Option Value) → Shared → Addr → Heap → Nat → List (Addr × Obj) → Prop) : Prop := ∀ (J : Nat → List Value → Obj → List (Addr × Obj) → Prop) (X : K.In h₀) (T : Top p loose mean mg mb h₀) (F : Fr h₀ L s.heap m) (N : News h₀ L s.heap EE) (hb : (bx, ob) ∈ EE) (hx : ∀ q ∈ extra, q ∈ EE ∧ @Ne Nat q.1 bx) (hsrc : Src prog w A xv target n P (((bx, ob) :: extra).map (·.1)) s) (hn : n ≤ sizeLine) (hlen : ∀ i ys o cr, J i ys o cr → ys.length ≤ sizeLine) (j0 : J 0 [] ob []) (turn : ∀ g C D I, K.In g → Top p loose mean mg mb g → (∀ b o, b ∉ ((bx, ob) :: extra).map (·.1) → s.heap.get? b = some o → g.get? b = some o) → g.objs.size ≤ C → (∀ q ∈ EE, @LT.lt Nat _ q.1 I) → @LT.lt Nat _ I D → @LT.lt Nat _ D C →
      ∀ i v ys mC o' cr o h tk, P i v → i < n → J i ys o' cr → (∀ q ∈ cr, @Ne Nat q.1 bx) → Fr g C h mC → News g C h ((D, lst ys) :: (I, o) :: (bx, o') :: (extra ++ cr)) →
      wpAny (model prog w) A (assign target (compEnvC scope cl C env) v) (fun _ s₃ => wpAny (model prog w) A (tests ifs (compEnvC scope cl C env)) (fun ok s₄ =>
        if ok = true then wpAny (model prog w) A (eval elt (compEnvC scope cl C env)) (fun y s₅ => ∃ h' tk' m' o₂ cr₂, s₅ = { s with heap := h', toks := tk' } ∧ Fr g C h' m' ∧ News g C h' ((D, lst ys) :: (I, o) :: (bx, o₂) :: (extra ++ (cr ++ cr₂))) ∧ (∀ q ∈ cr₂, @Ne Nat q.1 I ∧ @Ne Nat q.1 D ∧ q.1 ∉ ((bx, ob) :: extra).map (·.1)) ∧ J (i + 1) (ys ++ [y]) o₂ (cr ++ cr₂)) (fun _ _ => False) s₄
        else ∃ h' tk' m' o₂, s₄ = { s with heap := h', toks := tk' } ∧ Fr g C h' m' ∧ News g C h' ((D, lst ys) :: (I, o) :: (bx, o₂) :: (extra ++ cr)) ∧ J (i + 1) ys o₂ cr) (fun _ _ => False) s₃) (fun _ _ => False) { s with heap := h, toks := tk }) (done : ∀ D h tk ys o' cr all', J n ys o' cr → (∀ q ∈ cr, s.heap.get? q.1 = none ∧ @Ne Nat q.1 D) → Fr h₀ L h m → News h₀ L h all' → (∀ h'', News h₀ L h'' all' → ∀ E1, Upd bx ob o' EE E1 → News h₀ L h'' ((D, lst ys) :: (E1 ++ cr))) → (∀ q ∈ EE, @LT.lt Nat _ q.1 D) → Done h₀ L m s D h tk all'),
   CompK prog w A env target elt ifs scope cl Done xv s
noncomputable abbrev Ty0 : Type := (Program) × (World) × (Around) × (Shared) × (Env) × (Expr) × (Expr) × (List Expr) × (Scope) × (List (Str × Addr)) × (Frag) × (Program) × (List Str) × (ExcName → Option Value) × (Str → Option Value) × (Str → Option Value) × (Heap) × (Addr) × (Addr) × (Str → Option Value) × (List (Addr × Obj)) × (List (Addr × Obj)) × (Nat) × (Nat → Value → Prop) × (Obj) × (Value) × (Heap → Addr → (Str → Option Value) → Shared → Addr → Heap → Nat → List (Addr × Obj) → Prop)
theorem ne0 : Nonempty Ty0 := ⟨Classical.choice inferInstance, Classical.choice neW, Classical.choice neA, Classical.choice neS, Classical.choice inferInstance, Classical.choice inferInstance, Classical.choice inferInstance, Classical.choice inferInstance, Classical.choice inferInstance, Classical.choice inferInstance, Classical.choice inferInstance, Classical.choice inferInstance, Classical.choice inferInstance, Classical.choice inferInstance, Classical.choice inferInstance, Classical.choice inferInstance, Classical.choice inferInstance, Classical.choice inferInstance, Classical.choice inferInstance, Classical.choice inferInstance, Classical.choice inferInstance, Classical.choice inferInstance, Classical.choice inferInstance, Classical.choice inferInstance, Classical.choice inferInstance, Classical.choice inferInstance, Classical.choice inferInstance⟩
noncomputable def P0 (vv0 : Ty0) : Prop := St0 (vv0.1) (vv0.2.1) (vv0.2.2.1) (vv0.2.2.2.1) (vv0.2.2.2.2.1) (vv0.2.2.2.2.2.1) (vv0.2.2.2.2.2.2.1) (vv0.2.2.2.2.2.2.2.1) (vv0.2.2.2.2.2.2.2.2.1) (vv0.2.2.2.2.2.2.2.2.2.1) (vv0.2.2.2.2.2.2.2.2.2.2.1) (vv0.2.2.2.2.2.2.2.2.2.2.2.1) (vv0.2.2.2.2.2.2.2.2.2.2.2.2.1) (vv0.2.2.2.2.2.2.2.2.2.2.2.2.2.1) (vv0.2.2.2.2.2.2.2.2.2.2.2.2.2.2.1) (vv0.2.2.2.2.2.2.2.2.2.2.2.2.2.2.2.1) (vv0.2.2.2.2.2.2.2.2.2.2.2.2.2.2.2.2.1) (vv0.2.2.2.2.2.2.2.2.2.2.2.2.2.2.2.2.2.1) (vv0.2.2.2.2.2.2.2.2.2.2.2.2.2.2.2.2.2.2.1) (vv0.2.2.2.2.2.2.2.2.2.2.2.2.2.2.2.2.2.2.2.1) (vv0.2.2.2.2.2.2.2.2.2.2.2.2.2.2.2.2.2.2.2.2.1) (vv0.2.2.2.2.2.2.2.2.2.2.2.2.2.2.2.2.2.2.2.2.2.1) (vv0.2.2.2.2.2.2.2.2.2.2.2.2.2.2.2.2.2.2.2.2.2.2.1) (vv0.2.2.2.2.2.2.2.2.2.2.2.2.2.2.2.2.2.2.2.2.2.2.2.1) (vv0.2.2.2.2.2.2.2.2.2.2.2.2.2.2.2.2.2.2.2.2.2.2.2.2.1) (vv0.2.2.2.2.2.2.2.2.2.2.2.2.2.2.2.2.2.2.2.2.2.2.2.2.2.1) (vv0.2.2.2.2.2.2.2.2.2.2.2.2.2.2.2.2.2.2.2.2.2.2.2.2.2.2)
@[irreducible] def vv0 : Ty0 := @ata _ ne0 0 P0
@[irreducible] def w : World := vv0.2.1
@[irreducible] def A : Around := vv0.2.2.1
@[irreducible] def s : Shared := vv0.2.2.2.1
@[irreducible] def K : Frag := vv0.2.2.2.2.2.2.2.2.2.2.1
@[irreducible] def p : Program := vv0.2.2.2.2.2.2.2.2.2.2.2.1
@[irreducible] def loose : List Str := vv0.2.2.2.2.2.2.2.2.2.2.2.2.1
@[irreducible] def mean : ExcName → Option Value := vv0.2.2.2.2.2.2.2.2.2.2.2.2.2.1
@[irreducible] def mg : Str → Option Value := vv0.2.2.2.2.2.2.2.2.2.2.2.2.2.2.1
@[irreducible] def mb : Str → Option Value := vv0.2.2.2.2.2.2.2.2.2.2.2.2.2.2.2.1
@[irreducible] def h₀ : Heap := vv0.2.2.2.2.2.2.2.2.2.2.2.2.2.2.2.2.1
@[irreducible] def L : Addr := vv0.2.2.2.2.2.2.2.2.2.2.2.2.2.2.2.2.2.1
@[irreducible] def bx : Addr := vv0.2.2.2.2.2.2.2.2.2.2.2.2.2.2.2.2.2.2.1
@[irreducible] def m : Str → Option Value := vv0.2.2.2.2.2.2.2.2.2.2.2.2.2.2.2.2.2.2.2.1
@[irreducible] def EE : List (Addr × Obj) := vv0.2.2.2.2.2.2.2.2.2.2.2.2.2.2.2.2.2.2.2.2.1
@[irreducible] def extra : List (Addr × Obj) := vv0.2.2.2.2.2.2.2.2.2.2.2.2.2.2.2.2.2.2.2.2.2.1
@[irreducible] def n : Nat := vv0.2.2.2.2.2.2.2.2.2.2.2.2.2.2.2.2.2.2.2.2.2.2.1
@[irreducible] def P : Nat → Value → Prop := vv0.2.2.2.2.2.2.2.2.2.2.2.2.2.2.2.2.2.2.2.2.2.2.2.1
@[irreducible] def ob : Obj := vv0.2.2.2.2.2.2.2.2.2.2.2.2.2.2.2.2.2.2.2.2.2.2.2.2.1
theorem prf0 : St0 (vv0.1) w A s (vv0.2.2.2.2.1) (vv0.2.2.2.2.2.1) (vv0.2.2.2.2.2.2.1) (vv0.2.2.2.2.2.2.2.1) (vv0.2.2.2.2.2.2.2.2.1) (vv0.2.2.2.2.2.2.2.2.2.1) K p loose mean mg mb h₀ L bx m EE extra n P ob (vv0.2.2.2.2.2.2.2.2.2.2.2.2.2.2.2.2.2.2.2.2.2.2.2.2.2.1) (vv0.2.2.2.2.2.2.2.2.2.2.2.2.2.2.2.2.2.2.2.2.2.2.2.2.2.2) := by
  intro J X T F N hb hx hsrc hn hlen j0 turn done
  have hmap : ∀ (o : Obj) (l : List (Addr × Obj)), ((bx, o) :: l).map (·.1) = bx :: l.map (·.1) := fun _ _ => rfl
  have hnd : ∀ q ∈ EE, q.1 ∈ ((bx, ob) :: extra).map (·.1) → q ∈ (bx, ob) :: extra := fun q hq e => by
    k_extra "g1"
    obtain ⟨r, hr, e'⟩ := List.mem_map.mp e
    k_extra "g2"
    have hrE : r ∈ EE := by
      rcases List.mem_cons.mp hr with rfl | hr
      · exact hb
      · exact (hx r hr).1
    rw [news_uniq N hq hrE e'.symm]; exact hr
  refine ⟨K, p, loose, mean, mg, mb, h₀, L, m, EE, (bx, ob) :: extra, dropL (((bx, ob) :: extra).map (·.1)) EE, n, P,
    fun i ys news => ∃ o' cr, news = (bx, o') :: (extra ++ cr) ∧ (∀ q ∈ cr, q.1 ∉ ((bx, ob) :: extra).map (·.1)) ∧ J i ys o' cr, X, T, F, N, ?_, (fun q hq => dropL_mem hq), hsrc, hn, ?_, ⟨ob, [], by simp, (fun q hq => nomatch hq), j0⟩, ?_, ?_⟩
  · intro q hq
    rcases List.mem_cons.mp hq with rfl | hq
    · exact hb
    · exact (hx q hq).1
  · rintro i ys news ⟨o', cr, -, -, hJ⟩; exact hlen _ _ _ _ hJ
  · rintro g C D I s₂ ⟨hh, rfl⟩ X' T' kg hgC hall hID hDC i v ys mC news₁ o h tk hP hi zx
    k_extra "g1"
    obtain ⟨o', cr, rfl, hcr, hJ⟩ := zx
    k_extra "g2"
    rintro hA F' N'
    have hcrb : ∀ q ∈ cr, @Ne Nat q.1 bx := fun q hq e => hcr q hq (by rw [e]; exact .head _)
    have N1 : News g C h ((D, lst ys) :: (I, o) :: (bx, o') :: (extra ++ cr)) := by
      intro q hq
      refine N' q ?_
      simp only [List.mem_cons] at hq ⊢
      rcases hq with hq | hq | hq
      · exact .inr (.inl hq)
      · exact .inl hq
      · exact .inr (.inr hq)
    have hadr : ∀ (o₂ : Obj) (cr₂ : List (Addr × Obj)), (∀ q ∈ cr₂, @Ne Nat q.1 I ∧ @Ne Nat q.1 D ∧ q.1 ∉ ((bx, ob) :: extra).map (·.1)) → Adr ((bx, ob) :: extra) I D ((bx, o₂) :: (extra ++ (cr ++ cr₂))) ∧ ∀ q ∈ cr ++ cr₂, q.1 ∉ ((bx, ob) :: extra).map (·.1) := by
      intro o₂ cr₂ h2
      refine ⟨fun q hq => ?_, fun q hq => ?_⟩
      · rcases List.mem_cons.mp hq with rfl | hq
        · exact .inl (.head _)
        · rcases List.mem_append.mp hq with hq | hq
          · exact .inl (.tail _ (List.mem_map_of_mem hq))
          · rcases List.mem_append.mp hq with hq | hq
            · exact hA q (.tail _ (List.mem_append_right _ hq))
            · exact .inr ⟨(h2 q hq).1, (h2 q hq).2.1⟩
      · rcases List.mem_append.mp hq with hq | hq
        · exact hcr q hq
        · exact (h2 q hq).2.2
    refine wpAny_mono (turn g C D I X' T' kg hgC hall hID hDC i v ys mC o' cr o h tk hP hi hJ hcrb F' N1) (fun _ s₃ h₃ => wpAny_mono h₃ (fun ok s₄ h₄ => ?_) fun _ _ e => e) fun _ _ e => e
    have back2 : ∀ h' o₂ (cr₂ : List (Addr × Obj)), News g C h' ((D, lst ys) :: (I, o) :: (bx, o₂) :: (extra ++ (cr ++ cr₂))) → News g C h' ((I, o) :: (D, lst ys) :: (bx, o₂) :: (extra ++ (cr ++ cr₂))) := by
      intro h' o₂ cr₂ N q hq
      refine N q ?_
      simp only [List.mem_cons] at hq ⊢
      rcases hq with hq | hq | hq
      · exact .inr (.inl hq)
      · exact .inl hq
      · exact .inr (.inr hq)
    cases ok with
    | true =>
      rw [if_pos rfl] at h₄ ⊢
      refine wpAny_mono h₄ ?_ fun _ _ e => e
      rintro y s₅ zx
      k_extra "g1"
      obtain ⟨h', tk', m', o₂, cr₂, rfl, F5, N5, hD5, J5⟩ := zx
      k_extra "g2"
      exact ⟨h', tk', m', _, rfl, F5, back2 _ _ _ N5, (hadr o₂ cr₂ hD5).1, o₂, cr ++ cr₂, rfl, (hadr o₂ cr₂ hD5).2, J5⟩
    | false =>
      rw [if_neg (by decide)] at h₄ ⊢
      k_extra "g1"
      obtain ⟨h', tk', m', o₂, rfl, F5, N5, J5⟩ := h₄
      k_extra "g2"
      have q := hadr o₂ [] (fun q hq => nomatch hq)
      rw [List.append_nil] at q
      refine ⟨h', tk', m', _, rfl, F5, ?_, q.1, o₂, cr, rfl, q.2, J5⟩
      have := back2 h' o₂ [] (by rw [List.append_nil]; exact N5)
      rw [List.append_nil] at this; exact this
  · rintro D h tk ys news zx
    k_extra "g1"
    obtain ⟨o', cr, rfl, hcr, hJ⟩ := zx
    k_extra "g2"
    rintro hA F' N' hall
    refine done D h tk ys o' cr _ hJ (fun q hq => (hA q (.tail _ (List.mem_append_right _ hq))).resolve_left (hcr q hq)) F' N' (fun h'' N'' E1 U q hq => ?_) hall
    refine N'' q ?_
    rcases List.mem_cons.mp hq with rfl | hq
    · exact .head _
    · refine .tail _ ?_
      rcases List.mem_append.mp hq with hq | hq
      · rcases upd_or U q hq with rfl | ⟨hq, hne⟩
        · exact List.mem_append_left _ (.head _)
        · by_cases e : q.1 ∈ ((bx, ob) :: extra).map (·.1)
          · have hm := hnd q hq e
            rcases List.mem_cons.mp hm with rfl | hm
            · exact absurd rfl hne
            · exact List.mem_append_left _ (.tail _ (List.mem_append_left _ hm))
          · exact List.mem_append_right _ (dropL_in hq e)
      · exact List.mem_append_left _ (.tail _ (List.mem_append_right _ hq))
end comp3
theorem comp3 {prog : Program} {w : World} {A : Around} {s : Shared} {env : Env} {elt : Expr} {target : Expr} {ifs : List Expr} {scope : Scope} {cl : List (Str × Addr)} {K : Frag} {p : Program} {loose : List Str} {mean : ExcName → Option Value} {mg : Str → Option Value} {mb : Str → Option Value} {h₀ : Heap} {L : Addr} {bx : Addr} {m : Str → Option Value} {EE : List (Addr × Obj)} {extra : List (Addr × Obj)} {n : Nat} {P : Nat → Value → Prop} {ob : Obj} {xv : Value} {Done : Heap → Addr → (Str → Option Value) → Shared → Addr → Heap → Nat → List (Addr × Obj) → Prop} : comp3.St0 prog w A s env elt target ifs scope cl K p loose mean mg mb h₀ L bx m EE extra n P ob xv Done :=
  @ata_spec _ comp3.ne0 0 comp3.P0 (by with_unfolding_all exact comp3.prf0) (prog, w, A, s, env, elt, target, ifs, scope, cl, K, p, loose, mean, mg, mb, h₀, L, bx, m, EE, extra, n, P, ob, xv, Done)
section
variable {prog : Program} {w : World} {A : Around} {E : Value → Shared → Prop} {R : Result → Shared → Prop} {s : Shared} {env : Env} {elt target : Expr} {ifs : List Expr} {scope : Scope} {cl : List (Str × Addr)} {K : Frag} {p : Program} {loose : List Str} {mean : ExcName → Option Value} {mg mb : Str → Option Value} {h₀ : Heap} {L bx : Addr} {m : Str → Option Value} {EE extra : List (Addr × Obj)} {n : Nat} {P : Nat → Value → Prop} {ob : Obj} {xv : Value} {Q : Value → Shared → Prop}
theorem comp2 (J : Nat → List Value → Obj → List (Addr × Obj) → Prop) (X : K.In h₀) (T : Top p loose mean mg mb h₀) (F : Fr h₀ L s.heap m) (N : News h₀ L s.heap EE) (hb : (bx, ob) ∈ EE) (hx : ∀ q ∈ extra, q ∈ EE ∧ @Ne Nat q.1 bx)
    (hsrc : Src prog w A xv target n P (((bx, ob) :: extra).map (·.1)) s) (hn : n ≤ sizeLine) (hlen : ∀ i ys o cr, J i ys o cr → ys.length ≤ sizeLine) (j0 : J 0 [] ob [])
    (turn : ∀ g C D I, K.In g → Top p loose mean mg mb g → (∀ b o, b ∉ ((bx, ob) :: extra).map (·.1) → s.heap.get? b = some o → g.get? b = some o) → g.objs.size ≤ C → (∀ q ∈ EE, @LT.lt Nat _ q.1 I) → @LT.lt Nat _ I D → @LT.lt Nat _ D C →
      ∀ i v ys mC o' cr o h tk, P i v → i < n → J i ys o' cr → (∀ q ∈ cr, @Ne Nat q.1 bx) → Fr g C h mC → News g C h ((D, lst ys) :: (I, o) :: (bx, o') :: (extra ++ cr)) →
      wpAny (model prog w) A (assign target (compEnvC scope cl C env) v) (fun _ s₃ => wpAny (model prog w) A (tests ifs (compEnvC scope cl C env)) (fun ok s₄ =>
        if ok = true then wpAny (model prog w) A (eval elt (compEnvC scope cl C env)) (fun y s₅ => ∃ h' tk' m' o₂ cr₂, s₅ = { s with heap := h', toks := tk' } ∧ Fr g C h' m' ∧ News g C h' ((D, lst ys) :: (I, o) :: (bx, o₂) :: (extra ++ (cr ++ cr₂))) ∧ (∀ q ∈ cr₂, @LT.lt Nat _ D q.1) ∧ J (i + 1) (ys ++ [y]) o₂ (cr ++ cr₂)) (fun _ _ => False) s₄
        else ∃ h' tk' m' o₂, s₄ = { s with heap := h', toks := tk' } ∧ Fr g C h' m' ∧ News g C h' ((D, lst ys) :: (I, o) :: (bx, o₂) :: (extra ++ cr)) ∧ J (i + 1) ys o₂ cr) (fun _ _ => False) s₃) (fun _ _ => False) { s with heap := h, toks := tk })
    {Done : Heap → Addr → (Str → Option Value) → Shared → Addr → Heap → Nat → List (Addr × Obj) → Prop}
    (done : ∀ D h tk ys o' cr all', J n ys o' cr → (∀ q ∈ cr, s.heap.get? q.1 = none ∧ @Ne Nat q.1 D) → Fr h₀ L h m → News h₀ L h all' → (∀ h'', News h₀ L h'' all' → ∀ E1, Upd bx ob o' EE E1 → News h₀ L h'' ((D, lst ys) :: (E1 ++ cr))) → (∀ q ∈ EE, @LT.lt Nat _ q.1 D) → Done h₀ L m s D h tk all') :
    CompK prog w A env target elt ifs scope cl Done xv s := by
  refine comp3 J X T F N hb hx hsrc hn hlen j0 (fun g C D I X' T' kg hgC hall hID hDC i v ys mC o' cr o h tk hP hi hJ hcr F' N' => ?_) done
  have hlt : ∀ a ∈ ((bx, ob) :: extra).map (·.1), @LT.lt Nat _ a D := fun a ha => by
    k_extra "g1"
    obtain ⟨q, hq, rfl⟩ := List.mem_map.mp ha
    k_extra "g2"
    rcases List.mem_cons.mp hq with rfl | hq
    · exact Nat.lt_trans (hall _ hb) hID
    · exact Nat.lt_trans (hall _ (hx q hq).1) hID
  refine wpAny_mono (turn g C D I X' T' kg hgC hall hID hDC i v ys mC o' cr o h tk hP hi hJ hcr F' N') (fun _ s₃ h₃ => wpAny_mono h₃ (fun ok s₄ h₄ => ?_) fun _ _ e => e) fun _ _ e => e
  cases ok with
  | true =>
    rw [if_pos rfl] at h₄ ⊢
    refine wpAny_mono h₄ ?_ fun _ _ e => e
    rintro y s₅ zx
    k_extra "g1"
    obtain ⟨h', tk', m', o₂, cr₂, e, F5, N5, hD5, J5⟩ := zx
    k_extra "g2"
    exact ⟨h', tk', m', o₂, cr₂, e, F5, N5, fun q hq => ⟨Nat.ne_of_gt (Nat.lt_trans hID (hD5 q hq)), Nat.ne_of_gt (hD5 q hq), fun e => absurd (Nat.lt_trans (hlt _ e) (hD5 q hq)) (Nat.lt_irrefl _)⟩, J5⟩
  | false => exact h₄
end
end
noncomputable section
open PyProof.Rows.LCg
theorem kw_51 : True := by
  k_with_none
  k_with "g1" => refine by_goal fun zG zh => ?_
  k_with "g2" => (refine zh ?_; clear zh zG)
  trivial
noncomputable def AnsO (o : Obj) (here : Bool) (b : Array UInt8) : Prop := ∃ items n, o.cls = .type "tuple" ∧ o.data = .seq items n ∧ ∃ t u, items = #[.str (if here then Str.ofString "here" else Str.ofString "there") t, .bytes b u]
noncomputable abbrev Af := Addr × Obj × Bool × Array UInt8
noncomputable def entA (as : List Af) : List (Addr × Obj) := as.map fun a => (a.1, a.2.1)
noncomputable def aadr (as : List Af) : List Addr := as.map (·.1)
noncomputable def AOk (c : Addr) (as : List Af) : Prop := ∀ a ∈ as, AnsO a.2.1 a.2.2.1 a.2.2.2 ∧ a.2.2.2.size = 8 ∧ @LT.lt Nat _ c a.1
theorem entA_map (as : List Af) : (entA as).map (·.1) = aadr as := by simp [entA, aadr]
theorem entA_lt {c : Addr} {as : List Af} (W : AOk c as) : ∀ p ∈ entA as, @LT.lt Nat _ c p.1 := fun p hp => by
  k_extra "g1"
  obtain ⟨f, hf, rfl⟩ := List.mem_map.mp hp
  k_extra "g2"
  exact (W f hf).2.2
theorem tl_app {c d : Addr} {a b : List (Addr × Obj)} (h1 : ∀ p ∈ a, @LT.lt Nat _ c p.1) (h2 : ∀ p ∈ b, @LT.lt Nat _ d p.1) (h : @LE.le Nat _ c d) : ∀ p ∈ a ++ b, @LT.lt Nat _ c p.1 := fun p hp => by
  rcases List.mem_append.mp hp with hp | hp
  · exact h1 p hp
  · exact Nat.lt_of_le_of_lt h (h2 p hp)
noncomputable def BChoose (w : World) (f c : Addr) (of oc : Obj) : Prop := ∀ {dp un : Nat} {fr : Option (List Env)} {gd : Option (List Code)} {s : Shared} {p : Program} {loose : List Str} {mean : ExcName → Option Value} {mg mb : Str → Option Value} {E : Value → Shared → Prop} {Q : Value → Shared → Prop} {h₀ : Heap} {t1 t2 t3 : Tok},
   (∀ b o, h₀.get? b = some o → s.heap.get? b = some o) → (mkK.heap_1 w.params).In h₀ → Top p loose mean mg mb h₀ → dp + 20 < recursionLimit → un + 200 < cLine → Led h₀ s.heap [(f, of), (c, oc)] →
   (∀ tk h' tk', (∀ a o, s.heap.get? a = some o → h'.get? a = some o) → Q (.bytes #[2, 2, 2, 2, 2, 2, 2, 2] tk) { s with heap := h', toks := tk' }) →
   wpAny (model Challenge.pw_pf0272_01 w) (Ak dp un fr gd) (call (.ref f) [.str (Str.ofString "challenge") t1, .int 2 t2, .int 8 t3]) Q E s
noncomputable def BProbe (w : World) (f c : Addr) (of oc : Obj) : Prop := ∀ {dp un : Nat} {fr : Option (List Env)} {gd : Option (List Code)} {s : Shared} {p : Program} {loose : List Str} {mean : ExcName → Option Value} {mg mb : Str → Option Value} {E : Value → Shared → Prop} {Q : Value → Shared → Prop} {h₀ : Heap},
   (∀ b o, h₀.get? b = some o → s.heap.get? b = some o) → (mkK.heap_1 w.params).In h₀ → Top p loose mean mg mb h₀ → dp + 20 < recursionLimit → un + 200 < cLine → Led h₀ s.heap [(f, of), (c, oc)] →
   (∀ tk h' tk', (∀ a o, s.heap.get? a = some o → h'.get? a = some o) → Q (.int 50 tk) { s with heap := h', toks := tk' }) →
   wpAny (model Challenge.pw_pf0272_01 w) (Ak dp un fr gd) (call (.ref f) []) Q E s
noncomputable def BGive (w : World) (f c : Addr) (of oc : Obj) (more : List (Addr × Obj)) (v : Value) : Prop := ∀ {dp un : Nat} {fr : Option (List Env)} {gd : Option (List Code)} {s : Shared} {p : Program} {loose : List Str} {mean : ExcName → Option Value} {mg mb : Str → Option Value} {E : Value → Shared → Prop} {Q : Value → Shared → Prop} {h₀ : Heap},
   (∀ b o, h₀.get? b = some o → s.heap.get? b = some o) → (mkK.heap_1 w.params).In h₀ → Top p loose mean mg mb h₀ → dp + 20 < recursionLimit → un + 200 < cLine → Led h₀ s.heap ((f, of) :: (c, oc) :: more) →
   (∀ h' tk', (∀ a o, s.heap.get? a = some o → h'.get? a = some o) → Q v { s with heap := h', toks := tk' }) →
   wpAny (model Challenge.pw_pf0272_01 w) (Ak dp un fr gd) (call (.ref f) []) Q E s
noncomputable def TriedO (o : Obj) (d n x : Value) : Prop := ∃ items k t, o.cls = .type "tuple" ∧ o.data = .seq items k ∧ items = #[.str (Str.ofString "tried") t, d, n, x]
noncomputable def RoomO (o : Obj) (r : Int) : Prop := ∃ items k t u, o.cls = .type "tuple" ∧ o.data = .seq items k ∧ items = #[.str (Str.ofString "room") t, .int r u]
noncomputable def BChal (w : World) (f c cl lg : Addr) (of oc ol : Obj) : Prop := ∀ {dp un : Nat} {fr : Option (List Env)} {gd : Option (List Code)} {s : Shared} {p : Program} {loose : List Str} {mean : ExcName → Option Value} {mg mb : Str → Option Value} {E : Value → Shared → Prop} {Q : Value → Shared → Prop} {h₀ : Heap} {items : Array Value} {k : Nat} {d n x : Value},
   (∀ b o, h₀.get? b = some o → s.heap.get? b = some o) → (mkK.heap_1 w.params).In h₀ → Top p loose mean mg mb h₀ → dp + 20 < recursionLimit → un + 200 < cLine → Led h₀ s.heap [(lg, W.listOf items k), (f, of), (c, oc), (cl, ol)] → items.size ≤ 100 →
   (∀ a o k' h' tk', (∀ b ob, b ≠ lg → s.heap.get? b = some ob → h'.get? b = some ob) → h'.get? lg = some (W.listOf (items.push (.ref a)) k') → h'.get? a = some o → s.heap.get? a = none → TriedO o d n x → Q .none { s with heap := h', toks := tk' }) →
   wpAny (model Challenge.pw_pf0272_01 w) (Ak dp un fr gd) (call (.ref f) [d, n, x]) Q E s
noncomputable def BNext (w : World) (f c cl cw lg wl : Addr) (of oc ol ow : Obj) : Prop := ∀ {dp un : Nat} {fr : Option (List Env)} {gd : Option (List Code)} {s : Shared} {p : Program} {loose : List Str} {mean : ExcName → Option Value} {mg mb : Str → Option Value} {E : Value → Shared → Prop} {Q : Value → Shared → Prop} {h₀ : Heap} {items : Array Value} {k nw : Nat} {ws : List Wf} {r : Int} {tr : Tok},
   (∀ b o, h₀.get? b = some o → s.heap.get? b = some o) → (mkK.heap_1 w.params).In h₀ → Top p loose mean mg mb h₀ → dp + 70 < recursionLimit → un + 600 < cLine →
   Led h₀ s.heap [(lg, W.listOf items k), (wl, W.listOf (refs (wadr ws)) nw), (f, of), (c, oc), (cl, ol), (cw, ow)] → items.size ≤ 100 → ws.length ≤ 3 → (∀ x ∈ ws, FrO x.2.1 x.2.2 ∧ x.2.2.ok ∧ s.heap.get? x.1 = some x.2.1) →
   (∀ a o k' h' tk', h'.get? lg = some (W.listOf (items.push (.ref a)) k') → h'.get? a = some o → s.heap.get? a = none → RoomO o r → (match ws with
      | [] => (∀ b ob, b ≠ lg → s.heap.get? b = some ob → h'.get? b = some ob) → Q .none { s with heap := h', toks := tk' }
      | x :: rest => if x.2.2.sz > r then (∀ b ob, b ≠ lg → s.heap.get? b = some ob → h'.get? b = some ob) → Q .none { s with heap := h', toks := tk' }
        else ∀ nw', (∀ b ob, b ≠ lg → b ≠ wl → s.heap.get? b = some ob → h'.get? b = some ob) → h'.get? wl = some (W.listOf (refs (wadr rest)) nw') → Q (.ref x.1) { s with heap := h', toks := tk' })) →
   wpAny (model Challenge.pw_pf0272_01 w) (Ak dp un fr gd) (call (.ref f) [.int r tr]) Q E s
set_option genInjectivity false in
structure SA where
  (l1 l2 fh ch fp cp ft ct fn cn ll lf fw cw al fc cc wl shk dshk str dstr trd dtrd act dact paths dpaths conn dconn : Addr)
  (cWants cWait cTried cLim cLog : Addr)
  (ofh och ofp ocp oft oct ofn ocn olf ofw ocw ofc occ oWants oWait oTried oLim oLog : Obj)
  (eh es et ea ep ec : List DictEntry)
  (nh ns nt na np nc n1 n2 nl nal nwl : Nat)
  (ws : List Wf) (as : List Af) (wants : Bool) (lims : Nat)
theorem neSA : Nonempty SA := ⟨by constructor <;> exact default⟩
noncomputable def SA.led (σ : SA) : List (Addr × Obj) :=
  [(σ.l2, W.listOf (List.replicate σ.lims (Value.ref σ.lf)).toArray σ.n2), (σ.l1, W.listOf (refs (wadr σ.ws)) σ.n1), (σ.fh, σ.ofh), (σ.ch, σ.och), (σ.fp, σ.ofp), (σ.cp, σ.ocp), (σ.ft, σ.oft), (σ.ct, σ.oct), (σ.fn, σ.ofn), (σ.cn, σ.ocn),
   (σ.ll, W.listOf (List.replicate σ.lims (Value.ref σ.lf)).toArray σ.nl), (σ.lf, σ.olf), (σ.fw, σ.ofw), (σ.cw, σ.ocw), (σ.al, W.listOf (refs (aadr σ.as)) σ.nal), (σ.fc, σ.ofc), (σ.cc, σ.occ), (σ.wl, W.listOf (refs (wadr σ.ws)) σ.nwl),
   (σ.shk, instObj 319 σ.dshk), (σ.dshk, dictOf σ.eh σ.nh), (σ.str, instObj 319 σ.dstr), (σ.dstr, dictOf σ.es σ.ns), (σ.trd, instObj 319 σ.dtrd), (σ.dtrd, dictOf σ.et σ.nt), (σ.act, instObj 319 σ.dact), (σ.dact, dictOf σ.ea σ.na),
   (σ.paths, instObj 319 σ.dpaths), (σ.dpaths, dictOf σ.ep σ.np), (σ.conn, instObj 319 σ.dconn), (σ.dconn, dictOf σ.ec σ.nc), (σ.cWants, σ.oWants), (σ.cWait, σ.oWait), (σ.cTried, σ.oTried), (σ.cLim, σ.oLim), (σ.cLog, σ.oLog)]
structure SA.Ok (σ : SA) (compl : Bool) (w : World) (lg : Addr) (kc : Nat) : Prop where
  dH : ∃ k f, DA σ.eh k f ∧ k ≤ 30 ∧ f (Str.ofString "is_complete") = some (.bool compl)
  dS : ∃ k f, DA σ.es k f ∧ k ≤ 30 ∧ f (Str.ofString "control_frames") = some (.ref σ.ft) ∧ f (Str.ofString "next_data") = some (.ref σ.fn)
  dT : ∃ k f, DA σ.et k f ∧ k ≤ 30 ∧ f (Str.ofString "challenge") = some (.ref σ.fc)
  dA : ∃ k f t, DA σ.ea k f ∧ k ≤ 30 ∧ f (Str.ofString "address") = some (.str (Str.ofString "here") t)
  dP : ∃ k f, DA σ.ep k f ∧ k ≤ 30 ∧ f (Str.ofString "active") = some (.ref σ.act) ∧ f (Str.ofString "answers") = some (.ref σ.al) ∧ f (Str.ofString "wants_challenge") = some (.ref σ.fw)
  dC : ∃ k f t, DA σ.ec k f ∧ k ≤ kc ∧ f (Str.ofString "paths") = some (.ref σ.paths) ∧ f (Str.ofString "streams") = some (.ref σ.str) ∧ f (Str.ofString "shake") = some (.ref σ.shk) ∧ f (Str.ofString "probe_wait") = some (.ref σ.fp) ∧
    f (Str.ofString "challenged") = some (.int 2 t) ∧ f (Str.ofString "choose") = some (.ref σ.fh)
  bH : BChoose w σ.fh σ.ch σ.ofh σ.och
  bP : BProbe w σ.fp σ.cp σ.ofp σ.ocp
  bT : BGive w σ.ft σ.ct σ.oft σ.oct [(σ.cLim, σ.oLim)] (.ref σ.ll)
  bW : BGive w σ.fw σ.cw σ.ofw σ.ocw [(σ.cWants, σ.oWants), (σ.cTried, σ.oTried)] (if σ.wants then .ref σ.trd else .none)
  bC : BChal w σ.fc σ.cc σ.cLog lg σ.ofc σ.occ σ.oLog
  bN : BNext w σ.fn σ.cn σ.cLog σ.cWait lg σ.wl σ.ofn σ.ocn σ.oLog σ.oWait
  fns : (∃ d, σ.ofh.data = .func d) ∧ (∃ d, σ.ofp.data = .func d) ∧ (∃ d, σ.oft.data = .func d) ∧ (∃ d, σ.ofw.data = .func d) ∧ (∃ d, σ.ofc.data = .func d) ∧ ∃ d, σ.ofn.data = .func d
  lim : σ.lims ≤ 1
  lfo : FrO σ.olf (.maxd 70)
  wok : ∀ f ∈ σ.ws, FrO f.2.1 f.2.2 ∧ f.2.2.ok
  wst : isStrm σ.ws
  wle : σ.ws.length ≤ 3
  aok : ∀ a ∈ σ.as, AnsO a.2.1 a.2.2.1 a.2.2.2 ∧ a.2.2.2.size = 8
  ale : σ.as.length ≤ 2
theorem state_end {g h h' : Heap} {L : Addr} {c : Nat} {r l1 l2 fh ch fp cp ft ct fn cn ll lf fw cw al fc cc wl shk dshk str dstr trd dtrd act dact paths dpaths conn dconn cWants cWait cTried cLim cLog cBox bx lg pt : Addr}
    {ofh och ofp ocp oft oct ofn ocn olf ofw ocw ofc occ oWants oWait oTried oLim oLog oBox ob ol op : Obj} {g1 g2 g3 g4 g5 g6 g7 : Addr × Obj} {eh es et ea ep ec : List DictEntry} {nh ns nt na np nc n1 n2 nl nwl : Nat} {ws : List Wf} {as : List Af} {wants : Bool} {lims : Nat}
    (N : News g L h' ((r, { cls := .type "tuple", data := .seq #[.ref conn, .ref l1, .bool wants, .ref l2] }) :: (l2, W.listOf (List.replicate lims (Value.ref lf)).toArray n2) :: (l1, W.listOf (refs (wadr ws)) n1) :: (fh, ofh) :: (ch, och) :: g1 :: (fp, ofp) :: (cp, ocp) :: g2 :: (ft, oft) :: (ct, oct) :: (fn, ofn) :: (cn, ocn) ::
      (ll, W.listOf (List.replicate lims (Value.ref lf)).toArray nl) :: g3 :: (lf, olf) :: (fw, ofw) :: (cw, ocw) :: (al, lst ((aadr as).map Value.ref)) :: g4 :: g5 :: (fc, ofc) :: (cc, occ) :: g6 :: (wl, W.listOf (refs (wadr ws)) nwl) ::
      (shk, instObj 319 dshk) :: (dshk, dictOf eh nh) :: (str, instObj 319 dstr) :: (dstr, dictOf es ns) :: g7 :: (trd, instObj 319 dtrd) :: (dtrd, dictOf et nt) :: (act, instObj 319 dact) :: (dact, dictOf ea na) :: (paths, instObj 319 dpaths) :: (dpaths, dictOf ep np) ::
      (conn, instObj 319 dconn) :: (dconn, dictOf ec nc) :: (cWants, oWants) :: (cWait, oWait) :: (cTried, oTried) :: (cLim, oLim) :: (cLog, oLog) :: (cBox, oBox) :: (bx, ob) :: (lg, ol) :: (pt, op) :: (ents ws ++ entA as)))
    (hB : Bel (r :: l2 :: l1 :: fh :: ch :: g1.1 :: fp :: cp :: g2.1 :: ft :: ct :: fn :: cn :: ll :: g3.1 :: lf :: fw :: cw :: al :: g4.1 :: g5.1 :: fc :: cc :: g6.1 :: wl :: shk :: dshk :: str :: dstr :: g7.1 :: trd :: dtrd :: act :: dact :: paths :: dpaths ::
      conn :: dconn :: cWants :: cWait :: cTried :: cLim :: cLog :: cBox :: bx :: lg :: pt :: (ents ws ++ entA as).map (·.1)) c)
    (kg : ∀ b o, b ∉ [bx, lg, pt] → h.get? b = some o → g.get? b = some o) (σ : SA)
    (hσ : σ = ⟨l1, l2, fh, ch, fp, cp, ft, ct, fn, cn, ll, lf, fw, cw, al, fc, cc, wl, shk, dshk, str, dstr, trd, dtrd, act, dact, paths, dpaths, conn, dconn, cWants, cWait, cTried, cLim, cLog, ofh, och, ofp, ocp, oft, oct, ofn, ocn, olf, ofw, ocw, ofc, occ, oWants, oWait, oTried, oLim, oLog,
      eh, es, et, ea, ep, ec, nh, ns, nt, na, np, nc, n1, n2, nl, ((aadr as).map Value.ref).length, nwl, ws, as, wants, lims⟩) :
    (∀ p ∈ (r, { cls := .type "tuple", data := .seq #[.ref σ.conn, .ref σ.l1, .bool σ.wants, .ref σ.l2] }) :: (σ.led ++ (ents ws ++ entA as)), h'.get? p.1 = some p.2 ∧ h.get? p.1 = none) ∧ (((r, ({ cls := .type "tuple", data := .seq #[.ref σ.conn, .ref σ.l1, .bool σ.wants, .ref σ.l2] } : Obj)) :: (σ.led ++ (ents ws ++ entA as))).map (·.1)).Nodup := by
  subst hσ
  dsimp only
  generalize ({ cls := .type "tuple", data := .seq #[.ref conn, .ref l1, .bool wants, .ref l2] } : Obj) = or at N ⊢
  have sub : List.Sublist ((r, or) :: (SA.led ⟨l1, l2, fh, ch, fp, cp, ft, ct, fn, cn, ll, lf, fw, cw, al, fc, cc, wl, shk, dshk, str, dstr, trd, dtrd, act, dact, paths, dpaths, conn, dconn, cWants, cWait, cTried, cLim, cLog, ofh, och, ofp, ocp, oft, oct, ofn, ocn, olf, ofw, ocw, ofc, occ, oWants, oWait, oTried, oLim, oLog,
      eh, es, et, ea, ep, ec, nh, ns, nt, na, np, nc, n1, n2, nl, ((aadr as).map Value.ref).length, nwl, ws, as, wants, lims⟩ ++ ([(bx, ob), (lg, ol), (pt, op)] ++ (ents ws ++ entA as)))) _ :=
    .cons_cons _ (.cons_cons _ (.cons_cons _ (.cons_cons _ (.cons_cons _ (.cons g1 (.cons_cons _ (.cons_cons _ (.cons g2 (.cons_cons _ (.cons_cons _ (.cons_cons _ (.cons_cons _ (.cons_cons _ (.cons g3 (.cons_cons _ (.cons_cons _ (.cons_cons _ (.cons_cons _ (.cons g4 (.cons g5 (.cons_cons _ (.cons_cons _ (.cons g6 (.cons_cons _ (.cons_cons _ (.cons_cons _ (.cons_cons _ (.cons_cons _ (.cons g7
      (.cons_cons _ (.cons_cons _ (.cons_cons _ (.cons_cons _ (.cons_cons _ (.cons_cons _ (.cons_cons _ (.cons_cons _ (.cons_cons _ (.cons_cons _ (.cons_cons _ (.cons_cons _ (.cons_cons _ (.cons (cBox, oBox) (.cons_cons _ (.cons_cons _ (.cons_cons _ (.refl (ents ws ++ entA as))))))))))))))))))))))))))))))))))))))))))))))))
  have sub2 := sub.map (fun p : Addr × Obj => p.1)
  have nd := (bel_sub hB sub2).1
  have hsplit : ∀ p ∈ (r, or) :: (SA.led ⟨l1, l2, fh, ch, fp, cp, ft, ct, fn, cn, ll, lf, fw, cw, al, fc, cc, wl, shk, dshk, str, dstr, trd, dtrd, act, dact, paths, dpaths, conn, dconn, cWants, cWait, cTried, cLim, cLog, ofh, och, ofp, ocp, oft, oct, ofn, ocn, olf, ofw, ocw, ofc, occ, oWants, oWait, oTried, oLim, oLog,
      eh, es, et, ea, ep, ec, nh, ns, nt, na, np, nc, n1, n2, nl, ((aadr as).map Value.ref).length, nwl, ws, as, wants, lims⟩ ++ (ents ws ++ entA as)), p.1 ∉ [bx, lg, pt] ∧ p ∈ (r, or) :: (SA.led ⟨l1, l2, fh, ch, fp, cp, ft, ct, fn, cn, ll, lf, fw, cw, al, fc, cc, wl, shk, dshk, str, dstr, trd, dtrd, act, dact, paths, dpaths, conn, dconn, cWants, cWait, cTried, cLim, cLog, ofh, och, ofp, ocp, oft, oct, ofn, ocn, olf, ofw, ocw, ofc, occ, oWants, oWait, oTried, oLim, oLog,
      eh, es, et, ea, ep, ec, nh, ns, nt, na, np, nc, n1, n2, nl, ((aadr as).map Value.ref).length, nwl, ws, as, wants, lims⟩ ++ ([(bx, ob), (lg, ol), (pt, op)] ++ (ents ws ++ entA as))) := by
    generalize SA.led _ = Z at nd ⊢
    intro p hp
    have nd2 : ((((r, or) :: Z) ++ ([(bx, ob), (lg, ol), (pt, op)] ++ (ents ws ++ entA as))).map (·.1)).Nodup := nd
    rw [List.map_append, List.map_append] at nd2
    k_extra "g1"
    obtain ⟨a1, a2, a3⟩ := List.nodup_append.mp nd2
    k_extra "g2"
    k_extra "g1"
    obtain ⟨b1, b2, b3⟩ := List.nodup_append.mp a2
    k_extra "g2"
    have hp' : p ∈ ((r, or) :: Z) ++ (ents ws ++ entA as) := hp
    rcases List.mem_append.mp hp' with hp | hp
    · refine ⟨fun q => a3 p.1 (List.mem_map_of_mem hp) p.1 (List.mem_append_left _ q) rfl, ?_⟩
      exact (List.mem_append_left _ hp : p ∈ ((r, or) :: Z) ++ _)
    · refine ⟨fun q => b3 p.1 q p.1 (List.mem_map_of_mem hp) rfl, ?_⟩
      exact (List.mem_append_right _ (List.mem_append_right _ hp) : p ∈ ((r, or) :: Z) ++ _)
  refine ⟨fun p hp => ?_, ?_⟩
  · obtain ⟨h1, h2⟩ := hsplit p hp
    have hm := sub.subset h2
    exact ⟨(N p hm).1, fresh_in kg N hm h1⟩
  · clear hsplit
    generalize SA.led _ = Z at nd ⊢
    refine List.Sublist.nodup ?_ nd
    refine List.Sublist.map _ (.cons_cons _ (List.Sublist.append_left ?_ _))
    exact List.sublist_append_right _ _
end
noncomputable section
open PyProof.Rows.LCg
section
variable {prog : Program} {w : World} {A : Around} {E : Value → Shared → Prop} {s : Shared} {R : Result → Shared → Prop} {h₀ : Heap} {K : Frag} {p : Program} {loose : List Str} {mean : ExcName → Option Value} {mg mb : Str → Option Value}
theorem kw_52 : True := by
  k_with_none
  k_with "g1" => refine by_goal fun zG zh => ?_
  k_with "g2" => (refine zh ?_; clear zh zG)
  trivial
theorem code_lamX_any {name qual : Str} {params : Arguments} {body : Expr} {scope : Scope} {cl : List (Str × Addr)} {pm ct : Value} {c f : Addr} {args : Args} (h₀ : Heap) (news : List (Addr × Obj)) (binds : List (Str × Value))
    (keep : ∀ b o, h₀.get? b = some o → s.heap.get? b = some o) (X : K.In h₀) (T : Top p loose mean mg mb h₀) (Ld : Led h₀ s.heap news)
    (ho : s.heap.get? f = some (kla_obj name qual params body scope cl pm c ct)) (hcd : s.heap.CodeRec (.ref c) qual) (hroom : A.depth < recursionLimit)
    (hbind : BindsTo s (kla_fn name qual params body scope cl pm (.ref c) ct) args binds) (hloc : ∀ y ∈ binds, scope.names.lookup y.1 = some .local)
    (h : ∀ g L' h₁, K.In g → Top p loose mean mg mb g → (∀ b o, b ∉ news.map (·.1) → s.heap.get? b = some o → g.get? b = some o) → (∀ b o, h₀.get? b = some o → g.get? b = some o) → Fr g L' h₁ (fun y => binds.reverse.lookup y) → News g L' h₁ news → (∀ p ∈ news, p.1 < L') → g.objs.size ≤ L' → 
      wpAny (model prog w) (A.deeper (envX qual scope L' f (.ref c) cl)) (eval body (envX qual scope L' f (.ref c) cl))
        (fun v s' => R (.ok (.ret v)) s') (fun _ _ => False)
        { s with heap := h₁, toks := s.toks + binds.length })
    (hco : scope.isCoroutine = false) (hgen : scope.isGenerator = false) (hk : scope.kind = .function)
    (hcell : ∀ x ∈ scope.names, x.2 ≠ .cell) : codeAny (model prog w) A (.call (.ref f) args) R s := by
  have st := led_base keep Ld
  refine kla_callFunE (fd := kla_fn name qual params body scope cl pm (.ref c) ct) (body := body) hroom ho rfl hco hgen rfl hcd (hbind _ _ _ _ ?_)
  refine wpAny_newFunctionEnv hcell hloc (fun h₁ hns hsb => ⟨(T.nolimit.keeps keep).fresh _ hsb, kla_codeExpr ?_⟩) hk
  have hk₁ : ∀ b o, s.heap.get? b = some o → h₁.get? b = some o := fun b o e => hsb.extBut b o (Nat.ne_of_lt (Heap.lt_size e)) (Heap.get?_push_of_some _ e)
  exact wpAny_mono (h _ s.heap.objs.size h₁ (X.keeps st) (T.keeps st) (fun b o hb e => hideAll_get _ e hb) st ⟨hns, fun b o e => hk₁ b o (of_hideAll _ e), Nat.le_of_eq (hideAll_size _ _)⟩
    (fun p hp => ⟨hk₁ _ _ (Ld p hp).1, Nat.ne_of_lt (Heap.lt_size (Ld p hp).1), hideAll_none _ (List.mem_map_of_mem hp)⟩) (fun p hp => Heap.lt_size (Ld p hp).1) (Nat.le_of_eq (hideAll_size _ _))) (fun _ _ q => q) fun _ _ q => q.elim
end
theorem keep_all {h₀ g h h' : Heap} {L : Addr} {m : Str → Option Value} {news : List (Addr × Obj)} (Ld : Led h₀ h news) (kg : ∀ b o, b ∉ news.map (·.1) → h.get? b = some o → g.get? b = some o) (F : Fr g L h' m) (N : ∀ p ∈ news, h'.get? p.1 = some p.2) : ∀ b o, h.get? b = some o → h'.get? b = some o := by
  intro b o e
  by_cases hb : b ∈ news.map (·.1)
  · k_extra "g1"
    obtain ⟨p, hp, rfl⟩ := List.mem_map.mp hb
    k_extra "g2"
    rw [(Ld p hp).1] at e; cases e
    exact N p hp
  · exact F.keep b o (kg b o hb e)
theorem keep_but {h₀ g h h' : Heap} {L x : Addr} {m : Str → Option Value} {news : List (Addr × Obj)} (Ld : Led h₀ h news) (kg : ∀ b o, b ∉ news.map (·.1) → h.get? b = some o → g.get? b = some o) (F : Fr g L h' m) (N : ∀ p ∈ news, @Ne Nat p.1 x → h'.get? p.1 = some p.2) : ∀ b o, b ≠ x → h.get? b = some o → h'.get? b = some o := by
  intro b o hx e
  by_cases hb : b ∈ news.map (·.1)
  · k_extra "g1"
    obtain ⟨p, hp, rfl⟩ := List.mem_map.mp hb
    k_extra "g2"
    rw [(Ld p hp).1] at e; cases e
    exact N p hp hx
  · exact F.keep b o (kg b o hb e)
theorem keep_but2 {h₀ g h h' : Heap} {L x y : Addr} {m : Str → Option Value} {news : List (Addr × Obj)} (Ld : Led h₀ h news) (kg : ∀ b o, b ∉ news.map (·.1) → h.get? b = some o → g.get? b = some o) (F : Fr g L h' m) (N : ∀ p ∈ news, @Ne Nat p.1 x → @Ne Nat p.1 y → h'.get? p.1 = some p.2) : ∀ b o, b ≠ x → b ≠ y → h.get? b = some o → h'.get? b = some o := by
  intro b o hx hy e
  by_cases hb : b ∈ news.map (·.1)
  · k_extra "g1"
    obtain ⟨p, hp, rfl⟩ := List.mem_map.mp hb
    k_extra "g2"
    rw [(Ld p hp).1] at e; cases e
    exact N p hp hx hy
  · exact F.keep b o (kg b o hb e)
end
noncomputable section
open PyProof.Rows.LCg
theorem kw_55 : True := by
  k_with_none
  k_with "rm" => first | exact room_lt (by assumption) rfl | exact room_lt1 (by assumption) | lia
  k_with "fl" => ((have _h : Challenge.rw_pf0272_01 = Challenge.rw_pf0272_01 ∧ mkK.heap_1 = mkK.heap_1 := by (k_fill; exact ⟨rfl, rfl⟩)); clear _h)
  k_with "WW" => (repeat' (first | ((with_reducible show wpAny _ _ _ _ _ _); (fail_if_success (with_reducible show wpAny _ _ (eval (Expr.ListComp _ _ _ _) _) _ _ _)); (fail_if_success (with_reducible show wpAny _ _ (pyIter _) _ _ _)); (fail_if_success (with_reducible show wpAny _ _ (exec (Stmt.Assign [Expr.Name _ _] (Expr.ListComp _ _ _ _) _) _) _ _ _)); walk1) | ((with_reducible show ite _ _ _); walk1) | ((with_reducible show (Frag.In _ _ ∧ wpAny _ _ _ _ _ _)); refine And.intro (Frag.In.keeps (by assumption) (Fr.keep (by assumption))) ?_) | ((with_reducible show (Heap.get? _ _ = some _ ∧ wpAny _ _ _ _ _ _)); refine And.intro (News.get (by assumption) (by k_mem)) ?_) | ((fail_if_success (with_reducible show wpAny _ _ _ _ _ _)); dsimp only)))
  trivial
noncomputable def stBody : List Stmt := match (Challenge.pw_pf0272_01.main.body[64]? : Option Stmt) with
  | some (.FunctionDef _ _ b _ _ _ _ _ _ _) => b
  | _ => []
noncomputable def stVal (k : Nat) : Expr := match (stBody[k]? : Option Stmt) with
  | some (.Assign _ v _) => v
  | _ => .Constant .none 0 default
noncomputable def stElt (k j : Nat) : Expr := match stVal k with
  | .Tuple es _ _ => (es[j]?).getD (.Constant .none 0 default)
  | _ => .Constant .none 0 default
theorem kw_53 : True := by
  k_with "getAttr ref" => (k_here; k_dflt (refine getA (by k_asm) (by k_asm) (by k_asm) (by k_mem) (by k_mem) (by k_asm) (by exact rfl) (by k_is) (by k_is) (by k_is) (by k_is) (by k_handed) ?_; k_whole))
  k_with "getMethod ref" => (k_here; k_dflt (refine methA (by k_asm) (by k_asm) (by k_asm) (by k_mem) (by k_mem) (by k_asm) (by exact rfl) (by k_is) (by k_is) (by k_is) (by k_handed) ?_; k_whole))
  k_with "setAttr ref" => (k_here; k_dflt (refine setA (by k_asm) (by k_asm) (by k_asm) (by k_mem) (by k_mem) (by k_asm) (by k_is) (by k_is) (by k_is) (by k_is) (by (intro _ _; k_upd)) (by exact Nat.le_of_ble_eq_true rfl) ?_; k_whole); intro _ _ _ _ _ zN; (try dsimp only at zN); (revert zN; intro _); (try k_sweep))
  k_with "call ref" => (k_here; (with_reducible show wpAny _ _ (call (Value.ref 319) [Value.str _ _]) _ _ _); (rename Fr _ _ _ _ => F); (rename News _ _ _ _ => N); (refine space_U F N X T (by (show dp + 1 + 20 < recursionLimit); k_extra "rm") (by (show un + 3 + 200 < cLine); k_extra "rm") fun x' d' es' n' f' h' tk' l1 l2 D' F' N' => ?_); clear F N; (try k_lt l1); (try k_lt2 l2))
  trivial
theorem led_ne {h₀ h : Heap} {news : List (Addr × Obj)} {a b : Addr} {o o' : Obj} (Ld : Led h₀ h news) (h1 : (a, o) ∈ news) (h2 : (b, o') ∈ news) (hne : o ≠ o') : @Ne Nat a b := by
  rintro rfl
  have e1 := (Ld _ h1).1
  have e2 := (Ld _ h2).1
  rw [e1] at e2
  exact hne (Option.some.inj e2)
theorem b_probe {w : World} {f c : Addr} {oc : Obj} {qual : Str} {pm ct : Value} {vs : Array Value} {tq : Tok} (hoc : oc.data = .fields vs) (hq : vs[1]? = some (.str qual tq)) : match stElt 12 3 with
    | .Lambda ps bd sc _ => BProbe w f c (kla_obj (Str.ofString "<lambda>") qual ps bd sc [] pm c ct) oc
    | _ => True := by
  k_extra "fl"
  conv => whnf
  intro dp un fr gd s p loose mean mg mb E Q h₀ keep X T hd hu Ld hQ
  refine wpAny_call ?_
  refine code_lamX_any h₀ _ [] keep X T Ld (Ld _ (.head _)).1 ⟨_, _, _, _, rfl, (Ld _ (.tail _ (.head _))).1, hoc, hq⟩ (by (show dp < recursionLimit); k_extra "rm") (BindsTo.of_eq rfl) (locs rfl) ?_ rfl rfl rfl (by decide)
  clear X T
  intro g L h X T kg kb F N hlt hgL
  have C9 : CodeHd g 351 349 := codeHd_of_K X (by kernel_rfl)
  dsimp only
  k_extra "WW"
  rename Fr _ _ _ _ => F9
  rename News _ _ _ _ => N9
  exact hQ _ _ _ (keep_all Ld kg F9 fun p hp => (N9 p hp).1)
theorem b_choose {w : World} {f c : Addr} {oc : Obj} {qual : Str} {pm ct : Value} {vs : Array Value} {tq : Tok} (hoc : oc.data = .fields vs) (hq : vs[1]? = some (.str qual tq)) : match stVal 14 with
    | .Lambda ps bd sc _ => BChoose w f c (kla_obj (Str.ofString "<lambda>") qual ps bd sc [] pm c ct) oc
    | _ => True := by
  k_extra "fl"
  conv => whnf
  intro dp un fr gd s p loose mean mg mb E Q h₀ t1 t2 t3 keep X T hd hu Ld hQ
  refine wpAny_call ?_
  refine code_lamX_any h₀ _ [(Str.ofString "sort", .str (Str.ofString "challenge") t1), (Str.ofString "number", .int 2 t2), (Str.ofString "size", .int 8 t3)] keep X T Ld (Ld _ (.head _)).1 ⟨_, _, _, _, rfl, (Ld _ (.tail _ (.head _))).1, hoc, hq⟩ (by (show dp < recursionLimit); k_extra "rm") (BindsTo.of_eq rfl) (locs rfl) ?_ rfl rfl rfl (by decide)
  clear X T
  intro g L h X T kg kb F N hlt hgL
  have C9 : CodeHd g 351 349 := codeHd_of_K X (by kernel_rfl)
  dsimp only
  k_extra "WW"
  rename Fr _ _ _ _ => F9
  rename News _ _ _ _ => N9
  rw [show (List.replicate (Int.toNat 8) [Value.int 2 t2]).flatten = [Value.int 2 t2, Value.int 2 t2, Value.int 2 t2, Value.int 2 t2, Value.int 2 t2, Value.int 2 t2, Value.int 2 t2, Value.int 2 t2] from rfl] at N9
  rename IntsAre _ _ => i1
  replace i1 : IntsAre [Value.int 2 t2, Value.int 2 t2, Value.int 2 t2, Value.int 2 t2, Value.int 2 t2, Value.int 2 t2, Value.int 2 t2, Value.int 2 t2] [2, 2, 2, 2, 2, 2, 2, 2] := i1
  refine bytes_K F9 N9 ⟨_, N9.get (.head _), rfl, _, rfl⟩ i1 (fun n hn => ?_) (by rw [sizeLine_eq]; simp) rfl fun h' t k F8 N8 _ => ?_
  · simp only [List.mem_cons, List.not_mem_nil, or_false, or_self] at hn
    lia
  · rw [show (List.map (fun n : Int => n.toNat.toUInt8) [2, 2, 2, 2, 2, 2, 2, 2]).toArray = #[2, 2, 2, 2, 2, 2, 2, 2] from by decide]
    refine hQ _ _ _ (keep_all Ld kg F8 fun p hp => (N8 p ?_).1)
    simp only [List.mem_cons, List.not_mem_nil, or_false] at hp ⊢
    rcases hp with hp | hp <;> simp [hp]
theorem b_limits {w : World} {f c cL ll : Addr} {oc oL : Obj} {qual : Str} {pm ct : Value} {vs : Array Value} {tq : Tok} (hoc : oc.data = .fields vs) (hq : vs[1]? = some (.str qual tq)) (hL : oL.data = .cell (some (.ref ll))) : match stElt 10 0 with
    | .Lambda ps bd sc _ => BGive w f c (kla_obj (Str.ofString "<lambda>") qual ps bd sc [(Str.ofString "limits", cL)] pm c ct) oc [(cL, oL)] (.ref ll)
    | _ => True := by
  k_extra "fl"
  conv => whnf
  intro dp un fr gd s p loose mean mg mb E Q h₀ keep X T hd hu Ld hQ
  refine wpAny_call ?_
  refine code_lamX_any h₀ _ [] keep X T Ld (Ld _ (.head _)).1 ⟨_, _, _, _, rfl, (Ld _ (.tail _ (.head _))).1, hoc, hq⟩ (by (show dp < recursionLimit); k_extra "rm") (BindsTo.of_eq rfl) (locs rfl) ?_ rfl rfl rfl (by decide)
  clear X T
  intro g L h X T kg kb F N hlt hgL
  have C9 : CodeHd g 351 349 := codeHd_of_K X (by kernel_rfl)
  dsimp only
  k_extra "WW"
  rename Fr _ _ _ _ => F9
  rename News _ _ _ _ => N9
  exact hQ _ _ (keep_all Ld kg F9 fun p hp => (N9 p hp).1)
theorem b_wants {w : World} {f c cW cT tr : Addr} {oc oW oT : Obj} {qual : Str} {pm ct : Value} {vs : Array Value} {tq : Tok} {b : Bool} (hoc : oc.data = .fields vs) (hq : vs[1]? = some (.str qual tq)) (hW : oW.data = .cell (some (.bool b))) (hT : oT.data = .cell (some (.ref tr))) : match stVal 7 with
    | .Lambda ps bd sc _ => BGive w f c (kla_obj (Str.ofString "<lambda>") qual ps bd sc [(Str.ofString "wants", cW), (Str.ofString "tried", cT)] pm c ct) oc [(cW, oW), (cT, oT)] (if b then .ref tr else .none)
    | _ => True := by
  k_extra "fl"
  conv => whnf
  intro dp un fr gd s p loose mean mg mb E Q h₀ keep X T hd hu Ld hQ
  cases b
  · refine wpAny_call ?_
    refine code_lamX_any h₀ _ [] keep X T Ld (Ld _ (.head _)).1 ⟨_, _, _, _, rfl, (Ld _ (.tail _ (.head _))).1, hoc, hq⟩ (by (show dp < recursionLimit); k_extra "rm") (BindsTo.of_eq rfl) (locs rfl) ?_ rfl rfl rfl (by decide)
    clear X T
    intro g L h X T kg kb F N hlt hgL
    have C9 : CodeHd g 351 349 := codeHd_of_K X (by kernel_rfl)
    dsimp only
    k_extra "WW"
    rename Fr _ _ _ _ => F9
    rename News _ _ _ _ => N9
    exact hQ _ _ (keep_all Ld kg F9 fun p hp => (N9 p hp).1)
  · refine wpAny_call ?_
    refine code_lamX_any h₀ _ [] keep X T Ld (Ld _ (.head _)).1 ⟨_, _, _, _, rfl, (Ld _ (.tail _ (.head _))).1, hoc, hq⟩ (by (show dp < recursionLimit); k_extra "rm") (BindsTo.of_eq rfl) (locs rfl) ?_ rfl rfl rfl (by decide)
    clear X T
    intro g L h X T kg kb F N hlt hgL
    have C9 : CodeHd g 351 349 := codeHd_of_K X (by kernel_rfl)
    dsimp only
    k_extra "WW"
    rename Fr _ _ _ _ => F9
    rename News _ _ _ _ => N9
    exact hQ _ _ (keep_all Ld kg F9 fun p hp => (N9 p hp).1)
theorem kw_54 : True := by
  k_with "call builtin:list.append" => (k_here; (with_reducible show wpAny _ _ (call (Value.builtin _) [Value.ref _, _]) _ _ _); k_dflt (refine append_K (by k_asm) (by k_asm) (by k_upd) ?_ (by assumption); k_whole); intro _ _ _; (try k_sweep))
  trivial
theorem b_chal {w : World} {f c cl lg : Addr} {oc ol : Obj} {qual : Str} {pm ct : Value} {vs : Array Value} {tq : Tok} (hoc : oc.data = .fields vs) (hq : vs[1]? = some (.str qual tq)) (hl : ol.data = .cell (some (.ref lg))) : match stVal 3 with
    | .Lambda ps bd sc _ => BChal w f c cl lg (kla_obj (Str.ofString "<lambda>") qual ps bd sc [(Str.ofString "log", cl)] pm c ct) oc ol
    | _ => True := by
  k_extra "fl"
  conv => whnf
  intro dp un fr gd s p loose mean mg mb E Q h₀ items k d n x keep X T hd hu Ld hz hQ
  replace hz : items.size ≤ sizeLine := by rw [sizeLine_eq]; lia
  have q1 : @Ne Nat lg f := led_ne Ld (.head _) (.tail _ (.head _)) (by intro e; have := congrArg Obj.cls e; simp at this)
  have q2 : @Ne Nat lg c := led_ne Ld (.head _) (.tail _ (.tail _ (.head _))) (by rintro rfl; cases hoc)
  have q3 : @Ne Nat lg cl := led_ne Ld (.head _) (.tail _ (.tail _ (.tail _ (.head _)))) (by rintro rfl; cases hl)
  refine wpAny_call ?_
  refine code_lamX_any h₀ _ [(Str.ofString "data", d), (Str.ofString "now", n), (Str.ofString "wait", x)] keep X T Ld (Ld _ (.tail _ (.head _))).1 ⟨_, _, _, _, rfl, (Ld _ (.tail _ (.tail _ (.head _)))).1, hoc, hq⟩ (by (show dp < recursionLimit); k_extra "rm") (BindsTo.of_eq rfl) (locs rfl) ?_ rfl rfl rfl (by decide)
  clear X T
  intro g L h X T kg kb F N hlt hgL
  have C9 : CodeHd g 351 349 := codeHd_of_K X (by kernel_rfl)
  dsimp only
  k_extra "WW"
  rename Fr _ _ _ _ => F9
  rename News _ _ _ _ => N9
  refine hQ _ _ _ _ _ (keep_but Ld kg F9 fun p hp hne => (N9 p ?_).1) (N9.get (.tail _ (.head _))) (N9.get (.head _)) (fresh_in kg N9 (.head _) ?_) ⟨_, _, _, rfl, rfl, rfl⟩
  · simp only [List.mem_cons, List.not_mem_nil, or_false] at hp ⊢
    rcases hp with rfl | hp | hp | hp
    · exact absurd rfl hne
    · simp [hp]
    · simp [hp]
    · simp [hp]
  · simp only [List.map_cons, List.map_nil, List.mem_cons, List.not_mem_nil, or_false, not_or]
    refine ⟨?_, ?_, ?_, ?_⟩ <;> (refine neN ?_; lia)
end
noncomputable section
open PyProof.Rows.LCg
theorem kw_60 : True := by
  k_with_none
  k_with "rm" => first | exact room_lt (by assumption) rfl | exact room_lt1 (by assumption) | lia
  k_with "g1" => refine by_goal fun zG zh => ?_
  k_with "g2" => (refine zh ?_; clear zh zG)
  k_with "WK" => (repeat' (first | ((with_reducible show wpAny _ _ (execs (_ :: _) _) _ _ _); (first | (k_gentoks; (set_option tactic.hygienic false in k_extra "cl")) | walk1)) | ((with_reducible show wpAny _ _ _ _ _ _); (fail_if_success (with_reducible show wpAny _ _ (eval (Expr.ListComp _ _ _ _) _) _ _ _)); (fail_if_success (with_reducible show wpAny _ _ (pyIter _) _ _ _)); (fail_if_success (with_reducible show wpAny _ _ (exec (Stmt.Assign [Expr.Name _ _] (Expr.ListComp _ _ _ _) _) _) _ _ _)); walk1; (set_option tactic.hygienic false in k_extra "cl")) | ((with_reducible show ite _ _ _); walk1) | ((with_reducible show (Frag.In _ _ ∧ wpAny _ _ _ _ _ _)); refine And.intro (Frag.In.keeps (by assumption) (Fr.keep (by assumption))) ?_) | ((with_reducible show (Heap.get? _ _ = some _ ∧ wpAny _ _ _ _ _ _)); refine And.intro (News.get (by assumption) (by k_mem)) ?_) | ((fail_if_success (with_reducible show wpAny _ _ _ _ _ _)); dsimp only)))
  trivial
theorem kw_56 : True := by
  k_with "getAttr ref" => (k_here; k_dflt (refine getA (by k_asm) (by k_asm) (by k_asm) (by k_mem) (by k_mem) (by k_asm) (by exact rfl) (by k_is) (by k_is) (by k_is) (by k_is) (by k_handed) ?_; k_whole))
  k_with "getMethod ref" => (k_here; k_dflt (refine methA (by k_asm) (by k_asm) (by k_asm) (by k_mem) (by k_mem) (by k_asm) (by exact rfl) (by k_is) (by k_is) (by k_is) (by k_handed) ?_; k_whole))
  k_with "setAttr ref" => (k_here; k_dflt (refine setA (by k_asm) (by k_asm) (by k_asm) (by k_mem) (by k_mem) (by k_asm) (by k_is) (by k_is) (by k_is) (by k_is) (by (intro _ _; k_upd)) (by exact Nat.le_of_ble_eq_true rfl) ?_; k_whole); intro _ _ _ _ _ zN; (try dsimp only at zN); (revert zN; intro _); (try k_sweep))
  k_with "call ref" => (k_here; (with_reducible show wpAny _ _ (call (Value.ref 319) [Value.str _ _]) _ _ _); (rename Fr _ _ _ _ => F); (rename News _ _ _ _ => N); (refine space_U F N X T (by (show dp + 1 + 20 < recursionLimit); k_extra "rm") (by (show un + 3 + 200 < cLine); k_extra "rm") fun x' d' es' n' f' h' tk' l1 l2 D' F' N' => ?_); clear F N; (try k_lt l1); (try k_lt2 l2))
  k_with "call builtin:list.append" => (k_here; (with_reducible show wpAny _ _ (call (Value.builtin _) [Value.ref _, _]) _ _ _); k_dflt (refine append_K (by k_asm) (by k_asm) (by k_upd) ?_ (by assumption); k_whole); intro _ _ _; (try k_sweep))
  trivial
theorem frO_data {o : Obj} {d : Fd} (H : FrO o d) : o.cls = .type "tuple" ∧ ∃ items n, o.data = .seq items n := by
  k_extra "g1"
  obtain ⟨items, n, h1, h2, -⟩ := H
  k_extra "g2"
  exact ⟨h1, items, n, h2⟩
theorem kw_57 : True := by
  k_with "call ref" => (k_here; (with_reducible show wpAny _ _ (call (Value.ref 340) [Value.ref _]) _ _ _); (rename Fr _ _ _ _ => F); (rename News _ _ _ _ => N); (refine size_A F.keep X T (by (show ?dp + 1 + 40 < recursionLimit); lia) (by (show ?un + 3 + 300 < cLine); lia) hx1 (hx2.keeps F.keep) fun tkw hw tkw2 kw => ?_); (have Fw := fr_keep F kw); (have Nw := news_keep N kw); clear kw F N)
  trivial
theorem eq_ne_len {prog : Program} {w : World} {A : Around} {E : Value → Shared → Prop} {s : Shared} {h₀ : Heap} {L l b : Addr} {news : List (Addr × Obj)} {items items2 : Array Value} {n n2 : Nat} {Q : Value → Shared → Prop} (N : News h₀ L s.heap news) (h1 : (l, W.listOf items n) ∈ news) (h2 : (b, W.listOf items2 n2) ∈ news)
    (hsz : (items.size != items2.size) = true) (hu : A.units < cLine) (h : Q (.bool false) s) : wpAny (model prog w) A (compareOp .Eq (.ref l) (.ref b)) Q E s :=
  PySem.SeqAt.eq_list_lengthsAt ⟨_, N.get h1, rfl, _, rfl⟩ ⟨_, N.get h2, rfl, _, rfl⟩ hsz hu h
theorem kw_58 : True := by
  k_with "compareOp Eq ref ref" => (k_here; (with_reducible show wpAny _ _ (compareOp CmpOp.Eq (Value.ref _) (Value.ref _)) _ _ _); k_dflt (refine' eq_ne_len ?k1 ?k2 ?k3 ?k4 ?k5 ?_; (case k1 => k_asm); (case k2 => k_mem); (case k3 => k_mem); (case k4 => exact rfl); (case k5 => (show ?un + 3 < cLine); lia); k_whole))
  trivial
theorem ite_t {c : Prop} {A B : Prop} [Decidable c] (h : if c then A else B) (hc : c) : A := by rwa [if_pos hc] at h
theorem ite_f {c : Prop} {A B : Prop} [Decidable c] (h : if c then A else B) (hc : ¬c) : B := by rwa [if_neg hc] at h
theorem fr_apart {h₀ h : Heap} {news : List (Addr × Obj)} {a : Addr} {o : Obj} {d : Fd} (Ld : Led h₀ h news) (ha : h.get? a = some o) (H : FrO o d) (hn : ∀ p ∈ news, p.2.cls ≠ .type "tuple" ∨ ∀ items n, p.2.data ≠ .seq items n) : a ∉ news.map (·.1) := by
  intro q
  k_extra "g1"
  obtain ⟨p, hp, rfl⟩ := List.mem_map.mp q
  k_extra "g2"
  rw [(Ld p hp).1] at ha
  cases ha
  k_extra "g1"
  obtain ⟨h1, items, n, h2⟩ := frO_data H
  k_extra "g2"
  rcases hn p hp with e | e
  · exact e h1
  · exact e items n h2
noncomputable section
theorem kw_59 : True := by
  k_with "cl1" => first | refine no_implicit_lambda% (eps8 0 (inferInstanceAs (Box 0 IdT _)) rfl rfl ?_) | refine no_implicit_lambda% (eps7 0 (inferInstanceAs (Box 0 IdT _)) rfl rfl ?_) | refine no_implicit_lambda% (eps6 0 (inferInstanceAs (Box 0 IdT _)) rfl rfl ?_) | refine no_implicit_lambda% (eps5 0 (inferInstanceAs (Box 0 IdT _)) rfl rfl ?_) | refine no_implicit_lambda% (eps4 0 (inferInstanceAs (Box 0 IdT _)) rfl rfl ?_) | refine no_implicit_lambda% (eps3 0 (inferInstanceAs (Box 0 IdT _)) rfl rfl ?_) | refine no_implicit_lambda% (eps2 0 (inferInstanceAs (Box 0 IdT _)) rfl rfl ?_) | refine no_implicit_lambda% (epsd 0 (inferInstanceAs (Box 0 IdT _)) rfl rfl ?_)
  k_with "cl" => (set_option tactic.hygienic false in ((repeat ((first | rename Heap => q9 | rename Addr => q9 | rename Nat => q9 | rename Obj => q9 | rename Value => q9 | rename Int => q9 | rename List _ => q9 | rename Str → Option Value => q9 | rename Bool => q9 | rename Option _ => q9 | rename Array _ => q9 | rename Str => q9 | rename _ × _ => q9 | rename Shared => q9 | rename Program => q9 | rename ExcName → Option Value => q9 | rename Value → Shared → Prop => q9); revert q9)); (repeat (first | k_extra "cl1" | (with_reducible intro _)))))
  trivial
namespace b_next
noncomputable def St0 (w : World) (f : Addr) (c : Addr) (cl : Addr) (cw : Addr) (lg : Addr) (wl : Addr) (oc : Obj) (ol : Obj) (ow : Obj) (qual : Str) (pm : Value) (ct : Value) (doc : Value) (vs : Array Value) (tq : Tok) : Prop := ∀ (hoc : oc.data = .fields vs) (hq : vs[1]? = some (.str qual tq)) (hl : ol.data = .cell (some (.ref lg))) (hw : ow.data = .cell (some (.ref wl))) (hlw : @Ne Nat lg wl),
   match (stBody[9]? : Option Stmt) with
    | some (.FunctionDef nm ps bd _ _ _ sc _ _ _) => BNext w f c cl cw lg wl (fnMade nm qual ps bd sc [(Str.ofString "waiting", cw), (Str.ofString "log", cl)] doc pm c ct) oc ol ow
    | _ => True
noncomputable abbrev Ty0 : Type := (World) × (Addr) × (Addr) × (Addr) × (Addr) × (Addr) × (Addr) × (Obj) × (Obj) × (Obj) × (Str) × (Value) × (Value) × (Value) × (Array Value) × (Tok)
theorem ne0 : Nonempty Ty0 := ⟨Classical.choice neW, Classical.choice inferInstance, Classical.choice inferInstance, Classical.choice inferInstance, Classical.choice inferInstance, Classical.choice inferInstance, Classical.choice inferInstance, Classical.choice inferInstance, Classical.choice inferInstance, Classical.choice inferInstance, Classical.choice inferInstance, Classical.choice inferInstance, Classical.choice inferInstance, Classical.choice inferInstance, Classical.choice inferInstance, Classical.choice inferInstance⟩
noncomputable def P0 (vv0 : Ty0) : Prop := St0 (vv0.1) (vv0.2.1) (vv0.2.2.1) (vv0.2.2.2.1) (vv0.2.2.2.2.1) (vv0.2.2.2.2.2.1) (vv0.2.2.2.2.2.2.1) (vv0.2.2.2.2.2.2.2.1) (vv0.2.2.2.2.2.2.2.2.1) (vv0.2.2.2.2.2.2.2.2.2.1) (vv0.2.2.2.2.2.2.2.2.2.2.1) (vv0.2.2.2.2.2.2.2.2.2.2.2.1) (vv0.2.2.2.2.2.2.2.2.2.2.2.2.1) (vv0.2.2.2.2.2.2.2.2.2.2.2.2.2.1) (vv0.2.2.2.2.2.2.2.2.2.2.2.2.2.2.1) (vv0.2.2.2.2.2.2.2.2.2.2.2.2.2.2.2)
@[irreducible] def vv0 : Ty0 := @ata _ ne0 0 P0
@[irreducible] def w : World := vv0.1
@[irreducible] def f : Addr := vv0.2.1
@[irreducible] def c : Addr := vv0.2.2.1
@[irreducible] def cl : Addr := vv0.2.2.2.1
@[irreducible] def cw : Addr := vv0.2.2.2.2.1
@[irreducible] def lg : Addr := vv0.2.2.2.2.2.1
@[irreducible] def wl : Addr := vv0.2.2.2.2.2.2.1
@[irreducible] def oc : Obj := vv0.2.2.2.2.2.2.2.1
@[irreducible] def ol : Obj := vv0.2.2.2.2.2.2.2.2.1
@[irreducible] def ow : Obj := vv0.2.2.2.2.2.2.2.2.2.1
@[irreducible] def ct : Value := vv0.2.2.2.2.2.2.2.2.2.2.2.2.1
theorem prf0 : St0 w f c cl cw lg wl oc ol ow (vv0.2.2.2.2.2.2.2.2.2.2.1) (vv0.2.2.2.2.2.2.2.2.2.2.2.1) ct (vv0.2.2.2.2.2.2.2.2.2.2.2.2.2.1) (vv0.2.2.2.2.2.2.2.2.2.2.2.2.2.2.1) (vv0.2.2.2.2.2.2.2.2.2.2.2.2.2.2.2) := by
  intro hoc hq hl hw hlw
  have _h : Challenge.rw_pf0272_01 = Challenge.rw_pf0272_01 ∧ mkK.heap_1 = mkK.heap_1 := by
    k_fill
    exact ⟨rfl, rfl⟩
  clear _h
  conv => whnf
  k_extra "cl1"
  k_extra "cl1"
  intro ws r tr keep X T hd hu Ld hz hw3 hws hQ
  (have q9 : ?dp + 70 < recursionLimit := (by first | with_reducible assumption | assumption); clear q9); (have q9 : ?un + 600 < cLine := (by first | with_reducible assumption | assumption); clear q9)
  replace hz := Nat.le_trans hz (show 100 ≤ sizeLine by rw [sizeLine_eq]; decide)
  have q1 : @Ne Nat lg f := led_ne Ld (.head _) (.tail _ (.tail _ (.head _))) (by intro e; have := congrArg Obj.cls e; simp at this)
  have q2 : @Ne Nat lg c := led_ne Ld (.head _) (.tail _ (.tail _ (.tail _ (.head _)))) (by intro e; rw [← e] at hoc; cases hoc)
  have q3 : @Ne Nat lg cl := led_ne Ld (.head _) (.tail _ (.tail _ (.tail _ (.tail _ (.head _))))) (by intro e; rw [← e] at hl; cases hl)
  have q4 : @Ne Nat lg cw := led_ne Ld (.head _) (.tail _ (.tail _ (.tail _ (.tail _ (.tail _ (.head _)))))) (by intro e; rw [← e] at hw; cases hw)
  have p1 : @Ne Nat wl f := led_ne Ld (.tail _ (.head _)) (.tail _ (.tail _ (.head _))) (by intro e; have := congrArg Obj.cls e; simp at this)
  have p2 : @Ne Nat wl c := led_ne Ld (.tail _ (.head _)) (.tail _ (.tail _ (.tail _ (.head _)))) (by intro e; rw [← e] at hoc; cases hoc)
  have p3 : @Ne Nat wl cl := led_ne Ld (.tail _ (.head _)) (.tail _ (.tail _ (.tail _ (.tail _ (.head _))))) (by intro e; rw [← e] at hl; cases hl)
  have p4 : @Ne Nat wl cw := led_ne Ld (.tail _ (.head _)) (.tail _ (.tail _ (.tail _ (.tail _ (.tail _ (.head _)))))) (by intro e; rw [← e] at hw; cases hw)
  rcases ws with _ | ⟨x1, _ | ⟨x2, _ | ⟨x3, _ | ⟨x4, rest⟩⟩⟩⟩
  · replace Ld : Led _ _ [(lg, W.listOf _ _), (wl, W.listOf #[] _), (f, _), (c, oc), (cl, ol), (cw, ow)] := Ld
    refine wpAny_call ?_
    refine code_defX_any _ _ [(Str.ofString "room", .int r tr)] keep X T Ld (Ld _ (.tail _ (.tail _ (.head _)))).1 rfl ⟨_, _, _, _, rfl, (Ld _ (.tail _ (.tail _ (.tail _ (.head _))))).1, hoc, hq⟩ (by (show ?dp < recursionLimit); lia) (BindsTo.of_eq rfl) (locs rfl) ?_ rfl rfl rfl (by decide)
    clear X T
    intro g L h X T kg kb F N hlt hgL
    have C9 : CodeHd g 351 349 := codeHd_of_K X (by kernel_rfl)
    dsimp only
    k_extra "cl"
    k_extra "WK"
    rename Fr _ _ _ _ => F9
    rename News _ _ _ _ => N9
    have e1 := N9.get (.tail _ (.tail _ (.head _)))
    have e2 := N9.get (.tail _ (.head _))
    have e3 := fresh_in kg N9 (.tail _ (.head _)) (by simp only [List.map_cons, List.map_nil, List.mem_cons, List.not_mem_nil, or_false, not_or]; (refine ⟨?_, ?_, ?_, ?_, ?_, ?_⟩ <;> (refine neN ?_; lia)))
    have hq := fun tk' => hQ _ _ _ _ tk' e1 e2 e3 ⟨_, _, _, _, rfl, rfl, rfl⟩
    dsimp only at hq
    refine hq _ (keep_but Ld kg F9 fun p hp hne => (N9 p ?_).1)
    simp only [List.mem_cons, List.not_mem_nil, or_false] at hp ⊢
    rcases hp with rfl | hp | hp | hp | hp | hp
    · exact absurd rfl hne
    · simp [hp]
    · simp [hp]
    · simp [hp]
    · simp [hp]
    · simp [hp]
  · replace Ld : Led _ _ [(lg, W.listOf _ _), (wl, W.listOf #[.ref x1.1] _), (f, _), (c, oc), (cl, ol), (cw, ow)] := Ld
    k_extra "g1"
    obtain ⟨hx0, hx1, hx3⟩ := hws x1 (.head _)
    k_extra "g2"
    have hx4 := fr_apart Ld hx3 hx0 (by
      intro p hp
      simp only [List.mem_cons, List.not_mem_nil, or_false] at hp
      rcases hp with rfl | rfl | rfl | rfl | rfl | rfl
      · exact .inl (by simp)
      · exact .inl (by simp)
      · exact .inl (by simp)
      · exact .inr fun items n e => by rw [hoc] at e; cases e
      · exact .inr fun items n e => by rw [hl] at e; cases e
      · exact .inr fun items n e => by rw [hw] at e; cases e)
    refine wpAny_call ?_
    refine code_defX_any _ _ [(Str.ofString "room", .int r tr)] keep X T Ld (Ld _ (.tail _ (.tail _ (.head _)))).1 rfl ⟨_, _, _, _, rfl, (Ld _ (.tail _ (.tail _ (.tail _ (.head _))))).1, hoc, hq⟩ (by (show ?dp < recursionLimit); lia) (BindsTo.of_eq rfl) (locs rfl) ?_ rfl rfl rfl (by decide)
    clear X T
    intro g L h X T kg kb F N hlt hgL
    have C9 : CodeHd g 351 349 := codeHd_of_K X (by kernel_rfl)
    have hx2 : FrAt g x1.1 x1.2.2 := frO_at (kg _ _ hx4 hx3) hx0
    dsimp only
    k_extra "cl"
    k_extra "WK"
    · rename Fr _ _ _ _ => F9
      rename News _ _ _ _ => N9
      have e1 := N9.get (.tail _ (.tail _ (.head _)))
      have e2 := N9.get (.tail _ (.head _))
      have e3 := fresh_in kg N9 (.tail _ (.head _)) (by simp only [List.map_cons, List.map_nil, List.mem_cons, List.not_mem_nil, or_false, not_or]; (refine ⟨?_, ?_, ?_, ?_, ?_, ?_⟩ <;> (refine neN ?_; lia)))
      have hq := fun tk' => hQ _ _ _ _ tk' e1 e2 e3 ⟨_, _, _, _, rfl, rfl, rfl⟩
      dsimp only at hq
      refine ite_t (hq _) (by lia) (keep_but Ld kg F9 fun p hp hne => (N9 p ?_).1)
      simp only [List.mem_cons, List.not_mem_nil, or_false] at hp ⊢
      rcases hp with rfl | hp | hp | hp | hp | hp
      · exact absurd rfl hne
      · simp [hp]
      · simp [hp]
      · simp [hp]
      · simp [hp]
      · simp [hp]
    · rename Fr _ _ _ _ => F9
      rename News _ _ _ _ => N9
      have e1 := N9.get (.tail _ (.tail _ (.head _)))
      have e2 := N9.get (.tail _ (.head _))
      have e3 := fresh_in kg N9 (.tail _ (.head _)) (by simp only [List.map_cons, List.map_nil, List.mem_cons, List.not_mem_nil, or_false, not_or]; (refine ⟨?_, ?_, ?_, ?_, ?_, ?_⟩ <;> (refine neN ?_; lia)))
      have hq := fun tk' => hQ _ _ _ _ tk' e1 e2 e3 ⟨_, _, _, _, rfl, rfl, rfl⟩
      dsimp only at hq
      refine ite_f (hq _) (by lia) _ (keep_but2 Ld kg F9 fun p hp hne hne2 => (N9 p ?_).1) (N9.get (.tail _ (.tail _ (.tail _ (.head _)))))
      simp only [List.mem_cons, List.not_mem_nil, or_false] at hp ⊢
      rcases hp with rfl | rfl | hp | hp | hp | hp
      · exact absurd rfl hne
      · exact absurd rfl hne2
      · simp [hp]
      · simp [hp]
      · simp [hp]
      · simp [hp]
  · replace Ld : Led _ _ [(lg, W.listOf _ _), (wl, W.listOf #[.ref x1.1, .ref x2.1] _), (f, _), (c, oc), (cl, ol), (cw, ow)] := Ld
    k_extra "g1"
    obtain ⟨hx0, hx1, hx3⟩ := hws x1 (.head _)
    k_extra "g2"
    have hx4 := fr_apart Ld hx3 hx0 (by
      intro p hp
      simp only [List.mem_cons, List.not_mem_nil, or_false] at hp
      rcases hp with rfl | rfl | rfl | rfl | rfl | rfl
      · exact .inl (by simp)
      · exact .inl (by simp)
      · exact .inl (by simp)
      · exact .inr fun items n e => by rw [hoc] at e; cases e
      · exact .inr fun items n e => by rw [hl] at e; cases e
      · exact .inr fun items n e => by rw [hw] at e; cases e)
    refine wpAny_call ?_
    refine code_defX_any _ _ [(Str.ofString "room", .int r tr)] keep X T Ld (Ld _ (.tail _ (.tail _ (.head _)))).1 rfl ⟨_, _, _, _, rfl, (Ld _ (.tail _ (.tail _ (.tail _ (.head _))))).1, hoc, hq⟩ (by (show ?dp < recursionLimit); lia) (BindsTo.of_eq rfl) (locs rfl) ?_ rfl rfl rfl (by decide)
    clear X T
    intro g L h X T kg kb F N hlt hgL
    have C9 : CodeHd g 351 349 := codeHd_of_K X (by kernel_rfl)
    have hx2 : FrAt g x1.1 x1.2.2 := frO_at (kg _ _ hx4 hx3) hx0
    dsimp only
    k_extra "cl"
    k_extra "WK"
    · rename Fr _ _ _ _ => F9
      rename News _ _ _ _ => N9
      have e1 := N9.get (.tail _ (.tail _ (.head _)))
      have e2 := N9.get (.tail _ (.head _))
      have e3 := fresh_in kg N9 (.tail _ (.head _)) (by simp only [List.map_cons, List.map_nil, List.mem_cons, List.not_mem_nil, or_false, not_or]; (refine ⟨?_, ?_, ?_, ?_, ?_, ?_⟩ <;> (refine neN ?_; lia)))
      have hq := fun tk' => hQ _ _ _ _ tk' e1 e2 e3 ⟨_, _, _, _, rfl, rfl, rfl⟩
      dsimp only at hq
      refine ite_t (hq _) (by lia) (keep_but Ld kg F9 fun p hp hne => (N9 p ?_).1)
      simp only [List.mem_cons, List.not_mem_nil, or_false] at hp ⊢
      rcases hp with rfl | hp | hp | hp | hp | hp
      · exact absurd rfl hne
      · simp [hp]
      · simp [hp]
      · simp [hp]
      · simp [hp]
      · simp [hp]
    · rename Fr _ _ _ _ => F9
      rename News _ _ _ _ => N9
      have e1 := N9.get (.tail _ (.tail _ (.head _)))
      have e2 := N9.get (.tail _ (.head _))
      have e3 := fresh_in kg N9 (.tail _ (.head _)) (by simp only [List.map_cons, List.map_nil, List.mem_cons, List.not_mem_nil, or_false, not_or]; (refine ⟨?_, ?_, ?_, ?_, ?_, ?_⟩ <;> (refine neN ?_; lia)))
      have hq := fun tk' => hQ _ _ _ _ tk' e1 e2 e3 ⟨_, _, _, _, rfl, rfl, rfl⟩
      dsimp only at hq
      refine ite_f (hq _) (by lia) _ (keep_but2 Ld kg F9 fun p hp hne hne2 => (N9 p ?_).1) (N9.get (.tail _ (.tail _ (.tail _ (.head _)))))
      simp only [List.mem_cons, List.not_mem_nil, or_false] at hp ⊢
      rcases hp with rfl | rfl | hp | hp | hp | hp
      · exact absurd rfl hne
      · exact absurd rfl hne2
      · simp [hp]
      · simp [hp]
      · simp [hp]
      · simp [hp]
  · replace Ld : Led _ _ [(lg, W.listOf _ _), (wl, W.listOf #[.ref x1.1, .ref x2.1, .ref x3.1] _), (f, _), (c, oc), (cl, ol), (cw, ow)] := Ld
    k_extra "g1"
    obtain ⟨hx0, hx1, hx3⟩ := hws x1 (.head _)
    k_extra "g2"
    have hx4 := fr_apart Ld hx3 hx0 (by
      intro p hp
      simp only [List.mem_cons, List.not_mem_nil, or_false] at hp
      rcases hp with rfl | rfl | rfl | rfl | rfl | rfl
      · exact .inl (by simp)
      · exact .inl (by simp)
      · exact .inl (by simp)
      · exact .inr fun items n e => by rw [hoc] at e; cases e
      · exact .inr fun items n e => by rw [hl] at e; cases e
      · exact .inr fun items n e => by rw [hw] at e; cases e)
    refine wpAny_call ?_
    refine code_defX_any _ _ [(Str.ofString "room", .int r tr)] keep X T Ld (Ld _ (.tail _ (.tail _ (.head _)))).1 rfl ⟨_, _, _, _, rfl, (Ld _ (.tail _ (.tail _ (.tail _ (.head _))))).1, hoc, hq⟩ (by (show ?dp < recursionLimit); lia) (BindsTo.of_eq rfl) (locs rfl) ?_ rfl rfl rfl (by decide)
    clear X T
    intro g L h X T kg kb F N hlt hgL
    have C9 : CodeHd g 351 349 := codeHd_of_K X (by kernel_rfl)
    have hx2 : FrAt g x1.1 x1.2.2 := frO_at (kg _ _ hx4 hx3) hx0
    dsimp only
    k_extra "cl"
    k_extra "WK"
    · rename Fr _ _ _ _ => F9
      rename News _ _ _ _ => N9
      have e1 := N9.get (.tail _ (.tail _ (.head _)))
      have e2 := N9.get (.tail _ (.head _))
      have e3 := fresh_in kg N9 (.tail _ (.head _)) (by simp only [List.map_cons, List.map_nil, List.mem_cons, List.not_mem_nil, or_false, not_or]; (refine ⟨?_, ?_, ?_, ?_, ?_, ?_⟩ <;> (refine neN ?_; lia)))
      have hq := fun tk' => hQ _ _ _ _ tk' e1 e2 e3 ⟨_, _, _, _, rfl, rfl, rfl⟩
      dsimp only at hq
      refine ite_t (hq _) (by lia) (keep_but Ld kg F9 fun p hp hne => (N9 p ?_).1)
      simp only [List.mem_cons, List.not_mem_nil, or_false] at hp ⊢
      rcases hp with rfl | hp | hp | hp | hp | hp
      · exact absurd rfl hne
      · simp [hp]
      · simp [hp]
      · simp [hp]
      · simp [hp]
      · simp [hp]
    · rename Fr _ _ _ _ => F9
      rename News _ _ _ _ => N9
      have e1 := N9.get (.tail _ (.tail _ (.head _)))
      have e2 := N9.get (.tail _ (.head _))
      have e3 := fresh_in kg N9 (.tail _ (.head _)) (by simp only [List.map_cons, List.map_nil, List.mem_cons, List.not_mem_nil, or_false, not_or]; (refine ⟨?_, ?_, ?_, ?_, ?_, ?_⟩ <;> (refine neN ?_; lia)))
      have hq := fun tk' => hQ _ _ _ _ tk' e1 e2 e3 ⟨_, _, _, _, rfl, rfl, rfl⟩
      dsimp only at hq
      refine ite_f (hq _) (by lia) _ (keep_but2 Ld kg F9 fun p hp hne hne2 => (N9 p ?_).1) (N9.get (.tail _ (.tail _ (.tail _ (.head _)))))
      simp only [List.mem_cons, List.not_mem_nil, or_false] at hp ⊢
      rcases hp with rfl | rfl | hp | hp | hp | hp
      · exact absurd rfl hne
      · exact absurd rfl hne2
      · simp [hp]
      · simp [hp]
      · simp [hp]
      · simp [hp]
  · exact absurd hw3 (by simp)
end b_next
theorem b_next {w : World} {f : Addr} {c : Addr} {cl : Addr} {cw : Addr} {lg : Addr} {wl : Addr} {oc : Obj} {ol : Obj} {ow : Obj} {qual : Str} {pm : Value} {ct : Value} {doc : Value} {vs : Array Value} {tq : Tok} : b_next.St0 w f c cl cw lg wl oc ol ow qual pm ct doc vs tq :=
  @ata_spec _ b_next.ne0 0 b_next.P0 (by with_unfolding_all exact b_next.prf0) (w, f, c, cl, cw, lg, wl, oc, ol, ow, qual, pm, ct, doc, vs, tq)
end
end
noncomputable section
section
variable {M : Model} {A : Around} {E : Value → Shared → Prop} {s : Shared} {env : Env} {pos : Pos} {f : Addr} {of : Obj} {first : List Value} {Q : Value → Shared → Prop}
theorem kw_61 : True := by
  k_with_none
  k_with "g1" => refine by_goal fun zG zh => ?_
  k_with "g2" => (refine zh ?_; clear zh zG)
  trivial
theorem keeps_F (hf : ∃ d, of.data = .func d) (h : Heap) (hP : h.get? f = some of) : ∃ k, (k = Keeper.frame ∨ k = Keeper.machine ∨ k = Keeper.boundFrame) ∧ Looks M h (keeperOf (.ref f)) k := by
  obtain ⟨d, hd⟩ := hf
  k_extra "g1"
  obtain ⟨c, dd, data, sl⟩ := of
  k_extra "g2"
  simp only at hd
  subst hd
  exact ⟨.frame, .inl rfl, (Looks.ld (part := none) hP).andThen .now⟩
theorem callWith_F0 (hP : s.heap.get? f = some of) (hf : ∃ d, of.data = .func d) (h : wpAny M A (call (.ref f) (first ++ [])) Q E s) : wpAny M A (callWith pos (.ref f) first (backTo pos (starEach [] env)) []) Q E s :=
  callWith_of (P := fun h => h.get? f = some of) rfl (keeps_F hf) (evalArgs_nil3 ⟨hP, h⟩)
theorem callWith_F {e : Expr} {rest : List Expr} (hf : ∃ d, of.data = .func d) (h : wpAny M A (spliced (backTo pos (starEach (e :: rest) env))) (fun vs s₁ => s₁.heap.get? f = some of ∧ wpAny M A (call (.ref f) (first ++ vs)) Q E s₁) E s)
    (he : starEach (e :: rest) env = (false, eval e env) :: starEach rest env := by rfl) (hplain : (backTo pos (starEach rest env)).any (·.1) = false := by rfl) :
    wpAny M A (callWith pos (.ref f) first (backTo pos (starEach (e :: rest) env)) []) Q E s := by
  rw [he] at h ⊢
  exact callWith_of (P := fun h => h.get? f = some of) (by show ((false || (backTo pos (starEach rest env)).any (·.1)) || false) = false; rw [hplain]; rfl) (keeps_F hf) (evalArgs_plain h)
theorem callWith_FN {h₀ h : Heap} {L : Addr} {news : List (Addr × Obj)} {e : Expr} {rest : List Expr} (_ : News h₀ L h news) (_ : (f, of) ∈ news) (hf : ∃ d, of.data = .func d) (h : wpAny M A (spliced (backTo pos (starEach (e :: rest) env))) (fun vs s₁ => s₁.heap.get? f = some of ∧ wpAny M A (call (.ref f) (first ++ vs)) Q E s₁) E s)
    (he : starEach (e :: rest) env = (false, eval e env) :: starEach rest env := by rfl) (hplain : (backTo pos (starEach rest env)).any (·.1) = false := by rfl) :
    wpAny M A (callWith pos (.ref f) first (backTo pos (starEach (e :: rest) env)) []) Q E s := callWith_F hf h he hplain
end
theorem led_of {h₀ h : Heap} {L : Addr} {news l : List (Addr × Obj)} (N : News h₀ L h news) (hs : ∀ p ∈ l, p ∈ news) : Led h₀ h l := fun p hp => ⟨(N p (hs p hp)).1, (N p (hs p hp)).2.2⟩
end
noncomputable section
theorem kw_62 : True := by
  k_with_none
  k_with "g1" => refine by_goal fun zG zh => ?_
  k_with "g2" => (refine zh ?_; clear zh zG)
  trivial
theorem chal_U {w : World} {dp un : Nat} {fr : Option (List Env)} {gd : Option (List Code)} {s : Shared} {p : Program} {loose : List Str} {mean : ExcName → Option Value} {mg mb : Str → Option Value} {E : Value → Shared → Prop} {Q : Value → Shared → Prop} {h₀ : Heap}
   {L : Addr} {m : Str → Option Value} {news : List (Addr × Obj)} {f c cl lg : Addr} {of oc ol : Obj} {items : Array Value} {k : Nat} {d n x : Value}
   (bC : BChal w f c cl lg of oc ol) (F : Fr h₀ L s.heap m) (N : News h₀ L s.heap news) (X : (mkK.heap_1 w.params).In h₀) (T : Top p loose mean mg mb h₀) (hd : dp + 20 < recursionLimit) (hu : un + 200 < cLine)
   (m1 : (lg, W.listOf items k) ∈ news) (m2 : (f, of) ∈ news) (m3 : (c, oc) ∈ news) (m4 : (cl, ol) ∈ news) (hz : items.size ≤ 100)
   (hQ : ∀ a o k' h' tk', TriedO o d n x → Fr h₀ L h' m → (∀ news', Upd lg (W.listOf items k) (W.listOf (items.push (.ref a)) k') news news' → News h₀ L h' ((a, o) :: news')) → (∀ c', Bel (news.map (·.1)) c' → Bel (a :: news.map (·.1)) h'.objs.size) → s.heap.get? a = none → Q .none { s with heap := h', toks := tk' }) :
   wpAny (model Challenge.pw_pf0272_01 w) (Ak dp un fr gd) (call (.ref f) [d, n, x]) Q E s := by
  refine bC F.keep X T hd hu (led_of N (List.forall_mem_cons.mpr ⟨m1, List.forall_mem_cons.mpr ⟨m2, List.forall_mem_cons.mpr ⟨m3, List.forall_mem_cons.mpr ⟨m4, List.forall_mem_nil _⟩⟩⟩⟩)) hz fun a o k' h' tk' kp hlg ha hfr hT => ?_
  have hne : ∀ q ∈ news, @Ne Nat q.1 a := fun q hq e => by
    have e1 : q.1 = a := e
    have := (N q hq).1
    rw [e1, hfr] at this; cases this
  refine hQ a o k' h' tk' hT (fr_upd F N m1 kp) (fun news' U q hq => ?_) (fun c' B => ⟨List.nodup_cons.mpr ⟨fun hq => ?_, B.1⟩, fun b hb => ?_⟩) hfr
  · rcases List.mem_cons.mp hq with rfl | hq
    · refine ⟨ha, fun e => ?_, ?_⟩
      · k_extra "g1"
        obtain ⟨oL, _, _, hL, _⟩ := F.ns
        k_extra "g2"
        have e : a = L := e
        rw [e, hL] at hfr; cases hfr
      · cases q : h₀.get? a with
        | none => rfl
        | some o' => rw [F.keep _ _ q] at hfr; cases hfr
    · exact news_upd N kp hlg U q hq
  · k_extra "g1"
    obtain ⟨q, hq, e⟩ := List.mem_map.mp hq
    k_extra "g2"
    exact hne q hq e
  · rcases List.mem_cons.mp hb with rfl | hb
    · exact Nat.le_of_lt (Heap.lt_size ha)
    · k_extra "g1"
      obtain ⟨q, hq, rfl⟩ := List.mem_map.mp hb
      k_extra "g2"
      by_cases e : q.1 = lg
      · rw [e]; exact Nat.le_of_lt (Heap.lt_size hlg)
      · exact Nat.le_of_lt (Heap.lt_size (kp _ _ e (N q hq).1))
end
noncomputable section
section
open PySem.SeqAt
variable {A : Around} {s : Shared}
theorem kw_63 : True := by
  k_with_none
  k_with "g1" => refine by_goal fun zG zh => ?_
  k_with "g2" => (refine zh ?_; clear zh zG)
  trivial
theorem eq_bytes_at (b : Array UInt8) (t u : Tok) : EqAt A s (.bytes b t) (.bytes b u) true := fun prog w E Q h => eqBool_bytes (by simpa using h)
theorem eq_tup_at {l b : Addr} {items items2 : Array Value} (hl : IsTup s.heap l items) (hb : IsTup s.heap b items2) (hsz : items.size = items2.size) (hu : A.units < cLine)
    (he : ∀ j (h1 : j < items.size) (h2 : j < items2.size), EqAt A.in1 s items[j] items2[j] true) : EqAt A s (.ref l) (.ref b) true := by
  by_cases hne : l = b
  · subst hne; exact EqAt.same _
  · have h := EqAt.of_refs hne (RcAt.tuples (e := fun _ => true) hl hb hu he)
    have e : ((List.range (min items.size items2.size)).all (fun _ => true) && items.size == items2.size) = true := by simp [hsz]
    rw [e] at h; exact h
theorem eq_str_at (a : Str) (t u : Tok) : EqAt A s (.str a t) (.str a u) true := by
  have h := EqAt.str_str (A := A) (s := s) a t a u
  rwa [beq_self_eq_true] at h
theorem eq_int_at (a : Int) (t u : Tok) : EqAt A s (.int a t) (.int a u) true := by
  have h := EqAt.int_int (A := A) (s := s) a t a u
  rwa [beq_self_eq_true] at h
theorem each0 : ∀ j (h1 : j < (([] : List Value).toArray).size) (h2 : j < (([] : List Value).toArray).size), EqAt A s (([] : List Value).toArray)[j] (([] : List Value).toArray)[j] true :=
  fun j h1 _ => absurd h1 (Nat.not_lt_zero j)
theorem eachS {a a' : Value} {l l' : List Value} (h0 : EqAt A s a a' true) (h : ∀ j (h1 : j < l.toArray.size) (h2 : j < l'.toArray.size), EqAt A s l.toArray[j] l'.toArray[j] true) :
   ∀ j (h1 : j < (a :: l).toArray.size) (h2 : j < (a' :: l').toArray.size), EqAt A s (a :: l).toArray[j] (a' :: l').toArray[j] true := by
  intro j h1 h2
  cases j with
  | zero => exact h0
  | succ j => exact h j (Nat.lt_of_succ_lt_succ h1) (Nat.lt_of_succ_lt_succ h2)
theorem each1 {a a' : Value} (h0 : EqAt A s a a' true) : ∀ j (h1 : j < #[a].size) (h2 : j < #[a'].size), EqAt A s #[a][j] #[a'][j] true :=
  eachS h0 each0
theorem each2 {a a' b b' : Value} (h0 : EqAt A s a a' true) (hb : EqAt A s b b' true) : ∀ j (h1 : j < #[a, b].size) (h2 : j < #[a', b'].size), EqAt A s #[a, b][j] #[a', b'][j] true :=
  eachS h0 (eachS hb each0)
theorem each4 {a a' b b' c c' d d' : Value} (h0 : EqAt A s a a' true) (hb : EqAt A s b b' true) (hc : EqAt A s c c' true) (hd : EqAt A s d d' true) : ∀ j (h1 : j < #[a, b, c, d].size) (h2 : j < #[a', b', c', d'].size), EqAt A s #[a, b, c, d][j] #[a', b', c', d'][j] true :=
  eachS h0 (eachS hb (eachS hc (eachS hd each0)))
theorem each5 {a a' b b' c c' d d' e e' : Value} (h0 : EqAt A s a a' true) (hb : EqAt A s b b' true) (hc : EqAt A s c c' true) (hd : EqAt A s d d' true) (hee : EqAt A s e e' true) : ∀ j (h1 : j < #[a, b, c, d, e].size) (h2 : j < #[a', b', c', d', e'].size), EqAt A s #[a, b, c, d, e][j] #[a', b', c', d', e'][j] true :=
  eachS h0 (eachS hb (eachS hc (eachS hd (eachS hee each0))))
theorem eq_fr {a b : Addr} {d : Fd} (ha : FrAt s.heap a d) (hb : FrAt s.heap b d) (hu : A.units < cLine) : EqAt A s (.ref a) (.ref b) true := by
  cases d with
  | hs => obtain ⟨t, ha⟩ := ha; obtain ⟨t', hb⟩ := hb; exact eq_tup_at ha hb rfl hu (each1 (eq_str_at _ _ _))
  | ping => obtain ⟨t, ha⟩ := ha; obtain ⟨t', hb⟩ := hb; exact eq_tup_at ha hb rfl hu (each1 (eq_str_at _ _ _))
  | ret n => obtain ⟨t, u, ha⟩ := ha; obtain ⟨t', u', hb⟩ := hb; exact eq_tup_at ha hb rfl hu (each2 (eq_str_at _ _ _) (eq_int_at _ _ _))
  | maxd n => obtain ⟨t, u, ha⟩ := ha; obtain ⟨t', u', hb⟩ := hb; exact eq_tup_at ha hb rfl hu (each2 (eq_str_at _ _ _) (eq_int_at _ _ _))
  | tok n => obtain ⟨t, u, ha⟩ := ha; obtain ⟨t', u', hb⟩ := hb; exact eq_tup_at ha hb rfl hu (each2 (eq_str_at _ _ _) (eq_bytes_at _ _ _))
  | resp n => obtain ⟨t, u, ha⟩ := ha; obtain ⟨t', u', hb⟩ := hb; exact eq_tup_at ha hb rfl hu (each2 (eq_str_at _ _ _) (eq_bytes_at _ _ _))
  | chal n => obtain ⟨t, u, ha⟩ := ha; obtain ⟨t', u', hb⟩ := hb; exact eq_tup_at ha hb rfl hu (each2 (eq_str_at _ _ _) (eq_bytes_at _ _ _))
  | strm n o b => obtain ⟨t, u, v, x, ha⟩ := ha; obtain ⟨t', u', v', x', hb⟩ := hb; exact eq_tup_at ha hb rfl hu (each5 (eq_str_at _ _ _) (eq_int_at _ _ _) (eq_int_at _ _ _) (eq_bytes_at _ _ _) (EqAt.same _))
inductive Lg where
  | tried | room (r : Int)
noncomputable def b2 : Array UInt8 := #[2, 2, 2, 2, 2, 2, 2, 2]
noncomputable def LgO (o : Obj) (l : Lg) : Prop := ∃ items n, o.cls = .type "tuple" ∧ o.data = .seq items n ∧ (match l with
  | .tried => ∃ t u v x, items = #[.str (Str.ofString "tried") t, .bytes b2 u, .int 7 v, .int 150 x]
  | .room r => ∃ t u, items = #[.str (Str.ofString "room") t, .int r u])
theorem eq_lg {a b : Addr} {o o' : Obj} {l : Lg} (ha : s.heap.get? a = some o) (hb : s.heap.get? b = some o') (h : LgO o l) (h' : LgO o' l) (hu : A.units < cLine) : EqAt A s (.ref a) (.ref b) true := by
  k_extra "g1"
  obtain ⟨items, n, c, d, h⟩ := h
  k_extra "g2"
  k_extra "g1"
  obtain ⟨items', n', c', d', h'⟩ := h'
  k_extra "g2"
  cases l with
  | tried =>
    k_extra "g1"
    obtain ⟨t, u, v, x, rfl⟩ := h
    k_extra "g2"
    k_extra "g1"
    obtain ⟨t', u', v', x', rfl⟩ := h'
    k_extra "g2"
    exact eq_tup_at ⟨_, ha, c, _, d⟩ ⟨_, hb, c', _, d'⟩ rfl hu (each4 (eq_str_at _ _ _) (eq_bytes_at _ _ _) (eq_int_at _ _ _) (eq_int_at _ _ _))
  | room r =>
    k_extra "g1"
    obtain ⟨t, u, rfl⟩ := h
    k_extra "g2"
    k_extra "g1"
    obtain ⟨t', u', rfl⟩ := h'
    k_extra "g2"
    exact eq_tup_at ⟨_, ha, c, _, d⟩ ⟨_, hb, c', _, d'⟩ rfl hu (each2 (eq_str_at _ _ _) (eq_int_at _ _ _))
theorem refs_each {l l2 : List Addr} (hlen : l.length = l2.length) (h : ∀ j (h1 : j < l.length) (h2 : j < l2.length), EqAt A s (.ref l[j]) (.ref l2[j]) true) :
    ∀ j (h1 : j < (refs l).size) (h2 : j < (refs l2).size), EqAt A s (refs l)[j] (refs l2)[j] true := by
  intro j h1 h2
  have e1 : j < l.length := by simpa [refs] using h1
  have e2 : j < l2.length := by simpa [refs] using h2
  have := h j e1 e2
  simpa [refs] using this
theorem all_true (n : Nat) : (List.range n).all (fun _ => true) = true := by simp
end
section
open PySem.SeqAt
variable {prog : Program} {w : World} {A : Around} {E : Value → Shared → Prop} {s : Shared}
theorem ne_lists {a b : Addr} {l l2 : List Addr} {Q : Value → Shared → Prop} (ha : s.heap.IsList a (refs l)) (hb : s.heap.IsList b (refs l2)) (hlen : l.length = l2.length) (hu : A.units < cLine)
    (h : ∀ j (h1 : j < l.length) (h2 : j < l2.length), EqAt A.in1 s (.ref l[j]) (.ref l2[j]) true) (hQ : Q (.bool false) s) : wpAny (model prog w) A (compareOp .NotEq (.ref a) (.ref b)) Q E s := by
  refine RcNeAt.lists (e := fun _ => true) ha hb (by simp [refs, hlen]) hu (refs_each hlen h) prog w E Q ?_
  rw [all_true]; exact hQ
theorem eq_lists {a b : Addr} {l l2 : List Addr} {Q : Value → Shared → Prop} (ha : s.heap.IsList a (refs l)) (hb : s.heap.IsList b (refs l2)) (hlen : l.length = l2.length) (hu : A.units < cLine)
    (h : ∀ j (h1 : j < l.length) (h2 : j < l2.length), EqAt A.in1 s (.ref l[j]) (.ref l2[j]) true) (hQ : Q (.bool true) s) : wpAny (model prog w) A (compareOp .Eq (.ref a) (.ref b)) Q E s := by
  refine eq_listAt (e := fun _ => true) ha hb (by simp [refs, hlen]) hu (refs_each hlen h) ?_
  rw [all_true]; exact hQ
theorem ne_frs {a b : Addr} {l l2 : List (Addr × Fd)} {Q : Value → Shared → Prop} (ha : s.heap.IsList a (refs (l.map (·.1)))) (hb : s.heap.IsList b (refs (l2.map (·.1)))) (e : l.map (·.2) = l2.map (·.2)) (hu : A.units + 1 < cLine)
    (h1 : ∀ f ∈ l, FrAt s.heap f.1 f.2) (h2 : ∀ f ∈ l2, FrAt s.heap f.1 f.2) (hQ : Q (.bool false) s) : wpAny (model prog w) A (compareOp .NotEq (.ref a) (.ref b)) Q E s := by
  have hlen : l.length = l2.length := by have := congrArg List.length e; simpa using this
  refine ne_lists ha hb (by simp [hlen]) (by lia) (fun j h3 h4 => ?_) hQ
  have h5 : j < l.length := by simpa using h3
  have h6 : j < l2.length := by simpa using h4
  have e2 : l[j].2 = l2[j].2 := by
    have q1 : (l.map (·.2))[j]? = (l2.map (·.2))[j]? := by rw [e]
    simpa [h5, h6] using q1
  simp only [List.getElem_map]
  refine eq_fr (d := l[j].2) (h1 _ (List.getElem_mem h5)) (e2 ▸ h2 _ (List.getElem_mem h6)) ?_
  exact hu
theorem ne_lgs {a b : Addr} {l l2 : List (Addr × Obj × Lg)} {Q : Value → Shared → Prop} (ha : s.heap.IsList a (refs (l.map (·.1)))) (hb : s.heap.IsList b (refs (l2.map (·.1)))) (e : l.map (·.2.2) = l2.map (·.2.2)) (hu : A.units + 1 < cLine)
    (h1 : ∀ f ∈ l, s.heap.get? f.1 = some f.2.1 ∧ LgO f.2.1 f.2.2) (h2 : ∀ f ∈ l2, s.heap.get? f.1 = some f.2.1 ∧ LgO f.2.1 f.2.2) (hQ : Q (.bool false) s) : wpAny (model prog w) A (compareOp .NotEq (.ref a) (.ref b)) Q E s := by
  have hlen : l.length = l2.length := by have := congrArg List.length e; simpa using this
  refine ne_lists ha hb (by simp [hlen]) (by lia) (fun j h3 h4 => ?_) hQ
  have h5 : j < l.length := by simpa using h3
  have h6 : j < l2.length := by simpa using h4
  have e2 : l[j].2.2 = l2[j].2.2 := by
    have q1 : (l.map (·.2.2))[j]? = (l2.map (·.2.2))[j]? := by rw [e]
    simpa [h5, h6] using q1
  simp only [List.getElem_map]
  refine eq_lg (l := l[j].2.2) (h1 _ (List.getElem_mem h5)).1 (h2 _ (List.getElem_mem h6)).1 (h1 _ (List.getElem_mem h5)).2 (e2 ▸ (h2 _ (List.getElem_mem h6)).2) ?_
  exact hu
end
end
noncomputable section
noncomputable abbrev Pf := Addr × Fd
noncomputable def ffStep (st : List Pf × List Pf × Int) (f : Pf) : List Pf × List Pf × Int :=
  if f.2.sz ≤ st.2.2 then (st.1 ++ [f], st.2.1, st.2.2 - f.2.sz) else (st.1, st.2.1 ++ [f], st.2.2)
noncomputable def fillF (fs : List Pf) (room : Int) : List Pf × List Pf × Int := fs.foldl ffStep ([], [], room)
theorem fillF_step {fs : List Pf} {room : Int} {i : Nat} {f : Pf} (h : fs[i]? = some f) : fillF (fs.take (i + 1)) room = ffStep (fillF (fs.take i) room) f := by
  unfold fillF; rw [List.take_add_one, h]; simp
theorem fillAll_gen (fs : List Pf) (st : List Pf × List Pf × Int) : fs.foldl fillStep (st.1.map (·.1), st.2.1.map (·.1), st.2.2) = ((fs.foldl ffStep st).1.map (·.1), (fs.foldl ffStep st).2.1.map (·.1), (fs.foldl ffStep st).2.2) := by
  induction fs generalizing st with
  | nil => rfl
  | cons f fs ih =>
    simp only [List.foldl_cons]
    rw [← ih]
    congr 1
    unfold fillStep ffStep
    split <;> rename_i h <;> simp only [h, if_true, if_false] <;> simp
theorem fillAll_F (fs : List Pf) (room : Int) : fillAll fs room = ((fillF fs room).1.map (·.1), (fillF fs room).2.1.map (·.1), (fillF fs room).2.2) := fillAll_gen fs ([], [], room)
theorem fill_gen_mem (fs : List Pf) (st : List Pf × List Pf × Int) : (∀ f ∈ (fs.foldl ffStep st).1, f ∈ st.1 ∨ f ∈ fs) ∧ (∀ f ∈ (fs.foldl ffStep st).2.1, f ∈ st.2.1 ∨ f ∈ fs) := by
  induction fs generalizing st with
  | nil => exact ⟨fun f h => .inl h, fun f h => .inl h⟩
  | cons f fs ih =>
    simp only [List.foldl_cons]
    obtain ⟨h1, h2⟩ := ih (ffStep st f)
    refine ⟨fun g hg => ?_, fun g hg => ?_⟩
    · rcases h1 g hg with h | h
      · unfold ffStep at h
        split at h
        · rcases List.mem_append.mp h with h | h
          · exact .inl h
          · rw [List.mem_singleton.mp h]; exact .inr (.head _)
        · exact .inl h
      · exact .inr (.tail _ h)
    · rcases h2 g hg with h | h
      · unfold ffStep at h
        split at h
        · exact .inl h
        · rcases List.mem_append.mp h with h | h
          · exact .inl h
          · rw [List.mem_singleton.mp h]; exact .inr (.head _)
      · exact .inr (.tail _ h)
theorem fill_mem1 {fs : List Pf} {room : Int} {f : Pf} (h : f ∈ (fillF fs room).1) : f ∈ fs := ((fill_gen_mem fs ([], [], room)).1 f h).resolve_left (fun h => nomatch h)
theorem fill_mem2 {fs : List Pf} {room : Int} {f : Pf} (h : f ∈ (fillF fs room).2.1) : f ∈ fs := ((fill_gen_mem fs ([], [], room)).2 f h).resolve_left (fun h => nomatch h)
theorem fill_gen_same (fs gs : List Pf) (st st' : List Pf × List Pf × Int) (h : fs.map (·.2) = gs.map (·.2)) (h1 : st.1.map (·.2) = st'.1.map (·.2)) (h2 : st.2.1.map (·.2) = st'.2.1.map (·.2)) (h3 : st.2.2 = st'.2.2) :
    (fs.foldl ffStep st).1.map (·.2) = (gs.foldl ffStep st').1.map (·.2) ∧ (fs.foldl ffStep st).2.1.map (·.2) = (gs.foldl ffStep st').2.1.map (·.2) ∧ (fs.foldl ffStep st).2.2 = (gs.foldl ffStep st').2.2 := by
  induction fs generalizing gs st st' with
  | nil =>
    cases gs with
    | nil => exact ⟨h1, h2, h3⟩
    | cons g gs => cases h
  | cons f fs ih =>
    cases gs with
    | nil => cases h
    | cons g gs =>
      simp only [List.map_cons, List.cons.injEq] at h
      simp only [List.foldl_cons]
      refine ih gs _ _ h.2 ?_ ?_ ?_ <;> (unfold ffStep; rw [h.1, h3]; split <;> simp [h1, h2, h.1])
theorem fill_same {fs gs : List Pf} (room : Int) (h : fs.map (·.2) = gs.map (·.2)) : (fillF fs room).1.map (·.2) = (fillF gs room).1.map (·.2) ∧ (fillF fs room).2.1.map (·.2) = (fillF gs room).2.1.map (·.2) ∧ (fillF fs room).2.2 = (fillF gs room).2.2 :=
  fill_gen_same fs gs _ _ h rfl rfl rfl
noncomputable def sumSz (fs : List Pf) : Int := (fs.map (·.2.sz)).sum
theorem fill_gen_sum (fs : List Pf) (st : List Pf × List Pf × Int) : (fs.foldl ffStep st).2.2 + sumSz (fs.foldl ffStep st).1 = st.2.2 + sumSz st.1 := by
  induction fs generalizing st with
  | nil => rfl
  | cons f fs ih =>
    simp only [List.foldl_cons]
    rw [ih]
    unfold ffStep sumSz
    split
    · simp; lia
    · simp
theorem fill_sum (fs : List Pf) (room : Int) : room - sumSz (fillF fs room).1 = (fillF fs room).2.2 := by
  have := fill_gen_sum fs ([], [], room)
  unfold fillF
  simp only [sumSz, List.map_nil, List.sum_nil] at this ⊢
  lia
theorem fill_gen_room (fs : List Pf) (st : List Pf × List Pf × Int) (hp : ∀ f ∈ fs, 1 ≤ f.2.sz) (h0 : 0 ≤ st.2.2) : 0 ≤ (fs.foldl ffStep st).2.2 ∧ (fs.foldl ffStep st).2.2 ≤ st.2.2 := by
  induction fs generalizing st with
  | nil => exact ⟨h0, Int.le_refl _⟩
  | cons f fs ih =>
    simp only [List.foldl_cons]
    have hf := hp f (.head _)
    have : 0 ≤ (ffStep st f).2.2 ∧ (ffStep st f).2.2 ≤ st.2.2 := by
      unfold ffStep; split <;> dsimp only <;> lia
    obtain ⟨h1, h2⟩ := ih _ (fun g hg => hp g (.tail _ hg)) this.1
    exact ⟨h1, by lia⟩
theorem fill_room {fs : List Pf} {room : Int} (hp : ∀ f ∈ fs, f.2.ok) (h0 : 0 ≤ room) : 0 ≤ (fillF fs room).2.2 ∧ (fillF fs room).2.2 ≤ room := fill_gen_room fs _ (fun f hf => (Fd.sz_pos (hp f hf)).1) h0
theorem fill_gen_len (fs : List Pf) (st : List Pf × List Pf × Int) : (fs.foldl ffStep st).1.length + (fs.foldl ffStep st).2.1.length = st.1.length + st.2.1.length + fs.length := by
  induction fs generalizing st with
  | nil => simp
  | cons f fs ih =>
    rw [List.foldl_cons, ih]
    unfold ffStep
    split <;> simp <;> lia
theorem fill_len2 (fs : List Pf) (room : Int) : (fillF fs room).1.length + (fillF fs room).2.1.length = fs.length := by
  have := fill_gen_len fs ([], [], room)
  simpa [fillF] using this
noncomputable def drT : List Pf → Int → List Pf
  | [], _ => []
  | f :: r, room => if f.2.sz ≤ room then f :: drT r (room - f.2.sz) else []
noncomputable def drR : List Pf → Int → List Int
  | [], room => [room]
  | f :: r, room => if f.2.sz ≤ room then room :: drR r (room - f.2.sz) else [room]
theorem drT_mem {ws : List Pf} {room : Int} {f : Pf} (h : f ∈ drT ws room) : f ∈ ws := by
  induction ws generalizing room with
  | nil => cases h
  | cons g r ih =>
    unfold drT at h
    split at h
    · rcases List.mem_cons.mp h with rfl | h
      · exact .head _
      · exact .tail _ (ih h)
    · cases h
end
noncomputable section
open PyProof.Rows.LCg
theorem kw_64 : True := by
  k_with_none
  k_with "g1" => refine by_goal fun zG zh => ?_
  k_with "g2" => (refine zh ?_; clear zh zG)
  trivial
noncomputable def SA.put (σ : SA) (ep : List DictEntry) (np : Nat) (ec : List DictEntry) (nc : Nat) : SA := { σ with ep := ep, np := np, ec := ec, nc := nc }
noncomputable def SA.ledA (σ : SA) : List (Addr × Obj) :=
  [(σ.l2, W.listOf (List.replicate σ.lims (Value.ref σ.lf)).toArray σ.n2), (σ.l1, W.listOf (refs (wadr σ.ws)) σ.n1), (σ.fh, σ.ofh), (σ.ch, σ.och), (σ.fp, σ.ofp), (σ.cp, σ.ocp), (σ.ft, σ.oft), (σ.ct, σ.oct), (σ.fn, σ.ofn), (σ.cn, σ.ocn),
   (σ.ll, W.listOf (List.replicate σ.lims (Value.ref σ.lf)).toArray σ.nl), (σ.lf, σ.olf), (σ.fw, σ.ofw), (σ.cw, σ.ocw), (σ.al, W.listOf (refs (aadr σ.as)) σ.nal), (σ.fc, σ.ofc), (σ.cc, σ.occ), (σ.wl, W.listOf (refs (wadr σ.ws)) σ.nwl),
   (σ.shk, instObj 319 σ.dshk), (σ.dshk, dictOf σ.eh σ.nh), (σ.str, instObj 319 σ.dstr), (σ.dstr, dictOf σ.es σ.ns), (σ.trd, instObj 319 σ.dtrd), (σ.dtrd, dictOf σ.et σ.nt), (σ.act, instObj 319 σ.dact), (σ.dact, dictOf σ.ea σ.na),
   (σ.paths, instObj 319 σ.dpaths)]
noncomputable def SA.ledB (σ : SA) : List (Addr × Obj) := [(σ.cWants, σ.oWants), (σ.cWait, σ.oWait), (σ.cTried, σ.oTried), (σ.cLim, σ.oLim), (σ.cLog, σ.oLog)]
theorem SA.led_split (σ : SA) : σ.led = σ.ledA ++ ((σ.dpaths, dictOf σ.ep σ.np) :: (σ.conn, instObj 319 σ.dconn) :: (σ.dconn, dictOf σ.ec σ.nc) :: σ.ledB) := rfl
theorem SA.led_put (σ : SA) (ep : List DictEntry) (np : Nat) (ec : List DictEntry) (nc : Nat) {p : Addr × Obj} (hp : p ∈ σ.led) (h1 : @Ne Nat p.1 σ.dconn) (h2 : @Ne Nat p.1 σ.dpaths) : p ∈ (σ.put ep np ec nc).led := by
  rw [SA.led_split] at hp ⊢
  rcases List.mem_append.mp hp with hp | hp
  · exact List.mem_append_left _ hp
  · refine List.mem_append_right _ ?_
    rcases List.mem_cons.mp hp with rfl | hp
    · exact absurd rfl h2
    · rcases List.mem_cons.mp hp with rfl | hp
      · exact .tail _ (.head _)
      · rcases List.mem_cons.mp hp with rfl | hp
        · exact absurd rfl h1
        · exact .tail _ (.tail _ (.tail _ hp))
theorem SA.led_adr (σ : SA) (ep : List DictEntry) (np : Nat) (ec : List DictEntry) (nc : Nat) : (σ.put ep np ec nc).led.map (·.1) = σ.led.map (·.1) := rfl
theorem led_shape (σ : SA) {x : Addr × Obj} {e1 e2 : List DictEntry} {k1 k2 : Nat} {t : List (Addr × Obj)} : (x :: (σ.l2, W.listOf (List.replicate σ.lims (Value.ref σ.lf)).toArray σ.n2) :: (σ.l1, W.listOf (refs (wadr σ.ws)) σ.n1) :: (σ.fh, σ.ofh) :: (σ.ch, σ.och) :: (σ.fp, σ.ofp) :: (σ.cp, σ.ocp) :: (σ.ft, σ.oft) :: (σ.ct, σ.oct) :: (σ.fn, σ.ofn) :: (σ.cn, σ.ocn) ::
   (σ.ll, W.listOf (List.replicate σ.lims (Value.ref σ.lf)).toArray σ.nl) :: (σ.lf, σ.olf) :: (σ.fw, σ.ofw) :: (σ.cw, σ.ocw) :: (σ.al, W.listOf (refs (aadr σ.as)) σ.nal) :: (σ.fc, σ.ofc) :: (σ.cc, σ.occ) :: (σ.wl, W.listOf (refs (wadr σ.ws)) σ.nwl) ::
   (σ.shk, instObj 319 σ.dshk) :: (σ.dshk, dictOf σ.eh σ.nh) :: (σ.str, instObj 319 σ.dstr) :: (σ.dstr, dictOf σ.es σ.ns) :: (σ.trd, instObj 319 σ.dtrd) :: (σ.dtrd, dictOf σ.et σ.nt) :: (σ.act, instObj 319 σ.dact) :: (σ.dact, dictOf σ.ea σ.na) ::
   (σ.paths, instObj 319 σ.dpaths) :: (σ.dpaths, dictOf e1 k1) :: (σ.conn, instObj 319 σ.dconn) :: (σ.dconn, dictOf e2 k2) :: (σ.cWants, σ.oWants) :: (σ.cWait, σ.oWait) :: (σ.cTried, σ.oTried) :: (σ.cLim, σ.oLim) :: (σ.cLog, σ.oLog) :: t) = (x :: (σ.put e1 k1 e2 k2).led) ++ t := rfl
theorem nd4 {X Y Za Zw : List Addr} (h : (X ++ (Y ++ (Za ++ Zw))).Nodup) : (∀ a ∈ X ++ Zw, a ∉ Y ++ Za) ∧ (X ++ Zw).Nodup := by
  k_extra "g1"
  obtain ⟨h1, h2, h3⟩ := List.nodup_append.mp h
  k_extra "g2"
  k_extra "g1"
  obtain ⟨h4, h5, h6⟩ := List.nodup_append.mp h2
  k_extra "g2"
  k_extra "g1"
  obtain ⟨h7, h8, h9⟩ := List.nodup_append.mp h5
  k_extra "g2"
  refine ⟨fun a ha hb => ?_, List.nodup_append.mpr ⟨h1, h8, fun a ha b hb => h3 a ha b (List.mem_append_right _ (List.mem_append_right _ hb))⟩⟩
  rcases List.mem_append.mp ha with ha | ha
  · rcases List.mem_append.mp hb with hb | hb
    · exact h3 a ha a (List.mem_append_left _ hb) rfl
    · exact h3 a ha a (List.mem_append_right _ (List.mem_append_left _ hb)) rfl
  · rcases List.mem_append.mp hb with hb | hb
    · exact h6 a hb a (List.mem_append_right _ ha) rfl
    · exact h9 a hb a ha rfl
noncomputable def isTried (σ : SA) (compl : Bool) : Bool := σ.wants && compl
noncomputable def heres (as : List Af) : List Fd := (as.filter (·.2.2.1)).map fun a => Fd.resp a.2.2.2
noncomputable def theres (as : List Af) : List Addr := (as.filter (fun a => !a.2.2.1)).map (·.1)
structure PathPost (σ : SA) (compl : Bool) (lg : Addr) (h h' : Heap) (D D2 : Addr) (ws : List Wf) (lo : List (Addr × Obj × Lg)) (k' : Nat) (ec' : List DictEntry) (nc' : Nat) (ep' : List DictEntry) (np' : Nat) (cr : List (Addr × Obj)) : Prop where
  eD : ∃ n, (D, W.listOf (refs (wadr ws)) n) ∈ cr
  eD2 : ∃ n, (D2, W.listOf (refs (theres σ.as)) n) ∈ cr
  ews : ∀ p ∈ ents ws, p ∈ cr
  elo : ∀ f ∈ lo, (f.1, f.2.1) ∈ cr ∧ LgO f.2.1 f.2.2
  lo2 : lo.map (·.2.2) = if isTried σ compl then [.tried] else []
  crN : ∀ p ∈ cr, h'.get? p.1 = some p.2 ∧ h.get? p.1 = none
  crD : (cr.map (·.1)).Nodup
  wsF : ws.map (·.2.2) = heres σ.as ++ (if isTried σ compl then [Fd.chal b2] else [])
  wsO : ∀ f ∈ ws, FrO f.2.1 f.2.2
  gl : h'.get? lg = some (W.listOf (refs (lo.map (·.1))) k')
  gc : h'.get? σ.dconn = some (dictOf ec' nc')
  gp : h'.get? σ.dpaths = some (dictOf ep' np')
  dP : ∃ k f, DA ep' k f ∧ f (Str.ofString "answers") = some (.ref D2)
  dC : ∃ k f t, DA ec' k f ∧ k ≤ 45 ∧ f (Str.ofString "challenged") = some (.int (if isTried σ compl then 3 else 2) t) ∧ ∀ y, y ≠ Str.ofString "challenged" → y ≠ Str.ofString "again_at" → getL y σ.ec = some (f y)
  kp : ∀ b o, b ≠ lg → b ≠ σ.dconn → b ≠ σ.dpaths → h.get? b = some o → h'.get? b = some o
theorem path_fin {σ : SA} {compl : Bool} {lg L : Addr} {g h₀ h h' : Heap} {m : Str → Option Value} {X : List (Addr × Obj)} {ws0 ws : List Wf} {lo : List (Addr × Obj × Lg)} {items : Array Value} {k k' nc' np' : Nat} {ec' ep' : List DictEntry} {D D2 : Addr} {c n n2 : Nat}
    (Ld : Led h₀ h ((lg, W.listOf items k) :: (σ.led ++ entA σ.as))) (kg : ∀ b o, b ∉ ((lg, W.listOf items k) :: (σ.led ++ entA σ.as)).map (·.1) → h.get? b = some o → g.get? b = some o) (F : Fr g L h' m)
    (N : News g L h' (X ++ ((lg, W.listOf (refs (lo.map (·.1))) k') :: (σ.put ep' np' ec' nc').led ++ (entA σ.as ++ ents ws0)))) (hB : Bel ((X ++ ((lg, W.listOf (refs (lo.map (·.1))) k') :: (σ.put ep' np' ec' nc').led ++ (entA σ.as ++ ents ws0))).map (·.1)) c)
    (eD : (D, W.listOf (refs (wadr ws)) n) ∈ X) (eD2 : (D2, W.listOf (refs (theres σ.as)) n2) ∈ X) (ews : ∀ p ∈ ents ws, p ∈ X ++ ents ws0) (elo : ∀ f ∈ lo, (f.1, f.2.1) ∈ X ∧ LgO f.2.1 f.2.2)
    (lo2 : lo.map (·.2.2) = if isTried σ compl then [.tried] else []) (wsF : ws.map (·.2.2) = heres σ.as ++ (if isTried σ compl then [Fd.chal b2] else [])) (wsO : ∀ f ∈ ws, FrO f.2.1 f.2.2)
    (dP : ∃ k f, DA ep' k f ∧ f (Str.ofString "answers") = some (.ref D2))
    (dC : ∃ k f t, DA ec' k f ∧ k ≤ 45 ∧ f (Str.ofString "challenged") = some (.int (if isTried σ compl then 3 else 2) t) ∧ ∀ y, y ≠ Str.ofString "challenged" → y ≠ Str.ofString "again_at" → getL y σ.ec = some (f y)) :
    PathPost σ compl lg h h' D D2 ws lo k' ec' nc' ep' np' (X ++ ents ws0) := by
  have nd : (X.map (·.1) ++ (((lg : Addr) :: σ.led.map (·.1)) ++ ((entA σ.as).map (·.1) ++ (ents ws0).map (·.1)))).Nodup := by
    have := hB.1
    simp only [List.map_append, List.map_cons, List.cons_append] at this ⊢
    exact this
  obtain ⟨n1, n3⟩ := nd4 nd
  have inY : ∀ p ∈ (lg, W.listOf (refs (lo.map (·.1))) k') :: (σ.put ep' np' ec' nc').led, h'.get? p.1 = some p.2 := fun p hp => (N p (List.mem_append_right _ (List.mem_append_left _ hp))).1
  have inA : ∀ p ∈ entA σ.as, h'.get? p.1 = some p.2 := fun p hp => (N p (List.mem_append_right _ (List.mem_append_right _ (List.mem_append_left _ hp)))).1
  have inL : ∀ p ∈ (σ.put ep' np' ec' nc').led, h'.get? p.1 = some p.2 := fun p hp => inY p (.tail _ hp)
  have hsp := SA.led_split (σ.put ep' np' ec' nc')
  refine ⟨⟨n, List.mem_append_left _ eD⟩, ⟨n2, List.mem_append_left _ eD2⟩, ews, fun f hf => ⟨List.mem_append_left _ (elo f hf).1, (elo f hf).2⟩, lo2, fun p hp => ⟨?_, ?_⟩, ?_, wsF, wsO, inY _ (.head _), ?_, ?_, dP, dC, fun b o h1 h2 h3 e => ?_⟩
  · rcases List.mem_append.mp hp with hp | hp
    · exact (N p (List.mem_append_left _ hp)).1
    · exact (N p (List.mem_append_right _ (List.mem_append_right _ (List.mem_append_right _ hp)))).1
  · have hm : (p.1, p.2) ∈ X ++ ((lg, W.listOf (refs (lo.map (·.1))) k') :: (σ.put ep' np' ec' nc').led ++ (entA σ.as ++ ents ws0)) := by
      rcases List.mem_append.mp hp with hp | hp
      · exact List.mem_append_left _ hp
      · exact List.mem_append_right _ (List.mem_append_right _ (List.mem_append_right _ hp))
    refine fresh_in kg N hm fun q => ?_
    refine n1 p.1 ?_ ?_
    · rw [← List.map_append]; exact List.mem_map_of_mem hp
    · simpa only [List.map_cons, List.map_append, List.cons_append] using q
  · rw [List.map_append]; exact n3
  · refine inL (σ.dconn, dictOf ec' nc') ?_
    rw [hsp]; exact List.mem_append_right _ (.tail _ (.tail _ (.head _)))
  · refine inL (σ.dpaths, dictOf ep' np') ?_
    rw [hsp]; exact List.mem_append_right _ (.head _)
  · by_cases hb : b ∈ ((lg, W.listOf items k) :: (σ.led ++ entA σ.as)).map (·.1)
    · k_extra "g1"
      obtain ⟨p, hp, rfl⟩ := List.mem_map.mp hb
      k_extra "g2"
      rw [(Ld p hp).1] at e; cases e
      rcases List.mem_cons.mp hp with rfl | hp
      · exact absurd rfl h1
      · rcases List.mem_append.mp hp with hp | hp
        · exact inL p (SA.led_put σ ep' np' ec' nc' hp h2 h3)
        · exact inA p hp
    · exact F.keep b o (kg b o hb e)
theorem heres_len (as : List Af) : (heres as).length ≤ as.length := by simp [heres]; exact List.length_filter_le _ _
theorem path_fin1 {σ : SA} {lg L c1 D D2 x ta : Addr} {g h₀ h h' : Heap} {m : Str → Option Value} {ws0 : List Wf} {items : Array Value} {k k' nc' np' : Nat} {ec' ep' : List DictEntry} {c n n2 : Nat} {oc ox to : Obj} {t7 u1 u2 : Tok}
    (Ld : Led h₀ h ((lg, W.listOf items k) :: (σ.led ++ entA σ.as))) (kg : ∀ b o, b ∉ ((lg, W.listOf items k) :: (σ.led ++ entA σ.as)).map (·.1) → h.get? b = some o → g.get? b = some o) (F : Fr g L h' m)
    (N : News g L h' ((x, ox) :: (ta, to) :: (D2, W.listOf (refs (theres σ.as)) n2) :: (D, W.listOf ((List.map Value.ref (wadr ws0)).toArray.push (.ref x)) n) :: (c1, oc) :: ((lg, W.listOf (#[].push (.ref ta)) k') :: (σ.put ep' np' ec' nc').led ++ (entA σ.as ++ ents ws0))))
    (hB : Bel (((x, ox) :: (ta, to) :: (D2, W.listOf (refs (theres σ.as)) n2) :: (D, W.listOf ((List.map Value.ref (wadr ws0)).toArray.push (.ref x)) n) :: (c1, oc) :: ((lg, W.listOf (#[].push (.ref ta)) k') :: (σ.put ep' np' ec' nc').led ++ (entA σ.as ++ ents ws0))).map (·.1)) c)
    (hx : FrO ox (.chal b2)) (hto : TriedO to (.bytes #[2, 2, 2, 2, 2, 2, 2, 2] u1) (.int 7 t7) (.int (3 * 50) u2))
    (hc : isTried σ true = true) (wsF : ws0.map (·.2.2) = heres σ.as) (wsO : ∀ f ∈ ws0, FrO f.2.1 f.2.2)
    (dP : ∃ k f, DA ep' k f ∧ f (Str.ofString "answers") = some (.ref D2))
    (dC : ∃ k f t, DA ec' k f ∧ k ≤ 45 ∧ f (Str.ofString "challenged") = some (.int 3 t) ∧ ∀ y, y ≠ Str.ofString "challenged" → y ≠ Str.ofString "again_at" → getL y σ.ec = some (f y)) :
    ∃ ws lo cr, PathPost σ true lg h h' D D2 ws lo k' ec' nc' ep' np' cr := by
  refine ⟨ws0 ++ [(x, ox, Fd.chal b2)], [(ta, to, .tried)], _, path_fin (n := n) (n2 := n2) (ws0 := ws0) (X := [(x, ox), (ta, to), (D2, W.listOf (refs (theres σ.as)) n2), (D, W.listOf ((List.map Value.ref (wadr ws0)).toArray.push (.ref x)) n), (c1, oc)]) Ld kg F N hB ?_ ?_ ?_ ?_ ?_ ?_ ?_ dP ?_⟩
  · have : (List.map Value.ref (wadr ws0)).toArray.push (.ref x) = refs (wadr (ws0 ++ [(x, ox, Fd.chal b2)])) := by simp [refs, wadr]
    rw [this]; exact .tail _ (.tail _ (.tail _ (.head _)))
  · exact .tail _ (.tail _ (.head _))
  · intro p hp
    rw [ents, List.map_append] at hp
    rcases List.mem_append.mp hp with hp | hp
    · exact List.mem_append_right _ hp
    · rw [List.mem_singleton.mp hp]; exact List.mem_append_left _ (.head _)
  · intro f hf
    rw [List.mem_singleton.mp hf]
    refine ⟨.tail _ (.head _), ?_⟩
    k_extra "g1"
    obtain ⟨items, k, t, e1, e2, rfl⟩ := hto
    k_extra "g2"
    exact ⟨_, _, e1, e2, _, _, _, _, rfl⟩
  · rw [if_pos hc]; rfl
  · rw [if_pos hc]; simp [wsF]
  · intro f hf
    rcases List.mem_append.mp hf with hf | hf
    · exact wsO f hf
    · rw [List.mem_singleton.mp hf]; exact hx
  · rw [if_pos hc]; exact dC
theorem path_fin0 {σ : SA} {compl : Bool} {lg L c1 D D2 : Addr} {g h₀ h h' : Heap} {m : Str → Option Value} {ws0 : List Wf} {items : Array Value} {k k' nc' np' : Nat} {ec' ep' : List DictEntry} {c n n2 : Nat} {oc : Obj}
    (Ld : Led h₀ h ((lg, W.listOf items k) :: (σ.led ++ entA σ.as))) (kg : ∀ b o, b ∉ ((lg, W.listOf items k) :: (σ.led ++ entA σ.as)).map (·.1) → h.get? b = some o → g.get? b = some o) (F : Fr g L h' m)
    (N : News g L h' ((D2, W.listOf (refs (theres σ.as)) n2) :: (D, W.listOf ((List.map Value.ref (wadr ws0)).toArray) n) :: (c1, oc) :: ((lg, W.listOf #[] k') :: (σ.put ep' np' ec' nc').led ++ (entA σ.as ++ ents ws0))))
    (hB : Bel (((D2, W.listOf (refs (theres σ.as)) n2) :: (D, W.listOf ((List.map Value.ref (wadr ws0)).toArray) n) :: (c1, oc) :: ((lg, W.listOf #[] k') :: (σ.put ep' np' ec' nc').led ++ (entA σ.as ++ ents ws0))).map (·.1)) c)
    (hc : isTried σ compl = false) (wsF : ws0.map (·.2.2) = heres σ.as) (wsO : ∀ f ∈ ws0, FrO f.2.1 f.2.2)
    (dP : ∃ k f, DA ep' k f ∧ f (Str.ofString "answers") = some (.ref D2))
    (dC : ∃ k f t, DA ec' k f ∧ k ≤ 45 ∧ f (Str.ofString "challenged") = some (.int 2 t) ∧ ∀ y, y ≠ Str.ofString "challenged" → y ≠ Str.ofString "again_at" → getL y σ.ec = some (f y)) :
    ∃ ws lo cr, PathPost σ compl lg h h' D D2 ws lo k' ec' nc' ep' np' cr := by
  have hn : ¬ isTried σ compl = true := by rw [hc]; decide
  refine ⟨ws0, [], _, path_fin (n := n) (n2 := n2) (ws0 := ws0) (X := [(D2, W.listOf (refs (theres σ.as)) n2), (D, W.listOf ((List.map Value.ref (wadr ws0)).toArray) n), (c1, oc)]) Ld kg F N hB ?_ ?_ ?_ ?_ ?_ ?_ ?_ dP ?_⟩
  · exact .tail _ (.head _)
  · exact .head _
  · intro p hp; exact List.mem_append_right _ hp
  · intro f hf; cases hf
  · rw [if_neg hn]; rfl
  · rw [if_neg hn]; simp [wsF]
  · exact wsO
  · rw [if_neg hn]; exact dC
end
section
local macro_rules | `(tactic| k_lt $h) => `(tactic| (have hfull := $h; replace $h := lt_head $h))
local macro_rules | `(tactic| k_lt $h) => `(tactic| ((rename Bel _ _ => hB9); (k_dflt (refine bel_step2 $h hB9 rfl fun hB8 => ?_)); (clear hB9); (replace $h := lt_head $h)))
local macro_rules | `(tactic| k_lt2 $h) => `(tactic| ((rename Bel _ _ => hB9); (k_dflt (refine bel_two (ltN $h) hB9 fun hB8 => ?_)); (clear hB9); (replace $h := ltN $h)))
local macro_rules | `(tactic| k_all) => `(tactic| exact all_gt (by assumption) (by lia))
local macro_rules | `(tactic| k_all) => `(tactic| with_reducible assumption)
local macro_rules | `(tactic| k_upd) => `(tactic| ((rename Bel _ _ => hB9); (k_dflt (refine' UW.upd hB9 ?u9)); (case u9 => k_upd)))
local macro_rules | `(tactic| k_upd) => `(tactic| first | exact UW.head | (refine' UW.tail ?u8; (case u8 => k_upd)))
local macro_rules | `(tactic| k_updF) => `(tactic| ((rename Bel _ _ => hB9); (k_dflt (refine' UV.upd hB9 ?u9)); (case u9 => k_updF)))
local macro_rules | `(tactic| k_updF) => `(tactic| first | exact UV.head | (refine' UV.tail ?u8; (case u8 => k_updF)))
noncomputable section
open PyProof.Rows.LCg
theorem kw_70 : True := by
  k_with_none
  k_with "rm" => first | exact room_lt (by assumption) rfl | exact room_lt1 (by assumption) | lia
  k_with "g1" => refine by_goal fun zG zh => ?_
  k_with "g2" => (refine zh ?_; clear zh zG)
  k_with "WK" => (repeat' (first | ((with_reducible show wpAny _ _ (execs (_ :: _) _) _ _ _); (first | (k_gentoks; (set_option tactic.hygienic false in k_extra "cl")) | walk1)) | ((with_reducible show wpAny _ _ _ _ _ _); (fail_if_success (with_reducible show wpAny _ _ (eval (Expr.ListComp _ _ _ _) _) _ _ _)); (fail_if_success (with_reducible show wpAny _ _ (pyIter _) _ _ _)); (fail_if_success (with_reducible show wpAny _ _ (exec (Stmt.Assign [Expr.Name _ _] (Expr.ListComp _ _ _ _) _) _) _ _ _)); walk1; (set_option tactic.hygienic false in k_extra "cl")) | ((with_reducible show ite _ _ _); walk1) | ((with_reducible show (Frag.In _ _ ∧ wpAny _ _ _ _ _ _)); refine And.intro (Frag.In.keeps (by assumption) (Fr.keep (by assumption))) ?_) | ((with_reducible show (Heap.get? _ _ = some _ ∧ wpAny _ _ _ _ _ _)); refine And.intro (News.get (by assumption) (by k_mem)) ?_) | ((fail_if_success (with_reducible show wpAny _ _ _ _ _ _)); dsimp only)))
  trivial
theorem kw_65 : True := by
  k_with "storeName" => (k_here; (with_reducible show wpAny _ _ (storeName (compEnvC _ _ _ _) _ _) _ _ _); k_dflt (refine st_comp (by k_asm) (by k_asm) ?_; k_whole); intro _ _ _)
  k_with "eval Name" => (k_here; (with_reducible show wpAny _ _ (eval (Expr.Name _ _) (compEnvC _ _ _ _)) _ _ _); k_dflt (refine ld_comp (by k_asm) (by exact rfl) ?_; k_whole))
  k_with "call ref" => (k_here; (with_reducible show wpAny _ _ (call (Value.ref 330) [Value.ref _, Value.int _ _]) _ _ _); (rename Fr _ _ _ _ => F); (rename News _ _ _ _ => N); (refine take_U F N X T (by k_asm) (by k_asm) (by k_asm) (by (show dp + 1 + 10 < recursionLimit); k_extra "rm") (by (show un + 3 + 100 < cLine); k_extra "rm") (by k_mem) (by lia) (by lia) fun vv vtk h2 tk2 vt vn hv0 hv1 F2 N2 => ?_); clear F N; (replace N2 := N2 _ (by k_upd)); (try dsimp only at N2))
  k_with "getAttr ref" => (k_here; k_dflt (refine getA (by k_asm) (by k_asm) (by k_asm) (by k_mem) (by k_mem) (by k_asm) (by exact rfl) (by k_is) (by k_is) (by k_is) (by k_is) (by k_handed) ?_; k_whole))
  k_with "getMethod ref" => (k_here; k_dflt (refine methA (by k_asm) (by k_asm) (by k_asm) (by k_mem) (by k_mem) (by k_asm) (by exact rfl) (by k_is) (by k_is) (by k_is) (by k_handed) ?_; k_whole))
  k_with "setAttr ref" => (k_here; k_dflt (refine setA (by k_asm) (by k_asm) (by k_asm) (by k_mem) (by k_mem) (by k_asm) (by k_is) (by k_is) (by k_is) (by k_is) (by (intro _ _; k_upd)) (by exact Nat.le_of_ble_eq_true rfl) ?_; k_whole); intro _ _ _ _ _ zN; (try dsimp only at zN); (revert zN; intro _); (try k_sweep))
  k_with "call ref" => (k_here; (with_reducible show wpAny _ _ (call (Value.ref 319) [Value.str _ _]) _ _ _); (rename Fr _ _ _ _ => F); (rename News _ _ _ _ => N); (refine space_U F N X T (by (show dp + 1 + 20 < recursionLimit); k_extra "rm") (by (show un + 3 + 200 < cLine); k_extra "rm") fun x' d' es' n' f' h' tk' l1 l2 D' F' N' => ?_); clear F N; (try k_lt l1); (try k_lt2 l2))
  k_with "call builtin:list.append" => (k_here; (with_reducible show wpAny _ _ (call (Value.builtin _) [Value.ref _, _]) _ _ _); k_dflt (refine append_K (by k_asm) (by k_asm) (by k_upd) ?_ (by assumption); k_whole); intro _ _ _; (try k_sweep))
  trivial
theorem top_eq {h₀ h : Heap} {L c : Addr} {o : Obj} {r : List (Addr × Obj)} (_ : News h₀ L h ((c, o) :: r)) : ∃ x : Nat, x = c := ⟨c, rfl⟩
theorem notin_cons {a b : Nat} {o : Obj} {l : List (Addr × Obj)} (h : a ≠ b) (h2 : a ∉ l.map (·.1)) : a ∉ List.map (fun x : Addr × Obj => x.1) ((b, o) :: l) := by
  simp only [List.map_cons, List.mem_cons, not_or]; exact ⟨h, h2⟩
theorem item_two {prog : Program} {w : World} {A : Around} {E : Value → Shared → Prop} {s : Shared} {value slice : PySem.Expr} {h₀ : Heap} {L l : Addr} {news : List (Addr × Obj)} {a b : Value} {n : Nat} {v : Int} {u : Tok} {Q : Value → Shared → Prop}
    (N : News h₀ L s.heap news) (hm : (l, W.listOf #[a, b] n) ∈ news) (h0 : 0 ≤ v) (h1 : v < 2) (h : Q (if v = 0 then a else b) s)
    (hs : subscripted slice false (.ref l) (.int v u) = operate [.ref l, .int v u] (getItem (.ref l) (.int v u)) := by with_unfolding_all rfl) :
    wpAny (model prog w) A (subscriptTail value slice (.ref l) (.int v u)) Q E s := by
  have hv : v = 0 ∨ v = 1 := by lia
  have hl : s.heap.IsList l #[a, b] := ⟨_, N.get hm, rfl, _, rfl⟩
  refine item_at hl h0 (by lia) ?_ h hs
  rcases hv with rfl | rfl <;> rfl
theorem kw_66 : True := by
  k_with "subscriptTail" => (k_here; (with_reducible show wpAny _ _ (subscriptTail _ _ (Value.ref _) (Value.int _ _)) _ _ _); k_dflt (refine item_two (by k_asm) (by k_mem) (by lia) (by lia) ?_ (by with_unfolding_all rfl); k_whole))
  trivial
theorem ansO_if {v : Int} {t1 t2 u : Tok} {b : Array UInt8} {n : Nat} : AnsO { cls := .type "tuple", data := .seq #[if v = 0 then Value.str (Str.ofString "here") t1 else Value.str (Str.ofString "there") t2, .bytes b u] n } (decide (v = 0)) b := by
  refine ⟨_, _, rfl, rfl, ?_⟩
  by_cases h : v = 0
  · exact ⟨t1, u, by simp [h]⟩
  · exact ⟨t2, u, by simp [h]⟩
theorem ans_end {g h : Heap} {C a l1 l2 D I bx c1 : Addr} {oT x1 x2 ls o o2 oc : Obj} {as : List Af} (N : News g C h ((a, oT) :: (l1, x1) :: (l2, x2) :: (D, ls) :: (I, o) :: (bx, o2) :: (c1, oc) :: entA as)) :
    News g C h ((D, ls) :: (I, o) :: (bx, o2) :: ([(c1, oc)] ++ (entA as ++ [(a, oT)]))) := by
  intro q hq
  refine N q ?_
  simp only [List.mem_cons, List.mem_append, List.not_mem_nil, or_false] at hq ⊢
  rcases hq with hq | hq | hq | hq | hq | hq
  · exact .inr (.inr (.inr (.inl hq)))
  · exact .inr (.inr (.inr (.inr (.inl hq))))
  · exact .inr (.inr (.inr (.inr (.inr (.inl hq)))))
  · exact .inr (.inr (.inr (.inr (.inr (.inr (.inl hq))))))
  · exact .inr (.inr (.inr (.inr (.inr (.inr (.inr hq))))))
  · exact .inl hq
theorem ans_fin {g h : Heap} {C a c0 : Addr} {oT : Obj} {here : Bool} {b : Array UInt8} {as : List Af} {r : List (Addr × Obj)} (_ : News g C h ((a, oT) :: r)) (hA : AnsO oT here b) (hb : b.size = 8) (hAO : AOk c0 as) (hc : @LT.lt Nat _ c0 a) (hAN : (aadr as).Nodup) (hne : ∀ p ∈ entA as, @Ne Nat p.1 a) :
    ∃ as' : List Af, (aadr as).map Value.ref ++ [.ref a] = (aadr as').map Value.ref ∧ entA as ++ [(a, oT)] = entA as' ∧ as'.length = as.length + 1 ∧ AOk c0 as' ∧ (aadr as').Nodup := by
  refine ⟨as ++ [(a, oT, here, b)], by simp [aadr], by simp [entA], by simp, fun x hx => ?_, ?_⟩
  rotate_left
  · show (List.map (·.1) (as ++ [(a, oT, here, b)])).Nodup
    rw [List.map_append]
    refine List.nodup_append.mpr ⟨hAN, by simp, fun x hx y hy e => ?_⟩
    k_extra "g1"
    obtain ⟨f, hf, rfl⟩ := List.mem_map.mp hx
    k_extra "g2"
    exact hne (f.1, f.2.1) (List.mem_map_of_mem hf) (e.trans (List.mem_singleton.mp hy))
  rcases List.mem_append.mp hx with hx | hx
  · exact hAO x hx
  · rw [List.mem_singleton.mp hx]; exact ⟨hA, hb, hc⟩
theorem rep_one (n : Nat) (a : Value) : (List.replicate n [a]).flatten = List.replicate n a := by simp
theorem kw_67 : True := by
  k_with "binaryOp Mult ref int" => (k_here; (with_reducible show wpAny _ _ (binaryOp Operator.Mult (Value.ref _) (Value.int _ _)) _ _ _); k_dflt (refine KMa.mul (vs := [_]) (by k_asm) (by k_asm) (by is_list) (by lia) (by lia) (by (simp; lia)) (rep_one _ _) ?_; k_whole); intro _ _ _ _ zl; (try k_lt zl); (try (revert zl; intro _)); (try k_sweep))
  trivial
theorem bel_nine {L bx lg : Nat} (h1 : bx < L) (h2 : lg < L) (h3 : bx < lg) (h4 : 349 < bx) : Bel [L + 1 + 1 + 1 + 1 + 1 + 1, L + 1 + 1 + 1 + 1 + 1, L + 1 + 1 + 1 + 1, L + 1 + 1 + 1, L + 1 + 1, L + 1, bx, lg, 349] (L + 1 + 1 + 1 + 1 + 1 + 1) := by
  have hlg : (349 : Nat) < lg := Nat.lt_trans h4 h3
  have b3 : Bel [bx, lg, 349] lg := by
    refine ⟨?_, fun a ha => ?_⟩
    · simp only [List.nodup_cons, List.mem_cons, List.not_mem_nil, or_false, not_or, List.nodup_nil, and_true, not_false_eq_true]
      exact ⟨⟨Nat.ne_of_lt h3, Nat.ne_of_gt h4⟩, Nat.ne_of_gt hlg⟩
    · simp only [List.mem_cons, List.not_mem_nil, or_false] at ha
      rcases ha with rfl | rfl | rfl
      · exact Nat.le_of_lt h3
      · exact Nat.le_refl _
      · exact Nat.le_of_lt hlg
  refine bel_two (Nat.lt_succ_of_lt h2 : lg < L + 1) b3 fun b => ?_
  refine bel_two (Nat.lt_succ_self _) b fun b => ?_
  refine bel_two (Nat.lt_succ_self _) b fun b => ?_
  refine bel_two (Nat.lt_succ_self _) b fun b => ?_
  refine bel_two (Nat.lt_succ_self _) b fun b => ?_
  exact bel_two (Nat.lt_succ_self _) b fun b => b
theorem hle_top {h₀ h : Heap} {L c : Addr} {o : Obj} {r : List (Addr × Obj)} (_ : News h₀ L h ((c, o) :: r)) (B : Bel (((c, o) :: r).map (·.1)) c) : ∀ p ∈ (c, o) :: r, @LE.le Nat _ p.1 c := fun p hp => B.2 _ (List.mem_map_of_mem hp)
theorem list_copy2 {prog : Program} {w : World} {A : Around} {E : Value → Shared → Prop} {s : Shared} {h₀ : Heap} {L l : Addr} {m : Str → Option Value} {news : List (Addr × Obj)} {items : Array Value} {n : Nat} {Q : Value → Shared → Prop} (F : Fr h₀ L s.heap m) (N : News h₀ L s.heap news) (hm : (l, W.listOf items n) ∈ news) (hz : items.size ≤ sizeLine)
    (h : ∀ D c h', Fr h₀ L h' m → News h₀ L h' ((D, W.listOf items c) :: news) → (∀ q ∈ news, q.1 < D) → Q (.ref D) { s with heap := h' }) : wpAny (model prog w) A (call (.type "list") [.ref l]) Q E s :=
  list_copyK F N ⟨_, N.get hm, rfl, _, rfl⟩ h hz
theorem kw_68 : True := by
  k_with "call type:list" => (k_here; (with_reducible show wpAny _ _ (call (Value.type _) [Value.ref _]) _ _ _); k_dflt (refine list_copy2 (by k_asm) (by k_asm) (by k_mem) (by first | assumption | (rw [sizeLine_eq]; simp; lia)) ?_; k_whole); intro _ _ _ _ _ zl; (try k_lt zl); (try (revert zl; intro _)); (try k_sweep))
  trivial
theorem cells_cons {cm : Str → Option Value} {n : Str} {c : Addr} {r : List (Str × Addr)} {cells : List (Addr × Obj)} (x : CellsAre cm ((n, c) :: r) cells) : ∃ o cells', cells = (c, o) :: cells' ∧ o.data = .cell (cm n) ∧ CellsAre cm r cells' := by
  cases x with | cons h r => exact ⟨_, _, rfl, h, r⟩
theorem cells_nil {cm : Str → Option Value} {cells : List (Addr × Obj)} (x : CellsAre cm [] cells) : cells = [] := by cases x; rfl
theorem cells_six {cm : Str → Option Value} {n1 n2 n3 n4 n5 n6 : Str} {c1 c2 c3 c4 c5 c6 : Addr} {cells : List (Addr × Obj)} (x : CellsAre cm [(n1, c1), (n2, c2), (n3, c3), (n4, c4), (n5, c5), (n6, c6)] cells) :
    ∃ o1 o2 o3 o4 o5 o6, cells = [(c1, o1), (c2, o2), (c3, o3), (c4, o4), (c5, o5), (c6, o6)] ∧ o1.data = .cell (cm n1) ∧ o2.data = .cell (cm n2) ∧ o3.data = .cell (cm n3) ∧ o4.data = .cell (cm n4) ∧ o5.data = .cell (cm n5) ∧ o6.data = .cell (cm n6) := by
  k_extra "g1"
  obtain ⟨o1, r1, e1, h1, x⟩ := cells_cons x
  k_extra "g2"
  k_extra "g1"
  obtain ⟨o2, r2, e2, h2, x⟩ := cells_cons x
  k_extra "g2"
  k_extra "g1"
  obtain ⟨o3, r3, e3, h3, x⟩ := cells_cons x
  k_extra "g2"
  k_extra "g1"
  obtain ⟨o4, r4, e4, h4, x⟩ := cells_cons x
  k_extra "g2"
  k_extra "g1"
  obtain ⟨o5, r5, e5, h5, x⟩ := cells_cons x
  k_extra "g2"
  k_extra "g1"
  obtain ⟨o6, r6, e6, h6, x⟩ := cells_cons x
  k_extra "g2"
  exact ⟨o1, o2, o3, o4, o5, o6, by rw [e1, e2, e3, e4, e5, e6, cells_nil x], h1, h2, h3, h4, h5, h6⟩
noncomputable section
theorem kw_69 : True := by
  k_with "cl1" => first | refine no_implicit_lambda% (eps8 0 (inferInstanceAs (Box 0 IdT _)) rfl rfl ?_) | refine no_implicit_lambda% (eps7 0 (inferInstanceAs (Box 0 IdT _)) rfl rfl ?_) | refine no_implicit_lambda% (eps6 0 (inferInstanceAs (Box 0 IdT _)) rfl rfl ?_) | refine no_implicit_lambda% (eps5 0 (inferInstanceAs (Box 0 IdT _)) rfl rfl ?_) | refine no_implicit_lambda% (eps4 0 (inferInstanceAs (Box 0 IdT _)) rfl rfl ?_) | refine no_implicit_lambda% (eps3 0 (inferInstanceAs (Box 0 IdT _)) rfl rfl ?_) | refine no_implicit_lambda% (eps2 0 (inferInstanceAs (Box 0 IdT _)) rfl rfl ?_) | refine no_implicit_lambda% (epsd 0 (inferInstanceAs (Box 0 IdT _)) rfl rfl ?_)
  k_with "cl" => (set_option tactic.hygienic false in ((repeat ((first | rename Heap => q9 | rename Addr => q9 | rename Nat => q9 | rename Obj => q9 | rename Value => q9 | rename Int => q9 | rename List _ => q9 | rename Str → Option Value => q9 | rename Bool => q9 | rename Option _ => q9 | rename Array _ => q9 | rename Str => q9 | rename _ × _ => q9 | rename Shared => q9 | rename Program => q9 | rename ExcName → Option Value => q9 | rename Value → Shared → Prop => q9); revert q9)); (repeat (first | k_extra "cl1" | (with_reducible intro _)))))
  trivial
namespace state_N
noncomputable def St0 (w : World) (dp : Nat) (un : Nat) (fr : Option (List Env)) (gd : Option (List Code)) (s : Shared) (p : Program) (loose : List Str) (mean : ExcName → Option Value) (mg : Str → Option Value) (mb : Str → Option Value) (E : Value → Shared → Prop) (Q : Value → Shared → Prop) (h₀ : Heap) (bx : Addr) (bl : Addr) (lg : Addr) (k : Int) (t : Tok) (n : Nat) (nl : Nat) (vs : List Value) (ns : List Int) : Prop := ∀ (keep : ∀ b o, h₀.get? b = some o → s.heap.get? b = some o) (X : (mkK.heap_1 w.params).In h₀) (T : Top p loose mean mg mb h₀) (hd : dp + 60 < recursionLimit) (hu : un + 600 < cLine) (hC : CodeHd h₀ 351 349) (Ld : Led h₀ s.heap [(bx, W.listOf #[.ref bl, .int k t] n), (lg, W.listOf #[] nl), (349, tabObj #[])]) (hbl : s.heap.IsList bl vs.toArray) (hne : @Ne Nat bl bx) (hne2 : @Ne Nat bl lg) (hne3 : @LT.lt Nat _ bx lg) (hne4 : @LT.lt Nat _ 349 bx) (hne5 : @Ne Nat bl 349) (hi : IntsAre vs ns) (hlen : vs.length ≤ 1048576) (hk : 0 ≤ k ∧ k ≤ 90000) (hQ : ∀ (σ : SA) compl r k' t' n' h' tk' ps, σ.Ok compl w lg 30 → 0 ≤ k' → k' ≤ k + 40 →
     (∀ p ∈ (r, { cls := .type "tuple", data := .seq #[.ref σ.conn, .ref σ.l1, .bool σ.wants, .ref σ.l2] }) :: (σ.led ++ (ents σ.ws ++ entA σ.as)), h'.get? p.1 = some p.2 ∧ s.heap.get? p.1 = none) →
     (((r, ({ cls := .type "tuple", data := .seq #[.ref σ.conn, .ref σ.l1, .bool σ.wants, .ref σ.l2] } : Obj)) :: (σ.led ++ (ents σ.ws ++ entA σ.as))).map (·.1)).Nodup →
     (∀ b o, b ≠ bx → b ≠ 349 → s.heap.get? b = some o → h'.get? b = some o) → h'.get? bx = some (W.listOf #[.ref bl, .int k' t'] n') → h'.get? 349 = some (tabObj ps) → Q (.ref r) { s with heap := h', toks := tk' }),
   wpN (model Challenge.pw_pf0272_01 w) (Ak dp un fr gd) (call (.ref 352) [.ref bx, .ref lg]) Q E s
noncomputable abbrev Ty0 : Type := (World) × (Nat) × (Nat) × (Option (List Env)) × (Option (List Code)) × (Shared) × (Program) × (List Str) × (ExcName → Option Value) × (Str → Option Value) × (Str → Option Value) × (Value → Shared → Prop) × (Value → Shared → Prop) × (Heap) × (Addr) × (Addr) × (Addr) × (Int) × (Tok) × (Nat) × (Nat) × (List Value) × (List Int)
theorem ne0 : Nonempty Ty0 := ⟨Classical.choice neW, Classical.choice inferInstance, Classical.choice inferInstance, Classical.choice inferInstance, Classical.choice inferInstance, Classical.choice neS, Classical.choice inferInstance, Classical.choice inferInstance, Classical.choice inferInstance, Classical.choice inferInstance, Classical.choice inferInstance, Classical.choice inferInstance, Classical.choice inferInstance, Classical.choice inferInstance, Classical.choice inferInstance, Classical.choice inferInstance, Classical.choice inferInstance, Classical.choice inferInstance, Classical.choice inferInstance, Classical.choice inferInstance, Classical.choice inferInstance, Classical.choice inferInstance, Classical.choice inferInstance⟩
noncomputable def P0 (vv0 : Ty0) : Prop := St0 (vv0.1) (vv0.2.1) (vv0.2.2.1) (vv0.2.2.2.1) (vv0.2.2.2.2.1) (vv0.2.2.2.2.2.1) (vv0.2.2.2.2.2.2.1) (vv0.2.2.2.2.2.2.2.1) (vv0.2.2.2.2.2.2.2.2.1) (vv0.2.2.2.2.2.2.2.2.2.1) (vv0.2.2.2.2.2.2.2.2.2.2.1) (vv0.2.2.2.2.2.2.2.2.2.2.2.1) (vv0.2.2.2.2.2.2.2.2.2.2.2.2.1) (vv0.2.2.2.2.2.2.2.2.2.2.2.2.2.1) (vv0.2.2.2.2.2.2.2.2.2.2.2.2.2.2.1) (vv0.2.2.2.2.2.2.2.2.2.2.2.2.2.2.2.1) (vv0.2.2.2.2.2.2.2.2.2.2.2.2.2.2.2.2.1) (vv0.2.2.2.2.2.2.2.2.2.2.2.2.2.2.2.2.2.1) (vv0.2.2.2.2.2.2.2.2.2.2.2.2.2.2.2.2.2.2.1) (vv0.2.2.2.2.2.2.2.2.2.2.2.2.2.2.2.2.2.2.2.1) (vv0.2.2.2.2.2.2.2.2.2.2.2.2.2.2.2.2.2.2.2.2.1) (vv0.2.2.2.2.2.2.2.2.2.2.2.2.2.2.2.2.2.2.2.2.2.1) (vv0.2.2.2.2.2.2.2.2.2.2.2.2.2.2.2.2.2.2.2.2.2.2)
@[irreducible] def vv0 : Ty0 := @ata _ ne0 0 P0
@[irreducible] def w : World := vv0.1
@[irreducible] def dp : Nat := vv0.2.1
@[irreducible] def un : Nat := vv0.2.2.1
@[irreducible] def s : Shared := vv0.2.2.2.2.2.1
@[irreducible] def p : Program := vv0.2.2.2.2.2.2.1
@[irreducible] def mb : Str → Option Value := vv0.2.2.2.2.2.2.2.2.2.2.1
@[irreducible] def E : Value → Shared → Prop := vv0.2.2.2.2.2.2.2.2.2.2.2.1
@[irreducible] def Q : Value → Shared → Prop := vv0.2.2.2.2.2.2.2.2.2.2.2.2.1
@[irreducible] def h₀ : Heap := vv0.2.2.2.2.2.2.2.2.2.2.2.2.2.1
@[irreducible] def bx : Addr := vv0.2.2.2.2.2.2.2.2.2.2.2.2.2.2.1
@[irreducible] def bl : Addr := vv0.2.2.2.2.2.2.2.2.2.2.2.2.2.2.2.1
@[irreducible] def lg : Addr := vv0.2.2.2.2.2.2.2.2.2.2.2.2.2.2.2.2.1
@[irreducible] def k : Int := vv0.2.2.2.2.2.2.2.2.2.2.2.2.2.2.2.2.2.1
@[irreducible] def t : Tok := vv0.2.2.2.2.2.2.2.2.2.2.2.2.2.2.2.2.2.2.1
@[irreducible] def n : Nat := vv0.2.2.2.2.2.2.2.2.2.2.2.2.2.2.2.2.2.2.2.1
@[irreducible] def nl : Nat := vv0.2.2.2.2.2.2.2.2.2.2.2.2.2.2.2.2.2.2.2.2.1
@[irreducible] def vs : List Value := vv0.2.2.2.2.2.2.2.2.2.2.2.2.2.2.2.2.2.2.2.2.2.1
@[irreducible] def ns : List Int := vv0.2.2.2.2.2.2.2.2.2.2.2.2.2.2.2.2.2.2.2.2.2.2
theorem prf0 : St0 w dp un (vv0.2.2.2.1) (vv0.2.2.2.2.1) s p (vv0.2.2.2.2.2.2.2.1) (vv0.2.2.2.2.2.2.2.2.1) (vv0.2.2.2.2.2.2.2.2.2.1) mb E Q h₀ bx bl lg k t n nl vs ns := by
  intro keep X T hd hu hC Ld hbl hne hne2 hne3 hne4 hne5 hi hlen hk hQ
  have _h : Challenge.rw_pf0272_01 = Challenge.rw_pf0272_01 ∧ mkK.heap_1 = mkK.heap_1 := by
    k_fill
    exact ⟨rfl, rfl⟩
  clear _h
  refine wpN_call ?_
  refine code_defC_N h₀ [(bx, W.listOf #[.ref bl, .int k t] n), (lg, W.listOf #[] nl), (349, tabObj #[])] [(Str.ofString "box", .ref bx), (Str.ofString "log", .ref lg)] keep X T Ld (by k_is) (by k_is) (by (show dp < recursionLimit); k_extra "rm") (BindsTo.of_eq rfl) (by rfl) (by decide) ?_ rfl rfl rfl
  clear X T
  intro g L h tk0 cells X T kg kb F N CA hlt hgL
  (try (replace hlt := allLt_of hlt; simp only [AllLt, and_true] at hlt))
  dsimp only
  have hbg : g.IsList bl vs.toArray := hbl.at fun o e => kg bl o (by simp; exact ⟨hne, hne2, hne5⟩) e
  have C9 : CodeHd g 351 349 := hC.keeps kb
  k_extra "g1"
  obtain ⟨o1, o2, o3, o4, o5, o6, rfl, c1, c2, c3, c4, c5, c6⟩ := cells_six CA
  k_extra "g2"
  clear CA
  simp only [List.cons_append, List.nil_append] at N
  replace c1 : o1.data = .cell none := c1
  replace c2 : o2.data = .cell none := c2
  replace c3 : o3.data = .cell none := c3
  replace c4 : o4.data = .cell none := c4
  replace c5 : o5.data = .cell (some (.ref lg)) := c5
  replace c6 : o6.data = .cell (some (.ref bx)) := c6
  replace F : Fr g L h (fun _ => none) := F
  have hB : Bel [L + 1 + 1 + 1 + 1 + 1 + 1, L + 1 + 1 + 1 + 1 + 1, L + 1 + 1 + 1 + 1, L + 1 + 1 + 1, L + 1 + 1, L + 1, bx, lg, 349] (L + 1 + 1 + 1 + 1 + 1 + 1) := bel_nine hlt.1 hlt.2.1 hne3 hne4
  k_extra "cl"
  (have q9 : Fr ?g ?L ?h9 ?m9 := (by first | with_reducible assumption | assumption); clear q9); (have q9 : Obj.data ?o6 = .cell (some (.ref bx)) := (by first | with_reducible assumption | assumption); clear q9)
  k_extra "cl"
  refine wpN_execs_cons (wpN_of_any ?_)
  k_extra "WK"
  k_extra "cl"
  refine wpN_execs_cons (wpN_of_any ?_)
  k_extra "WK"
  k_extra "cl"
  refine wpN_execs_cons (wpN_For (wpN_of_any ?_))
  k_extra "WK"
  rename IsRange _ _ _ _ _ _ _ _ => R3
  rename Fr _ _ _ _ => F3
  rename News _ _ _ _ => N3
  refine state_loop (bx := bx) (cb := ?L + 1) (cw := ?L + 1 + 1 + 1 + 1 + 1) rfl R3 (by lia) (by lia) rfl rfl F3 N3 (.head _) (by k_mem) (by k_mem) (by k_mem) (by k_mem) (by k_ne) (by k_ne) (by k_ne) (by k_ne) (by k_ne) (hle_top N3 (by assumption)) ?_ ?_
  · clear F3 N3 R3
    rintro i m₁ rest ws k' t' nb' nw' I o h tk tt hi hk1 hk2 hl hW hcI hbc hwc hcb hcw hr1 hr2 hinr F N
    replace F : Fr ?g ?L h _ := F
    replace N : News ?g ?L h _ := N
    have hz1 := refs_sz (Nat.le_of_eq hl) (by lia)
    dsimp only
    k_extra "cl"
    refine wpN_execs_cons (wpN_of_any ?_)
    k_extra "WK"
    k_extra "cl"
    refine wpN_execs_cons (wpN_of_any ?_)
    k_extra "WK"
    rename Fr _ _ _ _ => F4
    rename News _ _ _ _ => N4
    rw [refs_push] at N4
    rename (∀ p : Addr × Obj, p ∈ _ → p.1 < _) => hfull
    refine wpN_execs_nil ⟨rfl, _, _, _, _, _, .strm _ _ _, _, _, _, _, rfl, F4, ?_, N4, by lia, by lia, by lia, fun p hp => Nat.ne_of_lt (hfull p (.tail _ (.tail _ (.tail _ (.tail _ (.tail _ (hinr p hp))))))), ⟨_, _, rfl, rfl, _, _, _, _, rfl⟩, ?_, _, _, _, rfl⟩
    · intro y q1 q2
      exact (if_neg q2).trans (if_neg q1)
    · exact ⟨by lia, by lia, by lia, by lia, by simp; lia⟩
  · rintro h tk ws k' u' nb' nw' sz tn hW hS hND hl3 hk1 hk2 F N
    replace F : Fr ?g ?L h _ := F
    replace N : ∀ E1 E2, _ → _ → News ?g ?L h _ := N
    replace N := N _ _ (by k_upd) (by k_upd)
    have hents := ents_lt hW
    clear F3 N3 R3
    rename Bel _ _ => hB1
    replace hB1 := bel_tail (tl := ents ws) hB1 N rfl (by rw [ents_map]; exact hND) fun p hp q => absurd (Nat.lt_of_lt_of_le (hents p hp) (hB1.2 _ q)) (Nat.lt_irrefl _)
    simp only [List.map_cons, List.map_nil, List.cons_append, List.nil_append] at hB1
    simp only [List.cons_append, List.nil_append] at N
    dsimp only
    k_extra "cl"
    (have q9 : (?k5 : Int) ≤ k + 1 + 6 := (by first | with_reducible assumption | assumption); clear q9)
    k_extra "cl"
    refine wpN_execs_cons (wpN_of_any ?_)
    k_extra "WK"
    k_extra "cl"
    refine wpN_execs_cons (wpN_of_any ?_)
    k_extra "WK"
    k_extra "cl"
    refine wpN_execs_cons (wpN_of_any ?_)
    k_extra "WK"
    k_extra "cl"
    refine wpN_execs_cons (wpN_of_any ?_)
    k_extra "WK"
    refine ListComp_K (cl := [(Str.ofString "box", ?L + 1)]) (by with_unfolding_all rfl) (by decide) (by rfl) (by decide) ?_ (by intro _; rfl)
    k_extra "WK"
    rename IsRange _ _ _ _ _ _ _ _ => R3
    rename Fr _ _ _ _ => F3
    rename News _ _ _ _ => N3
    obtain ⟨c0, hc0⟩ := top_eq N3
    refine comp1 (bx := bx) (extra := [(?L + 1, ?o6)]) (fun i ys o' cr => ∃ k2 t2 nb2 as, o' = W.listOf #[.ref bl, .int k2 t2] nb2 ∧ ys = (aadr as).map Value.ref ∧ cr = entA as ∧ ?k5 + 1 + 1 ≤ k2 ∧ k2 ≤ ?k5 + 1 + 1 + (i : Int) ∧ as.length = i ∧ i ≤ 2 ∧ AOk c0 as ∧ (aadr as).Nodup) X T F3 N3 (by k_mem) ?_ (src_range rfl R3 (small_one (by lia) (by lia) (by lia) (by lia)) (rangeSize_nat 0 _)) ?_ ?_ ⟨_, _, _, [], rfl, rfl, rfl, by lia, by lia, rfl, by lia, (fun _ h => nomatch h), List.nodup_nil⟩ ?_ ?_
    · intro q hq
      rw [List.mem_singleton.mp hq]
      exact ⟨by k_mem, by k_ne⟩
    · rw [sizeLine_eq]; lia
    · rintro i ys o' cr zx
      k_extra "g1"
      obtain ⟨k2, t2, nb2, as, -, rfl, -, -, -, hal, hi3, -, -⟩ := zx
      k_extra "g2"
      rw [sizeLine_eq]; simp [aadr]; lia
    · rintro g' C D I X' T' kg' hgC hall hID hDC i v ys mC o' cr o h tk ⟨tt, rfl⟩ hi' zx
      k_extra "g1"
      obtain ⟨k2, t2, nb2, as, rfl, rfl, rfl, hk3, hk4, hal, hi3, hAO, hAN⟩ := zx
      k_extra "g2"
      rintro hcrb F N
      have hI0 := hall _ (.head _)
      dsimp only at hI0
      have hbg2 : g'.IsList bl vs.toArray := hbg.at fun o e => kg' bl o (notin_cons hne (notin_cons (ne_base N3 (by k_mem) hbg) (by simp))) (F3.keep _ _ e)
      clear F3 N3 R3 X T hall
      rename Frag.In _ _ => X
      rename Top _ _ _ _ _ _ => T
      simp only [List.cons_append, List.nil_append] at N
      k_extra "cl"
      k_extra "WK"
      (have q9 : AOk ?c9 ?as9 := (by first | with_reducible assumption | assumption); clear q9)
      rename Fr _ _ _ _ => F4
      rename News _ _ _ _ => N4
      rename (∀ p : Addr × Obj, p ∈ _ → p.1 < _) => hfull
      have hne9 := fun p (hp : p ∈ entA ?as9) => Nat.ne_of_lt (hfull p (by simp only [List.mem_cons]; simp [hp]))
      have zx := ans_fin N4 ansO_if rfl hAO (by lia) hAN hne9
      k_extra "g1"
      obtain ⟨as', e1, e2, e3, e4, e5⟩ := zx
      k_extra "g2"
      exact ⟨_, _, _, _, [_], rfl, F4, ans_end N4, by (intro q hq; rw [List.mem_singleton.mp hq]; show @LT.lt Nat _ _ _; lia), _, _, _, as', rfl, e1, e2, by lia, by lia, by lia, by lia, e4, e5⟩
    · rintro D h tk ys o' cr all' zx
      k_extra "g1"
      obtain ⟨k2, t2, nb2, as, rfl, rfl, rfl, hk3, hk4, hal, hi3, hAO, hAN⟩ := zx
      k_extra "g2"
      rintro hcr F N' N hall
      replace N := N _ (by k_upd)
      have hD := hall _ (.head _)
      dsimp only at hD
      rename Bel _ _ => hB2
      replace hB2 := bel_comp N3 hB2 hall hcr (by rw [entA_map]; exact hAN) N rfl
      simp only [List.map_cons, List.map_nil, List.cons_append, List.nil_append] at hB2
      clear F3 N3 R3 N' hall
      simp only [List.cons_append, List.nil_append] at N
      have hents2 := tl_app hents (entA_lt hAO) (by lia)
      clear hents hcr
      unfold DoneE
      k_extra "cl"
      k_extra "WK"
      k_extra "cl"
      refine wpN_execs_cons (wpN_of_any ?_)
      k_extra "WK"
      k_extra "cl"
      refine wpN_execs_cons (wpN_of_any ?_)
      k_extra "WK"
      have hzw := refs_sz hl3 (by lia)
      iterate 6
        k_extra "cl"
        refine wpN_execs_cons (wpN_of_any ?_)
        k_extra "WK"
      k_extra "cl"
      refine wpN_execs_cons (wpN_of_any ?_)
      k_extra "WK"
      rename Bel _ _ => hB9
      rename Fr _ _ _ _ => F9
      rename News _ _ _ _ => N9
      have fin := state_end N9 hB9 kg _ rfl
      refine' hQ _ _ _ _ _ _ _ _ _ ?ok ?i1 ?i2 fin.1 fin.2 ?kp (N9.get ?m1) (N9.get ?m2)
      case m1 => k_mem
      case m2 => k_mem
      case i1 => lia
      case i2 => lia
      case kp =>
        refine keep_but2 Ld kg F9 fun p hp h1 h2 => ?_
        simp only [List.mem_cons, List.not_mem_nil, or_false] at hp
        rcases hp with rfl | rfl | rfl
        · exact absurd rfl h1
        · exact N9.get (by k_mem)
        · exact absurd rfl h2
      case ok =>
        refine ⟨?_, ?_, ?_, ?_, ?_, ?_, ?_, ?_, ?_, ?_, ?_, ?_, ⟨⟨_, rfl⟩, ⟨_, rfl⟩, ⟨_, rfl⟩, ⟨_, rfl⟩, ⟨_, rfl⟩, ⟨_, rfl⟩⟩, ?_, ?_, ?_, hS, hl3, ?_, ?_⟩
        · refine ⟨_, _, by assumption, ?_, ?_⟩ <;> first | exact rfl | exact Nat.le_of_ble_eq_true rfl
        · refine ⟨_, _, by assumption, ?_, ?_, ?_⟩ <;> first | exact rfl | exact Nat.le_of_ble_eq_true rfl
        · refine ⟨_, _, by assumption, ?_, ?_⟩ <;> first | exact rfl | exact Nat.le_of_ble_eq_true rfl
        · refine' ⟨_, _, _, by assumption, ?_, ?_⟩ <;> first | exact rfl | exact Nat.le_of_ble_eq_true rfl | skip
        · refine ⟨_, _, by assumption, ?_, ?_, ?_, ?_⟩ <;> first | exact rfl | exact Nat.le_of_ble_eq_true rfl
        · refine' ⟨_, _, _, by assumption, ?_, ?_, ?_, ?_, ?_, ?_, ?_⟩ <;> first | exact rfl | exact Nat.le_of_ble_eq_true rfl | skip
        · exact b_choose (by assumption) (by assumption)
        · exact b_probe (by assumption) (by assumption)
        · exact b_limits (by assumption) (by assumption) (by assumption)
        · exact b_wants (by assumption) (by assumption) (by assumption) (by assumption)
        · exact b_chal (by assumption) (by assumption) (by assumption)
        · exact b_next (by assumption) (by assumption) (by assumption) (by assumption) (by k_ne)
        · show Int.toNat _ ≤ 1
          lia
        · exact ⟨_, _, rfl, rfl, _, _, rfl⟩
        · exact fun f hf => ⟨(hW f hf).1, (hW f hf).2.1⟩
        · exact fun a ha => ⟨(hAO a ha).1, (hAO a ha).2.1⟩
        · exact Nat.le_trans (Nat.le_of_eq hal) hi3
end state_N
theorem state_N {w : World} {dp : Nat} {un : Nat} {fr : Option (List Env)} {gd : Option (List Code)} {s : Shared} {p : Program} {loose : List Str} {mean : ExcName → Option Value} {mg : Str → Option Value} {mb : Str → Option Value} {E : Value → Shared → Prop} {Q : Value → Shared → Prop} {h₀ : Heap} {bx : Addr} {bl : Addr} {lg : Addr} {k : Int} {t : Tok} {n : Nat} {nl : Nat} {vs : List Value} {ns : List Int} : state_N.St0 w dp un fr gd s p loose mean mg mb E Q h₀ bx bl lg k t n nl vs ns :=
  @ata_spec _ state_N.ne0 0 state_N.P0 (by with_unfolding_all exact state_N.prf0) (w, dp, un, fr, gd, s, p, loose, mean, mg, mb, E, Q, h₀, bx, bl, lg, k, t, n, nl, vs, ns)
end
end
noncomputable section
open PyProof.Rows.LCg
theorem kw_73 : True := by
  k_with_none
  k_with "rm" => first | exact room_lt (by assumption) rfl | exact room_lt1 (by assumption) | lia
  k_with "g1" => refine by_goal fun zG zh => ?_
  k_with "g2" => (refine zh ?_; clear zh zG)
  k_with "WK" => (repeat' (first | ((with_reducible show wpAny _ _ (execs (_ :: _) _) _ _ _); (first | (k_gentoks; (set_option tactic.hygienic false in k_extra "cl")) | walk1)) | ((with_reducible show wpAny _ _ _ _ _ _); (fail_if_success (with_reducible show wpAny _ _ (eval (Expr.ListComp _ _ _ _) _) _ _ _)); (fail_if_success (with_reducible show wpAny _ _ (pyIter _) _ _ _)); (fail_if_success (with_reducible show wpAny _ _ (exec (Stmt.Assign [Expr.Name _ _] (Expr.ListComp _ _ _ _) _) _) _ _ _)); walk1; (set_option tactic.hygienic false in k_extra "cl")) | ((with_reducible show ite _ _ _); walk1) | ((with_reducible show (Frag.In _ _ ∧ wpAny _ _ _ _ _ _)); refine And.intro (Frag.In.keeps (by assumption) (Fr.keep (by assumption))) ?_) | ((with_reducible show (Heap.get? _ _ = some _ ∧ wpAny _ _ _ _ _ _)); refine And.intro (News.get (by assumption) (by k_mem)) ?_) | ((fail_if_success (with_reducible show wpAny _ _ _ _ _ _)); dsimp only)))
  trivial
theorem kw_71 : True := by
  k_with "storeName" => (k_here; (with_reducible show wpAny _ _ (storeName (compEnvC _ _ _ _) _ _) _ _ _); k_dflt (refine st_comp (by k_asm) (by k_asm) ?_; k_whole); intro _ _ _)
  k_with "eval Name" => (k_here; (with_reducible show wpAny _ _ (eval (Expr.Name _ _) (compEnvC _ _ _ _)) _ _ _); k_dflt (refine ld_comp (by k_asm) (by exact rfl) ?_; k_whole))
  k_with "getAttr ref" => (k_here; k_dflt (refine getA (by k_asm) (by k_asm) (by k_asm) (by k_mem) (by k_mem) (by k_asm) (by first | exact rfl | assumption) (by k_is) (by k_is) (by k_is) (by k_is) (by k_handed) ?_; k_whole))
  k_with "getMethod ref" => (k_here; k_dflt (refine methA (by k_asm) (by k_asm) (by k_asm) (by k_mem) (by k_mem) (by k_asm) (by first | exact rfl | assumption) (by k_is) (by k_is) (by k_is) (by k_handed) ?_; k_whole))
  k_with "setAttr ref" => (k_here; k_dflt (refine setA (by k_asm) (by k_asm) (by k_asm) (by k_mem) (by k_mem) (by k_asm) (by k_is) (by k_is) (by k_is) (by k_is) (by (intro _ _; k_upd)) (by first | exact Nat.le_of_ble_eq_true rfl | lia) ?_; k_whole); intro _ _ _ _ _ zN; (try dsimp only at zN); (revert zN; intro _); (try k_sweep))
  k_with "call ref" => (k_here; (with_reducible show wpAny _ _ (call (Value.ref 319) [Value.str _ _]) _ _ _); (rename Fr _ _ _ _ => F); (rename News _ _ _ _ => N); (refine space_U F N X T (by (show dp + 1 + 20 < recursionLimit); k_extra "rm") (by (show un + 3 + 200 < cLine); k_extra "rm") fun x' d' es' n' f' h' tk' l1 l2 D' F' N' => ?_); clear F N; (try k_lt l1); (try k_lt2 l2))
  k_with "call builtin:list.append" => (k_here; (with_reducible show wpAny _ _ (call (Value.builtin _) [Value.ref _, _]) _ _ _); k_dflt (refine append_K (by k_asm) (by k_asm) (by k_upd) ?_ (by assumption); k_whole); intro _ _ _; (try k_sweep))
  k_with "callWith ref" => (k_here; (rename News _ _ _ _ => N); k_dflt (first | (refine' callWith_F0 (News.get N ?k1) ?k2 ?_; (case k1 => k_mem); (case k2 => assumption)) | (refine' callWith_FN N ?k1 ?k2 ?_; (case k1 => k_mem); (case k2 => assumption))))
  k_with "call ref" => (k_here; (with_reducible show wpAny _ _ (call (Value.ref (SA.fw _)) _) _ _ _); (rename Fr _ _ _ _ => F); (rename News _ _ _ _ => N); (refine bW F.keep X T (by (show dp + 1 + 20 < recursionLimit); k_extra "rm") (by (show un + 3 + 200 < cLine); k_extra "rm") (led_of N (List.forall_mem_cons.mpr ⟨by k_mem, List.forall_mem_cons.mpr ⟨by k_mem, List.forall_mem_cons.mpr ⟨by k_mem, List.forall_mem_cons.mpr ⟨by k_mem, List.forall_mem_nil _⟩⟩⟩⟩)) fun hw tkw kw => ?_); (have Fw := fr_keep F kw); (have Nw := news_keep N kw); clear kw F N)
  k_with "call ref" => (k_here; (with_reducible show wpAny _ _ (call (Value.ref (SA.fh _)) [_, _, _]) _ _ _); (rename Fr _ _ _ _ => F); (rename News _ _ _ _ => N); (refine bH F.keep X T (by (show dp + 1 + 20 < recursionLimit); k_extra "rm") (by (show un + 3 + 200 < cLine); k_extra "rm") (led_of N (List.forall_mem_cons.mpr ⟨by k_mem, List.forall_mem_cons.mpr ⟨by k_mem, List.forall_mem_nil _⟩⟩)) fun tkx hw tkw kw => ?_); (have Fw := fr_keep F kw); (have Nw := news_keep N kw); clear kw F N)
  k_with "call ref" => (k_here; (with_reducible show wpAny _ _ (call (Value.ref (SA.fp _)) _) _ _ _); (rename Fr _ _ _ _ => F); (rename News _ _ _ _ => N); (refine bP F.keep X T (by (show dp + 1 + 20 < recursionLimit); k_extra "rm") (by (show un + 3 + 200 < cLine); k_extra "rm") (led_of N (List.forall_mem_cons.mpr ⟨by k_mem, List.forall_mem_cons.mpr ⟨by k_mem, List.forall_mem_nil _⟩⟩)) fun tkx hw tkw kw => ?_); (have Fw := fr_keep F kw); (have Nw := news_keep N kw); clear kw F N)
  k_with "call ref" => (k_here; (with_reducible show wpAny _ _ (call (Value.ref (SA.fc _)) _) _ _ _); (rename Fr _ _ _ _ => F); (rename News _ _ _ _ => N); (rename Bel _ _ => B); (k_dflt (refine chal_U bC F N X T (by (show dp + 1 + 20 < recursionLimit); k_extra "rm") (by (show un + 3 + 200 < cLine); k_extra "rm") (by k_mem) (by k_mem) (by k_mem) (by k_mem) (by lia) fun ta to tk' hw tkw hTr Fw Nw Bw hta => ?_)); (replace Nw := Nw _ (by k_upd)); (replace Bw := Bw _ B); clear F N B; (simp only [List.map_cons, List.map_nil, List.cons_append] at Bw))
  trivial
theorem filt_take {α β : Type} {as : List α} {i : Nat} {a : α} (p : α → Bool) (f : α → β) (h : as[i]? = some a) : ((as.take (i + 1)).filter p).map f = ((as.take i).filter p).map f ++ (if p a then [f a] else []) := by
  rw [List.take_add_one, h]
  simp only [Option.toList_some, List.filter_append, List.map_append]
  congr 1
  by_cases hp : p a <;> simp [hp]
theorem aref_get {as : List Af} {i : Nat} {v : Value} (hv : (refs (aadr as))[i]? = some v) : ∃ a, as[i]? = some a ∧ a ∈ as ∧ v = .ref a.1 := by
  unfold refs aadr at hv
  simp only [List.getElem?_toArray, List.getElem?_map, Option.map_eq_some_iff] at hv
  k_extra "g1"
  obtain ⟨_, ⟨f, hf, rfl⟩, rfl⟩ := hv
  k_extra "g2"
  exact ⟨f, hf, List.mem_of_getElem? hf, rfl⟩
theorem resp_fin {g h : Heap} {C a : Addr} {oT : Obj} {b : Array UInt8} {ws : List Wf} {r : List (Addr × Obj)} (_ : News g C h ((a, oT) :: r)) (hF : FrO oT (.resp b)) (hWF : ∀ f ∈ ws, FrO f.2.1 f.2.2) (hWN : (wadr ws).Nodup) (hne : ∀ p ∈ ents ws, @Ne Nat p.1 a) :
    ∃ ws' : List Wf, (wadr ws).map Value.ref ++ [.ref a] = (wadr ws').map Value.ref ∧ ents ws ++ [(a, oT)] = ents ws' ∧ ws'.map (·.2.2) = ws.map (·.2.2) ++ [Fd.resp b] ∧ (∀ f ∈ ws', FrO f.2.1 f.2.2) ∧ (wadr ws').Nodup := by
  refine ⟨ws ++ [(a, oT, .resp b)], by simp [wadr], by simp [ents], by simp, fun x hx => ?_, ?_⟩
  · rcases List.mem_append.mp hx with hx | hx
    · exact hWF x hx
    · rw [List.mem_singleton.mp hx]; exact hF
  · show (List.map (·.1) (ws ++ [(a, oT, Fd.resp b)])).Nodup
    rw [List.map_append]
    refine List.nodup_append.mpr ⟨hWN, by simp, fun x hx y hy e => ?_⟩
    k_extra "g1"
    obtain ⟨f, hf, rfl⟩ := List.mem_map.mp hx
    k_extra "g2"
    exact hne (f.1, f.2.1) (List.mem_map_of_mem hf) (e.trans (List.mem_singleton.mp hy))
theorem resp_end {g h : Heap} {C a D I c1 : Addr} {oT ls o oc : Obj} {ws : List Wf} (N : News g C h ((a, oT) :: (D, ls) :: (I, o) :: (c1, oc) :: ents ws)) :
    News g C h ((D, ls) :: (I, o) :: (c1, oc) :: ([] ++ (ents ws ++ [(a, oT)]))) := by
  intro q hq
  refine N q ?_
  simp only [List.nil_append, List.mem_cons, List.mem_append, List.not_mem_nil, or_false] at hq ⊢
  rcases hq with hq | hq | hq | hq | hq
  · exact .inr (.inl hq)
  · exact .inr (.inr (.inl hq))
  · exact .inr (.inr (.inr (.inl hq)))
  · exact .inr (.inr (.inr (.inr hq)))
  · exact .inl hq
noncomputable section
theorem kw_72 : True := by
  k_with "cl1" => first | refine no_implicit_lambda% (eps8 0 (inferInstanceAs (Box 0 IdT _)) rfl rfl ?_) | refine no_implicit_lambda% (eps7 0 (inferInstanceAs (Box 0 IdT _)) rfl rfl ?_) | refine no_implicit_lambda% (eps6 0 (inferInstanceAs (Box 0 IdT _)) rfl rfl ?_) | refine no_implicit_lambda% (eps5 0 (inferInstanceAs (Box 0 IdT _)) rfl rfl ?_) | refine no_implicit_lambda% (eps4 0 (inferInstanceAs (Box 0 IdT _)) rfl rfl ?_) | refine no_implicit_lambda% (eps3 0 (inferInstanceAs (Box 0 IdT _)) rfl rfl ?_) | refine no_implicit_lambda% (eps2 0 (inferInstanceAs (Box 0 IdT _)) rfl rfl ?_) | refine no_implicit_lambda% (epsd 0 (inferInstanceAs (Box 0 IdT _)) rfl rfl ?_)
  k_with "cl" => (set_option tactic.hygienic false in ((repeat ((first | rename Heap => q9 | rename Addr => q9 | rename Nat => q9 | rename Obj => q9 | rename Value => q9 | rename Int => q9 | rename List _ => q9 | rename Str → Option Value => q9 | rename Bool => q9 | rename Option _ => q9 | rename Array _ => q9 | rename Str => q9 | rename _ × _ => q9 | rename Shared => q9 | rename Program => q9 | rename ExcName → Option Value => q9 | rename Value → Shared → Prop => q9); revert q9)); (repeat (first | k_extra "cl1" | (with_reducible intro _)))))
  trivial
namespace path_A
noncomputable def St0 (w : World) (dp : Nat) (un : Nat) (fr : Option (List Env)) (gd : Option (List Code)) (s : Shared) (p : Program) (loose : List Str) (mean : ExcName → Option Value) (mg : Str → Option Value) (mb : Str → Option Value) (E : Value → Shared → Prop) (Q : Value → Shared → Prop) (h₀ : Heap) (σ : SA) (compl : Bool) (lg : Addr) (items : Array Value) (k : Nat) (t7 : Tok) : Prop := ∀ (keep : ∀ b o, h₀.get? b = some o → s.heap.get? b = some o) (X : (mkK.heap_1 w.params).In h₀) (T : Top p loose mean mg mb h₀) (hd : dp + 60 < recursionLimit) (hu : un + 600 < cLine) (ok : σ.Ok compl w lg 31) (hz : items.size ≤ 50) (Ld : Led h₀ s.heap ((lg, W.listOf items k) :: (σ.led ++ entA σ.as))) (nd : (((lg, W.listOf items k) :: (σ.led ++ entA σ.as)).map (·.1)).Nodup) (hi : items = #[]) (hQ : ∀ D D2 ws lo k' ec' nc' ep' np' cr h' tk', PathPost σ compl lg s.heap h' D D2 ws lo k' ec' nc' ep' np' cr → Q (.ref D) { s with heap := h', toks := tk' }),
   wpAny (model Challenge.pw_pf0272_01 w) (Ak dp un fr gd) (call (.ref 173) [.ref σ.conn, .int 7 t7]) Q E s
noncomputable abbrev Ty0 : Type := (World) × (Nat) × (Nat) × (Option (List Env)) × (Option (List Code)) × (Shared) × (Program) × (List Str) × (ExcName → Option Value) × (Str → Option Value) × (Str → Option Value) × (Value → Shared → Prop) × (Value → Shared → Prop) × (Heap) × (SA) × (Bool) × (Addr) × (Array Value) × (Nat) × (Tok)
theorem ne0 : Nonempty Ty0 := ⟨Classical.choice neW, Classical.choice inferInstance, Classical.choice inferInstance, Classical.choice inferInstance, Classical.choice inferInstance, Classical.choice neS, Classical.choice inferInstance, Classical.choice inferInstance, Classical.choice inferInstance, Classical.choice inferInstance, Classical.choice inferInstance, Classical.choice inferInstance, Classical.choice inferInstance, Classical.choice inferInstance, Classical.choice neSA, Classical.choice inferInstance, Classical.choice inferInstance, Classical.choice inferInstance, Classical.choice inferInstance, Classical.choice inferInstance⟩
noncomputable def P0 (vv0 : Ty0) : Prop := St0 (vv0.1) (vv0.2.1) (vv0.2.2.1) (vv0.2.2.2.1) (vv0.2.2.2.2.1) (vv0.2.2.2.2.2.1) (vv0.2.2.2.2.2.2.1) (vv0.2.2.2.2.2.2.2.1) (vv0.2.2.2.2.2.2.2.2.1) (vv0.2.2.2.2.2.2.2.2.2.1) (vv0.2.2.2.2.2.2.2.2.2.2.1) (vv0.2.2.2.2.2.2.2.2.2.2.2.1) (vv0.2.2.2.2.2.2.2.2.2.2.2.2.1) (vv0.2.2.2.2.2.2.2.2.2.2.2.2.2.1) (vv0.2.2.2.2.2.2.2.2.2.2.2.2.2.2.1) (vv0.2.2.2.2.2.2.2.2.2.2.2.2.2.2.2.1) (vv0.2.2.2.2.2.2.2.2.2.2.2.2.2.2.2.2.1) (vv0.2.2.2.2.2.2.2.2.2.2.2.2.2.2.2.2.2.1) (vv0.2.2.2.2.2.2.2.2.2.2.2.2.2.2.2.2.2.2.1) (vv0.2.2.2.2.2.2.2.2.2.2.2.2.2.2.2.2.2.2.2)
@[irreducible] def vv0 : Ty0 := @ata _ ne0 0 P0
@[irreducible] def w : World := vv0.1
@[irreducible] def dp : Nat := vv0.2.1
@[irreducible] def un : Nat := vv0.2.2.1
@[irreducible] def fr : Option (List Env) := vv0.2.2.2.1
@[irreducible] def s : Shared := vv0.2.2.2.2.2.1
@[irreducible] def p : Program := vv0.2.2.2.2.2.2.1
@[irreducible] def mb : Str → Option Value := vv0.2.2.2.2.2.2.2.2.2.2.1
@[irreducible] def E : Value → Shared → Prop := vv0.2.2.2.2.2.2.2.2.2.2.2.1
@[irreducible] def Q : Value → Shared → Prop := vv0.2.2.2.2.2.2.2.2.2.2.2.2.1
@[irreducible] def h₀ : Heap := vv0.2.2.2.2.2.2.2.2.2.2.2.2.2.1
@[irreducible] def σ : SA := vv0.2.2.2.2.2.2.2.2.2.2.2.2.2.2.1
@[irreducible] def compl : Bool := vv0.2.2.2.2.2.2.2.2.2.2.2.2.2.2.2.1
@[irreducible] def lg : Addr := vv0.2.2.2.2.2.2.2.2.2.2.2.2.2.2.2.2.1
@[irreducible] def items : Array Value := vv0.2.2.2.2.2.2.2.2.2.2.2.2.2.2.2.2.2.1
@[irreducible] def k : Nat := vv0.2.2.2.2.2.2.2.2.2.2.2.2.2.2.2.2.2.2.1
@[irreducible] def t7 : Tok := vv0.2.2.2.2.2.2.2.2.2.2.2.2.2.2.2.2.2.2.2
theorem prf0 : St0 w dp un fr (vv0.2.2.2.2.1) s p (vv0.2.2.2.2.2.2.2.1) (vv0.2.2.2.2.2.2.2.2.1) (vv0.2.2.2.2.2.2.2.2.2.1) mb E Q h₀ σ compl lg items k t7 := by
  intro keep X T hd hu ok hz Ld nd hi hQ
  have _h : Challenge.rw_pf0272_01 = Challenge.rw_pf0272_01 ∧ mkK.heap_1 = mkK.heap_1 := by
    k_fill
    exact ⟨rfl, rfl⟩
  clear _h
  refine wpAny_call ?_
  refine code_defC_any h₀ ((lg, W.listOf items k) :: (σ.led ++ entA σ.as)) [(Str.ofString "conn", .ref σ.conn), (Str.ofString "now", .int 7 t7)] keep X T Ld (by k_is) (by k_is) (by (show dp < recursionLimit); k_extra "rm") (BindsTo.of_eq rfl) (by rfl) (by decide) ?_ rfl rfl rfl
  clear X T
  intro g L h tk0 cells X T kg kb F N CA hlt hgL
  k_extra "g1"
  obtain ⟨oc, rfl, hoc⟩ := CellsAre.one CA
  k_extra "g2"
  replace hoc : oc.data = .cell none := hoc
  clear CA
  replace F : Fr g L h _ := F
  have hB : Bel ((((L + 1 : Addr), oc) :: (lg, W.listOf items k) :: (σ.led ++ entA σ.as)).map (·.1)) (L + 1) := by
    refine bel_step (c := L) (fun p hp => Nat.lt_succ_of_lt (hlt p hp)) ⟨nd, fun a ha => ?_⟩ fun q => q
    k_extra "g1"
    obtain ⟨p, hp, rfl⟩ := List.mem_map.mp ha
    k_extra "g2"
    exact Nat.le_of_lt (hlt p hp)
  simp only [SA.led, List.cons_append, List.nil_append, List.map_cons] at hB
  simp only [SA.led, List.cons_append, List.nil_append] at N
  have hltA : ∀ p ∈ entA σ.as, @Ne Nat p.1 (L + 1) := fun p hp => Nat.ne_of_lt (Nat.lt_succ_of_lt (hlt p (.tail _ (List.mem_append_right _ hp))))
  have hltal : @Ne Nat σ.al (L + 1) := Nat.ne_of_lt (Nat.lt_succ_of_lt (hlt (σ.al, W.listOf (refs (aadr σ.as)) σ.nal) (.tail _ (List.mem_append_left _ (by simp [SA.led])))))
  k_extra "g1"
  obtain ⟨kP, fP, dP, hkP, aP1, aP2, aP3⟩ := ok.dP
  k_extra "g2"
  k_extra "g1"
  obtain ⟨kC, fC, tC, dC, hkC, aC1, aC2, aC3, aC4, aC5, aC6⟩ := ok.dC
  k_extra "g2"
  k_extra "g1"
  obtain ⟨kA, fA, tA, dA, hkA, aA⟩ := ok.dA
  k_extra "g2"
  k_extra "g1"
  obtain ⟨kH, fH, dH, hkH, aH⟩ := ok.dH
  k_extra "g2"
  k_extra "g1"
  obtain ⟨kT, fT, dT, hkT, aT⟩ := ok.dT
  k_extra "g2"
  k_extra "cl"
  (have q9 : Fr ?g ?L ?h9 ?m9 := (by first | with_reducible assumption | assumption); clear q9); (have q9 : DA (SA.ec σ) ?kC ?fC := (by first | with_reducible assumption | assumption); clear q9); (have q9 : DA (SA.ep σ) ?kP ?fP := (by first | with_reducible assumption | assumption); clear q9); (have q9 : (?fA : Str → Option Value) (Str.ofString "address") = some (.str (Str.ofString "here") ?tA) := (by first | with_reducible assumption | assumption); clear q9)
  refine wpAny_execs_cons ?_
  k_extra "WK"
  refine Assign_ListComp_K (cl := [(Str.ofString "active", ?L + 1)]) (by with_unfolding_all rfl) (by with_unfolding_all rfl) (by decide) (by rfl) (by decide) (by rfl) (by rfl) ?_ (by intro _; rfl)
  k_extra "WK"
  rename Fr _ _ _ _ => F3
  rename News _ _ _ _ => N3
  have hN3 := fun p (hp : p ∈ entA σ.as) => N3 p (by (repeat (first | exact hp | refine List.Mem.tail _ ?_)))
  refine comp2 (bx := ?L + 1) (extra := []) (fun i ys o' cr => o'.data = .cell (some (.str (Str.ofString "here") ?tA)) ∧ ∃ ws : List Wf, ys = (wadr ws).map Value.ref ∧ cr = ents ws ∧ ws.map (·.2.2) = ((σ.as.take i).filter (·.2.2.1)).map (fun a => Fd.resp a.2.2.2) ∧ (∀ f ∈ ws, FrO f.2.1 f.2.2) ∧ (wadr ws).Nodup)
    X T F3 N3 (by k_mem) (fun q hq => nomatch hq) (src_list rfl ⟨_, N3.get (by k_mem : (σ.al, W.listOf (refs (aadr σ.as)) σ.nal) ∈ _), rfl, _, rfl⟩ rfl ?_) ?_ ?_ ⟨by assumption, [], rfl, rfl, rfl, (fun f hf => nomatch hf), List.nodup_nil⟩ ?_ ?_
  · simp only [List.map_cons, List.map_nil, List.mem_singleton]
    exact hltal
  · rw [sizeLine_eq]; simp [refs, aadr]; have := ok.ale; lia
  · rintro i ys o' cr zx
    k_extra "g1"
    obtain ⟨-, ws, rfl, -, hw1, -, -⟩ := zx
    k_extra "g2"
    have h1 := congrArg List.length hw1
    have h2 := List.length_filter_le (fun a : Af => a.2.2.1) (σ.as.take i)
    have h3 := List.length_take_le i σ.as
    simp only [List.length_map] at h1
    have h4 := ok.ale
    rw [sizeLine_eq]
    simp only [List.length_map, wadr]
    rw [h1]
    exact Nat.le_trans h2 (Nat.le_trans (List.length_take_le' i σ.as) (Nat.le_trans h4 (by lia)))
  · rintro g' C D I X' T' kg' hgC hall hID hDC i v ys mC o' cr o h tk hP hi' zx
    k_extra "g1"
    obtain ⟨ho', ws, rfl, rfl, hw1, hw2, hw3⟩ := zx
    k_extra "g2"
    rintro hcrb F N
    k_extra "g1"
    obtain ⟨a, hai, ham, rfl⟩ := aref_get hP
    k_extra "g2"
    obtain ⟨ha1, ha2⟩ := ok.aok a ham
    k_extra "g1"
    obtain ⟨its, na, hc1, hc2, ta, ua, rfl⟩ := ha1
    k_extra "g2"
    have hI0 := hall _ (.head _)
    dsimp only at hI0
    have hat : IsTup g' a.1 #[.str (if a.2.2.1 then Str.ofString "here" else Str.ofString "there") ta, .bytes a.2.2.2 ua] := ⟨_, kg' _ _ (by simp only [List.map_cons, List.map_nil, List.mem_singleton]; exact hltA (a.1, a.2.1) (List.mem_map_of_mem ham)) (hN3 (a.1, a.2.1) (List.mem_map_of_mem ham)).1, hc1, _, hc2⟩
    clear F3 N3 X T hall
    rename Frag.In _ _ => X
    rename Top _ _ _ _ _ _ => T
    simp only [List.nil_append] at N
    by_cases hh : a.2.2.1 = true
    · rw [if_pos hh] at hat
      k_extra "cl"
      k_extra "WK"
      rename Fr _ _ _ _ => F9
      rename News _ _ _ _ => N9
      rename (∀ p : Addr × Obj, p ∈ _ → p.1 < _) => hfull
      k_extra "g1"
      obtain ⟨ws', e1, e2, e3, e4, e5⟩ := resp_fin N9 ⟨_, _, rfl, rfl, _, _, rfl⟩ hw2 hw3 fun p hp => Nat.ne_of_lt (hfull p (.tail _ (.tail _ (.tail _ hp))))
      k_extra "g2"
      exact ⟨_, _, _, _, [_], rfl, F9, resp_end N9, (by (intro q hq; rw [List.mem_singleton.mp hq]; show @LT.lt Nat _ _ _; lia)), ho', ws', e1, e2, by rw [e3, hw1, filt_take _ _ hai, if_pos hh], e4, e5⟩
    · rw [if_neg hh] at hat
      k_extra "cl"
      k_extra "WK"
      rename Fr _ _ _ _ => F9
      rename News _ _ _ _ => N9
      exact ⟨_, _, _, _, rfl, F9, N9, ho', _, rfl, rfl, by rw [hw1, filt_take _ _ hai, if_neg hh, List.append_nil], hw2, hw3⟩
  · rintro D h tk ys o' cr all' zx
    k_extra "g1"
    obtain ⟨ho', ws, rfl, rfl, hw1, hw2, hw3⟩ := zx
    k_extra "g2"
    rintro hcr F N' N hall
    refine ⟨rfl, fun h' tk' F N' => ?_⟩
    have hwl : ws.length ≤ 2 := by
      have h1 := congrArg List.length hw1
      have h2 := List.length_filter_le (fun a : Af => a.2.2.1) (σ.as.take (refs (aadr σ.as)).size)
      have h3 := List.length_take_le' (refs (aadr σ.as)).size σ.as
      have h4 := ok.ale
      simp only [List.length_map] at h1
      lia
    have hzF : (List.map Value.ref (wadr ws)).toArray.size ≤ sizeLine := by
      rw [sizeLine_eq]; simp [wadr]; lia
    replace N := N _ N' _ (by k_upd)
    rename Bel _ _ => hB2
    replace hB2 := bel_comp N3 hB2 hall hcr (by rw [ents_map]; exact hw3) N rfl
    simp only [List.map_cons, List.map_nil, List.cons_append, List.nil_append] at hB2
    clear F3 N3 N' hall
    simp only [List.cons_append, List.nil_append] at N
    dsimp only
    k_extra "cl"
    k_extra "WK"
    refine ListComp_K (cl := [(Str.ofString "active", ?L + 1)]) (by with_unfolding_all rfl) (by decide) (by rfl) (by decide) ?_ (by intro _; rfl)
    k_extra "WK"
    rename Fr _ _ _ _ => F3
    rename News _ _ _ _ => N3
    have hN3 := fun p (hp : p ∈ entA σ.as) => N3 p (by (repeat (first | exact List.mem_append_left _ hp | refine List.Mem.tail _ ?_)))
    refine comp2 (bx := ?L + 1) (extra := []) (fun i ys o' cr => o'.data = .cell (some (.str (Str.ofString "here") ?tA)) ∧ cr = [] ∧ ys = ((σ.as.take i).filter (fun a => !a.2.2.1)).map (fun a => Value.ref a.1))
      X T F3 N3 (by k_mem) (fun q hq => nomatch hq) (src_list rfl ⟨_, N3.get (by k_mem : (σ.al, W.listOf (refs (aadr σ.as)) σ.nal) ∈ _), rfl, _, rfl⟩ rfl ?_) ?_ ?_ ⟨by assumption, rfl, rfl⟩ ?_ ?_
    · simp only [List.map_cons, List.map_nil, List.mem_singleton]
      exact hltal
    · rw [sizeLine_eq]; simp [refs, aadr]; have := ok.ale; lia
    · rintro i ys o' cr zx
      k_extra "g1"
      obtain ⟨-, -, rfl⟩ := zx
      k_extra "g2"
      have h2 := List.length_filter_le (fun a : Af => !a.2.2.1) (σ.as.take i)
      have h4 := ok.ale
      rw [sizeLine_eq, List.length_map]
      exact Nat.le_trans h2 (Nat.le_trans (List.length_take_le' i σ.as) (Nat.le_trans h4 (by lia)))
    · rintro g' C D I X' T' kg' hgC hall hID hDC i v ys mC o' cr o h tk hP hi' zx
      k_extra "g1"
      obtain ⟨ho', rfl, rfl⟩ := zx
      k_extra "g2"
      rintro hcrb F N
      k_extra "g1"
      obtain ⟨a, hai, ham, rfl⟩ := aref_get hP
      k_extra "g2"
      obtain ⟨ha1, ha2⟩ := ok.aok a ham
      k_extra "g1"
      obtain ⟨its, na, hc1, hc2, ta, ua, rfl⟩ := ha1
      k_extra "g2"
      have hI0 := hall _ (.head _)
      dsimp only at hI0
      have hat : IsTup g' a.1 #[.str (if a.2.2.1 then Str.ofString "here" else Str.ofString "there") ta, .bytes a.2.2.2 ua] := ⟨_, kg' _ _ (by simp only [List.map_cons, List.map_nil, List.mem_singleton]; exact hltA (a.1, a.2.1) (List.mem_map_of_mem ham)) (hN3 (a.1, a.2.1) (List.mem_map_of_mem ham)).1, hc1, _, hc2⟩
      clear F3 N3 X T hall
      rename Frag.In _ _ => X
      rename Top _ _ _ _ _ _ => T
      simp only [List.nil_append] at N
      by_cases hh : a.2.2.1 = true
      · rw [if_pos hh] at hat
        k_extra "cl"
        k_extra "WK"
        rename Fr _ _ _ _ => F9
        rename News _ _ _ _ => N9
        exact ⟨_, _, _, _, rfl, F9, N9, (by assumption), rfl, by rw [filt_take _ _ hai]; simp [hh]⟩
      · rw [if_neg hh] at hat
        k_extra "cl"
        k_extra "WK"
        rename Fr _ _ _ _ => F9
        rename News _ _ _ _ => N9
        exact ⟨_, _, _, _, [], rfl, F9, N9, (fun q hq => nomatch hq), (by assumption), rfl, by rw [filt_take _ _ hai]; simp [hh]⟩
    · rintro D2 h tk ys o' cr all' zx
      k_extra "g1"
      obtain ⟨ho', rfl, rfl⟩ := zx
      k_extra "g2"
      rintro hcr F N' N hall
      replace N := N _ N' _ (by k_upd)
      rename Bel _ _ => hB3
      replace hB3 := bel_comp (cr := []) N3 hB3 hall (fun q hq => nomatch hq) List.nodup_nil N rfl
      simp only [List.map_cons, List.map_nil, List.cons_append, List.nil_append, List.append_nil] at hB3 N
      clear F3 N3 N' hall
      k_extra "g1"
      obtain ⟨fnH, fnP, fnT, fnW, fnC, fnN⟩ := ok.fns
      k_extra "g2"
      have bW : BGive _ _ _ _ _ _ _ := ok.bW
      have bH : BChoose _ _ _ _ _ := ok.bH
      have bP : BProbe _ _ _ _ _ := ok.bP
      have bC : BChal _ _ _ _ _ _ _ _ := ok.bC
      unfold DoneE
      have htk : σ.as.take (refs (aadr σ.as)).size = σ.as := by simp [refs, aadr]
      have e2 : lst (((σ.as.take (refs (aadr σ.as)).size).filter (fun a => !a.2.2.1)).map (fun a => Value.ref a.1)) = W.listOf (refs (theres σ.as)) (((σ.as.filter (fun a => !a.2.2.1)).map (fun a => Value.ref a.1)).length) := by
        rw [htk]; simp [lst, refs, theres, Function.comp_def]
      rw [htk] at hw1
      by_cases hwt : σ.wants = true
      · rw [if_pos hwt] at bW
        k_extra "cl"
        k_extra "WK"
        · rename Fr _ _ _ _ => F9
          rename News _ _ _ _ => N9
          rename Bel _ _ => hB9
          rename DA _ (?kC + 1 + 1) _ => dC9
          rename DA _ (?kP + 1) _ => dP9
          rename compl = true => hcp
          rw [e2] at N9
          rw [hi] at N9 kg Ld
          rw [led_shape σ] at N9
          have zx := path_fin1 Ld kg F9 N9 hB9 ⟨_, _, rfl, rfl, _, _, rfl⟩ hTr (by simp [isTried, hwt]) hw1 hw2 ⟨_, _, dP9, rfl⟩ ⟨_, _, _, dC9, by lia, rfl, fun y h1 h2 => (dC.1 y).trans (congrArg some (by rw [if_neg h2, if_neg h1]))⟩
          k_extra "g1"
          obtain ⟨ws', lo', cr', post⟩ := zx
          k_extra "g2"
          rw [← hcp] at post
          exact hQ _ _ _ _ _ _ _ _ _ _ _ _ post
        · rename Fr _ _ _ _ => F9
          rename News _ _ _ _ => N9
          rename Bel _ _ => hB9
          rename DA _ (?kP + 1) _ => dP9
          rename compl = false => hcp
          rw [e2] at N9
          rw [hi] at N9 kg Ld
          rw [led_shape σ] at N9
          have zx := path_fin0 (compl := compl) Ld kg F9 N9 hB9 (by simp [isTried, hcp]) hw1 hw2 ⟨_, _, dP9, rfl⟩ ⟨_, _, _, dC, by lia, aC5, fun y h1 h2 => dC.1 y⟩
          k_extra "g1"
          obtain ⟨ws', lo', cr', post⟩ := zx
          k_extra "g2"
          exact hQ _ _ _ _ _ _ _ _ _ _ _ _ post
      · rw [if_neg hwt] at bW
        k_extra "cl"
        k_extra "WK"
        rename Fr _ _ _ _ => F9
        rename News _ _ _ _ => N9
        rename Bel _ _ => hB9
        rename DA _ (?kP + 1) _ => dP9
        rw [e2] at N9
        rw [hi] at N9 kg Ld
        rw [led_shape σ] at N9
        have zx := path_fin0 (compl := compl) Ld kg F9 N9 hB9 (by simp [isTried, hwt]) hw1 hw2 ⟨_, _, dP9, rfl⟩ ⟨_, _, _, dC, by lia, aC5, fun y h1 h2 => dC.1 y⟩
        k_extra "g1"
        obtain ⟨ws', lo', cr', post⟩ := zx
        k_extra "g2"
        exact hQ _ _ _ _ _ _ _ _ _ _ _ _ post
end path_A
theorem path_A {w : World} {dp : Nat} {un : Nat} {fr : Option (List Env)} {gd : Option (List Code)} {s : Shared} {p : Program} {loose : List Str} {mean : ExcName → Option Value} {mg : Str → Option Value} {mb : Str → Option Value} {E : Value → Shared → Prop} {Q : Value → Shared → Prop} {h₀ : Heap} {σ : SA} {compl : Bool} {lg : Addr} {items : Array Value} {k : Nat} {t7 : Tok} : path_A.St0 w dp un fr gd s p loose mean mg mb E Q h₀ σ compl lg items k t7 :=
  @ata_spec _ path_A.ne0 0 path_A.P0 (by with_unfolding_all exact path_A.prf0) (w, dp, un, fr, gd, s, p, loose, mean, mg, mb, E, Q, h₀, σ, compl, lg, items, k, t7)
end
end
noncomputable section
open PyProof.Rows.LCg
theorem kw_74 : True := by
  k_with_none
  k_with "g1" => refine by_goal fun zG zh => ?_
  k_with "g2" => (refine zh ?_; clear zh zG)
  trivial
theorem nd_pick {l : List Addr} (h : l.Nodup) (js : List Nat) {bs : List Addr} (hbs : js.map (fun j => l[j]?) = bs.map some) (hj : js.Nodup) : bs.Nodup := by
  have inj : ∀ i j a, l[i]? = some a → l[j]? = some a → i = j := fun i j a h1 h2 => by
    obtain ⟨q1, e1⟩ := List.getElem?_eq_some_iff.mp h1
    obtain ⟨q2, e2⟩ := List.getElem?_eq_some_iff.mp h2
    have hp := List.pairwise_iff_getElem.mp h
    rcases Nat.lt_trichotomy i j with q | q | q
    · exact absurd (e1.trans e2.symm) (hp i j q1 q2 q)
    · exact q
    · exact absurd (e2.trans e1.symm) (hp j i q2 q1 q)
  induction js generalizing bs with
  | nil =>
    cases bs with
    | nil => exact List.nodup_nil
    | cons => cases hbs
  | cons j js ih =>
    cases bs with
    | nil => cases hbs
    | cons b bs =>
      simp only [List.map_cons, List.cons.injEq] at hbs
      obtain ⟨h1, h2⟩ := List.nodup_cons.mp hj
      refine List.nodup_cons.mpr ⟨fun hb => ?_, ih hbs.2 h2⟩
      have : some b ∈ js.map (fun j => l[j]?) := hbs.2 ▸ List.mem_map_of_mem hb
      k_extra "g1"
      obtain ⟨j', hj', e⟩ := List.mem_map.mp this
      k_extra "g2"
      exact h1 (inj j j' b hbs.1 e ▸ hj')
theorem sub_ix {α : Type} {l k : List α} (is : List Nat) (h : k.map some = is.map fun i => l[i]?) : ∀ p ∈ k, p ∈ l := fun p hp => by
  have q : some p ∈ is.map fun i => l[i]? := h ▸ List.mem_map_of_mem hp
  k_extra "g1"
  obtain ⟨i, -, e⟩ := List.mem_map.mp q
  k_extra "g2"
  exact List.mem_of_getElem? e
noncomputable def appE (σ : SA) (lg : Addr) (il : Array Value) (k : Nat) (ec : List DictEntry) (nc : Nat) (ep : List DictEntry) (np : Nat) (wv : Array Value) (nw : Nat) : List (Addr × Obj) :=
  [(lg, W.listOf il k), (σ.dconn, dictOf ec nc), (σ.dpaths, dictOf ep np), (σ.wl, W.listOf wv nw), (σ.conn, instObj 319 σ.dconn), (σ.str, instObj 319 σ.dstr), (σ.dstr, dictOf σ.es σ.ns), (σ.ft, σ.oft), (σ.ct, σ.oct), (σ.cLim, σ.oLim), (σ.fn, σ.ofn), (σ.cn, σ.ocn), (σ.cLog, σ.oLog), (σ.cWait, σ.oWait)]
noncomputable def appA (σ : SA) (lg : Addr) : List Addr := [lg, σ.dconn, σ.dpaths, σ.wl, σ.conn, σ.str, σ.dstr, σ.ft, σ.ct, σ.cLim, σ.fn, σ.cn, σ.cLog, σ.cWait]
noncomputable def allE (σ : SA) (lg lo : Addr) (ol : Obj) (k : Nat) (ow : List Wf) : List (Addr × Obj) := (lg, W.listOf #[] k) :: (lo, ol) :: (σ.led ++ (entA σ.as ++ (ents σ.ws ++ ents ow)))
section
variable {σ : SA} {lg lo : Addr} {ol : Obj} {k : Nat} {ow : List Wf}
theorem app_nd (nd : ((allE σ lg lo ol k ow).map (·.1)).Nodup) : (appA σ lg).Nodup := nd_pick nd [0, 31, 29, 19, 30, 22, 23, 8, 9, 35, 10, 11, 36, 33] rfl (by decide)
theorem app_lo (nd : ((allE σ lg lo ol k ow).map (·.1)).Nodup) : lo ∉ appA σ lg := (List.nodup_cons.mp (nd_pick (bs := lo :: appA σ lg) nd [1, 0, 31, 29, 19, 30, 22, 23, 8, 9, 35, 10, 11, 36, 33] rfl (by decide))).1
theorem app_ll (nd : ((allE σ lg lo ol k ow).map (·.1)).Nodup) : σ.ll ∉ appA σ lg := (List.nodup_cons.mp (nd_pick (bs := σ.ll :: appA σ lg) nd [12, 0, 31, 29, 19, 30, 22, 23, 8, 9, 35, 10, 11, 36, 33] rfl (by decide))).1
theorem app_lf (nd : ((allE σ lg lo ol k ow).map (·.1)).Nodup) : σ.lf ∉ appA σ lg := (List.nodup_cons.mp (nd_pick (bs := σ.lf :: appA σ lg) nd [13, 0, 31, 29, 19, 30, 22, 23, 8, 9, 35, 10, 11, 36, 33] rfl (by decide))).1
theorem appA_sub : ∀ a ∈ appA σ lg, a ∈ lg :: lo :: σ.led.map (·.1) := sub_ix [0, 31, 29, 19, 30, 22, 23, 8, 9, 35, 10, 11, 36, 33] rfl
theorem app_tl (nd : ((allE σ lg lo ol k ow).map (·.1)).Nodup) {p : Addr × Obj} (hp : p ∈ entA σ.as ++ (ents σ.ws ++ ents ow)) : p.1 ∉ appA σ lg := fun q => by
  have e : (allE σ lg lo ol k ow).map (·.1) = (lg :: lo :: σ.led.map (·.1)) ++ (entA σ.as ++ (ents σ.ws ++ ents ow)).map (·.1) := by
    simp only [allE, List.map_cons, List.map_append, List.cons_append]
  rw [e] at nd
  exact (List.nodup_append.mp nd).2.2 p.1 (appA_sub p.1 q) p.1 (List.mem_map_of_mem hp) rfl
theorem appE_adr {il wv : Array Value} {k nc np nw : Nat} {ec ep : List DictEntry} : (appE σ lg il k ec nc ep np wv nw).map (·.1) = appA σ lg := rfl
theorem appE_sub : ∀ p ∈ appE σ lg #[] k σ.ec σ.nc σ.ep σ.np (refs (wadr σ.ws)) σ.nwl, p ∈ allE σ lg lo ol k ow := sub_ix [0, 31, 29, 19, 30, 22, 23, 8, 9, 35, 10, 11, 36, 33] rfl
theorem app_base {h₀ h g : Heap} {nlo : Nat} (Ld : Led h₀ h (allE σ lg lo (W.listOf (refs (wadr ow)) nlo) k ow)) (nd : ((allE σ lg lo (W.listOf (refs (wadr ow)) nlo) k ow).map (·.1)).Nodup) (kg : ∀ b o, b ∉ appA σ lg → h.get? b = some o → g.get? b = some o) :
    g.IsList lo (refs (wadr ow)) ∧ g.IsList σ.ll (refs (List.replicate σ.lims σ.lf)) ∧ g.get? σ.lf = some σ.olf ∧ ∀ p ∈ entA σ.as ++ (ents σ.ws ++ ents ow), g.get? p.1 = some p.2 := by
  have hl : ∀ p ∈ σ.led, h.get? p.1 = some p.2 := fun p hp => (Ld p (.tail _ (.tail _ (List.mem_append_left _ hp)))).1
  refine ⟨⟨_, kg _ _ (app_lo nd) (Ld _ (.tail _ (.head _))).1, rfl, _, rfl⟩, ⟨_, kg _ _ (app_ll nd) (hl (σ.ll, W.listOf (List.replicate σ.lims (Value.ref σ.lf)).toArray σ.nl) (by simp [SA.led])), rfl, σ.nl, ?_⟩, kg _ _ (app_lf nd) (hl (σ.lf, σ.olf) (by simp [SA.led])), fun p hp => kg _ _ (app_tl nd hp) (Ld p (.tail _ (.tail _ (List.mem_append_right _ hp)))).1⟩
  rw [refs, List.map_replicate]
end
theorem bel_app {g h h' : Heap} {L : Addr} {E E' cr : List (Addr × Obj)} (B : (E.map (·.1)).Nodup) (N : News g L h E) (N' : News g L h' (E' ++ cr)) (hE : E'.map (·.1) = E.map (·.1)) (hcr : ∀ p ∈ cr, h.get? p.1 = none) (crD : (cr.map (·.1)).Nodup) : Bel ((E' ++ cr).map (·.1)) h'.objs.size := by
  refine ⟨?_, fun a ha => ?_⟩
  · rw [List.map_append, hE]
    refine List.nodup_append.mpr ⟨B, crD, fun a ha b hb e => ?_⟩
    k_extra "g1"
    obtain ⟨p, hp, rfl⟩ := List.mem_map.mp ha
    k_extra "g2"
    k_extra "g1"
    obtain ⟨q, hq, rfl⟩ := List.mem_map.mp hb
    k_extra "g2"
    have h1 := (N p hp).1
    rw [e, hcr q hq] at h1; cases h1
  · k_extra "g1"
    obtain ⟨p, hp, rfl⟩ := List.mem_map.mp ha
    k_extra "g2"
    exact Nat.le_of_lt (Heap.lt_size (N' p hp).1)
theorem app_back1 {σ : SA} {compl : Bool} {lg L D D2 : Addr} {g h h' : Heap} {m : Str → Option Value} {il wv : Array Value} {k k' nc np nc' np' nw : Nat} {ec ep ec' ep' : List DictEntry} {ws : List Wf} {lo : List (Addr × Obj × Lg)} {cr : List (Addr × Obj)}
    (F : Fr g L h m) (N : News g L h (appE σ lg il k ec nc ep np wv nw)) (nd : (appA σ lg).Nodup) (P : PathPost σ compl lg h h' D D2 ws lo k' ec' nc' ep' np' cr) :
    Fr g L h' m ∧ News g L h' (appE σ lg (refs (lo.map (·.1))) k' ec' nc' ep' np' wv nw ++ cr) ∧ Bel ((appE σ lg (refs (lo.map (·.1))) k' ec' nc' ep' np' wv nw ++ cr).map (·.1)) h'.objs.size := by
  have hb := back (h' := h') (news' := (lg, W.listOf (refs (lo.map (·.1))) k') :: (σ.dconn, dictOf ec' nc') :: (σ.dpaths, dictOf ep' np') :: cr) (rest := (appE σ lg il k ec nc ep np wv nw).drop 3) F N [lg, σ.dconn, σ.dpaths] ?_ ?_ ?_ ?_
  · obtain ⟨F', N'⟩ := hb
    have N2 : News g L h' (appE σ lg (refs (lo.map (·.1))) k' ec' nc' ep' np' wv nw ++ cr) := fun p hp => N' p (by
      rcases List.mem_append.mp hp with hp | hp
      · rcases List.mem_append.mp (show p ∈ [(lg, W.listOf (refs (lo.map (·.1))) k'), (σ.dconn, dictOf ec' nc'), (σ.dpaths, dictOf ep' np')] ++ (appE σ lg il k ec nc ep np wv nw).drop 3 from hp) with hp | hp
        · exact List.mem_append_left _ (List.mem_append_left (as := [_, _, _]) cr hp)
        · exact List.mem_append_right _ hp
      · exact List.mem_append_left _ (List.mem_append_right [_, _, _] hp))
    exact ⟨F', N2, bel_app (E := appE σ lg il k ec nc ep np wv nw) nd N N2 rfl (fun p hp => (P.crN p hp).2) P.crD⟩
  · intro a ha
    simp only [List.mem_cons, List.not_mem_nil, or_false] at ha
    rcases ha with rfl | rfl | rfl
    · exact ⟨_, .head _⟩
    · exact ⟨_, .tail _ (.head _)⟩
    · exact ⟨_, .tail _ (.tail _ (.head _))⟩
  · intro b o hb e
    simp only [List.mem_cons, List.not_mem_nil, or_false, not_or] at hb
    exact P.kp b o hb.1 hb.2.1 hb.2.2 e
  · intro p hp
    simp only [List.mem_cons] at hp
    rcases hp with rfl | rfl | rfl | hp
    · exact ⟨P.gl, .inl (.head _)⟩
    · exact ⟨P.gc, .inl (.tail _ (.head _))⟩
    · exact ⟨P.gp, .inl (.tail _ (.tail _ (.head _)))⟩
    · exact ⟨(P.crN p hp).1, .inr (P.crN p hp).2⟩
  · intro p hp
    refine ⟨List.mem_of_mem_drop hp, fun q => ?_⟩
    have e : appA σ lg = [lg, σ.dconn, σ.dpaths] ++ ((appE σ lg il k ec nc ep np wv nw).drop 3).map (·.1) := rfl
    rw [e] at nd
    exact (List.nodup_append.mp nd).2.2 p.1 q p.1 (List.mem_map_of_mem hp) rfl
noncomputable def nxV (ws : List Wf) (r : Int) : Value := match ws with
  | [] => .none
  | x :: _ => if x.2.2.sz > r then .none else .ref x.1
noncomputable def nxR (ws : List Wf) (r : Int) : List Wf := match ws with
  | [] => []
  | x :: t => if x.2.2.sz > r then x :: t else t
theorem next_U {w : World} {dp un : Nat} {fr : Option (List Env)} {gd : Option (List Code)} {s : Shared} {p : Program} {loose : List Str} {mean : ExcName → Option Value} {mg mb : Str → Option Value} {E : Value → Shared → Prop} {Q : Value → Shared → Prop} {h₀ : Heap}
   {L : Addr} {m : Str → Option Value} {news : List (Addr × Obj)} {f c cl cw lg wl : Addr} {of oc ol ow : Obj} {items : Array Value} {k nw : Nat} {ws : List Wf} {r : Int} {tr : Tok}
   (bN : BNext w f c cl cw lg wl of oc ol ow) (F : Fr h₀ L s.heap m) (N : News h₀ L s.heap news) (X : (mkK.heap_1 w.params).In h₀) (T : Top p loose mean mg mb h₀) (hd : dp + 70 < recursionLimit) (hu : un + 600 < cLine)
   (m1 : (lg, W.listOf items k) ∈ news) (m2 : (wl, W.listOf (refs (wadr ws)) nw) ∈ news) (m3 : (f, of) ∈ news) (m4 : (c, oc) ∈ news) (m5 : (cl, ol) ∈ news) (m6 : (cw, ow) ∈ news) (hz : items.size ≤ 100) (hw3 : ws.length ≤ 3) (hws : ∀ x ∈ ws, FrO x.2.1 x.2.2 ∧ x.2.2.ok ∧ h₀.get? x.1 = some x.2.1) (hne : @Ne Nat lg wl)
   (hQ : ∀ a o k' nw' h' tk', RoomO o r → Fr h₀ L h' m → (∀ news1 news2, Upd lg (W.listOf items k) (W.listOf (items.push (.ref a)) k') news news1 → Upd wl (W.listOf (refs (wadr ws)) nw) (W.listOf (refs (wadr (nxR ws r))) nw') news1 news2 → News h₀ L h' ((a, o) :: news2)) → (∀ c', Bel (news.map (·.1)) c' → Bel (a :: news.map (·.1)) h'.objs.size) → s.heap.get? a = none → Q (nxV ws r) { s with heap := h', toks := tk' }) :
   wpAny (model Challenge.pw_pf0272_01 w) (Ak dp un fr gd) (call (.ref f) [.int r tr]) Q E s := by
  refine bN F.keep X T hd hu (led_of N (List.forall_mem_cons.mpr ⟨m1, List.forall_mem_cons.mpr ⟨m2, List.forall_mem_cons.mpr ⟨m3, List.forall_mem_cons.mpr ⟨m4, List.forall_mem_cons.mpr ⟨m5, List.forall_mem_cons.mpr ⟨m6, List.forall_mem_nil _⟩⟩⟩⟩⟩⟩)) hz hw3 (fun x hx => ⟨(hws x hx).1, (hws x hx).2.1, F.keep _ _ (hws x hx).2.2⟩) fun a o k' h' tk' hlg ha hfr hR => ?_
  have fin : ∀ nw', (∀ b ob, b ≠ lg → b ≠ wl → s.heap.get? b = some ob → h'.get? b = some ob) → h'.get? wl = some (W.listOf (refs (wadr (nxR ws r))) nw') → Q (nxV ws r) { s with heap := h', toks := tk' } := by
    intro nw' kp hwl
    have hne2 : ∀ q ∈ news, @Ne Nat q.1 a := fun q hq e => by
      have e1 : q.1 = a := e
      have := (N q hq).1
      rw [e1, hfr] at this; cases this
    have hL1 : L ≠ lg := fun q => (N _ m1).2.1 q.symm
    have hL2 : L ≠ wl := fun q => (N _ m2).2.1 q.symm
    refine hQ a o k' nw' h' tk' hR ⟨?_, fun b ob e => kp b ob (fun q => by rw [q, (N _ m1).2.2] at e; cases e) (fun q => by rw [q, (N _ m2).2.2] at e; cases e) (F.keep b ob e), F.above⟩ (fun news1 news2 U1 U2 q hq => ?_) (fun c' B => ⟨List.nodup_cons.mpr ⟨fun hq => ?_, B.1⟩, fun b hb => ?_⟩) hfr
    · k_extra "g1"
      obtain ⟨oL, es, ep, hL, r⟩ := F.ns
      k_extra "g2"
      exact ⟨oL, es, ep, kp _ _ hL1 hL2 hL, r⟩
    · rcases List.mem_cons.mp hq with rfl | hq
      · refine ⟨ha, fun e => ?_, ?_⟩
        · k_extra "g1"
          obtain ⟨oL, _, _, hL, _⟩ := F.ns
          k_extra "g2"
          have e : a = L := e
          rw [e, hL] at hfr; cases hfr
        · cases q : h₀.get? a with
          | none => rfl
          | some o' => rw [F.keep _ _ q] at hfr; cases hfr
      · rcases upd_or U2 q hq with rfl | ⟨hq, q2⟩
        · exact ⟨hwl, (N _ m2).2⟩
        · rcases upd_or U1 q hq with rfl | ⟨hq, q1⟩
          · exact ⟨hlg, (N _ m1).2⟩
          · exact ⟨kp _ _ q1 q2 (N q hq).1, (N q hq).2⟩
    · k_extra "g1"
      obtain ⟨q, hq, e⟩ := List.mem_map.mp hq
      k_extra "g2"
      exact hne2 q hq e
    · rcases List.mem_cons.mp hb with rfl | hb
      · exact Nat.le_of_lt (Heap.lt_size ha)
      · k_extra "g1"
        obtain ⟨q, hq, rfl⟩ := List.mem_map.mp hb
        k_extra "g2"
        by_cases e : q.1 = lg
        · rw [e]; exact Nat.le_of_lt (Heap.lt_size hlg)
        · by_cases e2 : q.1 = wl
          · rw [e2]; exact Nat.le_of_lt (Heap.lt_size hwl)
          · exact Nat.le_of_lt (Heap.lt_size (kp _ _ e e2 (N q hq).1))
  have same : (∀ b ob, b ≠ lg → s.heap.get? b = some ob → h'.get? b = some ob) → h'.get? wl = some (W.listOf (refs (wadr ws)) nw) := fun kp => kp _ _ (Ne.symm hne) (N _ m2).1
  cases ws with
  | nil => exact fun kp => fin nw (fun b ob h1 _ e => kp b ob h1 e) (same kp)
  | cons x t =>
    dsimp only
    by_cases hsz : x.2.2.sz > r
    · rw [if_pos hsz]
      intro kp
      have := fin nw (fun b ob h1 _ e => kp b ob h1 e) (by simp only [nxR, if_pos hsz]; exact same kp)
      simpa only [nxV, if_pos hsz] using this
    · rw [if_neg hsz]
      intro nw' kp hwl
      have := fin nw' kp (by simp only [nxR, if_neg hsz]; exact hwl)
      simpa only [nxV, if_neg hsz] using this
noncomputable def pf (x : Wf) : Pf := (x.1, x.2.2)
theorem nx_none {ws : List Wf} {r : Int} (h : nxV ws r = .none) : drT (ws.map pf) r = [] ∧ drR (ws.map pf) r = [r] := by
  cases ws with
  | nil => exact ⟨rfl, rfl⟩
  | cons x t =>
    by_cases hsz : x.2.2.sz > r
    · have : ¬ (pf x).2.sz ≤ r := by show ¬ x.2.2.sz ≤ r; lia
      simp only [List.map_cons, drT, drR, if_neg this, and_self]
    · simp only [nxV, if_neg hsz] at h; cases h
theorem nx_some {ws : List Wf} {r : Int} (h : nxV ws r ≠ .none) : ∃ x t, ws = x :: t ∧ x.2.2.sz ≤ r ∧ nxV ws r = .ref x.1 ∧ nxR ws r = t ∧ drT (ws.map pf) r = pf x :: drT (t.map pf) (r - x.2.2.sz) ∧ drR (ws.map pf) r = r :: drR (t.map pf) (r - x.2.2.sz) := by
  cases ws with
  | nil => exact absurd rfl h
  | cons x t =>
    by_cases hsz : x.2.2.sz > r
    · simp only [nxV, if_pos hsz] at h; exact absurd rfl h
    · have h2 : (pf x).2.sz ≤ r := by show x.2.2.sz ≤ r; lia
      refine ⟨x, t, rfl, h2, by simp only [nxV, if_neg hsz], by simp only [nxR, if_neg hsz], ?_, ?_⟩
      · simp only [List.map_cons, drT, if_pos h2]; rfl
      · simp only [List.map_cons, drR, if_pos h2]; rfl
theorem add_refs {prog : Program} {w : World} {A : Around} {E : Value → Shared → Prop} {s : Shared} {h₀ : Heap} {L a b : Addr} {m : Str → Option Value} {news : List (Addr × Obj)} {l1 l2 : List Addr} {Q : Value → Shared → Prop} (F : Fr h₀ L s.heap m) (N : News h₀ L s.heap news) (ha : s.heap.IsList a (refs l1)) (hb : s.heap.IsList b (refs l2))
    (h : ∀ D h', Fr h₀ L h' m → News h₀ L h' ((D, W.listOf (refs (l1 ++ l2)) 0) :: news) → (∀ p ∈ news, p.1 < D) → Q (.ref D) { s with heap := h' })
    (hz : l1.length + l2.length ≤ 100) : wpAny (model prog w) A (binaryOp .Add (.ref a) (.ref b)) Q E s := by
  refine kmk_add_lit (zs := (l1 ++ l2).map Value.ref) F N ha hb (by simp [refs]) h ?_
  rw [sizeLine_eq]; simp [refs]; lia
theorem news_drop {h₀ h : Heap} {L : Addr} {a : Addr × Obj} {r : List (Addr × Obj)} (N : News h₀ L h (a :: r)) : News h₀ L h r := fun p hp => N p (.tail _ hp)
theorem bel_drop {a : Addr} {as : List Addr} {c : Nat} (B : Bel (a :: as) c) : Bel as c := bel_sub B (List.sublist_cons_self _ _)
theorem news_app {h₀ h h' : Heap} {L : Addr} {m : Str → Option Value} {news cr : List (Addr × Obj)} (F : Fr h₀ L h m) (N : News h₀ L h news) (k : ∀ b o, h.get? b = some o → h'.get? b = some o) (hcr : ∀ p ∈ cr, h'.get? p.1 = some p.2 ∧ h.get? p.1 = none) : News h₀ L h' (cr ++ news) := by
  intro p hp
  rcases List.mem_append.mp hp with hp | hp
  · obtain ⟨h1, h2⟩ := hcr p hp
    refine ⟨h1, fun e => ?_, ?_⟩
    · k_extra "g1"
      obtain ⟨oL, _, _, hL, _⟩ := F.ns
      k_extra "g2"
      rw [e, hL] at h2; cases h2
    · cases q : h₀.get? p.1 with
      | none => rfl
      | some o' => rw [F.keep _ _ q] at h2; cases h2
  · exact ⟨k _ _ (N p hp).1, (N p hp).2⟩
theorem bel_pre {h₀ h h' : Heap} {L : Addr} {news cr : List (Addr × Obj)} {c : Nat} (N : News h₀ L h news) (B : Bel (news.map (·.1)) c) (N' : News h₀ L h' (cr ++ news)) (hcr : ∀ p ∈ cr, h.get? p.1 = none) (hd : (cr.map (·.1)).Nodup) : Bel ((cr ++ news).map (·.1)) h'.objs.size := by
  refine ⟨?_, fun a ha => ?_⟩
  · rw [List.map_append]
    refine List.nodup_append.mpr ⟨hd, B.1, fun a ha b hb e => ?_⟩
    k_extra "g1"
    obtain ⟨p, hp, rfl⟩ := List.mem_map.mp ha
    k_extra "g2"
    k_extra "g1"
    obtain ⟨q, hq, rfl⟩ := List.mem_map.mp hb
    k_extra "g2"
    have h1 := (N q hq).1
    rw [← e, hcr p hp] at h1; cases h1
  · k_extra "g1"
    obtain ⟨p, hp, rfl⟩ := List.mem_map.mp ha
    k_extra "g2"
    exact Nat.le_of_lt (Heap.lt_size (N' p hp).1)
theorem three {h₀ h h' : Heap} {L r la ta : Addr} {m : Str → Option Value} {news : List (Addr × Obj)} {or ol ot : Obj} {c : Nat} (F : Fr h₀ L h m) (N : News h₀ L h news) (B : Bel (news.map (·.1)) c) (k : ∀ b o, h.get? b = some o → h'.get? b = some o)
    (g1 : h'.get? r = some or) (g2 : h'.get? ta = some ot) (g3 : h'.get? la = some ol) (n1 : h.get? ta = none) (n2 : h.get? la = none) (n3 : h.get? r = none) (l1 : @LT.lt Nat _ ta la) (l2 : @LT.lt Nat _ la r) :
    Fr h₀ L h' m ∧ News h₀ L h' ((r, or) :: (la, ol) :: (ta, ot) :: news) ∧ Bel (r :: la :: ta :: news.map (·.1)) h'.objs.size := by
  have hcr : ∀ p ∈ ([(r, or), (la, ol), (ta, ot)] : List (Addr × Obj)), h'.get? p.1 = some p.2 ∧ h.get? p.1 = none := by
    intro p hp
    simp only [List.mem_cons, List.not_mem_nil, or_false] at hp
    rcases hp with rfl | rfl | rfl
    · exact ⟨g1, n3⟩
    · exact ⟨g3, n2⟩
    · exact ⟨g2, n1⟩
  have N' := news_app F N k hcr
  refine ⟨fr_keep F k, N', bel_pre N B N' (fun p hp => (hcr p hp).2) ?_⟩
  simp only [List.map_cons, List.map_nil, List.nodup_cons, List.mem_cons, List.not_mem_nil, or_false, not_or, List.nodup_nil, and_true, not_false_eq_true]
  exact ⟨⟨Nat.ne_of_gt l2, Nat.ne_of_gt (Nat.lt_trans l1 l2)⟩, Nat.ne_of_gt l1⟩
noncomputable def offer (σ : SA) (ow ws : List Wf) : List Pf := (ow ++ ws).map pf ++ List.replicate σ.lims (σ.lf, Fd.maxd 70)
theorem offer_adr (σ : SA) (ow ws : List Wf) : (offer σ ow ws).map (·.1) = wadr ow ++ wadr ws ++ List.replicate σ.lims σ.lf := by simp [offer, pf, wadr, Function.comp_def]
theorem heres_ok {as : List Af} (h : ∀ a ∈ as, AnsO a.2.1 a.2.2.1 a.2.2.2 ∧ a.2.2.2.size = 8) : ∀ d ∈ heres as, d.ok ∧ d.plain = true := by
  intro d hd
  k_extra "g1"
  obtain ⟨a, ha, rfl⟩ := List.mem_map.mp hd
  k_extra "g2"
  exact ⟨(h a (List.mem_filter.mp ha).1).2, rfl⟩
theorem resp_ok {as : List Af} {ws : List Wf} {c : Bool} (h : ∀ a ∈ as, AnsO a.2.1 a.2.2.1 a.2.2.2 ∧ a.2.2.2.size = 8) (e : ws.map (·.2.2) = heres as ++ (if c then [Fd.chal b2] else [])) : ∀ f ∈ ws, f.2.2.ok ∧ f.2.2.plain = true := by
  intro f hf
  have : f.2.2 ∈ ws.map (·.2.2) := List.mem_map_of_mem hf
  rw [e] at this
  rcases List.mem_append.mp this with h1 | h1
  · exact heres_ok h _ h1
  · cases c with
    | true => rw [if_pos rfl] at h1; rw [List.mem_singleton.mp h1]; exact ⟨rfl, rfl⟩
    | false => rw [if_neg (by decide)] at h1; cases h1
theorem offer_ok {σ : SA} {ow ws : List Wf} {h : Heap} (h1 : ∀ f ∈ ow, FrO f.2.1 f.2.2 ∧ f.2.2.ok ∧ f.2.2.plain = true) (h2 : ∀ f ∈ ow, h.get? f.1 = some f.2.1) (h3 : ∀ f ∈ ws, FrO f.2.1 f.2.2) (h4 : ∀ f ∈ ws, f.2.2.ok ∧ f.2.2.plain = true) (h5 : ∀ f ∈ ws, h.get? f.1 = some f.2.1) (h6 : h.get? σ.lf = some σ.olf) (h7 : FrO σ.olf (.maxd 70)) :
    ∀ f ∈ offer σ ow ws, f.2.ok ∧ f.2.plain = true ∧ FrAt h f.1 f.2 := by
  intro f hf
  rcases List.mem_append.mp hf with hf | hf
  · k_extra "g1"
    obtain ⟨x, hx, rfl⟩ := List.mem_map.mp hf
    k_extra "g2"
    rcases List.mem_append.mp hx with hx | hx
    · exact ⟨(h1 x hx).2.1, (h1 x hx).2.2, frO_at (h2 x hx) (h1 x hx).1⟩
    · exact ⟨(h4 x hx).1, (h4 x hx).2, frO_at (h5 x hx) (h3 x hx)⟩
  · rw [List.eq_of_mem_replicate hf]
    exact ⟨⟨by decide, by decide⟩, rfl, frO_at h6 h7⟩
theorem offer_len {σ : SA} {ow ws : List Wf} (h1 : ow.length ≤ 3) (h2 : (wadr ws).length ≤ 3) (h3 : σ.lims ≤ 1) : (offer σ ow ws).length ≤ 7 := by
  simp only [wadr, List.length_map] at h2
  simp only [offer, List.length_append, List.length_map, List.length_replicate]; lia
noncomputable def szOf (items : Array Value) : Int := match items.toList with
  | [.str _ _] => 1
  | [.str _ _, .int n _] => 1 + wide n
  | [.str k _, .bytes b _] => if k = Str.ofString "new_token" then 1 + wide b.size + b.size else 1 + b.size
  | [_, .int n _, .int o _, .bytes b _, _] => 1 + wide n + (if o > 0 then wide o else 0) + 1 + b.size
  | _ => 0
theorem FrAt.szOf {h : Heap} {a : Addr} {d : Fd} (H : FrAt h a d) : ∃ items, IsTup h a items ∧ szOf items = d.sz := by
  cases d with
  | hs => obtain ⟨t, H⟩ := H; exact ⟨_, H, rfl⟩
  | ping => obtain ⟨t, H⟩ := H; exact ⟨_, H, rfl⟩
  | ret n => obtain ⟨t, u, H⟩ := H; exact ⟨_, H, rfl⟩
  | maxd n => obtain ⟨t, u, H⟩ := H; exact ⟨_, H, rfl⟩
  | tok b => obtain ⟨t, u, H⟩ := H; exact ⟨_, H, (if_pos rfl : (if Str.ofString "new_token" = Str.ofString "new_token" then 1 + wide b.size + (b.size : Int) else 1 + b.size) = _)⟩
  | resp b => obtain ⟨t, u, H⟩ := H; exact ⟨_, H, (if_neg (by decide) : (if Str.ofString "path_response" = Str.ofString "new_token" then 1 + wide b.size + (b.size : Int) else 1 + b.size) = _)⟩
  | chal b => obtain ⟨t, u, H⟩ := H; exact ⟨_, H, (if_neg (by decide) : (if Str.ofString "path_challenge" = Str.ofString "new_token" then 1 + wide b.size + (b.size : Int) else 1 + b.size) = _)⟩
  | strm n o b => obtain ⟨t, u, v, x, H⟩ := H; exact ⟨_, H, rfl⟩
theorem isTup_uniq {h : Heap} {a : Addr} {i1 i2 : Array Value} (h1 : IsTup h a i1) (h2 : IsTup h a i2) : i1 = i2 := by
  k_extra "g1"
  obtain ⟨o, e, -, n, d⟩ := h1
  k_extra "g2"
  k_extra "g1"
  obtain ⟨o', e', -, n', d'⟩ := h2
  k_extra "g2"
  rw [e] at e'; cases e'
  rw [d] at d'; cases d'; rfl
theorem FrAt.sz_eq {h : Heap} {a : Addr} {d d' : Fd} (H : FrAt h a d) (H' : FrAt h a d') : d.sz = d'.sz := by
  k_extra "g1"
  obtain ⟨i, t, e⟩ := H.szOf
  k_extra "g2"
  k_extra "g1"
  obtain ⟨i', t', e'⟩ := H'.szOf
  k_extra "g2"
  rw [← e, ← e', isTup_uniq t t']
theorem sizes_are {h : Heap} {T0 : List Pf} (hT : ∀ f ∈ T0, FrAt h f.1 f.2) : ∀ {T : List Pf} {ys : List Value}, (∀ f ∈ T, FrAt h f.1 f.2) → Paired (fun v y => ∃ f ∈ T0, v = Value.ref f.1 ∧ ∃ t, y = .int f.2.sz t) (T.map fun f => Value.ref f.1) ys → IntsAre ys (T.map fun f => f.2.sz) := by
  intro T
  induction T with
  | nil => intro ys _ hp; cases hp; exact .nil
  | cons f T ih =>
    intro ys h1 hp
    cases hp with
    | cons h2 hp =>
      k_extra "g1"
      obtain ⟨f', hf', e, t, rfl⟩ := h2
      k_extra "g2"
      have e : f.1 = f'.1 := by injection e
      rw [List.map_cons, ← FrAt.sz_eq (h1 f (.head _)) (e ▸ hT f' hf')]
      exact .cons _ _ (ih (fun g hg => h1 g (.tail _ hg)) hp)
theorem mid {g h : Heap} {L : Addr} {x : Addr × Obj} {E tl : List (Addr × Obj)} {c : Nat} (N : News g L h (x :: (E ++ tl))) (B : Bel (x.1 :: (E ++ tl).map (·.1)) c) : News g L h (E ++ x :: tl) ∧ Bel ((E ++ x :: tl).map (·.1)) c := by
  have P : (E ++ x :: tl).Perm (x :: (E ++ tl)) := List.perm_middle
  refine ⟨fun p hp => N p (P.subset hp), ?_, fun a ha => B.2 a ?_⟩
  · exact (List.Perm.nodup_iff (P.map fun p : Addr × Obj => p.1)).mpr B.1
  · exact (P.map fun p : Addr × Obj => p.1).subset ha
noncomputable def loopE (σ : SA) (lg r la ta : Addr) (or ol : Obj) (tk : List Pf) (nta : Nat) (lgs : List (Addr × Obj × Lg)) (k : Nat) (ec : List DictEntry) (nc : Nat) (ep : List DictEntry) (np : Nat) (ws : List Wf) (nw : Nat) : List (Addr × Obj) :=
  [(r, or), (la, ol), (ta, W.listOf (refs (tk.map (·.1))) nta), (lg, W.listOf (refs (lgs.map (·.1))) k), (σ.dconn, dictOf ec nc), (σ.dpaths, dictOf ep np), (σ.wl, W.listOf (refs (wadr ws)) nw), (σ.conn, instObj 319 σ.dconn), (σ.str, instObj 319 σ.dstr), (σ.dstr, dictOf σ.es σ.ns), (σ.ft, σ.oft), (σ.ct, σ.oct), (σ.cLim, σ.oLim), (σ.fn, σ.ofn), (σ.cn, σ.ocn), (σ.cLog, σ.oLog), (σ.cWait, σ.oWait)]
theorem room_lg {o : Obj} {r : Int} (h : RoomO o r) : LgO o (.room r) := by
  k_extra "g1"
  obtain ⟨items, k, t, u, h1, h2, rfl⟩ := h
  k_extra "g2"
  exact ⟨_, _, h1, h2, _, _, rfl⟩
noncomputable def loopM (ta lo2 cn : Addr) (rm : Int) (t1 t7 : Tok) (r : Int) (tr : Tok) (v : Value) : Str → Option Value := fun y => if y = Str.ofString "frame" then some v else if y = Str.ofString "room" then some (.int r tr) else if y = Str.ofString "found" then some (.ref ta) else if y = Str.ofString "owed" then some (.ref lo2) else List.lookup y [(Str.ofString "conn", .ref cn), (Str.ofString "room", .int rm t1), (Str.ofString "now", .int 7 t7)].reverse
theorem loopM_turn {ta lo2 cn : Addr} {rm : Int} {t1 t7 : Tok} {r r' : Int} {tr tr' : Tok} {v v' : Value} : (fun y => if y = Str.ofString "frame" then some v' else if y = Str.ofString "room" then some (.int r' tr') else loopM ta lo2 cn rm t1 t7 r tr v y) = loopM ta lo2 cn rm t1 t7 r' tr' v' := by
  funext y
  by_cases e1 : y = Str.ofString "frame"
  · subst e1; rfl
  by_cases e2 : y = Str.ofString "room"
  · subst e2; rfl
  simp only [loopM, if_neg e1, if_neg e2]
theorem refs_lg (lgs : List (Addr × Obj × Lg)) (a : Addr) (o : Obj) (l : Lg) : (refs (lgs.map (·.1))).push (.ref a) = refs ((lgs ++ [(a, o, l)]).map (·.1)) := by simp [refs]
theorem refs_pf (T : List Pf) (x : Wf) : (refs (T.map (·.1))).push (.ref x.1) = refs ((T ++ [pf x]).map (·.1)) := by simp [refs, pf]
theorem lo_len {σ : SA} {compl : Bool} {lg : Addr} {h h' : Heap} {D D2 : Addr} {ws : List Wf} {lo : List (Addr × Obj × Lg)} {k' : Nat} {ec' : List DictEntry} {nc' : Nat} {ep' : List DictEntry} {np' : Nat} {cr : List (Addr × Obj)} (P : PathPost σ compl lg h h' D D2 ws lo k' ec' nc' ep' np' cr) : lo.length ≤ 1 := by
  have h1 := congrArg List.length P.lo2
  rw [List.length_map] at h1
  rw [h1]; split <;> simp
theorem szR (l : List Addr) (n : Nat) (h : l.length ≤ n) (hn : n ≤ 100) : (refs l).size ≤ sizeLine := by rw [sizeLine_eq]; simp [refs]; lia
theorem drR_head (ws : List Pf) (r : Int) : drR ws r = r :: (drR ws r).drop 1 := by
  cases ws with
  | nil => rfl
  | cons f t => unfold drR; split <;> rfl
theorem app_kp {σ : SA} {lg r la ta L : Addr} {or ol : Obj} {h₀ g h h' : Heap} {m : Str → Option Value} {wv : Array Value} {k k1 nw nw1 nta nc : Nat} {ec : List DictEntry} {ep : List DictEntry} {np : Nat} {TT : List Pf} {lgs : List (Addr × Obj × Lg)} {ws : List Wf} {tl : List (Addr × Obj)}
    (Ld0 : Led h₀ h (appE σ lg #[] k σ.ec σ.nc σ.ep σ.np wv nw)) (kg : ∀ b o, b ∉ (appE σ lg #[] k σ.ec σ.nc σ.ep σ.np wv nw).map (·.1) → h.get? b = some o → g.get? b = some o) (F : Fr g L h' m) (N : News g L h' (loopE σ lg r la ta or ol TT nta lgs k1 ec nc ep np ws nw1 ++ tl)) :
    ∀ b o, b ≠ lg → b ≠ σ.dconn → b ≠ σ.dpaths → b ≠ σ.wl → h.get? b = some o → h'.get? b = some o := by
  intro b o h1 h2 h3 h4 e
  by_cases hb : b ∈ (appE σ lg #[] k σ.ec σ.nc σ.ep σ.np wv nw).map (·.1)
  · k_extra "g1"
    obtain ⟨p, hp, rfl⟩ := List.mem_map.mp hb
    k_extra "g2"
    rw [(Ld0 p hp).1] at e; cases e
    have hm : p ∈ loopE σ lg r la ta or ol TT nta lgs k1 ec nc ep np ws nw1 := by
      rcases List.mem_cons.mp hp with rfl | hp
      · exact absurd rfl h1
      rcases List.mem_cons.mp hp with rfl | hp
      · exact absurd rfl h2
      rcases List.mem_cons.mp hp with rfl | hp
      · exact absurd rfl h3
      rcases List.mem_cons.mp hp with rfl | hp
      · exact absurd rfl h4
      exact sub_ix [7, 8, 9, 10, 11, 12, 13, 14, 15, 16] rfl p hp
    exact (N p (List.mem_append_left _ hm)).1
  · exact F.keep b o (kg b o hb e)
theorem none_of {h h' : Heap} {a : Addr} (k : ∀ b o, h.get? b = some o → h'.get? b = some o) (e : h'.get? a = none) : h.get? a = none := by
  cases q : h.get? a with
  | none => rfl
  | some o => rw [k _ _ q] at e; cases e
structure AppPost (σ : SA) (compl : Bool) (lg : Addr) (room : Int) (ow : List Wf) (h h' : Heap) (Fa la D2 : Addr) (wsP : List Wf) (lgs : List (Addr × Obj × Lg)) (nF nla k1 ncF npF nD2 : Nat) (ecF epF : List DictEntry) : Prop where
  wsF : wsP.map (·.2.2) = heres σ.as ++ (if isTried σ compl then [Fd.chal b2] else [])
  fat : ∀ f ∈ offer σ ow wsP, FrAt h' f.1 f.2
  gF : h'.get? Fa = some (W.listOf (refs (((fillF (offer σ ow wsP) room).1 ++ drT (σ.ws.map pf) (fillF (offer σ ow wsP) room).2.2).map (·.1))) nF)
  gla : h'.get? la = some (W.listOf (refs ((fillF (offer σ ow wsP) room).2.1.map (·.1))) nla)
  gc : h'.get? σ.dconn = some (dictOf ecF ncF)
  dC : ∃ k f t, DA ecF k f ∧ f (Str.ofString "owed") = some (.ref la) ∧ f (Str.ofString "challenged") = some (.int (if isTried σ compl then 3 else 2) t) ∧ f (Str.ofString "paths") = some (.ref σ.paths)
  gp : h'.get? σ.dpaths = some (dictOf epF npF)
  dP : ∃ k f, DA epF k f ∧ f (Str.ofString "answers") = some (.ref D2)
  gD2 : h'.get? D2 = some (W.listOf (refs (theres σ.as)) nD2)
  nD : h.get? D2 = none
  gl : h'.get? lg = some (W.listOf (refs (lgs.map (·.1))) k1)
  lgF : lgs.map (·.2.2) = (if isTried σ compl then [.tried] else []) ++ (drR (σ.ws.map pf) (fillF (offer σ ow wsP) room).2.2).map Lg.room
  lgO : ∀ f ∈ lgs, h'.get? f.1 = some f.2.1 ∧ LgO f.2.1 f.2.2
  kp : ∀ b o, b ≠ lg → b ≠ σ.dconn → b ≠ σ.dpaths → b ≠ σ.wl → h.get? b = some o → h'.get? b = some o
end
noncomputable section
open PyProof.Rows.LCg
theorem kw_77 : True := by
  k_with_none
  k_with "rm" => first | exact room_lt (by assumption) rfl | exact room_lt1 (by assumption) | lia
  k_with "g1" => refine by_goal fun zG zh => ?_
  k_with "g2" => (refine zh ?_; clear zh zG)
  k_with "WW" => (repeat' (first | ((with_reducible show wpAny _ _ _ _ _ _); (fail_if_success (with_reducible show wpAny _ _ (eval (Expr.ListComp _ _ _ _) _) _ _ _)); (fail_if_success (with_reducible show wpAny _ _ (pyIter _) _ _ _)); (fail_if_success (with_reducible show wpAny _ _ (exec (Stmt.Assign [Expr.Name _ _] (Expr.ListComp _ _ _ _) _) _) _ _ _)); walk1) | ((with_reducible show ite _ _ _); walk1) | ((with_reducible show (Frag.In _ _ ∧ wpAny _ _ _ _ _ _)); refine And.intro (Frag.In.keeps (by assumption) (Fr.keep (by assumption))) ?_) | ((with_reducible show (Heap.get? _ _ = some _ ∧ wpAny _ _ _ _ _ _)); refine And.intro (News.get (by assumption) (by k_mem)) ?_) | ((fail_if_success (with_reducible show wpAny _ _ _ _ _ _)); dsimp only)))
  trivial
theorem kw_75 : True := by
  k_with "getAttr ref" => (k_here; k_dflt (refine getA (by k_asm) (by k_asm) (by k_asm) (by k_mem) (by k_mem) (by k_asm) (by first | exact rfl | assumption) (by k_is) (by k_is) (by k_is) (by k_is) (by k_handed) ?_; k_whole))
  k_with "getMethod ref" => (k_here; k_dflt (refine methA (by k_asm) (by k_asm) (by k_asm) (by k_mem) (by k_mem) (by k_asm) (by first | exact rfl | assumption) (by k_is) (by k_is) (by k_is) (by k_handed) ?_; k_whole))
  k_with "setAttr ref" => (k_here; k_dflt (refine setA (by k_asm) (by k_asm) (by k_asm) (by k_mem) (by k_mem) (by k_asm) (by k_is) (by k_is) (by k_is) (by k_is) (by (intro _ _; k_upd)) (by first | exact Nat.le_of_ble_eq_true rfl | lia) ?_; k_whole); intro _ _ _ _ _ zN; (try dsimp only at zN); (revert zN; intro _); (try k_sweep))
  k_with "call ref" => (k_here; (with_reducible show wpAny _ _ (call (Value.ref 319) [Value.str _ _]) _ _ _); (rename Fr _ _ _ _ => F); (rename News _ _ _ _ => N); (refine space_U F N X T (by (show dp + 1 + 20 < recursionLimit); k_extra "rm") (by (show un + 3 + 200 < cLine); k_extra "rm") fun x' d' es' n' f' h' tk' l1 l2 D' F' N' => ?_); clear F N; (try k_lt l1); (try k_lt2 l2))
  k_with "call builtin:list.append" => (k_here; (with_reducible show wpAny _ _ (call (Value.builtin _) [Value.ref _, _]) _ _ _); k_dflt (refine append_K (by k_asm) (by k_asm) (by k_upd) ?_ (by assumption); k_whole); intro _ _ _; (try k_sweep))
  k_with "callWith ref" => (k_here; (rename News _ _ _ _ => N); k_dflt (first | (refine' callWith_F0 (News.get N ?k1) ?k2 ?_; (case k1 => k_mem); (case k2 => assumption)) | (refine' callWith_FN N ?k1 ?k2 ?_; (case k1 => k_mem); (case k2 => assumption))))
  k_with "call ref" => (k_here; (with_reducible show wpAny _ _ (call (Value.ref 173) _) _ _ _); (rename Fr _ _ _ _ => F); (rename News _ _ _ _ => N); (rename Bel _ _ => B); (refine path_A (σ := σ) (compl := compl) (lg := lg) (items := #[]) (fun b o e => F.keep b o (kb b o e)) X0 T0 (by (show dp + 1 + 60 < recursionLimit); k_extra "rm") (by (show un + 3 + 600 < cLine); k_extra "rm") ok (by simp) (fun p hp => ⟨keep_all Ld0 kg F (fun p hp => (N p hp).1) _ _ (Ld p (all_sub hp)).1, (Ld p (all_sub hp)).2⟩) nd1 rfl fun D D2 wsP loP kP ecP ncP epP npP crP hP tkP PP => ?_); (have hD2n : s.heap.get? D2 = none := none_of (keep_all Ld0 kg F (fun p hp => (N p hp).1)) (PP.crN _ (Classical.choose_spec PP.eD2)).2); (obtain ⟨Fw, Nw, Bw⟩ := app_back1 F N (app_nd nd) PP); clear F N B; (simp only [appE, List.cons_append, List.nil_append, List.map_cons] at Nw Bw); (obtain ⟨nD, eD⟩ := PP.eD); (have hDl : hP.IsList D (refs (wadr wsP)) := ⟨_, (PP.crN _ eD).1, rfl, _, rfl⟩); (obtain ⟨kC', fC', tC', dC', hkC', aCh, aCo⟩ := PP.dC); (have e2 : (wadr wsP).length ≤ 3 := path_len PP h3a); (have aS' : fC' (Str.ofString "streams") = some (.ref σ.str) := da_same dC aCo aC2 (by decide) (by decide)))
  k_with "call ref" => (k_here; (with_reducible show wpAny _ _ (call (Value.ref (SA.ft _)) _) _ _ _); (rename Fr _ _ _ _ => F); (rename News _ _ _ _ => N); (refine bT F.keep X T (by (show dp + 1 + 20 < recursionLimit); k_extra "rm") (by (show un + 3 + 200 < cLine); k_extra "rm") (led_of N (List.forall_mem_cons.mpr ⟨by k_mem, List.forall_mem_cons.mpr ⟨by k_mem, List.forall_mem_cons.mpr ⟨by k_mem, List.forall_mem_nil _⟩⟩⟩)) fun hw tkw kw => ?_); (have Fw := fr_keep F kw); (have Nw := news_keep N kw); clear kw F N)
  k_with "call ref" => (k_here; (with_reducible show wpAny _ _ (call (Value.ref (SA.fn _)) [Value.int _ _]) _ _ _); (rename Fr _ _ _ _ => F); (rename News _ _ _ _ => N); (rename Bel _ _ => B); (k_dflt (refine next_U bN F N X T (by (show dp + 1 + 70 < recursionLimit); k_extra "rm") (by (show un + 3 + 600 < cLine); k_extra "rm") (by k_mem) (by k_mem) (by k_mem) (by k_mem) (by k_mem) (by k_mem) (by assumption) (by assumption) (by assumption) hne9 fun na no nk nnw hw tkw hNR Fw Nw Bw hna => ?_)); (replace Nw := Nw _ _ (by k_upd) (by k_upd)); (replace Bw := Bw _ B); clear F N B; (simp only [List.map_cons, List.map_nil, List.cons_append] at Bw))
  k_with "binaryOp Add ref ref" => (k_here; (with_reducible show wpAny _ _ (binaryOp Operator.Add (Value.ref _) (Value.ref _)) _ _ _); k_dflt (refine add_refs (by k_asm) (by k_asm) (by first | exact Heap.IsList.at (by assumption) (Fr.keep (by assumption) _) | exact ⟨_, News.get (by assumption) (by k_mem), rfl, _, rfl⟩) (by first | assumption | exact Heap.IsList.at (by assumption) (Fr.keep (by assumption) _) | exact ⟨_, News.get (by assumption) (by k_mem), rfl, _, rfl⟩) ?_ (by ((try simp only [List.length_append]); lia)); k_whole); intro _ _ _ _ zl; (try k_lt zl); (try (revert zl; intro _)); (try k_sweep))
  trivial
theorem da_same {es : List DictEntry} {k : Nat} {f f' : Str → Option Value} {y : Str} {v : Value} (D : DA es k f) (h : ∀ y, y ≠ Str.ofString "challenged" → y ≠ Str.ofString "again_at" → getL y es = some (f' y)) (hv : f y = some v) (h1 : y ≠ Str.ofString "challenged") (h2 : y ≠ Str.ofString "again_at") : f' y = some v := by
  have e := (D.1 y).symm.trans (h y h1 h2)
  rw [← Option.some.inj e]; exact hv
theorem fr_nil {b h : Heap} {C : Addr} {m : Str → Option Value} (_ : Fr b C h m) : News b C h [] := News.nil
theorem path_len {σ : SA} {compl : Bool} {lg : Addr} {h h' : Heap} {D D2 : Addr} {ws : List Wf} {lo : List (Addr × Obj × Lg)} {k' : Nat} {ec' : List DictEntry} {nc' : Nat} {ep' : List DictEntry} {np' : Nat} {cr : List (Addr × Obj)} (P : PathPost σ compl lg h h' D D2 ws lo k' ec' nc' ep' np' cr) (h3 : σ.as.length ≤ 2) : (wadr ws).length ≤ 3 := by
  have h1 := congrArg List.length P.wsF
  have h2 := heres_len σ.as
  rw [List.length_map, List.length_append] at h1
  have h4 : (if isTried σ compl then [Fd.chal b2] else []).length ≤ 1 := by split <;> simp
  simp only [wadr, List.length_map]
  lia
noncomputable section
theorem kw_76 : True := by
  k_with "cl1" => first | refine no_implicit_lambda% (eps8 0 (inferInstanceAs (Box 0 IdT _)) rfl rfl ?_) | refine no_implicit_lambda% (eps7 0 (inferInstanceAs (Box 0 IdT _)) rfl rfl ?_) | refine no_implicit_lambda% (eps6 0 (inferInstanceAs (Box 0 IdT _)) rfl rfl ?_) | refine no_implicit_lambda% (eps5 0 (inferInstanceAs (Box 0 IdT _)) rfl rfl ?_) | refine no_implicit_lambda% (eps4 0 (inferInstanceAs (Box 0 IdT _)) rfl rfl ?_) | refine no_implicit_lambda% (eps3 0 (inferInstanceAs (Box 0 IdT _)) rfl rfl ?_) | refine no_implicit_lambda% (eps2 0 (inferInstanceAs (Box 0 IdT _)) rfl rfl ?_) | refine no_implicit_lambda% (epsd 0 (inferInstanceAs (Box 0 IdT _)) rfl rfl ?_)
  k_with "cl" => (set_option tactic.hygienic false in ((repeat ((first | rename Heap => q9 | rename Addr => q9 | rename Nat => q9 | rename Obj => q9 | rename Value => q9 | rename Int => q9 | rename List _ => q9 | rename Str → Option Value => q9 | rename Bool => q9 | rename Option _ => q9 | rename Array _ => q9 | rename Str => q9 | rename _ × _ => q9 | rename Shared => q9 | rename Program => q9 | rename ExcName → Option Value => q9 | rename Value → Shared → Prop => q9); revert q9)); (repeat (first | k_extra "cl1" | (with_reducible intro _)))))
  trivial
namespace app_N
noncomputable def St0 (w : World) (dp : Nat) (un : Nat) (fr : Option (List Env)) (gd : Option (List Code)) (s : Shared) (p : Program) (loose : List Str) (mean : ExcName → Option Value) (mg : Str → Option Value) (mb : Str → Option Value) (E : Value → Shared → Prop) (Q : Value → Shared → Prop) (h₀ : Heap) (σ : SA) (compl : Bool) (lg : Addr) (lo : Addr) (k : Nat) (nlo : Nat) (ow : List Wf) (room : Int) (t1 : Tok) (t7 : Tok) : Prop := ∀ (keep : ∀ b o, h₀.get? b = some o → s.heap.get? b = some o) (X : (mkK.heap_1 w.params).In h₀) (T : Top p loose mean mg mb h₀) (hd : dp + 150 < recursionLimit) (hu : un + 1500 < cLine) (ok : σ.Ok compl w lg 31) (howed : getL (Str.ofString "owed") σ.ec = some (some (.ref lo))) (hox : ∀ f ∈ ow, FrO f.2.1 f.2.2 ∧ f.2.2.ok ∧ f.2.2.plain = true) (how : ow.length ≤ 3) (hroom : 0 ≤ room ∧ room ≤ 60) (Ld : Led h₀ s.heap (allE σ lg lo (W.listOf (refs (wadr ow)) nlo) k ow)) (nd : ((allE σ lg lo (W.listOf (refs (wadr ow)) nlo) k ow).map (·.1)).Nodup) (hQ : ∀ Fa la D2 wsP lgs nF nla k1 ncF npF nD2 ecF epF h' tk', AppPost σ compl lg room ow s.heap h' Fa la D2 wsP lgs nF nla k1 ncF npF nD2 ecF epF → Q (.ref Fa) { s with heap := h', toks := tk' }),
   wpN (model Challenge.pw_pf0272_01 w) (Ak dp un fr gd) (call (.ref 178) [.ref σ.conn, .int room t1, .int 7 t7]) Q E s
noncomputable abbrev Ty0 : Type := (World) × (Nat) × (Nat) × (Option (List Env)) × (Option (List Code)) × (Shared) × (Program) × (List Str) × (ExcName → Option Value) × (Str → Option Value) × (Str → Option Value) × (Value → Shared → Prop) × (Value → Shared → Prop) × (Heap) × (SA) × (Bool) × (Addr) × (Addr) × (Nat) × (Nat) × (List Wf) × (Int) × (Tok) × (Tok)
theorem ne0 : Nonempty Ty0 := ⟨Classical.choice neW, Classical.choice inferInstance, Classical.choice inferInstance, Classical.choice inferInstance, Classical.choice inferInstance, Classical.choice neS, Classical.choice inferInstance, Classical.choice inferInstance, Classical.choice inferInstance, Classical.choice inferInstance, Classical.choice inferInstance, Classical.choice inferInstance, Classical.choice inferInstance, Classical.choice inferInstance, Classical.choice neSA, Classical.choice inferInstance, Classical.choice inferInstance, Classical.choice inferInstance, Classical.choice inferInstance, Classical.choice inferInstance, Classical.choice inferInstance, Classical.choice inferInstance, Classical.choice inferInstance, Classical.choice inferInstance⟩
noncomputable def P0 (vv0 : Ty0) : Prop := St0 (vv0.1) (vv0.2.1) (vv0.2.2.1) (vv0.2.2.2.1) (vv0.2.2.2.2.1) (vv0.2.2.2.2.2.1) (vv0.2.2.2.2.2.2.1) (vv0.2.2.2.2.2.2.2.1) (vv0.2.2.2.2.2.2.2.2.1) (vv0.2.2.2.2.2.2.2.2.2.1) (vv0.2.2.2.2.2.2.2.2.2.2.1) (vv0.2.2.2.2.2.2.2.2.2.2.2.1) (vv0.2.2.2.2.2.2.2.2.2.2.2.2.1) (vv0.2.2.2.2.2.2.2.2.2.2.2.2.2.1) (vv0.2.2.2.2.2.2.2.2.2.2.2.2.2.2.1) (vv0.2.2.2.2.2.2.2.2.2.2.2.2.2.2.2.1) (vv0.2.2.2.2.2.2.2.2.2.2.2.2.2.2.2.2.1) (vv0.2.2.2.2.2.2.2.2.2.2.2.2.2.2.2.2.2.1) (vv0.2.2.2.2.2.2.2.2.2.2.2.2.2.2.2.2.2.2.1) (vv0.2.2.2.2.2.2.2.2.2.2.2.2.2.2.2.2.2.2.2.1) (vv0.2.2.2.2.2.2.2.2.2.2.2.2.2.2.2.2.2.2.2.2.1) (vv0.2.2.2.2.2.2.2.2.2.2.2.2.2.2.2.2.2.2.2.2.2.1) (vv0.2.2.2.2.2.2.2.2.2.2.2.2.2.2.2.2.2.2.2.2.2.2.1) (vv0.2.2.2.2.2.2.2.2.2.2.2.2.2.2.2.2.2.2.2.2.2.2.2)
@[irreducible] def vv0 : Ty0 := @ata _ ne0 0 P0
@[irreducible] def w : World := vv0.1
@[irreducible] def dp : Nat := vv0.2.1
@[irreducible] def un : Nat := vv0.2.2.1
@[irreducible] def fr : Option (List Env) := vv0.2.2.2.1
@[irreducible] def s : Shared := vv0.2.2.2.2.2.1
@[irreducible] def p : Program := vv0.2.2.2.2.2.2.1
@[irreducible] def mb : Str → Option Value := vv0.2.2.2.2.2.2.2.2.2.2.1
@[irreducible] def E : Value → Shared → Prop := vv0.2.2.2.2.2.2.2.2.2.2.2.1
@[irreducible] def Q : Value → Shared → Prop := vv0.2.2.2.2.2.2.2.2.2.2.2.2.1
@[irreducible] def h₀ : Heap := vv0.2.2.2.2.2.2.2.2.2.2.2.2.2.1
@[irreducible] def σ : SA := vv0.2.2.2.2.2.2.2.2.2.2.2.2.2.2.1
@[irreducible] def compl : Bool := vv0.2.2.2.2.2.2.2.2.2.2.2.2.2.2.2.1
@[irreducible] def lg : Addr := vv0.2.2.2.2.2.2.2.2.2.2.2.2.2.2.2.2.1
@[irreducible] def lo : Addr := vv0.2.2.2.2.2.2.2.2.2.2.2.2.2.2.2.2.2.1
@[irreducible] def k : Nat := vv0.2.2.2.2.2.2.2.2.2.2.2.2.2.2.2.2.2.2.1
@[irreducible] def nlo : Nat := vv0.2.2.2.2.2.2.2.2.2.2.2.2.2.2.2.2.2.2.2.1
@[irreducible] def ow : List Wf := vv0.2.2.2.2.2.2.2.2.2.2.2.2.2.2.2.2.2.2.2.2.1
@[irreducible] def room : Int := vv0.2.2.2.2.2.2.2.2.2.2.2.2.2.2.2.2.2.2.2.2.2.1
@[irreducible] def t1 : Tok := vv0.2.2.2.2.2.2.2.2.2.2.2.2.2.2.2.2.2.2.2.2.2.2.1
@[irreducible] def t7 : Tok := vv0.2.2.2.2.2.2.2.2.2.2.2.2.2.2.2.2.2.2.2.2.2.2.2
theorem prf0 : St0 w dp un fr (vv0.2.2.2.2.1) s p (vv0.2.2.2.2.2.2.2.1) (vv0.2.2.2.2.2.2.2.2.1) (vv0.2.2.2.2.2.2.2.2.2.1) mb E Q h₀ σ compl lg lo k nlo ow room t1 t7 := by
  intro keep X T hd hu ok howed hox how hroom Ld nd hQ
  have _h : Challenge.rw_pf0272_01 = Challenge.rw_pf0272_01 ∧ mkK.heap_1 = mkK.heap_1 := by
    k_fill
    exact ⟨rfl, rfl⟩
  clear _h
  have Ld0 : Led h₀ s.heap (appE σ lg #[] k σ.ec σ.nc σ.ep σ.np (refs (wadr σ.ws)) σ.nwl) := fun p hp => Ld p (appE_sub p hp)
  have all_sub : ∀ {p}, p ∈ (lg, W.listOf #[] k) :: (σ.led ++ entA σ.as) → p ∈ allE σ lg lo (W.listOf (refs (wadr ow)) nlo) k ow := by
    intro p hp
    rcases List.mem_cons.mp hp with rfl | hp
    · exact .head _
    · refine .tail _ (.tail _ ?_)
      rcases List.mem_append.mp hp with hp | hp
      · exact List.mem_append_left _ hp
      · exact List.mem_append_right _ (List.mem_append_left _ hp)
  have nd1 : (((lg, W.listOf #[] k) :: (σ.led ++ entA σ.as)).map (·.1)).Nodup := by
    refine List.Sublist.nodup (List.Sublist.map _ (.cons_cons _ (.cons _ ?_))) nd
    exact List.Sublist.append_left (List.sublist_append_left _ _) _
  refine wpN_call ?_
  refine code_defM_N h₀ (appE σ lg #[] k σ.ec σ.nc σ.ep σ.np (refs (wadr σ.ws)) σ.nwl) [(Str.ofString "conn", .ref σ.conn), (Str.ofString "room", .int room t1), (Str.ofString "now", .int 7 t7)] keep X T Ld0 (by k_is) (by k_is) (by (show dp < recursionLimit); k_extra "rm") (BindsTo.of_eq rfl) (locs rfl) ?_ rfl rfl rfl (by decide)
  have X0 := X
  have T0 := T
  clear X T
  intro g L h X T kg kb F N hlt hgL
  dsimp only
  have hB : Bel (appA σ lg) L := ⟨app_nd nd, fun a ha => by
    k_extra "g1"
    obtain ⟨p, hp, rfl⟩ := List.mem_map.mp (appE_adr (il := #[]) (k := k) (ec := σ.ec) (nc := σ.nc) (ep := σ.ep) (np := σ.np) (wv := refs (wadr σ.ws)) (nw := σ.nwl) ▸ ha)
    k_extra "g2"
    exact Nat.le_of_lt (hlt p hp)⟩
  k_extra "g1"
  obtain ⟨gLo, gLl, gLf, gT⟩ := app_base Ld nd kg
  k_extra "g2"
  simp only [appE] at N
  simp only [appA] at hB
  have h3a := ok.ale
  have h3l := ok.lim
  k_extra "g1"
  obtain ⟨kC, fC, tC, dC, hkC, aC1, aC2, aC3, aC4, aC5, aC6⟩ := ok.dC
  k_extra "g2"
  k_extra "g1"
  obtain ⟨kS, fS, dS, hkS, aS1, aS2⟩ := ok.dS
  k_extra "g2"
  have aCw : fC (Str.ofString "owed") = some (.ref lo) := Option.some.inj ((dC.1 _).symm.trans howed)
  k_extra "g1"
  obtain ⟨fnH, fnP, fnT, fnW, fnC, fnN⟩ := ok.fns
  k_extra "g2"
  have bT : BGive _ _ _ _ _ _ _ := ok.bT
  have bN : BNext _ _ _ _ _ _ _ _ _ _ _ := ok.bN
  have e1 : (wadr ow).length ≤ 3 := by simpa [wadr] using how
  have e3 : (List.replicate σ.lims σ.lf).length ≤ 1 := by simpa using h3l
  have tg0 : Tg 0 g := tg
  have tg1 : Tg 1 L := tg
  k_extra "cl"
  (have q9 : Tg 0 ?g_1 := (by with_reducible assumption); clear q9)
  (have q9 : Tg 1 ?L_1 := (by with_reducible assumption); clear q9)
  clear tg0 tg1
  refine wpN_execs_cons (wpN_of_any ?_)
  k_extra "WW"
  refine wpN_execs_cons (wpN_Assign_Tuple (Call_N (wpN_of_any ?_)))
  k_extra "WW"
  refine callWith_NK (K := mkK.heap_1 w.params) (by k_is) (args_cons_N (wpN_of_any ?_))
  k_extra "WW"
  refine args_cons_N (wpN_of_any ?_)
  k_extra "WW"
  rename Fr _ _ _ _ => F5
  rename News _ _ _ _ => N5
  rename Bel _ _ => B5
  have tg0 : Tg 0 D := tg
  have tg1 : Tg 1 D2 := tg
  have tg2 : Tg 2 wsP := tg
  have tg3 : Tg 3 loP := tg
  have tg4 : Tg 4 kP := tg
  have tg5 : Tg 5 ecP := tg
  have tg6 : Tg 6 ncP := tg
  have tg7 : Tg 7 epP := tg
  have tg8 : Tg 8 npP := tg
  have tg9 : Tg 9 crP := tg
  have tg10 : Tg 10 tC' := tg
  k_extra "cl"
  (have q9 : Tg 0 ?D_2 := (by with_reducible assumption); clear q9)
  (have q9 : Tg 1 ?D2_2 := (by with_reducible assumption); clear q9)
  (have q9 : Tg 2 ?wsP_2 := (by with_reducible assumption); clear q9)
  (have q9 : Tg 3 ?loP_2 := (by with_reducible assumption); clear q9)
  (have q9 : Tg 4 ?kP_2 := (by with_reducible assumption); clear q9)
  (have q9 : Tg 5 ?ecP_2 := (by with_reducible assumption); clear q9)
  (have q9 : Tg 6 ?ncP_2 := (by with_reducible assumption); clear q9)
  (have q9 : Tg 7 ?epP_2 := (by with_reducible assumption); clear q9)
  (have q9 : Tg 8 ?npP_2 := (by with_reducible assumption); clear q9)
  (have q9 : Tg 9 ?crP_2 := (by with_reducible assumption); clear q9)
  (have q9 : Tg 10 ?tCp_2 := (by with_reducible assumption); clear q9)
  clear tg0 tg1 tg2 tg3 tg4 tg5 tg6 tg7 tg8 tg9 tg10
  have inC : ∀ p ∈ ?crP_2, _ := fun p hp => (N5 p (by (repeat (first | exact hp | refine List.Mem.tail _ ?_)))).1
  have hof : ∀ f ∈ offer σ ow ?wsP_2, f.2.ok ∧ f.2.plain = true ∧ FrAt _ f.1 f.2 := offer_ok hox (fun f hf => F5.keep _ _ (gT (f.1, f.2.1) (List.mem_append_right _ (List.mem_append_right _ (List.mem_map_of_mem hf))))) PP.wsO (resp_ok ok.aok PP.wsF) (fun f hf => inC (f.1, f.2.1) (PP.ews _ (List.mem_map_of_mem hf))) (F5.keep _ _ gLf) ok.lfo
  have hol := offer_len (σ := σ) how e2 h3l
  refine args_nil_N ⟨X.keeps F5.keep, ?_⟩
  refine filled_N (fs := offer σ ow ?wsP_2) (X.keeps F5.keep) (T.keeps F5.keep) (by (show dp + 1 + 90 < recursionLimit); k_extra "rm") (by (show un + 3 + 800 < cLine); k_extra "rm") (by rw [offer_adr]; exact ⟨_, (N5 _ (.head _)).1, rfl, _, rfl⟩) (by lia) hof (by lia) fun r ta la h6 tk6 nta nla k6 gr gta gla nnt nnl nnr l1 l2 => ?_
  k_extra "g1"
  obtain ⟨F6, N6, B6⟩ := three F5 (news_drop (news_drop N5)) (bel_drop (bel_drop B5)) k6 gr gta gla nnt nnl nnr l1 l2
  k_extra "g2"
  simp only [List.map_cons] at B6
  clear F5 N5 B5 inC hof
  rw [fillAll_F] at N6
  dsimp only at N6
  k_extra "WW"
  rename_i h7 ecF ncF F7 dC7 N7
  have X2 := X.keeps F7.keep
  have T2 := T.keeps F7.keep
  have inC : ∀ p ∈ ?crP_2, _ := fun p hp => (N7 p (by (repeat (first | exact hp | refine List.Mem.tail _ ?_)))).1
  have hof : ∀ f ∈ offer σ ow ?wsP_2, f.2.ok ∧ f.2.plain = true ∧ FrAt _ f.1 f.2 := offer_ok hox (fun f hf => F7.keep _ _ (gT (f.1, f.2.1) (List.mem_append_right _ (List.mem_append_right _ (List.mem_map_of_mem hf))))) PP.wsO (resp_ok ok.aok PP.wsF) (fun f hf => inC (f.1, f.2.1) (PP.ews _ (List.mem_map_of_mem hf))) (F7.keep _ _ gLf) ok.lfo
  have hlT := fill_len2 (offer σ ow ?wsP_2) room
  have hFr := fill_room (fun f hf => (hof f hf).1) hroom.1
  have hsum := fill_sum (offer σ ow ?wsP_2) room
  generalize hT0 : (fillF (offer σ ow ?wsP_2) room).1 = T0 at *
  generalize hL0 : (fillF (offer σ ow ?wsP_2) room).2.1 = L0 at *
  generalize hR0 : (fillF (offer σ ow ?wsP_2) room).2.2 = r0 at *
  have hfT : ∀ f ∈ T0, f.2.ok ∧ FrAt _ f.1 f.2 := fun f hf => ⟨(hof f (fill_mem1 (hT0 ▸ hf))).1, (hof f (fill_mem1 (hT0 ▸ hf))).2.2⟩
  have tg0 : Tg 0 r := tg
  have tg1 : Tg 1 ta := tg
  have tg2 : Tg 2 la := tg
  have tg3 : Tg 3 nta := tg
  have tg4 : Tg 4 nla := tg
  have tg5 : Tg 5 ecF := tg
  have tg6 : Tg 6 ncF := tg
  have tg7 : Tg 7 T0 := tg
  have tg8 : Tg 8 L0 := tg
  have tg9 : Tg 9 r0 := tg
  k_extra "cl"
  (have q9 : Tg 0 ?r_3 := (by with_reducible assumption); clear q9)
  (have q9 : Tg 1 ?ta_3 := (by with_reducible assumption); clear q9)
  (have q9 : Tg 2 ?la_3 := (by with_reducible assumption); clear q9)
  (have q9 : Tg 3 ?nta_3 := (by with_reducible assumption); clear q9)
  (have q9 : Tg 4 ?nla_3 := (by with_reducible assumption); clear q9)
  (have q9 : Tg 5 ?ecF_3 := (by with_reducible assumption); clear q9)
  (have q9 : Tg 6 ?ncF_3 := (by with_reducible assumption); clear q9)
  (have q9 : Tg 7 ?T0_3 := (by with_reducible assumption); clear q9)
  (have q9 : Tg 8 ?L0_3 := (by with_reducible assumption); clear q9)
  (have q9 : Tg 9 ?r0_3 := (by with_reducible assumption); clear q9)
  clear tg0 tg1 tg2 tg3 tg4 tg5 tg6 tg7 tg8 tg9
  refine wpN_execs_cons (wpN_AugAssign_Name (wpN_of_any ?_))
  k_extra "WW"
  refine Call_N (wpN_of_any ?_)
  k_extra "WW"
  refine callWith_NB (args_cons_N (ListComp_N (fun v y => ∃ f ∈ ?T0_3, v = Value.ref f.1 ∧ ∃ t, y = .int f.2.sz t) rfl (by decide) (by decide) rfl (by decide) rfl (wpN_of_any ?_)))
  k_extra "WW"
  refine ⟨?ta_3, refs ((?T0_3).map (·.1)), rfl, ⟨_, N7.get (by k_mem), rfl, _, rfl⟩, by rw [sizeLine_eq]; simp [refs]; lia, ?_, ?_⟩
  · intro C v s₂ m₂ hv hC hns hm hst hk
    have zx : ∃ f ∈ ?T0_3, v = Value.ref f.1 := by
      simp only [refs, List.mem_toArray, List.mem_map] at hv
      obtain ⟨a, ⟨f, hf, rfl⟩, rfl⟩ := hv
      exact ⟨f, hf, rfl⟩
    k_extra "g1"
    obtain ⟨f, hf, rfl⟩ := zx
    k_extra "g2"
    k_extra "g1"
    obtain ⟨h2, t2, rfl⟩ := hst
    k_extra "g2"
    have F₂ : Fr _ C h2 m₂ := ⟨hns, hk, hC⟩
    have N₂ := fr_nil F₂
    obtain ⟨hfok, hfat⟩ := hfT f hf
    clear F7 N7
    refine Call_N (wpN_of_any ?_)
    k_extra "WW"
    refine callWith_NK (K := mkK.heap_1 w.params) (by k_is) (args_cons_N (wpN_of_any ?_))
    k_extra "WW"
    rename Fr _ _ _ _ => F₂
    refine args_nil_N ⟨X2.keeps F₂.keep, ?_⟩
    refine frame_size_N (X2.keeps F₂.keep) (T2.keeps F₂.keep) (by (show dp + 1 + 70 < recursionLimit); k_extra "rm") (by (show un + 3 + 600 < cLine); k_extra "rm") hfok (hfat.keeps F₂.keep) fun tk h' tk' k => ?_
    exact ⟨⟨f, hf, rfl, tk, rfl⟩, h', tk', rfl, k⟩
  · intro D8 h8 tk8 ys hD8 hys hp8 hk8
    refine args_nil_N ?_
    dsimp only [List.nil_append, List.cons_append]
    refine wpN_of_any ?_
    have F8 := fr_keep F7 hk8
    have N8 := news_keep N7 hk8
    have hi8 : IntsAre ys.toList ((?T0_3).map fun f => f.2.sz) := sizes_are (fun f hf => (hfT f hf).2) (fun f hf => (hfT f hf).2) (by simpa [refs, Function.comp_def] using hp8)
    clear F7 N7 inC hof hfT X2 T2 hk8
    refine sumK rfl F8 N8 (vs := ys.toList) (by simpa using hys) hi8 fun h9 tk9 t9 F9 N9 => ?_
    clear F8 N8
    refine wpN_of_any ?_
    k_extra "WW"
    refine wpN_of_any ?_
    k_extra "WW"
    rename Fr _ _ _ _ => F9
    rename News _ _ _ _ => N9
    rw [show room - ((?T0_3).map fun f => f.2.sz).sum = ?r0_3 from hsum] at F9
    have hlo1 := lo_len PP
    have hzL : (refs ((?loP_2).map (·.1))).size ≤ 100 := by simp [refs]; lia
    have hws : ∀ x ∈ σ.ws, FrO x.2.1 x.2.2 ∧ x.2.2.ok ∧ (?g_1).get? x.1 = some x.2.1 := fun x hx => ⟨(ok.wok x hx).1, (ok.wok x hx).2, gT (x.1, x.2.1) (List.mem_append_right _ (List.mem_append_left _ (List.mem_map_of_mem hx)))⟩
    have hw3 := ok.wle
    have hne9 : @Ne Nat lg σ.wl := fun e => by
      have q := (List.nodup_cons.mp (app_nd nd)).1
      exact q (by rw [e]; exact .tail _ (.tail _ (.head _)))
    refine wpN_execs_cons (wpN_of_any ?_)
    k_extra "WW"
    rename Fr _ _ _ _ => F10
    rename News _ _ _ _ => N10
    rename Bel _ _ => B10
    rw [refs_lg _ _ no (.room ?r0_3)] at N10
    obtain ⟨N11, B11⟩ := mid (E := loopE σ lg ?r_3 ?la_3 ?ta_3 _ _ ?T0_3 ?nta_3 (?loP_2 ++ [(na, no, .room ?r0_3)]) nk ?ecF_3 ?ncF_3 ?epP_2 ?npP_2 (nxR σ.ws ?r0_3) nnw) (tl := ?crP_2) N10 B10
    obtain ⟨lo2, F11⟩ : ∃ lo2, Fr ?g_1 ?L_1 _ (loopM ?ta_3 lo2 σ.conn room t1 t7 ?r0_3 _ (nxV σ.ws ?r0_3)) := ⟨_, F10⟩
    clear F10 N10 B10
    refine wpN_execs_cons (wpN_While ?_)
    refine codeN_whileLoop (fun n s' => ∃ h' tk' cur rr tr TT n1 lgs k1 nw tl, s' = { s with heap := h', toks := tk' } ∧ Fr ?g_1 ?L_1 h' (loopM ?ta_3 lo2 σ.conn room t1 t7 rr tr (nxV cur rr)) ∧ News ?g_1 ?L_1 h' (loopE σ lg ?r_3 ?la_3 ?ta_3 _ _ TT n1 lgs k1 ?ecF_3 ?ncF_3 ?epP_2 ?npP_2 (nxR cur rr) nw ++ tl) ∧ (∃ c, Bel ((loopE σ lg ?r_3 ?la_3 ?ta_3 { cls := .type "tuple", data := .seq #[.ref ?ta_3, .ref ?la_3] } (W.listOf (refs ((?L0_3).map (·.1))) ?nla_3) TT n1 lgs k1 ?ecF_3 ?ncF_3 ?epP_2 ?npP_2 (nxR cur rr) nw ++ tl).map (·.1)) c) ∧ n = cur.length ∧ (∀ x ∈ cur, x ∈ σ.ws) ∧ cur.length ≤ 3 ∧ 0 ≤ rr ∧ rr ≤ 60 ∧ TT ++ drT (cur.map pf) rr = ?T0_3 ++ drT (σ.ws.map pf) ?r0_3 ∧ lgs.map (·.2.2) ++ ((drR (cur.map pf) rr).drop 1).map Lg.room = (?loP_2).map (·.2.2) ++ (drR (σ.ws.map pf) ?r0_3).map Lg.room ∧ TT.length + cur.length ≤ 15 ∧ lgs.length + cur.length ≤ 10 ∧ (∀ f ∈ lgs, (f.1, f.2.1) ∈ tl ∧ LgO f.2.1 f.2.2) ∧ ∀ p ∈ ?crP_2, p ∈ tl) ?_ σ.ws.length
      ⟨_, _, σ.ws, ?r0_3, _, ?T0_3, ?nta_3, ?loP_2 ++ [(na, no, .room ?r0_3)], nk, nnw, (na, no) :: ?crP_2, rfl, F11, N11, ⟨_, B11⟩, rfl, fun x hx => hx, hw3, hFr.1, by lia, rfl, ?_, by lia, by simp; lia, ?_, fun p hp => .tail _ hp⟩
    · clear F11 N11 B11
      rintro n s' zx
      k_extra "g1"
      obtain ⟨h1, tk1, cur, rr, tr, TT, n1, lgs, k1, nw, tl, rfl, F, N, ⟨cB, B⟩, rfl, hcur, hc3, hr0, hr1, hTT, hLL, hTl, hLl, hlg, hcr⟩ := zx
      k_extra "g2"
      have hzT := szR (TT.map (·.1)) 15 (by simp; lia) (by lia)
      have hzL2 : (refs (lgs.map (·.1))).size ≤ 100 := by simp [refs]; lia
      by_cases hv : nxV cur rr = .none
      · rw [hv] at F
        obtain ⟨q1, q2⟩ := nx_none hv
        rw [q1, List.append_nil] at hTT
        rw [q2] at hLL
        refine wpN_of_any ?_
        k_extra "WW"
        refine wpN_execs_cons (wpN_of_any ?_)
        k_extra "WW"
        rename Fr _ _ _ _ => F12
        have N12 : News ?g_1 ?L_1 _ _ := N
        have inT : ∀ p ∈ tl, _ := fun p hp => (N12 p (List.mem_append_right _ hp)).1
        obtain ⟨nD2, eD2⟩ := PP.eD2
        have hin : ∀ a o, (a, o) ∈ loopE σ lg ?r_3 ?la_3 ?ta_3 { cls := .type "tuple", data := .seq #[.ref ?ta_3, .ref ?la_3] } (W.listOf (refs ((?L0_3).map (·.1))) ?nla_3) TT n1 lgs k1 ?ecF_3 ?ncF_3 ?epP_2 ?npP_2 (nxR cur rr) nw → _ := fun a o hm => (N12 (a, o) (List.mem_append_left _ hm)).1
        refine hQ ?ta_3 ?la_3 ?D2_2 ?wsP_2 lgs n1 ?nla_3 k1 ?ncF_3 ?npP_2 nD2 ?ecF_3 ?epP_2 _ _ ⟨PP.wsF, fun f hf => ?_, ?_, ?_, ?_, ⟨_, _, ?tCp_2, dC7, rfl, ?_, ?_⟩, ?_, PP.dP, inT _ (hcr _ eD2), hD2n, ?_, ?_, fun f hf => ⟨inT _ (hlg f hf).1, (hlg f hf).2⟩, app_kp Ld0 kg F12 N12⟩
        · exact (offer_ok hox (fun f hf => F12.keep _ _ (gT (f.1, f.2.1) (List.mem_append_right _ (List.mem_append_right _ (List.mem_map_of_mem hf))))) PP.wsO (resp_ok ok.aok PP.wsF) (fun f hf => inT (f.1, f.2.1) (hcr _ (PP.ews _ (List.mem_map_of_mem hf)))) (F12.keep _ _ gLf) ok.lfo f hf).2.2
        · rw [hT0, hR0, ← hTT]; exact hin _ _ (.tail _ (.tail _ (.head _)))
        · rw [hL0]; exact hin _ _ (.tail _ (.head _))
        · exact hin _ _ (.tail _ (.tail _ (.tail _ (.tail _ (.head _)))))
        · exact aCh
        · exact da_same dC aCo aC1 (by decide) (by decide)
        · exact hin _ _ (.tail _ (.tail _ (.tail _ (.tail _ (.tail _ (.head _))))))
        · exact hin _ _ (.tail _ (.tail _ (.tail _ (.head _))))
        · rw [hR0, ← PP.lo2, ← hLL]; simp
      · k_extra "g1"
        obtain ⟨x, t, rfl, hsz, q1, q2, q3, q4⟩ := nx_some hv
        k_extra "g2"
        rw [q1] at F
        rw [q2] at N B
        rw [q3] at hTT
        rw [q4] at hLL
        simp only [loopE, List.cons_append, List.nil_append, List.map_cons] at N B
        simp only [List.length_cons] at hc3 hTl hLl
        have hwt : ∀ x ∈ t, FrO x.2.1 x.2.2 ∧ x.2.2.ok ∧ (?g_1).get? x.1 = some x.2.1 := fun y hy => hws y (hcur y (.tail _ hy))
        have hwt3 : t.length ≤ 3 := by lia
        k_extra "g1"
        obtain ⟨hx1, hx2, hx3⟩ := hws x (hcur x (.head _))
        k_extra "g2"
        have hxs := Fd.sz_pos hx2
        have tg0 : Tg 0 x := tg
        have tg1 : Tg 1 t := tg
        have tg2 : Tg 2 rr := tg
        have tg3 : Tg 3 TT := tg
        have tg4 : Tg 4 n1 := tg
        have tg5 : Tg 5 lgs := tg
        have tg6 : Tg 6 k1 := tg
        have tg7 : Tg 7 nw := tg
        have tg8 : Tg 8 tl := tg
        k_extra "cl"
        (have q9 : Tg 0 ?x_4 := (by with_reducible assumption); clear q9)
        (have q9 : Tg 1 ?t_4 := (by with_reducible assumption); clear q9)
        (have q9 : Tg 2 ?rr_4 := (by with_reducible assumption); clear q9)
        (have q9 : Tg 3 ?TT_4 := (by with_reducible assumption); clear q9)
        (have q9 : Tg 4 ?n1_4 := (by with_reducible assumption); clear q9)
        (have q9 : Tg 5 ?lgs_4 := (by with_reducible assumption); clear q9)
        (have q9 : Tg 6 ?k1_4 := (by with_reducible assumption); clear q9)
        (have q9 : Tg 7 ?nw_4 := (by with_reducible assumption); clear q9)
        (have q9 : Tg 8 ?tl_4 := (by with_reducible assumption); clear q9)
        clear tg0 tg1 tg2 tg3 tg4 tg5 tg6 tg7 tg8
        refine wpN_of_any ?_
        k_extra "WW"
        refine wpN_execs_cons (wpN_of_any ?_)
        k_extra "WW"
        refine wpN_execs_cons (wpN_AugAssign_Name (wpN_of_any ?_))
        k_extra "WW"
        refine Call_N (wpN_of_any ?_)
        k_extra "WW"
        refine callWith_NK (K := mkK.heap_1 w.params) (by k_is) (args_cons_N (wpN_of_any ?_))
        k_extra "WW"
        rename Fr _ _ _ _ => F
        rename News _ _ _ _ => N
        refine args_nil_N ⟨X.keeps F.keep, ?_⟩
        refine frame_size_N (X.keeps F.keep) (T.keeps F.keep) (by (show dp + 1 + 70 < recursionLimit); k_extra "rm") (by (show un + 3 + 600 < cLine); k_extra "rm") hx2 (frO_at (F.keep _ _ hx3) hx1) fun tk4 h4 tk5 k4 => ?_
        have F4 := fr_keep F k4
        have N4 := news_keep N k4
        clear F N
        refine wpN_of_any ?_
        k_extra "WW"
        refine wpN_of_any ?_
        k_extra "WW"
        refine wpN_execs_cons (wpN_of_any ?_)
        k_extra "WW"
        rename Fr _ _ _ _ => F5
        rename News _ _ _ _ => N5
        rename Bel _ _ => B5
        rw [refs_lg _ _ no (.room (?rr_4 - (?x_4).2.2.sz)), refs_pf] at N5
        rw [loopM_turn] at F5
        obtain ⟨N6, B6⟩ := mid (E := loopE σ lg ?r_3 ?la_3 ?ta_3 _ _ (?TT_4 ++ [pf ?x_4]) _ (?lgs_4 ++ [(na, no, .room (?rr_4 - (?x_4).2.2.sz))]) nk ?ecF_3 ?ncF_3 ?epP_2 ?npP_2 (nxR ?t_4 (?rr_4 - (?x_4).2.2.sz)) nnw) (tl := ?tl_4) N5 B5
        refine wpN_execs_nil ⟨(?t_4).length, by simp, _, _, ?t_4, ?rr_4 - (?x_4).2.2.sz, _, ?TT_4 ++ [pf ?x_4], _, ?lgs_4 ++ [(na, no, .room (?rr_4 - (?x_4).2.2.sz))], nk, nnw, (na, no) :: ?tl_4, rfl, F5, N6, ⟨_, B6⟩, rfl, fun y hy => hcur y (.tail _ hy), hwt3, by lia, by lia, ?_, ?_, by simp; lia, by simp; lia, ?_, fun p hp => .tail _ (hcr p hp)⟩
        · rw [← hTT]; simp
        · rw [← hLL]
          conv => rhs; rw [drR_head ((?t_4).map pf) (?rr_4 - (?x_4).2.2.sz)]
          simp
        · intro f hf
          rcases List.mem_append.mp hf with hf | hf
          · exact ⟨.tail _ (hlg f hf).1, (hlg f hf).2⟩
          · rw [List.mem_singleton.mp hf]; exact ⟨.head _, room_lg hNR⟩
    · conv => rhs; rw [drR_head (σ.ws.map pf) ?r0_3]
      simp
    · intro f hf
      rcases List.mem_append.mp hf with hf | hf
      · exact ⟨.tail _ (PP.elo f hf).1, (PP.elo f hf).2⟩
      · rw [List.mem_singleton.mp hf]; exact ⟨.head _, room_lg hNR⟩
end app_N
theorem app_N {w : World} {dp : Nat} {un : Nat} {fr : Option (List Env)} {gd : Option (List Code)} {s : Shared} {p : Program} {loose : List Str} {mean : ExcName → Option Value} {mg : Str → Option Value} {mb : Str → Option Value} {E : Value → Shared → Prop} {Q : Value → Shared → Prop} {h₀ : Heap} {σ : SA} {compl : Bool} {lg : Addr} {lo : Addr} {k : Nat} {nlo : Nat} {ow : List Wf} {room : Int} {t1 : Tok} {t7 : Tok} : app_N.St0 w dp un fr gd s p loose mean mg mb E Q h₀ σ compl lg lo k nlo ow room t1 t7 :=
  @ata_spec _ app_N.ne0 0 app_N.P0 (by with_unfolding_all exact app_N.prf0) (w, dp, un, fr, gd, s, p, loose, mean, mg, mb, E, Q, h₀, σ, compl, lg, lo, k, nlo, ow, room, t1, t7)
end
end
noncomputable section
open PyProof.Rows.LCg
section
variable {M : Model} {A : Around} {E : Value → Shared → Prop} {s : Shared} {env : Env}
theorem kw_78 : True := by
  k_with_none
  k_with "g1" => refine by_goal fun zG zh => ?_
  k_with "g2" => (refine zh ?_; clear zh zG)
  trivial
theorem wpN_Tuple {elts : List Expr} {k : Nat} {pos : Pos} {Q : Value → Shared → Prop} (h : wpN M A (spliced (backTo pos (starEach elts env))) (fun vs s₁ => wpAny M A (newTuple vs) Q E s₁) E s) : wpN M A (eval (.Tuple elts k pos) env) Q E s := by
  rw [arm_eval_Tuple]
  exact wpN_bind (wpN_standAt (wpN_bind (wpN_mono h (fun vs s₁ h₁ => wpN_of_any h₁) fun _ _ x => x)))
theorem wpN_isTrue_Or {x : Expr} {rest : List Expr} {pos : Pos} {whole : Sem Value} {Q : Bool → Shared → Prop}
    (h : wpN M A (isTrue x env (eval x env)) (fun b s₁ => if b = true then Q true s₁ else wpN M A (allTrue .Or rest env) Q E s₁) E s) : wpN M A (isTrue (.BoolOp .Or (x :: rest) pos) env whole) Q E s := by
  rw [arm_isTrue_BoolOp]
  rw [arm_allTrue_cons]
  refine wpN_bind (wpN_mono h (fun b s₁ h₁ => ?_) fun _ _ e => e)
  cases b with
  | true => exact wpN_pure h₁
  | false => exact h₁
end
section
variable {w : World} {dp un : Nat} {fr : Option (List Env)} {gd : Option (List Code)} {s : Shared} {p : Program} {loose : List Str} {mean : ExcName → Option Value} {mg mb : Str → Option Value} {E : Value → Shared → Prop} {Q : Value → Shared → Prop} {h₀ : Heap}
   {L : Addr} {m : Str → Option Value} {news : List (Addr × Obj)} {bx bl : Addr} {k mm : Int} {t u : Tok} {n : Nat} {vs : List Value} {ns : List Int}
theorem take_L (F : Fr h₀ L s.heap m) (N : News h₀ L s.heap news) (X : (mkK.heap_1 w.params).In h₀) (T : Top p loose mean mg mb h₀) (hbl : s.heap.IsList bl vs.toArray) (hne : @Ne Nat bl bx) (hi : IntsAre vs ns) (hlen : vs.length ≤ 1048576) (hd : dp + 10 < recursionLimit) (hu : un + 100 < cLine)
   (hm : (bx, W.listOf #[.ref bl, .int k t] n) ∈ news) (hk : 0 ≤ k ∧ k ≤ 100000) (hmm : 0 < mm ∧ mm ≤ 100)
   (hQ : ∀ v tk h' tk' t' n', 0 ≤ v → v < mm → Fr h₀ L h' m → (∀ news', Upd bx (W.listOf #[.ref bl, .int k t] n) (W.listOf #[.ref bl, .int (k + 1) t'] n') news news' → News h₀ L h' news') → Q (.int v tk) { s with heap := h', toks := tk' }) :
   wpAny (model Challenge.pw_pf0272_01 w) (Ak dp un fr gd) (call (.ref 330) [.ref bx, .int mm u]) Q E s :=
  take_A F.keep X T hd hu (led_one N hm) hbl hne hi hlen hk hmm fun v tk h' tk' t' n' h1 h2 h3 h4 =>
    hQ v tk h' tk' t' n' h1 h2 (fr_upd F N hm h3) fun news' U => news_upd N h3 h4 U
theorem frame_U (F : Fr h₀ L s.heap m) (N : News h₀ L s.heap news) (X : (mkK.heap_1 w.params).In h₀) (T : Top p loose mean mg mb h₀) (hbl : s.heap.IsList bl vs.toArray) (hne : @Ne Nat bl bx) (hi : IntsAre vs ns) (hlen : vs.length ≤ 1048576) (hd : dp + 40 < recursionLimit) (hu : un + 300 < cLine)
   (hm : (bx, W.listOf #[.ref bl, .int k t] n) ∈ news) (hk : 0 ≤ k ∧ k ≤ 90000)
   (hQ : ∀ v d o h' tk' k' t' n', d.ok → d.plain = true → 0 ≤ k' → k' ≤ k + 4 → FrO o d → Fr h₀ L h' m → (∀ news', Upd bx (W.listOf #[.ref bl, .int k t] n) (W.listOf #[.ref bl, .int k' t'] n') news news' → News h₀ L h' ((v, o) :: news')) → (∀ q ∈ news, @Ne Nat q.1 v) → Q (.ref v) { s with heap := h', toks := tk' }) :
   wpAny (model Challenge.pw_pf0272_01 w) (Ak dp un fr gd) (call (.ref 347) [.ref bx]) Q E s :=
  frame_A F.keep X T hd hu (led_one N hm) hbl hne hi hlen hk fun v d o h' tk' k' t' n' h1 h2 h3 h4 h5 h6 h7 h8 h9 =>
    hQ v d o h' tk' k' t' n' h1 h2 h3 h4 h9 (fr_upd F N hm h5) (fun news' U q hq => by
      rcases List.mem_cons.mp hq with rfl | hq
      · refine ⟨h8, fun e => ?_, ?_⟩
        · k_extra "g1"
          obtain ⟨oL, _, _, hL, _⟩ := F.ns
          k_extra "g2"
          have e : v = L := e
          rw [e, hL] at h7; cases h7
        · cases q : h₀.get? v with
          | none => rfl
          | some o' => rw [F.keep _ _ q] at h7; cases h7
      · exact news_upd N h5 h6 U q hq) fun q hq e => by
        have e1 : q.1 = v := e
        have := (N q hq).1
        rw [e1, h7] at this; cases this
end
end
noncomputable section
open PyProof.Rows.LCg
theorem kw_79 : True := by
  k_with_none
  k_with "g1" => refine by_goal fun zG zh => ?_
  k_with "g2" => (refine zh ?_; clear zh zG)
  trivial
noncomputable def lwBody : List Stmt := match (Challenge.pw_pf0272_01.main.body[65]? : Option Stmt) with
  | some (.FunctionDef _ _ b _ _ _ _ _ _ _) => b
  | _ => []
noncomputable def lwScope : Scope := match (Challenge.pw_pf0272_01.main.body[65]? : Option Stmt) with
  | some (.FunctionDef _ _ _ _ _ _ sc _ _ _) => sc
  | _ => default
noncomputable def lk (l : List (Str × Value)) : Str → Option Value := fun y => List.lookup y l
theorem lk_cons (a : Str) (v : Value) (l : List (Str × Value)) : (fun y => if y = a then some v else lk l y) = lk ((a, v) :: l) := by
  funext y
  unfold lk
  rw [List.lookup_cons]
  by_cases h : y = a
  · subst h; simp
  · rw [if_neg h]
    have : (y == a) = false := by simpa using h
    rw [this]
noncomputable def LDone (g : Heap) (s : Shared) (Q : Flow → Shared → Prop) : Prop := ∀ h' tk' ps, (∀ b o, g.get? b = some o → h'.get? b = some o) → h'.get? 349 = some (tabObj ps) → Q (.ret (.bool true)) { s with heap := h', toks := tk' }
noncomputable def lwEnv (L : Addr) : Env := envOfC (Str.ofString "law") lwScope L 357 (.ref 356)
structure LawC (w : World) (σ : SA) (compl : Bool) (lg : Addr) (ow : List Wf) : Prop where
  ok : σ.Ok compl w lg 30
  hox : ∀ f ∈ ow, FrO f.2.1 f.2.2 ∧ f.2.2.ok ∧ f.2.2.plain = true
  how : ow.length ≤ 3
  nd : (lg :: (σ.led ++ (entA σ.as ++ (ents σ.ws ++ ents ow))).map (·.1)).Nodup
noncomputable def stE (σ : SA) (ec : List DictEntry) (nc : Nat) : List (Addr × Obj) :=
  [(σ.conn, instObj 319 σ.dconn), (σ.dconn, dictOf ec nc), (σ.paths, instObj 319 σ.dpaths), (σ.dpaths, dictOf σ.ep σ.np), (σ.shk, instObj 319 σ.dshk), (σ.dshk, dictOf σ.eh σ.nh), (σ.al, W.listOf (refs (aadr σ.as)) σ.nal), (σ.l1, W.listOf (refs (wadr σ.ws)) σ.n1), (σ.l2, W.listOf (List.replicate σ.lims (Value.ref σ.lf)).toArray σ.n2), (σ.wl, W.listOf (refs (wadr σ.ws)) σ.nwl)]
noncomputable def stZ (σ : SA) : List (Addr × Obj) :=
  [(σ.fh, σ.ofh), (σ.ch, σ.och), (σ.fp, σ.ofp), (σ.cp, σ.ocp), (σ.ft, σ.oft), (σ.ct, σ.oct), (σ.fn, σ.ofn), (σ.cn, σ.ocn), (σ.ll, W.listOf (List.replicate σ.lims (Value.ref σ.lf)).toArray σ.nl), (σ.lf, σ.olf), (σ.fw, σ.ofw), (σ.cw, σ.ocw), (σ.fc, σ.ofc), (σ.cc, σ.occ),
   (σ.str, instObj 319 σ.dstr), (σ.dstr, dictOf σ.es σ.ns), (σ.trd, instObj 319 σ.dtrd), (σ.dtrd, dictOf σ.et σ.nt), (σ.act, instObj 319 σ.dact), (σ.dact, dictOf σ.ea σ.na), (σ.cWants, σ.oWants), (σ.cWait, σ.oWait), (σ.cTried, σ.oTried), (σ.cLim, σ.oLim), (σ.cLog, σ.oLog)]
theorem st_mem {σ : SA} {ec : List DictEntry} {nc : Nat} {p : Addr × Obj} (hp : p ∈ (σ.put σ.ep σ.np ec nc).led) : p ∈ stE σ ec nc ∨ p ∈ stZ σ :=
  List.mem_append.mp (sub_ix [8, 7, 10, 11, 12, 13, 14, 15, 16, 17, 18, 19, 20, 21, 6, 22, 23, 9, 4, 5, 24, 25, 26, 27, 28, 29, 2, 3, 0, 1, 30, 31, 32, 33, 34] rfl p hp)
theorem put_ok {w : World} {σ : SA} {compl : Bool} {lg lo : Addr} {ec : List DictEntry} {nc : Nat} (ok : σ.Ok compl w lg 30) (hC : ∃ k f, DA ec k f ∧ k ≤ 31 ∧ f (Str.ofString "owed") = some (.ref lo) ∧ ∀ y, y ≠ Str.ofString "owed" → getL y σ.ec = some (f y)) : (σ.put σ.ep σ.np ec nc).Ok compl w lg 31 := by
  k_extra "g1"
  obtain ⟨k, f, D, hk, -, hf⟩ := hC
  k_extra "g2"
  k_extra "g1"
  obtain ⟨k0, f0, t, D0, -, a1, a2, a3, a4, a5, a6⟩ := ok.dC
  k_extra "g2"
  have tr : ∀ y v, y ≠ Str.ofString "owed" → f0 y = some v → f y = some v := fun y v h1 h2 => by
    have e := (D0.1 y).symm.trans (hf y h1)
    rw [← Option.some.inj e]; exact h2
  exact ⟨ok.dH, ok.dS, ok.dT, ok.dA, ok.dP, ⟨k, f, t, D, hk, tr _ _ (by decide) a1, tr _ _ (by decide) a2, tr _ _ (by decide) a3, tr _ _ (by decide) a4, tr _ _ (by decide) a5, tr _ _ (by decide) a6⟩, ok.bH, ok.bP, ok.bT, ok.bW, ok.bC, ok.bN, ok.fns, ok.lim, ok.lfo, ok.wok, ok.wst, ok.wle, ok.aok, ok.ale⟩
theorem upd_adr {a : Addr} {o o' : Obj} {E E' : List (Addr × Obj)} (U : Upd a o o' E E') : E'.map (·.1) = E.map (·.1) := by
  induction U with
  | head _ => rfl
  | tail _ _ ih => simp only [List.map_cons, ih]
theorem app_after {σ : SA} {compl : Bool} {lg : Addr} {room : Int} {ow : List Wf} {g h h' : Heap} {L Fa la D2 : Addr} {wsP : List Wf} {lgs : List (Addr × Obj × Lg)} {nF nla k1 ncF npF nD2 : Nat} {ecF epF : List DictEntry} {m : Str → Option Value} {E E1 E2 Ex Z : List (Addr × Obj)} {x : Addr × Obj} {o1 o2 o3 ox : Obj} {c : Nat}
    (P : AppPost σ compl lg room ow h h' Fa la D2 wsP lgs nF nla k1 ncF npF nD2 ecF epF) (F : Fr g L h m) (N : News g L h E) (B : Bel (E.map (·.1)) c) (hw : (σ.wl, ox) ∈ E) (U1 : Upd lg o1 (W.listOf (refs (lgs.map (·.1))) k1) E E1) (U2 : Upd σ.dconn o2 (dictOf ecF ncF) E1 E2) (U3 : Upd σ.dpaths o3 (dictOf epF npF) E2 (Ex ++ x :: Z)) (hx : x.1 = σ.wl) :
    Fr g L h' m ∧ News g L h' (Ex ++ Z) ∧ Bel ((Ex ++ Z).map (·.1)) h'.objs.size := by
  have a1 := upd_adr U1
  have a2 := upd_adr U2
  have a3 := upd_adr U3
  have m1 := upd_mem U1
  have in1 : ∀ {a : Addr}, a ∈ E.map (·.1) → a ≠ L ∧ g.get? a = none := fun ha => by
    k_extra "g1"
    obtain ⟨p, hp, rfl⟩ := List.mem_map.mp ha
    k_extra "g2"
    exact (N p hp).2
  have h1 : lg ∈ E.map (·.1) := List.mem_map_of_mem m1
  have h2 : σ.dconn ∈ E.map (·.1) := a1 ▸ List.mem_map_of_mem (upd_mem U2)
  have h3 : σ.dpaths ∈ E.map (·.1) := a1 ▸ a2 ▸ List.mem_map_of_mem (upd_mem U3)
  have h4 : σ.wl ∈ E.map (·.1) := List.mem_map_of_mem hw
  have nd : ((Ex ++ x :: Z).map (·.1)).Nodup := by rw [a3, a2, a1]; exact B.1
  have nd2 : (Ex.map (·.1) ++ x.1 :: Z.map (·.1)).Nodup := by simpa only [List.map_append, List.map_cons] using nd
  have N' : News g L h' (Ex ++ Z) := by
    intro p hp
    have hne : p.1 ≠ σ.wl := by
      rw [← hx]
      k_extra "g1"
      obtain ⟨b1, b2, b3⟩ := List.nodup_append.mp nd2
      k_extra "g2"
      rcases List.mem_append.mp hp with hp | hp
      · exact b3 _ (List.mem_map_of_mem hp) _ (.head _)
      · exact fun e => (List.nodup_cons.mp b2).1 (e ▸ List.mem_map_of_mem hp)
    have hp' : p ∈ Ex ++ x :: Z := by
      rcases List.mem_append.mp hp with hp | hp
      · exact List.mem_append_left _ hp
      · exact List.mem_append_right _ (.tail _ hp)
    rcases upd_or U3 p hp' with rfl | ⟨hp, q3⟩
    · exact ⟨P.gp, in1 h3⟩
    · rcases upd_or U2 p hp with rfl | ⟨hp, q2⟩
      · exact ⟨P.gc, in1 h2⟩
      · rcases upd_or U1 p hp with rfl | ⟨hp, q1⟩
        · exact ⟨P.gl, in1 h1⟩
        · exact ⟨P.kp _ _ q1 q2 q3 hne (N p hp).1, (N p hp).2⟩
  refine ⟨⟨?_, fun b o e => ?_, F.above⟩, N', ?_, fun a ha => ?_⟩
  · k_extra "g1"
    obtain ⟨oL, es, ep, hL, r⟩ := F.ns
    k_extra "g2"
    exact ⟨oL, es, ep, P.kp _ _ (Ne.symm (in1 h1).1) (Ne.symm (in1 h2).1) (Ne.symm (in1 h3).1) (Ne.symm (in1 h4).1) hL, r⟩
  · have ne : ∀ {a : Addr}, a ∈ E.map (·.1) → b ≠ a := fun ha q => by rw [q, (in1 ha).2] at e; cases e
    exact P.kp _ _ (ne h1) (ne h2) (ne h3) (ne h4) (F.keep b o e)
  · refine List.Sublist.nodup (List.Sublist.map _ ?_) nd
    exact List.Sublist.append_left (List.sublist_cons_self _ _) _
  · k_extra "g1"
    obtain ⟨p, hp, rfl⟩ := List.mem_map.mp ha
    k_extra "g2"
    exact Nat.le_of_lt (Heap.lt_size (N' p hp).1)
noncomputable def loffer (σ : SA) (evs : List Wf) : List Pf := evs.map pf ++ List.replicate σ.lims (σ.lf, Fd.maxd 70)
theorem loffer_same {σ : SA} {ow wsP evs : List Wf} {l : List Fd} (h1 : wsP.map (·.2.2) = l) (h2 : evs.map (·.2.2) = ow.map (·.2.2) ++ l) : (offer σ ow wsP).map (·.2) = (loffer σ evs).map (·.2) := by
  have e : ∀ ws : List Wf, (ws.map pf).map (·.2) = ws.map (·.2.2) := fun ws => by simp [pf]
  simp only [offer, loffer, List.map_append, e, h1, h2]
noncomputable def lawM (fo : Option Value) (wt tk lf ev dl an sc lg oL cn l2 : Addr) (room : Int) (t1 : Tok) (spare : Value) (wants : Bool) : Str → Option Value := fun y => if y = Str.ofString "frame" then fo else
  lk [(Str.ofString "spare", spare), (Str.ofString "left", .ref lf), (Str.ofString "taken", .ref tk), (Str.ofString "due_log", .ref dl), (Str.ofString "every", .ref ev), (Str.ofString "answers", .ref an), (Str.ofString "limits", .ref l2), (Str.ofString "wants", .bool wants), (Str.ofString "waiting", .ref wt), (Str.ofString "conn", .ref cn), (Str.ofString "room", .int room t1), (Str.ofString "owed", .ref oL), (Str.ofString "log", .ref lg), (Str.ofString "script", .ref sc)] y
noncomputable def lawE7 (σ : SA) (tk lf dl an lo lg : Addr) (TT LL : List Pf) (dls : List (Addr × Obj × Lg)) (ow : List Wf) (n1 n2 n3 n4 n5 nl : Nat) (il : Array Value) (ps : Array Value) (ec : List DictEntry) (nc : Nat) (ep : List DictEntry) (np : Nat) : List (Addr × Obj) :=
  [(tk, W.listOf (refs (TT.map (·.1))) n1), (lf, W.listOf (refs (LL.map (·.1))) n2), (dl, W.listOf (refs (dls.map (·.1))) n3), (an, W.listOf (refs (aadr σ.as)) n4), (lo, W.listOf (refs (wadr ow)) n5), (lg, W.listOf il nl), (349, tabObj ps),
   (σ.conn, instObj 319 σ.dconn), (σ.dconn, dictOf ec nc), (σ.paths, instObj 319 σ.dpaths), (σ.dpaths, dictOf ep np), (σ.shk, instObj 319 σ.dshk), (σ.dshk, dictOf σ.eh σ.nh), (σ.al, W.listOf (refs (aadr σ.as)) σ.nal), (σ.l1, W.listOf (refs (wadr σ.ws)) σ.n1), (σ.l2, W.listOf (List.replicate σ.lims (Value.ref σ.lf)).toArray σ.n2)]
noncomputable def lawW (σ : SA) : Addr × Obj := (σ.wl, W.listOf (refs (wadr σ.ws)) σ.nwl)
theorem law_all {σ : SA} {tk lf dl an lo lg : Addr} {TT LL : List Pf} {dls : List (Addr × Obj × Lg)} {ow : List Wf} {n1 n2 n3 n4 n5 nl : Nat} {ps : Array Value} {ec : List DictEntry} {nc : Nat} {Z : List (Addr × Obj)} (hZ : ∀ p ∈ stZ σ ++ (entA σ.as ++ (ents σ.ws ++ ents ow)), p ∈ Z) {p : Addr × Obj} (hp : p ∈ (lg, W.listOf #[] nl) :: ((σ.put σ.ep σ.np ec nc).led ++ (entA σ.as ++ (ents σ.ws ++ ents ow)))) :
    p ∈ (lawE7 σ tk lf dl an lo lg TT LL dls ow n1 n2 n3 n4 n5 nl #[] ps ec nc σ.ep σ.np).drop 5 ++ lawW σ :: Z := by
  rcases List.mem_cons.mp hp with rfl | hp
  · exact .head _
  rcases List.mem_append.mp hp with hp | hp
  · rcases st_mem hp with hp | hp
    · exact sub_ix [2, 3, 4, 5, 6, 7, 8, 9, 10, 11] rfl p hp
    · exact List.mem_append_right _ (.tail _ (hZ p (List.mem_append_left _ hp)))
  · exact List.mem_append_right _ (.tail _ (hZ p (List.mem_append_right _ hp)))
theorem pick_tail (a : Addr) (l : List Addr) : (slicePick (refs (a :: l)) (some 1) none none).toList = l.map Value.ref := by
  have e : sliceBounds (some 1) none none (refs (a :: l)).size = (((1 : Nat) : Int), ((l.length + 1 : Nat) : Int), 1) := by
    have hs : (refs (a :: l)).size = l.length + 1 := by simp [refs]
    rw [hs]
    simp only [sliceBounds, Option.getD_none, show (1 : Int) > 0 by decide, if_true, if_neg (show ¬ ((1 : Int) < 0) by decide)]
    congr 1
    lia
  rw [kmk_pick_nat _ e]
  have h2 : List.take l.length (List.map Value.ref l) = List.map Value.ref l := List.take_of_length_le (by simp)
  simpa [refs] using h2
section
open PySem.SeqAt
variable {prog : Program} {w : World} {A : Around} {E : Value → Shared → Prop} {s : Shared}
theorem ne_nil0 {l c : Addr} {Q : Value → Shared → Prop} (hl : s.heap.IsList l (refs [])) (hc : s.heap.IsList c #[]) (hu : A.units < cLine) (h : Q (.bool false) s) : wpAny (model prog w) A (compareOp .NotEq (.ref l) (.ref c)) Q E s :=
  RcNeAt.lists (e := fun _ => true) hl hc rfl hu (fun j h1 => absurd h1 (Nat.not_lt_zero _)) prog w E Q h
theorem ne_nil1 {l c a : Addr} {as : List Addr} {Q : Value → Shared → Prop} (hl : s.heap.IsList l (refs (a :: as))) (hc : s.heap.IsList c #[]) (hu : A.units < cLine) (h : Q (.bool true) s) : wpAny (model prog w) A (compareOp .NotEq (.ref l) (.ref c)) Q E s :=
  RcNeAt.lists_lengths hl hc (by simp [refs]) hu prog w E Q h
end
theorem mem_pick {α : Type} {l : List α} {js : List Nat} {bs : List α} (hbs : js.map (fun j => l[j]?) = bs.map some) : ∀ b ∈ bs, b ∈ l := by
  intro b hb
  have : some b ∈ js.map (fun j => l[j]?) := hbs ▸ List.mem_map_of_mem hb
  k_extra "g1"
  obtain ⟨j, _, e⟩ := List.mem_map.mp this
  k_extra "g2"
  exact List.mem_of_getElem? e
theorem news_pick {g h : Heap} {L : Addr} {l Z : List (Addr × Obj)} (N : News g L h (l ++ Z)) (js : List Nat) {bs : List (Addr × Obj)} (hbs : js.map (fun j => l[j]?) = bs.map some) : News g L h (bs ++ Z) := by
  intro p hp
  rcases List.mem_append.mp hp with hp | hp
  · exact N p (List.mem_append_left _ (mem_pick hbs p hp))
  · exact N p (List.mem_append_right _ hp)
theorem bel_pick {l Z : List (Addr × Obj)} {c : Nat} (B : Bel ((l ++ Z).map (·.1)) c) (js : List Nat) {bs : List (Addr × Obj)} (hbs : js.map (fun j => l[j]?) = bs.map some) (hj : js.Nodup) : Bel ((bs ++ Z).map (·.1)) c := by
  have hm := mem_pick hbs
  have e : js.map (fun j => (l.map (·.1))[j]?) = (bs.map (·.1)).map some := by
    have := congrArg (List.map (Option.map (·.1))) hbs
    rw [List.map_map, List.map_map] at this
    rw [List.map_map]
    refine Eq.trans ?_ this
    refine List.map_congr_left fun j _ => ?_
    simp
  have nd : (l.map (·.1) ++ Z.map (·.1)).Nodup := by simpa only [List.map_append] using B.1
  k_extra "g1"
  obtain ⟨n1, n2, n3⟩ := List.nodup_append.mp nd
  k_extra "g2"
  refine ⟨?_, fun a ha => B.2 a ?_⟩
  · rw [List.map_append]
    refine List.nodup_append.mpr ⟨nd_pick n1 js e hj, n2, fun a ha b hb => n3 a ?_ b hb⟩
    k_extra "g1"
    obtain ⟨p, hp, rfl⟩ := List.mem_map.mp ha
    k_extra "g2"
    exact List.mem_map_of_mem (hm p hp)
  · rw [List.map_append] at ha ⊢
    rcases List.mem_append.mp ha with ha | ha
    · k_extra "g1"
      obtain ⟨p, hp, rfl⟩ := List.mem_map.mp ha
      k_extra "g2"
      exact List.mem_append_left _ (List.mem_map_of_mem (hm p hp))
    · exact List.mem_append_right _ ha
end
noncomputable section
open PyProof.Rows.LCg
theorem kw_82 : True := by
  k_with_none
  k_with "rm" => first | exact room_lt (by assumption) rfl | exact room_lt1 (by assumption) | lia
  k_with "g1" => refine by_goal fun zG zh => ?_
  k_with "g2" => (refine zh ?_; clear zh zG)
  k_with "WW" => (repeat' (first | ((with_reducible show wpAny _ _ _ _ _ _); (fail_if_success (with_reducible show wpAny _ _ (eval (Expr.ListComp _ _ _ _) _) _ _ _)); (fail_if_success (with_reducible show wpAny _ _ (pyIter _) _ _ _)); (fail_if_success (with_reducible show wpAny _ _ (exec (Stmt.Assign [Expr.Name _ _] (Expr.ListComp _ _ _ _) _) _) _ _ _)); walk1) | ((with_reducible show ite _ _ _); walk1) | ((with_reducible show (Frag.In _ _ ∧ wpAny _ _ _ _ _ _)); refine And.intro (Frag.In.keeps (by assumption) (Fr.keep (by assumption))) ?_) | ((with_reducible show (Heap.get? _ _ = some _ ∧ wpAny _ _ _ _ _ _)); refine And.intro (News.get (by assumption) (by k_mem)) ?_) | ((fail_if_success (with_reducible show wpAny _ _ _ _ _ _)); dsimp only)))
  trivial
theorem kw_80 : True := by
  k_with "storeName" => (k_here; (with_reducible show wpAny _ _ (storeName (compEnvC _ _ _ _) _ _) _ _ _); k_dflt (refine st_comp (by k_asm) (by k_asm) ?_; k_whole); intro _ _ _)
  k_with "eval Name" => (k_here; (with_reducible show wpAny _ _ (eval (Expr.Name _ _) (compEnvC _ _ _ _)) _ _ _); k_dflt (refine ld_comp (by k_asm) (by exact rfl) ?_; k_whole))
  k_with "getAttr ref" => (k_here; k_dflt (refine getA (by k_asm) (by k_asm) (by k_asm) (by k_mem) (by k_mem) (by k_asm) (by first | exact rfl | assumption) (by k_is) (by k_is) (by k_is) (by k_is) (by k_handed) ?_; k_whole))
  k_with "getMethod ref" => (k_here; k_dflt (refine methA (by k_asm) (by k_asm) (by k_asm) (by k_mem) (by k_mem) (by k_asm) (by first | exact rfl | assumption) (by k_is) (by k_is) (by k_is) (by k_handed) ?_; k_whole))
  k_with "setAttr ref" => (k_here; k_dflt (refine setA (by k_asm) (by k_asm) (by k_asm) (by k_mem) (by k_mem) (by k_asm) (by k_is) (by k_is) (by k_is) (by k_is) (by (intro _ _; k_upd)) (by first | exact Nat.le_of_ble_eq_true rfl | lia) ?_; k_whole); intro _ _ _ _ _ zN; (try dsimp only at zN); (revert zN; intro _); (try k_sweep))
  k_with "call ref" => (k_here; (with_reducible show wpAny _ _ (call (Value.ref 319) [Value.str _ _]) _ _ _); (rename Fr _ _ _ _ => F); (rename News _ _ _ _ => N); (refine space_U F N X T (by (show dp + 1 + 20 < recursionLimit); k_extra "rm") (by (show un + 3 + 200 < cLine); k_extra "rm") fun x' d' es' n' f' h' tk' l1 l2 D' F' N' => ?_); clear F N; (try k_lt l1); (try k_lt2 l2))
  trivial
noncomputable section
theorem kw_81 : True := by
  k_with "cl1" => first | refine no_implicit_lambda% (eps8 0 (inferInstanceAs (Box 0 IdT _)) rfl rfl ?_) | refine no_implicit_lambda% (eps7 0 (inferInstanceAs (Box 0 IdT _)) rfl rfl ?_) | refine no_implicit_lambda% (eps6 0 (inferInstanceAs (Box 0 IdT _)) rfl rfl ?_) | refine no_implicit_lambda% (eps5 0 (inferInstanceAs (Box 0 IdT _)) rfl rfl ?_) | refine no_implicit_lambda% (eps4 0 (inferInstanceAs (Box 0 IdT _)) rfl rfl ?_) | refine no_implicit_lambda% (eps3 0 (inferInstanceAs (Box 0 IdT _)) rfl rfl ?_) | refine no_implicit_lambda% (eps2 0 (inferInstanceAs (Box 0 IdT _)) rfl rfl ?_) | refine no_implicit_lambda% (epsd 0 (inferInstanceAs (Box 0 IdT _)) rfl rfl ?_)
  k_with "cl" => (set_option tactic.hygienic false in ((repeat ((first | rename Heap => q9 | rename Addr => q9 | rename Nat => q9 | rename Obj => q9 | rename Value => q9 | rename Int => q9 | rename List _ => q9 | rename Str → Option Value => q9 | rename Bool => q9 | rename Option _ => q9 | rename Array _ => q9 | rename Str => q9 | rename _ × _ => q9 | rename Shared => q9 | rename Program => q9 | rename ExcName → Option Value => q9 | rename Value → Shared → Prop => q9); revert q9)); (repeat (first | k_extra "cl1" | (with_reducible intro _)))))
  trivial
namespace law_8
noncomputable def St0 (w : World) (dp : Nat) (un : Nat) (fr : Option (List Env)) (gd : Option (List Code)) (s : Shared) (p : Program) (loose : List Str) (mean : ExcName → Option Value) (mg : Str → Option Value) (mb : Str → Option Value) (Qf : Flow → Shared → Prop) (g : Heap) (L : Addr) (σ : SA) (compl : Bool) (lg : Addr) (ow : List Wf) (Z : List (Addr × Obj)) (TT : List Pf) (LL : List Pf) (dls : List (Addr × Obj × Lg)) (lgs : List (Addr × Obj × Lg)) (fo : Option Value) (b : Bool) (wt : Addr) (tk : Addr) (lf : Addr) (ev : Addr) (dl : Addr) (an : Addr) (lo : Addr) (sc : Addr) (oL : Addr) (D2 : Addr) (n1 : Nat) (n2 : Nat) (n3 : Nat) (n4 : Nat) (n5 : Nat) (nl : Nat) (nc : Nat) (np : Nat) (nD : Nat) (c : Nat) (ps : Array Value) (ec : List DictEntry) (ep : List DictEntry) (room : Int) (t1 : Tok) (spare : Value) : Prop := ∀ (X : (mkK.heap_1 w.params).In g) (T : Top p loose mean mg mb g) (hd : dp + 200 < recursionLimit) (hu : un + 2000 < cLine) (K : LawC w σ compl lg ow) (dC : ∃ k f, DA ec k f ∧ f (Str.ofString "paths") = some (.ref σ.paths)) (dP : ∃ k f, DA ep k f ∧ f (Str.ofString "answers") = some (.ref D2)) (hZ : ∀ p ∈ entA σ.as, p ∈ Z) (F : Fr g L s.heap (fun y => if y = Str.ofString "is_tried" then some (.bool b) else lawM fo wt tk lf ev dl an sc lg oL σ.conn σ.l2 room t1 spare σ.wants y)) (N : News g L s.heap ((D2, W.listOf (refs (theres σ.as)) nD) :: (lawE7 σ tk lf dl an lo lg TT LL dls ow n1 n2 n3 n4 n5 nl (refs (lgs.map (·.1))) ps ec nc ep np ++ Z))) (B : Bel (((D2, W.listOf (refs (theres σ.as)) nD) :: (lawE7 σ tk lf dl an lo lg TT LL dls ow n1 n2 n3 n4 n5 nl (refs (lgs.map (·.1))) ps ec nc ep np ++ Z)).map (·.1)) c) (hQ : LDone g s Qf),
   wpN (model Challenge.pw_pf0272_01 w) ((Ak dp un fr gd).deeper (lwEnv L)) (execs (lwBody.drop 15) (lwEnv L)) Qf (fun _ _ => False) s
noncomputable abbrev Ty0 : Type := (World) × (Nat) × (Nat) × (Option (List Env)) × (Option (List Code)) × (Shared) × (Program) × (List Str) × (ExcName → Option Value) × (Str → Option Value) × (Str → Option Value) × (Flow → Shared → Prop) × (Heap) × (Addr) × (SA) × (Bool) × (Addr) × (List Wf) × (List (Addr × Obj)) × (List Pf) × (List Pf) × (List (Addr × Obj × Lg)) × (List (Addr × Obj × Lg)) × (Option Value) × (Bool) × (Addr) × (Addr) × (Addr) × (Addr) × (Addr) × (Addr) × (Addr) × (Addr) × (Addr) × (Addr) × (Nat) × (Nat) × (Nat) × (Nat) × (Nat) × (Nat) × (Nat) × (Nat) × (Nat) × (Nat) × (Array Value) × (List DictEntry) × (List DictEntry) × (Int) × (Tok) × (Value)
theorem ne0 : Nonempty Ty0 := ⟨Classical.choice neW, Classical.choice inferInstance, Classical.choice inferInstance, Classical.choice inferInstance, Classical.choice inferInstance, Classical.choice neS, Classical.choice inferInstance, Classical.choice inferInstance, Classical.choice inferInstance, Classical.choice inferInstance, Classical.choice inferInstance, Classical.choice inferInstance, Classical.choice inferInstance, Classical.choice inferInstance, Classical.choice neSA, Classical.choice inferInstance, Classical.choice inferInstance, Classical.choice inferInstance, Classical.choice inferInstance, Classical.choice inferInstance, Classical.choice inferInstance, Classical.choice inferInstance, Classical.choice inferInstance, Classical.choice inferInstance, Classical.choice inferInstance, Classical.choice inferInstance, Classical.choice inferInstance, Classical.choice inferInstance, Classical.choice inferInstance, Classical.choice inferInstance, Classical.choice inferInstance, Classical.choice inferInstance, Classical.choice inferInstance, Classical.choice inferInstance, Classical.choice inferInstance, Classical.choice inferInstance, Classical.choice inferInstance, Classical.choice inferInstance, Classical.choice inferInstance, Classical.choice inferInstance, Classical.choice inferInstance, Classical.choice inferInstance, Classical.choice inferInstance, Classical.choice inferInstance, Classical.choice inferInstance, Classical.choice inferInstance, Classical.choice inferInstance, Classical.choice inferInstance, Classical.choice inferInstance, Classical.choice inferInstance, Classical.choice inferInstance⟩
noncomputable def P0 (vv0 : Ty0) : Prop := St0 (vv0.1) (vv0.2.1) (vv0.2.2.1) (vv0.2.2.2.1) (vv0.2.2.2.2.1) (vv0.2.2.2.2.2.1) (vv0.2.2.2.2.2.2.1) (vv0.2.2.2.2.2.2.2.1) (vv0.2.2.2.2.2.2.2.2.1) (vv0.2.2.2.2.2.2.2.2.2.1) (vv0.2.2.2.2.2.2.2.2.2.2.1) (vv0.2.2.2.2.2.2.2.2.2.2.2.1) (vv0.2.2.2.2.2.2.2.2.2.2.2.2.1) (vv0.2.2.2.2.2.2.2.2.2.2.2.2.2.1) (vv0.2.2.2.2.2.2.2.2.2.2.2.2.2.2.1) (vv0.2.2.2.2.2.2.2.2.2.2.2.2.2.2.2.1) (vv0.2.2.2.2.2.2.2.2.2.2.2.2.2.2.2.2.1) (vv0.2.2.2.2.2.2.2.2.2.2.2.2.2.2.2.2.2.1) (vv0.2.2.2.2.2.2.2.2.2.2.2.2.2.2.2.2.2.2.1) (vv0.2.2.2.2.2.2.2.2.2.2.2.2.2.2.2.2.2.2.2.1) (vv0.2.2.2.2.2.2.2.2.2.2.2.2.2.2.2.2.2.2.2.2.1) (vv0.2.2.2.2.2.2.2.2.2.2.2.2.2.2.2.2.2.2.2.2.2.1) (vv0.2.2.2.2.2.2.2.2.2.2.2.2.2.2.2.2.2.2.2.2.2.2.1) (vv0.2.2.2.2.2.2.2.2.2.2.2.2.2.2.2.2.2.2.2.2.2.2.2.1) (vv0.2.2.2.2.2.2.2.2.2.2.2.2.2.2.2.2.2.2.2.2.2.2.2.2.1) (vv0.2.2.2.2.2.2.2.2.2.2.2.2.2.2.2.2.2.2.2.2.2.2.2.2.2.1) (vv0.2.2.2.2.2.2.2.2.2.2.2.2.2.2.2.2.2.2.2.2.2.2.2.2.2.2.1) (vv0.2.2.2.2.2.2.2.2.2.2.2.2.2.2.2.2.2.2.2.2.2.2.2.2.2.2.2.1) (vv0.2.2.2.2.2.2.2.2.2.2.2.2.2.2.2.2.2.2.2.2.2.2.2.2.2.2.2.2.1) (vv0.2.2.2.2.2.2.2.2.2.2.2.2.2.2.2.2.2.2.2.2.2.2.2.2.2.2.2.2.2.1) (vv0.2.2.2.2.2.2.2.2.2.2.2.2.2.2.2.2.2.2.2.2.2.2.2.2.2.2.2.2.2.2.1) (vv0.2.2.2.2.2.2.2.2.2.2.2.2.2.2.2.2.2.2.2.2.2.2.2.2.2.2.2.2.2.2.2.1) (vv0.2.2.2.2.2.2.2.2.2.2.2.2.2.2.2.2.2.2.2.2.2.2.2.2.2.2.2.2.2.2.2.2.1) (vv0.2.2.2.2.2.2.2.2.2.2.2.2.2.2.2.2.2.2.2.2.2.2.2.2.2.2.2.2.2.2.2.2.2.1) (vv0.2.2.2.2.2.2.2.2.2.2.2.2.2.2.2.2.2.2.2.2.2.2.2.2.2.2.2.2.2.2.2.2.2.2.1) (vv0.2.2.2.2.2.2.2.2.2.2.2.2.2.2.2.2.2.2.2.2.2.2.2.2.2.2.2.2.2.2.2.2.2.2.2.1) (vv0.2.2.2.2.2.2.2.2.2.2.2.2.2.2.2.2.2.2.2.2.2.2.2.2.2.2.2.2.2.2.2.2.2.2.2.2.1) (vv0.2.2.2.2.2.2.2.2.2.2.2.2.2.2.2.2.2.2.2.2.2.2.2.2.2.2.2.2.2.2.2.2.2.2.2.2.2.1) (vv0.2.2.2.2.2.2.2.2.2.2.2.2.2.2.2.2.2.2.2.2.2.2.2.2.2.2.2.2.2.2.2.2.2.2.2.2.2.2.1) (vv0.2.2.2.2.2.2.2.2.2.2.2.2.2.2.2.2.2.2.2.2.2.2.2.2.2.2.2.2.2.2.2.2.2.2.2.2.2.2.2.1) (vv0.2.2.2.2.2.2.2.2.2.2.2.2.2.2.2.2.2.2.2.2.2.2.2.2.2.2.2.2.2.2.2.2.2.2.2.2.2.2.2.2.1) (vv0.2.2.2.2.2.2.2.2.2.2.2.2.2.2.2.2.2.2.2.2.2.2.2.2.2.2.2.2.2.2.2.2.2.2.2.2.2.2.2.2.2.1) (vv0.2.2.2.2.2.2.2.2.2.2.2.2.2.2.2.2.2.2.2.2.2.2.2.2.2.2.2.2.2.2.2.2.2.2.2.2.2.2.2.2.2.2.1) (vv0.2.2.2.2.2.2.2.2.2.2.2.2.2.2.2.2.2.2.2.2.2.2.2.2.2.2.2.2.2.2.2.2.2.2.2.2.2.2.2.2.2.2.2.1) (vv0.2.2.2.2.2.2.2.2.2.2.2.2.2.2.2.2.2.2.2.2.2.2.2.2.2.2.2.2.2.2.2.2.2.2.2.2.2.2.2.2.2.2.2.2.1) (vv0.2.2.2.2.2.2.2.2.2.2.2.2.2.2.2.2.2.2.2.2.2.2.2.2.2.2.2.2.2.2.2.2.2.2.2.2.2.2.2.2.2.2.2.2.2.1) (vv0.2.2.2.2.2.2.2.2.2.2.2.2.2.2.2.2.2.2.2.2.2.2.2.2.2.2.2.2.2.2.2.2.2.2.2.2.2.2.2.2.2.2.2.2.2.2.1) (vv0.2.2.2.2.2.2.2.2.2.2.2.2.2.2.2.2.2.2.2.2.2.2.2.2.2.2.2.2.2.2.2.2.2.2.2.2.2.2.2.2.2.2.2.2.2.2.2.1) (vv0.2.2.2.2.2.2.2.2.2.2.2.2.2.2.2.2.2.2.2.2.2.2.2.2.2.2.2.2.2.2.2.2.2.2.2.2.2.2.2.2.2.2.2.2.2.2.2.2.1) (vv0.2.2.2.2.2.2.2.2.2.2.2.2.2.2.2.2.2.2.2.2.2.2.2.2.2.2.2.2.2.2.2.2.2.2.2.2.2.2.2.2.2.2.2.2.2.2.2.2.2.1) (vv0.2.2.2.2.2.2.2.2.2.2.2.2.2.2.2.2.2.2.2.2.2.2.2.2.2.2.2.2.2.2.2.2.2.2.2.2.2.2.2.2.2.2.2.2.2.2.2.2.2.2)
@[irreducible] def vv0 : Ty0 := @ata _ ne0 0 P0
@[irreducible] def w : World := vv0.1
@[irreducible] def dp : Nat := vv0.2.1
@[irreducible] def un : Nat := vv0.2.2.1
@[irreducible] def fr : Option (List Env) := vv0.2.2.2.1
@[irreducible] def s : Shared := vv0.2.2.2.2.2.1
@[irreducible] def p : Program := vv0.2.2.2.2.2.2.1
@[irreducible] def mb : Str → Option Value := vv0.2.2.2.2.2.2.2.2.2.2.1
@[irreducible] def g : Heap := vv0.2.2.2.2.2.2.2.2.2.2.2.2.1
@[irreducible] def L : Addr := vv0.2.2.2.2.2.2.2.2.2.2.2.2.2.1
@[irreducible] def σ : SA := vv0.2.2.2.2.2.2.2.2.2.2.2.2.2.2.1
@[irreducible] def ow : List Wf := vv0.2.2.2.2.2.2.2.2.2.2.2.2.2.2.2.2.2.1
@[irreducible] def Z : List (Addr × Obj) := vv0.2.2.2.2.2.2.2.2.2.2.2.2.2.2.2.2.2.2.1
@[irreducible] def fo : Option Value := vv0.2.2.2.2.2.2.2.2.2.2.2.2.2.2.2.2.2.2.2.2.2.2.2.1
@[irreducible] def b : Bool := vv0.2.2.2.2.2.2.2.2.2.2.2.2.2.2.2.2.2.2.2.2.2.2.2.2.1
@[irreducible] def tk : Addr := vv0.2.2.2.2.2.2.2.2.2.2.2.2.2.2.2.2.2.2.2.2.2.2.2.2.2.2.1
@[irreducible] def ev : Addr := vv0.2.2.2.2.2.2.2.2.2.2.2.2.2.2.2.2.2.2.2.2.2.2.2.2.2.2.2.2.1
@[irreducible] def an : Addr := vv0.2.2.2.2.2.2.2.2.2.2.2.2.2.2.2.2.2.2.2.2.2.2.2.2.2.2.2.2.2.2.1
@[irreducible] def lo : Addr := vv0.2.2.2.2.2.2.2.2.2.2.2.2.2.2.2.2.2.2.2.2.2.2.2.2.2.2.2.2.2.2.2.1
@[irreducible] def n4 : Nat := vv0.2.2.2.2.2.2.2.2.2.2.2.2.2.2.2.2.2.2.2.2.2.2.2.2.2.2.2.2.2.2.2.2.2.2.2.2.2.2.1
@[irreducible] def nl : Nat := vv0.2.2.2.2.2.2.2.2.2.2.2.2.2.2.2.2.2.2.2.2.2.2.2.2.2.2.2.2.2.2.2.2.2.2.2.2.2.2.2.2.1
@[irreducible] def nc : Nat := vv0.2.2.2.2.2.2.2.2.2.2.2.2.2.2.2.2.2.2.2.2.2.2.2.2.2.2.2.2.2.2.2.2.2.2.2.2.2.2.2.2.2.1
@[irreducible] def c : Nat := vv0.2.2.2.2.2.2.2.2.2.2.2.2.2.2.2.2.2.2.2.2.2.2.2.2.2.2.2.2.2.2.2.2.2.2.2.2.2.2.2.2.2.2.2.2.1
@[irreducible] def ps : Array Value := vv0.2.2.2.2.2.2.2.2.2.2.2.2.2.2.2.2.2.2.2.2.2.2.2.2.2.2.2.2.2.2.2.2.2.2.2.2.2.2.2.2.2.2.2.2.2.1
@[irreducible] def ec : List DictEntry := vv0.2.2.2.2.2.2.2.2.2.2.2.2.2.2.2.2.2.2.2.2.2.2.2.2.2.2.2.2.2.2.2.2.2.2.2.2.2.2.2.2.2.2.2.2.2.2.1
@[irreducible] def ep : List DictEntry := vv0.2.2.2.2.2.2.2.2.2.2.2.2.2.2.2.2.2.2.2.2.2.2.2.2.2.2.2.2.2.2.2.2.2.2.2.2.2.2.2.2.2.2.2.2.2.2.2.1
theorem prf0 : St0 w dp un fr (vv0.2.2.2.2.1) s p (vv0.2.2.2.2.2.2.2.1) (vv0.2.2.2.2.2.2.2.2.1) (vv0.2.2.2.2.2.2.2.2.2.1) mb (vv0.2.2.2.2.2.2.2.2.2.2.2.1) g L σ (vv0.2.2.2.2.2.2.2.2.2.2.2.2.2.2.2.1) (vv0.2.2.2.2.2.2.2.2.2.2.2.2.2.2.2.2.1) ow Z (vv0.2.2.2.2.2.2.2.2.2.2.2.2.2.2.2.2.2.2.2.1) (vv0.2.2.2.2.2.2.2.2.2.2.2.2.2.2.2.2.2.2.2.2.1) (vv0.2.2.2.2.2.2.2.2.2.2.2.2.2.2.2.2.2.2.2.2.2.1) (vv0.2.2.2.2.2.2.2.2.2.2.2.2.2.2.2.2.2.2.2.2.2.2.1) fo b (vv0.2.2.2.2.2.2.2.2.2.2.2.2.2.2.2.2.2.2.2.2.2.2.2.2.2.1) tk (vv0.2.2.2.2.2.2.2.2.2.2.2.2.2.2.2.2.2.2.2.2.2.2.2.2.2.2.2.1) ev (vv0.2.2.2.2.2.2.2.2.2.2.2.2.2.2.2.2.2.2.2.2.2.2.2.2.2.2.2.2.2.1) an lo (vv0.2.2.2.2.2.2.2.2.2.2.2.2.2.2.2.2.2.2.2.2.2.2.2.2.2.2.2.2.2.2.2.2.1) (vv0.2.2.2.2.2.2.2.2.2.2.2.2.2.2.2.2.2.2.2.2.2.2.2.2.2.2.2.2.2.2.2.2.2.1) (vv0.2.2.2.2.2.2.2.2.2.2.2.2.2.2.2.2.2.2.2.2.2.2.2.2.2.2.2.2.2.2.2.2.2.2.1) (vv0.2.2.2.2.2.2.2.2.2.2.2.2.2.2.2.2.2.2.2.2.2.2.2.2.2.2.2.2.2.2.2.2.2.2.2.1) (vv0.2.2.2.2.2.2.2.2.2.2.2.2.2.2.2.2.2.2.2.2.2.2.2.2.2.2.2.2.2.2.2.2.2.2.2.2.1) (vv0.2.2.2.2.2.2.2.2.2.2.2.2.2.2.2.2.2.2.2.2.2.2.2.2.2.2.2.2.2.2.2.2.2.2.2.2.2.1) n4 (vv0.2.2.2.2.2.2.2.2.2.2.2.2.2.2.2.2.2.2.2.2.2.2.2.2.2.2.2.2.2.2.2.2.2.2.2.2.2.2.2.1) nl nc (vv0.2.2.2.2.2.2.2.2.2.2.2.2.2.2.2.2.2.2.2.2.2.2.2.2.2.2.2.2.2.2.2.2.2.2.2.2.2.2.2.2.2.2.1) (vv0.2.2.2.2.2.2.2.2.2.2.2.2.2.2.2.2.2.2.2.2.2.2.2.2.2.2.2.2.2.2.2.2.2.2.2.2.2.2.2.2.2.2.2.1) c ps ec ep (vv0.2.2.2.2.2.2.2.2.2.2.2.2.2.2.2.2.2.2.2.2.2.2.2.2.2.2.2.2.2.2.2.2.2.2.2.2.2.2.2.2.2.2.2.2.2.2.2.2.1) (vv0.2.2.2.2.2.2.2.2.2.2.2.2.2.2.2.2.2.2.2.2.2.2.2.2.2.2.2.2.2.2.2.2.2.2.2.2.2.2.2.2.2.2.2.2.2.2.2.2.2.1) (vv0.2.2.2.2.2.2.2.2.2.2.2.2.2.2.2.2.2.2.2.2.2.2.2.2.2.2.2.2.2.2.2.2.2.2.2.2.2.2.2.2.2.2.2.2.2.2.2.2.2.2) := by
  intro X T hd hu K dC dP hZ F N B hQ
  have _h : Challenge.rw_pf0272_01 = Challenge.rw_pf0272_01 ∧ mkK.heap_1 = mkK.heap_1 := by
    k_fill
    exact ⟨rfl, rfl⟩
  clear _h
  conv in (occs := *) List.drop _ lwBody => whnf
  unfold lwEnv
  conv in (occs := *) lwScope => whnf
  k_extra "g1"
  obtain ⟨kC, fC, dC, aC⟩ := dC
  k_extra "g2"
  k_extra "g1"
  obtain ⟨kP, fP, dP, aP⟩ := dP
  k_extra "g2"
  simp only [lawE7, List.cons_append, List.nil_append, List.map_cons] at N B
  refine wpN_execs_cons (wpN_of_any ?_)
  k_extra "WW"
  refine ListComp_K (cl := []) (by with_unfolding_all rfl) (by decide) (by rfl) (by decide) ?_ (by intro _; rfl)
  k_extra "WW"
  rename Fr _ _ _ _ => F3
  rename News _ _ _ _ => N3
  have hN3 := fun p (hp : p ∈ entA σ.as) => N3 p (by (repeat (first | exact hZ p hp | refine List.Mem.tail _ ?_)))
  have h349 : ∀ p ∈ entA σ.as, p.1 ∉ List.map (fun x : Addr × Obj => x.1) [(σ.conn, instObj 319 σ.dconn)] := fun p hp => by
    simp only [List.map_cons, List.map_nil, List.mem_singleton]
    intro e
    k_extra "g1"
    obtain ⟨a, ha, rfl⟩ := List.mem_map.mp hp
    k_extra "g2"
    have h1 := (hN3 _ (List.mem_map_of_mem ha : (a.1, a.2.1) ∈ entA σ.as)).1
    have h2 : _ := N3.get (by k_mem : (σ.conn, instObj 319 σ.dconn) ∈ _)
    rw [show (a.1, a.2.1).1 = σ.conn from e, h2] at h1
    k_extra "g1"
    obtain ⟨its, na, hc1, -⟩ := (K.ok.aok a ha).1
    k_extra "g2"
    have h3 : instObj 319 σ.dconn = a.2.1 := Option.some.inj h1
    rw [← h3] at hc1; cases hc1
  have han : an ∉ List.map (fun x : Addr × Obj => x.1) [(σ.conn, instObj 319 σ.dconn)] := by
    simp only [List.map_cons, List.map_nil, List.mem_singleton]
    intro e
    have h1 := N3.get (by k_mem : (an, W.listOf (refs (aadr σ.as)) n4) ∈ _)
    have h2 := N3.get (by k_mem : (σ.conn, instObj 319 σ.dconn) ∈ _)
    rw [e, h2] at h1; cases h1
  have h3a := K.ok.ale
  refine comp3 (bx := σ.conn) (extra := []) (fun i ys o' cr => o' = instObj 319 σ.dconn ∧ cr = [] ∧ ys = ((σ.as.take i).filter (fun a => !a.2.2.1)).map (fun a => Value.ref a.1))
    X T (by exact F3) (by exact N3) (by k_mem) (fun q hq => nomatch hq) (by exact src_list rfl ⟨_, N3.get (by k_mem : (an, W.listOf (refs (aadr σ.as)) n4) ∈ _), rfl, _, rfl⟩ rfl han) ?_ ?_ ⟨rfl, rfl, rfl⟩ ?_ ?_
  · rw [sizeLine_eq]; simp [refs, aadr]; lia
  · rintro i ys o' cr zx
    k_extra "g1"
    obtain ⟨-, -, rfl⟩ := zx
    k_extra "g2"
    have h2 := List.length_filter_le (fun a : Af => !a.2.2.1) (σ.as.take i)
    rw [sizeLine_eq, List.length_map]
    exact Nat.le_trans h2 (Nat.le_trans (List.length_take_le' i σ.as) (Nat.le_trans h3a (by lia)))
  · rintro g' C D I X' T' kg' hgC hall hID hDC i v ys mC o' cr o h tk hP hi' zx
    k_extra "g1"
    obtain ⟨rfl, rfl, rfl⟩ := zx
    k_extra "g2"
    rintro hcrb F N
    k_extra "g1"
    obtain ⟨a, hai, ham, rfl⟩ := aref_get hP
    k_extra "g2"
    obtain ⟨ha1, ha2⟩ := K.ok.aok a ham
    k_extra "g1"
    obtain ⟨its, na, hc1, hc2, ta, ua, rfl⟩ := ha1
    k_extra "g2"
    have hI0 := hall _ (.head _)
    dsimp only at hI0
    have hat : IsTup g' a.1 #[.str (if a.2.2.1 then Str.ofString "here" else Str.ofString "there") ta, .bytes a.2.2.2 ua] := ⟨_, kg' _ _ (h349 (a.1, a.2.1) (List.mem_map_of_mem ham)) (hN3 (a.1, a.2.1) (List.mem_map_of_mem ham)).1, hc1, _, hc2⟩
    clear F3 N3 X T hall
    rename Frag.In _ _ => X
    rename Top _ _ _ _ _ _ => T
    simp only [List.nil_append] at N
    by_cases hh : a.2.2.1 = true
    · rw [if_pos hh] at hat
      k_extra "WW"
      rename Fr _ _ _ _ => F9
      rename News _ _ _ _ => N9
      exact ⟨_, _, _, _, rfl, F9, N9, rfl, rfl, by rw [filt_take _ _ hai]; simp [hh]⟩
    · rw [if_neg hh] at hat
      k_extra "WW"
      rename Fr _ _ _ _ => F9
      rename News _ _ _ _ => N9
      exact ⟨_, _, _, _, [], rfl, F9, N9, (fun q hq => nomatch hq), rfl, rfl, by rw [filt_take _ _ hai]; simp [hh]⟩
  · rintro D h tk ys o' cr all' zx
    k_extra "g1"
    obtain ⟨rfl, rfl, rfl⟩ := zx
    k_extra "g2"
    rintro hcr F N' N hall
    have hB9 := B
    have N4 := N _ N' _ (by k_upd)
    clear N N'
    unfold DoneE
    have htk : σ.as.take (refs (aadr σ.as)).size = σ.as := by simp [refs, aadr]
    have e2 : lst (((σ.as.take (refs (aadr σ.as)).size).filter (fun a => !a.2.2.1)).map (fun a => Value.ref a.1)) = W.listOf (refs (theres σ.as)) (((σ.as.filter (fun a => !a.2.2.1)).map (fun a => Value.ref a.1)).length) := by
      rw [htk]; simp [lst, refs, theres, Function.comp_def]
    rw [e2] at N4
    dsimp only
    refine eq_lists (l := theres σ.as) (l2 := theres σ.as) ⟨_, N4.get (.tail _ (.head _)), rfl, _, rfl⟩ ⟨_, N4.get (.head _), rfl, _, rfl⟩ rfl (by (show un + 3 < cLine); lia) (fun j _ _ => PySem.SeqAt.EqAt.same _) ?_
    exact hQ _ _ ps (fun b o e => F.keep b o e) (N4.get (.tail _ (.tail _ (.tail _ (.tail _ (.tail _ (.tail _ (.tail _ (.tail _ (.head _))))))))))
end law_8
theorem law_8 {w : World} {dp : Nat} {un : Nat} {fr : Option (List Env)} {gd : Option (List Code)} {s : Shared} {p : Program} {loose : List Str} {mean : ExcName → Option Value} {mg : Str → Option Value} {mb : Str → Option Value} {Qf : Flow → Shared → Prop} {g : Heap} {L : Addr} {σ : SA} {compl : Bool} {lg : Addr} {ow : List Wf} {Z : List (Addr × Obj)} {TT : List Pf} {LL : List Pf} {dls : List (Addr × Obj × Lg)} {lgs : List (Addr × Obj × Lg)} {fo : Option Value} {b : Bool} {wt : Addr} {tk : Addr} {lf : Addr} {ev : Addr} {dl : Addr} {an : Addr} {lo : Addr} {sc : Addr} {oL : Addr} {D2 : Addr} {n1 : Nat} {n2 : Nat} {n3 : Nat} {n4 : Nat} {n5 : Nat} {nl : Nat} {nc : Nat} {np : Nat} {nD : Nat} {c : Nat} {ps : Array Value} {ec : List DictEntry} {ep : List DictEntry} {room : Int} {t1 : Tok} {spare : Value} : law_8.St0 w dp un fr gd s p loose mean mg mb Qf g L σ compl lg ow Z TT LL dls lgs fo b wt tk lf ev dl an lo sc oL D2 n1 n2 n3 n4 n5 nl nc np nD c ps ec ep room t1 spare :=
  @ata_spec _ law_8.ne0 0 law_8.P0 (by with_unfolding_all exact law_8.prf0) (w, dp, un, fr, gd, s, p, loose, mean, mg, mb, Qf, g, L, σ, compl, lg, ow, Z, TT, LL, dls, lgs, fo, b, wt, tk, lf, ev, dl, an, lo, sc, oL, D2, n1, n2, n3, n4, n5, nl, nc, np, nD, c, ps, ec, ep, room, t1, spare)
end
end
noncomputable section
open PyProof.Rows.LCg
theorem kw_85 : True := by
  k_with_none
  k_with "rm" => first | exact room_lt (by assumption) rfl | exact room_lt1 (by assumption) | lia
  k_with "g1" => refine by_goal fun zG zh => ?_
  k_with "g2" => (refine zh ?_; clear zh zG)
  k_with "WC" => (repeat' (first | ((with_reducible show wpAny _ _ _ _ _ _); (fail_if_success (with_reducible show wpAny _ _ (eval (Expr.ListComp _ _ _ _) _) _ _ _)); (fail_if_success (with_reducible show wpAny _ _ (pyIter _) _ _ _)); (fail_if_success (with_reducible show wpAny _ _ (compareOp _ (Value.ref _) (Value.ref _)) _ _ _)); (fail_if_success (with_reducible show wpAny _ _ (exec (Stmt.Assign [Expr.Name _ _] (Expr.ListComp _ _ _ _) _) _) _ _ _)); walk1) | ((with_reducible show ite _ _ _); walk1) | ((with_reducible show (Frag.In _ _ ∧ wpAny _ _ _ _ _ _)); refine And.intro (Frag.In.keeps (by assumption) (Fr.keep (by assumption))) ?_) | ((with_reducible show (Heap.get? _ _ = some _ ∧ wpAny _ _ _ _ _ _)); refine And.intro (News.get (by assumption) (by k_mem)) ?_) | ((fail_if_success (with_reducible show wpAny _ _ _ _ _ _)); dsimp only)))
  k_with "WW" => (repeat' (first | ((with_reducible show wpAny _ _ _ _ _ _); (fail_if_success (with_reducible show wpAny _ _ (eval (Expr.ListComp _ _ _ _) _) _ _ _)); (fail_if_success (with_reducible show wpAny _ _ (pyIter _) _ _ _)); (fail_if_success (with_reducible show wpAny _ _ (exec (Stmt.Assign [Expr.Name _ _] (Expr.ListComp _ _ _ _) _) _) _ _ _)); walk1) | ((with_reducible show ite _ _ _); walk1) | ((with_reducible show (Frag.In _ _ ∧ wpAny _ _ _ _ _ _)); refine And.intro (Frag.In.keeps (by assumption) (Fr.keep (by assumption))) ?_) | ((with_reducible show (Heap.get? _ _ = some _ ∧ wpAny _ _ _ _ _ _)); refine And.intro (News.get (by assumption) (by k_mem)) ?_) | ((fail_if_success (with_reducible show wpAny _ _ _ _ _ _)); dsimp only)))
  trivial
theorem kw_83 : True := by
  k_with "storeName" => (k_here; (with_reducible show wpAny _ _ (storeName (compEnvC _ _ _ _) _ _) _ _ _); k_dflt (refine st_comp (by k_asm) (by k_asm) ?_; k_whole); intro _ _ _)
  k_with "eval Name" => (k_here; (with_reducible show wpAny _ _ (eval (Expr.Name _ _) (compEnvC _ _ _ _)) _ _ _); k_dflt (refine ld_comp (by k_asm) (by exact rfl) ?_; k_whole))
  k_with "getAttr ref" => (k_here; k_dflt (refine getA (by k_asm) (by k_asm) (by k_asm) (by k_mem) (by k_mem) (by k_asm) (by first | exact rfl | assumption) (by k_is) (by k_is) (by k_is) (by k_is) (by k_handed) ?_; k_whole))
  k_with "getMethod ref" => (k_here; k_dflt (refine methA (by k_asm) (by k_asm) (by k_asm) (by k_mem) (by k_mem) (by k_asm) (by first | exact rfl | assumption) (by k_is) (by k_is) (by k_is) (by k_handed) ?_; k_whole))
  k_with "setAttr ref" => (k_here; k_dflt (refine setA (by k_asm) (by k_asm) (by k_asm) (by k_mem) (by k_mem) (by k_asm) (by k_is) (by k_is) (by k_is) (by k_is) (by (intro _ _; k_upd)) (by first | exact Nat.le_of_ble_eq_true rfl | lia) ?_; k_whole); intro _ _ _ _ _ zN; (try dsimp only at zN); (revert zN; intro _); (try k_sweep))
  k_with "call ref" => (k_here; (with_reducible show wpAny _ _ (call (Value.ref 319) [Value.str _ _]) _ _ _); (rename Fr _ _ _ _ => F); (rename News _ _ _ _ => N); (refine space_U F N X T (by (show dp + 1 + 20 < recursionLimit); k_extra "rm") (by (show un + 3 + 200 < cLine); k_extra "rm") fun x' d' es' n' f' h' tk' l1 l2 D' F' N' => ?_); clear F N; (try k_lt l1); (try k_lt2 l2))
  trivial
theorem filt_take2 {as : List Af} {i : Nat} {a : Af} (p : Af → Bool) (h : as[i]? = some a) : ((as.take (i + 1)).filter p).map (fun a => Value.ref a.1) = ((as.take i).filter p).map (fun a => Value.ref a.1) ++ (if p a then [Value.ref a.1] else []) := filt_take p _ h
noncomputable section
theorem kw_84 : True := by
  k_with "cl1" => first | refine no_implicit_lambda% (eps8 0 (inferInstanceAs (Box 0 IdT _)) rfl rfl ?_) | refine no_implicit_lambda% (eps7 0 (inferInstanceAs (Box 0 IdT _)) rfl rfl ?_) | refine no_implicit_lambda% (eps6 0 (inferInstanceAs (Box 0 IdT _)) rfl rfl ?_) | refine no_implicit_lambda% (eps5 0 (inferInstanceAs (Box 0 IdT _)) rfl rfl ?_) | refine no_implicit_lambda% (eps4 0 (inferInstanceAs (Box 0 IdT _)) rfl rfl ?_) | refine no_implicit_lambda% (eps3 0 (inferInstanceAs (Box 0 IdT _)) rfl rfl ?_) | refine no_implicit_lambda% (eps2 0 (inferInstanceAs (Box 0 IdT _)) rfl rfl ?_) | refine no_implicit_lambda% (epsd 0 (inferInstanceAs (Box 0 IdT _)) rfl rfl ?_)
  k_with "cl" => (set_option tactic.hygienic false in ((repeat ((first | rename Heap => q9 | rename Addr => q9 | rename Nat => q9 | rename Obj => q9 | rename Value => q9 | rename Int => q9 | rename List _ => q9 | rename Str → Option Value => q9 | rename Bool => q9 | rename Option _ => q9 | rename Array _ => q9 | rename Str => q9 | rename _ × _ => q9 | rename Shared => q9 | rename Program => q9 | rename ExcName → Option Value => q9 | rename Value → Shared → Prop => q9); revert q9)); (repeat (first | k_extra "cl1" | (with_reducible intro _)))))
  trivial
namespace law_7
noncomputable def St0 (w : World) (dp : Nat) (un : Nat) (fr : Option (List Env)) (gd : Option (List Code)) (s : Shared) (p : Program) (loose : List Str) (mean : ExcName → Option Value) (mg : Str → Option Value) (mb : Str → Option Value) (Qf : Flow → Shared → Prop) (g : Heap) (L : Addr) (σ : SA) (compl : Bool) (lg : Addr) (ow : List Wf) (evs : List Wf) (Z : List (Addr × Obj)) (TT : List Pf) (LL : List Pf) (dls : List (Addr × Obj × Lg)) (fo : Option Value) (wt : Addr) (tk : Addr) (lf : Addr) (ev : Addr) (dl : Addr) (an : Addr) (lo : Addr) (sc : Addr) (oL : Addr) (n1 : Nat) (n2 : Nat) (n3 : Nat) (n4 : Nat) (n5 : Nat) (nl : Nat) (nc : Nat) (c : Nat) (ps : Array Value) (ec : List DictEntry) (room : Int) (t1 : Tok) (spare : Value) : Prop := ∀ (X : (mkK.heap_1 w.params).In g) (T : Top p loose mean mg mb g) (hd : dp + 200 < recursionLimit) (hu : un + 2000 < cLine) (K : LawC w σ compl lg ow) (hroom : 0 ≤ room ∧ room ≤ 60) (hC : ∃ k f, DA ec k f ∧ k ≤ 31 ∧ f (Str.ofString "owed") = some (.ref lo) ∧ ∀ y, y ≠ Str.ofString "owed" → getL y σ.ec = some (f y)) (hZ : ∀ p ∈ stZ σ ++ (entA σ.as ++ (ents σ.ws ++ ents ow)), p ∈ Z) (hev : ∀ f ∈ evs, FrO f.2.1 f.2.2 ∧ (f.1, f.2.1) ∈ Z) (hdl : ∀ f ∈ dls, (f.1, f.2.1) ∈ Z ∧ LgO f.2.1 f.2.2) (evF : evs.map (·.2.2) = ow.map (·.2.2) ++ (heres σ.as ++ (if isTried σ compl then [Fd.chal b2] else []))) (hTT : TT = (fillF (loffer σ evs) room).1 ++ drT (σ.ws.map pf) (fillF (loffer σ evs) room).2.2) (hLL : LL = (fillF (loffer σ evs) room).2.1) (hdls : dls.map (·.2.2) = (if isTried σ compl then [.tried] else []) ++ (drR (σ.ws.map pf) (fillF (loffer σ evs) room).2.2).map Lg.room) (F : Fr g L s.heap (fun y => if y = Str.ofString "is_tried" then some (.bool (isTried σ compl)) else lawM fo wt tk lf ev dl an sc lg oL σ.conn σ.l2 room t1 spare σ.wants y)) (N : News g L s.heap (lawE7 σ tk lf dl an lo lg TT LL dls ow n1 n2 n3 n4 n5 nl #[] ps ec nc σ.ep σ.np ++ lawW σ :: Z)) (B : Bel ((lawE7 σ tk lf dl an lo lg TT LL dls ow n1 n2 n3 n4 n5 nl #[] ps ec nc σ.ep σ.np ++ lawW σ :: Z).map (·.1)) c) (hQ : LDone g s Qf),
   wpN (model Challenge.pw_pf0272_01 w) ((Ak dp un fr gd).deeper (lwEnv L)) (execs (lwBody.drop 13) (lwEnv L)) Qf (fun _ _ => False) s
noncomputable abbrev Ty0 : Type := (World) × (Nat) × (Nat) × (Option (List Env)) × (Option (List Code)) × (Shared) × (Program) × (List Str) × (ExcName → Option Value) × (Str → Option Value) × (Str → Option Value) × (Flow → Shared → Prop) × (Heap) × (Addr) × (SA) × (Bool) × (Addr) × (List Wf) × (List Wf) × (List (Addr × Obj)) × (List Pf) × (List Pf) × (List (Addr × Obj × Lg)) × (Option Value) × (Addr) × (Addr) × (Addr) × (Addr) × (Addr) × (Addr) × (Addr) × (Addr) × (Addr) × (Nat) × (Nat) × (Nat) × (Nat) × (Nat) × (Nat) × (Nat) × (Nat) × (Array Value) × (List DictEntry) × (Int) × (Tok) × (Value)
theorem ne0 : Nonempty Ty0 := ⟨Classical.choice neW, Classical.choice inferInstance, Classical.choice inferInstance, Classical.choice inferInstance, Classical.choice inferInstance, Classical.choice neS, Classical.choice inferInstance, Classical.choice inferInstance, Classical.choice inferInstance, Classical.choice inferInstance, Classical.choice inferInstance, Classical.choice inferInstance, Classical.choice inferInstance, Classical.choice inferInstance, Classical.choice neSA, Classical.choice inferInstance, Classical.choice inferInstance, Classical.choice inferInstance, Classical.choice inferInstance, Classical.choice inferInstance, Classical.choice inferInstance, Classical.choice inferInstance, Classical.choice inferInstance, Classical.choice inferInstance, Classical.choice inferInstance, Classical.choice inferInstance, Classical.choice inferInstance, Classical.choice inferInstance, Classical.choice inferInstance, Classical.choice inferInstance, Classical.choice inferInstance, Classical.choice inferInstance, Classical.choice inferInstance, Classical.choice inferInstance, Classical.choice inferInstance, Classical.choice inferInstance, Classical.choice inferInstance, Classical.choice inferInstance, Classical.choice inferInstance, Classical.choice inferInstance, Classical.choice inferInstance, Classical.choice inferInstance, Classical.choice inferInstance, Classical.choice inferInstance, Classical.choice inferInstance, Classical.choice inferInstance⟩
noncomputable def P0 (vv0 : Ty0) : Prop := St0 (vv0.1) (vv0.2.1) (vv0.2.2.1) (vv0.2.2.2.1) (vv0.2.2.2.2.1) (vv0.2.2.2.2.2.1) (vv0.2.2.2.2.2.2.1) (vv0.2.2.2.2.2.2.2.1) (vv0.2.2.2.2.2.2.2.2.1) (vv0.2.2.2.2.2.2.2.2.2.1) (vv0.2.2.2.2.2.2.2.2.2.2.1) (vv0.2.2.2.2.2.2.2.2.2.2.2.1) (vv0.2.2.2.2.2.2.2.2.2.2.2.2.1) (vv0.2.2.2.2.2.2.2.2.2.2.2.2.2.1) (vv0.2.2.2.2.2.2.2.2.2.2.2.2.2.2.1) (vv0.2.2.2.2.2.2.2.2.2.2.2.2.2.2.2.1) (vv0.2.2.2.2.2.2.2.2.2.2.2.2.2.2.2.2.1) (vv0.2.2.2.2.2.2.2.2.2.2.2.2.2.2.2.2.2.1) (vv0.2.2.2.2.2.2.2.2.2.2.2.2.2.2.2.2.2.2.1) (vv0.2.2.2.2.2.2.2.2.2.2.2.2.2.2.2.2.2.2.2.1) (vv0.2.2.2.2.2.2.2.2.2.2.2.2.2.2.2.2.2.2.2.2.1) (vv0.2.2.2.2.2.2.2.2.2.2.2.2.2.2.2.2.2.2.2.2.2.1) (vv0.2.2.2.2.2.2.2.2.2.2.2.2.2.2.2.2.2.2.2.2.2.2.1) (vv0.2.2.2.2.2.2.2.2.2.2.2.2.2.2.2.2.2.2.2.2.2.2.2.1) (vv0.2.2.2.2.2.2.2.2.2.2.2.2.2.2.2.2.2.2.2.2.2.2.2.2.1) (vv0.2.2.2.2.2.2.2.2.2.2.2.2.2.2.2.2.2.2.2.2.2.2.2.2.2.1) (vv0.2.2.2.2.2.2.2.2.2.2.2.2.2.2.2.2.2.2.2.2.2.2.2.2.2.2.1) (vv0.2.2.2.2.2.2.2.2.2.2.2.2.2.2.2.2.2.2.2.2.2.2.2.2.2.2.2.1) (vv0.2.2.2.2.2.2.2.2.2.2.2.2.2.2.2.2.2.2.2.2.2.2.2.2.2.2.2.2.1) (vv0.2.2.2.2.2.2.2.2.2.2.2.2.2.2.2.2.2.2.2.2.2.2.2.2.2.2.2.2.2.1) (vv0.2.2.2.2.2.2.2.2.2.2.2.2.2.2.2.2.2.2.2.2.2.2.2.2.2.2.2.2.2.2.1) (vv0.2.2.2.2.2.2.2.2.2.2.2.2.2.2.2.2.2.2.2.2.2.2.2.2.2.2.2.2.2.2.2.1) (vv0.2.2.2.2.2.2.2.2.2.2.2.2.2.2.2.2.2.2.2.2.2.2.2.2.2.2.2.2.2.2.2.2.1) (vv0.2.2.2.2.2.2.2.2.2.2.2.2.2.2.2.2.2.2.2.2.2.2.2.2.2.2.2.2.2.2.2.2.2.1) (vv0.2.2.2.2.2.2.2.2.2.2.2.2.2.2.2.2.2.2.2.2.2.2.2.2.2.2.2.2.2.2.2.2.2.2.1) (vv0.2.2.2.2.2.2.2.2.2.2.2.2.2.2.2.2.2.2.2.2.2.2.2.2.2.2.2.2.2.2.2.2.2.2.2.1) (vv0.2.2.2.2.2.2.2.2.2.2.2.2.2.2.2.2.2.2.2.2.2.2.2.2.2.2.2.2.2.2.2.2.2.2.2.2.1) (vv0.2.2.2.2.2.2.2.2.2.2.2.2.2.2.2.2.2.2.2.2.2.2.2.2.2.2.2.2.2.2.2.2.2.2.2.2.2.1) (vv0.2.2.2.2.2.2.2.2.2.2.2.2.2.2.2.2.2.2.2.2.2.2.2.2.2.2.2.2.2.2.2.2.2.2.2.2.2.2.1) (vv0.2.2.2.2.2.2.2.2.2.2.2.2.2.2.2.2.2.2.2.2.2.2.2.2.2.2.2.2.2.2.2.2.2.2.2.2.2.2.2.1) (vv0.2.2.2.2.2.2.2.2.2.2.2.2.2.2.2.2.2.2.2.2.2.2.2.2.2.2.2.2.2.2.2.2.2.2.2.2.2.2.2.2.1) (vv0.2.2.2.2.2.2.2.2.2.2.2.2.2.2.2.2.2.2.2.2.2.2.2.2.2.2.2.2.2.2.2.2.2.2.2.2.2.2.2.2.2.1) (vv0.2.2.2.2.2.2.2.2.2.2.2.2.2.2.2.2.2.2.2.2.2.2.2.2.2.2.2.2.2.2.2.2.2.2.2.2.2.2.2.2.2.2.1) (vv0.2.2.2.2.2.2.2.2.2.2.2.2.2.2.2.2.2.2.2.2.2.2.2.2.2.2.2.2.2.2.2.2.2.2.2.2.2.2.2.2.2.2.2.1) (vv0.2.2.2.2.2.2.2.2.2.2.2.2.2.2.2.2.2.2.2.2.2.2.2.2.2.2.2.2.2.2.2.2.2.2.2.2.2.2.2.2.2.2.2.2.1) (vv0.2.2.2.2.2.2.2.2.2.2.2.2.2.2.2.2.2.2.2.2.2.2.2.2.2.2.2.2.2.2.2.2.2.2.2.2.2.2.2.2.2.2.2.2.2)
@[irreducible] def vv0 : Ty0 := @ata _ ne0 0 P0
@[irreducible] def w : World := vv0.1
@[irreducible] def dp : Nat := vv0.2.1
@[irreducible] def un : Nat := vv0.2.2.1
@[irreducible] def fr : Option (List Env) := vv0.2.2.2.1
@[irreducible] def s : Shared := vv0.2.2.2.2.2.1
@[irreducible] def p : Program := vv0.2.2.2.2.2.2.1
@[irreducible] def mb : Str → Option Value := vv0.2.2.2.2.2.2.2.2.2.2.1
@[irreducible] def g : Heap := vv0.2.2.2.2.2.2.2.2.2.2.2.2.1
@[irreducible] def L : Addr := vv0.2.2.2.2.2.2.2.2.2.2.2.2.2.1
@[irreducible] def σ : SA := vv0.2.2.2.2.2.2.2.2.2.2.2.2.2.2.1
@[irreducible] def compl : Bool := vv0.2.2.2.2.2.2.2.2.2.2.2.2.2.2.2.1
@[irreducible] def lg : Addr := vv0.2.2.2.2.2.2.2.2.2.2.2.2.2.2.2.2.1
@[irreducible] def ow : List Wf := vv0.2.2.2.2.2.2.2.2.2.2.2.2.2.2.2.2.2.1
@[irreducible] def evs : List Wf := vv0.2.2.2.2.2.2.2.2.2.2.2.2.2.2.2.2.2.2.1
@[irreducible] def Z : List (Addr × Obj) := vv0.2.2.2.2.2.2.2.2.2.2.2.2.2.2.2.2.2.2.2.1
@[irreducible] def TT : List Pf := vv0.2.2.2.2.2.2.2.2.2.2.2.2.2.2.2.2.2.2.2.2.1
@[irreducible] def LL : List Pf := vv0.2.2.2.2.2.2.2.2.2.2.2.2.2.2.2.2.2.2.2.2.2.1
@[irreducible] def dls : List (Addr × Obj × Lg) := vv0.2.2.2.2.2.2.2.2.2.2.2.2.2.2.2.2.2.2.2.2.2.2.1
@[irreducible] def fo : Option Value := vv0.2.2.2.2.2.2.2.2.2.2.2.2.2.2.2.2.2.2.2.2.2.2.2.1
@[irreducible] def tk : Addr := vv0.2.2.2.2.2.2.2.2.2.2.2.2.2.2.2.2.2.2.2.2.2.2.2.2.2.1
@[irreducible] def lf : Addr := vv0.2.2.2.2.2.2.2.2.2.2.2.2.2.2.2.2.2.2.2.2.2.2.2.2.2.2.1
@[irreducible] def ev : Addr := vv0.2.2.2.2.2.2.2.2.2.2.2.2.2.2.2.2.2.2.2.2.2.2.2.2.2.2.2.1
@[irreducible] def dl : Addr := vv0.2.2.2.2.2.2.2.2.2.2.2.2.2.2.2.2.2.2.2.2.2.2.2.2.2.2.2.2.1
@[irreducible] def an : Addr := vv0.2.2.2.2.2.2.2.2.2.2.2.2.2.2.2.2.2.2.2.2.2.2.2.2.2.2.2.2.2.1
@[irreducible] def lo : Addr := vv0.2.2.2.2.2.2.2.2.2.2.2.2.2.2.2.2.2.2.2.2.2.2.2.2.2.2.2.2.2.2.1
@[irreducible] def oL : Addr := vv0.2.2.2.2.2.2.2.2.2.2.2.2.2.2.2.2.2.2.2.2.2.2.2.2.2.2.2.2.2.2.2.2.1
@[irreducible] def n1 : Nat := vv0.2.2.2.2.2.2.2.2.2.2.2.2.2.2.2.2.2.2.2.2.2.2.2.2.2.2.2.2.2.2.2.2.2.1
@[irreducible] def n2 : Nat := vv0.2.2.2.2.2.2.2.2.2.2.2.2.2.2.2.2.2.2.2.2.2.2.2.2.2.2.2.2.2.2.2.2.2.2.1
@[irreducible] def n3 : Nat := vv0.2.2.2.2.2.2.2.2.2.2.2.2.2.2.2.2.2.2.2.2.2.2.2.2.2.2.2.2.2.2.2.2.2.2.2.1
@[irreducible] def n4 : Nat := vv0.2.2.2.2.2.2.2.2.2.2.2.2.2.2.2.2.2.2.2.2.2.2.2.2.2.2.2.2.2.2.2.2.2.2.2.2.1
@[irreducible] def n5 : Nat := vv0.2.2.2.2.2.2.2.2.2.2.2.2.2.2.2.2.2.2.2.2.2.2.2.2.2.2.2.2.2.2.2.2.2.2.2.2.2.1
@[irreducible] def nl : Nat := vv0.2.2.2.2.2.2.2.2.2.2.2.2.2.2.2.2.2.2.2.2.2.2.2.2.2.2.2.2.2.2.2.2.2.2.2.2.2.2.1
@[irreducible] def nc : Nat := vv0.2.2.2.2.2.2.2.2.2.2.2.2.2.2.2.2.2.2.2.2.2.2.2.2.2.2.2.2.2.2.2.2.2.2.2.2.2.2.2.1
@[irreducible] def c : Nat := vv0.2.2.2.2.2.2.2.2.2.2.2.2.2.2.2.2.2.2.2.2.2.2.2.2.2.2.2.2.2.2.2.2.2.2.2.2.2.2.2.2.1
@[irreducible] def ps : Array Value := vv0.2.2.2.2.2.2.2.2.2.2.2.2.2.2.2.2.2.2.2.2.2.2.2.2.2.2.2.2.2.2.2.2.2.2.2.2.2.2.2.2.2.1
@[irreducible] def ec : List DictEntry := vv0.2.2.2.2.2.2.2.2.2.2.2.2.2.2.2.2.2.2.2.2.2.2.2.2.2.2.2.2.2.2.2.2.2.2.2.2.2.2.2.2.2.2.1
@[irreducible] def room : Int := vv0.2.2.2.2.2.2.2.2.2.2.2.2.2.2.2.2.2.2.2.2.2.2.2.2.2.2.2.2.2.2.2.2.2.2.2.2.2.2.2.2.2.2.2.1
theorem prf0 : St0 w dp un fr (vv0.2.2.2.2.1) s p (vv0.2.2.2.2.2.2.2.1) (vv0.2.2.2.2.2.2.2.2.1) (vv0.2.2.2.2.2.2.2.2.2.1) mb (vv0.2.2.2.2.2.2.2.2.2.2.2.1) g L σ compl lg ow evs Z TT LL dls fo (vv0.2.2.2.2.2.2.2.2.2.2.2.2.2.2.2.2.2.2.2.2.2.2.2.2.1) tk lf ev dl an lo (vv0.2.2.2.2.2.2.2.2.2.2.2.2.2.2.2.2.2.2.2.2.2.2.2.2.2.2.2.2.2.2.2.1) oL n1 n2 n3 n4 n5 nl nc c ps ec room (vv0.2.2.2.2.2.2.2.2.2.2.2.2.2.2.2.2.2.2.2.2.2.2.2.2.2.2.2.2.2.2.2.2.2.2.2.2.2.2.2.2.2.2.2.2.1) (vv0.2.2.2.2.2.2.2.2.2.2.2.2.2.2.2.2.2.2.2.2.2.2.2.2.2.2.2.2.2.2.2.2.2.2.2.2.2.2.2.2.2.2.2.2.2) := by
  intro X T hd hu K hroom hC hZ hev hdl evF hTT hLL hdls F N B hQ
  have _h : Challenge.rw_pf0272_01 = Challenge.rw_pf0272_01 ∧ mkK.heap_1 = mkK.heap_1 := by
    k_fill
    exact ⟨rfl, rfl⟩
  clear _h
  conv in (occs := *) List.drop _ lwBody => whnf
  unfold lwEnv
  conv in (occs := *) lwScope => whnf
  have ok' := put_ok (nc := nc) K.ok hC
  have Lall : Led g s.heap (allE (σ.put σ.ep σ.np ec nc) lg lo (W.listOf (refs (wadr ow)) n5) nl ow) := fun p hp => by
    have hm : p ∈ lawE7 σ tk lf dl an lo lg TT LL dls ow n1 n2 n3 n4 n5 nl #[] ps ec nc σ.ep σ.np ++ lawW σ :: Z := by
      rcases List.mem_cons.mp hp with rfl | hp
      · exact .tail _ (.tail _ (.tail _ (.tail _ (.tail _ (.head _)))))
      · rcases List.mem_cons.mp hp with rfl | hp
        · exact .tail _ (.tail _ (.tail _ (.tail _ (.head _))))
        · exact .tail _ (.tail _ (.tail _ (.tail _ (.tail _ (law_all (tk := tk) (lf := lf) (dl := dl) (an := an) (lo := lo) (TT := TT) (LL := LL) (dls := dls) (n1 := n1) (n2 := n2) (n3 := n3) (n4 := n4) (n5 := n5) (nl := nl) (ps := ps) hZ (.tail _ hp))))))
    exact ⟨(N p hm).1, (N p hm).2.2⟩
  have ndA : ((allE (σ.put σ.ep σ.np ec nc) lg lo (W.listOf (refs (wadr ow)) n5) nl ow).map (·.1)).Nodup := by
    have q1 := K.nd
    have q2 : lo ∉ ((lawE7 σ tk lf dl an lo lg TT LL dls ow n1 n2 n3 n4 n5 nl #[] ps ec nc σ.ep σ.np).drop 5 ++ lawW σ :: Z).map (·.1) := (List.nodup_cons.mp ((bel_drop (bel_drop (bel_drop (bel_drop B)))).1)).1
    have q3 : ∀ a ∈ lg :: (σ.led ++ (entA σ.as ++ (ents σ.ws ++ ents ow))).map (·.1), a ≠ lo := by
      intro a ha e
      refine q2 (e ▸ ?_)
      have zx : ∃ p ∈ (lg, W.listOf #[] nl) :: ((σ.put σ.ep σ.np ec nc).led ++ (entA σ.as ++ (ents σ.ws ++ ents ow))), p.1 = a := by
        rcases List.mem_cons.mp ha with rfl | ha
        · exact ⟨_, .head _, rfl⟩
        · rw [List.map_append, ← SA.led_adr σ σ.ep σ.np ec nc, ← List.map_append] at ha
          obtain ⟨p, hp, rfl⟩ := List.mem_map.mp ha
          exact ⟨p, .tail _ hp, rfl⟩
      k_extra "g1"
      obtain ⟨p, hp, rfl⟩ := zx
      k_extra "g2"
      exact List.mem_map_of_mem (law_all (tk := tk) (lf := lf) (dl := dl) (an := an) (lo := lo) (TT := TT) (LL := LL) (dls := dls) (n1 := n1) (n2 := n2) (n3 := n3) (n4 := n4) (n5 := n5) (nl := nl) (ps := ps) hZ hp)
    obtain ⟨q4, q5⟩ := List.nodup_cons.mp q1
    refine List.nodup_cons.mpr ⟨fun q => ?_, List.nodup_cons.mpr ⟨fun q => q3 lo (.tail _ q) rfl, q5⟩⟩
    rcases List.mem_cons.mp q with e | q
    · exact q3 lg (.head _) e
    · exact q4 q
  k_extra "g1"
  obtain ⟨kC, fC, dC, hkC, aCw, aCo⟩ := hC
  k_extra "g2"
  have hown : getL (Str.ofString "owed") (σ.put σ.ep σ.np ec nc).ec = some (some (.ref lo)) := (dC.1 _).trans (congrArg some aCw)
  simp only [lawE7, lawW, List.cons_append, List.nil_append, List.map_cons] at N B
  refine wpN_execs_cons (wpN_If (wpN_isTrue_Or (wpN_isTrue_Compare1 (Call_N (wpN_of_any ?_)))))
  k_extra "WW"
  refine callWith_NK (K := mkK.heap_1 w.params) (by k_is) (args_cons_N (wpN_of_any ?_))
  k_extra "WW"
  refine args_cons_N (wpN_of_any ?_)
  k_extra "WW"
  refine args_cons_N (wpN_of_any ?_)
  k_extra "WW"
  refine args_nil_N ⟨X.keeps F.keep, ?_⟩
  dsimp only [List.nil_append]
  refine app_N (h₀ := g) (σ := σ.put σ.ep σ.np ec nc) (compl := compl) (lg := lg) (lo := lo) (ow := ow) (by exact F.keep) X T (by (show dp + 1 + 150 < recursionLimit); k_extra "rm") (by (show un + 3 + 1500 < cLine); k_extra "rm") ok' hown K.hox K.how hroom (by exact Lall) ndA fun Fa la D2 wsP lgs nF nla k1 ncF npF nD2 ecF epF h1 tk1 P => ?_
  have fs : (fillF (offer (σ.put σ.ep σ.np ec nc) ow wsP) room).1.map (·.2) = (fillF (loffer σ evs) room).1.map (·.2) ∧ (fillF (offer (σ.put σ.ep σ.np ec nc) ow wsP) room).2.1.map (·.2) = (fillF (loffer σ evs) room).2.1.map (·.2) ∧ (fillF (offer (σ.put σ.ep σ.np ec nc) ow wsP) room).2.2 = (fillF (loffer σ evs) room).2.2 := fill_same room (loffer_same (σ := σ) P.wsF evF)
  have FN := app_after (Ex := lawE7 σ tk lf dl an lo lg TT LL dls ow n1 n2 n3 n4 n5 k1 (refs (lgs.map (·.1))) ps ecF ncF epF npF) (x := lawW σ) (Z := Z) P F N B (by k_mem) (by k_upd) (by k_upd) (by (simp only [lawE7, lawW, List.cons_append, List.nil_append]); k_upd) rfl
  k_extra "g1"
  obtain ⟨F1, N1, B1⟩ := FN
  k_extra "g2"
  have inZ : ∀ p ∈ Z, h1.get? p.1 = some p.2 := fun p hp => (N1 p (List.mem_append_right _ hp)).1
  have hWS : ∀ f ∈ σ.ws.map pf, FrAt h1 f.1 f.2 := fun f hf => by
    k_extra "g1"
    obtain ⟨x, hx, rfl⟩ := List.mem_map.mp hf
    k_extra "g2"
    exact frO_at (inZ (x.1, x.2.1) (hZ _ (List.mem_append_right _ (List.mem_append_right _ (List.mem_append_left _ (List.mem_map_of_mem hx)))))) (K.ok.wok x hx).1
  have hEV : ∀ f ∈ loffer σ evs, FrAt h1 f.1 f.2 := fun f hf => by
    rcases List.mem_append.mp hf with hf | hf
    · k_extra "g1"
      obtain ⟨x, hx, rfl⟩ := List.mem_map.mp hf
      k_extra "g2"
      exact frO_at (inZ _ (hev x hx).2) (hev x hx).1
    · rw [List.eq_of_mem_replicate hf]
      exact frO_at (inZ (σ.lf, σ.olf) (hZ _ (List.mem_append_left _ (by simp [stZ])))) K.ok.lfo
  have eT : ((fillF (offer (σ.put σ.ep σ.np ec nc) ow wsP) room).1 ++ drT (σ.ws.map pf) (fillF (offer (σ.put σ.ep σ.np ec nc) ow wsP) room).2.2).map (·.2) = TT.map (·.2) := by
    have fs' : _ := fs
    rw [hTT, List.map_append, List.map_append]
    exact congr (congrArg _ fs.1) (by rw [show (fillF (offer (σ.put σ.ep σ.np ec nc) ow wsP) room).2.2 = (fillF (loffer σ evs) room).2.2 from fs.2.2])
  k_extra "g1"
  obtain ⟨kF, fF, tF, dF, aF1, aF2, aF3⟩ := P.dC
  k_extra "g2"
  have N2 := N1
  simp only [lawE7, List.cons_append, List.nil_append] at N2
  have hD2 : News g L h1 ((D2, W.listOf (refs (theres σ.as)) nD2) :: (lawE7 σ tk lf dl an lo lg TT LL dls ow n1 n2 n3 n4 n5 k1 (refs (lgs.map (·.1))) ps ecF ncF epF npF ++ Z)) := fun p hp => by
    rcases List.mem_cons.mp hp with rfl | hp
    · refine ⟨P.gD2, fun e => ?_, none_of F.keep P.nD⟩
      have e : D2 = L := e
      have hn : s.heap.get? D2 = none := P.nD
      k_extra "g1"
      obtain ⟨oL, _, _, hL, _⟩ := F.ns
      k_extra "g2"
      rw [e, hL] at hn; cases hn
    · exact N1 p hp
  have hB2 : Bel (((D2, W.listOf (refs (theres σ.as)) nD2) :: (lawE7 σ tk lf dl an lo lg TT LL dls ow n1 n2 n3 n4 n5 k1 (refs (lgs.map (·.1))) ps ecF ncF epF npF ++ Z)).map (·.1)) h1.objs.size := by
    refine ⟨List.nodup_cons.mpr ⟨fun q => ?_, B1.1⟩, fun a ha => ?_⟩
    · k_extra "g1"
      obtain ⟨p, hp, e⟩ := List.mem_map.mp q
      k_extra "g2"
      have hn : s.heap.get? D2 = none := P.nD
      have hm : p.1 ∈ (lawE7 σ tk lf dl an lo lg TT LL dls ow n1 n2 n3 n4 n5 nl #[] ps ec nc σ.ep σ.np ++ lawW σ :: Z).map (·.1) := by
        rw [List.map_append]
        rcases List.mem_append.mp hp with hp | hp
        · have e3 : (lawE7 σ tk lf dl an lo lg TT LL dls ow n1 n2 n3 n4 n5 k1 (refs (lgs.map (·.1))) ps ecF ncF epF npF).map (·.1) = (lawE7 σ tk lf dl an lo lg TT LL dls ow n1 n2 n3 n4 n5 nl #[] ps ec nc σ.ep σ.np).map (·.1) := rfl
          exact List.mem_append_left _ (e3 ▸ List.mem_map_of_mem hp)
        · exact List.mem_append_right _ (.tail _ (List.mem_map_of_mem hp))
      k_extra "g1"
      obtain ⟨p', hp', e'⟩ := List.mem_map.mp hm
      k_extra "g2"
      have := (N p' hp').1
      rw [e', e, hn] at this; cases this
    · rcases List.mem_cons.mp ha with rfl | ha
      · exact Nat.le_of_lt (Heap.lt_size P.gD2)
      · exact B1.2 _ ha
  clear F N B Lall ndA ok'
  refine wpN_of_any ?_
  k_extra "WC"
  refine wpN_of_any ?_
  refine ne_frs ⟨_, P.gF, rfl, _, rfl⟩ ⟨_, N2.get (by k_mem), rfl, _, rfl⟩ eT (by (show un + 3 + 1 < cLine); k_extra "rm") (fun f hf => ?_) (fun f hf => ?_) ?_
  · rcases List.mem_append.mp hf with hf | hf
    · exact P.fat f (fill_mem1 hf)
    · exact hWS f (drT_mem hf)
  · rw [hTT] at hf
    rcases List.mem_append.mp hf with hf | hf
    · exact hEV f (fill_mem1 hf)
    · exact hWS f (drT_mem hf)
  refine wpN_of_any ?_
  k_extra "WC"
  refine wpN_of_any ?_
  refine (?_ : wpAny _ _ (isTrue (.BoolOp .Or _ default) _ (pure .none)) _ _ _)
  k_extra "WC"
  refine ne_frs ⟨_, P.gla, rfl, _, rfl⟩ ⟨_, N2.get (by k_mem), rfl, _, rfl⟩ (fs.2.1.trans (by rw [hLL])) (by (show un + 3 + 1 < cLine); k_extra "rm") (fun f hf => P.fat f (fill_mem2 hf)) (fun f hf => hEV f (fill_mem2 (room := room) (by rw [← hLL]; exact hf))) ?_
  k_extra "WC"
  refine ne_lgs ⟨_, N2.get (by k_mem), rfl, _, rfl⟩ ⟨_, N2.get (by k_mem), rfl, _, rfl⟩ (P.lgF.trans (by rw [hdls]; exact congrArg _ (by rw [show (fillF (offer (σ.put σ.ep σ.np ec nc) ow wsP) room).2.2 = (fillF (loffer σ evs) room).2.2 from fs.2.2]; rfl))) (by (show un + 3 + 1 < cLine); k_extra "rm") P.lgO (fun f hf => ⟨inZ _ (hdl f hf).1, (hdl f hf).2⟩) ?_
  k_extra "WC"
  refine wpN_execs_nil ?_
  dsimp only
  have dC8 : ∃ k f, DA ecF k f ∧ f (Str.ofString "paths") = some (.ref σ.paths) := ⟨_, _, dF, aF3⟩
  have hZA : ∀ p ∈ entA σ.as, p ∈ Z := fun p hp => hZ p (List.mem_append_right _ (List.mem_append_left _ hp))
  rcases Bool.eq_false_or_eq_true (isTried σ compl) with ht | ht
  · have hi : isTried (σ.put σ.ep σ.np ec nc) compl = true := ht
    rw [hi, if_pos rfl] at aF2
    rw [ht] at F1
    refine wpN_execs_cons (wpN_of_any ?_)
    k_extra "WC"
    exact law_8 X T hd hu K dC8 P.dP hZA F1 hD2 hB2 hQ
  · have hi : isTried (σ.put σ.ep σ.np ec nc) compl = false := ht
    rw [hi, if_neg (by decide)] at aF2
    rw [ht] at F1
    refine wpN_execs_cons (wpN_of_any ?_)
    k_extra "WC"
    exact law_8 X T hd hu K dC8 P.dP hZA F1 hD2 hB2 hQ
end law_7
theorem law_7 {w : World} {dp : Nat} {un : Nat} {fr : Option (List Env)} {gd : Option (List Code)} {s : Shared} {p : Program} {loose : List Str} {mean : ExcName → Option Value} {mg : Str → Option Value} {mb : Str → Option Value} {Qf : Flow → Shared → Prop} {g : Heap} {L : Addr} {σ : SA} {compl : Bool} {lg : Addr} {ow : List Wf} {evs : List Wf} {Z : List (Addr × Obj)} {TT : List Pf} {LL : List Pf} {dls : List (Addr × Obj × Lg)} {fo : Option Value} {wt : Addr} {tk : Addr} {lf : Addr} {ev : Addr} {dl : Addr} {an : Addr} {lo : Addr} {sc : Addr} {oL : Addr} {n1 : Nat} {n2 : Nat} {n3 : Nat} {n4 : Nat} {n5 : Nat} {nl : Nat} {nc : Nat} {c : Nat} {ps : Array Value} {ec : List DictEntry} {room : Int} {t1 : Tok} {spare : Value} : law_7.St0 w dp un fr gd s p loose mean mg mb Qf g L σ compl lg ow evs Z TT LL dls fo wt tk lf ev dl an lo sc oL n1 n2 n3 n4 n5 nl nc c ps ec room t1 spare :=
  @ata_spec _ law_7.ne0 0 law_7.P0 (by with_unfolding_all exact law_7.prf0) (w, dp, un, fr, gd, s, p, loose, mean, mg, mb, Qf, g, L, σ, compl, lg, ow, evs, Z, TT, LL, dls, fo, wt, tk, lf, ev, dl, an, lo, sc, oL, n1, n2, n3, n4, n5, nl, nc, c, ps, ec, room, t1, spare)
end
end
noncomputable section
open PyProof.Rows.LCg
theorem kw_88 : True := by
  k_with_none
  k_with "rm" => first | exact room_lt (by assumption) rfl | exact room_lt1 (by assumption) | lia
  k_with "g1" => refine by_goal fun zG zh => ?_
  k_with "g2" => (refine zh ?_; clear zh zG)
  k_with "fl" => ((have _h : Challenge.rw_pf0272_01 = Challenge.rw_pf0272_01 ∧ mkK.heap_1 = mkK.heap_1 := by (k_fill; exact ⟨rfl, rfl⟩)); clear _h)
  k_with "WCK" => (repeat' (first | ((with_reducible show wpAny _ _ (execs (_ :: _) _) _ _ _); (first | (k_gentoks; (set_option tactic.hygienic false in k_extra "cl")) | walk1)) | ((with_reducible show wpAny _ _ _ _ _ _); (fail_if_success (with_reducible show wpAny _ _ (eval (Expr.ListComp _ _ _ _) _) _ _ _)); (fail_if_success (with_reducible show wpAny _ _ (pyIter _) _ _ _)); (fail_if_success (with_reducible show wpAny _ _ (compareOp _ (Value.ref _) (Value.ref _)) _ _ _)); (fail_if_success (with_reducible show wpAny _ _ (exec (Stmt.Assign [Expr.Name _ _] (Expr.ListComp _ _ _ _) _) _) _ _ _)); walk1; (set_option tactic.hygienic false in k_extra "cl")) | ((with_reducible show ite _ _ _); walk1) | ((with_reducible show (Frag.In _ _ ∧ wpAny _ _ _ _ _ _)); refine And.intro (Frag.In.keeps (by assumption) (Fr.keep (by assumption))) ?_) | ((with_reducible show (Heap.get? _ _ = some _ ∧ wpAny _ _ _ _ _ _)); refine And.intro (News.get (by assumption) (by k_mem)) ?_) | ((fail_if_success (with_reducible show wpAny _ _ _ _ _ _)); dsimp only)))
  k_with "WC" => (repeat' (first | ((with_reducible show wpAny _ _ _ _ _ _); (fail_if_success (with_reducible show wpAny _ _ (eval (Expr.ListComp _ _ _ _) _) _ _ _)); (fail_if_success (with_reducible show wpAny _ _ (pyIter _) _ _ _)); (fail_if_success (with_reducible show wpAny _ _ (compareOp _ (Value.ref _) (Value.ref _)) _ _ _)); (fail_if_success (with_reducible show wpAny _ _ (exec (Stmt.Assign [Expr.Name _ _] (Expr.ListComp _ _ _ _) _) _) _ _ _)); walk1) | ((with_reducible show ite _ _ _); walk1) | ((with_reducible show (Frag.In _ _ ∧ wpAny _ _ _ _ _ _)); refine And.intro (Frag.In.keeps (by assumption) (Fr.keep (by assumption))) ?_) | ((with_reducible show (Heap.get? _ _ = some _ ∧ wpAny _ _ _ _ _ _)); refine And.intro (News.get (by assumption) (by k_mem)) ?_) | ((fail_if_success (with_reducible show wpAny _ _ _ _ _ _)); dsimp only)))
  trivial
theorem kw_86 : True := by
  k_with "storeName" => (k_here; (with_reducible show wpAny _ _ (storeName (compEnvC _ _ _ _) _ _) _ _ _); k_dflt (refine st_comp (by k_asm) (by k_asm) ?_; k_whole); intro _ _ _)
  k_with "eval Name" => (k_here; (with_reducible show wpAny _ _ (eval (Expr.Name _ _) (compEnvC _ _ _ _)) _ _ _); k_dflt (refine ld_comp (by k_asm) (by exact rfl) ?_; k_whole))
  k_with "getAttr ref" => (k_here; k_dflt (refine getA (by k_asm) (by k_asm) (by k_asm) (by k_mem) (by k_mem) (by k_asm) (by first | exact rfl | assumption) (by k_is) (by k_is) (by k_is) (by k_is) (by k_handed) ?_; k_whole))
  k_with "getMethod ref" => (k_here; k_dflt (refine methA (by k_asm) (by k_asm) (by k_asm) (by k_mem) (by k_mem) (by k_asm) (by first | exact rfl | assumption) (by k_is) (by k_is) (by k_is) (by k_handed) ?_; k_whole))
  k_with "setAttr ref" => (k_here; k_dflt (refine setA (by k_asm) (by k_asm) (by k_asm) (by k_mem) (by k_mem) (by k_asm) (by k_is) (by k_is) (by k_is) (by k_is) (by (intro _ _; k_upd)) (by first | exact Nat.le_of_ble_eq_true rfl | lia) ?_; k_whole); intro _ _ _ _ _ zN; (try dsimp only at zN); (revert zN; intro _); (try k_sweep))
  k_with "call ref" => (k_here; (with_reducible show wpAny _ _ (call (Value.ref 319) [Value.str _ _]) _ _ _); (rename Fr _ _ _ _ => F); (rename News _ _ _ _ => N); (refine space_U F N X T (by (show dp + 1 + 20 < recursionLimit); k_extra "rm") (by (show un + 3 + 200 < cLine); k_extra "rm") fun x' d' es' n' f' h' tk' l1 l2 D' F' N' => ?_); clear F N; (try k_lt l1); (try k_lt2 l2))
  k_with "call builtin:list.append" => (k_here; (with_reducible show wpAny _ _ (call (Value.builtin _) [Value.ref _, _]) _ _ _); k_dflt (refine append_K (by k_asm) (by k_asm) (by k_upd) ?_ (by assumption); k_whole); intro _ _ _; (try k_sweep))
  k_with "call ref" => (k_here; (with_reducible show wpAny _ _ (call (Value.ref 340) [Value.ref _]) _ _ _); (rename Fr _ _ _ _ => F); (rename News _ _ _ _ => N); (refine size_A F.keep X T (by (show dp + 1 + 40 < recursionLimit); k_extra "rm") (by (show un + 3 + 300 < cLine); k_extra "rm") hx1 (frO_at (N (?x.1, ?x.2.1) (by (repeat (first | exact hx3 | refine List.Mem.tail _ ?_)))).1 hx2) fun tkw hw tkw2 kw => ?_); (have Fw := fr_keep F kw); (have Nw := news_keep N kw); clear kw F N)
  k_with "subscriptTail" => (k_here; (with_reducible show wpAny _ _ (subscriptTail _ _ (Value.ref _) (Value.int _ _)) _ _ _); (rename News _ _ _ _ => N); k_dflt (refine' item_at (vs := refs (wadr (?x :: ?t))) (v := .ref ?x.1) ⟨_, (N _ (show ((?wt, W.listOf (refs (wadr (?x :: ?t))) ?nw) : Addr × Obj) ∈ _ by (repeat (first | exact hmW | refine List.Mem.tail _ ?_)))).1, rfl, _, rfl⟩ ?k2 ?k3 ?k4 ?_ ?k6; (case k2 => decide); (case k3 => decide); (case k4 => exact rfl); (case k6 => with_unfolding_all rfl); k_whole))
  k_with "subscriptTail Name Slice ref ref" => (k_here; (with_reducible show wpAny _ _ (subscriptTail _ (PySem.Expr.Slice _ _ none _) (Value.ref _) (Value.ref _)) _ _ _); (rename News _ _ _ _ => N); k_dflt (refine' kmk_slice_lit ?sF N ?sl ?sp ?sq ?se ?_ ?ss ?st ?sz; (case sF => k_asm); (case sl => exact ⟨_, (N _ (show ((?wt, W.listOf (refs (wadr (?x :: ?t))) ?nw) : Addr × Obj) ∈ _ by (repeat (first | exact hmW | refine List.Mem.tail _ ?_)))).1, rfl, _, rfl⟩); (case sp => exact IsPart.int _ _); (case sq => exact IsPart.none); (case se => exact pick_tail _ _); (case ss => with_unfolding_all rfl); (case st => kmk_pure); (case sz => exact szR _ 5 hzW (by decide))); intro D' h' F' N' l1; (try k_lt l1); (try k_sweep))
  k_with "binaryOp Add ref ref" => (k_here; (with_reducible show wpAny _ _ (binaryOp Operator.Add (Value.ref _) (Value.ref _)) _ _ _); k_dflt (refine' add_refs (l1 := List.map (·.1) ?TT) (l2 := [?x.1]) ?F ?N ?a ?b ?_ ?z; (case F => k_asm); (case N => k_asm); (case a => exact ⟨_, News.get (by assumption) (by k_mem), rfl, _, rfl⟩); (case b => exact ⟨_, News.get (by assumption) (by k_mem), rfl, _, rfl⟩); (case z => (simp; lia)); k_whole); intro D' h' F' N' l1; (try k_lt l1); (try k_sweep))
  trivial
noncomputable section
theorem kw_87 : True := by
  k_with "cl1" => first | refine no_implicit_lambda% (eps8 0 (inferInstanceAs (Box 0 IdT _)) rfl rfl ?_) | refine no_implicit_lambda% (eps7 0 (inferInstanceAs (Box 0 IdT _)) rfl rfl ?_) | refine no_implicit_lambda% (eps6 0 (inferInstanceAs (Box 0 IdT _)) rfl rfl ?_) | refine no_implicit_lambda% (eps5 0 (inferInstanceAs (Box 0 IdT _)) rfl rfl ?_) | refine no_implicit_lambda% (eps4 0 (inferInstanceAs (Box 0 IdT _)) rfl rfl ?_) | refine no_implicit_lambda% (eps3 0 (inferInstanceAs (Box 0 IdT _)) rfl rfl ?_) | refine no_implicit_lambda% (eps2 0 (inferInstanceAs (Box 0 IdT _)) rfl rfl ?_) | refine no_implicit_lambda% (epsd 0 (inferInstanceAs (Box 0 IdT _)) rfl rfl ?_)
  k_with "cl" => (set_option tactic.hygienic false in ((repeat ((first | rename Heap => q9 | rename Addr => q9 | rename Nat => q9 | rename Obj => q9 | rename Value => q9 | rename Int => q9 | rename List _ => q9 | rename Str → Option Value => q9 | rename Bool => q9 | rename Option _ => q9 | rename Array _ => q9 | rename Str => q9 | rename _ × _ => q9 | rename Shared => q9 | rename Program => q9 | rename ExcName → Option Value => q9 | rename Value → Shared → Prop => q9); revert q9)); (repeat (first | k_extra "cl1" | (with_reducible intro _)))))
  trivial
namespace law_65
noncomputable def St0 (w : World) (dp : Nat) (un : Nat) (fr : Option (List Env)) (gd : Option (List Code)) (s : Shared) (p : Program) (loose : List Str) (mean : ExcName → Option Value) (mg : Str → Option Value) (mb : Str → Option Value) (Qf : Flow → Shared → Prop) (g : Heap) (L : Addr) (σ : SA) (compl : Bool) (lg : Addr) (ow : List Wf) (evs : List Wf) (Z : List (Addr × Obj)) (TT : List Pf) (LL : List Pf) (dls : List (Addr × Obj × Lg)) (fo : Option Value) (wt : Addr) (tk : Addr) (lf : Addr) (ev : Addr) (dl : Addr) (an : Addr) (lo : Addr) (sc : Addr) (oL : Addr) (n1 : Nat) (n2 : Nat) (n3 : Nat) (n4 : Nat) (n5 : Nat) (nl : Nat) (nc : Nat) (c : Nat) (ps : Array Value) (ec : List DictEntry) (room : Int) (t1 : Tok) (spare : Value) : Prop := ∀ (X : (mkK.heap_1 w.params).In g) (T : Top p loose mean mg mb g) (hd : dp + 200 < recursionLimit) (hu : un + 2000 < cLine) (K : LawC w σ compl lg ow) (hroom : 0 ≤ room ∧ room ≤ 60) (hC : ∃ k f, DA ec k f ∧ k ≤ 31 ∧ f (Str.ofString "owed") = some (.ref lo) ∧ ∀ y, y ≠ Str.ofString "owed" → getL y σ.ec = some (f y)) (hZ : ∀ p ∈ stZ σ ++ (entA σ.as ++ (ents σ.ws ++ ents ow)), p ∈ Z) (hev : ∀ f ∈ evs, FrO f.2.1 f.2.2 ∧ (f.1, f.2.1) ∈ Z) (hdl : ∀ f ∈ dls, (f.1, f.2.1) ∈ Z ∧ LgO f.2.1 f.2.2) (evF : evs.map (·.2.2) = ow.map (·.2.2) ++ (heres σ.as ++ (if isTried σ compl then [Fd.chal b2] else []))) (hTT : TT = (fillF (loffer σ evs) room).1 ++ drT (σ.ws.map pf) (fillF (loffer σ evs) room).2.2) (hLL : LL = (fillF (loffer σ evs) room).2.1) (hdls : dls.map (·.2.2) = (if isTried σ compl then [.tried] else []) ++ (drR (σ.ws.map pf) (fillF (loffer σ evs) room).2.2).map Lg.room) (F : Fr g L s.heap (lawM fo wt tk lf ev dl an sc lg oL σ.conn σ.l2 room t1 spare σ.wants)) (N : News g L s.heap (lawE7 σ tk lf dl an lo lg TT LL dls ow n1 n2 n3 n4 n5 nl #[] ps ec nc σ.ep σ.np ++ lawW σ :: Z)) (B : Bel ((lawE7 σ tk lf dl an lo lg TT LL dls ow n1 n2 n3 n4 n5 nl #[] ps ec nc σ.ep σ.np ++ lawW σ :: Z).map (·.1)) c) (hQ : LDone g s Qf),
   wpN (model Challenge.pw_pf0272_01 w) ((Ak dp un fr gd).deeper (lwEnv L)) (execs (lwBody.drop 12) (lwEnv L)) Qf (fun _ _ => False) s
noncomputable abbrev Ty0 : Type := (World) × (Nat) × (Nat) × (Option (List Env)) × (Option (List Code)) × (Shared) × (Program) × (List Str) × (ExcName → Option Value) × (Str → Option Value) × (Str → Option Value) × (Flow → Shared → Prop) × (Heap) × (Addr) × (SA) × (Bool) × (Addr) × (List Wf) × (List Wf) × (List (Addr × Obj)) × (List Pf) × (List Pf) × (List (Addr × Obj × Lg)) × (Option Value) × (Addr) × (Addr) × (Addr) × (Addr) × (Addr) × (Addr) × (Addr) × (Addr) × (Addr) × (Nat) × (Nat) × (Nat) × (Nat) × (Nat) × (Nat) × (Nat) × (Nat) × (Array Value) × (List DictEntry) × (Int) × (Tok) × (Value)
theorem ne0 : Nonempty Ty0 := ⟨Classical.choice neW, Classical.choice inferInstance, Classical.choice inferInstance, Classical.choice inferInstance, Classical.choice inferInstance, Classical.choice neS, Classical.choice inferInstance, Classical.choice inferInstance, Classical.choice inferInstance, Classical.choice inferInstance, Classical.choice inferInstance, Classical.choice inferInstance, Classical.choice inferInstance, Classical.choice inferInstance, Classical.choice neSA, Classical.choice inferInstance, Classical.choice inferInstance, Classical.choice inferInstance, Classical.choice inferInstance, Classical.choice inferInstance, Classical.choice inferInstance, Classical.choice inferInstance, Classical.choice inferInstance, Classical.choice inferInstance, Classical.choice inferInstance, Classical.choice inferInstance, Classical.choice inferInstance, Classical.choice inferInstance, Classical.choice inferInstance, Classical.choice inferInstance, Classical.choice inferInstance, Classical.choice inferInstance, Classical.choice inferInstance, Classical.choice inferInstance, Classical.choice inferInstance, Classical.choice inferInstance, Classical.choice inferInstance, Classical.choice inferInstance, Classical.choice inferInstance, Classical.choice inferInstance, Classical.choice inferInstance, Classical.choice inferInstance, Classical.choice inferInstance, Classical.choice inferInstance, Classical.choice inferInstance, Classical.choice inferInstance⟩
noncomputable def P0 (vv0 : Ty0) : Prop := St0 (vv0.1) (vv0.2.1) (vv0.2.2.1) (vv0.2.2.2.1) (vv0.2.2.2.2.1) (vv0.2.2.2.2.2.1) (vv0.2.2.2.2.2.2.1) (vv0.2.2.2.2.2.2.2.1) (vv0.2.2.2.2.2.2.2.2.1) (vv0.2.2.2.2.2.2.2.2.2.1) (vv0.2.2.2.2.2.2.2.2.2.2.1) (vv0.2.2.2.2.2.2.2.2.2.2.2.1) (vv0.2.2.2.2.2.2.2.2.2.2.2.2.1) (vv0.2.2.2.2.2.2.2.2.2.2.2.2.2.1) (vv0.2.2.2.2.2.2.2.2.2.2.2.2.2.2.1) (vv0.2.2.2.2.2.2.2.2.2.2.2.2.2.2.2.1) (vv0.2.2.2.2.2.2.2.2.2.2.2.2.2.2.2.2.1) (vv0.2.2.2.2.2.2.2.2.2.2.2.2.2.2.2.2.2.1) (vv0.2.2.2.2.2.2.2.2.2.2.2.2.2.2.2.2.2.2.1) (vv0.2.2.2.2.2.2.2.2.2.2.2.2.2.2.2.2.2.2.2.1) (vv0.2.2.2.2.2.2.2.2.2.2.2.2.2.2.2.2.2.2.2.2.1) (vv0.2.2.2.2.2.2.2.2.2.2.2.2.2.2.2.2.2.2.2.2.2.1) (vv0.2.2.2.2.2.2.2.2.2.2.2.2.2.2.2.2.2.2.2.2.2.2.1) (vv0.2.2.2.2.2.2.2.2.2.2.2.2.2.2.2.2.2.2.2.2.2.2.2.1) (vv0.2.2.2.2.2.2.2.2.2.2.2.2.2.2.2.2.2.2.2.2.2.2.2.2.1) (vv0.2.2.2.2.2.2.2.2.2.2.2.2.2.2.2.2.2.2.2.2.2.2.2.2.2.1) (vv0.2.2.2.2.2.2.2.2.2.2.2.2.2.2.2.2.2.2.2.2.2.2.2.2.2.2.1) (vv0.2.2.2.2.2.2.2.2.2.2.2.2.2.2.2.2.2.2.2.2.2.2.2.2.2.2.2.1) (vv0.2.2.2.2.2.2.2.2.2.2.2.2.2.2.2.2.2.2.2.2.2.2.2.2.2.2.2.2.1) (vv0.2.2.2.2.2.2.2.2.2.2.2.2.2.2.2.2.2.2.2.2.2.2.2.2.2.2.2.2.2.1) (vv0.2.2.2.2.2.2.2.2.2.2.2.2.2.2.2.2.2.2.2.2.2.2.2.2.2.2.2.2.2.2.1) (vv0.2.2.2.2.2.2.2.2.2.2.2.2.2.2.2.2.2.2.2.2.2.2.2.2.2.2.2.2.2.2.2.1) (vv0.2.2.2.2.2.2.2.2.2.2.2.2.2.2.2.2.2.2.2.2.2.2.2.2.2.2.2.2.2.2.2.2.1) (vv0.2.2.2.2.2.2.2.2.2.2.2.2.2.2.2.2.2.2.2.2.2.2.2.2.2.2.2.2.2.2.2.2.2.1) (vv0.2.2.2.2.2.2.2.2.2.2.2.2.2.2.2.2.2.2.2.2.2.2.2.2.2.2.2.2.2.2.2.2.2.2.1) (vv0.2.2.2.2.2.2.2.2.2.2.2.2.2.2.2.2.2.2.2.2.2.2.2.2.2.2.2.2.2.2.2.2.2.2.2.1) (vv0.2.2.2.2.2.2.2.2.2.2.2.2.2.2.2.2.2.2.2.2.2.2.2.2.2.2.2.2.2.2.2.2.2.2.2.2.1) (vv0.2.2.2.2.2.2.2.2.2.2.2.2.2.2.2.2.2.2.2.2.2.2.2.2.2.2.2.2.2.2.2.2.2.2.2.2.2.1) (vv0.2.2.2.2.2.2.2.2.2.2.2.2.2.2.2.2.2.2.2.2.2.2.2.2.2.2.2.2.2.2.2.2.2.2.2.2.2.2.1) (vv0.2.2.2.2.2.2.2.2.2.2.2.2.2.2.2.2.2.2.2.2.2.2.2.2.2.2.2.2.2.2.2.2.2.2.2.2.2.2.2.1) (vv0.2.2.2.2.2.2.2.2.2.2.2.2.2.2.2.2.2.2.2.2.2.2.2.2.2.2.2.2.2.2.2.2.2.2.2.2.2.2.2.2.1) (vv0.2.2.2.2.2.2.2.2.2.2.2.2.2.2.2.2.2.2.2.2.2.2.2.2.2.2.2.2.2.2.2.2.2.2.2.2.2.2.2.2.2.1) (vv0.2.2.2.2.2.2.2.2.2.2.2.2.2.2.2.2.2.2.2.2.2.2.2.2.2.2.2.2.2.2.2.2.2.2.2.2.2.2.2.2.2.2.1) (vv0.2.2.2.2.2.2.2.2.2.2.2.2.2.2.2.2.2.2.2.2.2.2.2.2.2.2.2.2.2.2.2.2.2.2.2.2.2.2.2.2.2.2.2.1) (vv0.2.2.2.2.2.2.2.2.2.2.2.2.2.2.2.2.2.2.2.2.2.2.2.2.2.2.2.2.2.2.2.2.2.2.2.2.2.2.2.2.2.2.2.2.1) (vv0.2.2.2.2.2.2.2.2.2.2.2.2.2.2.2.2.2.2.2.2.2.2.2.2.2.2.2.2.2.2.2.2.2.2.2.2.2.2.2.2.2.2.2.2.2)
@[irreducible] def vv0 : Ty0 := @ata _ ne0 0 P0
@[irreducible] def w : World := vv0.1
@[irreducible] def dp : Nat := vv0.2.1
@[irreducible] def un : Nat := vv0.2.2.1
@[irreducible] def fr : Option (List Env) := vv0.2.2.2.1
@[irreducible] def s : Shared := vv0.2.2.2.2.2.1
@[irreducible] def p : Program := vv0.2.2.2.2.2.2.1
@[irreducible] def mb : Str → Option Value := vv0.2.2.2.2.2.2.2.2.2.2.1
@[irreducible] def g : Heap := vv0.2.2.2.2.2.2.2.2.2.2.2.2.1
@[irreducible] def L : Addr := vv0.2.2.2.2.2.2.2.2.2.2.2.2.2.1
@[irreducible] def σ : SA := vv0.2.2.2.2.2.2.2.2.2.2.2.2.2.2.1
@[irreducible] def compl : Bool := vv0.2.2.2.2.2.2.2.2.2.2.2.2.2.2.2.1
@[irreducible] def ow : List Wf := vv0.2.2.2.2.2.2.2.2.2.2.2.2.2.2.2.2.2.1
@[irreducible] def Z : List (Addr × Obj) := vv0.2.2.2.2.2.2.2.2.2.2.2.2.2.2.2.2.2.2.2.1
@[irreducible] def TT : List Pf := vv0.2.2.2.2.2.2.2.2.2.2.2.2.2.2.2.2.2.2.2.2.1
@[irreducible] def LL : List Pf := vv0.2.2.2.2.2.2.2.2.2.2.2.2.2.2.2.2.2.2.2.2.2.1
@[irreducible] def dls : List (Addr × Obj × Lg) := vv0.2.2.2.2.2.2.2.2.2.2.2.2.2.2.2.2.2.2.2.2.2.2.1
@[irreducible] def fo : Option Value := vv0.2.2.2.2.2.2.2.2.2.2.2.2.2.2.2.2.2.2.2.2.2.2.2.1
@[irreducible] def wt : Addr := vv0.2.2.2.2.2.2.2.2.2.2.2.2.2.2.2.2.2.2.2.2.2.2.2.2.1
@[irreducible] def ev : Addr := vv0.2.2.2.2.2.2.2.2.2.2.2.2.2.2.2.2.2.2.2.2.2.2.2.2.2.2.2.1
@[irreducible] def dl : Addr := vv0.2.2.2.2.2.2.2.2.2.2.2.2.2.2.2.2.2.2.2.2.2.2.2.2.2.2.2.2.1
@[irreducible] def an : Addr := vv0.2.2.2.2.2.2.2.2.2.2.2.2.2.2.2.2.2.2.2.2.2.2.2.2.2.2.2.2.2.1
@[irreducible] def lo : Addr := vv0.2.2.2.2.2.2.2.2.2.2.2.2.2.2.2.2.2.2.2.2.2.2.2.2.2.2.2.2.2.2.1
@[irreducible] def sc : Addr := vv0.2.2.2.2.2.2.2.2.2.2.2.2.2.2.2.2.2.2.2.2.2.2.2.2.2.2.2.2.2.2.2.1
@[irreducible] def nl : Nat := vv0.2.2.2.2.2.2.2.2.2.2.2.2.2.2.2.2.2.2.2.2.2.2.2.2.2.2.2.2.2.2.2.2.2.2.2.2.2.2.1
@[irreducible] def nc : Nat := vv0.2.2.2.2.2.2.2.2.2.2.2.2.2.2.2.2.2.2.2.2.2.2.2.2.2.2.2.2.2.2.2.2.2.2.2.2.2.2.2.1
@[irreducible] def c : Nat := vv0.2.2.2.2.2.2.2.2.2.2.2.2.2.2.2.2.2.2.2.2.2.2.2.2.2.2.2.2.2.2.2.2.2.2.2.2.2.2.2.2.1
@[irreducible] def ps : Array Value := vv0.2.2.2.2.2.2.2.2.2.2.2.2.2.2.2.2.2.2.2.2.2.2.2.2.2.2.2.2.2.2.2.2.2.2.2.2.2.2.2.2.2.1
@[irreducible] def ec : List DictEntry := vv0.2.2.2.2.2.2.2.2.2.2.2.2.2.2.2.2.2.2.2.2.2.2.2.2.2.2.2.2.2.2.2.2.2.2.2.2.2.2.2.2.2.2.1
@[irreducible] def room : Int := vv0.2.2.2.2.2.2.2.2.2.2.2.2.2.2.2.2.2.2.2.2.2.2.2.2.2.2.2.2.2.2.2.2.2.2.2.2.2.2.2.2.2.2.2.1
theorem prf0 : St0 w dp un fr (vv0.2.2.2.2.1) s p (vv0.2.2.2.2.2.2.2.1) (vv0.2.2.2.2.2.2.2.2.1) (vv0.2.2.2.2.2.2.2.2.2.1) mb (vv0.2.2.2.2.2.2.2.2.2.2.2.1) g L σ compl (vv0.2.2.2.2.2.2.2.2.2.2.2.2.2.2.2.2.1) ow (vv0.2.2.2.2.2.2.2.2.2.2.2.2.2.2.2.2.2.2.1) Z TT LL dls fo wt (vv0.2.2.2.2.2.2.2.2.2.2.2.2.2.2.2.2.2.2.2.2.2.2.2.2.2.1) (vv0.2.2.2.2.2.2.2.2.2.2.2.2.2.2.2.2.2.2.2.2.2.2.2.2.2.2.1) ev dl an lo sc (vv0.2.2.2.2.2.2.2.2.2.2.2.2.2.2.2.2.2.2.2.2.2.2.2.2.2.2.2.2.2.2.2.2.1) (vv0.2.2.2.2.2.2.2.2.2.2.2.2.2.2.2.2.2.2.2.2.2.2.2.2.2.2.2.2.2.2.2.2.2.1) (vv0.2.2.2.2.2.2.2.2.2.2.2.2.2.2.2.2.2.2.2.2.2.2.2.2.2.2.2.2.2.2.2.2.2.2.1) (vv0.2.2.2.2.2.2.2.2.2.2.2.2.2.2.2.2.2.2.2.2.2.2.2.2.2.2.2.2.2.2.2.2.2.2.2.1) (vv0.2.2.2.2.2.2.2.2.2.2.2.2.2.2.2.2.2.2.2.2.2.2.2.2.2.2.2.2.2.2.2.2.2.2.2.2.1) (vv0.2.2.2.2.2.2.2.2.2.2.2.2.2.2.2.2.2.2.2.2.2.2.2.2.2.2.2.2.2.2.2.2.2.2.2.2.2.1) nl nc c ps ec room (vv0.2.2.2.2.2.2.2.2.2.2.2.2.2.2.2.2.2.2.2.2.2.2.2.2.2.2.2.2.2.2.2.2.2.2.2.2.2.2.2.2.2.2.2.2.1) (vv0.2.2.2.2.2.2.2.2.2.2.2.2.2.2.2.2.2.2.2.2.2.2.2.2.2.2.2.2.2.2.2.2.2.2.2.2.2.2.2.2.2.2.2.2.2) := by
  intro X T hd hu K hroom hC hZ hev hdl evF hTT hLL hdls F N B hQ
  k_extra "fl"
  conv in (occs := *) List.drop _ lwBody => whnf
  unfold lwEnv
  conv in (occs := *) lwScope => whnf
  k_extra "g1"
  obtain ⟨kH, fH, dH, hkH, aH⟩ := K.ok.dH
  k_extra "g2"
  k_extra "g1"
  obtain ⟨kC, fC, dC, hkC, aCw, aCo⟩ := id hC
  k_extra "g2"
  k_extra "g1"
  obtain ⟨kC0, fC0, tC0, dC0, -, a1, a2, a3, a4, a5, a6⟩ := K.ok.dC
  k_extra "g2"
  have aC3 : fC (Str.ofString "shake") = some (.ref σ.shk) := by
    have e := (dC0.1 _).symm.trans (aCo (Str.ofString "shake") (by decide))
    rw [← Option.some.inj e]; exact a3
  have N0 := N
  simp only [lawE7, lawW, List.cons_append, List.nil_append] at N
  k_extra "cl"
  refine wpN_execs_cons (wpN_of_any ?_)
  cases hwt : σ.wants with
  | false =>
    have ht : isTried σ compl = false := by simp [isTried, hwt]
    rw [hwt] at F
    k_extra "WCK"
    rename Fr _ _ _ _ => F9
    rename News _ _ _ _ => N9
    exact law_7 X T hd hu K hroom hC hZ hev hdl evF hTT hLL hdls (by rw [ht, hwt]; exact F9) N9 B hQ
  | true =>
    rw [hwt] at F
    cases hcp : compl with
    | false =>
      rw [hcp] at aH
      have ht : isTried σ compl = false := by simp [isTried, hcp]
      k_extra "WCK"
      rename Fr _ _ _ _ => F9
      rename News _ _ _ _ => N9
      exact law_7 X T hd hu K hroom hC hZ hev hdl evF hTT hLL hdls (by rw [ht, hwt]; exact F9) N9 B hQ
    | true =>
      rw [hcp] at aH
      have ht : isTried σ compl = true := by simp [isTried, hwt, hcp]
      k_extra "WCK"
      rename Fr _ _ _ _ => F9
      rename News _ _ _ _ => N9
      exact law_7 X T hd hu K hroom hC hZ hev hdl evF hTT hLL hdls (by rw [ht, hwt]; exact F9) N9 B hQ
end law_65
theorem law_65 {w : World} {dp : Nat} {un : Nat} {fr : Option (List Env)} {gd : Option (List Code)} {s : Shared} {p : Program} {loose : List Str} {mean : ExcName → Option Value} {mg : Str → Option Value} {mb : Str → Option Value} {Qf : Flow → Shared → Prop} {g : Heap} {L : Addr} {σ : SA} {compl : Bool} {lg : Addr} {ow : List Wf} {evs : List Wf} {Z : List (Addr × Obj)} {TT : List Pf} {LL : List Pf} {dls : List (Addr × Obj × Lg)} {fo : Option Value} {wt : Addr} {tk : Addr} {lf : Addr} {ev : Addr} {dl : Addr} {an : Addr} {lo : Addr} {sc : Addr} {oL : Addr} {n1 : Nat} {n2 : Nat} {n3 : Nat} {n4 : Nat} {n5 : Nat} {nl : Nat} {nc : Nat} {c : Nat} {ps : Array Value} {ec : List DictEntry} {room : Int} {t1 : Tok} {spare : Value} : law_65.St0 w dp un fr gd s p loose mean mg mb Qf g L σ compl lg ow evs Z TT LL dls fo wt tk lf ev dl an lo sc oL n1 n2 n3 n4 n5 nl nc c ps ec room t1 spare :=
  @ata_spec _ law_65.ne0 0 law_65.P0 (by with_unfolding_all exact law_65.prf0) (w, dp, un, fr, gd, s, p, loose, mean, mg, mb, Qf, g, L, σ, compl, lg, ow, evs, Z, TT, LL, dls, fo, wt, tk, lf, ev, dl, an, lo, sc, oL, n1, n2, n3, n4, n5, nl, nc, c, ps, ec, room, t1, spare)
theorem lawM_turn6 {fo : Option Value} {wt wt' tk tk' lf ev dl an sc lg oL cn l2 : Addr} {room : Int} {t1 : Tok} {sp sp' : Value} {wants : Bool} : (fun y => if y = Str.ofString "taken" then some (Value.ref tk') else if y = Str.ofString "waiting" then some (Value.ref wt') else if y = Str.ofString "spare" then some sp' else lawM fo wt tk lf ev dl an sc lg oL cn l2 room t1 sp wants y) = lawM fo wt' tk' lf ev dl an sc lg oL cn l2 room t1 sp' wants := by
  funext y
  by_cases e1 : y = Str.ofString "taken"
  · subst e1; rfl
  by_cases e2 : y = Str.ofString "waiting"
  · subst e2; rfl
  by_cases e3 : y = Str.ofString "spare"
  · subst e3; rfl
  rw [if_neg e1, if_neg e2, if_neg e3]
  unfold lawM lk
  congr 1
  have b1 : (y == Str.ofString "taken") = false := by simpa using e1
  have b2 : (y == Str.ofString "waiting") = false := by simpa using e2
  have b3 : (y == Str.ofString "spare") = false := by simpa using e3
  simp only [List.lookup_cons, b1, b2, b3]
noncomputable def Inv6 (σ : SA) (compl : Bool) (lg lf ev dl an lo sc oL : Addr) (LL T0 : List Pf) (ow : List Wf) (n2 n4 n5 nl nc : Nat) (ps : Array Value) (ec : List DictEntry) (room r0 : Int) (t1 : Tok) (fo : Option Value) (Z : List (Addr × Obj)) (g : Heap) (L : Addr) (s : Shared) (n : Nat) (s' : Shared) : Prop :=
  ∃ h' tk' cur rr tr wt nw tkA TT n1 n3 dls Z', s' = { s with heap := h', toks := tk' } ∧ Fr g L h' (lawM fo wt tkA lf ev dl an sc lg oL σ.conn σ.l2 room t1 (.int rr tr) σ.wants) ∧ News g L h' (lawE7 σ tkA lf dl an lo lg TT LL dls ow n1 n2 n3 n4 n5 nl #[] ps ec nc σ.ep σ.np ++ lawW σ :: Z') ∧ (∃ c, Bel ((lawE7 σ tkA lf dl an lo lg TT LL dls ow n1 n2 n3 n4 n5 nl #[] ps ec nc σ.ep σ.np ++ lawW σ :: Z').map (·.1)) c) ∧
     (wt, W.listOf (refs (wadr cur)) nw) ∈ (lawE7 σ tkA lf dl an lo lg TT LL dls ow n1 n2 n3 n4 n5 nl #[] ps ec nc σ.ep σ.np).drop 3 ++ lawW σ :: Z' ∧ n = cur.length ∧ (∀ x ∈ cur, x ∈ σ.ws) ∧ cur.length ≤ 3 ∧ 0 ≤ rr ∧ rr ≤ 60 ∧ TT ++ drT (cur.map pf) rr = T0 ++ drT (σ.ws.map pf) r0 ∧ dls.map (·.2.2) ++ ((drR (cur.map pf) rr).drop 1).map Lg.room = (if isTried σ compl then [.tried] else []) ++ (drR (σ.ws.map pf) r0).map Lg.room ∧ TT.length + cur.length ≤ 15 ∧ dls.length + cur.length ≤ 10 ∧ (∀ f ∈ dls, (f.1, f.2.1) ∈ Z' ∧ LgO f.2.1 f.2.2) ∧ ∀ p ∈ Z, p ∈ Z'
theorem norm6 {σ : SA} {compl : Bool} {g h : Heap} {s : Shared} {L tk lf dl an lo lg wt ev sc oL c1 c2 c3 c4 c5 c6 : Addr} {TT T0 LL : List Pf} {dls : List (Addr × Obj × Lg)} {ow t : List Wf} {n1 n2 n4 n5 nl nc k3 k4 kd c tk' : Nat} {ps : Array Value} {ec : List DictEntry} {Z Z' : List (Addr × Obj)} {o1 o2 o5 o6 : Obj} {x : Wf} {rr r0 room : Int} {t1 tr tt : Tok} {fo : Option Value}
   (F : Fr g L h (fun y => if y = Str.ofString "taken" then some (Value.ref c3) else if y = Str.ofString "waiting" then some (Value.ref c4) else if y = Str.ofString "spare" then some (.int (rr - x.2.2.sz) tt) else lawM fo wt tk lf ev dl an sc lg oL σ.conn σ.l2 room t1 (.int rr tr) σ.wants y))
   (N : News g L h ((c6, o6) :: (c5, o5) :: (c4, W.listOf (refs (wadr t)) k4) :: (c3, W.listOf (refs (TT.map (·.1) ++ [x.1])) k3) :: (c2, o2) :: (c1, o1) :: (tk, W.listOf (refs (TT.map (·.1))) n1) :: (lf, W.listOf (refs (LL.map (·.1))) n2) :: (dl, W.listOf ((refs (dls.map (·.1))).push (.ref c6)) kd) :: ((lawE7 σ tk lf dl an lo lg TT LL dls ow n1 n2 kd n4 n5 nl #[] ps ec nc σ.ep σ.np).drop 3 ++ lawW σ :: Z')))
   (B : Bel (((c6, o6) :: (c5, o5) :: (c4, W.listOf (refs (wadr t)) k4) :: (c3, W.listOf (refs (TT.map (·.1) ++ [x.1])) k3) :: (c2, o2) :: (c1, o1) :: (tk, W.listOf (refs (TT.map (·.1))) n1) :: (lf, W.listOf (refs (LL.map (·.1))) n2) :: (dl, W.listOf ((refs (dls.map (·.1))).push (.ref c6)) kd) :: ((lawE7 σ tk lf dl an lo lg TT LL dls ow n1 n2 kd n4 n5 nl #[] ps ec nc σ.ep σ.np).drop 3 ++ lawW σ :: Z')).map (·.1)) c)
   (ho : LgO o6 (.room (rr - x.2.2.sz))) (hcur : ∀ y ∈ x :: t, y ∈ σ.ws) (hc3 : (x :: t).length ≤ 3) (hra : 0 ≤ rr) (hrb : rr ≤ 60) (hle : x.2.2.sz ≤ rr) (hpos : 1 ≤ x.2.2.sz)
   (hTT : TT ++ drT ((x :: t).map pf) rr = T0 ++ drT (σ.ws.map pf) r0) (hLL : dls.map (·.2.2) ++ ((drR ((x :: t).map pf) rr).drop 1).map Lg.room = (if isTried σ compl then [.tried] else []) ++ (drR (σ.ws.map pf) r0).map Lg.room)
   (hTl : TT.length + (x :: t).length ≤ 15) (hDl : dls.length + (x :: t).length ≤ 10) (hdl : ∀ f ∈ dls, (f.1, f.2.1) ∈ Z' ∧ LgO f.2.1 f.2.2) (hZZ : ∀ p ∈ Z, p ∈ Z') :
   Inv6 σ compl lg lf ev dl an lo sc oL LL T0 ow n2 n4 n5 nl nc ps ec room r0 t1 fo Z g L s t.length { s with heap := h, toks := tk' } := by
  have e1 : TT.map (·.1) ++ [x.1] = (TT ++ [pf x]).map (·.1) := by simp [pf]
  rw [e1] at N B
  rw [refs_lg _ _ o6 (.room (rr - x.2.2.sz))] at N B
  rw [lawM_turn6] at F
  have h2 : (pf x).2.sz ≤ rr := hle
  have N2 := news_pick (l := [(c6, o6), (c5, o5), (c4, W.listOf (refs (wadr t)) k4), (c3, W.listOf (refs ((TT ++ [pf x]).map (·.1))) k3), (c2, o2), (c1, o1), (tk, W.listOf (refs (TT.map (·.1))) n1), (lf, W.listOf (refs (LL.map (·.1))) n2), (dl, W.listOf (refs ((dls ++ [(c6, o6, Lg.room (rr - x.2.2.sz))]).map (·.1))) kd)] ++ ((lawE7 σ tk lf dl an lo lg TT LL dls ow n1 n2 kd n4 n5 nl #[] ps ec nc σ.ep σ.np).drop 3 ++ [lawW σ])) (Z := Z') N [3, 7, 8, 9, 10, 11, 12, 13, 14, 15, 16, 17, 18, 19, 20, 21, 22, 2, 0]
    (bs := lawE7 σ c3 lf dl an lo lg (TT ++ [pf x]) LL (dls ++ [(c6, o6, Lg.room (rr - x.2.2.sz))]) ow k3 n2 kd n4 n5 nl #[] ps ec nc σ.ep σ.np ++ [lawW σ, (c4, W.listOf (refs (wadr t)) k4), (c6, o6)]) rfl
  have B2 := bel_pick (l := [(c6, o6), (c5, o5), (c4, W.listOf (refs (wadr t)) k4), (c3, W.listOf (refs ((TT ++ [pf x]).map (·.1))) k3), (c2, o2), (c1, o1), (tk, W.listOf (refs (TT.map (·.1))) n1), (lf, W.listOf (refs (LL.map (·.1))) n2), (dl, W.listOf (refs ((dls ++ [(c6, o6, Lg.room (rr - x.2.2.sz))]).map (·.1))) kd)] ++ ((lawE7 σ tk lf dl an lo lg TT LL dls ow n1 n2 kd n4 n5 nl #[] ps ec nc σ.ep σ.np).drop 3 ++ [lawW σ])) (Z := Z') B [3, 7, 8, 9, 10, 11, 12, 13, 14, 15, 16, 17, 18, 19, 20, 21, 22, 2, 0]
    (bs := lawE7 σ c3 lf dl an lo lg (TT ++ [pf x]) LL (dls ++ [(c6, o6, Lg.room (rr - x.2.2.sz))]) ow k3 n2 kd n4 n5 nl #[] ps ec nc σ.ep σ.np ++ [lawW σ, (c4, W.listOf (refs (wadr t)) k4), (c6, o6)]) rfl (by decide)
  simp only [List.length_cons] at hc3 hTl hDl
  refine ⟨_, _, t, rr - x.2.2.sz, tt, c4, k4, c3, TT ++ [pf x], k3, kd, dls ++ [(c6, o6, Lg.room (rr - x.2.2.sz))], (c4, W.listOf (refs (wadr t)) k4) :: (c6, o6) :: Z', rfl, F, N2, ⟨_, B2⟩, List.mem_append_right _ (.tail _ (.head _)), rfl, fun y hy => hcur y (.tail _ hy), by lia, by lia, by lia, ?_, ?_, by simp; lia, by simp; lia, ?_, fun p hp => .tail _ (.tail _ (hZZ p hp))⟩
  · rw [← hTT]; simp only [List.map_cons, drT, if_pos h2, List.append_assoc, List.cons_append, List.nil_append]; rfl
  · rw [← hLL]
    simp only [List.map_cons, drR, if_pos h2]
    show _ = List.map (·.2.2) dls ++ List.map Lg.room (drR (List.map pf t) (rr - x.2.2.sz))
    conv => rhs; rw [drR_head (t.map pf) (rr - x.2.2.sz)]
    simp
  · intro f hf
    rcases List.mem_append.mp hf with hf | hf
    · exact ⟨.tail _ (.tail _ (hdl f hf).1), (hdl f hf).2⟩
    · rw [List.mem_singleton.mp hf]; exact ⟨.tail _ (.head _), ho⟩
namespace law_6
noncomputable def St0 (w : World) (dp : Nat) (un : Nat) (fr : Option (List Env)) (gd : Option (List Code)) (s : Shared) (p : Program) (loose : List Str) (mean : ExcName → Option Value) (mg : Str → Option Value) (mb : Str → Option Value) (Qf : Flow → Shared → Prop) (g : Heap) (L : Addr) (σ : SA) (compl : Bool) (lg : Addr) (ow : List Wf) (evs : List Wf) (Z : List (Addr × Obj)) (T0 : List Pf) (LL : List Pf) (dls : List (Addr × Obj × Lg)) (fo : Option Value) (tk : Addr) (lf : Addr) (ev : Addr) (dl : Addr) (an : Addr) (lo : Addr) (sc : Addr) (oL : Addr) (n1 : Nat) (n2 : Nat) (n3 : Nat) (n4 : Nat) (n5 : Nat) (nl : Nat) (nc : Nat) (c : Nat) (ps : Array Value) (ec : List DictEntry) (room : Int) (r0 : Int) (t1 : Tok) (t2 : Tok) : Prop := ∀ (X : (mkK.heap_1 w.params).In g) (T : Top p loose mean mg mb g) (hd : dp + 200 < recursionLimit) (hu : un + 2000 < cLine) (K : LawC w σ compl lg ow) (hroom : 0 ≤ room ∧ room ≤ 60) (hC : ∃ k f, DA ec k f ∧ k ≤ 31 ∧ f (Str.ofString "owed") = some (.ref lo) ∧ ∀ y, y ≠ Str.ofString "owed" → getL y σ.ec = some (f y)) (hZ : ∀ p ∈ stZ σ ++ (entA σ.as ++ (ents σ.ws ++ ents ow)), p ∈ Z) (hev : ∀ f ∈ evs, FrO f.2.1 f.2.2 ∧ (f.1, f.2.1) ∈ Z) (hdl : ∀ f ∈ dls, (f.1, f.2.1) ∈ Z ∧ LgO f.2.1 f.2.2) (evF : evs.map (·.2.2) = ow.map (·.2.2) ++ (heres σ.as ++ (if isTried σ compl then [Fd.chal b2] else []))) (evL : evs.length ≤ 6) (hT0 : T0 = (fillF (loffer σ evs) room).1) (hLL : LL = (fillF (loffer σ evs) room).2.1) (hr0 : r0 = (fillF (loffer σ evs) room).2.2) (hrb : 0 ≤ r0 ∧ r0 ≤ 60) (hTl : T0.length ≤ 10) (hdls : dls.map (·.2.2) = (if isTried σ compl then [.tried] else []) ++ [Lg.room r0]) (F : Fr g L s.heap (lawM fo σ.l1 tk lf ev dl an sc lg oL σ.conn σ.l2 room t1 (.int r0 t2) σ.wants)) (N : News g L s.heap (lawE7 σ tk lf dl an lo lg T0 LL dls ow n1 n2 n3 n4 n5 nl #[] ps ec nc σ.ep σ.np ++ lawW σ :: Z)) (B : Bel ((lawE7 σ tk lf dl an lo lg T0 LL dls ow n1 n2 n3 n4 n5 nl #[] ps ec nc σ.ep σ.np ++ lawW σ :: Z).map (·.1)) c) (hQ : LDone g s Qf),
   wpN (model Challenge.pw_pf0272_01 w) ((Ak dp un fr gd).deeper (lwEnv L)) (execs (lwBody.drop 11) (lwEnv L)) Qf (fun _ _ => False) s
noncomputable abbrev Ty0 : Type := (World) × (Nat) × (Nat) × (Option (List Env)) × (Option (List Code)) × (Shared) × (Program) × (List Str) × (ExcName → Option Value) × (Str → Option Value) × (Str → Option Value) × (Flow → Shared → Prop) × (Heap) × (Addr) × (SA) × (Bool) × (Addr) × (List Wf) × (List Wf) × (List (Addr × Obj)) × (List Pf) × (List Pf) × (List (Addr × Obj × Lg)) × (Option Value) × (Addr) × (Addr) × (Addr) × (Addr) × (Addr) × (Addr) × (Addr) × (Addr) × (Nat) × (Nat) × (Nat) × (Nat) × (Nat) × (Nat) × (Nat) × (Nat) × (Array Value) × (List DictEntry) × (Int) × (Int) × (Tok) × (Tok)
theorem ne0 : Nonempty Ty0 := ⟨Classical.choice neW, Classical.choice inferInstance, Classical.choice inferInstance, Classical.choice inferInstance, Classical.choice inferInstance, Classical.choice neS, Classical.choice inferInstance, Classical.choice inferInstance, Classical.choice inferInstance, Classical.choice inferInstance, Classical.choice inferInstance, Classical.choice inferInstance, Classical.choice inferInstance, Classical.choice inferInstance, Classical.choice neSA, Classical.choice inferInstance, Classical.choice inferInstance, Classical.choice inferInstance, Classical.choice inferInstance, Classical.choice inferInstance, Classical.choice inferInstance, Classical.choice inferInstance, Classical.choice inferInstance, Classical.choice inferInstance, Classical.choice inferInstance, Classical.choice inferInstance, Classical.choice inferInstance, Classical.choice inferInstance, Classical.choice inferInstance, Classical.choice inferInstance, Classical.choice inferInstance, Classical.choice inferInstance, Classical.choice inferInstance, Classical.choice inferInstance, Classical.choice inferInstance, Classical.choice inferInstance, Classical.choice inferInstance, Classical.choice inferInstance, Classical.choice inferInstance, Classical.choice inferInstance, Classical.choice inferInstance, Classical.choice inferInstance, Classical.choice inferInstance, Classical.choice inferInstance, Classical.choice inferInstance, Classical.choice inferInstance⟩
noncomputable def P0 (vv0 : Ty0) : Prop := St0 (vv0.1) (vv0.2.1) (vv0.2.2.1) (vv0.2.2.2.1) (vv0.2.2.2.2.1) (vv0.2.2.2.2.2.1) (vv0.2.2.2.2.2.2.1) (vv0.2.2.2.2.2.2.2.1) (vv0.2.2.2.2.2.2.2.2.1) (vv0.2.2.2.2.2.2.2.2.2.1) (vv0.2.2.2.2.2.2.2.2.2.2.1) (vv0.2.2.2.2.2.2.2.2.2.2.2.1) (vv0.2.2.2.2.2.2.2.2.2.2.2.2.1) (vv0.2.2.2.2.2.2.2.2.2.2.2.2.2.1) (vv0.2.2.2.2.2.2.2.2.2.2.2.2.2.2.1) (vv0.2.2.2.2.2.2.2.2.2.2.2.2.2.2.2.1) (vv0.2.2.2.2.2.2.2.2.2.2.2.2.2.2.2.2.1) (vv0.2.2.2.2.2.2.2.2.2.2.2.2.2.2.2.2.2.1) (vv0.2.2.2.2.2.2.2.2.2.2.2.2.2.2.2.2.2.2.1) (vv0.2.2.2.2.2.2.2.2.2.2.2.2.2.2.2.2.2.2.2.1) (vv0.2.2.2.2.2.2.2.2.2.2.2.2.2.2.2.2.2.2.2.2.1) (vv0.2.2.2.2.2.2.2.2.2.2.2.2.2.2.2.2.2.2.2.2.2.1) (vv0.2.2.2.2.2.2.2.2.2.2.2.2.2.2.2.2.2.2.2.2.2.2.1) (vv0.2.2.2.2.2.2.2.2.2.2.2.2.2.2.2.2.2.2.2.2.2.2.2.1) (vv0.2.2.2.2.2.2.2.2.2.2.2.2.2.2.2.2.2.2.2.2.2.2.2.2.1) (vv0.2.2.2.2.2.2.2.2.2.2.2.2.2.2.2.2.2.2.2.2.2.2.2.2.2.1) (vv0.2.2.2.2.2.2.2.2.2.2.2.2.2.2.2.2.2.2.2.2.2.2.2.2.2.2.1) (vv0.2.2.2.2.2.2.2.2.2.2.2.2.2.2.2.2.2.2.2.2.2.2.2.2.2.2.2.1) (vv0.2.2.2.2.2.2.2.2.2.2.2.2.2.2.2.2.2.2.2.2.2.2.2.2.2.2.2.2.1) (vv0.2.2.2.2.2.2.2.2.2.2.2.2.2.2.2.2.2.2.2.2.2.2.2.2.2.2.2.2.2.1) (vv0.2.2.2.2.2.2.2.2.2.2.2.2.2.2.2.2.2.2.2.2.2.2.2.2.2.2.2.2.2.2.1) (vv0.2.2.2.2.2.2.2.2.2.2.2.2.2.2.2.2.2.2.2.2.2.2.2.2.2.2.2.2.2.2.2.1) (vv0.2.2.2.2.2.2.2.2.2.2.2.2.2.2.2.2.2.2.2.2.2.2.2.2.2.2.2.2.2.2.2.2.1) (vv0.2.2.2.2.2.2.2.2.2.2.2.2.2.2.2.2.2.2.2.2.2.2.2.2.2.2.2.2.2.2.2.2.2.1) (vv0.2.2.2.2.2.2.2.2.2.2.2.2.2.2.2.2.2.2.2.2.2.2.2.2.2.2.2.2.2.2.2.2.2.2.1) (vv0.2.2.2.2.2.2.2.2.2.2.2.2.2.2.2.2.2.2.2.2.2.2.2.2.2.2.2.2.2.2.2.2.2.2.2.1) (vv0.2.2.2.2.2.2.2.2.2.2.2.2.2.2.2.2.2.2.2.2.2.2.2.2.2.2.2.2.2.2.2.2.2.2.2.2.1) (vv0.2.2.2.2.2.2.2.2.2.2.2.2.2.2.2.2.2.2.2.2.2.2.2.2.2.2.2.2.2.2.2.2.2.2.2.2.2.1) (vv0.2.2.2.2.2.2.2.2.2.2.2.2.2.2.2.2.2.2.2.2.2.2.2.2.2.2.2.2.2.2.2.2.2.2.2.2.2.2.1) (vv0.2.2.2.2.2.2.2.2.2.2.2.2.2.2.2.2.2.2.2.2.2.2.2.2.2.2.2.2.2.2.2.2.2.2.2.2.2.2.2.1) (vv0.2.2.2.2.2.2.2.2.2.2.2.2.2.2.2.2.2.2.2.2.2.2.2.2.2.2.2.2.2.2.2.2.2.2.2.2.2.2.2.2.1) (vv0.2.2.2.2.2.2.2.2.2.2.2.2.2.2.2.2.2.2.2.2.2.2.2.2.2.2.2.2.2.2.2.2.2.2.2.2.2.2.2.2.2.1) (vv0.2.2.2.2.2.2.2.2.2.2.2.2.2.2.2.2.2.2.2.2.2.2.2.2.2.2.2.2.2.2.2.2.2.2.2.2.2.2.2.2.2.2.1) (vv0.2.2.2.2.2.2.2.2.2.2.2.2.2.2.2.2.2.2.2.2.2.2.2.2.2.2.2.2.2.2.2.2.2.2.2.2.2.2.2.2.2.2.2.1) (vv0.2.2.2.2.2.2.2.2.2.2.2.2.2.2.2.2.2.2.2.2.2.2.2.2.2.2.2.2.2.2.2.2.2.2.2.2.2.2.2.2.2.2.2.2.1) (vv0.2.2.2.2.2.2.2.2.2.2.2.2.2.2.2.2.2.2.2.2.2.2.2.2.2.2.2.2.2.2.2.2.2.2.2.2.2.2.2.2.2.2.2.2.2)
@[irreducible] def vv0 : Ty0 := @ata _ ne0 0 P0
@[irreducible] def w : World := vv0.1
@[irreducible] def dp : Nat := vv0.2.1
@[irreducible] def un : Nat := vv0.2.2.1
@[irreducible] def fr : Option (List Env) := vv0.2.2.2.1
@[irreducible] def s : Shared := vv0.2.2.2.2.2.1
@[irreducible] def p : Program := vv0.2.2.2.2.2.2.1
@[irreducible] def mb : Str → Option Value := vv0.2.2.2.2.2.2.2.2.2.2.1
@[irreducible] def g : Heap := vv0.2.2.2.2.2.2.2.2.2.2.2.2.1
@[irreducible] def L : Addr := vv0.2.2.2.2.2.2.2.2.2.2.2.2.2.1
@[irreducible] def σ : SA := vv0.2.2.2.2.2.2.2.2.2.2.2.2.2.2.1
@[irreducible] def compl : Bool := vv0.2.2.2.2.2.2.2.2.2.2.2.2.2.2.2.1
@[irreducible] def lg : Addr := vv0.2.2.2.2.2.2.2.2.2.2.2.2.2.2.2.2.1
@[irreducible] def ow : List Wf := vv0.2.2.2.2.2.2.2.2.2.2.2.2.2.2.2.2.2.1
@[irreducible] def Z : List (Addr × Obj) := vv0.2.2.2.2.2.2.2.2.2.2.2.2.2.2.2.2.2.2.2.1
@[irreducible] def T0 : List Pf := vv0.2.2.2.2.2.2.2.2.2.2.2.2.2.2.2.2.2.2.2.2.1
@[irreducible] def LL : List Pf := vv0.2.2.2.2.2.2.2.2.2.2.2.2.2.2.2.2.2.2.2.2.2.1
@[irreducible] def dls : List (Addr × Obj × Lg) := vv0.2.2.2.2.2.2.2.2.2.2.2.2.2.2.2.2.2.2.2.2.2.2.1
@[irreducible] def fo : Option Value := vv0.2.2.2.2.2.2.2.2.2.2.2.2.2.2.2.2.2.2.2.2.2.2.2.1
@[irreducible] def tk : Addr := vv0.2.2.2.2.2.2.2.2.2.2.2.2.2.2.2.2.2.2.2.2.2.2.2.2.1
@[irreducible] def lf : Addr := vv0.2.2.2.2.2.2.2.2.2.2.2.2.2.2.2.2.2.2.2.2.2.2.2.2.2.1
@[irreducible] def ev : Addr := vv0.2.2.2.2.2.2.2.2.2.2.2.2.2.2.2.2.2.2.2.2.2.2.2.2.2.2.1
@[irreducible] def dl : Addr := vv0.2.2.2.2.2.2.2.2.2.2.2.2.2.2.2.2.2.2.2.2.2.2.2.2.2.2.2.1
@[irreducible] def an : Addr := vv0.2.2.2.2.2.2.2.2.2.2.2.2.2.2.2.2.2.2.2.2.2.2.2.2.2.2.2.2.1
@[irreducible] def lo : Addr := vv0.2.2.2.2.2.2.2.2.2.2.2.2.2.2.2.2.2.2.2.2.2.2.2.2.2.2.2.2.2.1
@[irreducible] def sc : Addr := vv0.2.2.2.2.2.2.2.2.2.2.2.2.2.2.2.2.2.2.2.2.2.2.2.2.2.2.2.2.2.2.1
@[irreducible] def oL : Addr := vv0.2.2.2.2.2.2.2.2.2.2.2.2.2.2.2.2.2.2.2.2.2.2.2.2.2.2.2.2.2.2.2.1
@[irreducible] def n1 : Nat := vv0.2.2.2.2.2.2.2.2.2.2.2.2.2.2.2.2.2.2.2.2.2.2.2.2.2.2.2.2.2.2.2.2.1
@[irreducible] def n2 : Nat := vv0.2.2.2.2.2.2.2.2.2.2.2.2.2.2.2.2.2.2.2.2.2.2.2.2.2.2.2.2.2.2.2.2.2.1
@[irreducible] def n3 : Nat := vv0.2.2.2.2.2.2.2.2.2.2.2.2.2.2.2.2.2.2.2.2.2.2.2.2.2.2.2.2.2.2.2.2.2.2.1
@[irreducible] def n4 : Nat := vv0.2.2.2.2.2.2.2.2.2.2.2.2.2.2.2.2.2.2.2.2.2.2.2.2.2.2.2.2.2.2.2.2.2.2.2.1
@[irreducible] def n5 : Nat := vv0.2.2.2.2.2.2.2.2.2.2.2.2.2.2.2.2.2.2.2.2.2.2.2.2.2.2.2.2.2.2.2.2.2.2.2.2.1
@[irreducible] def nl : Nat := vv0.2.2.2.2.2.2.2.2.2.2.2.2.2.2.2.2.2.2.2.2.2.2.2.2.2.2.2.2.2.2.2.2.2.2.2.2.2.1
@[irreducible] def nc : Nat := vv0.2.2.2.2.2.2.2.2.2.2.2.2.2.2.2.2.2.2.2.2.2.2.2.2.2.2.2.2.2.2.2.2.2.2.2.2.2.2.1
@[irreducible] def c : Nat := vv0.2.2.2.2.2.2.2.2.2.2.2.2.2.2.2.2.2.2.2.2.2.2.2.2.2.2.2.2.2.2.2.2.2.2.2.2.2.2.2.1
@[irreducible] def ps : Array Value := vv0.2.2.2.2.2.2.2.2.2.2.2.2.2.2.2.2.2.2.2.2.2.2.2.2.2.2.2.2.2.2.2.2.2.2.2.2.2.2.2.2.1
@[irreducible] def ec : List DictEntry := vv0.2.2.2.2.2.2.2.2.2.2.2.2.2.2.2.2.2.2.2.2.2.2.2.2.2.2.2.2.2.2.2.2.2.2.2.2.2.2.2.2.2.1
@[irreducible] def room : Int := vv0.2.2.2.2.2.2.2.2.2.2.2.2.2.2.2.2.2.2.2.2.2.2.2.2.2.2.2.2.2.2.2.2.2.2.2.2.2.2.2.2.2.2.1
@[irreducible] def r0 : Int := vv0.2.2.2.2.2.2.2.2.2.2.2.2.2.2.2.2.2.2.2.2.2.2.2.2.2.2.2.2.2.2.2.2.2.2.2.2.2.2.2.2.2.2.2.1
@[irreducible] def t1 : Tok := vv0.2.2.2.2.2.2.2.2.2.2.2.2.2.2.2.2.2.2.2.2.2.2.2.2.2.2.2.2.2.2.2.2.2.2.2.2.2.2.2.2.2.2.2.2.1
@[irreducible] def t2 : Tok := vv0.2.2.2.2.2.2.2.2.2.2.2.2.2.2.2.2.2.2.2.2.2.2.2.2.2.2.2.2.2.2.2.2.2.2.2.2.2.2.2.2.2.2.2.2.2
theorem prf0 : St0 w dp un fr (vv0.2.2.2.2.1) s p (vv0.2.2.2.2.2.2.2.1) (vv0.2.2.2.2.2.2.2.2.1) (vv0.2.2.2.2.2.2.2.2.2.1) mb (vv0.2.2.2.2.2.2.2.2.2.2.2.1) g L σ compl lg ow (vv0.2.2.2.2.2.2.2.2.2.2.2.2.2.2.2.2.2.2.1) Z T0 LL dls fo tk lf ev dl an lo sc oL n1 n2 n3 n4 n5 nl nc c ps ec room r0 t1 t2 := by
  intro X T hd hu K hroom hC hZ hev hdl evF evL hT0 hLL hr0 hrb hTl hdls F N B hQ
  k_extra "fl"
  conv in (occs := *) List.drop _ lwBody => whnf
  unfold lwEnv
  conv in (occs := *) lwScope => whnf
  k_extra "g1"
  obtain ⟨kH, fH, dH, hkH, aH⟩ := K.ok.dH
  k_extra "g2"
  k_extra "g1"
  obtain ⟨kC, fC, dC, hkC, aCw, aCo⟩ := id hC
  k_extra "g2"
  k_extra "g1"
  obtain ⟨kC0, fC0, tC0, dC0, -, a1, a2, a3, a4, a5, a6⟩ := K.ok.dC
  k_extra "g2"
  have aC3 : fC (Str.ofString "shake") = some (.ref σ.shk) := by
    have e := (dC0.1 _).symm.trans (aCo (Str.ofString "shake") (by decide))
    rw [← Option.some.inj e]; exact a3
  have hdl1 : dls.length ≤ 2 := by
    have := congrArg List.length hdls
    rw [List.length_map, List.length_append] at this
    have h2 : (if isTried σ compl then [Lg.tried] else []).length ≤ 1 := by split <;> simp
    simp only [List.length_cons, List.length_nil] at this
    lia
  have hw3 := K.ok.wle
  refine wpN_execs_cons (wpN_While ?_)
  refine codeN_whileLoop (Inv6 σ compl lg lf ev dl an lo sc oL LL T0 ow n2 n4 n5 nl nc ps ec room r0 t1 fo Z g L s) ?_ σ.ws.length
    ⟨_, _, σ.ws, r0, _, σ.l1, σ.n1, tk, T0, n1, n3, dls, Z, rfl, F, N, ⟨_, B⟩, ?_, rfl, fun x hx => hx, hw3, hrb.1, hrb.2, rfl, ?_, by lia, by lia, hdl, fun p hp => hp⟩
  · clear F N B hdl hdls hTl
    rintro n s' zx
    k_extra "g1"
    obtain ⟨h1, tk1, cur, rr, tr, wt, nw, tkA, TT, n1, n3, dls, Z', rfl, F, N, ⟨cB, B⟩, hmW, rfl, hcur, hc3, hra, hrb3, hTT, hLL2, hTl, hDl, hdl, hZZ⟩ := zx
    k_extra "g2"
    simp only [lawE7, lawW, List.drop_succ_cons, List.drop_zero, List.cons_append, List.nil_append, List.map_cons] at N B hmW
    refine wpN_of_any ?_
    k_extra "WC"
    rename Fr _ _ _ _ => F1
    rename News _ _ _ _ => N1
    rename Bel _ _ => B1
    cases cur with
    | nil =>
      refine ne_nil0 ⟨_, (N1 (wt, W.listOf (refs (wadr [])) nw) (by (repeat (first | exact hmW | refine List.Mem.tail _ ?_)))).1, rfl, _, rfl⟩ ⟨_, N1.get (.head _), rfl, _, rfl⟩ (by (show un + 3 < cLine); lia) ?_
      k_extra "WC"
      exact law_65 X T hd hu K hroom hC (fun p hp => hZZ p (hZ p hp)) (fun f hf => ⟨(hev f hf).1, hZZ _ (hev f hf).2⟩) hdl evF (by rw [← hT0, ← hr0, ← hTT]; simp [drT]) hLL (by rw [← hr0, ← hLL2]; simp [drR]) F1 (news_drop N1) (bel_drop B1) hQ
    | cons x t =>
      obtain ⟨hx0, hx1⟩ := K.ok.wok x (hcur x (.head _))
      have hx2 := hx0
      have hx3 : (x.1, x.2.1) ∈ Z' := hZZ _ (hZ _ (List.mem_append_right _ (List.mem_append_right _ (List.mem_append_left _ (List.mem_map_of_mem (hcur x (.head _)))))))
      have hxs := Fd.sz_pos hx1
      have hzT := szR (TT.map (·.1)) 15 (by simp; lia) (by lia)
      have hzD := szR (dls.map (·.1)) 15 (by simp; lia) (by lia)
      have hc4 := hc3
      have hTl2 := hTl
      have hDl2 := hDl
      simp only [List.length_cons] at hc4 hTl2 hDl2
      have hzW : (wadr (x :: t)).length ≤ 5 := by simp [wadr]; lia
      refine ne_nil1 ⟨_, (N1 (wt, W.listOf (refs (wadr (x :: t))) nw) (by (repeat (first | exact hmW | refine List.Mem.tail _ ?_)))).1, rfl, _, rfl⟩ ⟨_, N1.get (.head _), rfl, _, rfl⟩ (by (show un + 3 < cLine); lia) ?_
      k_extra "cl"
      (have q9 : (?rr : Int) ≤ 60 := (by first | with_reducible assumption | assumption); clear q9); (have q9 : Fd.ok (?x : Wf).2.2 := (by first | with_reducible assumption | assumption); clear q9); (have q9 : List.length ?TT + (List.length ?t + 1) ≤ 15 := (by first | with_reducible assumption | assumption); clear q9); (have q9 : (wadr (?x :: ?t)).length ≤ 5 := (by first | with_reducible assumption | assumption); clear q9); (have q9 : (?wt, W.listOf (refs (wadr (?x :: ?t))) ?nw) ∈ (?zz9 : List (Addr × Obj)) := (by first | with_reducible assumption | assumption); clear q9)
      k_extra "WCK"
      · k_extra "cl"
        refine wpN_execs_cons (wpN_of_any ?_)
        k_extra "WCK"
        k_extra "cl"
        refine wpN_execs_cons (wpN_of_any ?_)
        k_extra "WCK"
        k_extra "cl"
        refine wpN_execs_cons (wpN_of_any ?_)
        k_extra "WCK"
        rename Fr _ _ _ _ => F9
        rename News _ _ _ _ => N9
        rename Bel _ _ => B9
        exact wpN_execs_nil ⟨List.length ?t, by simp, norm6 F9 N9 B9 ⟨_, _, rfl, rfl, _, _, rfl⟩ hcur hc3 hra hrb3 (by lia) hxs.1 hTT hLL2 hTl hDl hdl hZZ⟩
      · rename Fr _ _ _ _ => F9
        rename News _ _ _ _ => N9
        have hgt : ¬ (pf ?x).2.sz ≤ ?rr := by show ¬ Fd.sz (Prod.snd (Prod.snd ?x)) ≤ ?rr; lia
        exact law_65 X T hd hu K hroom hC (fun p hp => hZZ p (hZ p hp)) (fun f hf => ⟨(hev f hf).1, hZZ _ (hev f hf).2⟩) hdl evF (by rw [← hT0, ← hr0, ← hTT]; simp [drT, hgt]) hLL (by rw [← hr0, ← hLL2]; simp [drR, hgt]) F9 (news_drop N9) (bel_drop B1) hQ
  · exact List.mem_append_left _ (by simp [lawE7])
  · rw [hdls, List.append_assoc]
    conv => rhs; rw [drR_head (σ.ws.map pf) r0]
    simp
end law_6
theorem law_6 {w : World} {dp : Nat} {un : Nat} {fr : Option (List Env)} {gd : Option (List Code)} {s : Shared} {p : Program} {loose : List Str} {mean : ExcName → Option Value} {mg : Str → Option Value} {mb : Str → Option Value} {Qf : Flow → Shared → Prop} {g : Heap} {L : Addr} {σ : SA} {compl : Bool} {lg : Addr} {ow : List Wf} {evs : List Wf} {Z : List (Addr × Obj)} {T0 : List Pf} {LL : List Pf} {dls : List (Addr × Obj × Lg)} {fo : Option Value} {tk : Addr} {lf : Addr} {ev : Addr} {dl : Addr} {an : Addr} {lo : Addr} {sc : Addr} {oL : Addr} {n1 : Nat} {n2 : Nat} {n3 : Nat} {n4 : Nat} {n5 : Nat} {nl : Nat} {nc : Nat} {c : Nat} {ps : Array Value} {ec : List DictEntry} {room : Int} {r0 : Int} {t1 : Tok} {t2 : Tok} : law_6.St0 w dp un fr gd s p loose mean mg mb Qf g L σ compl lg ow evs Z T0 LL dls fo tk lf ev dl an lo sc oL n1 n2 n3 n4 n5 nl nc c ps ec room r0 t1 t2 :=
  @ata_spec _ law_6.ne0 0 law_6.P0 (by with_unfolding_all exact law_6.prf0) (w, dp, un, fr, gd, s, p, loose, mean, mg, mb, Qf, g, L, σ, compl, lg, ow, evs, Z, T0, LL, dls, fo, tk, lf, ev, dl, an, lo, sc, oL, n1, n2, n3, n4, n5, nl, nc, c, ps, ec, room, r0, t1, t2)
end
end
noncomputable section
open PyProof.Rows.LCg
theorem kw_92 : True := by
  k_with_none
  k_with "rm" => first | exact room_lt (by assumption) rfl | exact room_lt1 (by assumption) | lia
  k_with "g1" => refine by_goal fun zG zh => ?_
  k_with "g2" => (refine zh ?_; clear zh zG)
  k_with "fl" => ((have _h : Challenge.rw_pf0272_01 = Challenge.rw_pf0272_01 ∧ mkK.heap_1 = mkK.heap_1 := by (k_fill; exact ⟨rfl, rfl⟩)); clear _h)
  k_with "WCK" => (repeat' (first | ((with_reducible show wpAny _ _ (execs (_ :: _) _) _ _ _); (first | (k_gentoks; (set_option tactic.hygienic false in k_extra "cl")) | walk1)) | ((with_reducible show wpAny _ _ _ _ _ _); (fail_if_success (with_reducible show wpAny _ _ (eval (Expr.ListComp _ _ _ _) _) _ _ _)); (fail_if_success (with_reducible show wpAny _ _ (pyIter _) _ _ _)); (fail_if_success (with_reducible show wpAny _ _ (compareOp _ (Value.ref _) (Value.ref _)) _ _ _)); (fail_if_success (with_reducible show wpAny _ _ (exec (Stmt.Assign [Expr.Name _ _] (Expr.ListComp _ _ _ _) _) _) _ _ _)); walk1; (set_option tactic.hygienic false in k_extra "cl")) | ((with_reducible show ite _ _ _); walk1) | ((with_reducible show (Frag.In _ _ ∧ wpAny _ _ _ _ _ _)); refine And.intro (Frag.In.keeps (by assumption) (Fr.keep (by assumption))) ?_) | ((with_reducible show (Heap.get? _ _ = some _ ∧ wpAny _ _ _ _ _ _)); refine And.intro (News.get (by assumption) (by k_mem)) ?_) | ((fail_if_success (with_reducible show wpAny _ _ _ _ _ _)); dsimp only)))
  k_with "WC" => (repeat' (first | ((with_reducible show wpAny _ _ _ _ _ _); (fail_if_success (with_reducible show wpAny _ _ (eval (Expr.ListComp _ _ _ _) _) _ _ _)); (fail_if_success (with_reducible show wpAny _ _ (pyIter _) _ _ _)); (fail_if_success (with_reducible show wpAny _ _ (compareOp _ (Value.ref _) (Value.ref _)) _ _ _)); (fail_if_success (with_reducible show wpAny _ _ (exec (Stmt.Assign [Expr.Name _ _] (Expr.ListComp _ _ _ _) _) _) _ _ _)); walk1) | ((with_reducible show ite _ _ _); walk1) | ((with_reducible show (Frag.In _ _ ∧ wpAny _ _ _ _ _ _)); refine And.intro (Frag.In.keeps (by assumption) (Fr.keep (by assumption))) ?_) | ((with_reducible show (Heap.get? _ _ = some _ ∧ wpAny _ _ _ _ _ _)); refine And.intro (News.get (by assumption) (by k_mem)) ?_) | ((fail_if_success (with_reducible show wpAny _ _ _ _ _ _)); dsimp only)))
  trivial
theorem kw_89 : True := by
  k_with "storeName" => (k_here; (with_reducible show wpAny _ _ (storeName (compEnvC _ _ _ _) _ _) _ _ _); k_dflt (refine st_comp (by k_asm) (by k_asm) ?_; k_whole); intro _ _ _)
  k_with "eval Name" => (k_here; (with_reducible show wpAny _ _ (eval (Expr.Name _ _) (compEnvC _ _ _ _)) _ _ _); k_dflt (refine ld_comp (by k_asm) (by exact rfl) ?_; k_whole))
  k_with "getAttr ref" => (k_here; k_dflt (refine getA (by k_asm) (by k_asm) (by k_asm) (by k_mem) (by k_mem) (by k_asm) (by first | exact rfl | assumption) (by k_is) (by k_is) (by k_is) (by k_is) (by k_handed) ?_; k_whole))
  k_with "getMethod ref" => (k_here; k_dflt (refine methA (by k_asm) (by k_asm) (by k_asm) (by k_mem) (by k_mem) (by k_asm) (by first | exact rfl | assumption) (by k_is) (by k_is) (by k_is) (by k_handed) ?_; k_whole))
  k_with "setAttr ref" => (k_here; k_dflt (refine setA (by k_asm) (by k_asm) (by k_asm) (by k_mem) (by k_mem) (by k_asm) (by k_is) (by k_is) (by k_is) (by k_is) (by (intro _ _; k_upd)) (by first | exact Nat.le_of_ble_eq_true rfl | lia) ?_; k_whole); intro _ _ _ _ _ zN; (try dsimp only at zN); (revert zN; intro _); (try k_sweep))
  k_with "call ref" => (k_here; (with_reducible show wpAny _ _ (call (Value.ref 319) [Value.str _ _]) _ _ _); (rename Fr _ _ _ _ => F); (rename News _ _ _ _ => N); (refine space_U F N X T (by (show dp + 1 + 20 < recursionLimit); k_extra "rm") (by (show un + 3 + 200 < cLine); k_extra "rm") fun x' d' es' n' f' h' tk' l1 l2 D' F' N' => ?_); clear F N; (try k_lt l1); (try k_lt2 l2))
  k_with "call builtin:list.append" => (k_here; (with_reducible show wpAny _ _ (call (Value.builtin _) [Value.ref _, _]) _ _ _); k_dflt (refine append_K (by k_asm) (by k_asm) (by k_upd) ?_ (by assumption); k_whole); intro _ _ _; (try k_sweep))
  k_with "call ref" => (k_here; (with_reducible show wpAny _ _ (call (Value.ref 340) [Value.ref _]) _ _ _); (rename Fr _ _ _ _ => F); (rename News _ _ _ _ => N); (refine size_A F.keep X T (by (show dp + 1 + 40 < recursionLimit); k_extra "rm") (by (show un + 3 + 300 < cLine); k_extra "rm") hx1 (frO_at (N (?x.1, ?x.2.1) (by (repeat (first | exact hx3 | refine List.Mem.tail _ ?_)))).1 hx2) fun tkw hw tkw2 kw => ?_); (have Fw := fr_keep F kw); (have Nw := news_keep N kw); clear kw F N)
  trivial
noncomputable def lawP (wt ev dl an sc lg oL cn l2 : Addr) (room : Int) (t1 : Tok) (wants : Bool) : Str → Option Value :=
  lk [(Str.ofString "due_log", .ref dl), (Str.ofString "every", .ref ev), (Str.ofString "answers", .ref an), (Str.ofString "limits", .ref l2), (Str.ofString "wants", .bool wants), (Str.ofString "waiting", .ref wt), (Str.ofString "conn", .ref cn), (Str.ofString "room", .int room t1), (Str.ofString "owed", .ref oL), (Str.ofString "log", .ref lg), (Str.ofString "script", .ref sc)]
theorem lawM_start {wt tk lf ev dl an sc lg oL cn l2 : Addr} {room : Int} {t1 : Tok} {wants : Bool} : (fun y => if y = Str.ofString "taken" then some (Value.ref tk) else if y = Str.ofString "left" then some (Value.ref lf) else if y = Str.ofString "spare" then some (Value.int room t1) else lawP wt ev dl an sc lg oL cn l2 room t1 wants y) = lawM none wt tk lf ev dl an sc lg oL cn l2 room t1 (.int room t1) wants := by
  funext y
  by_cases e1 : y = Str.ofString "taken"
  · subst e1; rfl
  by_cases e2 : y = Str.ofString "left"
  · subst e2; rfl
  by_cases e3 : y = Str.ofString "spare"
  · subst e3; rfl
  by_cases e4 : y = Str.ofString "frame"
  · subst e4; rfl
  rw [if_neg e1, if_neg e2, if_neg e3]
  unfold lawM lawP lk
  rw [if_neg e4]
  have b1 : (y == Str.ofString "taken") = false := by simpa using e1
  have b2 : (y == Str.ofString "left") = false := by simpa using e2
  have b3 : (y == Str.ofString "spare") = false := by simpa using e3
  simp only [List.lookup_cons, b1, b2, b3]
theorem norm5 {σ : SA} {g h : Heap} {L dl ev an lo lg c1 c2 c3 sc oL : Addr} {dls : List (Addr × Obj × Lg)} {ow evs : List Wf} {n3 n4 n5 nl nc nev k1 k2 c : Nat} {ps : Array Value} {ec : List DictEntry} {Z : List (Addr × Obj)} {o3 : Obj} {room : Int} {t1 : Tok}
   (F : Fr g L h (fun y => if y = Str.ofString "taken" then some (Value.ref c1) else if y = Str.ofString "left" then some (Value.ref c2) else if y = Str.ofString "spare" then some (Value.int room t1) else lawP σ.l1 ev dl an sc lg oL σ.conn σ.l2 room t1 σ.wants y))
   (N : News g L h ((c3, o3) :: (c2, W.listOf #[] k2) :: (c1, W.listOf #[] k1) :: (dl, W.listOf (refs (dls.map (·.1))) n3) :: (ev, W.listOf (refs (wadr evs)) nev) :: ((lawE7 σ 0 0 dl an lo lg [] [] dls ow 0 0 n3 n4 n5 nl #[] ps ec nc σ.ep σ.np).drop 3 ++ lawW σ :: Z)))
   (B : Bel (((c3, o3) :: (c2, W.listOf #[] k2) :: (c1, W.listOf #[] k1) :: (dl, W.listOf (refs (dls.map (·.1))) n3) :: (ev, W.listOf (refs (wadr evs)) nev) :: ((lawE7 σ 0 0 dl an lo lg [] [] dls ow 0 0 n3 n4 n5 nl #[] ps ec nc σ.ep σ.np).drop 3 ++ lawW σ :: Z)).map (·.1)) c) :
   Fr g L h (lawM none σ.l1 c1 c2 ev dl an sc lg oL σ.conn σ.l2 room t1 (.int room t1) σ.wants) ∧ News g L h (lawE7 σ c1 c2 dl an lo lg [] [] dls ow k1 k2 n3 n4 n5 nl #[] ps ec nc σ.ep σ.np ++ lawW σ :: (ev, W.listOf (refs (wadr evs)) nev) :: Z) ∧ Bel ((lawE7 σ c1 c2 dl an lo lg [] [] dls ow k1 k2 n3 n4 n5 nl #[] ps ec nc σ.ep σ.np ++ lawW σ :: (ev, W.listOf (refs (wadr evs)) nev) :: Z).map (·.1)) c := by
  refine ⟨by rw [lawM_start] at F; exact F, ?_, ?_⟩
  · exact news_pick (l := [(c3, o3), (c2, W.listOf #[] k2), (c1, W.listOf #[] k1), (dl, W.listOf (refs (dls.map (·.1))) n3), (ev, W.listOf (refs (wadr evs)) nev)] ++ ((lawE7 σ 0 0 dl an lo lg [] [] dls ow 0 0 n3 n4 n5 nl #[] ps ec nc σ.ep σ.np).drop 3 ++ [lawW σ])) (Z := Z) N [2, 1, 3, 5, 6, 7, 8, 9, 10, 11, 12, 13, 14, 15, 16, 17, 18, 4]
      (bs := lawE7 σ c1 c2 dl an lo lg [] [] dls ow k1 k2 n3 n4 n5 nl #[] ps ec nc σ.ep σ.np ++ [lawW σ, (ev, W.listOf (refs (wadr evs)) nev)]) rfl
  · exact bel_pick (l := [(c3, o3), (c2, W.listOf #[] k2), (c1, W.listOf #[] k1), (dl, W.listOf (refs (dls.map (·.1))) n3), (ev, W.listOf (refs (wadr evs)) nev)] ++ ((lawE7 σ 0 0 dl an lo lg [] [] dls ow 0 0 n3 n4 n5 nl #[] ps ec nc σ.ep σ.np).drop 3 ++ [lawW σ])) (Z := Z) B [2, 1, 3, 5, 6, 7, 8, 9, 10, 11, 12, 13, 14, 15, 16, 17, 18, 4]
      (bs := lawE7 σ c1 c2 dl an lo lg [] [] dls ow k1 k2 n3 n4 n5 nl #[] ps ec nc σ.ep σ.np ++ [lawW σ, (ev, W.listOf (refs (wadr evs)) nev)]) rfl (by decide)
theorem bel_in {g h : Heap} {L I : Addr} {o : Obj} {E : List (Addr × Obj)} {c : Nat} (N : News g L h ((I, o) :: E)) (B : Bel (E.map (·.1)) c) (hne : ∀ p ∈ E, @Ne Nat p.1 I) : Bel (I :: E.map (·.1)) h.objs.size := by
  refine ⟨List.nodup_cons.mpr ⟨fun q => ?_, B.1⟩, fun a ha => ?_⟩
  · k_extra "g1"
    obtain ⟨p, hp, e⟩ := List.mem_map.mp q
    k_extra "g2"
    exact hne p hp e
  · rcases List.mem_cons.mp ha with rfl | ha
    · exact Nat.le_of_lt (Heap.lt_size (N _ (.head _)).1)
    · k_extra "g1"
      obtain ⟨p, hp, rfl⟩ := List.mem_map.mp ha
      k_extra "g2"
      exact Nat.le_of_lt (Heap.lt_size (N p (.tail _ hp)).1)
theorem loffer_adr (σ : SA) (evs : List Wf) : (loffer σ evs).map (·.1) = wadr evs ++ List.replicate σ.lims σ.lf := by simp [loffer, pf, wadr, Function.comp_def]
theorem loffer_get {σ : SA} {evs : List Wf} {Z : List (Addr × Obj)} {f : Pf} (hf : f ∈ loffer σ evs) (hlf : FrO σ.olf (.maxd 70)) (hZ : (σ.lf, σ.olf) ∈ Z) (hev : ∀ f ∈ evs, FrO f.2.1 f.2.2 ∧ (f.1, f.2.1) ∈ Z) (hevo : ∀ f ∈ evs, f.2.2.ok) : ∃ x : Wf, f = pf x ∧ x.2.2.ok ∧ FrO x.2.1 x.2.2 ∧ (x.1, x.2.1) ∈ Z := by
  rcases List.mem_append.mp hf with hf | hf
  · k_extra "g1"
    obtain ⟨x, hx, rfl⟩ := List.mem_map.mp hf
    k_extra "g2"
    exact ⟨x, rfl, hevo x hx, (hev x hx).1, (hev x hx).2⟩
  · exact ⟨(σ.lf, σ.olf, .maxd 70), List.eq_of_mem_replicate hf, ⟨by decide, by decide⟩, hlf, hZ⟩
noncomputable def J5 (σ : SA) (lg lf ev dl an lo sc oL : Addr) (dls : List (Addr × Obj × Lg)) (ow evs : List Wf) (n3 n4 n5 nl nc : Nat) (ps : Array Value) (ec : List DictEntry) (room : Int) (t1 : Tok) (Z : List (Addr × Obj)) (i : Nat) (m : Str → Option Value) (news : List (Addr × Obj)) : Prop :=
  ∃ fo tkA TT LL rr tr n1 n2 Z', m = lawM fo σ.l1 tkA lf ev dl an sc lg oL σ.conn σ.l2 room t1 (.int rr tr) σ.wants ∧ news = lawE7 σ tkA lf dl an lo lg TT LL dls ow n1 n2 n3 n4 n5 nl #[] ps ec nc σ.ep σ.np ++ lawW σ :: Z' ∧ (∃ c, Bel (news.map (·.1)) c) ∧ fillF ((loffer σ evs).take i) room = (TT, LL, rr) ∧ ∀ p ∈ Z, p ∈ Z'
theorem lawM_frame {fo : Option Value} {v : Value} {wt tk lf ev dl an sc lg oL cn l2 : Addr} {room : Int} {t1 : Tok} {sp : Value} {wants : Bool} : (fun y => if y = Str.ofString "frame" then some v else lawM fo wt tk lf ev dl an sc lg oL cn l2 room t1 sp wants y) = lawM (some v) wt tk lf ev dl an sc lg oL cn l2 room t1 sp wants := by
  funext y
  by_cases e1 : y = Str.ofString "frame"
  · subst e1; rfl
  rw [if_neg e1]
  unfold lawM
  rw [if_neg e1, if_neg e1]
theorem lawM_turn5 {fo : Option Value} {v : Value} {wt tk tk' lf ev dl an sc lg oL cn l2 : Addr} {room : Int} {t1 : Tok} {sp sp' : Value} {wants : Bool} : (fun y => if y = Str.ofString "taken" then some (Value.ref tk') else if y = Str.ofString "spare" then some sp' else if y = Str.ofString "frame" then some v else lawM fo wt tk lf ev dl an sc lg oL cn l2 room t1 sp wants y) = lawM (some v) wt tk' lf ev dl an sc lg oL cn l2 room t1 sp' wants := by
  funext y
  by_cases e1 : y = Str.ofString "taken"
  · subst e1; rfl
  by_cases e2 : y = Str.ofString "spare"
  · subst e2; rfl
  by_cases e3 : y = Str.ofString "frame"
  · subst e3; rfl
  rw [if_neg e1, if_neg e2, if_neg e3]
  unfold lawM lk
  rw [if_neg e3, if_neg e3]
  have b1 : (y == Str.ofString "taken") = false := by simpa using e1
  have b2 : (y == Str.ofString "spare") = false := by simpa using e2
  simp only [List.lookup_cons, b1, b2]
noncomputable def T5 (σ : SA) (lg lf ev dl an lo sc oL : Addr) (dls : List (Addr × Obj × Lg)) (ow evs : List Wf) (n3 n4 n5 nl nc : Nat) (ps : Array Value) (ec : List DictEntry) (room : Int) (t1 : Tok) (Z : List (Addr × Obj)) (i : Nat) (I : Addr) (o : Obj) (g : Heap) (L : Addr) (s s' : Shared) : Prop :=
  ∃ h' tk' m' news', s' = { s with heap := h', toks := tk' } ∧ Fr g L h' m' ∧ News g L h' ((I, o) :: news') ∧ (∀ p ∈ news', @Ne Nat p.1 I) ∧ J5 σ lg lf ev dl an lo sc oL dls ow evs n3 n4 n5 nl nc ps ec room t1 Z (i + 1) m' news'
theorem ne_of_bel {I : Addr} {E : List (Addr × Obj)} {c : Nat} (B : Bel (I :: E.map (·.1)) c) : ∀ p ∈ E, @Ne Nat p.1 I := fun p hp e => (List.nodup_cons.mp B.1).1 (by rw [← e]; exact List.mem_map_of_mem hp)
theorem norm5T {σ : SA} {lg lf ev dl an lo sc oL tk c1 c2 c3 I L : Addr} {dls : List (Addr × Obj × Lg)} {ow evs : List Wf} {n1 n2 n3 n4 n5 nl nc i k2 c tk' : Nat} {ps : Array Value} {ec : List DictEntry} {room rr : Int} {t1 tr tt : Tok} {Z Z' : List (Addr × Obj)} {o o1 o3 : Obj} {g h : Heap} {s : Shared} {TT LL : List Pf} {x : Wf} {fo : Option Value}
   (F : Fr g L h (fun y => if y = Str.ofString "taken" then some (Value.ref c2) else if y = Str.ofString "spare" then some (.int (rr - x.2.2.sz) tt) else if y = Str.ofString "frame" then some (.ref x.1) else lawM fo σ.l1 tk lf ev dl an sc lg oL σ.conn σ.l2 room t1 (.int rr tr) σ.wants y))
   (N : News g L h ((c3, o3) :: (c2, W.listOf (refs (TT.map (·.1) ++ [x.1])) k2) :: (c1, o1) :: (I, o) :: (lawE7 σ tk lf dl an lo lg TT LL dls ow n1 n2 n3 n4 n5 nl #[] ps ec nc σ.ep σ.np ++ lawW σ :: Z')))
   (B : Bel (((c3, o3) :: (c2, W.listOf (refs (TT.map (·.1) ++ [x.1])) k2) :: (c1, o1) :: (I, o) :: (lawE7 σ tk lf dl an lo lg TT LL dls ow n1 n2 n3 n4 n5 nl #[] ps ec nc σ.ep σ.np ++ lawW σ :: Z')).map (·.1)) c)
   (hstep : fillF ((loffer σ evs).take (i + 1)) room = ffStep (TT, LL, rr) (pf x)) (hle : x.2.2.sz ≤ rr) (hZZ : ∀ p ∈ Z, p ∈ Z') :
   T5 σ lg lf ev dl an lo sc oL dls ow evs n3 n4 n5 nl nc ps ec room t1 Z i I o g L s { s with heap := h, toks := tk' } := by
  have e1 : TT.map (·.1) ++ [x.1] = (TT ++ [pf x]).map (·.1) := by simp [pf]
  rw [e1] at N B
  rw [lawM_turn5] at F
  have h2 : (pf x).2.sz ≤ rr := hle
  have N2 := news_pick (l := [(c3, o3), (c2, W.listOf (refs ((TT ++ [pf x]).map (·.1))) k2), (c1, o1), (I, o)] ++ (lawE7 σ tk lf dl an lo lg TT LL dls ow n1 n2 n3 n4 n5 nl #[] ps ec nc σ.ep σ.np ++ [lawW σ])) (Z := Z') N [3, 1, 5, 6, 7, 8, 9, 10, 11, 12, 13, 14, 15, 16, 17, 18, 19, 20]
    (bs := (I, o) :: (lawE7 σ c2 lf dl an lo lg (TT ++ [pf x]) LL dls ow k2 n2 n3 n4 n5 nl #[] ps ec nc σ.ep σ.np ++ [lawW σ])) rfl
  have B2 := bel_pick (l := [(c3, o3), (c2, W.listOf (refs ((TT ++ [pf x]).map (·.1))) k2), (c1, o1), (I, o)] ++ (lawE7 σ tk lf dl an lo lg TT LL dls ow n1 n2 n3 n4 n5 nl #[] ps ec nc σ.ep σ.np ++ [lawW σ])) (Z := Z') B [3, 1, 5, 6, 7, 8, 9, 10, 11, 12, 13, 14, 15, 16, 17, 18, 19, 20]
    (bs := (I, o) :: (lawE7 σ c2 lf dl an lo lg (TT ++ [pf x]) LL dls ow k2 n2 n3 n4 n5 nl #[] ps ec nc σ.ep σ.np ++ [lawW σ])) rfl (by decide)
  have B3 : Bel (I :: ((lawE7 σ c2 lf dl an lo lg (TT ++ [pf x]) LL dls ow k2 n2 n3 n4 n5 nl #[] ps ec nc σ.ep σ.np ++ lawW σ :: Z').map (·.1))) c := B2
  refine ⟨h, _, _, lawE7 σ c2 lf dl an lo lg (TT ++ [pf x]) LL dls ow k2 n2 n3 n4 n5 nl #[] ps ec nc σ.ep σ.np ++ lawW σ :: Z', rfl, F, N2, ne_of_bel B3, some (.ref x.1), c2, TT ++ [pf x], LL, rr - x.2.2.sz, tt, k2, n2, Z', rfl, rfl, ⟨c, bel_drop B3⟩, ?_, hZZ⟩
  rw [hstep]
  exact if_pos h2
theorem norm5L {σ : SA} {lg lf ev dl an lo sc oL tk I L : Addr} {dls : List (Addr × Obj × Lg)} {ow evs : List Wf} {n1 n2 n3 n4 n5 nl nc i c tk' : Nat} {ps : Array Value} {ec : List DictEntry} {room rr : Int} {t1 tr : Tok} {Z Z' : List (Addr × Obj)} {o : Obj} {g h : Heap} {s : Shared} {TT LL : List Pf} {x : Wf} {fo : Option Value}
   (F : Fr g L h (fun y => if y = Str.ofString "frame" then some (.ref x.1) else lawM fo σ.l1 tk lf ev dl an sc lg oL σ.conn σ.l2 room t1 (.int rr tr) σ.wants y))
   (N : News g L h ((I, o) :: (tk, W.listOf (refs (TT.map (·.1))) n1) :: (lf, W.listOf ((refs (LL.map (·.1))).push (.ref x.1)) n2) :: ((lawE7 σ tk lf dl an lo lg TT LL dls ow n1 n2 n3 n4 n5 nl #[] ps ec nc σ.ep σ.np).drop 2 ++ lawW σ :: Z')))
   (B : Bel (((I, o) :: (tk, W.listOf (refs (TT.map (·.1))) n1) :: (lf, W.listOf ((refs (LL.map (·.1))).push (.ref x.1)) n2) :: ((lawE7 σ tk lf dl an lo lg TT LL dls ow n1 n2 n3 n4 n5 nl #[] ps ec nc σ.ep σ.np).drop 2 ++ lawW σ :: Z')).map (·.1)) c)
   (hstep : fillF ((loffer σ evs).take (i + 1)) room = ffStep (TT, LL, rr) (pf x)) (hle : ¬ x.2.2.sz ≤ rr) (hZZ : ∀ p ∈ Z, p ∈ Z') :
   T5 σ lg lf ev dl an lo sc oL dls ow evs n3 n4 n5 nl nc ps ec room t1 Z i I o g L s { s with heap := h, toks := tk' } := by
  rw [refs_pf] at N B
  rw [lawM_frame] at F
  have h2 : ¬ (pf x).2.sz ≤ rr := hle
  have B3 : Bel (I :: ((lawE7 σ tk lf dl an lo lg TT (LL ++ [pf x]) dls ow n1 n2 n3 n4 n5 nl #[] ps ec nc σ.ep σ.np ++ lawW σ :: Z').map (·.1))) c := B
  refine ⟨h, _, _, lawE7 σ tk lf dl an lo lg TT (LL ++ [pf x]) dls ow n1 n2 n3 n4 n5 nl #[] ps ec nc σ.ep σ.np ++ lawW σ :: Z', rfl, F, N, ne_of_bel B3, some (.ref x.1), tk, TT, LL ++ [pf x], rr, tr, n1, n2, Z', rfl, rfl, ⟨c, bel_drop B3⟩, ?_, hZZ⟩
  rw [hstep]
  exact if_neg h2
theorem kw_90 : True := by
  k_with "binaryOp Add ref ref" => (k_here; (with_reducible show wpAny _ _ (binaryOp Operator.Add (Value.ref _) (Value.ref _)) _ _ _); k_dflt (refine' add_refs (l1 := List.map (·.1) ?TT) (l2 := [?x.1]) ?aF ?aN ?aa ?ab ?_ ?az; (case aF => k_asm); (case aN => k_asm); (case aa => exact ⟨_, News.get (by assumption) (by k_mem), rfl, _, rfl⟩); (case ab => exact ⟨_, News.get (by assumption) (by k_mem), rfl, _, rfl⟩); (case az => (simp; lia)); k_whole); intro D' h' F' N' l1; (try k_lt l1); (try k_sweep))
  trivial
theorem norm5E {σ : SA} {lg lf dl an lo tk c6 L : Addr} {dls : List (Addr × Obj × Lg)} {ow : List Wf} {n1 n2 n4 n5 nl nc kd c : Nat} {ps : Array Value} {ec : List DictEntry} {Z : List (Addr × Obj)} {o6 : Obj} {g h : Heap} {TT LL : List Pf} (l : Lg)
   (N : News g L h ((c6, o6) :: (tk, W.listOf (refs (TT.map (·.1))) n1) :: (lf, W.listOf (refs (LL.map (·.1))) n2) :: (dl, W.listOf ((refs (dls.map (·.1))).push (.ref c6)) kd) :: ((lawE7 σ tk lf dl an lo lg TT LL dls ow n1 n2 kd n4 n5 nl #[] ps ec nc σ.ep σ.np).drop 3 ++ lawW σ :: Z)))
   (B : Bel (((c6, o6) :: (tk, W.listOf (refs (TT.map (·.1))) n1) :: (lf, W.listOf (refs (LL.map (·.1))) n2) :: (dl, W.listOf ((refs (dls.map (·.1))).push (.ref c6)) kd) :: ((lawE7 σ tk lf dl an lo lg TT LL dls ow n1 n2 kd n4 n5 nl #[] ps ec nc σ.ep σ.np).drop 3 ++ lawW σ :: Z)).map (·.1)) c) (ho : LgO o6 l) (hdl : ∀ f ∈ dls, (f.1, f.2.1) ∈ Z ∧ LgO f.2.1 f.2.2) :
   ∃ dls' Z', News g L h (lawE7 σ tk lf dl an lo lg TT LL dls' ow n1 n2 kd n4 n5 nl #[] ps ec nc σ.ep σ.np ++ lawW σ :: Z') ∧ Bel ((lawE7 σ tk lf dl an lo lg TT LL dls' ow n1 n2 kd n4 n5 nl #[] ps ec nc σ.ep σ.np ++ lawW σ :: Z').map (·.1)) c ∧ dls'.map (·.2.2) = dls.map (·.2.2) ++ [l] ∧ (∀ f ∈ dls', (f.1, f.2.1) ∈ Z' ∧ LgO f.2.1 f.2.2) ∧ ∀ p ∈ Z, p ∈ Z' := by
  rw [refs_lg _ _ o6 l] at N B
  obtain ⟨N3, B3⟩ := mid (E := lawE7 σ tk lf dl an lo lg TT LL (dls ++ [(c6, o6, l)]) ow n1 n2 kd n4 n5 nl #[] ps ec nc σ.ep σ.np ++ [lawW σ]) (tl := Z) N B
  refine ⟨dls ++ [(c6, o6, l)], (c6, o6) :: Z, N3, B3, by simp, fun f hf => ?_, fun p hp => .tail _ hp⟩
  rcases List.mem_append.mp hf with hf | hf
  · exact ⟨.tail _ (hdl f hf).1, (hdl f hf).2⟩
  · rw [List.mem_singleton.mp hf]; exact ⟨.head _, ho⟩
noncomputable section
theorem kw_91 : True := by
  k_with "cl1" => first | refine no_implicit_lambda% (eps8 0 (inferInstanceAs (Box 0 IdT _)) rfl rfl ?_) | refine no_implicit_lambda% (eps7 0 (inferInstanceAs (Box 0 IdT _)) rfl rfl ?_) | refine no_implicit_lambda% (eps6 0 (inferInstanceAs (Box 0 IdT _)) rfl rfl ?_) | refine no_implicit_lambda% (eps5 0 (inferInstanceAs (Box 0 IdT _)) rfl rfl ?_) | refine no_implicit_lambda% (eps4 0 (inferInstanceAs (Box 0 IdT _)) rfl rfl ?_) | refine no_implicit_lambda% (eps3 0 (inferInstanceAs (Box 0 IdT _)) rfl rfl ?_) | refine no_implicit_lambda% (eps2 0 (inferInstanceAs (Box 0 IdT _)) rfl rfl ?_) | refine no_implicit_lambda% (epsd 0 (inferInstanceAs (Box 0 IdT _)) rfl rfl ?_)
  k_with "cl" => (set_option tactic.hygienic false in ((repeat ((first | rename Heap => q9 | rename Addr => q9 | rename Nat => q9 | rename Obj => q9 | rename Value => q9 | rename Int => q9 | rename List _ => q9 | rename Str → Option Value => q9 | rename Bool => q9 | rename Option _ => q9 | rename Array _ => q9 | rename Str => q9 | rename _ × _ => q9 | rename Shared => q9 | rename Program => q9 | rename ExcName → Option Value => q9 | rename Value → Shared → Prop => q9); revert q9)); (repeat (first | k_extra "cl1" | (with_reducible intro _)))))
  trivial
namespace law_55
noncomputable def St0 (w : World) (dp : Nat) (un : Nat) (fr : Option (List Env)) (gd : Option (List Code)) (s : Shared) (p : Program) (loose : List Str) (mean : ExcName → Option Value) (mg : Str → Option Value) (mb : Str → Option Value) (Qf : Flow → Shared → Prop) (g : Heap) (L : Addr) (σ : SA) (compl : Bool) (lg : Addr) (ow : List Wf) (evs : List Wf) (Z : List (Addr × Obj)) (dls : List (Addr × Obj × Lg)) (tk : Addr) (lf : Addr) (ev : Addr) (dl : Addr) (an : Addr) (lo : Addr) (sc : Addr) (oL : Addr) (n1 : Nat) (n2 : Nat) (n3 : Nat) (n4 : Nat) (n5 : Nat) (nl : Nat) (nev : Nat) (nc : Nat) (c : Nat) (ps : Array Value) (ec : List DictEntry) (room : Int) (t1 : Tok) : Prop := ∀ (X : (mkK.heap_1 w.params).In g) (T : Top p loose mean mg mb g) (hd : dp + 200 < recursionLimit) (hu : un + 2000 < cLine) (K : LawC w σ compl lg ow) (hroom : 0 ≤ room ∧ room ≤ 60) (hC : ∃ k f, DA ec k f ∧ k ≤ 31 ∧ f (Str.ofString "owed") = some (.ref lo) ∧ ∀ y, y ≠ Str.ofString "owed" → getL y σ.ec = some (f y)) (hZ : ∀ p ∈ stZ σ ++ (entA σ.as ++ (ents σ.ws ++ ents ow)), p ∈ Z) (hev : ∀ f ∈ evs, FrO f.2.1 f.2.2 ∧ (f.1, f.2.1) ∈ Z) (hevo : ∀ f ∈ evs, f.2.2.ok) (hdl : ∀ f ∈ dls, (f.1, f.2.1) ∈ Z ∧ LgO f.2.1 f.2.2) (evF : evs.map (·.2.2) = ow.map (·.2.2) ++ (heres σ.as ++ (if isTried σ compl then [Fd.chal b2] else []))) (evL : evs.length ≤ 6) (hdls : dls.map (·.2.2) = if isTried σ compl then [.tried] else []) (hevm : (ev, W.listOf (refs (wadr evs)) nev) ∈ Z) (F : Fr g L s.heap (lawM none σ.l1 tk lf ev dl an sc lg oL σ.conn σ.l2 room t1 (.int room t1) σ.wants)) (N : News g L s.heap (lawE7 σ tk lf dl an lo lg [] [] dls ow n1 n2 n3 n4 n5 nl #[] ps ec nc σ.ep σ.np ++ lawW σ :: Z)) (B : Bel ((lawE7 σ tk lf dl an lo lg [] [] dls ow n1 n2 n3 n4 n5 nl #[] ps ec nc σ.ep σ.np ++ lawW σ :: Z).map (·.1)) c) (hQ : LDone g s Qf),
   wpN (model Challenge.pw_pf0272_01 w) ((Ak dp un fr gd).deeper (lwEnv L)) (execs (lwBody.drop 9) (lwEnv L)) Qf (fun _ _ => False) s
noncomputable abbrev Ty0 : Type := (World) × (Nat) × (Nat) × (Option (List Env)) × (Option (List Code)) × (Shared) × (Program) × (List Str) × (ExcName → Option Value) × (Str → Option Value) × (Str → Option Value) × (Flow → Shared → Prop) × (Heap) × (Addr) × (SA) × (Bool) × (Addr) × (List Wf) × (List Wf) × (List (Addr × Obj)) × (List (Addr × Obj × Lg)) × (Addr) × (Addr) × (Addr) × (Addr) × (Addr) × (Addr) × (Addr) × (Addr) × (Nat) × (Nat) × (Nat) × (Nat) × (Nat) × (Nat) × (Nat) × (Nat) × (Nat) × (Array Value) × (List DictEntry) × (Int) × (Tok)
theorem ne0 : Nonempty Ty0 := ⟨Classical.choice neW, Classical.choice inferInstance, Classical.choice inferInstance, Classical.choice inferInstance, Classical.choice inferInstance, Classical.choice neS, Classical.choice inferInstance, Classical.choice inferInstance, Classical.choice inferInstance, Classical.choice inferInstance, Classical.choice inferInstance, Classical.choice inferInstance, Classical.choice inferInstance, Classical.choice inferInstance, Classical.choice neSA, Classical.choice inferInstance, Classical.choice inferInstance, Classical.choice inferInstance, Classical.choice inferInstance, Classical.choice inferInstance, Classical.choice inferInstance, Classical.choice inferInstance, Classical.choice inferInstance, Classical.choice inferInstance, Classical.choice inferInstance, Classical.choice inferInstance, Classical.choice inferInstance, Classical.choice inferInstance, Classical.choice inferInstance, Classical.choice inferInstance, Classical.choice inferInstance, Classical.choice inferInstance, Classical.choice inferInstance, Classical.choice inferInstance, Classical.choice inferInstance, Classical.choice inferInstance, Classical.choice inferInstance, Classical.choice inferInstance, Classical.choice inferInstance, Classical.choice inferInstance, Classical.choice inferInstance, Classical.choice inferInstance⟩
noncomputable def P0 (vv0 : Ty0) : Prop := St0 (vv0.1) (vv0.2.1) (vv0.2.2.1) (vv0.2.2.2.1) (vv0.2.2.2.2.1) (vv0.2.2.2.2.2.1) (vv0.2.2.2.2.2.2.1) (vv0.2.2.2.2.2.2.2.1) (vv0.2.2.2.2.2.2.2.2.1) (vv0.2.2.2.2.2.2.2.2.2.1) (vv0.2.2.2.2.2.2.2.2.2.2.1) (vv0.2.2.2.2.2.2.2.2.2.2.2.1) (vv0.2.2.2.2.2.2.2.2.2.2.2.2.1) (vv0.2.2.2.2.2.2.2.2.2.2.2.2.2.1) (vv0.2.2.2.2.2.2.2.2.2.2.2.2.2.2.1) (vv0.2.2.2.2.2.2.2.2.2.2.2.2.2.2.2.1) (vv0.2.2.2.2.2.2.2.2.2.2.2.2.2.2.2.2.1) (vv0.2.2.2.2.2.2.2.2.2.2.2.2.2.2.2.2.2.1) (vv0.2.2.2.2.2.2.2.2.2.2.2.2.2.2.2.2.2.2.1) (vv0.2.2.2.2.2.2.2.2.2.2.2.2.2.2.2.2.2.2.2.1) (vv0.2.2.2.2.2.2.2.2.2.2.2.2.2.2.2.2.2.2.2.2.1) (vv0.2.2.2.2.2.2.2.2.2.2.2.2.2.2.2.2.2.2.2.2.2.1) (vv0.2.2.2.2.2.2.2.2.2.2.2.2.2.2.2.2.2.2.2.2.2.2.1) (vv0.2.2.2.2.2.2.2.2.2.2.2.2.2.2.2.2.2.2.2.2.2.2.2.1) (vv0.2.2.2.2.2.2.2.2.2.2.2.2.2.2.2.2.2.2.2.2.2.2.2.2.1) (vv0.2.2.2.2.2.2.2.2.2.2.2.2.2.2.2.2.2.2.2.2.2.2.2.2.2.1) (vv0.2.2.2.2.2.2.2.2.2.2.2.2.2.2.2.2.2.2.2.2.2.2.2.2.2.2.1) (vv0.2.2.2.2.2.2.2.2.2.2.2.2.2.2.2.2.2.2.2.2.2.2.2.2.2.2.2.1) (vv0.2.2.2.2.2.2.2.2.2.2.2.2.2.2.2.2.2.2.2.2.2.2.2.2.2.2.2.2.1) (vv0.2.2.2.2.2.2.2.2.2.2.2.2.2.2.2.2.2.2.2.2.2.2.2.2.2.2.2.2.2.1) (vv0.2.2.2.2.2.2.2.2.2.2.2.2.2.2.2.2.2.2.2.2.2.2.2.2.2.2.2.2.2.2.1) (vv0.2.2.2.2.2.2.2.2.2.2.2.2.2.2.2.2.2.2.2.2.2.2.2.2.2.2.2.2.2.2.2.1) (vv0.2.2.2.2.2.2.2.2.2.2.2.2.2.2.2.2.2.2.2.2.2.2.2.2.2.2.2.2.2.2.2.2.1) (vv0.2.2.2.2.2.2.2.2.2.2.2.2.2.2.2.2.2.2.2.2.2.2.2.2.2.2.2.2.2.2.2.2.2.1) (vv0.2.2.2.2.2.2.2.2.2.2.2.2.2.2.2.2.2.2.2.2.2.2.2.2.2.2.2.2.2.2.2.2.2.2.1) (vv0.2.2.2.2.2.2.2.2.2.2.2.2.2.2.2.2.2.2.2.2.2.2.2.2.2.2.2.2.2.2.2.2.2.2.2.1) (vv0.2.2.2.2.2.2.2.2.2.2.2.2.2.2.2.2.2.2.2.2.2.2.2.2.2.2.2.2.2.2.2.2.2.2.2.2.1) (vv0.2.2.2.2.2.2.2.2.2.2.2.2.2.2.2.2.2.2.2.2.2.2.2.2.2.2.2.2.2.2.2.2.2.2.2.2.2.1) (vv0.2.2.2.2.2.2.2.2.2.2.2.2.2.2.2.2.2.2.2.2.2.2.2.2.2.2.2.2.2.2.2.2.2.2.2.2.2.2.1) (vv0.2.2.2.2.2.2.2.2.2.2.2.2.2.2.2.2.2.2.2.2.2.2.2.2.2.2.2.2.2.2.2.2.2.2.2.2.2.2.2.1) (vv0.2.2.2.2.2.2.2.2.2.2.2.2.2.2.2.2.2.2.2.2.2.2.2.2.2.2.2.2.2.2.2.2.2.2.2.2.2.2.2.2.1) (vv0.2.2.2.2.2.2.2.2.2.2.2.2.2.2.2.2.2.2.2.2.2.2.2.2.2.2.2.2.2.2.2.2.2.2.2.2.2.2.2.2.2)
@[irreducible] def vv0 : Ty0 := @ata _ ne0 0 P0
@[irreducible] def w : World := vv0.1
@[irreducible] def dp : Nat := vv0.2.1
@[irreducible] def un : Nat := vv0.2.2.1
@[irreducible] def fr : Option (List Env) := vv0.2.2.2.1
@[irreducible] def s : Shared := vv0.2.2.2.2.2.1
@[irreducible] def p : Program := vv0.2.2.2.2.2.2.1
@[irreducible] def mb : Str → Option Value := vv0.2.2.2.2.2.2.2.2.2.2.1
@[irreducible] def g : Heap := vv0.2.2.2.2.2.2.2.2.2.2.2.2.1
@[irreducible] def L : Addr := vv0.2.2.2.2.2.2.2.2.2.2.2.2.2.1
@[irreducible] def σ : SA := vv0.2.2.2.2.2.2.2.2.2.2.2.2.2.2.1
@[irreducible] def compl : Bool := vv0.2.2.2.2.2.2.2.2.2.2.2.2.2.2.2.1
@[irreducible] def lg : Addr := vv0.2.2.2.2.2.2.2.2.2.2.2.2.2.2.2.2.1
@[irreducible] def ow : List Wf := vv0.2.2.2.2.2.2.2.2.2.2.2.2.2.2.2.2.2.1
@[irreducible] def evs : List Wf := vv0.2.2.2.2.2.2.2.2.2.2.2.2.2.2.2.2.2.2.1
@[irreducible] def Z : List (Addr × Obj) := vv0.2.2.2.2.2.2.2.2.2.2.2.2.2.2.2.2.2.2.2.1
@[irreducible] def dls : List (Addr × Obj × Lg) := vv0.2.2.2.2.2.2.2.2.2.2.2.2.2.2.2.2.2.2.2.2.1
@[irreducible] def tk : Addr := vv0.2.2.2.2.2.2.2.2.2.2.2.2.2.2.2.2.2.2.2.2.2.1
@[irreducible] def lf : Addr := vv0.2.2.2.2.2.2.2.2.2.2.2.2.2.2.2.2.2.2.2.2.2.2.1
@[irreducible] def ev : Addr := vv0.2.2.2.2.2.2.2.2.2.2.2.2.2.2.2.2.2.2.2.2.2.2.2.1
@[irreducible] def dl : Addr := vv0.2.2.2.2.2.2.2.2.2.2.2.2.2.2.2.2.2.2.2.2.2.2.2.2.1
@[irreducible] def an : Addr := vv0.2.2.2.2.2.2.2.2.2.2.2.2.2.2.2.2.2.2.2.2.2.2.2.2.2.1
@[irreducible] def lo : Addr := vv0.2.2.2.2.2.2.2.2.2.2.2.2.2.2.2.2.2.2.2.2.2.2.2.2.2.2.1
@[irreducible] def sc : Addr := vv0.2.2.2.2.2.2.2.2.2.2.2.2.2.2.2.2.2.2.2.2.2.2.2.2.2.2.2.1
@[irreducible] def oL : Addr := vv0.2.2.2.2.2.2.2.2.2.2.2.2.2.2.2.2.2.2.2.2.2.2.2.2.2.2.2.2.1
@[irreducible] def n1 : Nat := vv0.2.2.2.2.2.2.2.2.2.2.2.2.2.2.2.2.2.2.2.2.2.2.2.2.2.2.2.2.2.1
@[irreducible] def n2 : Nat := vv0.2.2.2.2.2.2.2.2.2.2.2.2.2.2.2.2.2.2.2.2.2.2.2.2.2.2.2.2.2.2.1
@[irreducible] def n3 : Nat := vv0.2.2.2.2.2.2.2.2.2.2.2.2.2.2.2.2.2.2.2.2.2.2.2.2.2.2.2.2.2.2.2.1
@[irreducible] def n4 : Nat := vv0.2.2.2.2.2.2.2.2.2.2.2.2.2.2.2.2.2.2.2.2.2.2.2.2.2.2.2.2.2.2.2.2.1
@[irreducible] def n5 : Nat := vv0.2.2.2.2.2.2.2.2.2.2.2.2.2.2.2.2.2.2.2.2.2.2.2.2.2.2.2.2.2.2.2.2.2.1
@[irreducible] def nl : Nat := vv0.2.2.2.2.2.2.2.2.2.2.2.2.2.2.2.2.2.2.2.2.2.2.2.2.2.2.2.2.2.2.2.2.2.2.1
@[irreducible] def nev : Nat := vv0.2.2.2.2.2.2.2.2.2.2.2.2.2.2.2.2.2.2.2.2.2.2.2.2.2.2.2.2.2.2.2.2.2.2.2.1
@[irreducible] def nc : Nat := vv0.2.2.2.2.2.2.2.2.2.2.2.2.2.2.2.2.2.2.2.2.2.2.2.2.2.2.2.2.2.2.2.2.2.2.2.2.1
@[irreducible] def c : Nat := vv0.2.2.2.2.2.2.2.2.2.2.2.2.2.2.2.2.2.2.2.2.2.2.2.2.2.2.2.2.2.2.2.2.2.2.2.2.2.1
@[irreducible] def ps : Array Value := vv0.2.2.2.2.2.2.2.2.2.2.2.2.2.2.2.2.2.2.2.2.2.2.2.2.2.2.2.2.2.2.2.2.2.2.2.2.2.2.1
@[irreducible] def ec : List DictEntry := vv0.2.2.2.2.2.2.2.2.2.2.2.2.2.2.2.2.2.2.2.2.2.2.2.2.2.2.2.2.2.2.2.2.2.2.2.2.2.2.2.1
@[irreducible] def room : Int := vv0.2.2.2.2.2.2.2.2.2.2.2.2.2.2.2.2.2.2.2.2.2.2.2.2.2.2.2.2.2.2.2.2.2.2.2.2.2.2.2.2.1
@[irreducible] def t1 : Tok := vv0.2.2.2.2.2.2.2.2.2.2.2.2.2.2.2.2.2.2.2.2.2.2.2.2.2.2.2.2.2.2.2.2.2.2.2.2.2.2.2.2.2
theorem prf0 : St0 w dp un fr (vv0.2.2.2.2.1) s p (vv0.2.2.2.2.2.2.2.1) (vv0.2.2.2.2.2.2.2.2.1) (vv0.2.2.2.2.2.2.2.2.2.1) mb (vv0.2.2.2.2.2.2.2.2.2.2.2.1) g L σ compl lg ow evs Z dls tk lf ev dl an lo sc oL n1 n2 n3 n4 n5 nl nev nc c ps ec room t1 := by
  intro X T hd hu K hroom hC hZ hev hevo hdl evF evL hdls hevm F N B hQ
  k_extra "fl"
  conv in (occs := *) List.drop _ lwBody => whnf
  unfold lwEnv
  conv in (occs := *) lwScope => whnf
  have hlim := K.ok.lim
  simp only [lawE7, lawW, List.cons_append, List.nil_append, List.map_cons] at N B
  refine wpN_execs_cons (wpN_For (wpN_of_any ?_))
  k_extra "WC"
  rename Fr _ _ _ _ => F1
  rename News _ _ _ _ => N1
  refine add_refs (l1 := wadr evs) (l2 := List.replicate σ.lims σ.lf) F1 N1 ⟨_, (N1 (ev, W.listOf (refs (wadr evs)) nev) (by (repeat (first | exact hevm | refine List.Mem.tail _ ?_)))).1, rfl, _, rfl⟩ ⟨_, N1.get (by k_mem : (σ.l2, W.listOf (List.replicate σ.lims (Value.ref σ.lf)).toArray σ.n2) ∈ _), rfl, σ.n2, by rw [refs, List.map_replicate]⟩ (fun el h2 F2 N2 l2 => ?_) (by simp [wadr]; lia)
  have eA := loffer_adr σ evs
  rw [← eA] at N2
  have hol : (loffer σ evs).length ≤ 7 := by simp [loffer]; lia
  have B2 : Bel (el :: _) el := bel_step l2 B fun q => q
  obtain ⟨N3, B3⟩ := mid (E := lawE7 σ tk lf dl an lo lg [] [] dls ow n1 n2 n3 n4 n5 nl #[] ps ec nc σ.ep σ.np ++ [lawW σ]) (tl := Z) N2 B2
  refine for_own (n := (refs ((loffer σ evs).map (·.1))).size) (J5 σ lg lf ev dl an lo sc oL dls ow evs n3 n4 n5 nl nc ps ec room t1 ((el, W.listOf (refs ((loffer σ evs).map (·.1))) 0) :: Z)) (SrcO.list rfl ⟨_, N2.get (.head _), rfl, _, rfl⟩ (fun h => nomatch h)) rfl rfl F2 N3 ⟨none, tk, [], [], room, t1, n1, n2, _, rfl, rfl, ⟨_, B3⟩, rfl, fun p hp => hp⟩ ?_ ?_ ?_ ?_
  · intro b hb
    rw [List.mem_singleton.mp hb]
    exact (N2 _ (.head _)).2.1
  · rintro b hb o ho i m news h zx
    k_extra "g1"
    obtain ⟨fo, tkA, TT, LL, rr, tr, n1', n2', Z', rfl, rfl, -, -, hZZ⟩ := zx
    k_extra "g2"
    rintro - NN
    obtain rfl := List.mem_singleton.mp hb
    have h1 := N2.get (.head _)
    rw [h1] at ho; cases ho
    exact (NN _ (List.mem_append_right _ (.tail _ (hZZ _ (.head _))))).1
  · clear B F1 N1 F2 N2 N3 B2 B3 l2
    rintro i v m₁ news₁ I o h tk' hP hi zx
    k_extra "g1"
    obtain ⟨fo, tkA, TT, LL, rr, tr, n1', n2', Z', rfl, rfl, ⟨cB, B⟩, hfill, hZZ⟩ := zx
    k_extra "g2"
    rintro hlt hne F N
    k_extra "g1"
    obtain ⟨f, hfi, hfm, rfl⟩ := refs_get hP
    k_extra "g2"
    have hZs : ∀ p ∈ Z, p ∈ Z' := fun p hp => hZZ p (.tail _ hp)
    have zx := loffer_get hfm K.ok.lfo (hZs _ (hZ (σ.lf, σ.olf) (List.mem_append_left _ (by simp [stZ])))) (fun f hf => ⟨(hev f hf).1, hZs _ (hev f hf).2⟩) hevo
    k_extra "g1"
    obtain ⟨x, rfl, hx1, hx2, hx3⟩ := zx
    k_extra "g2"
    have hstep := fillF_step (room := room) hfi
    rw [hfill] at hstep
    have hlen := fill_len2 ((loffer σ evs).take i) room
    rw [hfill] at hlen
    have htl := List.length_take_le i (loffer σ evs)
    have htl2 := List.length_take_le' i (loffer σ evs)
    dsimp only at hlen
    have hxs := Fd.sz_pos hx1
    have hzT := szR (TT.map (·.1)) 15 (by simp; lia) (by lia)
    have hzL := szR (LL.map (·.1)) 15 (by simp; lia) (by lia)
    have hzL2 : (refs (LL.map (·.1))).size ≤ sizeLine := hzL
    have B' : Bel (I :: _) h.objs.size := bel_in N B hne
    simp only [lawE7, lawW, List.cons_append, List.nil_append, List.map_cons] at N B'
    clear B
    k_extra "cl"
    (have q9 : Fd.ok (?x : Wf).2.2 := (by first | with_reducible assumption | assumption); clear q9); (have q9 : List.length ?TT + List.length ?LL = List.length ?tk9 := (by first | with_reducible assumption | assumption); clear q9)
    refine wpN_execs_cons (wpN_If (wpN_of_any ?_))
    k_extra "WCK"
    · k_extra "cl"
      refine wpN_execs_cons (wpN_of_any ?_)
      k_extra "WCK"
      rename Fr _ _ _ _ => F9
      rename News _ _ _ _ => N9
      rename Bel _ _ => B9
      refine wpN_execs_nil (wpN_execs_nil ?_)
      exact norm5T F9 N9 B9 hstep (by lia) hZZ
    · k_extra "cl"
      refine wpN_execs_cons (wpN_of_any ?_)
      k_extra "WCK"
      rename Fr _ _ _ _ => F9
      rename News _ _ _ _ => N9
      rename Bel _ _ => B9
      refine wpN_execs_nil (wpN_execs_nil ?_)
      exact norm5L F9 N9 B9 hstep (by lia) hZZ
  · clear B F1 N1 F2 N2 N3 B2 B3 l2
    rintro m₁ news₁ h tk' zx
    k_extra "g1"
    obtain ⟨fo, tkA, TT, LL, rr, tr, n1', n2', Z', rfl, rfl, ⟨cB, B⟩, hfill, hZZ⟩ := zx
    k_extra "g2"
    rintro F N
    rw [List.take_of_length_le (by simp [refs])] at hfill
    have hZs : ∀ p ∈ Z, p ∈ Z' := fun p hp => hZZ p (.tail _ hp)
    have hrm := fill_room (fs := loffer σ evs) (room := room) (fun f hf => by
      have zx := loffer_get hf K.ok.lfo (hZs _ (hZ (σ.lf, σ.olf) (List.mem_append_left _ (by simp [stZ])))) (fun f hf => ⟨(hev f hf).1, hZs _ (hev f hf).2⟩) hevo
      k_extra "g1"
      obtain ⟨x, rfl, hx1, -, -⟩ := zx
      k_extra "g2"
      exact hx1) hroom.1
    have hlen := fill_len2 (loffer σ evs) room
    rw [hfill] at hrm hlen
    dsimp only at hrm hlen
    have hd2 : (refs (dls.map (·.1))).size ≤ sizeLine := by
      have := congrArg List.length hdls
      rw [List.length_map] at this
      have h3 : (if isTried σ compl then [Lg.tried] else []).length ≤ 1 := by split <;> simp
      exact szR _ 5 (by rw [List.length_map, this]; lia) (by lia)
    simp only [lawE7, lawW, List.cons_append, List.nil_append, List.map_cons] at N B
    dsimp only
    k_extra "cl"
    refine wpN_execs_cons (wpN_of_any ?_)
    k_extra "WCK"
    rename Fr _ _ _ _ => F9
    rename News _ _ _ _ => N9
    rename Bel _ _ => B9
    k_extra "g1"
    obtain ⟨dls', Z2, N8, B8, e8, hd8, hz8⟩ := norm5E (.room _) N9 B9 ⟨_, _, rfl, rfl, _, _, rfl⟩ (fun f hf => ⟨hZs _ (hdl f hf).1, (hdl f hf).2⟩)
    k_extra "g2"
    exact law_6 X T hd hu K hroom hC (fun p hp => hz8 p (hZs p (hZ p hp))) (fun f hf => ⟨(hev f hf).1, hz8 _ (hZs _ (hev f hf).2)⟩) hd8 evF evL (by rw [hfill]) (by rw [hfill]) (by rw [hfill]) ⟨hrm.1, by lia⟩ (by lia) (by rw [e8, hdls]) F9 N8 B8 hQ
end law_55
theorem law_55 {w : World} {dp : Nat} {un : Nat} {fr : Option (List Env)} {gd : Option (List Code)} {s : Shared} {p : Program} {loose : List Str} {mean : ExcName → Option Value} {mg : Str → Option Value} {mb : Str → Option Value} {Qf : Flow → Shared → Prop} {g : Heap} {L : Addr} {σ : SA} {compl : Bool} {lg : Addr} {ow : List Wf} {evs : List Wf} {Z : List (Addr × Obj)} {dls : List (Addr × Obj × Lg)} {tk : Addr} {lf : Addr} {ev : Addr} {dl : Addr} {an : Addr} {lo : Addr} {sc : Addr} {oL : Addr} {n1 : Nat} {n2 : Nat} {n3 : Nat} {n4 : Nat} {n5 : Nat} {nl : Nat} {nev : Nat} {nc : Nat} {c : Nat} {ps : Array Value} {ec : List DictEntry} {room : Int} {t1 : Tok} : law_55.St0 w dp un fr gd s p loose mean mg mb Qf g L σ compl lg ow evs Z dls tk lf ev dl an lo sc oL n1 n2 n3 n4 n5 nl nev nc c ps ec room t1 :=
  @ata_spec _ law_55.ne0 0 law_55.P0 (by with_unfolding_all exact law_55.prf0) (w, dp, un, fr, gd, s, p, loose, mean, mg, mb, Qf, g, L, σ, compl, lg, ow, evs, Z, dls, tk, lf, ev, dl, an, lo, sc, oL, n1, n2, n3, n4, n5, nl, nev, nc, c, ps, ec, room, t1)
namespace law_5
noncomputable def St0 (w : World) (dp : Nat) (un : Nat) (fr : Option (List Env)) (gd : Option (List Code)) (s : Shared) (p : Program) (loose : List Str) (mean : ExcName → Option Value) (mg : Str → Option Value) (mb : Str → Option Value) (Qf : Flow → Shared → Prop) (g : Heap) (L : Addr) (σ : SA) (compl : Bool) (lg : Addr) (ow : List Wf) (evs : List Wf) (Z : List (Addr × Obj)) (dls : List (Addr × Obj × Lg)) (ev : Addr) (dl : Addr) (an : Addr) (lo : Addr) (sc : Addr) (oL : Addr) (n3 : Nat) (n4 : Nat) (n5 : Nat) (nl : Nat) (nev : Nat) (nc : Nat) (c : Nat) (ps : Array Value) (ec : List DictEntry) (room : Int) (t1 : Tok) : Prop := ∀ (X : (mkK.heap_1 w.params).In g) (T : Top p loose mean mg mb g) (hd : dp + 200 < recursionLimit) (hu : un + 2000 < cLine) (K : LawC w σ compl lg ow) (hroom : 0 ≤ room ∧ room ≤ 60) (hC : ∃ k f, DA ec k f ∧ k ≤ 31 ∧ f (Str.ofString "owed") = some (.ref lo) ∧ ∀ y, y ≠ Str.ofString "owed" → getL y σ.ec = some (f y)) (hZ : ∀ p ∈ stZ σ ++ (entA σ.as ++ (ents σ.ws ++ ents ow)), p ∈ Z) (hev : ∀ f ∈ evs, FrO f.2.1 f.2.2 ∧ (f.1, f.2.1) ∈ Z) (hevo : ∀ f ∈ evs, f.2.2.ok) (hdl : ∀ f ∈ dls, (f.1, f.2.1) ∈ Z ∧ LgO f.2.1 f.2.2) (evF : evs.map (·.2.2) = ow.map (·.2.2) ++ (heres σ.as ++ (if isTried σ compl then [Fd.chal b2] else []))) (evL : evs.length ≤ 6) (hdls : dls.map (·.2.2) = if isTried σ compl then [.tried] else []) (F : Fr g L s.heap (lawP σ.l1 ev dl an sc lg oL σ.conn σ.l2 room t1 σ.wants)) (N : News g L s.heap ((dl, W.listOf (refs (dls.map (·.1))) n3) :: (ev, W.listOf (refs (wadr evs)) nev) :: ((lawE7 σ 0 0 dl an lo lg [] [] dls ow 0 0 n3 n4 n5 nl #[] ps ec nc σ.ep σ.np).drop 3 ++ lawW σ :: Z))) (B : Bel (((dl, W.listOf (refs (dls.map (·.1))) n3) :: (ev, W.listOf (refs (wadr evs)) nev) :: ((lawE7 σ 0 0 dl an lo lg [] [] dls ow 0 0 n3 n4 n5 nl #[] ps ec nc σ.ep σ.np).drop 3 ++ lawW σ :: Z)).map (·.1)) c) (hQ : LDone g s Qf),
   wpN (model Challenge.pw_pf0272_01 w) ((Ak dp un fr gd).deeper (lwEnv L)) (execs (lwBody.drop 8) (lwEnv L)) Qf (fun _ _ => False) s
noncomputable abbrev Ty0 : Type := (World) × (Nat) × (Nat) × (Option (List Env)) × (Option (List Code)) × (Shared) × (Program) × (List Str) × (ExcName → Option Value) × (Str → Option Value) × (Str → Option Value) × (Flow → Shared → Prop) × (Heap) × (Addr) × (SA) × (Bool) × (Addr) × (List Wf) × (List Wf) × (List (Addr × Obj)) × (List (Addr × Obj × Lg)) × (Addr) × (Addr) × (Addr) × (Addr) × (Addr) × (Addr) × (Nat) × (Nat) × (Nat) × (Nat) × (Nat) × (Nat) × (Nat) × (Array Value) × (List DictEntry) × (Int) × (Tok)
theorem ne0 : Nonempty Ty0 := ⟨Classical.choice neW, Classical.choice inferInstance, Classical.choice inferInstance, Classical.choice inferInstance, Classical.choice inferInstance, Classical.choice neS, Classical.choice inferInstance, Classical.choice inferInstance, Classical.choice inferInstance, Classical.choice inferInstance, Classical.choice inferInstance, Classical.choice inferInstance, Classical.choice inferInstance, Classical.choice inferInstance, Classical.choice neSA, Classical.choice inferInstance, Classical.choice inferInstance, Classical.choice inferInstance, Classical.choice inferInstance, Classical.choice inferInstance, Classical.choice inferInstance, Classical.choice inferInstance, Classical.choice inferInstance, Classical.choice inferInstance, Classical.choice inferInstance, Classical.choice inferInstance, Classical.choice inferInstance, Classical.choice inferInstance, Classical.choice inferInstance, Classical.choice inferInstance, Classical.choice inferInstance, Classical.choice inferInstance, Classical.choice inferInstance, Classical.choice inferInstance, Classical.choice inferInstance, Classical.choice inferInstance, Classical.choice inferInstance, Classical.choice inferInstance⟩
noncomputable def P0 (vv0 : Ty0) : Prop := St0 (vv0.1) (vv0.2.1) (vv0.2.2.1) (vv0.2.2.2.1) (vv0.2.2.2.2.1) (vv0.2.2.2.2.2.1) (vv0.2.2.2.2.2.2.1) (vv0.2.2.2.2.2.2.2.1) (vv0.2.2.2.2.2.2.2.2.1) (vv0.2.2.2.2.2.2.2.2.2.1) (vv0.2.2.2.2.2.2.2.2.2.2.1) (vv0.2.2.2.2.2.2.2.2.2.2.2.1) (vv0.2.2.2.2.2.2.2.2.2.2.2.2.1) (vv0.2.2.2.2.2.2.2.2.2.2.2.2.2.1) (vv0.2.2.2.2.2.2.2.2.2.2.2.2.2.2.1) (vv0.2.2.2.2.2.2.2.2.2.2.2.2.2.2.2.1) (vv0.2.2.2.2.2.2.2.2.2.2.2.2.2.2.2.2.1) (vv0.2.2.2.2.2.2.2.2.2.2.2.2.2.2.2.2.2.1) (vv0.2.2.2.2.2.2.2.2.2.2.2.2.2.2.2.2.2.2.1) (vv0.2.2.2.2.2.2.2.2.2.2.2.2.2.2.2.2.2.2.2.1) (vv0.2.2.2.2.2.2.2.2.2.2.2.2.2.2.2.2.2.2.2.2.1) (vv0.2.2.2.2.2.2.2.2.2.2.2.2.2.2.2.2.2.2.2.2.2.1) (vv0.2.2.2.2.2.2.2.2.2.2.2.2.2.2.2.2.2.2.2.2.2.2.1) (vv0.2.2.2.2.2.2.2.2.2.2.2.2.2.2.2.2.2.2.2.2.2.2.2.1) (vv0.2.2.2.2.2.2.2.2.2.2.2.2.2.2.2.2.2.2.2.2.2.2.2.2.1) (vv0.2.2.2.2.2.2.2.2.2.2.2.2.2.2.2.2.2.2.2.2.2.2.2.2.2.1) (vv0.2.2.2.2.2.2.2.2.2.2.2.2.2.2.2.2.2.2.2.2.2.2.2.2.2.2.1) (vv0.2.2.2.2.2.2.2.2.2.2.2.2.2.2.2.2.2.2.2.2.2.2.2.2.2.2.2.1) (vv0.2.2.2.2.2.2.2.2.2.2.2.2.2.2.2.2.2.2.2.2.2.2.2.2.2.2.2.2.1) (vv0.2.2.2.2.2.2.2.2.2.2.2.2.2.2.2.2.2.2.2.2.2.2.2.2.2.2.2.2.2.1) (vv0.2.2.2.2.2.2.2.2.2.2.2.2.2.2.2.2.2.2.2.2.2.2.2.2.2.2.2.2.2.2.1) (vv0.2.2.2.2.2.2.2.2.2.2.2.2.2.2.2.2.2.2.2.2.2.2.2.2.2.2.2.2.2.2.2.1) (vv0.2.2.2.2.2.2.2.2.2.2.2.2.2.2.2.2.2.2.2.2.2.2.2.2.2.2.2.2.2.2.2.2.1) (vv0.2.2.2.2.2.2.2.2.2.2.2.2.2.2.2.2.2.2.2.2.2.2.2.2.2.2.2.2.2.2.2.2.2.1) (vv0.2.2.2.2.2.2.2.2.2.2.2.2.2.2.2.2.2.2.2.2.2.2.2.2.2.2.2.2.2.2.2.2.2.2.1) (vv0.2.2.2.2.2.2.2.2.2.2.2.2.2.2.2.2.2.2.2.2.2.2.2.2.2.2.2.2.2.2.2.2.2.2.2.1) (vv0.2.2.2.2.2.2.2.2.2.2.2.2.2.2.2.2.2.2.2.2.2.2.2.2.2.2.2.2.2.2.2.2.2.2.2.2.1) (vv0.2.2.2.2.2.2.2.2.2.2.2.2.2.2.2.2.2.2.2.2.2.2.2.2.2.2.2.2.2.2.2.2.2.2.2.2.2)
@[irreducible] def vv0 : Ty0 := @ata _ ne0 0 P0
@[irreducible] def w : World := vv0.1
@[irreducible] def dp : Nat := vv0.2.1
@[irreducible] def un : Nat := vv0.2.2.1
@[irreducible] def fr : Option (List Env) := vv0.2.2.2.1
@[irreducible] def s : Shared := vv0.2.2.2.2.2.1
@[irreducible] def p : Program := vv0.2.2.2.2.2.2.1
@[irreducible] def mb : Str → Option Value := vv0.2.2.2.2.2.2.2.2.2.2.1
@[irreducible] def g : Heap := vv0.2.2.2.2.2.2.2.2.2.2.2.2.1
@[irreducible] def L : Addr := vv0.2.2.2.2.2.2.2.2.2.2.2.2.2.1
@[irreducible] def ow : List Wf := vv0.2.2.2.2.2.2.2.2.2.2.2.2.2.2.2.2.2.1
@[irreducible] def Z : List (Addr × Obj) := vv0.2.2.2.2.2.2.2.2.2.2.2.2.2.2.2.2.2.2.2.1
@[irreducible] def dls : List (Addr × Obj × Lg) := vv0.2.2.2.2.2.2.2.2.2.2.2.2.2.2.2.2.2.2.2.2.1
@[irreducible] def ev : Addr := vv0.2.2.2.2.2.2.2.2.2.2.2.2.2.2.2.2.2.2.2.2.2.1
@[irreducible] def dl : Addr := vv0.2.2.2.2.2.2.2.2.2.2.2.2.2.2.2.2.2.2.2.2.2.2.1
@[irreducible] def an : Addr := vv0.2.2.2.2.2.2.2.2.2.2.2.2.2.2.2.2.2.2.2.2.2.2.2.1
@[irreducible] def lo : Addr := vv0.2.2.2.2.2.2.2.2.2.2.2.2.2.2.2.2.2.2.2.2.2.2.2.2.1
@[irreducible] def nl : Nat := vv0.2.2.2.2.2.2.2.2.2.2.2.2.2.2.2.2.2.2.2.2.2.2.2.2.2.2.2.2.2.2.1
@[irreducible] def nc : Nat := vv0.2.2.2.2.2.2.2.2.2.2.2.2.2.2.2.2.2.2.2.2.2.2.2.2.2.2.2.2.2.2.2.2.1
@[irreducible] def c : Nat := vv0.2.2.2.2.2.2.2.2.2.2.2.2.2.2.2.2.2.2.2.2.2.2.2.2.2.2.2.2.2.2.2.2.2.1
@[irreducible] def ps : Array Value := vv0.2.2.2.2.2.2.2.2.2.2.2.2.2.2.2.2.2.2.2.2.2.2.2.2.2.2.2.2.2.2.2.2.2.2.1
@[irreducible] def ec : List DictEntry := vv0.2.2.2.2.2.2.2.2.2.2.2.2.2.2.2.2.2.2.2.2.2.2.2.2.2.2.2.2.2.2.2.2.2.2.2.1
@[irreducible] def room : Int := vv0.2.2.2.2.2.2.2.2.2.2.2.2.2.2.2.2.2.2.2.2.2.2.2.2.2.2.2.2.2.2.2.2.2.2.2.2.1
theorem prf0 : St0 w dp un fr (vv0.2.2.2.2.1) s p (vv0.2.2.2.2.2.2.2.1) (vv0.2.2.2.2.2.2.2.2.1) (vv0.2.2.2.2.2.2.2.2.2.1) mb (vv0.2.2.2.2.2.2.2.2.2.2.2.1) g L (vv0.2.2.2.2.2.2.2.2.2.2.2.2.2.2.1) (vv0.2.2.2.2.2.2.2.2.2.2.2.2.2.2.2.1) (vv0.2.2.2.2.2.2.2.2.2.2.2.2.2.2.2.2.1) ow (vv0.2.2.2.2.2.2.2.2.2.2.2.2.2.2.2.2.2.2.1) Z dls ev dl an lo (vv0.2.2.2.2.2.2.2.2.2.2.2.2.2.2.2.2.2.2.2.2.2.2.2.2.2.1) (vv0.2.2.2.2.2.2.2.2.2.2.2.2.2.2.2.2.2.2.2.2.2.2.2.2.2.2.1) (vv0.2.2.2.2.2.2.2.2.2.2.2.2.2.2.2.2.2.2.2.2.2.2.2.2.2.2.2.1) (vv0.2.2.2.2.2.2.2.2.2.2.2.2.2.2.2.2.2.2.2.2.2.2.2.2.2.2.2.2.1) (vv0.2.2.2.2.2.2.2.2.2.2.2.2.2.2.2.2.2.2.2.2.2.2.2.2.2.2.2.2.2.1) nl (vv0.2.2.2.2.2.2.2.2.2.2.2.2.2.2.2.2.2.2.2.2.2.2.2.2.2.2.2.2.2.2.2.1) nc c ps ec room (vv0.2.2.2.2.2.2.2.2.2.2.2.2.2.2.2.2.2.2.2.2.2.2.2.2.2.2.2.2.2.2.2.2.2.2.2.2.2) := by
  intro X T hd hu K hroom hC hZ hev hevo hdl evF evL hdls F N B hQ
  k_extra "fl"
  conv in (occs := *) List.drop _ lwBody => whnf
  unfold lwEnv
  conv in (occs := *) lwScope => whnf
  have hlim := K.ok.lim
  simp only [lawE7, lawW, List.drop_succ_cons, List.drop_zero, List.cons_append, List.nil_append, List.map_cons] at N B
  refine wpN_execs_cons (wpN_of_any ?_)
  k_extra "WC"
  rename Fr _ _ _ _ => F9
  rename News _ _ _ _ => N9
  rename Bel _ _ => B9
  k_extra "g1"
  obtain ⟨F2, N2, B2⟩ := norm5 F9 N9 B9
  k_extra "g2"
  exact law_55 X T hd hu K hroom hC (fun p hp => .tail _ (hZ p hp)) (fun f hf => ⟨(hev f hf).1, .tail _ (hev f hf).2⟩) hevo (fun f hf => ⟨.tail _ (hdl f hf).1, (hdl f hf).2⟩) evF evL hdls (.head _) F2 N2 B2 hQ
end law_5
theorem law_5 {w : World} {dp : Nat} {un : Nat} {fr : Option (List Env)} {gd : Option (List Code)} {s : Shared} {p : Program} {loose : List Str} {mean : ExcName → Option Value} {mg : Str → Option Value} {mb : Str → Option Value} {Qf : Flow → Shared → Prop} {g : Heap} {L : Addr} {σ : SA} {compl : Bool} {lg : Addr} {ow : List Wf} {evs : List Wf} {Z : List (Addr × Obj)} {dls : List (Addr × Obj × Lg)} {ev : Addr} {dl : Addr} {an : Addr} {lo : Addr} {sc : Addr} {oL : Addr} {n3 : Nat} {n4 : Nat} {n5 : Nat} {nl : Nat} {nev : Nat} {nc : Nat} {c : Nat} {ps : Array Value} {ec : List DictEntry} {room : Int} {t1 : Tok} : law_5.St0 w dp un fr gd s p loose mean mg mb Qf g L σ compl lg ow evs Z dls ev dl an lo sc oL n3 n4 n5 nl nev nc c ps ec room t1 :=
  @ata_spec _ law_5.ne0 0 law_5.P0 (by with_unfolding_all exact law_5.prf0) (w, dp, un, fr, gd, s, p, loose, mean, mg, mb, Qf, g, L, σ, compl, lg, ow, evs, Z, dls, ev, dl, an, lo, sc, oL, n3, n4, n5, nl, nev, nc, c, ps, ec, room, t1)
end
end
noncomputable section
open PyProof.Rows.LCg
theorem kw_96 : True := by
  k_with_none
  k_with "rm" => first | exact room_lt (by assumption) rfl | exact room_lt1 (by assumption) | lia
  k_with "g1" => refine by_goal fun zG zh => ?_
  k_with "g2" => (refine zh ?_; clear zh zG)
  k_with "WCK" => (repeat' (first | ((with_reducible show wpAny _ _ (execs (_ :: _) _) _ _ _); (first | (k_gentoks; (set_option tactic.hygienic false in k_extra "cl")) | walk1)) | ((with_reducible show wpAny _ _ _ _ _ _); (fail_if_success (with_reducible show wpAny _ _ (eval (Expr.ListComp _ _ _ _) _) _ _ _)); (fail_if_success (with_reducible show wpAny _ _ (pyIter _) _ _ _)); (fail_if_success (with_reducible show wpAny _ _ (compareOp _ (Value.ref _) (Value.ref _)) _ _ _)); (fail_if_success (with_reducible show wpAny _ _ (exec (Stmt.Assign [Expr.Name _ _] (Expr.ListComp _ _ _ _) _) _) _ _ _)); walk1; (set_option tactic.hygienic false in k_extra "cl")) | ((with_reducible show ite _ _ _); walk1) | ((with_reducible show (Frag.In _ _ ∧ wpAny _ _ _ _ _ _)); refine And.intro (Frag.In.keeps (by assumption) (Fr.keep (by assumption))) ?_) | ((with_reducible show (Heap.get? _ _ = some _ ∧ wpAny _ _ _ _ _ _)); refine And.intro (News.get (by assumption) (by k_mem)) ?_) | ((fail_if_success (with_reducible show wpAny _ _ _ _ _ _)); dsimp only)))
  trivial
theorem kw_93 : True := by
  k_with "storeName" => (k_here; (with_reducible show wpAny _ _ (storeName (compEnvC _ _ _ _) _ _) _ _ _); k_dflt (refine st_comp (by k_asm) (by k_asm) ?_; k_whole); intro _ _ _)
  k_with "eval Name" => (k_here; (with_reducible show wpAny _ _ (eval (Expr.Name _ _) (compEnvC _ _ _ _)) _ _ _); k_dflt (refine ld_comp (by k_asm) (by exact rfl) ?_; k_whole))
  k_with "getAttr ref" => (k_here; k_dflt (refine getA (by k_asm) (by k_asm) (by k_asm) (by k_mem) (by k_mem) (by k_asm) (by first | exact rfl | assumption) (by k_is) (by k_is) (by k_is) (by k_is) (by k_handed) ?_; k_whole))
  k_with "getMethod ref" => (k_here; k_dflt (refine methA (by k_asm) (by k_asm) (by k_asm) (by k_mem) (by k_mem) (by k_asm) (by first | exact rfl | assumption) (by k_is) (by k_is) (by k_is) (by k_handed) ?_; k_whole))
  k_with "setAttr ref" => (k_here; k_dflt (refine setA (by k_asm) (by k_asm) (by k_asm) (by k_mem) (by k_mem) (by k_asm) (by k_is) (by k_is) (by k_is) (by k_is) (by (intro _ _; k_upd)) (by first | exact Nat.le_of_ble_eq_true rfl | lia) ?_; k_whole); intro _ _ _ _ _ zN; (try dsimp only at zN); (revert zN; intro _); (try k_sweep))
  k_with "call ref" => (k_here; (with_reducible show wpAny _ _ (call (Value.ref 319) [Value.str _ _]) _ _ _); (rename Fr _ _ _ _ => F); (rename News _ _ _ _ => N); (refine space_U F N X T (by (show dp + 1 + 20 < recursionLimit); k_extra "rm") (by (show un + 3 + 200 < cLine); k_extra "rm") fun x' d' es' n' f' h' tk' l1 l2 D' F' N' => ?_); clear F N; (try k_lt l1); (try k_lt2 l2))
  k_with "call builtin:list.append" => (k_here; (with_reducible show wpAny _ _ (call (Value.builtin _) [Value.ref _, _]) _ _ _); k_dflt (refine append_K (by k_asm) (by k_asm) (by k_upd) ?_ (by assumption); k_whole); intro _ _ _; (try k_sweep))
  trivial
theorem bytes8 {prog : Program} {w : World} {A : Around} {E : Value → Shared → Prop} {s : Shared} {h₀ : Heap} {L l : Addr} {m : Str → Option Value} {news : List (Addr × Obj)} {its : Array Value} {t2 : Tok} {n : Nat} {Q : Value → Shared → Prop} (F : Fr h₀ L s.heap m) (N : News h₀ L s.heap news) (hm : (l, W.listOf its n) ∈ news) (e : its = [Value.int 2 t2, .int 2 t2, .int 2 t2, .int 2 t2, .int 2 t2, .int 2 t2, .int 2 t2, .int 2 t2].toArray) (hh : A.handled = none)
    (h : ∀ h' t k, Fr h₀ L h' m → News h₀ L h' news → Q (.bytes b2 t) { s with heap := h', toks := k }) : wpAny (model prog w) A (call (.type "bytes") [.ref l]) Q E s := by
  subst e
  have i1 : IntsAre [Value.int 2 t2, Value.int 2 t2, Value.int 2 t2, Value.int 2 t2, Value.int 2 t2, Value.int 2 t2, Value.int 2 t2, Value.int 2 t2] [2, 2, 2, 2, 2, 2, 2, 2] := .cons _ _ (.cons _ _ (.cons _ _ (.cons _ _ (.cons _ _ (.cons _ _ (.cons _ _ (.cons _ _ .nil)))))))
  refine bytes_K F N ⟨_, N.get hm, rfl, _, rfl⟩ i1 (fun n hn => ?_) (by rw [sizeLine_eq]; simp) hh fun h' t k F8 N8 _ => ?_
  · simp only [List.mem_cons, List.not_mem_nil, or_false, or_self] at hn
    lia
  · rw [show (List.map (fun n : Int => n.toNat.toUInt8) [2, 2, 2, 2, 2, 2, 2, 2]).toArray = b2 from by decide]
    exact h _ _ _ F8 N8
theorem kw_94 : True := by
  k_with "call type:bytes" => (k_here; (with_reducible show wpAny _ _ (call (Value.type _) [Value.ref _]) _ _ _); k_dflt (refine bytes8 (by k_asm) (by k_asm) (by k_mem) (by exact rfl) (by exact rfl) ?_; k_whole); intro _ _ _ _ _)
  k_with "binaryOp Add ref ref" => (k_here; (with_reducible show wpAny _ _ (binaryOp Operator.Add (Value.ref _) (Value.ref _)) _ _ _); k_dflt (refine' add_refs (l1 := wadr evs) (l2 := [_]) ?aF ?aN ?aa ?ab ?_ ?az; (case aF => k_asm); (case aN => k_asm); (case aa => exact ⟨_, News.get (by assumption) (by k_mem), rfl, _, rfl⟩); (case ab => exact ⟨_, News.get (by assumption) (by k_mem), rfl, _, rfl⟩); (case az => (simp [wadr]; lia)); k_whole); intro D' h' F' N' l1; (try k_lt l1); (try k_sweep))
  trivial
theorem lawP_every {wt ev e2 dl an sc lg oL cn l2 : Addr} {room : Int} {t1 : Tok} {wants : Bool} : (fun y => if y = Str.ofString "every" then some (Value.ref e2) else lawP wt ev dl an sc lg oL cn l2 room t1 wants y) = lawP wt e2 dl an sc lg oL cn l2 room t1 wants := by
  funext y
  by_cases e1 : y = Str.ofString "every"
  · subst e1; rfl
  rw [if_neg e1]
  unfold lawP lk
  have b1 : (y == Str.ofString "every") = false := by simpa using e1
  simp only [List.lookup_cons, b1]
theorem norm4 {σ : SA} {lg dl an lo ev e2 sc oL L x1 x3 x4 x5 x6 cc t : Addr} {ow evs : List Wf} {n3 n4 n5 nl nc nev k0 c : Nat} {ps : Array Value} {ec : List DictEntry} {Z : List (Addr × Obj)} {o1 o3 o4 o5 o6 oc ot : Obj} {g h : Heap} {room : Int} {t1 : Tok} {wants : Bool}
   (F : Fr g L h (fun y => if y = Str.ofString "every" then some (Value.ref e2) else lawP σ.l1 ev dl an sc lg oL σ.conn σ.l2 room t1 wants y))
   (N : News g L h ((e2, W.listOf (refs (wadr evs ++ [cc])) k0) :: (x1, o1) :: (cc, oc) :: (x3, o3) :: (x4, o4) :: (t, ot) :: (x5, o5) :: (x6, o6) :: (dl, W.listOf (#[].push (.ref t)) n3) :: (ev, W.listOf (refs (wadr evs)) nev) :: ((lawE7 σ 0 0 dl an lo lg [] [] [] ow 0 0 n3 n4 n5 nl #[] ps ec nc σ.ep σ.np).drop 3 ++ lawW σ :: Z)))
   (B : Bel (((e2, W.listOf (refs (wadr evs ++ [cc])) k0) :: (x1, o1) :: (cc, oc) :: (x3, o3) :: (x4, o4) :: (t, ot) :: (x5, o5) :: (x6, o6) :: (dl, W.listOf (#[].push (.ref t)) n3) :: (ev, W.listOf (refs (wadr evs)) nev) :: ((lawE7 σ 0 0 dl an lo lg [] [] [] ow 0 0 n3 n4 n5 nl #[] ps ec nc σ.ep σ.np).drop 3 ++ lawW σ :: Z)).map (·.1)) c)
   (hoc : FrO oc (.chal b2)) (hot : LgO ot .tried) (hev : ∀ f ∈ evs, FrO f.2.1 f.2.2 ∧ (f.1, f.2.1) ∈ Z) (hevo : ∀ f ∈ evs, f.2.2.ok) :
   ∃ evs' dls Z', Fr g L h (lawP σ.l1 e2 dl an sc lg oL σ.conn σ.l2 room t1 wants) ∧ News g L h ((dl, W.listOf (refs (dls.map (·.1))) n3) :: (e2, W.listOf (refs (wadr evs')) k0) :: ((lawE7 σ 0 0 dl an lo lg [] [] dls ow 0 0 n3 n4 n5 nl #[] ps ec nc σ.ep σ.np).drop 3 ++ lawW σ :: Z')) ∧
     Bel (((dl, W.listOf (refs (dls.map (·.1))) n3) :: (e2, W.listOf (refs (wadr evs')) k0) :: ((lawE7 σ 0 0 dl an lo lg [] [] dls ow 0 0 n3 n4 n5 nl #[] ps ec nc σ.ep σ.np).drop 3 ++ lawW σ :: Z')).map (·.1)) c ∧
     (∀ f ∈ evs', FrO f.2.1 f.2.2 ∧ (f.1, f.2.1) ∈ Z') ∧ (∀ f ∈ evs', f.2.2.ok) ∧ (∀ f ∈ dls, (f.1, f.2.1) ∈ Z' ∧ LgO f.2.1 f.2.2) ∧ evs'.map (·.2.2) = evs.map (·.2.2) ++ [.chal b2] ∧ dls.map (·.2.2) = [.tried] ∧ evs'.length = evs.length + 1 ∧ ∀ p ∈ Z, p ∈ Z' := by
  rw [lawP_every] at F
  have e1 : wadr evs ++ [cc] = wadr (evs ++ [(cc, oc, .chal b2)]) := by simp [wadr]
  have e2' : (#[].push (Value.ref t) : Array Value) = refs (([(t, ot, Lg.tried)] : List (Addr × Obj × Lg)).map (·.1)) := rfl
  rw [e1, e2'] at N B
  refine ⟨evs ++ [(cc, oc, .chal b2)], [(t, ot, .tried)], (cc, oc) :: (t, ot) :: Z, F, ?_, ?_, fun f hf => ?_, fun f hf => ?_, fun f hf => ?_, by simp, rfl, by simp, fun p hp => .tail _ (.tail _ hp)⟩
  · exact news_pick (l := [(e2, W.listOf (refs (wadr (evs ++ [(cc, oc, .chal b2)]))) k0), (x1, o1), (cc, oc), (x3, o3), (x4, o4), (t, ot), (x5, o5), (x6, o6), (dl, W.listOf (refs (([(t, ot, Lg.tried)] : List (Addr × Obj × Lg)).map (·.1))) n3), (ev, W.listOf (refs (wadr evs)) nev)] ++ ((lawE7 σ 0 0 dl an lo lg [] [] [] ow 0 0 n3 n4 n5 nl #[] ps ec nc σ.ep σ.np).drop 3 ++ [lawW σ])) (Z := Z) N [8, 0, 10, 11, 12, 13, 14, 15, 16, 17, 18, 19, 20, 21, 22, 23, 2, 5]
      (bs := [(dl, W.listOf (refs (([(t, ot, Lg.tried)] : List (Addr × Obj × Lg)).map (·.1))) n3), (e2, W.listOf (refs (wadr (evs ++ [(cc, oc, .chal b2)]))) k0)] ++ ((lawE7 σ 0 0 dl an lo lg [] [] [(t, ot, Lg.tried)] ow 0 0 n3 n4 n5 nl #[] ps ec nc σ.ep σ.np).drop 3 ++ [lawW σ, (cc, oc), (t, ot)])) rfl
  · exact bel_pick (l := [(e2, W.listOf (refs (wadr (evs ++ [(cc, oc, .chal b2)]))) k0), (x1, o1), (cc, oc), (x3, o3), (x4, o4), (t, ot), (x5, o5), (x6, o6), (dl, W.listOf (refs (([(t, ot, Lg.tried)] : List (Addr × Obj × Lg)).map (·.1))) n3), (ev, W.listOf (refs (wadr evs)) nev)] ++ ((lawE7 σ 0 0 dl an lo lg [] [] [] ow 0 0 n3 n4 n5 nl #[] ps ec nc σ.ep σ.np).drop 3 ++ [lawW σ])) (Z := Z) B [8, 0, 10, 11, 12, 13, 14, 15, 16, 17, 18, 19, 20, 21, 22, 23, 2, 5]
      (bs := [(dl, W.listOf (refs (([(t, ot, Lg.tried)] : List (Addr × Obj × Lg)).map (·.1))) n3), (e2, W.listOf (refs (wadr (evs ++ [(cc, oc, .chal b2)]))) k0)] ++ ((lawE7 σ 0 0 dl an lo lg [] [] [(t, ot, Lg.tried)] ow 0 0 n3 n4 n5 nl #[] ps ec nc σ.ep σ.np).drop 3 ++ [lawW σ, (cc, oc), (t, ot)])) rfl (by decide)
  · rcases List.mem_append.mp hf with hf | hf
    · exact ⟨(hev f hf).1, .tail _ (.tail _ (hev f hf).2)⟩
    · rw [List.mem_singleton.mp hf]; exact ⟨hoc, .head _⟩
  · rcases List.mem_append.mp hf with hf | hf
    · exact hevo f hf
    · rw [List.mem_singleton.mp hf]; rfl
  · rw [List.mem_singleton.mp hf]; exact ⟨.tail _ (.head _), hot⟩
noncomputable section
theorem kw_95 : True := by
  k_with "cl1" => first | refine no_implicit_lambda% (eps8 0 (inferInstanceAs (Box 0 IdT _)) rfl rfl ?_) | refine no_implicit_lambda% (eps7 0 (inferInstanceAs (Box 0 IdT _)) rfl rfl ?_) | refine no_implicit_lambda% (eps6 0 (inferInstanceAs (Box 0 IdT _)) rfl rfl ?_) | refine no_implicit_lambda% (eps5 0 (inferInstanceAs (Box 0 IdT _)) rfl rfl ?_) | refine no_implicit_lambda% (eps4 0 (inferInstanceAs (Box 0 IdT _)) rfl rfl ?_) | refine no_implicit_lambda% (eps3 0 (inferInstanceAs (Box 0 IdT _)) rfl rfl ?_) | refine no_implicit_lambda% (eps2 0 (inferInstanceAs (Box 0 IdT _)) rfl rfl ?_) | refine no_implicit_lambda% (epsd 0 (inferInstanceAs (Box 0 IdT _)) rfl rfl ?_)
  k_with "cl" => (set_option tactic.hygienic false in ((repeat ((first | rename Heap => q9 | rename Addr => q9 | rename Nat => q9 | rename Obj => q9 | rename Value => q9 | rename Int => q9 | rename List _ => q9 | rename Str → Option Value => q9 | rename Bool => q9 | rename Option _ => q9 | rename Array _ => q9 | rename Str => q9 | rename _ × _ => q9 | rename Shared => q9 | rename Program => q9 | rename ExcName → Option Value => q9 | rename Value → Shared → Prop => q9); revert q9)); (repeat (first | k_extra "cl1" | (with_reducible intro _)))))
  trivial
namespace law_4
noncomputable def St0 (w : World) (dp : Nat) (un : Nat) (fr : Option (List Env)) (gd : Option (List Code)) (s : Shared) (p : Program) (loose : List Str) (mean : ExcName → Option Value) (mg : Str → Option Value) (mb : Str → Option Value) (Qf : Flow → Shared → Prop) (g : Heap) (L : Addr) (σ : SA) (compl : Bool) (lg : Addr) (ow : List Wf) (evs : List Wf) (Z : List (Addr × Obj)) (ev : Addr) (dl : Addr) (an : Addr) (lo : Addr) (sc : Addr) (oL : Addr) (n3 : Nat) (n4 : Nat) (n5 : Nat) (nl : Nat) (nev : Nat) (nc : Nat) (c : Nat) (ps : Array Value) (ec : List DictEntry) (room : Int) (t1 : Tok) : Prop := ∀ (X : (mkK.heap_1 w.params).In g) (T : Top p loose mean mg mb g) (hd : dp + 200 < recursionLimit) (hu : un + 2000 < cLine) (K : LawC w σ compl lg ow) (hroom : 0 ≤ room ∧ room ≤ 60) (hC : ∃ k f, DA ec k f ∧ k ≤ 31 ∧ f (Str.ofString "owed") = some (.ref lo) ∧ ∀ y, y ≠ Str.ofString "owed" → getL y σ.ec = some (f y)) (hZ : ∀ p ∈ stZ σ ++ (entA σ.as ++ (ents σ.ws ++ ents ow)), p ∈ Z) (hev : ∀ f ∈ evs, FrO f.2.1 f.2.2 ∧ (f.1, f.2.1) ∈ Z) (hevo : ∀ f ∈ evs, f.2.2.ok) (evF : evs.map (·.2.2) = ow.map (·.2.2) ++ heres σ.as) (evL : evs.length ≤ 5) (F : Fr g L s.heap (lawP σ.l1 ev dl an sc lg oL σ.conn σ.l2 room t1 σ.wants)) (N : News g L s.heap ((dl, W.listOf #[] n3) :: (ev, W.listOf (refs (wadr evs)) nev) :: ((lawE7 σ 0 0 dl an lo lg [] [] [] ow 0 0 n3 n4 n5 nl #[] ps ec nc σ.ep σ.np).drop 3 ++ lawW σ :: Z))) (B : Bel (((dl, W.listOf #[] n3) :: (ev, W.listOf (refs (wadr evs)) nev) :: ((lawE7 σ 0 0 dl an lo lg [] [] [] ow 0 0 n3 n4 n5 nl #[] ps ec nc σ.ep σ.np).drop 3 ++ lawW σ :: Z)).map (·.1)) c) (hQ : LDone g s Qf),
   wpN (model Challenge.pw_pf0272_01 w) ((Ak dp un fr gd).deeper (lwEnv L)) (execs (lwBody.drop 7) (lwEnv L)) Qf (fun _ _ => False) s
noncomputable abbrev Ty0 : Type := (World) × (Nat) × (Nat) × (Option (List Env)) × (Option (List Code)) × (Shared) × (Program) × (List Str) × (ExcName → Option Value) × (Str → Option Value) × (Str → Option Value) × (Flow → Shared → Prop) × (Heap) × (Addr) × (SA) × (Bool) × (Addr) × (List Wf) × (List Wf) × (List (Addr × Obj)) × (Addr) × (Addr) × (Addr) × (Addr) × (Addr) × (Addr) × (Nat) × (Nat) × (Nat) × (Nat) × (Nat) × (Nat) × (Nat) × (Array Value) × (List DictEntry) × (Int) × (Tok)
theorem ne0 : Nonempty Ty0 := ⟨Classical.choice neW, Classical.choice inferInstance, Classical.choice inferInstance, Classical.choice inferInstance, Classical.choice inferInstance, Classical.choice neS, Classical.choice inferInstance, Classical.choice inferInstance, Classical.choice inferInstance, Classical.choice inferInstance, Classical.choice inferInstance, Classical.choice inferInstance, Classical.choice inferInstance, Classical.choice inferInstance, Classical.choice neSA, Classical.choice inferInstance, Classical.choice inferInstance, Classical.choice inferInstance, Classical.choice inferInstance, Classical.choice inferInstance, Classical.choice inferInstance, Classical.choice inferInstance, Classical.choice inferInstance, Classical.choice inferInstance, Classical.choice inferInstance, Classical.choice inferInstance, Classical.choice inferInstance, Classical.choice inferInstance, Classical.choice inferInstance, Classical.choice inferInstance, Classical.choice inferInstance, Classical.choice inferInstance, Classical.choice inferInstance, Classical.choice inferInstance, Classical.choice inferInstance, Classical.choice inferInstance, Classical.choice inferInstance⟩
noncomputable def P0 (vv0 : Ty0) : Prop := St0 (vv0.1) (vv0.2.1) (vv0.2.2.1) (vv0.2.2.2.1) (vv0.2.2.2.2.1) (vv0.2.2.2.2.2.1) (vv0.2.2.2.2.2.2.1) (vv0.2.2.2.2.2.2.2.1) (vv0.2.2.2.2.2.2.2.2.1) (vv0.2.2.2.2.2.2.2.2.2.1) (vv0.2.2.2.2.2.2.2.2.2.2.1) (vv0.2.2.2.2.2.2.2.2.2.2.2.1) (vv0.2.2.2.2.2.2.2.2.2.2.2.2.1) (vv0.2.2.2.2.2.2.2.2.2.2.2.2.2.1) (vv0.2.2.2.2.2.2.2.2.2.2.2.2.2.2.1) (vv0.2.2.2.2.2.2.2.2.2.2.2.2.2.2.2.1) (vv0.2.2.2.2.2.2.2.2.2.2.2.2.2.2.2.2.1) (vv0.2.2.2.2.2.2.2.2.2.2.2.2.2.2.2.2.2.1) (vv0.2.2.2.2.2.2.2.2.2.2.2.2.2.2.2.2.2.2.1) (vv0.2.2.2.2.2.2.2.2.2.2.2.2.2.2.2.2.2.2.2.1) (vv0.2.2.2.2.2.2.2.2.2.2.2.2.2.2.2.2.2.2.2.2.1) (vv0.2.2.2.2.2.2.2.2.2.2.2.2.2.2.2.2.2.2.2.2.2.1) (vv0.2.2.2.2.2.2.2.2.2.2.2.2.2.2.2.2.2.2.2.2.2.2.1) (vv0.2.2.2.2.2.2.2.2.2.2.2.2.2.2.2.2.2.2.2.2.2.2.2.1) (vv0.2.2.2.2.2.2.2.2.2.2.2.2.2.2.2.2.2.2.2.2.2.2.2.2.1) (vv0.2.2.2.2.2.2.2.2.2.2.2.2.2.2.2.2.2.2.2.2.2.2.2.2.2.1) (vv0.2.2.2.2.2.2.2.2.2.2.2.2.2.2.2.2.2.2.2.2.2.2.2.2.2.2.1) (vv0.2.2.2.2.2.2.2.2.2.2.2.2.2.2.2.2.2.2.2.2.2.2.2.2.2.2.2.1) (vv0.2.2.2.2.2.2.2.2.2.2.2.2.2.2.2.2.2.2.2.2.2.2.2.2.2.2.2.2.1) (vv0.2.2.2.2.2.2.2.2.2.2.2.2.2.2.2.2.2.2.2.2.2.2.2.2.2.2.2.2.2.1) (vv0.2.2.2.2.2.2.2.2.2.2.2.2.2.2.2.2.2.2.2.2.2.2.2.2.2.2.2.2.2.2.1) (vv0.2.2.2.2.2.2.2.2.2.2.2.2.2.2.2.2.2.2.2.2.2.2.2.2.2.2.2.2.2.2.2.1) (vv0.2.2.2.2.2.2.2.2.2.2.2.2.2.2.2.2.2.2.2.2.2.2.2.2.2.2.2.2.2.2.2.2.1) (vv0.2.2.2.2.2.2.2.2.2.2.2.2.2.2.2.2.2.2.2.2.2.2.2.2.2.2.2.2.2.2.2.2.2.1) (vv0.2.2.2.2.2.2.2.2.2.2.2.2.2.2.2.2.2.2.2.2.2.2.2.2.2.2.2.2.2.2.2.2.2.2.1) (vv0.2.2.2.2.2.2.2.2.2.2.2.2.2.2.2.2.2.2.2.2.2.2.2.2.2.2.2.2.2.2.2.2.2.2.2.1) (vv0.2.2.2.2.2.2.2.2.2.2.2.2.2.2.2.2.2.2.2.2.2.2.2.2.2.2.2.2.2.2.2.2.2.2.2.2)
@[irreducible] def vv0 : Ty0 := @ata _ ne0 0 P0
@[irreducible] def w : World := vv0.1
@[irreducible] def dp : Nat := vv0.2.1
@[irreducible] def un : Nat := vv0.2.2.1
@[irreducible] def s : Shared := vv0.2.2.2.2.2.1
@[irreducible] def p : Program := vv0.2.2.2.2.2.2.1
@[irreducible] def mb : Str → Option Value := vv0.2.2.2.2.2.2.2.2.2.2.1
@[irreducible] def g : Heap := vv0.2.2.2.2.2.2.2.2.2.2.2.2.1
@[irreducible] def L : Addr := vv0.2.2.2.2.2.2.2.2.2.2.2.2.2.1
@[irreducible] def σ : SA := vv0.2.2.2.2.2.2.2.2.2.2.2.2.2.2.1
@[irreducible] def compl : Bool := vv0.2.2.2.2.2.2.2.2.2.2.2.2.2.2.2.1
@[irreducible] def ow : List Wf := vv0.2.2.2.2.2.2.2.2.2.2.2.2.2.2.2.2.2.1
@[irreducible] def evs : List Wf := vv0.2.2.2.2.2.2.2.2.2.2.2.2.2.2.2.2.2.2.1
@[irreducible] def Z : List (Addr × Obj) := vv0.2.2.2.2.2.2.2.2.2.2.2.2.2.2.2.2.2.2.2.1
@[irreducible] def ev : Addr := vv0.2.2.2.2.2.2.2.2.2.2.2.2.2.2.2.2.2.2.2.2.1
@[irreducible] def dl : Addr := vv0.2.2.2.2.2.2.2.2.2.2.2.2.2.2.2.2.2.2.2.2.2.1
@[irreducible] def an : Addr := vv0.2.2.2.2.2.2.2.2.2.2.2.2.2.2.2.2.2.2.2.2.2.2.1
@[irreducible] def lo : Addr := vv0.2.2.2.2.2.2.2.2.2.2.2.2.2.2.2.2.2.2.2.2.2.2.2.1
@[irreducible] def nl : Nat := vv0.2.2.2.2.2.2.2.2.2.2.2.2.2.2.2.2.2.2.2.2.2.2.2.2.2.2.2.2.2.1
@[irreducible] def nev : Nat := vv0.2.2.2.2.2.2.2.2.2.2.2.2.2.2.2.2.2.2.2.2.2.2.2.2.2.2.2.2.2.2.1
@[irreducible] def nc : Nat := vv0.2.2.2.2.2.2.2.2.2.2.2.2.2.2.2.2.2.2.2.2.2.2.2.2.2.2.2.2.2.2.2.1
@[irreducible] def c : Nat := vv0.2.2.2.2.2.2.2.2.2.2.2.2.2.2.2.2.2.2.2.2.2.2.2.2.2.2.2.2.2.2.2.2.1
@[irreducible] def ps : Array Value := vv0.2.2.2.2.2.2.2.2.2.2.2.2.2.2.2.2.2.2.2.2.2.2.2.2.2.2.2.2.2.2.2.2.2.1
@[irreducible] def ec : List DictEntry := vv0.2.2.2.2.2.2.2.2.2.2.2.2.2.2.2.2.2.2.2.2.2.2.2.2.2.2.2.2.2.2.2.2.2.2.1
@[irreducible] def room : Int := vv0.2.2.2.2.2.2.2.2.2.2.2.2.2.2.2.2.2.2.2.2.2.2.2.2.2.2.2.2.2.2.2.2.2.2.2.1
theorem prf0 : St0 w dp un (vv0.2.2.2.1) (vv0.2.2.2.2.1) s p (vv0.2.2.2.2.2.2.2.1) (vv0.2.2.2.2.2.2.2.2.1) (vv0.2.2.2.2.2.2.2.2.2.1) mb (vv0.2.2.2.2.2.2.2.2.2.2.2.1) g L σ compl (vv0.2.2.2.2.2.2.2.2.2.2.2.2.2.2.2.2.1) ow evs Z ev dl an lo (vv0.2.2.2.2.2.2.2.2.2.2.2.2.2.2.2.2.2.2.2.2.2.2.2.2.1) (vv0.2.2.2.2.2.2.2.2.2.2.2.2.2.2.2.2.2.2.2.2.2.2.2.2.2.1) (vv0.2.2.2.2.2.2.2.2.2.2.2.2.2.2.2.2.2.2.2.2.2.2.2.2.2.2.1) (vv0.2.2.2.2.2.2.2.2.2.2.2.2.2.2.2.2.2.2.2.2.2.2.2.2.2.2.2.1) (vv0.2.2.2.2.2.2.2.2.2.2.2.2.2.2.2.2.2.2.2.2.2.2.2.2.2.2.2.2.1) nl nev nc c ps ec room (vv0.2.2.2.2.2.2.2.2.2.2.2.2.2.2.2.2.2.2.2.2.2.2.2.2.2.2.2.2.2.2.2.2.2.2.2.2) := by
  intro X T hd hu K hroom hC hZ hev hevo evF evL F N B hQ
  have _h : Challenge.rw_pf0272_01 = Challenge.rw_pf0272_01 ∧ mkK.heap_1 = mkK.heap_1 := by
    k_fill
    exact ⟨rfl, rfl⟩
  clear _h
  conv in (occs := *) List.drop _ lwBody => whnf
  unfold lwEnv
  conv in (occs := *) lwScope => whnf
  k_extra "g1"
  obtain ⟨kH, fH, dH, hkH, aH⟩ := K.ok.dH
  k_extra "g2"
  k_extra "g1"
  obtain ⟨kC, fC, dC, hkC, aCw, aCo⟩ := id hC
  k_extra "g2"
  k_extra "g1"
  obtain ⟨kC0, fC0, tC0, dC0, -, a1, a2, a3, a4, a5, a6⟩ := K.ok.dC
  k_extra "g2"
  have aC3 : fC (Str.ofString "shake") = some (.ref σ.shk) := by
    have e := (dC0.1 _).symm.trans (aCo (Str.ofString "shake") (by decide))
    rw [← Option.some.inj e]; exact a3
  simp only [lawE7, lawW, List.drop_succ_cons, List.drop_zero, List.cons_append, List.nil_append, List.map_cons] at N B
  refine wpN_execs_cons (wpN_of_any ?_)
  cases hwt : σ.wants with
  | false =>
    have ht : isTried σ compl = false := by simp [isTried, hwt]
    rw [hwt] at F
    k_extra "WCK"
    rename Fr _ _ _ _ => F9
    rename News _ _ _ _ => N9
    exact law_5 X T hd hu K hroom hC hZ hev hevo (dls := []) (fun f hf => nomatch hf) (by rw [evF, ht]; simp) (by lia) (by rw [ht]; rfl) (by rw [hwt]; exact F9) N9 B hQ
  | true =>
    rw [hwt] at F
    cases hcp : compl with
    | false =>
      rw [hcp] at aH
      have ht : isTried σ compl = false := by simp [isTried, hcp]
      k_extra "WCK"
      rename Fr _ _ _ _ => F9
      rename News _ _ _ _ => N9
      exact law_5 X T hd hu K hroom hC hZ hev hevo (dls := []) (fun f hf => nomatch hf) (by rw [evF, ht]; simp) (by lia) (by rw [ht]; rfl) (by rw [hwt]; exact F9) N9 B hQ
    | true =>
      rw [hcp] at aH
      have ht : isTried σ compl = true := by simp [isTried, hwt, hcp]
      k_extra "WCK"
      rename Fr _ _ _ _ => F9
      rename News _ _ _ _ => N9
      rename Bel _ _ => B9
      refine add_refs (l1 := wadr evs) (l2 := [_]) F9 N9 ⟨_, N9.get (by k_mem : (ev, W.listOf (refs (wadr evs)) nev) ∈ _), rfl, _, rfl⟩ ⟨_, N9.get (.head _), rfl, _, rfl⟩ (fun e2 h2 F2 N2 l2 => ?_) (by simp [wadr]; lia)
      have B2 : Bel (e2 :: _) e2 := bel_step l2 B9 fun q => q
      clear F9 N9 B9
      k_extra "WCK"
      rename Fr _ _ _ _ => F9
      rename News _ _ _ _ => N9
      k_extra "g1"
      obtain ⟨evs', dls', Z', F8, N8, B8, h1, h2, h3, h4, h5, h6, h7⟩ := norm4 F9 N9 B2 ⟨_, _, rfl, rfl, _, _, rfl⟩ ⟨_, _, rfl, rfl, _, _, _, _, rfl⟩ hev hevo
      k_extra "g2"
      exact law_5 X T hd hu K hroom hC (fun p hp => h7 p (hZ p hp)) h1 h2 h3 (by rw [h4, evF, ht]; simp) (by lia) (by rw [h5, ht]; rfl) (by rw [hwt]; exact F8) N8 B8 hQ
end law_4
theorem law_4 {w : World} {dp : Nat} {un : Nat} {fr : Option (List Env)} {gd : Option (List Code)} {s : Shared} {p : Program} {loose : List Str} {mean : ExcName → Option Value} {mg : Str → Option Value} {mb : Str → Option Value} {Qf : Flow → Shared → Prop} {g : Heap} {L : Addr} {σ : SA} {compl : Bool} {lg : Addr} {ow : List Wf} {evs : List Wf} {Z : List (Addr × Obj)} {ev : Addr} {dl : Addr} {an : Addr} {lo : Addr} {sc : Addr} {oL : Addr} {n3 : Nat} {n4 : Nat} {n5 : Nat} {nl : Nat} {nev : Nat} {nc : Nat} {c : Nat} {ps : Array Value} {ec : List DictEntry} {room : Int} {t1 : Tok} : law_4.St0 w dp un fr gd s p loose mean mg mb Qf g L σ compl lg ow evs Z ev dl an lo sc oL n3 n4 n5 nl nev nc c ps ec room t1 :=
  @ata_spec _ law_4.ne0 0 law_4.P0 (by with_unfolding_all exact law_4.prf0) (w, dp, un, fr, gd, s, p, loose, mean, mg, mb, Qf, g, L, σ, compl, lg, ow, evs, Z, ev, dl, an, lo, sc, oL, n3, n4, n5, nl, nev, nc, c, ps, ec, room, t1)
end
end
noncomputable section
open PyProof.Rows.LCg
theorem kw_100 : True := by
  k_with_none
  k_with "rm" => first | exact room_lt (by assumption) rfl | exact room_lt1 (by assumption) | lia
  k_with "g1" => refine by_goal fun zG zh => ?_
  k_with "g2" => (refine zh ?_; clear zh zG)
  k_with "fl" => ((have _h : Challenge.rw_pf0272_01 = Challenge.rw_pf0272_01 ∧ mkK.heap_1 = mkK.heap_1 := by (k_fill; exact ⟨rfl, rfl⟩)); clear _h)
  k_with "WC" => (repeat' (first | ((with_reducible show wpAny _ _ _ _ _ _); (fail_if_success (with_reducible show wpAny _ _ (eval (Expr.ListComp _ _ _ _) _) _ _ _)); (fail_if_success (with_reducible show wpAny _ _ (pyIter _) _ _ _)); (fail_if_success (with_reducible show wpAny _ _ (compareOp _ (Value.ref _) (Value.ref _)) _ _ _)); (fail_if_success (with_reducible show wpAny _ _ (exec (Stmt.Assign [Expr.Name _ _] (Expr.ListComp _ _ _ _) _) _) _ _ _)); walk1) | ((with_reducible show ite _ _ _); walk1) | ((with_reducible show (Frag.In _ _ ∧ wpAny _ _ _ _ _ _)); refine And.intro (Frag.In.keeps (by assumption) (Fr.keep (by assumption))) ?_) | ((with_reducible show (Heap.get? _ _ = some _ ∧ wpAny _ _ _ _ _ _)); refine And.intro (News.get (by assumption) (by k_mem)) ?_) | ((fail_if_success (with_reducible show wpAny _ _ _ _ _ _)); dsimp only)))
  trivial
theorem kw_97 : True := by
  k_with "storeName" => (k_here; (with_reducible show wpAny _ _ (storeName (compEnvC _ _ _ _) _ _) _ _ _); k_dflt (refine st_comp (by k_asm) (by k_asm) ?_; k_whole); intro _ _ _)
  k_with "eval Name" => (k_here; (with_reducible show wpAny _ _ (eval (Expr.Name _ _) (compEnvC _ _ _ _)) _ _ _); k_dflt (refine ld_comp (by k_asm) (by exact rfl) ?_; k_whole))
  k_with "getAttr ref" => (k_here; k_dflt (refine getA (by k_asm) (by k_asm) (by k_asm) (by k_mem) (by k_mem) (by k_asm) (by first | exact rfl | assumption) (by k_is) (by k_is) (by k_is) (by k_is) (by k_handed) ?_; k_whole))
  k_with "getMethod ref" => (k_here; k_dflt (refine methA (by k_asm) (by k_asm) (by k_asm) (by k_mem) (by k_mem) (by k_asm) (by first | exact rfl | assumption) (by k_is) (by k_is) (by k_is) (by k_handed) ?_; k_whole))
  k_with "setAttr ref" => (k_here; k_dflt (refine setA (by k_asm) (by k_asm) (by k_asm) (by k_mem) (by k_mem) (by k_asm) (by k_is) (by k_is) (by k_is) (by k_is) (by (intro _ _; k_upd)) (by first | exact Nat.le_of_ble_eq_true rfl | lia) ?_; k_whole); intro _ _ _ _ _ zN; (try dsimp only at zN); (revert zN; intro _); (try k_sweep))
  k_with "call ref" => (k_here; (with_reducible show wpAny _ _ (call (Value.ref 319) [Value.str _ _]) _ _ _); (rename Fr _ _ _ _ => F); (rename News _ _ _ _ => N); (refine space_U F N X T (by (show dp + 1 + 20 < recursionLimit); k_extra "rm") (by (show un + 3 + 200 < cLine); k_extra "rm") fun x' d' es' n' f' h' tk' l1 l2 D' F' N' => ?_); clear F N; (try k_lt l1); (try k_lt2 l2))
  k_with "call builtin:list.append" => (k_here; (with_reducible show wpAny _ _ (call (Value.builtin _) [Value.ref _, _]) _ _ _); k_dflt (refine append_K (by k_asm) (by k_asm) (by k_upd) ?_ (by assumption); k_whole); intro _ _ _; (try k_sweep))
  trivial
theorem list_copy3 {prog : Program} {w : World} {A : Around} {E : Value → Shared → Prop} {s : Shared} {h₀ : Heap} {L l : Addr} {m : Str → Option Value} {news : List (Addr × Obj)} {items : Array Value} {n : Nat} {Q : Value → Shared → Prop} (F : Fr h₀ L s.heap m) (N : News h₀ L s.heap news) (hm : (l, W.listOf items n) ∈ news) (hz : items.size ≤ sizeLine)
    (h : ∀ D c h', Fr h₀ L h' m → News h₀ L h' ((D, W.listOf items c) :: news) → (∀ q ∈ news, q.1 < D) → Q (.ref D) { s with heap := h' }) : wpAny (model prog w) A (call (.type "list") [.ref l]) Q E s :=
  list_copyK F N ⟨_, N.get hm, rfl, _, rfl⟩ h hz
theorem kw_98 : True := by
  k_with "call type:list" => (k_here; (with_reducible show wpAny _ _ (call (Value.type _) [Value.ref _]) _ _ _); k_dflt (refine list_copy3 (by k_asm) (by k_asm) (by k_mem) (by first | assumption | (rw [sizeLine_eq]; simp; lia)) ?_; k_whole); intro _ _ _ _ _ zl; (try k_lt zl); (try (revert zl; intro _)); (try k_sweep))
  trivial
noncomputable def lawO (wt sc lg oL cn l2 : Addr) (room : Int) (t1 : Tok) (wants : Bool) : Str → Option Value :=
  lk [(Str.ofString "limits", .ref l2), (Str.ofString "wants", .bool wants), (Str.ofString "waiting", .ref wt), (Str.ofString "conn", .ref cn), (Str.ofString "room", .int room t1), (Str.ofString "owed", .ref oL), (Str.ofString "log", .ref lg), (Str.ofString "script", .ref sc)]
theorem norm3a {σ : SA} {lg lo an oL L : Addr} {ow : List Wf} {n4 n5 nl no nc c : Nat} {ps : Array Value} {ec : List DictEntry} {Z : List (Addr × Obj)} {g h : Heap}
   (N : News g L h ((lo, W.listOf (refs (wadr ow)) n5) :: (an, W.listOf (refs (aadr σ.as)) n4) :: ((lawE7 σ 0 0 0 0 0 lg [] [] [] ow 0 0 0 0 0 nl #[] ps ec nc σ.ep σ.np).drop 5 ++ lawW σ :: (oL, W.listOf (refs (wadr ow)) no) :: Z)))
   (B : Bel (((lo, W.listOf (refs (wadr ow)) n5) :: (an, W.listOf (refs (aadr σ.as)) n4) :: ((lawE7 σ 0 0 0 0 0 lg [] [] [] ow 0 0 0 0 0 nl #[] ps ec nc σ.ep σ.np).drop 5 ++ lawW σ :: (oL, W.listOf (refs (wadr ow)) no) :: Z)).map (·.1)) c) :
   News g L h ((lawE7 σ 0 0 0 an lo lg [] [] [] ow 0 0 0 n4 n5 nl #[] ps ec nc σ.ep σ.np).drop 3 ++ lawW σ :: (oL, W.listOf (refs (wadr ow)) no) :: Z) ∧ Bel (((lawE7 σ 0 0 0 an lo lg [] [] [] ow 0 0 0 n4 n5 nl #[] ps ec nc σ.ep σ.np).drop 3 ++ lawW σ :: (oL, W.listOf (refs (wadr ow)) no) :: Z).map (·.1)) c := by
  refine ⟨?_, ?_⟩
  · exact news_pick (l := [(lo, W.listOf (refs (wadr ow)) n5), (an, W.listOf (refs (aadr σ.as)) n4)] ++ (lawE7 σ 0 0 0 0 0 lg [] [] [] ow 0 0 0 0 0 nl #[] ps ec nc σ.ep σ.np).drop 5) (Z := lawW σ :: (oL, W.listOf (refs (wadr ow)) no) :: Z) N [1, 0, 2, 3, 4, 5, 6, 7, 8, 9, 10, 11, 12] (bs := (lawE7 σ 0 0 0 an lo lg [] [] [] ow 0 0 0 n4 n5 nl #[] ps ec nc σ.ep σ.np).drop 3) rfl
  · exact bel_pick (l := [(lo, W.listOf (refs (wadr ow)) n5), (an, W.listOf (refs (aadr σ.as)) n4)] ++ (lawE7 σ 0 0 0 0 0 lg [] [] [] ow 0 0 0 0 0 nl #[] ps ec nc σ.ep σ.np).drop 5) (Z := lawW σ :: (oL, W.listOf (refs (wadr ow)) no) :: Z) B [1, 0, 2, 3, 4, 5, 6, 7, 8, 9, 10, 11, 12] (bs := (lawE7 σ 0 0 0 an lo lg [] [] [] ow 0 0 0 n4 n5 nl #[] ps ec nc σ.ep σ.np).drop 3) rfl (by decide)
theorem lawO_P {wt ev dl an sc lg oL cn l2 : Addr} {room : Int} {t1 : Tok} {wants : Bool} : (fun y => if y = Str.ofString "due_log" then some (Value.ref dl) else if y = Str.ofString "every" then some (Value.ref ev) else if y = Str.ofString "answers" then some (Value.ref an) else lawO wt sc lg oL cn l2 room t1 wants y) = lawP wt ev dl an sc lg oL cn l2 room t1 wants := by
  have at' : ∀ (y a : Str) (v : Value) (l : List (Str × Value)), (if y = a then some v else lk l y) = lk ((a, v) :: l) y := fun y a v l => congrFun (lk_cons a v l) y
  funext y
  unfold lawO
  rw [at', at', at']
  rfl
theorem norm3b {σ : SA} {lg lo an oL L dl ev D sc : Addr} {ow ws : List Wf} {n3 n4 n5 nl no nc k1 c : Nat} {ps : Array Value} {ec : List DictEntry} {Z : List (Addr × Obj)} {g h : Heap} {oD : Obj} {room : Int} {t1 : Tok} {wants : Bool}
   (F : Fr g L h (fun y => if y = Str.ofString "due_log" then some (Value.ref dl) else if y = Str.ofString "every" then some (Value.ref ev) else if y = Str.ofString "answers" then some (Value.ref an) else lawO σ.l1 sc lg oL σ.conn σ.l2 room t1 wants y))
   (N : News g L h ((dl, W.listOf #[] n3) :: (ev, W.listOf (refs (wadr ow ++ wadr ws)) k1) :: (D, oD) :: ((lawE7 σ 0 0 0 an lo lg [] [] [] ow 0 0 0 n4 n5 nl #[] ps ec nc σ.ep σ.np).drop 3 ++ lawW σ :: (oL, W.listOf (refs (wadr ow)) no) :: (Z ++ ents ws))))
   (B : Bel (((dl, W.listOf #[] n3) :: (ev, W.listOf (refs (wadr ow ++ wadr ws)) k1) :: (D, oD) :: ((lawE7 σ 0 0 0 an lo lg [] [] [] ow 0 0 0 n4 n5 nl #[] ps ec nc σ.ep σ.np).drop 3 ++ lawW σ :: (oL, W.listOf (refs (wadr ow)) no) :: (Z ++ ents ws))).map (·.1)) c) :
   Fr g L h (lawP σ.l1 ev dl an sc lg oL σ.conn σ.l2 room t1 wants) ∧ News g L h ((dl, W.listOf #[] n3) :: (ev, W.listOf (refs (wadr (ow ++ ws))) k1) :: ((lawE7 σ 0 0 dl an lo lg [] [] [] ow 0 0 n3 n4 n5 nl #[] ps ec nc σ.ep σ.np).drop 3 ++ lawW σ :: (Z ++ ents ws))) ∧
     Bel (((dl, W.listOf #[] n3) :: (ev, W.listOf (refs (wadr (ow ++ ws))) k1) :: ((lawE7 σ 0 0 dl an lo lg [] [] [] ow 0 0 n3 n4 n5 nl #[] ps ec nc σ.ep σ.np).drop 3 ++ lawW σ :: (Z ++ ents ws))).map (·.1)) c := by
  have e : wadr ow ++ wadr ws = wadr (ow ++ ws) := by simp [wadr]
  rw [e] at N B
  rw [lawO_P] at F
  refine ⟨F, ?_, ?_⟩
  · exact news_pick (l := [(dl, W.listOf #[] n3), (ev, W.listOf (refs (wadr (ow ++ ws))) k1), (D, oD)] ++ ((lawE7 σ 0 0 0 an lo lg [] [] [] ow 0 0 0 n4 n5 nl #[] ps ec nc σ.ep σ.np).drop 3 ++ [lawW σ, (oL, W.listOf (refs (wadr ow)) no)])) (Z := Z ++ ents ws) N [0, 1, 3, 4, 5, 6, 7, 8, 9, 10, 11, 12, 13, 14, 15, 16]
      (bs := [(dl, W.listOf #[] n3), (ev, W.listOf (refs (wadr (ow ++ ws))) k1)] ++ ((lawE7 σ 0 0 dl an lo lg [] [] [] ow 0 0 n3 n4 n5 nl #[] ps ec nc σ.ep σ.np).drop 3 ++ [lawW σ])) rfl
  · exact bel_pick (l := [(dl, W.listOf #[] n3), (ev, W.listOf (refs (wadr (ow ++ ws))) k1), (D, oD)] ++ ((lawE7 σ 0 0 0 an lo lg [] [] [] ow 0 0 0 n4 n5 nl #[] ps ec nc σ.ep σ.np).drop 3 ++ [lawW σ, (oL, W.listOf (refs (wadr ow)) no)])) (Z := Z ++ ents ws) B [0, 1, 3, 4, 5, 6, 7, 8, 9, 10, 11, 12, 13, 14, 15, 16]
      (bs := [(dl, W.listOf #[] n3), (ev, W.listOf (refs (wadr (ow ++ ws))) k1)] ++ ((lawE7 σ 0 0 dl an lo lg [] [] [] ow 0 0 n3 n4 n5 nl #[] ps ec nc σ.ep σ.np).drop 3 ++ [lawW σ])) rfl (by decide)
noncomputable section
theorem kw_99 : True := by
  k_with "cl1" => first | refine no_implicit_lambda% (eps8 0 (inferInstanceAs (Box 0 IdT _)) rfl rfl ?_) | refine no_implicit_lambda% (eps7 0 (inferInstanceAs (Box 0 IdT _)) rfl rfl ?_) | refine no_implicit_lambda% (eps6 0 (inferInstanceAs (Box 0 IdT _)) rfl rfl ?_) | refine no_implicit_lambda% (eps5 0 (inferInstanceAs (Box 0 IdT _)) rfl rfl ?_) | refine no_implicit_lambda% (eps4 0 (inferInstanceAs (Box 0 IdT _)) rfl rfl ?_) | refine no_implicit_lambda% (eps3 0 (inferInstanceAs (Box 0 IdT _)) rfl rfl ?_) | refine no_implicit_lambda% (eps2 0 (inferInstanceAs (Box 0 IdT _)) rfl rfl ?_) | refine no_implicit_lambda% (epsd 0 (inferInstanceAs (Box 0 IdT _)) rfl rfl ?_)
  k_with "cl" => (set_option tactic.hygienic false in ((repeat ((first | rename Heap => q9 | rename Addr => q9 | rename Nat => q9 | rename Obj => q9 | rename Value => q9 | rename Int => q9 | rename List _ => q9 | rename Str → Option Value => q9 | rename Bool => q9 | rename Option _ => q9 | rename Array _ => q9 | rename Str => q9 | rename _ × _ => q9 | rename Shared => q9 | rename Program => q9 | rename ExcName → Option Value => q9 | rename Value → Shared → Prop => q9); revert q9)); (repeat (first | k_extra "cl1" | (with_reducible intro _)))))
  trivial
namespace law_35
noncomputable def St0 (w : World) (dp : Nat) (un : Nat) (fr : Option (List Env)) (gd : Option (List Code)) (s : Shared) (p : Program) (loose : List Str) (mean : ExcName → Option Value) (mg : Str → Option Value) (mb : Str → Option Value) (Qf : Flow → Shared → Prop) (g : Heap) (L : Addr) (σ : SA) (compl : Bool) (lg : Addr) (ow : List Wf) (Z : List (Addr × Obj)) (an : Addr) (lo : Addr) (sc : Addr) (oL : Addr) (n4 : Nat) (n5 : Nat) (no : Nat) (nl : Nat) (nc : Nat) (c : Nat) (ps : Array Value) (ec : List DictEntry) (room : Int) (t1 : Tok) : Prop := ∀ (X : (mkK.heap_1 w.params).In g) (T : Top p loose mean mg mb g) (hd : dp + 200 < recursionLimit) (hu : un + 2000 < cLine) (K : LawC w σ compl lg ow) (hroom : 0 ≤ room ∧ room ≤ 60) (hC : ∃ k f, DA ec k f ∧ k ≤ 31 ∧ f (Str.ofString "owed") = some (.ref lo) ∧ ∀ y, y ≠ Str.ofString "owed" → getL y σ.ec = some (f y)) (hZ : ∀ p ∈ stZ σ ++ (entA σ.as ++ (ents σ.ws ++ ents ow)), p ∈ Z) (F : Fr g L s.heap (fun y => if y = Str.ofString "answers" then some (.ref an) else lawO σ.l1 sc lg oL σ.conn σ.l2 room t1 σ.wants y)) (N : News g L s.heap ((lawE7 σ 0 0 0 an lo lg [] [] [] ow 0 0 0 n4 n5 nl #[] ps ec nc σ.ep σ.np).drop 3 ++ lawW σ :: (oL, W.listOf (refs (wadr ow)) no) :: Z)) (B : Bel (((lawE7 σ 0 0 0 an lo lg [] [] [] ow 0 0 0 n4 n5 nl #[] ps ec nc σ.ep σ.np).drop 3 ++ lawW σ :: (oL, W.listOf (refs (wadr ow)) no) :: Z).map (·.1)) c) (hQ : LDone g s Qf),
   wpN (model Challenge.pw_pf0272_01 w) ((Ak dp un fr gd).deeper (lwEnv L)) (execs (lwBody.drop 5) (lwEnv L)) Qf (fun _ _ => False) s
noncomputable abbrev Ty0 : Type := (World) × (Nat) × (Nat) × (Option (List Env)) × (Option (List Code)) × (Shared) × (Program) × (List Str) × (ExcName → Option Value) × (Str → Option Value) × (Str → Option Value) × (Flow → Shared → Prop) × (Heap) × (Addr) × (SA) × (Bool) × (Addr) × (List Wf) × (List (Addr × Obj)) × (Addr) × (Addr) × (Addr) × (Addr) × (Nat) × (Nat) × (Nat) × (Nat) × (Nat) × (Nat) × (Array Value) × (List DictEntry) × (Int) × (Tok)
theorem ne0 : Nonempty Ty0 := ⟨Classical.choice neW, Classical.choice inferInstance, Classical.choice inferInstance, Classical.choice inferInstance, Classical.choice inferInstance, Classical.choice neS, Classical.choice inferInstance, Classical.choice inferInstance, Classical.choice inferInstance, Classical.choice inferInstance, Classical.choice inferInstance, Classical.choice inferInstance, Classical.choice inferInstance, Classical.choice inferInstance, Classical.choice neSA, Classical.choice inferInstance, Classical.choice inferInstance, Classical.choice inferInstance, Classical.choice inferInstance, Classical.choice inferInstance, Classical.choice inferInstance, Classical.choice inferInstance, Classical.choice inferInstance, Classical.choice inferInstance, Classical.choice inferInstance, Classical.choice inferInstance, Classical.choice inferInstance, Classical.choice inferInstance, Classical.choice inferInstance, Classical.choice inferInstance, Classical.choice inferInstance, Classical.choice inferInstance, Classical.choice inferInstance⟩
noncomputable def P0 (vv0 : Ty0) : Prop := St0 (vv0.1) (vv0.2.1) (vv0.2.2.1) (vv0.2.2.2.1) (vv0.2.2.2.2.1) (vv0.2.2.2.2.2.1) (vv0.2.2.2.2.2.2.1) (vv0.2.2.2.2.2.2.2.1) (vv0.2.2.2.2.2.2.2.2.1) (vv0.2.2.2.2.2.2.2.2.2.1) (vv0.2.2.2.2.2.2.2.2.2.2.1) (vv0.2.2.2.2.2.2.2.2.2.2.2.1) (vv0.2.2.2.2.2.2.2.2.2.2.2.2.1) (vv0.2.2.2.2.2.2.2.2.2.2.2.2.2.1) (vv0.2.2.2.2.2.2.2.2.2.2.2.2.2.2.1) (vv0.2.2.2.2.2.2.2.2.2.2.2.2.2.2.2.1) (vv0.2.2.2.2.2.2.2.2.2.2.2.2.2.2.2.2.1) (vv0.2.2.2.2.2.2.2.2.2.2.2.2.2.2.2.2.2.1) (vv0.2.2.2.2.2.2.2.2.2.2.2.2.2.2.2.2.2.2.1) (vv0.2.2.2.2.2.2.2.2.2.2.2.2.2.2.2.2.2.2.2.1) (vv0.2.2.2.2.2.2.2.2.2.2.2.2.2.2.2.2.2.2.2.2.1) (vv0.2.2.2.2.2.2.2.2.2.2.2.2.2.2.2.2.2.2.2.2.2.1) (vv0.2.2.2.2.2.2.2.2.2.2.2.2.2.2.2.2.2.2.2.2.2.2.1) (vv0.2.2.2.2.2.2.2.2.2.2.2.2.2.2.2.2.2.2.2.2.2.2.2.1) (vv0.2.2.2.2.2.2.2.2.2.2.2.2.2.2.2.2.2.2.2.2.2.2.2.2.1) (vv0.2.2.2.2.2.2.2.2.2.2.2.2.2.2.2.2.2.2.2.2.2.2.2.2.2.1) (vv0.2.2.2.2.2.2.2.2.2.2.2.2.2.2.2.2.2.2.2.2.2.2.2.2.2.2.1) (vv0.2.2.2.2.2.2.2.2.2.2.2.2.2.2.2.2.2.2.2.2.2.2.2.2.2.2.2.1) (vv0.2.2.2.2.2.2.2.2.2.2.2.2.2.2.2.2.2.2.2.2.2.2.2.2.2.2.2.2.1) (vv0.2.2.2.2.2.2.2.2.2.2.2.2.2.2.2.2.2.2.2.2.2.2.2.2.2.2.2.2.2.1) (vv0.2.2.2.2.2.2.2.2.2.2.2.2.2.2.2.2.2.2.2.2.2.2.2.2.2.2.2.2.2.2.1) (vv0.2.2.2.2.2.2.2.2.2.2.2.2.2.2.2.2.2.2.2.2.2.2.2.2.2.2.2.2.2.2.2.1) (vv0.2.2.2.2.2.2.2.2.2.2.2.2.2.2.2.2.2.2.2.2.2.2.2.2.2.2.2.2.2.2.2.2)
@[irreducible] def vv0 : Ty0 := @ata _ ne0 0 P0
@[irreducible] def w : World := vv0.1
@[irreducible] def dp : Nat := vv0.2.1
@[irreducible] def un : Nat := vv0.2.2.1
@[irreducible] def fr : Option (List Env) := vv0.2.2.2.1
@[irreducible] def s : Shared := vv0.2.2.2.2.2.1
@[irreducible] def p : Program := vv0.2.2.2.2.2.2.1
@[irreducible] def mb : Str → Option Value := vv0.2.2.2.2.2.2.2.2.2.2.1
@[irreducible] def g : Heap := vv0.2.2.2.2.2.2.2.2.2.2.2.2.1
@[irreducible] def L : Addr := vv0.2.2.2.2.2.2.2.2.2.2.2.2.2.1
@[irreducible] def σ : SA := vv0.2.2.2.2.2.2.2.2.2.2.2.2.2.2.1
@[irreducible] def ow : List Wf := vv0.2.2.2.2.2.2.2.2.2.2.2.2.2.2.2.2.2.1
@[irreducible] def Z : List (Addr × Obj) := vv0.2.2.2.2.2.2.2.2.2.2.2.2.2.2.2.2.2.2.1
@[irreducible] def an : Addr := vv0.2.2.2.2.2.2.2.2.2.2.2.2.2.2.2.2.2.2.2.1
@[irreducible] def lo : Addr := vv0.2.2.2.2.2.2.2.2.2.2.2.2.2.2.2.2.2.2.2.2.1
@[irreducible] def oL : Addr := vv0.2.2.2.2.2.2.2.2.2.2.2.2.2.2.2.2.2.2.2.2.2.2.1
@[irreducible] def n4 : Nat := vv0.2.2.2.2.2.2.2.2.2.2.2.2.2.2.2.2.2.2.2.2.2.2.2.1
@[irreducible] def no : Nat := vv0.2.2.2.2.2.2.2.2.2.2.2.2.2.2.2.2.2.2.2.2.2.2.2.2.2.1
@[irreducible] def nl : Nat := vv0.2.2.2.2.2.2.2.2.2.2.2.2.2.2.2.2.2.2.2.2.2.2.2.2.2.2.1
@[irreducible] def nc : Nat := vv0.2.2.2.2.2.2.2.2.2.2.2.2.2.2.2.2.2.2.2.2.2.2.2.2.2.2.2.1
@[irreducible] def c : Nat := vv0.2.2.2.2.2.2.2.2.2.2.2.2.2.2.2.2.2.2.2.2.2.2.2.2.2.2.2.2.1
@[irreducible] def ps : Array Value := vv0.2.2.2.2.2.2.2.2.2.2.2.2.2.2.2.2.2.2.2.2.2.2.2.2.2.2.2.2.2.1
@[irreducible] def ec : List DictEntry := vv0.2.2.2.2.2.2.2.2.2.2.2.2.2.2.2.2.2.2.2.2.2.2.2.2.2.2.2.2.2.2.1
@[irreducible] def room : Int := vv0.2.2.2.2.2.2.2.2.2.2.2.2.2.2.2.2.2.2.2.2.2.2.2.2.2.2.2.2.2.2.2.1
theorem prf0 : St0 w dp un fr (vv0.2.2.2.2.1) s p (vv0.2.2.2.2.2.2.2.1) (vv0.2.2.2.2.2.2.2.2.1) (vv0.2.2.2.2.2.2.2.2.2.1) mb (vv0.2.2.2.2.2.2.2.2.2.2.2.1) g L σ (vv0.2.2.2.2.2.2.2.2.2.2.2.2.2.2.2.1) (vv0.2.2.2.2.2.2.2.2.2.2.2.2.2.2.2.2.1) ow Z an lo (vv0.2.2.2.2.2.2.2.2.2.2.2.2.2.2.2.2.2.2.2.2.2.1) oL n4 (vv0.2.2.2.2.2.2.2.2.2.2.2.2.2.2.2.2.2.2.2.2.2.2.2.2.1) no nl nc c ps ec room (vv0.2.2.2.2.2.2.2.2.2.2.2.2.2.2.2.2.2.2.2.2.2.2.2.2.2.2.2.2.2.2.2.2) := by
  intro X T hd hu K hroom hC hZ F N B hQ
  k_extra "fl"
  conv in (occs := *) List.drop _ lwBody => whnf
  unfold lwEnv
  conv in (occs := *) lwScope => whnf
  have h3a := K.ok.ale
  have how := K.how
  simp only [lawE7, lawW, List.drop_succ_cons, List.drop_zero, List.cons_append, List.nil_append, List.map_cons] at N B
  refine wpN_execs_cons (wpN_of_any ?_)
  k_extra "WC"
  refine ListComp_K (cl := []) (by with_unfolding_all rfl) (by decide) (by rfl) (by decide) ?_ (by intro _; rfl)
  k_extra "WC"
  rename Fr _ _ _ _ => F3
  rename News _ _ _ _ => N3
  k_extra "cl"
  have hZA : ∀ p ∈ entA σ.as, p ∈ Z := fun p hp => hZ p (List.mem_append_right _ (List.mem_append_left _ hp))
  have hN3 := fun p (hp : p ∈ entA σ.as) => N3 p (by (repeat (first | exact hZA p hp | refine List.Mem.tail _ ?_)))
  have h349 : ∀ p ∈ entA σ.as, p.1 ∉ List.map (fun x : Addr × Obj => x.1) [(σ.conn, instObj 319 σ.dconn)] := fun p hp => by
    simp only [List.map_cons, List.map_nil, List.mem_singleton]
    intro e
    k_extra "g1"
    obtain ⟨a, ha, rfl⟩ := List.mem_map.mp hp
    k_extra "g2"
    have h1 := (hN3 _ (List.mem_map_of_mem ha : (a.1, a.2.1) ∈ entA σ.as)).1
    have h2 : _ := N3.get (by k_mem : (σ.conn, instObj 319 σ.dconn) ∈ _)
    rw [show (a.1, a.2.1).1 = σ.conn from e, h2] at h1
    k_extra "g1"
    obtain ⟨its, na, hc1, -⟩ := (K.ok.aok a ha).1
    k_extra "g2"
    have h3 : instObj 319 σ.dconn = a.2.1 := Option.some.inj h1
    rw [← h3] at hc1; cases hc1
  have han : an ∉ List.map (fun x : Addr × Obj => x.1) [(σ.conn, instObj 319 σ.dconn)] := by
    simp only [List.map_cons, List.map_nil, List.mem_singleton]
    intro e
    have h1 := N3.get (by k_mem : (an, W.listOf (refs (aadr σ.as)) n4) ∈ _)
    have h2 := N3.get (by k_mem : (σ.conn, instObj 319 σ.dconn) ∈ _)
    rw [e, h2] at h1; cases h1
  refine comp3 (bx := σ.conn) (extra := []) (fun i ys o' cr => o' = instObj 319 σ.dconn ∧ ∃ ws : List Wf, ys = (wadr ws).map Value.ref ∧ cr = ents ws ∧ ws.map (·.2.2) = ((σ.as.take i).filter (·.2.2.1)).map (fun a => Fd.resp a.2.2.2) ∧ (∀ f ∈ ws, FrO f.2.1 f.2.2) ∧ (wadr ws).Nodup)
    X T (by exact F3) (by exact N3) (by k_mem) (fun q hq => nomatch hq) (by exact src_list rfl ⟨_, N3.get (by k_mem : (an, W.listOf (refs (aadr σ.as)) n4) ∈ _), rfl, _, rfl⟩ rfl han) ?_ ?_ ⟨rfl, [], rfl, rfl, rfl, (fun f hf => nomatch hf), List.nodup_nil⟩ ?_ ?_
  · rw [sizeLine_eq]; simp [refs, aadr]; lia
  · rintro i ys o' cr zx
    k_extra "g1"
    obtain ⟨-, ws, rfl, -, hw1, -, -⟩ := zx
    k_extra "g2"
    have h1 := congrArg List.length hw1
    have h2 := List.length_filter_le (fun a : Af => a.2.2.1) (σ.as.take i)
    simp only [List.length_map] at h1
    rw [sizeLine_eq]
    simp only [List.length_map, wadr]
    rw [h1]
    exact Nat.le_trans h2 (Nat.le_trans (List.length_take_le' i σ.as) (Nat.le_trans h3a (by lia)))
  · rintro g' C D I X' T' kg' hgC hall hID hDC i v ys mC o' cr o h tk hP hi' zx
    k_extra "g1"
    obtain ⟨rfl, ws, rfl, rfl, hw1, hw2, hw3⟩ := zx
    k_extra "g2"
    rintro hcrb F N
    k_extra "g1"
    obtain ⟨a, hai, ham, rfl⟩ := aref_get hP
    k_extra "g2"
    obtain ⟨ha1, ha2⟩ := K.ok.aok a ham
    k_extra "g1"
    obtain ⟨its, na, hc1, hc2, ta, ua, rfl⟩ := ha1
    k_extra "g2"
    have hI0 := hall _ (.head _)
    dsimp only at hI0
    have hID0 : @LT.lt Nat _ σ.conn D := Nat.lt_trans (hall (σ.conn, instObj 319 σ.dconn) (by k_mem)) hID
    have hat : IsTup g' a.1 #[.str (if a.2.2.1 then Str.ofString "here" else Str.ofString "there") ta, .bytes a.2.2.2 ua] := ⟨_, kg' _ _ (h349 (a.1, a.2.1) (List.mem_map_of_mem ham)) (hN3 (a.1, a.2.1) (List.mem_map_of_mem ham)).1, hc1, _, hc2⟩
    clear F3 N3 X T hall
    rename Frag.In _ _ => X
    rename Top _ _ _ _ _ _ => T
    simp only [List.nil_append] at N
    have tg0 : Tg 0 ws := tg
    have tg1 : Tg 1 a := tg
    k_extra "cl"
    (have q9 : Tg 0 ?ws_1 := (by with_reducible assumption); clear q9)
    (have q9 : Tg 1 ?a_1 := (by with_reducible assumption); clear q9)
    clear tg0 tg1
    by_cases hh : (?a_1).2.2.1 = true
    · rw [if_pos hh] at hat
      k_extra "WC"
      rename Fr _ _ _ _ => F9
      rename News _ _ _ _ => N9
      rename (∀ p : Addr × Obj, p ∈ _ → p.1 < _) => hfull
      k_extra "g1"
      obtain ⟨ws', e1, e2, e3, e4, e5⟩ := resp_fin N9 ⟨_, _, rfl, rfl, _, _, rfl⟩ hw2 hw3 fun p hp => Nat.ne_of_lt (hfull p (.tail _ (.tail _ (.tail _ hp))))
      k_extra "g2"
      have q1 := hfull _ (.head _)
      have q2 := hfull _ (.tail _ (.head _))
      have q3 := hfull _ (.tail _ (.tail _ (.head _)))
      exact ⟨_, _, _, _, [_], rfl, F9, resp_end N9, (by (intro q hq; rw [List.mem_singleton.mp hq]; exact ⟨Nat.ne_of_gt q2, Nat.ne_of_gt q1, (by simp only [List.map_cons, List.map_nil, List.mem_singleton]; exact Nat.ne_of_gt q3)⟩)), rfl, ws', e1, e2, by rw [e3, hw1, filt_take _ _ hai, if_pos hh], e4, e5⟩
    · rw [if_neg hh] at hat
      k_extra "WC"
      rename Fr _ _ _ _ => F9
      rename News _ _ _ _ => N9
      exact ⟨_, _, _, _, rfl, F9, N9, rfl, ?ws_1, rfl, rfl, by rw [hw1, filt_take _ _ hai, if_neg hh, List.append_nil], hw2, hw3⟩
  · rintro D h tk ys o' cr all' zx
    k_extra "g1"
    obtain ⟨rfl, ws, rfl, rfl, hw1, hw2, hw3⟩ := zx
    k_extra "g2"
    rintro hcr F N' N hall
    have hB9 := B
    have N4 := N _ N' _ (by k_upd)
    have B4 := bel_comp N3 hB9 hall hcr (by rw [ents_map]; exact hw3) N4 rfl
    have htk : σ.as.take (refs (aadr σ.as)).size = σ.as := by simp [refs, aadr]
    rw [htk] at hw1
    have hwl : ws.length ≤ 2 := by
      have h1 := congrArg List.length hw1
      have h2 := List.length_filter_le (fun a : Af => a.2.2.1) σ.as
      simp only [List.length_map] at h1
      lia
    unfold DoneE
    clear N hB9 B F3 N3 hN3 h349 han hcr hall
    simp only [List.cons_append, List.nil_append, List.map_cons] at N4 B4
    refine add_refs (l1 := wadr ow) (l2 := wadr ws) F N4 ⟨_, N4.get (by k_mem : (oL, W.listOf (refs (wadr ow)) no) ∈ _), rfl, _, rfl⟩ ⟨_, N4.get (.head _), rfl, _, rfl⟩ (fun ev h2 F2 N2 l2 => ?_) (by simp [wadr]; lia)
    have B5 : Bel (ev :: _) ev := bel_step l2 B4 fun q => q
    simp only [List.map_cons] at B5
    clear F N4 B4 l2 N'
    have tg0 : Tg 0 ws := tg
    k_extra "cl"
    (have q9 : Tg 0 ?ws_2 := (by with_reducible assumption); clear q9)
    clear tg0
    k_extra "WC"
    refine wpN_execs_cons (wpN_of_any ?_)
    k_extra "WC"
    rename Fr _ _ _ _ => F9
    rename News _ _ _ _ => N9
    rename Bel _ _ => B9
    k_extra "g1"
    obtain ⟨F8, N8, B8⟩ := norm3b F9 N9 B9
    k_extra "g2"
    have hZ2 : ∀ p ∈ stZ σ ++ (entA σ.as ++ (ents σ.ws ++ ents ow)), p ∈ Z ++ ents ?ws_2 := fun p hp => List.mem_append_left _ (hZ p hp)
    have hro : ∀ f ∈ ?ws_2, f.2.2.ok := fun f hf => by
      have : f.2.2 ∈ (?ws_2).map (·.2.2) := List.mem_map_of_mem hf
      rw [hw1] at this
      exact (heres_ok K.ok.aok _ this).1
    refine law_4 X T hd hu K hroom hC hZ2 (fun f hf => ?_) (fun f hf => ?_) (by rw [List.map_append, hw1]; rfl) (by simp; lia) F8 N8 B8 hQ
    · rcases List.mem_append.mp hf with hf | hf
      · exact ⟨(K.hox f hf).1, hZ2 _ (List.mem_append_right _ (List.mem_append_right _ (List.mem_append_right _ (List.mem_map_of_mem hf))))⟩
      · exact ⟨hw2 f hf, List.mem_append_right _ (List.mem_map_of_mem hf)⟩
    · rcases List.mem_append.mp hf with hf | hf
      · exact (K.hox f hf).2.1
      · exact hro f hf
end law_35
theorem law_35 {w : World} {dp : Nat} {un : Nat} {fr : Option (List Env)} {gd : Option (List Code)} {s : Shared} {p : Program} {loose : List Str} {mean : ExcName → Option Value} {mg : Str → Option Value} {mb : Str → Option Value} {Qf : Flow → Shared → Prop} {g : Heap} {L : Addr} {σ : SA} {compl : Bool} {lg : Addr} {ow : List Wf} {Z : List (Addr × Obj)} {an : Addr} {lo : Addr} {sc : Addr} {oL : Addr} {n4 : Nat} {n5 : Nat} {no : Nat} {nl : Nat} {nc : Nat} {c : Nat} {ps : Array Value} {ec : List DictEntry} {room : Int} {t1 : Tok} : law_35.St0 w dp un fr gd s p loose mean mg mb Qf g L σ compl lg ow Z an lo sc oL n4 n5 no nl nc c ps ec room t1 :=
  @ata_spec _ law_35.ne0 0 law_35.P0 (by with_unfolding_all exact law_35.prf0) (w, dp, un, fr, gd, s, p, loose, mean, mg, mb, Qf, g, L, σ, compl, lg, ow, Z, an, lo, sc, oL, n4, n5, no, nl, nc, c, ps, ec, room, t1)
theorem law_3 {w : World} {dp un : Nat} {fr : Option (List Env)} {gd : Option (List Code)} {s : Shared} {p : Program} {loose : List Str} {mean : ExcName → Option Value} {mg mb : Str → Option Value} {Qf : Flow → Shared → Prop} {g : Heap} {L : Addr}
   (X : (mkK.heap_1 w.params).In g) (T : Top p loose mean mg mb g) (hd : dp + 200 < recursionLimit) (hu : un + 2000 < cLine) {σ : SA} {compl : Bool} {lg : Addr} {ow : List Wf} {Z : List (Addr × Obj)} {sc oL : Addr} {no nl c : Nat} {ps : Array Value} {room : Int} {t1 : Tok}
   (K : LawC w σ compl lg ow) (hroom : 0 ≤ room ∧ room ≤ 60)
   (hZ : ∀ p ∈ stZ σ ++ (entA σ.as ++ (ents σ.ws ++ ents ow)), p ∈ Z)
   (F : Fr g L s.heap (lawO σ.l1 sc lg oL σ.conn σ.l2 room t1 σ.wants))
   (N : News g L s.heap ((lawE7 σ 0 0 0 0 0 lg [] [] [] ow 0 0 0 0 0 nl #[] ps σ.ec σ.nc σ.ep σ.np).drop 5 ++ lawW σ :: (oL, W.listOf (refs (wadr ow)) no) :: Z))
   (B : Bel (((lawE7 σ 0 0 0 0 0 lg [] [] [] ow 0 0 0 0 0 nl #[] ps σ.ec σ.nc σ.ep σ.np).drop 5 ++ lawW σ :: (oL, W.listOf (refs (wadr ow)) no) :: Z).map (·.1)) c)
   (hQ : LDone g s Qf) : wpN (model Challenge.pw_pf0272_01 w) ((Ak dp un fr gd).deeper (lwEnv L)) (execs (lwBody.drop 3) (lwEnv L)) Qf (fun _ _ => False) s := by
  k_extra "fl"
  conv in (occs := *) List.drop _ lwBody => whnf
  unfold lwEnv
  conv in (occs := *) lwScope => whnf
  k_extra "g1"
  obtain ⟨kP, fP, dP, hkP, aP1, aP2, aP3⟩ := K.ok.dP
  k_extra "g2"
  k_extra "g1"
  obtain ⟨kC, fC, tC, dC, hkC, aC1, aC2, aC3, aC4, aC5, aC6⟩ := K.ok.dC
  k_extra "g2"
  have h3a := K.ok.ale
  have how := K.how
  have hzA := szR (aadr σ.as) 5 (by simp [aadr]; lia) (by lia)
  have hzO := szR (wadr ow) 5 (by simp [wadr]; lia) (by lia)
  simp only [lawE7, lawW, List.drop_succ_cons, List.drop_zero, List.cons_append, List.nil_append, List.map_cons] at N B
  refine wpN_execs_cons (wpN_of_any ?_)
  k_extra "WC"
  refine wpN_execs_cons (wpN_of_any ?_)
  k_extra "WC"
  rename_i hB es' n' F9 dC9 N9
  rename Bel _ _ => B9
  obtain ⟨N8, B8⟩ := norm3a N9 B9
  exact law_35 X T hd hu K hroom ⟨_, _, dC9, by lia, rfl, fun y hy => (dC.1 y).trans (congrArg some (if_neg hy).symm)⟩ hZ F9 N8 B8 hQ
end
end
noncomputable section
open PyProof.Rows.LCg
theorem kw_101 : True := by
  k_with_none
  k_with "g1" => refine by_goal fun zG zh => ?_
  k_with "g2" => (refine zh ?_; clear zh zG)
  trivial
theorem perm_mix {X Y U V : List Addr} (h : ((X ++ Y) ++ (U ++ V)).Nodup) : ((X ++ U) ++ (Y ++ V)).Nodup := by
  have P : ((X ++ U) ++ (Y ++ V)).Perm ((X ++ Y) ++ (U ++ V)) := List.perm_iff_count.mpr fun a => by
    simp only [List.count_append]; lia
  exact P.nodup_iff.mpr h
theorem state_back {σ : SA} {g h h' : Heap} {L r oL lg bx bl cb : Addr} {m : Str → Option Value} {ow : List Wf} {no nl c : Nat} {ps : Array Value} {ob ol oc ot : Obj}
   (F : Fr g L h m) (N : News g L h ((oL, W.listOf (refs (wadr ow)) no) :: (lg, W.listOf #[] nl) :: (bx, ob) :: (bl, ol) :: (cb, oc) :: ((349 : Addr), tabObj #[]) :: ents ow)) (B : Bel (((oL, W.listOf (refs (wadr ow)) no) :: (lg, W.listOf #[] nl) :: (bx, ob) :: (bl, ol) :: (cb, oc) :: ((349 : Addr), tabObj #[]) :: ents ow).map (·.1)) c)
   (hall : ∀ p ∈ (r, ot) :: (σ.led ++ (ents σ.ws ++ entA σ.as)), h'.get? p.1 = some p.2 ∧ h.get? p.1 = none) (hnd : (((r, ot) :: (σ.led ++ (ents σ.ws ++ entA σ.as))).map (·.1)).Nodup) (kp : ∀ b o, b ≠ bx → b ≠ 349 → h.get? b = some o → h'.get? b = some o) (gpt : h'.get? 349 = some (tabObj ps)) :
   ∃ Z, Fr g L h' m ∧ News g L h' ((r, ot) :: ((lawE7 σ 0 0 0 0 0 lg [] [] [] ow 0 0 0 0 0 nl #[] ps σ.ec σ.nc σ.ep σ.np).drop 5 ++ lawW σ :: (oL, W.listOf (refs (wadr ow)) no) :: Z)) ∧ Bel (((r, ot) :: ((lawE7 σ 0 0 0 0 0 lg [] [] [] ow 0 0 0 0 0 nl #[] ps σ.ec σ.nc σ.ep σ.np).drop 5 ++ lawW σ :: (oL, W.listOf (refs (wadr ow)) no) :: Z)).map (·.1)) h'.objs.size ∧
     (∀ p ∈ stZ σ ++ (entA σ.as ++ (ents σ.ws ++ ents ow)), p ∈ Z) ∧ (lg :: (σ.led ++ (entA σ.as ++ (ents σ.ws ++ ents ow))).map (·.1)).Nodup := by
  have nb : (oL :: lg :: bx :: bl :: cb :: (349 : Addr) :: (ents ow).map (·.1)).Nodup := B.1
  simp only [List.nodup_cons, List.mem_cons, not_or] at nb
  k_extra "g1"
  obtain ⟨⟨o1, o2, -, -, o5, o6⟩, ⟨l1, -, -, l4, l5⟩, ⟨-, -, x3, x4⟩, -, -, ⟨t1, t2⟩⟩ := nb
  k_extra "g2"
  have hL : ∀ {a : Addr} {o : Obj}, (a, o) ∈ ((oL, W.listOf (refs (wadr ow)) no) :: (lg, W.listOf #[] nl) :: (bx, ob) :: (bl, ol) :: (cb, oc) :: ((349 : Addr), tabObj #[]) :: ents ow) → L ≠ a := fun hm q => (N _ hm).2.1 q.symm
  have hLx : L ≠ bx := hL (.tail _ (.tail _ (.head _)))
  have hLt : L ≠ 349 := hL (.tail _ (.tail _ (.tail _ (.tail _ (.tail _ (.head _))))))
  have g0x : g.get? bx = none := (N (bx, ob) (.tail _ (.tail _ (.head _)))).2.2
  have g0t : g.get? 349 = none := (N (349, tabObj #[]) (.tail _ (.tail _ (.tail _ (.tail _ (.tail _ (.head _))))))).2.2
  k_extra "g1"
  obtain ⟨oL', es, ep, hL1, rr⟩ := id F.ns
  k_extra "g2"
  have F' : Fr g L h' m := ⟨⟨oL', es, ep, kp _ _ hLx hLt hL1, rr⟩, fun b o e => kp b o (fun q => by rw [q, g0x] at e; cases e) (fun q => by rw [q, g0t] at e; cases e) (F.keep b o e), F.above⟩
  -- the ledger, in the state's own order
  have N1 : News g L h' (((r, ot) :: σ.led ++ [(lg, W.listOf #[] nl), ((349 : Addr), tabObj ps), (oL, W.listOf (refs (wadr ow)) no)]) ++ ((ents σ.ws ++ entA σ.as) ++ ents ow)) := by
    intro p hp
    have fresh : p ∈ (r, ot) :: (σ.led ++ (ents σ.ws ++ entA σ.as)) → h'.get? p.1 = some p.2 ∧ p.1 ≠ L ∧ g.get? p.1 = none := fun hm => by
      obtain ⟨h1, h2⟩ := hall p hm
      exact ⟨h1, (fun e => by rw [e, hL1] at h2; cases h2), none_of F.keep h2⟩
    rcases List.mem_append.mp hp with hp | hp
    · rcases List.mem_append.mp hp with hp | hp
      · refine fresh ?_
        rcases List.mem_cons.mp hp with rfl | hp
        · exact .head _
        · exact .tail _ (List.mem_append_left _ hp)
      · simp only [List.mem_cons, List.not_mem_nil, or_false] at hp
        rcases hp with rfl | rfl | rfl
        · have q := N (lg, W.listOf #[] nl) (.tail _ (.head _))
          exact ⟨kp _ _ l1 l4 q.1, q.2⟩
        · have q := N (349, tabObj #[]) (.tail _ (.tail _ (.tail _ (.tail _ (.tail _ (.head _))))))
          exact ⟨gpt, q.2⟩
        · have q := N (oL, W.listOf (refs (wadr ow)) no) (.head _)
          exact ⟨kp _ _ o2 o5 q.1, q.2⟩
    · rcases List.mem_append.mp hp with hp | hp
      · exact fresh (.tail _ (List.mem_append_right _ hp))
      · have q := N p (.tail _ (.tail _ (.tail _ (.tail _ (.tail _ (.tail _ hp))))))
        refine ⟨kp _ _ (fun e => ?_) (fun e => ?_) q.1, q.2⟩
        · exact x4 (e ▸ List.mem_map_of_mem hp)
        · exact t1 (e ▸ List.mem_map_of_mem hp)
  have nd1 : (((((r, ot) :: σ.led) ++ (ents σ.ws ++ entA σ.as)).map (·.1)) ++ ([lg, 349, oL] ++ (ents ow).map (·.1))).Nodup := by
    refine List.nodup_append.mpr ⟨hnd, ?_, fun a ha b hb e => ?_⟩
    · simp only [List.cons_append, List.nil_append, List.nodup_cons, List.mem_cons, not_or]
      exact ⟨⟨l4, Ne.symm o1, l5⟩, ⟨Ne.symm o5, t1⟩, o6, t2⟩
    · k_extra "g1"
      obtain ⟨p, hp, rfl⟩ := List.mem_map.mp ha
      k_extra "g2"
      have h2 := (hall p hp).2
      have hb' : ∃ o, h.get? b = some o := by
        simp only [List.cons_append, List.nil_append, List.mem_cons] at hb
        rcases hb with rfl | rfl | rfl | hb
        · exact ⟨_, (N (_, W.listOf #[] nl) (.tail _ (.head _))).1⟩
        · exact ⟨_, (N (349, tabObj #[]) (.tail _ (.tail _ (.tail _ (.tail _ (.tail _ (.head _))))))).1⟩
        · exact ⟨_, (N (_, W.listOf (refs (wadr ow)) no) (.head _)).1⟩
        · k_extra "g1"
          obtain ⟨q, hq, rfl⟩ := List.mem_map.mp hb
          k_extra "g2"
          exact ⟨_, (N q (.tail _ (.tail _ (.tail _ (.tail _ (.tail _ (.tail _ hq))))))).1⟩
      obtain ⟨o, ho⟩ := hb'
      rw [e, ho] at h2; cases h2
  have nd2 : ((((r, ot) :: σ.led ++ [(lg, W.listOf #[] nl), ((349 : Addr), tabObj ps), (oL, W.listOf (refs (wadr ow)) no)]) ++ ((ents σ.ws ++ entA σ.as) ++ ents ow)).map (·.1)).Nodup := by
    simp only [List.map_append] at nd1 ⊢
    exact perm_mix nd1
  have B1 : Bel ((((r, ot) :: σ.led ++ [(lg, W.listOf #[] nl), ((349 : Addr), tabObj ps), (oL, W.listOf (refs (wadr ow)) no)]) ++ ((ents σ.ws ++ entA σ.as) ++ ents ow)).map (·.1)) h'.objs.size := by
    refine ⟨nd2, fun a ha => ?_⟩
    k_extra "g1"
    obtain ⟨p, hp, rfl⟩ := List.mem_map.mp ha
    k_extra "g2"
    exact Nat.le_of_lt (Heap.lt_size (N1 p hp).1)
  refine ⟨stZ σ ++ ((ents σ.ws ++ entA σ.as) ++ ents ow), F', ?_, ?_, ?_, ?_⟩
  · exact news_pick N1 [0, 36, 37, 29, 30, 27, 28, 19, 20, 15, 2, 1, 18, 38, 3, 4, 5, 6, 7, 8, 9, 10, 11, 12, 13, 14, 16, 17, 21, 22, 23, 24, 25, 26, 31, 32, 33, 34, 35] (bs := (r, ot) :: ((lawE7 σ 0 0 0 0 0 lg [] [] [] ow 0 0 0 0 0 nl #[] ps σ.ec σ.nc σ.ep σ.np).drop 5 ++ lawW σ :: (oL, W.listOf (refs (wadr ow)) no) :: stZ σ)) rfl
  · exact bel_pick B1 [0, 36, 37, 29, 30, 27, 28, 19, 20, 15, 2, 1, 18, 38, 3, 4, 5, 6, 7, 8, 9, 10, 11, 12, 13, 14, 16, 17, 21, 22, 23, 24, 25, 26, 31, 32, 33, 34, 35] (bs := (r, ot) :: ((lawE7 σ 0 0 0 0 0 lg [] [] [] ow 0 0 0 0 0 nl #[] ps σ.ec σ.nc σ.ep σ.np).drop 5 ++ lawW σ :: (oL, W.listOf (refs (wadr ow)) no) :: stZ σ)) rfl (by decide)
  · intro p hp
    simp only [List.mem_append] at hp ⊢
    rcases hp with hp | hp | hp | hp
    · exact .inl hp
    · exact .inr (.inl (.inr hp))
    · exact .inr (.inl (.inl hp))
    · exact .inr (.inr hp)
  · have P : ((lg :: (σ.led ++ (entA σ.as ++ (ents σ.ws ++ ents ow))).map (·.1)) ++ [r, 349, oL]).Perm ((((r, ot) :: σ.led ++ [(lg, W.listOf #[] nl), ((349 : Addr), tabObj ps), (oL, W.listOf (refs (wadr ow)) no)]) ++ ((ents σ.ws ++ entA σ.as) ++ ents ow)).map (·.1)) := by
      generalize σ.led = Q
      refine List.perm_iff_count.mpr fun a => ?_
      simp only [List.map_append, List.map_cons, List.map_nil, List.cons_append, List.count_append, List.count_cons, List.count_nil]
      ac_rfl
    exact (List.nodup_append.mp (P.nodup_iff.mpr nd2)).1
end
noncomputable section
open PyProof.Rows.LCg
theorem kw_105 : True := by
  k_with_none
  k_with "rm" => first | exact room_lt (by assumption) rfl | exact room_lt1 (by assumption) | lia
  k_with "g1" => refine by_goal fun zG zh => ?_
  k_with "g2" => (refine zh ?_; clear zh zG)
  k_with "WC" => (repeat' (first | ((with_reducible show wpAny _ _ _ _ _ _); (fail_if_success (with_reducible show wpAny _ _ (eval (Expr.ListComp _ _ _ _) _) _ _ _)); (fail_if_success (with_reducible show wpAny _ _ (pyIter _) _ _ _)); (fail_if_success (with_reducible show wpAny _ _ (compareOp _ (Value.ref _) (Value.ref _)) _ _ _)); (fail_if_success (with_reducible show wpAny _ _ (exec (Stmt.Assign [Expr.Name _ _] (Expr.ListComp _ _ _ _) _) _) _ _ _)); walk1) | ((with_reducible show ite _ _ _); walk1) | ((with_reducible show (Frag.In _ _ ∧ wpAny _ _ _ _ _ _)); refine And.intro (Frag.In.keeps (by assumption) (Fr.keep (by assumption))) ?_) | ((with_reducible show (Heap.get? _ _ = some _ ∧ wpAny _ _ _ _ _ _)); refine And.intro (News.get (by assumption) (by k_mem)) ?_) | ((fail_if_success (with_reducible show wpAny _ _ _ _ _ _)); dsimp only)))
  trivial
theorem kw_102 : True := by
  k_with "storeName" => (k_here; (with_reducible show wpAny _ _ (storeName (compEnvC _ _ _ _) _ _) _ _ _); k_dflt (refine st_comp (by k_asm) (by k_asm) ?_; k_whole); intro _ _ _)
  k_with "eval Name" => (k_here; (with_reducible show wpAny _ _ (eval (Expr.Name _ _) (compEnvC _ _ _ _)) _ _ _); k_dflt (refine ld_comp (by k_asm) (by exact rfl) ?_; k_whole))
  k_with "getAttr ref" => (k_here; k_dflt (refine getA (by k_asm) (by k_asm) (by k_asm) (by k_mem) (by k_mem) (by k_asm) (by first | exact rfl | assumption) (by k_is) (by k_is) (by k_is) (by k_is) (by k_handed) ?_; k_whole))
  k_with "getMethod ref" => (k_here; k_dflt (refine methA (by k_asm) (by k_asm) (by k_asm) (by k_mem) (by k_mem) (by k_asm) (by first | exact rfl | assumption) (by k_is) (by k_is) (by k_is) (by k_handed) ?_; k_whole))
  k_with "setAttr ref" => (k_here; k_dflt (refine setA (by k_asm) (by k_asm) (by k_asm) (by k_mem) (by k_mem) (by k_asm) (by k_is) (by k_is) (by k_is) (by k_is) (by (intro _ _; k_upd)) (by first | exact Nat.le_of_ble_eq_true rfl | lia) ?_; k_whole); intro _ _ _ _ _ zN; (try dsimp only at zN); (revert zN; intro _); (try k_sweep))
  k_with "call ref" => (k_here; (with_reducible show wpAny _ _ (call (Value.ref 319) [Value.str _ _]) _ _ _); (rename Fr _ _ _ _ => F); (rename News _ _ _ _ => N); (refine space_U F N X T (by (show dp + 1 + 20 < recursionLimit); k_extra "rm") (by (show un + 3 + 200 < cLine); k_extra "rm") fun x' d' es' n' f' h' tk' l1 l2 D' F' N' => ?_); clear F N; (try k_lt l1); (try k_lt2 l2))
  k_with "call builtin:list.append" => (k_here; (with_reducible show wpAny _ _ (call (Value.builtin _) [Value.ref _, _]) _ _ _); k_dflt (refine append_K (by k_asm) (by k_asm) (by k_upd) ?_ (by assumption); k_whole); intro _ _ _; (try k_sweep))
  k_with "call ref" => (k_here; (with_reducible show wpAny _ _ (call (Value.ref 330) [Value.ref _, Value.int _ _]) _ _ _); (rename Fr _ _ _ _ => F); (rename News _ _ _ _ => N); (refine take_L F N X T ⟨_, N.get (by k_mem : (bl, W.listOf vs.toArray nb) ∈ _), rfl, _, rfl⟩ hne hi hlen (by (show dp + 1 + 10 < recursionLimit); k_extra "rm") (by (show un + 3 + 100 < cLine); k_extra "rm") (by k_mem) (by lia) (by lia) fun vv vtk h2 tk2 vt vn hv0 hv1 F2 N2 => ?_); clear F N; (replace N2 := N2 _ (by k_upd)); (try dsimp only at N2))
  trivial
theorem lawO_start {wt sc lg oL cn l2 : Addr} {room : Int} {t1 : Tok} {wants : Bool} : (fun y => if y = Str.ofString "limits" then some (Value.ref l2) else if y = Str.ofString "wants" then some (Value.bool wants) else if y = Str.ofString "waiting" then some (Value.ref wt) else if y = Str.ofString "conn" then some (Value.ref cn) else if y = Str.ofString "room" then some (Value.int room t1) else lk [(Str.ofString "owed", Value.ref oL), (Str.ofString "log", Value.ref lg), (Str.ofString "script", Value.ref sc)] y) = lawO wt sc lg oL cn l2 room t1 wants := by
  have at' : ∀ (y a : Str) (v : Value) (l : List (Str × Value)), (if y = a then some v else lk l y) = lk ((a, v) :: l) y := fun y a v l => congrFun (lk_cons a v l) y
  funext y
  rw [at', at', at', at', at']
  rfl
theorem menu7 {prog : Program} {w : World} {A : Around} {E : Value → Shared → Prop} {s : Shared} {value slice : PySem.Expr} {h₀ : Heap} {L l : Addr} {news : List (Addr × Obj)} {t0 t1 t2 t3 t4 t5 t6 : Tok} {n : Nat} {v : Int} {u : Tok} {Q : Value → Shared → Prop}
    (N : News h₀ L s.heap news) (hm : (l, W.listOf #[.int 0 t0, .int 3 t1, .int 10 t2, .int 20 t3, .int 27 t4, .int 40 t5, .int 60 t6] n) ∈ news) (h0 : 0 ≤ v) (h1 : v < 7) (h : ∀ r tt, 0 ≤ r → r ≤ 60 → Q (.int r tt) s)
    (hs : subscripted slice false (.ref l) (.int v u) = operate [.ref l, .int v u] (getItem (.ref l) (.int v u)) := by with_unfolding_all rfl) :
    wpAny (model prog w) A (subscriptTail value slice (.ref l) (.int v u)) Q E s := by
  have hv : v = 0 ∨ v = 1 ∨ v = 2 ∨ v = 3 ∨ v = 4 ∨ v = 5 ∨ v = 6 := by lia
  have hl : s.heap.IsList l #[.int 0 t0, .int 3 t1, .int 10 t2, .int 20 t3, .int 27 t4, .int 40 t5, .int 60 t6] := ⟨_, N.get hm, rfl, _, rfl⟩
  rcases hv with rfl | rfl | rfl | rfl | rfl | rfl | rfl
  · exact item_at hl h0 (by lia) rfl (h _ _ (by decide) (by decide)) hs
  · exact item_at hl h0 (by lia) rfl (h _ _ (by decide) (by decide)) hs
  · exact item_at hl h0 (by lia) rfl (h _ _ (by decide) (by decide)) hs
  · exact item_at hl h0 (by lia) rfl (h _ _ (by decide) (by decide)) hs
  · exact item_at hl h0 (by lia) rfl (h _ _ (by decide) (by decide)) hs
  · exact item_at hl h0 (by lia) rfl (h _ _ (by decide) (by decide)) hs
  · exact item_at hl h0 (by lia) rfl (h _ _ (by decide) (by decide)) hs
theorem kw_103 : True := by
  k_with "subscriptTail" => (k_here; (with_reducible show wpAny _ _ (subscriptTail _ _ (Value.ref _) (Value.int _ _)) _ _ _); k_dflt (refine menu7 (by k_asm) (by k_mem) (by lia) (by lia) ?_ (by with_unfolding_all rfl); k_whole); intro _ _ _ _)
  trivial
structure LawAt (k : Nat) (w : World) (dp un : Nat) (fr : Option (List Env)) (gd : Option (List Code)) (L : Addr) (Qf : Flow → Shared → Prop) (s : Shared) : Prop where
  out : wpN (model Challenge.pw_pf0272_01 w) ((Ak dp un fr gd).deeper (lwEnv L)) (execs (lwBody.drop k) (lwEnv L)) Qf (fun _ _ => False) s
noncomputable section
theorem kw_104 : True := by
  k_with "cl1" => first | refine no_implicit_lambda% (eps8 0 (inferInstanceAs (Box 0 IdT _)) rfl rfl ?_) | refine no_implicit_lambda% (eps7 0 (inferInstanceAs (Box 0 IdT _)) rfl rfl ?_) | refine no_implicit_lambda% (eps6 0 (inferInstanceAs (Box 0 IdT _)) rfl rfl ?_) | refine no_implicit_lambda% (eps5 0 (inferInstanceAs (Box 0 IdT _)) rfl rfl ?_) | refine no_implicit_lambda% (eps4 0 (inferInstanceAs (Box 0 IdT _)) rfl rfl ?_) | refine no_implicit_lambda% (eps3 0 (inferInstanceAs (Box 0 IdT _)) rfl rfl ?_) | refine no_implicit_lambda% (eps2 0 (inferInstanceAs (Box 0 IdT _)) rfl rfl ?_) | refine no_implicit_lambda% (epsd 0 (inferInstanceAs (Box 0 IdT _)) rfl rfl ?_)
  k_with "cl" => (set_option tactic.hygienic false in ((repeat ((first | rename Heap => q9 | rename Addr => q9 | rename Nat => q9 | rename Obj => q9 | rename Value => q9 | rename Int => q9 | rename List _ => q9 | rename Str → Option Value => q9 | rename Bool => q9 | rename Option _ => q9 | rename Array _ => q9 | rename Str => q9 | rename _ × _ => q9 | rename Shared => q9 | rename Program => q9 | rename ExcName → Option Value => q9 | rename Value → Shared → Prop => q9); revert q9)); (repeat (first | k_extra "cl1" | (with_reducible intro _)))))
  trivial
namespace law_2
noncomputable def St0 (w : World) (dp : Nat) (un : Nat) (fr : Option (List Env)) (gd : Option (List Code)) (s : Shared) (p : Program) (loose : List Str) (mean : ExcName → Option Value) (mg : Str → Option Value) (mb : Str → Option Value) (Qf : Flow → Shared → Prop) (g : Heap) (L : Addr) (lg : Addr) (bx : Addr) (bl : Addr) (oL : Addr) (sc : Addr) (ow : List Wf) (vs : List Value) (ns : List Int) (no : Nat) (nl : Nat) (nb : Nat) (n : Nat) (c : Nat) (k : Int) (t : Tok) (oc : Obj) : Prop := ∀ (X : (mkK.heap_1 w.params).In g) (T : Top p loose mean mg mb g) (hd : dp + 200 < recursionLimit) (hu : un + 2000 < cLine) (C9 : CodeHd g 351 349) (hoc : oc.data = .cell (some (.ref bx))) (hox : ∀ f ∈ ow, FrO f.2.1 f.2.2 ∧ f.2.2.ok ∧ f.2.2.plain = true) (how : ow.length ≤ 3) (hi : IntsAre vs ns) (hlen : vs.length ≤ 1048576) (hk : 0 ≤ k ∧ k ≤ 80000) (hlt : @LT.lt Nat _ bx lg) (hl0 : @LT.lt Nat _ 349 bx) (F : Fr g L s.heap (lk [(Str.ofString "owed", .ref oL), (Str.ofString "log", .ref lg), (Str.ofString "script", .ref sc)])) (N : News g L s.heap ((oL, W.listOf (refs (wadr ow)) no) :: (lg, W.listOf #[] nl) :: (bx, W.listOf #[.ref bl, .int k t] n) :: (bl, W.listOf vs.toArray nb) :: (L + 1, oc) :: ((349 : Addr), tabObj #[]) :: ents ow)) (B : Bel (((oL, W.listOf (refs (wadr ow)) no) :: (lg, W.listOf #[] nl) :: (bx, W.listOf #[.ref bl, .int k t] n) :: (bl, W.listOf vs.toArray nb) :: (L + 1, oc) :: ((349 : Addr), tabObj #[]) :: ents ow).map (·.1)) c) (hQ : LDone g s Qf),
   LawAt 2 w dp un fr gd L Qf s
noncomputable abbrev Ty0 : Type := (World) × (Nat) × (Nat) × (Option (List Env)) × (Option (List Code)) × (Shared) × (Program) × (List Str) × (ExcName → Option Value) × (Str → Option Value) × (Str → Option Value) × (Flow → Shared → Prop) × (Heap) × (Addr) × (Addr) × (Addr) × (Addr) × (Addr) × (Addr) × (List Wf) × (List Value) × (List Int) × (Nat) × (Nat) × (Nat) × (Nat) × (Nat) × (Int) × (Tok) × (Obj)
theorem ne0 : Nonempty Ty0 := ⟨Classical.choice neW, Classical.choice inferInstance, Classical.choice inferInstance, Classical.choice inferInstance, Classical.choice inferInstance, Classical.choice neS, Classical.choice inferInstance, Classical.choice inferInstance, Classical.choice inferInstance, Classical.choice inferInstance, Classical.choice inferInstance, Classical.choice inferInstance, Classical.choice inferInstance, Classical.choice inferInstance, Classical.choice inferInstance, Classical.choice inferInstance, Classical.choice inferInstance, Classical.choice inferInstance, Classical.choice inferInstance, Classical.choice inferInstance, Classical.choice inferInstance, Classical.choice inferInstance, Classical.choice inferInstance, Classical.choice inferInstance, Classical.choice inferInstance, Classical.choice inferInstance, Classical.choice inferInstance, Classical.choice inferInstance, Classical.choice inferInstance, Classical.choice inferInstance⟩
noncomputable def P0 (vv0 : Ty0) : Prop := St0 (vv0.1) (vv0.2.1) (vv0.2.2.1) (vv0.2.2.2.1) (vv0.2.2.2.2.1) (vv0.2.2.2.2.2.1) (vv0.2.2.2.2.2.2.1) (vv0.2.2.2.2.2.2.2.1) (vv0.2.2.2.2.2.2.2.2.1) (vv0.2.2.2.2.2.2.2.2.2.1) (vv0.2.2.2.2.2.2.2.2.2.2.1) (vv0.2.2.2.2.2.2.2.2.2.2.2.1) (vv0.2.2.2.2.2.2.2.2.2.2.2.2.1) (vv0.2.2.2.2.2.2.2.2.2.2.2.2.2.1) (vv0.2.2.2.2.2.2.2.2.2.2.2.2.2.2.1) (vv0.2.2.2.2.2.2.2.2.2.2.2.2.2.2.2.1) (vv0.2.2.2.2.2.2.2.2.2.2.2.2.2.2.2.2.1) (vv0.2.2.2.2.2.2.2.2.2.2.2.2.2.2.2.2.2.1) (vv0.2.2.2.2.2.2.2.2.2.2.2.2.2.2.2.2.2.2.1) (vv0.2.2.2.2.2.2.2.2.2.2.2.2.2.2.2.2.2.2.2.1) (vv0.2.2.2.2.2.2.2.2.2.2.2.2.2.2.2.2.2.2.2.2.1) (vv0.2.2.2.2.2.2.2.2.2.2.2.2.2.2.2.2.2.2.2.2.2.1) (vv0.2.2.2.2.2.2.2.2.2.2.2.2.2.2.2.2.2.2.2.2.2.2.1) (vv0.2.2.2.2.2.2.2.2.2.2.2.2.2.2.2.2.2.2.2.2.2.2.2.1) (vv0.2.2.2.2.2.2.2.2.2.2.2.2.2.2.2.2.2.2.2.2.2.2.2.2.1) (vv0.2.2.2.2.2.2.2.2.2.2.2.2.2.2.2.2.2.2.2.2.2.2.2.2.2.1) (vv0.2.2.2.2.2.2.2.2.2.2.2.2.2.2.2.2.2.2.2.2.2.2.2.2.2.2.1) (vv0.2.2.2.2.2.2.2.2.2.2.2.2.2.2.2.2.2.2.2.2.2.2.2.2.2.2.2.1) (vv0.2.2.2.2.2.2.2.2.2.2.2.2.2.2.2.2.2.2.2.2.2.2.2.2.2.2.2.2.1) (vv0.2.2.2.2.2.2.2.2.2.2.2.2.2.2.2.2.2.2.2.2.2.2.2.2.2.2.2.2.2)
@[irreducible] def vv0 : Ty0 := @ata _ ne0 0 P0
@[irreducible] def w : World := vv0.1
@[irreducible] def dp : Nat := vv0.2.1
@[irreducible] def un : Nat := vv0.2.2.1
@[irreducible] def s : Shared := vv0.2.2.2.2.2.1
@[irreducible] def p : Program := vv0.2.2.2.2.2.2.1
@[irreducible] def mb : Str → Option Value := vv0.2.2.2.2.2.2.2.2.2.2.1
@[irreducible] def g : Heap := vv0.2.2.2.2.2.2.2.2.2.2.2.2.1
@[irreducible] def L : Addr := vv0.2.2.2.2.2.2.2.2.2.2.2.2.2.1
@[irreducible] def lg : Addr := vv0.2.2.2.2.2.2.2.2.2.2.2.2.2.2.1
@[irreducible] def bx : Addr := vv0.2.2.2.2.2.2.2.2.2.2.2.2.2.2.2.1
@[irreducible] def bl : Addr := vv0.2.2.2.2.2.2.2.2.2.2.2.2.2.2.2.2.1
@[irreducible] def sc : Addr := vv0.2.2.2.2.2.2.2.2.2.2.2.2.2.2.2.2.2.2.1
@[irreducible] def ow : List Wf := vv0.2.2.2.2.2.2.2.2.2.2.2.2.2.2.2.2.2.2.2.1
@[irreducible] def vs : List Value := vv0.2.2.2.2.2.2.2.2.2.2.2.2.2.2.2.2.2.2.2.2.1
@[irreducible] def ns : List Int := vv0.2.2.2.2.2.2.2.2.2.2.2.2.2.2.2.2.2.2.2.2.2.1
@[irreducible] def no : Nat := vv0.2.2.2.2.2.2.2.2.2.2.2.2.2.2.2.2.2.2.2.2.2.2.1
@[irreducible] def nl : Nat := vv0.2.2.2.2.2.2.2.2.2.2.2.2.2.2.2.2.2.2.2.2.2.2.2.1
@[irreducible] def nb : Nat := vv0.2.2.2.2.2.2.2.2.2.2.2.2.2.2.2.2.2.2.2.2.2.2.2.2.1
@[irreducible] def n : Nat := vv0.2.2.2.2.2.2.2.2.2.2.2.2.2.2.2.2.2.2.2.2.2.2.2.2.2.1
@[irreducible] def c : Nat := vv0.2.2.2.2.2.2.2.2.2.2.2.2.2.2.2.2.2.2.2.2.2.2.2.2.2.2.1
@[irreducible] def k : Int := vv0.2.2.2.2.2.2.2.2.2.2.2.2.2.2.2.2.2.2.2.2.2.2.2.2.2.2.2.1
@[irreducible] def t : Tok := vv0.2.2.2.2.2.2.2.2.2.2.2.2.2.2.2.2.2.2.2.2.2.2.2.2.2.2.2.2.1
@[irreducible] def oc : Obj := vv0.2.2.2.2.2.2.2.2.2.2.2.2.2.2.2.2.2.2.2.2.2.2.2.2.2.2.2.2.2
theorem prf0 : St0 w dp un (vv0.2.2.2.1) (vv0.2.2.2.2.1) s p (vv0.2.2.2.2.2.2.2.1) (vv0.2.2.2.2.2.2.2.2.1) (vv0.2.2.2.2.2.2.2.2.2.1) mb (vv0.2.2.2.2.2.2.2.2.2.2.2.1) g L lg bx bl (vv0.2.2.2.2.2.2.2.2.2.2.2.2.2.2.2.2.2.1) sc ow vs ns no nl nb n c k t oc := by
  intro X T hd hu C9 hoc hox how hi hlen hk hlt hl0 F N B hQ
  have _h : Challenge.rw_pf0272_01 = Challenge.rw_pf0272_01 ∧ mkK.heap_1 = mkK.heap_1 := by
    k_fill
    exact ⟨rfl, rfl⟩
  clear _h
  refine ⟨?_⟩
  conv in (occs := *) List.drop _ lwBody => whnf
  unfold lwEnv
  conv in (occs := *) lwScope => whnf
  have nb' := B.1
  simp only [List.map_cons, List.nodup_cons, List.mem_cons, not_or] at nb'
  have hne : @Ne Nat bl bx := Ne.symm nb'.2.2.1.1
  have hne2 : @Ne Nat bl lg := Ne.symm nb'.2.1.2.1
  have hne5 : @Ne Nat bl 349 := nb'.2.2.2.1.2.1
  simp only [List.map_cons] at B
  refine wpN_execs_cons ?_
  refine' wpN_Assign_Tuple ?_ ?h1 ?h2
  case h1 => kernel_rfl
  case h2 => kernel_rfl
  refine wpN_Tuple ?_
  refine args_cons_N ?_
  refine wpN_of_any ?_
  k_extra "WC"
  rename (0 ≤ _) => hrm0
  rename (_ ≤ 60) => hrm1
  refine args_cons_N (Call_N (wpN_of_any ?_))
  k_extra "WC"
  refine callWith_NK (K := mkK.heap_1 w.params) (by k_is) (args_cons_N (wpN_of_any ?_))
  k_extra "WC"
  refine args_cons_N (wpN_of_any ?_)
  k_extra "WC"
  rename Fr _ _ _ _ => F1
  rename News _ _ _ _ => N1
  rename Bel _ _ => B1
  refine args_nil_N ⟨X.keeps F1.keep, ?_⟩
  dsimp only [List.nil_append]
  refine state_N (h₀ := g) (by exact F1.keep) X T (by (show dp + 1 + 60 < recursionLimit); k_extra "rm") (by (show un + 3 + 600 < cLine); k_extra "rm") C9 (by exact led_of N1 (List.forall_mem_cons.mpr ⟨by k_mem, List.forall_mem_cons.mpr ⟨by k_mem, List.forall_mem_cons.mpr ⟨by k_mem, List.forall_mem_nil _⟩⟩⟩)) (by exact ⟨_, N1.get (by k_mem : (bl, W.listOf vs.toArray nb) ∈ _), rfl, _, rfl⟩) hne hne2 hlt hl0 hne5 hi hlen (by lia) fun σ compl r k' t' n' h3 tk3 ps ok hk1 hk2 hall hnd kp gbx gpt => ?_
  k_extra "g1"
  obtain ⟨Z, F2, N2, B2, hZ, hnA⟩ := state_back F1 (news_drop N1) (bel_drop B1) hall hnd kp gpt
  k_extra "g2"
  have K : LawC w σ compl lg ow := ⟨ok, hox, how, hnA⟩
  clear F1 N1 B1 hall hnd kp gbx gpt
  refine args_nil_N ?_
  simp only [lawE7, lawW, List.drop_succ_cons, List.drop_zero, List.cons_append, List.nil_append, List.map_cons] at N2 B2
  k_extra "WC"
  rename Fr _ _ _ _ => F9
  rename News _ _ _ _ => N9
  rename Bel _ _ => B9
  rw [lawO_start] at F9
  exact law_3 X T hd hu K ⟨hrm0, hrm1⟩ hZ F9 (news_drop (news_drop N9)) (bel_drop (bel_drop B9)) hQ
end law_2
theorem law_2 {w : World} {dp : Nat} {un : Nat} {fr : Option (List Env)} {gd : Option (List Code)} {s : Shared} {p : Program} {loose : List Str} {mean : ExcName → Option Value} {mg : Str → Option Value} {mb : Str → Option Value} {Qf : Flow → Shared → Prop} {g : Heap} {L : Addr} {lg : Addr} {bx : Addr} {bl : Addr} {oL : Addr} {sc : Addr} {ow : List Wf} {vs : List Value} {ns : List Int} {no : Nat} {nl : Nat} {nb : Nat} {n : Nat} {c : Nat} {k : Int} {t : Tok} {oc : Obj} : law_2.St0 w dp un fr gd s p loose mean mg mb Qf g L lg bx bl oL sc ow vs ns no nl nb n c k t oc :=
  @ata_spec _ law_2.ne0 0 law_2.P0 (by with_unfolding_all exact law_2.prf0) (w, dp, un, fr, gd, s, p, loose, mean, mg, mb, Qf, g, L, lg, bx, bl, oL, sc, ow, vs, ns, no, nl, nb, n, c, k, t, oc)
end
end
noncomputable section
open PyProof.Rows.LCg
theorem kw_108 : True := by
  k_with_none
  k_with "rm" => first | exact room_lt (by assumption) rfl | exact room_lt1 (by assumption) | lia
  k_with "g1" => refine by_goal fun zG zh => ?_
  k_with "g2" => (refine zh ?_; clear zh zG)
  k_with "WC" => (repeat' (first | ((with_reducible show wpAny _ _ _ _ _ _); (fail_if_success (with_reducible show wpAny _ _ (eval (Expr.ListComp _ _ _ _) _) _ _ _)); (fail_if_success (with_reducible show wpAny _ _ (pyIter _) _ _ _)); (fail_if_success (with_reducible show wpAny _ _ (compareOp _ (Value.ref _) (Value.ref _)) _ _ _)); (fail_if_success (with_reducible show wpAny _ _ (exec (Stmt.Assign [Expr.Name _ _] (Expr.ListComp _ _ _ _) _) _) _ _ _)); walk1) | ((with_reducible show ite _ _ _); walk1) | ((with_reducible show (Frag.In _ _ ∧ wpAny _ _ _ _ _ _)); refine And.intro (Frag.In.keeps (by assumption) (Fr.keep (by assumption))) ?_) | ((with_reducible show (Heap.get? _ _ = some _ ∧ wpAny _ _ _ _ _ _)); refine And.intro (News.get (by assumption) (by k_mem)) ?_) | ((fail_if_success (with_reducible show wpAny _ _ _ _ _ _)); dsimp only)))
  trivial
theorem kw_106 : True := by
  k_with "storeName" => (k_here; (with_reducible show wpAny _ _ (storeName (compEnvC _ _ _ _) _ _) _ _ _); k_dflt (refine st_comp (by k_asm) (by k_asm) ?_; k_whole); intro _ _ _)
  k_with "eval Name" => (k_here; (with_reducible show wpAny _ _ (eval (Expr.Name _ _) (compEnvC _ _ _ _)) _ _ _); k_dflt (refine ld_comp (by k_asm) (by exact rfl) ?_; k_whole))
  k_with "getAttr ref" => (k_here; k_dflt (refine getA (by k_asm) (by k_asm) (by k_asm) (by k_mem) (by k_mem) (by k_asm) (by first | exact rfl | assumption) (by k_is) (by k_is) (by k_is) (by k_is) (by k_handed) ?_; k_whole))
  k_with "getMethod ref" => (k_here; k_dflt (refine methA (by k_asm) (by k_asm) (by k_asm) (by k_mem) (by k_mem) (by k_asm) (by first | exact rfl | assumption) (by k_is) (by k_is) (by k_is) (by k_handed) ?_; k_whole))
  k_with "setAttr ref" => (k_here; k_dflt (refine setA (by k_asm) (by k_asm) (by k_asm) (by k_mem) (by k_mem) (by k_asm) (by k_is) (by k_is) (by k_is) (by k_is) (by (intro _ _; k_upd)) (by first | exact Nat.le_of_ble_eq_true rfl | lia) ?_; k_whole); intro _ _ _ _ _ zN; (try dsimp only at zN); (revert zN; intro _); (try k_sweep))
  k_with "call ref" => (k_here; (with_reducible show wpAny _ _ (call (Value.ref 319) [Value.str _ _]) _ _ _); (rename Fr _ _ _ _ => F); (rename News _ _ _ _ => N); (refine space_U F N X T (by (show dp + 1 + 20 < recursionLimit); k_extra "rm") (by (show un + 3 + 200 < cLine); k_extra "rm") fun x' d' es' n' f' h' tk' l1 l2 D' F' N' => ?_); clear F N; (try k_lt l1); (try k_lt2 l2))
  k_with "call builtin:list.append" => (k_here; (with_reducible show wpAny _ _ (call (Value.builtin _) [Value.ref _, _]) _ _ _); k_dflt (refine append_K (by k_asm) (by k_asm) (by k_upd) ?_ (by assumption); k_whole); intro _ _ _; (try k_sweep))
  k_with "call ref" => (k_here; (with_reducible show wpAny _ _ (call (Value.ref 330) [Value.ref _, Value.int _ _]) _ _ _); (rename Fr _ _ _ _ => F); (rename News _ _ _ _ => N); (refine take_L F N X T ⟨_, N.get (by k_mem : (bl, W.listOf vs.toArray nb) ∈ _), rfl, _, rfl⟩ hne hi hlen (by (show dp + 1 + 10 < recursionLimit); k_extra "rm") (by (show un + 3 + 100 < cLine); k_extra "rm") (by k_mem) (by lia) (by lia) fun vv vtk h2 tk2 vt vn hv0 hv1 F2 N2 => ?_); clear F N; (replace N2 := N2 _ (by k_upd)); (try dsimp only at N2))
  k_with "call ref" => (k_here; (with_reducible show wpAny _ _ (call (Value.ref 347) [Value.ref _]) _ _ _); (rename Fr _ _ _ _ => F); (rename News _ _ _ _ => N); (refine frame_U F N X T ⟨_, N.get (by k_mem : (bl, W.listOf vs.toArray nb) ∈ _), rfl, _, rfl⟩ hne hi hlen (by (show dp + 1 + 40 < recursionLimit); k_extra "rm") (by (show un + 3 + 300 < cLine); k_extra "rm") (by k_mem) (by lia) fun fv fd fo h2 tk2 fk ft fn fok fpl fk0 fk1 ffr F2 N2 fne => ?_); clear F N; (replace N2 := N2 _ (.tail hDb (.tail hIb (.head hRb)))))
  trivial
theorem frs_fin {a : Addr} {o : Obj} {d : Fd} {ws : List Wf} (h1 : ∀ f ∈ ws, FrO f.2.1 f.2.2 ∧ f.2.2.ok ∧ f.2.2.plain = true) (h2 : (wadr ws).Nodup) (hF : FrO o d) (hok : d.ok) (hpl : d.plain = true) (hne : ∀ p ∈ ents ws, @Ne Nat p.1 a) :
    ∃ ws' : List Wf, (wadr ws).map Value.ref ++ [.ref a] = (wadr ws').map Value.ref ∧ ents ws ++ [(a, o)] = ents ws' ∧ ws'.length = ws.length + 1 ∧ (∀ f ∈ ws', FrO f.2.1 f.2.2 ∧ f.2.2.ok ∧ f.2.2.plain = true) ∧ (wadr ws').Nodup := by
  refine ⟨ws ++ [(a, o, d)], by simp [wadr], by simp [ents], by simp, fun f hf => ?_, ?_⟩
  · rcases List.mem_append.mp hf with hf | hf
    · exact h1 f hf
    · rw [List.mem_singleton.mp hf]; exact ⟨hF, hok, hpl⟩
  · show (List.map (·.1) (ws ++ [(a, o, d)])).Nodup
    rw [List.map_append]
    refine List.nodup_append.mpr ⟨h2, by simp, fun x hx y hy e => ?_⟩
    k_extra "g1"
    obtain ⟨f, hf, rfl⟩ := List.mem_map.mp hx
    k_extra "g2"
    exact hne (f.1, f.2.1) (List.mem_map_of_mem hf) (e.trans (List.mem_singleton.mp hy))
theorem frs_end {g h : Heap} {C a D I b1 b2 b3 : Addr} {oT ls o o1 o2 o3 : Obj} {ws : List Wf} (N : News g C h ((a, oT) :: (D, ls) :: (I, o) :: (b1, o1) :: (b2, o2) :: (b3, o3) :: ents ws)) :
    News g C h ((D, ls) :: (I, o) :: (b1, o1) :: ([(b2, o2), (b3, o3)] ++ (ents ws ++ [(a, oT)]))) := by
  intro q hq
  refine N q ?_
  simp only [List.cons_append, List.nil_append, List.mem_cons, List.mem_append, List.not_mem_nil, or_false] at hq ⊢
  rcases hq with hq | hq | hq | hq | hq | hq | hq <;> simp [hq]
noncomputable section
theorem kw_107 : True := by
  k_with "cl1" => first | refine no_implicit_lambda% (eps8 0 (inferInstanceAs (Box 0 IdT _)) rfl rfl ?_) | refine no_implicit_lambda% (eps7 0 (inferInstanceAs (Box 0 IdT _)) rfl rfl ?_) | refine no_implicit_lambda% (eps6 0 (inferInstanceAs (Box 0 IdT _)) rfl rfl ?_) | refine no_implicit_lambda% (eps5 0 (inferInstanceAs (Box 0 IdT _)) rfl rfl ?_) | refine no_implicit_lambda% (eps4 0 (inferInstanceAs (Box 0 IdT _)) rfl rfl ?_) | refine no_implicit_lambda% (eps3 0 (inferInstanceAs (Box 0 IdT _)) rfl rfl ?_) | refine no_implicit_lambda% (eps2 0 (inferInstanceAs (Box 0 IdT _)) rfl rfl ?_) | refine no_implicit_lambda% (epsd 0 (inferInstanceAs (Box 0 IdT _)) rfl rfl ?_)
  k_with "cl" => (set_option tactic.hygienic false in ((repeat ((first | rename Heap => q9 | rename Addr => q9 | rename Nat => q9 | rename Obj => q9 | rename Value => q9 | rename Int => q9 | rename List _ => q9 | rename Str → Option Value => q9 | rename Bool => q9 | rename Option _ => q9 | rename Array _ => q9 | rename Str => q9 | rename _ × _ => q9 | rename Shared => q9 | rename Program => q9 | rename ExcName → Option Value => q9 | rename Value → Shared → Prop => q9); revert q9)); (repeat (first | k_extra "cl1" | (with_reducible intro _)))))
  trivial
namespace law_1
noncomputable def St0 (w : World) (dp : Nat) (un : Nat) (fr : Option (List Env)) (gd : Option (List Code)) (s : Shared) (p : Program) (loose : List Str) (mean : ExcName → Option Value) (mg : Str → Option Value) (mb : Str → Option Value) (Qf : Flow → Shared → Prop) (g : Heap) (L : Addr) (lg : Addr) (bx : Addr) (bl : Addr) (sc : Addr) (vs : List Value) (ns : List Int) (nl : Nat) (nb : Nat) (n : Nat) (c : Nat) (t : Tok) (oc : Obj) : Prop := ∀ (X : (mkK.heap_1 w.params).In g) (T : Top p loose mean mg mb g) (hd : dp + 200 < recursionLimit) (hu : un + 2000 < cLine) (C9 : CodeHd g 351 349) (hoc : oc.data = .cell (some (.ref bx))) (hi : IntsAre vs ns) (hlen : vs.length ≤ 1048576) (hlt : @LT.lt Nat _ bx lg) (hl0 : @LT.lt Nat _ 349 bx) (F : Fr g L s.heap (lk [(Str.ofString "log", .ref lg), (Str.ofString "script", .ref sc)])) (N : News g L s.heap [(lg, W.listOf #[] nl), (bx, W.listOf #[.ref bl, .int 0 t] n), (bl, W.listOf vs.toArray nb), (L + 1, oc), ((349 : Addr), tabObj #[])]) (B : Bel (([(lg, W.listOf #[] nl), (bx, W.listOf #[.ref bl, .int 0 t] n), (bl, W.listOf vs.toArray nb), (L + 1, oc), ((349 : Addr), tabObj #[])] : List (Addr × Obj)).map (·.1)) c) (hQ : LDone g s Qf),
   wpN (model Challenge.pw_pf0272_01 w) ((Ak dp un fr gd).deeper (lwEnv L)) (execs (lwBody.drop 1) (lwEnv L)) Qf (fun _ _ => False) s
noncomputable abbrev Ty0 : Type := (World) × (Nat) × (Nat) × (Option (List Env)) × (Option (List Code)) × (Shared) × (Program) × (List Str) × (ExcName → Option Value) × (Str → Option Value) × (Str → Option Value) × (Flow → Shared → Prop) × (Heap) × (Addr) × (Addr) × (Addr) × (Addr) × (Addr) × (List Value) × (List Int) × (Nat) × (Nat) × (Nat) × (Nat) × (Tok) × (Obj)
theorem ne0 : Nonempty Ty0 := ⟨Classical.choice neW, Classical.choice inferInstance, Classical.choice inferInstance, Classical.choice inferInstance, Classical.choice inferInstance, Classical.choice neS, Classical.choice inferInstance, Classical.choice inferInstance, Classical.choice inferInstance, Classical.choice inferInstance, Classical.choice inferInstance, Classical.choice inferInstance, Classical.choice inferInstance, Classical.choice inferInstance, Classical.choice inferInstance, Classical.choice inferInstance, Classical.choice inferInstance, Classical.choice inferInstance, Classical.choice inferInstance, Classical.choice inferInstance, Classical.choice inferInstance, Classical.choice inferInstance, Classical.choice inferInstance, Classical.choice inferInstance, Classical.choice inferInstance, Classical.choice inferInstance⟩
noncomputable def P0 (vv0 : Ty0) : Prop := St0 (vv0.1) (vv0.2.1) (vv0.2.2.1) (vv0.2.2.2.1) (vv0.2.2.2.2.1) (vv0.2.2.2.2.2.1) (vv0.2.2.2.2.2.2.1) (vv0.2.2.2.2.2.2.2.1) (vv0.2.2.2.2.2.2.2.2.1) (vv0.2.2.2.2.2.2.2.2.2.1) (vv0.2.2.2.2.2.2.2.2.2.2.1) (vv0.2.2.2.2.2.2.2.2.2.2.2.1) (vv0.2.2.2.2.2.2.2.2.2.2.2.2.1) (vv0.2.2.2.2.2.2.2.2.2.2.2.2.2.1) (vv0.2.2.2.2.2.2.2.2.2.2.2.2.2.2.1) (vv0.2.2.2.2.2.2.2.2.2.2.2.2.2.2.2.1) (vv0.2.2.2.2.2.2.2.2.2.2.2.2.2.2.2.2.1) (vv0.2.2.2.2.2.2.2.2.2.2.2.2.2.2.2.2.2.1) (vv0.2.2.2.2.2.2.2.2.2.2.2.2.2.2.2.2.2.2.1) (vv0.2.2.2.2.2.2.2.2.2.2.2.2.2.2.2.2.2.2.2.1) (vv0.2.2.2.2.2.2.2.2.2.2.2.2.2.2.2.2.2.2.2.2.1) (vv0.2.2.2.2.2.2.2.2.2.2.2.2.2.2.2.2.2.2.2.2.2.1) (vv0.2.2.2.2.2.2.2.2.2.2.2.2.2.2.2.2.2.2.2.2.2.2.1) (vv0.2.2.2.2.2.2.2.2.2.2.2.2.2.2.2.2.2.2.2.2.2.2.2.1) (vv0.2.2.2.2.2.2.2.2.2.2.2.2.2.2.2.2.2.2.2.2.2.2.2.2.1) (vv0.2.2.2.2.2.2.2.2.2.2.2.2.2.2.2.2.2.2.2.2.2.2.2.2.2)
@[irreducible] def vv0 : Ty0 := @ata _ ne0 0 P0
@[irreducible] def w : World := vv0.1
@[irreducible] def dp : Nat := vv0.2.1
@[irreducible] def un : Nat := vv0.2.2.1
@[irreducible] def fr : Option (List Env) := vv0.2.2.2.1
@[irreducible] def gd : Option (List Code) := vv0.2.2.2.2.1
@[irreducible] def s : Shared := vv0.2.2.2.2.2.1
@[irreducible] def p : Program := vv0.2.2.2.2.2.2.1
@[irreducible] def mb : Str → Option Value := vv0.2.2.2.2.2.2.2.2.2.2.1
@[irreducible] def Qf : Flow → Shared → Prop := vv0.2.2.2.2.2.2.2.2.2.2.2.1
@[irreducible] def g : Heap := vv0.2.2.2.2.2.2.2.2.2.2.2.2.1
@[irreducible] def L : Addr := vv0.2.2.2.2.2.2.2.2.2.2.2.2.2.1
@[irreducible] def bx : Addr := vv0.2.2.2.2.2.2.2.2.2.2.2.2.2.2.2.1
@[irreducible] def bl : Addr := vv0.2.2.2.2.2.2.2.2.2.2.2.2.2.2.2.2.1
@[irreducible] def vs : List Value := vv0.2.2.2.2.2.2.2.2.2.2.2.2.2.2.2.2.2.2.1
@[irreducible] def ns : List Int := vv0.2.2.2.2.2.2.2.2.2.2.2.2.2.2.2.2.2.2.2.1
@[irreducible] def nl : Nat := vv0.2.2.2.2.2.2.2.2.2.2.2.2.2.2.2.2.2.2.2.2.1
@[irreducible] def nb : Nat := vv0.2.2.2.2.2.2.2.2.2.2.2.2.2.2.2.2.2.2.2.2.2.1
@[irreducible] def n : Nat := vv0.2.2.2.2.2.2.2.2.2.2.2.2.2.2.2.2.2.2.2.2.2.2.1
@[irreducible] def c : Nat := vv0.2.2.2.2.2.2.2.2.2.2.2.2.2.2.2.2.2.2.2.2.2.2.2.1
@[irreducible] def t : Tok := vv0.2.2.2.2.2.2.2.2.2.2.2.2.2.2.2.2.2.2.2.2.2.2.2.2.1
@[irreducible] def oc : Obj := vv0.2.2.2.2.2.2.2.2.2.2.2.2.2.2.2.2.2.2.2.2.2.2.2.2.2
theorem prf0 : St0 w dp un fr gd s p (vv0.2.2.2.2.2.2.2.1) (vv0.2.2.2.2.2.2.2.2.1) (vv0.2.2.2.2.2.2.2.2.2.1) mb Qf g L (vv0.2.2.2.2.2.2.2.2.2.2.2.2.2.2.1) bx bl (vv0.2.2.2.2.2.2.2.2.2.2.2.2.2.2.2.2.2.1) vs ns nl nb n c t oc := by
  intro X T hd hu C9 hoc hi hlen hlt hl0 F N B hQ
  have _h : Challenge.rw_pf0272_01 = Challenge.rw_pf0272_01 ∧ mkK.heap_1 = mkK.heap_1 := by
    k_fill
    exact ⟨rfl, rfl⟩
  clear _h
  conv in (occs := *) List.drop _ lwBody => whnf
  unfold lwEnv
  conv in (occs := *) lwScope => whnf
  have nb' := B.1
  simp only [List.map_cons, List.map_nil, List.nodup_cons, List.mem_cons, not_or, List.not_mem_nil, or_false] at nb'
  have hne : @Ne Nat bl bx := Ne.symm nb'.2.1.1
  have hneL : @Ne Nat (L + 1) bx := Ne.symm nb'.2.1.2.1
  have hlL : @Ne Nat bl (L + 1) := nb'.2.2.1.1
  simp only [List.map_cons, List.map_nil] at B
  refine wpN_execs_cons (wpN_of_any ?_)
  k_extra "WC"
  refine Assign_ListComp_K (cl := [(Str.ofString "box", L + 1)]) (by with_unfolding_all rfl) (by with_unfolding_all rfl) (by decide) (by rfl) (by decide) (by rfl) (by rfl) ?_ (by intro _; rfl)
  k_extra "WC"
  rename IsRange _ _ _ _ _ _ _ _ => R3
  rename Fr _ _ _ _ => F3
  rename News _ _ _ _ => N3
  k_extra "cl"
  refine comp3 (bx := bx) (extra := [(L + 1, oc), (bl, W.listOf vs.toArray nb)]) (fun i ys o' cr => ∃ k2 t2 nb2 ws, o' = W.listOf #[.ref bl, .int k2 t2] nb2 ∧ ys = (wadr ws).map Value.ref ∧ cr = ents ws ∧ 0 ≤ k2 ∧ k2 ≤ 1 + 4 * (i : Int) ∧ ws.length = i ∧ i ≤ 3 ∧ (∀ f ∈ ws, FrO f.2.1 f.2.2 ∧ f.2.2.ok ∧ f.2.2.plain = true) ∧ (wadr ws).Nodup)
    X T F3 N3 (by k_mem) ?_ (src_range rfl R3 (small_one (by lia) (by lia) (by lia) (by lia)) (rangeSize_nat 0 _)) ?_ ?_ ⟨_, _, _, [], rfl, rfl, rfl, by lia, by lia, rfl, by lia, (fun f hf => nomatch hf), List.nodup_nil⟩ ?_ ?_
  · intro q hq
    simp only [List.mem_cons, List.not_mem_nil, or_false] at hq
    rcases hq with rfl | rfl
    · exact ⟨by k_mem, hneL⟩
    · exact ⟨by k_mem, hne⟩
  · rw [sizeLine_eq]; lia
  · rintro i ys o' cr zx
    k_extra "g1"
    obtain ⟨k2, t2, nb2, ws, -, rfl, -, -, -, hwl, hi3, -, -⟩ := zx
    k_extra "g2"
    rw [sizeLine_eq]; simp [wadr]; lia
  · rintro g' C D I X' T' kg' hgC hall hID hDC i v ys mC o' cr o h tk ⟨tt, rfl⟩ hi' zx
    k_extra "g1"
    obtain ⟨k2, t2, nb2, ws, rfl, rfl, rfl, hk3, hk4, hwl, hi3, hws, hwn⟩ := zx
    k_extra "g2"
    rintro hcrb F N
    have hI0 : @LT.lt Nat _ bx I := hall (bx, _) (.tail _ (.head _))
    have hDb : @Ne Nat D bx := Nat.ne_of_gt (Nat.lt_trans hI0 hID)
    have hIb : @Ne Nat I bx := Nat.ne_of_gt hI0
    have hRb : ∀ p ∈ [(L + 1, oc), (bl, W.listOf vs.toArray nb)] ++ ents ws, @Ne Nat p.1 bx := fun p hp => by
      rcases List.mem_append.mp hp with hp | hp
      · simp only [List.mem_cons, List.not_mem_nil, or_false] at hp
        rcases hp with rfl | rfl
        · exact hneL
        · exact hne
      · exact hcrb p hp
    clear F3 N3 R3 X T hall B
    rename Frag.In _ _ => X
    rename Top _ _ _ _ _ _ => T
    simp only [List.cons_append, List.nil_append] at N hRb
    k_extra "cl"
    k_extra "WC"
    rename Fr _ _ _ _ => F4
    rename News _ _ _ _ => N4
    k_extra "g1"
    obtain ⟨ws', e1, e2, e3, e4, e5⟩ := frs_fin hws hwn ffr fok fpl fun p hp => fne p (.tail _ (.tail _ (.tail _ (.tail _ (.tail _ hp)))))
    k_extra "g2"
    have d1 := fne _ (.head _)
    have d2 := fne _ (.tail _ (.head _))
    have d3 := fne _ (.tail _ (.tail _ (.head _)))
    have d4 := fne _ (.tail _ (.tail _ (.tail _ (.head _))))
    have d5 := fne _ (.tail _ (.tail _ (.tail _ (.tail _ (.head _)))))
    refine ⟨_, _, _, _, [(fv, fo)], rfl, F4, frs_end N4, (fun q hq => ?_), _, _, _, ws', rfl, e1, e2, by lia, by lia, by lia, by lia, e4, e5⟩
    rw [List.mem_singleton.mp hq]
    refine ⟨Ne.symm d2, Ne.symm d1, ?_⟩
    simp only [List.map_cons, List.map_nil, List.mem_cons, List.not_mem_nil, or_false, not_or]
    exact ⟨Ne.symm d3, Ne.symm d4, Ne.symm d5⟩
  · rintro D h tk ys o' cr all' zx
    k_extra "g1"
    obtain ⟨k2, t2, nb2, ws, rfl, rfl, rfl, hk3, hk4, hwl, hi3, hws, hwn⟩ := zx
    k_extra "g2"
    rintro hcr F N' N hall
    refine ⟨rfl, fun h' tk' F N' => ?_⟩
    have N4 := N _ N' _ (by k_upd)
    have B4 := bel_comp N3 B hall hcr (by rw [ents_map]; exact hwn) N4 rfl
    rw [lk_cons] at F
    dsimp only
    have q := law_2 (ow := ws) (s := { s with heap := h', toks := tk' }) (Qf := Qf) (dp := dp) (un := un) (fr := fr) (gd := gd) X T hd hu C9 hoc hws (by lia) hi hlen (by lia) hlt hl0 F N4 B4 hQ
    cases q
    assumption
end law_1
theorem law_1 {w : World} {dp : Nat} {un : Nat} {fr : Option (List Env)} {gd : Option (List Code)} {s : Shared} {p : Program} {loose : List Str} {mean : ExcName → Option Value} {mg : Str → Option Value} {mb : Str → Option Value} {Qf : Flow → Shared → Prop} {g : Heap} {L : Addr} {lg : Addr} {bx : Addr} {bl : Addr} {sc : Addr} {vs : List Value} {ns : List Int} {nl : Nat} {nb : Nat} {n : Nat} {c : Nat} {t : Tok} {oc : Obj} : law_1.St0 w dp un fr gd s p loose mean mg mb Qf g L lg bx bl sc vs ns nl nb n c t oc :=
  @ata_spec _ law_1.ne0 0 law_1.P0 (by with_unfolding_all exact law_1.prf0) (w, dp, un, fr, gd, s, p, loose, mean, mg, mb, Qf, g, L, lg, bx, bl, sc, vs, ns, nl, nb, n, c, t, oc)
end
end
noncomputable section
open PyProof.Rows.LCg
theorem kw_110 : True := by
  k_with_none
  k_with "rm" => first | exact room_lt (by assumption) rfl | exact room_lt1 (by assumption) | lia
  k_with "g1" => refine by_goal fun zG zh => ?_
  k_with "g2" => (refine zh ?_; clear zh zG)
  k_with "WC" => (repeat' (first | ((with_reducible show wpAny _ _ _ _ _ _); (fail_if_success (with_reducible show wpAny _ _ (eval (Expr.ListComp _ _ _ _) _) _ _ _)); (fail_if_success (with_reducible show wpAny _ _ (pyIter _) _ _ _)); (fail_if_success (with_reducible show wpAny _ _ (compareOp _ (Value.ref _) (Value.ref _)) _ _ _)); (fail_if_success (with_reducible show wpAny _ _ (exec (Stmt.Assign [Expr.Name _ _] (Expr.ListComp _ _ _ _) _) _) _ _ _)); walk1) | ((with_reducible show ite _ _ _); walk1) | ((with_reducible show (Frag.In _ _ ∧ wpAny _ _ _ _ _ _)); refine And.intro (Frag.In.keeps (by assumption) (Fr.keep (by assumption))) ?_) | ((with_reducible show (Heap.get? _ _ = some _ ∧ wpAny _ _ _ _ _ _)); refine And.intro (News.get (by assumption) (by k_mem)) ?_) | ((fail_if_success (with_reducible show wpAny _ _ _ _ _ _)); dsimp only)))
  trivial
theorem kw_109 : True := by
  k_with "storeName" => (k_here; (with_reducible show wpAny _ _ (storeName (compEnvC _ _ _ _) _ _) _ _ _); k_dflt (refine st_comp (by k_asm) (by k_asm) ?_; k_whole); intro _ _ _)
  k_with "eval Name" => (k_here; (with_reducible show wpAny _ _ (eval (Expr.Name _ _) (compEnvC _ _ _ _)) _ _ _); k_dflt (refine ld_comp (by k_asm) (by exact rfl) ?_; k_whole))
  k_with "getAttr ref" => (k_here; k_dflt (refine getA (by k_asm) (by k_asm) (by k_asm) (by k_mem) (by k_mem) (by k_asm) (by first | exact rfl | assumption) (by k_is) (by k_is) (by k_is) (by k_is) (by k_handed) ?_; k_whole))
  k_with "getMethod ref" => (k_here; k_dflt (refine methA (by k_asm) (by k_asm) (by k_asm) (by k_mem) (by k_mem) (by k_asm) (by first | exact rfl | assumption) (by k_is) (by k_is) (by k_is) (by k_handed) ?_; k_whole))
  k_with "setAttr ref" => (k_here; k_dflt (refine setA (by k_asm) (by k_asm) (by k_asm) (by k_mem) (by k_mem) (by k_asm) (by k_is) (by k_is) (by k_is) (by k_is) (by (intro _ _; k_upd)) (by first | exact Nat.le_of_ble_eq_true rfl | lia) ?_; k_whole); intro _ _ _ _ _ zN; (try dsimp only at zN); (revert zN; intro _); (try k_sweep))
  k_with "call ref" => (k_here; (with_reducible show wpAny _ _ (call (Value.ref 319) [Value.str _ _]) _ _ _); (rename Fr _ _ _ _ => F); (rename News _ _ _ _ => N); (refine space_U F N X T (by (show dp + 1 + 20 < recursionLimit); k_extra "rm") (by (show un + 3 + 200 < cLine); k_extra "rm") fun x' d' es' n' f' h' tk' l1 l2 D' F' N' => ?_); clear F N; (try k_lt l1); (try k_lt2 l2))
  k_with "call builtin:list.append" => (k_here; (with_reducible show wpAny _ _ (call (Value.builtin _) [Value.ref _, _]) _ _ _); k_dflt (refine append_K (by k_asm) (by k_asm) (by k_upd) ?_ (by assumption); k_whole); intro _ _ _; (try k_sweep))
  trivial
theorem bel_two0 {L : Addr} (h : @LT.lt Nat _ 349 L) : Bel [L + 1, (349 : Addr)] (L + 1) := by
  refine ⟨?_, fun a ha => ?_⟩
  · simp only [List.nodup_cons, List.mem_cons, List.not_mem_nil, or_false, not_false_eq_true, List.nodup_nil, and_true]
    refine neN ?_; lia
  · simp only [List.mem_cons, List.not_mem_nil, or_false] at ha
    rcases ha with rfl | rfl <;> (show @LE.le Nat _ _ _; lia)
theorem lk_log {lg sc : Addr} {m : Str → Option Value} (hm : ∀ y, m y = lk [(Str.ofString "script", .ref sc)] y) : (fun y => if y = Str.ofString "log" then some (Value.ref lg) else m y) = lk [(Str.ofString "log", .ref lg), (Str.ofString "script", .ref sc)] := by
  funext y
  rw [hm]
  exact congrFun (lk_cons _ _ _) y
theorem norm0 {g h : Heap} {L lg bx bl c1 b0 tp : Addr} {its its0 : Array Value} {n0 nb n nl c : Nat} {oc ot : Obj} {t : Tok}
   (N : News g L h [(tp, ot), (lg, W.listOf #[] nl), (bx, W.listOf #[.ref bl, .int 0 t] n), (bl, W.listOf its nb), (b0, W.listOf its0 n0), (c1, oc), ((349 : Addr), tabObj #[])])
   (B : Bel (([(tp, ot), (lg, W.listOf #[] nl), (bx, W.listOf #[.ref bl, .int 0 t] n), (bl, W.listOf its nb), (b0, W.listOf its0 n0), (c1, oc), ((349 : Addr), tabObj #[])] : List (Addr × Obj)).map (·.1)) c) :
   News g L h [(lg, W.listOf #[] nl), (bx, W.listOf #[.ref bl, .int 0 t] n), (bl, W.listOf its nb), (c1, oc), ((349 : Addr), tabObj #[])] ∧ Bel (([(lg, W.listOf #[] nl), (bx, W.listOf #[.ref bl, .int 0 t] n), (bl, W.listOf its nb), (c1, oc), ((349 : Addr), tabObj #[])] : List (Addr × Obj)).map (·.1)) c := by
  refine ⟨?_, ?_⟩
  · exact news_pick (l := [(tp, ot), (lg, W.listOf #[] nl), (bx, W.listOf #[.ref bl, .int 0 t] n), (bl, W.listOf its nb), (b0, W.listOf its0 n0), (c1, oc), ((349 : Addr), tabObj #[])]) (Z := []) (by rw [List.append_nil]; exact N) [1, 2, 3, 5, 6] (bs := [(lg, W.listOf #[] nl), (bx, W.listOf #[.ref bl, .int 0 t] n), (bl, W.listOf its nb), (c1, oc), ((349 : Addr), tabObj #[])]) rfl
  · exact bel_pick (l := [(tp, ot), (lg, W.listOf #[] nl), (bx, W.listOf #[.ref bl, .int 0 t] n), (bl, W.listOf its nb), (b0, W.listOf its0 n0), (c1, oc), ((349 : Addr), tabObj #[])]) (Z := []) (by rw [List.append_nil]; exact B) [1, 2, 3, 5, 6] (bs := [(lg, W.listOf #[] nl), (bx, W.listOf #[.ref bl, .int 0 t] n), (bl, W.listOf its nb), (c1, oc), ((349 : Addr), tabObj #[])]) rfl (by decide)
theorem law_N {w : World} {dp un : Nat} {fr : Option (List Env)} {gd : Option (List Code)} {s : Shared} {p : Program} {loose : List Str} {mean : ExcName → Option Value} {mg mb : Str → Option Value} {E : Value → Shared → Prop} {Q : Value → Shared → Prop} {h₀ : Heap}
   (keep : ∀ b o, h₀.get? b = some o → s.heap.get? b = some o) (X : (mkK.heap_1 w.params).In h₀) (T : Top p loose mean mg mb h₀) (hd : dp + 210 < recursionLimit) (hu : un + 2010 < cLine) {sc : Addr} {vs : List Value} {ns : List Int} (hC : CodeHd h₀ 351 349) (Ld : Led h₀ s.heap [(349, tabObj #[])]) (hsc : s.heap.IsList sc vs.toArray) (hne : @Ne Nat sc 349) (hi : IntsAre vs ns) (hlen : vs.length ≤ 63)
   (hQ : ∀ h' tk' ps, (∀ b o, b ≠ 349 → s.heap.get? b = some o → h'.get? b = some o) → h'.get? 349 = some (tabObj ps) → Q (.bool true) { s with heap := h', toks := tk' }) :
   wpN (model Challenge.pw_pf0272_01 w) (Ak dp un fr gd) (call (.ref 357) [.ref sc]) Q E s := by
  have _h : Challenge.rw_pf0272_01 = Challenge.rw_pf0272_01 ∧ mkK.heap_1 = mkK.heap_1 := by
    k_fill
    exact ⟨rfl, rfl⟩
  clear _h
  refine wpN_call ?_
  refine code_defC_N h₀ [(349, tabObj #[])] [(Str.ofString "script", .ref sc)] keep X T Ld (by k_is) (by k_is) (by (show dp < recursionLimit); k_extra "rm") (BindsTo.of_eq rfl) (by rfl) (by decide) ?_ rfl rfl rfl
  clear X T
  intro g L h tk0 cells X T kg kb F N CA hlt hgL
  (try (replace hlt := allLt_of hlt; simp only [AllLt, and_true] at hlt))
  dsimp only
  have hsg : g.IsList sc vs.toArray := hsc.at fun o e => kg sc o (by simpa using hne) e
  have C9 : CodeHd g 351 349 := hC.keeps kb
  k_extra "g1"
  obtain ⟨oc, rfl, hoc⟩ := CellsAre.one CA
  k_extra "g2"
  replace hoc : oc.data = .cell none := hoc
  simp only [List.cons_append, List.nil_append] at N
  clear CA
  have hB := bel_two0 hlt
  have hvl : ns.length ≤ 63 := hi.length ▸ hlen
  refine wpN_execs_cons (wpN_of_any ?_)
  k_extra "WC"
  rename Fr _ _ _ _ => F9
  rename News _ _ _ _ => N9
  rename Bel _ _ => B9
  rename IntsAre _ (List.take 40 ns) => I9
  obtain ⟨N8, B8⟩ := norm0 N9 B9
  rw [lk_log (sc := sc) (fun y => ?_)] at F9
  · rename (Obj.data _ = Data.cell (some _)) => hoc9
    have hle9 := I9.length
    exact law_1 X T (by lia) (by lia) C9 hoc9 I9 (by lia) (by assumption) (by lia) F9 N8 B8 fun h' tk' ps k1 k2 => hQ h' tk' ps (fun b o hb e => k1 b o (kg b o (by simpa using hb) e)) k2
  · exact congrFun (lk_cons (Str.ofString "script") (.ref sc) []) y
end
end
noncomputable section
theorem kw_111 : True := by
  k_with_none
  k_with "g1" => refine by_goal fun zG zh => ?_
  k_with "g2" => (refine zh ?_; clear zh zG)
  trivial
theorem law_end {w : World} {s₁ : Shared} {p : Program} {loose : List Str} {mean : ExcName → Option Value} {mg mb : Str → Option Value} {fa sc : Addr} {vs : List Value} {ns : List Int} (cl : Str → Option Addr) (mean2 : ExcName → Option Value) (args : List WData)
   (KX : (mkK.heap_1 w.params).In s₁.heap) (hT8 : s₁.heap.get? 349 = some (tabObj #[])) (T : Top p loose mean mg mb s₁.heap) (hmg : mg (Str.ofString "law") = some (.ref fa)) (hg : s₁.gens = #[]) (hL : s₁.heap.IsList sc vs.toArray) (hI : IntsAre vs ns) (hlen : ns.length ≤ 63) :
   wpN (model Challenge.pw_pf0272_01 w) callerA (call (.ref fa) [.ref sc]) (fun v s' => GoodWG Challenge.rw_pf0272_01.row.claim cl mean2 args s₁ (.ok (.ret v)) s') (fun _ _ => False) s₁ := by
  have _h : Challenge.rw_pf0272_01 = Challenge.rw_pf0272_01 ∧ mkK.heap_1 = mkK.heap_1 := by
    k_fill
    exact ⟨rfl, rfl⟩
  clear _h
  have hfa : fa = 357 := by
    have e := mg_of KX T.g (n := Str.ofString "law") (v := .ref 357) (by kernel_rfl)
    rw [hmg] at e
    have e2 := Option.some.inj e
    injection e2
  subst hfa
  have hC : CodeHd s₁.heap 351 349 := codeHd_of_K KX (by kernel_rfl)
  have hT : TabsAt [(351, 349)] s₁.heap := fun q hq => by
    rw [List.mem_singleton.mp hq]; exact ⟨hC, hT8⟩
  have X' := ghost_K hT KX (by kernel_rfl)
  have T' := ghost_top hT T
  have hC' : CodeHd (ghostOf s₁.heap [(351, 349)]) 351 349 := codeHd_of_K X' (by kernel_rfl)
  have hsn : @Ne Nat sc 349 := by
    intro e
    k_extra "g1"
    obtain ⟨o, e2, hc, -⟩ := hL
    k_extra "g2"
    rw [e, hT8] at e2
    cases e2; cases hc
  have hvl := hI.length
  refine law_N (h₀ := ghostOf s₁.heap [(351, 349)]) (dp := 1 + claimMargin) (un := 4) (fr := some []) (gd := some []) (fun b o e => of_hideAll _ e) X' T' (by decide) (by decide) hC' (fun q hq => ?_) hL hsn hI (by lia) fun h' tk' ps kp gpt => ?_
  · rw [List.mem_singleton.mp hq]
    exact ⟨hT8, hideAll_none _ (.head _)⟩
  · refine ⟨.inl ⟨.bool true, .bool true, [], rfl, fun _ => rfl, .bool true, (by kernel_rfl), fun _ => ⟨List.nodup_nil, fun a ha => nomatch ha⟩⟩, ⟨fun b o e => ?_, fun b o e => ?_⟩, rfl, .of_eq hg⟩
    · by_cases hb : b = 349
      · subst hb
        rw [hT8] at e
        cases e
        exact .inr (.inl ⟨(hC.tab hT8).isCodeTable, rfl, #[], ps, rfl, by rw [Array.empty_append]; exact gpt⟩)
      · exact .inl (kp b o hb e)
    · by_cases hb : b = 349
      · subst hb; exact ⟨_, gpt⟩
      · exact ⟨_, kp b o hb e⟩
end
end Mine.Internal
end
namespace Mine.Internal
theorem top : PySem.Challenge.rw_pf0272_01.Holds := top_of fun cl mean2 args KX hT8 T hmg hg hL hI hlen => law_end cl mean2 args KX hT8 T hmg hg hL hI hlen
end Mine.Internal
theorem PySem.Challenge.cw_pf0272_01_holds : PySem.Challenge.rw_pf0272_01.Holds := by
  exact Mine.Internal.top

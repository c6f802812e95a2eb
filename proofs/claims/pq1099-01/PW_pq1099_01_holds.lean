import PyProof.Rows.All
import Wide.All
import OpenK.AllK
import Wide.FinOn
import Lean
import PySem.Challenge.RW_pq1099_01
set_option Elab.async false
set_option linter.all false
set_option autoImplicit false
set_option tactic.hygienic false
set_option maxRecDepth 100000
set_option genSizeOf false
set_option genInjectivity false
set_option bootstrap.genMatcherCode false
set_option compiler.extract_closed false
open PySem PySem.W PyProof.Rows PySem.Calls
open Str renaming ofString → Z
open Nat renaming le_of_ble_eq_true → nb
namespace Mine
section
variable {A B G : Prop}
theorem oa2 (h : A ∧ B) (k : A → B → G) : G := k h.1 h.2
theorem oa3 {A B C : Prop} (h : A ∧ B ∧ C) (k : A → B → C → G) : G := k h.1 h.2.1 h.2.2
theorem oa4 {A B C D : Prop} (h : A ∧ B ∧ C ∧ D) (k : A → B → C → D → G) : G := k h.1 h.2.1 h.2.2.1 h.2.2.2
theorem oa5 {A B C D E : Prop} (h : A ∧ B ∧ C ∧ D ∧ E) (k : A → B → C → D → E → G) : G := k h.1 h.2.1 h.2.2.1 h.2.2.2.1 h.2.2.2.2
theorem oa6 {A B C D E F : Prop} (h : A ∧ B ∧ C ∧ D ∧ E ∧ F) (k : A → B → C → D → E → F → G) : G := k h.1 h.2.1 h.2.2.1 h.2.2.2.1 h.2.2.2.2.1 h.2.2.2.2.2
theorem oe1 {α : Sort _} {A : α → Prop} (h : ∃ x, A x) (k : ∀ x, A x → G) : G := h.elim fun x h => k x h
theorem Af {α : Sort _} {A B : α → Prop} (h : ∃ x, A x ∧ B x) (k : ∀ x, A x → B x → G) : G := h.elim fun x h => k x h.1 h.2
theorem C8 {α : Sort _} {A B C : α → Prop} (h : ∃ x, A x ∧ B x ∧ C x) (k : ∀ x, A x → B x → C x → G) : G := h.elim fun x h => k x h.1 h.2.1 h.2.2
theorem Sw {α : Sort _} {A B C D : α → Prop} (h : ∃ x, A x ∧ B x ∧ C x ∧ D x) (k : ∀ x, A x → B x → C x → D x → G) : G := h.elim fun x h => k x h.1 h.2.1 h.2.2.1 h.2.2.2
theorem oe2 {α : Sort _} {β : Sort _} {A : α → β → Prop} (h : ∃ x y, A x y) (k : ∀ x y, A x y → G) : G := h.elim fun x h => h.elim fun y h => k x y h
theorem Bu {α : Sort _} {β : Sort _} {A B : α → β → Prop} (h : ∃ x y, A x y ∧ B x y) (k : ∀ x y, A x y → B x y → G) : G := h.elim fun x h => h.elim fun y h => k x y h.1 h.2
theorem D0 {α : Sort _} {β : Sort _} {A B C : α → β → Prop} (h : ∃ x y, A x y ∧ B x y ∧ C x y) (k : ∀ x y, A x y → B x y → C x y → G) : G := h.elim fun x h => h.elim fun y h => k x y h.1 h.2.1 h.2.2
theorem Cy {α : Sort _} {β : Sort _} {A B C D : α → β → Prop} (h : ∃ x y, A x y ∧ B x y ∧ C x y ∧ D x y) (k : ∀ x y, A x y → B x y → C x y → D x y → G) : G := h.elim fun x h => h.elim fun y h => k x y h.1 h.2.1 h.2.2.1 h.2.2.2
theorem oe3 {α : Sort _} {β : Sort _} {γ : Sort _} {A : α → β → γ → Prop} (h : ∃ x y z, A x y z) (k : ∀ x y z, A x y z → G) : G := h.elim fun x h => h.elim fun y h => h.elim fun z h => k x y z h
theorem By {α : Sort _} {β : Sort _} {γ : Sort _} {A B : α → β → γ → Prop} (h : ∃ x y z, A x y z ∧ B x y z) (k : ∀ x y z, A x y z → B x y z → G) : G := h.elim fun x h => h.elim fun y h => h.elim fun z h => k x y z h.1 h.2
theorem GK {α : Sort _} {β : Sort _} {γ : Sort _} {A B C : α → β → γ → Prop} (h : ∃ x y z, A x y z ∧ B x y z ∧ C x y z) (k : ∀ x y z, A x y z → B x y z → C x y z → G) : G := h.elim fun x h => h.elim fun y h => h.elim fun z h => k x y z h.1 h.2.1 h.2.2
theorem Nk {α : Sort _} {β : Sort _} {γ : Sort _} {A B C D : α → β → γ → Prop} (h : ∃ x y z, A x y z ∧ B x y z ∧ C x y z ∧ D x y z) (k : ∀ x y z, A x y z → B x y z → C x y z → D x y z → G) : G := h.elim fun x h => h.elim fun y h => h.elim fun z h => k x y z h.1 h.2.1 h.2.2.1 h.2.2.2
theorem Jj {α : Sort _} {β : Sort _} {γ : Sort _} {A B C D E F : α → β → γ → Prop} (h : ∃ x y z, A x y z ∧ B x y z ∧ C x y z ∧ D x y z ∧ E x y z ∧ F x y z) (k : ∀ x y z, A x y z → B x y z → C x y z → D x y z → E x y z → F x y z → G) : G := h.elim fun x h => h.elim fun y h => h.elim fun z h => k x y z h.1 h.2.1 h.2.2.1 h.2.2.2.1 h.2.2.2.2.1 h.2.2.2.2.2
theorem oe4 {α : Sort _} {β : Sort _} {γ : Sort _} {δ : Sort _} {A : α → β → γ → δ → Prop} (h : ∃ x y z w, A x y z w) (k : ∀ x y z w, A x y z w → G) : G := h.elim fun x h => h.elim fun y h => h.elim fun z h => h.elim fun w h => k x y z w h
theorem CZ {α : Sort _} {β : Sort _} {γ : Sort _} {δ : Sort _} {A B : α → β → γ → δ → Prop} (h : ∃ x y z w, A x y z w ∧ B x y z w) (k : ∀ x y z w, A x y z w → B x y z w → G) : G := h.elim fun x h => h.elim fun y h => h.elim fun z h => h.elim fun w h => k x y z w h.1 h.2
theorem Ra {α : Sort _} {β : Sort _} {γ : Sort _} {δ : Sort _} {A B C : α → β → γ → δ → Prop} (h : ∃ x y z w, A x y z w ∧ B x y z w ∧ C x y z w) (k : ∀ x y z w, A x y z w → B x y z w → C x y z w → G) : G := h.elim fun x h => h.elim fun y h => h.elim fun z h => h.elim fun w h => k x y z w h.1 h.2.1 h.2.2
theorem GJ {α : Sort _} {β : Sort _} {γ : Sort _} {δ : Sort _} {A B C D : α → β → γ → δ → Prop} (h : ∃ x y z w, A x y z w ∧ B x y z w ∧ C x y z w ∧ D x y z w) (k : ∀ x y z w, A x y z w → B x y z w → C x y z w → D x y z w → G) : G := h.elim fun x h => h.elim fun y h => h.elim fun z h => h.elim fun w h => k x y z w h.1 h.2.1 h.2.2.1 h.2.2.2
theorem Pq {α : Sort _} {β : Sort _} {γ : Sort _} {δ : Sort _} {A B C D E F : α → β → γ → δ → Prop} (h : ∃ x y z w, A x y z w ∧ B x y z w ∧ C x y z w ∧ D x y z w ∧ E x y z w ∧ F x y z w) (k : ∀ x y z w, A x y z w → B x y z w → C x y z w → D x y z w → E x y z w → F x y z w → G) : G := h.elim fun x h => h.elim fun y h => h.elim fun z h => h.elim fun w h => k x y z w h.1 h.2.1 h.2.2.1 h.2.2.2.1 h.2.2.2.2.1 h.2.2.2.2.2
theorem oo3 {A B C G : Prop} (h : A ∨ B ∨ C) (a : A → G) (b : B → G) (c : C → G) : G := h.elim a fun h => h.elim b c
theorem oo4 {A B C D G : Prop} (h : A ∨ B ∨ C ∨ D) (a : A → G) (b : B → G) (c : C → G) (d : D → G) : G := h.elim a fun h => h.elim b fun h => h.elim c d
theorem oo5 {A B C D E G : Prop} (h : A ∨ B ∨ C ∨ D ∨ E) (a : A → G) (b : B → G) (c : C → G) (d : D → G) (e : E → G) : G := h.elim a fun h => h.elim b fun h => h.elim c fun h => h.elim d e
end
section
section
variable {c : Code} {Γ : Ctx} {tree : List Value → Sem Fin} {N : Nat} {q : Program} {R : Result → Shared → Prop} {t : Sem Fin} {Xt : Shared → Bool} {Q : Unit → Shared → Prop} {w : World} {YP : World → Heap → Prop}
open PySem.Sem (wp)
noncomputable def QL (self : Value) (x : Code × Pos) : Option Bool := match Builtin.Bytes.exported self with
 | .stack k => (match k [x] with
  | .pure b => some b
  | _ => none)
 | _ => none
def C9 (c : Code) : Prop := ∀ self p, QL self (c, p) = some false
theorem Po {id : String} (h0 : ∀ self p kw, QL self (.builtin id ⟨[], kw⟩, p) = some false) (h1 : ∀ self p kw v r, QL self (.builtin id ⟨v :: r, kw⟩, p) = some ((Builtin.Bytes.sameRef v self && Builtin.Bytes.decodersThatHold.contains id) || false))
  (e : Builtin.Bytes.decodersThatHold.contains id = false) (a : Args) : C9 (.builtin id a) := fun self p => by
 cases a with | mk pos kw => cases pos with
 | nil => exact h0 self p kw
 | cons v r => rw [h1, e, Bool.and_false]; rfl
def LK (Γ : Ctx) : Prop := C9 Γ.code ∧ ∀ x ∈ Γ.below, C9 x.1
def Kv (Γ : Ctx) : Prop := ∀ x ∈ Γ.below, C9 x.1
def wpN {α : Type} (M : Model) (A : Around) (t : Sem α) (Q : α → Shared → Prop) (E : Value → Shared → Prop) (s : Shared) : Prop :=
 ∀ Γ p, Γ.In A → LK Γ → wp M Γ t (fun a ω s' => Q a s') (fun e ω s' => E e s') p s
def Bk (M : Model) (A : Around) (c : Code) (R : Result → Shared → Prop) (s : Shared) : Prop :=
 ∀ Γ p, Γ.code = c → Γ.Below A → Kv Γ → wpCode M Γ R p s
section
variable {α β : Type} {M : Model} {A : Around} {E : Value → Shared → Prop} {s : Shared}
theorem A3 {t : Sem α} {Q : α → Shared → Prop} (h : wpAny M A t Q E s) : wpN M A t Q E s := fun Γ p hΓ ω => h Γ p hΓ
theorem AJ {t : Sem α} {Q Q' : α → Shared → Prop} {E' : Value → Shared → Prop} (h : wpN M A t Q E s)
  (hQ : ∀ a s, Q a s → Q' a s) (hE : ∀ e s, E e s → E' e s) : wpN M A t Q' E' s :=
 fun Γ p hΓ hc => Sem.wp_mono M Γ t (fun a ω s => hQ a s) (fun e ω s => hE e s) p s (h Γ p hΓ hc)
theorem A5 {a : α} {Q : α → Shared → Prop} (h : Q a s) : wpN M A (pure a) Q E s := fun ω ω ω ω => h
theorem A0 {m : Sem α} {f : α → Sem β} {Q : β → Shared → Prop} (h : wpN M A m (fun a s' => wpN M A (f a) Q E s') E s) :
  wpN M A (m >>= f) Q E s := fun Γ p hΓ hc => by
 rw [Sem.wp_bind']
 exact Sem.wp_mono M Γ m (fun a p' s' h' => h' Γ p' hΓ hc) (fun ω ω ω h' => h') p s (h Γ p hΓ hc)
theorem Kx {m : Sem α} {k : Value → Sem Unit} {Q : α → Shared → Prop}
  (h : wpN M A m Q (fun e s' => wpN M A (k e) (fun ω s'' => E e s'') E s') s) : wpN M A (m.onRaise k) Q E s := fun Γ p hΓ hc => by
 rw [Sem.wp_onRaise]
 exact Sem.wp_mono M Γ m (fun ω ω ω h' => h') (fun e p' s' h' => h' Γ p' hΓ hc) p s (h Γ p hΓ hc)
theorem Ky {m : Sem α} {Q : Except Value α → Shared → Prop} (h : wpN M A m (fun a => Q (.ok a)) (fun e => Q (.error e)) s) :
  wpN M A m.attempt Q E s := fun Γ p hΓ hc => by rw [Sem.wp_attempt]; exact h Γ p hΓ hc
theorem A9 {vs : List Value} {m : Sem α} {Q : α → Shared → Prop} (h : wpN M A m Q E s) : wpN M A (holding vs m) Q E s :=
 fun Γ p hΓ hc => by rw [Sem.wp_holding]; exact h Γ p hΓ hc
theorem OQ {vs : List Value} {m : Sem α} {Q : α → Shared → Prop} (h : wpN M A m Q E s) : wpN M A (m.keep vs) Q E s :=
 fun Γ p hΓ hc => by rw [Sem.wp_keep]; exact h Γ p hΓ hc
theorem Aa {pos : Pos} (h : Q () s) : wpN M A (standAt pos) Q E s := fun ω ω ω ω => h
theorem Df {tag : String} (h : Q () s) : wpN M A (rule tag) Q E s := fun ω ω ω ω => h
theorem J8 (h : Q () s) : wpN M A point Q E s := fun ω ω ω ω => h
theorem DU {vs keep : List Value} (h : Q () s) : wpN M A (release vs keep) Q E s := fun Γ p ω ω => by rw [Sem.wp_release]; exact h
theorem BL {vs : List Value} {m : Sem Value} {Q : Value → Shared → Prop} (h : wpN M A m Q E s) : wpN M A (operate vs m) Q E s :=
 fun Γ p hΓ hc => by rw [Sem.wp_operate]; exact h Γ p hΓ hc
theorem LK.enter (h : LK Γ) (c : Code) (hd : Option Value) (p : Pos) : Kv (Γ.enter c hd p) := by
 intro x hx
 rcases List.mem_cons.mp hx with rfl | hx
 ·exact h.1
 ·exact h.2 x hx
theorem Kv.clean (h : Kv Γ) (hc : C9 Γ.code) : LK Γ := ⟨hc, h⟩
theorem N9 {h : Option Value} {Q : Flow → Shared → Prop}
  (hc : Bk M (A.mark h) c (fun r s' => match r with | .ok f => Q f s' | .error e => E e s') s) (hnb : h ≠ some byPass := by intro x; cases x) :
  wpN M A (run c h) Q E s :=
 fun Γ p hΓ hcl => by rw [Sem.wp_run]; exact hc _ p rfl (hΓ.enter c h p hnb) (hcl.enter c h p)
theorem JE {Q : Value → Shared → Prop}
  (hc : Bk M A c (fun r s' => match r with | .ok (.ret v) => Q v s' | .ok _ => False | .error e => E e s') s) :
  wpN M A (runValue c) Q E s := fun Γ p hΓ hcl => by rw [Sem.wp_runValue]; exact hc _ p rfl (hΓ.enter c none p (by intro x; cases x)) (hcl.enter c none p)
theorem DW {f : Value} {pos : List Value} {kw : List (Str × Value)} {Q : Value → Shared → Prop}
  (hc : Bk M A (.call f ⟨pos, kw⟩) (fun r s' => match r with | .ok (.ret v) => Q v s' | .ok _ => False | .error e => E e s') s) :
  wpN M A (call f pos kw) Q E s := JE hc
theorem DD {R R' : Result → Shared → Prop} (h : Bk M A c R s) (hR : ∀ r s, R r s → R' r s) : Bk M A c R' s :=
 fun Γ p hc hΓ hcl => wpCode_mono hR (h Γ p hc hΓ hcl)
theorem At (ok : C9 c)
  (h : wpN M (A.under c) (M.den c) (fun fin s' => match fin with | .done f => R (.ok f) s' | .again c' => c'.quiet = true ∧ Bk M A c' R s')
   (fun e s' => R (.error e) s') s) : Bk M A c R s := fun Γ p hc hΓ hcl => by
 rw [wpCode_iff_wp, hc]
 refine Sem.wp_mono M Γ _ (fun fin p' s' h' => ?_) (fun ω ω ω h' => h') p s (h Γ p (hc ▸ hΓ.in) (hcl.clean (hc ▸ ok)))
 cases fin with
 | done f => exact h'
 | again c' => exact ⟨h'.1, h'.2 (Γ.goto c') p' rfl (hΓ.goto c') hcl⟩
end
noncomputable abbrev Γ₀ : Ctx := ⟨.builtin "claim.caller" {}, none, none, [], none⟩
theorem S2 : LK Γ₀ := ⟨fun ω ω => by kernel_rfl, fun ω h => by cases h⟩
theorem Hq {M : Model} {s : Shared}
  (h : wpN M callerA t (fun fin s' => ∃ f, fin = .done f ∧ R (.ok f) s') (fun e s' => R (.error e) s') s) (p : Pos) :
  wp M Γ₀ t (Sem.finPost M Γ₀ R) (fun e ω s' => R (.error e) s') p s := by
 refine Sem.wp_mono M Γ₀ t (fun fin p' s' h' => ?_) (fun ω ω ω h' => h') p s (h Γ₀ p caller_in S2)
 (refine Af h' fun f zq1 hf => ?_; clear h'; subst zq1)
 exact hf
theorem Iy {prog : Program} {s : Shared} (hreg : s.asleep)
  (h : wpN (model prog w) callerA t (fun fin s' => ∃ f, fin = .done f ∧ (R (.ok f) s' ∧ leftWithCleanup s'.gens = false)) (fun e s' => R (.error e) s' ∧ leftWithCleanup s'.gens = false) s) :
  ∃ n r s' s'', runN (denote table) prog w n s ⟨t, .builtin "claim.caller" {}, default, []⟩ = .halted (outcomeOf r) s' ∧
   schedN (denote table) prog w n (.single s ⟨t, .builtin "claim.caller" {}, default, []⟩) = .halted (outcomeOf r) s' ∧ s'.forget = s''.forget ∧ R r s'' := by
 refine GJ (wp_halts_full (M := model prog w) (R := R) hreg (Hq (R := fun r s' => R r s' ∧ leftWithCleanup s'.gens = false) h default)) fun n r s₁ s₂ hs hn hfo hR => ?_
 exact ⟨n, r, s₂, s₁, hn, hs, hfo, hR⟩
theorem F8 {c : ClaimW} {s : Shared} {free : Addr → Prop} {gens : Prop} {kept : Heap → Prop} (hz : s.asleep) (hgens : s.gens = #[])
  (hspec : ∀ args, c.pre args = true → WData.layableAll args = true →
   ∀ ord : List DictEntry → List DictEntry, (∀ l, (ord l).Perm l) →
   ∃ vs s₁, layAllW c.records (classAt s.heap) w.params ord args s = some (vs, s₁) ∧
    wpN (model c.prog w) callerA (tree vs) (fun fin s' => ∃ f, fin = .done f ∧ (c.Ends s args vs s₁ (.ok f) s' ∧ s'.os = s.os ∧ AllBare s'.gens ∧ kept s'.heap))
     (fun e s' => c.Ends s args vs s₁ (.error e) s' ∧ s'.os = s.os ∧ AllBare s'.gens ∧ kept s'.heap) s₁) :
  c.CallFrom (fun vs => ⟨tree vs, .builtin "claim.caller" {}, default, []⟩) w free gens kept s := by
 intro args hpre hlay ord hord
 refine Bu (hspec args hpre hlay ord hord) fun vs s₁ hlaid hcode => ?_
 have hal := layAllW_rest _ _ _ hlaid
 obtain ⟨k, r, s', s'', hrun, hsched, hfo, hcase, hos, hkp⟩ := Iy (prog := c.prog) (w := w) (t := tree vs) (s := s₁)
  (R := fun r s' => c.Ends s args vs s₁ r s' ∧ s'.os = s.os ∧ kept s'.heap)
  (Shared.asleep_of_life hal.2.2.2 hz)
  (AJ hcode (by
   rintro fin s' ⟨f, e, h1, h2, h3, h4⟩
   exact ⟨f, e, ⟨h1, h2, h4⟩, leftWithCleanup_false_of_bare h3⟩) (by
   rintro e s' ⟨h1, h2, h3, h4⟩
   exact ⟨⟨h1, h2, h4⟩, leftWithCleanup_false_of_bare h3⟩))
 refine oa5 (Shared.forget_eq hfo) fun eh ω ω eo ω => ?_
 have hcase := hcase.congr eh
 have hkp : kept s'.heap := by first | exact eh ▸ hkp | (rw [eh] at hkp; exact hkp) | (rw [← eh] at hkp; exact hkp)
 rw [← eo] at hos
 have hlife : s'.heap.life = s.heap.life := (runN_life _ _ _ hrun).trans hal.2.2.2
 refine ⟨vs, s₁, hlaid, k, _, s', hsched, ?_, (fun ω i x hx => by rw [hgens] at hx; simp at hx), hkp, by rw [hlife], Shared.rest_eq hos⟩
 exact hcase.imp (fun h => h.elim fun v h => ⟨v, congrArg outcomeOf h.1, h.2.1, h.2.2.1, h.2.2.2.1, fun b o y ω => h.2.2.2.2.1 b o y, h.2.2.2.2.2⟩)
  fun h => h.elim fun e h => h.elim fun ob h => h.elim fun cls h => ⟨e, ob, cls, congrArg outcomeOf h.1, h.2.1, h.2.2.1, h.2.2.2.1, h.2.2.2.2.1, fun b o y ω => h.2.2.2.2.2 b o y⟩
theorem Ms {r : RowW} {run : Value → List Value → Sem Value} {loose defs kps : List Str} {writes : Bool} {XP : (Str → Option Value) → Heap → Prop} {α : Type} {Yf : Shared → α} {Ya : World → α} 
  (left : LeftO r.prog q loose Xt Yf Ya N) (hY : ∀ w s, Yf s = Ya w → YP w s.heap) (hYk : ∀ w h h', YP w h → (∀ b o, h.get? b = some o → h'.get? b = some o) → YP w h') (hX : ∀ s, Xt s = true → XP (s.heap.nsMap mainGlobals) s.heap) (hXk : ∀ mg h h', XP mg h → (∀ b o, h.get? b = some o → h'.get? b = some o) → XP mg h')
  (hRf : ∀ s, Xt s = true → RecFacts r.records s.heap) (hwr : (!writes || r.records.isEmpty) = true) (ok : (chainsOk q && opensWell r.prog && (frees r && r.within.isEmpty)) = true) (hb : r.prog.bare) (hw : r.promised)
  (ht : ∀ vs (w : World) (s : Shared) mg f (Q : Fin → Shared → Prop) (E : Value → Shared → Prop), s.heap.Ns mainGlobals mg → mg r.name = some f → wpN (model r.prog w) callerA (run f vs) (fun v s' => Q (.done (.ret v)) s') E s → wpN (model r.prog w) callerA (tree vs) Q E s)
  (pin : ∀ w s, s.heap.isNs mainGlobals = true → Ground q loose [] XP w s (s.heap.nsMap mainGlobals) (s.heap.nsMap builtinsNs) s.heap → ∀ n ∈ defs, isTheDefsW r.prog s.heap n)
  (call : ∀ (w : World) (s₀ s₁ : Shared) (mg mb : Str → Option Value), Ground q loose r.records XP w s₀ mg mb s₁.heap → YP w s₁.heap → ∀ (args : List WData) (vs : List Value) (as : List Addr),
   r.claim.pre args = true → WData.layableAll args = true → Laid r.records w s₀ s₁ args vs as → sysModules < s₀.heap.objs.size → ∃ f, mg r.name = some f ∧
    wpN (model r.prog w) callerA (run f vs) (fun v s' => GoodWG r.claim (classAt s₀.heap) (ExcName.means s₀.heap) args s₁ (.ok (.ret v)) s')
     (fun e s' => GoodWG r.claim (classAt s₀.heap) (ExcName.means s₀.heap) args s₁ (.error e) s') s₁) : r.claim.HoldsOpenBy (fun vs => ⟨tree vs, .builtin "claim.caller" {}, default, []⟩) defs kps writes := by
 refine oa2 (Bool.and_eq_true_iff.mp ok) fun ok k5 => ?_
 refine oa2 (Bool.and_eq_true_iff.mp ok) fun hch o1 => ?_
 refine oa2 (Bool.and_eq_true_iff.mp k5) fun k5 k6 => ?_
 refine oa5 (frees_parts k5) fun hsame hu ha hap hm => ?_
 refine ⟨⟨hb, o1, by show r.makers.map _ = []; rw [hm]; rfl⟩, hw.witness, fun w => ⟨(left.behind hX hch w).1, fun s' hs' => ?_⟩⟩
 obtain ⟨s₀, hf, hg0, s, hT, hz, hgens, hg, G00, y⟩ := (left.behind (XP := fun mg h => XP mg h ∧ RecFacts r.records h) (fun s hs => ⟨hX s hs, hRf s hs⟩) hch w).2 s' hs'
 have G0 : Ground q loose [] XP w s (s.heap.nsMap mainGlobals) (s.heap.nsMap builtinsNs) s.heap := ⟨G00.T, G00.B, G00.D, G00.TE, G00.TD, G00.W, G00.X.1, G00.cls, G00.has, G00.apart, G00.once, G00.K⟩
 have RF := G00.X.2
 have hT' := hT
 refine ⟨s₀, hf, hg0, s, hT, pin w s hg G0, RF.1, RF.2.1, ?_⟩
 have hgens : s.gens = #[] := Array.eq_empty_of_size_eq_zero (beq_iff_eq.mp hgens)
 have G : Ground q loose r.records XP w s _ _ s.heap := RF.ground G0
 refine F8 (c := r.claim) hz hgens fun args hpre hlay ord hord => ?_
 obtain ⟨⟨vs, s₁⟩, hlaid⟩ := Option.isSome_iff_exists.mp (layAllW_isSome (P := w.params) (ord := ord) G.has args r.args s (pre_splitW hpre).1)
 have keeps := layAllW_keeps _ _ _ hlaid
 have hal := layAllW_rest _ _ _ hlaid
 refine C8 (reads_layAllW hord _ _ _ hlaid hlay s₁.heap (fun ω ω e => e)) fun as hrd hin hold => ?_
 have L : Laid r.records w s s₁ args vs as := ⟨⟨ord, hord, hlaid⟩, hrd, hin, hold, keeps, hal.1.trans hgens, hal.2.2.1⟩
 have G₁ := G.keeps hXk keeps
 refine Af (call w s s₁ _ _ G₁ (hYk _ _ _ (hY w s y) keeps) args vs as hpre hlay L G.low) fun f hf h => ?_
 have hi := ident_freeW hu ha hap
 have hwi : r.claim.within = [] := List.isEmpty_iff.mp k6
 exact ⟨vs, s₁, hlaid, ht vs w s₁ _ f _ _ G₁.T.g hf (AJ h (fun v s' g => ⟨_, rfl, have z := g.laid (c := r.claim) hsame hwi hi L; ⟨z.1, z.2.1, z.2.2, fun q => ⟨namesKept_of hT' hg kps keeps g.2.1.old, noTable hwr q⟩⟩⟩) fun e s' g => have z := g.laid (c := r.claim) hsame hwi hi L; ⟨z.1, z.2.1, z.2.2, fun q => ⟨namesKept_of hT' hg kps keeps g.2.1.old, noTable hwr q⟩⟩)⟩
abbrev Rm (q : Program) (loose : List Str) (XP : (Str → Option Value) → Heap → Prop) (YP : World → Heap → Prop) (r : RowW) (d : DefRec) (kwd : List (Str × Expr)) (run : Value → List Value → Sem Value) : Prop :=
 ∀ (w : World) (s₀ s₁ : Shared) (mg mb : Str → Option Value), Ground q loose r.records XP w s₀ mg mb s₁.heap → YP w s₁.heap → ∀ (a : Addr) (o : Obj) (pm cd doc dV kV : Value), s₁.heap.get? a = some o →
  o.data = .func { docDef d.name d.params d.body d.scope pm cd doc with defaults := dV, kwdefaults := kV } → s₁.heap.CodeRec cd d.name → Dflts mg s₁.heap d.params kwd dV kV → mg d.name = some (.ref a) → s₁.gens = #[] →
  ∀ (args : List WData) (vals : List Value) (as : List Addr), r.claim.pre args = true → WData.layableAll args = true → ReadsAllW r.records (classAt s₀.heap) s₁.heap vals args as → WellAll w.params s₁.heap vals args → (∀ a ∈ as, (a == sysModules) = false) →
   wpN (model r.prog w) callerA (run (.ref a) vals) (fun v s' => GoodWG r.claim (classAt s₀.heap) (ExcName.means s₀.heap) args s₁ (.ok (.ret v)) s')
    (fun e s' => GoodWG r.claim (classAt s₀.heap) (ExcName.means s₀.heap) args s₁ (.error e) s') s₁
theorem Ls {r : OpenRow} {loose : List Str} {XP : (Str → Option Value) → Heap → Prop} {α : Type} {Yf : Shared → α} {Ya : World → α} {d : DefRec} {kwd : List (Str × Expr)} 
  (left : LeftO r.prog q loose Xt Yf Ya N) (hY : ∀ w s, Yf s = Ya w → YP w s.heap) (hYk : ∀ w h h', YP w h → (∀ b o, h.get? b = some o → h'.get? b = some o) → YP w h')
  (hX : ∀ s, Xt s = true → XP (s.heap.nsMap mainGlobals) s.heap) (hXk : ∀ mg h h', XP mg h → (∀ b o, h.get? b = some o → h'.get? b = some o) → XP mg h')
  (hdef : defOf q r.name = some (d, kwd)) (hp : r.prog.theDef r.name = some (d.params, d.body, d.scope)) (hk : kwWritten? d.params.kwonlyargs d.params.kw_defaults = some kwd) (hRf : ∀ s, Xt s = true → RecFacts r.records s.heap) (hwr : (!r.writes || r.records.isEmpty) = true)
  (k1 : r.wellSaid = true) (ok : (chainsOk q && opensWell r.prog && (frees r.toRowW && r.within.isEmpty)) = true) (hb : r.prog.bare) (hw : r.toRowW.promised)
  (call : Rm q loose XP YP r.toRowW d kwd fun f vs => PySem.call f vs) : r.Holds := by
 refine ⟨k1, hw, Ms (r := r.toRowW) (run := fun f vs => PySem.call f vs) (tree := fun vs => do match ← nsGet mainNs r.name with
   | some f => do ret (← PySem.call f vs)
   | none => unsupported "claim.caller:no-such-global") left hY hYk hX hXk hRf hwr ok hb hw
  (fun vs w s mg f Q E hg hf h => A0 (A3 (wpAny_nsGet hg (by rw [hf]; exact A0 (AJ h (fun ω ω x => A5 x) fun ω ω x => x)))))
  (fun w s hg G n hn => ?_) fun w s₀ s₁ mg mb G Y args vs as hpre hlay L low => ?_⟩
 ·obtain rfl : n = r.name := by split at hn <;> simp_all
  exact pinned_of_view hg G hdef hp hk
 ·obtain ⟨a, o, pm, cd, doc, dV, kV, h1, h2, h3, h4, h5⟩ := G.fn hdef
  exact ⟨.ref a, h1, call w s₀ s₁ mg mb G Y a o pm cd doc dV kV h2 h3 h4 h5 (defOf_name hdef ▸ h1) L.gens args vs as hpre hlay L.reads L.well (L.low low)⟩
end
end
noncomputable def fns : List Str := [(Z "WallFault"), (Z "number_of"), (Z "octets_of"), (Z "folded"), (Z "mend"), (Z "look4"), (Z "head_size"), (Z "size_at"), (Z "place_at"), (Z "look6"), (Z "new_meta"), (Z "Packet"), (Z "look"), (Z "packet_of"), (Z "family_of"), (Z "base_of"), (Z "part"), (Z "put_part"), (Z "sum_place"), (Z "common"), (Z "sums_met"), (Z "pairs_of"), (Z "mend_at"), (Z "set_octets"), (Z "address_at"), (Z "target_of"), (Z "error_kinds"), (Z "Talk"), (Z "TalkBook"), (Z "is_icmp"), (Z "is_error"), (Z "answer_kind"), (Z "ports_at"), (Z "tuple_at"), (Z "tuple_of"), (Z "inner_tuple"), (Z "invert"), (Z "side_of"), (Z "drop_talk"), (Z "look_up"), (Z "talk_of_error"), (Z "is_error_packet"), (Z "error_talk"), (Z "put_there"), (Z "port_place"), (Z "rewrite"), (Z "bit_for"), (Z "inner_rewritten"), (Z "rewrite_inner"), (Z "translate"), (Z "Scene"), (Z "_law_digit"), (Z "_law_octets"), (Z "_law_check"), (Z "_law_summed"), (Z "_law_pseudo"), (Z "_law_packet"), (Z "_law_whole"), (Z "_law_error"), (Z "_law_answer"), (Z "_law_taken"), (Z "_law_is_done"), (Z "_law_talk"), (Z "_law_holds"), (Z "law")]
noncomputable def attrs : List Str := [(Z "why"), (Z "at"), (Z "data"), (Z "link"), (Z "kind"), (Z "l4"), (Z "off"), (Z "place"), (Z "meta"), (Z "number"), (Z "original"), (Z "reply"), (Z "zone"), (Z "until"), (Z "since"), (Z "mark"), (Z "status"), (Z "state"), (Z "sides"), (Z "master"), (Z "most"), (Z "seed"), (Z "tries"), (Z "table"), (Z "talks"), (Z "last"), (Z "trackers"), (Z "expects"), (Z "flows"), (Z "is_loose"), (Z "packet"), (Z "now"), (Z "talk"), (Z "is_reply"), (Z "hook"), (Z "sets"), (Z "objects"), (Z "fields"), (Z "readers"), (Z "doers"), (Z "ops"), (Z "tools"), (Z "order"), (Z "log"), (Z "replies"), (Z "steps"), (Z "homes")]
noncomputable def Gb (i : Nat) : List Str := if i == 20 then [Z "out", Z "stretches"] else []
noncomputable abbrev PW : Program := PySem.Challenge.pw_pq1099_01
noncomputable def I9 : List Stmt → List (Arguments × List Stmt × Scope)
 | [] => []
 | s :: r => match s with
  | .FunctionDef _ a b _ _ _ sc _ _ _ => (a, b, sc) :: I9 r
  | .ClassDef _ _ _ b _ _ _ _ _ _ _ => (match b with
   | .FunctionDef _ a b _ _ _ sc _ _ _ :: _ => (a, b, sc) :: I9 r
   | _ => I9 r)
  | _ => I9 r
noncomputable def SQ (i : Nat) : Arguments := match (I9 PW.main.body)[i]? with | some x => x.1 | none => ⟨[], [], none, [], [], none, []⟩
noncomputable def SR (i : Nat) : List Stmt := match (I9 PW.main.body)[i]? with | some x => x.2.1 | none => []
noncomputable def SP (i : Nat) : Scope := match (I9 PW.main.body)[i]? with | some x => x.2.2 | none => { kind := .function, names := [], isGenerator := false, isCoroutine := false }
noncomputable def vs (x : String) (n : Nat) : Value := .str (Str.ofString x) n
noncomputable def vi (x : Int) (n : Nat) : Value := .int x n
noncomputable def vr (x : Nat) : Value := .ref x
noncomputable def vn : Value := .none
noncomputable def vt : Value := .bool true
noncomputable def vf : Value := .bool false
noncomputable def vy (x : String) : Value := .type x
noncomputable def de (P : Params) (x : String) (n : Nat) (v : Value) : DictEntry := { hash := PyData.keyHash P (Str.ofString x), key := .str (Str.ofString x) n, val := v }
noncomputable def tu (l : List Value) : Obj := { cls := .type "tuple", data := .seq ⟨l⟩ }
noncomputable def fe (l : List Value) : Obj := { cls := .none, data := .fields ⟨l⟩ }
noncomputable def co (l : List Value) : Obj := { cls := .type "code", data := .fields ⟨l⟩ }
noncomputable def di (l : List DictEntry) (n : Nat) : Obj := { cls := .type "dict", data := .dict ⟨l⟩ n }
noncomputable def fn0 (x q : String) (i : Nat) (d : Value) : Obj := { cls := .none, data := .func { name := Str.ofString x, qualname := Str.ofString q, params := SQ i, body := .stmts (SR i), scope := SP i, globals := 0, closure := [], defaults := d, kwdefaults := .none } }
noncomputable def fn1 (x q : String) (i : Nat) (d m c : Value) : Obj := { cls := .type "function", data := .func { name := Str.ofString x, qualname := Str.ofString q, params := SQ i, body := .stmts (SR i), scope := SP i, globals := 3, closure := [], defaults := d, kwdefaults := .none, pyModule := m, code := c } }
noncomputable def nl : Nat → List String → List Value
 | _, [] => []
 | t, x :: r => vs x t :: nl (t + 1) r
noncomputable def B7 (t : Nat) : Value := vs "/claim/cut.py" t
noncomputable def fb (t a l c : Nat) (x : String) (i : Nat) (m : Value) (n : List String) : List Obj := [tu (nl (t + 3) n), tu [], fn0 x x i vn, co [vs x t, vs x (t + 1), B7 (t + 2), vi l 0, vi c 0, vi 0 0, vi 0 0, vi 3 0, vr a, vt, vi 181 0, vr (a + 1), vn, vr (a + 2), vr (a + 3), vr (a + 4), vi ((t + 3 + n.length : Nat) : Int) 0, vi l 0, B7 (t + 4 + n.length)], fn1 x x i vn m (vr (a + 5)), tu [], fe []]
noncomputable def m0 : Value := vs "law_pq1099_01" 893
noncomputable def m1 : Value := vs "siftwall.faults" 187
noncomputable def m2 : Value := vs "siftwall.ipv4" 270
noncomputable def m3 : Value := vs "siftwall.ipv6" 281
noncomputable def m4 : Value := vs "siftwall.natwrite" 756
noncomputable def m5 : Value := vs "siftwall.octets" 235
noncomputable def m6 : Value := vs "siftwall.packets" 322
noncomputable def m7 : Value := vs "siftwall.relate" 718
noncomputable def m8 : Value := vs "siftwall.transport" 509
noncomputable def m9 : Value := vs "siftwall.tuples" 518
noncomputable def m10 : Value := vs "siftwall.walk" 839
noncomputable def oc0 (P : Params) : List Obj := [co [vs "<module>" 182, vs "<module>" 183, B7 184, vi 1 0, vi 0 0, vi 0 0, vi 0 0, vi 0 0, vr 11, vf, vi 181 0, vr 12, vn, vn, vn, vn, vi 185 0, vi 1 0, B7 186], { cls := vy "frame", slots := #[some (vr 13), some (vr 3), some (vr 3), none, some (vs "__main__" 164), none, some (vr 0)] }, tu [vy "Exception"], { cls := vy "builtin_function_or_method", data := Data.fields #[Value.builtin "type.__prepare__", vy "type"] }, di [de P "__module__" 196 m1, de P "__qualname__" 198 (vs "WallFault" 197), de P "__firstlineno__" 200 (vi 2 199), de P "__init__" 208 (vr 28), de P "__static_attributes__" 211 (vr 29)] 5, tu [], fe [vi 4 0, vi 4 0, vr 27], co [vs "WallFault" 191, vs "WallFault" 192, B7 193, vi 2 0, vi 0 0, vi 0 0, vi 0 0, vi 0 0, vr 18, vf, vi 181 0, vr 19, vn, vn, vn, vn, vi 194 0, vi 2 0, B7 195], { cls := vy "frame", slots := #[some (vr 20), some (vr 3), some (vr 17), none, some m1, none, some (vr 0)] }, tu [], fe [], tu [vs "self" 204, vs "why" 205], tu [], fn0 "__init__" "WallFault.__init__" 0 vn, co [vs "__init__" 201, vs "WallFault.__init__" 202, B7 203, vi 4 0, vi 2 0, vi 0 0, vi 0 0, vi 3 0, vr 22, vt, vi 181 0, vr 23, vn, vr 24, vr 25, vr 26, vi 206 0, vi 4 0, B7 207], fn1 "__init__" "WallFault.__init__" 0 vn m1 (vr 27), tu [vs "at" 209, vs "why" 210], di [de P "__module__" 196 m1, de P "__firstlineno__" 200 (vi 2 199), de P "__init__" 208 (vr 28), de P "__static_attributes__" 211 (vr 29), de P "__weakref__" 213 (vr 32), de P "__doc__" 214 vn] 3, { cls := vy "type", data := Data.cls { name := Z "WallFault", bases := [vy "Exception"], mro := [vr 31, vy "Exception", vy "BaseException", vy "object"], ns := 30, qualname := Z "WallFault", subclasses := [vr 44] }, slots := #[some (vr 15), none, some (vs "WallFault" 189), some (vs "WallFault" 197), some (Value.builtin "Exception.__new__"), some (vt)] }, { cls := vy "getset_descriptor", data := Data.fields #[vs "__weakref__" 212, vr 31, Value.builtin "ExceptionGroup.__weakref__", vn] }, { cls := vy "super", data := Data.fields #[vr 31, vr 31, vr 31] }, { cls := vy "builtin_function_or_method", data := Data.fields #[Value.builtin "object.__init_subclass__", vr 31] }, tu [vr 31], { cls := vy "builtin_function_or_method", data := Data.fields #[Value.builtin "type.__prepare__", vy "type"] }, di [de P "__module__" 226 m1, de P "__qualname__" 228 (vs "Misused" 227), de P "__firstlineno__" 230 (vi 8 229), de P "__static_attributes__" 231 (vr 42)] 4, tu [], fe [], co [vs "Misused" 221, vs "Misused" 222, B7 223, vi 8 0, vi 0 0, vi 0 0, vi 0 0, vi 0 0, vr 38, vf, vi 181 0, vr 39, vn, vn, vn, vn, vi 224 0, vi 8 0, B7 225], { cls := vy "frame", slots := #[some (vr 40), some (vr 3), some (vr 37), none, some m1, none, some (vr 0)] }, tu [], di [de P "__module__" 226 m1, de P "__firstlineno__" 230 (vi 8 229), de P "__static_attributes__" 231 (vr 42), de P "__doc__" 232 vn] 2, { cls := vy "type", data := Data.cls { name := Z "Misused", bases := [vr 31], mro := [vr 44, vr 31, vy "Exception", vy "BaseException", vy "object"], ns := 43, qualname := Z "Misused" }, slots := #[some (vr 35), none, some (vs "Misused" 219), some (vs "Misused" 227), some (Value.builtin "Exception.__new__"), some (vt)] }, { cls := vy "super", data := Data.fields #[vr 44, vr 44, vr 44] }, { cls := vy "builtin_function_or_method", data := Data.fields #[Value.builtin "object.__init_subclass__", vr 44] }, tu [], fe []] ++ (fb 237 47 11 1 "number_of" 1 m5 ["octets","number","octet"] ++ ([fn0 "octets_of" "octets_of" 2 vn, co [vs "octets_of" 246, vs "octets_of" 247, B7 248, vi 16 0, vi 2 0, vi 0 0, vi 0 0, vi 3 0, vr 54, vt, vi 181 0, vr 55, vn, vn, vn, vr 56, vi 249 0, vi 16 0, B7 250]]))
noncomputable def oc1 (P : Params) : List Obj := [fn1 "octets_of" "octets_of" 2 vn m5 (vr 57), tu [], fe []] ++ (fb 252 59 20 1 "folded" 3 m5 ["total"] ++ (fb 259 66 24 3 "mend" 4 m5 ["check","old","new","total","place"] ++ (fb 272 73 33 1 "look4" 5 m2 ["data","off","word"] ++ (fb 283 80 42 2 "head_size" 6 m3 ["kind","second"] ++ (fb 291 87 50 4 "size_at" 7 m3 ["octets","at","kind","end","size"] ++ (fb 302 94 59 2 "place_at" 8 m3 ["octets","at"]))))))
noncomputable def oc2 (P : Params) : List Obj := fb 310 101 61 1 "look6" 9 m3 ["data","kind","at","place","is_more","size"] ++ ((fb 324 108 81 0 "new_meta" 10 m6 ["out","name"]).take 5 ++ ([tu [], { cls := vy "builtin_function_or_method", data := Data.fields #[Value.builtin "type.__prepare__", vy "type"] }, di [de P "__module__" 339 m6, de P "__qualname__" 341 (vs "Packet" 340), de P "__firstlineno__" 343 (vi 88 342), de P "__init__" 353 (vr 128), de P "__static_attributes__" 361 (vr 129)] 5, tu [], fe [vi 90 0, vi 4 0, vr 127], co [vs "Packet" 334, vs "Packet" 335, B7 336, vi 88 0, vi 0 0, vi 0 0, vi 0 0, vi 0 0, vr 118, vf, vi 181 0, vr 119, vn, vn, vn, vn, vi 337 0, vi 88 0, B7 338], { cls := vy "frame", slots := #[some (vr 120), some (vr 3), some (vr 117), none, some m6, none, some (vr 0)] }, tu [], fe [], tu [vs "self" 347, vs "data" 348, vs "kind" 349, vs "link" 350], tu [], fn0 "__init__" "Packet.__init__" 11 vn, co [vs "__init__" 344, vs "Packet.__init__" 345, B7 346, vi 90 0, vi 4 0, vi 0 0, vi 0 0, vi 3 0, vr 122, vt, vi 181 0, vr 123, vn, vr 124, vr 125, vr 126, vi 351 0, vi 90 0, B7 352], fn1 "__init__" "Packet.__init__" 11 vn m6 (vr 127), tu [vs "data" 354, vs "kind" 355, vs "l4" 356, vs "link" 357, vs "meta" 358, vs "off" 359, vs "place" 360], di [de P "__module__" 339 m6, de P "__firstlineno__" 343 (vi 88 342), de P "__init__" 353 (vr 128), de P "__static_attributes__" 361 (vr 129), de P "__dict__" 363 (vr 132), de P "__weakref__" 365 (vr 133), de P "__doc__" 366 vn] 4, { cls := vy "type", data := Data.cls { name := Z "Packet", bases := [vy "object"], mro := [vr 131, vy "object"], ns := 130, qualname := Z "Packet" }, slots := #[none, none, some (vs "Packet" 332), some (vs "Packet" 340), some (Value.builtin "object.__new__"), some (vt)] }, { cls := vy "getset_descriptor", data := Data.fields #[vs "__dict__" 362, vr 131, Value.builtin "function.__dict__", Value.builtin "function.__dict__#set"] }, { cls := vy "getset_descriptor", data := Data.fields #[vs "__weakref__" 364, vr 131, Value.builtin "ExceptionGroup.__weakref__", vn] }, { cls := vy "super", data := Data.fields #[vr 131, vr 131, vr 131] }, { cls := vy "builtin_function_or_method", data := Data.fields #[Value.builtin "object.__init_subclass__", vr 131] }, tu [], fe []] ++ ((fb 369 136 98 1 "look" 12 m6 ["packet","found"]).take 5 ++ ([tu [vi 2048 377, Value.bytes #[] 378]]))))
noncomputable def oc3 (P : Params) : List Obj := [tu [], fe [], tu [vs "octets" 382, vs "kind" 383, vs "link" 384, vs "packet" 385], tu [], fn0 "packet_of" "packet_of" 13 vn, co [vs "packet_of" 379, vs "packet_of" 380, B7 381, vi 113 0, vi 3 0, vi 0 0, vi 0 0, vi 3 0, vr 144, vt, vi 181 0, vr 145, vn, vr 146, vr 147, vr 148, vi 386 0, vi 113 0, B7 387], fn1 "packet_of" "packet_of" 13 (vr 143) m6 (vr 149), tu [], fe []] ++ (fb 389 151 117 1 "family_of" 14 m6 ["packet"] ++ (fb 396 158 125 2 "base_of" 15 m6 ["packet","base"] ++ (fb 404 165 137 4 "part" 16 m6 ["packet","base","at","many","found","begin"] ++ (fb 416 172 145 4 "put_part" 17 m6 ["packet","base","at","octets","found","begin"] ++ (fb 428 179 151 1 "sum_place" 18 m6 ["l4"] ++ (fb 435 186 159 4 "common" 19 m6 ["begin","end","low","behind","first","last"]))))))
noncomputable def oc4 (P : Params) : List Obj := [fn0 "sums_met" "sums_met" 20 vn, co [vs "sums_met" 447, vs "sums_met" 448, B7 449, vi 165 0, vi 3 0, vi 0 0, vi 0 0, vi 3 0, vr 193, vt, vi 181 0, vr 194, vn, vn, vn, vr 195, vi 450 0, vi 165 0, B7 451], fn1 "sums_met" "sums_met" 20 vn m6 (vr 196), tu [], fe []] ++ (fb 453 198 178 3 "pairs_of" 21 m6 ["data","first","behind","out"] ++ (fb 463 205 183 5 "mend_at" 22 m6 ["packet","before","place","stretches","is_udp","check","first","behind"] ++ (fb 477 212 193 4 "set_octets" 23 m6 ["packet","base","at","octets","before","begin","sums","place","stretches"] ++ (fb 492 219 205 3 "address_at" 24 m6 ["packet","place4","place6","octets"] ++ (fb 502 226 214 1 "target_of" 25 m6 ["packet"] ++ ((fb 511 233 217 1 "error_kinds" 26 m8 ["nfproto"]).take 5))))))
noncomputable def oc5 (P : Params) : List Obj := [tu [], { cls := vy "builtin_function_or_method", data := Data.fields #[Value.builtin "type.__prepare__", vy "type"] }, di [de P "__module__" 529 m9, de P "__qualname__" 531 (vs "Talk" 530), de P "__firstlineno__" 533 (vi 221 532), de P "__init__" 544 (vr 253), de P "__static_attributes__" 556 (vr 254)] 5, tu [], fe [vi 223 0, vi 4 0, vr 252], co [vs "Talk" 524, vs "Talk" 525, B7 526, vi 221 0, vi 0 0, vi 0 0, vi 0 0, vi 0 0, vr 243, vf, vi 181 0, vr 244, vn, vn, vn, vn, vi 527 0, vi 221 0, B7 528], { cls := vy "frame", slots := #[some (vr 245), some (vr 3), some (vr 242), none, some m9, none, some (vr 0)] }, tu [], fe [], tu [vs "self" 537, vs "number" 538, vs "original" 539, vs "reply" 540, vs "zone" 541], tu [], fn0 "__init__" "Talk.__init__" 27 vn, co [vs "__init__" 534, vs "Talk.__init__" 535, B7 536, vi 223 0, vi 5 0, vi 0 0, vi 0 0, vi 3 0, vr 247, vt, vi 181 0, vr 248, vn, vr 249, vr 250, vr 251, vi 542 0, vi 223 0, B7 543], fn1 "__init__" "Talk.__init__" 27 vn m9 (vr 252), tu [vs "mark" 545, vs "master" 546, vs "number" 547, vs "original" 548, vs "reply" 549, vs "sides" 550, vs "since" 551, vs "state" 552, vs "status" 553, vs "until" 554, vs "zone" 555], di [de P "__module__" 529 m9, de P "__firstlineno__" 533 (vi 221 532), de P "__init__" 544 (vr 253), de P "__static_attributes__" 556 (vr 254), de P "__dict__" 558 (vr 257), de P "__weakref__" 560 (vr 258), de P "__doc__" 561 vn] 4, { cls := vy "type", data := Data.cls { name := Z "Talk", bases := [vy "object"], mro := [vr 256, vy "object"], ns := 255, qualname := Z "Talk" }, slots := #[none, none, some (vs "Talk" 522), some (vs "Talk" 530), some (Value.builtin "object.__new__"), some (vt)] }, { cls := vy "getset_descriptor", data := Data.fields #[vs "__dict__" 557, vr 256, Value.builtin "function.__dict__", Value.builtin "function.__dict__#set"] }, { cls := vy "getset_descriptor", data := Data.fields #[vs "__weakref__" 559, vr 256, Value.builtin "ExceptionGroup.__weakref__", vn] }, { cls := vy "super", data := Data.fields #[vr 256, vr 256, vr 256] }, { cls := vy "builtin_function_or_method", data := Data.fields #[Value.builtin "object.__init_subclass__", vr 256] }, tu [], { cls := vy "builtin_function_or_method", data := Data.fields #[Value.builtin "type.__prepare__", vy "type"] }, di [de P "__module__" 571 m9, de P "__qualname__" 573 (vs "TalkBook" 572), de P "__firstlineno__" 575 (vi 235 574), de P "__init__" 588 (vr 275), de P "__static_attributes__" 599 (vr 276)] 5, tu [], fe [vi 237 0, vi 4 0, vr 274], co [vs "TalkBook" 566, vs "TalkBook" 567, B7 568, vi 235 0, vi 0 0, vi 0 0, vi 0 0, vi 0 0, vr 264, vf, vi 181 0, vr 265, vn, vn, vn, vn, vi 569 0, vi 235 0, B7 570], { cls := vy "frame", slots := #[some (vr 266), some (vr 3), some (vr 263), none, some m9, none, some (vr 0)] }, tu [vi 64 576, vi 0 577, vi 128 578], tu [], fe [], tu [vs "self" 582, vs "most" 583, vs "seed" 584, vs "tries" 585], tu [], fn0 "__init__" "TalkBook.__init__" 28 vn, co [vs "__init__" 579, vs "TalkBook.__init__" 580, B7 581, vi 237 0, vi 4 0, vi 0 0, vi 0 0, vi 3 0, vr 269, vt, vi 181 0, vr 270, vn, vr 271, vr 272, vr 273, vi 586 0, vi 237 0, B7 587], fn1 "__init__" "TalkBook.__init__" 28 (vr 268) m9 (vr 274), tu [vs "expects" 589, vs "flows" 590, vs "is_loose" 591, vs "last" 592, vs "most" 593, vs "seed" 594, vs "table" 595, vs "talks" 596, vs "trackers" 597, vs "tries" 598], di [de P "__module__" 571 m9, de P "__firstlineno__" 575 (vi 235 574), de P "__init__" 588 (vr 275), de P "__static_attributes__" 599 (vr 276), de P "__dict__" 601 (vr 279), de P "__weakref__" 603 (vr 280), de P "__doc__" 604 vn] 4, { cls := vy "type", data := Data.cls { name := Z "TalkBook", bases := [vy "object"], mro := [vr 278, vy "object"], ns := 277, qualname := Z "TalkBook" }, slots := #[none, none, some (vs "TalkBook" 564), some (vs "TalkBook" 572), some (Value.builtin "object.__new__"), some (vt)] }, { cls := vy "getset_descriptor", data := Data.fields #[vs "__dict__" 600, vr 278, Value.builtin "function.__dict__", Value.builtin "function.__dict__#set"] }, { cls := vy "getset_descriptor", data := Data.fields #[vs "__weakref__" 602, vr 278, Value.builtin "ExceptionGroup.__weakref__", vn] }, { cls := vy "super", data := Data.fields #[vr 278, vr 278, vr 278] }, { cls := vy "builtin_function_or_method", data := Data.fields #[Value.builtin "object.__init_subclass__", vr 278] }, tu [], fe []]
noncomputable def oc6 (P : Params) : List Obj := fb 607 283 248 2 "is_icmp" 29 m9 ["nfproto","protocol"] ++ (fb 615 290 250 2 "is_error" 30 m9 ["nfproto","kind"] ++ (fb 623 297 252 2 "answer_kind" 31 m9 ["nfproto","kind","pairs","ask","answer"] ++ (fb 634 304 260 4 "ports_at" 32 m9 ["octets","nfproto","protocol","off","kind","ident"] ++ (fb 646 311 274 4 "tuple_at" 33 m9 ["octets","nfproto","protocol","off","ports","at","size","source","target"] ++ (fb 661 318 286 1 "tuple_of" 34 m9 ["packet","nfproto"] ++ (fb 669 325 291 2 "inner_tuple" 35 m9 ["octets","nfproto","seen"]))))))
noncomputable def oc7 (P : Params) : List Obj := fb 678 332 296 1 "invert" 36 m9 ["t","nfproto","protocol","source","sport","target","dport","answer"] ++ (fb 692 339 304 2 "side_of" 37 m9 ["talk","direction"] ++ ([fn0 "drop_talk" "drop_talk" 38 vn, co [vs "drop_talk" 700, vs "drop_talk" 701, B7 702, vi 306 0, vi 2 0, vi 0 0, vi 0 0, vi 3 0, vr 346, vt, vi 181 0, vr 347, vn, vn, vn, vr 348, vi 703 0, vi 306 0, B7 704], fn1 "drop_talk" "drop_talk" 38 vn m9 (vr 349), tu [], fe []] ++ (fb 706 351 318 4 "look_up" 39 m9 ["book","zone","t","now","hit","talk"] ++ (fb 724 358 330 4 "talk_of_error" 40 m7 ["book","packet","zone","now","nfproto","inner","turned","hit"] ++ (fb 738 365 342 1 "is_error_packet" 41 m7 ["packet","nfproto"] ++ (fb 746 372 347 3 "error_talk" 42 m7 ["book","scene","zone","hit"]))))))
noncomputable def oc8 (P : Params) : List Obj := fb 758 379 361 4 "put_there" 43 m4 ["packet","base","at","octets","old"] ++ (fb 769 386 365 2 "port_place" 44 m4 ["packet","manip","nfproto","kind"] ++ (fb 779 393 373 3 "rewrite" 45 m4 ["packet","t","manip","nfproto","protocol","source","sport","target","dport","at","size","place","address","port"] ++ (fb 799 400 388 2 "bit_for" 46 m4 ["manip","direction","is_source"] ++ (fb 808 407 393 3 "inner_rewritten" 47 m4 ["octets","t","manip","packet"] ++ (fb 818 414 397 3 "rewrite_inner" 48 m4 ["packet","t","manip","octets"] ++ ((fb 828 421 401 2 "translate" 49 m4 ["scene","manip","talk","side","t"]).take 5))))))
noncomputable def oc9 (P : Params) : List Obj := [tu [], { cls := vy "builtin_function_or_method", data := Data.fields #[Value.builtin "type.__prepare__", vy "type"] }, di [de P "__module__" 848 m10, de P "__qualname__" 850 (vs "Scene" 849), de P "__firstlineno__" 852 (vi 412 851), de P "__init__" 865 (vr 442), de P "__static_attributes__" 885 (vr 443)] 5, tu [], fe [vi 414 0, vi 4 0, vr 441], co [vs "Scene" 843, vs "Scene" 844, B7 845, vi 412 0, vi 0 0, vi 0 0, vi 0 0, vi 0 0, vr 431, vf, vi 181 0, vr 432, vn, vn, vn, vn, vi 846 0, vi 412 0, B7 847], { cls := vy "frame", slots := #[some (vr 433), some (vr 3), some (vr 430), none, some m10, none, some (vr 0)] }, tu [vi 0 853, vs "input" 854], tu [], fe [], tu [vs "self" 858, vs "packet" 859, vs "fields" 860, vs "now" 861, vs "hook" 862], tu [], fn0 "__init__" "Scene.__init__" 50 vn, co [vs "__init__" 855, vs "Scene.__init__" 856, B7 857, vi 414 0, vi 5 0, vi 0 0, vi 0 0, vi 3 0, vr 436, vt, vi 181 0, vr 437, vn, vr 438, vr 439, vr 440, vi 863 0, vi 414 0, B7 864], fn1 "__init__" "Scene.__init__" 50 (vr 435) m10 (vr 441), tu [vs "doers" 866, vs "fields" 867, vs "homes" 868, vs "hook" 869, vs "is_reply" 870, vs "log" 871, vs "now" 872, vs "objects" 873, vs "ops" 874, vs "order" 875, vs "packet" 876, vs "readers" 877, vs "replies" 878, vs "sets" 879, vs "state" 880, vs "steps" 881, vs "talk" 882, vs "talks" 883, vs "tools" 884], di [de P "__module__" 848 m10, de P "__firstlineno__" 852 (vi 412 851), de P "__init__" 865 (vr 442), de P "__static_attributes__" 885 (vr 443), de P "__dict__" 887 (vr 446), de P "__weakref__" 889 (vr 447), de P "__doc__" 890 vn] 4, { cls := vy "type", data := Data.cls { name := Z "Scene", bases := [vy "object"], mro := [vr 445, vy "object"], ns := 444, qualname := Z "Scene" }, slots := #[none, none, some (vs "Scene" 841), some (vs "Scene" 849), some (Value.builtin "object.__new__"), some (vt)] }, { cls := vy "getset_descriptor", data := Data.fields #[vs "__dict__" 886, vr 445, Value.builtin "function.__dict__", Value.builtin "function.__dict__#set"] }, { cls := vy "getset_descriptor", data := Data.fields #[vs "__weakref__" 888, vr 445, Value.builtin "ExceptionGroup.__weakref__", vn] }, { cls := vy "super", data := Data.fields #[vr 445, vr 445, vr 445] }, { cls := vy "builtin_function_or_method", data := Data.fields #[Value.builtin "object.__init_subclass__", vr 445] }, tu [], fe []] ++ (fb 895 450 435 2 "_law_digit" 51 m0 ["script","place"] ++ ([fn0 "_law_octets" "_law_octets" 52 vn, co [vs "_law_octets" 903, vs "_law_octets" 904, B7 905, vi 437 0, vi 2 0, vi 0 0, vi 0 0, vi 3 0, vr 457, vt, vi 181 0, vr 458, vn, vn, vn, vr 459, vi 906 0, vi 437 0, B7 907], fn1 "_law_octets" "_law_octets" 52 vn m0 (vr 460), tu [], fe [], fn0 "_law_check" "_law_check" 53 vn, co [vs "_law_check" 909, vs "_law_check" 910, B7 911, vi 439 0, vi 1 0, vi 0 0, vi 0 0, vi 3 0, vr 462, vt, vi 181 0, vr 463, vn, vn, vn, vr 464, vi 912 0, vi 439 0, B7 913], fn1 "_law_check" "_law_check" 53 vn m0 (vr 465), tu [], fe []] ++ (fb 915 467 442 3 "_law_summed" 54 m0 ["octets","place","ahead","check"])))
noncomputable def TB (P : Params) : List Obj := fb 925 474 445 5 "_law_pseudo" 55 m0 ["nfproto","source","target","protocol","many","size"] ++ (fb 937 481 448 6 "_law_packet" 56 m0 ["nfproto","source","target","protocol","data","extra","head","more"] ++ (fb 951 488 456 4 "_law_whole" 57 m0 ["t","data","extra","is_bare","nfproto","protocol","source","sport","target","dport","octets","place","ahead"] ++ (fb 970 495 476 5 "_law_error" 58 m0 ["nfproto","source","target","kind","inner","octets","ahead"] ++ (fb 983 502 482 1 "_law_answer" 59 m0 ["t","nfproto","protocol","source","sport","target","dport","kind"] ++ (fb 997 509 488 3 "_law_taken" 60 m0 ["t","goal","side","is_ping"] ++ (fb 1007 516 493 8 "_law_is_done" 61 m0 ["book","talk","octets","nfproto","due","sides","goal","frame","packet","scene","data","extra","is_bare","error","now","direction","outer","is_foreign","hit","side","is_source","told","whole","kind","cut"]))))))
noncomputable def TA (P : Params) : List Obj := [fn0 "_law_talk" "_law_talk" 62 vn, co [vs "_law_talk" 1038, vs "_law_talk" 1039, B7 1040, vi 529 0, vi 3 0, vi 0 0, vi 0 0, vi 3 0, vr 523, vt, vi 181 0, vr 524, vn, vn, vn, vr 525, vi 1041 0, vi 529 0, B7 1042], fn1 "_law_talk" "_law_talk" 62 vn m0 (vr 526), tu [], fe []] ++ (fb 1044 528 552 2 "_law_holds" 63 m0 ["script","number","base","talk","out","nfproto","protocol","book","digit","data","extra","is_bare","sides","head","direction","start","goal","octets","due","inner","cut","kinds","kind","is_foreign","far","outer","whole","frame"] ++ ((fb 1078 535 589 1 "law" 64 m0 ["script"]).take 5))
noncomputable def o2 (P : Params) : Obj := { cls := vn, data := Data.dict #[de P "type.__subclasses__.Exception.0" 215 (vi 31 0), de P "type.__subclasses__.Exception.n" 216 (vi 1 0)] 2 }
noncomputable def gE (P : Params) : List DictEntry := [de P "__doc__" 166 vn, de P "__package__" 167 vn, de P "__loader__" 168 (Value.builtin "__main__.__loader__#opaque"), de P "__spec__" 169 vn] ++ ([("__annotations__",170,6),("__builtins__",171,4)].map (fun x => de P x.1 x.2.1 (vr x.2.2)) ++ ([de P "__file__" 173 (B7 172), de P "__cached__" 174 vn] ++ ([("WallFault",218,31),("Misused",234,44),("number_of",245,53),("octets_of",251,58),("folded",258,65),("mend",269,72),("look4",280,79),("head_size",290,86),("size_at",301,93),("place_at",309,100),("look6",321,107),("new_meta",331,114),("Packet",368,131),("look",376,142),("packet_of",388,150),("family_of",395,157),("base_of",403,164),("part",415,171),("put_part",427,178),("sum_place",434,185),("common",446,192),("sums_met",452,197),("pairs_of",462,204),("mend_at",476,211),("set_octets",491,218),("address_at",501,225),("target_of",508,232),("error_kinds",517,239)].map (fun x => de P x.1 x.2.1 (vr x.2.2)) ++ ([de P "DYING" 521 (vi 512 520)] ++ ([("Talk",563,256),("TalkBook",606,278),("is_icmp",614,289),("is_error",622,296),("answer_kind",633,303),("ports_at",645,310),("tuple_at",660,317),("tuple_of",668,324),("inner_tuple",677,331),("invert",691,338),("side_of",699,345),("drop_talk",705,350),("look_up",717,357)].map (fun x => de P x.1 x.2.1 (vr x.2.2)) ++ ([de P "INVALID" 721 (vi 1 720), de P "RELATED" 723 (vi 4 722)] ++ ([("talk_of_error",737,364),("is_error_packet",745,371),("error_talk",755,378),("put_there",768,385),("port_place",778,392),("rewrite",798,399),("bit_for",807,406),("inner_rewritten",817,413),("rewrite_inner",827,420),("translate",838,427),("Scene",892,445),("_law_digit",902,456),("_law_octets",908,461),("_law_check",914,466),("_law_summed",924,473),("_law_pseudo",936,480),("_law_packet",950,487),("_law_whole",969,494),("_law_error",982,501),("_law_answer",996,508),("_law_taken",1006,515),("_law_is_done",1037,522),("_law_talk",1043,527),("_law_holds",1077,534),("law",1084,541)].map (fun x => de P x.1 x.2.1 (vr x.2.2)))))))))
noncomputable def gD (P : Params) (k : Nat) (v : Value) : Obj := di (de P "__name__" 165 v :: (gE P).take (k - 1)) k
noncomputable def gL : List Value := [(2,20),(8,40),(11,52),(16,57),(20,64),(24,71),(33,78),(42,85),(50,92),(59,99),(61,106),(81,113),(88,120),(98,141),(113,149),(117,156),(125,163),(137,170),(145,177),(151,184),(159,191),(165,196),(178,203),(183,210),(193,217),(205,224),(214,231),(217,238),(221,245),(235,266),(248,288),(250,295),(252,302),(260,309),(274,316),(286,323),(291,330),(296,337),(304,344),(306,349),(318,356),(330,363),(342,370),(347,377),(361,384),(365,391),(373,398),(388,405),(393,412),(397,419),(401,426),(412,433),(435,455),(437,460),(439,465),(442,472),(445,479),(448,486),(456,493),(476,500),(482,507),(488,514),(493,521),(529,526),(552,533),(589,540)].flatMap fun x => [vi x.1 0, vi 0 0, vr x.2]
noncomputable def gF (k : Nat) : Obj := fe (gL.take k)
noncomputable def objs (d2 d3 d12 : Obj) (P : Params) : List Obj := PySem.W.boot_o_0 P :: PySem.W.boot_o_1 P :: d2 :: d3 :: PySem.W.boot_o_4 P :: PySem.W.boot_o_5 P :: PySem.W.boot_o_6 P :: PySem.W.boot_o_7 P :: PySem.W.boot_o_8 P :: PySem.W.boot_o_9 P :: PySem.W.boot_o_10 P :: tu [] :: d12 :: (oc0 P ++ (oc1 P ++ (oc2 P ++ (oc3 P ++ (oc4 P ++ (oc5 P ++ (oc6 P ++ (oc7 P ++ (oc8 P ++ (oc9 P ++ (TB P ++ (TA P ++ []))))))))))))
noncomputable def alt : List Obj → Bool → List Obj
 | [], _ => []
 | x :: r, b => match b with
  | true => x :: alt r false
  | false => alt r true
noncomputable def mkT : Nat → List Obj → BT
 | 0, _ => .nil
 | n + 1, l => match l with
  | [] => .nil
  | o :: r => .node o (mkT n (alt r true)) (mkT n (alt r false))
noncomputable def sS (t : Params → BT) (n k : Nat) (w : World) (os : OsState) : SharedT := ⟨t w.params, n, {}, ⟨[]⟩, {}, k, os⟩
noncomputable def p0 : Pos := ⟨0, 0, 0, 0⟩
noncomputable def bd : List Stmt := behindTheImports PW
noncomputable def env : Env := { scope := PW.main.scope, locals := mainNs, globals := mainNs, cells := [], code := .ref 13, frame := some 14 }
noncomputable def cd : Code := Code.body bd env
noncomputable def sl (a b : Nat) : List Stmt := (bd.drop a).take (b - a)
noncomputable def ann : Option Value := some (.ref 6)
noncomputable def tr0 (P : Params) : BT := mkT 11 ((objs (PySem.W.boot_o_2 P) (PySem.W.boot_o_3 P) (gF 0) P).take 15)
noncomputable def tr1 (P : Params) : BT := mkT 11 ((objs (o2 P) (gD P 16 m3) (gF 21) P).take 80)
noncomputable def tr2 (P : Params) : BT := mkT 11 ((objs (o2 P) (gD P 22 m6) (gF 39) P).take 136)
noncomputable def tr3 (P : Params) : BT := mkT 11 ((objs (o2 P) (gD P 34 m6) (gF 75) P).take 219)
noncomputable def tr4 (P : Params) : BT := mkT 11 ((objs (o2 P) (gD P 39 m9) (gF 87) P).take 261)
noncomputable def tr5 (P : Params) : BT := mkT 11 ((objs (o2 P) (gD P 44 m9) (gF 102) P).take 311)
noncomputable def tr6 (P : Params) : BT := mkT 11 ((objs (o2 P) (gD P 57 m4) (gF 135) P).take 386)
noncomputable def tr7 (P : Params) : BT := mkT 11 ((objs (o2 P) (gD P 63 m10) (gF 153) P).take 428)
noncomputable def tr8 (P : Params) : BT := mkT 11 ((objs (o2 P) (gD P 68 m0) (gF 168) P).take 474)
noncomputable def tr9 (P : Params) : BT := mkT 11 ((objs (o2 P) (gD P 78 m0) (gF 198) P).take 542)
noncomputable def oF (P : Params) : List Obj := objs (o2 P) (gD P 78 m0) (gF 198) P
noncomputable def s0 (w : World) (os : OsState) : SharedT := sS tr0 15 187 w os
noncomputable def q0 : Pos := ⟨0, 0, 0, 0⟩
noncomputable def s1 (w : World) (os : OsState) : SharedT := sS tr1 80 283 w os
noncomputable def q1 : Pos := ⟨41, 0, 41, 8⟩
noncomputable def s2 (w : World) (os : OsState) : SharedT := sS tr2 136 369 w os
noncomputable def q2 : Pos := ⟨88, 0, 97, 30⟩
noncomputable def s3 (w : World) (os : OsState) : SharedT := sS tr3 219 492 w os
noncomputable def q3 : Pos := ⟨193, 0, 204, 82⟩
noncomputable def s4 (w : World) (os : OsState) : SharedT := sS tr4 261 564 w os
noncomputable def q4 : Pos := ⟨221, 0, 234, 23⟩
noncomputable def s5 (w : World) (os : OsState) : SharedT := sS tr5 311 646 w os
noncomputable def q5 : Pos := ⟨260, 0, 273, 48⟩
noncomputable def s6 (w : World) (os : OsState) : SharedT := sS tr6 386 769 w os
noncomputable def q6 : Pos := ⟨361, 0, 364, 44⟩
noncomputable def s7 (w : World) (os : OsState) : SharedT := sS tr7 428 841 w os
noncomputable def q7 : Pos := ⟨411, 0, 411, 8⟩
noncomputable def s8 (w : World) (os : OsState) : SharedT := sS tr8 474 925 w os
noncomputable def q8 : Pos := ⟨442, 0, 444, 70⟩
noncomputable def s9 (w : World) (os : OsState) : SharedT := sS tr9 542 1085 w os
noncomputable def q9 : Pos := ⟨589, 0, 590, 58⟩
theorem g0 : ∀ w, (fun os => topGo treeTable PW w 11 ann 12 ⟨boot_heap w.params, ⟨[]⟩, boot_drawn, boot_toks, os⟩ (topStub PW)) = fun os => some ((s0 w os).abs, ⟨denote treeTable cd, cd, p0, [topFrame p0]⟩) := by
 intro w; kernel_rfl
theorem g1 : ∀ w, (fun os => segRun treeTable PW w 11 ann 1 1 (s0 w os).abs (blockOf bd env cd p0 [topFrame p0])) = fun os => some (.next, (s0 w os).abs, cd, q0) := by
 intro w; kernel_rfl
set_option maxHeartbeats 0 in
theorem e0 : ∀ w, (fun os => segRunT treeTable PW w 11 ann 1 630 (s0 w os) (piecesOf (sl 0 11) env cd q0 [topFrame p0])) = fun os => some (.next, s1 w os, cd, q1) := by
 intro w; kernel_rfl
set_option maxHeartbeats 0 in
theorem e1 : ∀ w, (fun os => segRunT treeTable PW w 11 ann 1 397 (s1 w os) (piecesOf (sl 11 18) env cd q1 [topFrame p0])) = fun os => some (.next, s2 w os, cd, q2) := by
 intro w; kernel_rfl
set_option maxHeartbeats 0 in
theorem e2 : ∀ w, (fun os => segRunT treeTable PW w 11 ann 1 387 (s2 w os) (piecesOf (sl 18 30) env cd q2 [topFrame p0])) = fun os => some (.next, s3 w os, cd, q3) := by
 intro w; kernel_rfl
set_option maxHeartbeats 0 in
theorem e3 : ∀ w, (fun os => segRunT treeTable PW w 11 ann 1 353 (s3 w os) (piecesOf (sl 30 37) env cd q3 [topFrame p0])) = fun os => some (.next, s4 w os, cd, q4) := by
 intro w; kernel_rfl
set_option maxHeartbeats 0 in
theorem e4 : ∀ w, (fun os => segRunT treeTable PW w 11 ann 1 365 (s4 w os) (piecesOf (sl 37 42) env cd q4 [topFrame p0])) = fun os => some (.next, s5 w os, cd, q5) := by
 intro w; kernel_rfl
set_option maxHeartbeats 0 in
theorem e5 : ∀ w, (fun os => segRunT treeTable PW w 11 ann 1 392 (s5 w os) (piecesOf (sl 42 57) env cd q5 [topFrame p0])) = fun os => some (.next, s6 w os, cd, q6) := by
 intro w; kernel_rfl
set_option maxHeartbeats 0 in
theorem e6 : ∀ w, (fun os => segRunT treeTable PW w 11 ann 1 212 (s6 w os) (piecesOf (sl 57 64) env cd q6 [topFrame p0])) = fun os => some (.next, s7 w os, cd, q7) := by
 intro w; kernel_rfl
set_option maxHeartbeats 0 in
theorem e7 : ∀ w, (fun os => segRunT treeTable PW w 11 ann 1 370 (s7 w os) (piecesOf (sl 64 70) env cd q7 [topFrame p0])) = fun os => some (.next, s8 w os, cd, q8) := by
 intro w; kernel_rfl
set_option maxHeartbeats 0 in
theorem e8 : ∀ w, (fun os => segRunT treeTable PW w 11 ann 1 379 (s8 w os) (piecesOf (sl 70 80) env cd q8 [topFrame p0])) = fun os => some (.next, s9 w os, cd, q9) := by
 intro w; kernel_rfl
theorem g2 : ∀ w, (fun os => topRun treeTable PW w 11 ann 2 (s9 w os).abs ⟨doneF .next, cd, q9, [topFrame p0]⟩) = fun os => some (s9 w os).abs := by
 intro w; kernel_rfl
noncomputable def r9 : List Stmt := []
noncomputable def r8 : List Stmt := sl 70 80 ++ r9
noncomputable def r7 : List Stmt := sl 64 70 ++ r8
noncomputable def r6 : List Stmt := sl 57 64 ++ r7
noncomputable def r5 : List Stmt := sl 42 57 ++ r6
noncomputable def r4 : List Stmt := sl 37 42 ++ r5
noncomputable def r3 : List Stmt := sl 30 37 ++ r4
noncomputable def r2 : List Stmt := sl 18 30 ++ r3
noncomputable def r1 : List Stmt := sl 11 18 ++ r2
noncomputable def r0 : List Stmt := sl 0 11 ++ r1
theorem hr : bd = r0 := by kernel_rfl
theorem k9 (w : World) (os : OsState) : topRun treeTable PW w 11 ann 2 (s9 w os).abs (restOf r9 env cd q9 [topFrame p0]) = some (s9 w os).abs := piece_nil (congrFun (g2 w) os)
theorem k8 (w : World) (os : OsState) : topRun treeTable PW w 11 ann (379 + 2) (s8 w os).abs (restOf r8 env cd q8 [topFrame p0]) = some (s9 w os).abs := piece_app (segRun_of (congrFun (e8 w) os)) (k9 w os)
theorem k7 (w : World) (os : OsState) : topRun treeTable PW w 11 ann (370 + 381) (s7 w os).abs (restOf r7 env cd q7 [topFrame p0]) = some (s9 w os).abs := piece_app (segRun_of (congrFun (e7 w) os)) (k8 w os)
theorem k6 (w : World) (os : OsState) : topRun treeTable PW w 11 ann (212 + 751) (s6 w os).abs (restOf r6 env cd q6 [topFrame p0]) = some (s9 w os).abs := piece_app (segRun_of (congrFun (e6 w) os)) (k7 w os)
theorem k5 (w : World) (os : OsState) : topRun treeTable PW w 11 ann (392 + 963) (s5 w os).abs (restOf r5 env cd q5 [topFrame p0]) = some (s9 w os).abs := piece_app (segRun_of (congrFun (e5 w) os)) (k6 w os)
theorem k4 (w : World) (os : OsState) : topRun treeTable PW w 11 ann (365 + 1355) (s4 w os).abs (restOf r4 env cd q4 [topFrame p0]) = some (s9 w os).abs := piece_app (segRun_of (congrFun (e4 w) os)) (k5 w os)
theorem k3 (w : World) (os : OsState) : topRun treeTable PW w 11 ann (353 + 1720) (s3 w os).abs (restOf r3 env cd q3 [topFrame p0]) = some (s9 w os).abs := piece_app (segRun_of (congrFun (e3 w) os)) (k4 w os)
theorem k2 (w : World) (os : OsState) : topRun treeTable PW w 11 ann (387 + 2073) (s2 w os).abs (restOf r2 env cd q2 [topFrame p0]) = some (s9 w os).abs := piece_app (segRun_of (congrFun (e2 w) os)) (k3 w os)
theorem k1 (w : World) (os : OsState) : topRun treeTable PW w 11 ann (397 + 2460) (s1 w os).abs (restOf r1 env cd q1 [topFrame p0]) = some (s9 w os).abs := piece_app (segRun_of (congrFun (e1 w) os)) (k2 w os)
theorem k0 (w : World) (os : OsState) : topRun treeTable PW w 11 ann (630 + 2857) (s0 w os).abs (restOf r0 env cd q0 [topFrame p0]) = some (s9 w os).abs := piece_app (segRun_of (congrFun (e0 w) os)) (k1 w os)
theorem k_ (w : World) (os : OsState) : topRun treeTable PW w 11 ann (1 + 3487) (s0 w os).abs ⟨denote treeTable cd, cd, p0, [topFrame p0]⟩ = some (s9 w os).abs := piece_block (b := bd) (env := env) (congrFun (g1 w) os) (hr ▸ k0 w os)
theorem Tt (w : World) (os : OsState) : topRun treeTable PW w 11 ann (12 + (1 + 3487)) ⟨boot_heap w.params, ⟨[]⟩, boot_drawn, boot_toks, os⟩ (topStub PW) = some (s9 w os).abs := go_top (congrFun (g0 w) os) (k_ w os)
noncomputable def Ge : Program := { PW with main := { PW.main with body := PW.main.body.drop 79 } }
noncomputable def F0 : List Str := fns.dropLast ++ [Z "Misused", Z "DYING", Z "INVALID", Z "RELATED"]
noncomputable def KK (P : Params) : Frag := (List.range 542).zip (oF P)
noncomputable def HK : Hook := kHook KK (List.range 542) fun P => by kernel_rfl
noncomputable def xt (s : Shared) : Bool := xlAt Ge [] s && recOk (RowW.records PySem.Challenge.rw_pq1099_01.row.toRowW) s
noncomputable def HE (P : Params) : Heap := absHeap (tr9 P) 542 {}
theorem opn : ∀ w : World, (fencedOpening treeTable PW w 7076).map (fun s => (s.heap, s.gens, s.drawn, s.toks)) = some (boot_heap w.params, ⟨[]⟩, boot_drawn, boot_toks) :=
 boot_open (by kernel_rfl) (by decide) fun s => by kernel_rfl
theorem siz : ∀ w : World, ((boot_heap w.params).isNs mainGlobals && (⟨[]⟩ : Array GenState).size == 0, (boot_heap w.params).objs.size, (boot_heap w.params).nsMap mainGlobals "__annotations__") = (true, 11, ann) := fun w => by kernel_rfl
theorem lk1 : ∀ w : World, (staticsOk (importedModules PW.main.body) (boot_heap w.params) (HE w.params)) = true := fun w => by kernel_rfl
theorem lk2 : ∀ w : World, namesBound PW (HE w.params) = true := fun w => by kernel_rfl
theorem lk4 : ∀ w : World, laidKept (boot_heap w.params) (HE w.params) = true := fun w => by kernel_rfl
theorem lk5 : ∀ w : World, (fun os => openSeen Ge F0 (importedModules PW.main.body) xt true ⟨HE w.params, ⟨[]⟩, {}, 1085, os⟩) = fun ω => openGood Ge F0 := fun w => by kernel_rfl
theorem lk6 : ∀ w : World, ((List.range 542).map (HE w.params).get?) = (KK w.params).map fun p => some p.2 := fun w => by kernel_rfl
theorem SA : ∀ w : World, (fun os => ((staticsOk (importedModules PW.main.body) (boot_heap w.params) (HE w.params) && namesBound PW (HE w.params) && gensDone ⟨HE w.params, ⟨[]⟩, {}, 1085, os⟩ && laidKept (boot_heap w.params) (HE w.params)),
    openSeen Ge F0 (importedModules PW.main.body) xt true ⟨HE w.params, ⟨[]⟩, {}, 1085, os⟩, HK.obs ⟨HE w.params, ⟨[]⟩, {}, 1085, os⟩)) = fun ω => (true, openGood Ge F0, HK.val w) := fun w => funext fun os => by
 refine Prod.ext ?_ (Prod.ext (congrFun (lk5 w) os) (lk6 w))
 show (_ && _ && _ && _) = true
 rw [lk1 w, lk2 w, lk4 w]; rfl
theorem Sm (w : World) (os : OsState) : topRun treeTable PW w 11 ann (12 + (1 + 3487)) ⟨boot_heap w.params, ⟨[]⟩, boot_drawn, boot_toks, os⟩ (topStub PW) = some ⟨HE w.params, ⟨[]⟩, {}, 1085, os⟩ := Tt w os
theorem left : LeftO PW Ge F0 xt HK.obs HK.val 7076 := LeftO.of_pieces (H₀ := boot_heap) (H₁ := HE) (gs₀ := ⟨[]⟩) (gs₁ := ⟨[]⟩) (d₀ := boot_drawn) (d₁ := {}) (k₀ := boot_toks) (k₁ := 1085) (m₀ := 11) (ann := ann) (M := (12 + (1 + 3487))) opn siz Sm rfl SA
theorem lq : Ge.main.body.length = 1 := by kernel_rfl
noncomputable abbrev LW : OpenLaw := PySem.Challenge.rw_pq1099_01
theorem lo0 : (sreFenced LW.row.prog.main) = true := by kernel_rfl
theorem lo1 : (((moduleNames LW.row.prog.main.body).isEmpty || lookedIntoSs (moduleNames LW.row.prog.main.body) LW.row.prog.main.body)) = true := by kernel_rfl
theorem lo2 : (namesResolve LW.row.prog) = true := by kernel_rfl
theorem lo3 : (LW.row.prog.boundNames.all (fun n => !worldNames.contains n)) = true := by kernel_rfl
theorem lo4 : (noRoadLSs { strict := !(importedModules LW.row.prog.main.body).all cThrough.contains, foot := none, bare := (["vars", "dir", "locals"] : List Str).filter (readsOut LW.row.prog LW.row.prog.main.body) } LW.row.prog.main.body) = true := by kernel_rfl
theorem lo5 : (namesMeet LW.row.prog LW.row.prog.main.body fun ω n => attrL n) = true := by kernel_rfl
theorem loA : looksOpen LW.row.prog = true := (look_both (look_both (look_both (look_both (look_both lo0 lo1) lo2) lo3) lo4) lo5)
theorem pa1 : (LW.row.loose.isEmpty) = true := by kernel_rfl
theorem pa2 : (LW.row.makers.isEmpty) = true := by kernel_rfl
theorem pa3 : ((LW.row.records.isEmpty || LW.row.raises.all fun ct => ct.1 != .builtin "AttributeError" && ct.1 != .builtin "TypeError")) = true := by kernel_rfl
theorem pa4 : ((LW.row.raises.all fun ct => match ct.1 with | .builtin n => !LW.row.prog.boundNames.contains (Str.ofString n) && !ofTheWorld.contains n | .own _ => true)) = true := by kernel_rfl
theorem pa5 : (decide (LW.row.records.map (·.1)).Nodup) = true := by kernel_rfl
theorem pa6 : ((LW.row.records.all fun x => !x.1.opensWith "__" && !builtinNamed x.1 && LW.row.prog.boundNames.contains x.1 && x.2.all fun f => !f.1.opensWith "__")) = true := by kernel_rfl
theorem pa7 : (LW.row.toRowW.solid) = true := by kernel_rfl
theorem pa8 : (LW.row.pre.litsOk) = true := by kernel_rfl
theorem pa9 : (LW.row.post.litsOk) = true := by kernel_rfl
theorem Tx : (LW.row.raises.all (·.2.litsOk)) = true := by kernel_rfl
theorem Tw : (LW.row.mutates.all (fun i => match LW.row.args[i]? with     | some sh => !sh.arms.any WShape.isObj     | none => false)) = true := by kernel_rfl
theorem Tv : (LW.row.within.all (fun i => decide (i < LW.row.args.length))) = true := by kernel_rfl
theorem Tu : (LW.row.same.all (fun i => decide (i < LW.row.args.length))) = true := by kernel_rfl
theorem paA : LW.row.partSaid = true := (look_both (look_both (look_both (look_both (look_both (look_both (look_both (look_both (look_both (look_both (look_both (look_both (look_both loA pa1) pa2) pa3) pa4) pa5) pa6) pa7) pa8) pa9) Tx) Tw) Tv) Tu)
theorem rw1 : (LW.row.prog.boundNames.contains LW.row.name) = true := by kernel_rfl
theorem rw2 : (!startupNames.contains LW.row.name) = true := by kernel_rfl
theorem Sl : LW.row.wellSaid = true := (look_both (look_both paA rw1) rw2)
theorem ws1 : (decide (LW.foot ≤ (behindTheImports LW.prog).length)) = true := by kernel_rfl
theorem ws2 : (LW.footing.all footLine) = true := by kernel_rfl
theorem ws3 : (noClassBlock LW.prog LW.footing) = true := by kernel_rfl
theorem ws4 : (LW.most.all (fun n => decide (63 ≤ n))) = true := by kernel_rfl
theorem ws5 : (LW.bound.all (fun n => decide (2 ^ 63 ≤ n))) = true := by kernel_rfl
theorem ws6 : (noRoadLSs { strict := true, foot := some LW.bound', writes := LW.writes, may := LW.may } LW.footing) = true := by kernel_rfl
theorem ws7 : (defStands LW.about LW.above) = true := by kernel_rfl
theorem ws8 : (LW.namesIt) = true := by kernel_rfl
theorem ws9 : ((["type", "isinstance", "issubclass", "getattr", "hasattr"] : List Str).all (fun n => LW.about != [n])) = true := by kernel_rfl
theorem Tk : (LW.bound'.all (fun n => !builtinNamed n || LW.about == [n] || !LW.reads n)) = true := by kernel_rfl
theorem Tj : ((!LW.writes || (LW.prog.main.body.flatMap importedNames).all fun n => !LW.reads n)) = true := by kernel_rfl
theorem Ti : ((LW.prog.main.body.flatMap importedNames).all (fun n => !LW.reads n || (drawsOf n LW.prog.main.body).all fun mn => mn.2 != ("attrgetter" : Str) && mn.2 != ("methodcaller" : Str))) = true := by kernel_rfl
theorem Th : (namesMeet LW.prog LW.footing (fun sc n => (!(["type", "isinstance", "issubclass", "getattr", "hasattr"] : List Str).contains n || sc.names.lookup n == some .globalImplicit) &&     (LW.may != some n || sc.kind == .module || sc.names.lookup n == some .globalImplicit))) = true := by kernel_rfl
theorem Tg : (LW.own.contains LW.name) = true := by kernel_rfl
theorem Tf : (LW.own.eraseDups.length == LW.own.length) = true := by kernel_rfl
theorem Te : (LW.own.all (fun n => !builtinNamed n)) = true := by kernel_rfl
theorem Td : (namesMeet LW.prog LW.above (fun ω n => !LW.own.contains n)) = true := by kernel_rfl
theorem Tc : (namesMeet LW.prog LW.footing fun sc n => sc.kind == .module || sc.names.lookup n != some .globalExplicit) = true := by kernel_rfl
theorem wsA : OpenLaw.wellSaid PySem.Challenge.rw_pq1099_01 = true := (look_both (look_both (look_both (look_both (look_both (look_both (look_both (look_both (look_both (look_both (look_both (look_both (look_both (look_both (look_both (look_both (look_both (look_both Sl ws1) ws2) ws3) ws4) ws5) ws6) ws7) ws8) ws9) Tk) Tj) Ti) Th) Tg) Tf) Te) Td) Tc)
noncomputable def SB : DefRec := match defOf Ge "law" with | some x => x.1 | none => ⟨"", ⟨[], [], none, [], [], none, []⟩, [], { kind := .function, names := [], isGenerator := false, isCoroutine := false }, ⟨0, 0, 0, 0⟩⟩
theorem RX : defOf Ge PySem.Challenge.rw_pq1099_01.row.name = some (SB, []) := by kernel_rfl
set_option maxHeartbeats 4000000 in
theorem hd (h : Rm Ge F0 (XL Ge []) HK.says PySem.Challenge.rw_pq1099_01.row.toRowW SB [] fun f vs => PySem.call f vs) : PySem.Challenge.rw_pq1099_01.Holds := by
 w_on
 refine holds_law wsA fun said => ?_
 refine Ls (q := Ge) (loose := F0) (Xt := xt) (XP := XL Ge []) (Yf := HK.obs) (Ya := HK.val) (YP := HK.says) (N := 7076) left HK.of HK.keeps (fun s e => xl_of s (Bool.and_eq_true_iff.mp e).1) XL.keeps RX (by kernel_rfl) (by kernel_rfl) (fun s e => recFacts_of (Bool.and_eq_true_iff.mp e).2) (by kernel_rfl) said (by kernel_rfl) ⟨rfl, rfl, rfl, rfl, rfl, by decide +kernel⟩ ?hw h
 w_witness2
section
variable {a b : Addr} {xs : Array Value} {o : Obj}
inductive D where
 | none
 | bool (b : Bool)
 | int (i : Int)
 | str (s : Str)
 | bytes (l : List UInt8)
 | tup (l : List D)
 | lst (l : List D)
 | rng (a b c : Int)
 | ref (a : Addr)
deriving Inhabited
inductive Cv where
 | barr (l : List UInt8)
 | inst (C da : Addr) (fs : List (Str × D))
 | edict
 | idict (es : List (Int × D))
 | tdict (es : List ((Int × List Int) × D))
 | sdict (n : Nat)
 | mlist (l : List D)
 | hid (o : Obj)
noncomputable abbrev Sto := Addr → Option Cv
noncomputable def Sto.upd (σ : Sto) (a : Addr) (o : Cv) : Sto := fun x => if x = a then some o else σ x
@[simp] theorem Sto.upd_self (σ : Sto) (a : Addr) (o : Cv) : σ.upd a o a = some o := if_pos rfl
theorem Sto.upd_ne (σ : Sto) (o : Cv) (h : b ≠ a) : σ.upd a o b = σ b := if_neg h
noncomputable def Cv.foot (a : Addr) : Cv → Addr
 | .inst _ da _ => da
 | _ => a
def foot (σ : Sto) (x : Addr) : Prop := ∃ a o, σ a = some o ∧ o.foot a = x
mutual
inductive Rp (σ : Sto) (h : Heap) : Value → D → Prop
 | none : Rp σ h .none .none
 | bool (b : Bool) : Rp σ h (.bool b) (.bool b)
 | int (i : Int) (t : Tok) : Rp σ h (.int i t) (.int i)
 | str (s : Str) (t : Tok) : Rp σ h (.str s t) (.str s)
 | bytes (l : List UInt8) (t : Tok) : Rp σ h (.bytes ⟨l⟩ t) (.bytes l)
 | tup (a : Addr) (vs : List Value) (ds : List D) : ¬ foot σ a → h.IsTuple a ⟨vs⟩ → Rps σ h vs ds → Rp σ h (.ref a) (.tup ds)
 | lst (a : Addr) (vs : List Value) (ds : List D) : ¬ foot σ a → h.IsList a ⟨vs⟩ → Rps σ h vs ds → Rp σ h (.ref a) (.lst ds)
 | rng (r : Addr) (a b c : Int) (t u v : Tok) : ¬ foot σ r → IsRange h r a b c t u v → Rp σ h (.ref r) (.rng a b c)
 | ref (a : Addr) : Rp σ h (.ref a) (.ref a)
inductive Rps (σ : Sto) (h : Heap) : List Value → List D → Prop
 | nil : Rps σ h [] []
 | cons (v : Value) (vs : List Value) (d : D) (ds : List D) : Rp σ h v d → Rps σ h vs ds → Rps σ h (v :: vs) (d :: ds)
end
def RpI (σ : Sto) (h : Heap) (v : Value) (d : D) : Prop := match d with
 | .none => v = .none
 | .bool b => v = .bool b
 | .int i => ∃ t, v = .int i t
 | .str x => ∃ t, v = .str x t
 | .bytes l => ∃ t, v = .bytes ⟨l⟩ t
 | .tup ds => ∃ a vs, v = .ref a ∧ ¬ foot σ a ∧ h.IsTuple a ⟨vs⟩ ∧ Rps σ h vs ds
 | .lst ds => ∃ a vs, v = .ref a ∧ ¬ foot σ a ∧ h.IsList a ⟨vs⟩ ∧ Rps σ h vs ds
 | .rng x y z => ∃ r t u w, v = .ref r ∧ ¬ foot σ r ∧ IsRange h r x y z t u w
 | .ref a => v = .ref a
theorem Rp.inv {σ : Sto} {h : Heap} {v : Value} {d : D} (r : Rp σ h v d) : RpI σ h v d := by
 cases r with
 | none => rfl
 | bool b => rfl
 | int i t => exact ⟨t, rfl⟩
 | str s t => exact ⟨t, rfl⟩
 | bytes l t => exact ⟨t, rfl⟩
 | tup a vs ds x y z => exact ⟨a, vs, rfl, x, y, z⟩
 | lst a vs ds x y z => exact ⟨a, vs, rfl, x, y, z⟩
 | rng r a b c t u v x y => exact ⟨r, t, u, v, rfl, x, y⟩
 | ref a => rfl
def TQ (σ : Sto) (h : Heap) (vs : List Value) (ds : List D) : Prop := match ds with
 | [] => vs = []
 | d :: ds => ∃ v ws, vs = v :: ws ∧ Rp σ h v d ∧ Rps σ h ws ds
theorem Rps.inv {σ : Sto} {h : Heap} {vs : List Value} {ds : List D} (r : Rps σ h vs ds) : TQ σ h vs ds := by
 cases r with
 | nil => rfl
 | cons v vs d ds x y => exact ⟨v, vs, rfl, x, y⟩
section
variable {σ : Sto} {h : Heap} {v : Value} {P : Value → Prop}
@[elab_as_elim] theorem Rp.eN (r : Rp σ h v .none) (c : P .none) : P v := r.inv.symm ▸ c
@[elab_as_elim] theorem Rp.eB {i : Bool} (r : Rp σ h v (.bool i)) (c : P (.bool i)) : P v := r.inv.symm ▸ c
@[elab_as_elim] theorem Rp.eI {i : Int} (r : Rp σ h v (.int i)) (c : ∀ t, P (.int i t)) : P v := r.inv.elim fun t e => e.symm ▸ c t
@[elab_as_elim] theorem Rp.eS {i : Str} (r : Rp σ h v (.str i)) (c : ∀ t, P (.str i t)) : P v := r.inv.elim fun t e => e.symm ▸ c t
@[elab_as_elim] theorem Rp.eY {i : List UInt8} (r : Rp σ h v (.bytes i)) (c : ∀ t, P (.bytes ⟨i⟩ t)) : P v := r.inv.elim fun t e => e.symm ▸ c t
@[elab_as_elim] theorem Rp.eT {i : List D} (r : Rp σ h v (.tup i)) (c : ∀ a vs, ¬ foot σ a → h.IsTuple a ⟨vs⟩ → Rps σ h vs i → P (.ref a)) : P v := r.inv.elim fun a x => x.elim fun vs x => x.1.symm ▸ c a vs x.2.1 x.2.2.1 x.2.2.2
@[elab_as_elim] theorem Rp.eL {i : List D} (r : Rp σ h v (.lst i)) (c : ∀ a vs, ¬ foot σ a → h.IsList a ⟨vs⟩ → Rps σ h vs i → P (.ref a)) : P v := r.inv.elim fun a x => x.elim fun vs x => x.1.symm ▸ c a vs x.2.1 x.2.2.1 x.2.2.2
@[elab_as_elim] theorem Rp.eG {i j k : Int} (r : Rp σ h v (.rng i j k)) (c : ∀ a t u w, ¬ foot σ a → IsRange h a i j k t u w → P (.ref a)) : P v := r.inv.elim fun a x => x.elim fun t x => x.elim fun u x => x.elim fun w x => x.1.symm ▸ c a t u w x.2.1 x.2.2
@[elab_as_elim] theorem Rp.eR {i : Addr} (r : Rp σ h v (.ref i)) (c : P (.ref i)) : P v := r.inv.symm ▸ c
@[elab_as_elim] theorem Rps.eN {vs : List Value} {P : List Value → Prop} (r : Rps σ h vs []) (c : P []) : P vs := r.inv.symm ▸ c
@[elab_as_elim] theorem Rps.eC {vs : List Value} {d : D} {ds : List D} {P : List Value → Prop} (r : Rps σ h vs (d :: ds)) (c : ∀ v vs, Rp σ h v d → Rps σ h vs ds → P (v :: vs)) : P vs := r.inv.elim fun v x => x.elim fun ws x => x.1.symm ▸ c v ws x.2.1 x.2.2
end
structure AI (σ : Sto) (f : Addr → Option Obj) (σ' : Sto) (h' : Heap) : Prop where
 keep : ∀ b o, ¬ foot σ b → f b = some o → h'.get? b = some o
 fresh : ∀ x, foot σ' x → foot σ x ∨ f x = none
abbrev AP (σ : Sto) (h : Heap) (σ' : Sto) (h' : Heap) : Prop := AI σ h.get? σ' h'
theorem AP.refl (σ : Sto) (h : Heap) : AP σ h σ h := ⟨fun ω ω ω e => e, fun ω f => .inl f⟩
theorem AI.priv {σ σ' : Sto} {h : Addr → Option Obj} {h' : Heap} (S : AI σ h σ' h') (n : ¬ foot σ b) (e : h b = some o) : ¬ foot σ' b ∧ h'.get? b = some o :=
 ⟨fun f => (S.fresh b f).elim n fun q => (by rw [e] at q; cases q), S.keep b o n e⟩
theorem AI.trans {σ₁ σ₂ σ₃ : Sto} {h₁ : Addr → Option Obj} {h₂ h₃ : Heap} (a : AI σ₁ h₁ σ₂ h₂) (b : AP σ₂ h₂ σ₃ h₃) : AI σ₁ h₁ σ₃ h₃ :=
 ⟨fun x o n e => (b.priv (a.priv n e).1 (a.priv n e).2).2, fun x f => by
  refine Or.elim (b.fresh x f) (fun q => ?_) (fun q => ?_)
  ·exact a.fresh x q
  ·by_cases n : foot σ₁ x
   ·exact .inl n
   ·right
    cases e : h₁ x with
    | none => rfl
    | some o => rw [(a.priv n e).2] at q; cases q⟩
theorem AP.priv {σ σ' : Sto} {h h' : Heap} (S : AP σ h σ' h') (n : ¬ foot σ b) (e : h.get? b = some o) : ¬ foot σ' b ∧ h'.get? b = some o := AI.priv S n e
theorem AP.trans {σ₁ σ₂ σ₃ : Sto} {h₁ h₂ h₃ : Heap} (a : AP σ₁ h₁ σ₂ h₂) (b : AP σ₂ h₂ σ₃ h₃) : AP σ₁ h₁ σ₃ h₃ := AI.trans a b
def Ro (o : Obj) : Prop := (∃ xs n, o.data = .seq xs n) ∨ (o.cls = .type "range" ∧ ∃ vs, o.data = .fields vs)
structure Dr (σ : Sto) (h : Heap) (σ' : Sto) (h' : Heap) : Prop where
 keep : ∀ b o, ¬ foot σ b → Ro o → h.get? b = some o → h'.get? b = some o ∧ ¬ foot σ' b
theorem AI.q {σ σ' : Sto} {h h' : Heap} (S : AP σ h σ' h') : Dr σ h σ' h' := ⟨fun b o n ω e => ⟨S.keep b o n e, (S.priv n e).1⟩⟩
theorem Dr.tup {σ σ' : Sto} {h h' : Heap} (S : Dr σ h σ' h') (n : ¬ foot σ a) (l : h.IsTuple a xs) : ¬ foot σ' a ∧ h'.IsTuple a xs :=
 l.elim fun o x => have k := S.keep a o n (.inl (x.2.2.elim fun k e => ⟨_, k, e⟩)) x.1; ⟨k.2, o, k.1, x.2⟩
theorem Dr.lst {σ σ' : Sto} {h h' : Heap} (S : Dr σ h σ' h') (n : ¬ foot σ a) (l : h.IsList a xs) : ¬ foot σ' a ∧ h'.IsList a xs :=
 l.elim fun o x => have k := S.keep a o n (.inl (x.2.2.elim fun k e => ⟨_, k, e⟩)) x.1; ⟨k.2, o, k.1, x.2⟩
theorem Rp.stepQ {σ σ' : Sto} {h h' : Heap} (S : Dr σ h σ' h') {v : Value} {d : D} (r : Rp σ h v d) : Rp σ' h' v d :=
 Rp.rec (motive_1 := fun v d ω => Rp σ' h' v d) (motive_2 := fun vs ds ω => Rps σ' h' vs ds) .none .bool .int .str .bytes
  (fun a vs ds n l ω ih => have k := S.tup n l; .tup a vs ds k.1 k.2 ih) (fun a vs ds n l ω ih => have k := S.lst n l; .lst a vs ds k.1 k.2 ih)
  (fun r a b c t u v n e => have k := S.keep r _ n (.inr ⟨rfl, _, rfl⟩) e; .rng r a b c t u v k.2 k.1) .ref .nil (fun v vs d ds ω ω a b => .cons v vs d ds a b) r
theorem Rps.stepQ {σ σ' : Sto} {h h' : Heap} (S : Dr σ h σ' h') {ds : List D} : ∀ {vs : List Value}, Rps σ h vs ds → Rps σ' h' vs ds := by
 induction ds with
 | nil => exact fun r => r.eN .nil
 | cons d ds ih => exact fun r => r.eC fun v vs a b => .cons _ _ _ _ (a.stepQ S) (ih b)
theorem Rp.step {σ σ' : Sto} {h h' : Heap} (S : AP σ h σ' h') {v : Value} {d : D} (r : Rp σ h v d) : Rp σ' h' v d := r.stepQ S.q
theorem Rps.step {σ σ' : Sto} {h h' : Heap} (S : AP σ h σ' h') {vs : List Value} {ds : List D} (r : Rps σ h vs ds) : Rps σ' h' vs ds := r.stepQ S.q
theorem Rps.length {σ : Sto} {h : Heap} {ds : List D} : ∀ {vs : List Value}, Rps σ h vs ds → vs.length = ds.length := by
 induction ds with
 | nil => exact fun r => r.eN rfl
 | cons d ds ih => exact fun r => r.eC fun v vs a b => congrArg (·+ 1) (ih b)
theorem Rps.get {σ : Sto} {h : Heap} {ds : List D} : ∀ {vs : List Value}, Rps σ h vs ds → ∀ {i : Nat} {d : D}, ds[i]? = some d → ∃ v, vs[i]? = some v ∧ Rp σ h v d := by
 induction ds with
 | nil => intro vs r i d e; cases e
 | cons d ds ih =>
  intro vs r i d e
  revert e
  refine r.eC fun v vs a b e => ?_
  cases i with
  | zero => exact ⟨v, rfl, Option.some.inj e ▸ a⟩
  | succ i => exact ih b (i := i) e
theorem Rps.append {σ : Sto} {h : Heap} {ds ds' : List D} {vs vs' : List Value} (r : Rps σ h vs ds) (r' : Rps σ h vs' ds') : Rps σ h (vs ++ vs') (ds ++ ds') := by
 induction ds generalizing vs with
 | nil => exact r.eN r'
 | cons d ds ih => exact r.eC fun v vs a b => .cons _ _ _ _ a (ih b)
theorem Rps.take {σ : Sto} {h : Heap} (n : Nat) : ∀ {vs : List Value} {ds : List D}, Rps σ h vs ds → Rps σ h (vs.take n) (ds.take n) := by
 induction n with
 | zero => exact fun ω => .nil
 | succ n ih => intro vs ds r; cases ds with
  | nil => exact r.eN .nil
  | cons d ds => exact r.eC fun v vs a b => .cons _ _ _ _ a (ih b)
theorem Rps.drop {σ : Sto} {h : Heap} (n : Nat) : ∀ {vs : List Value} {ds : List D}, Rps σ h vs ds → Rps σ h (vs.drop n) (ds.drop n) := by
 induction n with
 | zero => exact fun r => r
 | succ n ih => intro vs ds r; cases ds with
  | nil => exact r.eN .nil
  | cons d ds => exact r.eC fun v vs a b => ih b
theorem Rps.ints {σ : Sto} {h : Heap} {ns : List Int} : ∀ {vs : List Value}, Rps σ h vs (ns.map .int) → IntsAre vs ns := by
 induction ns with
 | nil => exact fun r => r.eN .nil
 | cons n ns ih => exact fun r => r.eC fun v vs a b => a.eI fun t => .cons _ _ (ih b)
end
section
variable {o : Cv} {a x : Addr} {f : Addr → Option Obj} {h h' : Heap} {i : Nat}
structure Wd where
 prog : Program
 w : World
 K : Frag
 h₀ : Heap
 gens : Array GenState
 os : OsState
 attrs : List Str
 mg : Str → Option Value
 mb : Str → Option Value
 KX : K.In h₀
 g : h₀.Ns mainGlobals mg
 b : h₀.Ns builtinsNs mb
 lim : h₀.NoLimit
 bi : ∀ x : Str, x ≠ "__name__" → mb x = bootBuiltins x
noncomputable abbrev Wd.M (W : Wd) : Model := model W.prog W.w
noncomputable abbrev Lm (k : Int × List Int) : D := .tup [.int k.1, .tup (k.2.map .int)]
noncomputable def I7 (k : Int × List Int) : Int := reduceHash (Builtin.Tuple.tupleHashOf [hashInt k.1, reduceHash (Builtin.Tuple.tupleHashOf (k.2.map hashInt))])
noncomputable def EZ (K : Frag) (C : Addr) (x : Str) : Bool :=
 plainGet K C x && hasDictIn K C && (match findIn K (.ref C) x with | some attr => noGet K attr | none => false) && findIn K (.ref C) "__setattr__" == some (some (.builtin "object.__setattr__")) &&
  plainOver K C && takerIn K C x == some none
inductive EF (P : Params) (σ : Sto) (h : Heap) : List DictEntry → List (Str × D) → Prop
 | nil : EF P σ h [] []
 | cons (v : Value) (t : Tok) (x : Str) (d : D) (es : List DictEntry) (fs : List (Str × D)) : Rp σ h v d → EF P σ h es fs → EF P σ h (⟨PyData.keyHash P x, .str x t, v⟩ :: es) ((x, d) :: fs)
inductive Kvs (σ : Sto) (h : Heap) : List (Int × Value) → List (Int × D) → Prop
 | nil : Kvs σ h [] []
 | cons (k : Int) (v : Value) (d : D) (es : List (Int × Value)) (fs : List (Int × D)) : Rp σ h v d → Kvs σ h es fs → Kvs σ h ((k, v) :: es) ((k, d) :: fs)
inductive Tvs (σ : Sto) (h : Heap) : List ((Int × List Int) × Addr × Value) → List ((Int × List Int) × D) → Prop
 | nil : Tvs σ h [] []
 | cons (k : Int × List Int) (a : Addr) (v : Value) (d : D) (es : List ((Int × List Int) × Addr × Value)) (fs : List ((Int × List Int) × D)) : Rp σ h (.ref a) (Lm k) → Rp σ h v d → Tvs σ h es fs → Tvs σ h ((k, a, v) :: es) ((k, d) :: fs)
noncomputable def TM (x : (Int × List Int) × Addr × Value) : DictEntry := ⟨I7 x.1, .ref x.2.1, x.2.2⟩
noncomputable def Hg (W : Wd) (σ : Sto) (h : Heap) (a : Addr) : Cv → Prop
 | .barr l => h.get? a = some { cls := .type "bytearray", data := .bytearray ⟨l⟩ } ∧ l.length ≤ 1000000
 | .inst C da fs => h.get? a = some (instObj C da) ∧ W.attrs.all (EZ W.K C) = true ∧ ∃ es n, h.get? da = some (dictOf es n) ∧ EF W.w.params σ h es fs ∧ es.length ≤ 500
 | .edict => h.get? a = some { cls := .type "dict", data := .dict #[] }
 | .idict es => ∃ kvs, h.DictOf (intKind W.prog W.w) a kvs ∧ Kvs σ h kvs es
 | .tdict es => ∃ o ents ep xs, h.get? a = some o ∧ o.ExactDict ∧ o.data = .dict ents ep ∧ ents.toList = xs.map TM ∧ Tvs σ h xs es ∧ (xs.map (·.1)).Nodup
 | .sdict n => ∃ kvs, h.DictOf (strKind W.prog W.w) a kvs ∧ kvs.length ≤ n
 | .mlist l => ∃ vs n, h.get? a = some { cls := .type "list", data := .seq ⟨vs⟩ n } ∧ Rps σ h vs l
 | .hid o => h.get? a = some o
structure StR (W : Wd) (σ : Sto) (s : Shared) : Prop where
 stays : ∀ b o, W.h₀.get? b = some o → s.heap.get? b = some o
 foot0 : ∀ x, foot σ x → W.h₀.get? x = none
 objs : ∀ a o, σ a = some o → Hg W σ s.heap a o
 apart : ∀ a b o o', σ a = some o → σ b = some o' → o.foot a = o'.foot b → a = b
 head : ∀ a C da fs, σ a = some (.inst C da fs) → ¬ foot σ a
 gens : s.gens = W.gens
 os : s.os = W.os
 nsm : ∀ x, foot σ x → x ≠ sysModules
theorem EF.step {P : Params} {σ σ' : Sto} (S : Dr σ h σ' h') {es fs} (r__ : EF P σ h es fs) : EF P σ' h' es fs := by
 induction r__ with
 | nil =>
  exact .nil
 | cons v t x d es fs r rs ih__ =>
  exact .cons v t x d es fs (r.stepQ S) ih__
theorem Kvs.step {σ σ' : Sto} (S : Dr σ h σ' h') {es fs} (r__ : Kvs σ h es fs) : Kvs σ' h' es fs := by
 induction r__ with
 | nil =>
  exact .nil
 | cons k v d es fs r rs ih__ =>
  exact .cons k v d es fs (r.stepQ S) ih__
theorem Tvs.step {σ σ' : Sto} (S : Dr σ h σ' h') {es fs} (r__ : Tvs σ h es fs) : Tvs σ' h' es fs := by
 induction r__ with
 | nil =>
  exact .nil
 | cons k a v d es fs r q rs ih__ =>
  exact .cons k a v d es fs (r.stepQ S) (q.stepQ S) ih__
theorem Hg.at {W : Wd} {σ : Sto} (r : Hg W σ h a o) : (∃ x, h.get? a = some x) ∧ ∃ x, h.get? (o.foot a) = some x := by
 cases o with
 | barr l => exact ⟨⟨_, r.1⟩, ⟨_, r.1⟩⟩
 | inst C da fs => obtain ⟨p, _, es, n, q, _⟩ := r; exact ⟨⟨_, p⟩, ⟨_, q⟩⟩
 | edict => exact ⟨⟨_, r⟩, ⟨_, r⟩⟩
 | idict es => (refine Af r fun kvs zq1 ω => By zq1 fun o es ep q ω => ?_; clear r); exact ⟨⟨_, q⟩, ⟨_, q⟩⟩
 | tdict es => (refine CZ r fun o en n xs q ω => ?_; clear r); exact ⟨⟨_, q⟩, ⟨_, q⟩⟩
 | sdict n => (refine Af r fun kvs zq1 ω => By zq1 fun o es ep q ω => ?_; clear r); exact ⟨⟨_, q⟩, ⟨_, q⟩⟩
 | mlist l => (refine Bu r fun vs n q ω => ?_; clear r); exact ⟨⟨_, q⟩, ⟨_, q⟩⟩
 | hid o => exact ⟨⟨_, r⟩, ⟨_, r⟩⟩
theorem StR.footAt {W : Wd} {σ : Sto} {s : Shared} (R : StR W σ s) (f : foot σ x) : ∃ o, s.heap.get? x = some o := by
 (refine Bu f fun a o e zq1 => ?_; clear f; subst zq1)
 exact (R.objs a o e).at.2
theorem StR.keyAt {W : Wd} {σ : Sto} {s : Shared} (R : StR W σ s) (e : σ a = some o) : ∃ o, s.heap.get? a = some o := (R.objs a o e).at.1
theorem Hg.step {W : Wd} {σ σ' : Sto} (S : Dr σ h σ' h') (r : Hg W σ h a o) (hh : ∀ x, h.get? a = some x → h'.get? a = some x)
  (hf : ∀ x, h.get? (o.foot a) = some x → h'.get? (o.foot a) = some x) : Hg W σ' h' a o := by
 cases o with
 | barr l => exact ⟨hh _ r.1, r.2⟩
 | inst C da fs => obtain ⟨p, k, es, n, q, f, z⟩ := r; exact ⟨hh _ p, k, es, n, hf _ q, f.step S, z⟩
 | edict => exact hh _ r
 | idict es => (refine Af r fun kvs zq1 f => By zq1 fun o es ep q z => ?_; clear r); exact ⟨kvs, ⟨o, es, ep, hh _ q, z⟩, f.step S⟩
 | tdict es => (refine Pq r fun o en n xs q z1 z2 z3 f z4 => ?_; clear r); exact ⟨o, en, n, xs, hh _ q, z1, z2, z3, f.step S, z4⟩
 | sdict n => (refine Af r fun kvs zq1 f => By zq1 fun o es ep q z => ?_; clear r); exact ⟨kvs, ⟨o, es, ep, hh _ q, z⟩, f⟩
 | mlist l => (refine Bu r fun vs n q f => ?_; clear r); exact ⟨vs, n, hh _ q, f.stepQ S⟩
 | hid o => exact hh _ r
def AM (h h' : Heap) : Prop := ∀ b o, h.get? b = some o → h'.get? b = some o
theorem AM.refl (h : Heap) : AM h h := fun ω ω e => e
theorem AM.push (h : Heap) (o : Obj) : AM h (h.push o) := fun ω ω e => Heap.get?_push_of_some o e
theorem AM.step {σ : Sto} (g : AM h h') : AP σ h σ h' := ⟨fun b o ω e => g b o e, fun ω f => .inl f⟩
theorem StR.grow {W : Wd} {σ : Sto} {s s' : Shared} (R : StR W σ s) (g : AM s.heap s'.heap) (hg : s'.gens = s.gens := by rfl) (ho : s'.os = s.os := by rfl) : StR W σ s' :=
 ⟨fun b o e => g b o (R.stays b o e), R.foot0, fun a o e => (R.objs a o e).step g.step.q (fun x => g a x) (fun x => g _ x), R.apart, R.head, hg.trans R.gens, ho.trans R.os, R.nsm⟩
theorem StR.big {W : Wd} {σ : Sto} {s : Shared} (R : StR W σ s) : s.heap.objs.size ≠ sysModules := by
 refine By (W.g) fun o es ep e ω => ?_
 have := Heap.lt_size (R.stays _ _ e)
 have h1 : sysModules < mainGlobals := by decide
 exact Nat.ne_of_gt (Nat.lt_trans h1 this)
theorem StR.add {W : Wd} {σ : Sto} {s s' : Shared} (R : StR W σ s) (g : AM s.heap s'.heap) (na : s.heap.get? a = none) (nf : s.heap.get? (o.foot a) = none) (ns : o.foot a ≠ sysModules)
  (hk : ∀ C da fs, o = .inst C da fs → a ≠ da)
  (r : AP σ s.heap (σ.upd a o) s'.heap → Hg W (σ.upd a o) s'.heap a o) (hg : s'.gens = s.gens := by rfl) (ho : s'.os = s.os := by rfl) :
  StR W (σ.upd a o) s' ∧ AP σ s.heap (σ.upd a o) s'.heap := by
 have S : AP σ s.heap (σ.upd a o) s'.heap := ⟨fun b x ω e => g b x e, fun x ⟨b, o', e, f⟩ => by
  by_cases h : b = a
  ·subst h; rw [Sto.upd_self] at e; cases e; right; rw [← f]; exact nf
  ·rw [Sto.upd_ne σ o h] at e; exact .inl ⟨b, o', e, f⟩⟩
 have old : ∀ b o', b ≠ a → (σ.upd a o) b = some o' → σ b = some o' := fun b o' h e => by rwa [Sto.upd_ne σ o h] at e
 have here : ∀ o', (σ.upd a o) a = some o' → o' = o := fun o' e => by rw [Sto.upd_self] at e; exact (Option.some.inj e).symm
 refine ⟨⟨fun b x e => g b x (R.stays b x e), fun x f => ?_, fun b o' e => ?_, fun b c o' o'' e e' f => ?_, fun b C da fs e => ?_, hg.trans R.gens, ho.trans R.os, fun x f => ?_⟩, S⟩
 ·refine Or.elim (S.fresh x f) (fun q => ?_) (fun q => ?_)
  ·exact R.foot0 x q
  ·cases e : W.h₀.get? x with
   | none => rfl
   | some y => rw [R.stays x y e] at q; cases q
 ·by_cases h : b = a
  ·subst h; rw [here o' e]; exact r S
  ·have e' := old b o' h e
   exact (R.objs b o' e').step S.q (fun x => g b x) (fun x => g _ x)
 ·by_cases h : b = a <;> by_cases h' : c = a
  ·rw [h, h']
  ·subst h
   rw [here o' e] at f
   refine oe1 (R.footAt ⟨c, o'', old c o'' h' e', rfl⟩) fun y z => ?_
   rw [← f, nf] at z; cases z
  ·subst h'
   rw [here o'' e'] at f
   refine oe1 (R.footAt ⟨b, o', old b o' h e, rfl⟩) fun y z => ?_
   rw [f, nf] at z; cases z
  ·exact R.apart b c o' o'' (old b o' h e) (old c o'' h' e') f
 ·rintro ⟨c, o', e', f⟩
  by_cases h : b = a
  ·subst h
   have ho := here _ e
   by_cases h' : c = b
   ·subst h'
    rw [here _ e', ← ho] at f
    exact hk C da fs ho.symm f.symm
   ·refine oe1 (R.footAt ⟨c, o', old c o' h' e', f⟩) fun y z => ?_
    rw [na] at z; cases z
  ·have e0 := old b _ h e
   by_cases h' : c = a
   ·subst h'
    rw [here _ e'] at f
    refine oe1 (R.keyAt e0) fun y z => ?_
    rw [← f, nf] at z; cases z
   ·exact R.head b C da fs e0 ⟨c, o', old c o' h' e', f⟩
 ·(refine Bu f fun b p e q => ?_; clear f)
  by_cases h : b = a
  ·subst h; rw [here p e] at q; rw [← q]; exact ns
  ·exact R.nsm x ⟨b, p, old b p h e, q⟩
theorem StR.put {W : Wd} {σ : Sto} {s s' : Shared} (R : StR W σ s) {o o' : Cv} (e : σ a = some o) (sb : Heap.SameBut (o.foot a) s.heap s'.heap) (hf : o'.foot a = o.foot a)
  (hk : ∀ C da fs, o' = .inst C da fs → ∃ fs', o = .inst C da fs')
  (r : AP σ s.heap (σ.upd a o') s'.heap → Hg W (σ.upd a o') s'.heap a o') (hg : s'.gens = s.gens := by rfl) (ho : s'.os = s.os := by rfl) :
  StR W (σ.upd a o') s' ∧ AP σ s.heap (σ.upd a o') s'.heap := by
 have ft : ∀ x, foot (σ.upd a o') x ↔ foot σ x := fun x => by
  constructor
  ·rintro ⟨b, p, q, f⟩
   by_cases h : b = a
   ·subst h; rw [Sto.upd_self] at q; cases q; exact ⟨b, o, e, hf ▸ f⟩
   ·rw [Sto.upd_ne σ o' h] at q; exact ⟨b, p, q, f⟩
  ·rintro ⟨b, p, q, f⟩
   by_cases h : b = a
   ·subst h; rw [e] at q; cases q; exact ⟨b, o', Sto.upd_self .., hf.trans f⟩
   ·exact ⟨b, p, (Sto.upd_ne σ o' h).trans q, f⟩
 have S : AP σ s.heap (σ.upd a o') s'.heap := ⟨fun b x n q => (sb.2 b fun h => n ⟨a, o, e, h.symm⟩).trans q, fun x f => .inl ((ft x).mp f)⟩
 refine ⟨⟨fun b x q => S.keep b x (fun f => by rw [R.foot0 b f] at q; cases q) (R.stays b x q), fun x f => R.foot0 x ((ft x).mp f), fun b p q => ?_, fun b c p p' q q' f => ?_, fun b C da fs q f => ?_, hg.trans R.gens, ho.trans R.os, fun x f => R.nsm x ((ft x).mp f)⟩, S⟩
 ·by_cases h : b = a
  ·subst h; rw [Sto.upd_self] at q; cases q; exact r S
  ·rw [Sto.upd_ne σ o' h] at q
   have ne : p.foot b ≠ o.foot a := fun f => h (R.apart b a p o q e f)
   refine (R.objs b p q).step S.q (fun x y => ?_) fun x y => (sb.2 _ ne).trans y
   cases p with
   | inst C da fs => exact S.keep b x (R.head b C da fs q) y
   | _ => exact (sb.2 _ ne).trans y
 ·have go : ∀ z p, (σ.upd a o') z = some p → ∃ p₀, σ z = some p₀ ∧ p.foot z = p₀.foot z := fun z p q => by
   by_cases h : z = a
   ·subst h; rw [Sto.upd_self] at q; cases q; exact ⟨o, e, hf⟩
   ·rw [Sto.upd_ne σ o' h] at q; exact ⟨p, q, rfl⟩
  refine Af (go b p q) fun p₀ x1 x2 => ?_
  refine Af (go c p' q') fun p₁ y1 y2 => ?_
  exact R.apart b c p₀ p₁ x1 y1 (x2.symm.trans (f.trans y2))
 ·by_cases h : b = a
  ·subst h; rw [Sto.upd_self] at q; refine oe1 (hk C da fs (Option.some.inj q)) fun fs' ho' => ?_; subst ho'; exact R.head b C da fs' e ((ft b).mp f)
  ·rw [Sto.upd_ne σ o' h] at q; exact R.head b C da fs q ((ft b).mp f)
theorem StR.X {W : Wd} {σ : Sto} {s : Shared} (R : StR W σ s) : W.K.In s.heap := fun a o e => R.stays a o (W.KX a o e)
theorem StR.lim {W : Wd} {σ : Sto} {s : Shared} (R : StR W σ s) : s.heap.NoLimit := W.lim.keeps R.stays
theorem StR.g {W : Wd} {σ : Sto} {s : Shared} (R : StR W σ s) : s.heap.Ns mainGlobals W.mg := W.g.keeps R.stays
theorem StR.b {W : Wd} {σ : Sto} {s : Shared} (R : StR W σ s) : s.heap.Ns builtinsNs W.mb := W.b.keeps R.stays
structure Gu (x : Addr) (h h' : Heap) : Prop where
 same : Heap.ExtBut x h h'
 obj : ∃ o, h.get? x = some o ∧ ((∃ es n, o.data = .dict es n) ∨ (∃ v, o.data = .cell v) ∨ (∃ vs T, o.data = .fields vs ∧ o.cls = .type T ∧ T ≠ "range"))
theorem Gu.solid (S : Gu x h h') {b : Addr} {o : Obj} (z : Ro o) (e : h.get? b = some o) : b ≠ x := fun q => by
 refine Af (S.obj) fun o' e' c => ?_
 rw [q, e'] at e; cases e
 rcases z with ⟨xs, n, z⟩ | ⟨z1, vs, z⟩ <;> refine oo3 c (fun zq1 => oe2 zq1 fun es m c => ?_) (fun zq2 => oe1 zq2 fun v c => ?_) (fun zq3 => D0 zq3 fun us T c c1 c2 => ?_) <;> rw [c] at z <;> try (cases z)
 rw [c1] at z1; cases z1; exact c2 rfl
theorem Gu.q (S : Gu x h h') (σ : Sto) : Dr σ h σ h' := ⟨fun b o n z e => ⟨S.same b _ (S.solid z e) e, n⟩⟩
theorem StR.side {W : Wd} {σ : Sto} {s s' : Shared} (R : StR W σ s) (S : Gu x s.heap s'.heap) (nf : ¬ foot σ x) (n0 : W.h₀.get? x = none) (hg : s'.gens = s.gens := by rfl) (ho : s'.os = s.os := by rfl) : StR W σ s' := by
 refine ⟨fun b o e => S.same b _ (fun q => by rw [q, n0] at e; cases e) (R.stays b o e), R.foot0, fun a o e => ?_, R.apart, R.head, hg.trans R.gens, ho.trans R.os, R.nsm⟩
 have nx : o.foot a ≠ x := fun q => nf ⟨a, o, e, q⟩
 refine (R.objs a o e).step (S.q σ) (fun y q => ?_) fun y q => S.same _ _ nx q
 cases o with
 | inst C da fs =>
  have h1 := (R.objs a _ e).1
  refine S.same a _ (fun q' => ?_) q
  refine Af (S.obj) fun o' e' c => ?_
  rw [q', e'] at h1
  cases h1
  refine oo3 c (fun zq1 => oe2 zq1 fun es m c => ?_) (fun zq2 => oe1 zq2 fun v c => ?_) (fun zq3 => D0 zq3 fun us T c c1 c2 => ?_) <;> cases c
 | _ => exact S.same _ _ nx q
noncomputable def Sto.del (σ : Sto) (a : Addr) : Sto := fun x => if x = a then none else σ x
theorem Sto.del_upd (σ : Sto) (a : Addr) (o : Cv) (h : σ a = none) : (σ.upd a o).del a = σ := by
 funext x
 unfold Sto.del Sto.upd
 by_cases e : x = a
 ·rw [if_pos e, e, h]
 ·rw [if_neg e, if_neg e]
theorem Ei {σ : Sto} (h : σ a = none) (f : foot σ x) : foot (σ.upd a o) x := by
 (refine Bu f fun b p e q => ?_; clear f)
 refine ⟨b, p, (Sto.upd_ne σ o fun z => ?_).trans e, q⟩
 rw [z, h] at e; cases e
theorem Rps.fewer {σ σ' : Sto} (H : ∀ x, foot σ' x → foot σ x) {vs : List Value} {ds : List D} (r : Rps σ h vs ds) : Rps σ' h vs ds :=
 r.stepQ ⟨fun b o n ω e => ⟨e, fun f => n (H b f)⟩⟩
theorem StR.unhide {W : Wd} {σ : Sto} {s : Shared} {o : Obj} (R : StR W (σ.upd a (.hid o)) s) (h : σ a = none) : StR W σ s ∧ s.heap.get? a = some o ∧ ¬ foot σ a := by
 have old : ∀ b p, σ b = some p → (σ.upd a (.hid o)) b = some p := fun b p e => (Sto.upd_ne σ _ fun z => by rw [z, h] at e; cases e).trans e
 refine ⟨⟨R.stays, fun x f => R.foot0 x (Ei h f), fun b p e => ?_, fun b c p p' e e' f => R.apart b c p p' (old b p e) (old c p' e') f, fun b C da fs e f => R.head b C da fs (old b _ e) (Ei h f), R.gens, R.os, fun x f => R.nsm x (Ei h f)⟩, R.objs a _ (Sto.upd_self ..), ?_⟩
 ·exact (R.objs b p (old b p e)).step ⟨fun b o n ω e => ⟨e, fun f => n (Ei h f)⟩⟩ (fun ω x => x) (fun ω x => x)
 ·rintro ⟨b, p, e, q⟩
  have := R.apart b a p (.hid o) (old b p e) (Sto.upd_self ..) q
  rw [this, h] at e; cases e
structure FrR (σ : Sto) (h : Heap) (env : Env) (nm : List Str) (ρ : List (Option D)) : Prop where
 priv : ¬ foot σ env.locals
 ns : ∃ m, h.Ns env.locals m ∧ ∀ (i : Nat) x d, nm[i]? = some x → ρ[i]? = some (some d) → env.kindOf x = some .local → ∃ v, m x = some v ∧ Rp σ h v d
 cell : ∀ x a, env.cells.lookup x = some a → ¬ foot σ a ∧ ∃ v, h.IsCell a v
 inj : ∀ x y a, env.cells.lookup x = some a → env.cells.lookup y = some a → x = y
 cval : ∀ (i : Nat) x d, nm[i]? = some x → ρ[i]? = some (some d) → (env.kindOf x = some .cell ∨ env.kindOf x = some .free) → ∃ a v, env.cells.lookup x = some a ∧ h.IsCell a (some v) ∧ Rp σ h v d
theorem FrR.step {σ σ' : Sto} (S : AP σ h σ' h') {env : Env} {nm : List Str} {ρ : List (Option D)} (F : FrR σ h env nm ρ) : FrR σ' h' env nm ρ := by
 obtain ⟨p, ⟨m, ⟨o, es, ep, e, r⟩, k⟩, c, inj, v⟩ := F
 refine ⟨(S.priv p e).1, ⟨m, ⟨o, es, ep, (S.priv p e).2, r⟩, fun i x d a b z => ?_⟩, fun x a q => ?_, inj, fun i x d a b z => ?_⟩
 ·refine Af (k i x d a b z) fun v y q => ?_; exact ⟨v, y, q.step S⟩
 ·obtain ⟨n, v, o, y, z⟩ := c x a q; exact ⟨(S.priv n y).1, v, o, (S.priv n y).2, z⟩
 ·refine D0 (v i x d a b z) fun b u y zq1 w => Af zq1 fun o q z => ?_
  exact ⟨b, u, y, ⟨o, (S.priv (c x b y).1 q).2, z⟩, w.step S⟩
theorem FrR.locals {σ : Sto} {env : Env} {nm : List Str} {ρ : List (Option D)} (F : FrR σ h env nm ρ) : ∃ o es n, h.get? env.locals = some o ∧ o.data = .dict es n := by
 obtain ⟨p, ⟨m, ⟨o, es, ep, e, r⟩, k⟩, c, _, v⟩ := F
 exact ⟨o, es, _, e, r.1⟩
theorem FrR.iter {σ : Sto} {env : Env} {nm : List Str} {ρ : List (Option D)} (F : FrR σ h env nm ρ) (S : Gu x h h') {o : Obj} {vs : Array Value} (e : h.get? x = some o) (hd : o.data = .fields vs) : FrR σ h' env nm ρ := by
 have nl : env.locals ≠ x := fun q => by
  refine By (F.locals) fun o' es n e' d => ?_
  rw [q, e] at e'; cases e'; rw [hd] at d; cases d
 have nc : ∀ y a, env.cells.lookup y = some a → a ≠ x := fun y a q z => by
  obtain ⟨_, v, o', e', d⟩ := F.cell y a q
  rw [z, e] at e'; cases e'; rw [hd] at d; cases d
 obtain ⟨p, ⟨m, n, k⟩, c, inj, v⟩ := F
 refine ⟨p, ⟨m, n.extBut S.same nl, fun i x d a b z => ?_⟩, fun x a q => ?_, inj, fun i x d a b z => ?_⟩
 ·refine Af (k i x d a b z) fun v y q => ?_; exact ⟨v, y, q.stepQ (S.q σ)⟩
 ·obtain ⟨n, v, y⟩ := c x a q; exact ⟨n, v, (let ⟨o, e, r⟩ := y; ⟨o, S.same _ _ (nc x a q) e, r⟩)⟩
 ·refine D0 (v i x d a b z) fun b u y q w => ?_
  exact ⟨b, u, y, (let ⟨o, e, r⟩ := q; ⟨o, S.same _ _ (nc x b y) e, r⟩), w.stepQ (S.q σ)⟩
def Own (env : Env) (a : Addr) : Prop := a = env.locals ∨ ∃ x, env.cells.lookup x = some a
def Fn (env : Env) (f : Addr → Option Obj) : Prop := ∀ a, Own env a → f a = none
structure Rq (env : Env) (x : Str) (f : Addr → Option Obj) : Prop where
 loc : env.kindOf x = some .local → f env.locals = none
 cel : ∀ a, env.kindOf x = some .cell → env.cells.lookup x = some a → f a = none
theorem Fn.at {env : Env} (h : Fn env f) (x : Str) : Rq env x f := ⟨fun ω => h _ (.inl rfl), fun a ω e => h a (.inr ⟨x, e⟩)⟩
theorem AI.side {σ₀ σ : Sto} (S : AI σ₀ f σ h) (sb : Heap.ExtBut x h h') (hx : f x = none) : AI σ₀ f σ h' :=
 ⟨fun b o n e => sb b _ (fun q => by rw [q, hx] at e; cases e) (S.keep b o n e), S.fresh⟩
theorem Hi {ρ : List (Option D)} {i j : Nat} {d e : D} (h : (ρ.set i (some d))[j]? = some (some e)) : (j = i ∧ e = d) ∨ (j ≠ i ∧ ρ[j]? = some (some e)) := by
 rw [List.getElem?_set] at h
 by_cases hij : i = j
 ·subst hij
  rw [if_pos rfl] at h
  split at h
  ·cases h; exact .inl ⟨rfl, rfl⟩
  ·cases h
 ·rw [if_neg hij] at h
  exact .inr ⟨Ne.symm hij, h⟩
theorem Mu {nm : List Str} (hn : nm.Nodup) {i j : Nat} {x : Str} (a : nm[i]? = some x) (b : nm[j]? = some x) : i = j :=
 (List.getElem?_inj (List.getElem?_eq_some_iff.mp a).1 hn).mp (a.trans b.symm)
section
variable {M : Model} {A : Around} {E : Value → Shared → Prop} {s : Shared} {σ : Sto} {env : Env} {nm : List Str} {ρ : List (Option D)}
theorem HZ {x : Str} {d : D} {Q : Value → Shared → Prop} (F : FrR σ s.heap env nm ρ) (hx : nm[i]? = some x) (hd : ρ[i]? = some (some d)) (hk : env.scope.kind = .function)
  (hl : env.kindOf x = some .local ∨ env.kindOf x = some .cell ∨ env.kindOf x = some .free) (hc : (x == ("__classdict__" : Str)) = false) (hQ : ∀ v, Rp σ s.heap v d → Q v s) : wpAny M A (loadName env x) Q E s := by
 refine oo3 hl (fun hl => ?_) (fun hl => ?_) (fun hl => ?_)
 ·refine Af (F.ns) fun m n k => ?_
  refine Af (k i x d hx hd hl) fun v hv hr => ?_
  exact wpAny_loadName_local hk hl n hv (hQ v hr)
 ·refine D0 (F.cval i x d hx hd (.inl hl)) fun a v hc hv hr => ?_
  exact wpAny_loadName_cell hk hl hc hv (hQ v hr)
 ·refine D0 (F.cval i x d hx hd (.inr hl)) fun a v hc' hv hr => ?_
  exact wpAny_loadName_free hk hl hc' hv (hQ v hr) hc
theorem Gv {W : Wd} {x : Str} {v : Value} {d : D} {Q : Unit → Shared → Prop} (R : StR W σ s) (F : FrR σ s.heap env nm ρ) (hn : nm.Nodup) (hx : nm[i]? = some x) (hr : Rp σ s.heap v d) (hk : env.scope.kind = .function)
  (hl : env.kindOf x = some .local ∨ (env.kindOf x = some .cell ∧ ∃ a, env.cells.lookup x = some a)) (h0 : Fn env W.h₀.get?)
  (hQ : ∀ s', StR W σ s' → FrR σ s'.heap env nm (ρ.set i (some d)) → (∀ σ₀ f, AI σ₀ f σ s.heap → Rq env x f → AI σ₀ f σ s'.heap) → Q () s') : wpAny M A (storeName env x v) Q E s := by
 rcases hl with hl | ⟨hl, c, hc⟩
 ·refine Af (F.ns) fun m n k => ?_
  refine wpAny_storeName_local hl n (fun h' n' sb => ?_) (by rw [hk]; rfl)
  have hown : Own env env.locals := .inl rfl
  refine By (F.locals) fun o es ep ho hod => ?_
  have S : Gu env.locals s.heap h' := ⟨sb.extBut, o, ho, .inl ⟨es, ep, hod⟩⟩
  refine hQ _ (R.side S F.priv (h0 _ hown)) ⟨F.priv, ⟨_, n', fun j y e a b z => ?_⟩, fun y a q => ?_, F.inj, fun j y e a b z => ?_⟩ fun σ₀ f st hf => st.side sb.extBut (hf.loc hl)
  ·rcases Hi b with ⟨rfl, rfl⟩ | ⟨hj, b⟩
   ·rw [hx] at a; cases a
    exact ⟨v, by simp, hr.stepQ (S.q σ)⟩
   ·have hyx : y ≠ x := fun q => hj (Mu hn (q ▸ a) hx)
    refine Af (k j y e a b z) fun u hu hru => ?_
    exact ⟨u, by simp [hyx, hu], hru.stepQ (S.q σ)⟩
  ·obtain ⟨nf, u, hu⟩ := F.cell y a q
   refine ⟨nf, u, hu.sameBut sb fun z => ?_⟩
   (refine Af hu fun o' e' d' => ?_; clear hu)
   rw [z, ho] at e'; cases e'; rw [hod] at d'; cases d'
  ·rcases Hi b with ⟨rfl, rfl⟩ | ⟨hj, b⟩
   ·rw [hx] at a; cases a
    rw [hl] at z; refine Or.elim z (fun z => ?_) (fun z => ?_) <;> cases z
   ·refine D0 (F.cval j y e a b z) fun c' u h1 h2 h3 => ?_
    refine ⟨c', u, h1, h2.sameBut sb fun z => ?_, h3.stepQ (S.q σ)⟩
    (refine Af h2 fun o' e' d' => ?_; clear h2)
    rw [z, ho] at e'; cases e'; rw [hod] at d'; cases d'
 ·obtain ⟨nf, v₀, hv₀⟩ := F.cell x c hc
  refine wpAny_storeName_cell hk hl hc hv₀ fun h' hv' sb => ?_
  have hown : Own env c := .inr ⟨x, hc⟩
  refine Af (id hv₀) fun o ho hod => ?_
  have S : Gu c s.heap h' := ⟨sb.extBut, o, ho, .inr (.inl ⟨_, hod⟩)⟩
  have nl : env.locals ≠ c := fun q => by
   refine By (F.locals) fun o' es n e' d' => ?_
   rw [q, ho] at e'; cases e'; rw [hod] at d'; cases d'
  refine Af (F.ns) fun m n k => ?_
  refine hQ _ (R.side S nf (h0 _ hown)) ⟨F.priv, ⟨_, n.sameBut sb nl, fun j y e a b z => ?_⟩, fun y a q => ?_, F.inj, fun j y e a b z => ?_⟩ fun σ₀ f st hf => st.side sb.extBut (hf.cel c hl hc)
  ·rcases Hi b with ⟨rfl, rfl⟩ | ⟨hj, b⟩
   ·rw [hx] at a; cases a
    rw [hl] at z; cases z
   ·refine Af (k j y e a b z) fun u hu hru => ?_
    exact ⟨u, hu, hru.stepQ (S.q σ)⟩
  ·obtain ⟨nf', u, hu⟩ := F.cell y a q
   by_cases hac : a = c
   ·subst hac; exact ⟨nf', _, hv'⟩
   ·exact ⟨nf', u, hu.sameBut sb hac⟩
  ·rcases Hi b with ⟨rfl, rfl⟩ | ⟨hj, b⟩
   ·rw [hx] at a; cases a
    exact ⟨c, v, hc, hv', hr.stepQ (S.q σ)⟩
   ·have hyx : y ≠ x := fun q => hj (Mu hn (q ▸ a) hx)
    refine D0 (F.cval j y e a b z) fun c' u h1 h2 h3 => ?_
    exact ⟨c', u, h1, h2.sameBut sb (fun q => hyx (F.inj y x c (q ▸ h1) hc)), h3.stepQ (S.q σ)⟩
end
end
inductive Cst where
 | none | bool (b : Bool) | int (i : Int) | str (s : Str) | bytes (l : List UInt8)
noncomputable def Cst.d : Cst → D
 | .none => .none | .bool b => .bool b | .int i => .int i | .str s => .str s | .bytes l => .bytes l
inductive Blt where
 | len | range | bytes | bytearray | list | sum | max | min
deriving DecidableEq
mutual
inductive PE where
 | cst (c : Cst)
 | loc (i : Nat)
 | bin (op : Operator) (a b : PE)
 | neg (a : PE)
 | not (a : PE)
 | bop (op : BoolOp) (es : PEs)
 | cmp (op : CmpOp) (a b : PE)
 | ite (c a b : PE)
 | call (f : Nat) (es : PEs)
 | blt (b : Blt) (es : PEs)
 | attr (o : PE) (x : Str)
 | idx (o i : PE)
 | slc (o lo hi : PE)
 | tup (es : PEs)
 | lst (es : PEs)
 | dct0
 | dct (kvs : List (Int × Int))
 | dget (o k : PE)
 | comp (elt : PE) (x : Nat) (it : PE) (cnd : PEs)
inductive PEs where
 | nil
 | cons (e : PE) (r : PEs)
end
mutual
inductive PT where
 | loc (i : Nat)
 | attr (o : PE) (x : Str)
 | idx (o i : PE)
 | slc (o lo hi : PE)
 | tup (ts : PTs)
inductive PTs where
 | nil
 | cons (t : PT) (r : PTs)
end
mutual
inductive PS where
 | expr (e : PE)
 | asg (t : PT) (e : PE)
 | aug (i : Nat) (op : Operator) (e : PE)
 | ret (e : PE)
 | cond (c : PE) (a b : PSs)
 | whl (c : PE) (body : PSs)
 | for (t : PT) (it : PE) (body : PSs)
 | brk
 | append (o e : PE)
 | newl (i : Nat) (es : PEs)
 | fail
inductive PSs where
 | nil
 | cons (s : PS) (r : PSs)
end
noncomputable abbrev Rho := List (Option D)
noncomputable abbrev B9 := D → Sto → Prop
noncomputable abbrev Bn := Nat → List D → Sto → B9 → Prop
noncomputable def Du : D → Option Bool
 | .none => some false
 | .bool b => some b
 | .int i => some (i != 0)
 | _ => none
noncomputable def RN : List D → Option (List Int)
 | [] => some []
 | .int i :: r => (RN r).map (i :: ·)
 | _ => none
def D.onI (d : D) (k : Int → Prop) : Prop := match d with
 | .int i => k i
 | _ => False
def D.onB (d : D) (k : Bool → Prop) : Prop := match d with
 | .bool i => k i
 | _ => False
def D.onS (d : D) (k : Str → Prop) : Prop := match d with
 | .str i => k i
 | _ => False
def D.onY (d : D) (k : List UInt8 → Prop) : Prop := match d with
 | .bytes i => k i
 | _ => False
def D.onT (d : D) (k : List D → Prop) : Prop := match d with
 | .tup i => k i
 | _ => False
def D.onL (d : D) (k : List D → Prop) : Prop := match d with
 | .lst i => k i
 | _ => False
def D.onR (d : D) (k : Addr → Prop) : Prop := match d with
 | .ref i => k i
 | _ => False
def D.onN (d : D) (k : Prop) : Prop := match d with
 | .none => k
 | _ => False
def on1 (l : List D) (k : D → Prop) : Prop := match l with
 | [] => False
 | x :: r => (match r with
  | [] => k x
  | _ :: _ => False)
def on2 (l : List D) (k : D → D → Prop) : Prop := match l with
 | [] => False
 | x :: r => on1 r (k x)
def Be (op : Operator) (x y : D) (K : D → Prop) : Prop := match op with
 | .Add => (match x with
  | .int a => y.onI fun b => K (.int (a + b))
  | .lst a => y.onL fun b => a.length + b.length ≤ 1000000 ∧ K (.lst (a ++ b))
  | .tup a => y.onT fun b => a.length + b.length ≤ 1000000 ∧ K (.tup (a ++ b))
  | .bytes a => y.onY fun b => a.length + b.length ≤ 1000000 ∧ K (.bytes (a ++ b))
  | _ => False)
 | .Sub => x.onI fun a => y.onI fun b => K (.int (a - b))
 | .Mult => (match x with
  | .int a => y.onI fun b => (a.natAbs < 2 ^ 60 ∨ b.natAbs < 2 ^ 60) ∧ K (.int (a * b))
  | .lst a => y.onI fun n => (0 ≤ n ∧ n ≤ 1000 ∧ a.length ≤ 1000) ∧ K (.lst ((List.replicate n.toNat a).flatten))
  | _ => False)
 | .FloorDiv => x.onI fun a => y.onI fun b => (b ≠ 0 ∧ b.natAbs < 2 ^ 1000) ∧ K (.int (a.fdiv b))
 | .Mod => x.onI fun a => y.onI fun b => b ≠ 0 ∧ K (.int (a.fmod b))
 | .Pow => x.onI fun a => y.onI fun b => (2 ≤ a ∧ a ≤ 1000 ∧ 0 ≤ b ∧ b ≤ 1000) ∧ K (.int (a ^ b.toNat))
 | .LShift => x.onI fun a => y.onI fun b => (a.natAbs < 2 ^ 1000 ∧ 0 ≤ b ∧ b ≤ 1000) ∧ K (.int (a * 2 ^ b.toNat))
 | .RShift => x.onI fun a => y.onI fun b => 0 ≤ b ∧ K (.int (a.fdiv (2 ^ b.toNat)))
 | .BitAnd => x.onI fun a => y.onI fun b => K (.int (Builtin.bitAnd a b))
 | .BitOr => x.onI fun a => y.onI fun b => K (.int (Builtin.bitOr a b))
 | _ => False
def eqP (x y : D) (K : Bool → Prop) : Prop := match x with
 | .int a => y.onI fun b => K (a == b)
 | .bool a => y.onB fun b => K (a == b)
 | .str a => y.onS fun b => K (a == b)
 | .bytes a => y.onY fun b => K (a == b)
 | .lst a => y.onL fun b => ∃ (x y : List Int), a = x.map D.int ∧ b = y.map D.int ∧ K (x == y)
 | .tup a => y.onT fun b => ∃ (x y : List Int), a = x.map D.int ∧ b = y.map D.int ∧ K (x == y)
 | _ => False
noncomputable def isNone : D → Bool
 | .none => true
 | _ => false
def inP (x y : D) (K : Bool → Prop) : Prop := x.onI fun a => match y with
 | .lst l => ∃ (x : List Int), l = x.map D.int ∧ K (x.contains a)
 | .tup l => ∃ (x : List Int), l = x.map D.int ∧ K (x.contains a)
 | _ => False
def Dp (op : CmpOp) (x y : D) (K : Bool → Prop) : Prop := match op with
 | .Eq => eqP x y K
 | .NotEq => eqP x y (fun r => K (!r))
 | .Lt => x.onI fun a => y.onI fun b => K (decide (a < b))
 | .LtE => x.onI fun a => y.onI fun b => K (decide (a ≤ b))
 | .Gt => x.onI fun a => y.onI fun b => K (decide (b < a))
 | .GtE => x.onI fun a => y.onI fun b => K (decide (b ≤ a))
 | .Is => y.onN (K (isNone x))
 | .IsNot => y.onN (K (!(isNone x)))
 | .In => inP x y K
 | .NotIn => inP x y (fun r => K (!r))
noncomputable def A6 (l : List UInt8) : List D := l.map fun u => .int u.toNat
noncomputable def B1 (a b c : Int) : List Int := (List.range (Builtin.Range.rangeSize a b c).toNat).map fun (i : Nat) => a + i * c
noncomputable def Ah (σ : Sto) : D → Option (List D)
 | .lst l => some l
 | .tup l => some l
 | .rng a b c => if Builtin.Range.small a b c then some ((B1 a b c).map D.int) else none
 | .bytes l => some (A6 l)
 | .ref a => match σ a with
  | some (.barr l) => some (A6 l)
  | some (.mlist l) => some l
  | _ => none
 | _ => none
noncomputable def As (σ : Sto) : D → Bool
 | .ref a => match σ a with
  | some (.barr _) => true
  | _ => false
 | _ => false
noncomputable def BX (i : Int) (n : Nat) : Option Nat := if 0 ≤ i then (if i < n then some i.toNat else none) else if -(n : Int) ≤ i then some (i + n).toNat else none
def Kg (σ : Sto) (o i : D) (K : D → Prop) : Prop := i.onI fun i => match o with
 | .lst l => ∃ d, (BX i l.length).bind (l[·]?) = some d ∧ i.natAbs < 2 ^ 60 ∧ K d
 | .tup l => ∃ d, (BX i l.length).bind (l[·]?) = some d ∧ i.natAbs < 2 ^ 60 ∧ K d
 | .bytes l => ∃ u, (0 ≤ i ∧ l.length ≤ 1000000) ∧ l[i.toNat]? = some u ∧ K (.int u.toNat)
 | .ref a => (∃ l u, σ a = some (.barr l) ∧ (0 ≤ i ∧ i < 2 ^ 60) ∧ l[i.toNat]? = some u ∧ K (.int u.toNat)) ∨
   (∃ es v, σ a = some (.idict es) ∧ es.lookup i = some v ∧ K v)
 | _ => False
noncomputable def bound (n : Nat) : D → Option Nat
 | .none => some 0
 | .int i => if 0 ≤ i ∧ i < 2 ^ 60 then some (min i.toNat n) else none
 | _ => none
noncomputable def Ce (n : Nat) : D → Option Nat
 | .none => some n
 | d => bound n d
noncomputable def cut {α : Type} (l : List α) (lo hi : Nat) : List α := (l.drop lo).take (hi - lo)
def JM (σ : Sto) (x lo hi : D) (K : B9) : Prop := match x with
 | .lst l => ∃ a b, l.length ≤ 1000000 ∧ bound l.length lo = some a ∧ Ce l.length hi = some b ∧ K (.lst (cut l a b)) σ
 | .tup l => ∃ a b, l.length ≤ 1000000 ∧ bound l.length lo = some a ∧ Ce l.length hi = some b ∧ K (.tup (cut l a b)) σ
 | .bytes l => ∃ a b, l.length ≤ 1000000 ∧ bound l.length lo = some a ∧ Ce l.length hi = some b ∧ K (.bytes (cut l a b)) σ
 | .ref r => ∃ l a b, σ r = some (.barr l) ∧ bound l.length lo = some a ∧ Ce l.length hi = some b ∧ ∀ p, σ p = none → K (.ref p) (σ.upd p (.barr (cut l a b)))
 | _ => False
noncomputable def F9 : Int → UInt8 := fun n => n.toNat.toUInt8
def Fa (b : Blt) (ds : List D) (σ : Sto) (K : B9) : Prop := match b with
 | .len => on1 ds fun x => (match x with
   | .lst l => l.length ≤ 1000000 ∧ K (.int l.length) σ
   | .tup l => l.length ≤ 1000000 ∧ K (.int l.length) σ
   | .bytes l => l.length ≤ 1000000 ∧ K (.int l.length) σ
   | .ref a => ∃ l, σ a = some (.barr l) ∧ K (.int l.length) σ
   | _ => False)
 | .range => (match ds with
  | [] => False
  | x :: r => x.onI fun a => match r with
   | [] => Builtin.Range.small 0 a 1 = true ∧ K (.rng 0 a 1) σ
   | y :: r => on1 r fun z => y.onI fun b => z.onI fun c => (Builtin.Range.small a b c = true ∧ 0 < c ∧ c < 2 ^ 60) ∧ K (.rng a b c) σ)
 | .bytes => on1 ds fun x => (match x with
   | .lst l => ∃ (ns : List Int), l = ns.map D.int ∧ (∀ n ∈ ns, 0 ≤ n ∧ n < 256) ∧ ns.length ≤ 1000000 ∧ K (.bytes (ns.map F9)) σ
   | .bytes l => K (.bytes l) σ
   | .ref a => ∃ l, σ a = some (.barr l) ∧ K (.bytes l) σ
   | _ => False)
 | .bytearray => on1 ds fun x => x.onY fun l => l.length ≤ 1000000 ∧ ∀ p, σ p = none → K (.ref p) (σ.upd p (.barr l))
 | .list => on1 ds fun x => x.onR fun a => ∃ l, σ a = some (.barr l) ∧ K (.lst (A6 l)) σ
 | .sum => on1 ds fun x => x.onL fun l => ∃ (ns : List Int), l = ns.map D.int ∧ K (.int ns.sum) σ
 | .max => on2 ds fun x y => x.onI fun a => y.onI fun b => K (.int (max a b)) σ
 | .min => on2 ds fun x y => x.onI fun a => y.onI fun b => K (.int (min a b)) σ
def C4 (σ : Sto) (o : D) (x : Str) (K : D → Prop) : Prop := match o with
 | .ref a => ∃ C da fs d, σ a = some (.inst C da fs) ∧ fs.lookup x = some d ∧ K d
 | _ => False
def PQ (σ : Sto) (o k : D) (K : D → Prop) : Prop := match o with
 | .ref a => ∃ es z ns, σ a = some (.tdict es) ∧ k = Lm (z, ns) ∧ K ((es.lookup (z, ns)).getD .none)
 | _ => False
section
variable (Φ : Bn)
noncomputable def Jt (step : D → (Option D → Prop) → Prop) : List D → List D → (List D → Prop) → Prop
 | [], acc, K => acc.length ≤ 1000000 ∧ K acc
 | d :: ds, acc, K => acc.length ≤ 1000000 ∧ step d fun r => Jt step ds (acc ++ r.toList) K
mutual
noncomputable def wpE : PE → Rho → Sto → B9 → Prop
 | .cst c, _, σ, K => K c.d σ
 | .loc i, ρ, σ, K => match ρ[i]? with
  | some (some d) => K d σ
  | _ => False
 | .bin op a b, ρ, σ, K => wpE a ρ σ fun x σ₁ => wpE b ρ σ₁ fun y σ₂ => Be op x y fun d => K d σ₂
 | .neg a, ρ, σ, K => wpE a ρ σ fun x σ₁ => match x with
  | .int i => K (.int (-i)) σ₁
  | _ => False
 | .not a, ρ, σ, K => wpE a ρ σ fun d σ₁ => ∃ b, Du d = some b ∧ K (.bool (!b)) σ₁
 | .bop op es, ρ, σ, K => wpB op es ρ σ K
 | .cmp op a b, ρ, σ, K => wpE a ρ σ fun x σ₁ => wpE b ρ σ₁ fun y σ₂ => Dp op x y fun r => K (.bool r) σ₂
 | .ite c a b, ρ, σ, K => wpT c ρ σ fun t σ₁ => (t = true → wpE a ρ σ₁ K) ∧ (t = false → wpE b ρ σ₁ K)
 | .call f es, ρ, σ, K => Fq es ρ σ fun ds σ₁ => Φ f ds σ₁ K
 | .blt b es, ρ, σ, K => Fq es ρ σ fun ds σ₁ => Fa b ds σ₁ K
 | .attr o x, ρ, σ, K => wpE o ρ σ fun d σ₁ => C4 σ₁ d x fun v => K v σ₁
 | .idx o i, ρ, σ, K => wpE o ρ σ fun d σ₁ => wpE i ρ σ₁ fun k σ₂ => Kg σ₂ d k fun v => K v σ₂
 | .slc o lo hi, ρ, σ, K => wpE o ρ σ fun d σ₁ => wpE lo ρ σ₁ fun a σ₂ => wpE hi ρ σ₂ fun b σ₃ => JM σ₃ d a b K
 | .tup es, ρ, σ, K => Fq es ρ σ fun ds σ₁ => ds.length ≤ 1000 ∧ K (.tup ds) σ₁
 | .lst es, ρ, σ, K => Fq es ρ σ fun ds σ₁ => ds.length ≤ 1000 ∧ K (.lst ds) σ₁
 | .dct0, _, σ, K => ∀ p, σ p = none → K (.ref p) (σ.upd p .edict)
 | .dct kvs, _, σ, K => (kvs ≠ [] ∧ (kvs.map (·.1)).Nodup ∧ kvs.length ≤ 15) ∧ ∀ p, σ p = none → K (.ref p) (σ.upd p (.idict (kvs.map fun x => (x.1, .int x.2))))
 | .dget o k, ρ, σ, K => wpE o ρ σ fun d σ₁ => (∃ a es, d = .ref a ∧ σ₁ a = some (.tdict es)) ∧ wpE k ρ σ₁ fun x σ₂ => PQ σ₂ d x fun v => K v σ₂
 | .comp elt x it cnd, ρ, σ, K => wpE it ρ σ fun d σ₁ => ∃ items, Ah σ₁ d = some items ∧
   Jt (fun v K' => ∀ p o, σ₁ p = none → wpC cnd (ρ.set x (some v)) (σ₁.upd p (.hid o)) fun b σ₃ => σ₃ = σ₁.upd p (.hid o) ∧
    (b = true → wpE elt (ρ.set x (some v)) σ₃ fun r σ₄ => σ₄ = σ₃ ∧ K' (some r)) ∧ (b = false → K' none)) items [] fun l => K (.lst l) σ₁
noncomputable def wpT : PE → Rho → Sto → (Bool → Sto → Prop) → Prop
 | .not a, ρ, σ, K => wpT a ρ σ fun b σ₁ => K (!b) σ₁
 | .bop op es, ρ, σ, K => JD op es ρ σ K
 | .ite c a b, ρ, σ, K => wpT c ρ σ fun t σ₁ => (t = true → wpT a ρ σ₁ K) ∧ (t = false → wpT b ρ σ₁ K)
 | .cmp op a b, ρ, σ, K => wpE a ρ σ fun x σ₁ => wpE b ρ σ₁ fun y σ₂ => Dp op x y fun r => K r σ₂
 | .cst c, _, σ, K => ∃ b, Du c.d = some b ∧ K b σ
 | .loc i, ρ, σ, K => match ρ[i]? with
  | some (some d) => ∃ b, Du d = some b ∧ K b σ
  | _ => False
 | .call f es, ρ, σ, K => Fq es ρ σ fun ds σ₁ => Φ f ds σ₁ fun d σ₂ => ∃ b, Du d = some b ∧ K b σ₂
 | .bin _ _ _, _, _, _ | .neg _, _, _, _ | .blt _ _, _, _, _ | .attr _ _, _, _, _ | .idx _ _, _, _, _ | .slc _ _ _, _, _, _ | .tup _, _, _, _ | .lst _, _, _, _ | .dct0, _, _, _ | .dct _, _, _, _ | .dget _ _, _, _, _ | .comp _ _ _ _, _, _, _ => False
noncomputable def wpB (op : BoolOp) : PEs → Rho → Sto → B9 → Prop
 | .nil, _, _, _ => False
 | .cons e r, ρ, σ, K => match r with
  | .nil => wpE e ρ σ K
  | .cons e' r' => wpE e ρ σ fun d σ₁ => ∃ b, Du d = some b ∧ ((b = (match op with | .And => true | .Or => false) → wpB op (.cons e' r') ρ σ₁ K) ∧ (b = (match op with | .And => false | .Or => true) → K d σ₁))
noncomputable def JD (op : BoolOp) : PEs → Rho → Sto → (Bool → Sto → Prop) → Prop
 | .nil, _, σ, K => K (match op with | .And => true | .Or => false) σ
 | .cons e r, ρ, σ, K => wpT e ρ σ fun b σ₁ => (b = (match op with | .And => true | .Or => false) → JD op r ρ σ₁ K) ∧ (b = (match op with | .And => false | .Or => true) → K b σ₁)
noncomputable def Fq : PEs → Rho → Sto → (List D → Sto → Prop) → Prop
 | .nil, _, σ, K => K [] σ
 | .cons e r, ρ, σ, K => wpE e ρ σ fun d σ₁ => Fq r ρ σ₁ fun ds σ₂ => K (d :: ds) σ₂
noncomputable def wpC : PEs → Rho → Sto → (Bool → Sto → Prop) → Prop
 | .nil, _, σ, K => K true σ
 | .cons e r, ρ, σ, K => match r with
  | .nil => wpT e ρ σ K
  | .cons _ _ => False
end
end
inductive Fl where
 | next | brk | ret (d : D)
noncomputable abbrev KS := Fl → Rho → Sto → Prop
noncomputable def IV (x : Str) (d : D) : List (Str × D) → List (Str × D)
 | [] => [(x, d)]
 | (y, e) :: r => if y == x then (y, d) :: r else (y, e) :: IV x d r
def P6 (σ : Sto) (o k v : D) (K : Sto → Prop) : Prop := match o with
 | .ref a => (∃ s n, k = .str s ∧ (σ a = some (.sdict n) ∨ σ a = some .edict ∧ n = 0) ∧ n ≤ 1000 ∧ K (σ.upd a (.sdict (n + 1)))) ∨
   (∃ es i, k = .int i ∧ (σ a = some (.idict es) ∨ σ a = some .edict ∧ es = []) ∧ (es.lookup i = none) ∧ es.length ≤ 1000 ∧ K (σ.upd a (.idict (es ++ [(i, v)])))) ∨
   (∃ es z ns, k = Lm (z, ns) ∧ (σ a = some (.tdict es) ∨ σ a = some .edict ∧ es = []) ∧ (es.lookup (z, ns) = none) ∧ es.length ≤ 1000 ∧ K (σ.upd a (.tdict (es ++ [((z, ns), v)]))))
 | _ => False
def Ng (σ : Sto) (o lo hi v : D) (K : Sto → Prop) : Prop := match o with
 | .ref a => ∃ l p q new, σ a = some (.barr l) ∧ v = .bytes new ∧ bound l.length lo = some p ∧ Ce l.length hi = some q ∧ p + new.length = q ∧ K (σ.upd a (.barr (l.take p ++ new ++ l.drop q)))
 | _ => False
noncomputable def Py : PTs → Nat
 | .nil => 0
 | .cons _ r => Py r + 1
noncomputable def Ec (chk : Sto → Prop) (step : D → Rho → Sto → KS → Prop) : List D → Rho → Sto → KS → Prop
 | [], ρ, σ, K => chk σ ∧ K .next ρ σ
 | x :: xs, ρ, σ, K => chk σ ∧ step x ρ σ fun fl ρ' σ' => match fl with
  | .next => Ec chk step xs ρ' σ' K
  | .brk => K .next ρ' σ'
  | .ret d => K (.ret d) ρ' σ'
section
variable (Φ : Bn)
mutual
noncomputable def Ap : PT → D → Rho → Sto → (Rho → Sto → Prop) → Prop
 | .loc i, d, ρ, σ, K => i < ρ.length ∧ K (ρ.set i (some d)) σ
 | .attr o x, d, ρ, σ, K => wpE Φ o ρ σ fun r σ₁ => ∃ a C da fs, r = .ref a ∧ σ₁ a = some (.inst C da fs) ∧ fs.length < 400 ∧ K ρ (σ₁.upd a (.inst C da (IV x d fs)))
 | .idx o i, d, ρ, σ, K => wpE Φ o ρ σ fun r σ₁ => wpE Φ i ρ σ₁ fun k σ₂ => P6 σ₂ r k d fun σ' => K ρ σ'
 | .slc o lo hi, d, ρ, σ, K => wpE Φ o ρ σ fun r σ₁ => wpE Φ lo ρ σ₁ fun a σ₂ => wpE Φ hi ρ σ₂ fun b σ₃ => Ng σ₃ r a b d fun σ' => K ρ σ'
 | .tup ts, d, ρ, σ, K => ∃ ds, d = .tup ds ∧ ds.length = Py ts ∧ NA ts ds ρ σ K
noncomputable def NA : PTs → List D → Rho → Sto → (Rho → Sto → Prop) → Prop
 | .nil, ds, ρ, σ, K => ds = [] ∧ K ρ σ
 | .cons t ts, ds, ρ, σ, K => ∃ d r, ds = d :: r ∧ Ap t d ρ σ fun ρ' σ' => NA ts r ρ' σ' K
end
mutual
noncomputable def wpS : PS → Rho → Sto → KS → Prop
 | .expr e, ρ, σ, K => wpE Φ e ρ σ fun d σ' => d = .none ∧ K .next ρ σ'
 | .asg t e, ρ, σ, K => wpE Φ e ρ σ fun d σ₁ => Ap Φ t d ρ σ₁ fun ρ' σ' => K .next ρ' σ'
 | .aug i op e, ρ, σ, K => ∃ old, ρ[i]? = some (some old) ∧ wpE Φ e ρ σ fun v σ₁ => (op = .Add ∧ (match old with | .int _ => True | .bytes _ => True | _ => False)) ∧ Be .Add old v fun d => K .next (ρ.set i (some d)) σ₁
 | .ret e, ρ, σ, K => wpE Φ e ρ σ fun d σ' => K (.ret d) ρ σ'
 | .cond c a b, ρ, σ, K => wpT Φ c ρ σ fun t σ₁ => (t = true → Ak a ρ σ₁ K) ∧ (t = false → Ak b ρ σ₁ K)
 | .whl c body, ρ, σ, K => ∃ (I : Nat → Rho → Sto → Prop) (n : Nat), I n ρ σ ∧ ∀ n ρ σ, I n ρ σ → wpT Φ c ρ σ fun t σ₁ =>
   (t = true → Ak body ρ σ₁ fun fl ρ' σ' => match fl with
    | .next => ∃ m, m < n ∧ I m ρ' σ'
    | .brk => K .next ρ' σ'
    | .ret d => K (.ret d) ρ' σ') ∧ (t = false → K .next ρ σ₁)
 | .for t it body, ρ, σ, K => wpE Φ it ρ σ fun d σ₁ => ∃ items, Ah σ₁ d = some items ∧
   Ec (fun σ => Ah σ d = some items ∧ As σ d = As σ₁ d) (fun x ρ σ K' => Ap Φ t x ρ σ fun ρ' σ' => Ak body ρ' σ' K') items ρ σ₁ K
 | .brk, ρ, σ, K => K .brk ρ σ
 | .append o e, ρ, σ, K => wpE Φ o ρ σ fun r σ₁ => (∃ a l, r = .ref a ∧ σ₁ a = some (.mlist l)) ∧ wpE Φ e ρ σ₁ fun d σ₂ => ∃ a l, r = .ref a ∧ σ₂ a = some (.mlist l) ∧ l.length < 1000 ∧ K .next ρ (σ₂.upd a (.mlist (l ++ [d])))
 | .newl i es, ρ, σ, K => Fq Φ es ρ σ fun ds σ₁ => (i < ρ.length ∧ ds.length ≤ 1000) ∧ ∀ p, σ₁ p = none → K .next (ρ.set i (some (.ref p))) (σ₁.upd p (.mlist ds))
 | .fail, _, _, _ => False
noncomputable def Ak : PSs → Rho → Sto → KS → Prop
 | .nil, ρ, σ, K => K .next ρ σ
 | .cons s r, ρ, σ, K => wpS s ρ σ fun fl ρ' σ' => match fl with
  | .next => Ak r ρ' σ' K
  | .brk => K .brk ρ' σ'
  | .ret d => K (.ret d) ρ' σ'
end
end
structure Tab where
 fns : List Str
 attrs : List Str
 muts : List Str
noncomputable def CO (l : List Str) (x : Str) : Option Nat := l.findIdx? (·== x)
noncomputable def I4 (sc : Scope) (x : Str) : Bool := match sc.names.lookup x with
 | some .local => true
 | some .cell => true
 | some .free => true
 | _ => false
noncomputable def Jm (sc : Scope) (x : Str) : Bool := sc.names.lookup x == some .globalImplicit
noncomputable def MU : List (Str × Blt) := [("len", .len), ("range", .range), ("bytes", .bytes), ("bytearray", .bytearray), ("list", .list), ("sum", .sum), ("max", .max), ("min", .min)]
noncomputable def Jy (x : Str) : Option Blt := MU.lookup x
noncomputable def PJ : List (Str × Int) := [("INVALID", 1), ("RELATED", 4)]
noncomputable def ME (x : Str) : Option Int := PJ.lookup x
noncomputable def Rh : Const → Option Cst
 | .none => some .none
 | .bool b => some (.bool b)
 | .int i => some (.int i)
 | .str s => some (.str s)
 | .bytes b => some (.bytes b)
 | _ => none
noncomputable def R9 : Operator → Bool
 | .Add | .Sub | .Mult | .FloorDiv | .Mod | .Pow | .LShift | .RShift | .BitAnd | .BitOr => true
 | _ => false
inductive Vw where
 | const (c : Const) (k : Nat) (p : Pos)
 | name (x : Str) (p : Pos)
 | call (f : Expr) (as : List Expr) (ks : List Keyword) (p : Pos)
 | attr (o : Expr) (x : Str) (p : Pos)
 | tup (es : List Expr)
 | lst (es : List Expr)
 | slc
 | star
 | other
noncomputable def vw : Expr → Vw
 | .Constant c k p => .const c k p
 | .Name x p => .name x p
 | .Call f as ks p => .call f as ks p
 | .Attribute o x p => .attr o x p
 | .Tuple es _ _ => .tup es
 | .List es _ => .lst es
 | .Slice .. => .slc
 | .Starred .. => .star
 | _ => .other
noncomputable def Ik (e : Expr) : Option Int := match vw e with
 | .const c _ _ => (match c with
  | .int i => some i
  | _ => none)
 | _ => none
noncomputable def Dk : List (Option Expr) → List Expr → Option (List (Int × Int))
 | [], vs => (match vs with
  | [] => some []
  | _ :: _ => none)
 | k :: r, vs => match vs with
  | [] => none
  | v :: r' => k.bind fun k => (Ik k).bind fun i => (Ik v).bind fun j => (Dk r r').map ((i, j) :: ·)
noncomputable def Ke (e : Expr) : Bool := match vw e with
 | .star => true
 | _ => false
noncomputable def Hl (e : Expr) : Bool := match vw e with
 | .slc => true
 | _ => false
section
variable (T : Tab) (nm : List Str) (n : Nat)
mutual
noncomputable def stE (sc : Scope) : Expr → Option PE
 | .Constant c _ _ => (Rh c).map .cst
 | .Name x _ => if I4 sc x then (CO nm x).map .loc else if Jm sc x then (ME x).map fun i => .cst (.int i) else none
 | .BinOp l op r _ => if R9 op then (stE sc l).bind fun a => (stE sc r).map fun b => .bin op a b else none
 | .UnaryOp op x _ => match op with
  | .USub => (stE sc x).map .neg
  | .Not => (stE sc x).map .not
  | _ => none
 | .BoolOp op es _ => (Cg sc es).map (.bop op)
 | .Compare l ops cs _ => match ops with
  | [op] => (stE sc l).bind fun a => (Cg sc cs).bind fun bs => match bs with
   | .cons b .nil => some (.cmp op a b)
   | _ => none
  | _ => none
 | .IfExp c a b _ => (stE sc c).bind fun c' => (stE sc a).bind fun a' => (stE sc b).map fun b' => .ite c' a' b'
 | .Call f as ks pos => (Cg sc as).bind fun es => match ks with
  | [] => (match f with
   | .Name x _ => if Jm sc x then (match Jy x with
     | some b => some (.blt b es)
     | none => (CO T.fns x).bind fun i => if i < n then some (.call i es) else none) else none
   | .Attribute o x apos => if x == "get" && apos.endLine == pos.line then (match es with
     | .nil => none
     | .cons k r => match r with
      | .nil => (stE sc o).map fun o' => .dget o' k
      | .cons _ _ => none) else none
   | _ => none)
  | _ :: _ => none
 | .Attribute o x _ => if T.attrs.contains x then (stE sc o).map fun o' => .attr o' x else none
 | .Subscript o i _ => (stE sc o).bind fun o' => if Hl i then (Ql sc i).map fun x => .slc o' x.1 x.2 else (stE sc i).map fun i' => .idx o' i'
 | .Tuple es _ _ => (Cg sc es).map .tup
 | .List es _ => (Cg sc es).map .lst
 | .Dict ks vs _ => match ks with
  | [] => (match vs with
   | [] => some .dct0
   | _ :: _ => none)
  | _ :: _ => (Dk ks vs).map .dct
 | .ListComp e gs scope _ => match gs with
  | [] => none
  | g :: gs' => match gs' with
   | _ :: _ => none
   | [] => match g with
    | ⟨tg, it, ifs, as⟩ => match tg with
     | .Name x _ => if as == 0 && scope.kind == .function && scope.names.lookup x == some .local && (scope.names.all fun y => (y.2 == .free && (sc.names.lookup y.1 == some .cell)) || y.2 == .globalImplicit || (y.2 == .local && (y.1 == x || y.1 == ".0"))) then
       (stE sc it).bind fun it' => (stE scope e).bind fun e' => (Cg scope ifs).bind fun c' => (CO nm x).map fun i => .comp e' i it' c'
      else none
     | _ => none
 | _ => none
noncomputable def Cg (sc : Scope) : List Expr → Option PEs
 | [] => some .nil
 | e :: r => if Ke e then none else (stE sc e).bind fun e' => (Cg sc r).map fun r' => .cons e' r'
noncomputable def Ql (sc : Scope) : Expr → Option (PE × PE)
 | .Slice lo hi none _ => (stO sc lo).bind fun a => (stO sc hi).map fun b => (a, b)
 | _ => none
noncomputable def stO (sc : Scope) : Option Expr → Option PE
 | none => some (.cst .none)
 | some e => stE sc e
end
mutual
noncomputable def stT (sc : Scope) : Expr → Option PT
 | .Name x _ => if I4 sc x && (sc.names.lookup x != some .free) then (CO nm x).map .loc else none
 | .Attribute o x _ => if T.attrs.contains x then (stE T nm n sc o).map fun o' => .attr o' x else none
 | .Subscript o i _ => (stE T nm n sc o).bind fun o' => if Hl i then (Ql T nm n sc i).map fun x => .slc o' x.1 x.2 else (stE T nm n sc i).map fun i' => .idx o' i'
 | .Tuple ts _ _ => (JH sc ts).map .tup
 | _ => none
noncomputable def JH (sc : Scope) : List Expr → Option PTs
 | [] => some .nil
 | t :: r => (stT sc t).bind fun t' => (JH sc r).map fun r' => .cons t' r'
end
noncomputable def J9 (e : Expr) : Bool := match vw e with
 | .tup vs => !(vs.all (constantsAlone 8))
 | _ => true
noncomputable def Pw (e : Expr) : Option (List Expr) := match vw e with
 | .lst es => some es
 | _ => none
noncomputable def stX (sc : Scope) (e : Expr) : Option PS := match vw e with
 | .call f as ks pos => (match vw f with
  | .attr o x apos => (match as with
   | [] => none
   | e :: r => match r with
    | _ :: _ => none
    | [] => match ks with
     | _ :: _ => none
     | [] => if x == "append" && apos.endLine == pos.line then (stE T nm n sc o).bind fun o' => (stE T nm n sc e).map fun e' => .append o' e' else none)
  | .name x p => (stE T nm n sc (.Call (.Name x p) as ks pos)).map .expr
  | _ => none)
 | _ => none
noncomputable def stA (sc : Scope) (t v : Expr) : Option PS := match vw t with
 | .name x _ => if T.muts.contains x then (if sc.names.lookup x == some .local then (Pw v).bind fun es => (Cg T nm n sc es).bind fun es' => (CO nm x).map fun i => .newl i es' else none)
    else (stT T nm n sc t).bind fun t' => (stE T nm n sc v).map fun v' => .asg t' v'
 | _ => if J9 v then (stT T nm n sc t).bind fun t' => (stE T nm n sc v).map fun v' => .asg t' v' else none
noncomputable def stU (sc : Scope) (t : Expr) (op : Operator) (e : Expr) : Option PS := match vw t with
 | .name x _ => if sc.names.lookup x == some .local && R9 op then (CO nm x).bind fun i => (stE T nm n sc e).map fun e' => .aug i op e' else none
 | _ => none
mutual
noncomputable def stS (sc : Scope) : Stmt → Option PS
 | .Expr e _ => stX T nm n sc e
 | .Assign ts v _ => match ts with
  | [] => none
  | t :: r => match r with
   | [] => stA T nm n sc t v
   | _ :: _ => none
 | .AugAssign t op e _ => stU T nm n sc t op e
 | .Return o _ => match o with
  | some e => (stE T nm n sc e).map .ret
  | none => some (.ret (.cst .none))
 | .If c a b _ => (stE T nm n sc c).bind fun c' => (GZ sc a).bind fun a' => (GZ sc b).map fun b' => .cond c' a' b'
 | .While c a b _ => match b with
  | [] => (stE T nm n sc c).bind fun c' => (GZ sc a).map fun a' => .whl c' a'
  | _ :: _ => none
 | .For t it a b _ => match b with
  | [] => (stT T nm n sc t).bind fun t' => (stE T nm n sc it).bind fun it' => (GZ sc a).map fun a' => .for t' it' a'
  | _ :: _ => none
 | .Break _ => some .brk
 | .Raise _ _ _ => some .fail
 | _ => none
noncomputable def GZ (sc : Scope) : List Stmt → Option PSs
 | [] => some .nil
 | s :: r => (stS sc s).bind fun s' => (GZ sc r).map fun r' => .cons s' r'
end
end
section
variable {a b : Addr} {K : Bool → Prop} {h : Heap} {x : Int} {k : Int → Prop} {ms ns : List Int} {P : Prop} {u v : Value} {Q : Value → Shared → Prop} {W : Wd}
abbrev OpQ (σ : Sto) (s : Shared) (K : D → Prop) (Q : Value → Shared → Prop) : Prop :=
 ∀ v s' d, K d → Rp σ s'.heap v d → AM s.heap s'.heap → s'.gens = s.gens → s'.os = s.os → Q v s'
section
variable {prog : Program} {w : World} {A : Around} {E : Value → Shared → Prop} {s : Shared} {σ : Sto}
@[elab_as_elim] theorem AY {α β : Type} {o : Option α} {f : α → β} {y : β} {P : β → Prop} (h : o.map f = some y) (c : ∀ a, o = some a → P (f a)) : P y := by
 (refine Af (Option.map_eq_some_iff.mp h) fun a h1 zq1 => ?_; subst zq1)
 exact c a h1
theorem AW {α β : Type} {o : Option α} {f : α → Option β} {y : β} (h : o.bind f = some y) (c : ∀ a, o = some a → f a = some y → P) : P := by
 refine Af (Option.bind_eq_some_iff.mp h) fun a h1 h2 => ?_
 exact c a h1 h2
theorem CU {α : Type} {b : Prop} [Decidable b] {o : Option α} {y : α} (h : (if b then o else none) = some y) (c : b → o = some y → P) : P := by
 by_cases hb : b
 ·rw [if_pos hb] at h; exact c hb h
 ·rw [if_neg hb] at h; cases h
theorem HR {α : Type} {b : Prop} [Decidable b] {o o' : Option α} {y : α} (h : (if b then o else o') = some y) (c : b → o = some y → P) (c' : ¬ b → o' = some y → P) : P := by
 by_cases hb : b
 ·rw [if_pos hb] at h; exact c hb h
 ·rw [if_neg hb] at h; exact c' hb h
theorem R8 {α : Type} {b : Prop} [Decidable b] {o : Option α} {y : α} (h : (if b then none else o) = some y) (c : ¬ b → o = some y → P) : P :=
 HR h (fun ω h => by cases h) c
theorem nos {α : Type} {a : α} (h : none = some a) : P := by cases h
@[elab_as_elim] theorem CM {α : Type} {a b : α} {P : α → Prop} (h : some a = some b) (c : P a) : P b := by cases h; exact c
theorem Rps.rep {vs : List Value} {ds : List D} (r : Rps σ h vs ds) : ∀ n, Rps σ h (List.replicate n vs).flatten (List.replicate n ds).flatten
 | 0 => .nil
 | n + 1 => by rw [List.replicate_succ, List.replicate_succ, List.flatten_cons, List.flatten_cons]; exact r.append (r.rep n)
theorem Ar {s : Shared} (R : StR W σ s) (e : s.heap.get? a = none) : ¬ foot σ a := fun f => by refine oe1 (R.footAt f) fun o q => ?_; rw [e] at q; cases q
theorem AF (h : Heap) : h.get? h.objs.size = none := by
 cases e : h.get? h.objs.size with
 | none => rfl
 | some o => exact absurd (Heap.lt_size e) (Nat.lt_irrefl _)
theorem Kn {m : Nat} (h : x.natAbs < 2 ^ m) : Builtin.Int.intBits x ≤ m := intBits_le h
@[elab_as_elim] theorem Rp.onI {d : D} {P : Value → Prop} (r : Rp σ h v d) (hk : d.onI k) (c : ∀ i t, k i → P (.int i t)) : P v := by
 cases d <;> first | exact False.elim hk | exact r.eI fun t => c _ t hk
theorem Ty {d : D} (h : d.onI k) (c : ∀ i, k i → P) : P := by
 cases d <;> first | exact False.elim h | exact c _ h
@[elab_as_elim] theorem Rp.onB {d : D} {k : Bool → Prop} {P : Value → Prop} (r : Rp σ h v d) (hk : d.onB k) (c : ∀ i, k i → P (.bool i)) : P v := by
 cases d <;> first | exact False.elim hk | exact r.eB (c _ hk)
@[elab_as_elim] theorem Rp.onS {d : D} {k : Str → Prop} {P : Value → Prop} (r : Rp σ h v d) (hk : d.onS k) (c : ∀ i t, k i → P (.str i t)) : P v := by
 cases d <;> first | exact False.elim hk | exact r.eS fun t => c _ t hk
@[elab_as_elim] theorem Rp.onY {d : D} {k : List UInt8 → Prop} {P : Value → Prop} (r : Rp σ h v d) (hk : d.onY k) (c : ∀ i t, k i → P (.bytes ⟨i⟩ t)) : P v := by
 cases d <;> first | exact False.elim hk | exact r.eY fun t => c _ t hk
@[elab_as_elim] theorem Rp.onT {d : D} {k : List D → Prop} {P : Value → Prop} (r : Rp σ h v d) (hk : d.onT k) (c : ∀ i a vs, k i → ¬ foot σ a → h.IsTuple a ⟨vs⟩ → Rps σ h vs i → P (.ref a)) : P v := by
 cases d <;> first | exact False.elim hk | exact r.eT fun a vs => c _ a vs hk
@[elab_as_elim] theorem Rp.onL {d : D} {k : List D → Prop} {P : Value → Prop} (r : Rp σ h v d) (hk : d.onL k) (c : ∀ i a vs, k i → ¬ foot σ a → h.IsList a ⟨vs⟩ → Rps σ h vs i → P (.ref a)) : P v := by
 cases d <;> first | exact False.elim hk | exact r.eL fun a vs => c _ a vs hk
@[elab_as_elim] theorem Rp.onR {d : D} {k : Addr → Prop} {P : Value → Prop} (r : Rp σ h v d) (hk : d.onR k) (c : ∀ a, k a → P (.ref a)) : P v := by
 cases d <;> first | exact False.elim hk | exact r.eR (c _ hk)
@[elab_as_elim] theorem Rp.onN {d : D} {k : Prop} {P : Value → Prop} (r : Rp σ h v d) (hk : d.onN k) (c : k → P .none) : P v := by
 cases d <;> first | exact False.elim hk | exact r.eN (c hk)
theorem RC {vs : Array Value} (l : h.IsList a vs) (c : ∀ dd n sl, h.get? a = some ⟨.type "list", dd, .seq vs n, sl⟩ → P) : P := by
 obtain ⟨⟨cls, dd, data, sl⟩, ho, rfl, n, rfl⟩ := l
 exact c _ _ _ ho
theorem Qs {vs : Array Value} (l : h.IsTuple a vs) (c : ∀ dd n sl, h.get? a = some ⟨.type "tuple", dd, .seq vs n, sl⟩ → P) : P := by
 obtain ⟨⟨cls, dd, data, sl⟩, ho, rfl, n, rfl⟩ := l
 exact c _ _ _ ho
theorem OpQ.same {K : D → Prop} (hQ : OpQ σ s K Q) {s' : Shared} {d : D} (k : K d) (r : Rp σ s'.heap v d) (e : s.heap = s'.heap := by rfl) (e1 : s'.gens = s.gens := by rfl) (e2 : s'.os = s.os := by rfl) : Q v s' :=
 hQ _ _ _ k r (e ▸ AM.refl _) e1 e2
theorem OpQ.list {K : D → Prop} (hQ : OpQ σ s K Q) (R : StR W σ s) {vs ws : List Value} {ds : List D} (k : K (.lst ds)) (r : Rps σ s.heap vs ds) (e : ws = vs) :
  Q (.ref s.heap.objs.size) { s with heap := s.heap.push { cls := .type "list", data := .seq ⟨ws⟩ } } := by
 subst e
 have g := AM.push s.heap { cls := .type "list", data := .seq ⟨ws⟩ }
 exact hQ _ { s with heap := s.heap.push { cls := .type "list", data := .seq ⟨ws⟩ } } _ k (.lst _ ws _ (Ar R (AF _)) ⟨_, Heap.get?_push_size _ rfl, rfl, 0, rfl⟩ (r.step g.step)) g rfl rfl
theorem OpQ.tuple {K : D → Prop} (hQ : OpQ σ s K Q) (R : StR W σ s) {vs ws : List Value} {ds : List D} (k : K (.tup ds)) (r : Rps σ s.heap vs ds) (e : ws = vs) :
  Q (.ref s.heap.objs.size) { s with heap := s.heap.push { cls := .type "tuple", data := .seq ⟨ws⟩ } } := by
 subst e
 have g := AM.push s.heap { cls := .type "tuple", data := .seq ⟨ws⟩ }
 exact hQ _ { s with heap := s.heap.push { cls := .type "tuple", data := .seq ⟨ws⟩ } } _ k (.tup _ ws _ (Ar R (AF _)) ⟨_, Heap.get?_push_size _ rfl, rfl, 0, rfl⟩ (r.step g.step)) g rfl rfl
@[elab_as_elim] theorem Rps.eNl {ds : List D} {P : List D → Prop} (r : Rps σ h [] ds) (c : P []) : P ds := by cases r; exact c
theorem RL {b : Int} (h : b.natAbs < 2 ^ 1000) : b.natAbs.log2 < 9000 := by
 by_cases z : b.natAbs = 0
 ·rw [z]; decide
 ·exact Nat.lt_trans ((Nat.log2_lt (k := 1000) z).mpr h) (by decide)
theorem Pf {a b : Int} (h : 2 ≤ a ∧ a ≤ 1000 ∧ 0 ≤ b ∧ b ≤ 1000) : b ≤ 1000000 ∧ a.natAbs < 2 ^ 64 :=
 ⟨Int.le_trans h.2.2.2 (by decide), Int.ofNat_lt.mp (by rw [Int.natAbs_of_nonneg (Int.le_trans (by decide) h.1)]; exact Int.lt_of_le_of_lt h.2.1 (by decide))⟩
theorem RA {n : Nat} {b : Int} (h : n ≤ 1000) (g : b ≤ 1000) : (n : Int) + b ≤ 2 ^ 27 := by lia
theorem ST {K : D → Prop} (R : StR W σ s) {vs ws : List Value} {ds es : List D} (l1 : s.heap.IsList a ⟨vs⟩) (r1 : Rps σ s.heap vs ds) (l2 : s.heap.IsList b ⟨ws⟩) (r2 : Rps σ s.heap ws es)
  (hl : ds.length + es.length ≤ 1000000) (hp : K (.lst (ds ++ es))) (hQ : OpQ σ s K Q) : wpAny (model prog w) A (binaryOp .Add (.ref a) (.ref b)) Q E s :=
 RC l1 fun dd n sl ho => RC l2 fun dd2 n2' sl2 ho2 => by
  refine concat_meets ⟨_, ho, rfl⟩ ⟨_, ho2, rfl⟩ noFill_list_add seq_list_add PySem.F.slot_list_add PySem.F.entry_list_add (PySem.F.args_list_add_2 _ _)
   (list_addW a b _ _ n n2' dd dd2 sl sl2 (by rw [sizeLine_eq]; show vs.length + ws.length ≤ _; rw [r1.length, r2.length]; exact Nat.le_trans hl (by decide))) ⟨ho, ho2, ?_⟩
  rw [show (⟨vs⟩ : Array Value) ++ ⟨ws⟩ = ⟨vs ++ ws⟩ by simp]
  exact hQ.list R hp (r1.append r2) rfl
theorem SS {K : D → Prop} (R : StR W σ s) {vs ws : List Value} {ds es : List D} (n1 : ¬ foot σ a) (l1 : s.heap.IsTuple a ⟨vs⟩) (r1 : Rps σ s.heap vs ds) (n2 : ¬ foot σ b) (l2 : s.heap.IsTuple b ⟨ws⟩) (r2 : Rps σ s.heap ws es)
  (hl : ds.length + es.length ≤ 1000000) (hp : K (.tup (ds ++ es))) (hQ : OpQ σ s K Q) : wpAny (model prog w) A (binaryOp .Add (.ref a) (.ref b)) Q E s :=
 Qs l1 fun dd n sl ho => Qs l2 fun dd2 n2' sl2 ho2 => by
  have go : ∀ {S : PySem.Spec}, Meets (Builtin.«tuple.__add__» ⟨[.ref a, .ref b], []⟩) S → S A (wants Q E) s → wpAny (model prog w) A (binaryOp .Add (.ref a) (.ref b)) Q E s := fun g h =>
   concat_meets ⟨_, ho, rfl⟩ ⟨_, ho2, rfl⟩ noFill_tuple_add seq_tuple_add PySem.F.slot_tuple_add PySem.F.entry_tuple_add (PySem.F.args_tuple_add_2 _ _) g h
  cases vs with
  | nil => exact go (tuple_addW0 a b ⟨[]⟩ ⟨ws⟩ n n2' dd dd2 sl sl2 rfl) ⟨ho, ho2, r1.eNl (P := fun ds => K (.tup (ds ++ es)) → Q (.ref b) s) (fun hp => hQ.same hp (.tup _ _ _ n2 l2 r2)) hp⟩
  | cons v vs => cases ws with
   | nil => exact go (tuple_addW1 a b ⟨v :: vs⟩ ⟨[]⟩ n n2' dd dd2 sl sl2 Bool.false_ne_true rfl) ⟨ho, ho2, r2.eNl (P := fun es => K (.tup (ds ++ es)) → Q (.ref a) s) (fun hp => hQ.same (by rw [List.append_nil] at hp; exact hp) (.tup _ _ _ n1 l1 r1)) hp⟩
   | cons u ws =>
    refine go (tuple_addW2 a b ⟨v :: vs⟩ ⟨u :: ws⟩ n n2' dd dd2 sl sl2 Bool.false_ne_true Bool.false_ne_true (by rw [sizeLine_eq]; show (v :: vs).length + (u :: ws).length ≤ _; rw [r1.length, r2.length]; exact Nat.le_trans hl (by decide))) ⟨ho, ho2, ?_⟩
    have := hQ.tuple R hp (r1.append r2) rfl
    simpa using this
theorem Sq {K : D → Prop} (R : StR W σ s) {l : Addr} {vs : List Value} {ds : List D} {u : Tok} (l1 : s.heap.IsList l ⟨vs⟩) (r1 : Rps σ s.heap vs ds)
  (hz : 0 ≤ x ∧ x ≤ 1000 ∧ ds.length ≤ 1000) (hp : K (.lst ((List.replicate x.toNat ds).flatten))) (hQ : OpQ σ s K Q) : wpAny (model prog w) A (binaryOp .Mult (.ref l) (.int x u)) Q E s :=
 RC l1 fun dd n sl ho => by
  refine oa3 hz fun h0 h9 hz => ?_
  rw [← r1.length] at hz
  have a2 : x.toNat ≤ 1000 := by lia
  have hsz' : (⟨vs⟩ : Array Value).size * x.toNat ≤ 2 ^ 24 := Nat.le_trans (Nat.mul_le_mul hz a2) (by decide)
  refine wpAny_binaryOp_repeat_ref (T := "list") (U := "int") (by decide) ⟨_, ho, rfl⟩ (fun s' => typeIs_int s' x u) noFill_list_mul PySem.F.fills_int_mul PySem.F.slot_int_rmul repeat_list PySem.F.slot_int_index.lookup
   (call_meets PySem.F.slot_int_rmul (typeIs_int s x u) PySem.F.entry_int_rmul (PySem.F.args_int_rmul_2 _ _) (lm_int_rmul_list_any x u l _ n dd sl)
    ⟨ho, rfl, ⟨_, ho, rfl⟩, call_meets PySem.F.slot_list_mul ⟨_, ho, rfl⟩ PySem.F.entry_list_mul (PySem.F.args_list_mul_2 _ _)
     (lm_list_mul_any l _ n dd sl x u (by simp [Builtin.List.listFitsIndex]; clear R hp hQ l1 r1 ho; omega) (by clear R hp hQ l1 r1 ho; lia) (by simp [Builtin.List.listTooLong, sizeLine]; clear R hp hQ l1 r1 ho; omega))
     ⟨ho, ?_⟩⟩)
  rw [listMul_foldl_if]
  exact hQ.list R hp (r1.rep x.toNat) rfl
theorem T4 {K : D → Prop} {a b : List UInt8} {t u : Tok} (hl : a.length + b.length ≤ 1000000) (hp : K (.bytes (a ++ b))) (hQ : OpQ σ s K Q) :
  wpAny (model prog w) A (binaryOp .Add (.bytes ⟨a⟩ t) (.bytes ⟨b⟩ u)) Q E s := by
 refine PySem.W.KBy.add_bytes (by show a.length + b.length ≤ _; exact Nat.le_trans hl (by decide)) fun t' k => ?_
 rw [show (⟨a⟩ : Array UInt8) ++ ⟨b⟩ = ⟨a ++ b⟩ by simp]
 exact hQ.same hp (.bytes _ _)
theorem OB {op : Operator} {x y : D} {K : D → Prop} (R : StR W σ s) (h1 : Rp σ s.heap v x) (h2 : Rp σ s.heap u y) (hp : Be op x y K)
  (hQ : OpQ σ s K Q) : wpAny (model prog w) A (binaryOp op v u) Q E s := by
 cases op with
 | Add => cases x with
  | int a => exact h1.eI fun t => h2.onI hp fun b u hp => add_int (hQ.same hp (.int _ _))
  | lst a => exact h1.eL fun a vs n1 l1 r1 => h2.onL hp fun es b ws hp n2 l2 r2 => ST R l1 r1 l2 r2 hp.1 hp.2 hQ
  | tup a => exact h1.eT fun a vs n1 l1 r1 => h2.onT hp fun es b ws hp n2 l2 r2 => SS R n1 l1 r1 n2 l2 r2 hp.1 hp.2 hQ
  | bytes a => exact h1.eY fun t => h2.onY hp fun b u hp => T4 hp.1 hp.2 hQ
  | _ => exact False.elim hp
 | Sub => exact h1.onI hp fun a t hp => h2.onI hp fun b u hp => sub_int (hQ.same hp (.int _ _))
 | Mult => cases x with
  | int a => exact h1.eI fun t => h2.onI hp fun b u hp => AutoIntOps.mul_0 (hQ.same (s' := { s with toks := s.toks + 1 }) hp.2 (.int _ _)) (hp.1.elim (fun h => .of_left (Kn (Nat.lt_of_lt_of_le h (by decide)))) fun h => .of_right (Kn (Nat.lt_of_lt_of_le h (by decide))))
  | lst a => exact h1.eL fun a vs n1 l1 r1 => h2.onI hp fun b u hp => Sq R l1 r1 hp.1 hp.2 hQ
  | _ => exact False.elim hp
 | FloorDiv => exact h1.onI hp fun a t hp => h2.onI hp fun b u hp => floordiv_int hp.1.1 (hQ.same hp.2 (.int _ _)) (.inl (PyProof.noPylong_of_log2 (RL hp.1.2)))
 | Mod => exact h1.onI hp fun a t hp => h2.onI hp fun b u hp => mod_int hp.1 (hQ.same hp.2 (.int _ _))
 | Pow => exact h1.onI hp fun a t hp => h2.onI hp fun b u hp => pow_int_small hp.1.2.2.1 (Pf hp.1).1 (Pf hp.1).2 (hQ.same hp.2 (.int _ _))
 | LShift => exact h1.onI hp fun a t hp => h2.onI hp fun b u hp => lshift_int hp.1.2.1 (RA (Kn hp.1.1) hp.1.2.2) (hQ.same hp.2 (.int _ _))
 | RShift => exact h1.onI hp fun a t hp => h2.onI hp fun b u hp => rshift_int hp.1 (hQ.same hp.2 (.int _ _))
 | BitAnd => exact h1.onI hp fun a t hp => h2.onI hp fun b u hp => and_int (hQ.same hp (.int _ _))
 | BitOr => exact h1.onI hp fun a t hp => h2.onI hp fun b u hp => or_int (hQ.same hp (.int _ _))
 | _ => exact False.elim hp
theorem BV {vs : List Value} (hl : h.IsTuple a vs.toArray) (hi : IntsAre vs ns) : Reads h (.ref a) (.tuple (ns.map PyData.int)) [] := by
 obtain ⟨o, ho, hc, n, hd⟩ := hl
 exact Reads.tuple ho hc hd (by simpa using readsAll_of_ints hi)
theorem BD (ns : List Int) : SeqAt.shaped (.tuple (ns.map PyData.int)) = true := by
 simp [SeqAt.shaped, PyData.canLay0, PyData.depth, ke_canLayAll0, ke_depthAll]
theorem QM {vs us : List Value} (hl : s.heap.IsTuple a vs.toArray) (hi : IntsAre vs ns) (hl' : s.heap.IsTuple b us.toArray) (hi' : IntsAre us ms) (hu : A.units + 64 < cLine)
  (h : Q (.bool (decide (ns = ms))) s) : wpAny (model prog w) A (compareOp .Eq (.ref a) (.ref b)) Q E s :=
 eq_dataH_same (BV hl hi) (BV hl' hi') (BD ns) (BD ms) hu (by simp only [SeqAt.noMix]; exact noMix_ints ns ms) (by simp only [PySem.Spec.same]; rw [same_ints]; exact h)
theorem QB {vs us : List Value} (hl : s.heap.IsTuple a vs.toArray) (hi : IntsAre vs ns) (hl' : s.heap.IsTuple b us.toArray) (hi' : IntsAre us ms) (hu : A.units + 64 < cLine)
  (h : Q (.bool (!decide (ns = ms))) s) : wpAny (model prog w) A (compareOp .NotEq (.ref a) (.ref b)) Q E s :=
 ne_dataH_same (BV hl hi) (BV hl' hi') (BD ns) (BD ms) hu (by simp only [SeqAt.noMix]; exact noMix_ints ns ms) (by simp only [PySem.Spec.same]; rw [same_ints]; exact h)
theorem Hn (x y : List Int) : decide (x = y) = (x == y) := by
 by_cases h : x = y
 ·subst h; simp
 ·simp [h]
theorem Ft {vs ws : List Value} {ds es : List D} {K : List Int → List Int → Prop} (r1 : Rps σ h vs ds) (r2 : Rps σ h ws es) (hp : ∃ (x y : List Int), ds = x.map D.int ∧ es = y.map D.int ∧ K x y)
  (c : ∀ x y, IntsAre vs x → IntsAre ws y → K x y → P) : P := by
 obtain ⟨x, y, rfl, rfl, hp⟩ := hp
 exact c x y r1.ints r2.ints hp
theorem E8 {vs : List Value} {ds : List D} {K : List Int → Prop} (r1 : Rps σ h vs ds) (hp : ∃ (x : List Int), ds = x.map D.int ∧ K x)
  (c : ∀ x, IntsAre vs x → K x → P) : P := by
 obtain ⟨x, rfl, hp⟩ := hp
 exact c x r1.ints hp
theorem Ow {x y : D} (hu : A.units + 64 < cLine) (h1 : Rp σ s.heap v x) (h2 : Rp σ s.heap u y) (hp : eqP x y K)
  (hQ : ∀ b, K b → Q (.bool b) s) : wpAny (model prog w) A (compareOp .Eq v u) Q E s := by
 cases x with
 | int a => exact h1.eI fun t => h2.onI hp fun b u hp => PyProof.Rows.eq_int (hQ _ hp)
 | bool a => exact h1.eB (h2.onB hp fun b hp => PyProof.Rows.eq_bool (hQ _ hp))
 | str a => exact h1.eS fun t => h2.onS hp fun b u hp => PyProof.Rows.eq_str (hQ _ hp)
 | bytes a => exact h1.eY fun t => h2.onY hp fun b u hp => PySem.W.eq_bytes (hQ _ hp)
 | lst a => exact h1.eL fun a vs n1 l1 r1 => h2.onL hp fun es b ws hp n2 l2 r2 => Ft r1 r2 hp fun x y r1 r2 hp => eq_intsK l1 r1 l2 r2 hu (by rw [Hn]; exact hQ _ hp)
 | tup a => exact h1.eT fun a vs n1 l1 r1 => h2.onT hp fun es b ws hp n2 l2 r2 => Ft r1 r2 hp fun x y r1 r2 hp => QM l1 r1 l2 r2 hu (by rw [Hn]; exact hQ _ hp)
 | _ => exact False.elim hp
theorem Of {x y : D} (hu : A.units + 64 < cLine) (h1 : Rp σ s.heap v x) (h2 : Rp σ s.heap u y) (hp : eqP x y fun r => K (!r))
  (hQ : ∀ b, K b → Q (.bool b) s) : wpAny (model prog w) A (compareOp .NotEq v u) Q E s := by
 cases x with
 | int a => exact h1.eI fun t => h2.onI hp fun b u hp => PyProof.Rows.ne_int (hQ _ hp)
 | bool a => exact h1.eB (h2.onB hp fun b hp => PyProof.Rows.ne_bool (hQ _ hp))
 | str a => exact h1.eS fun t => h2.onS hp fun b u hp => PyProof.Rows.ne_str (hQ _ hp)
 | bytes a => exact h1.eY fun t => h2.onY hp fun b u hp => PySem.W.ne_bytes (hQ _ hp)
 | lst a => exact h1.eL fun a vs n1 l1 r1 => h2.onL hp fun es b ws hp n2 l2 r2 => Ft r1 r2 hp fun x y r1 r2 hp => ne_intsK l1 r1 l2 r2 hu (by rw [Hn]; exact hQ _ hp)
 | tup a => exact h1.eT fun a vs n1 l1 r1 => h2.onT hp fun es b ws hp n2 l2 r2 => Ft r1 r2 hp fun x y r1 r2 hp => QB l1 r1 l2 r2 hu (by rw [Hn]; exact hQ _ hp)
 | _ => exact False.elim hp
theorem Ez {vs : List Value} {k : Int} {t : Tok} (hi : IntsAre vs ns) : ∀ y ∈ vs, SeqAt.EqAt A s y (.int k t) (match y with | .int i _ => i == k | _ => false) := by
 induction hi with
 | nil => intro y hy; cases hy
 | cons n u r ih =>
  intro y hy
  rcases List.mem_cons.mp hy with rfl | hy
  ·exact (SeqAt.EqAt.int_int n u k t : SeqAt.EqAt A s (.int n u) (.int k t) (n == k))
  ·exact ih y hy
theorem FY {vs : List Value} (k : Int) (hi : IntsAre vs ns) : vs.any (fun y => match y with | .int i _ => i == k | _ => false) = ns.contains k := by
 induction hi with
 | nil => rfl
 | cons n u r ih => rw [List.any_cons, List.contains_cons, ih]; congr 1; exact Bool.beq_comm
theorem Op {x y : D} (h1 : Rp σ s.heap v x) (h2 : Rp σ s.heap u y) (hp : inP x y K)
  (hQ : ∀ b, K b → Q (.bool b) s) : wpAny (model prog w) A (compareOp .In v u) Q E s :=
 h1.onI hp fun a t hp => by
  cases y with
  | lst b => exact h2.eL fun b ws n2 l2 r2 => E8 r2 hp fun x r hp => SeqAt.in_listAt _ l2 (fun y hy => Ez r y (by simpa using hy)) (by rw [← Array.any_toList, FY _ r]; exact hQ _ hp)
  | tup b => exact h2.eT fun b ws n2 l2 r2 => E8 r2 hp fun x r hp => SeqAt.in_tupleAt _ l2 (fun y hy => Ez r y (by simpa using hy)) (by rw [← Array.any_toList, FY _ r]; exact hQ _ hp)
  | _ => exact False.elim hp
theorem K6 {x y : D} (h1 : Rp σ s.heap v x) (h2 : Rp σ s.heap u y) (hp : inP x y fun r => K (!r))
  (hQ : ∀ b, K b → Q (.bool b) s) : wpAny (model prog w) A (compareOp .NotIn v u) Q E s :=
 h1.onI hp fun a t hp => by
  cases y with
  | lst b => exact h2.eL fun b ws n2 l2 r2 => E8 r2 hp fun x r hp => SeqAt.notIn_listAt _ l2 (fun y hy => Ez r y (by simpa using hy)) (by rw [← Array.any_toList, FY _ r]; exact hQ _ hp)
  | tup b => exact h2.eT fun b ws n2 l2 r2 => E8 r2 hp fun x r hp => SeqAt.notIn_tupleAt _ l2 (fun y hy => Ez r y (by simpa using hy)) (by rw [← Array.any_toList, FY _ r]; exact hQ _ hp)
  | _ => exact False.elim hp
theorem On {x : D} (h1 : Rp σ s.heap v x) (hQ : Q (.bool (isNone x)) s) : wpAny (model prog w) A (compareOp .Is v .none) Q E s := by
 cases h1 <;> exact wpAny_is_plain rfl hQ
theorem Kf {x : D} (h1 : Rp σ s.heap v x) (hQ : Q (.bool (!isNone x)) s) : wpAny (model prog w) A (compareOp .IsNot v .none) Q E s := by
 cases h1 <;> exact wpAny_isNot_plain rfl hQ
theorem Ju {op : CmpOp} {x y : D} (hu : A.units + 64 < cLine) (h1 : Rp σ s.heap v x) (h2 : Rp σ s.heap u y) (hp : Dp op x y K)
  (hQ : ∀ b, K b → Q (.bool b) s) : wpAny (model prog w) A (compareOp op v u) Q E s := by
 cases op with
 | Eq => exact Ow hu h1 h2 hp hQ
 | NotEq => exact Of hu h1 h2 hp hQ
 | Lt => exact h1.onI hp fun a t hp => h2.onI hp fun b u hp => PyProof.Rows.lt_int (hQ _ hp)
 | LtE => exact h1.onI hp fun a t hp => h2.onI hp fun b u hp => PyProof.Rows.le_int (hQ _ hp)
 | Gt => exact h1.onI hp fun a t hp => h2.onI hp fun b u hp => PyProof.Rows.gt_int (hQ _ hp)
 | GtE => exact h1.onI hp fun a t hp => h2.onI hp fun b u hp => PyProof.Rows.ge_int (hQ _ hp)
 | Is => exact h2.onN hp fun hp => On h1 (hQ _ hp)
 | IsNot => exact h2.onN hp fun hp => Kf h1 (hQ _ hp)
 | In => exact Op h1 h2 hp hQ
 | NotIn => exact K6 h1 h2 hp hQ
end
end
section
variable {it : Addr} {i : Nat} {u : Tok} {c : UInt8} {Q : Value → Shared → Prop}
namespace BA
open PySem.Builtin
theorem HH : Slot "bytearray" "__len__" "bytearray.__len__" :=
 .of (owner := "bytearray") (n := "__len__") (by rw [typeLookup_type, builtinLookup_eq_fast]; kernel_rfl) (by decide +kernel) (by decide +kernel) (by decide +kernel)
  (by first | exact .inl (by decide +kernel) | exact .inr (by decide +kernel)) (by rw [isSubtype_type]; kernel_rfl)
theorem slot_getitem : Slot "bytearray" "__getitem__" "bytearray.__getitem__" :=
 .of (owner := "bytearray") (n := "__getitem__") (by rw [typeLookup_type, builtinLookup_eq_fast]; kernel_rfl) (by decide +kernel) (by decide +kernel) (by decide +kernel)
  (by first | exact .inl (by decide +kernel) | exact .inr (by decide +kernel)) (by rw [isSubtype_type]; kernel_rfl)
theorem FC : Slot "bytearray" "__setitem__" "bytearray.__setitem__" :=
 .of (owner := "bytearray") (n := "__setitem__") (by rw [typeLookup_type, builtinLookup_eq_fast]; kernel_rfl) (by decide +kernel) (by decide +kernel) (by decide +kernel)
  (by first | exact .inl (by decide +kernel) | exact .inr (by decide +kernel)) (by rw [isSubtype_type]; kernel_rfl)
theorem Je : Slot "bytearray" "__iter__" "bytearray.__iter__" :=
 .of (owner := "bytearray") (n := "__iter__") (by rw [typeLookup_type, builtinLookup_eq_fast]; kernel_rfl) (by decide +kernel) (by decide +kernel) (by decide +kernel)
  (by first | exact .inl (by decide +kernel) | exact .inr (by decide +kernel)) (by rw [isSubtype_type]; kernel_rfl)
theorem NY : Slot "bytearray" "__init__" "bytearray.__init__" :=
 .of (owner := "bytearray") (n := "__init__") (by rw [typeLookup_type, builtinLookup_eq_fast]; kernel_rfl) (by decide +kernel) (by decide +kernel) (by decide +kernel)
  (by first | exact .inl (by decide +kernel) | exact .inr (by decide +kernel)) (by rw [isSubtype_type]; kernel_rfl)
theorem CE : Slot "bytearray_iterator" "__next__" "bytearray_iterator.__next__" :=
 .of (owner := "bytearray_iterator") (n := "__next__") (by rw [typeLookup_type, builtinLookup_eq_fast]; kernel_rfl) (by decide +kernel) (by decide +kernel) (by decide +kernel)
  (by first | exact .inl (by decide +kernel) | exact .inr (by decide +kernel)) (by rw [isSubtype_type]; kernel_rfl)
theorem entry_len : entryFor table "bytearray.__len__" = some Builtin.«bytearray.__len__» := entryFor_of_tree (by kernel_rfl)
theorem ER : entryFor table "bytearray.__getitem__" = some Builtin.«bytearray.__getitem__» := entryFor_of_tree (by kernel_rfl)
theorem J3 : entryFor table "bytearray.__setitem__" = some Builtin.«bytearray.__setitem__» := entryFor_of_tree (by kernel_rfl)
theorem MH : entryFor table "bytearray.__iter__" = some Builtin.«bytearray.__iter__» := entryFor_of_tree (by kernel_rfl)
theorem MI : entryFor table "bytearray.__init__" = some Builtin.«bytearray.__init__» := entryFor_of_tree (by kernel_rfl)
theorem Ic : entryFor table "bytearray_iterator.__next__" = some Builtin.«bytearray_iterator.__next__» := entryFor_of_tree (by kernel_rfl)
theorem Q5 (a : Value) : argsOk "bytearray.__len__" ⟨[a], []⟩ := by unfold argsOk; kernel_rfl
theorem FX (a b : Value) : argsOk "bytearray.__getitem__" ⟨[a, b], []⟩ := by unfold argsOk; kernel_rfl
theorem Ks (a b c : Value) : argsOk "bytearray.__setitem__" ⟨[a, b, c], []⟩ := by unfold argsOk; kernel_rfl
theorem OI (a : Value) : argsOk "bytearray.__iter__" ⟨[a], []⟩ := by unfold argsOk; kernel_rfl
theorem OJ (a b : Value) : argsOk "bytearray.__init__" ⟨[a, b], []⟩ := by unfold argsOk; kernel_rfl
theorem JB (a : Value) : argsOk "bytearray_iterator.__next__" ⟨[a], []⟩ := by unfold argsOk; kernel_rfl
abbrev Is (h : Heap) (a : Addr) (l : List UInt8) : Prop := h.get? a = some { cls := .type "bytearray", data := .bytearray ⟨l⟩ }
def IsIter (h : Heap) (it a : Addr) (i : Nat) : Prop := ∃ o, h.get? it = some o ∧ o.cls = .type "bytearray_iterator" ∧ o.data = .fields #[.ref a, .int i 0]
theorem Is.type {s : Shared} {a : Addr} {l : List UInt8} (h : Is s.heap a l) : s.TypeIs (.ref a) "bytearray" := ⟨_, h, rfl⟩
theorem IsIter.type {s : Shared} {it a : Addr} (h : IsIter s.heap it a i) : s.TypeIs (.ref it) "bytearray_iterator" := let ⟨o, ho, hc, _⟩ := h; ⟨o, ho, hc⟩
section
variable {prog : Program} {w : World} {A : Around} {E : Value → Shared → Prop} {s : Shared} {a : Addr} {l : List UInt8}
theorem Di {Q : Array UInt8 → Shared → Prop} (H : Is s.heap a l) (h : Q ⟨l⟩ s) : wpAny (model prog w) A (Bytes.payload (.ref a)) Q E s := by
 unfold Bytes.payload Bytes.payload?
 refine wpAny_bind (wpAny_bind (wpAny_load H ?_))
 exact wpAny_pure (wpAny_pure h)
theorem getItem_int {i : Int} (H : Is s.heap a l) (h0 : 0 ≤ i) (h1 : i < 2 ^ 60) (hx : l[i.toNat]? = some c)
  (h : Q (.int c.toNat s.toks) { s with toks := s.toks + 1 }) : wpAny (model prog w) A (getItem (.ref a) (.int i u)) Q E s := by
 refine wpAny_getItem_slot H.type (by decide) slot_getitem (wpAny_call_entry slot_getitem H.type ER ?_ (FX _ _))
 show wpAny _ _ (Bytes.subscript? (.int i u) >>= fun r => _) _ _ s
 refine wpAny_bind ?_
 unfold Bytes.subscript?
 refine wpAny_bind (wpAny_specialOf (typeIs_int s i u) PySem.F.slot_int_index.lookup ?_)
 show wpAny _ _ (if (!Bytes.fitsIndex i) = true then _ else pure (some i)) _ _ s
 rw [show Bytes.fitsIndex i = true from by simp only [Bytes.fitsIndex, Bool.and_eq_true, decide_eq_true_eq]; lia]
 refine wpAny_pure ?_
 show wpAny _ _ (Bytes.payload (.ref a) >>= fun b => _) _ _ s
 refine wpAny_bind (Di H ?_)
 have hl : i.toNat < l.length := (List.getElem?_eq_some_iff.mp hx).1
 have e : seqIndex? i (⟨l⟩ : Array UInt8).size = some i.toNat := by
  have hn : ¬ i < 0 := by lia
  have hi : i < (l.length : Int) := by lia
  simp [seqIndex?, hn, h0, hi]
 show wpAny _ _ (match (seqIndex? i (⟨l⟩ : Array UInt8).size).bind ((⟨l⟩ : Array UInt8)[·]?) with | some x => _ | none => _) _ _ s
 rw [e]
 rw [show (some i.toNat).bind ((⟨l⟩ : Array UInt8)[·]?) = some c from by simpa using hx]
 exact wpAny_bind (wpAny_mkInt (wpAny_pure ⟨_, rfl, h⟩))
theorem len_ (H : Is s.heap a l) (hz : l.length ≤ 1000000) (h : ∀ t k, Q (.int l.length t) { s with toks := k }) : wpAny (model prog w) A (call (.builtin "len") [.ref a]) Q E s := by
 refine call_function_entry kind_len plain_len PySem.entry_len (args_len1 _) ?_
 unfold Builtin.«len»
 refine wpAny_bind (m := oneArg "len" _) (wpAny_pure ?_)
 refine wpAny_bind (m := callSpecial? (.ref a) (Z "__len__")) (wpAny_callSpecial?_slot (name := Z "__len__") H.type HH
  (wpAny_call_entry HH H.type entry_len ?_ (Q5 _)))
 show wpAny _ _ (do retInt (← Bytes.payload (.ref a)).size) _ _ s
 refine wpAny_bind (Di H ?_)
 refine wpAny_bind (wpAny_mkInt (wpAny_pure ⟨_, rfl, ?_⟩))
 refine wpAny_bind (wpAny_holding (wpAny_pure ?_))
 refine wpAny_bind (wpAny_letGo ?_)
 show wpAny _ _ (if (((⟨l⟩ : Array UInt8).size : Nat) : Int) < 0 then _ else _) _ _ _
 rw [if_neg (by lia)]
 show wpAny _ _ (if (((⟨l⟩ : Array UInt8).size : Nat) : Int) ≥ 2 ^ 63 then _ else _) _ _ _
 rw [if_neg (by simp only [List.size_toArray]; lia)]
 exact wpAny_bind (wpAny_mkInt (wpAny_pure ⟨_, rfl, h _ _⟩))
theorem pyIter_ (H : Is s.heap a l) (hQ : Q (.ref s.heap.objs.size) { s with heap := s.heap.push { cls := .type "bytearray_iterator", data := .fields #[.ref a, .int 0 0] } }) : wpAny (model prog w) A (pyIter (.ref a)) Q E s := by
 refine wpAny_pyIter_slot H.type Je (wpAny_call_entry Je H.type MH ?_ (OI _))
 show wpAny _ _ (do ret (← newFields "bytearray_iterator" [.ref a, rawInt 0])) _ _ s
 exact wpAny_bind (wpAny_newObj_type (wpAny_pure ⟨_, rfl, "bytearray_iterator", _, ⟨_, Heap.get?_push_size _ rfl, rfl⟩, CE.lookup, hQ⟩))
theorem next_item {Q : Option Value → Shared → Prop} (hit : IsIter s.heap it a i) (H : Is s.heap a l) (hx : l[i]? = some c)
  (hQ : ∀ h', IsIter h' it a (i + 1) → Heap.SameBut it s.heap h' → Q (some (.int (c.toNat : Int) s.toks)) { s with heap := h', toks := s.toks + 1 }) : wpAny (model prog w) A (pyNext (.ref it)) Q E s := by
 refine C8 (id hit) fun o ho hc hd => ?_
 unfold pyNext
 refine wpAny_bind (wpAny_attempt (wpAny_callSpecial?_slot (name := Z "__next__") hit.type CE
  (wpAny_call_entry CE hit.type Ic ?_ (JB _))))
 show wpAny _ _ (field (.ref it) 0 >>= _) _ _ s
 refine wpAny_bind (wpAny_field ho hd (x := .ref a) rfl ?_)
 show wpAny _ _ (load a >>= _) _ _ s
 refine wpAny_bind (wpAny_load H ?_)
 show wpAny _ _ (field (.ref it) 1 >>= _) _ _ s
 refine wpAny_bind (wpAny_field ho hd (x := .int i 0) rfl ?_)
 show wpAny _ _ (match (⟨l⟩ : Array UInt8)[(i : Int).toNat]? with | some c => _ | none => _) _ _ s
 rw [show (⟨l⟩ : Array UInt8)[(i : Int).toNat]? = some c from by simpa using hx]
 refine wpAny_bind (wpAny_setField ho hd (by simp) (wpAny_bind (wpAny_mkInt (wpAny_pure ⟨_, rfl, wpAny_pure (hQ _ ?_ (Heap.SameBut.update ..))⟩))))
 exact ⟨_, Heap.get?_update_self _ ho (Obj.isFreed_of_fields (Obj.data_mapFields hd _)), (Obj.cls_mapFields ..).trans hc, by
  rw [Obj.data_mapFields hd]; simp [rawInt]⟩
theorem next_end {Q : Option Value → Shared → Prop} (hh : A.handled = none) (hit : IsIter s.heap it a i) (H : Is s.heap a l) (hx : l[i]? = none)
  (hQ : ∀ h', Heap.ExtBut it s.heap h' → Q none { s with heap := h' }) : wpAny (model prog w) A (pyNext (.ref it)) Q E s := by
 refine C8 (id hit) fun o ho hc hd => ?_
 unfold pyNext
 refine wpAny_bind (wpAny_attempt (wpAny_callSpecial?_slot (name := Z "__next__") hit.type CE
  (wpAny_call_entry CE hit.type Ic ?_ (JB _))))
 show wpAny _ _ (field (.ref it) 0 >>= _) _ _ s
 refine wpAny_bind (wpAny_field ho hd (x := .ref a) rfl ?_)
 show wpAny _ _ (load a >>= _) _ _ s
 refine wpAny_bind (wpAny_load H ?_)
 show wpAny _ _ (field (.ref it) 1 >>= _) _ _ s
 refine wpAny_bind (wpAny_field ho hd (x := .int i 0) rfl ?_)
 show wpAny _ _ (match (⟨l⟩ : Array UInt8)[(i : Int).toNat]? with | some c => _ | none => _) _ _ s
 rw [show (⟨l⟩ : Array UInt8)[(i : Int).toNat]? = none from by simpa using hx]
 refine wpAny_bind (wpAny_rule (wpAny_bind (wpAny_setField ho hd (by simp) ?_)))
 refine wpAny_bind (wpAny_letGo ?_)
 show wpAny _ _ (newExc (.type "StopIteration") [] >>= _) _ _ _
 refine wpAny_bind ?_
 simp only [newExc, newTuple]
 refine wpAny_bind (wpAny_newObj_type ?_ (by size_fits))
 refine wpAny_bind (m := firstArgMember _ _) (wpAny_of_eq (a := Value.none) (by first | rfl | (simp only [firstArgMember]; rfl)) ?_)
 refine wpAny_newObj_type ?_ (by size_fits)
 simp only [raiseNew]
 refine wpAny_bind (wpAny_handled ?_)
 rw [show A.in1.handled = none from hh]
 refine wpAny_bind (wpAny_pure (wpAny_throw ?_))
 refine wpAny_bind (wpAny_isInstance (T := "StopIteration") (b := true) ⟨_, Heap.get?_push_size _ rfl, rfl⟩ isSubtype_stop ?_)
 exact wpAny_pure (hQ _ (((Heap.SameBut.update ..).extBut.push _).push _))
theorem getItem_slice {sl : Addr} {vl vu : Value} {lo hi : Option Int} (H : Is s.heap a l) (hz : l.length ≤ 1000000) (hS : s.heap.IsSliceOf sl vl vu .none) (hl : IsPart vl lo) (hu : IsPart vu hi)
  (h : Q (.ref s.heap.objs.size) { s with heap := s.heap.push { cls := .type "bytearray", data := .bytearray (KBy.picked ⟨l⟩ lo hi) } }) : wpAny (model prog w) A (getItem (.ref a) (.ref sl)) Q E s := by
 refine wpAny_getItem_slot H.type (by decide) slot_getitem (wpAny_call_entry slot_getitem H.type ER ?_ (FX _ _))
 (refine C8 hS fun o ho hc hd => ?_; clear hS)
 have hT : s.TypeIs (.ref sl) "slice" := ⟨o, ho, hc⟩
 show wpAny _ _ (Bytes.subscript? (.ref sl) >>= fun r => _) _ _ s
 refine wpAny_bind ?_
 unfold Bytes.subscript?
 refine wpAny_bind (wpAny_specialOf hT slice_no_index (wpAny_pure ?_))
 refine wpAny_bind (wpAny_typeOf hT ?_)
 show wpAny _ _ (Bytes.sliceParts (.ref sl) >>= fun r => _) _ _ s
 refine wpAny_bind ?_
 unfold Bytes.sliceParts
 refine wpAny_bind (wpAny_field (x := .none) ho hd rfl ?_)
 kby_none
 refine wpAny_ite (KBy.ite_no (show ¬ ((Value.none == rawInt 0) = true) from Bool.false_ne_true) ?_)
 refine wpAny_bind (wpAny_field (x := vl) ho hd rfl ?_)
 have go : wpAny (model prog w) A.in1 (sliceIndices (rawPart lo) (rawPart hi) (rawPart none) l.length) (fun r s' => r = sliceBounds lo hi none l.length ∧ s' = s) (fun ω ω => False) s :=
  wpAny_of_eq (sliceIndices_raw lo hi none l.length (fun e => nomatch e)) ⟨rfl, rfl⟩
 have hsz : (KBy.picked ⟨l⟩ lo hi).size ≤ sizeLine := Nat.le_trans (KBc.size_picked_le _ lo hi) (by rw [sizeLine_eq]; simp only [List.size_toArray]; lia)
 cases hl <;> cases hu <;> (first
  | (kby_none; (refine wpAny_bind (wpAny_field (x := .none) ho hd rfl ?_)); kby_none)
  | (kby_none; (refine wpAny_bind (wpAny_field (x := .int _ _) ho hd rfl ?_)); kby_int)
  | (kby_int; (refine wpAny_bind (wpAny_field (x := .none) ho hd rfl ?_)); kby_none)
  | (kby_int; (refine wpAny_bind (wpAny_field (x := .int _ _) ho hd rfl ?_)); kby_int)) <;> refine wpAny_pure ?_
 all_goals
  refine wpAny_bind (Di H ?_)
  refine wpAny_bind (wpAny_mono go (fun r s' hr => ?_) fun ω ω e => e.elim)
  (refine oa2 hr fun hr1 hr2 => ?_; clear hr)
  subst hr1 hr2
  refine wpAny_bind ?_
  unfold Bytes.newBytearray
  exact wpAny_newObj_type (wpAny_pure ⟨_, rfl, h⟩) hsz
end
theorem IZ : typeLookup (.type "bytearray") "__bytes__" = pure none := by rw [typeLookup_type, builtinLookup_eq_fast]; kernel_rfl
theorem IY : typeLookup (.type "bytearray") "__index__" = pure none := by rw [typeLookup_type, builtinLookup_eq_fast]; kernel_rfl
theorem Ee : typeLookup (.type "bytearray") "__buffer__" = pure (some (.builtin "bytearray.__buffer__")) := by rw [typeLookup_type, builtinLookup_eq_fast]; kernel_rfl
theorem Kb : typeLookup (.type "bytearray") "__release_buffer__" = pure (some (.builtin "bytearray.__release_buffer__")) := by rw [typeLookup_type, builtinLookup_eq_fast]; kernel_rfl
theorem sub_self : isSubtype (.type "bytearray") (.type "bytearray") = pure true := by rw [isSubtype_type]; kernel_rfl
section
variable {prog : Program} {w : World} {A : Around} {E : Value → Shared → Prop} {s : Shared} {a : Addr} {l : List UInt8}
theorem Su {name : String} {Q : Bool → Shared → Prop} (H : Is s.heap a l) (hl : typeLookup (.type "bytearray") (name : Str) = pure (some (.builtin ("bytearray." ++ name)))) (he : ("bytearray." ++ name).endsWith ("." ++ name) = true)
  (hd : ("bytearray." ++ name).dropRight (name.length + 1) = "bytearray") (h : Q true s) : wpAny (model prog w) A (Bytes.slotIsOwn (.ref a) name) Q E s := by
 unfold Bytes.slotIsOwn
 refine wpAny_bind (wpAny_specialOf H.type hl ?_)
 show wpAny _ _ (if (!(("bytearray." ++ name).endsWith ("." ++ name))) = true then _ else _) _ _ _
 rw [he]
 show wpAny _ _ (isInstance (.ref a) (.type (("bytearray." ++ name).dropRight (name.length + 1)))) _ _ _
 rw [hd]
 exact wpAny_isInstance H.type sub_self h
theorem GH {Q : Bool → Shared → Prop} (H : Is s.heap a l) (h : Q false s) : wpAny (model prog w) A (Bytes.ownRelease (.ref a)) Q E s := by
 unfold Bytes.ownRelease
 exact wpAny_bind (Su H Kb (by decide +kernel) (by decide +kernel) (wpAny_pure h))
theorem QS {id : String} {full : Bool} {Q : Option (Array UInt8) → Shared → Prop} (H : Is s.heap a l) (h : Q (some ⟨l⟩) s) : wpAny (model prog w) A (Bytes.buffer? id (.ref a) full) Q E s := by
 unfold Bytes.buffer?
 refine wpAny_bind (wpAny_specialOf H.type Ee ?_)
 refine wpAny_bind (Su H Ee (by decide +kernel) (by decide +kernel) ?_)
 refine wpAny_ite_split (fun hab => absurd hab (by decide)) (fun ω => ?_)
 refine wpAny_bind (wpAny_specialOf H.type Ee ?_)
 refine wpAny_bind (GH H ?_)
 refine wpAny_ite_split (fun hab => absurd hab (by decide)) (fun ω => ?_)
 exact wpAny_bind (Di H (wpAny_pure h))
theorem S8 {Q : Option Str → Shared → Prop} (H : Is s.heap a l) (h : Q none s) : wpAny (model prog w) A (asStr? (.ref a)) Q E s := by
 show wpAny _ _ (load a >>= _) _ _ _
 refine wpAny_bind (wpAny_load H ?_)
 exact wpAny_pure h
theorem Od (H : Is s.heap a l) (hz : l.length ≤ 1000000)
  (hQ : ∀ t k, Q (.bytes ⟨l⟩ t) { s with toks := k }) :
  codeAny (model prog w) A (.call (.builtin "bytes.__new__") ⟨[.type "bytes", .ref a], []⟩) (wants Q E) s := by
 refine codeAny_of_tree ?_
 show wpAny _ A.in1 (do checkBuiltinCall "bytes.__new__" ⟨[.type "bytes", .ref a], []⟩; again (.builtin "bytes.__new__" ⟨[.type "bytes", .ref a], []⟩)) _ _ s
 refine wpAny_bind (wpAny_of_eq (PySem.F.bm_newCall _) (wpAny_pure ⟨plainId_quiet PySem.F.bm_plain _, codeAny_builtin PySem.F.bm_entry ?_⟩))
 rw [Around.under_plainId PySem.F.bm_plain _]
 have hT := H.type
 unfold Builtin.«bytes.__new__»
 refine wpAny_bind (wpAny_of_eq (a := true) rfl ?_)
 refine bm_if_false rfl ?_
 refine wpAny_bind (wpAny_of_eq PySem.F.bm_sub ?_)
 refine bm_if_false rfl ?_
 refine wpAny_bind (wpAny_of_eq (PySem.F.bm_bind _) ?_)
 refine wpAny_bind (wpAny_of_eq (a := ()) rfl ?_)
 refine wpAny_bind (wpAny_of_eq (a := ()) rfl ?_)
 refine bm_if_false rfl ?_
 refine wpAny_bind (wpAny_specialOf hT IZ ?_)
 refine wpAny_bind (wpAny_bind ?_)
 refine S8 H ?_
 refine wpAny_pure ?_
 refine bm_if_false rfl ?_
 refine wpAny_bind (wpAny_specialOf hT IY ?_)
 refine bm_if_true rfl ?_
 first
  | show wpAny _ _ (Builtin.Bytes.buffer? "bytes.__new__" (.ref a) true >>= _) _ _ _
  | (refine wpAny_bind ?_; show wpAny _ _ (Builtin.Bytes.buffer? "bytes.__new__" (.ref a) true >>= _) _ _ _)
 refine wpAny_bind (QS H ?_)
 refine wpAny_bind (wpAny_rule ?_)
 refine wpAny_bind (wpAny_mkBytes ?_ (by rw [sizeLine_eq]; simp only [List.size_toArray]; lia))
 show wpAny _ _ (if (Value.type "bytes" == Value.type "bytes") = true then _ else _) _ _ _
 refine bm_if_true (by decide) ?_
 exact wpAny_pure (hQ _ _)
theorem call_bytes (H : Is s.heap a l) (hz : l.length ≤ 1000000)
  (hQ : ∀ t k, Q (.bytes ⟨l⟩ t) { s with toks := k }) : wpAny (model prog w) A (call (.type "bytes") [.ref a]) Q E s := by
 refine callType_codes (Q₁ := fun obj s₁ => s₁.TypeIs obj "bytes" ∧ Q obj s₁) PySem.F.bm_called (PySem.F.bm_typeCall _) PySem.F.entry_object_init
  (Od H hz fun t k => ⟨PySem.W.typeIs_bytes _ _ _, hQ t k⟩) fun obj s₁ h₁ => ?_
 exact ⟨h₁.1, PySem.F.args_object_init_2 obj _, object_init_meets PySem.F.bm_called.init.lookup PySem.F.bm_called.made (by decide) prog w A.in1 _ s₁ ⟨h₁.1, rfl, h₁.2⟩⟩
theorem Gd : typeLookup (.type "bytes") "__bytes__" = pure (some (.builtin "bytes.__bytes__")) := by rw [typeLookup_type, builtinLookup_eq_fast]; kernel_rfl
theorem H9 (hQ : Q (.bytes ⟨l⟩ u) s) :
  codeAny (model prog w) A (.call (.builtin "bytes.__new__") ⟨[.type "bytes", .bytes ⟨l⟩ u], []⟩) (wants Q E) s := by
 refine codeAny_of_tree ?_
 show wpAny _ A.in1 (do checkBuiltinCall "bytes.__new__" ⟨[.type "bytes", .bytes ⟨l⟩ u], []⟩; again (.builtin "bytes.__new__" ⟨[.type "bytes", .bytes ⟨l⟩ u], []⟩)) _ _ s
 refine wpAny_bind (wpAny_of_eq (PySem.F.bm_newCall _) (wpAny_pure ⟨plainId_quiet PySem.F.bm_plain _, codeAny_builtin PySem.F.bm_entry ?_⟩))
 rw [Around.under_plainId PySem.F.bm_plain _]
 unfold Builtin.«bytes.__new__»
 refine wpAny_bind (wpAny_of_eq (a := true) rfl ?_)
 refine bm_if_false rfl ?_
 refine wpAny_bind (wpAny_of_eq PySem.F.bm_sub ?_)
 refine bm_if_false rfl ?_
 refine wpAny_bind (wpAny_of_eq (PySem.F.bm_bind _) ?_)
 refine wpAny_bind (wpAny_of_eq (a := ()) rfl ?_)
 refine wpAny_bind (wpAny_of_eq (a := ()) rfl ?_)
 refine bm_if_false rfl ?_
 refine wpAny_bind (wpAny_specialOf (T := "bytes") (PySem.W.typeIs_bytes _ _ _) Gd ?_)
 refine wpAny_bind (wpAny_rule ?_)
 refine wpAny_bind (wpAny_typeOf (PySem.W.typeIs_bytes _ _ _) ?_)
 refine bm_if_true (by decide) ?_
 show wpAny _ _ (if (Value.type "bytes" == Value.type "bytes") = true then _ else _) _ _ _
 refine bm_if_true (by decide) ?_
 exact wpAny_pure hQ
theorem call_bytes_bytes (hQ : Q (.bytes ⟨l⟩ u) s) : wpAny (model prog w) A (call (.type "bytes") [.bytes ⟨l⟩ u]) Q E s := by
 refine callType_codes (Q₁ := fun obj s₁ => s₁.TypeIs obj "bytes" ∧ Q obj s₁) PySem.F.bm_called (PySem.F.bm_typeCall _) PySem.F.entry_object_init
  (H9 ⟨PySem.W.typeIs_bytes _ _ _, hQ⟩) fun obj s₁ h₁ => ?_
 exact ⟨h₁.1, PySem.F.args_object_init_2 obj _, object_init_meets PySem.F.bm_called.init.lookup PySem.F.bm_called.made (by decide) prog w A.in1 _ s₁ ⟨h₁.1, rfl, h₁.2⟩⟩
theorem Jd : Slot "bytearray_iterator" "__iter__" "bytearray_iterator.__iter__" :=
 .of (owner := "bytearray_iterator") (n := "__iter__") (by rw [typeLookup_type, builtinLookup_eq_fast]; kernel_rfl) (by decide +kernel) (by decide +kernel) (by decide +kernel)
  (by first | exact .inl (by decide +kernel) | exact .inr (by decide +kernel)) (by rw [isSubtype_type]; kernel_rfl)
theorem MG : entryFor table "bytearray_iterator.__iter__" = some Builtin.«dict_keyiterator.__iter__» := entryFor_alias (id' := "dict_keyiterator.__iter__") (by kernel_rfl) rfl (by decide +kernel) (by kernel_rfl)
theorem OH (a : Value) : argsOk "bytearray_iterator.__iter__" ⟨[a], []⟩ := by unfold argsOk; kernel_rfl
theorem pyIter_self (hit : IsIter s.heap it a i) (h : Q (.ref it) s) : wpAny (model prog w) A (pyIter (.ref it)) Q E s := by
 refine wpAny_pyIter_slot hit.type Jd (wpAny_call_entry Jd hit.type MG ?_ (OH _))
 show wpAny _ _ (ret (.ref it)) _ _ s
 exact wpAny_pure ⟨_, rfl, "bytearray_iterator", _, hit.type, CE.lookup, h⟩
theorem Sc (hh : A.handled = none) (I a : Addr) (l : List UInt8) (hne : I ≠ a) :
  Walks prog w A I [I, a] [I] l.length (fun i v => ∃ c u, l[i]? = some c ∧ v = .int (c.toNat : Int) u) (fun i h => IsIter h I a i ∧ Is h a l) where
 sub := fun b hb => by simp at hb; simp [hb]
 frame := fun ω ω ω st hk => by
  (refine oa2 st fun zq1 H => Af zq1 fun o ho r => ?_; clear st)
  exact ⟨⟨o, hk I (by simp) o ho, r⟩, hk a (by simp) _ H⟩
 item := fun i s Q E hi st hQ => by
  refine oa2 st fun st H => ?_
  refine next_item st H (c := l[i]) (by simp [hi]) fun h' hit' hs' => ?_
  exact hQ _ h' (s.toks + 1) ⟨_, _, by simp [hi], rfl⟩ ⟨hit', hs'.extBut a _ (Ne.symm hne) H⟩ fun b o hb e => hs'.extBut b o (fun h => hb (by simp [h])) e
 done := fun s Q E st hQ => next_end hh st.1 st.2 (by simp) fun h' he' => hQ h' s.toks fun b o hb e => he' b o (fun h => hb (by simp [h])) e
 self := fun ω ω ω ω st hQ => pyIter_self st.1 hQ
theorem SG {Q : Bool → Shared → Prop} (H : Is s.heap a l) (h : Q false s) : wpAny (model prog w) A (Builtin.List.listLengthHint (.ref a)) Q E s := by
 unfold Builtin.List.listLengthHint
 refine wpAny_bind (wpAny_specialOf H.type HH.lookup ?_)
 generalize hid : ("bytearray.__len__" : String) = id0
 wp_delta
 rw [show splitId id0 = some ("bytearray", "__len__") from by subst hid; decide +kernel]
 subst hid
 refine wpAny_bind (wpAny_isInstance (T := "bytearray") (b := true) H.type sub_self ?_)
 refine wpAny_ite_split (fun hab => absurd hab (by decide)) (fun ω => ?_)
 refine wpAny_ite_split (fun ω => ?_) (fun hab => absurd (by decide +kernel) hab)
 refine wpAny_bind (wpAny_typeOf H.type ?_)
 exact wpAny_pure h
end
end BA
end
section
variable {R : Result → Shared → Prop}
namespace BA
open PySem.Builtin
section
variable {prog : Program} {w : World} {A : Around} {E : Value → Shared → Prop} {s : Shared} {a : Addr} {l : List UInt8}
theorem QK (hh : A.handled = none) (H : Is s.heap a l) (hz : l.length ≤ 1000000) (S : Addr) (res : Value) (c₀ : Nat) (hS : s.heap.get? S = some { cls := .type "list", data := .seq #[] c₀ })
  (hR : ∀ h' tk acc' c', (∀ b o, b ≠ S → s.heap.get? b = some o → h'.get? b = some o) → h'.get? S = some { cls := .type "list", dict := none, data := .seq acc' c', slots := #[] } →
   ItemsOf (fun i v => ∃ c u, l[i]? = some c ∧ v = .int (c.toNat : Int) u) acc' l.length → R (.ok (.ret res)) { s with heap := h', toks := tk }) :
  wpAny (model prog w) A.in1 (Builtin.List.listExtendWith (.ref S) (.ref a) res)
   (fun fin s' => match fin with | .done f => R (.ok f) s' | .again c' => c'.quiet = true ∧ codeAny (model prog w) A c' R s') (fun e s' => R (.error e) s') s := by
 have hSr : S ≠ a := fun e => by rw [e] at hS; rw [H] at hS; simp at hS
 have hSlt : S < s.heap.objs.size := Heap.lt_size hS
 have hSI : S ≠ s.heap.objs.size := Nat.ne_of_lt hSlt
 have hIa : s.heap.objs.size ≠ a := Ne.symm (Nat.ne_of_lt (Heap.lt_size H))
 have hSf : S ∉ [s.heap.objs.size, a] := fun hm => by simp at hm; exact hm.elim hSI hSr
 have W := (Sc (prog := prog) (w := w) (A := A.in1) hh s.heap.objs.size a l hIa).toS
 unfold Builtin.List.listExtendWith
 refine wpAny_bind (wpAny_typeOf (T := "bytearray") H.type ?_)
 have h1 : Builtin.List.listSameRef (.ref S) (.ref a) = false := by simp [Builtin.List.listSameRef, hSr]
 have h2 : (Value.type "bytearray" == Value.type "list") = false := by decide
 have h3 : (Value.type "bytearray" == Value.type "tuple") = false := by decide
 simp only [h1, h2, h3, Bool.or_false, Bool.false_eq_true, if_false]
 refine wpAny_bind (pyIter_ H ?_)
 have H₁ : Is (s.heap.push { cls := .type "bytearray_iterator", data := .fields #[.ref a, .int 0 0] }) a l := Heap.get?_push_of_some _ H
 refine wpAny_bind (wpAny_holding (SG (s := { s with heap := s.heap.push { cls := .type "bytearray_iterator", data := .fields #[.ref a, .int 0 0] } }) H₁ ?_))
 refine wpAny_ite_split (fun hab => absurd hab (by decide +kernel)) (fun ω => ?_)
 refine wpAny_pure ⟨plainId_quiet PySem.F.plain_extend_loop _, ?_⟩
 refine codeAny_extend_loopS W (by rw [sizeLine_eq]; lia) S hSf res l.length 0 { s with heap := s.heap.push { cls := .type "bytearray_iterator", data := .fields #[.ref a, .int 0 0] } } #[] c₀ rfl (Nat.zero_le _) ⟨⟨_, Heap.get?_push_size _ rfl, rfl, rfl⟩, H₁⟩
  (Heap.get?_push_of_some _ hS) (ItemsOf.nil _) fun s' acc' c' hm hS' hacc => ?_
 rw [Moved.eq_with hm]
 refine hR s'.heap s'.toks acc' c' (fun b o hb e => hm.heap b o (fun hmem => ?_) (Heap.get?_push_of_some _ e)) hS' hacc
 refine Or.elim (List.mem_cons.mp hmem) (fun e' => ?_) (fun hmem => ?_)
 ·exact hb e'
 ·exact absurd (Heap.lt_size e) (by rw [List.mem_singleton.mp hmem]; exact Nat.lt_irrefl _)
theorem Ok (hh : A.handled = none) (H : Is s.heap a l) (hz : l.length ≤ 1000000) (S : Addr) (hS : s.heap.get? S = some { cls := .type "list", data := .seq #[] })
  (hR : ∀ h' tk acc' c', (∀ b o, b ≠ S → s.heap.get? b = some o → h'.get? b = some o) → h'.get? S = some { cls := .type "list", dict := none, data := .seq acc' c', slots := #[] } →
   ItemsOf (fun i v => ∃ c u, l[i]? = some c ∧ v = .int (c.toNat : Int) u) acc' l.length → R (.ok (.ret .none)) { s with heap := h', toks := tk }) :
  wpAny (model prog w) A.in1 (Builtin.«list.__init__» ⟨[.ref S, .ref a], []⟩)
   (fun fin s' => match fin with | .done f => R (.ok f) s' | .again c' => c'.quiet = true ∧ codeAny (model prog w) A c' R s') (fun e s' => R (.error e) s') s := by
 have hSr : S ≠ a := fun e => by rw [e] at hS; rw [H] at hS; simp at hS
 show wpAny _ _ (do let old ← Builtin.List.listItems (.ref S); Builtin.List.listUpdate (.ref S) (fun ω => #[]); letGo old.toList.reverse; Builtin.List.listExtendWith (.ref S) (.ref a) .none) _ _ s
 refine wpAny_bind ?_
 unfold Builtin.List.listItems
 refine wpAny_bind (wpAny_seqItems hS rfl (wpAny_pure ?_))
 show wpAny _ _ (updateSeq S (fun ω => #[]) >>= fun ω => letGo (#[] : Array Value).toList.reverse >>= fun ω => Builtin.List.listExtendWith (.ref S) (.ref a) .none) _ _ s
 refine wpAny_bind (wpAny_updateSeq hS rfl ?_)
 have hS₂ := Heap.get?_update_self (Obj.mapSeq (fun ω => (#[] : Array Value))) hS rfl
 have oth : ∀ b o, b ≠ S → s.heap.get? b = some o → (s.heap.update S (Obj.mapSeq (fun ω => (#[] : Array Value)))).get? b = some o :=
  fun b o hb e => (Heap.get?_update_other _ _ (Ne.symm hb)).trans e
 refine wpAny_bind (wpAny_letGo ?_)
 refine QK (s := { s with heap := s.heap.update S (Obj.mapSeq (fun ω => (#[] : Array Value))) }) hh (oth a _ (Ne.symm hSr) H) hz S .none _ hS₂ fun h' tk acc' c' hk hS' hacc => ?_
 exact hR h' tk acc' c' (fun b o hb e => hk b o hb (oth b o hb e)) hS' hacc
theorem call_list {Q : Value → Shared → Prop} (hh : A.handled = none) (H : Is s.heap a l) (hz : l.length ≤ 1000000)
  (hQ : ∀ h' tk acc' c', (∀ b o, s.heap.get? b = some o → h'.get? b = some o) →
   h'.get? s.heap.objs.size = some { cls := .type "list", dict := none, data := .seq acc' c', slots := #[] } → ItemsOf (fun i v => ∃ c u, l[i]? = some c ∧ v = .int (c.toNat : Int) u) acc' l.length → Q (.ref s.heap.objs.size) { s with heap := h', toks := tk }) :
  wpAny (model prog w) A (call (.type "list") [.ref a]) Q E s := by
 refine callType_codes (Q₁ := fun obj s₁ => obj = .ref s.heap.objs.size ∧ s₁ = { s with heap := s.heap.push { cls := .type "list", data := .seq #[] } }) PySem.F.called_list (PySem.F.typeCall_list_1 _) PySem.F.entry_list_init
  (code_list_new _ ⟨rfl, rfl⟩) fun obj s₁ h₁ => ?_
 (refine oa2 h₁ fun zq1 zq2 => ?_; clear h₁; subst zq1; subst zq2)
 have hS : (s.heap.push { cls := .type "list", data := .seq #[] }).get? s.heap.objs.size = some { cls := .type "list", data := .seq #[] } := Heap.get?_push_size _ rfl
 refine ⟨⟨_, hS, rfl⟩, PySem.F.args_list_init_2 _ _, Ok (A := A.in1) (s := { s with heap := s.heap.push { cls := .type "list", data := .seq #[] } }) hh (Heap.get?_push_of_some _ H) hz _ hS fun h' tk acc' c' hk hS' hacc => ?_⟩
 exact ⟨rfl, hQ h' tk acc' c' (fun b o e => hk b o (Nat.ne_of_lt (Heap.lt_size e)) (Heap.get?_push_of_some _ e)) hS' hacc⟩
end
section
variable {prog : Program} {w : World} {A : Around} {E : Value → Shared → Prop} {s : Shared} {a : Addr} {l : List UInt8}
theorem Ou {self : Value} {Q : Bool → Shared → Prop} (h : Q false s) : wpN (model prog w) A (Bytes.exported self) Q E s := fun Γ p ω hc => by
 show Q (List.any ((Γ.code, p) :: Γ.below) _) s
 rw [List.any_eq_false.mpr]
 ·exact h
 intro x hx hf
 have this : QL self x = some false := by
  rcases List.mem_cons.mp hx with rfl | hx
  ·exact hc.1 self p
  ·exact hc.2 x hx self x.2
 have this : List.any [x] _ = false := Option.some.inj this
 rw [List.any_cons, hf] at this
 cases this
end
end BA
end
section
variable {args : Args} {b : Builtin} {R : Result → Shared → Prop} {name : Str} {T id : String}
section
variable {prog : Program} {w : World} {A : Around} {E : Value → Shared → Prop} {s : Shared}
theorem D5 (ok : C9 (.builtin id args)) (hb : entryFor table id = some b)
  (h : wpN (model prog w) (A.under (.builtin id args)) (b args)
   (fun fin s' => match fin with | .done f => R (.ok f) s' | .again c' => c'.quiet = true ∧ Bk (model prog w) A c' R s') (fun e s' => R (.error e) s') s) :
  Bk (model prog w) A (.builtin id args) R s := by
 refine At ok ?_
 show wpN _ _ (match entryFor table id with | some b => b args | none => unsupported ((withoutEnding? id "#data").getD id)) _ _ s
 rw [hb]; exact h
theorem F7 (ok : C9 (.builtin id args)) (hq : plainId id = true) (hb : entryFor table id = some b)
  (h : wpAny (model prog w) A.in1 (checkBuiltinCall id args) (fun ω s₁ => wpN (model prog w) A.in1 (b args)
   (fun fin s' => match fin with | .done f => R (.ok f) s' | .again c' => c'.quiet = true ∧ Bk (model prog w) A c' R s') (fun e s' => R (.error e) s') s₁)
   (fun e s' => R (.error e) s') s) : Bk (model prog w) A (.call (.builtin id) args) R s := by
 refine At (fun ω ω => rfl) ?_
 show wpN _ A.in1 (do checkBuiltinCall id args; again (.builtin id args)) _ _ s
 refine A0 (A3 (wpAny_mono h (fun ω s₁ h₁ => A5 (And.intro (plainId_quiet hq args) (D5 ok hb ?_))) fun ω ω h' => h'))
 rw [Around.under_plainId hq args]; exact h₁
theorem DV 
  {id : String} {b : Builtin} {self : Value} {rest : List Value} {Q : Value → Shared → Prop} (ok : C9 (.builtin id ⟨self :: rest, []⟩)) (h : Slot T name id) (hT : s.TypeIs self T)
  (hb : entryFor table id = some b)
  (hc : wpN (model prog w) A.in1 (b ⟨self :: rest, []⟩) (fun fin s' => ∃ v, fin = .done (.ret v) ∧ Q v s') E s)
  (ha : argsOk id ⟨self :: rest, []⟩ := by rfl) :
  wpN (model prog w) A (call (.builtin id) (self :: rest)) Q E s := by
 refine DW (F7 ok h.plain hb (h.check _ _ _ _ _ _ _ _ hT ha (AJ hc (fun fin s' h' => ?_) fun ω ω h' => h')))
 (refine Af h' fun v zq1 hv => ?_; clear h'; subst zq1); exact hv
theorem C6 {self : Value} {args : List Value} {kw : List (Str × Value)}
  {Q : Option Value → Shared → Prop} (hT : s.TypeIs self T) (h : Slot T name id)
  (hc : wpN (model prog w) A (call (.builtin id) (self :: args) kw) (fun v => Q (some v)) E s) : wpN (model prog w) A (callSpecial? self name args kw) Q E s := by
 simp only [callSpecial?]
 refine A0 (A3 (wpAny_specialOf hT h.lookup ?_))
 simp only [h.bind]
 exact A9 (A0 (A5 (A0 (AJ hc (fun v s' h' => A5 h') fun ω ω h' => h'))))
theorem G1 {o i v : Value} {Q : Unit → Shared → Prop} (hT : s.TypeIs o T) (hn : seqItemTypes.contains T = false) (slot : Slot T "__setitem__" id)
  (hc : wpN (model prog w) A (call (.builtin id) [o, i, v]) (fun ω => Q ()) E s) : wpN (model prog w) A (setItem o i v) Q E s := by
 unfold setItem
 refine A9 ?_
 refine A0 (A3 (wpAny_sequenceKey hT hn ?_))
 exact A0 (C6 hT slot (AJ hc (fun v s' h' => A5 h') fun ω ω e => e))
theorem He {T newId initId : String} {Bi : Builtin} {args : List Value} {Q Q₁ : Value → Shared → Prop} (ft : TypeCalled T newId initId) (ok : ∀ a, C9 (.builtin initId a))
  (hct : checkTypeCall T ⟨args, []⟩ = pure ()) (entryI : entryFor table initId = some Bi)
  (hnew : codeAny (model prog w) A.in1 (.call (.builtin newId) ⟨.type T :: args, []⟩) (wants Q₁ E) s)
  (hnext : ∀ obj s₁, Q₁ obj s₁ → s₁.TypeIs obj T ∧ argsOk initId ⟨obj :: args, []⟩ ∧
   wpN (model prog w) A.in1.in1 (Bi ⟨obj :: args, []⟩) (fun fin s' => fin = .done (.ret .none) ∧ Q obj s') E s₁) :
  wpN (model prog w) A (call (.type T) args) Q E s := by
 refine oe2 (ft.mro) fun c tl hmro => ?_
 have hmade := ft.made
 have hsub := ft.sub
 refine DW (At (fun ω ω => rfl) ?_)
 show wpN _ _ (callAny (.type T) _) _ _ _
 refine A5 ⟨Code.quiet_builtin _ (by decide +kernel), D5 (fun ω ω => rfl) PySem.F.entry_type_call ?_⟩
 rw [Around.under_plain (weight_type_call_type T args []) rfl]
 have h1 := ft.notType
 have h2 := ft.canCreate
 unfold Builtin.«type.__call__»
 simp only [h1, h2, hct, hmro, hmade, Bool.false_eq_true, if_false, pure_bind, List.isEmpty_cons]
 refine A0 (A9 (A3 (wpAny_call ?_)))
 refine codeAny_mono hnew fun r s₁ hr => ?_
 cases r with
 | error e => exact hr
 | ok fl =>
  cases fl with
  | ret obj =>
   refine oa3 (hnext _ _ hr) fun hT hok hsi => ?_
   refine A0 (A3 (wpAny_isInstance hT hsub ?_))
   simp only [Bool.not_true, Bool.false_eq_true, if_false]
   refine A0 (A9 (C6 hT ft.init ?_))
   refine DV (ok _) ft.init hT entryI (AJ hsi (fun fin s' h' => ?_) fun ω ω e => e) hok
   (refine oa2 h' fun zq1 hq => ?_; clear h'; subst zq1)
   exact ⟨_, rfl, A5 hq⟩
  | _ => exact hr.elim
end
end
section
variable {Q : Bool → Shared → Prop} {hi lo : Option Int} {u : Tok} {vl vu : Value}
namespace BA
open PySem.Builtin
theorem Sx : mroOf (.type "bytearray") = pure [.type "bytearray", .type "object"] := by rw [mroOf_type]; kernel_rfl
theorem Mx : typeLookup (.type "bytearray") "__new__" = pure (some (.builtin "bytearray.__new__")) := by rw [typeLookup_type, builtinLookup_eq_fast]; kernel_rfl
theorem S3 : TypeCalled "bytearray" "bytearray.__new__" "bytearray.__init__" :=
 ⟨by decide +kernel, by decide +kernel, ⟨_, _, Sx⟩, madeBy_type Sx Mx (by decide +kernel), by decide +kernel, by rw [isSubtype_type]; kernel_rfl, NY⟩
theorem LN (a : Value) : checkTypeCall "bytearray" ⟨[a], []⟩ = pure () := by kernel_rfl
theorem Oe (a : Value) : checkBuiltinCall "bytearray.__new__" ⟨[.type "bytearray", a], []⟩ = pure () := by kernel_rfl
theorem Ox : entryFor table "bytearray.__new__" = some Builtin.«list.__new__» :=
 entryFor_alias (id' := "list.__new__") (by rw [fastTable_eq_tree]; kernel_rfl) (by first | rfl | decide +kernel) (by decide +kernel) (by rw [fastTable_eq_tree]; kernel_rfl)
theorem Ji : plainId "bytearray.__new__" = true := by decide +kernel
set_option maxRecDepth 1000000 in
set_option maxHeartbeats 4000000 in
theorem Ob : ("bytearray.__new__".splitOn ".__new__").headD "" = "bytearray" := by simp +decide [String.splitOn, String.splitOnAux]
section
variable {prog : Program} {w : World} {A : Around} {E : Value → Shared → Prop} {s : Shared} {a : Addr} {l : List UInt8}
theorem PV (a : Value) {Q₁ : Value → Shared → Prop}
  (h : Q₁ (.ref s.heap.objs.size) { s with heap := s.heap.push { cls := .type "bytearray", data := .bytearray ⟨[]⟩ } }) :
  codeAny (model prog w) A (.call (.builtin "bytearray.__new__") ⟨[.type "bytearray", a], []⟩) (wants Q₁ E) s := by
 refine codeAny_of_tree ?_
 show wpAny _ A.in1 (do checkBuiltinCall "bytearray.__new__" ⟨[.type "bytearray", a], []⟩; again (.builtin "bytearray.__new__" ⟨[.type "bytearray", a], []⟩)) _ _ s
 refine wpAny_bind (wpAny_of_eq (Oe a) (wpAny_pure ⟨plainId_quiet Ji _, codeAny_builtin_stack Ox rfl fun p st => ?_⟩))
 rw [Around.under_plainId Ji _]
 have hsub := sub_self
 have hown := Ob
 obtain ⟨hp, g, d, tk, os⟩ := s
 simp only [hown]
 wp_walk
 exact h
theorem DQ : typeLookup (.type "bytes") "__index__" = pure none := by rw [typeLookup_type, builtinLookup_eq_fast]; kernel_rfl
theorem IX : typeLookup (.type "bytes") "__int__" = pure none := by rw [typeLookup_type, builtinLookup_eq_fast]; kernel_rfl
theorem Hb : typeLookup (.type "bytes") "__float__" = pure none := by rw [typeLookup_type, builtinLookup_eq_fast]; kernel_rfl
theorem D4 : typeLookup (.type "bytes") "__buffer__" = pure (some (.builtin "bytes.__buffer__")) := by rw [typeLookup_type, builtinLookup_eq_fast]; kernel_rfl
theorem HY : typeLookup (.type "bytes") "__release_buffer__" = pure none := by rw [typeLookup_type, builtinLookup_eq_fast]; kernel_rfl
theorem LR : isSubtype (.type "bytes") (.type "bytes") = pure true := by rw [isSubtype_type]; kernel_rfl
theorem St (h : Q true s) : wpAny (model prog w) A (Bytes.slotIsOwn (.bytes ⟨l⟩ u) "__buffer__") Q E s := by
 unfold Bytes.slotIsOwn
 refine wpAny_bind (wpAny_specialOf (typeIs_bytes _ _ _) D4 ?_)
 show wpAny _ _ (if (!("bytes.__buffer__".endsWith ("." ++ "__buffer__"))) = true then _ else _) _ _ _
 rw [show "bytes.__buffer__".endsWith ("." ++ "__buffer__") = true from by decide +kernel]
 show wpAny _ _ (isInstance _ (.type ("bytes.__buffer__".dropRight ("__buffer__".length + 1)))) _ _ _
 rw [show "bytes.__buffer__".dropRight ("__buffer__".length + 1) = "bytes" from by decide +kernel]
 exact wpAny_isInstance (typeIs_bytes _ _ _) LR h
theorem K4 (h : Q false s) : wpAny (model prog w) A (Bytes.ownRelease (.bytes ⟨l⟩ u)) Q E s := by
 unfold Bytes.ownRelease Bytes.slotIsOwn
 exact wpAny_bind (wpAny_bind (wpAny_specialOf (typeIs_bytes _ _ _) HY (wpAny_pure (wpAny_pure h))))
theorem Q0 {id : String} {full : Bool} {Q : Option (Array UInt8) → Shared → Prop} (h : Q (some ⟨l⟩) s) : wpAny (model prog w) A (Bytes.buffer? id (.bytes ⟨l⟩ u) full) Q E s := by
 unfold Bytes.buffer?
 refine wpAny_bind (wpAny_specialOf (typeIs_bytes _ _ _) D4 ?_)
 refine wpAny_bind (St ?_)
 refine wpAny_ite_split (fun hab => absurd hab (by decide)) (fun ω => ?_)
 refine wpAny_bind (wpAny_specialOf (typeIs_bytes _ _ _) D4 ?_)
 refine wpAny_bind (K4 ?_)
 refine wpAny_ite_split (fun hab => absurd hab (by decide)) (fun ω => ?_)
 exact wpAny_bind (m := Bytes.payload _) (wpAny_pure (wpAny_pure h))
theorem LM {f : Array UInt8 → Array UInt8} {l' : List UInt8} {Q : Unit → Shared → Prop} (H : Is s.heap a l) (hl : f ⟨l⟩ = ⟨l'⟩) (hz : l'.length ≤ 1000000)
  (hQ : ∀ h', Is h' a l' → Heap.SameBut a s.heap h' → Q () { s with heap := h' }) : wpAny (model prog w) A (Bytes.write (.ref a) f) Q E s := by
 show wpAny _ _ (updateBytearray a f) _ _ _
 unfold updateBytearray
 refine wpAny_bind (wpAny_load H ?_)
 refine wpAny_bind (wpAny_update H ?_)
 have e : (s.heap.update a (Obj.mapBytearray f)).get? a = some { cls := .type "bytearray", data := .bytearray ⟨l'⟩ } := by
  rw [Heap.get?_update_self _ H rfl]; simp [Obj.mapBytearray, hl]
 refine wpAny_lookBehind e ?_ (hQ _ e (Heap.SameBut.update ..))
 show (if l'.length > sizeLine then some _ else none) = none
 exact if_neg (by rw [sizeLine_eq]; lia)
theorem QU {S : Addr} {Q : Fin → Shared → Prop} (H : Is s.heap S []) (hz : l.length ≤ 1000000)
  (hQ : ∀ h', Is h' S l → Heap.SameBut S s.heap h' → Q (.done (.ret .none)) { s with heap := h' }) :
  wpN (model prog w) A (Builtin.«bytearray.__init__» ⟨[.ref S, .bytes ⟨l⟩ u], []⟩) Q E s := by
 unfold Builtin.«bytearray.__init__»
 refine A0 (A3 (GH H ?_))
 show wpN _ _ (Bytes.bindOptional "bytearray.__init__" "bytearray" ["source", "encoding", "errors"] [.bytes ⟨l⟩ u] [] >>= _) _ _ _
 refine A0 (A3 (wpAny_of_eq (a := [some (.bytes ⟨l⟩ u), none, none]) rfl ?_))
 refine A0 (m := Bytes.checkCodecArg _ _ _ none) (A5 ?_)
 refine A0 (m := Bytes.checkCodecArg _ _ _ none) (A5 ?_)
 refine A0 (m := (Bytes.exported (.ref S) <||> _)) ?_
 show wpN _ _ (Bytes.exported (.ref S) >>= _) _ _ _
 refine A0 (Ou ?_)
 show wpN _ _ (Bytes.exportsOf (.ref S) >>= _) _ _ _
 refine A0 (A3 ?_)
 show wpAny _ _ (load S >>= _) _ _ _
 refine wpAny_bind (wpAny_load H (wpAny_pure (A5 ?_)))
 show wpN _ _ (Bytes.write (.ref S) (fun ω => #[]) >>= _) _ _ _
 refine A0 (A3 (LM H rfl (by simp) fun h₁ H₁ sb₁ => ?_))
 show wpN _ _ (asStr? (.bytes ⟨l⟩ u) >>= _) _ _ _
 refine A0 (m := asStr? _) (A5 ?_)
 refine A0 (m := specialOf _ _) (A3 (wpAny_specialOf (typeIs_bytes _ _ _) DQ ?_))
 refine A0 (A3 (Q0 ?_))
 refine A0 (Df ?_)
 show wpN _ _ (Bytes.write (.ref S) (fun ω => (⟨l⟩ : Array UInt8)) >>= _) _ _ _
 refine A0 (A3 (LM H₁ rfl hz fun h₂ H₂ sb₂ => ?_))
 exact A5 (hQ _ H₂ (sb₁.trans sb₂))
theorem RI : ∀ a : Args, C9 (.builtin "bytearray.__init__" a) := Po (fun ω ω ω => by kernel_rfl) (fun ω ω ω ω ω => by kernel_rfl) (by decide +kernel)
theorem call_bytearray {Q : Value → Shared → Prop} (hz : l.length ≤ 1000000)
  (hQ : ∀ h', AM s.heap h' → s.heap.get? s.heap.objs.size = none → Is h' s.heap.objs.size l → Q (.ref s.heap.objs.size) { s with heap := h' }) :
  wpN (model prog w) A (call (.type "bytearray") [.bytes ⟨l⟩ u]) Q E s := by
 refine He (Q₁ := fun obj s₁ => obj = .ref s.heap.objs.size ∧ s₁ = { s with heap := s.heap.push { cls := .type "bytearray", data := .bytearray ⟨[]⟩ } }) S3 RI (LN _) MI
  (PV _ ⟨rfl, rfl⟩) fun obj s₁ h₁ => ?_
 (refine oa2 h₁ fun zq1 zq2 => ?_; clear h₁; subst zq1; subst zq2)
 have hS : Is (s.heap.push { cls := .type "bytearray", data := .bytearray ⟨[]⟩ }) s.heap.objs.size [] := Heap.get?_push_size _ rfl
 refine ⟨hS.type, OJ _ _, QU (s := { s with heap := s.heap.push { cls := .type "bytearray", data := .bytearray ⟨[]⟩ } }) hS hz fun h' H' sb => ?_⟩
 exact ⟨rfl, hQ h' (fun b o e => (sb.2 b (Nat.ne_of_lt (Heap.lt_size e))).trans (Heap.get?_push_of_some _ e)) (Heap.get?_none_of_le (Nat.le_refl _)) H'⟩
theorem GD {sl : Addr} {Q : Value × Value × Value → Shared → Prop} (hS : s.heap.IsSliceOf sl vl vu .none) (hl : IsPart vl lo) (hu : IsPart vu hi)
  (h : Q (rawPart lo, rawPart hi, .none) s) : wpAny (model prog w) A (Bytes.sliceParts (.ref sl)) Q E s := by
 (refine C8 hS fun o ho hc hd => ?_; clear hS)
 unfold Bytes.sliceParts
 refine wpAny_bind (wpAny_field (x := .none) ho hd rfl ?_)
 kby_none
 refine wpAny_ite (KBy.ite_no (show ¬ ((Value.none == rawInt 0) = true) from Bool.false_ne_true) ?_)
 refine wpAny_bind (wpAny_field (x := vl) ho hd rfl ?_)
 cases hl <;> cases hu <;> (first
  | (kby_none; (refine wpAny_bind (wpAny_field (x := .none) ho hd rfl ?_)); kby_none)
  | (kby_none; (refine wpAny_bind (wpAny_field (x := .int _ _) ho hd rfl ?_)); kby_int)
  | (kby_int; (refine wpAny_bind (wpAny_field (x := .none) ho hd rfl ?_)); kby_none)
  | (kby_int; (refine wpAny_bind (wpAny_field (x := .int _ _) ho hd rfl ?_)); kby_int)) <;> exact wpAny_pure h
end
section
variable {prog : Program} {w : World} {A : Around} {E : Value → Shared → Prop} {s : Shared} {a : Addr} {l : List UInt8}
theorem NH : isSubtype (.type "bytes") (.type "bytearray") = pure false := by rw [isSubtype_type]; kernel_rfl
theorem Ht : isSubtype (.type "bytes") (.type "complex") = pure false := by rw [isSubtype_type]; kernel_rfl
theorem H5 : typeLookup (.type "slice") "__index__" = pure none := by rw [typeLookup_type, builtinLookup_eq_fast]; kernel_rfl
theorem Sv : ∀ a : Args, C9 (.builtin "bytearray.__setitem__" a) := Po (fun ω ω ω => by kernel_rfl) (fun ω ω ω ω ω => by kernel_rfl) (by decide +kernel)
theorem spl_len {α : Type} {l new : List α} {p q N : Nat} (h : p + new.length = q) (hq : q ≤ l.length) (hl : l.length ≤ N) : (l.take p ++ new ++ l.drop q).length ≤ N := by
 rw [List.length_append, List.length_append, List.length_drop]
 exact Nat.le_trans (Nat.add_le_add_right (Nat.add_le_add_right (List.length_take_le p l) _) _) (by rw [h, Nat.add_sub_cancel' hq]; exact hl)
theorem setItem_slice {sl : Addr} {new : List UInt8} {p q : Nat} {Q : Unit → Shared → Prop} (H : Is s.heap a l) (hz : l.length ≤ 1000000) (hzn : new.length ≤ 1000000)
  (hS : s.heap.IsSliceOf sl vl vu .none) (hl : IsPart vl lo) (hu : IsPart vu hi) (hb : sliceBounds lo hi none l.length = ((p : Int), (q : Int), 1)) (hpq : p + new.length = q) (hq : q ≤ l.length)
  (hQ : ∀ h', (∀ b o, b ≠ a → s.heap.get? b = some o → h'.get? b = some o) → Is h' a (l.take p ++ new ++ l.drop q) → Q () { s with heap := h' }) :
  wpN (model prog w) A (setItem (.ref a) (.ref sl) (.bytes ⟨new⟩ u)) Q E s := by
 refine G1 H.type (by decide) FC (DV (Sv _) FC H.type J3 ?_ (Ks _ _ _))
 refine C8 (id hS) fun o ho hc hd => ?_
 have hT : s.TypeIs (.ref sl) "slice" := ⟨o, ho, hc⟩
 unfold Builtin.«bytearray.__setitem__»
 show wpN _ _ (Bytes.subscript? (.ref sl) >>= fun r => _) _ _ s
 refine A0 (A3 ?_)
 unfold Bytes.subscript?
 refine wpAny_bind (wpAny_specialOf hT H5 (wpAny_pure ?_))
 refine A0 (A3 (wpAny_typeOf hT ?_))
 show wpN _ _ (Bytes.sliceParts (.ref sl) >>= fun r => _) _ _ s
 refine A0 (A3 (GD hS hl hu ?_))
 show wpN _ _ (isInstance (.bytes ⟨new⟩ u) (.type "bytearray") >>= _) _ _ _
 refine A0 (A3 (wpAny_isInstance (typeIs_bytes _ _ _) NH ?_))
 refine A0 ?_
 show wpN _ _ ((specialOf (.bytes ⟨new⟩ u) "__index__" >>= fun r => pure r.isSome) >>= _) _ _ _
 refine A0 (A0 (A3 (wpAny_specialOf (typeIs_bytes _ _ _) DQ (A5 ?_))))
 show wpN _ _ ((specialOf (.bytes ⟨new⟩ u) "__int__" >>= fun r => pure r.isSome) >>= _) _ _ _
 refine A0 (A0 (A3 (wpAny_specialOf (typeIs_bytes _ _ _) IX (A5 ?_))))
 show wpN _ _ ((specialOf (.bytes ⟨new⟩ u) "__float__" >>= fun r => pure r.isSome) >>= _) _ _ _
 refine A0 (A0 (A3 (wpAny_specialOf (typeIs_bytes _ _ _) Hb (A5 ?_))))
 show wpN _ _ (isInstance (.bytes ⟨new⟩ u) (.type "complex")) _ _ _
 refine A3 (wpAny_isInstance (typeIs_bytes _ _ _) Ht ?_)
 refine A0 (m := asStr? _) (A5 ?_)
 show wpN _ _ (rule _ >>= fun ω => call (.type "bytearray") [.bytes ⟨new⟩ u] >>= _) _ _ _
 refine A0 (Df (A0 (call_bytearray hzn fun h' g hf H' => ?_)))
 have hS' : h'.IsSliceOf sl vl vu .none := ⟨o, g _ _ ho, hc, hd⟩
 have Ha : Is h' a l := g _ _ H
 refine A0 (A9 (A3 (GD (s := { s with heap := h' }) hS' hl hu ?_)))
 refine A0 (A3 (Di (s := { s with heap := h' }) H' ?_))
 refine A0 (A3 (Di (s := { s with heap := h' }) Ha ?_))
 have go : wpAny (model prog w) A.in1 (sliceIndices (rawPart lo) (rawPart hi) (rawPart none) l.length) (fun r s' => r = sliceBounds lo hi none l.length ∧ s' = { s with heap := h' }) (fun ω ω => False) { s with heap := h' } :=
  wpAny_of_eq (sliceIndices_raw lo hi none l.length (fun e => nomatch e)) ⟨rfl, rfl⟩
 refine A0 (A3 (wpAny_mono go (fun r s' hr => ?_) fun ω ω e => e.elim))
 (refine oa2 hr fun hr1 hr2 => ?_; clear hr)
 subst hr1 hr2
 rw [hb]
 have hm : max (p : Int) (q : Int) = q := by lia
 show wpN _ _ (if ((1 : Int) == 1) = true then _ else _) _ _ _
 rw [if_pos (by decide)]
 refine A0 (Df ?_)
 show wpN _ _ (if (((⟨new⟩ : Array UInt8).size : Int) != max (p : Int) q - p) = true then _ else _) _ _ _
 rw [if_neg (by simp only [List.size_toArray, bne_iff_ne, ne_eq, Classical.not_not, hm]; lia)]
 refine A0 (A3 (LM (l' := l.take p ++ new ++ l.drop q) (s := { s with heap := h' }) Ha ?_ (spl_len (by assumption) (by assumption) (by assumption)) fun h₂ H₂ sb => ?_))
 ·simp only [hm, Int.toNat_natCast]
  show Array.extract ⟨l⟩ 0 p ++ ⟨new⟩ ++ Array.extract ⟨l⟩ q (Array.size ⟨l⟩) = _
  simp [List.extract_eq_take_drop]
  rw [List.take_of_length_le (by simp)]
 ·exact A5 ⟨_, rfl, hQ h₂ (fun b o hb e => (sb.2 b hb).trans (g b o e)) H₂⟩
end
end BA
end
section
variable {K : B9} {h : Heap} {i : Int} {l : List UInt8} {P : List Value → Prop} {a b n : Nat} {v v1 v2 : Value} {Q : Value → Shared → Prop} {W : Wd}
section
variable {prog : Program} {w : World} {A : Around} {E : Value → Shared → Prop} {s : Shared} {σ : Sto}
theorem Lb {n k : Nat} (h : BX i n = some k) : seqIndex? i n = some k := by
 unfold BX at h
 unfold seqIndex?
 split at h
 ·split at h
  ·cases h
   have a : ¬ i < 0 := by lia
   simp [a]
   lia
  ·cases h
 ·split at h
  ·cases h
   have a : i < 0 := by lia
   simp [a]
   lia
  ·cases h
theorem Kvs.get {d : D} {es : List (Int × Value)} {fs : List (Int × D)} (r__ : Kvs σ h es fs) : fs.lookup i = some d → ∃ v, valueAt es i = some v ∧ Rp σ h v d := by
 induction r__ with
 | nil =>
  intro e
  cases e
 | cons k v d' es fs r rs ih__ =>
  intro e
  rw [List.lookup_cons] at e
  by_cases hk : i = k
  ·subst hk
   simp at e
   subst e
   exact ⟨v, by simp [valueAt], r⟩
  ·have : (i == k) = false := beq_eq_false_iff_ne.mpr hk
   rw [this] at e
   refine Af (ih__ e) fun v' h1 h2 => ?_
   refine ⟨v', ?_, h2⟩
   unfold valueAt at h1 ⊢
   rw [List.find?_cons]
   have : decide (k = i) = false := decide_eq_false (Ne.symm hk)
   simpa [this] using h1
theorem K3 {n k : Nat} (h : BX i n = some k) : (0 ≤ i ∧ i < n ∧ i.toNat = k) ∨ (i < 0 ∧ -(n : Int) ≤ i ∧ (i + n).toNat = k) := by
 unfold BX at h
 by_cases h0 : 0 ≤ i
 ·rw [if_pos h0] at h
  by_cases h1 : i < n
  ·rw [if_pos h1] at h; exact .inl ⟨h0, h1, Option.some.inj h⟩
  ·rw [if_neg h1] at h; cases h
 ·rw [if_neg h0] at h
  by_cases h1 : -(n : Int) ≤ i
  ·rw [if_pos h1] at h; exact .inr ⟨by lia, h1, Option.some.inj h⟩
  ·rw [if_neg h1] at h; cases h
theorem Pg {vs : List Value} {ds : List D} {d : D} {P : Prop} (r : Rps σ h vs ds) (hd : (BX i ds.length).bind (ds[·]?) = some d) (c : ∀ k x, BX i vs.length = some k → vs[k]? = some x → Rp σ h x d → P) : P :=
 (Option.bind_eq_some_iff.mp hd).elim fun k h => (r.get h.2).elim fun x g => c k x (r.length ▸ h.1) g.1 g.2
theorem Oq {o i : D} {v u : Value} {K : D → Prop} (R : StR W σ s) (h1 : Rp σ s.heap v o) (h2 : Rp σ s.heap u i) (hp : Kg σ o i K)
  (hQ : OpQ σ s K Q) : wpAny (model W.prog W.w) A (getItem v u) Q E s := by
 refine h2.onI hp fun i t hp => ?_
 cases o with
 | lst ds =>
  exact h1.eL fun a vs n1 l1 r1 => hp.elim fun d hp => Pg r1 hp.1 fun k x hk hx hr => (K3 hk).elim
   (fun h => wpAny_getItem_list l1 h.1 (by have := hp.2.1; clear hp; lia) (by rw [h.2.2]; simpa using hx) (hQ.same hp.2.2 hr))
   fun h => wpAny_getItem_list_neg l1 h.1 h.2.1 (by have := hp.2.1; clear hp; lia) (by rw [show i + (((⟨vs⟩ : Array Value).size : Nat) : Int) = i + (vs.length : Int) from rfl, h.2.2]; simpa using hx) (hQ.same hp.2.2 hr)
 | tup ds =>
  exact h1.eT fun a vs n1 l1 r1 => hp.elim fun d hp => Pg r1 hp.1 fun k x hk hx hr => by
   have hi := hp.2.1
   exact PyProof.Rows.getItem_tuple l1 (by clear hp; lia) (by clear hp; lia) (Lb hk) (by simpa using hx) (hQ.same hp.2.2 hr)
 | bytes l =>
  exact h1.eY fun t' => hp.elim fun c hp => by
   have hlt := (List.getElem?_eq_some_iff.mp hp.2.1).1
   have hz := hp.1.2
   refine PySem.W.getItem_bytes (by clear hp; lia) hp.1.1 (by have := hp.1.1; clear hp; show i < (l.length : Int); lia) ?_
   rw [show l.getD i.toNat 0 = c by simp [List.getD, hp.2.1]]
   exact hQ.same hp.2.2 (.int _ _)
 | ref a =>
  exact h1.eR (hp.elim
   (fun hp => hp.elim fun l hp => hp.elim fun c hp => BA.getItem_int (R.objs _ _ hp.1).1 hp.2.1.1 hp.2.1.2 hp.2.2.1 (hQ.same hp.2.2.2 (.int _ _)))
   fun hp => hp.elim fun es hp => hp.elim fun x hp => (R.objs _ _ hp.1).elim fun kvs hd => (Kvs.get hd.2 hp.2.1).elim fun y hy =>
    wpAny_getItem_of (knd := intKind W.prog W.w) (k := i) (by simp [intKind, Value.isInt]) hd.1.mapOf hy.1 (hQ.same (s' := { s with toks := s.toks + 1 }) hp.2.2 hy.2))
 | _ => exact False.elim hp
theorem Nv (h : 0 ≤ i) : clipAt n i = min i.toNat n := by
 have := clipAt_nat n i.toNat
 rwa [Int.toNat_of_nonneg h] at this
@[elab_as_elim] theorem Jx {d : D} {P : D → Prop} (e : bound n d = some a) (c0 : a = 0 → P .none) (c1 : ∀ i : Int, 0 ≤ i → min i.toNat n = a → P (.int i)) : P d := by
 cases d with
 | none => exact c0 (Option.some.inj e).symm
 | int i =>
  have e : (if 0 ≤ i ∧ i < 2 ^ 60 then some (min i.toNat n) else none) = some a := e
  by_cases h : 0 ≤ i ∧ i < 2 ^ 60
  ·rw [if_pos h] at e; exact c1 i h.1 (Option.some.inj e)
  ·rw [if_neg h] at e; exact nos e
 | _ => exact nos e
@[elab_as_elim] theorem GV {d : D} {P : D → Prop} (e : Ce n d = some a) (c0 : a = n → P .none) (c1 : ∀ i : Int, 0 ≤ i → min i.toNat n = a → P (.int i)) : P d := by
 cases d with
 | none => exact c0 (Option.some.inj e).symm
 | int i => exact Jx (P := fun d => d = .int i → P d) e (fun ω h => by cases h) (fun i h0 h1 e => by cases e; exact c1 i h0 h1) rfl
 | _ => exact nos e
theorem FG {d : D} (r : Rp σ h v d) (e : bound n d = some a) : ∃ k : Option Int, IsPart v k ∧ k.elim 0 (clipAt n) = a ∧ ∀ i, k = some i → 0 ≤ i :=
 Jx (P := fun d => Rp σ h v d → ∃ k : Option Int, IsPart v k ∧ k.elim 0 (clipAt n) = a ∧ ∀ i, k = some i → 0 ≤ i) e (fun h r => r.eN ⟨none, .none, h.symm, fun ω => nos⟩)
  (fun i h0 ha r => r.eI fun t => ⟨some i, .int i t, (Nv h0).trans ha, fun j e => Option.some.inj e ▸ h0⟩) r
theorem FH {d : D} (r : Rp σ h v d) (e : Ce n d = some a) : ∃ k : Option Int, IsPart v k ∧ k.elim n (clipAt n) = a ∧ ∀ i, k = some i → 0 ≤ i :=
 GV (P := fun d => Rp σ h v d → ∃ k : Option Int, IsPart v k ∧ k.elim n (clipAt n) = a ∧ ∀ i, k = some i → 0 ≤ i) e (fun h r => r.eN ⟨none, .none, h.symm, fun ω => nos⟩)
  (fun i h0 ha r => r.eI fun t => ⟨some i, .int i t, (Nv h0).trans ha, fun j e => Option.some.inj e ▸ h0⟩) r
theorem MT {d : D} (e : Ce n d = some a) : a ≤ n :=
 GV (P := fun ω => a ≤ n) e (fun h => h ▸ Nat.le_refl _) fun i ω h => h ▸ Nat.min_le_right ..
theorem Pm {vs : List Value} {lo hi : Option Int} (ha : lo.elim 0 (clipAt vs.length) = a) (hb : hi.elim vs.length (clipAt vs.length) = b) : slicePick ⟨vs⟩ lo hi none = ⟨cut vs a b⟩ := by
 unfold slicePick
 rw [sliceBounds_plain]
 show ((sliceRange ((lo.elim 0 (clipAt vs.length) : Nat) : Int) ((hi.elim vs.length (clipAt vs.length) : Nat) : Int) 1).filterMap _).toArray = _
 rw [ha, hb, sliceRange_one, pick_run]
 rfl
theorem N4 {k1 k2 : Option Int} (ha : k1.elim 0 (clipAt n) = a) (hb : k2.elim n (clipAt n) = b) (h1 : ∀ i, k1 = some i → 0 ≤ i) (h2 : ∀ i, k2 = some i → 0 ≤ i) :
  Builtin.Slice.sliceAdjust k1 k2 1 (n : Int) = ((a : Int), (b : Int)) := by
 unfold Builtin.Slice.sliceAdjust
 have c1 : ¬ ((1 : Int) < 0) := by lia
 have go : ∀ i : Int, 0 ≤ i → (if i < 0 then max (i + n) 0 else min i (n : Int)) = (clipAt n i : Int) := fun i hi => by
  rw [clipAt_cast]
  have : ¬ i < 0 := by lia
  simp only [this, if_false]
  lia
 simp only [c1, if_false]
 cases k1 with
 | none =>
  simp only [Option.elim] at ha
  subst ha
  cases k2 with
  | none => simp only [Option.elim] at hb; subst hb; rfl
  | some j => simp only [Option.elim] at hb; subst hb; show (_, _) = _; congr 1; exact go j (h2 j rfl)
 | some i =>
  simp only [Option.elim] at ha
  subst ha
  cases k2 with
  | none => simp only [Option.elim] at hb; subst hb; show (_, _) = _; congr 1; exact go i (h1 i rfl)
  | some j => simp only [Option.elim] at hb; subst hb; show (_, _) = _; congr 1; exact go i (h1 i rfl); exact go j (h2 j rfl)
theorem Mp (a b : Nat) : Builtin.Slice.slicePlaces (a : Int) (b : Int) 1 = b - a := by
 unfold Builtin.Slice.slicePlaces
 have h1 : (1 : Int) > 0 := by lia
 simp only [h1, if_true, Int.ediv_one]
 split <;> lia
theorem Mq (vs : List Value) (a k : Nat) : ((List.range k).filterMap fun (k : Nat) => (⟨vs⟩ : Array Value)[((a : Int) + (k : Int) * 1).toNat]?).toArray = ⟨(vs.drop a).take k⟩ := by
 have e : (fun (k : Nat) => (⟨vs⟩ : Array Value)[((a : Int) + (k : Int) * 1).toNat]?) = fun k => (⟨vs⟩ : Array Value)[a + k]? := by
  funext k
  have : ((a : Int) + (k : Int) * 1).toNat = a + k := by lia
  rw [this]
 rw [e]
 have := pick_run (⟨vs⟩ : Array Value) a k
 rw [List.filterMap_map] at this
 have e2 : ((fun x => (⟨vs⟩ : Array Value)[x]?) ∘ fun x => a + x) = fun k => (⟨vs⟩ : Array Value)[a + k]? := rfl
 rw [e2] at this
 rw [this]
theorem G8 {sl : Addr} {k1 k2 : Option Int} {Q : Int × Int × Nat → Shared → Prop} (hs : s.heap.IsSliceOf sl v1 v2 .none) (p1 : IsPart v1 k1) (p2 : IsPart v2 k2)
  (ha : k1.elim 0 (clipAt n) = a) (hb : k2.elim n (clipAt n) = b) (h1 : ∀ i, k1 = some i → 0 ≤ i) (h2 : ∀ i, k2 = some i → 0 ≤ i) (h : Q ((a : Int), 1, b - a) s) :
  wpAny (model prog w) A (Builtin.Slice.sliceApplied (.ref sl) (pure (n : Int))) Q E s := by
 refine C8 (id hs) fun os hos hcs hds => ?_
 have part : ∀ {v : Value} {k : Option Int} {Q : Option Int → Shared → Prop}, IsPart v k → Q k s → wpAny (model prog w) A (Builtin.Slice.slicePartIndex v) Q E s := fun p q => by
  cases p with
  | none => exact slicePart_none q
  | int i t => exact slicePart_int q
 unfold Builtin.Slice.sliceApplied Builtin.Slice.sliceFields
 refine wpAny_bind (wpAny_bind (wpAny_field hos hds (x := v1) rfl (wpAny_bind (wpAny_field hos hds (x := v2) rfl (wpAny_bind (wpAny_field hos hds (x := .none) rfl (wpAny_pure ?_)))))))
 refine wpAny_bind (slicePart_none ?_)
 show wpAny _ _ (if ((1 : Int) == 0) = true then _ else _) _ _ s
 rw [if_neg (by decide)]
 refine wpAny_bind (part p1 (wpAny_bind (part p2 (wpAny_bind (wpAny_pure ?_)))))
 show wpAny _ _ (match Builtin.Slice.sliceAdjust k1 k2 1 (n : Int) with | (lo, hi) => pure (lo, (1 : Int), Builtin.Slice.slicePlaces lo hi 1)) _ _ s
 rw [N4 ha hb h1 h2]
 show wpAny _ _ (pure ((a : Int), (1 : Int), Builtin.Slice.slicePlaces (a : Int) (b : Int) 1)) _ _ s
 rw [Mp a b]
 exact wpAny_pure h
theorem FO {t sl : Addr} {vs : List Value} {k1 k2 : Option Int} (ht : s.heap.IsTuple t ⟨vs⟩) (hs : s.heap.IsSliceOf sl v1 v2 .none) (p1 : IsPart v1 k1) (p2 : IsPart v2 k2)
  (ha : k1.elim 0 (clipAt vs.length) = a) (hb : k2.elim vs.length (clipAt vs.length) = b) (h1 : ∀ i, k1 = some i → 0 ≤ i) (h2 : ∀ i, k2 = some i → 0 ≤ i) (hz : vs.length ≤ 1000000)
  (hw : a = 0 → b = vs.length → Q (.ref t) s)
  (h : Q (.ref s.heap.objs.size) { s with heap := s.heap.push { cls := .type "tuple", data := .seq ⟨cut vs a b⟩ } }) : wpAny (model prog w) A (getItem (.ref t) (.ref sl)) Q E s := by
 refine C8 (id hs) fun os hos hcs hds => ?_
 have hTs : s.TypeIs (.ref sl) "slice" := ⟨os, hos, hcs⟩
 have ht' : IsTup s.heap t ⟨vs⟩ := ht
 unfold getItem
 try with_reducible refine wpAny_holding ?_
 first | refine wpAny_bind (wpAny_pure ?_) | skip
 refine wpAny_bind (wpAny_sequenceKey ht'.typeIs (by decide) ?_)
 refine wpAny_bind (wpAny_callSpecial?_slot (name := Z "__getitem__") ht'.typeIs PyProof.Rows.slot_tuple_getitem
  (wpAny_call_entry PyProof.Rows.slot_tuple_getitem ht'.typeIs PyProof.Rows.entry_tuple_getitem ?_ (PyProof.Rows.args_tuple_getitem _ _)))
 show wpAny _ _ (Builtin.Tuple.tupleItemsOf (.ref t) >>= _) _ _ s
 refine wpAny_bind (tupleItemsOf_ ht' ?_)
 refine wpAny_bind (wpAny_typeOf hTs ?_)
 rw [if_pos (by decide)]
 refine wpAny_bind (G8 hs p1 p2 ha hb h1 h2 ?_)
 show wpAny _ _ (if ((a : Int) == 0 && (1 : Int) == 1 && (b - a) == vs.length) = true then _ else _) _ _ s
 have hnew : wpAny (model prog w) A.in1 (Builtin.Tuple.tupleExact ((List.range (b - a)).filterMap fun (k : Nat) => (⟨vs⟩ : Array Value)[((a : Int) + (k : Int) * 1).toNat]?).toArray >>= fun r => ret r)
   (fun fin s' => ∃ v, fin = .done (.ret v) ∧ wpAny (model prog w) A (pure v) Q E s') E s := by
  rw [Mq]
  refine wpAny_bind (m := Builtin.Tuple.tupleExact _) (wpAny_newObj_type (wpAny_pure ⟨_, rfl, wpAny_pure h⟩) ?_)
  show ((vs.drop a).take (b - a)).length ≤ sizeLine
  rw [sizeLine_eq, List.length_take, List.length_drop]
  exact Nat.le_trans (Nat.le_trans (Nat.min_le_right ..) (Nat.sub_le ..)) (Nat.le_trans hz (by decide))
 by_cases hc : ((a : Int) == 0 && (1 : Int) == 1 && (b - a) == vs.length) = true
 ·rw [if_pos hc]
  simp only [Bool.and_eq_true, beq_iff_eq] at hc
  have a0 : a = 0 := Int.ofNat.inj hc.1.1
  have hw' := hw a0 (by have := hc.2; rwa [a0, Nat.sub_zero] at this)
  unfold Builtin.Tuple.tupleIsExact
  refine wpAny_bind (wpAny_bind (wpAny_typeOf ht'.typeIs (wpAny_pure ?_)))
  show wpAny _ _ (if (Value.type "tuple" == Value.type "tuple") = true then _ else _) _ _ s
  rw [if_pos (by decide)]
  exact wpAny_bind (wpAny_rule (wpAny_bind (wpAny_pure (wpAny_pure ⟨_, rfl, wpAny_pure hw'⟩))))
 ·rw [if_neg hc]
  first
   | exact hnew
   | (refine wpAny_bind (wpAny_mono hnew ?_ fun ω ω e => e); rintro fin s' ⟨v, rfl, hv⟩; exact wpAny_pure ⟨_, rfl, hv⟩)
abbrev DO (W : Wd) (σ : Sto) (s : Shared) (K : B9) (Q : Value → Shared → Prop) : Prop :=
 ∀ v s' d σ', K d σ' → StR W σ' s' → AP σ s.heap σ' s'.heap → Rp σ' s'.heap v d → Q v s'
theorem DO.op (R : StR W σ s) (h : DO W σ s K Q) : OpQ σ s (fun d => K d σ) Q :=
 fun v s' d k r g e1 e2 => h v s' d σ k (R.grow g e1 e2) g.step r
theorem Nu {vs : List Value} {ds : List D} (r : Rps σ h vs ds) (a b : Nat) : Rps σ h (cut vs a b) (cut ds a b) := (r.drop a).take _
theorem DO.barr (hQ : DO W σ s K Q) (R : StR W σ s) {h' : Heap} (g : AM s.heap h') (H : h'.get? s.heap.objs.size = some { cls := .type "bytearray", data := .bytearray ⟨l⟩ }) (hl : l.length ≤ 1000000)
  (hk : ∀ p, σ p = none → K (.ref p) (σ.upd p (.barr l))) : Q (.ref s.heap.objs.size) { s with heap := h' } := by
 have na := AF s.heap
 have hf : σ s.heap.objs.size = none := by
  cases e : σ s.heap.objs.size with
  | none => rfl
  | some o => refine oe1 (R.keyAt e) fun y q => ?_; rw [na] at q; cases q
 have ad := R.add (s' := { s with heap := h' }) (o := .barr l) g na na R.big (by intro C da fs e; cases e) (fun ω => ⟨H, hl⟩)
 exact hQ _ _ _ _ (hk _ hf) ad.1 ad.2 (.ref _)
theorem HP {k1 k2 : Option Int} (q1 : k1.elim 0 (clipAt l.length) = a) (q2 : k2.elim l.length (clipAt l.length) = b) : KBy.picked ⟨l⟩ k1 k2 = ⟨cut l a b⟩ := by
 rw [KBc.picked_eq]
 show ((l.drop (k1.elim 0 (clipAt l.length))).take (k2.elim l.length (clipAt l.length) - k1.elim 0 (clipAt l.length))).toArray = _
 rw [q1, q2]; rfl
theorem RZ {α : Type} (l : List α) (a b : Nat) : (cut l a b).length ≤ l.length := by
 unfold cut
 rw [List.length_take, List.length_drop]
 exact Nat.le_trans (Nat.min_le_right ..) (Nat.sub_le ..)
theorem NZ {x lo hi : D} {v vl vu : Value} {sl : Addr} (R : StR W σ s) (h1 : Rp σ s.heap v x) (h2 : Rp σ s.heap vl lo) (h3 : Rp σ s.heap vu hi) (hs : s.heap.IsSliceOf sl vl vu .none)
  (hp : JM σ x lo hi K) (hQ : DO W σ s K Q) : wpAny (model W.prog W.w) A (getItem v (.ref sl)) Q E s := by
 cases x with
 | lst ds =>
  exact h1.eL fun r vs n1 l1 r1 => hp.elim fun a hp => hp.elim fun b hp => by
   have z := r1.length
   rw [← z] at hp
   refine (FG h2 hp.2.1).elim fun k1 p => (FH h3 hp.2.2.1).elim fun k2 q => wpAny_getItem_list_slice l1 hs p.1 q.1 .none (by intro e; cases e) ?_ (by rw [sizeLine_eq]; exact Nat.le_trans hp.1 (by decide))
   rw [Pm p.2.1 q.2.1]
   exact (hQ.op R).list R hp.2.2.2 (Nu r1 a b) rfl
 | tup ds =>
  exact h1.eT fun r vs n1 l1 r1 => hp.elim fun a hp => hp.elim fun b hp => by
   have z := r1.length
   rw [← z] at hp
   refine (FG h2 hp.2.1).elim fun k1 p => (FH h3 hp.2.2.1).elim fun k2 q => FO l1 hs p.1 q.1 p.2.1 q.2.1 p.2.2 q.2.2 hp.1 (fun e1 e2 => ?_) ((hQ.op R).tuple R hp.2.2.2 (Nu r1 a b) rfl)
   have hk := hp.2.2.2
   rw [e1, show cut ds 0 b = ds from List.take_of_length_le (by simp [e2, z])] at hk
   exact (hQ.op R).same hk (.tup _ vs _ n1 l1 r1)
 | bytes l =>
  exact h1.eY fun t => hp.elim fun a hp => hp.elim fun b hp => by
   refine (FG h2 hp.2.1).elim fun k1 p => (FH h3 hp.2.2.1).elim fun k2 q => getItem_meets (typeIs_bytes _ _ _) (by decide) FB.slot_bytes_getitem FB.entry_bytes_getitem (FB.args_bytes_getitem_2 _ _) (KBc.meets_slice2 ⟨l⟩ t _ p.1 q.1)
    ⟨hs, Nat.le_trans (KBc.size_picked_le _ k1 k2) (by rw [sizeLine_eq]; exact Nat.le_trans hp.1 (by decide)), fun t' k => ?_⟩
   rw [HP p.2.1 q.2.1]
   exact (hQ.op R).same hp.2.2.2 (.bytes _ _)
 | ref r =>
  exact h1.eR (hp.elim fun l hp => hp.elim fun a hp => hp.elim fun b hp => by
   have H := R.objs _ _ hp.1
   refine (FG h2 hp.2.1).elim fun k1 p => (FH h3 hp.2.2.1).elim fun k2 q => BA.getItem_slice H.1 H.2 hs p.1 q.1 ?_
   rw [HP p.2.1 q.2.1]
   exact hQ.barr R (AM.push _ _) (Heap.get?_push_size _ rfl) (Nat.le_trans (RZ ..) H.2) hp.2.2.2)
 | _ => exact False.elim hp
noncomputable def Q2 : Blt → Value
 | .len => .builtin "len"
 | .range => .type "range"
 | .bytes => .type "bytes"
 | .bytearray => .type "bytearray"
 | .list => .type "list"
 | .sum => .builtin "sum"
 | .max => .builtin "max"
 | .min => .builtin "min"
theorem MS (ns : List Int) : byteArr ns = ⟨ns.map F9⟩ := by
 unfold byteArr F9
 rfl
theorem NG {vs : List Value} {ns : List Int} {l : Addr} (hh : A.handled = none) (hl : s.heap.IsList l vs.toArray) (hi : IntsAre vs ns)
  (h : ∀ h' tk t', (∀ b o, s.heap.get? b = some o → h'.get? b = some o) → Q (.int ns.sum t') { s with heap := h', toks := tk }) : wpAny (model prog w) A (call (.builtin "sum") [.ref l]) Q E s := by
 refine oe1 (hi.allInts.items) fun xs hx => ?_
 have hl' : s.heap.IsList l (intItems xs) := hx ▸ hl
 refine sum_intListG hh hl' fun h' tk t' hk => ?_
 have e1 : ns = xs.toList.map (·.1) := by
  rw [← nums_intItems, ← hx]
  exact (show numsOf vs.toArray.toList = ns from hi.numsOf).symm
 have e2 : preSum (numAt xs) xs.size = ns.sum := by
  rw [preSum_eq, List.take_of_length_le (by simp), e1]
 rw [e2]
 exact h h' tk t' hk
theorem Lo {acc : Array Value} (h : ItemsOf (fun i v => ∃ c u, l[i]? = some c ∧ v = .int (c.toNat : Int) u) acc l.length) {hp : Heap} : Rps σ hp acc.toList (A6 l) := by
 (refine oa2 h fun hz hi => ?_; clear h)
 have go : ∀ (l : List UInt8) (vs : List Value), vs.length = l.length → (∀ (j : Nat) (v : Value), vs[j]? = some v → ∃ (c : UInt8) (u : Tok), l[j]? = some c ∧ v = Value.int (c.toNat : Int) u) → Rps σ hp vs (A6 l) := by
  intro l
  induction l with
  | nil => intro vs e _; cases vs with | nil => exact .nil | cons _ _ => cases e
  | cons c l ih =>
   intro vs e hi
   cases vs with
   | nil => cases e
   | cons v vs =>
    refine Bu (hi 0 v rfl) fun c' u e1 e2 => ?_
    simp at e1
    subst e1 e2
    exact Rps.cons _ _ _ _ (Rp.int _ _) (ih vs (by simpa using e) fun j v hj => by simpa using hi (j + 1) v (by simpa using hj))
 exact go l acc.toList (by simpa using hz) fun j v hj => hi j v (by simpa using hj)
theorem Rps.two {vs : List Value} {d e : D} (r : Rps σ h vs [d, e]) : ∃ v u, vs = [v, u] ∧ Rp σ h v d ∧ Rp σ h u e :=
 r.eC fun v ω a r => r.eC fun u ω b r => r.eN ⟨v, u, rfl, a, b⟩
@[elab_as_elim] theorem Rps.on1 {vs : List Value} {ds : List D} {k : D → Prop} (r : Rps σ h vs ds) (hk : on1 ds k) (c : ∀ v d, k d → Rp σ h v d → P [v]) : P vs := by
 cases ds with
 | nil => exact False.elim hk
 | cons d ds => cases ds with
  | nil => exact r.eC fun v ω a r => r.eN (c v d hk a)
  | cons _ _ => exact False.elim hk
@[elab_as_elim] theorem Rps.on2 {vs : List Value} {ds : List D} {k : D → D → Prop} (r : Rps σ h vs ds) (hk : on2 ds k) (c : ∀ v d u e, k d e → Rp σ h v d → Rp σ h u e → P [v, u]) : P vs := by
 cases ds with
 | nil => exact False.elim hk
 | cons d ds => exact r.eC fun v ω a r => r.on1 hk fun u e hk b => c v d u e hk a b
theorem Sz {vs : List Value} {ds : List D} (r : Rps σ h vs ds) (hz : ds.length ≤ 1000000) : (((⟨vs⟩ : Array Value).size : Nat) : Int) < 2 ^ 63 := by
 show ((vs.length : Nat) : Int) < _
 rw [r.length]; lia
theorem QT {d : D} (R : StR W σ s) (r : Rp σ s.heap v d) (hp : Fa .len [d] σ K) (hQ : DO W σ s K Q) : wpAny (model prog w) A (call (.builtin "len") [v]) Q E s := by
 cases d with
 | lst ds => exact r.eL fun a vs n1 l1 r1 => call_len_list l1 (Sz r1 hp.1) (by show Q (.int (vs.length : Nat) _) _; rw [r1.length]; exact (hQ.op R).same hp.2 (.int _ _))
 | tup ds => exact r.eT fun a vs n1 l1 r1 => PyProof.Rows.len_tuple l1 (Sz r1 hp.1) (by show Q (.int (vs.length : Nat) _) _; rw [r1.length]; exact (hQ.op R).same hp.2 (.int _ _))
 | bytes l => exact r.eY fun t => PySem.W.len_bytes (show l.length ≤ _ from Nat.le_trans hp.1 (by decide)) ((hQ.op R).same hp.2 (.int _ _))
 | ref a => exact r.eR (hp.elim fun l hp => BA.len_ (R.objs _ _ hp.1).1 (R.objs _ _ hp.1).2 fun t k => (hQ.op R).same hp.2 (.int _ _))
 | _ => exact False.elim hp
theorem OD {vs : List Value} {ds : List D} (R : StR W σ s) (h1 : Rps σ s.heap vs ds) (hp : Fa .range ds σ K) (hQ : DO W σ s K Q) : wpAny (model prog w) A (call (.type "range") vs) Q E s := by
 cases ds with
 | nil => exact False.elim hp
 | cons d ds =>
  refine h1.eC fun v vs r1 h1 => r1.onI hp fun a t hp => ?_
  cases ds with
  | nil => exact h1.eN (call_range_1 ((hQ.op R) _ { s with heap := _, toks := _ } _ hp.2 (.rng _ _ _ _ _ _ _ (Ar R (AF _)) (IsRange.new _ _ _ _ _ _ _)) (AM.push _ _) rfl rfl))
  | cons e ds =>
   refine h1.eC fun u vs r2 h1 => h1.on1 hp fun x f hp r3 => r2.onI hp fun b t hp => r3.onI hp fun c t hp => call_range_3 (by have := hp.1.2.1; clear hp; lia)
    ((hQ.op R) _ { s with heap := _, toks := _ } _ hp.2 (.rng _ _ _ _ _ _ _ (Ar R (AF _)) (IsRange.new _ _ _ _ _ _ _)) (AM.push _ _) rfl rfl) (.inl (PyProof.noPylong_of_log2 ?_))
   refine oa3 (hp.1) fun ω h0 h9 => ?_
   clear hp
   exact Nat.lt_trans ((Nat.log2_lt (k := 60) (by lia)).mpr (by lia)) (by decide)
theorem OE {d : D} (hh : A.handled = none) (R : StR W σ s) (r : Rp σ s.heap v d) (hp : Fa .bytes [d] σ K) (hQ : DO W σ s K Q) : wpAny (model prog w) A (call (.type "bytes") [v]) Q E s := by
 cases d with
 | lst ds =>
  exact r.eL fun a vs n1 l1 r1 => by
   (refine Sw hp fun ns zq1 hr hz hk => ?_; clear hp; subst zq1)
   have z := r1.length
   refine call_bytes_ints l1 r1.ints hr (by rw [sizeLine_eq, z, List.length_map]; exact Nat.le_trans hz (by decide)) hh fun h' t k g => ?_
   rw [MS]
   exact (hQ.op R) _ _ _ hk (.bytes _ _) g rfl rfl
 | bytes l => exact r.eY fun t => BA.call_bytes_bytes ((hQ.op R).same hp (.bytes _ _))
 | ref a => exact r.eR (hp.elim fun l hp => BA.call_bytes (R.objs _ _ hp.1).1 (R.objs _ _ hp.1).2 fun t k => (hQ.op R).same hp.2 (.bytes _ _))
 | _ => exact False.elim hp
theorem OC {b : Blt} {vs : List Value} {ds : List D} (hh : A.handled = none) (R : StR W σ s) (h1 : Rps σ s.heap vs ds) (hp : Fa b ds σ K) (hQ : DO W σ s K Q) :
  wpN (model prog w) A (call (Q2 b) vs) Q E s := by
 cases b with
 | len => exact h1.on1 hp fun v d hp r => A3 (QT R r hp hQ)
 | range => exact A3 (OD R h1 hp hQ)
 | bytes => exact h1.on1 hp fun v d hp r => A3 (OE hh R r hp hQ)
 | bytearray => exact h1.on1 hp fun v d hp r => r.onY hp fun l t hp => BA.call_bytearray hp.1 fun h' g na H' => hQ.barr R g H' hp.1 hp.2
 | list =>
  exact h1.on1 hp fun v d hp r => r.onR hp fun a hp => hp.elim fun l hp => A3 (BA.call_list hh (R.objs _ _ hp.1).1 (R.objs _ _ hp.1).2 fun h' tk acc c g hS hi =>
   (hQ.op R) _ _ _ hp.2 (.lst _ acc.toList _ (Ar R (AF _)) ⟨_, hS, rfl, c, rfl⟩ (Lo hi)) g rfl rfl)
 | sum => exact h1.on1 hp fun v d hp r => r.onL hp fun ds a vs hp n1 l1 r1 => E8 r1 hp fun ns r1 hk => A3 (NG hh l1 r1 fun h' tk t' g => (hQ.op R) _ _ _ hk (.int _ _) g rfl rfl)
 | max =>
  exact h1.on2 hp fun v d u e hp r r2 => r.onI hp fun a t hp => r2.onI hp fun b u hp => A3 (PySem.Flt.max_two_num hh (PySem.Flt.NumV.int _ _) (PySem.Flt.NumV.int _ _) fun h' tk g => by
   by_cases h : a < b
   ·rw [if_pos (show PySem.Flt.ltV (.int a t) (.int b u) = true from decide_eq_true h)]
    rw [show max a b = b from Int.max_eq_right (Int.le_of_lt h)] at hp
    exact (hQ.op R) _ _ _ hp (.int _ _) g rfl rfl
   ·rw [if_neg (show ¬ (PySem.Flt.ltV (.int a t) (.int b u) = true) from fun e => h (of_decide_eq_true e))]
    rw [show max a b = a from Int.max_eq_left (Int.not_lt.mp h)] at hp
    exact (hQ.op R) _ _ _ hp (.int _ _) g rfl rfl)
 | min =>
  exact h1.on2 hp fun v d u e hp r r2 => r.onI hp fun a t hp => r2.onI hp fun b u hp => A3 (PySem.Flt.min_two_num hh (PySem.Flt.NumV.int _ _) (PySem.Flt.NumV.int _ _) fun h' tk g => by
   by_cases h : b < a
   ·rw [if_pos (show PySem.Flt.ltV (.int b u) (.int a t) = true from decide_eq_true h)]
    rw [show min a b = b from Int.min_eq_right (Int.le_of_lt h)] at hp
    exact (hQ.op R) _ _ _ hp (.int _ _) g rfl rfl
   ·rw [if_neg (show ¬ (PySem.Flt.ltV (.int b u) (.int a t) = true) from fun e => h (of_decide_eq_true e))]
    rw [show min a b = a from Int.min_eq_left (Int.not_lt.mp h)] at hp
    exact (hQ.op R) _ _ _ hp (.int _ _) g rfl rfl)
end
end
section
variable {K : Frag} {h : Heap} {es : List DictEntry} {n : Nat} {P : Params} {prog : Program} {name x : Str} {tk : Tok} {Q : Unit → Shared → Prop} {v : Value} {W : Wd} {w : World}
section
variable {A : Around} {E : Value → Shared → Prop} {s : Shared} {σ : Sto}
set_option tactic.hygienic true in
theorem EF.getL {d : D} {fs : List (Str × D)} (r__ : EF P σ h es fs) : fs.lookup x = some d → ∃ v, PySem.W.getL x es = some (some v) ∧ Rp σ h v d := by
 induction r__ with
 | nil =>
  intro e
  cases e
 | cons v t y d' es fs r rs ih__ =>
  intro e
  rw [List.lookup_cons] at e
  by_cases hk : x = y
  ·subst hk
   simp at e
   subst e
   exact ⟨v, by simp [PySem.W.getL, Value.isStr], r⟩
  ·have h1 : (x == y) = false := beq_eq_false_iff_ne.mpr hk
   rw [h1] at e
   refine Af (ih__ e) fun v' h2 h3 => ?_
   refine ⟨v', ?_, h3⟩
   unfold PySem.W.getL at h2 ⊢
   have h4 : Value.isStr (.str y t) x = false := by simpa [Value.isStr] using Ne.symm hk
   rw [List.find?_cons, h4]
   split at h2
   ·rename_i e he; rw [he]; exact h2
   ·split at h2 <;> cases h2
theorem Rp.handed {d : D} (r : Rp σ h v d) : handedIn v = true := by cases r <;> rfl
set_option tactic.hygienic true in
theorem EY {C : Addr} (e : EZ K C x = true) : plainGet K C x = true ∧ hasDictIn K C = true ∧ (∃ attr, findIn K (.ref C) x = some attr ∧ noGet K attr = true) ∧
  findIn K (.ref C) "__setattr__" = some (some (.builtin "object.__setattr__")) ∧ plainOver K C = true ∧ takerIn K C x = some none := by
 unfold EZ at e
 simp only [Bool.and_eq_true, beq_iff_eq] at e
 (refine oa2 e fun zq1 g => oa2 zq1 fun zq2 f => oa2 zq2 fun zq3 d => oa2 zq3 fun zq4 c => oa2 zq4 fun a b => ?_; clear e)
 refine ⟨a, b, ?_, d, f, g⟩
 split at c
 ·rename_i attr h; exact ⟨attr, h, c⟩
 ·cases c
set_option tactic.hygienic true in
theorem N0 {o : D} {expr : Bool} {K : D → Prop} {Q : Value → Shared → Prop} (hx : W.attrs.contains x = true) (R : StR W σ s) (h1 : Rp σ s.heap v o) (hp : C4 σ o x K)
  (hQ : OpQ σ s K Q) : wpAny (model W.prog W.w) A (getAttr v x expr) Q E s := by
 unfold C4 at hp
 split at hp
 ·rename_i a
  (refine Ra hp fun C da fs d hs hf hk => ?_; clear hp)
  cases h1 with | ref _ =>
  obtain ⟨p, ok, es, n, q, f, z⟩ := R.objs _ _ hs
  refine oa6 (EY (List.all_eq_true.mp ok x (by simpa using hx))) fun g1 g2 zq1 g5 g6 g7 => Af zq1 fun attr g3 g4 => ?_
  refine Af (f.getL hf) fun v hv hr => ?_
  have I : InstAt s.heap a (instObj C da) C (some (PySem.W.dictOf es n)) := ⟨p, rfl, rfl, q⟩
  exact get_value R.X I (plainGet_of g1).1 (findObj_own g2 g3 g4 (by rw [lookIn_dict]; exact hv)) hr.handed (hQ v { s with toks := s.toks + 1 } d hk hr (AM.refl _) rfl rfl)
 ·exact hp.elim
theorem EF.refKeys {fs : List (Str × D)} (r__ : EF P σ h es fs) : es.any (·.refKey) = false := by
 induction r__ with
 | nil =>
  exact rfl
 | cons v t y d' es fs r rs ih__ =>
  rw [List.any_cons, ih__]; rfl
theorem EF.put {d : D} (r : Rp σ h v d) {fs : List (Str × D)} (r__ : EF P σ h es fs) : EF P σ h (putL x (PyData.keyHash P x) (.str x tk) v es) (IV x d fs) := by
 induction r__ with
 | nil =>
  exact .cons _ _ _ _ _ _ r .nil
 | cons v' t y d' es fs r' rs ih__ =>
  unfold putL IV
  by_cases hk : y = x
  ·subst hk
   simp only [Value.isStr, beq_self_eq_true, if_true]
   exact .cons _ _ _ _ _ _ r rs
  ·have h4 : (y == x) = false := beq_eq_false_iff_ne.mpr hk
   simp only [Value.isStr, h4, Bool.false_eq_true, if_false]
   exact .cons _ _ _ _ _ _ r' ih__
theorem E6 (x : Str) (hs : Int) (k v : Value) : ∀ es : List DictEntry, (putL x hs k v es).length ≤ es.length + 1
 | [] => by simp [putL]
 | e :: r => by
  unfold putL
  split
  ·simp
  ·have := E6 x hs k v r; simp only [List.length_cons]; lia
theorem EF.length {fs : List (Str × D)} (r__ : EF P σ h es fs) : es.length = fs.length := by
 induction r__ with
 | nil =>
  exact rfl
 | cons v t y d' es fs r rs ih__ =>
  exact congrArg (·+ 1) ih__
theorem Qw {x C dx : Addr} {R : Result → Shared → Prop} (X : K.In s.heap) (p : s.heap.get? x = some (instObj C dx)) (q : s.heap.get? dx = some (dictOf es n))
  (ok : EZ K C name = true) (hr : es.any (·.refKey) = false) (hz : es.length ≤ 900)
  (h : ∀ h', h'.get? dx = some (dictOf (putL name (PyData.keyHash w.params name) (.str name s.toks) v es) (putN name es n)) → Heap.SameBut dx s.heap h' → R (.ok (.ret .none)) { s with heap := h', toks := s.toks + 1 }) :
  codeAny (model prog w) A (.call (.builtin "object.__setattr__") ⟨[.ref x, .str name tk, v], []⟩) R s := by
 refine oa6 (EY ok) fun g1 g2 zq1 g5 g6 g7 => Af zq1 fun attr g3 g4 => ?_
 have I : InstAt s.heap x (instObj C dx) C (some (dictOf es n)) := ⟨p, rfl, rfl, q⟩
 refine osa_open X I g6 g7 fun b => ?_
 refine Af (any_some g2) fun cd hc hd' => ?_
 refine wpAny_bind (wpAny_pure (wpAny_bind (wpAny_bind (wpAny_loadPart p (wpAny_bind ((looks_clsIn X hc).here ?_))))))
 rw [hd']
 refine wpAny_pure (a := some dx) (wpAny_bind (wpAny_pure (wpAny_bind ?_)))
 unfold nsSet
 refine wpAny_bind (wpAny_bind (wpAny_askSetting (wpAny_pure (wpAny_bind (wpAny_mkText (wpAny_bind (wpAny_loadPart q ?_)))))))
 dsimp only
 have c : (!es.toArray.any (·.key.isStr name) && es.toArray.any (·.refKey)) = false := by
  rw [← Array.any_toList, ← Array.any_toList]
  simp [hr]
 rw [aRefKeyMayBeTheName_at, c]
 refine wpAny_updatePart q ?_
 have e' := Heap.get?_update_self (Obj.putName name (PyData.keyHash w.params name) (.str name s.toks) v) q (by rw [putName_dict]; rfl)
 rw [putName_dict] at e'
 refine wpAny_bind (wpAny_lookBehind e' (pastItsLine_dict (by have := E6 name (PyData.keyHash w.params name) (.str name s.toks) v es; rw [List.size_toArray, sizeLine_eq]; lia)) ?_)
 exact wpAny_pure (h _ e' (Heap.SameBut.update ..))
theorem KR {x C dx : Addr} (X : K.In s.heap) (p : s.heap.get? x = some (instObj C dx)) (q : s.heap.get? dx = some (dictOf es n))
  (ok : EZ K C name = true) (hr : es.any (·.refKey) = false) (hz : es.length ≤ 900)
  (h : ∀ h' tk, h'.get? dx = some (dictOf (putL name (PyData.keyHash w.params name) (.str name tk) v es) (putN name es n)) → Heap.SameBut dx s.heap h' → Q () { s with heap := h', toks := s.toks + 2 }) :
  wpAny (model prog w) A (setAttr (.ref x) name v) Q E s := by
 refine oa6 (EY ok) fun g1 g2 zq1 g5 g6 g7 => Af zq1 fun attr g3 g4 => ?_
 have I : InstAt s.heap x (instObj C dx) C (some (dictOf es n)) := ⟨p, rfl, rfl, q⟩
 exact set_plain X I g5 (Qw (s := { s with toks := s.toks + 1 }) X p q ok hr hz fun h' e sb => h h' _ e sb)
theorem IK {a C da : Addr} {fs : List (Str × D)} {d : D} (hx : W.attrs.contains x = true) (R : StR W σ s) (hs : σ a = some (.inst C da fs)) (hz : fs.length < 400) (h1 : Rp σ s.heap v d)
  (hQ : ∀ s', StR W (σ.upd a (.inst C da (IV x d fs))) s' → AP σ s.heap (σ.upd a (.inst C da (IV x d fs))) s'.heap → Q () s') : wpAny (model W.prog W.w) A (setAttr (.ref a) x v) Q E s := by
 obtain ⟨p, ok, es, n, q, f, z⟩ := R.objs _ _ hs
 have hne : a ≠ da := fun e => R.head a C da fs hs ⟨a, _, hs, e.symm⟩
 have hl := f.length
 refine KR R.X p q (List.all_eq_true.mp ok x (by simpa using hx)) f.refKeys (by lia) fun h' tk e' sb => ?_
 have pt := R.put (s' := { s with heap := h', toks := s.toks + 2 }) (o' := .inst C da (IV x d fs)) hs sb rfl (fun C' da' fs' e => by cases e; exact ⟨fs, rfl⟩)
  (fun S => ⟨(sb.2 a hne).trans p, ok, _, _, e', (f.step S.q).put (h1.stepQ S.q), by have := E6 x (PyData.keyHash W.w.params x) (.str x tk) v es; lia⟩)
 exact hQ _ pt.1 pt.2
end
end
section
variable {a : Addr} {Q : Bool → Shared → Prop} {ks : List Int}
noncomputable abbrev Bs := Int × List Int
def AZ (prog : Program) (w : World) (h : Heap) (k : Bs) (a : Addr) : Prop :=
 ∃ o n b t, h.get? a = some o ∧ o.cls = .type "tuple" ∧ o.data = .seq #[.int k.1 t, .ref b] n ∧ IsTupleKey (intKind prog w) h k.2 b
theorem J0 {prog : Program} {w : World} {vs : List Value} (h : ItemsAre (intKind prog w) ks vs) : IntsAre vs ks := by
 induction h with
 | nil => exact .nil
 | cons h1 _ ih => (refine oe1 (Value.isInt_shape h1) fun t zq1 => ?_; subst zq1); exact .cons _ _ ih
theorem J1 {prog : Program} {w : World} {vs : List Value} (h : IntsAre vs ks) : ItemsAre (intKind prog w) ks vs := by
 induction h with
 | nil => exact .nil
 | cons _ _ _ ih => exact .cons (by simp [intKind, Value.isInt]) ih
theorem GT : ∀ xs ys : List Int, PyData.eqvAll (xs.map .int) (ys.map .int) = decide (xs = ys)
 | [], [] => by simp [PyData.eqvAll]
 | [], _ :: _ => by simp [PyData.eqvAll]
 | _ :: _, [] => by simp [PyData.eqvAll]
 | x :: xs, y :: ys => by
  simp only [List.map_cons, PyData.eqvAll, PyData.eqv, GT xs ys]
  by_cases h : x = y <;> simp [h]
theorem PO (x y : Bs) : PyData.eqv (.tuple [.int x.1, .tuple (x.2.map .int)]) (.tuple [.int y.1, .tuple (y.2.map .int)]) = decide (x = y) := by
 simp only [PyData.eqv, PyData.eqvAll, GT]
 obtain ⟨a, b⟩ := x
 obtain ⟨c, d⟩ := y
 by_cases h : a = c <;> by_cases h' : b = d <;> simp [h, h']
theorem LB (ns : List Int) : PyData.canLayAll0 (ns.map .int) = true := by
 induction ns with
 | nil => rfl
 | cons n r ih => simp [PyData.canLayAll0, PyData.canLay0, ih]
theorem MN (ns : List Int) : PyData.depthAll (ns.map .int) ≤ 1 := by
 induction ns with
 | nil => simp [PyData.depthAll]
 | cons n r ih => simp only [List.map_cons, PyData.depthAll, PyData.depth]; lia
theorem MM (k : Bs) : (PyData.tuple [.int k.1, .tuple (k.2.map .int)]).depth ≤ 8 := by
 have := MN k.2
 simp only [PyData.depth, PyData.depthAll]
 lia
theorem GU (k : Bs) : (PyData.tuple [.int k.1, .tuple (k.2.map .int)]).canLay0 = true := by
 simp [PyData.canLay0, PyData.canLayAll0, LB]
section
variable {prog : Program} {w : World} {A : Around} {E : Value → Shared → Prop} {s : Shared}
theorem AZ.reads {h : Heap} {k : Bs} (x : AZ prog w h k a) : ∃ as, Reads h (.ref a) (.tuple [.int k.1, .tuple (k.2.map .int)]) as := by
 obtain ⟨o, n, b, t, ho, hc, hd, o', items, n', ho', hc', hd', hi⟩ := x
 have r1 : Reads h (.ref b) (.tuple (k.2.map .int)) [] := Reads.tuple ho' hc' hd' (readsAll_of_ints (J0 hi))
 exact ⟨_, Reads.tuple ho hc hd (ReadsAll.cons (Reads.int k.1 t) (ReadsAll.cons r1 ReadsAll.nil))⟩
theorem AZ.typeIs {k : Bs} (x : AZ prog w s.heap k a) : s.TypeIs (.ref a) "tuple" := let ⟨o, _, _, _, ho, hc, _⟩ := x; ⟨o, ho, hc⟩
theorem La {k : Bs} {Q : Int → Shared → Prop} (hu : A.units + 64 < cLine) (hk : AZ prog w s.heap k a) (h : Q (I7 k) { s with toks := s.toks + (k.2.length + 3) }) :
  wpAny (model prog w) A (pyHash (.ref a)) Q E s := by
 have hT := hk.typeIs
 (refine GJ hk fun o n b t ho hc hd hb => ?_; clear hk)
 refine pyHash_slot hT PySem.F.slot_tuple_hash PySem.F.entry_tuple_hash (PySem.F.args_tuple_hash_1 _) (beq_builtin_none _) (.inr (by lia)) ?_
 show wpAny _ _ (Builtin.Tuple.tupleItemsOf (.ref a) >>= _) _ _ s
 refine wpAny_bind (wpAny_tupleItemsOf ho hd ?_)
 refine wpAny_bind ?_
 rw [← Array.forIn_toList]
 show wpAny _ _ (forIn [Value.int k.1 t, Value.ref b] _ _) _ _ _
 rw [List.forIn_cons]
 refine wpAny_bind (wpAny_bind (wpAny_pyHash_int ?_))
 first
  | refine wpAny_pure ?_
  | refine wpAny_bind (wpAny_pure (wpAny_pure ?_))
 show wpAny _ _ (forIn [Value.ref b] _ _) _ _ _
 rw [List.forIn_cons]
 refine wpAny_bind (wpAny_bind (wpAny_pyHash_tuple (s := { s with toks := s.toks + 1 }) (knd := intKind prog w) (by simp only [Around.in1_units]; lia) hb ?_))
 first
  | refine wpAny_pure ?_
  | refine wpAny_bind (wpAny_pure (wpAny_pure ?_))
 show wpAny _ _ (forIn ([] : List Value) _ _) _ _ _
 rw [List.forIn_nil]
 refine wpAny_pure ?_
 show wpAny _ _ (retInt (Builtin.Tuple.tupleHashOf [hashInt k.1, tupleKeyHash (intKind prog w) k.2])) _ _ _
 refine wpAny_bind (wpAny_mkInt (wpAny_pure ⟨_, _, rfl, ?_⟩))
 have e : s.toks + 1 + (k.2.length + 1) + 1 = s.toks + (k.2.length + 3) := by lia
 rw [← e] at h
 exact h
theorem Lx {x y : Bs} {a b : Addr} (hu : A.units + 64 < cLine) (hx : AZ prog w s.heap x a) (hy : AZ prog w s.heap y b) (h : Q (decide (x = y)) s) :
  wpAny (model prog w) A (eqBool (.ref a) (.ref b)) Q E s := by
 refine oe1 (hx.reads) fun as rx => ?_
 refine oe1 (hy.reads) fun bs ry => ?_
 refine PySem.SeqAt.eqAt_reads _ _ A s _ _ as bs rx ry (GU x) (GU y) (by have := MM x; lia) prog w E Q ?_
 rw [PO]; exact h
theorem Mk {m : Nat} (hk : IsTupleKey (intKind prog w) s.heap ks a) (h : Q true s) : wpAny (model prog w) A (eqIsQuiet (m + 1) (.ref a)) Q E s := by
 have hT := hk.typeIs
 (refine Nk hk fun o items n ho ω hd hi => ?_; clear hk)
 unfold eqIsQuiet
 refine wpAny_bind (wpAny_specialOf hT PySem.F.slot_tuple_eq.lookup ?_)
 show wpAny _ _ (isInstance (.ref a) (.type "tuple") >>= _) _ _ s
 refine wpAny_bind (wpAny_isInstance hT isSubtype_tuple_tuple ?_)
 simp only [Bool.not_true, Bool.false_eq_true, if_false]
 refine wpAny_bind (wpAny_seqItems ho hd ?_)
 refine wpAny_bind ?_
 show wpAny _ _ (forIn items _ _) _ _ s
 rw [← Array.forIn_toList]
 refine wpAny_forIn_list _ (fun rest r s' => r.1 = none ∧ s' = s ∧ ∀ v ∈ rest, carriedByValue v = true) _ ?_ ?_ _ _ ⟨rfl, rfl, hi.byValue⟩
 ·rintro v rest r s' ⟨hr, rfl, hall⟩
  rw [eqIsQuiet_byValue _ (hall v List.mem_cons_self)]
  refine wpAny_bind (wpAny_pure ?_)
  simp only [Bool.not_true, Bool.false_eq_true, if_false]
  exact wpAny_pure ⟨rfl, rfl, fun u hu' => hall u (List.mem_cons_of_mem _ hu')⟩
 ·rintro ⟨r1, r2⟩ s' ⟨hr, rfl, _⟩
  simp only at hr
  subst hr
  exact wpAny_pure h
theorem Mj {k : Bs} (hk : AZ prog w s.heap k a) (h : Q true s) : wpAny (model prog w) A (eqIsQuiet 8 (.ref a)) Q E s := by
 have hT := hk.typeIs
 (refine GJ hk fun o n b t ho hc hd hb => ?_; clear hk)
 unfold eqIsQuiet
 refine wpAny_bind (wpAny_specialOf hT PySem.F.slot_tuple_eq.lookup ?_)
 show wpAny _ _ (isInstance (.ref a) (.type "tuple") >>= _) _ _ s
 refine wpAny_bind (wpAny_isInstance hT isSubtype_tuple_tuple ?_)
 simp only [Bool.not_true, Bool.false_eq_true, if_false]
 refine wpAny_bind (wpAny_seqItems ho hd ?_)
 refine wpAny_bind ?_
 show wpAny _ _ (forIn (#[.int k.1 t, .ref b] : Array Value) _ _) _ _ s
 rw [← Array.forIn_toList]
 refine wpAny_forIn_list _ (fun rest r s' => r.1 = none ∧ s' = s ∧ ∀ v ∈ rest, v = .int k.1 t ∨ v = .ref b) _ ?_ ?_ _ _ ⟨rfl, rfl, fun v hv => by simpa using hv⟩
 ·rintro v rest r s' ⟨hr, rfl, hall⟩
  have go : ∀ {P : Bool → Shared → Prop}, P true s' → wpAny (model prog w) A (eqIsQuiet 7 v) P E s' := fun hp => by
   rcases hall v List.mem_cons_self with rfl | rfl
   ·rw [eqIsQuiet_byValue _ rfl]; exact wpAny_pure hp
   ·exact Mk hb hp
  refine wpAny_bind (go ?_)
  simp only [Bool.not_true, Bool.false_eq_true, if_false]
  exact wpAny_pure ⟨rfl, rfl, fun u hu' => hall u (List.mem_cons_of_mem _ hu')⟩
 ·rintro ⟨r1, r2⟩ s' ⟨hr, rfl, _⟩
  simp only at hr
  subst hr
  exact wpAny_pure h
end
noncomputable def E7 (prog : Program) (w : World) : HeapKind prog w Bs where
 is := AZ prog w
 hash := I7
 draws := fun k => k.2.length + 3
 room := fun A => A.units + 64 < cLine
 inj := fun {h a x y} hx hy => by
  (refine GJ hx fun o n b t ho hc hd hb => ?_; clear hx)
  (refine GJ hy fun o' n' b' t' ho' hc' hd' hb' => ?_; clear hy)
  rw [ho] at ho'; cases ho'
  rw [hd] at hd'
  simp at hd'
  (refine oa2 hd' fun zq1 ω => oa2 zq1 fun zq2 e2 => oa2 zq2 fun e1 ω => ?_; clear hd')
  subst e2
  exact Prod.ext e1 (hb.inj hb')
 keeps := fun {h h' k a d o es ep} x ho hd hs => by
  (refine GJ x fun o' n b t ho' hc hd' hb => ?_; clear x)
  have hne : a ≠ d := by
   rintro rfl
   rw [ho] at ho'; cases ho'
   rw [hd] at hd'; cases hd'
  exact ⟨o', n, b, t, (hs.2 a hne).trans ho', hc, hd', hb.keeps ho hd hs⟩
 pyHash := fun hu hk h => La hu hk h
 eqBool := fun hu hx hy h => Lx hu hx hy h
 quiet := fun hk h => Mj hk h
end
section
variable {a : Addr} {h : Heap} {k : Bs} {prog : Program} {K : Sto → Prop} {t : Tok} {Q : Unit → Shared → Prop} {u v : Value} {W : Wd} {w : World}
section
variable {A : Around} {E : Value → Shared → Prop} {s : Shared} {σ : Sto}
theorem Rp.intTuple {ns : List Int} (r : Rp σ h v (.tup (ns.map .int))) : ∃ b, v = .ref b ∧ IsTupleKey (intKind prog w) h ns b :=
 r.eT fun a vs n ht rs => Qs ht fun dd k sl ho => ⟨a, rfl, _, ⟨vs⟩, k, ho, rfl, rfl, J1 rs.ints⟩
theorem Rp.pairKey' (r : Rp σ h v (Lm k)) : ∃ a, v = .ref a ∧ AZ prog w h k a := by
 refine r.eT fun a vs n ht rs => ?_
 (refine D0 (rs.two) fun v u zq1 r1 r2 => ?_; subst zq1)
 (refine Af (r2.intTuple (prog := prog) (w := w)) fun b zq1 hb => ?_; subst zq1)
 revert ht
 exact r1.eI fun t ht => Qs ht fun dd m sl ho => ⟨a, rfl, _, m, b, t, ho, rfl, rfl, hb⟩
theorem Rp.pairKey (r : Rp σ h (.ref a) (Lm k)) : AZ prog w h k a := by
 refine Af (r.pairKey' (prog := prog) (w := w)) fun b e q => ?_
 cases e; exact q
theorem Rb (r : Rp σ h v (Lm k)) : ∃ a, v = .ref a := r.eT fun a ω ω ω ω => ⟨a, rfl⟩
theorem Tvs.keys {es : List (Bs × Addr × Value)} {fs : List (Bs × D)} (r : Tvs σ h es fs) : ∀ x ∈ es, AZ prog w h x.1 x.2.1 := by
 induction r with
 | nil => exact fun x hx => by cases hx
 | cons k a v d es fs r q rs ih => exact fun x hx => (List.mem_cons.mp hx).elim (fun e => e ▸ r.pairKey) (ih x)
theorem Tvs.length {es : List (Bs × Addr × Value)} {fs : List (Bs × D)} (r : Tvs σ h es fs) : es.length = fs.length := by
 induction r with
 | nil => rfl
 | cons k a v d es fs r q rs ih => exact congrArg (·+ 1) ih
theorem Tvs.at {es : List (Bs × Addr × Value)} {fs : List (Bs × D)} (r : Tvs σ h es fs) : (∃ p d, atKey es k = some p ∧ fs.lookup k = some d ∧ Rp σ h p.2 d) ∨ (atKey es k = none ∧ fs.lookup k = none) := by
 induction r with
 | nil => exact .inr ⟨rfl, rfl⟩
 | cons k' a v d es fs r q rs ih =>
  unfold atKey at ih ⊢
  rw [List.lookup_cons, List.find?_cons]
  by_cases hk : k = k'
  ·subst hk
   exact .inl ⟨(a, v), d, by simp, by simp, q⟩
  ·have h1 : (k == k') = false := beq_eq_false_iff_ne.mpr hk
   have h2 : decide (k' = k) = false := decide_eq_false (Ne.symm hk)
   simp only [h1, h2]
   exact ih
theorem Tvs.append {d : D} (r : Rp σ h (.ref a) (Lm k)) (q : Rp σ h v d) {es : List (Bs × Addr × Value)} {fs : List (Bs × D)} (x : Tvs σ h es fs) : Tvs σ h (es ++ [(k, a, v)]) (fs ++ [(k, d)]) := by
 induction x with
 | nil => exact .cons _ _ _ _ _ _ r q .nil
 | cons k' a' v' d' es fs r' q' rs ih => exact .cons _ _ _ _ _ _ r' q' ih
theorem Kvs.append {k : Int} {d : D} (q : Rp σ h v d) {es : List (Int × Value)} {fs : List (Int × D)} (x : Kvs σ h es fs) : Kvs σ h (es ++ [(k, v)]) (fs ++ [(k, d)]) := by
 induction x with
 | nil => exact .cons _ _ _ _ _ q .nil
 | cons k' v' d' es fs q' rs ih => exact .cons _ _ _ _ _ q' ih
theorem Kvs.length {es : List (Int × Value)} {fs : List (Int × D)} (x : Kvs σ h es fs) : es.length = fs.length := by
 induction x with
 | nil => rfl
 | cons k v d es fs q rs ih => exact congrArg (·+ 1) ih
theorem Kvs.none {k : Int} {es : List (Int × Value)} {fs : List (Int × D)} (x : Kvs σ h es fs) : fs.lookup k = none → es.any (fun kv => kv.1 = k) = false := by
 induction x with
 | nil => exact fun ω => rfl
 | cons k' v d es fs q rs ih =>
  intro e
  rw [List.lookup_cons] at e
  by_cases hk : k = k'
  ·subst hk; simp at e
  ·have h1 : (k == k') = false := beq_eq_false_iff_ne.mpr hk
   rw [h1] at e
   rw [List.any_cons, ih e]
   simp [Ne.symm hk]
theorem KD {es : List (Bs × D)} (r : Hg W σ h a (.tdict es)) : ∃ xs, h.DictOfH (E7 W.prog W.w) a xs ∧ Tvs σ h xs es := by
 (refine Pq r fun o ents ep xs ho hx hd he ht hn => ?_; clear r)
 exact ⟨xs, ⟨o, ents, ep, ho, hx, hd, he, fun x hx => ht.keys x hx, hn⟩, ht⟩
theorem Pp {σ' : Sto} {h h' : Heap} {xs : List (Bs × Addr × Value)} {es : List (Bs × D)} (r : h'.DictOfH (E7 W.prog W.w) a xs) (ht : Tvs σ' h' xs es) : Hg W σ' h' a (.tdict es) := by
 (refine Jj r fun o ents ep ho hx hd he hk hn => ?_; clear r)
 exact ⟨o, ents, ep, xs, ho, hx, hd, he, ht, hn⟩
theorem M8 (r : Rp σ h u (.ref a)) : u = .ref a := r.eR rfl
theorem ML {o k : D} {K : D → Prop} {Q : Value → Shared → Prop} (hu : A.units + 65 < cLine) (R : StR W σ s) (h1 : Rp σ s.heap (.ref a) o) (h2 : Rp σ s.heap u k) (hp : PQ σ o k K)
  (hQ : OpQ σ s K Q) : wpAny (model W.prog W.w) A (call (.builtin "dict.get") [.ref a, u]) Q E s := by
 cases o with
 | ref a' =>
  (refine GK hp fun es z ns hs zq1 hk => ?_; clear hp; subst zq1)
  obtain rfl : a = a' := Value.ref.inj (M8 h1)
  (refine oe1 (Rb h2) fun b zq1 => ?_; subst zq1)
  refine Af (KD (R.objs _ _ hs)) fun xs hd ht => ?_
  have hsm : (a == sysModules) = false := beq_eq_false_iff_ne.mpr (R.nsm a ⟨a, _, hs, rfl⟩)
  refine call_meetsIn PySem.F.slot_dict_get hd.typeIs PySem.F.entry_dict_get (PySem.F.args_dict_get_2 _ _) (meetsH_dict_get (E7 W.prog W.w) a b hsm) ⟨by show A.in1.units + 64 < cLine; rw [Around.in1_units]; lia, (z, ns), xs, h2.pairKey, hd, ?_⟩
  refine (ht.at (k := (z, ns))).elim (fun ⟨p, d, e1, e2, e3⟩ => ?_) fun e => ?_
  ·rw [e2] at hk; rw [e1]; exact hQ _ { s with toks := _ } d hk e3 (AM.refl _) rfl rfl
  ·rw [e.2] at hk; rw [e.1]; exact hQ _ { s with toks := _ } .none hk .none (AM.refl _) rfl rfl
 | _ => exact False.elim hp
abbrev N7 (W : Wd) (σ : Sto) (s : Shared) (K : Sto → Prop) (Q : Unit → Shared → Prop) : Prop :=
 ∀ s' σ', K σ' → StR W σ' s' → AP σ s.heap σ' s'.heap → Q () s'
theorem MJ {K : Type} [DecidableEq K] {knd : KeyKind prog w K} (e : h.get? a = some { cls := .type "dict", data := .dict #[] }) : h.DictOf knd a [] :=
 ⟨_, #[], 0, e, ⟨rfl, rfl, rfl⟩, rfl, fun ω he => by simp at he, Pairs.nil, List.nodup_nil⟩
theorem N7.put (hQ : N7 W σ s K Q) (R : StR W σ s) {o o' : Cv} (hs : σ a = some o) (hf : o.foot a = a) {h' : Heap} {tk : Nat} (sb : Heap.SameBut a s.heap h') (hf' : o'.foot a = a) (hi : ∀ C da fs, o' ≠ .inst C da fs)
  (r : AP σ s.heap (σ.upd a o') h' → Hg W (σ.upd a o') h' a o') (hk : K (σ.upd a o')) : Q () { s with heap := h', toks := tk } := by
 have pt := R.put (s' := { s with heap := h', toks := tk }) hs (by rw [hf]; exact sb) (hf'.trans hf.symm) (fun C da fs e => (hi C da fs e).elim) r
 exact hQ _ _ hk pt.1 pt.2
theorem JP {y : Str} {n : Nat} (R : StR W σ s)
  (hs : σ a = some (.sdict n) ∨ σ a = some .edict ∧ n = 0) (hn : n ≤ 1000) (hk : K (σ.upd a (.sdict (n + 1)))) (hQ : N7 W σ s K Q) : wpAny (model W.prog W.w) A (setItem (.ref a) (.str y t) v) Q E s := by
 have go : ∀ o0 kvs, σ a = some o0 → o0.foot a = a → s.heap.DictOf (strKind W.prog W.w) a kvs → kvs.length ≤ n → wpAny (model W.prog W.w) A (setItem (.ref a) (.str y t) v) Q E s := fun o0 kvs hs0 hf0 hd hz =>
  wpAny_setItem_pairs (knd := strKind W.prog W.w) (k := y) (by simp [PySem.strKind, Value.isStrOf]) hd (fun h' hd' sb => hQ.put (o' := .sdict (n + 1)) R hs0 hf0 sb rfl (by intro C da fs e; cases e) (fun ω => ⟨_, hd', by clear hd hd' hs0 hf0 hk hQ R hs; unfold stored; split <;> simp <;> lia⟩) hk) (by rw [sizeLine_eq]; clear hd hs0 hf0 hk hQ R hs; lia)
 exact hs.elim (fun hs => (R.objs _ _ hs).elim fun kvs h => go _ kvs hs rfl h.1 h.2) fun hs => go _ [] hs.1 rfl (MJ (R.objs _ _ hs.1)) (Nat.zero_le _)
theorem JQ {i : Int} {d : D} {es : List (Int × D)} (R : StR W σ s) (h3 : Rp σ s.heap v d)
  (hs : σ a = some (.idict es) ∨ σ a = some .edict ∧ es = []) (hl : es.lookup i = none) (hn : es.length ≤ 1000) (hk : K (σ.upd a (.idict (es ++ [(i, d)])))) (hQ : N7 W σ s K Q) : wpAny (model W.prog W.w) A (setItem (.ref a) (.int i t) v) Q E s := by
 have go : ∀ o0 kvs, σ a = some o0 → o0.foot a = a → s.heap.DictOf (intKind W.prog W.w) a kvs → Kvs σ s.heap kvs es → wpAny (model W.prog W.w) A (setItem (.ref a) (.int i t) v) Q E s := fun o0 kvs hs0 hf0 hd hz => by
  refine wpAny_setItem_pairs (knd := intKind W.prog W.w) (k := i) (by simp [intKind, Value.isInt]) hd (fun h' hd' sb => ?_) (by rw [sizeLine_eq, hz.length]; clear hd hz hs0 hf0 hk hQ R hs; lia)
  rw [show stored kvs i v = kvs ++ [(i, v)] by unfold stored; rw [hz.none hl]; rfl] at hd'
  exact hQ.put (o' := .idict (es ++ [(i, d)])) R hs0 hf0 sb rfl (by intro C da fs e; cases e) (fun S => ⟨_, hd', (hz.step S.q).append (h3.stepQ S.q)⟩) hk
 exact hs.elim (fun hs => (R.objs _ _ hs).elim fun kvs h => go _ kvs hs rfl h.1 h.2) fun hs => go _ [] hs.1 rfl (MJ (R.objs _ _ hs.1)) (hs.2 ▸ .nil)
theorem JO {x v : Value} {d : D} {es : List (Bs × D)} (hu : A.units + 65 < cLine) (R : StR W σ s) (h2 : Rp σ s.heap x (Lm k)) (h3 : Rp σ s.heap v d)
  (hs : σ a = some (.tdict es) ∨ σ a = some .edict ∧ es = []) (hl : es.lookup k = none) (hn : es.length ≤ 1000) (hk : K (σ.upd a (.tdict (es ++ [(k, d)])))) (hQ : N7 W σ s K Q) : wpAny (model W.prog W.w) A (setItem (.ref a) x v) Q E s := by
 (refine oe1 (Rb h2) fun b zq1 => ?_; subst zq1)
 have go : ∀ o0 xs, σ a = some o0 → o0.foot a = a → s.heap.DictOfH (E7 W.prog W.w) a xs → Tvs σ s.heap xs es → wpAny (model W.prog W.w) A (setItem (.ref a) (.ref b) v) Q E s := fun o0 xs hs0 hf0 hd hz => by
  have hat : atKey xs k = none := hz.at.elim (fun ⟨p, d, _, e, _⟩ => by rw [hl] at e; cases e) fun e => e.1
  refine wpAny_setItem_heap (knd := E7 W.prog W.w) (k := k) (by show A.in1.units + 64 < cLine; rw [Around.in1_units]; clear hd hz hs0 hf0 hk hQ R hs hn; lia) h2.pairKey hd (fun h' hd' sb => ?_) (by rw [sizeLine_eq, hz.length]; clear hd hz hs0 hf0 hk hQ R hs hu; lia)
  rw [storedH_new hat] at hd'
  exact hQ.put (o' := .tdict (es ++ [(k, d)])) R hs0 hf0 sb rfl (by intro C da fs e; cases e) (fun S => Pp (h := h') hd' ((hz.step S.q).append (h2.stepQ S.q) (h3.stepQ S.q))) hk
 exact hs.elim (fun hs => (KD (R.objs _ _ hs)).elim fun xs h => go _ xs hs rfl h.1 h.2) fun hs => go _ [] hs.1 rfl ⟨_, #[], 0, R.objs _ _ hs.1, ⟨rfl, rfl, rfl⟩, rfl, rfl, fun ω hx => by simp at hx, List.nodup_nil⟩ (hs.2 ▸ .nil)
theorem M6 {o k d : D} {u x v : Value} (hu : A.units + 65 < cLine) (R : StR W σ s) (h1 : Rp σ s.heap u o) (h2 : Rp σ s.heap x k) (h3 : Rp σ s.heap v d) (hp : P6 σ o k d K)
  (hQ : N7 W σ s K Q) : wpAny (model W.prog W.w) A (setItem u x v) Q E s := by
 cases o with
 | ref a =>
  obtain rfl := M8 h1
  rcases hp with ⟨y, n, rfl, hp⟩ | ⟨es, i, rfl, hp⟩ | ⟨es, z, ns, rfl, hp⟩
  ·exact h2.eS fun t => JP R hp.1 hp.2.1 hp.2.2 hQ
  ·exact h2.eI fun t => JQ R h3 hp.1 hp.2.1 hp.2.2.1 hp.2.2.2 hQ
  ·exact JO hu R h2 h3 hp.1 hp.2.1 hp.2.2.1 hp.2.2.2 hQ
 | _ => exact False.elim hp
theorem Q1 {l : List UInt8} {lo hi : D} {vl vu : Value} {p q : Nat} (h2 : Rp σ s.heap vl lo) (h3 : Rp σ s.heap vu hi) (e1 : bound l.length lo = some p) (e2 : Ce l.length hi = some q) :
  ∃ k1 k2, IsPart vl k1 ∧ IsPart vu k2 ∧ sliceBounds k1 k2 none l.length = ((p : Int), (q : Int), 1) := by
 refine C8 (FG h2 e1) fun k1 p1 q1 ω => ?_
 refine C8 (FH h3 e2) fun k2 p2 q2 ω => ?_
 refine ⟨k1, k2, p1, p2, ?_⟩
 rw [sliceBounds_plain, q1, q2]
theorem KT {o lo hi d : D} {u vl vu v : Value} {sl : Addr} (R : StR W σ s) (h1 : Rp σ s.heap u o) (h2 : Rp σ s.heap vl lo) (h3 : Rp σ s.heap vu hi) (h4 : Rp σ s.heap v d)
  (hs : s.heap.IsSliceOf sl vl vu .none) (hp : Ng σ o lo hi d K) (hQ : N7 W σ s K Q) : wpN (model W.prog W.w) A (setItem u (.ref sl) v) Q E s := by
 cases o with
 | ref a =>
  (refine Pq hp fun l p q new hs0 zq1 e1 e2 hpq hk => ?_; clear hp; subst zq1)
  obtain rfl := M8 h1
  refine h4.eY fun t => ?_
  refine oa2 (R.objs _ _ hs0) fun H hz => ?_
  refine D0 (Q1 h2 h3 e1 e2) fun k1 k2 p1 p2 hb => ?_
  have hq := MT e2
  refine BA.setItem_slice H hz (by lia) hs p1 p2 hb hpq hq fun h' g H' => ?_
  have hlen : (l.take p ++ new ++ l.drop q).length ≤ 1000000 := BA.spl_len (by assumption) (by assumption) (by assumption)
  have S : AP σ s.heap (σ.upd a (.barr (l.take p ++ new ++ l.drop q))) h' := by
   refine ⟨fun b x n e => g b x (fun q' => n ⟨a, _, hs0, q'.symm⟩) e, fun x f => .inl ?_⟩
   refine Bu f fun b o e f => ?_
   by_cases hb : b = a
   ·subst hb; rw [Sto.upd_self] at e; cases e; exact ⟨b, _, hs0, f⟩
   ·rw [Sto.upd_ne σ _ hb] at e; exact ⟨b, o, e, f⟩
  refine hQ { s with heap := h' } _ hk ?_ S
  have ft : ∀ x, foot (σ.upd a (.barr (l.take p ++ new ++ l.drop q))) x → foot σ x := fun x f => by
   refine Bu f fun b o e f => ?_
   by_cases hb : b = a
   ·subst hb; rw [Sto.upd_self] at e; cases e; exact ⟨b, _, hs0, f⟩
   ·rw [Sto.upd_ne σ _ hb] at e; exact ⟨b, o, e, f⟩
  have go : ∀ z o, (σ.upd a (.barr (l.take p ++ new ++ l.drop q))) z = some o → ∃ o₀, σ z = some o₀ ∧ o.foot z = o₀.foot z := fun z o e => by
   by_cases hb : z = a
   ·subst hb; rw [Sto.upd_self] at e; cases e; exact ⟨_, hs0, rfl⟩
   ·rw [Sto.upd_ne σ _ hb] at e; exact ⟨o, e, rfl⟩
  refine ⟨fun b x e => S.keep b x (fun f => by rw [R.foot0 b f] at e; cases e) (R.stays b x e), fun x f => R.foot0 x (ft x f), fun b o e => ?_, fun b c o o' e e' f => ?_, fun b C da fs e f => ?_, R.gens, R.os, fun x f => R.nsm x (ft x f)⟩
  ·by_cases hb : b = a
   ·subst hb; rw [Sto.upd_self] at e; cases e; exact ⟨H', hlen⟩
   ·rw [Sto.upd_ne σ _ hb] at e
    have ne : o.foot b ≠ a := fun f => hb (R.apart b a o _ e hs0 f)
    refine (R.objs b o e).step S.q (fun x y => ?_) fun x y => g _ x ne y
    cases o with
    | inst C da fs => exact S.keep b x (R.head b C da fs e) y
    | _ => exact g _ x ne y
  ·refine Af (go b o e) fun o1 x1 x2 => ?_
   refine Af (go c o' e') fun o2 y1 y2 => ?_
   exact R.apart b c o1 o2 x1 y1 (x2.symm.trans (f.trans y2))
  ·by_cases hb : b = a
   ·subst hb; rw [Sto.upd_self] at e; cases e
   ·rw [Sto.upd_ne σ _ hb] at e; exact R.head b C da fs e (ft b f)
 | _ => exact False.elim hp
theorem Kt {l : List D} {d : D} {Q : Value → Shared → Prop} (R : StR W σ s) (hs : σ a = some (.mlist l)) (hz : l.length < 1000) (h1 : Rp σ s.heap v d)
  (hQ : ∀ s', StR W (σ.upd a (.mlist (l ++ [d]))) s' → AP σ s.heap (σ.upd a (.mlist (l ++ [d]))) s'.heap → Q .none s') : wpAny (model W.prog W.w) A (call (.builtin "list.append") [.ref a, v]) Q E s := by
 refine Bu (R.objs _ _ hs) fun vs n ho hr => ?_
 have hl : s.heap.IsList a ⟨vs⟩ := ⟨_, ho, rfl, n, rfl⟩
 have hlen := hr.length
 refine wpAny_call_entry PySem.slot_list_append hl.typeIs PySem.entry_list_append ?_ (PySem.args_list_append _ _)
 show wpAny _ _ (updateSeq a (·.push v) >>= fun ω => ret .none) _ _ s
 refine wpAny_bind (wpAny_updateSeq ho rfl (wpAny_pure ⟨.none, rfl, ?_⟩) (by rw [sizeLine_eq]; simp only [List.size_toArray]; lia) (by rw [sizeLine_eq]; simp only [Array.size_push, List.size_toArray]; lia))
 have e := Heap.get?_update_self (Obj.mapSeq (·.push v)) ho rfl
 have pt := R.put (s' := { s with heap := s.heap.update a (Obj.mapSeq (·.push v)) }) (o' := .mlist (l ++ [d])) hs (Heap.SameBut.update ..) rfl (by intro C da fs e; cases e)
  (fun S => ⟨vs ++ [v], _, e.trans (by simp only [Obj.mapSeq, List.push_toArray]; rfl), (hr.stepQ S.q).append (.cons _ _ _ _ (h1.stepQ S.q) .nil)⟩)
 exact hQ _ pt.1 pt.2
end
end
section
variable {it : Addr} {b : Bool} {h : Heap} {i : Nat} {Q : Option Value → Shared → Prop} {v : Value} {W : Wd}
def DP (h : Heap) (it : Addr) (v : Value) (d : D) (b : Bool) (i : Nat) : Prop := match d with
 | .lst _ => b = false ∧ ∃ a, v = .ref a ∧ h.IsListIter it a i
 | .tup _ => b = false ∧ ∃ a, v = .ref a ∧ h.IsTupleIter it a i
 | .rng x _ z => b = false ∧ ∃ r, v = .ref r ∧ (match d with | .rng _ y _ => IsRangeIter h it (x + i * z) (Builtin.Range.rangeSize x y z - i) z | _ => False)
 | .bytes l => b = false ∧ ∃ t, v = .bytes ⟨l⟩ t ∧ KBw.IsBytesIter h it ⟨l⟩ t i
 | .ref r => v = .ref r ∧ (match b with | true => BA.IsIter h it r i | false => h.IsListIter it r i)
 | _ => False
theorem DP.obj {d : D} (x : DP h it v d b i) : ∃ o vs T, h.get? it = some o ∧ o.data = .fields vs ∧ o.cls = .type T ∧ T ≠ "range" := by
 have go : ∀ {T : String} {vs : Array Value}, T ≠ "range" → (∃ o, h.get? it = some o ∧ o.cls = .type T ∧ o.data = .fields vs) → ∃ o vs T, h.get? it = some o ∧ o.data = .fields vs ∧ o.cls = .type T ∧ T ≠ "range" :=
  fun n x => x.elim fun o x => ⟨o, _, _, x.1, x.2.2, x.2.1, n⟩
 cases d with
 | lst l => exact x.2.elim fun a x => go (by decide) x.2
 | tup l => exact x.2.elim fun a x => go (by decide) x.2
 | rng p q r => exact x.2.elim fun a x => ⟨_, _, _, x.2, rfl, rfl, by decide⟩
 | bytes l => exact x.2.elim fun a x => go (by decide) x.2
 | ref r => cases b with
  | true => exact go (by decide) x.2
  | false => exact go (by decide) x.2
 | _ => exact False.elim x
theorem DP.keep {h h' : Heap} {d : D} (x : DP h it v d b i) (k : ∀ o, h.get? it = some o → h'.get? it = some o) : DP h' it v d b i := by
 have go : ∀ {P : Obj → Prop}, (∃ o, h.get? it = some o ∧ P o) → ∃ o, h'.get? it = some o ∧ P o := fun x => x.elim fun o x => ⟨o, k o x.1, x.2⟩
 cases d with
 | lst l => exact ⟨x.1, x.2.elim fun a x => ⟨a, x.1, go x.2⟩⟩
 | tup l => exact ⟨x.1, x.2.elim fun a x => ⟨a, x.1, go x.2⟩⟩
 | rng p q r => exact ⟨x.1, x.2.elim fun a x => ⟨a, x.1, k _ x.2⟩⟩
 | bytes l => exact ⟨x.1, x.2.elim fun a x => ⟨a, x.1, go x.2⟩⟩
 | ref r => cases b with
  | true => exact ⟨x.1, go x.2⟩
  | false => exact ⟨x.1, go x.2⟩
 | _ => exact False.elim x
theorem DP.side {h h' : Heap} {d : D} (x : DP h it v d b i) (s : Heap.ExtBut it h h') : Gu it h h' := by
 refine Nk (x.obj) fun o vs T e d c n => ?_
 exact ⟨s, o, e, .inr (.inr ⟨vs, T, d, c, n⟩)⟩
section
variable {A : Around} {E : Value → Shared → Prop} {s : Shared} {σ : Sto}
theorem Gg {a : Addr} {items : List D} {P : Prop} (hi : Ah σ (.ref a) = some items) (c1 : ∀ l, σ a = some (.barr l) → items = A6 l → As σ (.ref a) = true → P) (c2 : ∀ l, σ a = some (.mlist l) → items = l → As σ (.ref a) = false → P) : P := by
 have hi : (match σ a with
  | some (.barr l) => some (A6 l)
  | some (.mlist l) => some l
  | _ => none) = some items := hi
 have hb : As σ (.ref a) = (match σ a with
  | some (.barr _) => true
  | _ => false) := rfl
 cases e : σ a with
 | none => rw [e] at hi; exact nos hi
 | some o =>
  rw [e] at hi hb
  cases o with
  | barr l => exact c1 l e (Option.some.inj hi).symm hb
  | mlist l => exact c2 l e (Option.some.inj hi).symm hb
  | _ => exact nos hi
theorem Gf {a b c : Int} {items : List D} (hi : Ah σ (.rng a b c) = some items) : Builtin.Range.small a b c = true ∧ items = (B1 a b c).map D.int :=
 CU hi fun h e => ⟨h, (Option.some.inj e).symm⟩
@[elab_as_elim] theorem Ka {α β : Type} {f : α → β} {l : List α} {x : β} {P : β → Prop} (h : (l.map f)[i]? = some x) (c : ∀ y, l[i]? = some y → P (f y)) : P x := by
 rw [List.getElem?_map] at h; exact AY h c
theorem FF {d : D} {items : List D} {Q : Value → Shared → Prop} (R : StR W σ s) (r : Rp σ s.heap v d) (hi : Ah σ d = some items)
  (hQ : ∀ s', AM s.heap s'.heap → s'.gens = s.gens → s'.os = s.os → DP s'.heap s.heap.objs.size v d (As σ d) 0 → Q (.ref s.heap.objs.size) s') : wpAny W.M A (pyIter v) Q E s := by
 revert hQ
 cases d with
 | bytes l => exact r.eY fun t hQ => KBw.pyIter_bytes (hQ _ (AM.push _ _) rfl rfl ⟨rfl, t, rfl, ⟨_, Heap.get?_push_size _ rfl, rfl, rfl⟩⟩)
 | tup ds => exact r.eT fun a vs n l rs hQ => wpAny_pyIter_tuple l (hQ _ (AM.push _ _) rfl rfl ⟨rfl, a, rfl, ⟨_, Heap.get?_push_size _ rfl, rfl, rfl⟩⟩)
 | lst ds => exact r.eL fun a vs n l rs hQ => wpAny_pyIter_list l (hQ _ (AM.push _ _) rfl rfl ⟨rfl, a, rfl, ⟨_, Heap.get?_push_size _ rfl, rfl, rfl⟩⟩)
 | rng a b c =>
  refine r.eG fun r t u w n x hQ => wpAny_pyIter_range x (Gf hi).1 (hQ _ (AM.push _ _) rfl rfl ⟨rfl, r, rfl, ?_⟩)
  have e : (s.heap.push { cls := .type "range_iterator", data := .fields #[rawInt a, rawInt (Builtin.Range.rangeSize a b c), rawInt c] }).get? s.heap.objs.size = _ := Heap.get?_push_size _ rfl
  show IsRangeIter _ _ (a + ((0 : Nat) : Int) * c) (Builtin.Range.rangeSize a b c - ((0 : Nat) : Int)) c
  rw [show (a + ((0 : Nat) : Int) * c) = a by simp, show Builtin.Range.rangeSize a b c - ((0 : Nat) : Int) = Builtin.Range.rangeSize a b c by simp]
  exact e
 | ref a =>
  refine r.eR fun hQ => Gg hi (fun l hs ω e => ?_) fun l hs ω e => ?_
  ·exact BA.pyIter_ (R.objs _ _ hs).1 (hQ _ (AM.push _ _) rfl rfl ⟨rfl, by rw [e]; exact ⟨_, Heap.get?_push_size _ rfl, rfl, rfl⟩⟩)
  ·refine Bu (R.objs _ _ hs) fun vs n ho hr => ?_
   exact wpAny_pyIter_list (⟨_, ho, rfl, n, rfl⟩ : s.heap.IsList a ⟨vs⟩) (hQ _ (AM.push _ _) rfl rfl ⟨rfl, by rw [e]; exact ⟨_, Heap.get?_push_size _ rfl, rfl, rfl⟩⟩)
 | _ => exact nos hi
theorem KZ {a b c : Int} {x : Int} (h : (B1 a b c)[i]? = some x) : (i : Int) < Builtin.Range.rangeSize a b c ∧ x = a + i * c := by
 unfold B1 at h
 rw [List.getElem?_map] at h
 cases e : (List.range (Builtin.Range.rangeSize a b c).toNat)[i]? with
 | none => rw [e] at h; cases h
 | some j =>
  rw [e] at h
  refine oe1 (List.getElem?_eq_some_iff.mp e) fun h1 h2 => ?_
  simp at h1 h2 h
  subst h2
  exact ⟨by lia, h.symm⟩
theorem HT {d : D} {items : List D} {x : D} (R : StR W σ s) (r : Rp σ s.heap v d) (hi : Ah σ d = some items) (hit : DP s.heap it v d (As σ d) i) (hx : items[i]? = some x)
  (hQ : ∀ u s', Gu it s.heap s'.heap → s'.gens = s.gens → s'.os = s.os → DP s'.heap it v d (As σ d) (i + 1) → Rp σ s.heap u x → Q (some u) s') : wpAny W.M A (pyNext (.ref it)) Q E s := by
 have sd := fun (h' : Heap) (sb : Heap.SameBut it s.heap h') => hit.side sb.extBut
 revert hit hQ
 cases d with
 | lst ds =>
  refine r.eL fun a vs n l1 rs hit hQ => ?_
  obtain ⟨_, a', e, y⟩ := hit
  cases e; cases hi
  exact (rs.get hx).elim fun u hu => wpAny_pyNext_list_item y l1 (by simpa using hu.1) fun h' y' sb => hQ u { s with heap := h' } (sd h' sb) rfl rfl ⟨rfl, _, rfl, y'⟩ hu.2
 | tup ds =>
  refine r.eT fun a vs n l1 rs hit hQ => ?_
  obtain ⟨_, a', e, y⟩ := hit
  cases e; cases hi
  exact (rs.get hx).elim fun u hu => wpAny_pyNext_tuple_item y l1 (by simpa using hu.1) fun h' y' sb => hQ u { s with heap := h' } (sd h' sb) rfl rfl ⟨rfl, _, rfl, y'⟩ hu.2
 | rng a b c =>
  intro hit hQ
  obtain ⟨_, r0, e, y⟩ := hit
  subst e
  rw [(Gf hi).2] at hx
  revert hQ
  refine Ka hx fun j e hQ => ?_
  (refine oa2 (KZ e) fun h1 zq1 => ?_; subst zq1)
  refine wpAny_pyNext_range_item y (by clear hx hQ; lia) fun h' y' sb => hQ _ { s with heap := h', toks := s.toks + 1 } (sd h' sb) rfl rfl ⟨rfl, _, rfl, ?_⟩ (.int _ _)
  have e1 : a + (i : Int) * c + c = a + ((i + 1 : Nat) : Int) * c := by push_cast; rw [Int.add_mul]; lia
  have e2 : Builtin.Range.rangeSize a b c - (i : Int) - 1 = Builtin.Range.rangeSize a b c - ((i + 1 : Nat) : Int) := by push_cast; lia
  show IsRangeIter _ _ _ _ _
  rw [← e1, ← e2]
  exact y'
 | bytes l =>
  intro hit hQ
  obtain ⟨_, t, e, y⟩ := hit
  subst e
  cases hi
  revert hQ
  exact Ka hx fun c e hQ => KBw.next_item y (by simpa using e) fun h' y' sb => hQ _ { s with heap := h', toks := s.toks + 1 } (sd h' sb) rfl rfl ⟨rfl, _, rfl, y'⟩ (.int _ _)
 | ref r0 =>
  intro hit hQ
  (refine oa2 hit fun zq1 y => ?_; clear hit; subst zq1)
  refine Gg hi (fun l hs he hb => ?_) fun l hs he hb => ?_
  ·rw [hb] at y hQ
   rw [he] at hx
   revert hQ
   exact Ka hx fun c e hQ => BA.next_item y (R.objs _ _ hs).1 e fun h' y' sb => hQ _ { s with heap := h', toks := s.toks + 1 } (sd h' sb) rfl rfl ⟨rfl, y'⟩ (.int _ _)
  ·rw [hb] at y hQ
   rw [he] at hx
   refine Bu (R.objs _ _ hs) fun vs n ho hr => ?_
   exact (hr.get hx).elim fun u hu => wpAny_pyNext_list_item y (⟨_, ho, rfl, n, rfl⟩ : s.heap.IsList r0 ⟨vs⟩) (by simpa using hu.1) fun h' y' sb => hQ u { s with heap := h' } (sd h' sb) rfl rfl ⟨rfl, y'⟩ hu.2
 | _ => exact fun hit ω => False.elim hit
theorem HL (a b c : Int) : (B1 a b c).length = (Builtin.Range.rangeSize a b c).toNat := by simp [B1]
theorem Jr {d : D} {items : List D} (hh : A.handled = none) (R : StR W σ s) (r : Rp σ s.heap v d) (hi : Ah σ d = some items) (hit : DP s.heap it v d (As σ d) i) (hx : items[i]? = none)
  (hQ : ∀ s', Gu it s.heap s'.heap → s'.gens = s.gens → s'.os = s.os → Q none s') : wpAny W.M A (pyNext (.ref it)) Q E s := by
 have sd := fun (h' : Heap) (sb : Heap.ExtBut it s.heap h') => hit.side sb
 revert hit
 cases d with
 | lst ds =>
  refine r.eL fun a vs n l1 rs hit => ?_
  obtain ⟨_, a', e, y⟩ := hit
  cases e; cases hi
  exact wpAny_pyNext_list_end hh y l1 (by rw [List.getElem?_toArray, List.getElem?_eq_none_iff, rs.length]; exact List.getElem?_eq_none_iff.mp hx) fun h' sb => hQ { s with heap := h' } (sd h' sb) rfl rfl
 | tup ds =>
  refine r.eT fun a vs n l1 rs hit => ?_
  obtain ⟨_, a', e, y⟩ := hit
  cases e; cases hi
  exact wpAny_pyNext_tuple_end hh y l1 (by rw [List.getElem?_toArray, List.getElem?_eq_none_iff, rs.length]; exact List.getElem?_eq_none_iff.mp hx) fun h' sb => hQ { s with heap := h' } (sd h' sb) rfl rfl
 | rng a b c =>
  intro hit
  refine hit.2.elim fun r0 y => wpAny_pyNext_range_end hh y.2 ?_ fun h' sb => hQ { s with heap := h' } (sd h' sb) rfl rfl
  rw [(Gf hi).2, List.getElem?_eq_none_iff, List.length_map, HL] at hx
  lia
 | bytes l =>
  intro hit
  cases hi
  refine hit.2.elim fun t y => KBw.next_end hh y.2 ?_ fun h' sb => hQ { s with heap := h' } (sd h' sb) rfl rfl
  rw [List.getElem?_eq_none_iff] at hx
  simpa [A6] using hx
 | ref r0 =>
  intro hit
  have y := hit.2
  refine Gg hi (fun l hs he hb => ?_) fun l hs he hb => ?_
  ·rw [hb] at y
   rw [he, List.getElem?_eq_none_iff] at hx
   exact BA.next_end hh y (R.objs _ _ hs).1 (by rw [List.getElem?_eq_none_iff]; simpa [A6] using hx) fun h' sb => hQ { s with heap := h' } (sd h' sb) rfl rfl
  ·rw [hb] at y
   rw [he] at hx
   refine Bu (R.objs _ _ hs) fun vs n ho hr => ?_
   exact wpAny_pyNext_list_end hh y (⟨_, ho, rfl, n, rfl⟩ : s.heap.IsList r0 ⟨vs⟩) (by rw [List.getElem?_toArray, List.getElem?_eq_none_iff, hr.length]; exact List.getElem?_eq_none_iff.mp hx) fun h' sb => hQ { s with heap := h' } (sd h' sb) rfl rfl
 | _ => exact fun hit => False.elim hit
end
end
section
variable {A : Around} {op : BoolOp} {K : B9} {e l o r : Expr} {cs es : List Expr} {i : Nat} {a : PE} {p : PEs} {pos : Pos} {ρ : Rho} {sc : Scope} {s : Shared} {σ σ₁ : Sto} {x : Str} {v : Value} {E Q : Value → Shared → Prop}
structure Okc (A : Around) (n : Nat) : Prop where
 hh : A.handled = none
 dep : A.depth + 3 * n ≤ 900
 un : A.units + 20 * n + 200 ≤ 9000
theorem Okc.c64 {n : Nat} (o : Okc A n) : A.units + 64 < cLine := by
 have := o.un; have : cLine = 9900 := rfl; lia
theorem Okc.c65 {n : Nat} (o : Okc A n) : A.units + 65 < cLine := by
 have := o.un; have : cLine = 9900 := rfl; lia
theorem Okc.mono {n m : Nat} (o : Okc A n) (h : m ≤ n) : Okc A m := ⟨o.hh, by have := o.dep; lia, by have := o.un; lia⟩
theorem DO.after {W : Wd} {s s₁ : Shared} (h : DO W σ s K Q) (S : AP σ s.heap σ₁ s₁.heap) : DO W σ₁ s₁ K Q :=
 fun v s' d σ' k R S' r => h v s' d σ' k R (S.trans S') r
abbrev OM (W : Wd) (σ : Sto) (s : Shared) (K : Bool → Sto → Prop) (Q : Bool → Shared → Prop) : Prop :=
 ∀ b s' σ', K b σ' → StR W σ' s' → AP σ s.heap σ' s'.heap → Q b s'
theorem OM.after {W : Wd} {s s₁ : Shared} {K : Bool → Sto → Prop} {Q : Bool → Shared → Prop} (h : OM W σ s K Q) (S : AP σ s.heap σ₁ s₁.heap) : OM W σ₁ s₁ K Q :=
 fun b s' σ' k R S' => h b s' σ' k R (S.trans S')
abbrev TR (W : Wd) (σ : Sto) (s : Shared) (K : List D → Sto → Prop) (Q : List Value → Shared → Prop) : Prop :=
 ∀ v s' d σ', K d σ' → StR W σ' s' → AP σ s.heap σ' s'.heap → Rps σ' s'.heap v d → Q v s'
def Fo (W : Wd) (Φ : Bn) (m : Nat) (f : Value) : Prop :=
 ∀ (A : Around) (E : Value → Shared → Prop) (s : Shared) (σ : Sto) (vs : List Value) (ds : List D) (K : B9) (Q : Value → Shared → Prop),
  Okc A (m + 1) → StR W σ s → Rps σ s.heap vs ds → Φ m ds σ K → DO W σ s K Q → wpN W.M A (call f vs) Q E s
structure AG (W : Wd) (env : Env) (sc : Scope) : Prop where
 hid : Fn env W.h₀.get?
 kind : env.scope.kind = .function
 glob : env.globals = mainGlobals
 bltn : env.builtins = builtinsNs
 loc : ∀ x, I4 sc x = true → env.kindOf x = some .local ∨ env.kindOf x = some .cell ∨ env.kindOf x = some .free
 glo : ∀ x, Jm sc x = true → env.kindOf x = some .globalImplicit
 lcl : ∀ x, sc.names.lookup x = some .local → env.kindOf x = some .local
 cel : ∀ x, sc.names.lookup x = some .cell → env.kindOf x = some .cell ∧ ∃ a, env.cells.lookup x = some a
structure Glo (W : Wd) (Φ : Bn) (T : Tab) (nm : List Str) (n : Nat) : Prop where
 nmok : nm.Nodup
 nd : ∀ x ∈ nm, (x == ("__debug__" : Str)) = false ∧ (x == ("__classdict__" : Str)) = false
 nd0 : (".0" : Str) ∉ nm
 sup : CO T.fns ("super" : Str) = none
 attrs : ∀ x, T.attrs.contains x = true → W.attrs.contains x = true
 blt : ∀ x b, Jy x = some b → W.mg x = none ∧ W.mb x = some (Q2 b) ∧ (x == ("__debug__" : Str)) = false
 int : ∀ x i, ME x = some i → (∃ t, W.mg x = some (.int i t)) ∧ (x == ("__debug__" : Str)) = false
 fn : ∀ x i, CO T.fns x = some i → i < n → (∃ f, W.mg x = some f ∧ keepIn W.K f = true ∧ Fo W Φ i f) ∧ (x == ("__debug__" : Str)) = false
theorem BP {l : List Str} (h : CO l x = some i) : l[i]? = some x := by
 unfold CO at h
 refine Af (List.findIdx?_eq_some_iff_getElem.mp h) fun h1 h2 ω => ?_
 rw [List.getElem?_eq_getElem h1]
 simpa using h2
section
variable (W : Wd) (Φ : Bn) (T : Tab) (nm : List Str) (n : Nat)
def AE (e : Expr) : Prop := ∀ (sc : Scope) (A : Around) (E : Value → Shared → Prop) (s : Shared) (σ : Sto) (env : Env) (ρ : Rho) (K : B9) (Q : Value → Shared → Prop) (p : PE),
 stE T nm n sc e = some p → AG W env sc → Okc A n → StR W σ s → FrR σ s.heap env nm ρ → wpE Φ p ρ σ K → DO W σ s K Q → wpN W.M A (eval e env) Q E s
def DT (e : Expr) : Prop := ∀ (sc : Scope) (A : Around) (E : Value → Shared → Prop) (s : Shared) (σ : Sto) (env : Env) (ρ : Rho) (K : Bool → Sto → Prop) (Q : Bool → Shared → Prop) (p : PE),
 stE T nm n sc e = some p → AG W env sc → Okc A n → StR W σ s → FrR σ s.heap env nm ρ → wpT Φ p ρ σ K → OM W σ s K Q → wpN W.M A (isTrue e env (eval e env)) Q E s
def Q8 (es : List Expr) : Prop := ∀ (sc : Scope) (A : Around) (E : Value → Shared → Prop) (s : Shared) (σ : Sto) (env : Env) (ρ : Rho) (pos : Pos) (K : List D → Sto → Prop) (Q : List Value → Shared → Prop) (p : PEs),
 Cg T nm n sc es = some p → AG W env sc → Okc A n → StR W σ s → FrR σ s.heap env nm ρ → Fq Φ p ρ σ K → TR W σ s K Q → wpN W.M A (spliced (backTo pos (starEach es env))) Q E s
end
section
variable {W : Wd} {Φ : Bn} {T : Tab} {nm : List Str} {n : Nat}
theorem Dt {d : D} {b : Bool} {Q : Bool → Shared → Prop} (r : Rp σ s.heap v d) (h : Du d = some b) (hQ : Q b s) : wpAny W.M A (truthy v) Q E s := by
 cases d with
 | none => cases h; exact r.eN fun ω ω ω => hQ
 | bool b => cases h; exact r.eB (wpAny_truthy_bool hQ)
 | int i => cases h; exact r.eI fun t => PySem.P.truthy_int hQ
 | _ => exact nos h
theorem JK (c : Const) (k : Nat) (pos : Pos) : AE W Φ T nm n (.Constant c k pos) := by
 intro sc A E s σ env ρ K Q p h ev ok R F hp hQ
 (refine Af (Option.map_eq_some_iff.mp h) fun c' hc zq1 => ?_; subst zq1)
 rw [arm_eval_Constant]
 have one : ∀ {v : Value} {s' : Shared}, s'.heap = s.heap → s'.gens = s.gens → s'.os = s.os → Rp σ s.heap v c'.d → Q v s' := fun {v s'} e1 e2 e3 r => hQ v s' _ σ hp (R.grow (by rw [e1]; exact AM.refl _) e2 e3) (by rw [e1]; exact AP.refl _ _) (by rw [e1]; exact r)
 refine A3 ?_
 cases c <;> simp only [Rh, Option.some.injEq, reduceCtorEq] at hc <;> subst hc
 ·exact wpAny_pure (one rfl rfl rfl .none)
 ·exact wpAny_pure (one rfl rfl rfl (.bool _))
 ·exact wpAny_mkInt (one rfl rfl rfl (.int _ _))
 ·exact wpAny_mkText (one rfl rfl rfl (.str _ _))
 ·exact wpAny_mkTextBytes (one rfl rfl rfl (.bytes _ _))
theorem GP {env : Env} (ev : AG W env sc) (R : StR W σ s) (g : Jm sc x = true) (hd : (x == ("__debug__" : Str)) = false) (hv : W.mg x = some v) (h : Q v s) :
  wpAny W.M A (eval (.Name x pos) env) Q E s :=
 Name_function_global ev.kind (ev.glo x g) (loadGlobal_global (by rw [ev.glob]; exact R.g) hv h) hd
theorem Kc {env : Env} (ev : AG W env sc) (R : StR W σ s) (g : Jm sc x = true) (hd : (x == ("__debug__" : Str)) = false) (hm : W.mg x = none) (hv : W.mb x = some v) (h : Q v s) :
  wpAny W.M A (eval (.Name x pos) env) Q E s :=
 Name_function_global ev.kind (ev.glo x g) (loadGlobal_builtin (by rw [ev.glob]; exact R.g) hm (by rw [ev.bltn]; exact R.b) hv h) hd
theorem Qf (hp : wpE Φ (.loc i) ρ σ K) : ∃ d, ρ[i]? = some (some d) ∧ K d σ := by
 have e : ∀ o, (match o with | some (some d) => K d σ | _ => False) → ∃ d, o = some (some d) ∧ K d σ := fun o h => by
  cases o with
  | none => exact h.elim
  | some o => cases o with
   | none => exact h.elim
   | some d => exact ⟨d, rfl, h⟩
 exact e _ hp
theorem OZ (G : Glo W Φ T nm n) (x : Str) (pos : Pos) : AE W Φ T nm n (.Name x pos) := by
 intro sc A E s σ env ρ K Q p h ev ok R F hp hQ
 refine HR h (fun hl h => ?_) fun ω h => CU h fun hg h => ?_
 ·revert hp; refine AY h fun i hi hp => ?_
  refine Af (Qf hp) fun d hd hp => ?_
  have hx := BP hi
  refine oa2 (G.nd x (List.mem_of_getElem? hx)) fun n1 n2 => ?_
  exact A3 (wpAny_Name (HZ F hx hd ev.kind (ev.loc x hl) n2 fun v r => hQ v s d σ hp R (AP.refl _ _) r) n1)
 ·revert hp; refine AY h fun i hi hp => ?_
  refine oa2 (G.int x i hi) fun zq1 hd => oe1 zq1 fun t ht => ?_
  exact A3 (GP ev R hg hd ht (hQ _ s _ σ hp R (AP.refl _ _) (.int _ _)))
theorem NS (op : Operator) (pos : Pos) (hl : AE W Φ T nm n l) (hr : AE W Φ T nm n r) : AE W Φ T nm n (.BinOp l op r pos) := by
 intro sc A E s σ env ρ K Q p h ev ok R F hp hQ
 refine CU h fun ω h => AW h fun a ha h => ?_
 revert hp; refine AY h fun b hb hp => ?_
 rw [arm_eval_BinOp]
 refine A0 (hl sc A E s σ env ρ _ _ a ha ev ok R F hp fun v s₁ d σ₁ k₁ R₁ S₁ r₁ => ?_)
 refine A0 (A9 (hr sc A E s₁ σ₁ env ρ _ _ b hb ev ok R₁ (F.step S₁) k₁ fun u s₂ d₂ σ₂ k₂ R₂ S₂ r₂ => ?_))
 exact A0 (Aa (BL (A3 (OB R₂ (r₁.step S₂) r₂ k₂ (((hQ.after S₁).after S₂).op R₂)))))
theorem OY {x : Expr} (pos : Pos) (hx : AE W Φ T nm n x) : AE W Φ T nm n (.UnaryOp .USub x pos) := by
 intro sc A E s σ env ρ K Q p h ev ok R F hp hQ
 revert hp; refine AY h fun a ha hp => ?_
 rw [arm_eval_UnaryOp]
 refine A0 (hx sc A E s σ env ρ _ _ a ha ev ok R F hp fun v s₁ d σ₁ k₁ R₁ S₁ r₁ => ?_)
 refine A0 (Aa (A9 (A3 ?_)))
 cases d with
 | int i => exact r₁.eI fun t => PySem.P.neg_int (((hQ.after S₁).op R₁).same k₁ (.int _ _))
 | _ => exact False.elim k₁
theorem Qo {x : Expr} (pos : Pos) (hx : AE W Φ T nm n x) : AE W Φ T nm n (.UnaryOp .Not x pos) := by
 intro sc A E s σ env ρ K Q p h ev ok R F hp hQ
 revert hp; refine AY h fun a ha hp => ?_
 rw [arm_eval_UnaryOp]
 refine A0 (hx sc A E s σ env ρ _ _ a ha ev ok R F hp fun v s₁ d σ₁ k₁ R₁ S₁ r₁ => ?_)
 refine A0 (Aa (A9 (A3 ?_)))
 exact k₁.elim fun b k => PyProof.Rows.not_of (Dt r₁ k.1 (((hQ.after S₁).op R₁).same k.2 (.bool _)))
theorem Hu {r : List Expr} {env : Env} (h : ¬ Ke e = true) : starEach (e :: r) env = (false, eval e env) :: starEach r env := by
 cases e <;> first | rfl | exact absurd rfl h
theorem AV {env : Env} {r : List Expr} (h : Cg T nm n sc (e :: r) = some p) :
  ∃ a b, starEach (e :: r) env = (false, eval e env) :: starEach r env ∧ stE T nm n sc e = some a ∧ Cg T nm n sc r = some b ∧ p = .cons a b :=
 R8 h fun hs h => AW h fun a ha h => (Option.map_eq_some_iff.mp h).elim fun b hb => ⟨a, b, Hu hs, ha, hb.1, hb.2.symm⟩
theorem BU (h : Cg T nm n sc [] = some p) : p = .nil := by
 cases h; rfl
theorem FW {op : CmpOp} (h : stE T nm n sc r = some a) {t : Sem Value} : markedBehindIn op r t = t := by
 unfold markedBehindIn behindInMarks
 cases r <;> first | rfl | exact nos h
@[elab_as_elim] theorem Jv {ops : List CmpOp} {p : PE} {P : List CmpOp → List Expr → PE → Prop} (h : stE T nm n sc (.Compare l ops cs pos) = some p)
  (k : ∀ op c a b, stE T nm n sc l = some a → stE T nm n sc c = some b → P [op] [c] (.cmp op a b)) : P ops cs p := by
 cases ops with
 | nil => exact nos h
 | cons op ops => cases ops with
  | cons _ _ => exact nos h
  | nil =>
   refine AW h fun a ha h => AW h fun bs hb h => ?_
   cases cs with
   | nil => cases BU hb; exact nos h
   | cons c cs =>
    (refine Cy (AV (env := default) hb) fun b r ω hb1 hb2 zq1 => ?_; subst zq1)
    cases cs with
    | nil => cases BU hb2; exact CM h (k op c a b ha hb1)
    | cons c' cs =>
     (refine Cy (AV (env := default) hb2) fun ω ω ω ω ω zq1 => ?_; subst zq1)
     exact nos h
theorem KI (ops : List CmpOp) (pos : Pos) (hl : AE W Φ T nm n l) (hc : ∀ e ∈ cs, AE W Φ T nm n e) : AE W Φ T nm n (.Compare l ops cs pos) := by
 intro sc A E s σ env ρ K Q p h ev ok R F hp hQ
 revert hc hp
 refine Jv (P := fun ops cs p => (∀ e ∈ cs, AE W Φ T nm n e) → wpE Φ p ρ σ K → wpN W.M A (eval (.Compare l ops cs pos) env) Q E s) h fun op c a b ha hb1 hc hp => ?_
 rw [eval_Compare1]
 refine A0 (hl sc A E s σ env ρ _ _ a ha ev ok R F hp fun v s₁ d σ₁ k₁ R₁ S₁ r₁ => ?_)
 rw [FW hb1]
 refine A0 (A9 (hc c (List.mem_cons_self ..) sc A E s₁ σ₁ env ρ _ _ b hb1 ev ok R₁ (F.step S₁) k₁ fun u s₂ d₂ σ₂ k₂ R₂ S₂ r₂ => ?_))
 exact A0 (Aa (BL (A3 (Ju ok.c64 (r₁.step S₂) r₂ k₂ fun b kb => (((hQ.after S₁).after S₂).op R₂).same kb (.bool _)))))
theorem JL (ops : List CmpOp) (pos : Pos) (hl : AE W Φ T nm n l) (hc : ∀ e ∈ cs, AE W Φ T nm n e) : DT W Φ T nm n (.Compare l ops cs pos) := by
 intro sc A E s σ env ρ K Q p h ev ok R F hp hQ
 revert hc hp
 refine Jv (P := fun ops cs p => (∀ e ∈ cs, AE W Φ T nm n e) → wpT Φ p ρ σ K → wpN W.M A (isTrue (.Compare l ops cs pos) env (eval (.Compare l ops cs pos) env)) Q E s) h fun op c a b ha hb1 hc hp => ?_
 rw [arm_isTrue_Compare]
 refine A0 (hl sc A E s σ env ρ _ _ a ha ev ok R F hp fun v s₁ d σ₁ k₁ R₁ S₁ r₁ => ?_)
 show wpN W.M A (testChain pos v [op] [markedBehindIn op c (eval c env)]) Q E s₁
 rw [FW hb1]
 refine A0 (A9 (hc c (List.mem_cons_self ..) sc A E s₁ σ₁ env ρ _ _ b hb1 ev ok R₁ (F.step S₁) k₁ fun u s₂ d₂ σ₂ k₂ R₂ S₂ r₂ => ?_))
 exact A0 (Aa (A0 (BL (A3 (Ju ok.c64 (r₁.step S₂) r₂ k₂ fun b kb => A9 (A3 (wpAny_truthy_bool (((hQ.after S₁).after S₂) _ _ _ kb R₂ (AP.refl _ _)))))))))
theorem HF (pos : Pos) {env : Env} (ev : AG W env sc) (ok : Okc A n) : ∀ (es : List Expr) (p : PEs) (s : Shared) (σ : Sto) (K : B9),
  (∀ e ∈ es, AE W Φ T nm n e) → Cg T nm n sc es = some p → StR W σ s → FrR σ s.heap env nm ρ → wpB Φ op p ρ σ K → DO W σ s K Q → wpN W.M A (boolOp pos op (evalEach es env)) Q E s
 | [], p, s, σ, K, hs, h, R, F, hp, hQ => by
  cases BU h; exact False.elim hp
 | [e], p, s, σ, K, hs, h, R, F, hp, hQ => by
  (refine Cy (AV (env := env) h) fun a b ω ha hb zq1 => ?_; subst zq1)
  cases BU hb
  exact hs e (List.mem_cons_self ..) sc A E s σ env ρ _ _ a ha ev ok R F hp hQ
 | e :: e' :: r, p, s, σ, K, hs, h, R, F, hp, hQ => by
  (refine Cy (AV (env := env) h) fun a b ω ha hb zq1 => ?_; subst zq1)
  (refine Cy (AV (env := env) hb) fun a' b' ω ha' hb' zq1 => ?_; subst zq1)
  show wpN W.M A (boolOp pos op (eval e env :: eval e' env :: evalEach r env)) Q E s
  ·refine A0 (hs e (List.mem_cons_self ..) sc A E s σ env ρ _ _ a ha ev ok R F hp fun v s₁ d σ₁ k₁ R₁ S₁ r₁ => ?_)
   (refine C8 k₁ fun t ht k1 k2 => ?_; clear k₁)
   refine A0 (Aa (A0 (A9 (A3 (Dt r₁ ht ?_)))))
   have go := fun k => HF pos ev ok (e' :: r) (.cons a' b') s₁ σ₁ K (fun e he => hs e (List.mem_cons_of_mem _ he)) hb R₁ (F.step S₁) k (hQ.after S₁)
   cases op <;> cases t
   ·exact A5 (hQ v s₁ d σ₁ (k2 rfl) R₁ S₁ r₁)
   ·exact go (k1 rfl)
   ·exact go (k1 rfl)
   ·exact A5 (hQ v s₁ d σ₁ (k2 rfl) R₁ S₁ r₁)
theorem LY (op : BoolOp) (pos : Pos) (hs : ∀ e ∈ es, AE W Φ T nm n e) : AE W Φ T nm n (.BoolOp op es pos) := by
 intro sc A E s σ env ρ K Q p h ev ok R F hp hQ
 revert hp; refine AY h fun a ha hp => ?_
 rw [arm_eval_BoolOp]
 exact HF pos ev ok es a s σ K hs ha R F hp hQ
theorem GC {env : Env} (ev : AG W env sc) (ok : Okc A n) {Q : Bool → Shared → Prop} : ∀ (es : List Expr) (p : PEs) (s : Shared) (σ : Sto) (K : Bool → Sto → Prop),
  (∀ e ∈ es, DT W Φ T nm n e) → Cg T nm n sc es = some p → StR W σ s → FrR σ s.heap env nm ρ → JD Φ op p ρ σ K → OM W σ s K Q → wpN W.M A (allTrue op es env) Q E s
 | [], p, s, σ, K, hs, h, R, F, hp, hQ => by
  cases BU h
  rw [arm_allTrue_nil]
  refine A5 (hQ _ s σ ?_ R (AP.refl _ _))
  cases op <;> exact hp
 | e :: r, p, s, σ, K, hs, h, R, F, hp, hQ => by
  (refine Cy (AV (env := env) h) fun a b ω ha hb zq1 => ?_; subst zq1)
  rw [arm_allTrue_cons]
  refine A0 (hs e (List.mem_cons_self ..) sc A E s σ env ρ _ _ a ha ev ok R F hp fun t s₁ σ₁ k₁ R₁ S₁ => ?_)
  have go := fun k => GC ev ok (Q := Q) r b s₁ σ₁ K (fun e he => hs e (List.mem_cons_of_mem _ he)) hb R₁ (F.step S₁) k (hQ.after S₁)
  (refine oa2 k₁ fun k1 k2 => ?_; clear k₁)
  cases op <;> cases t
  ·exact A5 (hQ _ s₁ σ₁ (k2 rfl) R₁ S₁)
  ·exact go (k1 rfl)
  ·exact go (k1 rfl)
  ·exact A5 (hQ _ s₁ σ₁ (k2 rfl) R₁ S₁)
theorem KL (op : BoolOp) (pos : Pos) (hs : ∀ e ∈ es, DT W Φ T nm n e) : DT W Φ T nm n (.BoolOp op es pos) := by
 intro sc A E s σ env ρ K Q p h ev ok R F hp hQ
 revert hp; refine AY h fun a ha hp => ?_
 rw [arm_isTrue_BoolOp]
 exact GC ev ok es a s σ K hs ha R F hp hQ
theorem NP {c a b : Expr} (pos : Pos) (hc : DT W Φ T nm n c) (h1 : AE W Φ T nm n a) (h2 : AE W Φ T nm n b) : AE W Φ T nm n (.IfExp c a b pos) := by
 intro sc A E s σ env ρ K Q p h ev ok R F hp hQ
 refine Af (Option.bind_eq_some_iff.mp h) fun c' ec h => ?_
 refine Af (Option.bind_eq_some_iff.mp h) fun a' ea h => ?_
 (refine Af (Option.map_eq_some_iff.mp h) fun b' eb zq1 => ?_; subst zq1)
 rw [arm_eval_IfExp]
 refine A0 (hc sc A E s σ env ρ _ _ c' ec ev ok R F hp fun t s₁ σ₁ k₁ R₁ S₁ => ?_)
 cases t
 ·exact h2 sc A E s₁ σ₁ env ρ _ _ b' eb ev ok R₁ (F.step S₁) (k₁.2 rfl) (hQ.after S₁)
 ·exact h1 sc A E s₁ σ₁ env ρ _ _ a' ea ev ok R₁ (F.step S₁) (k₁.1 rfl) (hQ.after S₁)
theorem M2 {c a b : Expr} (pos : Pos) (hc : DT W Φ T nm n c) (h1 : DT W Φ T nm n a) (h2 : DT W Φ T nm n b) : DT W Φ T nm n (.IfExp c a b pos) := by
 intro sc A E s σ env ρ K Q p h ev ok R F hp hQ
 refine Af (Option.bind_eq_some_iff.mp h) fun c' ec h => ?_
 refine Af (Option.bind_eq_some_iff.mp h) fun a' ea h => ?_
 (refine Af (Option.map_eq_some_iff.mp h) fun b' eb zq1 => ?_; subst zq1)
 rw [arm_isTrue_IfExp]
 refine A0 (hc sc A E s σ env ρ _ _ c' ec ev ok R F hp fun t s₁ σ₁ k₁ R₁ S₁ => ?_)
 cases t
 ·exact h2 sc A E s₁ σ₁ env ρ _ _ b' eb ev ok R₁ (F.step S₁) (k₁.2 rfl) (hQ.after S₁)
 ·exact h1 sc A E s₁ σ₁ env ρ _ _ a' ea ev ok R₁ (F.step S₁) (k₁.1 rfl) (hQ.after S₁)
noncomputable def Mo : PE → Bool
 | .not _ | .bop _ _ | .cmp _ _ _ | .ite _ _ _ => false
 | _ => true
theorem M1 (he : ∀ env Bj, isTrue e env Bj = (do let v ← Bj; standAt e.pos; holding [v] (truthy v))) (hpl : ∀ sc p, stE T nm n sc e = some p → Mo p = true) (hE : AE W Φ T nm n e) : DT W Φ T nm n e := by
 intro sc A E s σ env ρ K Q p h ev ok R F hp hQ
 rw [he]
 have key : wpE Φ p ρ σ (fun d σ' => ∃ b, Du d = some b ∧ K b σ') := by
  have hpl := hpl sc p h
  cases p <;> first
   | exact hp
   | exact False.elim hp
   | cases hpl
 refine A0 (hE sc A E s σ env ρ _ _ p h ev ok R F key fun v s₁ d σ₁ k₁ R₁ S₁ r₁ => ?_)
 (refine Af k₁ fun b hb hk => ?_; clear k₁)
 exact A0 (Aa (A9 (A3 (Dt r₁ hb (hQ b s₁ σ₁ hk R₁ S₁)))))
theorem P3 {x : Expr} (pos : Pos) (hx : DT W Φ T nm n x) : DT W Φ T nm n (.UnaryOp .Not x pos) := by
 intro sc A E s σ env ρ K Q p h ev ok R F hp hQ
 revert hp; refine AY h fun a ha hp => ?_
 rw [arm_isTrue_UnaryOp]
 exact A0 (hx sc A E s σ env ρ _ _ a ha ev ok R F hp fun t s₁ σ₁ k₁ R₁ S₁ => A5 (hQ _ s₁ σ₁ k₁ R₁ S₁))
theorem CL : (∀ e ∈ es, AE W Φ T nm n e) → Q8 W Φ T nm n es := by
 induction es with
 | nil =>
  intro _ sc A E s σ env ρ pos K Q p h ev ok R F hp hQ
  cases BU h
  exact A5 (hQ [] s [] σ hp R (AP.refl _ _) .nil)
 | cons e r ih =>
  intro hs sc A E s σ env ρ pos K Q p h ev ok R F hp hQ
  (refine Cy (AV (env := env) h) fun a b e1 ha hb zq1 => ?_; subst zq1)
  rw [e1]
  show wpN W.M A (spliced ((false, if false = true then _ else eval e env) :: backTo pos (starEach r env))) Q E s
  rw [spliced, if_neg (by decide)]
  refine A0 (hs e (List.mem_cons_self ..) sc A E s σ env ρ _ _ a ha ev ok R F hp fun v s₁ d σ₁ k₁ R₁ S₁ r₁ => ?_)
  rw [if_neg (by decide)]
  refine A0 (A5 ?_)
  refine A0 (A9 (ih (fun e he => hs e (List.mem_cons_of_mem _ he)) sc A E s₁ σ₁ env ρ pos _ _ b hb ev ok R₁ (F.step S₁) k₁ fun vs s₂ ds σ₂ k₂ R₂ S₂ r₂ => ?_))
  exact A5 (hQ _ s₂ _ σ₂ k₂ R₂ (S₁.trans S₂) (.cons _ _ _ _ (r₁.step S₂) r₂))
theorem NO (x : Nat) (pos : Pos) (hs : Q8 W Φ T nm n es) : AE W Φ T nm n (.Tuple es x pos) := by
 intro sc A E s σ env ρ K Q p h ev ok R F hp hQ
 revert hp; refine AY h fun a ha hp => ?_
 rw [arm_eval_Tuple]
 refine A0 (Aa (A0 (hs sc A E s σ env ρ pos _ _ a ha ev ok R F hp fun vs s₁ ds σ₁ k₁ R₁ S₁ r₁ => A3 ?_)))
 refine wpAny_newTuple ?_ (by rw [sizeLine_eq, r₁.length]; have := k₁.1; lia)
 have g : AM s₁.heap (s₁.heap.push { cls := .type "tuple", data := .seq vs.toArray }) := AM.push _ _
 exact (hQ.after S₁).op R₁ _ { s₁ with heap := s₁.heap.push _ } _ k₁.2 (.tup _ vs _ (Ar R₁ (AF _)) ⟨_, Heap.get?_push_size _ rfl, rfl, _, rfl⟩ (r₁.step g.step)) g rfl rfl
theorem P0 (pos : Pos) (hs : Q8 W Φ T nm n es) : AE W Φ T nm n (.List es pos) := by
 intro sc A E s σ env ρ K Q p h ev ok R F hp hQ
 revert hp; refine AY h fun a ha hp => ?_
 rw [arm_eval_List]
 refine A0 (Aa (A0 (hs sc A E s σ env ρ pos _ _ a ha ev ok R F hp fun vs s₁ ds σ₁ k₁ R₁ S₁ r₁ => A3 ?_)))
 refine wpAny_newList ?_ (by rw [sizeLine_eq, r₁.length]; have := k₁.1; lia)
 have g : AM s₁.heap (s₁.heap.push { cls := .type "list", data := .seq vs.toArray }) := AM.push _ _
 exact (hQ.after S₁).op R₁ _ { s₁ with heap := s₁.heap.push _ } _ k₁.2 (.lst _ vs _ (Ar R₁ (AF _)) ⟨_, Heap.get?_push_size _ rfl, rfl, _, rfl⟩ (r₁.step g.step)) g rfl rfl
theorem Bw {env : Env} (ev : AG W env sc) (h : stE T nm n sc o = some a) (hsup : CO T.fns ("super" : Str) = none) {Bj : Sem Value} : attributeBase o x env Bj = Bj := by
 cases o with
 | Call f as ks pos => cases f with
  | Name id _ => cases as with
   | nil => cases ks with
    | nil =>
     refine AW h fun es ω h => ?_
     have : (id != ("super" : Str)) = true := by
      rw [bne_iff_ne]
      rintro rfl
      refine CU h fun ω h => ?_
      rw [show Jy ("super" : Str) = none from by decide +kernel, hsup] at h
      exact nos h
     unfold attributeBase
     dsimp only
     rw [this]
     rfl
    | cons _ _ => rfl
   | cons _ _ => rfl
  | _ => rfl
 | _ => rfl
theorem IJ (G : Glo W Φ T nm n) (x : Str) (pos : Pos) (ho : AE W Φ T nm n o) : AE W Φ T nm n (.Attribute o x pos) := by
 intro sc A E s σ env ρ K Q p h ev ok R F hp hQ
 refine CU h fun hx h => ?_
 ·revert hp; refine AY h fun a ha hp => ?_
  rw [arm_eval_Attribute, Bw ev ha G.sup]
  refine A0 (ho sc A E s σ env ρ _ _ a ha ev ok R F hp fun v s₁ d σ₁ k₁ R₁ S₁ r₁ => ?_)
  refine A0 (Aa (A0 (A9 (A3 (N0 (G.attrs x hx) R₁ r₁ k₁ ?_)))))
  exact fun u s' d' k r g e1 e2 => A0 (A3 (wpAny_letTemporaryGo (A5 ((hQ.after S₁).op R₁ u s' d' k r g e1 e2))))
end
end
section
variable {a : Addr} {K : B9} {i o : Expr} {as : List Expr} {ks : List Keyword} {l : List UInt8} {M : Model} {p : PE} {ap pos : Pos} {ρ : Rho} {sc : Scope} {x : Str} {f v : Value} {Q : Value → Shared → Prop}
theorem F1 : typeLookup (.type "bytes") "__getitem__" = pure (some (.builtin "bytes.__getitem__")) := by rw [typeLookup_type, builtinLookup_eq_fast]; kernel_rfl
section
variable {A : Around} {E : Value → Shared → Prop} {s : Shared} {σ : Sto}
theorem gip {o : Value} {T id : String} {Q : Bool → Shared → Prop} (hT : s.TypeIs o T) (hl : typeLookup (.type T) "__getitem__" = pure (some (.builtin id))) (h : Q false s) : wpAny M A (getitemInPython o) Q E s := by
 rw [getitemInPython_of_ne hT.not_modules]
 exact wpAny_bind (wpAny_specialOf hT hl (wpAny_pure h))
def Sub (s : Shared) (v : Value) : Prop := ∃ T id, typeLookup (.type T) "__getitem__" = pure (some (.builtin id)) ∧ s.TypeIs v T
theorem Nb {l : List D} (r : Rp σ s.heap v (.lst l)) : Sub s v :=
 r.eL fun a vs n h rs => ⟨"list", _, PySem.list_getitem_lookup, h.typeIs⟩
theorem Na {l : List D} (r : Rp σ s.heap v (.tup l)) : Sub s v :=
 r.eT fun a vs n h rs => ⟨"tuple", _, (PySem.F.slot_tuple_getitem).lookup, (let ⟨o, x, y, _⟩ := h; ⟨o, x, y⟩)⟩
theorem Ja (r : Rp σ s.heap v (.bytes l)) : Sub s v :=
 r.eY fun t => ⟨"bytes", _, F1, typeIs_bytes _ _ _⟩
theorem KF {W : Wd} (R : StR W σ s) (e : σ a = some (.barr l)) (r : Rp σ s.heap v (.ref a)) : Sub s v :=
 r.eR ⟨"bytearray", _, BA.slot_getitem.lookup, _, (R.objs _ _ e).1, rfl⟩
theorem NJ {W : Wd} {es : List (Int × D)} (R : StR W σ s) (e : σ a = some (.idict es)) (r : Rp σ s.heap v (.ref a)) : Sub s v :=
 r.eR (by
  refine Af (R.objs _ _ e) fun kvs zq1 ω => GK zq1 fun o es' ep q q1 ω => ?_
  exact ⟨"dict", _, (PySem.F.slot_dict_getitem).lookup, o, q, q1.1⟩)
theorem QH {W : Wd} {d k : D} {K : D → Prop} (R : StR W σ s) (r : Rp σ s.heap v d) (h : Kg σ d k K) : Sub s v :=
 Ty h fun i h => by
  cases d with
  | lst _ => exact Nb r
  | tup _ => exact Na r
  | bytes _ => exact Ja r
  | ref _ => exact h.elim (fun h => h.elim fun l h => h.elim fun u h => KF R h.1 r) fun h => h.elim fun es h => h.elim fun v h => NJ R h.1 r
  | _ => exact False.elim h
theorem Qq {W : Wd} {d a b : D} (R : StR W σ s) (r : Rp σ s.heap v d) (h : JM σ d a b K) : Sub s v := by
 cases d with
 | lst _ => exact Nb r
 | tup _ => exact Na r
 | bytes _ => exact Ja r
 | ref _ => exact h.elim fun l h => h.elim fun p h => h.elim fun q h => KF R h.1 r
 | _ => exact False.elim h
end
section
variable {W : Wd} {Φ : Bn} {T : Tab} {nm : List Str} {n : Nat}
theorem R4 {o : Option Expr} (ho : ∀ e, o = some e → AE W Φ T nm n e) {A : Around} {E : Value → Shared → Prop} {s : Shared} {σ : Sto} {env : Env} 
  (h : stO T nm n sc o = some p) (ev : AG W env sc) (ok : Okc A n) (R : StR W σ s) (F : FrR σ s.heap env nm ρ) (hp : wpE Φ p ρ σ K) (hQ : DO W σ s K Q) : wpN W.M A (valueOrNone (evalOpt o env)) Q E s := by
 cases o with
 | none =>
  revert hp; refine CM h fun hp => ?_
  exact A5 (hQ _ s _ σ hp R (AP.refl _ _) .none)
 | some e =>
  exact ho e rfl sc A E s σ env ρ _ _ p h ev ok R F hp hQ
theorem Jc {lo hi : Option Expr} {st : Option Expr} (hl : ∀ e, lo = some e → AE W Φ T nm n e) (hh : ∀ e, hi = some e → AE W Φ T nm n e) {A : Around} {E : Value → Shared → Prop} {s : Shared} {σ : Sto} {env : Env} {K : D → D → Sto → Prop} {x : PE × PE}
  (h : Ql T nm n sc (.Slice lo hi st pos) = some x) (ev : AG W env sc) (ok : Okc A n) (R : StR W σ s) (F : FrR σ s.heap env nm ρ) (hp : wpE Φ x.1 ρ σ fun a σ₁ => wpE Φ x.2 ρ σ₁ fun b σ₂ => K a b σ₂)
  (hQ : ∀ sl s' σ' vl vu a b, K a b σ' → StR W σ' s' → AP σ s.heap σ' s'.heap → s'.heap.IsSliceOf sl vl vu .none → Rp σ' s'.heap vl a → Rp σ' s'.heap vu b → st = none → Q (.ref sl) s') : wpN W.M A (eval (.Slice lo hi st pos) env) Q E s := by
 cases st with
 | some _ => exact nos h
 | none =>
  revert hp; refine AW h fun a ha h => AY h fun b hb hp => ?_
  rw [arm_eval_Slice]
  refine A0 (R4 hl ha ev ok R F hp fun v s₁ d σ₁ k₁ R₁ S₁ r₁ => ?_)
  refine A0 (A9 (R4 hh hb ev ok R₁ (F.step S₁) k₁ fun u s₂ d₂ σ₂ k₂ R₂ S₂ r₂ => ?_))
  refine A0 (A9 (A5 (A3 (wpAny_newObj_type ?_ ?_))))
  ·have g : AM s₂.heap (s₂.heap.push { cls := .type "slice", data := .fields [v, u, .none].toArray }) := AM.push _ _
   exact hQ _ { s₂ with heap := s₂.heap.push _ } σ₂ v u d d₂ k₂ (R₂.grow g) ((S₁.trans S₂).trans g.step) (Heap.IsSliceOf.new ..) ((r₁.step S₂).step g.step) (r₂.step g.step) rfl
  ·show 3 ≤ sizeLine + 2; rw [sizeLine_eq]; lia
@[elab_as_elim] theorem GR {P : Expr → Prop} (h : Hl i = true) (c : ∀ lo hi st ps, P (.Slice lo hi st ps)) : P i := by
 cases i <;> first | exact c .. | exact absurd h Bool.false_ne_true
theorem Fu {v u : Value} (h : ¬ Hl i = true) : subscripted i false v u = operate [v, u] (getItem v u) := by
 cases i <;> first | rfl | exact absurd rfl h
theorem II (pos : Pos) (ho : AE W Φ T nm n o) (hi : AE W Φ T nm n i) (hsl : ∀ lo hi st p, i = .Slice lo hi st p → (∀ e, lo = some e → AE W Φ T nm n e) ∧ (∀ e, hi = some e → AE W Φ T nm n e)) : AE W Φ T nm n (.Subscript o i pos) := by
 intro sc A E s σ env ρ K Q p h ev ok R F hp hQ
 refine AW h fun a ha h => HR h (fun hs h => ?_) fun hs h => ?_
 ·revert hp; refine AY h fun x hb hp => ?_
  revert hsl hb
  refine GR (P := fun i => (∀ lo hi st p, i = .Slice lo hi st p → (∀ e, lo = some e → AE W Φ T nm n e) ∧ (∀ e, hi = some e → AE W Φ T nm n e)) → Ql T nm n sc i = some x → wpN W.M A (eval (.Subscript o i pos) env) Q E s) hs fun lo hi' st ps hsl hb => ?_
  rw [arm_eval_Subscript]
  refine A0 (ho sc A E s σ env ρ _ _ a ha ev ok R F hp fun v s₁ d σ₁ k₁ R₁ S₁ r₁ => ?_)
  refine A0 (A9 (Jc (hsl _ _ _ _ rfl).1 (hsl _ _ _ _ rfl).2 hb ev ok R₁ (F.step S₁) k₁ fun sl s₂ σ₂ vl vu x y k₂ R₂ S₂ hs r₂ r₃ hst => ?_))
  subst hst
  refine Bu (Qq R₂ (r₁.step S₂) k₂) fun T' id hl hT => ?_
  refine A0 (Aa (A0 (A3 (gip hT hl ?_))))
  show wpN _ _ (operate [.ref sl, v] (getItem v (.ref sl)) >>= _) _ _ _
  refine A0 (BL (A3 (NZ R₂ (r₁.step S₂) r₂ r₃ hs k₂ ?_)))
  exact fun u s' d' σ' k R' S' r => A0 (A3 (wpAny_letTemporaryGo (A5 (((hQ.after S₁).after S₂) u s' d' σ' k R' S' r))))
 ·rw [arm_eval_Subscript]
  revert hp; refine AY h fun b hb hp => ?_
  refine A0 (ho sc A E s σ env ρ _ _ a ha ev ok R F hp fun v s₁ d σ₁ k₁ R₁ S₁ r₁ => ?_)
  refine A0 (A9 (hi sc A E s₁ σ₁ env ρ _ _ b hb ev ok R₁ (F.step S₁) k₁ fun u s₂ d₂ σ₂ k₂ R₂ S₂ r₂ => ?_))
  refine Bu (QH R₂ (r₁.step S₂) k₂) fun T' id hl hT => ?_
  refine A0 (Aa (A0 (A3 (gip hT hl ?_))))
  rw [Fu hs]
  refine A0 (BL (A3 (Oq R₂ (r₁.step S₂) r₂ k₂ ?_)))
  exact fun u s' d' k r g e1 e2 => A0 (A3 (wpAny_letTemporaryGo (A5 (((hQ.after S₁).after S₂).op R₂ u s' d' k r g e1 e2))))
theorem Qd {α : Type} {A : Around} {E : Value → Shared → Prop} {s : Shared} {c : Prop} [Decidable c] {t e : Sem α} {Q : α → Shared → Prop} (h1 : wpN M A t Q E s) (h2 : wpN M A e Q E s) : wpN M A (if c then t else e) Q E s := by
 by_cases h : c
 ·rw [if_pos h]; exact h1
 ·rw [if_neg h]; exact h2
theorem Ov {A : Around} {E : Value → Shared → Prop} {s : Shared} {args : List (Bool × Sem Value)} {Q : Args → Shared → Prop} (hplain : args.any (·.1) = false)
  (h : wpN M A (spliced args) (fun vs s' => Q ⟨vs, []⟩ s') E s) : wpN M A (evalArgs f true args []) Q E s := by
 cases args with
 | nil =>
  unfold evalArgs
  show wpN M A (spliced [] >>= _) Q E s
  refine A0 (AJ h (fun vs s' h' => ?_) fun ω ω x => x)
  refine A0 (A5 (A9 ?_))
  exact A0 (A5 (A0 (A5 (A5 h'))))
 | cons y rest =>
  obtain ⟨b, x⟩ := y
  cases b with
  | true => simp at hplain
  | false =>
   unfold evalArgs
   show wpN M A (spliced ((false, x) :: rest) >>= _) Q E s
   refine A0 (AJ h (fun vs s' h' => ?_) fun ω ω x => x)
   refine A9 ?_
   exact A0 (A5 (A0 (A5 (A5 h'))))
theorem Nw {K : Frag} {A : Around} {E : Value → Shared → Prop} {s : Shared} {first : List Value} {args : List (Bool × Sem Value)} (hplain : args.any (·.1) = false)
  (hk : ∀ h, K.In h → ∃ k, (k = Keeper.frame ∨ k = Keeper.machine) ∧ Looks M h (keeperOf f) k)
  (h : wpN M A (spliced args) (fun vs s₁ => K.In s₁.heap ∧ wpN M A (call f (first ++ vs)) Q E s₁) E s) : wpN M A (callWith pos f first args []) Q E s := by
 unfold callWith
 refine A0 (A9 (Ov hplain (AJ h (fun vs s₁ h₁ => A0 (Aa ?_)) fun ω ω x => x)))
 refine Af (hk _ h₁.1) fun k hk' L => ?_
 rw [show (args.any (·.1) || ([] : List (Option Str × Sem Value)).any (·.1.isNone)) = false by rw [hplain]; rfl]
 refine A0 (A3 (L.here ?_))
 have tail : ∀ {t : Sem Value}, wpN M A t Q E s₁ → wpN M A (t >>= fun r => holding [r] point >>= fun ω => pure r) Q E s₁ :=
  fun ht => A0 (AJ ht (fun r s₂ hr => A0 (A9 (J8 (A5 hr)))) fun ω ω x => x)
 have marked (mk : Value) : wpN M A (callMarked mk f (first ++ vs) []) Q E s₁ := by unfold callMarked; exact OQ h₁.2
 rcases hk' with rfl | rfl
 ·dsimp only; exact Qd (tail h₁.2) (tail (marked _))
 ·exact tail h₁.2
theorem MB (M : Model) (b : Blt) (h : Heap) : ∃ k, (k = Keeper.frame ∨ k = Keeper.machine) ∧ Looks M h (keeperOf (Q2 b)) k := ⟨.machine, .inr rfl, by cases b <;> exact .of_pure rfl⟩
theorem C1 {env : Env} : ∀ {es : List Expr} {p : PEs}, Cg T nm n sc es = some p → (backTo pos (starEach es env)).any (·.1) = false
 | [], p, h => rfl
 | e :: r, p, h => by
  (refine Cy (AV (env := env) h) fun a b e1 ha hb zq1 => ?_; subst zq1)
  rw [e1]
  show (false || (backTo pos (starEach r env)).any (·.1)) = false
  rw [C1 hb]; rfl
theorem Ia (x : Str) (p : Pos) (as : List Expr) (pos : Pos) (env : Env) : eval (.Call (.Name x p) as [] pos) env = (do callWith pos (← eval (.Name x p) env) [] (backTo pos (starEach as env)) []) := rfl
theorem I1 (M : Model) (h : Heap) (id : String) : ∃ k, (k = Keeper.frame ∨ k = Keeper.machine) ∧ Looks M h (keeperOf (.builtin id)) k := ⟨.machine, .inr rfl, .of_pure rfl⟩
theorem LO {σ : Sto} {s : Shared} {es : List ((Int × List Int) × D)} (R : StR W σ s) (e : σ a = some (.tdict es)) : s.TypeIs (.ref a) "dict" ∧ ∀ b, Value.ref a = .ref b → ∃ o, s.heap.get? b = some o ∧ o.dict = none := by
 refine Ra (R.objs _ _ e) fun o ents ep xs q zq1 ω => oa3 zq1 fun q1 q2 q3 => ?_
 exact ⟨⟨o, q, q1⟩, fun b h => by cases h; exact ⟨o, q, q2⟩⟩
@[elab_as_elim] theorem OV {k : PE} {P : List Expr → Prop} (h : Cg T nm n sc as = some (.cons k .nil)) (c : ∀ e, stE T nm n sc e = some k → P [e]) : P as := by
 cases as with
 | nil => cases BU h
 | cons e r =>
  refine Cy (AV (env := default) h) fun ω ω ω ha hb h => ?_
  cases h
  cases r with
  | nil => exact c e ha
  | cons _ _ => refine Cy (AV (env := default) hb) fun ω ω ω ω ω h => ?_; cases h
theorem Qn (G : Glo W Φ T nm n) {c : Expr} {k o' : PE} (ho : AE W Φ T nm n o) (hs : AE W Φ T nm n c) (hline : ap.endLine == pos.line) {A : Around} {E : Value → Shared → Prop} {s : Shared} {σ : Sto} {env : Env} 
  (ho' : stE T nm n sc o = some o') (hes : Cg T nm n sc [c] = some (.cons k .nil)) (ev : AG W env sc) (ok : Okc A n) (R : StR W σ s) (F : FrR σ s.heap env nm ρ) (hp : wpE Φ (.dget o' k) ρ σ K) (hQ : DO W σ s K Q) : wpN W.M A (eval (.Call (.Attribute o "get" ap) [c] [] pos) env) Q E s := by
 show wpN W.M A (attributeBase o "get" env (eval o env) >>= fun ov => standAt ap.atName >>= fun ω => methodCall o "get" ap pos env ov 1 (backTo pos (starEach [c] env)) []) Q E s
 rw [Bw ev ho' G.sup]
 refine A0 (ho sc A E s σ env ρ _ _ o' ho' ev ok R F hp fun ov s₁ d σ₁ k₁ R₁ S₁ r₁ => ?_)
 refine A0 (Aa ?_)
 have hpos : methodCallPos true o env ap pos = pure pos := by unfold methodCallPos; simp [hline]
 have hform : methodCallForm 1 (backTo pos (starEach [c] env)) [] = true := by
  rw [(AV (env := env) hes).elim fun ω h => h.elim fun ω h => h.1]; rfl
 unfold methodCall
 rw [hform, hpos]
 obtain ⟨⟨a, es, rfl, hda⟩, k₁⟩ := k₁
 refine r₁.eR ?_
 have hT := LO R₁ hda
 refine A0 (A9 (A3 (getMethod_builtin hT.1 PySem.F.plainAttrs_dict PySem.F.slot_dict_get PySem.F.type_dict_get hT.2 ?_)))
 refine A0 (A5 ?_)
 exact Nw (K := W.K) (C1 hes) (fun h ω => I1 _ h _) (CL (fun e he => by cases List.mem_singleton.mp he; exact hs) sc A E s₁ σ₁ env ρ pos (fun ds σ' => on1 ds fun x => PQ σ' (.ref a) x fun v => K v σ') _ _ hes ev ok R₁ (F.step S₁) k₁ fun vs s₂ ds σ₂ k₂ R₂ S₂ r₂ => ⟨R₂.X,
  r₂.on1 k₂ fun u d k₂ r₃ => A3 (ML ok.c65 R₂ (.ref a) r₃ k₂ (((hQ.after S₁).after S₂).op R₂))⟩)
theorem NR (G : Glo W Φ T nm n) (pos : Pos) (ho : AE W Φ T nm n o) (hs : ∀ e ∈ as, AE W Φ T nm n e) : AE W Φ T nm n (.Call (.Attribute o x ap) as [] pos) := by
 intro sc A E s σ env ρ K Q p h ev ok R F hp hQ
 refine AW h fun es hes h => ?_
 refine CU h fun hx h' => ?_
 refine oa2 (Bool.and_eq_true_iff.mp hx) fun hx hline => ?_
 obtain rfl := beq_iff_eq.mp hx
 cases es with
 | nil => exact nos h'
 | cons k r => cases r with
  | cons _ _ => exact nos h'
  | nil =>
   revert hp; refine AY h' fun o' ho' hp => ?_
   have hes' := hes
   revert hs hes'
   refine OV (P := fun as => (∀ e ∈ as, AE W Φ T nm n e) → Cg T nm n sc as = some (.cons k .nil) → wpN W.M A (eval (.Call (.Attribute o "get" ap) as [] pos) env) Q E s) hes fun c hc hs hes => ?_
   exact Qn G ho (hs c (List.mem_singleton.mpr rfl)) hline ho' hes ev ok R F hp hQ
theorem NQ (G : Glo W Φ T nm n) {ps : Pos} (pos : Pos) (hs : ∀ e ∈ as, AE W Φ T nm n e) : AE W Φ T nm n (.Call (.Name x ps) as [] pos) := by
 intro sc A E s σ env ρ K Q p h ev ok R F hp hQ
 refine AW h fun es hes h => ?_
 refine CU h fun hg h => ?_
 rw [Ia]
 cases hb : Jy x with
 | some b =>
  rw [hb] at h
  revert hp; refine CM h fun hp => ?_
  refine oa3 (G.blt x b hb) fun g1 g2 g3 => ?_
  refine A0 (A3 (Kc ev R hg g3 g1 g2 ?_))
  exact Nw (K := W.K) (C1 hes) (fun h ω => MB _ b h) (CL hs sc A E s σ env ρ pos _ _ es hes ev ok R F hp fun vs s₁ ds σ₁ k₁ R₁ S₁ r₁ => ⟨R₁.X, OC ok.hh R₁ r₁ k₁ (hQ.after S₁)⟩)
 | none =>
  rw [hb] at h
  refine AW h fun i hi h => CU h fun hlt h => ?_
  revert hp; refine CM h fun hp => ?_
  refine oa2 (G.fn x i hi hlt) fun zq1 g3 => C8 zq1 fun f f1 f2 f3 => ?_
  refine A0 (A3 (GP ev R hg g3 f1 ?_))
  exact Nw (K := W.K) (C1 hes) (fun h X => looks_keep f2 X) (CL hs sc A E s σ env ρ pos _ _ es hes ev ok R F hp fun vs s₁ ds σ₁ k₁ R₁ S₁ r₁ => ⟨R₁.X, f3 A E s₁ σ₁ vs ds K Q (ok.mono hlt) R₁ r₁ k₁ (hQ.after S₁)⟩)
@[elab_as_elim] theorem Io {f : Expr} {P : Expr → List Keyword → Prop} (h : stE T nm n sc (.Call f as ks pos) = some p) (c1 : ∀ o x ap, P (.Attribute o x ap) []) (c2 : ∀ x ps, P (.Name x ps) []) : P f ks := by
 cases ks with
 | cons _ _ => cases f <;> exact False.elim (AW h fun ω ω h => nos h)
 | nil => cases f with
  | Attribute => exact c1 ..
  | Name => exact c2 ..
  | _ => exact False.elim (AW h fun ω ω h => nos h)
theorem P2 (G : Glo W Φ T nm n) {f : Expr} (pos : Pos) (ho : ∀ o x ap, f = .Attribute o x ap → AE W Φ T nm n o) (hs : ∀ e ∈ as, AE W Φ T nm n e) : AE W Φ T nm n (.Call f as ks pos) := by
 intro sc A E s σ env ρ K Q p h
 have h' := h
 revert ho h'
 refine Io (P := fun f ks => (∀ o x ap, f = .Attribute o x ap → AE W Φ T nm n o) → stE T nm n sc (.Call f as ks pos) = some p → _ → _ → _ → _ → _ → _ → wpN W.M A (eval (.Call f as ks pos) env) Q E s) h (fun o x ap ho h => ?_) fun x ps ω h => ?_
 ·exact NR G pos (ho _ _ _ rfl) hs sc A E s σ env ρ K Q p h
 ·exact NQ G pos hs sc A E s σ env ρ K Q p h
end
end
section
variable {y : Str}
noncomputable def B8 (env : Env) : List (Str × NameKind) → List (Str × Addr) → List (Str × Addr)
 | [], cs => cs
 | (n, k) :: r, cs => B8 env r (if k == .free then (n, (env.cells.lookup n).getD 0) :: cs else cs)
theorem FR {env : Env} : ∀ (l : List (Str × NameKind)) (cs : List (Str × Addr)), (∀ y ∈ l, y.2 = .free → (env.cells.lookup y.1).isSome = true) → ∀ p ∈ B8 env l cs, p ∈ cs ∨ env.cells.lookup p.1 = some p.2
 | [], cs, _, p, h => .inl h
 | (n, k) :: r, cs, hl, p, h => by
  rw [B8] at h
  refine Or.elim (FR r _ (fun y hy => hl y (List.mem_cons_of_mem _ hy)) p h) (fun q => ?_) (fun q => ?_)
  ·split at q
   ·rename_i hk
    rcases List.mem_cons.mp q with rfl | q
    ·right
     have := hl (n, k) (List.mem_cons_self ..) (by simpa using hk)
     refine oe1 (Option.isSome_iff_exists.mp this) fun a ha => ?_
     show env.cells.lookup n = some ((env.cells.lookup n).getD 0)
     dsimp only at ha
     rw [ha]; rfl
    ·exact .inl q
   ·exact .inl q
  ·exact .inr q
theorem FQ {env : Env} : ∀ (l : List (Str × NameKind)) (cs : List (Str × Addr)), ∀ p ∈ cs, p ∈ B8 env l cs
 | [], cs, p, h => h
 | (n, k) :: r, cs, p, h => by
  rw [B8]
  refine FQ r _ p ?_
  split
  ·exact List.mem_cons_of_mem _ h
  ·exact h
theorem FS {env : Env} : ∀ (l : List (Str × NameKind)) (cs : List (Str × Addr)) (x : Str), (x, NameKind.free) ∈ l → ∃ a, (x, a) ∈ B8 env l cs
 | (n, k) :: r, cs, x, h => by
  rw [B8]
  refine Or.elim (List.mem_cons.mp h) (fun e => ?_) (fun h => ?_)
  ·cases e
   exact ⟨_, FQ r _ _ (List.mem_cons_self ..)⟩
  ·exact FS r _ x h
theorem Im {env : Env} {f : Str × NameKind → List (Str × Addr) → Sem (ForInStep (List (Str × Addr)))} (hf : ∀ n k cs, f (n, k) cs = if (k == .free) = true then (do let a ← cellOf env n; pure (.yield ((n, a) :: cs))) else pure (.yield cs)) :
  ∀ (l : List (Str × NameKind)) (cs : List (Str × Addr)), (∀ y ∈ l, y.2 = .free → (env.cells.lookup y.1).isSome = true) → forIn l cs f = (pure (B8 env l cs) : Sem _)
 | [], cs, _ => rfl
 | (n, k) :: r, cs, hl => by
  rw [List.forIn_cons, hf, B8]
  have ih := fun cs => Im hf r cs (fun y hy => hl y (List.mem_cons_of_mem _ hy))
  by_cases hk : (k == .free) = true
  ·have := hl (n, k) (List.mem_cons_self ..) (by simpa using hk)
   refine oe1 (Option.isSome_iff_exists.mp this) fun a ha => ?_
   dsimp only at ha
   rw [if_pos hk, if_pos hk, ha]
   unfold cellOf
   rw [ha]
   exact ih _
  ·rw [if_neg hk, if_neg hk]
   exact ih _
theorem J5 {env : Env} {scope : Scope} (h : ∀ y ∈ scope.names, y.2 = .free → (env.cells.lookup y.1).isSome = true) : closureFor scope env = pure (B8 env scope.names []) := by
 unfold closureFor
 dsimp only
 rw [Im (env := env) (fun n k cs => rfl) _ _ h]
 rfl
theorem AN {α β : Type} [BEq α] [LawfulBEq α] {l : List (α × β)} {x : α} {a : β} (h : l.lookup x = some a) : (x, a) ∈ l := by
 induction l with
 | nil => cases h
 | cons p r ih =>
  obtain ⟨y, b⟩ := p
  rw [List.lookup_cons] at h
  split at h
  ·rename_i e
   cases h
   rw [beq_iff_eq.mp e]; exact List.mem_cons_self ..
  ·exact List.mem_cons_of_mem _ (ih h)
theorem DA {α β : Type} [BEq α] [LawfulBEq α] {l : List (α × β)} {x : α} {a : β} (h : (x, a) ∈ l) : ∃ b, l.lookup x = some b := by
 induction l with
 | nil => cases h
 | cons p r ih =>
  obtain ⟨y, b⟩ := p
  rw [List.lookup_cons]
  refine Or.elim (List.mem_cons.mp h) (fun e => ?_) (fun h => ?_)
  ·cases e; rw [beq_self_eq_true]; exact ⟨_, rfl⟩
  ·split
   ·exact ⟨_, rfl⟩
   ·exact ih h
theorem HX {α β γ : Type} [BEq α] {f : α → β → γ} {l : List (α × β)} {x : α} [LawfulBEq α] : (l.map fun p => (p.1, f p.1 p.2)).lookup x = (l.lookup x).map (f x) := by
 induction l with
 | nil => rfl
 | cons p r ih =>
  obtain ⟨y, b⟩ := p
  rw [List.map_cons, List.lookup_cons, List.lookup_cons]
  dsimp only
  split
  ·rename_i e; rw [beq_iff_eq.mp e]; rfl
  ·exact ih
structure BJ (env : Env) (sc scope : Scope) (x : Str) : Prop where
 kind : scope.kind = .function
 loc : scope.names.lookup x = some .local
 names : ∀ y ∈ scope.names, (y.2 = .free ∧ sc.names.lookup y.1 = some .cell) ∨ y.2 = .globalImplicit ∨ (y.2 = .local ∧ (y.1 = x ∨ y.1 = ".0"))
noncomputable def ED (env : Env) (n : Str) (k : NameKind) : NameKind := if (k == .free && env.scope.kind == .function && env.kindOf n == some .cell) = true then .cell else k
noncomputable def BQ (env : Env) (scope : Scope) (L : Addr) : Env :=
 { newEnv scope L env.globals (B8 env scope.names []) env.qual none .none (some env) env.builtins with scope := { scope with names := scope.names.map fun p => (p.1, ED env p.1 p.2) } }
section
variable {W : Wd} {env : Env} {sc scope : Scope} {x : Str} {L : Addr}
theorem BJ.has (C : BJ env sc scope x) (ev : AG W env sc) : ∀ y ∈ scope.names, y.2 = .free → (env.cells.lookup y.1).isSome = true := fun y hy hf => by
 refine oo3 (C.names y hy) (fun zq1 => oa2 zq1 fun ω h => ?_) (fun h => ?_) (fun zq2 => oa2 zq2 fun h ω => ?_)
 ·obtain ⟨_, a, ha⟩ := ev.cel _ h
  rw [ha]; rfl
 ·rw [h] at hf; cases hf
 ·rw [h] at hf; cases hf
theorem BJ.kindOf (C : BJ env sc scope x) (y : Str) : (BQ env scope L).kindOf y = (scope.names.lookup y).map (ED env y) := by
 show (scope.names.map fun p => (p.1, ED env p.1 p.2)).lookup y = _
 exact HX
theorem BJ.cells (C : BJ env sc scope x) (ev : AG W env sc) {a : Addr} (h : (BQ env scope L).cells.lookup y = some a) : env.cells.lookup y = some a := by
 have h : (B8 env scope.names []).lookup y = some a := h
 refine Or.elim (FR _ _ (C.has ev) _ (AN h)) (fun q => ?_) (fun q => ?_)
 ·cases q
 ·exact q
theorem BJ.free (C : BJ env sc scope x) (ev : AG W env sc) {k : NameKind} (h : scope.names.lookup y = some k) (hk : k = .free) : sc.names.lookup y = some .cell ∧ env.kindOf y = some .cell ∧ ∃ a, env.cells.lookup y = some a ∧ (BQ env scope L).cells.lookup y = some a ∧ (BQ env scope L).kindOf y = some .cell := by
 subst hk
 have hm := AN h
 refine oo3 (C.names _ hm) (fun zq1 => oa2 zq1 fun ω h1 => ?_) (fun h1 => ?_) (fun zq2 => oa2 zq2 fun h1 ω => ?_)
 ·obtain ⟨h2, a, ha⟩ := ev.cel _ h1
  refine oe1 (FS (env := env) scope.names [] y hm) fun b hb => ?_
  refine oe1 (DA hb) fun c hc => ?_
  have hc' : (BQ env scope L).cells.lookup y = some c := hc
  have := C.cells ev hc'
  rw [ha] at this; cases this
  refine ⟨h1, h2, a, ha, hc', ?_⟩
  rw [C.kindOf, h]
  dsimp only [] at h2
  simp [ED, ev.kind, h2]
 ·cases h1
 ·cases h1
theorem BJ.envOk (C : BJ env sc scope x) (ev : AG W env sc) (hL : W.h₀.get? L = none) : AG W (BQ env scope L) scope := by
 refine ⟨fun a ha => ?_, C.kind, ev.glob, ev.bltn, fun y hy => ?_, fun y hy => ?_, fun y hy => ?_, fun y hy => ?_⟩
 ·rcases ha with rfl | ⟨y, hy⟩
  ·exact hL
  ·exact ev.hid a (.inr ⟨y, C.cells ev hy⟩)
 ·unfold I4 at hy
  cases e : scope.names.lookup y with
  | none => rw [e] at hy; cases hy
  | some k =>
   rw [e] at hy
   cases k <;> first | cases hy | skip
   ·left; rw [C.kindOf, e]; rfl
   ·refine oo3 (C.names _ (AN e)) (fun zq1 => oa2 zq1 fun h ω => ?_) (fun h => ?_) (fun zq2 => oa2 zq2 fun h ω => ?_) <;> cases h
   ·exact .inr (.inl (C.free ev e rfl).2.2.choose_spec.2.2)
 ·unfold Jm at hy
  rw [C.kindOf, beq_iff_eq.mp hy]; rfl
 ·rw [C.kindOf, hy]; rfl
 ·refine oo3 (C.names _ (AN hy)) (fun zq1 => oa2 zq1 fun h ω => ?_) (fun h => ?_) (fun zq2 => oa2 zq2 fun h ω => ?_) <;> cases h
end
end
section
variable {a it p : Addr} {f : Addr → Option Obj} {h h' : Heap} {ifs : List Expr} {o : Obj} {cnd : PEs} {ρ : Rho} {σ σ' : Sto} {v : Value}
noncomputable abbrev BZ (vs : List Value) (k : Nat) : Obj := { cls := .type "list", data := .seq ⟨vs⟩ k }
theorem Lv (h : σ p = none) {x : Addr} (f : foot (σ.upd p (.hid o)) x) : foot σ x ∨ x = p := by
 (refine Bu f fun a q e g => ?_; clear f)
 by_cases ha : a = p
 ·subst ha; rw [Sto.upd_self] at e; cases e; exact .inr g.symm
 ·rw [Sto.upd_ne σ _ ha] at e; exact .inl ⟨a, q, e, g⟩
theorem GQ (h : σ p = none) {d : D} {l : List D} (e : Ah σ d = some l) : Ah (σ.upd p (.hid o)) d = some l := by
 cases d with
 | ref a =>
  have ne : a ≠ p := fun q => by subst q; dsimp only [Ah] at e; rw [h] at e; cases e
  dsimp only [Ah] at e ⊢
  rw [Sto.upd_ne σ _ ne]; exact e
 | _ => exact e
theorem F4 (h : σ p = none) (d : D) : As (σ.upd p (.hid o)) d = As σ d := by
 cases d with
 | ref a =>
  by_cases ne : a = p
  ·subst ne; dsimp only [As]; rw [Sto.upd_self, h]
  ·dsimp only [As]; rw [Sto.upd_ne σ _ ne]
 | _ => rfl
open Classical in
noncomputable def mask (env : Env) (h : Heap) : Addr → Option Obj := fun a => if Own env a then none else h.get? a
theorem FJ {env : Env} : Fn env (mask env h) := fun a o => if_pos o
theorem Dj {env : Env} (n : ¬ Own env a) (e : h.get? a = some o) : mask env h a = some o := (if_neg n).trans e
theorem HV {env : Env} (e : mask env h a = some o) : ¬ Own env a ∧ h.get? a = some o := by
 unfold mask at e
 split at e
 ·cases e
 ·exact ⟨by assumption, e⟩
theorem Oi {env : Env} (e : mask env h a = none) : Own env a ∨ h.get? a = none := by
 unfold mask at e
 split at e
 ·exact .inl (by assumption)
 ·exact .inr e
theorem Ca (σ : Sto) (env : Env) (h : Heap) : AI σ (mask env h) σ h := ⟨fun b o ω e => (HV e).2, fun x f => .inl f⟩
theorem AP.mask (S : AP σ h σ' h') (env : Env) : AI σ (mask env h) σ' h' :=
 ⟨fun b o n e => S.keep b o n (HV e).2, fun x f => (S.fresh x f).elim .inl fun q => .inr (by unfold Mine.mask; split; rfl; exact q)⟩
theorem FrR.own {env : Env} {nm : List Str} (F : FrR σ h env nm ρ) (o : Own env a) : ∃ x, h.get? a = some x ∧ ((∃ es n, x.data = .dict es n) ∨ ∃ v, x.data = .cell v) := by
 rcases o with rfl | ⟨y, hy⟩
 ·refine By (F.locals) fun o es n e d => ?_
  exact ⟨o, e, .inl ⟨es, n, d⟩⟩
 ·obtain ⟨_, v, o, e, d⟩ := F.cell y a hy
  exact ⟨o, e, .inr ⟨_, d⟩⟩
theorem FrR.mask_q {env : Env} {nm : List Str} (F : FrR σ h env nm ρ) (S : AI σ (mask env h) σ' h') : Dr σ h σ' h' := ⟨fun b o n z e => by
 have no : ¬ Own env b := fun q => by
  refine Af (F.own q) fun x e' c => ?_
  rw [e] at e'; cases e'
  rcases z with ⟨xs, m, z⟩ | ⟨_, vs, z⟩ <;> refine Or.elim c (fun zq1 => oe2 zq1 fun es k c => ?_) (fun zq2 => oe1 zq2 fun v c => ?_) <;> rw [z] at c <;> cases c
 have m := Dj no e
 exact ⟨S.keep b o n m, (S.priv n m).1⟩⟩
theorem FrR.mask_it {env : Env} {nm : List Str} (F : FrR σ h env nm ρ) (S : AI σ (mask env h) σ' h') {d : D} {b : Bool} {i : Nat} (x : DP h it v d b i) (n : ¬ foot σ it) : DP h' it v d b i ∧ ¬ foot σ' it := by
 refine GK (x.obj) fun o vs T e hd ω => ?_
 have no : ¬ Own env it := fun q => by
  refine Af (F.own q) fun x e' c => ?_
  rw [e] at e'; cases e'
  refine Or.elim c (fun zq1 => oe2 zq1 fun es k c => ?_) (fun zq2 => oe1 zq2 fun v c => ?_) <;> rw [hd] at c <;> cases c
 exact ⟨x.keep fun o' e' => S.keep it o' n (Dj no e'), (S.priv n (Dj no e)).1⟩
theorem DB {σ₀ σ σ' : Sto} {env : Env} (a : AI σ₀ f σ h) (hf : Fn env f) (b : AI σ (mask env h) σ' h') : AI σ₀ f σ' h' :=
 ⟨fun x o n e => b.keep x o (a.priv n e).1 (Dj (fun q => by rw [hf x q] at e; cases e) (a.priv n e).2), fun x q => by
  refine Or.elim (b.fresh x q) (fun q => ?_) (fun q => ?_)
  ·exact a.fresh x q
  ·refine Or.elim (Oi q) (fun q => ?_) (fun q => ?_)
   ·exact .inr (hf x q)
   ·by_cases n : foot σ₀ x
    ·exact .inl n
    ·right
     cases e : f x with
     | none => rfl
     | some o => rw [(a.priv n e).2] at q; cases q⟩
theorem BO {σ₀ σ σ' : Sto} {h₀ h h' : Heap} {env : Env} (a : AI σ₀ (mask env h₀) σ h) (b : AI σ (mask env h) σ' h') : AI σ₀ (mask env h₀) σ' h' := DB a FJ b
section
variable {A : Around} {E : Value → Shared → Prop} {s : Shared}
theorem N2 {prog : Program} {w : World} {vs : List Value} {k : Nat} {Q : Value → Shared → Prop} (ho : s.heap.get? p = some (BZ vs k)) (hz : vs.length + 1 ≤ 1000000)
  (hQ : Q .none { s with heap := s.heap.update p (Obj.mapSeq (·.push v)) }) : wpAny (model prog w) A (call (.builtin "list.append") [.ref p, v]) Q E s := by
 have hl : s.heap.IsList p ⟨vs⟩ := ⟨_, ho, rfl, k, rfl⟩
 refine wpAny_call_entry PySem.slot_list_append hl.typeIs PySem.entry_list_append ?_ (PySem.args_list_append _ _)
 show wpAny _ _ (updateSeq p (·.push v) >>= fun ω => ret .none) _ _ s
 exact wpAny_bind (wpAny_updateSeq ho rfl (wpAny_pure ⟨.none, rfl, hQ⟩) (by rw [sizeLine_eq]; simp only [List.size_toArray]; lia) (by rw [sizeLine_eq]; simp only [Array.size_push, List.size_toArray]; lia))
end
def T9 (W : Wd) (σ₁ : Sto) (f : Addr → Option Obj) (p : Addr) (cenv : Env) (nm : List Str) (ρ : Rho) (it : Addr) (v : Value) (d : D) (i : Nat) (ds : List D) (s : Shared) : Prop :=
 ∃ vs k, StR W (σ₁.upd p (.hid (BZ vs k))) s ∧ FrR (σ₁.upd p (.hid (BZ vs k))) s.heap cenv nm ρ ∧ Rps (σ₁.upd p (.hid (BZ vs k))) s.heap vs ds ∧ AI σ₁ f (σ₁.upd p (.hid (BZ vs k))) s.heap ∧
  Rp (σ₁.upd p (.hid (BZ vs k))) s.heap v d ∧ DP s.heap it v d (As σ₁ d) i
structure Rr (W : Wd) (σ₁ : Sto) (f : Addr → Option Obj) (p : Addr) (cenv : Env) (it : Addr) : Prop where
 np : σ₁ p = none
 fp : f p = none
 fi : f it = none
 fl : f cenv.locals = none
 hi : W.h₀.get? it = none
 ni : ¬ foot σ₁ it
 ip : it ≠ p
section
variable {W : Wd} {Φ : Bn} {T : Tab} {nm : List Str} {n : Nat}
theorem B3 {α : Type} {M : Model} {A : Around} {E : Value → Shared → Prop} {s : Shared} {m : Sem α} {k : Value → Sem Unit} {Q : α → Shared → Prop} (h : ∀ E, wpN M A m Q E s) : wpN M A (m.onRaise k) Q E s := Kx (h _)
theorem Qm {sc : Scope} {env : Env} (ev : AG W env sc) {A : Around} (ok : Okc A n) {E : Value → Shared → Prop} {s : Shared} {K : Bool → Sto → Prop} {Q : Bool → Shared → Prop} (hs : ∀ e ∈ ifs, DT W Φ T nm n e) (h : Cg T nm n sc ifs = some cnd)
  (R : StR W σ s) (F : FrR σ s.heap env nm ρ) (hp : wpC Φ cnd ρ σ K) (hQ : OM W σ s K Q) :
  wpN W.M A (forIn ifs true fun c r => if r = true then (do let ok ← isTrue c env (eval c env); pure (ForInStep.yield ok)) else pure (ForInStep.yield r)) Q E s := by
 cases ifs with
 | nil =>
  cases BU h
  exact A5 (hQ true s σ hp R (AP.refl _ _))
 | cons c r =>
  (refine Cy (AV (env := env) h) fun a b ω ha hb zq1 => ?_; subst zq1)
  cases r with
  | nil =>
   cases BU hb
   rw [List.forIn_cons, if_pos rfl]
   refine A0 (A0 (hs c (List.mem_cons_self ..) sc A E s σ env ρ _ _ a ha ev ok R F hp fun t s₁ σ₁ k₁ R₁ S₁ => A5 ?_))
   exact A5 (hQ t s₁ σ₁ k₁ R₁ S₁)
  | cons c' r' =>
   (refine Cy (AV (env := env) hb) fun a' b' ω ha' hb' zq1 => ?_; subst zq1)
   exact False.elim hp
theorem Oz {σ₁ : Sto} {cenv : Env} {scope : Scope} {d : D} {items : List D} {x : Str} {ix : Nat} {elt iter : Expr} {px pos : Pos} {sc0 : Scope} {e' : PE} {K : List D → Prop} {A : Around} {R : Result → Shared → Prop}
  (G : Glo W Φ T nm n) (ok : Okc A n) (C : Rr W σ₁ f p cenv it) (ev : AG W cenv scope) (hx : nm[ix]? = some x) (hl : cenv.kindOf x = some .local) (hi : Ah σ₁ d = some items)
  (he : AE W Φ T nm n elt) (hs : ∀ e ∈ ifs, DT W Φ T nm n e) (h1 : stE T nm n scope elt = some e') (h2 : Cg T nm n scope ifs = some cnd)
  (fin : ∀ vs k ds s, K ds → ds.length ≤ 1000000 → StR W (σ₁.upd p (.hid (BZ vs k))) s → Rps (σ₁.upd p (.hid (BZ vs k))) s.heap vs ds → AI σ₁ f (σ₁.upd p (.hid (BZ vs k))) s.heap → ¬ foot (σ₁.upd p (.hid (BZ vs k))) cenv.locals → (∃ m, s.heap.Ns cenv.locals m) → R (.ok .next) s) :
  ∀ (rest : List D) (i : Nat) (ds : List D) (r : Option D) (s : Shared), items.drop i = rest → T9 W σ₁ f p cenv nm (ρ.set ix r) it v d i ds s →
   Jt (fun v K' => ∀ p o, σ₁ p = none → wpC Φ cnd (ρ.set ix (some v)) (σ₁.upd p (.hid o)) fun b σ₃ => σ₃ = σ₁.upd p (.hid o) ∧
    (b = true → wpE Φ e' (ρ.set ix (some v)) σ₃ fun r σ₄ => σ₄ = σ₃ ∧ K' (some r)) ∧ (b = false → K' none)) rest ds K →
   Bk W.M A (.compLoop (.ListComp elt [⟨.Name x px, iter, ifs, 0⟩] sc0 pos) 0 (.ref it) (.ref p) cenv) R s := by
 intro rest
 induction rest with
 | nil =>
  intro i ds r s hd ⟨vs, k, R₁, F₁, rs, st, rv, ia⟩ hp
  refine At (fun ω ω => rfl) ?_
  show wpN _ _ ((compTurn (.ListComp elt [⟨.Name x px, iter, ifs, 0⟩] sc0 pos) 0 (.ref it) (.ref p) cenv).onRaise _) _ _ s
  refine B3 fun E => ?_
  rw [compTurn_list]
  have nf : ¬ foot (σ₁.upd p (.hid (BZ vs k))) it := fun g => (Lv C.np g).elim C.ni C.ip
  have hn : items[i]? = none := by
   rw [List.getElem?_eq_none_iff]
   have := List.drop_eq_nil_iff.mp hd; exact this
  refine A0 (Aa (A0 (A3 (Jr ok.hh R₁ rv (GQ C.np hi) (by rw [F4 C.np]; exact ia) hn fun s' S hg ho => ?_))))
  refine A5 ?_
  refine GK (ia.obj) fun o vs' T' ho' hdat ω => ?_
  have F₂ := F₁.iter S ho' hdat
  refine Af (F₂.ns) fun m hm ω => ?_
  exact fin vs k ds s' hp.2 hp.1 (R₁.side S nf C.hi hg ho) (rs.stepQ (S.q _)) (st.side S.same C.fi) F₂.priv ⟨m, hm⟩
 | cons y rest ih =>
  intro i ds r s hd ⟨vs, k, R₁, F₁, rs, st, rv, ia⟩ hp
  refine At (fun ω ω => rfl) ?_
  show wpN _ _ ((compTurn (.ListComp elt [⟨.Name x px, iter, ifs, 0⟩] sc0 pos) 0 (.ref it) (.ref p) cenv).onRaise _) _ _ s
  refine B3 fun E => ?_
  rw [compTurn_list]
  have nf : ¬ foot (σ₁.upd p (.hid (BZ vs k))) it := fun g => (Lv C.np g).elim C.ni C.ip
  have hn : items[i]? = some y := by
   have : (items.drop i)[0]? = some y := by rw [hd]; rfl
   simpa using this
  have hd' : items.drop (i + 1) = rest := by
   have : (items.drop i).drop 1 = rest := by rw [hd]; rfl
   simpa using this
  refine A0 (Aa (A0 (A3 (HT R₁ rv (GQ C.np hi) (by rw [F4 C.np]; exact ia) hn fun u s₂ S hg ho ia₂ ru => ?_))))
  refine GK (ia.obj) fun o vs' T' ho' hdat ω => ?_
  have F₂ := F₁.iter S ho' hdat
  have R₂ := R₁.side S nf C.hi hg ho
  rw [F4 C.np] at ia₂
  refine A0 (A5 ?_)
  refine A0 (A3 (PyProof.Rows.assign_Name (Gv R₂ F₂ G.nmok hx (ru.stepQ (S.q _)) ev.kind (.inl hl) ev.hid fun s₃ R₃ F₃ st₃ => ?_)))
  have m₃ := st₃ _ _ (Ca _ cenv s₂.heap) (FJ.at x)
  have st₃ := st₃ σ₁ f (st.side S.same C.fi) ⟨fun ω => C.fl, fun a h => by rw [hl] at h; cases h⟩
  rw [List.set_set] at F₃
  have q₃ := F₂.mask_q m₃
  refine oa2 (F₂.mask_it m₃ ia₂ nf) fun ia₃ nf₃ => ?_
  have rs₃ := (rs.stepQ (S.q _)).stepQ q₃
  have rv₃ := (rv.stepQ (S.q _)).stepQ q₃
  dsimp only
  refine A0 (Qm ev ok hs h2 R₃ F₃ (hp.2 p (BZ vs k) C.np) fun t s₄ σ₄ k₄ R₄ S₄ => ?_)
  obtain ⟨rfl, k₄, k₄'⟩ := k₄
  cases t with
  | false =>
   refine A5 ⟨rfl, ?_⟩
   have hp' := k₄' rfl
   dsimp only at hp'
   rw [show ds ++ (none : Option D).toList = ds from List.append_nil ds] at hp'
   refine By (ia₃.obj) fun o' ω T' e' ω => ?_
   exact ih (i + 1) ds (some y) s₄ hd' ⟨vs, k, R₄, F₃.step S₄, rs₃.step S₄, st₃.trans S₄, rv₃.step S₄, ia₃.keep fun o e => S₄.keep it o nf₃ e⟩ hp'
  | true =>
   rw [if_pos rfl]
   refine A0 (A0 (he scope A _ s₄ _ cenv _ _ _ e' h1 ev ok R₄ (F₃.step S₄) (k₄ rfl) fun z s₅ d₅ σ₅ k₅ R₅ S₅ r₅ => ?_))
   (refine oa2 k₅ fun zq1 hp' => ?_; clear k₅; subst zq1)
   have hz : (ds ++ [d₅]).length ≤ 1000000 := by
    cases rest with
    | nil => exact hp'.1
    | cons _ _ => exact hp'.1
   have S45 := S₄.trans S₅
   have rs₅ := rs₃.step S45
   have hlen := rs₅.length
   rw [List.length_append] at hz
   have ho5 : s₅.heap.get? p = some (BZ vs k) := (R₅.objs p _ (Sto.upd_self ..))
   refine A0 (A3 (N2 ho5 (by simp at hz; lia) ?_))
   have e5 := Heap.get?_update_self (Obj.mapSeq (·.push z)) ho5 rfl
   have upd2 : ∀ o, (σ₁.upd p (.hid (BZ vs k))).upd p o = σ₁.upd p o := fun o => by
    funext a; unfold Sto.upd; split <;> rfl
   obtain ⟨k', hk'⟩ : ∃ k', Obj.mapSeq (·.push z) (BZ vs k) = BZ (vs ++ [z]) k' := ⟨_, by simp only [Obj.mapSeq, List.push_toArray]; rfl⟩
   have pt := R₅.put (s' := { s₅ with heap := s₅.heap.update p (Obj.mapSeq (·.push z)) }) (o' := .hid (BZ (vs ++ [z]) k')) (Sto.upd_self ..) (Heap.SameBut.update ..) rfl (by intro C da fs e; cases e)
    (fun S => by rw [← hk']; exact e5)
   rw [upd2] at pt
   refine A5 (A5 ⟨rfl, ?_⟩)
   refine ih (i + 1) (ds ++ [d₅]) (some y) _ hd' ⟨vs ++ [z], k', pt.1, (F₃.step S45).step pt.2, (rs₅.append (.cons _ _ _ _ r₅ .nil)).step pt.2, (st₃.trans S45).trans pt.2, (rv₃.step S45).step pt.2, ia₃.keep fun o e => ?_⟩ hp'
   have nf₅ : ¬ foot (σ₁.upd p (.hid (BZ vs k))) it := nf₃
   exact (S45.trans pt.2).keep it o nf₅ e
end
end
section
variable {it : Addr} {A : Around} {b : Bool} {K : B9} {elt iter : Expr} {h h' : Heap} {gens : List Comprehension} {ifs : List Expr} {i ix : Nat} {e' it' p : PE} {cnd : PEs} {pos px : Pos} {ρ : Rho} {sc scope : Scope} {s : Shared} {σ : Sto} {x : Str} {v : Value} {E Q : Value → Shared → Prop}
section
variable {W : Wd} {Φ : Bn} {T : Tab} {nm : List Str} {n : Nat}
theorem Qe {M : Model} {Q : Setting → Shared → Prop} (h : Q ⟨M.prog, M.w.params⟩ s) : wpN M A ask Q E s := fun ω ω ω ω => h
theorem O9 {d : D} (ia : DP s.heap it v d b i) (h : Q (.ref it) s) : wpAny W.M A (pyIter (.ref it)) Q E s := by
 cases d with
 | lst _ => exact ia.2.elim fun a x => wpAny_pyIter_listiter x.2 h
 | tup _ => exact ia.2.elim fun a x => wpAny_pyIter_tupleiter x.2 h
 | rng _ _ _ => exact ia.2.elim fun a x => wpAny_pyIter_rangeiter x.2 h
 | bytes _ => exact ia.2.elim fun a x => KBw.pyIter_self x.2 h
 | ref _ => cases b with
  | true => exact BA.pyIter_self ia.2 h
  | false => exact wpAny_pyIter_listiter ia.2 h
 | _ => exact False.elim ia
theorem Hc {elt target iter : Expr} {acc : Value} {env : Env} {R : Result → Shared → Prop} {d : D} (ia : DP s.heap it v d b i)
  (h0 : Bk W.M A (.compLoop (.ListComp elt [⟨target, iter, ifs, 0⟩] scope pos) 0 (.ref it) acc env) R s) :
  Bk W.M A (.compStart (.ListComp elt [⟨target, iter, ifs, 0⟩] scope pos) 0 (.ref it) acc env) R s := by
 refine At (fun ω ω => rfl) ?_
 show wpN _ _ ((compStart (.ListComp elt [⟨target, iter, ifs, 0⟩] scope pos) 0 (.ref it) acc env).onRaise (fun x => do noteFrame x env; standAt theWindowsPlace)) _ _ s
 refine B3 fun E => ?_
 unfold compStart
 show wpN _ _ (ask >>= _) _ _ s
 refine A0 (Qe ?_)
 split
 ·exact A5 ⟨rfl, h0⟩
 ·refine A0 (Df ?_)
  show wpN _ _ (standAt iter.pos >>= _) _ _ s
  exact A0 (Aa (A0 (A3 (O9 ia (A5 ⟨rfl, h0⟩)))))
theorem S1 {env : Env} {L : Addr} (G : Glo W Φ T nm n) (C : BJ env sc scope x) (ev : AG W env sc) (hx : nm[ix]? = some x) (F : FrR σ h env nm ρ) (g : AM h h') (nf : ¬ foot σ L) (hn : h'.Ns L (fun ω => none)) :
  FrR σ h' (BQ env scope L) nm (ρ.set ix none) := by
 have F' := F.step g.step
 have get : ∀ (i : Nat) d, (ρ.set ix none)[i]? = some (some d) → i ≠ ix ∧ ρ[i]? = some (some d) := fun i d e => by
  rw [List.getElem?_set] at e
  by_cases q : ix = i
  ·rw [if_pos q] at e; split at e <;> cases e
  ·rw [if_neg q] at e; exact ⟨Ne.symm q, e⟩
 refine ⟨nf, ⟨_, hn, fun i y d a b z => ?_⟩, fun y a q => F'.cell y a (C.cells ev q), fun y z a p q => F'.inj y z a (C.cells ev p) (C.cells ev q), fun i y d a b z => ?_⟩
 ·rw [C.kindOf] at z
  refine Af (Option.map_eq_some_iff.mp z) fun k hk hk' => ?_
  have hm := AN hk
  exfalso
  have yx : y = x ∨ y = ".0" := by
   refine oo3 (C.names _ hm) (fun zq1 => oa2 zq1 fun h1 ω => ?_) (fun h1 => ?_) (fun zq2 => oa2 zq2 fun ω h1 => ?_)
   ·dsimp only at h1; subst h1
    refine oa3 (C.free (L := L) ev hk rfl) fun ω h2 ω => ?_
    simp [ED, ev.kind, h2] at hk'
   ·dsimp only at h1; subst h1; simp [ED] at hk'
   ·exact h1
  rcases yx with rfl | rfl
  ·exact (get i d b).1 (Mu G.nmok a hx)
  ·exact G.nd0 (List.mem_of_getElem? a)
 ·rw [C.kindOf] at z
  cases hk : scope.names.lookup y with
  | none => rw [hk] at z; refine Or.elim z (fun z => ?_) (fun z => ?_) <;> cases z
  | some k =>
   rw [hk] at z
   have hm := AN hk
   refine oo3 (C.names _ hm) (fun zq1 => oa2 zq1 fun h1 ω => ?_) (fun h1 => ?_) (fun zq2 => oa2 zq2 fun h1 ω => ?_)
   ·obtain ⟨_, h2, a', h3, h4, _⟩ := C.free (L := L) ev hk h1
    refine D0 (F'.cval i y d a (get i d b).2 (.inl h2)) fun b' v h5 h6 h7 => ?_
    rw [h3] at h5; cases h5
    exact ⟨a', v, h4, h6, h7⟩
   ·dsimp only at h1; subst h1; refine Or.elim z (fun z => ?_) (fun z => ?_) <;> simp [ED] at z
   ·dsimp only at h1; subst h1; refine Or.elim z (fun z => ?_) (fun z => ?_) <;> simp [ED] at z
theorem PU {env : Env} {R : Value → Addr → Result → Shared → Prop}
  (G : Glo W Φ T nm n) (ok : Okc A n) (C : BJ env sc scope x) (ev : AG W env sc) (hx : nm[ix]? = some x) (hit : AE W Φ T nm n iter) (he : AE W Φ T nm n elt) (hs : ∀ e ∈ ifs, DT W Φ T nm n e)
  (h0 : stE T nm n sc iter = some it') (h1 : stE T nm n scope elt = some e') (h2 : Cg T nm n scope ifs = some cnd) (R₀ : StR W σ s) (F₀ : FrR σ s.heap env nm ρ) (hp : wpE Φ (.comp e' ix it' cnd) ρ σ K)
  (fin : ∀ L p l s' σ₁, K (.lst l) σ₁ → StR W σ₁ s' → AP σ s.heap σ₁ s'.heap → Rp σ₁ s'.heap (.ref p) (.lst l) → W.h₀.get? L = none → (∀ o, ¬ foot σ L → s.heap.get? L ≠ some o) → ¬ foot σ₁ L → (∃ m, s'.heap.Ns L m) → (∀ y a, env.cells.lookup y = some a → a ≠ L) → env.locals ≠ L → R (.ref p) L (.ok .next) s') :
  wpN W.M A (eval iter env) (fun v s₁ => wpN W.M A (pyIter v) (fun itv s₂ => wpN W.M A (newList []) (fun acc s₃ =>
   wpN W.M A (newFunctionEnv scope env.globals (B8 env scope.names []) [] env.qual none .none (some env)) (fun cenv s₄ =>
    Bk W.M A (.compStart (.ListComp elt [⟨.Name x px, iter, ifs, 0⟩] scope pos) 0 itv acc { cenv with scope := { scope with names := scope.names.map fun p => (p.1, ED env p.1 p.2) } }) (R acc cenv.locals) s₄) E s₃) E s₂) E s₁) E s := by
 refine hit sc A E s σ env ρ _ _ it' h0 ev ok R₀ F₀ hp fun v s₁ d σ₁ k₁ R₁ S₁ r₁ => ?_
 (refine Af k₁ fun items hi hc => ?_; clear k₁)
 have F₁ := F₀.step S₁
 refine A3 (FF R₁ r₁ hi fun s₂ g₂ hg₂ ho₂ ia₂ => A3 ?_)
 have R₂ := R₁.grow g₂ hg₂ ho₂
 generalize hit' : s₁.heap.objs.size = it at ia₂ ⊢
 have ni : s₁.heap.get? it = none := hit' ▸ AF _
 have nfi : ¬ foot σ₁ it := Ar R₁ ni
 refine By (ia₂.obj) fun oi ω ω hoi ω => ?_
 refine wpAny_newList ?_ (by rw [sizeLine_eq]; exact Nat.zero_le _)
 generalize hp' : s₂.heap.objs.size = p
 have np : s₂.heap.get? p = none := hp' ▸ AF _
 have g₃ : AM s₂.heap (s₂.heap.push (BZ [] 0)) := AM.push _ _
 have σp : σ₁ p = none := by
  cases e : σ₁ p with
  | none => rfl
  | some o => refine oe1 (R₂.keyAt e) fun y hy => ?_; rw [np] at hy; cases hy
 have ip : it ≠ p := fun q => by rw [q, np] at hoi; cases hoi
 have ad := R₂.add (s' := { s₂ with heap := s₂.heap.push (BZ [] 0) }) g₃ (a := p) (o := .hid (BZ [] 0)) np np (by show p ≠ _; rw [← hp']; exact R₂.big) (by intro C da fs e; cases e)
  (fun ω => by show (s₂.heap.push (BZ [] 0)).get? p = _; rw [← hp']; exact Heap.get?_push_size _ rfl)
 (refine oa2 ad fun R₃ S₃ => ?_; clear ad)
 have hcell : ∀ y ∈ scope.names, y.2 ≠ .cell := fun y hy e => by
  refine oo3 (C.names y hy) (fun zq1 => oa2 zq1 fun h ω => ?_) (fun h => ?_) (fun zq2 => oa2 zq2 fun h ω => ?_) <;> rw [e] at h <;> cases h
 refine A3 (wpAny_newFunctionEnv hcell (by intro y hy; cases hy) (fun h' hns hsb => ?_) C.kind)
 generalize hL : ({ s₂ with heap := s₂.heap.push (BZ [] 0) } : Shared).heap.objs.size = L at hns hsb ⊢
 have nL : (s₂.heap.push (BZ [] 0)).get? L = none := hL ▸ AF _
 have g₄ : AM (s₂.heap.push (BZ [] 0)) h' := fun b o e => by
  refine (hsb.2 b fun q => ?_).trans (Heap.get?_push_of_some _ e)
  rw [q, nL] at e; cases e
 have R₄ := R₃.grow (s' := { s₂ with heap := h', toks := s₂.toks + ([] : List (Str × Value)).length }) g₄ rfl rfl
 have nfL := Ar R₃ nL
 have hn0 : h'.Ns L (fun ω => none) := by simpa using hns
 have F₂ : FrR σ₁ s₂.heap env nm ρ := F₁.step g₂.step
 have F₃ := F₂.step S₃
 have F₄ := S1 G C ev hx F₃ g₄ nfL hn0
 have h0L : W.h₀.get? L = none := by
  cases e : W.h₀.get? L with
  | none => rfl
  | some o => have := R₃.stays L o e; rw [nL] at this; cases this
 have h0i : W.h₀.get? it = none := by
  cases e : W.h₀.get? it with
  | none => rfl
  | some o => have := R₁.stays it o e; rw [ni] at this; cases this
 have f1 : ∀ a o, s₁.heap.get? a = some o → (s₂.heap.push (BZ [] 0)).get? a = some o := fun a o e => g₃ a o (g₂ a o e)
 have nL1 : s₁.heap.get? L = none := by
  cases e : s₁.heap.get? L with
  | none => rfl
  | some o => rw [f1 L o e] at nL; cases nL
 have np1 : s₁.heap.get? p = none := by
  cases e : s₁.heap.get? p with
  | none => rfl
  | some o => rw [g₂ p o e] at np; cases np
 have S14 : AP σ₁ s₁.heap (σ₁.upd p (.hid (BZ [] 0))) h' := (g₂.step.trans S₃).trans g₄.step
 have ia₄ : DP h' it v d (As σ₁ d) 0 := ia₂.keep fun o e => g₄ it o (g₃ it o e)
 refine Hc (W := W) (s := { s₂ with heap := h', toks := _ }) ia₄ ?_
 refine Oz (f := s₁.heap.get?) (K := fun l => K (.lst l) σ₁) G ok (⟨σp, np1, ni, nL1, h0i, nfi, ip⟩ : Rr W σ₁ s₁.heap.get? p (BQ env scope L) it) (C.envOk ev h0L) hx ?_ hi he hs h1 h2 ?_ items 0 [] none _ rfl ⟨[], 0, R₄, F₄, .nil, S14, (r₁.step g₂.step).step (S₃.trans g₄.step), ia₄⟩ hc
 ·rw [C.kindOf, C.loc]; rfl
 ·intro vs k ds s' kk hz R' rs st nf' hm
  refine oa3 (R'.unhide σp) fun Ru hpu nfp => ?_
  have sub : ∀ x, foot σ₁ x → foot (σ₁.upd p (.hid (BZ vs k))) x := fun x f => Ei σp f
  refine fin L p ds s' σ₁ kk Ru (S₁.trans ⟨st.keep, fun x f => .inl f⟩) (.lst p vs ds nfp ⟨_, hpu, rfl, k, rfl⟩ (rs.fewer sub)) h0L ?_ (fun f => nf' (sub _ f)) hm (fun y a q e => ?_) (fun e => ?_)
  ·intro o hf e
   rw [S₁.keep L o hf e] at nL1; cases nL1
  ·obtain ⟨_, v, o, e1, _⟩ := F₁.cell y a q
   rw [e, nL1] at e1; cases e1
  ·refine By (F₁.locals) fun o es m e1 ω => ?_
   rw [e, nL1] at e1; cases e1
theorem AI.side' {σ₀ σ : Sto} {f : Addr → Option Obj} (S : AI σ₀ f σ h) {x : Addr} (sb : Heap.ExtBut x h h') (hx : ∀ o, ¬ foot σ₀ x → f x ≠ some o) : AI σ₀ f σ h' :=
 ⟨fun b o n e => sb b _ (fun q => hx o (q ▸ n) (q ▸ e)) (S.keep b o n e), S.fresh⟩
theorem Ns.sideOf {x : Addr} {m : Str → Option Value} (hn : h.Ns x m) (sb : Heap.SameBut x h h') : Gu x h h' := by
 (refine GK hn fun o es ep e d ω => ?_; clear hn)
 exact ⟨sb.extBut, o, e, .inl ⟨es, ep, d⟩⟩
theorem QP {as : Int} {P : Int → Prop} (hc : (as == 0 && scope.kind == .function && scope.names.lookup x == some .local && (scope.names.all fun y => (y.2 == .free && (sc.names.lookup y.1 == some .cell)) || y.2 == .globalImplicit || (y.2 == .local && (y.1 == x || y.1 == ".0")))) = true)
  (c : (∀ env, BJ env sc scope x) → P 0) : P as := by
 simp only [Bool.and_eq_true, beq_iff_eq, List.all_eq_true, Bool.or_eq_true] at hc
 (refine oa2 hc fun zq1 c4 => oa2 zq1 fun zq2 c3 => oa2 zq2 fun zq3 c2 => ?_; clear hc; subst zq3)
 exact c fun ω => ⟨c2, c3, fun y hy => (c4 y hy).elim (fun h => h.elim .inl fun h => .inr (.inl h)) fun h => .inr (.inr h)⟩
@[elab_as_elim] theorem Hw {P : List Comprehension → PE → Prop} (h : stE T nm n sc (.ListComp elt gens scope pos) = some p)
  (c : ∀ x px it ifs it' e' cnd ix, (∀ env, BJ env sc scope x) → nm[ix]? = some x → stE T nm n sc it = some it' → stE T nm n scope elt = some e' → Cg T nm n scope ifs = some cnd → P [⟨.Name x px, it, ifs, 0⟩] (.comp e' ix it' cnd)) : P gens p := by
 cases gens with
 | nil => exact nos h
 | cons g rest =>
  obtain ⟨t, it, ifs, as⟩ := g
  cases rest with
  | cons _ _ => exact nos h
  | nil =>
   cases t with
   | Name x px =>
    exact CU h fun hc h => AW h fun it' q1 h => AW h fun e' q2 h => AW h fun cnd q3 h => AY h fun ix q4 => QP (P := fun as => P [⟨.Name x px, it, ifs, as⟩] (.comp e' ix it' cnd)) hc fun C => c x px it ifs it' e' cnd ix C (BP q4) q1 q2 q3
   | _ => exact nos h
theorem Jp {e : Expr} {env : Env} (h : stE T nm n sc e = some p) (x : Value) : foldedSetIterable e env x = pure x := by
 unfold foldedSetIterable
 cases e <;> first | rfl | exact nos h
def Rn (W : Wd) (A : Around) (use : Option (Value → Sem Unit)) (Q : Value → Shared → Prop) (L : Addr) (acc : Value) (s' : Shared) : Prop := match use with
 | none => ∀ h', Heap.SameBut L s'.heap h' → Q acc { s' with heap := h' }
 | some u => ∀ E, wpN W.M A (u acc) (fun ω s'' => ∃ m, s''.heap.Ns L m ∧ ∀ h', Heap.SameBut L s''.heap h' → Q .none { s'' with heap := h' }) E s'
theorem Js {env : Env} {use : Option (Value → Sem Unit)}
  (G : Glo W Φ T nm n) (ok : Okc A n) (C : BJ env sc scope x) (ev : AG W env sc) (hx : nm[ix]? = some x) (hit : AE W Φ T nm n iter) (he : AE W Φ T nm n elt) (hs : ∀ e ∈ ifs, DT W Φ T nm n e)
  (h0 : stE T nm n sc iter = some it') (h1 : stE T nm n scope elt = some e') (h2 : Cg T nm n scope ifs = some cnd) (R₀ : StR W σ s) (F₀ : FrR σ s.heap env nm ρ) (hp : wpE Φ (.comp e' ix it' cnd) ρ σ K)
  (fin : ∀ L p l s' σ₁, K (.lst l) σ₁ → StR W σ₁ s' → AP σ s.heap σ₁ s'.heap → Rp σ₁ s'.heap (.ref p) (.lst l) → W.h₀.get? L = none → (∀ o, ¬ foot σ L → s.heap.get? L ≠ some o) → ¬ foot σ₁ L → (∃ m, s'.heap.Ns L m) → (∀ y a, env.cells.lookup y = some a → a ≠ L) → env.locals ≠ L →
   Rn W A use Q L (.ref p) s') :
  wpN W.M A (comprehension (.ListComp elt [⟨.Name x px, iter, ifs, 0⟩] scope pos) scope env (firstIterPos [⟨.Name x px, iter, ifs, 0⟩] pos) (newList []) false (eval iter env) use) Q E s := by
 have run := PU (E := E) (R := fun acc L r s' => match r with
   | .ok _ => (∃ m, s'.heap.Ns L m) ∧ Rn W A use Q L acc s'
   | .error _ => False) (px := px) (pos := pos) G ok C ev hx hit he hs h0 h1 h2 R₀ F₀ hp
  (fun L p l s' σ₁ a1 a2 a3 a4 a5 a6 a7 a8 a9 a10 => ⟨a8, fin L p l s' σ₁ a1 a2 a3 a4 a5 a6 a7 a8 a9 a10⟩)
 unfold comprehension
 rw [J5 (C.has ev)]
 refine A0 (AJ run (fun v s₁ h₁ => A0 (Aa ?_)) fun ω ω e => e)
 show wpN W.M A (foldedSetIterable iter env v >>= _) Q E s₁
 rw [Jp h0]
 refine A0 (A5 (A0 (A9 (AJ h₁ (fun itv s₂ h₂ => ?_) fun ω ω e => e))))
 have cont : ∀ (b : Prop) [Decidable b] (k : PUnit → Sem Value), wpN W.M A (k ()) Q E s₂ → wpN W.M A (if b then (standAt (Expr.ListComp elt [⟨.Name x px, iter, ifs, 0⟩] scope pos).pos >>= k) else k ()) Q E s₂ := fun b ω k h => by
  split
  ·exact A0 (Aa h)
  ·exact h
 refine cont _ _ (A0 (AJ h₂ (fun acc s₃ h₃ => A0 (A5 (A0 (AJ h₃ (fun cenv s₄ h₄ => ?_) fun ω ω e => e)))) fun ω ω e => e))
 dsimp only
 have hmp : ∀ (g : Str × NameKind → Str × NameKind), (∀ p, g p = (p.1, ED env p.1 p.2)) → scope.names.map g = scope.names.map fun p => (p.1, ED env p.1 p.2) := fun g h => List.map_congr_left fun p ω => h p
 rw [hmp _ (by rintro ⟨n, k⟩; unfold ED; dsimp only; split <;> rfl)]
 have hv : ∀ y ∈ (scope.names.filter fun x => (x.2 == .local || x.2 == .cell) && x.1 != (".0" : Str)), y.1 = x ∧ y.2 = .local := fun y hy => by
  refine oa2 (List.mem_filter.mp hy) fun h1 h2 => ?_
  simp only [Bool.and_eq_true, Bool.or_eq_true, beq_iff_eq, bne_iff_ne] at h2
  refine oo3 (C.names y h1) (fun zq1 => oa2 zq1 fun h ω => ?_) (fun h => ?_) (fun zq2 => oa2 zq2 fun h h' => ?_)
  ·rw [h] at h2; refine Or.elim (h2.1) (fun h => ?_) (fun h => ?_) <;> cases h
  ·rw [h] at h2; refine Or.elim (h2.1) (fun h => ?_) (fun h => ?_) <;> cases h
  ·exact ⟨h'.elim id fun q => absurd q h2.2, h⟩
 have hkx : ∀ c : Env, c.scope = { scope with names := scope.names.map fun p => (p.1, ED env p.1 p.2) } → ∀ y : Str × NameKind, y.1 = x ∧ y.2 = .local → y.2 = .local → c.kindOf y.1 = some .local := fun c hc y hy ω => by
  show c.scope.names.lookup y.1 = _
  rw [hc, hy.1]
  show (scope.names.map fun p => (p.1, ED env p.1 p.2)).lookup x = _
  rw [HX, C.loc]; rfl
 refine A9 (A0 (Ky (A9 (N9 (DD h₄ fun r s' hr => ?_)))))
 cases r with
 | error e => exact hr.elim
 | ok f =>
  (refine oa2 hr fun zq1 hu => oe1 zq1 fun m hm => ?_; clear hr)
  cases use with
  | none =>
   refine A0 (A9 (A3 (wpAny_comp_letGo (cenv := { cenv with scope := { scope with names := scope.names.map fun p => (p.1, ED env p.1 p.2) } }) C.kind _ s' m (fun y hy => hkx _ rfl y (hv y (List.mem_reverse.mp hy))) hm fun h' m' ω hs' => A5 (hu h' hs'))))
  | some u =>
   refine A0 (Df (A0 (A9 (AJ (hu _) (fun ω s'' hr' => ?_) fun ω ω h' => h'))))
   refine Af hr' fun m hn hr' => ?_
   refine A0 (A3 (wpAny_comp_letGo (cenv := { cenv with scope := { scope with names := scope.names.map fun p => (p.1, ED env p.1 p.2) } }) C.kind _ s'' m (fun y hy => hkx _ rfl y (hv y ?_)) hn fun h' m' ω hs' => A5 (hr' h' hs')))
   refine Or.elim (List.mem_append.mp hy) (fun h1 => ?_) (fun h1 => ?_)
   ·exact List.mem_reverse.mp (List.mem_of_mem_drop h1)
   ·exact List.mem_reverse.mp (List.mem_of_mem_take h1)
theorem JJ (G : Glo W Φ T nm n) (pos : Pos) (he : AE W Φ T nm n elt) (hg : ∀ t it ifs as, gens = [⟨t, it, ifs, as⟩] → AE W Φ T nm n it ∧ ∀ e ∈ ifs, DT W Φ T nm n e) : AE W Φ T nm n (.ListComp elt gens scope pos) := by
 intro sc A E s σ env ρ K Q p h ev ok R F hp hQ
 revert hg hp
 refine Hw h fun x px it ifs it' e' cnd ix C hx h0 h1 h2 hg hp => ?_
 have gg := hg _ _ _ _ rfl
 rw [eval_ListComp]
 refine Js (use := none) G ok (C env) ev hx gg.1 he gg.2 h0 h1 h2 R F hp fun L p l s' σ₁ a1 a2 a3 a4 a5 a6 a7 a8 a9 a10 => ?_
 intro h' sb
 (refine oe1 a8 fun m hm => ?_; clear a8)
 have S := Ns.sideOf hm sb
 exact hQ _ _ _ σ₁ a1 (a2.side (s' := { s' with heap := h' }) S a7 a5) (a3.side' sb.extBut a6) (a4.stepQ (S.q _))
def N6 (W : Wd) (Φ : Bn) (T : Tab) (nm : List Str) (n : Nat) (e : Expr) : Prop := AE W Φ T nm n e ∧ DT W Φ T nm n e
end
end
section
variable {e : Expr} {pos : Pos} {σ : Sto}
section
variable {W : Wd} {Φ : Bn} {T : Tab} {nm : List Str} {n : Nat}
@[elab_as_elim] theorem FP {i : Int} {P : Expr → Prop} (h : Ik e = some i) (c : ∀ k p, P (.Constant (.int i) k p)) : P e := by
 cases e with
 | Constant c' k p => cases c' with
  | int j => cases h; exact c k p
  | _ => exact nos h
 | _ => exact nos h
@[elab_as_elim] theorem EQ {k : Option Expr} {ks : List (Option Expr)} {vs : List Expr} {kvs : List (Int × Int)} {P : Option Expr → List Expr → List (Int × Int) → Prop} (h : Dk (k :: ks) vs = some kvs)
  (c : ∀ i ka pa j kb pb vs' l, Dk ks vs' = some l → P (some (.Constant (.int i) ka pa)) (.Constant (.int j) kb pb :: vs') ((i, j) :: l)) : P k vs kvs := by
 cases vs with
 | nil => exact nos h
 | cons v vs =>
  cases k with
  | none => exact nos h
  | some k => exact AW h fun i hi h => AW h fun j hj h => AY h fun l hl => FP (P := fun k => P (some k) (v :: vs) ((i, j) :: l)) hi fun ka pa => FP (P := fun v => P (some (.Constant (.int i) ka pa)) (v :: vs) ((i, j) :: l)) hj fun kb pb => c i ka pa j kb pb vs l hl
theorem I5 (ks : List (Option Expr)) : ∀ (vs : List Expr) (kvs : List (Int × Int)), Dk ks vs = some kvs → ks.all (·.isSome) = true ∧ ks.length = vs.length ∧ ks.length = kvs.length := by
 induction ks with
 | nil => intro vs kvs h; cases vs with
  | nil => cases h; exact ⟨rfl, rfl, rfl⟩
  | cons _ _ => exact nos h
 | cons k ks ih => intro vs kvs h; exact EQ h fun i ka pa j kb pb vs' l hl => ⟨(ih vs' l hl).1, congrArg (·+ 1) (ih vs' l hl).2.1, congrArg (·+ 1) (ih vs' l hl).2.2⟩
theorem Mr {env : Env} {A : Around} {E : Value → Shared → Prop} (ks : List (Option Expr)) : ∀ (vs : List Expr) (kvs : List (Int × Int)) (s : Shared) (Q : List (Value × Value) → Shared → Prop), Dk ks vs = some kvs →
  (∀ us tk kv', Carries (intKind W.prog W.w) us kv' → kv'.map (·.1) = kvs.map (·.1) → (∀ h, Kvs σ h kv' (kvs.map fun x => (x.1, .int x.2))) → Q us { s with toks := tk }) → wpAny W.M A (evalPairs (pairTrees ks vs env pos)) Q E s := by
 induction ks with
 | nil => intro vs kvs s Q h hQ; cases vs with
  | nil => cases h; exact pairTrees_nil_walk (hQ [] s.toks [] trivial rfl fun ω => .nil)
  | cons _ _ => exact nos h
 | cons k ks ih =>
   intro vs kvs s Q h
   refine EQ h fun i ka pa j kb pb vs' l hl hQ => ?_
   refine pairTrees_cons_walk ?_
   rw [arm_eval_Constant]
   refine wpAny_mkInt ?_
   rw [arm_eval_Constant]
   refine wpAny_mkInt ?_
   refine ih vs' l _ _ hl fun us tk kv' c e k => ?_
   exact hQ _ tk ((i, .int j (s.toks + 1)) :: kv') ⟨intKind_is _ _ _ _, rfl, c⟩ (congrArg (i :: ·) e) fun h => .cons _ _ _ _ _ (.int _ _) (k h)
theorem DO.newO {s : Shared} {K : B9} {Q : Value → Shared → Prop} (hQ : DO W σ s K Q) (R : StR W σ s) {s' : Shared} {o : Cv} (g : AM s.heap s'.heap) (hf : o.foot s.heap.objs.size = s.heap.objs.size) (hi : ∀ C da fs, o ≠ .inst C da fs)
  (ho : Hg W (σ.upd s.heap.objs.size o) s'.heap s.heap.objs.size o) (hk : ∀ p, σ p = none → K (.ref p) (σ.upd p o)) (e1 : s'.gens = s.gens := by rfl) (e2 : s'.os = s.os := by rfl) : Q (.ref s.heap.objs.size) s' := by
 have a0 := AF s.heap
 have σp : σ s.heap.objs.size = none := by
  cases e : σ s.heap.objs.size with
  | none => rfl
  | some o => refine oe1 (R.keyAt e) fun y hy => ?_; rw [a0] at hy; cases hy
 have ad := R.add g (o := o) a0 (hf.symm ▸ a0) (hf.symm ▸ R.big) (fun C da fs e => (hi C da fs e).elim) (fun ω => ho) e1 e2
 exact hQ _ _ _ _ (hk _ σp) ad.1 ad.2 (.ref _)
theorem P1 {ks : List (Option Expr)} {vs : List Expr} (pos : Pos) : AE W Φ T nm n (.Dict ks vs pos) := by
 intro sc A E s σ env ρ K Q p h ev ok R F hp hQ
 cases ks with
 | nil => cases vs with
  | cons _ _ => exact nos h
  | nil =>
   revert hp; refine CM h fun hp => ?_
   exact A3 (wpAny_Dict_empty (hQ.newO R (o := .edict) (AM.push _ _) rfl (by intro C da fs e; cases e) (Heap.get?_push_size _ rfl) hp))
 | cons k ks =>
  revert hp; refine AY h fun kvs hk hp => ?_
  have sh := I5 _ _ _ hk
  refine A3 (wpAny_Dict_walk (knd := intKind W.prog W.w) sh.1 sh.2.1 (fun e => by cases e) (by rw [sh.2.2]; exact Nat.le_trans hp.1.2.2 (by decide)) ?_)
  refine Mr (W := W) (σ := σ.upd s.heap.objs.size (.idict (kvs.map fun x => (x.1, .int x.2)))) _ _ _ _ _ hk fun us tk kv' c e k => ?_
  refine ⟨kv', c, MJ (Heap.get?_push_size _ rfl), fun h' hd sb => ?_⟩
  have g : AM s.heap h' := fun b o e => (sb.2 b (fun q => by rw [q, AF] at e; cases e)).trans (Heap.get?_push_of_some _ e)
  exact hQ.newO R (s' := { s with heap := h', toks := tk + us.length }) (o := .idict (kvs.map fun x => (x.1, .int x.2))) g rfl (by intro C da fs e; cases e)
   ⟨kv', by rw [← merged_nil_of_nodup kv' (by rw [e]; exact hp.1.2.1)]; exact hd, k h'⟩ hp.2
theorem Nd (h : ∀ sc, stE T nm n sc e = none) : N6 W Φ T nm n e :=
 ⟨fun sc A E s σ env ρ K Q p h' => nos ((h sc).symm.trans h'), fun sc A E s σ env ρ K Q p h' => nos ((h sc).symm.trans h')⟩
theorem MR {sc : Scope} {f : Expr} {as : List Expr} {ks : List Keyword} {p : PE} (h : stE T nm n sc (.Call f as ks pos) = some p) : Mo p = true := by
 have h' := h
 revert h'
 refine Io h (fun o x ap h => AW h fun es ω h => CU h fun ω h => ?_) fun x ps h => AW h fun es ω h => CU h fun ω h => ?_
 ·cases es with
  | nil => exact nos h
  | cons k r => cases r with
   | nil => exact AY h fun ω ω => rfl
   | cons _ _ => exact nos h
 ·cases hb : Jy x with
  | some b => rw [hb] at h; exact CM h rfl
  | none => rw [hb] at h; exact AW h fun ω ω h => CU h fun ω h => CM h rfl
theorem pl (he : ∀ env Bj, isTrue e env Bj = (do let v ← Bj; standAt e.pos; holding [v] (truthy v))) (hpl : ∀ sc p, stE T nm n sc e = some p → Mo p = true) (hE : AE W Φ T nm n e) : N6 W Φ T nm n e := ⟨hE, M1 he hpl hE⟩
theorem CK {α : Type} [SizeOf α] {a : α} {l : List α} (h : a ∈ l) : sizeOf a < sizeOf l := List.sizeOf_lt_of_mem h
theorem lt2 {a b c : Nat} (h : a < b) (g : b < c) : a < c := Nat.lt_trans h g
theorem OX (G : Glo W Φ T nm n) (e : Expr) (ih : ∀ e' : Expr, sizeOf e' < sizeOf e → N6 W Φ T nm n e') : N6 W Φ T nm n e := by
 cases e with
 | Constant c k pos => exact pl (fun ω ω => rfl) (fun sc p h => AY h fun ω ω => rfl) (JK c k pos)
 | Name x pos => exact pl (fun ω ω => rfl) (fun sc p h => HR h (fun ω h => AY h fun ω ω => rfl) fun ω h => CU h fun ω h => AY h fun ω ω => rfl) (OZ G x pos)
 | BinOp l op r pos => exact pl (fun ω ω => rfl) (fun sc p h => CU h fun ω h => AW h fun ω ω h => AY h fun ω ω => rfl) (NS op pos (ih l (by rw [Expr.BinOp.sizeOf_spec]; lia)).1 (ih r (by rw [Expr.BinOp.sizeOf_spec]; lia)).1)
 | UnaryOp op x pos =>
  have hx := ih x (by rw [Expr.UnaryOp.sizeOf_spec]; lia)
  cases op with
  | Not => exact ⟨Qo pos hx.1, P3 pos hx.2⟩
  | USub => exact pl (fun ω ω => rfl) (fun sc p h => AY h fun ω ω => rfl) (OY pos hx.1)
  | _ => exact Nd fun sc => rfl
 | BoolOp op es pos =>
  have hs : ∀ e ∈ es, N6 W Φ T nm n e := fun e he => ih e (lt2 (CK he) (by rw [Expr.BoolOp.sizeOf_spec]; lia))
  exact ⟨LY op pos fun e he => (hs e he).1, KL op pos fun e he => (hs e he).2⟩
 | Compare l ops cs pos =>
  have hl := ih l (by rw [Expr.Compare.sizeOf_spec]; lia)
  have hs : ∀ e ∈ cs, AE W Φ T nm n e := fun e he => (ih e (lt2 (CK he) (by rw [Expr.Compare.sizeOf_spec]; lia))).1
  exact ⟨KI ops pos hl.1 hs, JL ops pos hl.1 hs⟩
 | IfExp c a b pos =>
  have hc := (ih c (by rw [Expr.IfExp.sizeOf_spec]; lia)).2
  have ha := ih a (by rw [Expr.IfExp.sizeOf_spec]; lia)
  have hb := ih b (by rw [Expr.IfExp.sizeOf_spec]; lia)
  exact ⟨NP pos hc ha.1 hb.1, M2 pos hc ha.2 hb.2⟩
 | Tuple es k pos => exact pl (fun ω ω => rfl) (fun sc p h => AY h fun ω ω => rfl) (NO k pos (CL fun e he => (ih e (lt2 (CK he) (by rw [Expr.Tuple.sizeOf_spec]; lia))).1))
 | List es pos => exact pl (fun ω ω => rfl) (fun sc p h => AY h fun ω ω => rfl) (P0 pos (CL fun e he => (ih e (lt2 (CK he) (by rw [Expr.List.sizeOf_spec]; lia))).1))
 | Attribute o x pos => exact pl (fun ω ω => rfl) (fun sc p h => CU h fun ω h => AY h fun ω ω => rfl) (IJ G x pos (ih o (by rw [Expr.Attribute.sizeOf_spec]; lia)).1)
 | Subscript o i pos =>
  have hi : sizeOf i < sizeOf (Expr.Subscript o i pos) := by rw [Expr.Subscript.sizeOf_spec]; lia
  exact pl (fun ω ω => rfl) (fun sc p h => AW h fun ω ω h => HR h (fun ω h => AY h fun ω ω => rfl) fun ω h => AY h fun ω ω => rfl)
   (II pos (ih o (by rw [Expr.Subscript.sizeOf_spec]; lia)).1 (ih i hi).1 fun lo hi' st p e => ⟨fun a ha => (ih a (lt2 (by rw [e, ha, Expr.Slice.sizeOf_spec, Option.some.sizeOf_spec]; lia) hi)).1, fun a ha => (ih a (lt2 (by rw [e, ha, Expr.Slice.sizeOf_spec, Option.some.sizeOf_spec]; lia) hi)).1⟩)
 | Call f as ks pos => exact pl (fun ω ω => by cases f <;> rfl) (fun sc p h => MR h) (P2 G (ks := ks) pos (f := f) (as := as) (fun o x ap e => (ih o (by rw [e, Expr.Call.sizeOf_spec, Expr.Attribute.sizeOf_spec]; lia)).1) fun e he => (ih e (lt2 (CK he) (by rw [Expr.Call.sizeOf_spec]; lia))).1)
 | Dict ks vs pos => exact pl (fun ω ω => rfl) (fun sc p h => by
   cases ks with
   | nil => cases vs with
    | nil => exact CM h rfl
    | cons _ _ => exact nos h
   | cons _ _ => exact AY h fun ω ω => rfl) (P1 pos)
 | ListComp e g sc pos =>
  have hg : sizeOf g < sizeOf (Expr.ListComp e g sc pos) := by rw [Expr.ListComp.sizeOf_spec]; lia
  exact pl (fun ω ω => rfl) (fun sc p h => Hw h fun ω ω ω ω ω ω ω ω ω ω ω ω ω => rfl) (JJ G pos (ih e (by rw [Expr.ListComp.sizeOf_spec]; lia)).1 (gens := g) fun t it ifs as eq =>
   ⟨(ih it (lt2 (by rw [eq, List.cons.sizeOf_spec, Comprehension.mk.sizeOf_spec]; lia) hg)).1, fun c hc => (ih c (lt2 (CK hc) (lt2 (by rw [eq, List.cons.sizeOf_spec, Comprehension.mk.sizeOf_spec]; lia) hg))).2⟩)
 | _ => exact Nd fun sc => rfl
theorem snd (G : Glo W Φ T nm n) (e : Expr) : N6 W Φ T nm n e :=
 (measure fun e : Expr => sizeOf e).wf.induction (C := fun e => N6 W Φ T nm n e) e (OX G)
end
end
section
variable {e : Expr} {es : List Expr} {K : Rho → Sto → Prop} {sc : Scope} {σ : Sto} {x : Str} {v : Value}
theorem IW : typeLookup (.type "bytes") (dunderI "add") = pure none := by rw [typeLookup_type, builtinLookup_eq_fast]; kernel_rfl
section
variable {prog : Program} {w : World} {A : Around} {E : Value → Shared → Prop} {s : Shared} {b c : Array UInt8} {t u : Tok} {Q : Value → Shared → Prop}
open PySem.W.KBy in
theorem MC (hsz : b.size + c.size ≤ 16777216) (h : ∀ t' k, Q (.bytes (b ++ c) t') { s with toks := k }) : wpAny (model prog w) A (inplaceOp .Add (.bytes b t) (.bytes c u)) Q E s := by
 refine iconcat_gives (typeIs_bytes s b t) (typeIs_bytes s c u) IW noFill_bytes_add seq_bytes_add FB.slot_bytes_add FB.entry_bytes_add (FB.args_bytes_add_2 _ _) (gives_bytes_add (tooLong_not hsz)) ?_
 by_cases hb : b.isEmpty = true
 ·rw [if_pos hb]
  have e : b = #[] := Array.isEmpty_iff.1 hb
  have h' := h u s.toks
  rw [e, Array.empty_append] at h'
  exact h'
 ·rw [if_neg hb]
  by_cases hc : c.isEmpty = true
  ·rw [if_pos hc]
   have e : c = #[] := Array.isEmpty_iff.1 hc
   have h' := h t s.toks
   rw [e, Array.append_empty] at h'
   exact h'
  ·rw [if_neg hc]
   exact ⟨by rw [Array.size_append, sizeLine_eq]; exact hsz, h s.toks (s.toks + 1)⟩
end
abbrev ON (W : Wd) (σ : Sto) (s : Shared) (env : Env) (nm : List Str) (K : Rho → Sto → Prop) (Q : Unit → Shared → Prop) : Prop :=
 ∀ s' σ' ρ', K ρ' σ' → StR W σ' s' → FrR σ' s'.heap env nm ρ' → AI σ (mask env s.heap) σ' s'.heap → Q () s'
theorem ON.after {W : Wd} {σ σ₁ : Sto} {s s₁ : Shared} {env : Env} {nm : List Str} {Q : Unit → Shared → Prop} (h : ON W σ s env nm K Q) (S : AI σ (mask env s.heap) σ₁ s₁.heap) : ON W σ₁ s₁ env nm K Q :=
 fun s' σ' ρ' k R F S' => h s' σ' ρ' k R F (BO S S')
section
variable (W : Wd) (Φ : Bn) (T : Tab) (nm : List Str) (n : Nat)
def Ev (e : Expr) : Prop := ∀ (sc : Scope) (A : Around) (E : Value → Shared → Prop) (s : Shared) (σ : Sto) (env : Env) (ρ : Rho) (v : Value) (d : D) (K : Rho → Sto → Prop) (Q : Unit → Shared → Prop) (p : PT),
 stT T nm n sc e = some p → AG W env sc → Okc A n → StR W σ s → FrR σ s.heap env nm ρ → Rp σ s.heap v d → Ap Φ p d ρ σ K → ON W σ s env nm K Q → wpN W.M A (assign e env v) Q E s
end
section
variable {W : Wd} {Φ : Bn} {T : Tab} {nm : List Str} {n : Nat}
theorem Oo (h1 : I4 sc x = true) (h2 : (sc.names.lookup x != some .free) = true) : sc.names.lookup x = some .local ∨ sc.names.lookup x = some .cell := by
 unfold I4 at h1
 revert h1 h2
 generalize sc.names.lookup x = o
 intro h1 h2
 cases o with
 | none => exact absurd h1 Bool.false_ne_true
 | some k => cases k <;> first | exact .inl rfl | exact .inr rfl | exact absurd h1 Bool.false_ne_true | exact absurd h2 Bool.false_ne_true
theorem Hv {pos : Pos} {p : PT} {env : Env} (ev : AG W env sc) (h : stT T nm n sc (.Name x pos) = some p) :
  ∃ i, CO nm x = some i ∧ p = .loc i ∧ (env.kindOf x = some .local ∨ (env.kindOf x = some .cell ∧ ∃ a, env.cells.lookup x = some a)) :=
 CU h fun hc h => AY h fun i hi => ⟨i, hi, rfl, (Oo (Bool.and_eq_true_iff.mp hc).1 (Bool.and_eq_true_iff.mp hc).2).elim (fun e => .inl (ev.lcl x e)) fun e => .inr (ev.cel x e)⟩
theorem CT (G : Glo W Φ T nm n) {A : Around} {E : Value → Shared → Prop} {s : Shared} {env : Env} {ρ : Rho} {d : D} {Q : Unit → Shared → Prop} {i : Nat} (ev : AG W env sc) (R : StR W σ s) (F : FrR σ s.heap env nm ρ) (r : Rp σ s.heap v d)
  (hi : nm[i]? = some x) (hl : env.kindOf x = some .local ∨ (env.kindOf x = some .cell ∧ ∃ a, env.cells.lookup x = some a)) (hk : K (ρ.set i (some d)) σ) (hQ : ON W σ s env nm K Q) : wpN W.M A (bindName env x v) Q E s := by
 refine A3 (wpAny_bindName (Gv R F G.nmok hi r ev.kind hl ev.hid fun s' R' F' st => ?_))
 exact hQ s' σ _ hk R' F' (st _ _ (Ca _ _ _) (FJ.at x))
theorem M0 (G : Glo W Φ T nm n) (x : Str) (pos : Pos) : Ev W Φ T nm n (.Name x pos) := by
 intro sc A E s σ env ρ v d K Q p h ev ok R F r hp hQ
 (refine C8 (Hv ev h) fun i hi zq1 hl => ?_; subst zq1)
 show wpN W.M A (standAt pos >>= fun ω => bindName env x v) Q E s
 exact A0 (Aa (CT G ev R F r (BP hi) hl hp.2 hQ))
theorem H4 (G : Glo W Φ T nm n) (o : Expr) (x : Str) (pos : Pos) : Ev W Φ T nm n (.Attribute o x pos) := by
 intro sc A E s σ env ρ v d K Q p h ev ok R F r hp hQ
 revert hp; refine CU h fun hx h => AY h fun o' ho hp => ?_
 rw [arm_assign_Attribute]
 refine A0 (A9 ((snd G o).1 sc A E s σ env ρ _ _ o' ho ev ok R F hp fun ov s₁ d₁ σ₁ k₁ R₁ S₁ r₁ => ?_))
 (refine CZ k₁ fun a C da fs zq1 hk => ?_; clear k₁; subst zq1)
 refine r₁.eR ?_
 refine A0 (Aa (A0 (A9 (A3 (IK (G.attrs x hx) R₁ hk.1 hk.2.1 (r.step S₁) fun s₂ R₂ S₂ => ?_)))))
 exact DU (hQ s₂ _ ρ hk.2.2 R₂ ((F.step S₁).step S₂) ((S₁.trans S₂).mask env))
theorem H3 (G : Glo W Φ T nm n) (o i : Expr) (pos : Pos) : Ev W Φ T nm n (.Subscript o i pos) := by
 intro sc A E s σ env ρ v d K Q p h ev ok R F r hp hQ
 revert hp; refine AW h fun o' ho h => HR h (fun hs h => ?_) fun hs h => ?_
 ·refine AY h fun bc hb hp => ?_
  revert hb
  refine GR hs fun lo hi' st ps hb => ?_
  rw [arm_assign_Subscript]
  refine A0 (A9 ((snd G o).1 sc A E s σ env ρ _ _ o' ho ev ok R F hp fun ov s₁ d₁ σ₁ k₁ R₁ S₁ r₁ => ?_))
  refine A0 (A9 (Jc (fun e ω => (snd G e).1) (fun e ω => (snd G e).1) hb ev ok R₁ (F.step S₁) k₁ fun sl s₂ σ₂ vl vu x y k₂ R₂ S₂ hs r₂ r₃ hst => ?_))
  refine A0 (Aa (A0 (A9 (KT R₂ (r₁.step S₂) r₂ r₃ ((r.step S₁).step S₂) hs k₂ fun s₃ σ₃ hk R₃ S₃ => ?_))))
  exact DU (hQ s₃ _ ρ hk R₃ (((F.step S₁).step S₂).step S₃) (((S₁.trans S₂).trans S₃).mask env))
 ·refine AY h fun b hb hp => ?_
  rw [arm_assign_Subscript]
  refine A0 (A9 ((snd G o).1 sc A E s σ env ρ _ _ o' ho ev ok R F hp fun ov s₁ d₁ σ₁ k₁ R₁ S₁ r₁ => ?_))
  refine A0 (A9 ((snd G i).1 sc A E s₁ σ₁ env ρ _ _ b hb ev ok R₁ (F.step S₁) k₁ fun iv s₂ d₂ σ₂ k₂ R₂ S₂ r₂ => ?_))
  refine A0 (Aa (A0 (A9 (A3 (M6 ok.c65 R₂ (r₁.step S₂) r₂ ((r.step S₁).step S₂) k₂ fun s₃ σ₃ hk R₃ S₃ => ?_)))))
  exact DU (hQ s₃ _ ρ hk R₃ (((F.step S₁).step S₂).step S₃) (((S₁.trans S₂).trans S₃).mask env))
theorem Ex {r : List Expr} {p : PTs} (h : JH T nm n sc (e :: r) = some p) : ∃ a b, stT T nm n sc e = some a ∧ JH T nm n sc r = some b ∧ p = .cons a b ∧ (∀ env, assignEach (e :: r) env = (false, assign e env) :: assignEach r env) :=
 AW h fun a ha h => (Option.map_eq_some_iff.mp h).elim fun b hb => ⟨a, b, ha, hb.1, hb.2.symm, fun env => by cases e <;> first | rfl | exact nos ha⟩
theorem Id {env : Env} : ∀ {p : PTs}, JH T nm n sc es = some p → (assignEach es env).findIdx? (·.1) = none ∧ (assignEach es env).length = es.length ∧ (assignEach es env).map (·.2) = es.map fun e => assign e env := by
 induction es with
 | nil => exact fun ω => ⟨rfl, rfl, rfl⟩
 | cons e r ih =>
  intro p h
  refine Cy (Ex h) fun a b ω hb ω eq => ?_
  have ih := ih hb
  rw [eq]
  exact ⟨by rw [List.findIdx?_cons, ih.1]; rfl, congrArg (·+ 1) ih.2.1, congrArg (assign e env :: ·) ih.2.2⟩
theorem Iu {env : Env} (ev : AG W env sc) {A : Around} (ok : Okc A n) {E : Value → Shared → Prop} {Q : Unit → Shared → Prop} (es : List Expr) : ∀ (p : PTs) (vs : List Value) (ds : List D) (s : Shared) (σ : Sto) (ρ : Rho) (K : Rho → Sto → Prop),
  (∀ e ∈ es, Ev W Φ T nm n e) → JH T nm n sc es = some p → StR W σ s → FrR σ s.heap env nm ρ → Rps σ s.heap vs ds → NA Φ p ds ρ σ K → ON W σ s env nm K Q → wpN W.M A (assignInOrder (es.map fun e => assign e env) vs) Q E s := by
 induction es with
 | nil =>
  intro p vs ds s σ ρ K _ h R F r hp hQ
  revert hp; refine CM h fun hp => ?_
  have : assignInOrder ([] : List (Value → Sem Unit)) vs = pure () := by unfold assignInOrder; rfl
  show wpN W.M A (assignInOrder [] vs) Q E s
  rw [this]
  exact A5 (hQ s σ ρ hp.2 R F (Ca _ _ _))
 | cons e es ih =>
  intro p vs ds s σ ρ K hs h R F r hp hQ
  (refine Cy (Ex h) fun a b ha hb zq1 ω => ?_; subst zq1)
  obtain ⟨d, ds', rfl, hp⟩ := hp
  refine r.eC fun v vs' r1 r2 => ?_
  show wpN W.M A (holding vs' (assign e env v) >>= fun ω => assignInOrder (es.map fun e => assign e env) vs') Q E s
  refine A0 (A9 (hs e (List.mem_cons_self ..) sc A E s σ env ρ v d _ _ a ha ev ok R F r1 hp fun s₁ σ₁ ρ₁ k₁ R₁ F₁ S₁ => ?_))
  exact ih b vs' ds' s₁ σ₁ ρ₁ K (fun e he => hs e (List.mem_cons_of_mem _ he)) hb R₁ F₁ (r2.stepQ (F.mask_q S₁)) k₁ (hQ.after S₁)
theorem Px : ∀ {p : PTs}, JH T nm n sc es = some p → Py p = es.length := by
 induction es with
 | nil => exact fun h => CM h rfl
 | cons e r ih => intro p h; (refine Cy (Ex h) fun a b ω hb zq1 ω => ?_; subst zq1); exact congrArg (·+ 1) (ih hb)
theorem Lw {σ : Sto} {h h' : Heap} (e : Heap.ExtBut h.objs.size h h') : AM h h' := fun b o q => e b o (fun z => by rw [z, AF] at q; cases q) q
theorem Fs {A : Around} (hh : A.handled = none) {E : Value → Shared → Prop} {s : Shared} {ds : List D} {Q : List Value → Shared → Prop} (r : Rp σ s.heap v (.tup ds)) (m : Nat) (hm : ds.length = m)
  (hQ : ∀ s' vs, AM s.heap s'.heap → s'.gens = s.gens → s'.os = s.os → Rps σ s'.heap vs ds → Q vs s') : wpAny W.M A (unpackItems v m none) Q E s := by
 refine r.eT fun a vs n ht rs => ?_
 have hl := rs.length
 rw [show m = (⟨vs⟩ : Array Value).size from by rw [← hm]; exact hl.symm]
 refine wpAny_unpackItems_tuple hh ht fun h' eb => ?_
 have g := Lw (σ := σ) eb
 exact hQ _ vs g rfl rfl (rs.step (AM.step g))
theorem KJ (k : Nat) (pos : Pos) (hs : ∀ e ∈ es, Ev W Φ T nm n e) : Ev W Φ T nm n (.Tuple es k pos) := by
 intro sc A E s σ env ρ v d K Q p h ev ok R F r hp hQ
 revert hp; refine AY h fun ts ht hp => ?_
 obtain ⟨ds, rfl, hlen, hp⟩ := hp
 rw [arm_assign_Tuple]
 refine oa3 (Id (env := env) ht) fun e1 e2 e3 => ?_
 refine A0 (Aa ?_)
 unfold unpack
 rw [e1, e2, e3]
 refine A0 (A9 (A3 (Fs ok.hh r es.length (by rw [hlen, Px ht]) fun s' vs g hg ho rs => ?_)))
 exact Iu ev ok es ts vs ds s' σ ρ K hs ht (R.grow g hg ho) (F.step g.step) rs hp (hQ.after (AP.mask g.step env))
theorem NT (h : ∀ sc, stT T nm n sc e = none) : Ev W Φ T nm n e :=
 fun sc A E s σ env ρ v d K Q p h' => nos ((h sc).symm.trans h')
theorem LZ (G : Glo W Φ T nm n) (e : Expr) (ih : ∀ e' : Expr, sizeOf e' < sizeOf e → Ev W Φ T nm n e') : Ev W Φ T nm n e := by
 cases e with
 | Name x pos => exact M0 G x pos
 | Attribute o x pos => exact H4 G o x pos
 | Subscript o i pos => exact H3 G o i pos
 | Tuple es k pos => exact KJ k pos fun e he => ih e (lt2 (CK he) (by rw [Expr.Tuple.sizeOf_spec]; lia))
 | _ => exact NT fun sc => rfl
theorem R5 (G : Glo W Φ T nm n) (e : Expr) : Ev W Φ T nm n e :=
 (measure fun e : Expr => sizeOf e).wf.induction (C := fun e => Ev W Φ T nm n e) e (LZ G)
end
end
section
variable {A : Around} {Q : Flow → Shared → Prop} {s : Shared} {E : Value → Shared → Prop}
inductive LJ (σ : Sto) (h : Heap) : Flow → Fl → Prop
 | next : LJ σ h .next .next
 | brk : LJ σ h .brk .brk
 | ret (v : Value) (d : D) : Rp σ h v d → LJ σ h (.ret v) (.ret d)
abbrev Ix (W : Wd) (σ : Sto) (s : Shared) (env : Env) (nm : List Str) (K : KS) (Q : Flow → Shared → Prop) : Prop :=
 ∀ f fl s' σ' ρ', K fl ρ' σ' → StR W σ' s' → FrR σ' s'.heap env nm ρ' → AI σ (mask env s.heap) σ' s'.heap → LJ σ' s'.heap f fl → Q f s'
theorem Ix.after {W : Wd} {σ σ₁ : Sto} {s s₁ : Shared} {env : Env} {nm : List Str} {K : KS} (h : Ix W σ s env nm K Q) (S : AI σ (mask env s.heap) σ₁ s₁.heap) : Ix W σ₁ s₁ env nm K Q :=
 fun f fl s' σ' ρ' k R F S' r => h f fl s' σ' ρ' k R F (BO S S') r
section
variable (W : Wd) (Φ : Bn) (T : Tab) (nm : List Str) (n : Nat)
def Fm (st : Stmt) : Prop := ∀ (sc : Scope) (A : Around) (E : Value → Shared → Prop) (s : Shared) (σ : Sto) (env : Env) (ρ : Rho) (K : KS) (Q : Flow → Shared → Prop) (p : PS),
 stS T nm n sc st = some p → AG W env sc → Okc A n → StR W σ s → FrR σ s.heap env nm ρ → wpS Φ p ρ σ K → Ix W σ s env nm K Q → wpN W.M A (exec st env) Q E s
def Iw (st : List Stmt) : Prop := ∀ (sc : Scope) (A : Around) (E : Value → Shared → Prop) (s : Shared) (σ : Sto) (env : Env) (ρ : Rho) (K : KS) (Q : Flow → Shared → Prop) (p : PSs),
 GZ T nm n sc st = some p → AG W env sc → Okc A n → StR W σ s → FrR σ s.heap env nm ρ → Ak Φ p ρ σ K → Ix W σ s env nm K Q → wpN W.M A (execs st env) Q E s
end
section
variable {W : Wd} {Φ : Bn} {T : Tab} {nm : List Str} {n : Nat}
theorem E5 {st : List Stmt} : (∀ e ∈ st, Fm W Φ T nm n e) → Iw W Φ T nm n st := by
 induction st with
 | nil =>
  intro _ sc A E s σ env ρ K Q p h ev ok R F hp hQ
  revert hp; refine CM h fun hp => ?_
  rw [arm_execs_nil]
  exact A5 (hQ _ _ s σ ρ hp R F (Ca _ _ _) .next)
 | cons e r ih =>
  intro hs sc A E s σ env ρ K Q p h ev ok R F hp hQ
  refine AW h fun a ha h => ?_
  revert hp; refine AY h fun b hb hp => ?_
  rw [arm_execs_cons]
  refine A0 (hs e (List.mem_cons_self ..) sc A E s σ env ρ _ _ a ha ev ok R F hp fun f fl s₁ σ₁ ρ₁ k₁ R₁ F₁ S₁ r₁ => ?_)
  cases r₁ with
  | next => exact ih (fun e he => hs e (List.mem_cons_of_mem _ he)) sc A E s₁ σ₁ env ρ₁ _ _ b hb ev ok R₁ F₁ k₁ (hQ.after S₁)
  | brk => exact A5 (hQ _ _ s₁ σ₁ ρ₁ k₁ R₁ F₁ S₁ .brk)
  | ret v d r => exact A5 (hQ _ _ s₁ σ₁ ρ₁ k₁ R₁ F₁ S₁ (.ret v d r))
theorem KO (G : Glo W Φ T nm n) (e : Option Expr) (pos : Pos) : Fm W Φ T nm n (.Return e pos) := by
 intro sc A E s σ env ρ K Q p h ev ok R F hp hQ
 rw [arm_exec_Return]
 cases e with
 | none =>
  revert hp; refine CM h fun hp => ?_
  refine A0 (Aa ?_)
  exact A5 (hQ _ _ s σ ρ hp R F (Ca _ _ _) (.ret _ _ .none))
 | some e =>
  revert hp; refine AY h fun a ha hp => ?_
  refine A0 (Aa ?_)
  refine A0 ((snd G e).1 sc A E s σ env ρ _ _ a ha ev ok R F hp fun v s₁ d σ₁ k₁ R₁ S₁ r₁ => ?_)
  exact A5 (hQ _ _ s₁ σ₁ ρ k₁ R₁ (F.step S₁) (S₁.mask env) (.ret _ _ r₁))
theorem M5 (pos : Pos) : Fm W Φ T nm n (.Break pos) := by
 intro sc A E s σ env ρ K Q p h ev ok R F hp hQ
 revert hp; refine CM h fun hp => ?_
 rw [arm_exec_Break]
 exact A0 (Aa (A5 (hQ _ _ s σ ρ hp R F (Ca _ _ _) .brk)))
theorem M4 (a b : Option Expr) (pos : Pos) : Fm W Φ T nm n (.Raise a b pos) := by
 intro sc A E s σ env ρ K Q p h ev ok R F hp hQ
 revert hp; refine CM h fun hp => ?_
 exact False.elim hp
theorem Qp (G : Glo W Φ T nm n) (c : Expr) (a b : List Stmt) (pos : Pos) (ha : Iw W Φ T nm n a) (hb : Iw W Φ T nm n b) : Fm W Φ T nm n (.If c a b pos) := by
 intro sc A E s σ env ρ K Q p h ev ok R F hp hQ
 refine Af (Option.bind_eq_some_iff.mp h) fun c' ec h => ?_
 refine Af (Option.bind_eq_some_iff.mp h) fun a' ea h => ?_
 (refine Af (Option.map_eq_some_iff.mp h) fun b' eb zq1 => ?_; subst zq1)
 rw [arm_exec_If]
 refine A0 (Aa (A0 ((snd G c).2 sc A E s σ env ρ _ _ c' ec ev ok R F hp fun t s₁ σ₁ k₁ R₁ S₁ => ?_)))
 cases t
 ·exact hb sc A E s₁ σ₁ env ρ _ _ b' eb ev ok R₁ (F.step S₁) (k₁.2 rfl) (hQ.after (S₁.mask env))
 ·exact ha sc A E s₁ σ₁ env ρ _ _ a' ea ev ok R₁ (F.step S₁) (k₁.1 rfl) (hQ.after (S₁.mask env))
theorem GG {c : Code} {env : Env} 
  (h : Bk W.M A c (fun r s' => match r with | .ok f => Q f s' | .error _ => False) s) : wpN W.M A (runOwn c env) Q E s := by
 unfold runOwn
 refine B3 fun E => N9 (h := none) (DD h fun r s' hr => ?_)
 cases r with
 | ok f => exact hr
 | error e => exact hr.elim
theorem M3 (G : Glo W Φ T nm n) (c : Expr) (a : List Stmt) (pos : Pos) (ha : Iw W Φ T nm n a) : Fm W Φ T nm n (.While c a [] pos) := by
 intro sc A E s σ env ρ K Q p h ev ok R F hp hQ
 refine Af (Option.bind_eq_some_iff.mp h) fun c' ec h => ?_
 (refine Af (Option.map_eq_some_iff.mp h) fun a' ea zq1 => ?_; subst zq1)
 (refine Bu hp fun I m h0 step => ?_; clear hp)
 rw [arm_exec_While]
 refine A0 (Aa (GG ?_))
 revert s σ ρ
 induction m using Nat.strongRecOn with
 | ind m ih =>
  intro s σ ρ R F hQ h0
  refine At (fun ω ω => rfl) ?_
  show wpN _ _ ((whileTurn c a [] env).onRaise _) _ _ s
  refine B3 fun E => ?_
  unfold whileTurn
  refine A0 ((snd G c).2 sc A _ s σ env ρ _ _ c' ec ev ok R F (step m ρ σ h0) fun t s₁ σ₁ k₁ R₁ S₁ => ?_)
  cases t
  ·exact A0 (A5 (A5 (hQ _ _ s₁ σ₁ ρ (k₁.2 rfl) R₁ (F.step S₁) (S₁.mask env) .next)))
  ·refine A0 (ha sc A _ s₁ σ₁ env ρ _ _ a' ea ev ok R₁ (F.step S₁) (k₁.1 rfl) fun f fl s₂ σ₂ ρ₂ k₂ R₂ F₂ S₂ r₂ => ?_)
   have S := BO (S₁.mask env) S₂
   cases r₂ with
   | next =>
    (refine Af k₂ fun m' hm hI => ?_; clear k₂)
    exact A5 ⟨rfl, ih m' hm s₂ σ₂ ρ₂ R₂ F₂ (hQ.after S) hI⟩
   | brk => exact A5 (hQ _ _ s₂ σ₂ ρ₂ k₂ R₂ F₂ S .next)
   | ret v d r => exact A5 (hQ _ _ s₂ σ₂ ρ₂ k₂ R₂ F₂ S (.ret v d r))
theorem Ld {t : Expr} {it : Addr} {v u : Value} {d : D} {b : Bool} {i : Nat} {Q : Unit → Shared → Prop} (ia : DP s.heap it v d b i) (h : Q () s) : wpAny W.M A (letOwnedTupleGo t (.ref it) u) Q E s := by
 have go : ∀ (T' : String) (o : Obj) (vs : Array Value) (hq : Unit), s.heap.get? it = some o → o.cls = .type T' → o.data = .fields vs → (["enumerate", "zip", "dict_itemiterator", "dict_reverseitemiterator", "odict_iterator", "itertools.zip_longest", "itertools.pairwise"].contains T') = false →
   ∀ a : Addr, wpAny W.M A (do
    let o ← load it
    match o.cls, o.data with
    | .type n, .fields vs =>
     if ["enumerate", "zip", "dict_itemiterator", "dict_reverseitemiterator", "odict_iterator", "itertools.zip_longest", "itertools.pairwise"].contains n && vs[0]? == some (rawInt a) then
      rule "for.unpacks-the-owned-tuple"
      updateField it 0 .none
    | _, _ => pure () : Sem Unit) Q E s := fun T' o vs ω e hc hd hn a => by
  refine wpAny_bind (wpAny_load e ?_)
  rw [hc, hd]
  dsimp only
  rw [hn]
  exact wpAny_pure h
 have obj : ∃ o vs T', s.heap.get? it = some o ∧ o.cls = .type T' ∧ o.data = .fields vs ∧ (["enumerate", "zip", "dict_itemiterator", "dict_reverseitemiterator", "odict_iterator", "itertools.zip_longest", "itertools.pairwise"].contains T') = false := by
  have go : ∀ {T' : String} {vs : Array Value}, (["enumerate", "zip", "dict_itemiterator", "dict_reverseitemiterator", "odict_iterator", "itertools.zip_longest", "itertools.pairwise"].contains T') = false → (∃ o, s.heap.get? it = some o ∧ o.cls = .type T' ∧ o.data = .fields vs) → _ :=
   fun {T' vs} n x => x.elim fun o x => (⟨o, vs, T', x.1, x.2.1, x.2.2, n⟩ : ∃ o vs T', s.heap.get? it = some o ∧ o.cls = .type T' ∧ o.data = .fields vs ∧ (["enumerate", "zip", "dict_itemiterator", "dict_reverseitemiterator", "odict_iterator", "itertools.zip_longest", "itertools.pairwise"].contains T') = false)
  cases d with
  | lst _ => exact ia.2.elim fun a x => go (by decide) x.2
  | tup _ => exact ia.2.elim fun a x => go (by decide) x.2
  | rng _ _ _ => exact ia.2.elim fun a x => ⟨_, _, _, x.2, rfl, rfl, by decide⟩
  | bytes _ => exact ia.2.elim fun a x => go (by decide) x.2
  | ref _ => cases b with
   | true => exact go (by decide) ia.2
   | false => exact go (by decide) ia.2
  | _ => exact False.elim ia
 (refine Nk obj fun o vs T' e c hd hn => ?_; clear obj)
 unfold letOwnedTupleGo
 cases t <;> first | exact wpAny_pure h | (cases u <;> first | exact wpAny_pure h | exact go T' o vs () e c hd hn _)
theorem Hd {env : Env} {R : Result → Shared → Prop} (h : R (.ok .next) s) : Bk W.M A (.block [] env) R s := by
 refine At (fun ω ω => rfl) ?_
 show wpN _ _ (((execs [] env).onRaise _) >>= fun f => pure (PySem.Fin.done f)) _ _ s
 refine A0 (B3 fun E => ?_)
 rw [arm_execs_nil]
 exact A5 (A5 h)
theorem PL (G : Glo W Φ T nm n) {t it : Expr} {a : List Stmt} (ha : Iw W Φ T nm n a) {sc : Scope} {env : Env} (ev : AG W env sc) (ok : Okc A n) {t' : PT} {a' : PSs} (ht : stT T nm n sc t = some t') (ea : GZ T nm n sc a = some a')
  {d : D} {items : List D} {b : Bool} {v : Value} {ia : Addr} (h0 : W.h₀.get? ia = none) {σ₀ : Sto} {f₀ : Addr → Option Obj} (hf : Fn env f₀) (fi : f₀ ia = none) {K : KS} {Q : Flow → Shared → Prop}
  (hQ : ∀ f fl s' σ' ρ', K fl ρ' σ' → StR W σ' s' → FrR σ' s'.heap env nm ρ' → AI σ₀ f₀ σ' s'.heap → LJ σ' s'.heap f fl → Q f s') :
  ∀ (rest : List D) (i : Nat) (s : Shared) (σ : Sto) (ρ : Rho), items.drop i = rest → StR W σ s → FrR σ s.heap env nm ρ → Rp σ s.heap v d → DP s.heap ia v d b i → ¬ foot σ ia → AI σ₀ f₀ σ s.heap →
   Ec (fun σ => Ah σ d = some items ∧ As σ d = b) (fun x ρ σ K' => Ap Φ t' x ρ σ fun ρ' σ' => Ak Φ a' ρ' σ' K') rest ρ σ K →
   Bk W.M A (.forLoop t (.ref ia) a [] env) (fun r s' => match r with | .ok f => Q f s' | .error _ => False) s := by
 intro rest
 induction rest with
 | nil =>
  intro i s σ ρ hd R F r x nf st hp
  (refine oa2 hp fun zq1 hk => oa2 zq1 fun hi hb => ?_; clear hp)
  subst hb
  refine At (fun ω ω => rfl) ?_
  show wpN _ _ ((forTurn t (.ref ia) a [] env).onRaise _) _ _ s
  refine B3 fun E => ?_
  unfold forTurn
  have hn : items[i]? = none := by rw [List.getElem?_eq_none_iff]; exact List.drop_eq_nil_iff.mp hd
  refine A0 (Aa (A0 (B3 fun E => A3 (Jr ok.hh R r hi x hn fun s' S hg ho => ?_))))
  refine GK (x.obj) fun o vs' T' ho' hdat ω => ?_
  exact A5 ⟨rfl, Hd (hQ _ _ s' σ ρ hk (R.side S nf h0 hg ho) (F.iter S ho' hdat) (st.side S.same fi) .next)⟩
 | cons y rest ih =>
  intro i s σ ρ hd R F r x nf st hp
  refine oa2 hp fun zq1 hp => oa2 zq1 fun hi hb => ?_
  subst hb
  refine At (fun ω ω => rfl) ?_
  show wpN _ _ ((forTurn t (.ref ia) a [] env).onRaise _) _ _ s
  refine B3 fun E => ?_
  unfold forTurn
  have hn : items[i]? = some y := by
   have : (items.drop i)[0]? = some y := by rw [hd]; rfl
   simpa using this
  have hd' : items.drop (i + 1) = rest := by
   have : (items.drop i).drop 1 = rest := by rw [hd]; rfl
   simpa using this
  refine A0 (Aa (A0 (B3 fun E => A3 (HT R r hi x hn fun u s₁ S hg ho x₁ ru => ?_))))
  refine GK (x.obj) fun o vs' T' ho' hdat ω => ?_
  have R₁ := R.side S nf h0 hg ho
  have F₁ := F.iter S ho' hdat
  have st₁ := st.side S.same fi
  refine A0 (A3 (Ld (W := W) x₁ ?_))
  refine A0 (R5 G t sc A _ s₁ σ env ρ u y _ _ t' ht ev ok R₁ F₁ (ru.stepQ (S.q _)) hp fun s₂ σ₂ ρ₂ k₂ R₂ F₂ S₂ => ?_)
  refine oa2 (F₁.mask_it S₂ x₁ nf) fun x₂ nf₂ => ?_
  have st₂ := DB st₁ hf S₂
  have r₂ := (r.stepQ (S.q _)).stepQ (F₁.mask_q S₂)
  refine A0 (ha sc A _ s₂ σ₂ env ρ₂ _ _ a' ea ev ok R₂ F₂ k₂ fun f fl s₃ σ₃ ρ₃ k₃ R₃ F₃ S₃ r₃ => ?_)
  refine oa2 (F₂.mask_it S₃ x₂ nf₂) fun x₃ nf₃ => ?_
  have st₃ := DB st₂ hf S₃
  have rv₃ := r₂.stepQ (F₂.mask_q S₃)
  cases r₃ with
  | next => exact A5 ⟨rfl, ih (i + 1) s₃ σ₃ ρ₃ hd' R₃ F₃ rv₃ x₃ nf₃ st₃ k₃⟩
  | brk => exact A5 (hQ _ _ s₃ σ₃ ρ₃ k₃ R₃ F₃ st₃ .next)
  | ret v d r => exact A5 (hQ _ _ s₃ σ₃ ρ₃ k₃ R₃ F₃ st₃ (.ret v d r))
theorem P4 (G : Glo W Φ T nm n) (t it : Expr) (a : List Stmt) (pos : Pos) (ha : Iw W Φ T nm n a) : Fm W Φ T nm n (.For t it a [] pos) := by
 intro sc A E s σ env ρ K Q p h ev ok R F hp hQ
 refine Af (Option.bind_eq_some_iff.mp h) fun t' ht h => ?_
 refine Af (Option.bind_eq_some_iff.mp h) fun it' hi h => ?_
 (refine Af (Option.map_eq_some_iff.mp h) fun a' ea zq1 => ?_; subst zq1)
 rw [arm_exec_For]
 refine A0 (Aa (A0 ((snd G it).1 sc A E s σ env ρ _ _ it' hi ev ok R F hp fun v s₁ d σ₁ k₁ R₁ S₁ r₁ => ?_)))
 (refine Af k₁ fun items hit hl => ?_; clear k₁)
 rw [Jp (env := env) hi]
 refine A0 (A5 (A0 (Aa ?_)))
 refine A0 (A9 (A3 (FF R₁ r₁ hit fun s₂ g₂ hg ho x₂ => ?_)))
 have F₁ := F.step S₁
 generalize hia : s₁.heap.objs.size = ia at x₂ ⊢
 have ni : s₁.heap.get? ia = none := hia ▸ AF _
 have nfi : ¬ foot σ₁ ia := Ar R₁ ni
 have h0i : W.h₀.get? ia = none := by
  cases e : W.h₀.get? ia with
  | none => rfl
  | some o => have := R₁.stays ia o e; rw [ni] at this; cases this
 have fi : mask env s₁.heap ia = none := by unfold mask; split; rfl; exact ni
 refine GG (PL G (it := it) ha ev ok ht ea h0i (σ₀ := σ₁) (f₀ := mask env s₁.heap) FJ fi (fun f fl s' σ' ρ' k R' F' S' r' => ?_) items 0 s₂ σ₁ ρ rfl (R₁.grow g₂ hg ho) (F₁.step g₂.step) (r₁.step g₂.step) x₂ nfi (AP.mask g₂.step env) hl)
 exact (hQ.after (S₁.mask env)) f fl s' σ' ρ' k R' F' S' r'
end
end
section
variable {A : Around} {t v : Expr} {Q : Flow → Shared → Prop} {K : KS} {is : List Nat} {xs : List Str} {line : Nat} {v' : PE} {t' : PT} {pos : Pos} {ρ : Rho} {sc : Scope} {s : Shared} {σ : Sto} {E : Value → Shared → Prop}
theorem FrR.other {h h' : Heap} {env : Env} {nm : List Str} (F : FrR σ h env nm ρ) {x : Addr} (S : Gu x h h') (nl : env.locals ≠ x) (nc : ∀ y a, env.cells.lookup y = some a → a ≠ x) : FrR σ h' env nm ρ := by
 obtain ⟨p, ⟨m, n, k⟩, c, inj, v⟩ := F
 refine ⟨p, ⟨m, n.extBut S.same nl, fun i x d a b z => ?_⟩, fun x a q => ?_, inj, fun i x d a b z => ?_⟩
 ·refine Af (k i x d a b z) fun v y q => ?_; exact ⟨v, y, q.stepQ (S.q σ)⟩
 ·obtain ⟨n, v, y⟩ := c x a q; exact ⟨n, v, (let ⟨o, e, r⟩ := y; ⟨o, S.same _ _ (nc x a q) e, r⟩)⟩
 ·refine D0 (v i x d a b z) fun b u y q w => ?_
  exact ⟨b, u, y, (let ⟨o, e, r⟩ := q; ⟨o, S.same _ _ (nc x b y) e, r⟩), w.stepQ (S.q σ)⟩
theorem E9 {α : Type} [BEq α] [LawfulBEq α] : ∀ (n : Nat) (l : List α), l.length = n → l.eraseDups.length = l.length → l.Nodup
 | 0, l, h, _ => by rw [List.length_eq_zero_iff.mp h]; exact List.nodup_nil
 | n + 1, [], h, _ => by cases h
 | n + 1, a :: l, h, e => by
  have le : ∀ (m : Nat) (l : List α), l.length ≤ m → l.eraseDups.length ≤ l.length := by
   intro m
   induction m with
   | zero => intro l h; rw [List.length_eq_zero_iff.mp (Nat.le_zero.mp h)]; simp
   | succ m ih =>
    intro l h
    cases l with
    | nil => simp
    | cons b l =>
     rw [List.eraseDups_cons, List.length_cons, List.length_cons]
     have h1 := List.length_filter_le (fun x => !x == b) l
     have h2 := ih (l.filter fun x => !x == b) (by simp at h; lia)
     lia
  rw [List.eraseDups_cons, List.length_cons, List.length_cons] at e
  have h1 := List.length_filter_le (fun x => !x == a) l
  have h2 := le _ (l.filter fun x => !x == a) (Nat.le_refl _)
  have h3 : (l.filter fun x => !x == a).length = l.length := by lia
  have h4 := List.length_filter_eq_length_iff.mp h3
  have h5 : l.filter (fun x => !x == a) = l := List.filter_eq_self.mpr h4
  rw [h5] at e
  refine List.nodup_cons.mpr ⟨fun hm => ?_, E9 n l (by simpa using h) (by lia)⟩
  have := h4 a hm
  simp at this
noncomputable def Bg : Rho → List Nat → List D → Rho
 | ρ, i :: is, d :: ds => Bg (ρ.set i (some d)) is ds
 | ρ, _, _ => ρ
theorem EJ : ∀ (is js : List Nat) (ds es : List D) (ρ : Rho), is.length = ds.length → Bg ρ (is ++ js) (ds ++ es) = Bg (Bg ρ is ds) js es
 | [], js, [], es, ρ, _ => rfl
 | i :: is, js, d :: ds, es, ρ, h => by
  show Bg (ρ.set i (some d)) (is ++ js) (ds ++ es) = _
  rw [EJ is js ds es _ (by simpa using h)]; rfl
theorem GE : ∀ (is : List Nat) (ds : List D) (ρ : Rho) (i : Nat) (d : D), i ∉ is → Bg (ρ.set i (some d)) is ds = (Bg ρ is ds).set i (some d)
 | [], ds, ρ, i, d, _ => by unfold Bg; rfl
 | j :: is, [], ρ, i, d, _ => rfl
 | j :: is, e :: ds, ρ, i, d, h => by
  show Bg ((ρ.set i (some d)).set j (some e)) is ds = (Bg (ρ.set j (some e)) is ds).set i (some d)
  rw [List.set_comm _ _ (fun q => h (by rw [q]; exact List.mem_cons_self ..)), GE is ds _ i d (fun q => h (List.mem_cons_of_mem _ q))]
theorem HI : ∀ (is : List Nat) (ds : List D) (ρ : Rho), is.length = ds.length → is.Nodup → Bg ρ is.reverse ds.reverse = Bg ρ is ds
 | [], [], ρ, _, _ => rfl
 | i :: is, d :: ds, ρ, h, hn => by
  refine oa2 (List.nodup_cons.mp hn) fun h1 h2 => ?_
  rw [List.reverse_cons, List.reverse_cons, EJ _ _ _ _ _ (by simpa using h), HI is ds ρ (by simpa using h) h2]
  show (Bg ρ is ds).set i (some d) = Bg (ρ.set i (some d)) is ds
  rw [GE is ds ρ i d h1]
theorem Rps.rev {h : Heap} {ds : List D} : ∀ {vs : List Value}, Rps σ h vs ds → Rps σ h vs.reverse ds.reverse := by
 induction ds with
 | nil => exact fun r => r.eN .nil
 | cons d ds ih => exact fun r => r.eC fun v vs a b => by rw [List.reverse_cons, List.reverse_cons]; exact (ih b).append (.cons _ _ _ _ a .nil)
inductive NI (env : Env) (nm : List Str) : List Str → List Nat → Prop
 | nil : NI env nm [] []
 | cons (x : Str) (i : Nat) (xs : List Str) (is : List Nat) : nm[i]? = some x → env.kindOf x = some .local → NI env nm xs is → NI env nm (x :: xs) (i :: is)
theorem NI.append {env : Env} {nm : List Str} {xs ys : List Str} {is js : List Nat} (a : NI env nm xs is) (h : NI env nm ys js) : NI env nm (xs ++ ys) (is ++ js) := by
 induction a with
 | nil => exact h
 | cons x i xs is a b c ih => exact .cons x i _ _ a b ih
theorem NI.rev {env : Env} {nm : List Str} (a : NI env nm xs is) : NI env nm xs.reverse is.reverse := by
 induction a with
 | nil => exact .nil
 | cons x i xs is a b c ih => rw [List.reverse_cons, List.reverse_cons]; exact ih.append (.cons x i _ _ a b .nil)
theorem NI.mem {env : Env} {nm : List Str} (a : NI env nm xs is) : ∀ i ∈ is, ∃ x ∈ xs, nm[i]? = some x := by
 induction a with
 | nil => exact fun i h => by cases h
 | cons x j xs is a b c ih => exact fun i h => (List.mem_cons.mp h).elim (fun e => ⟨x, List.mem_cons_self .., e ▸ a⟩) fun h => (ih i h).elim fun y h => ⟨y, List.mem_cons_of_mem _ h.1, h.2⟩
theorem NI.nodup {env : Env} {nm : List Str} (a : NI env nm xs is) : xs.Nodup → is.Nodup := by
 induction a with
 | nil => exact fun ω => List.nodup_nil
 | cons x j xs is a b c ih =>
  intro h
  have h := List.nodup_cons.mp h
  refine List.nodup_cons.mpr ⟨fun q => (c.mem j q).elim fun y g => h.1 ?_, ih h.2⟩
  exact Option.some.inj (a.symm.trans g.2) ▸ g.1
theorem NI.length {env : Env} {nm : List Str} (a : NI env nm xs is) : xs.length = is.length := by
 induction a with
 | nil => rfl
 | cons x j xs is a b c ih => exact congrArg (·+ 1) ih
section
variable {W : Wd} {Φ : Bn} {T : Tab} {nm : List Str} {n : Nat}
noncomputable def Oj (env : Env) (line : Nat) : Expr → Option Str
 | .Name id pos => if env.kindOf id == some .local && pos.line == line then some id else none
 | _ => none
theorem N1 {env : Env} (ev : AG W env sc) (ts : List Expr) : ∀ (p : PTs), JH T nm n sc ts = some p → (ts.filterMap (Oj env line)).length = ts.length →
  ∃ is, NI env nm (ts.filterMap (Oj env line)) is ∧ ∀ (ds : List D) (ρ : Rho) (K : Rho → Sto → Prop), NA Φ p ds ρ σ K → ds.length = is.length ∧ K (Bg ρ is ds) σ := by
 induction ts with
 | nil =>
  intro p h _
  refine CM h ⟨[], .nil, fun ds ρ K hp => ?_⟩
  obtain ⟨rfl, hp⟩ := hp
  exact ⟨rfl, hp⟩
 | cons t ts ih =>
  intro p h hl
  (refine Cy (Ex h) fun a b ha hb zq1 ω => ?_; subst zq1)
  cases e : Oj env line t with
  | none =>
   rw [List.filterMap_cons_none e] at hl
   exact absurd hl (Nat.ne_of_lt (Nat.lt_succ_of_le (List.length_filterMap_le (Oj env line) ts)))
  | some x =>
   rw [List.filterMap_cons_some e] at hl ⊢
   refine Af (ih b hb (Nat.succ.inj hl)) fun is h1 h2 => ?_
   cases t with
   | Name y pos =>
    refine CU e fun hc e => ?_
    cases e
    (refine C8 (Hv ev ha) fun i hi zq1 ω => ?_; subst zq1)
    refine ⟨i :: is, .cons _ _ _ _ (BP hi) (beq_iff_eq.mp (Bool.and_eq_true_iff.mp hc).1) h1, fun ds ρ K hp => ?_⟩
    obtain ⟨d, r, rfl, hp⟩ := hp
    have q := h2 r _ K hp.2
    exact ⟨congrArg (·+ 1) q.1, q.2⟩
   | _ => exact nos e
theorem LF (G : Glo W Φ T nm n) {env : Env} (ev : AG W env sc) {Q : Unit → Shared → Prop} (ni : NI env nm xs is) : ∀ (vs : List Value) (ds : List D) (s : Shared) (ρ : Rho),
  Rps σ s.heap vs ds → StR W σ s → FrR σ s.heap env nm ρ → (∀ s', StR W σ s' → FrR σ s'.heap env nm (Bg ρ is ds) → AI σ (mask env s.heap) σ s'.heap → Q () s') → xs.length = vs.length → wpN W.M A (assignInOrder (xs.map fun n => bindName env n) vs) Q E s := by
 induction ni with
 | nil =>
  intro vs ds s ρ rs R F hQ hl
  have e : assignInOrder ([] : List (Value → Sem Unit)) vs = pure () := by unfold assignInOrder; rfl
  show wpN W.M A (assignInOrder [] vs) Q E s
  rw [e]
  have e2 : Bg ρ [] ds = ρ := by unfold Bg; rfl
  rw [e2] at hQ
  exact A5 (hQ s R F (Ca _ _ _))
 | cons x i xs is a b c ih =>
  intro vs ds s ρ rs R F hQ hl
  cases rs with
  | nil => cases hl
  | cons v vs d ds r rs =>
   show wpN W.M A (holding vs (bindName env x v) >>= fun ω => assignInOrder (xs.map fun n => bindName env n) vs) Q E s
   refine A0 (A9 (CT (K := fun ρ' σ' => ρ' = ρ.set i (some d) ∧ σ' = σ) G ev R F r a (.inl b) ⟨rfl, rfl⟩ fun s' σ' ρ' k R' F' S' => ?_))
   (refine oa2 k fun zq1 zq2 => ?_; clear k; subst zq1; subst zq2)
   exact ih vs ds s' _ (rs.stepQ (F.mask_q S')) R' F' (fun s'' R'' F'' S'' => hQ s'' R'' F'' (BO S' S'')) (by simpa using hl)
def SwP (env : Env) (ts : List Expr) (X : Sem (Option (List Str))) : Prop :=
 ∃ o, X = pure o ∧ ∀ names, o = some names → ∃ line, names = ts.filterMap (Oj env line) ∧ names.length = ts.length ∧ names.eraseDups.length = names.length
theorem SwP.no {env : Env} {ts : List Expr} : SwP env ts (pure none) := ⟨none, rfl, fun ω e => nos e⟩
theorem I3 {α : Type} {c : Prop} [Decidable c] {x y : α} {P : α → Prop} (h1 : c → P x) (h2 : ¬ c → P y) : P (if c then x else y) := by
 by_cases h : c
 ·rw [if_pos h]; exact h1 h
 ·rw [if_neg h]; exact h2 h
theorem LQ {env : Env} {ts vs : List Expr} {k k' : Nat} {p p' : Pos} (hv : J9 (.Tuple vs k' p') = true) : SwP env ts (swappedStores [.Tuple ts k p] (.Tuple vs k' p') env) := by
 unfold swappedStores
 dsimp only
 refine I3 (P := SwP env ts) (fun ω => .no) fun ω => I3 (P := SwP env ts) (fun ω => .no) fun ω => I3 (P := SwP env ts) (fun ω => .no) fun hc => I3 (P := SwP env ts) (fun ω => .no) fun ω => I3 (P := SwP env ts) (fun hb => ?_) fun ω => ?_
 ·rw [show J9 (.Tuple vs k' p') = !(vs.all (constantsAlone 8)) from rfl, hb] at hv; cases hv
 ·refine ⟨_, rfl, fun names e => ⟨(ts.head?.map (·.pos.line)).getD 0, ?_⟩⟩
  cases e
  simp only [Bool.or_eq_true, bne_iff_ne, not_or, Decidable.not_not] at hc
  refine ⟨?_, hc.1, hc.2⟩
  congr 1
def SwQ (env : Env) (t v : Expr) : Prop :=
 ∃ o, swappedStores [t] v env = pure o ∧ ∀ names, o = some names → ∃ ts k p line, t = .Tuple ts k p ∧ names = ts.filterMap (Oj env line) ∧ names.length = ts.length ∧ names.eraseDups.length = names.length
theorem SwQ.no {env : Env} (h : swappedStores [t] v env = pure none) : SwQ env t v := ⟨none, h, fun ω e => nos e⟩
theorem JF {env : Env} (hnl : ∀ ts p, t ≠ .List ts p) (h : (∃ ts k p, t = .Tuple ts k p) → J9 v = true) : SwQ env t v := by
 cases t with
 | Tuple ts k p =>
  cases v with
  | Tuple vs k' p' => exact (LQ (env := env) (k := k) (p := p) (h ⟨ts, k, p, rfl⟩)).elim fun o q => ⟨o, q.1, fun names e => (q.2 names e).elim fun line q => ⟨ts, k, p, line, rfl, q⟩⟩
  | _ => exact .no rfl
 | List ts p => exact absurd rfl (hnl ts p)
 | _ => exact .no rfl
def SwC (env : Env) (t : Expr) (X : Sem Bool) : Prop := ∃ b, X = pure b ∧ (b = true → ∃ x px, t = .Name x px ∧ env.kindOf x = some .local)
theorem SwC.no {env : Env} : SwC env t (pure false) := ⟨false, rfl, fun e => absurd e Bool.false_ne_true⟩
theorem LP {elt : Expr} {gens : List Comprehension} {scope : Scope} {env : Env} : SwC env t (swapsWith (.ListComp elt gens scope pos) (some t) line env) := by
 cases t with
 | Name x px =>
  refine ⟨_, rfl, fun hb => ⟨x, px, rfl, ?_⟩⟩
  simp only [Bool.and_eq_true, beq_iff_eq] at hb
  exact hb.1.1.2
 | _ => exact .no
theorem KE {t : Option Expr} {env : Env} {p : PE} (h : stE T nm n sc v = some p) (hn : ∀ e g s p, v ≠ .ListComp e g s p) : swapsWith v t line env = pure false := by
 cases v <;> first | rfl | exact absurd rfl (hn _ _ _ _) | exact nos h
theorem Kr (G : Glo W Φ T nm n) {pos : Pos} {env : Env} 
  (ht : stT T nm n sc t = some t') (hv : stE T nm n sc v = some v') (hok : (∃ ts k p, t = .Tuple ts k p) → J9 v = true) (ev : AG W env sc) (ok : Okc A n) (R : StR W σ s) (F : FrR σ s.heap env nm ρ) (hp : wpS Φ (.asg t' v') ρ σ K) (hQ : Ix W σ s env nm K Q) :
  wpN W.M A (eval v env >>= fun x => swappedStores [t] v env >>= fun o => assignStores env x o [assign t env]) Q E s := by
 refine A0 ((snd G v).1 sc A E s σ env ρ _ _ v' hv ev ok R F hp fun x s₁ d σ₁ k₁ R₁ S₁ r₁ => ?_)
 have F₁ := F.step S₁
 have hQ := hQ.after (S₁.mask env)
 (refine Af (JF (env := env) (t := t) (v := v) (fun ts p e => by subst e; exact nos ht) hok) fun o ho hn => ?_)
 rw [ho]
 refine A0 (A5 ?_)
 cases o with
 | none =>
  show wpN W.M A (assign t env x >>= fun ω => pure .next) Q E s₁
  exact A0 (R5 G t sc A E s₁ σ₁ env ρ x d _ _ t' ht ev ok R₁ F₁ r₁ k₁ fun s₂ σ₂ ρ₂ k₂ R₂ F₂ S₂ => A5 (hQ _ _ s₂ σ₂ ρ₂ k₂ R₂ F₂ S₂ .next))
 | some names =>
  (refine GJ (hn names rfl) fun ts k p line zq1 e1 e2 e3 => ?_; subst zq1)
  revert k₁; refine AY ht fun ps hps k₁ => ?_
  obtain ⟨ds, rfl, hlen, k₁⟩ := k₁
  (refine Af (N1 (W := W) (Φ := Φ) ev (line := line) (σ := σ₁) ts ps hps (by rw [← e1]; exact e2)) fun is hni hloc => ?_)
  refine oa2 (hloc ds ρ _ k₁) fun l1 l2 => ?_
  rw [← e1] at hni
  show wpN W.M A (rule "assign.swapped-stores" >>= fun ω => unpackItems x names.length none >>= fun items => assignInOrder (names.reverse.map fun n => bindName env n) items.reverse >>= fun ω => pure .next) Q E s₁
  have hl := hni.length
  refine A0 (Df (A0 (A3 (Fs ok.hh r₁ names.length (by lia) fun s₂ vs g hg ho rs => ?_))))
  have F₂ := F₁.step (AM.step g)
  refine A0 (LF G ev hni.rev vs.reverse ds.reverse s₂ ρ rs.rev (R₁.grow g hg ho) F₂ (fun s₃ R₃ F₃ S₃ => A5 ?_) (by simp; rw [rs.length]; lia))
  rw [HI is ds ρ l1.symm (hni.nodup (E9 _ _ rfl e3))] at F₃
  exact hQ _ _ s₃ σ₁ _ l2 R₃ F₃ (BO (AP.mask (AM.step g) env) S₃) .next
theorem KM (G : Glo W Φ T nm n) {env : Env} 
  (ht : stT T nm n sc t = some t') (hv : stE T nm n sc v = some v') (hok : (∃ ts k p, t = .Tuple ts k p) → J9 v = true) (ev : AG W env sc) (ok : Okc A n) (R : StR W σ s) (F : FrR σ s.heap env nm ρ) (hp : wpS Φ (.asg t' v') ρ σ K) (hQ : Ix W σ s env nm K Q) :
  wpN W.M A (exec (.Assign [t] v pos) env) Q E s := by
 rw [arm_exec_Assign]
 obtain ⟨_, _, h3⟩ := Id (T := T) (nm := nm) (n := n) (sc := sc) (env := env) (es := [t]) (p := .cons t' .nil) (by
  show (stT T nm n sc t).bind (fun t' => (JH T nm n sc []).map fun r' => PTs.cons t' r') = _
  rw [ht]; rfl)
 rw [h3]
 refine A0 (Aa ?_)
 show wpN W.M A (swapsWith v (some t) pos.line env >>= _) Q E s
 have plain := Kr (pos := pos) (E := E) G ht hv hok ev ok R F hp hQ
 by_cases hl : ∀ e g s p, v ≠ .ListComp e g s p
 ·rw [KE hv hl]
  exact A0 (A5 plain)
 ·have : ∃ e g s p, v = .ListComp e g s p := by
   refine Classical.byContradiction fun q => hl fun e g s p e' => q ⟨e, g, s, p, e'⟩
  (refine oe4 this fun elt gens scope ps zq1 => ?_; clear this; subst zq1)
  refine Af (LP (elt := elt) (gens := gens) (scope := scope) (pos := ps) (t := t) (line := pos.line) (env := env)) fun b hb hbt => ?_
  rw [hb]
  cases b with
  | false => exact A0 (A5 plain)
  | true =>
   (refine Bu (hbt rfl) fun x px zq1 hkx => ?_; subst zq1)
   refine A0 (A5 ?_)
   rw [if_pos rfl]
   (refine C8 (Hv ev ht) fun i hi zq1 hlx => ?_; subst zq1)
   clear hb plain
   revert hp hok
   refine Hw hv fun y py it ifs it' e' cnd ix C hx h0 h1 h2 hok hp => ?_
   have hp : wpE Φ (.comp e' ix it' cnd) ρ σ (fun d σ₁ => Ap Φ (.loc i) d ρ σ₁ fun ρ' σ' => K .next ρ' σ') := hp
   rw [arm_evalThenUse_ListComp]
   refine A0 (A0 ?_)
   refine Js (use := some _) G ok (C env) ev hx (snd G it).1 (snd G elt).1 (fun e ω => (snd G e).2) h0 h1 h2 R F hp fun L p l s' σ₁ a1 a2 a3 a4 a5 a6 a7 a8 a9 a10 => ?_
   intro E
   have F' := F.step a3
   show wpN W.M A (standAt px >>= fun ω => bindName env x (.ref p)) _ E s'
   refine A0 (Aa (CT (K := fun ρ' σ' => ρ' = ρ.set i (some (.lst l)) ∧ σ' = σ₁) G ev a2 F' a4 (BP hi) hlx ⟨rfl, rfl⟩ fun s'' σ' ρ' k R'' F'' S'' => ?_))
   (refine oa2 k fun zq1 zq2 => ?_; clear k; subst zq1; subst zq2)
   (refine oe1 a8 fun m hm => ?_; clear a8)
   have nown : ¬ Own env L := fun q => by
    refine Or.elim q (fun q => ?_) (fun zq1 => oe1 zq1 fun y q => ?_)
    ·exact a10 q.symm
    ·exact a9 y L q rfl
   have hm'' : s''.heap.Ns L m := by
    (refine By hm fun o es ep e q => ?_; clear hm)
    exact ⟨o, es, ep, S''.keep L o a7 (Dj nown e), q⟩
   refine ⟨m, hm'', fun h' sb => ?_⟩
   have S := Ns.sideOf hm'' sb
   refine A5 (A5 ?_)
   refine hQ .next .next { s'' with heap := h' } σ' _ a1.2 (R''.side (s' := { s'' with heap := h' }) S a7 a5) (F''.other S a10 (fun y a q => a9 y a q)) ?_ .next
   refine ((BO (a3.mask env) S'').side' sb.extBut fun o hf e => ?_)
   exact a6 o hf (HV e).2
theorem NV (G : Glo W Φ T nm n) {x : Str} {px pos ps : Pos} {es : List Expr} {env : Env} {i : Nat} {es' : PEs}
  (hl : sc.names.lookup x = some .local) (hi : CO nm x = some i) (hv : Cg T nm n sc es = some es') (ev : AG W env sc) (ok : Okc A n) (R : StR W σ s) (F : FrR σ s.heap env nm ρ) (hp : wpS Φ (.newl i es') ρ σ K) (hQ : Ix W σ s env nm K Q) :
  wpN W.M A (exec (.Assign [.Name x px] (.List es ps) pos) env) Q E s := by
 rw [arm_exec_Assign]
 refine A0 (Aa ?_)
 show wpN W.M A (eval (.List es ps) env >>= fun v => assign (.Name x px) env v >>= fun ω => pure .next) Q E s
 rw [arm_eval_List]
 refine A0 (A0 (Aa (A0 (CL (fun e ω => (snd G e).1) sc A E s σ env ρ ps _ _ es' hv ev ok R F hp fun vs s₁ ds σ₁ k₁ R₁ S₁ r₁ => A3 ?_))))
 (refine oa2 k₁ fun zq1 k3 => oa2 zq1 fun k1 k2 => ?_; clear k₁)
 refine wpAny_newList ?_ (by rw [sizeLine_eq, r₁.length]; lia)
 have a0 : s₁.heap.get? s₁.heap.objs.size = none := AF _
 have σp : σ₁ s₁.heap.objs.size = none := by
  cases e : σ₁ s₁.heap.objs.size with
  | none => rfl
  | some o => refine oe1 (R₁.keyAt e) fun y hy => ?_; rw [a0] at hy; cases hy
 have ad := R₁.add (s' := { s₁ with heap := s₁.heap.push { cls := .type "list", data := .seq vs.toArray } }) (AM.push _ _) (a := s₁.heap.objs.size) (o := .mlist ds) a0 a0 R₁.big (by intro C da fs e; cases e)
  (fun S => ⟨vs, _, Heap.get?_push_size _ rfl, r₁.step S⟩)
 have F₂ := (F.step S₁).step ad.2
 show wpN W.M A ((standAt px >>= fun ω => bindName env x (.ref s₁.heap.objs.size)) >>= fun ω => pure .next) Q E _
 refine A0 (A0 (Aa (CT (K := fun ρ' σ' => ρ' = ρ.set i (some (.ref s₁.heap.objs.size)) ∧ σ' = σ₁.upd s₁.heap.objs.size (.mlist ds)) G ev ad.1 F₂ (.ref _) (BP hi) (.inl (ev.lcl x hl)) ⟨rfl, rfl⟩ fun s'' σ' ρ' k R'' F'' S'' => ?_)))
 (refine oa2 k fun zq1 zq2 => ?_; clear k; subst zq1; subst zq2)
 exact A5 (hQ _ _ s'' _ _ (k3 _ σp) R'' F'' (BO ((S₁.trans ad.2).mask env) S'') .next)
noncomputable def SZ : D → Prop
 | .int _ => True
 | .bytes _ => True
 | _ => False
theorem J2 {x y : D} {v u : Value} {K : D → Prop} {Q : Value → Shared → Prop} (h1 : Rp σ s.heap v x) (h2 : Rp σ s.heap u y) (ho : SZ x) (hp : Be .Add x y K) (hQ : OpQ σ s K Q) :
  wpAny W.M A (inplaceOp .Add v u) Q E s := by
 cases x with
 | int a => exact h1.eI fun t => h2.onI hp fun b u hp => PyProof.Rows.iadd_int (hQ.same hp (.int _ _))
 | bytes a =>
  exact h1.eY fun t => h2.onY hp fun b u hp => MC (show a.length + b.length ≤ _ from Nat.le_trans hp.1 (by decide)) fun t' k => by
   rw [show (⟨a⟩ : Array UInt8) ++ ⟨b⟩ = ⟨a ++ b⟩ by simp]
   exact hQ.same hp.2 (.bytes _ _)
 | _ => exact False.elim ho
theorem HG (G : Glo W Φ T nm n) (x : Str) (px : Pos) (op : Operator) (e : Expr) (pos : Pos) : Fm W Φ T nm n (.AugAssign (.Name x px) op e pos) := by
 intro sc A E s σ env ρ K Q p h ev ok R F hp hQ
 revert hp; refine CU h fun hc h => AW h fun i hi h => AY h fun e' he hp => ?_
 ·have hl := beq_iff_eq.mp (Bool.and_eq_true_iff.mp hc).1
  refine Af hp fun old ho hp => ?_
  rw [arm_exec_AugAssign]
  have hx := BP hi
  refine oa2 (G.nd x (List.mem_of_getElem? hx)) fun n1 n2 => ?_
  refine A0 (Aa (A0 (A3 (HZ F hx ho ev.kind (.inl (ev.lcl x hl)) n2 fun v r => ?_))))
  refine A0 (A9 ((snd G e).1 sc A E s σ env ρ _ _ e' he ev ok R F hp fun u s₁ d σ₁ k₁ R₁ S₁ r₁ => ?_))
  obtain ⟨⟨rfl, hold⟩, k₁⟩ := k₁
  refine A0 (Aa (A0 (BL (A3 (J2 (r.step S₁) r₁ (by cases old <;> first | trivial | exact hold) k₁ fun z s₂ d₂ k₂ r₂ g hg hos => ?_)))))
  have F₂ := (F.step S₁).step (AM.step g)
  refine A0 (Aa (A0 (CT (K := fun ρ' σ' => ρ' = ρ.set i (some d₂) ∧ σ' = σ₁) G ev (R₁.grow g hg hos) F₂ r₂ hx (.inl (ev.lcl x hl)) ⟨rfl, rfl⟩ fun s'' σ' ρ' k R'' F'' S'' => ?_)))
  (refine oa2 k fun zq1 zq2 => ?_; clear k; subst zq1; subst zq2)
  exact A5 (hQ _ _ s'' _ _ k₂ R'' F'' (BO ((S₁.trans (AM.step g)).mask env) S'') .next)
end
end
section
variable {A : Around} {Q : Flow → Shared → Prop} {K : KS} {ρ : Rho} {sc : Scope} {s : Shared} {σ : Sto} {E : Value → Shared → Prop}
section
variable {W : Wd} {Φ : Bn} {T : Tab} {nm : List Str} {n : Nat}
theorem Eg {env : Env} (ev : AG W env sc) : interactive env = false := by
 unfold interactive
 rw [ev.kind]; rfl
theorem Pt {a : Addr} {l : List D} (R : StR W σ s) (e : σ a = some (.mlist l)) : ∃ o, s.heap.get? a = some o ∧ o.cls = .type "list" ∧ o.dict = none := by
 refine Bu (R.objs _ _ e) fun vs k ho ω => ?_
 exact ⟨_, ho, rfl, rfl⟩
theorem Lh {c : Expr} {p : PE} (h : stE T nm n sc c = some p) : ¬ Ke c = true := by
 cases c <;> first | exact Bool.false_ne_true | exact nos h
theorem KN (G : Glo W Φ T nm n) {o c : Expr} {apos cpos pos : Pos} {env : Env} {o' c' : PE}
  (hline : (apos.endLine == cpos.line) = true) (ho : stE T nm n sc o = some o') (hc : stE T nm n sc c = some c') (ev : AG W env sc) (ok : Okc A n) (R : StR W σ s) (F : FrR σ s.heap env nm ρ) (hp : wpS Φ (.append o' c') ρ σ K) (hQ : Ix W σ s env nm K Q) :
  wpN W.M A (exec (.Expr (.Call (.Attribute o "append" apos) [c] [] cpos) pos) env) Q E s := by
 rw [arm_exec_Expr, Eg ev]
 refine A0 (Aa ?_)
 rw [if_neg (by decide)]
 show wpN W.M A (eval (.Call (.Attribute o "append" apos) [c] [] cpos) env >>= dropValue _ pos) Q E s
 have hes : Cg T nm n sc [c] = some (.cons c' .nil) := by
  show (if Ke c = true then none else (stE T nm n sc c).bind fun e' => (Cg T nm n sc []).map fun r' => PEs.cons e' r') = _
  rw [if_neg (Lh hc), hc]; rfl
 refine A0 ?_
 show wpN W.M A (attributeBase o "append" env (eval o env) >>= fun ov => standAt apos.atName >>= fun ω => methodCall o "append" apos cpos env ov 1 (backTo cpos (starEach [c] env)) []) _ E s
 rw [Bw ev ho G.sup]
 refine A0 ((snd G o).1 sc A E s σ env ρ _ _ o' ho ev ok R F hp fun ov s₁ d σ₁ k₁ R₁ S₁ r₁ => ?_)
 refine A0 (Aa ?_)
 have hpos : methodCallPos true o env apos cpos = pure cpos := by unfold methodCallPos; simp [hline]
 have hform : methodCallForm 1 (backTo cpos (starEach [c] env)) [] = true := by rw [Hu (Lh hc)]; rfl
 unfold methodCall
 rw [hform, hpos]
 obtain ⟨⟨a, l, rfl, hda⟩, k₁⟩ := k₁
 refine r₁.eR ?_
 refine C8 (Pt R₁ hda) fun ob h1 h2 h3 => ?_
 refine A0 (A9 (A3 (getMethod_list_append h1 h2 h3 ?_)))
 refine A0 (A5 ?_)
 refine Nw (K := W.K) (C1 hes) (fun h ω => I1 _ h _) (CL (fun e ω => (snd G e).1) sc A E s₁ σ₁ env ρ cpos (fun ds σ' => on1 ds fun x => ∃ b l, D.ref a = .ref b ∧ σ' b = some (.mlist l) ∧ l.length < 1000 ∧ K .next ρ (σ'.upd b (.mlist (l ++ [x])))) _ _ hes ev ok R₁ (F.step S₁) k₁ fun vs s₂ ds σ₂ k₂ R₂ S₂ r₂ => ⟨R₂.X,
  r₂.on1 k₂ fun u d k₂ r₃ => ?_⟩)
 refine Bu k₂ fun b l e k₂ => ?_
 cases e
 refine A3 (Kt R₂ k₂.1 k₂.2.1 r₃ fun s₃ R₃ S₃ => ?_)
 rw [dropValue_plain (by intro a e; cases e)]
 exact A5 (hQ _ _ s₃ _ ρ k₂.2.2 R₃ (((F.step S₁).step S₂).step S₃) (((S₁.trans S₂).trans S₃).mask env) .next)
theorem NW (G : Glo W Φ T nm n) {f : Expr} {as : List Expr} {ks : List Keyword} {cpos pos : Pos} {env : Env} {e' : PE}
  (he : stE T nm n sc (.Call f as ks cpos) = some e') (ev : AG W env sc) (ok : Okc A n) (R : StR W σ s) (F : FrR σ s.heap env nm ρ) (hp : wpS Φ (.expr e') ρ σ K) (hQ : Ix W σ s env nm K Q) :
  wpN W.M A (exec (.Expr (.Call f as ks cpos) pos) env) Q E s := by
 rw [arm_exec_Expr, Eg ev]
 refine A0 (Aa ?_)
 rw [if_neg (by decide)]
 show wpN W.M A (eval (.Call f as ks cpos) env >>= dropValue _ pos) Q E s
 refine A0 ((snd G _).1 sc A E s σ env ρ _ _ e' he ev ok R F hp fun v s₁ d σ₁ k₁ R₁ S₁ r₁ => ?_)
 obtain ⟨rfl, k₁⟩ := k₁
 refine r₁.eN ?_
 rw [dropValue_plain (by intro a e; cases e)]
 exact A5 (hQ _ _ s₁ _ ρ k₁ R₁ (F.step S₁) (S₁.mask env) .next)
theorem FA {e : Stmt} (h : ∀ sc, stS T nm n sc e = none) : Fm W Φ T nm n e :=
 fun sc A E s σ env ρ K Q p h' => nos ((h sc).symm.trans h')
@[elab_as_elim] theorem My {v : Expr} {es : List Expr} {P : Expr → Prop} (h : Pw v = some es) (c : ∀ p, P (.List es p)) : P v := by
 cases v with
 | List es p => cases h; exact c p
 | _ => exact nos h
def R1 (W : Wd) (Φ : Bn) (A : Around) (E : Value → Shared → Prop) (s : Shared) (σ : Sto) (env : Env) (nm : List Str) (ρ : Rho) (K : KS) (Q : Flow → Shared → Prop) (pos : Pos) (t v : Expr) (p : PS) : Prop :=
 wpS Φ p ρ σ K → Ix W σ s env nm K Q → wpN W.M A (exec (.Assign [t] v pos) env) Q E s
theorem KP (G : Glo W Φ T nm n) (ts : List Expr) (v : Expr) (pos : Pos) : Fm W Φ T nm n (.Assign ts v pos) := by
 intro sc A E s σ env ρ K Q p h ev ok R F
 cases ts with
 | nil => exact nos h
 | cons t ts =>
  cases ts with
  | cons _ _ => exact nos h
  | nil =>
   show R1 W Φ A E s σ env nm ρ K Q pos t v p
   have h : stA T nm n sc t v = some p := h
   cases t with
   | Name x px =>
    exact HR h (fun ω h => CU h fun hl h => AW h fun es hes h => AW h fun es' hes' h => AY h fun i hi => My hes fun ps hp hQ => NV G (beq_iff_eq.mp hl) hi hes' ev ok R F hp hQ)
     fun ω h => AW h fun t' ht h => AY h fun v' hv hp hQ => KM G ht hv (fun ⟨_, _, _, e⟩ => by cases e) ev ok R F hp hQ
   | _ => exact CU h fun hc h => AW h fun t' ht h => AY h fun v' hv hp hQ => KM G ht hv (fun ω => hc) ev ok R F hp hQ
@[elab_as_elim] theorem Qk {e : Expr} {p : PS} {P : Expr → PS → Prop} (h : stX T nm n sc e = some p) (c1 : ∀ x px as ks cpos e', stE T nm n sc (.Call (.Name x px) as ks cpos) = some e' → P (.Call (.Name x px) as ks cpos) (.expr e'))
  (c2 : ∀ o ap c cpos o' c', (ap.endLine == cpos.line) = true → stE T nm n sc o = some o' → stE T nm n sc c = some c' → P (.Call (.Attribute o "append" ap) [c] [] cpos) (.append o' c')) : P e p := by
 cases e with
 | Call f as ks cpos =>
  cases f with
  | Name x px => exact AY h fun e' he => c1 x px as ks cpos e' he
  | Attribute o x ap =>
   cases as with
   | nil => exact nos h
   | cons c r => cases r with
    | cons _ _ => exact nos h
    | nil => cases ks with
     | cons _ _ => exact nos h
     | nil =>
      refine CU h fun hx h => AW h fun o' ho h => AY h fun c' hc => ?_
      refine oa2 (Bool.and_eq_true_iff.mp hx) fun hx hline => ?_
      exact (beq_iff_eq.mp hx) ▸ c2 o ap c cpos o' c' hline ho hc
  | _ => exact nos h
 | _ => exact nos h
theorem NX (G : Glo W Φ T nm n) (e : Expr) (pos : Pos) : Fm W Φ T nm n (.Expr e pos) := by
 intro sc A E s σ env ρ K Q p h ev ok R F hp hQ
 have h : stX T nm n sc e = some p := h
 revert hp
 exact Qk h (fun x px as ks cpos e' he hp => NW G he ev ok R F hp hQ) fun o ap c cpos o' c' hline ho hc hp => KN G hline ho hc ev ok R F hp hQ
theorem NU (G : Glo W Φ T nm n) (st : Stmt) (ih : ∀ s' : Stmt, sizeOf s' < sizeOf st → Fm W Φ T nm n s') : Fm W Φ T nm n st := by
 cases st with
 | Expr e pos => exact NX G e pos
 | Assign ts v pos => exact KP G ts v pos
 | Return e pos => exact KO G e pos
 | Break pos => exact M5 pos
 | Raise a b pos => exact M4 a b pos
 | If c a b pos => exact Qp G c a b pos (E5 fun e he => ih e (lt2 (CK he) (by rw [Stmt.If.sizeOf_spec]; lia))) (E5 fun e he => ih e (lt2 (CK he) (by rw [Stmt.If.sizeOf_spec]; lia)))
 | While c a b pos => cases b with
  | nil => exact M3 G c a pos (E5 fun e he => ih e (lt2 (CK he) (by rw [Stmt.While.sizeOf_spec]; lia)))
  | cons _ _ => exact FA fun sc => rfl
 | For t it a b pos => cases b with
  | nil => exact P4 G t it a pos (E5 fun e he => ih e (lt2 (CK he) (by rw [Stmt.For.sizeOf_spec]; lia)))
  | cons _ _ => exact FA fun sc => rfl
 | AugAssign t op e pos => cases t with
  | Name x px => exact HG G x px op e pos
  | _ => exact FA fun sc => rfl
 | _ => exact FA fun sc => rfl
theorem Tn (G : Glo W Φ T nm n) (st : Stmt) : Fm W Φ T nm n st :=
 (measure fun e : Stmt => sizeOf e).wf.induction (C := fun e => Fm W Φ T nm n e) st (NU G)
theorem Sf (G : Glo W Φ T nm n) (st : List Stmt) : Iw W Φ T nm n st := E5 fun e ω => Tn G e
end
end
section
variable {A : Around} {body : List Stmt} {prog : Program} {R : Result → Shared → Prop} {s : Shared} {x : Str} {k : Str → Option NameKind} {v : Value} {w : World}
theorem MQ {env : Env}
  (h : ∀ E, wpN (model prog w) (A.deeper env) (execs body env) (fun f s' => R (.ok (.ret (match f with | .ret v => v | _ => .none))) s') E s) :
  Bk (model prog w) A (.func body env) R s := by
 refine At (fun ω ω => rfl) ?_
 show wpN _ (A.deeper env) (do point; match ← (execs body env).onRaise (leaving env) with | .ret v => ret v | _ => ret .none) _ _ s
 refine A0 (J8 (A0 (B3 fun E => AJ (h E) (fun f s' h' => ?_) fun ω ω h' => h')))
 cases f <;> exact A5 h'
theorem EE {a : Addr} {args : Args} {o : Obj} {fd : FuncData} (hroom : A.depth < recursionLimit)
  (ho : s.heap.get? a = some o) (hd' : o.data = .func fd) (hco : fd.scope.isCoroutine = false) (hgen : fd.scope.isGenerator = false) (hbody : fd.body = .stmts body) (hcd : s.heap.CodeRec fd.code fd.qualname)
  (h : wpAny (model prog w) A.in1 (bindArgs fd args) (fun binds s₁ =>
   wpAny (model prog w) A.in1 (newFunctionEnv fd.scope fd.globals fd.closure binds (fd.qualname ++ ".<locals>.") (some a) fd.code none fd.builtins)
    (fun env s₂ => s₂.heap.NoLimit ∧ Bk (model prog w) A (.func body env) R s₂) (fun e s' => R (.error e) s') s₁) (fun e s' => R (.error e) s') s) :
  Bk (model prog w) A (.call (.ref a) args) R s := by
 refine At (fun ω ω => rfl) ?_
 show wpN _ A.in1 (callAny (.ref a) args) _ _ s
 simp only [callAny]
 refine A0 (A3 (wpAny_load ho ?_))
 (refine GJ hcd fun c oc vs tq hc hoc hdc hq => ?_; clear hcd)
 simp only [hd', callFunction, hco, hgen, hbody, hc]
 rw [hc] at h
 refine A0 (m := field (.ref c) 1) (A3 (wpAny_field hoc hdc hq (A0 (A5 ?_))))
 refine A0 (A3 (wpAny_mono h (fun binds s₁ h₁ => ?_) fun ω ω h' => h'))
 refine A0 (A3 (wpAny_mono h₁ (fun env s₂ h₂ => ?_) fun ω ω h' => h'))
 exact A0 (A3 (wpAny_enterFrame h₂.1 hroom (A5 (And.intro rfl h₂.2))))
theorem GW : ∀ (b : List (Str × Value)) (m : Str → Option Value), x ∉ b.map (·.1) → bindL k b m x = m x
 | [], m, _ => rfl
 | (n, v) :: r, m, h => by
  have h1 : x ≠ n := fun e => h (by rw [e]; exact List.mem_cons_self ..)
  have h2 : x ∉ r.map (·.1) := fun e => h (List.mem_cons_of_mem _ e)
  rw [bindL, GW r _ h2]
  split
  ·exact if_neg h1
  ·rfl
theorem GY : ∀ (b : List (Str × Value)) (m : Str → Option Value), x ∉ b.map (·.1) → bindC k b m x = m x
 | [], m, _ => rfl
 | (n, v) :: r, m, h => by
  have h1 : x ≠ n := fun e => h (by rw [e]; exact List.mem_cons_self ..)
  have h2 : x ∉ r.map (·.1) := fun e => h (List.mem_cons_of_mem _ e)
  rw [bindC, GY r _ h2]
  split
  ·rfl
  ·exact if_neg h1
theorem LG (hk : k x = some .local) : ∀ (b : List (Str × Value)) (m : Str → Option Value), (b.map (·.1)).Nodup → b.lookup x = some v → bindL k b m x = some v
 | [], m, _, h => by cases h
 | (n, u) :: r, m, hn, h => by
  refine oa2 (List.nodup_cons.mp hn) fun h1 h2 => ?_
  rw [List.lookup_cons] at h
  rw [bindL]
  split at h
  ·rename_i e
   have e := beq_iff_eq.mp e
   subst e
   cases h
   rw [GW r _ h1, if_pos hk]
   exact if_pos rfl
  ·exact LG hk r _ h2 h
theorem LH (hk : k x ≠ some .local) : ∀ (b : List (Str × Value)) (m : Str → Option Value), (b.map (·.1)).Nodup → b.lookup x = some v → bindC k b m x = some v
 | [], m, _, h => by cases h
 | (n, u) :: r, m, hn, h => by
  refine oa2 (List.nodup_cons.mp hn) fun h1 h2 => ?_
  rw [List.lookup_cons] at h
  rw [bindC]
  split at h
  ·rename_i e
   have e := beq_iff_eq.mp e
   subst e
   cases h
   rw [GY r _ h1, if_neg hk]
   exact if_pos rfl
  ·exact LH hk r _ h2 h
theorem Bz : ∀ (l : List (Str × NameKind)) (k : Nat) (acc : List (Str × Addr)) (x : Str), ((x, NameKind.cell) ∈ l ∨ ∃ a, (x, a) ∈ acc) → ∃ a, (x, a) ∈ cellsFrom k l acc
 | [], k, acc, x, h => by
  refine Or.elim h (fun h => ?_) (fun h => ?_)
  ·cases h
  ·exact h
 | (n, kd) :: r, k, acc, x, h => by
  unfold cellsFrom
  by_cases hk : (kd == .cell) = true
  ·rw [if_pos hk]
   refine Bz r _ _ x ?_
   refine Or.elim h (fun h => ?_) (fun zq1 => oe1 zq1 fun a h => ?_)
   ·refine Or.elim (List.mem_cons.mp h) (fun e => ?_) (fun h => ?_)
    ·cases e; exact .inr ⟨_, List.mem_cons_self ..⟩
    ·exact .inl h
   ·exact .inr ⟨a, List.mem_cons_of_mem _ h⟩
  ·rw [if_neg hk]
   refine Bz r _ _ x ?_
   refine Or.elim h (fun h => ?_) (fun h => ?_)
   ·refine Or.elim (List.mem_cons.mp h) (fun e => ?_) (fun h => ?_)
    ·cases e; exact absurd rfl hk
    ·exact .inl h
   ·exact .inr h
theorem HW {α : Type} : ∀ {ps : List Str} {vs : List Value} {ds : List D} {σ : Sto} {h : Heap} {x : Str} {d : D}, Rps σ h vs ds → (ps.zip ds).lookup x = some d → ∃ v, (ps.zip vs).lookup x = some v ∧ Rp σ h v d
 | [], vs, ds, σ, h, x, d, r, e => by cases e
 | p :: ps, _, _, σ, h, x, d, .nil, e => by cases e
 | p :: ps, _, _, σ, h, x, d, .cons v vs d' ds a as, e => by
  rw [List.zip_cons_cons, List.lookup_cons] at e ⊢
  split at e
  ·cases e; exact ⟨v, rfl, a⟩
  ·exact HW (α := α) as e
end
section
variable {a : Addr} {A : Around} {body : List Stmt} {ps : List Str} {d p v : Nat} {sc : Scope}
theorem Hp {α : Type} : ∀ {ps : List Str} {vs : List α} {x : Str}, vs.length = ps.length → x ∈ ps → ((ps.zip vs).lookup x).isSome = true
 | [], _, x, _, h => by cases h
 | p :: ps, [], x, e, h => by cases e
 | p :: ps, v :: vs, x, e, h => by
  rw [List.zip_cons_cons, List.lookup_cons]
  split
  ·rfl
  ·rename_i hb
   rcases List.mem_cons.mp h with rfl | h
   ·simp at hb
   ·exact Hp (by simpa using e) h
theorem Dm {α β : Type} {f g : α → Option β} : ∀ {l : List α}, (∀ x ∈ l, f x = g x) → l.filterMap f = l.filterMap g
 | [], _ => rfl
 | a :: l, h => by
  rw [List.filterMap_cons, List.filterMap_cons, h a (List.mem_cons_self ..), Dm fun x hx => h x (List.mem_cons_of_mem _ hx)]
theorem EG {α : Type} : ∀ {ps : List Str} {vs : List α}, ps.Nodup → vs.length = ps.length → ps.filterMap (fun n => ((ps.zip vs).lookup n).map (n, ·)) = ps.zip vs
 | [], vs, _, _ => rfl
 | p :: ps, [], _, e => by cases e
 | p :: ps, v :: vs, hn, e => by
  refine oa2 (List.nodup_cons.mp hn) fun h1 h2 => ?_
  rw [List.zip_cons_cons]
  have hp : (((p, v) :: ps.zip vs).lookup p).map (p, ·) = some (p, v) := by rw [List.lookup_cons, beq_self_eq_true]; rfl
  rw [List.filterMap_cons_some (f := fun n => (((p, v) :: ps.zip vs).lookup n).map (n, ·)) hp]
  congr 1
  have e' : vs.length = ps.length := by simpa using e
  refine Eq.trans (Dm fun x hx => ?_) (EG h2 e')
  have : (x == p) = false := beq_eq_false_iff_ne.mpr fun q => h1 (q ▸ hx)
  rw [List.lookup_cons, this]
theorem Ed {α : Type} : ∀ {l : List (Str × α)} {x : Str}, x ∉ l.map (·.1) → l.lookup x = none
 | [], _, _ => rfl
 | (y, v) :: l, x, h => by
  have h1 : (x == y) = false := beq_eq_false_iff_ne.mpr fun e => h (by rw [e]; exact List.mem_cons_self ..)
  rw [List.lookup_cons, h1]
  exact Ed fun e => h (List.mem_cons_of_mem _ e)
theorem Jo {α β : Type} {f : α → β → Sem (ForInStep β)} {c d : β} : ∀ {l l' : List α}, (∀ x ∈ l, f x c = pure (.yield c)) → forIn l' c f = (pure d : Sem β) → forIn (l ++ l') c f = (pure d : Sem β)
 | [], _, _, h => h
 | a :: l, l', hx, h => by
  rw [List.cons_append, List.forIn_cons, hx a (List.mem_cons_self ..), pure_bind]
  exact Jo (fun x hx' => hx x (List.mem_cons_of_mem _ hx')) h
theorem I8 {f : Str × Value → List (Str × Value) → Sem (ForInStep (List (Str × Value)))} (hf : ∀ x c, f x c = if (c.lookup x.1).isNone = true then pure (.yield (c ++ [(x.1, x.2)])) else pure (.yield c)) :
  ∀ (l c : List (Str × Value)), (l.map (·.1)).Nodup → (∀ x ∈ l, x.1 ∉ c.map (·.1)) → forIn l c f = (pure (c ++ l) : Sem _)
 | [], c, _, _ => by rw [List.append_nil]; rfl
 | (x, v) :: l, c, hn, hc => by
  refine oa2 (List.nodup_cons.mp hn) fun h1 h2 => ?_
  have : c.lookup x = none := Ed (hc (x, v) (List.mem_cons_self ..))
  rw [List.forIn_cons, hf, if_pos (by rw [this]; rfl), pure_bind]
  show forIn l (c ++ [(x, v)]) f = _
  rw [I8 hf l (c ++ [(x, v)]) h2 fun y hy => ?_]
  ·simp
  ·intro hm
   rw [List.map_append, List.mem_append] at hm
   refine Or.elim hm (fun hm => ?_) (fun hm => ?_)
   ·exact hc y (List.mem_cons_of_mem _ hy) hm
   ·have : y.1 = x := by simpa using hm
    exact h1 (this ▸ List.mem_map_of_mem (f := (·.1)) hy)
theorem J6 {α β : Type} : ∀ (m : Nat) (a : List α) (b : List β), a.zip b = (a.take m).zip (b.take m) ++ (a.drop m).zip (b.drop m)
 | 0, a, b => by simp
 | m + 1, [], b => by simp
 | m + 1, a :: as, [] => by simp
 | m + 1, a :: as, b :: bs => by
  rw [List.zip_cons_cons, List.take_succ_cons, List.take_succ_cons, List.zip_cons_cons, List.drop_succ_cons, List.drop_succ_cons, List.cons_append, ← J6 m as bs]
theorem ar0 (h1 : v ≤ p) (h2 : d ≤ p) (h3 : p ≤ v + d) : p - v = d - (v - (p - d)) ∧ v - (p - d) = d - (p - v) := by
 refine Exists.elim (Nat.le.dest h1) fun k e => ?_
 subst e
 refine Exists.elim (Nat.le.dest (Nat.le_of_add_le_add_left h3)) fun m e => ?_
 subst e
 rw [Nat.add_sub_cancel_left, Nat.add_sub_cancel_left, Nat.add_comm k m, Nat.add_sub_add_right, Nat.sub_sub_self (Nat.le_of_add_le_add_left (Nat.add_comm v k ▸ h2)), Nat.add_sub_cancel_left]
 exact ⟨rfl, rfl⟩
theorem ar2 (h3 : p ≤ v + d) : p - d ≤ v := Nat.sub_le_of_le_add h3
theorem ar4 (h1 : v ≤ p) (h3 : p ≤ v + d) : v + (d - (d - (p - v))) = p := by
 rw [Nat.sub_sub_self (Nat.sub_le_of_le_add (Nat.add_comm v d ▸ h3)), Nat.add_sub_cancel' h1]
noncomputable def Cs {α : Type} (n : Nat) (df : List α) (vs : List α) : List α := vs ++ df.drop (df.length - (n - vs.length))
theorem OG {M : Model} {E : Value → Shared → Prop} {s : Shared} {fd : FuncData} {args : List Arg} {kd : List (Option Expr)} {df : List Expr} {vals : List Value} {o : Option (Array Value)} {Q : List (Str × Value) → Shared → Prop}
  (hp : fd.params = ⟨[], args, none, [], kd, none, df⟩) (hn : (args.map (·.arg)).Nodup) (hl : vals.length ≤ args.length) (hdl : (o.getD #[]).toList.length ≤ args.length) (hle : args.length ≤ vals.length + (o.getD #[]).toList.length)
  (hd : ∀ E Q, Q o s → wpAny M A (seqItems? fd.defaults) Q E s)
  (h : Q ((args.map (·.arg)).zip (Cs args.length (o.getD #[]).toList vals)) s) : wpAny M A (bindArgs fd ⟨vals, []⟩) Q E s := by
 unfold bindArgs
 rw [hp]
 dsimp only [List.map_nil, List.nil_append, List.append_nil]
 have el : args.length = (args.map (·.arg)).length := by simp
 rw [el] at hl hdl hle h
 generalize (args.map (·.arg)) = ps at *
 simp only [List.forIn_nil]
 refine wpAny_bind (wpAny_pure ?_)
 refine wpAny_bind (hd _ _ ?_)
 have h1 : (decide (vals.length > ps.length) && Option.isNone (none : Option Arg)) = false := by
  rw [show decide (vals.length > ps.length) = false from by simp [hl]]; rfl
 simp only [List.map_nil, List.nil_append]
 rw [if_neg (by rw [h1]; decide)]
 generalize (o.getD #[]).toList = dv at *
 have e0 : dv.length - ps.length = 0 := Nat.sub_eq_zero_of_le hdl
 rw [e0, List.drop_zero]
 have zt : ps.zip vals = (ps.take vals.length).zip vals := by
  rw [List.zip_eq_zip_take_min]
  rw [Nat.min_eq_right hl, List.take_length]
 have tl : (ps.take vals.length).length = vals.length := by rw [List.length_take, Nat.min_eq_left hl]
 have keys : (ps.zip vals).map (·.1) = ps.take vals.length := by rw [zt]; exact List.map_fst_zip (Nat.le_of_eq tl)
 have have_ : ∀ x ∈ ps.take vals.length, ((ps.zip vals).lookup x).isSome = true := fun x hx => by
  rw [zt]; exact Hp tl.symm hx
 have h2 : (List.filter (fun n => (List.lookup n (ps.zip vals)).isNone) (List.take (ps.length - dv.length) ps)) = [] := by
  rw [List.filter_eq_nil_iff]
  intro x hx
  have hx' : x ∈ ps.take vals.length := by
   have : ps.length - dv.length ≤ vals.length := ar2 hle
   exact List.mem_of_mem_take (i := ps.length - dv.length) (by rw [List.take_take, Nat.min_eq_left this]; exact hx)
  have := have_ x hx'
  simp [Option.isSome_iff_ne_none.mp this]
 rw [h2]
 rw [if_neg (by decide)]
 have hm : ps.length - dv.length + (vals.length - (ps.length - dv.length)) = vals.length := Nat.add_sub_cancel' (ar2 hle)
 have split : (ps.drop (ps.length - dv.length)).zip dv = ((ps.drop (ps.length - dv.length)).take (vals.length - (ps.length - dv.length))).zip (dv.take (vals.length - (ps.length - dv.length))) ++ (ps.drop vals.length).zip (dv.drop (vals.length - (ps.length - dv.length))) := by
  rw [J6 (vals.length - (ps.length - dv.length)), List.drop_drop, hm]
 have dd : vals.length - (ps.length - dv.length) = dv.length - (ps.length - vals.length) := (ar0 hl hdl hle).2
 rw [split]
 have es : (ps.drop vals.length).length = (dv.drop (vals.length - (ps.length - dv.length))).length := by rw [List.length_drop, List.length_drop]; exact (ar0 hl hdl hle).1
 have hnd : (((ps.drop vals.length).zip (dv.drop (vals.length - (ps.length - dv.length)))).map (·.1)).Nodup := by
  rw [List.map_fst_zip (Nat.le_of_eq es)]
  exact (List.drop_sublist _ _).nodup hn
 have hni : ∀ x ∈ (ps.drop vals.length).zip (dv.drop (vals.length - (ps.length - dv.length))), x.1 ∉ (ps.zip vals).map (·.1) := fun x hx => by
  rw [keys]
  intro hm'
  have h3 := (List.of_mem_zip hx).1
  have := hn
  rw [← List.take_append_drop vals.length ps] at this
  exact (List.nodup_append.mp this).2.2 _ hm' _ h3 rfl
 have hco : ∀ x ∈ ((ps.drop (ps.length - dv.length)).take (vals.length - (ps.length - dv.length))).zip (dv.take (vals.length - (ps.length - dv.length))), ((ps.zip vals).lookup x.1).isNone = false := fun x hx => by
  have hx' : x.1 ∈ ps.take vals.length := by
   have := (List.of_mem_zip hx).1
   rw [List.take_drop, hm] at this
   exact List.mem_of_mem_drop this
  rw [Option.isNone_eq_false_iff]
  exact have_ _ hx'
 rw [Jo (c := ps.zip vals) (d := ps.zip vals ++ (ps.drop vals.length).zip (dv.drop (vals.length - (ps.length - dv.length)))) (fun x hx => by rw [hco x hx]; rfl) (I8 (fun x c => rfl) _ _ hnd hni)]
 ·refine wpAny_bind (wpAny_pure ?_)
  simp only [List.forIn_nil]
  refine wpAny_bind (wpAny_pure ?_)
  rw [if_neg (by simp)]
  simp only [List.append_nil]
  have fin : ps.zip vals ++ (ps.drop vals.length).zip (dv.drop (vals.length - (ps.length - dv.length))) = ps.zip (Cs ps.length dv vals) := by
   rw [zt, ← List.zip_append tl, List.take_append_drop]
   unfold Cs
   rw [dd]
  rw [fin, EG hn (by unfold Cs; rw [List.length_append, List.length_drop]; exact ar4 hl hle)]
  exact wpAny_pure h
noncomputable def HM (nm ps : List Str) (ds : List D) : Rho := nm.map fun x => (ps.zip ds).lookup x
noncomputable def Bh (K : B9) : KS := fun fl ω σ => match fl with
 | .ret d => K d σ
 | .next => K .none σ
 | .brk => False
section
variable {W : Wd} {Φ : Bn} {T : Tab} {nm : List Str} {n : Nat}
structure QZ (W : Wd) (a : Addr) (ps : List Str) (sc : Scope) (body : List Stmt) (dd : List D) : Prop where
 ex : ∃ o fd, W.h₀.get? a = some o ∧ o.data = .func fd ∧ fd.scope = sc ∧ fd.body = .stmts body ∧ fd.globals = mainGlobals ∧ fd.builtins = builtinsNs ∧ fd.closure = [] ∧ W.h₀.CodeRec fd.code fd.qualname ∧
  ∃ args kd df, fd.params = ⟨[], args, none, [], kd, none, df⟩ ∧ args.map (·.arg) = ps ∧ ∃ dv : Option (Array Value), (∀ σ h, Rps σ h (dv.getD #[]).toList dd) ∧ ∀ (A : Around) (E : Value → Shared → Prop) (Q : Option (Array Value) → Shared → Prop) (s : Shared), (∀ b o, W.h₀.get? b = some o → s.heap.get? b = some o) → Q dv s → wpAny W.M A (seqItems? fd.defaults) Q E s
 co : sc.isCoroutine = false
 gen : sc.isGenerator = false
 kind : sc.kind = .function
 nodup : ps.Nodup
 dlen : dd.length ≤ ps.length
 kinds : ∀ p ∈ sc.names, p.2 = .local ∨ p.2 = .cell ∨ p.2 = .globalImplicit
 par : ∀ x ∈ ps, sc.names.lookup x = some .local ∨ sc.names.lookup x = some .cell
structure Okm (A : Around) (n : Nat) : Prop where
 hh : A.handled = none
 dep : A.depth + 1 + 3 * n ≤ 900
 un : A.units + 3 + 20 * n + 200 ≤ 9000
theorem Okc.m {n : Nat} (o : Okc A (n + 1)) : Okm A n := ⟨o.hh, by have := o.dep; lia, by have := o.un; lia⟩
theorem Jw (G : Glo W Φ T nm n) {p : PSs} {dd : List D} (fa : QZ W a ps sc body dd) (st : GZ T nm n sc body = some p)
  {A : Around} {R : Result → Shared → Prop} {s : Shared} {σ : Sto} {vs : List Value} {ds : List D} {K : B9} (ok : Okm A n) (R₀ : StR W σ s) (rs : Rps σ s.heap vs ds)
  (hl0 : ds.length ≤ ps.length) (hl : (Cs ps.length dd ds).length = ps.length) (vc : Ak Φ p (HM nm ps (Cs ps.length dd ds)) σ (Bh K)) (hR : ∀ v s' d σ', K d σ' → StR W σ' s' → AP σ s.heap σ' s'.heap → Rp σ' s'.heap v d → R (.ok (.ret v)) s') :
  Bk W.M A (.call (.ref a) ⟨vs, []⟩) R s := by
 obtain ⟨o, fd, h1, h2, h3, h4, h5, h6, h7, h8, args, kd, df, h9, h10, dv, hdv, h11⟩ := fa.ex
 subst h3 h10
 have lv := rs.length
 have ld := (hdv σ s.heap).length
 have la : args.length = (args.map (·.arg)).length := by simp
 have lf : ds.length + dd.length ≥ (args.map (·.arg)).length := by
  unfold Cs at hl; rw [List.length_append, List.length_drop] at hl; rw [← hl]; exact Nat.add_le_add_left (Nat.sub_le _ _) _
 have fz : Cs (args.map (·.arg)).length (dv.getD #[]).toList vs = vs ++ (dv.getD #[]).toList.drop (dd.length - ((args.map (·.arg)).length - ds.length)) := by unfold Cs; rw [lv, ld]
 have rs0 := rs
 have rs := rs.append ((hdv σ s.heap).drop (dd.length - ((args.map (·.arg)).length - ds.length)))
 rw [← fz] at rs
 change Rps σ s.heap _ (Cs (args.map (·.arg)).length dd ds) at rs
 have hb := fun Q => OG (Q := Q) (M := model W.prog W.w) (A := A.in1) (E := fun e s' => R (.error e) s') (s := s) (vals := vs) (o := dv) h9 fa.nodup (by lia) (by have := fa.dlen; lia) (by lia) (fun E Q q => h11 _ E Q s R₀.stays q)
 rw [la] at hb
 generalize Cs (args.map (·.arg)).length (dv.getD #[]).toList vs = vf at *
 generalize Cs (args.map (·.arg)).length dd ds = df' at *
 have hlen : vf.length = (args.map (·.arg)).length := by rw [rs.length, hl]
 have kd_of : ∀ x, x ∈ args.map (·.arg) → ∀ k, (k = fd.scope.names.lookup x) → k = some .local ∨ k = some .cell := fun x hx k e => e ▸ fa.par x hx
 refine EE (by have := ok.dep; have : recursionLimit = 1000 := rfl; lia) (R₀.stays a o h1) h2 fa.co fa.gen h4 (h8.keeps R₀.stays) ?_
 refine hb _ ?_
 rw [h7]
 have hkeys : ((args.map (·.arg)).zip vf).map (·.1) = args.map (·.arg) := List.map_fst_zip (Nat.le_of_eq hlen.symm)
 refine wpAny_newFunctionEnv_cells fa.kind (fun x hx => ?_) fun env he s' x => ?_
 ·have hm : x.1 ∈ args.map (·.arg) := (List.of_mem_zip hx).1
  refine Or.elim (fa.par _ hm) (fun e => ?_) (fun e => ?_)
  ·exact .inl e
  ·refine oe1 (Bz fd.scope.names (s.heap.objs.size + 1) [] x.1 (.inl (AN e))) fun c hc => ?_
   refine oe1 (DA hc) fun b hb => ?_
   exact .inr ⟨e, by rw [hb]; rfl⟩
 ·refine Bu (x.done) fun h' tk hs' keep => ?_
  have g : AM s.heap s'.heap := by subst hs'; exact keep
  have R₁ : StR W σ s' := R₀.grow g (by subst hs'; rfl) (by subst hs'; rfl)
  refine ⟨R₁.lim, MQ fun E => ?_⟩
  have hL : env.locals = s.heap.objs.size := by rw [he]; rfl
  have hcs : env.cells = cellsFrom (s.heap.objs.size + 1) fd.scope.names [] := by rw [he]; rfl
  have hkind : ∀ y, env.kindOf y = fd.scope.names.lookup y := fun y => by rw [he]; rfl
  have newC : ∀ y c, env.cells.lookup y = some c → s.heap.get? c = none ∧ c ≠ s.heap.objs.size := fun y c hc => by
   have := x.above y c (mem_of_lookup hc)
   have x2 := x.toInCall.fresh
   rw [hL] at this x2
   refine ⟨?_, Nat.ne_of_gt this⟩
   cases e : s.heap.get? c with
   | none => rfl
   | some o => exact absurd (Nat.lt_trans this (Heap.lt_size e)) (Nat.lt_irrefl _)
  have new0 : ∀ c, s.heap.get? c = none → W.h₀.get? c = none ∧ ¬ foot σ c := fun c hc => by
   refine ⟨?_, Ar R₀ hc⟩
   cases e : W.h₀.get? c with
   | none => rfl
   | some o => rw [R₀.stays c o e] at hc; cases hc
  have ownN : ∀ b, Own env b → s.heap.get? b = none := fun b hb => by
   rcases hb with rfl | ⟨y, hy⟩
   ·rw [hL]; exact AF _
   ·exact (newC y b hy).1
  have ev : AG W env fd.scope := by
   refine ⟨fun b hb => (new0 b (ownN b hb)).1, by rw [he]; exact fa.kind, by rw [he]; exact h5, by rw [he]; exact h6, fun y hy => ?_, fun y hy => ?_, fun y hy => by rw [hkind]; exact hy, fun y hy => ⟨by rw [hkind]; exact hy, ?_⟩⟩
   ·rw [hkind]
    unfold I4 at hy
    split at hy
    ·rename_i e; exact .inl e
    ·rename_i e; exact .inr (.inl e)
    ·rename_i e; exact .inr (.inr e)
    ·cases hy
   ·rw [hkind]; exact beq_iff_eq.mp hy
   ·rw [hcs]
    refine oe1 (Bz fd.scope.names (s.heap.objs.size + 1) [] y (.inl (AN hy))) fun c hc => ?_
    exact DA hc
  have rs' := rs.step (AM.step g : AP σ s.heap σ s'.heap)
  have val : ∀ (i : Nat) y d, nm[i]? = some y → (HM nm (args.map (·.arg)) df')[i]? = some (some d) → ∃ v, ((args.map (·.arg)).zip vf).lookup y = some v ∧ Rp σ s'.heap v d := fun i y d a b => by
   unfold HM at b
   rw [List.getElem?_map, a] at b
   exact HW (α := Nat) rs' (Option.some.inj b)
  have F : FrR σ s'.heap env nm (HM nm (args.map (·.arg)) df') := by
   refine ⟨(new0 _ (ownN _ (.inl rfl))).2, ⟨_, x.toInCall.ns, fun i y d a b z => ?_⟩, fun y c hc => ⟨(new0 _ (ownN _ (.inr ⟨y, hc⟩))).2, _, x.cell y c hc⟩, fun y z c hy hz => name_of_addr x.apart (mem_of_lookup hy) (mem_of_lookup hz), fun i y d a b z => ?_⟩
   ·refine Af (val i y d a b) fun v h1 h2 => ?_
    exact ⟨v, LG z _ _ (by rw [hkeys]; exact fa.nodup) h1, h2⟩
   ·refine Af (val i y d a b) fun v h1 h2 => ?_
    have zc : env.kindOf y = some .cell := by
     refine Or.elim z (fun z => ?_) (fun z => ?_)
     ·exact z
     ·exfalso
      rw [hkind] at z
      refine oo3 (fa.kinds _ (AN z)) (fun h => ?_) (fun h => ?_) (fun h => ?_) <;> cases h
    rw [hkind] at zc
    refine oe1 (Bz fd.scope.names (s.heap.objs.size + 1) [] y (.inl (AN zc))) fun c hc => ?_
    refine oe1 (DA hc) fun c hc => ?_
    rw [← hcs] at hc
    refine ⟨c, v, hc, ?_, h2⟩
    have := x.cell y c hc
    rw [LH (by rw [hkind, zc]; decide) _ _ (by rw [hkeys]; exact fa.nodup) h1] at this
    exact this
  have ok' : Okc (A.deeper env) n := ⟨ok.hh, by have := ok.dep; show A.depth + 1 + 3 * n ≤ 900; lia, by have := ok.un; show A.units + 3 + 20 * n + 200 ≤ 9000; lia⟩
  refine Sf G body fd.scope (A.deeper env) E s' σ env _ _ _ p st ev ok' R₁ F vc fun f fl s₂ σ₂ ρ₂ k₂ R₂ F₂ S₂ r₂ => ?_
  have S : AP σ s.heap σ₂ s₂.heap := DB (AM.step g) (fun b hb => ownN b hb) S₂
  cases r₂ with
  | next => exact hR _ s₂ .none σ₂ k₂ R₂ S .none
  | brk => exact k₂.elim
  | ret v d r => exact hR v s₂ d σ₂ k₂ R₂ S r
theorem QQ {Ψ : Bn} (G : Glo W Φ T nm n) {p : PSs} {dd : List D} (fa : QZ W a ps sc body dd) (st : GZ T nm n sc body = some p)
  (vc : ∀ ds σ K, Ψ n ds σ K → ds.length ≤ ps.length ∧ (Cs ps.length dd ds).length = ps.length ∧ Ak Φ p (HM nm ps (Cs ps.length dd ds)) σ (Bh K)) : Fo W Ψ n (.ref a) := by
 intro A E s σ vs ds K Q ok R rs h hQ
 refine oa3 (vc ds σ K h) fun hl0 hl hv => ?_
 exact DW (Jw G fa st ok.m R rs hl0 hl hv fun v s' d σ' k R' S r => hQ v s' d σ' k R' S r)
end
end
section
variable {prog : Program} {w : World} {A : Around} {K : Frag} {C : Addr} {R : Result → Shared → Prop} {h : Heap} {g : Array GenState} {d : Drawn} {t : Nat} {os : OsState}
theorem Tz : ∀ a : Args, C9 (.builtin "type.__call__" a) := Po (fun ω ω ω => by kernel_rfl) (fun ω ω ω ω ω => by kernel_rfl) (by decide +kernel)
set_option maxHeartbeats 4000000 in
theorem Mv {rest : List Value} {init : Value} (Y : Makes (model prog w) h C) (hi : Looks (model prog w) h (typeLookup (.ref C) "__init__") (some init))
  (hb : ∀ self, Looks (model prog w) h (bindSpecial init self) (init, [self])) (hne : (some init != some (Value.builtin "object.__init__")) = true)
  (hq : Bk (model prog w) (A.under (.builtin "type.__call__" ⟨.ref C :: rest, []⟩)) (.call init ⟨.ref (h.objs.size + 1) :: rest, []⟩) (InitBack (h.objs.size + 1) R) ⟨(h.push emptyDict).push (instObj C h.objs.size), g, d, t, os⟩) :
  Bk (model prog w) A (.call (.ref C) ⟨rest, []⟩) R ⟨h, g, d, t, os⟩ := by
 have Y' := Y
 obtain ⟨⟨oc, od, cd, sl, hC, e1, e2, e4⟩, made, base, self, top, call, typ⟩ := Y
 refine At (fun ω ω => rfl) ?_
 show wpN _ _ (callAny (.ref C) _) _ _ _
 simp only [callAny]
 refine A0 (A3 (wpAny_load hC ?_))
 show wpN _ _ (callAny.viaDunder (.ref C) _) _ _ _
 unfold callAny.viaDunder
 refine A0 (A3 (call.at ?_))
 dsimp only
 rw [tc_bind]
 refine A0 (A5 (A0 (A5 ?_)))
 refine A5 (a := Fin.again (.call (.builtin "type.__call__") ⟨.ref C :: rest, []⟩)) (And.intro rfl ?_)
 refine At (fun ω ω => rfl) ?_
 show wpN _ (A.in1) (do checkBuiltinCall "type.__call__" ⟨.ref C :: rest, []⟩; again (.builtin "type.__call__" ⟨.ref C :: rest, []⟩)) _ _ _
 refine A0 (A3 (check_slot tc_kind tc_split typ (tc_args _ _ _) (A5 (And.intro (Code.quiet_builtin _ (by decide +kernel)) (D5 (Tz _) entry_typeCall ?_)))))
 have hm : Looks (model prog w) h (mroOf (.ref C)) cd.mro := ((Looks.ld (part := none) hC).andThen .now).andThen .now
 show wpN _ _ (Builtin.«type.__call__» ⟨.ref C :: rest, []⟩) _ _ _
 unfold Builtin.«type.__call__»
 dsimp only
 rw [if_neg (by intro e; cases e)]
 refine A0 (A3 (hm.at ?_))
 rw [e4, if_neg (by decide)]
 refine A0 (A3 (made.at ?_))
 refine A0 (A5 ?_)
 refine A0 (A9 (A3 (wpAny_call (new_K Y' hi (.inl hne) ?_))))
 have k : ∀ b o, h.get? b = some o → ((h.push emptyDict).push (instObj C h.objs.size)).get? b = some o := fun b o e => Heap.get?_push_of_some _ (Heap.get?_push_of_some _ e)
 have hx : ((h.push emptyDict).push (instObj C h.objs.size)).get? (h.objs.size + 1) = some (instObj C h.objs.size) := by heap_get
 have t1 : Looks (model prog w) ((h.push emptyDict).push (instObj C h.objs.size)) (typeOf (.ref (h.objs.size + 1))) (.ref C) := (Looks.ld hx).andThen .now
 have s1 := self.keeps k
 have i1 := hi.keeps k
 have b1 := (hb (.ref (h.objs.size + 1))).keeps k
 unfold isInstance callSpecial? specialOf
 refine A0 (A0 (A3 (t1.at (A3 (s1.at ?_)))))
 rw [if_neg (by decide)]
 refine A0 (A9 (A0 (A0 (A3 (t1.at (A3 (i1.at ?_)))))))
 dsimp only
 refine A9 (A0 (A3 (b1.at ?_)))
 dsimp only
 refine A0 (DW (DD hq fun r s' z => ?_))
 rcases r with e | (v | _ | _ | _) <;> first | exact z | exact z.elim | skip
 obtain ⟨rfl, z⟩ := z
 exact A5 (A5 z)
end
section
variable {W : Wd} {Φ : Bn} {T : Tab} {nm : List Str} {n : Nat}
theorem PY {Ψ : Bn} (G : Glo W Φ T nm n) {C fI : Addr} {ps : List Str} {sc : Scope} {body : List Stmt} {p : PSs} (hm : makesIn W.K C = true) (hi : findIn W.K (.ref C) "__init__" = some (some (.ref fI))) (hf : typeIn W.K (.ref fI) = some (.type "function"))
  (hat : W.attrs.all (EZ W.K C) = true) {dd : List D} (fa : QZ W fI ps sc body dd) (st : GZ T nm n sc body = some p)
  (vc : ∀ ds σ K, Ψ n ds σ K → ∀ x dx, σ x = none → (ds.length + 1 ≤ ps.length ∧ (Cs ps.length dd (.ref x :: ds)).length = ps.length) ∧ Ak Φ p (HM nm ps (Cs ps.length dd (.ref x :: ds))) (σ.upd x (.inst C dx [])) (Bh fun d σ' => d = .none ∧ K (.ref x) σ')) : Fo W Ψ n (.ref C) := by
 intro A E s σ vs ds K Q ok R rs h hQ
 obtain ⟨hh, g, d, t, os⟩ := s
 refine DW (Mv (makes_of R.X hm) (looks_findIn R.X hi) (fun self => bind_fn R.X self hf) rfl ?_)
 have n1 : hh.get? (hh.objs.size + 1) = none := by
  cases e : hh.get? (hh.objs.size + 1) with
  | none => rfl
  | some o => exact absurd (Nat.lt_trans (Nat.lt_succ_self _) (Heap.lt_size e)) (Nat.lt_irrefl _)
 have σx : σ (hh.objs.size + 1) = none := by
  cases e : σ (hh.objs.size + 1) with
  | none => rfl
  | some o => refine oe1 (R.keyAt e) fun y hy => ?_; rw [n1] at hy; cases hy
 refine oa2 (vc ds σ K h (hh.objs.size + 1) hh.objs.size σx) fun zq1 hv => oa2 zq1 fun hl0 hl => ?_
 have gr : AM hh ((hh.push emptyDict).push (instObj C hh.objs.size)) := fun b o e => Heap.get?_push_of_some _ (Heap.get?_push_of_some _ e)
 have ad := R.add (s' := ⟨(hh.push emptyDict).push (instObj C hh.objs.size), g, d, t, os⟩) gr (a := hh.objs.size + 1) (o := .inst C hh.objs.size []) n1 (AF hh) R.big (by intro C' da fs e; cases e; exact Nat.ne_of_gt (Nat.lt_succ_self _))
  (fun ω => ⟨by heap_get, hat, [], 0, by heap_get, .nil, Nat.zero_le _⟩)
 refine DD (Jw G fa st (A := A.under (.builtin "type.__call__" ⟨.ref C :: vs, []⟩)) (ds := .ref (hh.objs.size + 1) :: ds) (R := InitBack (hh.objs.size + 1) fun r s' => ∃ v, r = .ok (.ret v) ∧ Q v s') ?_ ad.1 (.cons _ _ _ _ (.ref _) (rs.step ad.2)) hl0 hl hv ?_) ?_
 ·refine ⟨ok.hh, ?_, ?_⟩
  ·rw [depth_under_kw]; have := ok.dep; lia
  ·show A.units + (Code.builtin "type.__call__" ⟨.ref C :: vs, []⟩).cUnits + 3 + 20 * n + 200 ≤ 9000
   have : (Code.builtin "type.__call__" ⟨.ref C :: vs, []⟩).cUnits = 1 := rfl
   have := ok.un
   lia
 ·intro v s' d' σ' k R' S r
  obtain ⟨rfl, k⟩ := k
  cases r with | none =>
  exact ⟨rfl, _, rfl, hQ _ s' _ σ' k R' (ad.2.trans S) (.ref _)⟩
 ·intro r s' z
  rcases r with e | (v | _ | _ | _)
  ·(refine Af z fun v e ω => ?_; clear z); cases e
  ·exact z.elim
  ·exact z.elim
  ·exact z.elim
  ·obtain ⟨h0, v, e, q⟩ := z; cases e; exact ⟨h0, q⟩
end
section
variable {h : Heap} {σ : Sto}
structure Row where
 ps : List Str
 nm : List Str
 body : PSs
 dfl : List D
 cls : Option Addr
def FU (r : Row) (Φ : Bn) (ds : List D) (σ : Sto) (K : B9) : Prop :=
 match r.cls with
 | none => ds.length ≤ r.ps.length ∧ (Cs r.ps.length r.dfl ds).length = r.ps.length ∧ Ak Φ r.body (HM r.nm r.ps (Cs r.ps.length r.dfl ds)) σ (Bh K)
 | some C => ∀ x dx, σ x = none → (ds.length + 1 ≤ r.ps.length ∧ (Cs r.ps.length r.dfl (.ref x :: ds)).length = r.ps.length) ∧ Ak Φ r.body (HM r.nm r.ps (Cs r.ps.length r.dfl (.ref x :: ds))) (σ.upd x (.inst C dx [])) (Bh fun d σ' => d = .none ∧ K (.ref x) σ')
noncomputable def Ab (rows : List (Option Row)) : Nat → Bn
 | 0 => fun ω ω ω ω => False
 | n + 1 => fun m ds σ K => if m = n then (match (rows[n]?).join with | some r => FU r (Ab rows n) ds σ K | none => False) else Ab rows n m ds σ K
theorem Ku {rows : List (Option Row)} {m n : Nat} (h : m < n) : Ab rows n m = Ab rows (m + 1) m := by
 induction n with
 | zero => lia
 | succ n ih =>
  by_cases e : m = n
  ·subst e; rfl
  ·have : Ab rows (n + 1) m = Ab rows n m := by funext ds σ K; exact if_neg e
   rw [this, ih (by lia)]
theorem Ho {rows : List (Option Row)} {m n : Nat} {r : Row} (h : m < n) (hr : (rows[m]?).join = some r) (ds : List D) (σ : Sto) (K : B9) : Ab rows n m ds σ K = FU r (Ab rows m) ds σ K := by
 rw [Ku h]
 show (if m = m then _ else _) = _
 rw [if_pos rfl, hr]
noncomputable def QJ (K : Frag) (a : Addr) : Option FuncData := match K.lookup a with
 | some ⟨_, _, .func fd, _⟩ => some fd
 | _ => none
noncomputable def K9 (K : Frag) (x : Str) : Option Value := match K.lookup mainGlobals with
 | some ⟨_, _, .dict es _, _⟩ => (es.toList.find? (·.key.isStr x)).map (·.val)
 | _ => none
noncomputable def toD : Value → Option D
 | .none => some .none
 | .bool b => some (.bool b)
 | .int i _ => some (.int i)
 | .str s _ => some (.str s)
 | .bytes b _ => some (.bytes b.toList)
 | _ => none
noncomputable def Qi : List Value → Option (List D)
 | [] => some []
 | v :: r => (toD v).bind fun d => (Qi r).map (d :: ·)
set_option tactic.hygienic true in
theorem Rw {v : Value} {d : D} (e : toD v = some d) : Rp σ h v d := by
 unfold toD at e
 split at e <;> cases e
 ·exact .none
 ·exact .bool _
 ·exact .int _ _
 ·exact .str _ _
 ·rename_i b t; obtain ⟨l⟩ := b; exact .bytes _ _
theorem KB : ∀ {vs : List Value} {ds : List D}, Qi vs = some ds → Rps σ h vs ds
 | [], ds, e => by cases e; exact .nil
 | v :: r, ds, e => by
  unfold Qi at e
  refine Af (Option.bind_eq_some_iff.mp e) fun d hd e => ?_
  (refine Af (Option.map_eq_some_iff.mp e) fun l hl zq1 => ?_; subst zq1)
  exact .cons _ _ _ _ (Rw hd) (KB hl)
noncomputable def Lz (K : Frag) (fd : FuncData) : Option (Option (Array Value) × List D) := match fd.defaults with
 | .none => some (none, [])
 | .ref t => (match K.lookup t with
  | some ⟨_, _, .seq xs _, _⟩ => (Qi xs.toList).map fun l => (some xs, l)
  | _ => none)
 | _ => none
noncomputable def K2 (fd : FuncData) : List Str := fd.params.args.map (·.arg)
noncomputable def PX (K : Frag) (fd : FuncData) : Bool := match fd.code with
 | .ref c => (match K.lookup c with
  | some ⟨_, _, .fields vs, _⟩ => (match (vs : Array Value)[1]? with
   | some (Value.str q _) => q == fd.qualname
   | _ => false)
  | _ => false)
 | _ => false
noncomputable def Qx (K : Frag) (fd : FuncData) : Bool :=
 fd.globals == mainGlobals && fd.builtins == builtinsNs && fd.closure.isEmpty && (match fd.params with | ⟨[], _, none, [], _, none, _⟩ => true | _ => false) && !fd.scope.isCoroutine && !fd.scope.isGenerator && fd.scope.kind == .function &&
  decide (K2 fd).Nodup && (fd.scope.names.all fun p => p.2 == .local || p.2 == .cell || p.2 == .globalImplicit) && ((K2 fd).all fun x => fd.scope.names.lookup x == some .local || fd.scope.names.lookup x == some .cell) && PX K fd
theorem IM {M : Model} {A : Around} {E : Value → Shared → Prop} {s : Shared} {Q : Option (Array Value) → Shared → Prop} (h : Q none s) : wpAny M A (seqItems? .none) Q E s := by
 show wpAny M A (notAStandIn .none >>= fun ω => pure none) Q E s
 exact wpAny_bind (wpAny_of_eq (a := ()) rfl (wpAny_pure h))
set_option tactic.hygienic true in
theorem Nt {W : Wd} {a : Addr} {fd : FuncData} {b : List Stmt} {o : Option (Array Value)} {dd : List D} (hfd : QJ W.K a = some fd) (ok : Qx W.K fd = true) (hb : fd.body = .stmts b) (hd : Lz W.K fd = some (o, dd)) (hl : dd.length ≤ (K2 fd).length) : QZ W a (K2 fd) fd.scope b dd := by
 unfold Qx at ok
 simp only [Bool.and_eq_true, beq_iff_eq, Bool.not_eq_true', decide_eq_true_eq, List.all_eq_true, Bool.or_eq_true] at ok
 obtain ⟨⟨⟨⟨⟨⟨⟨⟨⟨⟨k1, k2⟩, k3⟩, k4⟩, k5⟩, k6⟩, k7⟩, k8⟩, k9⟩, k10⟩, k11⟩ := ok
 have hcode : W.h₀.CodeRec fd.code fd.qualname := by
  unfold PX at k11
  split at k11
  ·rename_i c hc
   split at k11
   ·rename_i x y vs z hl
    split at k11
    ·rename_i q t hq
     exact ⟨c, _, vs, t, hc, W.KX _ _ hl, rfl, by rw [hq, beq_iff_eq.mp k11]⟩
    ·cases k11
   ·cases k11
  ·cases k11
 refine ⟨?_, k5, k6, k7, k8, hl, fun p hp => by refine Or.elim (k9 p hp) (fun zq1 => Or.elim zq1 (fun h => ?_) (fun h => ?_)) (fun h => ?_); exact .inl h; exact .inr (.inl h); exact .inr (.inr h), fun x hx => by refine Or.elim (k10 x hx) (fun h => ?_) (fun h => ?_); exact .inl h; exact .inr h⟩
 unfold QJ at hfd
 split at hfd
 ·rename_i c d fd' sl hlk
  cases hfd
  refine ⟨_, fd, W.KX _ _ hlk, rfl, rfl, hb, k1, k2, List.isEmpty_iff.mp k3, hcode, ?_⟩
  split at k4
  ·rename_i args kd df hp
   refine ⟨args, kd, df, hp, by unfold K2; rw [hp], o, fun σ h => ?_, fun A E Q s keep q => ?_⟩
   ·unfold Lz at hd
    split at hd
    ·cases hd; exact .nil
    ·split at hd
     ·refine Af (Option.map_eq_some_iff.mp hd) fun l hl e => ?_
      cases e
      exact KB hl
     ·cases hd
    ·cases hd
   ·unfold Lz at hd
    split at hd
    ·rename_i e
     cases hd
     rw [e]
     exact IM q
    ·rename_i t e
     split at hd
     ·rename_i x y xs n z hl
      refine Af (Option.map_eq_some_iff.mp hd) fun l hl' e' => ?_
      cases e'
      rw [e]
      exact wpAny_seqItems (keep _ _ (W.KX _ _ hl)) rfl q
     ·cases hd
    ·cases hd
  ·cases k4
 ·cases hfd
end
section
variable {W : Wd}
mutual
noncomputable def Gj : Expr → List Str
 | .ListComp _ [⟨.Name x _, _, _, _⟩] _ _ => [x]
 | .Call _ as _ _ => Il as
 | _ => []
noncomputable def Il : List Expr → List Str
 | [] => []
 | e :: r => Gj e ++ Il r
end
noncomputable def Rz : Stmt → List Str
 | .Return (some e) _ => Gj e
 | .Assign _ e _ => Gj e
 | _ => []
noncomputable def Hj (sc : Scope) (b : List Stmt) : List Str := ((sc.names.filter fun y => y.2 == .local || y.2 == .cell).map (·.1) ++ b.flatMap Rz).eraseDups
noncomputable def QA (nm : List Str) : Bool := decide nm.Nodup && (nm.all fun x => !(x == "__debug__") && !(x == "__classdict__")) && !(nm.contains ".0")
noncomputable def Nn (K : Frag) (T : Tab) (n : Nat) (fd : FuncData) (cls : Option Addr) : Option Row :=
 if Qx K fd = true then (match fd.body with
  | .stmts b => if QA (Hj fd.scope b) = true then (GZ T (Hj fd.scope b) n fd.scope b).bind fun p => (Lz K fd).bind fun d => if d.2.length ≤ (K2 fd).length then some ⟨K2 fd, Hj fd.scope b, p, d.2, cls⟩ else none else none
  | _ => none) else none
noncomputable def Jg (K : Frag) (T : Tab) (n : Nat) (x : Str) : Option Row := (K9 K x).bind fun v => match v with
 | .ref a => (match QJ K a with
  | some fd => Nn K T n fd none
  | none => (match findIn K (.ref a) "__init__" with
   | some (some (.ref fI)) => if (makesIn K a && typeIn K (.ref fI) == some (.type "function") && T.attrs.all (EZ K a)) = true then (QJ K fI).bind fun fd => Nn K T n fd (some a) else none
   | _ => none))
 | _ => none
structure Q9 (W : Wd) (fns attrs : List Str) (mt : Nat → List Str) (rows : List (Option Row)) : Prop where
 att : W.attrs = attrs
 sup : CO fns ("super" : Str) = none
 dbg : ∀ x ∈ fns, (x == ("__debug__" : Str)) = false
 mg : ∀ x v, K9 W.K x = some v → W.mg x = some v
 blt : ∀ x b, Jy x = some b → W.mg x = none ∧ W.mb x = some (Q2 b) ∧ (x == ("__debug__" : Str)) = false
 int : ∀ x i, ME x = some i → (∃ t, W.mg x = some (.int i t)) ∧ (x == ("__debug__" : Str)) = false
 fn : ∀ (i : Nat) x, fns[i]? = some x → ∃ a, K9 W.K x = some (.ref a) ∧ keepIn W.K (.ref a) = true
 row : ∀ (i : Nat) x r, fns[i]? = some x → (rows[i]?).join = some r → Jg W.K ⟨fns, attrs, mt i⟩ i x = some r
set_option tactic.hygienic true in
theorem HU {K : Frag} {T : Tab} {n : Nat} {fd : FuncData} {cls : Option Addr} {r : Row} (h : Nn K T n fd cls = some r) : Qx K fd = true ∧ ∃ b o, fd.body = .stmts b ∧ r.nm = Hj fd.scope b ∧ QA r.nm = true ∧ GZ T r.nm n fd.scope b = some r.body ∧ Lz K fd = some (o, r.dfl) ∧ r.dfl.length ≤ (K2 fd).length ∧ r.ps = K2 fd ∧ r.cls = cls := by
 unfold Nn at h
 split at h
 ·rename_i h1
  split at h
  ·rename_i b hb
   split at h
   ·rename_i h2
    refine Af (Option.bind_eq_some_iff.mp h) fun p hp h => ?_
    obtain ⟨⟨o, l⟩, hd, h⟩ := Option.bind_eq_some_iff.mp h
    split at h
    ·rename_i h3
     cases h
     exact ⟨h1, b, o, hb, rfl, h2, hp, hd, h3, rfl, rfl⟩
    ·cases h
   ·cases h
  ·cases h
 ·cases h
theorem Fo.congr {Φ Ψ : Bn} {i : Nat} {f : Value} (h : Φ i = Ψ i) (c : Fo W Φ i f) : Fo W Ψ i f := fun A E s σ vs ds K Q ok R rs p hQ => c A E s σ vs ds K Q ok R rs (by rw [h]; exact p) hQ
set_option tactic.hygienic true in
theorem SU {fns attrs : List Str} {mt : Nat → List Str} {rows : List (Option Row)} (F : Q9 W fns attrs mt rows) : ∀ n, n ≤ fns.length → ∀ i, i < n → ∀ x, fns[i]? = some x → ∃ f, W.mg x = some f ∧ keepIn W.K f = true ∧ Fo W (Ab rows n) i f := by
 intro n
 induction n with
 | zero => intro _ i hi; lia
 | succ n ih =>
  intro hn i hi x hx
  by_cases e : i < n
  ·refine C8 (ih (by lia) i e x hx) fun f h1 h2 h3 => ?_
   refine ⟨f, h1, h2, h3.congr ?_⟩
   rw [Ku e, Ku hi]
  ·have e : i = n := by lia
   subst e
   refine Af (F.fn i x hx) fun a h1 h2 => ?_
   refine ⟨.ref a, F.mg x _ h1, h2, ?_⟩
   cases hr : (rows[i]?).join with
   | none =>
    intro A E s σ vs ds K Q ok R rs p hQ
    have p : (if i = i then (match (rows[i]?).join with | some r => FU r (Ab rows i) ds σ K | none => False) else Ab rows i i ds σ K) := p
    rw [if_pos rfl, hr] at p
    exact p.elim
   | some r =>
    have hrow := F.row i x r hx hr
    have hPsi : ∀ ds σ K, Ab rows (i + 1) i ds σ K → FU r (Ab rows i) ds σ K := fun ds σ K p => by rw [Ho hi hr] at p; exact p
    have glo : ∀ {nm : List Str}, QA nm = true → Glo W (Ab rows i) ⟨fns, attrs, mt i⟩ nm i := fun {nm} ok => by
     unfold QA at ok
     simp only [Bool.and_eq_true, decide_eq_true_eq, List.all_eq_true, Bool.not_eq_true'] at ok
     (refine oa2 ok fun zq1 k3 => oa2 zq1 fun k1 k2 => ?_; clear ok)
     refine ⟨k1, k2, fun hm => ?_, F.sup, fun y hy => by rw [F.att]; exact hy, F.blt, F.int, fun y j hy hj => ?_⟩
     ·rw [List.contains_iff_mem.mpr hm] at k3; cases k3
     ·have hy' := BP hy
      exact ⟨ih (by lia) j hj y hy', F.dbg y (List.mem_of_getElem? hy')⟩
    unfold Jg at hrow
    rw [h1, Option.bind_some] at hrow
    dsimp only at hrow
    split at hrow
    ·rename_i fd hfd
     obtain ⟨k1, b, o, k2, k3, k4, k5, k6, k7, k8, k9⟩ := HU hrow
     have fa := Nt hfd k1 k2 k6 k7
     refine QQ (nm := r.nm) (p := r.body) (glo k4) fa k5 fun ds σ K p => ?_
     have p := hPsi ds σ K p
     unfold FU at p
     rw [k9] at p
     rw [← k8]; exact p
    ·split at hrow
     ·rename_i fI hfI
      split at hrow
      ·rename_i hc
       simp only [Bool.and_eq_true, beq_iff_eq] at hc
       (refine oa2 hc fun zq1 c3 => oa2 zq1 fun c1 c2 => ?_; clear hc)
       refine Af (Option.bind_eq_some_iff.mp hrow) fun fd hfd hrow => ?_
       obtain ⟨k1, b, o, k2, k3, k4, k5, k6, k7, k8, k9⟩ := HU hrow
       have fa := Nt hfd k1 k2 k6 k7
       refine PY (nm := r.nm) (p := r.body) (glo k4) c1 hfI c2 (by rw [F.att]; exact c3) fa k5 fun ds σ K p => ?_
       have p := hPsi ds σ K p
       unfold FU at p
       rw [k9] at p
       rw [← k8]; exact p
      ·cases hrow
     ·cases hrow
end
local macro_rules | `(#[]) => `(by decide) | `(#[$xs,*]) => do
 let c ← `(.cons)
 let z ← `(.nil)
 let t : Lean.Term := xs.getElems.foldr (fun x (r : Lean.Term) => Lean.Syntax.mkApp c #[x, r]) z
 return t
local macro_rules | `({$x:num}) => `(.cst (.int $x))
section
local macro_rules | `([$x:num]) => `(.loc $x)
noncomputable def Ep : PSs := #[.asg [1] {0},.for [2] [0] #[.asg [1] (.bin .BitOr (.bin .LShift [1] {8}) [2])],.ret [1]]
noncomputable def L6 : Row := ⟨["octets"], ["octets", "number", "octet"], Ep, [], none⟩
noncomputable def Eo : PSs := #[.cond (.bop .Or #[.cmp .Lt [0] {0},.cmp .NotEq (.bin .RShift [0] (.bin .Mult {8} [1])) {0}]) #[.fail] .nil,.ret (.blt .bytes #[.comp (.bin .BitAnd (.bin .RShift [0] (.bin .Mult {8} (.bin .Sub (.bin .Sub [1] {1}) [2]))) {255}) 2 (.blt .range #[[1]]) .nil])]
noncomputable def L5 : Row := ⟨["number", "size"], ["number", "size", "place"], Eo, [], none⟩
noncomputable def Iq : PSs := #[.whl (.cmp .NotEq (.bin .RShift [0] {16}) {0}) #[.asg [0] (.bin .Add (.bin .BitAnd [0] {65535}) (.bin .RShift [0] {16}))],.ret [0]]
noncomputable def Pb : Row := ⟨["total"], ["total"], Iq, [], none⟩
noncomputable def MX : PSs := #[.cond (.bop .Or #[.cmp .NotEq (.blt .len #[[1]]) (.blt .len #[[2]]),.cmp .Eq (.bin .Mod (.blt .len #[[1]]) {2}) {1}]) #[.fail] .nil,.asg [3] (.bin .Sub {65535} [0]),.for [4] (.blt .range #[{0},.blt .len #[[1]],{2}]) #[.asg [3] (.bin .Sub (.bin .Add [3] {65535}) (.bin .BitOr (.bin .LShift (.idx [1] [4]) {8}) (.idx [1] (.bin .Add [4] {1})))),.asg [3] (.bin .Add [3] (.bin .BitOr (.bin .LShift (.idx [2] [4]) {8}) (.idx [2] (.bin .Add [4] {1}))))],.ret (.bin .Sub {65535} (.call 3 #[[3]]))]
noncomputable def RE : Row := ⟨["check", "old", "new"], ["check", "old", "new", "total", "place"], MX, [], none⟩
noncomputable def Kp : PSs := #[.cond (.bop .Or #[.cmp .Lt (.blt .len #[[0]]) {20},.cmp .NotEq (.bin .RShift (.idx [0] {0}) {4}) {4}]) #[.ret (.cst .none)] .nil,.asg [1] (.bin .Mult (.bin .BitAnd (.idx [0] {0}) {15}) {4}),.cond (.bop .Or #[.cmp .Lt [1] {20},.cmp .Gt [1] (.blt .len #[[0]])]) #[.ret (.cst .none)] .nil,.asg [2] (.call 1 #[.slc [0] {6} {8}]),.ret (.tup #[.idx [0] {9},[1],.bin .Mult (.bin .BitAnd [2] {8191}) {8},.cmp .NotEq (.bin .BitAnd [2] {8192}) {0}])]
noncomputable def Qu : Row := ⟨["data"], ["data", "off", "word"], Kp, [], none⟩
noncomputable def Cm : PSs := #[.cond (.cmp .In [0] (.tup #[{0},{43},{60}])) #[.ret (.bin .Mult (.bin .Add [1] {1}) {8})] .nil,.cond (.cmp .Eq [0] {51}) #[.ret (.bin .Mult (.bin .Add [1] {2}) {4})] .nil,.cond (.cmp .Eq [0] {44}) #[.ret {8}] .nil,.ret {0}]
noncomputable def L7 : Row := ⟨["kind", "second"], ["kind", "second"], Cm, [], none⟩
noncomputable def Dq : PSs := #[.cond (.cmp .Eq (.call 6 #[[2],{0}]) {0}) #[.ret {0}] .nil,.cond (.cmp .Gt (.bin .Add [1] {2}) [3]) #[.ret (.neg {1})] .nil,.asg [4] (.call 6 #[[2],.idx [0] (.bin .Add [1] {1})]),.cond (.cmp .Gt (.bin .Add [1] [4]) [3]) #[.ret (.neg {1})] .nil,.ret [4]]
noncomputable def O1 : Row := ⟨["octets", "at", "kind", "end"], ["octets", "at", "kind", "end", "size"], Dq, [], none⟩
noncomputable def MV : PSs := #[.ret (.bin .BitAnd (.call 1 #[.slc [0] (.bin .Add [1] {2}) (.bin .Add [1] {4})]) {65528})]
noncomputable def Me : Row := ⟨["octets", "at"], ["octets", "at"], MV, [], none⟩
noncomputable def Ko : PSs := #[.cond (.bop .Or #[.cmp .Lt (.blt .len #[[0]]) {40},.cmp .NotEq (.bin .RShift (.idx [0] {0}) {4}) {6}]) #[.ret (.cst .none)] .nil,.asg [1] (.idx [0] {6}),.asg [2] {40},.asg [3] {0},.asg [4] (.cst (.bool false)),.whl (.cmp .Eq [3] {0}) #[.asg [5] (.call 7 #[[0],[2],[1],.blt .len #[[0]]]),.cond (.bop .Or #[.cmp .Lt [5] {0},.bop .And #[.cmp .Eq [1] {0},.cmp .Gt [2] {40}]]) #[.ret (.cst .none)] .nil,.cond (.cmp .Eq [5] {0}) #[.brk] .nil,.cond (.cmp .Eq [1] {44}) #[.asg [3] (.call 8 #[[0],[2]]),.asg [4] (.cmp .Eq (.bin .BitAnd (.idx [0] (.bin .Add [2] {3})) {1}) {1})] .nil,.asg [1] (.idx [0] [2]),.aug 2 .Add [5]],.ret (.tup #[[1],[2],[3],[4]])]
noncomputable def Qt : Row := ⟨["data"], ["data", "kind", "at", "place", "is_more", "size"], Ko, [], none⟩
noncomputable def Fi : PSs := #[.asg [0] .dct0,.for [1] (.tup #[.cst (.str "mark"),.cst (.str "priority"),.cst (.str "iif"),.cst (.str "oif"),.cst (.str "iifname"),.cst (.str "oifname"),.cst (.str "pkttype")]) #[.asg (.idx [0] [1]) {0}],.asg (.idx [0] (.cst (.str "iiftype"))) {1},.asg (.idx [0] (.cst (.str "oiftype"))) {1},.ret [0]]
noncomputable def Mg : Row := ⟨[], ["out", "name"], Fi, [], none⟩
noncomputable def It : PSs := #[.asg (.attr [0] "data") (.blt .bytearray #[[1]]),.asg (.attr [0] "link") (.blt .bytearray #[[3]]),.asg (.attr [0] "kind") [2],.asg (.attr [0] "l4") (.neg {1}),.asg (.attr [0] "off") (.neg {1}),.asg (.attr [0] "place") {0},.asg (.attr [0] "meta") (.call 10 .nil)]
noncomputable def Pd : Row := ⟨["self", "data", "kind", "link"], ["self", "data", "kind", "link"], It, [], some 131⟩
noncomputable def MY : PSs := #[.asg (.attr [0] "l4") (.neg {1}),.asg (.attr [0] "off") (.neg {1}),.asg (.attr [0] "place") {0},.asg [1] (.cst .none),.cond (.cmp .Eq (.attr [0] "kind") {2048}) #[.asg [1] (.call 5 #[.attr [0] "data"])] #[.cond (.cmp .Eq (.attr [0] "kind") {34525}) #[.asg [1] (.call 9 #[.attr [0] "data"])] .nil],.cond (.cmp .Is [1] (.cst .none)) #[.ret (.cst .none)] .nil,.asg (.attr [0] "l4") (.idx [1] {0}),.asg (.attr [0] "place") (.idx [1] {2}),.cond (.bop .And #[.cmp .Eq (.idx [1] {2}) {0},.cmp .LtE (.idx [1] {1}) (.blt .len #[.attr [0] "data"])]) #[.asg (.attr [0] "off") (.idx [1] {1})] .nil]
noncomputable def RG : Row := ⟨["packet"], ["packet", "found"], MY, [], none⟩
noncomputable def En : PSs := #[.asg [3] (.call 11 #[[0],[1],[2]]),.expr (.call 12 #[[3]]),.ret [3]]
noncomputable def L4 : Row := ⟨["octets", "kind", "link"], ["octets", "kind", "link", "packet"], En, [.int 2048, .bytes []], none⟩
noncomputable def Es : PSs := #[.cond (.cmp .Eq (.attr [0] "kind") {2048}) #[.ret {2}] .nil,.cond (.cmp .Eq (.attr [0] "kind") {34525}) #[.ret {10}] .nil,.cond (.cmp .Eq (.attr [0] "kind") {2054}) #[.ret {3}] .nil,.ret {0}]
noncomputable def L8 : Row := ⟨["packet"], ["packet"], Es, [], none⟩
noncomputable def Gs : PSs := #[.cond (.cmp .Eq [1] (.cst (.str "network"))) #[.ret (.tup #[.attr [0] "data",{0}])] .nil,.cond (.cmp .Eq [1] (.cst (.str "transport"))) #[.cond (.cmp .Lt (.attr [0] "off") {0}) #[.ret (.cst .none)] .nil,.ret (.tup #[.attr [0] "data",.attr [0] "off"])] .nil,.cond (.cmp .NotEq [1] (.cst (.str "link"))) #[.fail] .nil,.cond (.cmp .Eq (.blt .len #[.attr [0] "link"]) {0}) #[.ret (.cst .none)] .nil,.ret (.tup #[.attr [0] "link",{0}])]
noncomputable def O8 : Row := ⟨["packet", "base"], ["packet", "base"], Gs, [], none⟩
noncomputable def MW : PSs := #[.asg [4] (.call 15 #[[0],[1]]),.cond (.bop .Or #[.cmp .Is [4] (.cst .none),.cmp .Lt [2] {0}]) #[.ret (.cst .none)] .nil,.asg [5] (.bin .Add (.idx [4] {1}) [2]),.cond (.cmp .Gt (.bin .Add [5] [3]) (.blt .len #[.idx [4] {0}])) #[.ret (.cst .none)] .nil,.ret (.blt .bytes #[.slc (.idx [4] {0}) [5] (.bin .Add [5] [3])])]
noncomputable def RD : Row := ⟨["packet", "base", "at", "many"], ["packet", "base", "at", "many", "found", "begin"], MW, [], none⟩
noncomputable def Ff : PSs := #[.asg [4] (.call 15 #[[0],[1]]),.cond (.bop .Or #[.cmp .Is [4] (.cst .none),.cmp .Lt [2] {0},.cmp .Gt (.bin .Add (.bin .Add (.idx [4] {1}) [2]) (.blt .len #[[3]])) (.blt .len #[.idx [4] {0}])]) #[.fail] .nil,.asg [5] (.bin .Add (.idx [4] {1}) [2]),.asg (.slc (.idx [4] {0}) [5] (.bin .Add [5] (.blt .len #[[3]]))) [3]]
noncomputable def Mc : Row := ⟨["packet", "base", "at", "octets"], ["packet", "base", "at", "octets", "found", "begin"], Ff, [], none⟩
noncomputable def El : PSs := #[.cond (.cmp .Eq [0] {6}) #[.ret {16}] .nil,.cond (.cmp .Eq [0] {17}) #[.ret {6}] .nil,.cond (.cmp .In [0] (.tup #[{1},{58}])) #[.ret {2}] .nil,.ret (.neg {1})]
noncomputable def L2 : Row := ⟨["l4"], ["l4"], El, [], none⟩
noncomputable def Ir : PSs := #[.asg [4] (.blt .max #[[0],[2]]),.asg [5] (.blt .min #[[1],[3]]),.cond (.cmp .GtE [4] [5]) #[.ret (.tup #[{0},{0}])] .nil,.ret (.tup #[.bin .Mult (.bin .FloorDiv [4] {2}) {2},.bin .Mult (.bin .FloorDiv (.bin .Add [5] {1}) {2}) {2}])]
noncomputable def Pc : Row := ⟨["begin", "end", "low", "behind"], ["begin", "end", "low", "behind", "first", "last"], Ir, [], none⟩
noncomputable def Fe : PSs := #[.newl 3 .nil,.cond (.bop .And #[.cmp .Eq (.attr [0] "kind") {2048},.cmp .GtE (.attr [0] "l4") {0}]) #[.append [3] (.tup #[{10},.lst #[.call 19 #[[1],[2],{0},.bin .Mult (.bin .BitAnd (.idx (.attr [0] "data") {0}) {15}) {4}]]])] .nil,.asg [4] (.call 18 #[.attr [0] "l4"]),.cond (.bop .And #[.cmp .GtE (.attr [0] "off") {0},.cmp .GtE [4] {0}]) #[.newl 5 #[.call 19 #[[1],[2],.attr [0] "off",.blt .len #[.attr [0] "data"]]],.cond (.bop .And #[.cmp .NotEq (.attr [0] "l4") {1},.cmp .Eq (.attr [0] "kind") {2048}]) #[.append [5] (.call 19 #[[1],[2],{12},{20}])] #[.cond (.cmp .NotEq (.attr [0] "l4") {1}) #[.append [5] (.call 19 #[[1],[2],{8},{40}])] .nil],.append [3] (.tup #[.bin .Add (.attr [0] "off") [4],[5]])] .nil,.ret (.comp [6] 6 [3] #[.bop .And #[.cmp .LtE (.bin .Add (.idx [6] {0}) {2}) (.blt .len #[.attr [0] "data"]),.bop .Or #[.cmp .LtE [2] (.idx [6] {0}),.cmp .LtE (.bin .Add (.idx [6] {0}) {2}) [1]]]])]
noncomputable def Mb : Row := ⟨["packet", "begin", "end"], ["packet", "begin", "end", "out", "place", "stretches", "row"], Fe, [], none⟩
noncomputable def Fh : PSs := #[.asg [3] (.blt .bytes #[.slc [0] [1] [2]]),.cond (.cmp .Lt (.blt .len #[[3]]) (.bin .Sub [2] [1])) #[.aug 3 .Add (.cst (.bytes (0::[])))] .nil,.ret [3]]
noncomputable def Mf : Row := ⟨["data", "first", "behind"], ["data", "first", "behind", "out"], Fh, [], none⟩
noncomputable def Gn : PSs := #[.asg [5] (.call 1 #[.slc [1] [2] (.bin .Add [2] {2})]),.cond (.bop .And #[[4],.cmp .Eq [5] {0}]) #[.ret (.cst .none)] .nil,.for (.tup #[[6],[7]]) [3] #[.cond (.cmp .Lt [6] [7]) #[.asg [5] (.call 4 #[[5],.call 21 #[[1],[6],[7]],.call 21 #[.attr [0] "data",[6],[7]]])] .nil],.cond (.bop .And #[[4],.cmp .Eq [5] {0}]) #[.asg [5] {65535}] .nil,.asg (.slc (.attr [0] "data") [2] (.bin .Add [2] {2})) (.call 2 #[[5],{2}])]
noncomputable def O4 : Row := ⟨["packet", "before", "place", "stretches", "is_udp"], ["packet", "before", "place", "stretches", "is_udp", "check", "first", "behind"], Gn, [], none⟩
noncomputable def DE : PSs := #[.cond (.cmp .Eq [1] (.cst (.str "link"))) #[.expr (.call 17 #[[0],[1],[2],[3]]),.ret (.cst .none)] .nil,.asg [4] (.blt .bytes #[.attr [0] "data"]),.asg [5] [2],.cond (.cmp .Eq [1] (.cst (.str "transport"))) #[.asg [5] (.bin .Add (.attr [0] "off") [2])] .nil,.asg [6] (.call 20 #[[0],[5],.bin .Add [5] (.blt .len #[[3]])]),.expr (.call 17 #[[0],[1],[2],[3]]),.for (.tup #[[7],[8]]) [6] #[.expr (.call 22 #[[0],[4],[7],[8],.bop .And #[.cmp .Eq (.attr [0] "l4") {17},.cmp .NotEq [7] {10}]])]]
noncomputable def JR : Row := ⟨["packet", "base", "at", "octets"], ["packet", "base", "at", "octets", "before", "begin", "sums", "place", "stretches"], DE, [], none⟩
noncomputable def DH : PSs := #[.asg [3] (.cst .none),.cond (.cmp .Eq (.attr [0] "kind") {2048}) #[.asg [3] (.call 16 #[[0],.cst (.str "network"),[1],{4}])] #[.cond (.cmp .Eq (.attr [0] "kind") {34525}) #[.asg [3] (.call 16 #[[0],.cst (.str "network"),[2],{16}])] .nil],.cond (.cmp .Is [3] (.cst .none)) #[.ret (.cst .none)] .nil,.ret (.call 1 #[[3]])]
noncomputable def JU : Row := ⟨["packet", "place4", "place6"], ["packet", "place4", "place6", "octets"], DH, [], none⟩
noncomputable def Ek : PSs := #[.ret (.call 24 #[[0],{16},{24}])]
noncomputable def L1 : Row := ⟨["packet"], ["packet"], Ek, [], none⟩
noncomputable def D7 : PSs := #[.ret (.ite (.cmp .Eq [0] {2}) (.tup #[{3},{4},{5},{11},{12}]) (.tup #[{1},{2},{3},{4}]))]
noncomputable def IO : Row := ⟨["nfproto"], ["nfproto"], D7, [], none⟩
noncomputable def MZ : PSs := #[.asg (.attr [0] "number") [1],.asg (.attr [0] "original") [2],.asg (.attr [0] "reply") [3],.asg (.attr [0] "zone") [4],.asg (.attr [0] "until") {0},.asg (.attr [0] "since") {0},.asg (.attr [0] "mark") {0},.asg (.attr [0] "status") {0},.asg (.attr [0] "state") {0},.asg (.attr [0] "sides") (.cst .none),.asg (.attr [0] "master") {0}]
noncomputable def RH : Row := ⟨["self", "number", "original", "reply", "zone"], ["self", "number", "original", "reply", "zone"], MZ, [], some 256⟩
noncomputable def Fk : PSs := #[.asg (.attr [0] "most") [1],.asg (.attr [0] "seed") [2],.asg (.attr [0] "tries") [3],.asg (.attr [0] "table") .dct0,.asg (.attr [0] "talks") .dct0,.asg (.attr [0] "last") {0},.asg (.attr [0] "trackers") .dct0,.asg (.attr [0] "expects") (.lst .nil),.asg (.attr [0] "flows") .dct0,.asg (.attr [0] "is_loose") (.cst (.bool true))]
noncomputable def Mi : Row := ⟨["self", "most", "seed", "tries"], ["self", "most", "seed", "tries"], Fk, [.int 64, .int 0, .int 128], some 278⟩
noncomputable def Gq : PSs := #[.ret (.bop .Or #[.bop .And #[.cmp .Eq [0] {2},.cmp .Eq [1] {1}],.bop .And #[.cmp .Eq [0] {10},.cmp .Eq [1] {58}]])]
noncomputable def O6 : Row := ⟨["nfproto", "protocol"], ["nfproto", "protocol"], Gq, [], none⟩
noncomputable def Fj : PSs := #[.ret (.cmp .In [1] (.call 26 #[[0]]))]
noncomputable def Mh : Row := ⟨["nfproto", "kind"], ["nfproto", "kind"], Fj, [], none⟩
noncomputable def D8 : PSs := #[.asg [2] (.ite (.cmp .Eq [0] {2}) (.tup #[.tup #[{8},{0}],.tup #[{13},{14}],.tup #[{15},{16}],.tup #[{17},{18}]]) (.tup #[.tup #[{128},{129}]])),.for (.tup #[[3],[4]]) [2] #[.cond (.cmp .Eq [1] [3]) #[.ret [4]] .nil,.cond (.cmp .Eq [1] [4]) #[.ret [3]] .nil],.ret (.neg {1})]
noncomputable def IP : Row := ⟨["nfproto", "kind"], ["nfproto", "kind", "pairs", "ask", "answer"], D8, [], none⟩
noncomputable def Fg : PSs := #[.cond (.bop .Or #[.cmp .Eq [2] {6},.cmp .Eq [2] {17}]) #[.cond (.cmp .Gt (.bin .Add [3] {4}) (.blt .len #[[0]])) #[.ret (.cst .none)] .nil,.ret (.tup #[.call 1 #[.slc [0] [3] (.bin .Add [3] {2})],.call 1 #[.slc [0] (.bin .Add [3] {2}) (.bin .Add [3] {4})]])] .nil,.cond (.not (.call 29 #[[1],[2]])) #[.ret (.tup #[{0},{0}])] .nil,.cond (.cmp .Gt (.bin .Add [3] {8}) (.blt .len #[[0]])) #[.ret (.cst .none)] .nil,.asg [4] (.idx [0] [3]),.asg [5] {0},.cond (.cmp .GtE (.call 31 #[[1],[4]]) {0}) #[.asg [5] (.call 1 #[.slc [0] (.bin .Add [3] {4}) (.bin .Add [3] {6})])] .nil,.ret (.tup #[[5],.bin .Add (.bin .Mult [4] {256}) (.idx [0] (.bin .Add [3] {1}))])]
noncomputable def Md : Row := ⟨["octets", "nfproto", "protocol", "off"], ["octets", "nfproto", "protocol", "off", "kind", "ident"], Fg, [], none⟩
noncomputable def Fc : PSs := #[.asg [4] (.call 32 #[[0],[1],[2],[3]]),.cond (.cmp .Is [4] (.cst .none)) #[.ret (.cst .none)] .nil,.asg [5] {12},.asg [6] {4},.cond (.cmp .Eq [1] {10}) #[.asg [5] {8},.asg [6] {16}] .nil,.asg [7] (.call 1 #[.slc [0] [5] (.bin .Add [5] [6])]),.asg [8] (.call 1 #[.slc [0] (.bin .Add [5] [6]) (.bin .Add (.bin .Add [5] [6]) [6])]),.ret (.tup #[[1],[2],[7],.idx [4] {0},[8],.idx [4] {1}])]
noncomputable def Ma : Row := ⟨["octets", "nfproto", "protocol", "off"], ["octets", "nfproto", "protocol", "off", "ports", "at", "size", "source", "target"], Fc, [], none⟩
noncomputable def Fb : PSs := #[.asg [1] (.call 14 #[[0]]),.cond (.bop .Or #[.cmp .NotIn [1] (.tup #[{2},{10}]),.cmp .Lt (.attr [0] "off") {0}]) #[.ret (.cst .none)] .nil,.ret (.call 33 #[.attr [0] "data",[1],.attr [0] "l4",.attr [0] "off"])]
noncomputable def M9 : Row := ⟨["packet"], ["packet", "nfproto"], Fb, [], none⟩
noncomputable def D6 : PSs := #[.asg [2] (.ite (.cmp .Eq [1] {2}) (.call 5 #[[0]]) (.call 9 #[[0]])),.cond (.bop .Or #[.cmp .Is [2] (.cst .none),.cmp .NotEq (.idx [2] {2}) {0}]) #[.ret (.cst .none)] .nil,.ret (.call 33 #[[0],[1],.idx [2] {0},.idx [2] {1}])]
noncomputable def IN : Row := ⟨["octets", "nfproto"], ["octets", "nfproto", "seen"], D6, [], none⟩
noncomputable def Ip : PSs := #[.asg (.tup #[[1],[2],[3],[4],[5],[6]]) [0],.cond (.not (.call 29 #[[1],[2]])) #[.ret (.tup #[[1],[2],[5],[6],[3],[4]])] .nil,.asg [7] (.call 31 #[[1],.bin .RShift [6] {8}]),.cond (.cmp .Lt [7] {0}) #[.ret (.cst .none)] .nil,.ret (.tup #[[1],[2],[5],[4],[3],.bin .Add (.bin .Mult [7] {256}) (.bin .BitAnd [6] {255})])]
noncomputable def Pa : Row := ⟨["t"], ["t", "nfproto", "protocol", "source", "sport", "target", "dport", "answer"], Ip, [], none⟩
noncomputable def Gl : PSs := #[.ret (.ite [1] (.attr [0] "reply") (.attr [0] "original"))]
noncomputable def O2 : Row := ⟨["talk", "direction"], ["talk", "direction"], Gl, [], none⟩
noncomputable def Go : PSs := #[.asg [4] (.dget (.attr [0] "table") (.tup #[[1],[2]])),.cond (.cmp .Is [4] (.cst .none)) #[.ret (.cst .none)] .nil,.asg [5] (.idx (.attr [0] "talks") (.idx [4] {0})),.cond (.cmp .LtE (.attr [5] "until") [3]) #[.expr (.call 38 #[[0],[5]]),.ret (.cst .none)] .nil,.ret (.tup #[[5],.idx [4] {1}])]
noncomputable def O5 : Row := ⟨["book", "zone", "t", "now"], ["book", "zone", "t", "now", "hit", "talk"], Go, [], none⟩
noncomputable def Ct : PSs := #[.asg [4] (.call 14 #[[1]]),.asg [5] (.call 35 #[.slc (.attr [1] "data") (.bin .Add (.attr [1] "off") {8}) (.cst .none),[4]]),.cond (.cmp .Is [5] (.cst .none)) #[.ret (.cst .none)] .nil,.asg [6] (.call 36 #[[5]]),.cond (.cmp .Is [6] (.cst .none)) #[.ret (.cst .none)] .nil,.asg [7] (.call 39 #[[0],[2],[6],[3]]),.cond (.bop .Or #[.cmp .Is [7] (.cst .none),.cmp .NotEq (.idx (.call 37 #[.idx [7] {0},.idx [7] {1}]) {4}) (.call 25 #[[1]])]) #[.ret (.cst .none)] .nil,.ret [7]]
noncomputable def H7 : Row := ⟨["book", "packet", "zone", "now"], ["book", "packet", "zone", "now", "nfproto", "inner", "turned", "hit"], Ct, [], none⟩
noncomputable def C2 : PSs := #[.asg [1] (.call 14 #[[0]]),.cond (.bop .Or #[.not (.call 29 #[[1],.attr [0] "l4"]),.cmp .Lt (.attr [0] "off") {0},.cmp .GtE (.attr [0] "off") (.blt .len #[.attr [0] "data"])]) #[.ret (.cst (.bool false))] .nil,.ret (.call 30 #[[1],.idx (.attr [0] "data") (.attr [0] "off")])]
noncomputable def FD : Row := ⟨["packet"], ["packet", "nfproto"], C2, [], none⟩
noncomputable def DG : PSs := #[.cond (.not (.call 41 #[.attr [1] "packet"])) #[.ret (.cst (.bool false))] .nil,.asg [3] (.call 40 #[[0],.attr [1] "packet",[2],.attr [1] "now"]),.cond (.cmp .Is [3] (.cst .none)) #[.asg (.attr [1] "talk") (.cst .none),.asg (.attr [1] "state") {1},.asg (.attr [1] "is_reply") {0}] #[.asg (.attr [1] "talk") (.idx [3] {0}),.asg (.attr [1] "state") {4},.asg (.attr [1] "is_reply") (.idx [3] {1})],.ret (.cst (.bool true))]
noncomputable def JT : Row := ⟨["book", "scene", "zone"], ["book", "scene", "zone", "hit"], DG, [], none⟩
noncomputable def Em : PSs := #[.asg [4] (.call 16 #[[0],[1],[2],.blt .len #[[3]]]),.cond (.bop .And #[.cmp .IsNot [4] (.cst .none),.cmp .NotEq [4] [3]]) #[.expr (.call 23 #[[0],[1],[2],[3]])] .nil]
noncomputable def L3 : Row := ⟨["packet", "base", "at", "octets"], ["packet", "base", "at", "octets", "old"], Em, [], none⟩
noncomputable def DF : PSs := #[.cond (.bop .Or #[.cmp .Eq (.attr [0] "l4") {6},.cmp .Eq (.attr [0] "l4") {17}]) #[.ret (.ite (.cmp .Eq [1] (.cst (.str "src"))) {0} {2})] .nil,.asg [2] (.call 14 #[[0]]),.asg [3] (.call 16 #[[0],.cst (.str "transport"),{0},{1}]),.cond (.bop .And #[.cmp .IsNot [3] (.cst .none),.call 29 #[[2],.attr [0] "l4"],.cmp .GtE (.call 31 #[[2],.idx [3] {0}]) {0}]) #[.ret {4}] .nil,.ret (.neg {1})]
noncomputable def JS : Row := ⟨["packet", "manip"], ["packet", "manip", "nfproto", "kind"], DF, [], none⟩
noncomputable def Gm : PSs := #[.asg (.tup #[[3],[4],[5],[6],[7],[8]]) [1],.cond (.cmp .NotEq (.call 14 #[[0]]) [3]) #[.ret (.cst .none)] .nil,.asg (.tup #[[9],[10]]) (.ite (.cmp .Eq [3] {2}) (.tup #[{12},{4}]) (.tup #[{8},{16}])),.asg [11] (.ite (.cmp .Eq (.attr [0] "l4") [4]) (.call 44 #[[0],[2]]) (.neg {1})),.cond (.cmp .Eq [2] (.cst (.str "src"))) #[.asg (.tup #[[12],[13]]) (.tup #[[5],[6]])] #[.asg (.tup #[[9],[12],[13]]) (.tup #[.bin .Add [9] [10],[7],[8]])],.cond (.cmp .Eq [11] {4}) #[.asg [13] [6]] .nil,.expr (.call 43 #[[0],.cst (.str "network"),[9],.call 2 #[[12],[10]]]),.cond (.cmp .GtE [11] {0}) #[.expr (.call 43 #[[0],.cst (.str "transport"),[11],.call 2 #[[13],{2}]])] .nil]
noncomputable def O3 : Row := ⟨["packet", "t", "manip"], ["packet", "t", "manip", "nfproto", "protocol", "source", "sport", "target", "dport", "at", "size", "place", "address", "port"], Gm, [], none⟩
noncomputable def Gr : PSs := #[.asg [2] (.cmp .Eq [0] (.cst (.str "src"))),.cond (.cmp .Eq [1] {1}) #[.asg [2] (.not [2])] .nil,.ret (.ite [2] {16} {32})]
noncomputable def O7 : Row := ⟨["manip", "direction"], ["manip", "direction", "is_source"], Gr, [], none⟩
noncomputable def C3 : PSs := #[.asg [3] (.call 13 #[[0],.ite (.cmp .Eq (.idx [1] {0}) {2}) {2048} {34525}]),.expr (.call 45 #[[3],[1],[2]]),.ret (.blt .bytes #[.attr [3] "data"])]
noncomputable def FE : Row := ⟨["octets", "t", "manip"], ["octets", "t", "manip", "packet"], C3, [], none⟩
noncomputable def Cu : PSs := #[.asg [3] (.call 16 #[[0],.cst (.str "transport"),{8},.blt .max #[{0},.bin .Sub (.bin .Sub (.blt .len #[.attr [0] "data"]) (.attr [0] "off")) {8}]]),.cond (.cmp .IsNot [3] (.cst .none)) #[.expr (.call 43 #[[0],.cst (.str "transport"),{8},.call 47 #[[3],[1],[2]]])] .nil]
noncomputable def H8 : Row := ⟨["packet", "t", "manip"], ["packet", "t", "manip", "octets"], Cu, [], none⟩
noncomputable def Bq : PSs := #[.asg [2] (.attr [0] "talk"),.cond (.bop .Or #[.cmp .Is [2] (.cst .none),.cmp .Eq (.bin .BitAnd (.attr [2] "status") (.call 46 #[[1],.attr [0] "is_reply"])) {0}]) #[.ret (.cst .none)] .nil,.asg [3] (.call 37 #[[2],.bin .Sub {1} (.attr [0] "is_reply")]),.cond (.call 41 #[.attr [0] "packet"]) #[.expr (.call 48 #[.attr [0] "packet",[3],.ite (.cmp .Eq [1] (.cst (.str "src"))) (.cst (.str "dst")) (.cst (.str "src"))])] .nil,.asg [4] (.call 36 #[[3]]),.cond (.cmp .IsNot [4] (.cst .none)) #[.expr (.call 45 #[.attr [0] "packet",[4],[1]])] .nil]
noncomputable def L0 : Row := ⟨["scene", "manip"], ["scene", "manip", "talk", "side", "t"], Bq, [], none⟩
noncomputable def Kq : PSs := #[.asg (.attr [0] "packet") [1],.asg (.attr [0] "now") [3],.asg (.attr [0] "hook") [4],.asg (.attr [0] "talk") (.cst .none),.asg (.attr [0] "state") {1},.asg (.attr [0] "is_reply") {0},.asg (.attr [0] "talks") (.cst .none),.asg (.attr [0] "sets") .dct0,.asg (.attr [0] "objects") .dct0,.asg (.attr [0] "fields") [2],.asg (.attr [0] "readers") .dct0,.asg (.attr [0] "doers") .dct0,.asg (.attr [0] "ops") .dct0,.asg (.attr [0] "tools") .dct0,.asg (.attr [0] "order") (.cst (.str "little")),.asg (.attr [0] "log") (.lst .nil),.asg (.attr [0] "replies") (.lst .nil),.asg (.attr [0] "steps") (.cst .none),.asg (.attr [0] "homes") .dct0]
noncomputable def Qv : Row := ⟨["self", "packet", "fields", "now", "hook"], ["self", "packet", "fields", "now", "hook"], Kq, [.int 0, .str "input"], some 445⟩
noncomputable def DM : PSs := #[.ret (.ite (.cmp .Lt [1] (.blt .len #[[0]])) (.idx [0] [1]) {0})]
noncomputable def JZ : Row := ⟨["script", "place"], ["script", "place"], DM, [], none⟩
noncomputable def Dc : PSs := #[.ret (.comp (.bin .Mod (.bin .FloorDiv [0] (.bin .Pow {256} (.bin .Sub (.bin .Sub [1] {1}) [2]))) {256}) 2 (.blt .range #[[1]]) .nil)]
noncomputable def IT : Row := ⟨["number", "size"], ["number", "size", "k"], Dc, [], none⟩
noncomputable def DN : PSs := #[.asg [1] (.blt .sum #[.comp (.bin .Mult (.idx [0] [2]) (.ite (.cmp .Eq (.bin .Mod [2] {2}) {0}) {256} {1})) 2 (.blt .range #[.blt .len #[[0]]]) .nil]),.ret (.bin .Sub {65535} (.ite (.cmp .Eq [1] {0}) {0} (.bin .Add (.bin .Mod (.bin .Sub [1] {1}) {65535}) {1})))]
noncomputable def K0 : Row := ⟨["octets"], ["octets", "total", "k"], DN, [], none⟩
noncomputable def D9 : PSs := #[.asg [3] (.call 53 #[.bin .Add [2] [0]]),.ret (.bin .Add (.bin .Add (.slc [0] (.cst .none) [1]) (.call 52 #[[3],{2}])) (.slc [0] (.bin .Add [1] {2}) (.cst .none)))]
noncomputable def IQ : Row := ⟨["octets", "place", "ahead"], ["octets", "place", "ahead", "check"], D9, [], none⟩
noncomputable def Da : PSs := #[.asg [5] (.ite (.cmp .Eq [0] {2}) {4} {16}),.ret (.bin .Add (.bin .Add (.bin .Add (.call 52 #[[1],[5]]) (.call 52 #[[2],[5]])) (.lst #[{0},{0},{0},[3]])) (.call 52 #[[4],{4}]))]
noncomputable def IR : Row := ⟨["nfproto", "source", "target", "protocol", "many"], ["nfproto", "source", "target", "protocol", "many", "size"], Da, [], none⟩
noncomputable def Db : PSs := #[.cond (.cmp .Eq [0] {2}) #[.asg [6] (.bin .Add (.bin .Add (.lst #[.bin .Add {69} [5],{0}]) (.call 52 #[.bin .Add (.bin .Add {20} (.bin .Mult {4} [5])) (.blt .len #[[4]]),{2}])) (.lst #[{18},{52},{64},{0},{63},[3],{0},{0}])),.asg [6] (.bin .Add (.bin .Add (.bin .Add [6] (.call 52 #[[1],{4}])) (.call 52 #[[2],{4}])) (.bin .Mult (.lst #[{1}]) (.bin .Mult {4} [5]))),.ret (.bin .Add (.call 54 #[[6],{10},.lst .nil]) [4])] .nil,.asg [7] (.ite (.cmp .Gt [5] {0}) (.lst #[[3],{0},{1},{4},{0},{0},{0},{0}]) (.lst .nil)),.asg [6] (.bin .Add (.bin .Add (.lst #[{96},{0},{0},{9}]) (.call 52 #[.bin .Add (.blt .len #[[7]]) (.blt .len #[[4]]),{2}])) (.lst #[.ite (.cmp .Gt [5] {0}) {60} [3],{63}])),.ret (.bin .Add (.bin .Add (.bin .Add (.bin .Add [6] (.call 52 #[[1],{16}])) (.call 52 #[[2],{16}])) [7]) [4])]
noncomputable def IS : Row := ⟨["nfproto", "source", "target", "protocol", "data", "extra"], ["nfproto", "source", "target", "protocol", "data", "extra", "head", "more"], Db, [], none⟩
noncomputable def DI : PSs := #[.asg (.tup #[[4],[5],[6],[7],[8],[9]]) [0],.cond (.cmp .In [5] (.lst #[{1},{58}])) #[.asg [10] (.bin .Add (.bin .Add (.bin .Add (.bin .Add (.call 52 #[[9],{2}]) (.lst #[{0},{0}])) (.call 52 #[[7],{2}])) (.lst #[{0},{1}])) [1]),.asg [11] {2}] #[.cond (.cmp .Eq [5] {17}) #[.asg [10] (.bin .Add (.bin .Add (.bin .Add (.bin .Add (.call 52 #[[7],{2}]) (.call 52 #[[9],{2}])) (.call 52 #[.bin .Add {8} (.blt .len #[[1]]),{2}])) (.lst #[{0},{0}])) [1]),.asg [11] {6}] #[.cond (.cmp .Eq [5] {6}) #[.asg [10] (.bin .Add (.bin .Add (.call 52 #[[7],{2}]) (.call 52 #[[9],{2}])) (.lst #[{1},{2},{3},{4},{250},{6},{7},{8},{80},{24},{2},{0},{0},{0},{0},{0}])),.asg [10] (.bin .Add [10] [1]),.asg [11] {16}] #[.ret (.call 56 #[[4],[6],[8],[5],.bin .Add (.lst #[{0},{0},{8},{0},{7},{7},{7},{7}]) [1],[2]])]]],.cond (.not [3]) #[.asg [12] (.ite (.cmp .Eq [5] {1}) (.lst .nil) (.call 55 #[[4],[6],[8],[5],.blt .len #[[10]]])),.asg [10] (.call 54 #[[10],[11],[12]]),.cond (.bop .And #[.cmp .Eq [5] {17},.cmp .Eq (.slc [10] {6} {8}) (.lst #[{0},{0}])]) #[.asg [10] (.bin .Add (.bin .Add (.slc [10] (.cst .none) {6}) (.lst #[{255},{255}])) (.slc [10] {8} (.cst .none)))] .nil] .nil,.ret (.call 56 #[[4],[6],[8],[5],[10],[2]])]
noncomputable def JV : Row := ⟨["t", "data", "extra", "is_bare"], ["t", "data", "extra", "is_bare", "nfproto", "protocol", "source", "sport", "target", "dport", "octets", "place", "ahead"], DI, [], none⟩
noncomputable def DL : PSs := #[.asg [5] (.bin .Add (.lst #[[3],{1},{0},{0},{0},{0},{5},{220}]) [4]),.cond (.cmp .Eq [0] {2}) #[.ret (.call 56 #[{2},[1],[2],{1},.call 54 #[[5],{2},.lst .nil],{0}])] .nil,.asg [6] (.call 55 #[{10},[1],[2],{58},.blt .len #[[5]]]),.ret (.call 56 #[{10},[1],[2],{58},.call 54 #[[5],{2},[6]],{0}])]
noncomputable def JY : Row := ⟨["nfproto", "source", "target", "kind", "inner"], ["nfproto", "source", "target", "kind", "inner", "octets", "ahead"], DL, [], none⟩
noncomputable def Dd : PSs := #[.asg (.tup #[[1],[2],[3],[4],[5],[6]]) [0],.cond (.cmp .NotIn [2] (.lst #[{1},{58}])) #[.ret (.tup #[[1],[2],[5],[6],[3],[4]])] .nil,.asg [7] (.idx (.dct [(8, 0), (0, 8), (13, 14), (14, 13), (128, 129), (129, 128)]) (.bin .FloorDiv [6] {256})),.ret (.tup #[[1],[2],[5],[4],[3],.bin .Add (.bin .Mult {256} [7]) (.bin .Mod [6] {256})])]
noncomputable def IU : Row := ⟨["t"], ["t", "nfproto", "protocol", "source", "sport", "target", "dport", "kind"], Dd, [], none⟩
noncomputable def DJ : PSs := #[.asg [3] (.cmp .In (.idx [0] {1}) (.lst #[{1},{58}])),.cond (.cmp .Eq [2] (.cst (.str "src"))) #[.ret (.bin .Add (.bin .Add (.slc [0] (.cst .none) {2}) (.slc [1] {2} {4})) (.slc [0] {4} (.cst .none)))] .nil,.ret (.bin .Add (.slc [0] (.cst .none) {3}) (.tup #[.ite [3] (.idx [1] {3}) (.idx [0] {3}),.idx [1] {4},.ite [3] (.idx [0] {5}) (.idx [1] {5})]))]
noncomputable def JW : Row := ⟨["t", "goal", "side"], ["t", "goal", "side", "is_ping"], DJ, [], none⟩
noncomputable def Br : PSs := #[.asg [8] (.call 13 #[.blt .bytes #[[2]],.ite (.cmp .Eq [3] {2}) {2048} {34525}]),.asg [9] (.call 50 #[[8],.dct0,{1000},.cst (.str "forward")]),.asg (.tup #[[10],[11],[12],[13]]) [7],.asg (.tup #[[14],[15],[16],[17]]) [4],.cond (.cmp .Is [13] (.cst .none)) #[.asg [18] (.call 39 #[[0],{0},.call 34 #[[8]],{1000}]),.cond (.cmp .Is [18] (.cst .none)) #[.ret (.cst (.bool false))] .nil,.asg (.tup #[.attr [9] "talk",.attr [9] "is_reply"]) [18]] #[.cond (.not (.call 42 #[[0],[9],{0}])) #[.ret (.cst (.bool false))] .nil],.cond [17] #[.cond (.bop .Or #[.cmp .IsNot (.attr [9] "talk") (.cst .none),.cmp .NotEq (.tup #[.attr [9] "state",.attr [9] "is_reply"]) (.tup #[{1},{0}])]) #[.ret (.cst (.bool false))] .nil] #[.cond (.bop .Or #[.cmp .Is (.attr [9] "talk") (.cst .none),.cmp .NotEq (.tup #[.attr (.attr [9] "talk") "number",.attr [9] "is_reply"]) (.tup #[.attr [1] "number",[15]])]) #[.ret (.cst (.bool false))] #[.cond (.bop .And #[.cmp .IsNot [13] (.cst .none),.cmp .NotEq (.attr [9] "state") {4}]) #[.ret (.cst (.bool false))] .nil]],.for [19] [5] #[.expr (.call 49 #[[9],[19]]),.asg [20] (.cmp .Eq (.cmp .Eq [19] (.cst (.str "src"))) (.cmp .Eq [15] {0})),.cond (.bop .And #[.not [17],.cmp .Eq (.bin .Mod (.bin .FloorDiv (.attr [1] "status") (.ite [20] {16} {32})) {2}) {1}]) #[.cond (.cmp .Is [13] (.cst .none)) #[.asg [14] (.call 60 #[[14],[6],[19]])] #[.asg [14] (.call 60 #[[14],[6],.ite (.cmp .Eq [19] (.cst (.str "src"))) (.cst (.str "dst")) (.cst (.str "src"))]),.asg [21] (.call 59 #[[6]]),.asg [16] (.ite (.cmp .Eq [19] (.cst (.str "src"))) (.tup #[.idx [21] {2},.idx [16] {1}]) (.tup #[.idx [16] {0},.idx [21] {4}]))]] .nil,.asg [22] (.call 57 #[[14],[10],[11],[12]]),.cond (.cmp .IsNot [13] (.cst .none)) #[.asg (.tup #[[23],[24]]) [13],.asg [22] (.call 58 #[[3],.idx [16] {0},.idx [16] {1},[23],.slc [22] (.cst .none) [24]])] .nil,.cond (.cmp .NotEq (.blt .list #[.attr [8] "data"]) [22]) #[.ret (.cst (.bool false))] .nil],.ret (.cst (.bool true))]
noncomputable def HN : Row := ⟨["book", "talk", "octets", "nfproto", "due", "sides", "goal", "frame"], ["book", "talk", "octets", "nfproto", "due", "sides", "goal", "frame", "packet", "scene", "data", "extra", "is_bare", "error", "now", "direction", "outer", "is_foreign", "hit", "side", "is_source", "told", "whole", "kind", "cut"], Br, [], none⟩
noncomputable def Et : PSs := #[.asg [3] (.lst #[.tup #[{2},{17}],.tup #[{10},{58}],.tup #[{2},{1}],.tup #[{2},{6}],.tup #[{10},{17}],.tup #[{10},{6}],.tup #[{2},{47}]]),.asg (.tup #[[4],[5]]) (.idx [3] (.bin .Mod (.bin .Add (.call 51 #[[0],[1]]) [2]) {7})),.asg [6] (.ite (.cmp .Eq [4] {2}) {0} (.bin .Mult {536939960} (.bin .Pow {2} {96}))),.asg [7] (.lst #[{167772160},{134742016},{3221225472},{2886729728}]),.asg [8] (.comp (.bin .Add (.bin .Add [6] (.idx [7] [15])) (.bin .Mod (.bin .Add (.call 51 #[[0],.bin .Add (.bin .Add [1] {2}) (.bin .Mult {2} [15])]) {5}) {65536})) 15 (.blt .range #[{4}]) .nil),.asg [9] (.comp (.bin .Mod (.bin .Add (.call 51 #[[0],.bin .Add (.bin .Add [1] {3}) (.bin .Mult {2} [15])]) (.idx (.lst #[{4000},{53},{61000},{8053}]) [15])) {65536}) 15 (.blt .range #[{4}]) .nil),.cond (.cmp .In [5] (.lst #[{1},{58}])) #[.asg [10] (.ite (.cmp .Eq [4] {2}) (.idx (.tup #[{8},{13}]) (.bin .Sub (.bin .Mod (.idx [9] {1}) {2}) {1})) {128}),.asg [9] (.lst #[.idx [9] {0},.bin .Mult {256} [10],.idx [9] {2},.bin .Mult {256} [10]])] .nil,.cond (.cmp .Eq [5] {47}) #[.asg [9] (.lst #[{0},{0},{0},{0}])] .nil,.asg [11] (.tup #[[4],[5],.idx [8] {0},.idx [9] {0},.idx [8] {1},.idx [9] {1}]),.asg [12] [11],.asg [13] (.bin .Mod (.bin .Add (.call 51 #[[0],.bin .Add [1] {1}]) [2]) {4}),.cond (.cmp .Lt [13] {2}) #[.asg [12] (.bin .Add (.bin .Add (.slc [12] (.cst .none) {2}) (.tup #[.idx [8] {2},.idx [9] {2}])) (.slc [12] {4} (.cst .none)))] .nil,.cond (.cmp .Eq (.bin .Mod [13] {2}) {0}) #[.asg [12] (.bin .Add (.slc [12] (.cst .none) {4}) (.tup #[.idx [8] {3},.idx [9] {3}]))] .nil,.asg [14] (.call 27 #[.bin .Add {5} [2],[11],.call 59 #[[12]],{0}]),.asg (.attr [14] "until") {1001},.asg (.attr [14] "status") (.bin .Add (.bin .Add (.bin .Add {14} {384}) (.ite (.cmp .Lt [13] {2}) {16} {0})) (.ite (.cmp .Eq (.bin .Mod [13] {2}) {0}) {32} {0})),.ret (.tup #[[14],[12]])]
noncomputable def L9 : Row := ⟨["script", "base", "number"], ["script", "base", "number", "kinds", "nfproto", "protocol", "far", "firsts", "spots", "ports", "asks", "original", "out", "which", "talk", "k"], Et, [], none⟩
noncomputable def DK : PSs := #[.asg [2] (.bin .Mult {16} [1]),.asg (.tup #[[3],[4]]) (.call 62 #[[0],[2],[1]]),.asg (.tup #[[5],[6]]) (.slc [4] (.cst .none) {2}),.asg [7] (.call 28 #[{64},{0}]),.asg (.idx (.attr [7] "table") (.tup #[{0},.attr [3] "original"])) (.tup #[.attr [3] "number",{0}]),.asg (.idx (.attr [7] "table") (.tup #[{0},.attr [3] "reply"])) (.tup #[.attr [3] "number",{1}]),.asg (.idx (.attr [7] "talks") (.attr [3] "number")) [3],.asg [8] (.call 51 #[[0],.bin .Add [2] {10}]),.asg [9] (.slc (.call 52 #[.bin .Add [8] {323512336240469276417},{9}]) (.bin .Mod (.bin .Add (.bin .Add [8] {4}) [1]) {9}) (.cst .none)),.asg [10] (.ite (.cmp .Eq [5] {2}) (.bin .Mod (.bin .Add (.call 51 #[[0],.bin .Add [2] {11}]) {1}) {3}) (.bin .Mod (.bin .Add (.call 51 #[[0],.bin .Add [2] {11}]) {1}) {2})),.asg [11] (.bop .And #[.cmp .Eq [5] {2},.cmp .Eq [6] {17},.cmp .Eq (.bin .Mod (.bin .FloorDiv (.call 51 #[[0],.bin .Add [2] {11}]) {3}) {4}) {3}]),.asg [12] (.ite (.cmp .Eq (.bin .Mod (.bin .FloorDiv (.call 51 #[[0],.bin .Add [2] {1}]) {4}) {2}) {0}) (.lst #[.cst (.str "dst"),.cst (.str "src")]) (.lst #[.cst (.str "src"),.cst (.str "dst")])),.asg [13] (.ite (.cmp .Eq [5] {2}) (.bin .Add {20} (.bin .Mult {4} [10])) (.bin .Add {40} (.bin .Mult {8} [10]))),.for [14] (.blt .range #[{2}]) #[.asg [15] (.ite (.cmp .Eq [14] {0}) (.attr [3] "original") (.attr [3] "reply")),.asg [16] (.ite (.cmp .Eq [14] {0}) [4] (.call 59 #[.attr [3] "original"])),.asg [17] (.call 57 #[[15],[9],[10],[11]]),.asg [18] (.tup #[[15],[14],.cst .none,.cst (.bool false)]),.cond (.not (.call 61 #[[7],[3],[17],[5],[18],[12],[16],.tup #[[9],[10],[11],.cst .none]])) #[.ret (.cst (.bool false))] .nil,.asg [19] (.call 59 #[[16]]),.asg [15] (.ite (.cmp .Eq [14] {0}) (.call 59 #[.attr [3] "original"]) [4]),.asg [8] (.call 51 #[[0],.bin .Add (.bin .Add [2] {12}) [14]]),.asg [20] (.idx (.lst #[.bin .Add [13] {8},{200},.bin .Add [13] (.ite (.cmp .In [6] (.lst #[{6},{17},{47}])) {4} {8}),.bin .Add [13] {8}]) (.bin .Mod (.bin .Add [8] [14]) {4})),.asg [21] (.ite (.cmp .Eq [5] {2}) (.lst #[{3},{11},{4},{12},{5}]) (.lst #[{1},{3},{2},{4}])),.asg [22] (.idx [21] (.bin .Mod (.bin .FloorDiv [8] {4}) (.blt .len #[[21]]))),.asg [23] (.cmp .Eq (.bin .Mod (.call 51 #[[0],.bin .Add (.bin .Add [2] {14}) [14]]) {8}) {7}),.asg [24] (.ite (.cmp .Eq [5] {2}) {0} (.bin .Mult {536939960} (.bin .Pow {2} {96}))),.asg [25] (.tup #[.bin .Add (.bin .Add [24] {1681915904}) (.bin .Mod (.call 51 #[[0],.bin .Add (.bin .Add [2] {14}) [14]]) {65536}),.bin .Add (.idx [15] {2}) (.ite [23] {1} {0})]),.asg [26] (.slc (.call 57 #[[15],[9],[10],[11]]) (.cst .none) [20]),.asg [17] (.call 58 #[[5],.idx [25] {0},.idx [25] {1},[22],[26]]),.asg [18] (.tup #[[15],[14],[25],[23]]),.asg [27] (.tup #[[9],[10],[11],.tup #[[22],[20]]]),.cond (.not (.call 61 #[[7],[3],[17],[5],[18],[12],[19],[27]])) #[.ret (.cst (.bool false))] .nil],.ret (.cst (.bool true))]
noncomputable def JX : Row := ⟨["script", "number"], ["script", "number", "base", "talk", "out", "nfproto", "protocol", "book", "digit", "data", "extra", "is_bare", "sides", "head", "direction", "start", "goal", "octets", "due", "inner", "cut", "kinds", "kind", "is_foreign", "far", "outer", "whole", "frame"], DK, [], none⟩
noncomputable def Q4 : PSs := #[.ret (.bop .And #[.call 63 #[[0],{0}],.call 63 #[[0],{1}]])]
noncomputable def Sr : Row := ⟨["script"], ["script"], Q4, [], none⟩
end
noncomputable def rows : List (Option Row) := [none, some L6, some L5, some Pb, some RE, some Qu, some L7, some O1, some Me, some Qt, some Mg, some Pd, some RG, some L4, some L8, some O8, some RD, some Mc, some L2, some Pc, some Mb, some Mf, some O4, some JR, some JU, some L1, some IO, some RH, some Mi, some O6, some Mh, some IP, some Md, some Ma, some M9, some IN, some Pa, some O2, none, some O5, some H7, some FD, some JT, some L3, some JS, some O3, some O7, some FE, some H8, some L0, some Qv, some JZ, some IT, some K0, some IQ, some IR, some IS, some JV, some JY, some IU, some JW, some HN, some L9, some JX, some Sr]
section
variable {K : Frag} {h : Heap} {o : Option Value}
noncomputable def OT (K : Frag) : Nat → List Str → List (Option Row)
 | _, [] => []
 | i, x :: r => (if i == 0 || i == 38 then none else Jg K ⟨fns, attrs, Gb i⟩ i x) :: OT K (i + 1) r
theorem Qj {x : Str} {r : Row} (l : List Str) : ∀ (k i : Nat), l[i]? = some x → ((OT K k l)[i]?).join = some r → Jg K ⟨fns, attrs, Gb (k + i)⟩ (k + i) x = some r := by
 induction l with
 | nil => intro k i h; cases h
 | cons y l ih =>
  intro k i hx hr
  cases i with
  | zero =>
   cases hx
   have hr : (if k == 0 || k == 38 then none else Jg K ⟨fns, attrs, Gb k⟩ k x) = some r := hr
   exact R8 hr fun ω h => h
  | succ i => rw [← Nat.succ_add_eq_add_succ]; exact ih (k + 1) i hx hr
theorem tbl (P : Params) : OT (KK P) 0 fns = rows := by kernel_rfl
theorem Qr (P : Params) (i : Nat) (x : Str) (r : Row) (hx : fns[i]? = some x) (hr : (rows[i]?).join = some r) : Jg (KK P) ⟨fns, attrs, Gb i⟩ i x = some r := by
 have := Qj (K := KK P) fns 0 i hx (by rw [tbl]; exact hr)
 rwa [Nat.zero_add] at this
set_option tactic.hygienic true in
theorem Sy {mg : Str → Option Value} (X : K.In h) (n : h.Ns mainGlobals mg) (hd : (match K.lookup mainGlobals with | some ⟨_, _, .dict es _, _⟩ => true | _ => false) = true) (x : Str) : mg x = K9 K x := by
 (refine Nk n fun o es ep ho hdat hk hm => ?_; clear n)
 unfold K9
 split at hd
 ·rename_i c d es' ep' sl hl
  have := X _ _ hl
  rw [ho] at this
  cases this
  cases hdat
  first | rw [hl, ← hm x] | rw [← hm x]
  dsimp only [nsFind, findBy]
  rw [← Array.find?_toList]
 ·cases hd
noncomputable def σ0 : Sto := fun ω => none
theorem foot0 {x : Addr} (f : foot σ0 x) : False := by (refine Bu f fun a o e ω => ?_; clear f); cases e
theorem Tm (W : Wd) (s : Shared) (hh : W.h₀ = s.heap) (hg : s.gens = W.gens) (ho : s.os = W.os) : StR W σ0 s :=
 ⟨fun b o e => by rw [← hh]; exact e, fun x f => (foot0 f).elim, fun a o e => by (cases e), fun a b o o' e => by (cases e), fun a C da fs e => by (cases e), hg, ho, fun x f => (foot0 f).elim⟩
theorem P8 {σ : Sto} {vs : List Value} {ns : List Int} (r__ : IntsAre vs ns) : Rps σ h vs (ns.map .int) := by
 induction r__ with
 | nil =>
  exact .nil
 | cons i t r ih__ =>
  exact .cons _ _ _ _ (.int _ _) ih__
theorem SO (P : Params) : (match (KK P).lookup mainGlobals with | some ⟨_, _, .dict es _, _⟩ => true | _ => false) = true := by kernel_rfl
theorem TI (P : Params) : (fns.all fun x => match K9 (KK P) x with | some (.ref a) => keepIn (KK P) (.ref a) | _ => false) = true := by kernel_rfl
theorem SM (P : Params) : (MU.all fun p => (K9 (KK P) p.1).isNone) = true := by kernel_rfl
theorem SV : (MU.all fun p => decide (bootBuiltins p.1 = some (Q2 p.2)) && !(p.1 == ("__debug__" : Str)) && !(p.1 == ("__name__" : Str))) = true := by decide +kernel
theorem SN (P : Params) : (PJ.all fun p => (match K9 (KK P) p.1 with | some (.int j _) => j == p.2 | _ => false) && !(p.1 == ("__debug__" : Str))) = true := by kernel_rfl
theorem TL : (fns.all fun x => !(x == ("__debug__" : Str))) = true := by decide +kernel
theorem TJ : CO fns ("super" : Str) = none := by decide +kernel
theorem not_of {b : Bool} (h : (!b) = true) : b = false := by cases b with | true => cases h | false => rfl
theorem RO {j : Int} (h : (match o with | some (.int k _) => k == j | _ => false) = true) : ∃ t, o = some (.int j t) := by
 cases o with
 | none => cases h
 | some v => cases v with
  | int k t => exact ⟨t, by rw [beq_iff_eq.mp h]⟩
  | _ => cases h
theorem RB (h : (match o with | some (.ref a) => keepIn K (.ref a) | _ => false) = true) : ∃ a, o = some (.ref a) ∧ keepIn K (.ref a) = true := by
 cases o with
 | none => cases h
 | some v => cases v with
  | ref a => exact ⟨a, rfl, h⟩
  | _ => cases h
theorem facts {P : Params} {W : Wd} (hK : W.K = KK P) (ha : W.attrs = attrs) : Q9 W fns attrs Gb rows := by
 have mgx : ∀ x, W.mg x = K9 (KK P) x := fun x => hK ▸ Sy W.KX W.g (by rw [hK]; exact SO P) x
 refine ⟨ha, TJ, fun x hx => not_of (List.all_eq_true.mp TL x hx), fun x v h => by rw [mgx, ← hK]; exact h, fun x b h => ?_, fun x i h => ?_, fun i x hx => ?_, fun i x r hx hr => hK ▸ Qr P i x r hx hr⟩
 ·have h := AN h
  have h1 := List.all_eq_true.mp (SM P) _ h
  have h2 := List.all_eq_true.mp SV _ h
  have h3 := Bool.and_eq_true_iff.mp h2
  have h4 := Bool.and_eq_true_iff.mp h3.1
  exact ⟨(mgx x).trans (Option.isNone_iff_eq_none.mp h1), (W.bi _ (beq_eq_false_iff_ne.mp (not_of h3.2))).trans (of_decide_eq_true h4.1), not_of h4.2⟩
 ·have h1 := Bool.and_eq_true_iff.mp (List.all_eq_true.mp (SN P) _ (AN h))
  exact ⟨(RO h1.1).elim fun t e => ⟨t, (mgx x).trans e⟩, not_of h1.2⟩
 ·exact (RB (List.all_eq_true.mp (TI P) x (List.mem_of_getElem? hx))).elim fun a e => ⟨a, (by rw [hK]; exact e.1), hK ▸ e.2⟩
set_option maxHeartbeats 4000000 in
set_option tactic.hygienic true in
theorem final (plain : ∀ ns : List Int, ns.length ≤ 63 → Ab rows 65 64 [.lst (ns.map .int)] σ0 (fun d ω => d = .bool true)) : PySem.Challenge.rw_pq1099_01.Holds := by
 refine hd ?_
 intro w s₀ s₁ mg mb G Y a o pm cd doc dV kV ho hdt hcd hD hmg hg args vals as hpre hlay hrd hwl hlo
 wrow_args hpre hlay hrd hwl hlo
 rename_i ns _ _ _ _ _ _ _ l vs _ hL _ _ _ hI _ hcond _
 let W : Wd := { prog := PySem.Challenge.rw_pq1099_01.row.prog, w := w, K := KK w.params, h₀ := s₁.heap, gens := s₁.gens, os := s₁.os, attrs := attrs, mg := mg, mb := mb, KX := kIn_of Y, g := G.T.g, b := G.T.b, lim := G.T.nolimit, bi := G.T.builtins }
 have F : Q9 W fns attrs Gb rows := facts (P := w.params) rfl rfl
 refine C8 (SU F 65 (by decide +kernel) 64 (by decide) "law" (by kernel_rfl)) fun f h1 h2 h3 => ?_
 have hmg' : W.mg "law" = some (.ref a) := hmg
 rw [hmg'] at h1
 cases h1
 have R0 : StR W σ0 s₁ := Tm W s₁ rfl rfl rfl
 have rl : Rp σ0 s₁.heap (.ref l) (.lst (ns.map .int)) := .lst l vs _ (fun f => foot0 f) hL (P8 hI)
 refine h3 callerA _ s₁ σ0 [.ref l] [.lst (ns.map .int)] (fun d ω => d = .bool true) _ ⟨rfl, by decide, by decide⟩ R0 (.cons _ _ _ _ rl .nil) (plain ns (by omega)) ?_
 rintro v s' d σ' rfl R' S' r
 cases r with | bool b =>
 exact ⟨.inl ⟨_, .bool true, [], rfl, raisesW_false (by wrow_none_raised), .bool true, (by wrow_post), unshared_nil⟩, .of_keep R'.stays, R'.os, .of_eq (R'.gens.trans hg)⟩
end
section
variable {K : B9} {Φ : Bn} {i n : Nat} {e o : PE} {es r : PEs} {ρ : Rho} {σ : Sto} {x : Str}
theorem Jq {α : Type} {df vs : List α} (h : vs.length = n) : Cs n df vs = vs := by
 unfold Cs
 rw [h, Nat.sub_self, Nat.sub_zero, List.drop_length, List.append_nil]
theorem Am {n m : Nat} {r : Row} {ds : List D} (b : PSs) (h : m < n) (hr : (rows[m]?).join = some r) (hc : r.cls = none) (hb : r.body = b) (hl : ds.length = r.ps.length) (hρ : HM r.nm r.ps ds = ρ) (hw : Ak (Ab rows m) b ρ σ (Bh K)) : Ab rows n m ds σ K := by
 rw [Ho h hr]
 unfold FU
 rw [hc]
 refine ⟨Nat.le_of_eq hl, ?_, ?_⟩
 ·rw [Jq hl]; exact hl
 ·rw [Jq hl, hρ, hb]; exact hw
theorem Ta {op : BoolOp} : wpB Φ op (.cons e .nil) ρ σ K = wpE Φ e ρ σ K := rfl
theorem Tb {e e' : PE} : wpB Φ .And (.cons e (.cons e' r)) ρ σ K = wpE Φ e ρ σ fun d σ₁ => ∃ b, Du d = some b ∧ ((b = true → wpB Φ .And (.cons e' r) ρ σ₁ K) ∧ (b = false → K d σ₁)) := rfl
theorem Tl {e e' : PE} : wpB Φ .Or (.cons e (.cons e' r)) ρ σ K = wpE Φ e ρ σ fun d σ₁ => ∃ b, Du d = some b ∧ ((b = false → wpB Φ .Or (.cons e' r) ρ σ₁ K) ∧ (b = true → K d σ₁)) := rfl
theorem S9 {K : Bool → Sto → Prop} : JD Φ .And .nil ρ σ K = K true σ := rfl
theorem OP {K : Bool → Sto → Prop} : JD Φ .Or .nil ρ σ K = K false σ := rfl
theorem Sb {K : Bool → Sto → Prop} : JD Φ .And (.cons e r) ρ σ K = wpT Φ e ρ σ fun b σ₁ => (b = true → JD Φ .And r ρ σ₁ K) ∧ (b = false → K b σ₁) := rfl
theorem Qc {K : Bool → Sto → Prop} : JD Φ .Or (.cons e r) ρ σ K = wpT Φ e ρ σ fun b σ₁ => (b = false → JD Φ .Or r ρ σ₁ K) ∧ (b = true → K b σ₁) := rfl
theorem Fr {K : Bool → Sto → Prop} : wpC Φ .nil ρ σ K = K true σ := rfl
theorem Qg {K : Bool → Sto → Prop} : wpC Φ (.cons e .nil) ρ σ K = wpT Φ e ρ σ K := rfl
theorem KA {f : Nat} (h : Fq Φ es ρ σ fun ds σ₁ => Φ f ds σ₁ K) : wpE Φ (.call f es) ρ σ K := h
theorem OR (h : wpE Φ o ρ σ fun d σ₁ => C4 σ₁ d x fun v => K v σ₁) : wpE Φ (.attr o x) ρ σ K := h
theorem Kz {d : D} (e : ρ[i]? = some (some d)) (h : K d σ) : wpE Φ (.loc i) ρ σ K := by
 show (match ρ[i]? with | some (some d) => K d σ | _ => False)
 rw [e]; exact h
theorem Ew {K : List D → Sto → Prop} (h : wpE Φ e ρ σ fun d σ₁ => Fq Φ es ρ σ₁ fun ds σ₂ => K (d :: ds) σ₂) : Fq Φ (.cons e es) ρ σ K := h
theorem T1 {d : D} {K : Rho → Sto → Prop} : Ap Φ (.loc i) d ρ σ K = (i < ρ.length ∧ K (ρ.set i (some d)) σ) := rfl
theorem Sa {d : D} {K : Rho → Sto → Prop} : Ap Φ (.attr o x) d ρ σ K = wpE Φ o ρ σ fun r σ₁ => ∃ a C da fs, r = .ref a ∧ σ₁ a = some (.inst C da fs) ∧ fs.length < 400 ∧ K ρ (σ₁.upd a (.inst C da (IV x d fs))) := rfl
theorem T2 {o i : PE} {d : D} {K : Rho → Sto → Prop} : Ap Φ (.idx o i) d ρ σ K = wpE Φ o ρ σ fun r σ₁ => wpE Φ i ρ σ₁ fun k σ₂ => P6 σ₂ r k d fun σ' => K ρ σ' := rfl
theorem T0 {o lo hi : PE} {d : D} {K : Rho → Sto → Prop} : Ap Φ (.slc o lo hi) d ρ σ K = wpE Φ o ρ σ fun r σ₁ => wpE Φ lo ρ σ₁ fun a σ₂ => wpE Φ hi ρ σ₂ fun b σ₃ => Ng σ₃ r a b d fun σ' => K ρ σ' := rfl
theorem tu2 {i0 i1 : Nat} {a0 a1 : D} {K : Rho → Sto → Prop} (h : (Nat.ble (i0 + 1) ρ.length && Nat.ble (i1 + 1) ρ.length) = true) (k : K ((ρ.set i0 (some a0)).set i1 (some a1)) σ) : Ap Φ (.tup (.cons (.loc i0) (.cons (.loc i1) .nil))) (.tup [a0, a1]) ρ σ K := by
 simp only [Bool.and_eq_true, Nat.ble_eq] at h
 (refine oa2 h fun h0 h1 => ?_; clear h)
 exact ⟨_, rfl, rfl, _, _, rfl, (by first | exact h0 | (simp only [List.length_set]; exact h0)), _, _, rfl, (by first | exact h1 | (simp only [List.length_set]; exact h1)), rfl, k⟩
theorem tu4 {i0 i1 i2 i3 : Nat} {a0 a1 a2 a3 : D} {K : Rho → Sto → Prop} (h : (Nat.ble (i0 + 1) ρ.length && Nat.ble (i1 + 1) ρ.length && Nat.ble (i2 + 1) ρ.length && Nat.ble (i3 + 1) ρ.length) = true) (k : K ((((ρ.set i0 (some a0)).set i1 (some a1)).set i2 (some a2)).set i3 (some a3)) σ) : Ap Φ (.tup (.cons (.loc i0) (.cons (.loc i1) (.cons (.loc i2) (.cons (.loc i3) .nil))))) (.tup [a0, a1, a2, a3]) ρ σ K := by
 simp only [Bool.and_eq_true, Nat.ble_eq] at h
 (refine oa2 h fun zq1 h3 => oa2 zq1 fun zq2 h2 => oa2 zq2 fun h0 h1 => ?_; clear h)
 exact ⟨_, rfl, rfl, _, _, rfl, (by first | exact h0 | (simp only [List.length_set]; exact h0)), _, _, rfl, (by first | exact h1 | (simp only [List.length_set]; exact h1)), _, _, rfl, (by first | exact h2 | (simp only [List.length_set]; exact h2)), _, _, rfl, (by first | exact h3 | (simp only [List.length_set]; exact h3)), rfl, k⟩
theorem tu6 {i0 i1 i2 i3 i4 i5 : Nat} {a0 a1 a2 a3 a4 a5 : D} {K : Rho → Sto → Prop} (h : (Nat.ble (i0 + 1) ρ.length && Nat.ble (i1 + 1) ρ.length && Nat.ble (i2 + 1) ρ.length && Nat.ble (i3 + 1) ρ.length && Nat.ble (i4 + 1) ρ.length && Nat.ble (i5 + 1) ρ.length) = true) (k : K ((((((ρ.set i0 (some a0)).set i1 (some a1)).set i2 (some a2)).set i3 (some a3)).set i4 (some a4)).set i5 (some a5)) σ) : Ap Φ (.tup (.cons (.loc i0) (.cons (.loc i1) (.cons (.loc i2) (.cons (.loc i3) (.cons (.loc i4) (.cons (.loc i5) .nil))))))) (.tup [a0, a1, a2, a3, a4, a5]) ρ σ K := by
 simp only [Bool.and_eq_true, Nat.ble_eq] at h
 (refine oa2 h fun zq1 h5 => oa2 zq1 fun zq2 h4 => oa2 zq2 fun zq3 h3 => oa2 zq3 fun zq4 h2 => oa2 zq4 fun h0 h1 => ?_; clear h)
 exact ⟨_, rfl, rfl, _, _, rfl, (by first | exact h0 | (simp only [List.length_set]; exact h0)), _, _, rfl, (by first | exact h1 | (simp only [List.length_set]; exact h1)), _, _, rfl, (by first | exact h2 | (simp only [List.length_set]; exact h2)), _, _, rfl, (by first | exact h3 | (simp only [List.length_set]; exact h3)), _, _, rfl, (by first | exact h4 | (simp only [List.length_set]; exact h4)), _, _, rfl, (by first | exact h5 | (simp only [List.length_set]; exact h5)), rfl, k⟩
noncomputable def num (l : List UInt8) : Nat := l.foldl (fun n u => n * 256 + u.toNat) 0
theorem CS (a b : Nat) : Builtin.bitAnd (a : Int) (b : Int) = ((a &&& b : Nat) : Int) := by
 unfold Builtin.bitAnd
 rw [decide_eq_true (Int.natCast_nonneg a), decide_eq_true (Int.natCast_nonneg b)]
 rfl
theorem OF (a b : Nat) : Builtin.bitOr (a : Int) (b : Int) = ((a ||| b : Nat) : Int) := by
 have h : ∀ n : Nat, ¬ (0 ≤ Builtin.bitNot (n : Int)) := fun n => by unfold Builtin.bitNot; lia
 have h2 : ∀ n : Nat, (Builtin.bitNot (Builtin.bitNot (n : Int))).toNat = n := fun n => by unfold Builtin.bitNot; lia
 unfold Builtin.bitOr Builtin.bitAnd
 rw [decide_eq_false (h a), decide_eq_false (h b)]
 dsimp only
 rw [h2, h2]
 unfold Builtin.bitNot; lia
theorem Pn (n u : Nat) (h : u < 256) : n * 256 ||| u = n * 256 + u := by
 have := (Nat.two_pow_add_eq_or_of_lt (i := 8) (b := u) h n).symm
 rw [Nat.mul_comm n 256]; exact this
theorem Gk (n : Nat) (u : UInt8) : Builtin.bitOr ((n : Int) * 2 ^ (8 : Int).toNat) (u.toNat : Int) = ((n * 256 + u.toNat : Nat) : Int) := by
 have e : (n : Int) * 2 ^ (8 : Int).toNat = ((n * 256 : Nat) : Int) := by norm_cast
 rw [e, OF, Pn _ _ (UInt8.toNat_lt u)]
theorem B2 (a b : Int) (K : D → Prop) : Be .Add (.int a) (.int b) K = K (.int (a + b)) := rfl
theorem ET (a b : Int) (K : D → Prop) : Be .Sub (.int a) (.int b) K = K (.int (a - b)) := rfl
theorem JA (a b : Int) (K : D → Prop) : Be .Mult (.int a) (.int b) K = ((a.natAbs < 2 ^ 60 ∨ b.natAbs < 2 ^ 60) ∧ K (.int (a * b))) := rfl
theorem LI (a b : Int) (K : D → Prop) : Be .FloorDiv (.int a) (.int b) K = ((b ≠ 0 ∧ b.natAbs < 2 ^ 1000) ∧ K (.int (a.fdiv b))) := rfl
theorem DR (a b : Int) (K : D → Prop) : Be .Mod (.int a) (.int b) K = (b ≠ 0 ∧ K (.int (a.fmod b))) := rfl
theorem SX (a b : Int) (K : D → Prop) : Be .Pow (.int a) (.int b) K = ((2 ≤ a ∧ a ≤ 1000 ∧ 0 ≤ b ∧ b ≤ 1000) ∧ K (.int (a ^ b.toNat))) := rfl
theorem SW (a b : Int) (K : D → Prop) : Be .LShift (.int a) (.int b) K = ((a.natAbs < 2 ^ 1000 ∧ 0 ≤ b ∧ b ≤ 1000) ∧ K (.int (a * 2 ^ b.toNat))) := rfl
theorem Ny (a b : Int) (K : D → Prop) : Be .RShift (.int a) (.int b) K = (0 ≤ b ∧ K (.int (a.fdiv (2 ^ b.toNat)))) := rfl
theorem Nz (a b : Int) (K : D → Prop) : Be .BitAnd (.int a) (.int b) K = K (.int (Builtin.bitAnd a b)) := rfl
theorem S7 (a b : Int) (K : D → Prop) : Be .BitOr (.int a) (.int b) K = K (.int (Builtin.bitOr a b)) := rfl
theorem SY (a b : List D) (K : D → Prop) : Be .Add (.lst a) (.lst b) K = (a.length + b.length ≤ 1000000 ∧ K (.lst (a ++ b))) := rfl
theorem Fd (a b : List D) (K : D → Prop) : Be .Add (.tup a) (.tup b) K = (a.length + b.length ≤ 1000000 ∧ K (.tup (a ++ b))) := rfl
theorem TO (a b : List UInt8) (K : D → Prop) : Be .Add (.bytes a) (.bytes b) K = (a.length + b.length ≤ 1000000 ∧ K (.bytes (a ++ b))) := rfl
theorem b_rep (a : List D) (n : Int) (K : D → Prop) : Be .Mult (.lst a) (.int n) K = ((0 ≤ n ∧ n ≤ 1000 ∧ a.length ≤ 1000) ∧ K (.lst ((List.replicate n.toNat a).flatten))) := rfl
theorem FT (a b : Int) (K : Bool → Prop) : Dp .Eq (.int a) (.int b) K = K (a == b) := rfl
theorem OA (a b : Int) (K : Bool → Prop) : Dp .NotEq (.int a) (.int b) K = K (!(a == b)) := rfl
theorem Rj (a b : Str) (K : Bool → Prop) : Dp .Eq (.str a) (.str b) K = K (a == b) := rfl
theorem c_nes (a b : Str) (K : Bool → Prop) : Dp .NotEq (.str a) (.str b) K = K (!(a == b)) := rfl
theorem c_neb (a b : List UInt8) (K : Bool → Prop) : Dp .NotEq (.bytes a) (.bytes b) K = K (!(a == b)) := rfl
theorem c_eqB (a b : Bool) (K : Bool → Prop) : Dp .Eq (.bool a) (.bool b) K = K (a == b) := rfl
theorem LC (a b : Int) (K : Bool → Prop) : Dp .Lt (.int a) (.int b) K = K (decide (a < b)) := rfl
theorem QR (a b : Int) (K : Bool → Prop) : Dp .LtE (.int a) (.int b) K = K (decide (a ≤ b)) := rfl
theorem PZ (a b : Int) (K : Bool → Prop) : Dp .Gt (.int a) (.int b) K = K (decide (b < a)) := rfl
theorem LD (a b : Int) (K : Bool → Prop) : Dp .GtE (.int a) (.int b) K = K (decide (b ≤ a)) := rfl
theorem c_is (a : D) (K : Bool → Prop) : Dp .Is a .none K = K (isNone a) := rfl
theorem c_isn (a : D) (K : Bool → Prop) : Dp .IsNot a .none K = K (!(isNone a)) := rfl
theorem c_in (a b : D) (K : Bool → Prop) : Dp .In a b K = inP a b K := rfl
theorem c_nin (a b : D) (K : Bool → Prop) : Dp .NotIn a b K = inP a b (fun r => K (!r)) := rfl
theorem PM (l : List UInt8) (m k : Nat) (h : m < 256 ^ k) : l.foldl (fun n u => n * 256 + u.toNat) m < 256 ^ (k + l.length) := by
 induction l generalizing m k with
 | nil => exact h
 | cons u l ih =>
  have hu := UInt8.toNat_lt u
  have : m * 256 + u.toNat < 256 ^ (k + 1) := by rw [Nat.pow_succ]; lia
  have := ih _ _ this
  simp only [List.foldl_cons, List.length_cons]
  rw [show k + (l.length + 1) = k + 1 + l.length by lia]
  exact this
theorem RK (l : List UInt8) : num l < 256 ^ l.length := by
 have := PM l 0 0 (by decide)
 simpa [num] using this
theorem Pv {m k : Nat} (h : m < 256 ^ k) (hk : k ≤ 100) : m < 2 ^ 1000 := by
 refine Nat.lt_of_lt_of_le h ?_
 rw [show (256 : Nat) = 2 ^ 8 by rfl, ← Nat.pow_mul]
 exact Nat.pow_le_pow_right (by decide) (by lia)
theorem AK (h : 1 < n) {d : D} {l : List UInt8} (hi : Ah σ d = some (A6 l)) (hz : l.length ≤ 100) (hk : K (.int (num l)) σ) : Ab rows n 1 [d] σ K := by
 refine Am (ρ := [some d, none, none]) Ep h rfl rfl rfl rfl (by kernel_rfl) ?_
 dsimp only [Ep, Ak, wpS, wpE, Ap, Cst.d, List.getElem?_cons_zero, List.getElem?_cons_succ, List.set_cons_zero, List.set_cons_succ, List.length_cons, List.length_nil]
 refine ⟨by lia, _, hi, ?_⟩
 have go : ∀ (r : List UInt8) (m : Nat) (x : Option D), r.foldl (fun n u => n * 256 + u.toNat) m = num l → (∃ k, m < 256 ^ k ∧ k + r.length ≤ 100) → Ec (fun σ_1 => Ah σ_1 d = some (A6 l) ∧ As σ_1 d = As σ d)
   (fun x ρ σ K' => Ap (Ab rows 1) (.loc 2) x ρ σ fun ρ' σ' => Ak (Ab rows 1) (.cons (.asg (.loc 1) (.bin .BitOr (.bin .LShift (.loc 1) (.cst (.int (8)))) (.loc 2))) .nil) ρ' σ' K') (A6 r) [some d, some (.int m), x] σ
   (fun fl ρ' σ' => match fl with
    | .next => Ak (Ab rows 1) (.cons (.ret (.loc 1)) .nil) ρ' σ' (Bh K)
    | .brk => Bh K .brk ρ' σ'
    | .ret d => Bh K (.ret d) ρ' σ') := by
  intro r
  induction r with
  | nil =>
   intro m x hm _
   refine ⟨⟨hi, rfl⟩, ?_⟩
   have hm : m = num l := hm
   rw [hm]
   exact hk
  | cons u r ih =>
   intro m x hm ⟨k, h1, h2⟩
   have hu := UInt8.toNat_lt u
   simp only [List.length_cons] at h2
   refine ⟨⟨hi, rfl⟩, ?_⟩
   show 2 < 3 ∧ Be .LShift (.int m) (.int 8) fun y => Be .BitOr y (.int u.toNat) fun z => 1 < 3 ∧ _
   rw [SW]
   refine ⟨by lia, ⟨by have := Pv h1 (by lia); simpa using this, by decide, by decide⟩, ?_⟩
   rw [S7, Gk]
   exact ⟨by lia, ih _ _ hm ⟨k + 1, by rw [Nat.pow_succ]; lia, by lia⟩⟩
 exact go l 0 none rfl ⟨0, by decide, by lia⟩
end
theorem Do {step : D → (Option D → Prop) → Prop} {f : D → D} {K : List D → Prop} : ∀ (items acc : List D), (∀ x ∈ items, ∀ K' : Option D → Prop, K' (some (f x)) → step x K') → acc.length + items.length ≤ 1000000 → K (acc ++ items.map f) → Jt step items acc K
 | [], acc, _, hl, hk => ⟨by simpa using hl, by simpa using hk⟩
 | x :: r, acc, h, hl, hk => by
  simp only [List.length_cons] at hl
  refine ⟨by lia, h x (List.mem_cons_self ..) _ ?_⟩
  refine Do r _ (fun y hy => h y (List.mem_cons_of_mem _ hy)) (by simp; lia) ?_
  simpa using hk
theorem DC {step : D → (Option D → Prop) → Prop} {g : D → Bool} {K : List D → Prop} : ∀ (items acc : List D), (∀ x ∈ items, ∀ K' : Option D → Prop, K' (if g x then some x else none) → step x K') → acc.length + items.length ≤ 1000000 → K (acc ++ items.filter g) → Jt step items acc K
 | [], acc, _, hl, hk => ⟨by simpa using hl, by simpa using hk⟩
 | x :: r, acc, h, hl, hk => by
  simp only [List.length_cons] at hl
  refine ⟨by lia, h x (List.mem_cons_self ..) _ ?_⟩
  cases hg : g x with
  | true =>
   rw [if_pos rfl]
   refine DC r _ (fun y hy => h y (List.mem_cons_of_mem _ hy)) (by simp; lia) ?_
   simpa [hg] using hk
  | false =>
   rw [if_neg (by decide)]
   refine DC r _ (fun y hy => h y (List.mem_cons_of_mem _ hy)) (by simp; lia) ?_
   simpa [hg] using hk
theorem EL (k : Nat) : Builtin.Range.rangeSize 0 (k : Int) 1 = (k : Int) := by
 unfold Builtin.Range.rangeSize
 simp
 lia
theorem Ci (k : Nat) : B1 0 (k : Int) 1 = (List.range k).map fun (i : Nat) => (i : Int) := by
 unfold B1
 rw [EL]
 simp
theorem Kj {a : Int} (h0 : -1000000000 ≤ a) (h1 : a ≤ 1000000000) : Builtin.Range.rangeFitsLong a = true := by
 unfold Builtin.Range.rangeFitsLong
 rw [decide_eq_true (show -(2 ^ 63) ≤ a by lia), decide_eq_true (show a < 2 ^ 63 by lia)]
 rfl
theorem B5 (k : Nat) (h : k ≤ 1000000) : Builtin.Range.small 0 (k : Int) 1 = true := by
 unfold Builtin.Range.small
 have hk : (k : Int) ≤ 1000000 := by lia
 rw [EL, Kj (a := 0) (by lia) (by lia), Kj (a := (k : Int)) (by lia) (by lia), Kj (a := 1) (by lia) (by lia), if_pos (by lia), Kj (by lia) (by lia)]
 simp
noncomputable def oct (v k : Nat) : List UInt8 := (List.range k).map fun i => (v / 256 ^ (k - 1 - i) % 256).toUInt8
theorem A2 (v k : Nat) : (oct v k).length = k := by simp [oct]
theorem Ck (a b : Nat) : (a : Int).fdiv (b : Int) = ((a / b : Nat) : Int) := by
 rw [Int.fdiv_eq_ediv_of_nonneg _ (Int.natCast_nonneg b)]; norm_cast
theorem Cj (a b : Nat) : (a : Int).fmod (b : Int) = ((a % b : Nat) : Int) := by
 rw [Int.fmod_eq_emod_of_nonneg _ (Int.natCast_nonneg b)]; norm_cast
theorem OS (k : Nat) : (2 : Nat) ^ (8 * k) = 256 ^ k := by rw [Nat.pow_mul]
theorem Q7 (a : Nat) : a &&& 255 = a % 256 := Nat.and_two_pow_sub_one_eq_mod a 8
theorem Se {k i : Nat} (h : i < k) : (k : Int) - 1 - (i : Int) = ((k - 1 - i : Nat) : Int) := by
 rw [Int.ofNat_sub (Nat.le_sub_one_of_lt h), Int.ofNat_sub (Nat.lt_of_le_of_lt (Nat.zero_le i) h)]; rfl
theorem CJ {n : Nat} (h : 2 < n) {σ : Sto} {v k : Nat} {K : B9} (hv : v < 256 ^ k) (hz : k ≤ 100) (hk : K (.bytes (oct v k)) σ) : Ab rows n 2 [.int v, .int k] σ K := by
 refine Am (ρ := [some (.int v), some (.int k), none]) Eo h rfl rfl rfl rfl (by kernel_rfl) ?_
 dsimp only [Eo, Ak, wpS, wpE, Fq, wpT, Qc, OP, Ap, Cst.d, List.getElem?_cons_zero, List.getElem?_cons_succ, List.set_cons_zero, List.set_cons_succ, List.length_cons, List.length_nil, LC, OA, JA, Ny]
 have e8 : (8 : Int) * (k : Int) = ((8 * k : Nat) : Int) := by norm_cast
 have z : (v : Int).fdiv (2 ^ ((8 : Int) * (k : Int)).toNat) = 0 := by
  rw [e8, Int.toNat_natCast]
  have : ((2 : Int) ^ (8 * k)) = ((2 ^ (8 * k) : Nat) : Int) := by norm_cast
  rw [this, Ck, OS, Nat.div_eq_of_lt hv]; rfl
 have h1 : decide ((v : Int) < 0) = false := by simp
 have h3 : (0 : Int) ≤ 8 * (k : Int) := by lia
 have h4 : ((8 : Int).natAbs < 2 ^ 60 ∨ (k : Int).natAbs < 2 ^ 60) := .inl (by decide)
 simp only [h1, z, h3, h4, beq_self_eq_true, Bool.not_true, Bool.false_eq_true, Bool.true_eq_false, false_implies, true_implies, and_true, true_and]
 refine ⟨B5 k (by lia), (List.range k).map fun (i : Nat) => D.int (i : Int), ?_, ?_⟩
 ·show (if Builtin.Range.small 0 k 1 then some ((B1 0 k 1).map D.int) else none) = _
  rw [B5 k (by lia), Ci]
  simp
 refine Do (f := fun d => match d with | .int i => .int ((v / 256 ^ (k - 1 - i.toNat) % 256 : Nat) : Int) | d => d) _ [] (fun x hx K' hk' => ?_) (by simp; lia) ?_
 ·(refine Af (List.mem_map.mp hx) fun i hi zq1 => ?_; subst zq1)
  have hi := List.mem_range.mp hi
  intro p o _
  rw [Fr]
  refine ⟨rfl, fun ω => ?_, fun e => by cases e⟩
  show Be .Sub (.int k) (.int 1) fun a => Be .Sub a (.int i) fun b => Be .Mult (.int 8) b fun c => Be .RShift (.int v) c fun e => Be .BitAnd e (.int 255) fun r => _
  rw [ET, ET, JA]
  refine ⟨.inl (by decide), ?_⟩
  have e : (8 : Int) * ((k : Int) - 1 - (i : Int)) = ((8 * (k - 1 - i) : Nat) : Int) := by rw [Se hi]; rfl
  rw [e, Ny]
  refine ⟨Int.natCast_nonneg _, ?_⟩
  rw [Int.toNat_natCast]
  have p2 : ((2 : Int) ^ (8 * (k - 1 - i))) = ((2 ^ (8 * (k - 1 - i)) : Nat) : Int) := by norm_cast
  rw [p2, Ck, OS, Nz]
  have : Builtin.bitAnd ((v / 256 ^ (k - 1 - i) : Nat) : Int) (255 : Int) = ((v / 256 ^ (k - 1 - i) % 256 : Nat) : Int) := by
   rw [show (255 : Int) = ((255 : Nat) : Int) from rfl, CS, Q7]
  rw [this]
  exact hk'
 ·refine ⟨(List.range k).map fun i => ((v / 256 ^ (k - 1 - i) % 256 : Nat) : Int), by simp [Function.comp_def], fun m hm => ?_, by simp; lia, ?_⟩
  ·(refine Af (List.mem_map.mp hm) fun i ω zq1 => ?_; subst zq1)
   have := Nat.mod_lt (v / 256 ^ (k - 1 - i)) (show 256 > 0 by decide)
   lia
  ·have : ((List.range k).map fun i => ((v / 256 ^ (k - 1 - i) % 256 : Nat) : Int)).map F9 = oct v k := by
    unfold oct F9
    rw [List.map_map]
    rfl
   rw [this]
   exact hk
section
variable {t : Nat}
def Ai (σ σ' : Sto) : Prop := ∀ x, σ x ≠ none → σ' x = σ x
def Upd (σ : Sto) (a : Addr) (o : Cv) (σ' : Sto) : Prop := σ' a = some o ∧ ∀ x, x ≠ a → σ x ≠ none → σ' x = σ x
theorem Ai.refl (σ : Sto) : Ai σ σ := fun ω ω => rfl
theorem Ai.trans {a b c : Sto} (h : Ai a b) (g : Ai b c) : Ai a c := fun x hx => by
 have e := h x hx
 rw [g x (by rw [e]; exact hx), e]
theorem Ai.new {σ : Sto} {p : Addr} {o : Cv} (h : σ p = none) : Ai σ (σ.upd p o) := fun x hx => Sto.upd_ne σ o (fun e => hx (e ▸ h))
theorem Ai.get {σ σ' : Sto} {a : Addr} {o : Cv} (h : Ai σ σ') (e : σ a = some o) : σ' a = some o := by
 rw [h a (by rw [e]; exact fun c => nomatch c), e]
theorem Upd.mk' (σ : Sto) (a : Addr) (o : Cv) : Upd σ a o (σ.upd a o) := ⟨Sto.upd_self σ a o, fun x hx ω => Sto.upd_ne σ o hx⟩
theorem Upd.pre {σ σ₁ σ₂ : Sto} {a : Addr} {o : Cv} (h : Ai σ σ₁) (g : Upd σ₁ a o σ₂) : Upd σ a o σ₂ := ⟨g.1, fun x hx hn => by
 have e := h x hn
 rw [g.2 x hx (by rw [e]; exact hn), e]⟩
theorem Upd.post {σ σ₁ σ₂ : Sto} {a : Addr} {o : Cv} (h : Upd σ a o σ₁) (g : Ai σ₁ σ₂) : Upd σ a o σ₂ := ⟨g.get h.1, fun x hx hn => by
 have e := h.2 x hx hn
 rw [g x (by rw [e]; exact hn), e]⟩
theorem Upd.trans {σ σ₁ σ₂ : Sto} {a : Addr} {o o' : Cv} (h : Upd σ a o σ₁) (g : Upd σ₁ a o' σ₂) : Upd σ a o' σ₂ := ⟨g.1, fun x hx hn => by
 have e := h.2 x hx hn
 rw [g.2 x hx (by rw [e]; exact hn), e]⟩
theorem Upd.get {σ σ' : Sto} {a b : Addr} {o o' : Cv} (h : Upd σ a o σ') (e : σ b = some o') (n : b ≠ a) : σ' b = some o' := by
 rw [h.2 b n (by rw [e]; exact fun c => nomatch c), e]
theorem Upd.same {σ σ' : Sto} {a : Addr} {o : Cv} (h : Ai σ σ') (e : σ a = some o) : Upd σ a o σ' := ⟨h.get e, fun x ω hx => h x hx⟩
noncomputable def G9 (Φ : Bn) (r : PSs) (K : KS) : KS := fun fl ρ σ => match fl with
 | .next => Ak Φ r ρ σ K
 | .brk => K .brk ρ σ
 | .ret d => K (.ret d) ρ σ
section
variable {Φ : Bn} {ρ : Rho} {σ : Sto} {K : KS} {r a b : PSs} {e c o : PE}
theorem AR (h : K .next ρ σ) : Ak Φ .nil ρ σ K := h
theorem A1 {r : PSs} (h : Ak Φ r ρ σ K) : Ak Φ .nil ρ σ (G9 Φ r K) := h
theorem A4 {i : Nat} (h : wpE Φ e ρ σ fun d σ' => i < ρ.length ∧ Ak Φ r (ρ.set i (some d)) σ' K) : Ak Φ (.cons (.asg (.loc i) e) r) ρ σ K := h
theorem A8 {t : PT} (h : wpE Φ e ρ σ fun d σ' => Ap Φ t d ρ σ' fun ρ' σ' => Ak Φ r ρ' σ' K) : Ak Φ (.cons (.asg t e) r) ρ σ K := h
theorem Ac (h : wpE Φ e ρ σ fun d σ' => K (.ret d) ρ σ') : Ak Φ (.cons (.ret e) r) ρ σ K := h
theorem Al (h : ∀ R : Bool → Sto → Prop, R true σ → wpT Φ c ρ σ R) (k : Ak Φ a ρ σ (G9 Φ r K)) : Ak Φ (.cons (.cond c a b) r) ρ σ K := h _ ⟨fun ω => k, fun e => nomatch e⟩
theorem Ad (h : ∀ R : Bool → Sto → Prop, R false σ → wpT Φ c ρ σ R) (k : Ak Φ b ρ σ (G9 Φ r K)) : Ak Φ (.cons (.cond c a b) r) ρ σ K := h _ ⟨fun e => absurd e (by decide), fun ω => k⟩
theorem R3 (t : Bool) (h : ∀ R : Bool → Sto → Prop, R t σ → wpT Φ c ρ σ R) (k1 : t = true → Ak Φ a ρ σ (G9 Φ r K)) (k2 : t = false → Ak Φ b ρ σ (G9 Φ r K)) : Ak Φ (.cons (.cond c a b) r) ρ σ K := h _ ⟨k1, k2⟩
theorem Hh (h : wpT Φ c ρ σ fun t σ' => (t = true → Ak Φ a ρ σ' (G9 Φ r K)) ∧ (t = false → Ak Φ b ρ σ' (G9 Φ r K))) : Ak Φ (.cons (.cond c a b) r) ρ σ K := h
theorem BC (h : wpE Φ e ρ σ fun d σ' => d = .none ∧ Ak Φ r ρ σ' K) : Ak Φ (.cons (.expr e) r) ρ σ K := by
 exact h
theorem Dw {t : PT} (h : wpE Φ e ρ σ fun d σ₁ => ∃ items, Ah σ₁ d = some items ∧
   Ec (fun σ => Ah σ d = some items ∧ As σ d = As σ₁ d) (fun x ρ σ K' => Ap Φ t x ρ σ fun ρ' σ' => Ak Φ b ρ' σ' K') items ρ σ₁ (G9 Φ r K)) : Ak Φ (.cons (.for t e b) r) ρ σ K := h
theorem Au (h : ∀ R : Bool → Sto → Prop, R true σ → wpT Φ c ρ σ R) {x y : PE} {K : B9} (k : wpE Φ x ρ σ K) : wpE Φ (.ite c x y) ρ σ K := h _ ⟨fun ω => k, fun e => nomatch e⟩
theorem Av (h : ∀ R : Bool → Sto → Prop, R false σ → wpT Φ c ρ σ R) {x y : PE} {K : B9} (k : wpE Φ y ρ σ K) : wpE Φ (.ite c x y) ρ σ K := h _ ⟨fun e => absurd e (by decide), fun ω => k⟩
end
theorem TN (l : List UInt8) (σ : Sto) (K : B9) : Fa .len [.bytes l] σ K = (l.length ≤ 1000000 ∧ K (.int l.length) σ) := rfl
theorem S5 (b : Int) (σ : Sto) (K : B9) : Fa .range [.int b] σ K = (Builtin.Range.small 0 b 1 = true ∧ K (.rng 0 b 1) σ) := rfl
end
def dl (s : String) : Lean.MacroM (Lean.TSyntax `tactic) := do
 let l ← (s ++ "wpE Fq wpT Ta Tb Tl Sb Qc S9 OP Cst.d List.getElem?_cons_zero List.getElem?_cons_succ List.set_cons_zero List.set_cons_succ List.length_cons List.length_nil B2 ET JA LI DR SX SW Ny Nz S7 SY Fd TO b_rep FT OA Rj c_nes c_neb c_eqB LC QR PZ LD c_is c_isn c_in c_nin isNone TN S5 Bh G9").splitOn.toArray.mapM fun s => `(Lean.Parser.Tactic.simpLemma| $(Lean.mkIdent s.toName):ident)
 `(tactic| dsimp only [$l,*])
local macro_rules | `(tactic| kpf_c) => dl "T1 Sa T2 T0 "
local macro_rules | `(tactic| kst_p) => dl ""
variable {σ : Sto} {K : B9} {n : Nat}
section
variable {t : Nat}
theorem Bl {a : Addr} {l : List UInt8} {σ : Sto} {K : B9} (h : σ a = some (.barr l)) (k : K (.int l.length) σ) : Fa .len [.ref a] σ K := ⟨l, h, k⟩
theorem Cf {l : List D} {σ : Sto} {K : B9} (h : l.length ≤ 1000000) (k : K (.int l.length) σ) : Fa .len [.lst l] σ K := ⟨h, k⟩
theorem at_ {σ : Sto} {a C ia : Addr} {fs : List (Str × D)} {x : Str} {d : D} {K : D → Prop} (h : σ a = some (.inst C ia fs)) (e : fs.lookup x = some d) (k : K d) : C4 σ (.ref a) x K := ⟨C, ia, fs, d, h, e, k⟩
theorem Q6 (a : Nat) : a &&& 65535 = a % 65536 := Nat.and_two_pow_sub_one_eq_mod a 16
theorem JN (a k : Nat) : (a : Int).fdiv (2 ^ (k : Int).toNat) = ((a / 2 ^ k : Nat) : Int) := by
 rw [Int.toNat_natCast]
 have : ((2 : Int) ^ k) = ((2 ^ k : Nat) : Int) := by norm_cast
 rw [this, Ck]
theorem R6 (a : Nat) : (a : Int).fdiv (2 ^ (16 : Int).toNat) = ((a / 65536 : Nat) : Int) := JN a 16
noncomputable def Bm (t : Nat) : Nat := if t = 0 then 0 else (t - 1) % 65535 + 1
theorem CF (t : Nat) : Bm (t + 1) = t % 65535 + 1 := if_neg (Nat.succ_ne_zero t)
theorem HS {x y : Nat} (hx : 0 < x) (hy : 0 < y) (h : x % 65535 = y % 65535) : Bm x = Bm y := by
 have f : ∀ z, z % 65535 = (z + 1 + 65534) % 65535 := fun z => by rw [Nat.add_assoc]; exact (Nat.add_mod_right z 65535).symm
 cases x with
 | zero => cases hx
 | succ x =>
  cases y with
  | zero => cases hy
  | succ y => rw [CF, CF, f x, Nat.add_mod, h, ← Nat.add_mod, ← f y]
theorem Lj (t : Nat) : Bm t % 65535 = t % 65535 := by
 cases t with
 | zero => rfl
 | succ t => rw [CF]; exact Nat.mod_add_mod t 65535 1
theorem Li (h : 0 < t) : 0 < Bm t := by
 cases t with
 | zero => cases h
 | succ t => rw [CF]; exact Nat.succ_pos _
theorem Jk (h : t / 65536 ≠ 0) : Bm (t % 65536 + t / 65536) = Bm t ∧ t % 65536 + t / 65536 < t := by
 have hq := Nat.pos_of_ne_zero h
 have e : 65535 * (t / 65536) + (t % 65536 + t / 65536) = t := by rw [Nat.add_left_comm, ← Nat.succ_mul, Nat.add_comm]; exact Nat.div_add_mod t 65536
 have l : t % 65536 + t / 65536 < t := Nat.lt_of_lt_of_eq (Nat.lt_add_of_pos_left (Nat.mul_pos #[] hq)) e
 exact ⟨HS (Nat.add_pos_right _ hq) (Nat.lt_of_le_of_lt (Nat.zero_le _) l) ((Nat.mul_add_mod 65535 (t / 65536) _).symm.trans (congrArg (·% 65535) e)), l⟩
theorem Mt (h : t / 65536 = 0) : Bm t = t := by
 cases t with
 | zero => rfl
 | succ s => rw [CF, Nat.mod_eq_of_lt (Nat.lt_of_succ_lt_succ (Nat.lt_of_div_eq_zero #[] h))]
theorem KG {n : Nat} (h : 3 < n) {σ : Sto} {K : B9} (hk : K (.int (Bm t)) σ) : Ab rows n 3 [.int t] σ K := by
 refine Am (ρ := [some (.int t)]) Iq (by assumption) rfl rfl rfl rfl (by kernel_rfl) ?_; unfold Iq
 show ∃ (I : Nat → Rho → Sto → Prop) (m : Nat), _
 refine ⟨fun m ρ σ' => ∃ v : Nat, v = m ∧ Bm v = Bm t ∧ ρ = [some (.int v)] ∧ σ' = σ, t, ⟨t, rfl, rfl, rfl, rfl⟩, ?_⟩
 rintro m ρ σ' ⟨v, rfl, hv, rfl, rfl⟩
 kpf_c
 refine ⟨#[], ?_⟩
 rw [R6]
 refine ⟨fun ht => ?_, fun ht => ?_⟩
 ·have hne : v / 65536 ≠ 0 := fun e => by rw [e] at ht; exact absurd ht #[]
  refine A4 ?_
  kpf_c
  refine ⟨#[], #[], AR ?_⟩
  refine ⟨_, (Jk hne).2, _, rfl, by rw [(Jk hne).1, hv], ?_, rfl⟩
  rw [R6, show (65535 : Int) = ((65535 : Nat) : Int) from rfl, CS, Q6]
  rfl
 ·have h0 : v / 65536 = 0 := by
   by_cases e : v / 65536 = 0
   ·exact e
   ·exact absurd ht (by simp [bne_iff_ne]; lia)
  refine Ac ?_
  kpf_c
  rw [← hv, Mt h0] at hk
  exact hk
end
section
variable {l : List UInt8} {i : Nat} {u : UInt8}
theorem Os {K : D → Prop} (h : l[i]? = some u) (hl : l.length ≤ 1000000) (k : K (.int u.toNat)) : Kg σ (.bytes l) (.int (i : Int)) K := ⟨u, ⟨by lia, hl⟩, by simpa using h, k⟩
theorem I6 {a : Addr} {K : D → Prop} (hs : σ a = some (.barr l)) (h : l[i]? = some u) (hi : i ≤ 1000000) (k : K (.int u.toNat)) : Kg σ (.ref a) (.int (i : Int)) K := .inl ⟨l, u, hs, ⟨by lia, by lia⟩, by simpa using h, k⟩
noncomputable def Gc : List UInt8 → List UInt8 → Nat
 | a :: b :: r, c :: d :: s => (65535 - (a.toNat * 256 + b.toNat)) + (c.toNat * 256 + d.toNat) + Gc r s
 | _, _ => 0
noncomputable def GN (check : Nat) (old new : List UInt8) : Nat := 65535 - Bm (65535 - check + Gc old new)
theorem EK (m : Nat) : Builtin.Range.rangeSize 0 ((2 * m : Nat) : Int) 2 = (m : Int) := by
 unfold Builtin.Range.rangeSize
 simp
 lia
theorem GF (m : Nat) : B1 0 ((2 * m : Nat) : Int) 2 = (List.range' 0 m).map fun (i : Nat) => ((2 * i : Nat) : Int) := by
 unfold B1
 rw [EK, Int.toNat_natCast, List.range_eq_range']
 refine List.map_congr_left fun i ω => ?_
 push_cast; lia
theorem G7 (m : Nat) (h : m ≤ 1000000) : Builtin.Range.small 0 ((2 * m : Nat) : Int) 2 = true := by
 unfold Builtin.Range.small
 rw [EK, Kj (a := 0) (by lia) (by lia), Kj (a := ((2 * m : Nat) : Int)) (by lia) (by lia), Kj (a := 2) (by lia) (by lia), if_pos (by lia), Kj (by lia) (by lia), Kj (by lia) (by lia)]
 simp
theorem K7 (t : Nat) : Bm t ≤ 65535 := by
 cases t with
 | zero => exact Nat.zero_le _
 | succ t => rw [CF]; exact Nat.mod_lt t #[]
theorem Ly {k : Nat} (h : k + 1 < l.length) : ∃ u v, l[k]? = some u ∧ l[k + 1]? = some v ∧ l.drop k = u :: v :: l.drop (k + 2) := by
 refine ⟨l[k], l[k + 1], List.getElem?_eq_getElem (by lia), List.getElem?_eq_getElem (by lia), ?_⟩
 rw [List.drop_eq_getElem_cons (by lia), List.drop_eq_getElem_cons (by lia)]
theorem GM (u : UInt8) : (u.toNat : Int).natAbs < 2 ^ 1000 := by
 have := UInt8.toNat_lt u
 rw [Int.natAbs_natCast]
 exact Nat.lt_trans this (by decide +kernel)
theorem TP (T A B : Nat) (h : A ≤ 65535) : (T : Int) + 65535 - (A : Int) + (B : Int) = ((T + (65535 - A) + B : Nat) : Int) := by
 rw [Int.natCast_add, Int.natCast_add, Int.ofNat_sub h, ← Int.add_sub_assoc]; rfl
theorem Nl (u v : UInt8) : u.toNat * 256 + v.toNat ≤ 65535 :=
 Nat.add_le_add (Nat.mul_le_mul_right 256 (Nat.le_of_lt_succ (UInt8.toNat_lt u))) (Nat.le_of_lt_succ (UInt8.toNat_lt v))
theorem NL (h : 4 < n) {c m : Nat} {old new : List UInt8} (hc : c ≤ 65535) (ho : old.length = 2 * m) (hn : new.length = 2 * m) (hm : m ≤ 1000) (hk : K (.int (GN c old new)) σ) : Ab rows n 4 [.int c, .bytes old, .bytes new] σ K := by
 refine Am (ρ := [some (.int c), some (.bytes old), some (.bytes new), none, none]) MX (by assumption) rfl rfl rfl rfl (by kernel_rfl) ?_; unfold MX
 refine Ad (fun R hR => ?_) (A1 ?_)
 ·kpf_c
  have e1 : (!((old.length : Int) == (new.length : Int))) = false := by rw [ho, hn]; simp
  have e2 : ((old.length : Int).fmod 2 == 1) = false := by
   rw [ho, show (2 : Int) = ((2 : Nat) : Int) from rfl, Cj, show 2 * m % 2 = 0 by lia]; rfl
  refine ⟨by lia, by lia, ?_⟩
  rw [e1, e2]
  exact ⟨fun ω => ⟨by lia, #[], ⟨fun ω => hR, fun e => absurd e #[]⟩⟩, fun e => absurd e #[]⟩
 refine A4 ?_
 kpf_c
 refine ⟨#[], Dw ?_⟩
 kpf_c
 refine ⟨by lia, ?_⟩
 rw [ho]
 refine ⟨⟨G7 m (by lia), #[], #[]⟩, (List.range' 0 m).map fun (i : Nat) => D.int ((2 * i : Nat) : Int), ?_, ?_⟩
 ·show (if Builtin.Range.small 0 ((2 * m : Nat) : Int) 2 then some ((B1 0 ((2 * m : Nat) : Int) 2).map D.int) else none) = _
  rw [G7 m (by lia), GF]
  simp
 have go : ∀ (j k T : Nat) (x : Option D), k + j = m → T + Gc (old.drop (2 * k)) (new.drop (2 * k)) = 65535 - c + Gc old new → Ec (fun σ' => Ah σ' (.rng 0 ((2 * m : Nat) : Int) 2) = some ((List.range' 0 m).map fun (i : Nat) => D.int ((2 * i : Nat) : Int)) ∧ As σ' (.rng 0 ((2 * m : Nat) : Int) 2) = As σ (.rng 0 ((2 * m : Nat) : Int) 2))
   (fun x ρ σ K' => Ap (Ab rows 4) (.loc 4) x ρ σ fun ρ' σ' => Ak (Ab rows 4) #[.asg (.loc 3) (.bin .Sub (.bin .Add (.loc 3) {65535}) (.bin .BitOr (.bin .LShift (.idx (.loc 1) (.loc 4)) {8}) (.idx (.loc 1) (.bin .Add (.loc 4) {1})))),.asg (.loc 3) (.bin .Add (.loc 3) (.bin .BitOr (.bin .LShift (.idx (.loc 2) (.loc 4)) {8}) (.idx (.loc 2) (.bin .Add (.loc 4) {1}))))] ρ' σ' K') ((List.range' k j).map fun (i : Nat) => D.int ((2 * i : Nat) : Int)) [some (.int c), some (.bytes old), some (.bytes new), some (.int T), x] σ
   (G9 (Ab rows 4) #[.ret (.bin .Sub {65535} (.call 3 #[.loc 3]))] (Bh K)) := by
  intro j
  have hi : Ah σ (.rng 0 ((2 * m : Nat) : Int) 2) = some ((List.range' 0 m).map fun (i : Nat) => D.int ((2 * i : Nat) : Int)) := by
   show (if Builtin.Range.small 0 ((2 * m : Nat) : Int) 2 then some ((B1 0 ((2 * m : Nat) : Int) 2).map D.int) else none) = _
   rw [G7 m (by lia), GF]
   simp
  induction j with
  | zero =>
   intro k T x hkm hT
   refine ⟨⟨hi, rfl⟩, ?_⟩
   show Ak _ _ _ _ _
   refine Ac ?_
   kpf_c
   refine KG #[] ?_
   have hkm : k = m := by lia
   rw [hkm, List.drop_eq_nil_of_le (by lia), List.drop_eq_nil_of_le (by lia)] at hT
   have hT : T = 65535 - c + Gc old new := hT
   rw [hT]
   have e : (65535 : Int) - (Bm (65535 - c + Gc old new) : Int) = (GN c old new : Int) := by
    exact (Int.ofNat_sub (K7 (65535 - c + Gc old new))).symm
   rw [ET, e]
   exact hk
  | succ j ih =>
   intro k T x hkm hT
   refine D0 (Ly (l := old) (k := 2 * k) (by lia)) fun u v h1 h2 h3 => ?_
   refine D0 (Ly (l := new) (k := 2 * k) (by lia)) fun u' v' h1' h2' h3' => ?_
   rw [h3, h3'] at hT
   refine ⟨⟨hi, rfl⟩, ?_⟩
   kpf_c
   refine ⟨#[], A4 ?_⟩
   kpf_c
   have e1 : ((2 * k : Nat) : Int) + 1 = ((2 * k + 1 : Nat) : Int) := rfl
   refine Os h1 (by lia) ⟨⟨GM u, #[], #[]⟩, ?_⟩
   rw [e1]
   refine Os h2 (by lia) ?_
   rw [S7, Gk, ET]
   refine ⟨#[], A4 ?_⟩
   kpf_c
   refine Os h1' (by lia) ⟨⟨GM u', #[], #[]⟩, ?_⟩
   rw [e1]
   refine Os h2' (by lia) ?_
   rw [S7, Gk, B2]
   refine ⟨#[], AR ?_⟩
   have e2 : (T : Int) + 65535 - ((u.toNat * 256 + v.toNat : Nat) : Int) + ((u'.toNat * 256 + v'.toNat : Nat) : Int) = ((T + (65535 - (u.toNat * 256 + v.toNat)) + (u'.toNat * 256 + v'.toNat) : Nat) : Int) := TP T _ _ (Nl u v)
   rw [e2]
   refine ih (k + 1) _ _ (by lia) ?_
   rw [← hT]
   show _ = T + ((65535 - (u.toNat * 256 + v.toNat)) + (u'.toNat * 256 + v'.toNat) + Gc (old.drop (2 * k + 2)) (new.drop (2 * k + 2)))
   rw [show 2 * (k + 1) = 2 * k + 2 by lia]
   lia
 have e0 : (65535 : Int) - (c : Int) = ((65535 - c : Nat) : Int) := (Int.ofNat_sub hc).symm
 rw [e0]
 exact go m 0 _ _ (by lia) rfl
end
section
variable {a : Addr} {d l : List UInt8} {k : Nat} {r : Row}
theorem QI {n m : Nat} {ds : List D} (ds' : List D) {ρ : Rho} (b : PSs) (h : m < n) (hr : (rows[m]?).join = some r) (hc : r.cls = none) (hb : r.body = b) (hd : ds.length ≤ r.ps.length) (hf : Cs r.ps.length r.dfl ds = ds') (hl : ds'.length = r.ps.length) (hρ : HM r.nm r.ps ds' = ρ) (hw : Ak (Ab rows m) b ρ σ (Bh K)) : Ab rows n m ds σ K := by
 rw [Ho h hr]
 unfold FU
 rw [hc]
 refine ⟨hd, ?_, ?_⟩
 ·rw [hf]; exact hl
 ·rw [hf, hρ, hb]; exact hw
theorem Ki {n m : Nat} {ds : List D} (C : Addr) (ρ : Addr → Rho) (b : PSs) (h : m < n) (hr : (rows[m]?).join = some r) (hc : r.cls = some C) (hb : r.body = b) (hd : ds.length + 1 ≤ r.ps.length) (hf : ∀ x : Addr, (Cs r.ps.length r.dfl (.ref x :: ds)).length = r.ps.length) (hρ : ∀ x : Addr, HM r.nm r.ps (Cs r.ps.length r.dfl (.ref x :: ds)) = ρ x)
  (hw : ∀ x dx, σ x = none → Ak (Ab rows m) b (ρ x) (σ.upd x (.inst C dx [])) (Bh fun d σ' => d = .none ∧ K (.ref x) σ')) : Ab rows n m ds σ K := by
 rw [Ho h hr]
 unfold FU
 rw [hc]
 refine fun x dx hx => ⟨⟨hd, hf x⟩, ?_⟩
 rw [hρ x, hb]
 exact hw x dx hx
theorem EA {α : Type} (l : List α) (i j : Nat) : cut l (min i l.length) (min j l.length) = cut l i j := by
 unfold cut
 by_cases hi : i ≤ l.length
 ·rw [Nat.min_eq_left hi]
  by_cases hj : j ≤ l.length
  ·rw [Nat.min_eq_left hj]
  ·rw [Nat.min_eq_right (by lia), List.take_of_length_le (by simp), List.take_of_length_le (by simp; lia)]
 ·rw [show min i l.length = l.length from Nat.min_eq_right (by lia), List.drop_length, List.drop_eq_nil_of_le (show l.length ≤ i by lia)]; simp
theorem Cd (n i : Nat) (h : i ≤ 1000000) : bound n (.int (i : Int)) = some (min i n) := by
 unfold bound
 dsimp only
 rw [if_pos ⟨by lia, by lia⟩, Int.toNat_natCast]
theorem Cl (n i : Nat) (h : i ≤ 1000000) : Ce n (.int (i : Int)) = some (min i n) := Cd n i h
theorem KQ {r : Addr} (hs : σ r = some (.barr l)) (i j : Nat) (hi : i ≤ 1000000) (hj : j ≤ 1000000) (h : ∀ p, σ p = none → K (.ref p) (σ.upd p (.barr (cut l i j)))) : JM σ (.ref r) (.int (i : Int)) (.int (j : Int)) K :=
 ⟨l, _, _, hs, Cd _ _ hi, Cl _ _ hj, fun p hp => by rw [EA]; exact h p hp⟩
theorem Sg {r : Addr} (hs : σ r = some (.barr l)) (i : Nat) (hi : i ≤ 1000000) (h : ∀ p, σ p = none → K (.ref p) (σ.upd p (.barr (l.drop i)))) : JM σ (.ref r) (.int (i : Int)) .none K :=
 ⟨l, _, _, hs, Cd _ _ hi, rfl, fun p hp => by
  have e : cut l (min i l.length) l.length = l.drop i := by
   have := EA l i l.length
   rw [Nat.min_self] at this
   rw [this]
   unfold cut
   exact List.take_of_length_le (by simp)
  rw [e]; exact h p hp⟩
theorem Si (hl : l.length ≤ 1000000) (i j : Nat) (hi : i ≤ 1000000) (hj : j ≤ 1000000) (h : K (.bytes (cut l i j)) σ) : JM σ (.bytes l) (.int (i : Int)) (.int (j : Int)) K :=
 ⟨_, _, hl, Cd _ _ hi, Cl _ _ hj, by rw [EA]; exact h⟩
theorem CG {p : Addr} : Ah (σ.upd p (.barr l)) (.ref p) = some (A6 l) := by
 unfold Ah; dsimp only; rw [Sto.upd_self]
inductive V : Nat → Nat → Nat → List UInt8 → Prop
 | v4 (pr off : Nat) (d : List UInt8) (u0 u9 : UInt8) : d.length ≤ 1000 → off ≤ d.length → 20 ≤ off → d[0]? = some u0 → u0.toNat / 16 = 4 → u0.toNat % 16 * 4 = off → cut d 6 8 = [64, 0] → d[9]? = some u9 → u9.toNat = pr → V 2048 pr off d
 | v6 (pr off : Nat) (d : List UInt8) (u0 u6 : UInt8) : d.length ≤ 1000 → off ≤ d.length → 40 ≤ off → d[0]? = some u0 → u0.toNat / 16 = 6 → d[6]? = some u6 → (pr = 6 ∨ pr = 17 ∨ pr = 58) → ((u6.toNat = pr ∧ off = 40) ∨ (u6.toNat = 60 ∧ off = 48 ∧ ∃ u, d[40]? = some u ∧ u.toNat = pr ∧ d[41]? = some 0)) → V 34525 pr off d
theorem V.len {kd pr off : Nat} (h : V kd pr off d) : d.length ≤ 1000 := by cases h <;> assumption
theorem V.off {kd pr off : Nat} (h : V kd pr off d) : off ≤ d.length := by cases h <;> assumption
theorem V.kd {kd pr off : Nat} (h : V kd pr off d) : kd = 2048 ∨ kd = 34525 := by cases h; exact .inl rfl; exact .inr rfl
theorem Sj (a : Nat) : (a : Int).fdiv (2 ^ (4 : Int).toNat) = ((a / 16 : Nat) : Int) := JN a 4
theorem Rk (a : Nat) : Builtin.bitAnd (a : Int) 15 = ((a % 16 : Nat) : Int) := by
 rw [show (15 : Int) = ((15 : Nat) : Int) from rfl, CS, Nat.and_two_pow_sub_one_eq_mod a 4]
noncomputable def Nq (pr off : Nat) : D := .tup [.int pr, .int off, .int 0, .bool false]
theorem HB (h : 5 < n) {pr off : Nat} (hs : σ a = some (.barr d)) (hv : V 2048 pr off d) (hk : ∀ σ', Ai σ σ' → K (Nq pr off) σ') : Ab rows n 5 [.ref a] σ K := by
 refine Am (ρ := [some (.ref a), none, none]) Kp (by assumption) rfl rfl rfl rfl (by kernel_rfl) ?_; unfold Kp
 cases hv with
 | v4 pr off d u0 u9 hl ho h20 h0 h04 hoff h6 h9 hpr =>
 refine Ad (fun R hR => ?_) (A1 ?_)
 ·kpf_c
  refine Bl hs ?_
  have e1 : decide ((d.length : Int) < 20) = false := by simp; lia
  rw [LC, e1]
  refine ⟨fun ω => ?_, fun e => absurd e #[]⟩
  refine I6 (i := 0) hs h0 #[] ?_
  rw [Ny, Sj, h04]
  exact ⟨#[], fun ω => hR, fun e => absurd e #[]⟩
 refine A4 ?_
 kpf_c
 refine I6 (i := 0) hs h0 #[] ?_
 rw [Nz, Rk, JA]
 have eo : (((u0.toNat % 16 : Nat) : Int) * 4) = (off : Int) := by lia
 rw [eo]
 refine ⟨.inr #[], #[], ?_⟩
 refine Ad (fun R hR => ?_) (A1 ?_)
 ·kpf_c
  have e1 : decide ((off : Int) < 20) = false := by simp; lia
  rw [e1]
  refine ⟨fun ω => ?_, fun e => absurd e #[]⟩
  refine Bl hs ?_
  have e2 : decide ((d.length : Int) < (off : Int)) = false := by simp; lia
  rw [PZ, e2]
  exact ⟨fun ω => hR, fun e => absurd e #[]⟩
 refine A4 ?_
 kpf_c
 refine KQ hs 6 8 #[] #[] fun p hp => ?_
 rw [h6]
 refine AK #[] (l := [64, 0]) CG #[] ?_
 refine ⟨#[], Ac ?_⟩
 kpf_c
 have sm : Ai σ (σ.upd p (.barr [64, 0])) := .new hp
 refine I6 (i := 9) (sm.get hs) h9 #[] ?_
 rw [hpr]
 exact ⟨.inl #[], #[], hk _ sm⟩
theorem LV (h : 6 < n) {s : D} (k3 : k = 6 ∨ k = 17 ∨ k = 58) (hk : K (.int 0) σ) : Ab rows n 6 [.int k, s] σ K := by
 refine Am (ρ := [some (.int k), some s]) Cm (by assumption) rfl rfl rfl rfl (by kernel_rfl) ?_; unfold Cm
 refine Ad (fun R hR => ?_) (A1 (Ad (fun R hR => ?_) (A1 (Ad (fun R hR => ?_) (A1 (Ac hk))))))
 ·kpf_c
  refine ⟨#[], [0, 43, 60], rfl, ?_⟩
  rcases k3 with rfl | rfl | rfl <;> exact hR
 ·kpf_c; rcases k3 with rfl | rfl | rfl <;> exact hR
 ·kpf_c; rcases k3 with rfl | rfl | rfl <;> exact hR
theorem GB (h : 6 < n) (hk : K (.int 8) σ) : Ab rows n 6 [.int 60, .int 0] σ K := by
 refine Am (ρ := [some (.int 60), some (.int 0)]) Cm (by assumption) rfl rfl rfl rfl (by kernel_rfl) ?_; unfold Cm
 refine Al (fun R hR => ?_) (Ac ?_)
 ·kpf_c
  exact ⟨#[], [0, 43, 60], rfl, hR⟩
 ·kpf_c
  exact ⟨.inl #[], hk⟩
theorem LU (h : 7 < n) {o at' e : D} (k3 : k = 6 ∨ k = 17 ∨ k = 58) (hk : K (.int 0) σ) : Ab rows n 7 [o, at', .int k, e] σ K := by
 refine Am (ρ := [some o, some at', some (.int k), some e, none]) Dq (by assumption) rfl rfl rfl rfl (by kernel_rfl) ?_; unfold Dq
 refine Al (fun R hR => ?_) (Ac ?_)
 ·kpf_c
  refine LV #[] k3 ?_
  exact hR
 ·exact hk
theorem LT (h : 7 < n) (hs : σ a = some (.barr d)) (h41 : d[41]? = some 0) (hl : 48 ≤ d.length) (hk : K (.int 8) σ) : Ab rows n 7 [.ref a, .int 40, .int 60, .int d.length] σ K := by
 refine Am (ρ := [some (.ref a), some (.int 40), some (.int 60), some (.int d.length), none]) Dq (by assumption) rfl rfl rfl rfl (by kernel_rfl) ?_; unfold Dq
 refine Ad (fun R hR => ?_) (A1 (Ad (fun R hR => ?_) (A1 (A4 ?_))))
 ·kpf_c
  refine GB #[] ?_
  exact hR
 ·kpf_c
  have e2 : decide ((d.length : Int) < 40 + 2) = false := by simp; lia
  rw [e2]; exact hR
 ·kpf_c
  refine I6 (i := 41) hs h41 #[] ?_
  refine GB #[] ?_
  refine ⟨#[], ?_⟩
  refine Ad (fun R hR => ?_) (A1 (Ac hk))
  kpf_c
  have e2 : decide ((d.length : Int) < 40 + 8) = false := by simp; lia
  rw [e2]; exact hR
theorem HA (h : 9 < n) {pr off : Nat} (hs : σ a = some (.barr d)) (hv : V 34525 pr off d) (hk : K (Nq pr off) σ) : Ab rows n 9 [.ref a] σ K := by
 refine Am (ρ := [some (.ref a), none, none, none, none, none]) Ko (by assumption) rfl rfl rfl rfl (by kernel_rfl) ?_; unfold Ko
 cases hv with
 | v6 pr off d u0 u6 hl ho h40 h0 h06 h6 k3 hx =>
 refine Ad (fun R hR => ?_) (A1 ?_)
 ·kpf_c
  refine Bl hs ?_
  have e1 : decide ((d.length : Int) < 40) = false := by simp; lia
  rw [LC, e1]
  refine ⟨fun ω => ?_, fun e => absurd e #[]⟩
  refine I6 (i := 0) hs h0 #[] ?_
  rw [Ny, Sj, h06]
  exact ⟨#[], fun ω => hR, fun e => absurd e #[]⟩
 refine A4 ?_
 kpf_c
 refine I6 (i := 6) hs h6 #[] ⟨#[], A4 ?_⟩
 kpf_c
 refine ⟨#[], A4 ?_⟩
 kpf_c
 refine ⟨#[], A4 ?_⟩
 kpf_c
 refine ⟨#[], ?_⟩
 show ∃ (I : Nat → Rho → Sto → Prop) (m : Nat), _
 refine ⟨fun m ρ σ' => σ' = σ ∧ ∃ x, (m = 0 ∧ ρ = [some (.ref a), some (.int pr), some (.int off), some (.int 0), some (.bool false), x]) ∨ (m = 1 ∧ off = 48 ∧ (∃ u, d[40]? = some u ∧ u.toNat = pr ∧ d[41]? = some 0) ∧ ρ = [some (.ref a), some (.int 60), some (.int 40), some (.int 0), some (.bool false), x]), if off = 48 then 1 else 0, ⟨rfl, none, ?_⟩, ?_⟩
 ·refine Or.elim hx (fun zq1 => oa2 zq1 fun h1 h2 => ?_) (fun zq2 => oa3 zq2 fun h1 h2 h3 => ?_)
  ·left; rw [h1, h2]; exact ⟨rfl, rfl⟩
  ·right; rw [h1, h2]; exact ⟨rfl, rfl, h3, rfl⟩
 rintro m ρ σ' ⟨rfl, x, ⟨rfl, rfl⟩ | ⟨rfl, rfl, ⟨u, g1, g2, g3⟩, rfl⟩⟩
 ·kpf_c
  refine ⟨fun ω => A4 ?_, fun e => absurd e #[]⟩
  kpf_c
  refine Bl hs (LU #[] k3 ⟨#[], ?_⟩)
  refine Ad (fun R hR => ?_) (A1 (Al (fun R hR => ?_) ?_))
  ·kpf_c
   have e0 : ((pr : Int) == 0) = false := by rcases k3 with rfl | rfl | rfl <;> rfl
   rw [e0]
   exact ⟨fun ω => ⟨fun e => absurd e #[], fun ω => ⟨fun ω => hR, fun e => absurd e #[]⟩⟩, fun e => absurd e #[]⟩
  ·kpf_c; exact hR
  ·show Ak _ #[.ret _] _ _ _
   refine Ac ?_
   kpf_c
   exact ⟨#[], hk⟩
 ·kpf_c
  refine ⟨fun ω => A4 ?_, fun e => absurd e #[]⟩
  kpf_c
  refine Bl hs (LT #[] hs g3 ho ⟨#[], ?_⟩)
  refine Ad (fun R hR => ?_) (A1 (Ad (fun R hR => ?_) (A1 (Ad (fun R hR => ?_) (A1 (A4 ?_))))))
  ·kpf_c
   exact ⟨fun ω => ⟨fun e => absurd e #[], fun ω => ⟨fun ω => hR, fun e => absurd e #[]⟩⟩, fun e => absurd e #[]⟩
  ·kpf_c; exact hR
  ·kpf_c; exact hR
  ·kpf_c
   refine I6 (i := 40) hs g1 #[] ⟨#[], ?_⟩
   show ∃ old, _ = _ ∧ _
   refine ⟨.int 40, rfl, ?_⟩
   show (Operator.Add = .Add ∧ True) ∧ _
   refine ⟨⟨rfl, trivial⟩, ?_⟩
   show ∃ m, _
   rw [g2]
   exact ⟨0, #[], rfl, _, .inl ⟨rfl, rfl⟩⟩
end
noncomputable def pf (a b : Addr) (kd l4 off place : Int) (m : D) : List (Str × D) := [((Z "data"), .ref a), ((Z "link"), .ref b), ((Z "kind"), .int kd), ((Z "l4"), .int l4), ((Z "off"), .int off), ((Z "place"), .int place), ((Z "meta"), m)]
structure PK (σ : Sto) (p a : Addr) (kd l4 off : Nat) (d : List UInt8) : Prop where
 obj : ∃ C ia b m, σ p = some (.inst C ia (pf a b kd l4 off 0 m))
 buf : σ a = some (.barr d)
section
variable {σ σ' : Sto} {p a : Addr} {kd pl po : Nat} {d d' : List UInt8} {K : D → Prop}
theorem PK.data (h : PK σ p a kd pl po d) (k : K (.ref a)) : C4 σ (.ref p) (Z "data") K := by
 refine oe4 (h.obj) fun C ia b m e => ?_; exact at_ e rfl k
theorem PK.kind (h : PK σ p a kd pl po d) (k : K (.int kd)) : C4 σ (.ref p) (Z "kind") K := by
 refine oe4 (h.obj) fun C ia b m e => ?_; exact at_ e rfl k
theorem PK.l4 (h : PK σ p a kd pl po d) (k : K (.int pl)) : C4 σ (.ref p) (Z "l4") K := by
 refine oe4 (h.obj) fun C ia b m e => ?_; exact at_ e rfl k
theorem PK.off (h : PK σ p a kd pl po d) (k : K (.int po)) : C4 σ (.ref p) (Z "off") K := by
 refine oe4 (h.obj) fun C ia b m e => ?_; exact at_ e rfl k
theorem PK.mono (h : PK σ p a kd pl po d) (s : Ai σ σ') : PK σ' p a kd pl po d := by
 obtain ⟨⟨C, ia, b, m, e⟩, hb⟩ := h; exact ⟨⟨C, ia, b, m, s.get e⟩, s.get hb⟩
theorem PK.ne (h : PK σ p a kd pl po d) : p ≠ a := fun e => by
 obtain ⟨⟨C, ia, b, m, g⟩, hb⟩ := h; rw [e, hb] at g; cases g
theorem PK.upd (h : PK σ p a kd pl po d) (u : Upd σ a (.barr d') σ') : PK σ' p a kd pl po d' := by
 have n := h.ne
 obtain ⟨⟨C, ia, b, m, e⟩, hb⟩ := h; exact ⟨⟨C, ia, b, m, u.get e n⟩, u.1⟩
end
theorem Ea {σ : Sto} {x y : Addr} (hx : σ x = none) (hy : σ y ≠ none) : y ≠ x := fun e => hy (by rw [e]; exact hx)
theorem Ds {σ σ₁ : Sto} {p : Addr} (h : ∀ x, x ≠ p → σ₁ x = σ x) (o : Cv) : ∀ x, x ≠ p → (σ₁.upd p o) x = σ x := fun x hx => by rw [Sto.upd_ne _ _ hx, h x hx]
theorem KY {σ σ₁ : Sto} {p : Addr} (hp : σ p = none) (h : ∀ x, x ≠ p → σ₁ x = σ x) : Ai σ σ₁ := fun x hx => h x (Ea hp hx)
theorem ID (h : 10 < n) {σ : Sto} {K : B9} (hk : ∀ σ' p, Ai σ σ' → K (.ref p) σ') : Ab rows n 10 [] σ K := by
 refine Am (ρ := [none, none]) Fi (by assumption) rfl rfl rfl rfl (by kernel_rfl) ?_; unfold Fi
 refine A4 ?_
 kpf_c
 intro p hp
 refine ⟨#[], Dw ?_⟩
 kpf_c
 refine ⟨#[], _, rfl, ?_⟩
 have go : ∀ (l : List Str) (m : Nat) (x : Option D) (σ₁ : Sto) (its : List D) (R : KS), (∀ x σ₂ k, (∀ y, y ≠ p → σ₂ y = σ y) → (σ₂ p = some (.sdict k) ∨ σ₂ p = some .edict ∧ k = 0) → k ≤ 100 → R .next [some (.ref p), x] σ₂) → m + l.length ≤ 100 → (σ₁ p = some (.sdict m) ∨ σ₁ p = some .edict ∧ m = 0) → (∀ y, y ≠ p → σ₁ y = σ y) →
   Ec (fun σ' => Ah σ' (.tup its) = some its ∧ As σ' (.tup its) = As (σ.upd p .edict) (.tup its)) (fun x ρ σ K' => Ap (Ab rows 10) (.loc 1) x ρ σ fun ρ' σ' => Ak (Ab rows 10) #[.asg (.idx (.loc 0) (.loc 1)) {0}] ρ' σ' K') (l.map .str) [some (.ref p), x] σ₁ R := by
  intro l
  induction l with
  | nil => exact fun m x σ₁ its R hR hm h1 h2 => ⟨⟨rfl, rfl⟩, hR _ _ _ h2 h1 (by simpa using hm)⟩
  | cons s l ih =>
   intro m x σ₁ its R hR hm h1 h2
   simp only [List.length_cons] at hm
   refine ⟨⟨rfl, rfl⟩, ?_⟩
   kpf_c
   refine ⟨#[], A8 ?_⟩
   kpf_c
   refine .inl ⟨s, m, rfl, h1, by lia, AR ?_⟩
   exact ih (m + 1) _ _ _ _ hR (by lia) (.inl (Sto.upd_self ..)) (Ds h2 _)
 refine go [(Z "mark"), (Z "priority"), (Z "iif"), (Z "oif"), (Z "iifname"), (Z "oifname"), (Z "pkttype")] 0 _ _ _ _ ?_ #[] (.inr ⟨Sto.upd_self .., rfl⟩) (fun y hy => Sto.upd_ne _ _ hy)
 intro x σ₂ k h2 h1 hk'
 show Ak _ (.cons (.asg _ _) _) _ _ _
 refine A8 ?_
 kpf_c
 refine .inl ⟨_, k, rfl, h1, by lia, A8 ?_⟩
 kpf_c
 refine .inl ⟨_, k + 1, rfl, .inl (Sto.upd_self ..), by lia, Ac ?_⟩
 kpf_c
 exact hk _ _ (KY hp (Ds (Ds h2 _) _))
theorem AL {Φ : Bn} {i : Nat} {x : Str} {d : D} {ρ : Rho} {σ : Sto} {r : PSs} {K : KS} {p C ia : Addr} {fs : List (Str × D)} (gs : List (Str × D)) (hp : ρ[i]? = some (some (.ref p))) (ho : σ p = some (.inst C ia fs)) (hf : fs.length < 400) (hg : IV x d fs = gs) (k : Ak Φ r ρ (σ.upd p (.inst C ia gs)) K) :
  Ap Φ (.attr (.loc i) x) d ρ σ fun ρ' σ' => Ak Φ r ρ' σ' K := by
 dsimp only [Ap]
 show wpE Φ (.loc i) ρ σ _
 dsimp only [wpE]
 rw [hp]
 exact ⟨p, C, ia, fs, rfl, ho, hf, by rw [hg]; exact k⟩
theorem KH (h : 11 < n) {σ : Sto} {d l : List UInt8} {kd : Nat} {K : B9} (hd : d.length ≤ 1000000) (hl : l.length ≤ 1000000) (hk : ∀ σ' x a b m ia, Ai σ σ' → σ x = none → σ a = none → σ' x = some (.inst 131 ia (pf a b kd (-1) (-1) 0 m)) → σ' a = some (.barr d) → K (.ref x) σ') : Ab rows n 11 [.bytes d, .int kd, .bytes l] σ K := by
 refine Ki 131 (fun x => [some (.ref x), some (.bytes d), some (.int kd), some (.bytes l)]) It h rfl rfl rfl (nb rfl) (fun ω => rfl) (fun ω => by kernel_rfl) ?_
 intro x ia hx
 unfold It
 refine A8 ?_
 kst_p
 refine ⟨hd, fun a ha => ?_⟩
 have nax : a ≠ x := fun e => by rw [e, Sto.upd_self] at ha; cases ha
 have han : σ a = none := by rw [Sto.upd_ne _ _ nax] at ha; exact ha
 have o1 : ((σ.upd x (.inst 131 ia [])).upd a (.barr d)) x = some (.inst 131 ia []) := by rw [Sto.upd_ne _ _ (Ne.symm nax), Sto.upd_self]
 have a1 : ((σ.upd x (.inst 131 ia [])).upd a (.barr d)) a = some (.barr d) := Sto.upd_self ..
 have s1 : Ai σ ((σ.upd x (.inst 131 ia [])).upd a (.barr d)) := (Ai.new hx).trans (.new ha)
 generalize ((σ.upd x (.inst 131 ia [])).upd a (.barr d)) = σ₁ at *
 show Ap _ _ _ _ _ _
 refine AL [((Z "data"), .ref a)] (by rfl) o1 (nb rfl) (by rfl) (A8 ?_)
 have st : ∀ (τ : Sto) (gs : List (Str × D)), Ai σ τ → τ a = some (.barr d) → Ai σ (τ.upd x (.inst 131 ia gs)) ∧ (τ.upd x (.inst 131 ia gs)) x = some (.inst 131 ia gs) ∧ (τ.upd x (.inst 131 ia gs)) a = some (.barr d) := fun τ gs hs ht =>
  ⟨fun y hy => by rw [Sto.upd_ne _ _ (Ea hx hy), hs y hy], Sto.upd_self .., by rw [Sto.upd_ne _ _ nax, ht]⟩
 refine oa3 (st σ₁ [((Z "data"), .ref a)] s1 a1) fun s2 o2 a2 => ?_
 generalize (σ₁.upd x (.inst 131 ia [((Z "data"), .ref a)])) = σ₂ at *
 kst_p
 refine ⟨hl, fun b hb => ?_⟩
 have s3 : Ai σ₂ (σ₂.upd b (.barr l)) := .new hb
 have o3 := s3.get o2
 have a3 := s3.get a2
 have s3 := s2.trans s3
 generalize (σ₂.upd b (.barr l)) = σ₃ at *
 show Ap _ _ _ _ _ _
 refine AL [((Z "data"), .ref a), ((Z "link"), .ref b)] (by rfl) o3 (nb rfl) (by rfl) (A8 ?_)
 refine oa3 (st σ₃ [((Z "data"), .ref a), ((Z "link"), .ref b)] s3 a3) fun s4 o4 a4 => ?_
 generalize (σ₃.upd x _) = σ₄ at *
 kst_p
 show Ap _ _ _ _ _ _
 refine AL [((Z "data"), .ref a), ((Z "link"), .ref b), ((Z "kind"), .int kd)] (by rfl) o4 (nb rfl) (by rfl) (A8 ?_)
 refine oa3 (st σ₄ [((Z "data"), .ref a), ((Z "link"), .ref b), ((Z "kind"), .int kd)] s4 a4) fun s5 o5 a5 => ?_
 generalize (σ₄.upd x _) = σ₅ at *
 kst_p
 show Ap _ _ _ _ _ _
 refine AL [((Z "data"), .ref a), ((Z "link"), .ref b), ((Z "kind"), .int kd), ((Z "l4"), .int (-1))] (by rfl) o5 (nb rfl) (by rfl) (A8 ?_)
 refine oa3 (st σ₅ [((Z "data"), .ref a), ((Z "link"), .ref b), ((Z "kind"), .int kd), ((Z "l4"), .int (-1))] s5 a5) fun s6 o6 a6 => ?_
 generalize (σ₅.upd x _) = σ₆ at *
 kst_p
 show Ap _ _ _ _ _ _
 refine AL [((Z "data"), .ref a), ((Z "link"), .ref b), ((Z "kind"), .int kd), ((Z "l4"), .int (-1)), ((Z "off"), .int (-1))] (by rfl) o6 (nb rfl) (by rfl) (A8 ?_)
 refine oa3 (st σ₆ [((Z "data"), .ref a), ((Z "link"), .ref b), ((Z "kind"), .int kd), ((Z "l4"), .int (-1)), ((Z "off"), .int (-1))] s6 a6) fun s7 o7 a7 => ?_
 generalize (σ₆.upd x _) = σ₇ at *
 kst_p
 show Ap _ _ _ _ _ _
 refine AL [((Z "data"), .ref a), ((Z "link"), .ref b), ((Z "kind"), .int kd), ((Z "l4"), .int (-1)), ((Z "off"), .int (-1)), ((Z "place"), .int 0)] (by rfl) o7 (nb rfl) (by rfl) (A8 ?_)
 refine oa3 (st σ₇ [((Z "data"), .ref a), ((Z "link"), .ref b), ((Z "kind"), .int kd), ((Z "l4"), .int (-1)), ((Z "off"), .int (-1)), ((Z "place"), .int 0)] s7 a7) fun s8 o8 a8 => ?_
 generalize (σ₇.upd x _) = σ₈ at *
 kst_p
 refine ID #[] fun σ₉ m s9 => ?_
 have o9 := s9.get o8
 have a9 := s9.get a8
 have s9 := s8.trans s9
 show Ap _ _ _ _ _ _
 refine AL (pf a b kd (-1) (-1) 0 (.ref m)) (by rfl) o9 (nb rfl) (by rfl) (AR ?_)
 refine oa3 (st σ₉ (pf a b kd (-1) (-1) 0 (.ref m)) s9 a9) fun s10 o10 a10 => ?_
 exact ⟨rfl, hk _ x a b (.ref m) ia s10 hx han o10 a10⟩
theorem Hm {σ : Sto} {a : Addr} {l : List UInt8} {K : B9} (hs : σ a = some (.barr l)) (k : K (.bytes l) σ) : Fa .bytes [.ref a] σ K := ⟨l, hs, k⟩
theorem AX {σ : Sto} {l : List D} {d : D} {K : D → Prop} (i : Nat) (h : l[i]? = some d) (hi : i < 1000) (k : K d) : Kg σ (.tup l) (.int (i : Int)) K := by
 refine ⟨d, ?_, by lia, k⟩
 have hlt : i < l.length := by
  have := List.getElem?_eq_some_iff.mp h
  exact this.1
 unfold BX
 rw [if_pos (by lia), if_pos (by lia)]
 simpa using h
theorem NM (h : 12 < n) {σ : Sto} {p a b C ia : Addr} {m : D} {kd pr off : Nat} {x y z : Int} {d : List UInt8} {K : B9} (ho : σ p = some (.inst C ia (pf a b kd x y z m))) (hb : σ a = some (.barr d)) (hv : V kd pr off d)
  (hk : ∀ σ', Upd σ p (.inst C ia (pf a b kd pr off 0 m)) σ' → K .none σ') : Ab rows n 12 [.ref p] σ K := by
 refine Am (ρ := [some (.ref p), none]) MY (by assumption) rfl rfl rfl rfl (by kernel_rfl) ?_; unfold MY
 have nap : a ≠ p := fun e => by rw [e, ho] at hb; cases hb
 have st : ∀ (τ : Sto) (fs gs : List (Str × D)), Upd σ p (.inst C ia fs) τ → Upd σ p (.inst C ia gs) (τ.upd p (.inst C ia gs)) := fun τ fs gs u => u.trans (Upd.mk' ..)
 refine A8 ?_
 kst_p
 show Ap _ _ _ _ _ _
 refine AL (pf a b kd (-1) y z m) (by rfl) ho (nb rfl) (by rfl) (A8 ?_)
 have u1 : Upd σ p (.inst C ia (pf a b kd (-1) y z m)) (σ.upd p (.inst C ia (pf a b kd (-1) y z m))) := Upd.mk' ..
 generalize (σ.upd p (.inst C ia (pf a b kd (-1) y z m))) = σ₁ at *
 kst_p
 show Ap _ _ _ _ _ _
 refine AL (pf a b kd (-1) (-1) z m) (by rfl) u1.1 (nb rfl) (by rfl) (A8 ?_)
 have u2 := st _ _ (pf a b kd (-1) (-1) z m) u1
 generalize (σ₁.upd p _) = σ₂ at *
 kst_p
 show Ap _ _ _ _ _ _
 refine AL (pf a b kd (-1) (-1) 0 m) (by rfl) u2.1 (nb rfl) (by rfl) (A4 ?_)
 have u3 := st _ _ (pf a b kd (-1) (-1) 0 m) u2
 generalize (σ₂.upd p _) = σ₃ at *
 kpf_c
 refine ⟨#[], ?_⟩
 have tail : ∀ σ₄, Upd σ p (.inst C ia (pf a b kd (-1) (-1) 0 m)) σ₄ → Ak (Ab rows 12) #[.cond (.cmp .Is (.loc 1) (.cst .none)) #[.ret (.cst .none)] .nil,.asg (.attr (.loc 0) (Z "l4")) (.idx (.loc 1) {0}),.asg (.attr (.loc 0) (Z "place")) (.idx (.loc 1) {2}),.cond (.bop .And #[.cmp .Eq (.idx (.loc 1) {2}) {0},.cmp .LtE (.idx (.loc 1) {1}) (.blt .len #[.attr (.loc 0) (Z "data")])]) #[.asg (.attr (.loc 0) (Z "off")) (.idx (.loc 1) {1})] .nil] [some (.ref p), some (Nq pr off)] σ₄ (Bh K) := by
  intro σ₄ u4
  refine Ad (fun R hR => ?_) (A1 (A8 ?_))
  ·kpf_c; exact hR
  kst_p
  refine AX 0 rfl #[] ?_
  show Ap _ _ _ _ _ _
  refine AL (pf a b kd pr (-1) 0 m) (by rfl) u4.1 (nb rfl) (by rfl) (A8 ?_)
  have u5 := st _ _ (pf a b kd pr (-1) 0 m) u4
  generalize (σ₄.upd p _) = σ₅ at *
  kst_p
  refine AX 2 rfl #[] ?_
  show Ap _ _ _ _ _ _
  refine AL (pf a b kd pr (-1) 0 m) (by rfl) u5.1 (nb rfl) (by rfl) ?_
  have u6 := st _ _ (pf a b kd pr (-1) 0 m) u5
  generalize (σ₅.upd p _) = σ₆ at *
  refine Al (fun R hR => ?_) (A8 ?_)
  ·kpf_c
   refine AX 2 rfl #[] ?_
   refine ⟨fun ω => AX 1 rfl #[] ?_, fun e => absurd e #[]⟩
   refine at_ u6.1 rfl (Bl (u6.get hb nap) ?_)
   have e1 : decide ((off : Int) ≤ (d.length : Int)) = true := by have := hv.off; simp; lia
   rw [QR, e1]
   exact ⟨fun ω => hR, fun e => absurd e #[]⟩
  kst_p
  refine AX 1 rfl #[] ?_
  show Ap _ _ _ _ _ _
  refine AL (pf a b kd pr off 0 m) (by rfl) u6.1 (nb rfl) (by rfl) (A1 (AR ?_))
  exact hk _ (st _ _ (pf a b kd pr off 0 m) u6)
 cases hv with
 | v4 _ _ _ u0 u9 hl ho h20 h0 h04 hoff h6 h9 hpr =>
  have hv : V 2048 pr off d := .v4 pr off d u0 u9 hl ho h20 h0 h04 hoff h6 h9 hpr
  refine Al (fun R hR => ?_) (A4 ?_)
  ·kpf_c; exact at_ u3.1 rfl hR
  kpf_c
  refine at_ u3.1 rfl (HB #[] (u3.get hb nap) hv fun σ₄ s4 => ⟨#[], A1 (tail _ (u3.post s4))⟩)
 | v6 _ _ _ u0 u6 hl ho h40 h0 h06 h6 k3 hx =>
  have hv : V 34525 pr off d := .v6 pr off d u0 u6 hl ho h40 h0 h06 h6 k3 hx
  refine Ad (fun R hR => ?_) (Al (fun R hR => ?_) (A4 ?_))
  ·kpf_c; exact at_ u3.1 rfl hR
  ·kpf_c; exact at_ u3.1 rfl hR
  kpf_c
  refine at_ u3.1 rfl (HA #[] (u3.get hb nap) hv ⟨#[], A1 (A1 (tail _ u3))⟩)
theorem CI (h : 13 < n) {σ : Sto} {kd pr off : Nat} {d : List UInt8} {K : B9} (hv : V kd pr off d) (hk : ∀ σ' p a, Ai σ σ' → σ p = none → σ a = none → PK σ' p a kd pr off d → K (.ref p) σ') : Ab rows n 13 [.bytes d, .int kd] σ K := by
 refine QI [.bytes d, .int kd, .bytes []] (ρ := [some (.bytes d), some (.int kd), some (.bytes []), none]) En h rfl rfl rfl (nb rfl) rfl rfl (by kernel_rfl) ?_
 unfold En
 refine A4 ?_
 kpf_c
 refine KH #[] (by have := hv.len; lia) #[] fun σ₁ p a b m ia s1 hp han ho hb => ?_
 refine ⟨#[], BC ?_⟩
 kpf_c
 refine NM #[] ho hb hv fun σ₂ u2 => ⟨rfl, Ac ?_⟩
 kpf_c
 have nap : a ≠ p := fun e => by rw [e, ho] at hb; cases hb
 refine hk _ p a (fun x hx => ?_) hp han ⟨⟨_, _, _, _, u2.1⟩, u2.get hb nap⟩
 have e := s1 x hx
 rw [u2.2 x (Ea hp hx) (by rw [e]; exact hx), e]
theorem HC (h : 14 < n) {σ : Sto} {p a : Addr} {kd l4 off : Nat} {d : List UInt8} {K : B9} (pk : PK σ p a kd l4 off d) (hd : kd = 2048 ∨ kd = 34525) (hk : K (.int ((if kd = 2048 then 2 else 10 : Nat) : Int)) σ) : Ab rows n 14 [.ref p] σ K := by
 refine Am (ρ := [some (.ref p)]) Es (by assumption) rfl rfl rfl rfl (by kernel_rfl) ?_; unfold Es
 rcases hd with rfl | rfl
 ·refine Al (fun R hR => ?_) (Ac hk)
  kpf_c; exact pk.kind hR
 ·refine Ad (fun R hR => ?_) (A1 (Al (fun R hR => ?_) (Ac hk)))
  ·kpf_c; exact pk.kind hR
  ·kpf_c; exact pk.kind hR
section
variable {a p : Addr} {d new : List UInt8} {b l4 : Nat} {bs : Str}
def Qa (bs : Str) (bo off : Nat) : Prop := (bs = (Z "network") ∧ bo = 0) ∨ (bs = (Z "transport") ∧ bo = off)
theorem Tr : ((Z "network") == (Z "network")) = true := by kernel_rfl
theorem To : ((Z "transport") == (Z "network")) = false := by kernel_rfl
theorem Sk : ((Z "transport") == (Z "transport")) = true := by kernel_rfl
theorem Tq : ((Z "network") == (Z "transport")) = false := by kernel_rfl
theorem Ts : ((Z "network") == (Z "link")) = false := by kernel_rfl
theorem Tp : ((Z "transport") == (Z "link")) = false := by kernel_rfl
theorem Fz (h : 15 < n) {kd l4 off bo : Nat} (pk : PK σ p a kd l4 off d) (B : Qa bs bo off) (hk : K (.tup [.ref a, .int bo]) σ) : Ab rows n 15 [.ref p, .str bs] σ K := by
 refine Am (ρ := [some (.ref p), some (.str bs)]) Gs (by assumption) rfl rfl rfl rfl (by kernel_rfl) ?_; unfold Gs
 rcases B with ⟨rfl, rfl⟩ | ⟨rfl, rfl⟩
 ·refine Al (fun R hR => ?_) (Ac ?_)
  ·kpf_c; rw [Tr]; exact hR
  ·kpf_c; exact pk.data ⟨#[], hk⟩
 ·refine Ad (fun R hR => ?_) (A1 (Al (fun R hR => ?_) (Ad (fun R hR => ?_) (A1 (Ac ?_)))))
  ·kpf_c; rw [To]; exact hR
  ·kpf_c; rw [Sk]; exact hR
  ·kpf_c; refine pk.off ?_
   have e : decide ((bo : Int) < 0) = false := by simp
   rw [LC, e]; exact hR
  ·kpf_c; exact pk.data (pk.off ⟨#[], hk⟩)
theorem Dg (h : 16 < n) {kd l4 off bo at' many : Nat} (pk : PK σ p a kd l4 off d) (B : Qa bs bo off) (hl : d.length ≤ 1000) (hm : bo + at' + many ≤ d.length) (hk : ∀ σ', Ai σ σ' → K (.bytes (cut d (bo + at') (bo + at' + many))) σ') : Ab rows n 16 [.ref p, .str bs, .int at', .int many] σ K := by
 refine Am (ρ := [some (.ref p), some (.str bs), some (.int at'), some (.int many), none, none]) MW (by assumption) rfl rfl rfl rfl (by kernel_rfl) ?_; unfold MW
 have e0 : decide ((at' : Int) < 0) = false := by simp
 refine A4 ?_
 kpf_c
 refine Fz #[] pk B ⟨#[], ?_⟩
 refine Ad (fun R hR => ?_) (A1 (A4 ?_))
 ·kpf_c; rw [e0]; exact ⟨fun ω => ⟨fun ω => hR, fun e => absurd e #[]⟩, fun e => absurd e #[]⟩
 kpf_c
 refine AX 1 rfl #[] ?_
 rw [B2, show (bo : Int) + (at' : Int) = ((bo + at' : Nat) : Int) from rfl]
 refine ⟨#[], Ad (fun R hR => ?_) (A1 (Ac ?_))⟩
 ·kpf_c
  refine AX 0 rfl #[] (Bl pk.buf ?_)
  have e : decide ((d.length : Int) < ((bo + at' : Nat) : Int) + (many : Int)) = false := by simp; lia
  rw [PZ, e]; exact hR
 kpf_c
 refine AX 0 rfl #[] ?_
 rw [show ((bo + at' : Nat) : Int) + (many : Int) = ((bo + at' + many : Nat) : Int) from rfl]
 refine KQ pk.buf _ _ (by lia) (by lia) fun q hq => ?_
 exact Hm (Sto.upd_self ..) (hk _ (.new hq))
noncomputable def A7 (d : List UInt8) (b : Nat) (new : List UInt8) : List UInt8 := d.take b ++ new ++ d.drop (b + new.length)
theorem AU (h : b + new.length ≤ d.length) : (A7 d b new).length = d.length := by
 unfold A7; rw [List.length_append, List.length_append, List.length_take_of_le (Nat.le_trans (Nat.le_add_right _ _) h), List.length_drop, Nat.add_sub_cancel' h]
theorem KU {b e : Nat} {K : Sto → Prop} (hs : σ a = some (.barr d)) (he : e = b + new.length) (hl : d.length ≤ 1000) (hm : e ≤ d.length) (hk : K (σ.upd a (.barr (A7 d b new)))) : Ng σ (.ref a) (.int (b : Int)) (.int (e : Int)) (.bytes new) K := by
 subst he
 refine ⟨d, b, b + new.length, new, hs, rfl, ?_, ?_, rfl, hk⟩
 ·rw [Cd _ _ (by lia), Nat.min_eq_left (by lia)]
 ·rw [Cl _ _ (by lia), Nat.min_eq_left (by lia)]
theorem IB (h : 17 < n) {kd l4 off bo at' : Nat} (pk : PK σ p a kd l4 off d) (B : Qa bs bo off) (hl : d.length ≤ 1000) (hm : bo + at' + new.length ≤ d.length) (hk : ∀ σ', Upd σ a (.barr (A7 d (bo + at') new)) σ' → K .none σ') : Ab rows n 17 [.ref p, .str bs, .int at', .bytes new] σ K := by
 refine Am (ρ := [some (.ref p), some (.str bs), some (.int at'), some (.bytes new), none, none]) Ff (by assumption) rfl rfl rfl rfl (by kernel_rfl) ?_; unfold Ff
 have e0 : decide ((at' : Int) < 0) = false := by simp
 refine A4 ?_
 kpf_c
 refine Fz #[] pk B ⟨#[], ?_⟩
 refine Ad (fun R hR => ?_) (A1 (A4 ?_))
 ·kpf_c; rw [e0]
  refine ⟨fun ω => ⟨fun ω => AX 1 rfl #[] ?_, fun e => absurd e #[]⟩, fun e => absurd e #[]⟩
  rw [B2, B2]
  refine ⟨by lia, AX 0 rfl #[] (Bl pk.buf ?_)⟩
  have e : decide ((d.length : Int) < (bo : Int) + (at' : Int) + (new.length : Int)) = false := by simp; lia
  rw [PZ, e]; exact ⟨fun ω => hR, fun e => absurd e #[]⟩
 kpf_c
 refine AX 1 rfl #[] ?_
 rw [B2, show (bo : Int) + (at' : Int) = ((bo + at' : Nat) : Int) from rfl]
 refine ⟨#[], A8 ?_⟩
 kpf_c
 refine AX 0 rfl #[] ⟨by lia, ?_⟩
 rw [show ((bo + at' : Nat) : Int) + (new.length : Int) = ((bo + at' + new.length : Nat) : Int) from rfl]
 exact KU pk.buf rfl hl hm (AR (hk _ (Upd.mk' ..)))
noncomputable def C7 (l4 : Nat) : Option Nat := if l4 = 6 then some 16 else if l4 = 17 then some 6 else if l4 = 1 ∨ l4 = 58 then some 2 else none
noncomputable def JG : Option Nat → Int
 | some p => p
 | none => -1
theorem Bp (a b : Nat) : ((a : Int) == (b : Int)) = decide (a = b) := by
 by_cases h : a = b
 ·subst h; simp
 ·rw [decide_eq_false h]; simp only [beq_eq_false_iff_ne]; lia
theorem Hz (h : 18 < n) (hk : K (.int (JG (C7 l4))) σ) : Ab rows n 18 [.int l4] σ K := by
 refine Am (ρ := [some (.int l4)]) El (by assumption) rfl rfl rfl rfl (by kernel_rfl) ?_; unfold El
 by_cases h6 : l4 = 6
 ·subst h6
  exact Al (fun R hR => hR) (Ac hk)
 refine Ad (fun R hR => ?_) (A1 ?_)
 ·kpf_c; rw [show ((l4 : Int) == 6) = false from (Bp l4 6).trans (decide_eq_false h6)]; exact hR
 by_cases h17 : l4 = 17
 ·subst h17
  exact Al (fun R hR => hR) (Ac hk)
 refine Ad (fun R hR => ?_) (A1 ?_)
 ·kpf_c; rw [show ((l4 : Int) == 17) = false from (Bp l4 17).trans (decide_eq_false h17)]; exact hR
 by_cases h1 : l4 = 1 ∨ l4 = 58
 ·refine Al (fun R hR => ?_) (Ac ?_)
  ·kpf_c; rcases h1 with rfl | rfl <;> exact ⟨#[], [1, 58], rfl, hR⟩
  ·kpf_c; rcases h1 with rfl | rfl <;> exact hk
 refine Ad (fun R hR => ?_) (A1 (Ac ?_))
 ·kpf_c
  refine ⟨#[], [1, 58], rfl, ?_⟩
  have : ([1, 58] : List Int).contains (l4 : Int) = false := by
   simp only [List.contains_cons, List.contains_nil, Bool.or_false, Bool.or_eq_false_iff]
   exact ⟨(Bp l4 1).trans (decide_eq_false fun e => h1 (.inl e)), (Bp l4 58).trans (decide_eq_false fun e => h1 (.inr e))⟩
  rw [this]; exact hR
 ·kpf_c
  have : C7 l4 = none := by unfold C7; rw [if_neg h6, if_neg h17, if_neg h1]
  rw [this] at hk; exact hk
noncomputable def Ao (b e l h : Nat) : Nat × Nat := if min e h ≤ max b l then (0, 0) else (max b l / 2 * 2, (min e h + 1) / 2 * 2)
noncomputable def BM (x : Nat × Nat) : D := .tup [.int x.1, .int x.2]
theorem Q3 (a b : Int) (σ : Sto) (K : B9) : Fa .max [.int a, .int b] σ K = K (.int (max a b)) σ := rfl
theorem S6 (a b : Int) (σ : Sto) (K : B9) : Fa .min [.int a, .int b] σ K = K (.int (min a b)) σ := rfl
theorem CY (h : 19 < n) {b e l hi : Nat} (hk : K (BM (Ao b e l hi)) σ) : Ab rows n 19 [.int b, .int e, .int l, .int hi] σ K := by
 refine Am (ρ := [some (.int b), some (.int e), some (.int l), some (.int hi), none, none]) Ir (by assumption) rfl rfl rfl rfl (by kernel_rfl) ?_; unfold Ir
 refine A4 ?_
 kpf_c
 rw [Q3, show max (b : Int) (l : Int) = ((max b l : Nat) : Int) by lia]
 refine ⟨#[], A4 ?_⟩
 kpf_c
 rw [S6, show min (e : Int) (hi : Int) = ((min e hi : Nat) : Int) by lia]
 refine ⟨#[], ?_⟩
 unfold Ao at hk
 by_cases hc : min e hi ≤ max b l
 ·refine Al (fun R hR => ?_) (Ac ?_)
  ·kpf_c
   rw [show decide (((min e hi : Nat) : Int) ≤ ((max b l : Nat) : Int)) = true by simp only [decide_eq_true_eq]; lia]; exact hR
  ·kpf_c; rw [if_pos hc] at hk; exact ⟨#[], hk⟩
 ·refine Ad (fun R hR => ?_) (A1 (Ac ?_))
  ·kpf_c
   rw [show decide (((min e hi : Nat) : Int) ≤ ((max b l : Nat) : Int)) = false by simp only [decide_eq_false_iff_not]; lia]; exact hR
  ·kpf_c
   rw [if_neg hc] at hk
   refine ⟨#[], .inr #[], #[], .inr #[], #[], ?_⟩
   have e1 : (((max b l : Nat) : Int).fdiv 2) * 2 = ((max b l / 2 * 2 : Nat) : Int) := by
    rw [show (2 : Int) = ((2 : Nat) : Int) from rfl, Ck]; norm_cast
   have e2 : ((((min e hi : Nat) : Int) + 1).fdiv 2) * 2 = (((min e hi + 1) / 2 * 2 : Nat) : Int) := by
    rw [show ((min e hi : Nat) : Int) + 1 = ((min e hi + 1 : Nat) : Int) by lia, show (2 : Int) = ((2 : Nat) : Int) from rfl, Ck]; norm_cast
   rw [e1, e2]
   exact hk
noncomputable def AT (d : List UInt8) (f b : Nat) : List UInt8 := if (cut d f b).length < b - f then cut d f b ++ [0] else cut d f b
theorem BH (d : List UInt8) (f b : Nat) : (cut d f b).length = min (b - f) (d.length - f) := by unfold cut; simp
theorem S0 {f b N : Nat} (h : d.length ≤ N) : (cut d f b).length ≤ N := by rw [BH]; exact Nat.le_trans (Nat.min_le_right _ _) (Nat.le_trans (Nat.sub_le _ _) h)
theorem PR {i j N : Nat} (h : j - i ≤ N) : (cut d i j).length ≤ N := by rw [BH]; exact Nat.le_trans (Nat.min_le_left _ _) h
theorem D1 {b n N : Nat} (h : n ≤ N) : (cut d b (b + n)).length ≤ N := PR (by rw [Nat.add_sub_cancel_left]; exact h)
theorem EI (h : 21 < n) {x : D} {f b : Nat} (hx : x = .bytes d ∨ ∃ a, x = .ref a ∧ σ a = some (.barr d)) (hl : d.length ≤ 1000) (hf : f ≤ 10000) (hb : b ≤ 10000) (hfb : f ≤ b) (hk : ∀ σ', Ai σ σ' → K (.bytes (AT d f b)) σ') : Ab rows n 21 [x, .int f, .int b] σ K := by
 refine Am (ρ := [some x, some (.int f), some (.int b), none]) Fh (by assumption) rfl rfl rfl rfl (by kernel_rfl) ?_; unfold Fh
 refine A4 ?_
 have tail : ∀ σ', Ai σ σ' → Ak (Ab rows 21) (.cons (.cond (.cmp .Lt (.blt .len #[.loc 3]) (.bin .Sub (.loc 2) (.loc 1))) (.cons (.aug 3 .Add (.cst (.bytes [0]))) .nil) .nil)
  #[.ret (.loc 3)]) [some x, some (.int f), some (.int b), some (.bytes (cut d f b))] σ' (Bh K) := by
  intro σ' s
  have hcl : (cut d f b).length ≤ 1000 := S0 hl
  unfold AT at hk
  by_cases hc : (cut d f b).length < b - f
  ·refine Al (fun R hR => ?_) ?_
   ·kpf_c
    refine ⟨by lia, ?_⟩
    rw [show decide (((cut d f b).length : Int) < (b : Int) - (f : Int)) = true by simp only [decide_eq_true_eq]; lia]; exact hR
   rw [if_pos hc] at hk
   show ∃ old, _ = _ ∧ _
   refine ⟨_, rfl, ?_⟩
   show (Operator.Add = .Add ∧ True) ∧ _
   refine ⟨⟨rfl, trivial⟩, ?_⟩
   show (cut d f b).length + [(0 : UInt8)].length ≤ 1000000 ∧ _
   refine ⟨by simp; lia, ?_⟩
   exact hk _ s
  ·refine Ad (fun R hR => ?_) (A1 (Ac ?_))
   ·kpf_c
    refine ⟨by lia, ?_⟩
    rw [show decide (((cut d f b).length : Int) < (b : Int) - (f : Int)) = false by simp only [decide_eq_false_iff_not]; lia]; exact hR
   ·rw [if_neg hc] at hk; exact hk _ s
 rcases hx with rfl | ⟨a, rfl, hs⟩
 ·kpf_c
  refine Si (by lia) f b (by lia) (by lia) ?_
  exact ⟨#[], tail σ (.refl σ)⟩
 ·kpf_c
  exact KQ hs f b (by lia) (by lia) fun q hq => Hm (Sto.upd_self ..) ⟨#[], tail _ (.new hq)⟩
end
section
variable {a : Addr} {l : List UInt8}
section
variable {Φ : Bn} {ρ : Rho} {σ : Sto} {K : KS} {r : PSs} {o e : PE}
theorem Ey (h : wpE Φ o ρ σ fun d σ₁ => (∃ a l, d = .ref a ∧ σ₁ a = some (.mlist l)) ∧ wpE Φ e ρ σ₁ fun x σ₂ => ∃ a l, d = .ref a ∧ σ₂ a = some (.mlist l) ∧ l.length < 1000 ∧ Ak Φ r ρ (σ₂.upd a (.mlist (l ++ [x]))) K) : Ak Φ (.cons (.append o e) r) ρ σ K := h
theorem Nc {i : Nat} {es : PEs} (h : Fq Φ es ρ σ fun ds σ₁ => (i < ρ.length ∧ ds.length ≤ 1000) ∧ ∀ p, σ₁ p = none → Ak Φ r (ρ.set i (some (.ref p))) (σ₁.upd p (.mlist ds)) K) : Ak Φ (.cons (.newl i es) r) ρ σ K := h
end
set_option tactic.hygienic true in
theorem F3 {σ σ' : Sto} {x : D} {its : List D} (e : Ah σ x = some its) (s : Ai σ σ') : Ah σ' x = some its ∧ As σ' x = As σ x := by
 unfold Ah at e ⊢
 unfold As
 split at e <;> try exact ⟨e, rfl⟩
 ·rename_i a
  cases ha : σ a with
  | none => rw [ha] at e; cases e
  | some o => dsimp only at e ⊢; rw [ha] at e; rw [s.get ha, ha]; exact ⟨e, rfl⟩
 ·cases e
set_option tactic.hygienic true in
theorem Om {σ σ' : Sto} {x : D} {its : List D} {l l' : List UInt8} (e : Ah σ x = some its) (hb : As σ x = false) (ha : σ a = some (.barr l)) (u : Upd σ a (.barr l') σ') : Ah σ' x = some its ∧ As σ' x = false := by
 unfold Ah at e ⊢
 unfold As at hb ⊢
 split at e <;> try exact ⟨e, rfl⟩
 ·rename_i r
  have n : r ≠ a := fun c => by rw [c] at hb; dsimp only at hb; rw [ha] at hb; cases hb
  dsimp only at hb ⊢
  cases hr : σ r with
  | none => rw [hr] at e; cases e
  | some o => rw [u.get hr n]; rw [hr] at e hb; exact ⟨e, hb⟩
 ·cases e
inductive AQ (σ : Sto) : List D → List (Nat × List (Nat × Nat)) → Prop
 | nil : AQ σ [] []
 | cons (place : Nat) (x : D) (sts : List (Nat × Nat)) (L : List D) (R : List (Nat × List (Nat × Nat))) : Ah σ x = some (sts.map BM) → As σ x = false → AQ σ L R → AQ σ (.tup [.int place, x] :: L) ((place, sts) :: R)
theorem AQ.mono {σ σ' : Sto} (s : Ai σ σ') {L : List D} {R : List (Nat × List (Nat × Nat))} (r__ : AQ σ L R) : AQ σ' L R := by
 induction r__ with
 | nil =>
  exact .nil
 | cons p x st L R h1 h2 h3 ih__ =>
  refine oa2 (F3 h1 s) fun g1 g2 => ?_
  exact .cons p x st L R g1 (by rw [g2, h2]) ih__
theorem AQ.upd {σ σ' : Sto} {l l' : List UInt8} (ha : σ a = some (.barr l)) (u : Upd σ a (.barr l') σ') {L : List D} {R : List (Nat × List (Nat × Nat))} (r__ : AQ σ L R) : AQ σ' L R := by
 induction r__ with
 | nil =>
  exact .nil
 | cons p x st L R h1 h2 h3 ih__ =>
  refine oa2 (Om h1 h2 ha u) fun g1 g2 => ?_
  exact .cons p x st L R g1 g2 ih__
theorem AQ.app {σ : Sto} {L L' : List D} {R R' : List (Nat × List (Nat × Nat))} (r__ : AQ σ L R) : AQ σ L' R' → AQ σ (L ++ L') (R ++ R') := by
 induction r__ with
 | nil =>
  intro h
  exact h
 | cons p x st L R h1 h2 h3 ih__ =>
  intro h
  exact .cons p x st _ _ h1 h2 (ih__ h)
noncomputable def Ef (len b e : Nat) (r : Nat × List (Nat × Nat)) : Bool := decide (r.1 + 2 ≤ len) && (decide (e ≤ r.1) || decide (r.1 + 2 ≤ b))
noncomputable def Ln (len b e : Nat) : D → Bool
 | .tup [.int p, _] => decide (p + 2 ≤ len) && (decide ((e : Int) ≤ p) || decide (p + 2 ≤ b))
 | _ => false
theorem PF (len b e p : Nat) (x : D) (st : List (Nat × Nat)) : Ln len b e (.tup [.int p, x]) = Ef len b e (p, st) := by
 unfold Ln Ef
 dsimp only
 rw [show decide ((p : Int) + 2 ≤ len) = decide (p + 2 ≤ len) from decide_eq_decide.mpr (by lia), show decide ((e : Int) ≤ (p : Int)) = decide (e ≤ p) from decide_eq_decide.mpr (by lia), show decide ((p : Int) + 2 ≤ b) = decide (p + 2 ≤ b) from decide_eq_decide.mpr (by lia)]
theorem AQ.keep {σ : Sto} {len b e : Nat} {L : List D} {R : List (Nat × List (Nat × Nat))} (r__ : AQ σ L R) : AQ σ (L.filter (Ln len b e)) (R.filter (Ef len b e)) := by
 induction r__ with
 | nil =>
  exact .nil
 | cons p x st L R h1 h2 h3 ih__ =>
  rw [List.filter_cons, List.filter_cons, PF len b e p x st]
  cases Ef len b e (p, st)
  ·rw [if_neg #[], if_neg #[]]; exact ih__
  ·rw [if_pos rfl, if_pos rfl]; exact .cons p x st _ _ h1 h2 ih__
theorem AQ.mem {σ : Sto} {L : List D} {R : List (Nat × List (Nat × Nat))} (r__ : AQ σ L R) : ∀ v ∈ L, ∃ (p : Nat) (x : D), v = .tup [.int p, x] := by
 induction r__ with
 | nil =>
  intro v hv
  cases hv
 | cons p x st L R h1 h2 h3 ih__ =>
  intro v hv
  rcases List.mem_cons.mp hv with rfl | hv
  ·exact ⟨p, x, rfl⟩
  ·exact ih__ v hv
theorem AQ.len {σ : Sto} {L : List D} {R : List (Nat × List (Nat × Nat))} (r__ : AQ σ L R) : L.length = R.length := by
 induction r__ with
 | nil =>
  exact rfl
 | cons p x st L R h1 h2 h3 ih__ =>
  simp [ih__]
noncomputable def Cr (d : List UInt8) : Nat := (d.headD 0).toNat % 16 * 4
noncomputable def C0 (kd : Nat) (d : List UInt8) (b e : Nat) : List (Nat × List (Nat × Nat)) := if kd = 2048 then [(10, [Ao b e 0 (Cr d)])] else []
noncomputable def Cp (kd l4 off : Nat) (d : List UInt8) (b e : Nat) : List (Nat × List (Nat × Nat)) := match C7 l4 with
 | none => []
 | some pl => [(off + pl, Ao b e off d.length :: (if l4 = 1 then [] else [if kd = 2048 then Ao b e 12 20 else Ao b e 8 40]))]
noncomputable def Dv (kd l4 off : Nat) (d : List UInt8) (b e : Nat) : List (Nat × List (Nat × Nat)) := (C0 kd d b e ++ Cp kd l4 off d b e).filter (Ef d.length b e)
set_option tactic.hygienic true in
theorem IA (h : 20 < n) {σ : Sto} {p a : Addr} {kd l4 off b e : Nat} {d : List UInt8} {K : B9} (pk : PK σ p a kd l4 off d) (hd : kd = 2048 ∨ kd = 34525) (hl : 0 < d.length ∧ d.length ≤ 1000) (hk : ∀ σ' L, Ai σ σ' → AQ σ' L (Dv kd l4 off d b e) → K (.lst L) σ') : Ab rows n 20 [.ref p, .int b, .int e] σ K := by
 refine Am (ρ := [some (.ref p), some (.int b), some (.int e), none, none, none, none]) Fe (by assumption) rfl rfl rfl rfl (by kernel_rfl) ?_; unfold Fe
 refine Nc ?_
 kpf_c
 refine ⟨⟨nb rfl, nb rfl⟩, fun q hq => ?_⟩
 have s1 : Ai σ (σ.upd q (.mlist [])) := .new hq
 have q1 : (σ.upd q (.mlist [])) q = some (.mlist []) := Sto.upd_self ..
 have pk1 := pk.mono s1
 generalize σ.upd q (.mlist []) = σ₁ at *
 have fin : ∀ (y : Option D) (z : Option D) (σ₂ : Sto) (L : List D), Ai σ σ₂ → σ₂ q = some (.mlist L) → AQ σ₂ L (C0 kd d b e ++ Cp kd l4 off d b e) → Ak (Ab rows 20) #[.ret (.comp (.loc 6) 6 (.loc 3) #[.bop .And #[.cmp .LtE (.bin .Add (.idx (.loc 6) {0}) {2}) (.blt .len #[.attr (.loc 0) (Z "data")]),.bop .Or #[.cmp .LtE (.loc 2) (.idx (.loc 6) {0}),.cmp .LtE (.bin .Add (.idx (.loc 6) {0}) {2}) (.loc 1)]]])] [some (.ref p), some (.int b), some (.int e), some (.ref q), y, z, none] σ₂ (Bh K) := by
  intro y z σ₂ L s2 hq2 hr
  refine Ac ?_
  dsimp only [wpE]
  show ∃ items, Ah σ₂ (.ref q) = some items ∧ _
  have hi : Ah σ₂ (.ref q) = some L := by unfold Ah; dsimp only; rw [hq2]
  refine ⟨L, hi, ?_⟩
  have hlen := hr.len
  have hR : (C0 kd d b e ++ Cp kd l4 off d b e).length ≤ 2 := by
   unfold C0 Cp; rw [List.length_append]
   split <;> split <;> simp
  refine DC (g := Ln d.length b e) _ [] (fun v hv K' hK => ?_) (by simp; lia) ?_
  ·(refine oe2 (hr.mem v hv) fun pl x zq1 => ?_; subst zq1)
   intro r o hn
   rw [Qg]
   have pk2 := pk.mono (s2.trans (Ai.new (o := .hid o) hn))
   generalize σ₂.upd r (.hid o) = σ₃ at *
   show wpT _ _ [some (.ref p), some (.int b), some (.int e), some (.ref q), y, z, some (.tup [.int pl, x])] σ₃ _
   kpf_c
   refine AX 0 rfl #[] ?_
   rw [B2]
   refine pk2.data (Bl pk2.buf ?_)
   rw [QR]
   have hg : Ln d.length b e (.tup [.int (pl : Int), x]) = (decide ((pl : Int) + 2 ≤ d.length) && (decide ((e : Int) ≤ (pl : Int)) || decide ((pl : Int) + 2 ≤ (b : Int)))) := rfl
   rw [hg] at hK
   cases h1 : decide ((pl : Int) + 2 ≤ d.length) with
   | false =>
    rw [h1] at hK
    exact ⟨fun e => absurd e #[], fun ω => ⟨rfl, fun e => absurd e #[], fun ω => hK⟩⟩
   | true =>
    rw [h1] at hK
    refine ⟨fun ω => AX 0 rfl #[] ?_, fun e => absurd e #[]⟩
    rw [QR]
    cases h2 : decide ((e : Int) ≤ (pl : Int)) with
    | true =>
     rw [h2] at hK
     exact ⟨fun e => absurd e #[], fun ω => ⟨fun ω => ⟨rfl, fun ω => ⟨rfl, hK⟩, fun e => absurd e #[]⟩, fun e => absurd e #[]⟩⟩
    | false =>
     rw [h2] at hK
     refine ⟨fun ω => AX 0 rfl #[] ?_, fun e => absurd e #[]⟩
     rw [B2, QR]
     cases h3 : decide ((pl : Int) + 2 ≤ (b : Int)) with
     | true =>
      rw [h3] at hK
      exact ⟨fun e => absurd e #[], fun ω => ⟨fun ω => ⟨rfl, fun ω => ⟨rfl, hK⟩, fun e => absurd e #[]⟩, fun e => absurd e #[]⟩⟩
     | false =>
      rw [h3] at hK
      exact ⟨fun ω => ⟨fun e => absurd e #[], fun ω => ⟨rfl, fun e => absurd e #[], fun ω => hK⟩⟩, fun e => absurd e #[]⟩
  ·exact hk _ _ s2 hr.keep
 have mid : ∀ (σ₂ : Sto) (L : List D), Ai σ σ₂ → σ₂ q = some (.mlist L) → AQ σ₂ L (C0 kd d b e) → L.length ≤ 1 → Ak (Ab rows 20) #[.asg (.loc 4) (.call 18 #[.attr (.loc 0) (Z "l4")]),.cond (.bop .And #[.cmp .GtE (.attr (.loc 0) (Z "off")) {0},.cmp .GtE (.loc 4) {0}]) #[.newl 5 #[.call 19 #[.loc 1,.loc 2,.attr (.loc 0) (Z "off"),.blt .len #[.attr (.loc 0) (Z "data")]]],.cond (.bop .And #[.cmp .NotEq (.attr (.loc 0) (Z "l4")) {1},.cmp .Eq (.attr (.loc 0) (Z "kind")) {2048}]) #[.append (.loc 5) (.call 19 #[.loc 1,.loc 2,{12},{20}])] #[.cond (.cmp .NotEq (.attr (.loc 0) (Z "l4")) {1}) #[.append (.loc 5) (.call 19 #[.loc 1,.loc 2,{8},{40}])] .nil],.append (.loc 3) (.tup #[.bin .Add (.attr (.loc 0) (Z "off")) (.loc 4),.loc 5])] .nil,.ret (.comp (.loc 6) 6 (.loc 3) #[.bop .And #[.cmp .LtE (.bin .Add (.idx (.loc 6) {0}) {2}) (.blt .len #[.attr (.loc 0) (Z "data")]),.bop .Or #[.cmp .LtE (.loc 2) (.idx (.loc 6) {0}),.cmp .LtE (.bin .Add (.idx (.loc 6) {0}) {2}) (.loc 1)]]])] [some (.ref p), some (.int b), some (.int e), some (.ref q), none, none, none] σ₂ (Bh K) := by
  intro σ₂ L s2 hq2 hr hL
  have pk2 := pk.mono s2
  refine A4 ?_
  kpf_c
  refine pk2.l4 (Hz #[] ⟨#[], ?_⟩)
  have eo : decide ((0 : Int) ≤ (off : Int)) = true := by simp
  cases hpl : C7 l4 with
  | none =>
   refine Ad (fun R hR => ?_) (A1 (fin _ _ _ _ s2 hq2 ?_))
   ·kpf_c; refine pk2.off ?_
    rw [LD, eo]
    exact ⟨fun ω => ⟨fun e => absurd e #[], fun ω => hR⟩, fun e => absurd e #[]⟩
   ·have : Cp kd l4 off d b e = [] := by unfold Cp; rw [hpl]
    rw [this, List.append_nil]; exact hr
  | some pl =>
   have ep : decide ((0 : Int) ≤ JG (some pl)) = true := by show decide ((0 : Int) ≤ (pl : Int)) = true; simp
   refine Al (fun R hR => ?_) ?_
   ·kpf_c; refine pk2.off ?_
    rw [LD, eo]
    refine ⟨fun ω => ?_, fun e => absurd e #[]⟩
    rw [ep]
    exact ⟨fun ω => hR, fun e => absurd e #[]⟩
   refine Nc ?_
   kpf_c
   refine pk2.off (pk2.data (Bl pk2.buf (CY #[] ?_)))
   refine ⟨⟨nb rfl, nb rfl⟩, fun r hr' => ?_⟩
   have s3 : Ai σ₂ (σ₂.upd r (.mlist [BM (Ao b e off d.length)])) := .new hr'
   have r3 : (σ₂.upd r (.mlist [BM (Ao b e off d.length)])) r = some (.mlist [BM (Ao b e off d.length)]) := Sto.upd_self ..
   have rq : r ≠ q := fun c => by rw [c, hq2] at hr'; cases hr'
   have hq3 := s3.get hq2
   have hr3 := hr.mono s3
   have hrn : σ r = none := by
    cases hc : σ r with
    | none => rfl
    | some o => rw [s2.get hc] at hr'; cases hr'
   generalize σ₂.upd r (.mlist [BM (Ao b e off d.length)]) = σ₃ at *
   have last : ∀ (σ₄ : Sto) (st : List (Nat × Nat)), Ai σ σ₄ → σ₄ q = some (.mlist L) → AQ σ₄ L (C0 kd d b e) → σ₄ r = some (.mlist (st.map BM)) → Cp kd l4 off d b e = [(off + pl, st)] → Ak (Ab rows 20) #[.append (.loc 3) (.tup #[.bin .Add (.attr (.loc 0) (Z "off")) (.loc 4),.loc 5])] [some (.ref p), some (.int b), some (.int e), some (.ref q), some (.int (JG (some pl))), some (.ref r), none] σ₄ (G9 (Ab rows 20) #[.ret (.comp (.loc 6) 6 (.loc 3) #[.bop .And #[.cmp .LtE (.bin .Add (.idx (.loc 6) {0}) {2}) (.blt .len #[.attr (.loc 0) (Z "data")]),.bop .Or #[.cmp .LtE (.loc 2) (.idx (.loc 6) {0}),.cmp .LtE (.bin .Add (.idx (.loc 6) {0}) {2}) (.loc 1)]]])] (Bh K)) := by
    intro σ₄ st s4 hq4 hr4 r4 hrow
    have pk4 := pk.mono s4
    refine Ey ?_
    kpf_c
    refine ⟨⟨q, L, rfl, hq4⟩, pk4.off ?_⟩
    show Be .Add (.int (off : Int)) (.int (pl : Int)) _
    rw [B2, show (off : Int) + (pl : Int) = ((off + pl : Nat) : Int) from rfl]
    refine ⟨#[], q, L, rfl, hq4, by lia, ?_⟩
    refine fin _ _ _ _ ?_ (Sto.upd_self ..) ?_
    ·intro x hx
     rw [Sto.upd_ne, s4 x hx]
     rintro rfl
     exact hx hq
    ·rw [hrow]
     have g : Ai σ₄ (σ₄.upd q (.mlist (L ++ [.tup [.int ((off + pl : Nat) : Int), .ref r]]))) → True := fun ω => trivial
     have up : ∀ {L' : List D} {R : List (Nat × List (Nat × Nat))}, (∀ v ∈ L', ∀ p x, v = .tup [.int p, x] → x ≠ .ref q) → AQ σ₄ L' R → AQ (σ₄.upd q (.mlist (L ++ [.tup [.int ((off + pl : Nat) : Int), .ref r]]))) L' R := by
      intro L' R hn hh
      induction hh with
      | nil => exact .nil
      | cons p' x st L' R h1 h2 h3 ih =>
       have hx : x ≠ .ref q := hn _ (List.mem_cons_self ..) _ _ rfl
       have e1 : Ah (σ₄.upd q (.mlist (L ++ [.tup [.int ((off + pl : Nat) : Int), .ref r]]))) x = Ah σ₄ x ∧ As (σ₄.upd q (.mlist (L ++ [.tup [.int ((off + pl : Nat) : Int), .ref r]]))) x = As σ₄ x := by
        cases x <;> try exact ⟨rfl, rfl⟩
        rename_i y
        have : y ≠ q := fun c => hx (by rw [c])
        unfold Ah As
        dsimp only
        rw [Sto.upd_ne _ _ this]
        exact ⟨rfl, rfl⟩
       exact .cons p' x st L' R (e1.1.trans h1) (e1.2.trans h2) (ih fun v hv => hn v (List.mem_cons_of_mem _ hv))
     refine AQ.app (up (fun v hv p' x hvx hxq => ?_) hr4) ?_
     ·have hmem : ∀ {L' : List D} {R : List (Nat × List (Nat × Nat))}, AQ σ₄ L' R → (∀ w ∈ R, w.2 ≠ []) → v ∈ L' → ∃ st, st ≠ [] ∧ Ah σ₄ x = some (st.map BM) := by
       intro L' R hh hne hv'
       induction hh with
       | nil => cases hv'
       | cons p'' x' st' L' R h1 h2 h3 ih =>
        rcases List.mem_cons.mp hv' with rfl | hv'
        ·cases hvx; exact ⟨st', hne _ (List.mem_cons_self ..), h1⟩
        ·exact ih (fun w hw => hne w (List.mem_cons_of_mem _ hw)) hv'
      obtain ⟨st', hst, hit⟩ := hmem hr4 (fun w hw => by unfold C0 at hw; split at hw; (rw [List.mem_singleton.mp hw]; simp); cases hw) hv
      subst hxq
      unfold Ah at hit
      dsimp only at hit
      rw [hq4] at hit
      cases hit
      refine Af (List.mem_map.mp hv) fun w hw1 hw2 => ?_
      rw [hvx] at hw2
      unfold BM at hw2
      cases hw2
     ·refine .cons _ _ _ _ _ ?_ ?_ .nil
      ·unfold Ah; dsimp only; rw [Sto.upd_ne _ _ rq, r4]
      ·unfold As; dsimp only; rw [Sto.upd_ne _ _ rq, r4]
   have s3' := s2.trans s3
   have pk3 := pk.mono s3'
   have hl4 : Cp kd l4 off d b e = [(off + pl, Ao b e off d.length :: (if l4 = 1 then [] else [if kd = 2048 then Ao b e 12 20 else Ao b e 8 40]))] := by unfold Cp; rw [hpl]
   by_cases h1 : l4 = 1
   ·subst h1
    refine Ad (fun R hR => ?_) (Ad (fun R hR => ?_) (A1 (A1 (last σ₃ [Ao b e off d.length] s3' hq3 hr3 r3 hl4))))
    ·kpf_c; refine pk3.l4 ?_
     exact ⟨fun e => absurd e #[], fun ω => hR⟩
    ·kpf_c; exact pk3.l4 hR
   ·have e1 : (!((l4 : Int) == 1)) = true := by rw [show ((l4 : Int) == 1) = false from (Bp l4 1).trans (decide_eq_false h1)]; rfl
    rw [if_neg h1] at hl4
    have up : ∀ v : D, Ai σ (σ₃.upd r (.mlist [BM (Ao b e off d.length), v])) := fun v x hx => by
     rw [Sto.upd_ne _ _ (Ea hrn hx), s3' x hx]
    have hr5 : ∀ v : D, AQ (σ₃.upd r (.mlist [BM (Ao b e off d.length), v])) L (C0 kd d b e) := fun v => by
     have : ∀ {L' : List D} {R : List (Nat × List (Nat × Nat))}, AQ σ₂ L' R → AQ (σ₃.upd r (.mlist [BM (Ao b e off d.length), v])) L' R := by
      intro L' R hh
      refine AQ.mono (fun x hx => ?_) hh
      rw [Sto.upd_ne _ _ (Ea hr' hx), s3 x hx]
     exact this hr
    rcases hd with rfl | rfl
    ·refine Al (fun R hR => ?_) ?_
     ·kpf_c; refine pk3.l4 ?_
      rw [OA, e1]
      exact ⟨fun ω => pk3.kind ⟨fun ω => hR, fun e => absurd e #[]⟩, fun e => absurd e #[]⟩
     refine Ey ?_
     kpf_c
     refine ⟨⟨r, _, rfl, r3⟩, CY #[] (b := b) (e := e) (l := 12) (hi := 20) ?_⟩
     refine ⟨r, _, rfl, r3, nb rfl, A1 ?_⟩
     exact last _ [Ao b e off d.length, Ao b e 12 20] (up _) (by rw [Sto.upd_ne _ _ (Ne.symm rq), hq3]) (hr5 _) (Sto.upd_self ..) hl4
    ·refine Ad (fun R hR => ?_) (Al (fun R hR => ?_) ?_)
     ·kpf_c; refine pk3.l4 ?_
      rw [OA, e1]
      exact ⟨fun ω => pk3.kind ⟨fun e => absurd e #[], fun ω => hR⟩, fun e => absurd e #[]⟩
     ·kpf_c; refine pk3.l4 ?_
      rw [OA, e1]; exact hR
     refine Ey ?_
     kpf_c
     refine ⟨⟨r, _, rfl, r3⟩, CY #[] (b := b) (e := e) (l := 8) (hi := 40) ?_⟩
     refine ⟨r, _, rfl, r3, nb rfl, A1 (A1 ?_)⟩
     exact last _ [Ao b e off d.length, Ao b e 8 40] (up _) (by rw [Sto.upd_ne _ _ (Ne.symm rq), hq3]) (hr5 _) (Sto.upd_self ..) hl4
 rcases hd with rfl | rfl
 ·refine Al (fun R hR => ?_) ?_
  ·kpf_c; refine pk1.kind ?_
   refine ⟨fun ω => pk1.l4 ?_, fun e => absurd e #[]⟩
   rw [LD, show decide ((0 : Int) ≤ (l4 : Int)) = true by simp]
   exact ⟨fun ω => hR, fun e => absurd e #[]⟩
  obtain ⟨u, t, hd⟩ : ∃ u t, d = u :: t := by cases d with
   | nil => exact absurd hl.1 #[]
   | cons u t => exact ⟨u, t, rfl⟩
  refine Ey ?_
  kpf_c
  refine ⟨⟨q, _, rfl, q1⟩, pk1.data (I6 (i := 0) (u := u) pk1.buf (by rw [hd]; rfl) #[] ?_)⟩
  rw [Nz, Rk, JA, show ((u.toNat % 16 : Nat) : Int) * 4 = ((Cr d : Nat) : Int) by unfold Cr; rw [hd]; norm_cast]
  refine ⟨.inr #[], CY #[] (b := b) (e := e) (l := 0) ?_⟩
  refine ⟨#[], #[], q, _, rfl, q1, #[], A1 ?_⟩
  refine mid _ [.tup [.int 10, .lst [BM (Ao b e 0 (Cr d))]]] (fun x hx => ?_) (Sto.upd_self ..) ?_ (nb rfl)
  ·rw [Sto.upd_ne _ _ (Ea hq hx), s1 x hx]
  ·exact .cons 10 _ [Ao b e 0 (Cr d)] _ _ rfl rfl .nil
 ·refine Ad (fun R hR => ?_) (A1 ?_)
  ·kpf_c; refine pk1.kind ?_
   exact ⟨fun e => absurd e #[], fun ω => hR⟩
  exact mid _ [] s1 q1 .nil #[]
end
section
variable {udp : Bool} {bf cur d : List UInt8} {place : Nat}
noncomputable def BN (bf cur : List UInt8) (c : Nat) (fb : Nat × Nat) : Nat := if fb.1 < fb.2 then GN c (AT bf fb.1 fb.2) (AT cur fb.1 fb.2) else c
noncomputable def B6 (bf cur : List UInt8) (place : Nat) (sts : List (Nat × Nat)) (udp : Bool) : List UInt8 :=
 if udp && num (cut bf place (place + 2)) == 0 then cur else
 let c1 := sts.foldl (BN bf cur) (num (cut bf place (place + 2)))
 A7 cur place (oct (if udp && c1 == 0 then 65535 else c1) 2)
theorem BY {f b : Nat} (hf : f < b) (hb : b ≤ d.length + 1) : (AT d f b).length = b - f := by
 unfold AT
 rw [BH]
 by_cases e : b ≤ d.length
 ·have e : min (b - f) (d.length - f) = b - f := Nat.min_eq_left (Nat.sub_le_sub_right e f)
  rw [e, if_neg (Nat.lt_irrefl _), BH, e]
 ·have e : b = d.length + 1 := Nat.le_antisymm hb (Nat.lt_of_not_le e)
  have e : min (b - f) (d.length - f) + 1 = b - f := by rw [e, Nat.succ_sub (Nat.le_of_lt_succ (by rw [Nat.succ_eq_add_one, ← e]; exact hf)), Nat.min_eq_right (Nat.le_succ _)]
  rw [if_pos (Nat.lt_of_succ_le (Nat.le_of_eq e)), List.length_append, BH]; exact e
def Le (n : Nat) (sts : List (Nat × Nat)) : Prop := ∀ fb ∈ sts, fb.1 < fb.2 → (fb.2 - fb.1) % 2 = 0 ∧ fb.2 ≤ n + 1
theorem Lk {c : Nat} {fb : Nat × Nat} (h : c ≤ 65535) : BN bf cur c fb ≤ 65535 := by
 unfold BN GN
 split
 ·exact Nat.sub_le ..
 ·exact h
theorem Qz {l : List UInt8} (h : l.length ≤ 2) : num l ≤ 65535 := by
 have := RK l
 have h2 : 256 ^ l.length ≤ 256 ^ 2 := Nat.pow_le_pow_right #[] h
 lia
theorem Dh {Φ : Bn} {r : PSs} {K : KS} {ρ : Rho} : G9 Φ r K .next ρ σ = Ak Φ r ρ σ K := rfl
theorem Fx (h : 22 < n) {p a : Addr} {kd l4 off place : Nat} {x : D} {sts : List (Nat × Nat)} (pk : PK σ p a kd l4 off cur) (hb : bf.length = cur.length) (hl : cur.length ≤ 1000) (hp : place + 2 ≤ cur.length) (hx : Ah σ x = some (sts.map BM)) (hs : Le cur.length sts)
  (hk : ∀ σ', Upd σ a (.barr (B6 bf cur place sts udp)) σ' → K .none σ') : Ab rows n 22 [.ref p, .bytes bf, .int place, x, .bool udp] σ K := by
 refine Am (ρ := [some (.ref p), some (.bytes bf), some (.int place), some x, some (.bool udp), none, none, none]) Gn (by assumption) rfl rfl rfl rfl (by kernel_rfl) ?_; unfold Gn
 refine A4 ?_
 kpf_c
 rw [show (place : Int) + 2 = ((place + 2 : Nat) : Int) from rfl]
 refine Si (by lia) _ _ (by lia) (by lia) ?_
 have hc2 : (cut bf place (place + 2)).length ≤ 100 := D1 #[]
 refine AK #[] (l := cut bf place (place + 2)) rfl hc2 ⟨nb rfl, ?_⟩
 have hc : num (cut bf place (place + 2)) ≤ 65535 := Qz (D1 (Nat.le_refl 2))
 unfold B6 at hk
 generalize num (cut bf place (place + 2)) = c at *
 have et : ∀ (c : Nat) (σ : Sto) (y z : Option D) (R : Bool → Sto → Prop), R (udp && c == 0) σ → wpT (Ab rows 22) (.bop .And #[.loc 4,.cmp .Eq (.loc 5) {0}]) [some (.ref p), some (.bytes bf), some (.int place), some x, some (.bool udp), some (.int c), y, z] σ R := by
  intro c σ y z R hR
  kpf_c
  refine ⟨udp, rfl, ?_⟩
  have e : ((c : Int) == 0) = (c == 0) := by rw [show ((c : Int) == 0) = decide (c = 0) from Bp c 0]; rfl
  rw [e]
  cases udp <;> cases hz : (c == 0) <;> rw [hz] at hR
  ·exact ⟨fun e => absurd e #[], fun ω => hR⟩
  ·exact ⟨fun e => absurd e #[], fun ω => hR⟩
  ·exact ⟨fun ω => ⟨fun e => absurd e #[], fun ω => hR⟩, fun e => absurd e #[]⟩
  ·exact ⟨fun ω => ⟨fun ω => hR, fun e => absurd e #[]⟩, fun e => absurd e #[]⟩
 refine R3 (udp && c == 0) (fun R hR => et c σ _ _ R hR) (fun ht => ?_) (fun ht => A1 ?_)
 ·refine Ac ?_
  rw [if_pos ht] at hk
  exact hk _ (Upd.same (.refl σ) pk.buf)
 rw [if_neg (by rw [ht]; decide)] at hk
 refine Dw ?_
 kpf_c
 refine ⟨_, hx, ?_⟩
 have go : ∀ (l : List (Nat × Nat)) (c : Nat) (σ₁ : Sto) (y z : Option D) (R : KS), Ai σ σ₁ → c ≤ 65535 → Le cur.length l → (∀ σ₂ y z, Ai σ σ₂ → R .next [some (.ref p), some (.bytes bf), some (.int place), some x, some (.bool udp), some (.int ((l.foldl (BN bf cur) c : Nat) : Int)), y, z] σ₂) →
   Ec (fun σ' => Ah σ' x = some (sts.map BM) ∧ As σ' x = As σ x) (fun x ρ σ K' => Ap (Ab rows 22) (.tup #[.loc 6,.loc 7]) x ρ σ fun ρ' σ' => Ak (Ab rows 22) #[.cond (.cmp .Lt (.loc 6) (.loc 7)) #[.asg (.loc 5) (.call 4 #[.loc 5,.call 21 #[.loc 1,.loc 6,.loc 7],.call 21 #[.attr (.loc 0) (Z "data"),.loc 6,.loc 7]])] .nil] ρ' σ' K') (l.map BM) [some (.ref p), some (.bytes bf), some (.int place), some x, some (.bool udp), some (.int c), y, z] σ₁ R := by
  intro l
  induction l with
  | nil => exact fun c σ₁ y z R s hc ω hR => ⟨F3 hx s, hR _ _ _ s⟩
  | cons fb l ih =>
   intro c σ₁ y z R s hc hok hR
   obtain ⟨f, b⟩ := fb
   refine ⟨F3 hx s, ?_⟩
   kpf_c
   refine (tu2 rfl ?_)
   have hok' : Le cur.length l := fun y hy => hok y (List.mem_cons_of_mem _ hy)
   by_cases hfb : f < b
   ·refine oa2 (hok (f, b) (List.mem_cons_self ..) hfb) fun h1 h2 => ?_
    refine Al (fun R hR => ?_) (A4 ?_)
    ·kpf_c; rw [show decide ((f : Int) < (b : Int)) = true by simp only [decide_eq_true_eq]; lia]; exact hR
    kpf_c
    refine EI #[] (.inl rfl) (by lia) (by dsimp only at h2; lia) (by dsimp only at h2; lia) (by lia) fun σ₂ s2 => ?_
    have pk2 := pk.mono (s.trans s2)
    refine pk2.data (EI #[] (.inr ⟨a, rfl, pk2.buf⟩) hl (by dsimp only at h2; lia) (by dsimp only at h2; lia) (by lia) fun σ₃ s3 => ?_)
    have e1 : (AT bf f b).length = 2 * ((b - f) / 2) := by rw [BY hfb (by rw [hb]; exact h2)]; dsimp only at h1; lia
    have e2 : (AT cur f b).length = 2 * ((b - f) / 2) := by rw [BY hfb h2]; dsimp only at h1; lia
    refine NL #[] hc e1 e2 (by dsimp only at h2; lia) ⟨nb rfl, A1 (AR ?_)⟩
    have em : GN c (AT bf f b) (AT cur f b) = BN bf cur c (f, b) := by unfold BN; rw [if_pos hfb]
    rw [em]
    exact ih _ _ _ _ _ ((s.trans s2).trans s3) (Lk hc) hok' hR
   ·refine Ad (fun R hR => ?_) (A1 (AR ?_))
    ·kpf_c; rw [show decide ((f : Int) < (b : Int)) = false by simp only [decide_eq_false_iff_not]; lia]; exact hR
    have em : BN bf cur c (f, b) = c := by unfold BN; rw [if_neg hfb]
    have hR' : ∀ σ₂ y z, Ai σ σ₂ → R .next [some (.ref p), some (.bytes bf), some (.int place), some x, some (.bool udp), some (.int ((l.foldl (BN bf cur) c : Nat) : Int)), y, z] σ₂ := by
     intro σ₂ y z s
     have := hR σ₂ y z s
     rw [List.foldl_cons, em] at this
     exact this
    exact ih _ _ _ _ _ s hc hok' hR'
 refine go sts c σ _ _ _ (.refl σ) hc hs fun σ₂ y z s2 => ?_
 have hc1 : sts.foldl (BN bf cur) c ≤ 65535 := by
  have : ∀ (l : List (Nat × Nat)) (c : Nat), c ≤ 65535 → l.foldl (BN bf cur) c ≤ 65535 := by
   intro l
   induction l with
   | nil => exact fun c h => h
   | cons fb l ih => exact fun c h => ih _ (Lk h)
  exact this sts c hc
 dsimp only at hk
 generalize sts.foldl (BN bf cur) c = c1 at *
 rw [Dh]
 have pk2 := pk.mono s2
 have tail : ∀ (v : Nat), v ≤ 65535 → (∀ σ', Upd σ a (.barr (A7 cur place (oct v 2))) σ' → K .none σ') → Ak (Ab rows 22) #[.asg (.slc (.attr (.loc 0) (Z "data")) (.loc 2) (.bin .Add (.loc 2) {2})) (.call 2 #[.loc 5,{2}])] [some (.ref p), some (.bytes bf), some (.int place), some x, some (.bool udp), some (.int v), y, z] σ₂ (Bh K) := by
  intro v hv hk
  refine A8 ?_
  kpf_c
  refine CJ #[] (k := 2) (by lia) #[] ?_
  refine pk2.data ?_
  rw [show (place : Int) + 2 = ((place + 2 : Nat) : Int) from rfl]
  refine KU pk2.buf (by rw [A2]) hl hp (AR ?_)
  exact hk _ ((Upd.mk' ..).pre s2)
 refine R3 (udp && c1 == 0) (fun R hR => et c1 σ₂ _ _ R hR) (fun ht => A4 ?_) (fun ht => A1 ?_)
 ·kpf_c
  refine ⟨nb rfl, A1 ?_⟩
  rw [if_pos ht] at hk
  exact tail 65535 #[] hk
 ·rw [if_neg (by rw [ht]; decide)] at hk
  exact tail c1 hc1 hk
noncomputable def EW (kd l4 off : Nat) (d : List UInt8) (b : Nat) (new : List UInt8) : List UInt8 :=
 (Dv kd l4 off d b (b + new.length)).foldl (fun cur r => B6 d cur r.1 r.2 (l4 == 17 && r.1 != 10)) (A7 d b new)
theorem F6 {b e l h n : Nat} (he : e ≤ n) : (Ao b e l h).1 < (Ao b e l h).2 → ((Ao b e l h).2 - (Ao b e l h).1) % 2 = 0 ∧ (Ao b e l h).2 ≤ n + 1 := by
 unfold Ao
 split
 ·intro h; exact absurd h #[]
 ·exact fun ω => ⟨Nat.mod_eq_zero_of_dvd (Nat.dvd_sub (Nat.dvd_mul_left 2 _) (Nat.dvd_mul_left 2 _)), Nat.le_trans (Nat.div_mul_le_self _ _) (Nat.succ_le_succ (Nat.le_trans (Nat.min_le_left _ _) he))⟩
theorem Hs {kd l4 off : Nat} {b e : Nat} (he : e ≤ d.length) : ∀ r ∈ Dv kd l4 off d b e, r.1 + 2 ≤ d.length ∧ Le d.length r.2 := by
 intro r hr
 unfold Dv at hr
 refine oa2 (List.mem_filter.mp hr) fun h1 h2 => ?_
 unfold Ef at h2
 simp only [Bool.and_eq_true, decide_eq_true_eq] at h2
 refine ⟨h2.1, ?_⟩
 refine Or.elim (List.mem_append.mp h1) (fun h => ?_) (fun h => ?_)
 ·unfold C0 at h
  split at h
  ·rw [List.mem_singleton.mp h]
   intro fb hfb
   rw [List.mem_singleton.mp hfb]
   exact F6 he
  ·cases h
 ·unfold Cp at h
  split at h
  ·cases h
  ·rw [List.mem_singleton.mp h]
   intro fb hfb
   rcases List.mem_cons.mp hfb with rfl | hfb
   ·exact F6 he
   ·split at hfb
    ·cases hfb
    ·rw [List.mem_singleton.mp hfb]
     split <;> exact F6 he
theorem EO {sts : List (Nat × Nat)} (h : place + 2 ≤ cur.length) : (B6 bf cur place sts udp).length = cur.length := by
 unfold B6
 split
 ·rfl
 ·exact AU (by rw [A2]; exact h)
theorem H0 (h : 23 < n) {p a : Addr} {kd l4 off bo at' : Nat} {d new : List UInt8} {bs : Str} (pk : PK σ p a kd l4 off d) (hd : kd = 2048 ∨ kd = 34525) (B : Qa bs bo off) (hl : 0 < d.length ∧ d.length ≤ 1000) (hm : bo + at' + new.length ≤ d.length)
  (hk : ∀ σ', Upd σ a (.barr (EW kd l4 off d (bo + at') new)) σ' → K .none σ') : Ab rows n 23 [.ref p, .str bs, .int at', .bytes new] σ K := by
 refine Am (ρ := [some (.ref p), some (.str bs), some (.int at'), some (.bytes new), none, none, none, none, none]) DE (by assumption) rfl rfl rfl rfl (by kernel_rfl) ?_; unfold DE
 refine Ad (fun R hR => ?_) (A1 (A4 ?_))
 ·kpf_c; rcases B with ⟨rfl, rfl⟩ | ⟨rfl, rfl⟩
  ·rw [Ts]; exact hR
  ·rw [Tp]; exact hR
 kpf_c
 refine pk.data (Hm pk.buf ⟨nb rfl, A4 ?_⟩)
 kpf_c
 refine ⟨nb rfl, ?_⟩
 have tail : Ak (Ab rows 23) #[.asg (.loc 6) (.call 20 #[.loc 0,.loc 5,.bin .Add (.loc 5) (.blt .len #[.loc 3])]),.expr (.call 17 #[.loc 0,.loc 1,.loc 2,.loc 3]),.for (.tup #[.loc 7,.loc 8]) (.loc 6) #[.expr (.call 22 #[.loc 0,.loc 4,.loc 7,.loc 8,.bop .And #[.cmp .Eq (.attr (.loc 0) (Z "l4")) {17},.cmp .NotEq (.loc 7) {10}]])]] [some (.ref p), some (.str bs), some (.int at'), some (.bytes new), some (.bytes d), some (.int ((bo + at' : Nat) : Int)), none, none, none] σ (Bh K) := by
  refine A4 ?_
  kpf_c
  refine ⟨by lia, ?_⟩
  rw [show ((bo + at' : Nat) : Int) + (new.length : Int) = ((bo + at' + new.length : Nat) : Int) from rfl]
  refine IA #[] pk hd hl fun σ₁ L s1 hr => ⟨nb rfl, BC ?_⟩
  kpf_c
  have pk1 := pk.mono s1
  refine IB #[] pk1 B hl.2 hm fun σ₂ u2 => ⟨rfl, Dw ?_⟩
  kpf_c
  refine ⟨L, rfl, ?_⟩
  have pk2 := pk1.upd u2
  have hr2 := hr.upd pk1.buf u2
  have hok := Hs (kd := kd) (l4 := l4) (off := off) (b := bo + at') hm
  unfold EW at hk
  have u2' := u2.pre s1
  have hlen : (A7 d (bo + at') new).length = d.length := AU hm
  generalize Dv kd l4 off d (bo + at') (bo + at' + new.length) = Rs at *
  generalize A7 d (bo + at') new = cur at *
  clear hr
  have go : ∀ (L' : List D) (Rs : List (Nat × List (Nat × Nat))) (σ₃ : Sto) (cur : List UInt8) (y z : Option D) (R : KS), Upd σ a (.barr cur) σ₃ → cur.length = d.length → PK σ₃ p a kd l4 off cur → AQ σ₃ L' Rs → (∀ r ∈ Rs, r.1 + 2 ≤ d.length ∧ Le d.length r.2) →
    (∀ σ' ρ', Upd σ a (.barr (Rs.foldl (fun cur r => B6 d cur r.1 r.2 (l4 == 17 && r.1 != 10)) cur)) σ' → R .next ρ' σ') →
    Ec (fun σ' => Ah σ' (.lst L) = some L ∧ As σ' (.lst L) = As σ₂ (.lst L)) (fun x ρ σ K' => Ap (Ab rows 23) (.tup #[.loc 7,.loc 8]) x ρ σ fun ρ' σ' => Ak (Ab rows 23) #[.expr (.call 22 #[.loc 0,.loc 4,.loc 7,.loc 8,.bop .And #[.cmp .Eq (.attr (.loc 0) (Z "l4")) {17},.cmp .NotEq (.loc 7) {10}]])] ρ' σ' K') L' [some (.ref p), some (.str bs), some (.int at'), some (.bytes new), some (.bytes d), some (.int ((bo + at' : Nat) : Int)), some (.lst L), y, z] σ₃ R := by
   intro L'
   induction L' with
   | nil =>
    intro Rs σ₃ cur y z R u hc pk3 hr hok hR
    cases hr
    exact ⟨⟨rfl, rfl⟩, hR _ _ u⟩
   | cons v L' ih =>
    intro Rs σ₃ cur y z R u hc pk3 hr hok hR
    cases hr with
    | cons pl x st _ Rs h1 h2 h3 =>
    refine ⟨⟨rfl, rfl⟩, ?_⟩
    kpf_c
    refine (tu2 rfl (BC ?_))
    kpf_c
    refine pk3.l4 ?_
    rw [FT]
    have ok := hok _ (List.mem_cons_self ..)
    have nxt := fun (σ₄ : Sto) (u4 : Upd σ₃ a (.barr (B6 d cur pl st (l4 == 17 && pl != 10))) σ₄) => ih Rs σ₄ (B6 d cur pl st (l4 == 17 && pl != 10)) (some (.int pl)) (some x) R (u.trans u4) (by rw [EO (by rw [hc]; exact ok.1), hc]) (pk3.upd u4) (h3.upd pk3.buf u4) (fun r hr => hok r (List.mem_cons_of_mem _ hr)) hR
    have e1 : ((l4 : Int) == 17) = (l4 == 17) := (Bp l4 17).trans rfl
    have e2 : (!((pl : Int) == 10)) = (pl != 10) := by rw [show ((pl : Int) == 10) = decide (pl = 10) from Bp pl 10]; rfl
    refine ⟨_, rfl, fun ht => ?_, fun ht => ?_⟩
    ·rw [e2]
     have eb : (l4 == 17 && pl != 10) = (pl != 10) := by rw [← e1, ht]; rfl
     rw [eb] at nxt
     exact Fx #[] pk3 hc.symm (by lia) (by rw [hc]; exact ok.1) h1 (by rw [hc]; exact ok.2) fun σ₄ u4 => ⟨rfl, AR (nxt σ₄ u4)⟩
    ·rw [ht]
     have eb : (l4 == 17 && pl != 10) = false := by rw [← e1, ht]; rfl
     rw [eb] at nxt
     exact Fx #[] pk3 hc.symm (by lia) (by rw [hc]; exact ok.1) h1 (by rw [hc]; exact ok.2) fun σ₄ u4 => ⟨rfl, AR (nxt σ₄ u4)⟩
  refine go L Rs σ₂ cur _ _ _ u2' hlen pk2 hr2 hok fun σ' ρ' u => ?_
  exact hk _ u
 rcases B with ⟨rfl, rfl⟩ | ⟨rfl, rfl⟩
 ·refine Ad (fun R hR => ?_) (A1 ?_)
  ·kpf_c; rw [Tq]; exact hR
  rw [show (0 : Nat) + at' = at' by lia] at tail
  exact tail
 ·refine Al (fun R hR => ?_) (A4 ?_)
  ·kpf_c; rw [Sk]; exact hR
  kpf_c
  refine pk.off ?_
  rw [B2, show (bo : Int) + (at' : Int) = ((bo + at' : Nat) : Int) from rfl]
  exact ⟨nb rfl, A1 tail⟩
end
section
variable {a : Addr} {d : List UInt8} {k nf pr : Nat}
noncomputable def AD (kd l4 off : Nat) (d : List UInt8) (b : Nat) (new : List UInt8) : List UInt8 := if cut d b (b + new.length) = new then d else EW kd l4 off d b new
theorem LE (a b : List UInt8) : (!(a == b)) = decide (a ≠ b) := by
 by_cases h : a = b
 ·subst h; simp
 ·rw [beq_false_of_ne h, decide_eq_true h]; rfl
theorem CH (h : 43 < n) {p a : Addr} {kd l4 off bo at' : Nat} {d new : List UInt8} {bs : Str} (pk : PK σ p a kd l4 off d) (hd : kd = 2048 ∨ kd = 34525) (B : Qa bs bo off) (hl : 0 < d.length ∧ d.length ≤ 1000) (hm : bo + at' + new.length ≤ d.length)
  (hk : ∀ σ', Upd σ a (.barr (AD kd l4 off d (bo + at') new)) σ' → K .none σ') : Ab rows n 43 [.ref p, .str bs, .int at', .bytes new] σ K := by
 refine Am (ρ := [some (.ref p), some (.str bs), some (.int at'), some (.bytes new), none]) Em (by assumption) rfl rfl rfl rfl (by kernel_rfl) ?_; unfold Em
 refine A4 ?_
 kpf_c
 refine ⟨by lia, Dg #[] pk B hl.2 hm fun σ₁ s1 => ⟨nb rfl, ?_⟩⟩
 unfold AD at hk
 by_cases he : cut d (bo + at') (bo + at' + new.length) = new
 ·rw [if_pos he] at hk
  refine Ad (fun R hR => ?_) (A1 (AR (hk _ (Upd.same s1 pk.buf))))
  kpf_c
  refine ⟨fun ω => ?_, fun e => absurd e #[]⟩
  rw [LE, decide_eq_false (fun c => c he)]
  exact ⟨fun e => absurd e #[], fun ω => hR⟩
 ·rw [if_neg he] at hk
  refine Al (fun R hR => ?_) (BC ?_)
  ·kpf_c
   refine ⟨fun ω => ?_, fun e => absurd e #[]⟩
   rw [LE, decide_eq_true he]
   exact ⟨fun ω => hR, fun e => absurd e #[]⟩
  kpf_c
  exact H0 #[] (pk.mono s1) hd B hl hm fun σ₂ u2 => ⟨rfl, A1 (AR (hk _ (u2.pre s1)))⟩
structure T6 where
 nf : Nat
 pr : Nat
 sa : Nat
 sp : Nat
 da : Nat
 dp : Nat
noncomputable def T6.l (t : T6) : List Int := [t.nf, t.pr, t.sa, t.sp, t.da, t.dp]
noncomputable def tD (t : T6) : D := .tup [.int t.nf, .int t.pr, .int t.sa, .int t.sp, .int t.da, .int t.dp]
noncomputable def Ay (nf pr : Nat) : Bool := (nf == 2 && pr == 1) || (nf == 10 && pr == 58)
theorem Ax (a b : Nat) : ((a : Int) == (b : Int)) = (a == b) := (Bp a b).trans rfl
theorem AS (h : 29 < n) (hk : K (.bool (Ay nf pr)) σ) : Ab rows n 29 [.int nf, .int pr] σ K := by
 refine Am (ρ := [some (.int nf), some (.int pr)]) Gq (by assumption) rfl rfl rfl rfl (by kernel_rfl) ?_; unfold Gq
 refine Ac ?_
 kpf_c
 have e1 : ((nf : Int) == 2) = (nf == 2) := Ax nf 2
 have e2 : ((pr : Int) == 1) = (pr == 1) := Ax pr 1
 have e3 : ((nf : Int) == 10) = (nf == 10) := Ax nf 10
 have e4 : ((pr : Int) == 58) = (pr == 58) := Ax pr 58
 rw [e1, e2, e3, e4]
 unfold Ay at hk
 cases h1 : (nf == 2) with
 | true =>
  rw [h1] at hk
  refine ⟨true, rfl, fun ω => ⟨_, rfl, ?_⟩, fun e => absurd e #[]⟩
  cases h2 : (pr == 1) with
  | true => rw [h2] at hk; exact ⟨fun e => absurd e #[], fun ω => hk⟩
  | false =>
   rw [h2] at hk
   have h3 : (nf == 10) = false := by rw [beq_iff_eq.mp h1]; rfl
   rw [h3] at hk ⊢
   exact ⟨fun ω => ⟨_, rfl, fun e => absurd e #[], fun ω => hk⟩, fun e => absurd e #[]⟩
 | false =>
  rw [h1] at hk
  refine ⟨false, rfl, fun e => absurd e #[], fun ω => ⟨_, rfl, fun ω => ⟨_, rfl, ?_⟩, fun e => absurd e #[]⟩⟩
  cases h3 : (nf == 10) with
  | true => rw [h3] at hk; exact ⟨fun ω => hk, fun e => absurd e #[]⟩
  | false => rw [h3] at hk; exact ⟨fun e => absurd e #[], fun ω => hk⟩
noncomputable def QW : List (Nat × Nat) → Nat → Int
 | [], _ => -1
 | (a, b) :: r, k => if k = a then b else if k = b then a else QW r k
noncomputable def T3 (nf : Nat) : List (Nat × Nat) := if nf = 2 then [(8, 0), (13, 14), (15, 16), (17, 18)] else [(128, 129)]
noncomputable def BI (nf k : Nat) : Int := QW (T3 nf) k
theorem B4 (h : 31 < n) (hk : K (.int (BI nf k)) σ) : Ab rows n 31 [.int nf, .int k] σ K := by
 refine Am (ρ := [some (.int nf), some (.int k), none, none, none]) D8 (by assumption) rfl rfl rfl rfl (by kernel_rfl) ?_; unfold D8
 have go : ∀ (its : List D) (l : List (Nat × Nat)) (y z : Option D), K (.int (QW l k)) σ → Ec (fun σ' => Ah σ' (.tup its) = some its ∧ As σ' (.tup its) = As σ (.tup its)) (fun x ρ σ K' => Ap (Ab rows 31) (.tup #[.loc 3,.loc 4]) x ρ σ fun ρ' σ' => Ak (Ab rows 31) #[.cond (.cmp .Eq (.loc 1) (.loc 3)) #[.ret (.loc 4)] .nil,.cond (.cmp .Eq (.loc 1) (.loc 4)) #[.ret (.loc 3)] .nil] ρ' σ' K') (l.map BM) [some (.int nf), some (.int k), some (.tup its), y, z] σ (G9 (Ab rows 31) #[.ret (.neg {1})] (Bh K)) := by
  intro its l
  induction l with
  | nil =>
   intro y z hk
   refine ⟨⟨rfl, rfl⟩, ?_⟩
   rw [Dh]
   exact Ac hk
  | cons ab l ih =>
   intro y z hk
   obtain ⟨a, b⟩ := ab
   refine ⟨⟨rfl, rfl⟩, ?_⟩
   kpf_c
   refine (tu2 rfl ?_)
   unfold QW at hk
   by_cases h1 : k = a
   ·rw [if_pos h1] at hk
    refine Al (fun R hR => ?_) (Ac hk)
    kpf_c; rw [show ((k : Int) == (a : Int)) = true by rw [Ax, h1]; exact beq_self_eq_true a]; exact hR
   ·rw [if_neg h1] at hk
    refine Ad (fun R hR => ?_) (A1 ?_)
    ·kpf_c; rw [show ((k : Int) == (a : Int)) = false by rw [Ax]; exact beq_false_of_ne h1]; exact hR
    by_cases h2 : k = b
    ·rw [if_pos h2] at hk
     refine Al (fun R hR => ?_) (Ac hk)
     kpf_c; rw [show ((k : Int) == (b : Int)) = true by rw [Ax, h2]; exact beq_self_eq_true b]; exact hR
    ·rw [if_neg h2] at hk
     refine Ad (fun R hR => ?_) (A1 (AR ?_))
     ·kpf_c; rw [show ((k : Int) == (b : Int)) = false by rw [Ax]; exact beq_false_of_ne h2]; exact hR
     exact ih _ _ hk
 unfold BI T3 at hk
 refine A4 ?_
 by_cases h2 : nf = 2
 ·subst h2
  refine Au (fun R hR => ?_) ?_
  ·kpf_c; exact hR
  kpf_c
  refine ⟨#[], #[], #[], #[], #[], nb rfl, Dw ?_⟩
  kpf_c
  exact ⟨_, rfl, go _ [(8, 0), (13, 14), (15, 16), (17, 18)] _ _ hk⟩
 ·rw [if_neg h2] at hk
  refine Av (fun R hR => ?_) ?_
  ·kpf_c; rw [show ((nf : Int) == 2) = false from (Ax nf 2).trans (beq_false_of_ne h2)]; exact hR
  kpf_c
  refine ⟨#[], #[], nb rfl, Dw ?_⟩
  kpf_c
  exact ⟨_, rfl, go _ [(128, 129)] _ _ hk⟩
noncomputable def CR (nf : Nat) : List Int := if nf = 2 then [3, 4, 5, 11, 12] else [1, 2, 3, 4]
theorem G5 (h : 26 < n) (hk : K (.tup ((CR nf).map .int)) σ) : Ab rows n 26 [.int nf] σ K := by
 refine Am (ρ := [some (.int nf)]) D7 (by assumption) rfl rfl rfl rfl (by kernel_rfl) ?_; unfold D7
 refine Ac ?_
 unfold CR at hk
 by_cases h2 : nf = 2
 ·rw [if_pos h2] at hk
  refine Au (fun R hR => ?_) ⟨#[], hk⟩
  kpf_c; rw [show ((nf : Int) == 2) = true by rw [h2]; rfl]; exact hR
 ·rw [if_neg h2] at hk
  refine Av (fun R hR => ?_) ⟨#[], hk⟩
  kpf_c; rw [show ((nf : Int) == 2) = false from (Ax nf 2).trans (beq_false_of_ne h2)]; exact hR
theorem IF (h : 30 < n) (hk : K (.bool ((CR nf).contains (k : Int))) σ) : Ab rows n 30 [.int nf, .int k] σ K := by
 refine Am (ρ := [some (.int nf), some (.int k)]) Fj (by assumption) rfl rfl rfl rfl (by kernel_rfl) ?_; unfold Fj
 refine Ac ?_
 kpf_c
 refine G5 #[] ?_
 exact ⟨CR nf, rfl, hk⟩
noncomputable def Dy (d : List UInt8) (nf pr off : Nat) : Nat × Nat :=
 if pr = 6 ∨ pr = 17 then (num (cut d off (off + 2)), num (cut d (off + 2) (off + 4)))
 else if Ay nf pr then (if 0 ≤ BI nf (num (cut d off (off + 1))) then num (cut d (off + 4) (off + 6)) else 0, num (cut d off (off + 2)))
 else (0, 0)
theorem Kl {u : UInt8} (h : d[k]? = some u) : num (cut d k (k + 1)) = u.toNat := by
 have hk := List.getElem?_eq_some_iff.mp h
 (refine oe1 hk fun hk1 hk2 => ?_; clear hk)
 unfold cut
 rw [List.drop_eq_getElem_cons hk1, show k + 1 - k = 1 by lia, hk2]
 simp [num]
theorem QN {u v : UInt8} (h : d[k]? = some u) (h' : d[k + 1]? = some v) : num (cut d k (k + 2)) = u.toNat * 256 + v.toNat := by
 refine oe1 (List.getElem?_eq_some_iff.mp h) fun hk1 hk2 => ?_
 refine oe1 (List.getElem?_eq_some_iff.mp h') fun hk3 hk4 => ?_
 unfold cut
 rw [List.drop_eq_getElem_cons hk1, List.drop_eq_getElem_cons hk3, show k + 2 - k = 2 by lia, hk2, hk4]
 simp [num]
set_option maxHeartbeats 4000000 in
theorem IC (h : 32 < n) {nf pr off : Nat} (hs : σ a = some (.barr d)) (hl : d.length ≤ 1000) (h4 : off + 4 ≤ d.length) (h8 : Ay nf pr = true → off + 8 ≤ d.length) (hk : ∀ σ', Ai σ σ' → K (BM (Dy d nf pr off)) σ') : Ab rows n 32 [.ref a, .int nf, .int pr, .int off] σ K := by
 refine Am (ρ := [some (.ref a), some (.int nf), some (.int pr), some (.int off), none, none]) Fg (by assumption) rfl rfl rfl rfl (by kernel_rfl) ?_; unfold Fg
 have e1 : ((pr : Int) == 6) = (pr == 6) := Ax pr 6
 have e2 : ((pr : Int) == 17) = (pr == 17) := Ax pr 17
 have a2 : (off : Int) + 2 = ((off + 2 : Nat) : Int) := rfl
 have a4 : (off : Int) + 4 = ((off + 4 : Nat) : Int) := rfl
 have a1 : (off : Int) + 1 = ((off + 1 : Nat) : Int) := rfl
 have a6 : (off : Int) + 6 = ((off + 6 : Nat) : Int) := rfl
 have len : ∀ i j, j - i ≤ 10 → (cut d i j).length ≤ 100 := fun i j h => PR (Nat.le_trans h #[])
 unfold Dy at hk
 by_cases hp : pr = 6 ∨ pr = 17
 ·rw [if_pos hp] at hk
  refine Al (fun R hR => ?_) (Ad (fun R hR => ?_) (A1 (Ac ?_)))
  ·kpf_c; rw [e1, e2]
   rcases hp with rfl | rfl
   ·exact ⟨fun e => absurd e #[], fun ω => hR⟩
   ·exact ⟨fun ω => ⟨fun e => absurd e #[], fun ω => hR⟩, fun e => absurd e #[]⟩
  ·kpf_c
   refine Bl hs ?_
   rw [PZ, show decide ((d.length : Int) < (off : Int) + 4) = false by simp only [decide_eq_false_iff_not]; lia]; exact hR
  kpf_c
  rw [a2, a4]
  refine KQ hs off (off + 2) (by lia) (by lia) fun p hp => AK #[] CG (len _ _ (by lia)) ?_
  refine KQ ((Ai.new hp).get hs) (off + 2) (off + 4) (by lia) (by lia) fun q hq => AK #[] CG (len _ _ (by lia)) ?_
  exact ⟨#[], hk _ ((Ai.new hp).trans (.new hq))⟩
 rw [if_neg hp] at hk
 refine Ad (fun R hR => ?_) (A1 ?_)
 ·kpf_c; rw [e1, e2, beq_false_of_ne (fun c => hp (.inl c)), beq_false_of_ne (fun c => hp (.inr c))]
  exact ⟨fun ω => ⟨fun ω => hR, fun e => absurd e #[]⟩, fun e => absurd e #[]⟩
 cases hi : Ay nf pr with
 | false =>
  rw [hi] at hk
  refine Al (fun R hR => ?_) (Ac ?_)
  ·kpf_c
   refine AS #[] ?_
   rw [hi]; exact ⟨false, rfl, hR⟩
  ·kpf_c
   exact ⟨#[], hk _ (.refl σ)⟩
 | true =>
  have h8 := h8 hi
  rw [hi] at hk
  refine Ad (fun R hR => ?_) (A1 (Ad (fun R hR => ?_) (A1 (A4 ?_))))
  ·kpf_c
   refine AS #[] ?_
   rw [hi]; exact ⟨true, rfl, hR⟩
  ·kpf_c
   refine Bl hs ?_
   rw [PZ, show decide ((d.length : Int) < (off : Int) + 8) = false by simp only [decide_eq_false_iff_not]; lia]; exact hR
  kpf_c
  have g0 : d[off]? = some d[off] := List.getElem?_eq_getElem (by lia)
  have g1 : d[off + 1]? = some d[off + 1] := List.getElem?_eq_getElem (by lia)
  rw [Kl g0, QN g0 g1, if_pos rfl] at hk
  refine I6 hs g0 (by lia) ⟨nb rfl, A4 ?_⟩
  kpf_c
  refine ⟨nb rfl, ?_⟩
  have tail : ∀ (σ' : Sto) (v : Nat), Ai σ σ' → (K (BM (v, d[off].toNat * 256 + d[off + 1].toNat)) σ') → Ak (Ab rows 32) #[.ret (.tup #[.loc 5,.bin .Add (.bin .Mult (.loc 4) {256}) (.idx (.loc 0) (.bin .Add (.loc 3) {1}))])] [some (.ref a), some (.int nf), some (.int pr), some (.int off), some (.int d[off].toNat), some (.int v)] σ' (Bh K) := by
   intro σ' v s hk
   refine Ac ?_
   kpf_c
   refine ⟨.inr #[], ?_⟩
   rw [a1]
   refine I6 (s.get hs) g1 (by lia) ?_
   rw [B2, show (d[off].toNat : Int) * 256 + (d[off + 1].toNat : Int) = ((d[off].toNat * 256 + d[off + 1].toNat : Nat) : Int) by lia]
   exact ⟨#[], hk⟩
  by_cases ha : 0 ≤ BI nf d[off].toNat
  ·rw [if_pos ha] at hk
   refine Al (fun R hR => ?_) (A4 ?_)
   ·kpf_c
    refine B4 #[] ?_
    rw [LD, decide_eq_true ha]; exact hR
   kpf_c
   rw [a4, a6]
   refine KQ hs (off + 4) (off + 6) (by lia) (by lia) fun p hp => AK #[] CG (len _ _ (by lia)) ?_
   exact ⟨nb rfl, A1 (tail _ _ (.new hp) (hk _ (.new hp)))⟩
  ·rw [if_neg ha] at hk
   refine Ad (fun R hR => ?_) (A1 (tail _ 0 (.refl σ) (hk _ (.refl σ))))
   kpf_c
   refine B4 #[] ?_
   rw [LD, decide_eq_false ha]; exact hR
noncomputable def aOf (nf : Nat) : Nat := if nf = 2 then 12 else 8
noncomputable def zOf (nf : Nat) : Nat := if nf = 2 then 4 else 16
noncomputable def DX (d : List UInt8) (nf pr off : Nat) : T6 := ⟨nf, pr, num (cut d (aOf nf) (aOf nf + zOf nf)), (Dy d nf pr off).1, num (cut d (aOf nf + zOf nf) (aOf nf + zOf nf + zOf nf)), (Dy d nf pr off).2⟩
theorem EH (h : 33 < n) {nf pr off : Nat} (hn : nf = 2 ∨ nf = 10) (hs : σ a = some (.barr d)) (hl : d.length ≤ 1000) (h4 : off + 4 ≤ d.length) (h8 : Ay nf pr = true → off + 8 ≤ d.length) (hk : ∀ σ', Ai σ σ' → K (tD (DX d nf pr off)) σ') : Ab rows n 33 [.ref a, .int nf, .int pr, .int off] σ K := by
 refine Am (ρ := [some (.ref a), some (.int nf), some (.int pr), some (.int off), none, none, none, none, none]) Fc (by assumption) rfl rfl rfl rfl (by kernel_rfl) ?_; unfold Fc
 refine A4 ?_
 kpf_c
 refine IC #[] hs hl h4 h8 fun σ₁ s1 => ⟨nb rfl, ?_⟩
 refine Ad (fun R hR => ?_) (A1 (A4 ?_))
 ·kpf_c; exact hR
 kpf_c
 refine ⟨nb rfl, A4 ?_⟩
 kpf_c
 refine ⟨nb rfl, ?_⟩
 have hs1 := s1.get hs
 have tail : ∀ (b z : Nat), b ≤ 100 → z ≤ 20 → b = aOf nf → z = zOf nf → Ak (Ab rows 33) #[.asg (.loc 7) (.call 1 #[.slc (.loc 0) (.loc 5) (.bin .Add (.loc 5) (.loc 6))]),.asg (.loc 8) (.call 1 #[.slc (.loc 0) (.bin .Add (.loc 5) (.loc 6)) (.bin .Add (.bin .Add (.loc 5) (.loc 6)) (.loc 6))]),.ret (.tup #[.loc 1,.loc 2,.loc 7,.idx (.loc 4) {0},.loc 8,.idx (.loc 4) {1}])] [some (.ref a), some (.int nf), some (.int pr), some (.int off), some (BM (Dy d nf pr off)), some (.int b), some (.int z), none, none] σ₁ (Bh K) := by
  intro b z hb hz eb ez
  refine A4 ?_
  kpf_c
  rw [show (b : Int) + (z : Int) = ((b + z : Nat) : Int) from rfl]
  refine KQ hs1 b (b + z) (by lia) (by lia) fun p hp => AK #[] CG (D1 (Nat.le_trans hz #[])) ⟨nb rfl, A4 ?_⟩
  kpf_c
  rw [show (b : Int) + (z : Int) + (z : Int) = ((b + z + z : Nat) : Int) from rfl, show (b : Int) + (z : Int) = ((b + z : Nat) : Int) from rfl]
  refine KQ ((Ai.new hp).get hs1) (b + z) (b + z + z) (by lia) (by lia) fun q hq => AK #[] CG (D1 (Nat.le_trans hz #[])) ⟨nb rfl, Ac ?_⟩
  kpf_c
  refine AX 0 rfl #[] (AX 1 rfl #[] ⟨#[], ?_⟩)
  unfold DX at hk
  rw [← eb, ← ez] at hk
  exact hk _ (s1.trans ((Ai.new hp).trans (.new hq)))
 rcases hn with rfl | rfl
 ·refine Ad (fun R hR => ?_) (A1 (tail 12 4 #[] #[] rfl rfl))
  kpf_c; exact hR
 ·refine Al (fun R hR => ?_) (A4 ?_)
  ·kpf_c; exact hR
  kpf_c
  refine ⟨nb rfl, A4 ?_⟩
  kpf_c
  exact ⟨nb rfl, A1 (tail 8 16 #[] #[] rfl rfl)⟩
end
section
variable {a bk p tk : Addr} {d : List UInt8} {dir kd l4 off : Nat} {σ' : Sto} {o r t : T6}
noncomputable def Ag (kd : Nat) : Nat := if kd = 2048 then 2 else 10
theorem Kk {kd : Nat} : Ag kd = 2 ∨ Ag kd = 10 := by unfold Ag; split; exact .inl rfl; exact .inr rfl
theorem V.big {kd pr off : Nat} (h : V kd pr off d) : aOf (Ag kd) + zOf (Ag kd) + zOf (Ag kd) ≤ off := by
 cases h with
 | v4 _ _ _ _ _ h1 h2 h3 => exact h3
 | v6 _ _ _ _ _ h1 h2 h3 => exact h3
theorem V.pos {kd pr off : Nat} (h : V kd pr off d) : 0 < d.length ∧ d.length ≤ 1000 := by
 have := h.big; have := h.off; have := h.len
 have e : 1 ≤ zOf (Ag kd) := by unfold zOf; split <;> lia
 lia
theorem E4 (h : 14 < n) (pk : PK σ p a kd l4 off d) (hd : kd = 2048 ∨ kd = 34525) (hk : K (.int (Ag kd)) σ) : Ab rows n 14 [.ref p] σ K := HC h pk hd hk
theorem Iz (h : 34 < n) (pk : PK σ p a kd l4 off d) (hv : V kd l4 off d) (h4 : off + 4 ≤ d.length) (h8 : Ay (Ag kd) l4 = true → off + 8 ≤ d.length) (hk : ∀ σ', Ai σ σ' → K (tD (DX d (Ag kd) l4 off)) σ') : Ab rows n 34 [.ref p] σ K := by
 refine Am (ρ := [some (.ref p), none]) Fb (by assumption) rfl rfl rfl rfl (by kernel_rfl) ?_; unfold Fb
 refine A4 ?_
 kpf_c
 refine E4 #[] pk hv.kd ⟨nb rfl, ?_⟩
 refine Ad (fun R hR => ?_) (A1 (Ac ?_))
 ·kpf_c
  refine ⟨#[], [2, 10], rfl, ?_⟩
  have e : ([2, 10] : List Int).contains (Ag kd : Int) = true := by refine Or.elim (@Kk kd) (fun h => ?_) (fun h => ?_) <;> rw [h] <;> rfl
  rw [e]
  refine ⟨fun ω => pk.off ?_, fun e => absurd e #[]⟩
  rw [LC, show decide ((off : Int) < 0) = false by simp]
  exact ⟨fun ω => hR, fun e => absurd e #[]⟩
 kpf_c
 exact pk.data (pk.l4 (pk.off (EH #[] Kk pk.buf hv.len h4 h8 hk)))
theorem G4 (h : 35 < n) (hs : σ a = some (.barr d)) (hv : V kd l4 off d) (h4 : off + 4 ≤ d.length) (h8 : Ay (Ag kd) l4 = true → off + 8 ≤ d.length) (hk : ∀ σ', Ai σ σ' → K (tD (DX d (Ag kd) l4 off)) σ') : Ab rows n 35 [.ref a, .int (Ag kd)] σ K := by
 refine Am (ρ := [some (.ref a), some (.int (Ag kd)), none]) D6 (by assumption) rfl rfl rfl rfl (by kernel_rfl) ?_; unfold D6
 have tail : ∀ σ', Ai σ σ' → Ak (Ab rows 35) #[.cond (.bop .Or #[.cmp .Is (.loc 2) (.cst .none),.cmp .NotEq (.idx (.loc 2) {2}) {0}]) #[.ret (.cst .none)] .nil,.ret (.call 33 #[.loc 0,.loc 1,.idx (.loc 2) {0},.idx (.loc 2) {1}])] [some (.ref a), some (.int (Ag kd)), some (Nq l4 off)] σ' (Bh K) := by
  intro σ' s
  refine Ad (fun R hR => ?_) (A1 (Ac ?_))
  ·kpf_c
   exact ⟨fun ω => AX 2 rfl #[] ⟨fun ω => hR, fun e => absurd e #[]⟩, fun e => absurd (show false = true from e) Bool.false_ne_true⟩
  kpf_c
  exact AX 0 rfl #[] (AX 1 rfl #[] (EH #[] Kk (s.get hs) hv.len h4 h8 fun σ₂ s2 => hk _ (s.trans s2)))
 refine A4 ?_
 have h := hv
 cases h with
 | v4 =>
  refine Au (fun R hR => ?_) ?_
  ·kpf_c; exact hR
  kpf_c
  exact HB #[] hs hv fun σ₁ s1 => ⟨nb rfl, tail _ s1⟩
 | v6 =>
  refine Av (fun R hR => ?_) ?_
  ·kpf_c; exact hR
  kpf_c
  exact HA #[] hs hv ⟨nb rfl, tail _ (.refl σ)⟩
noncomputable def Hr (d : List UInt8) (nf : Nat) : Nat := num (cut d (aOf nf + zOf nf) (aOf nf + zOf nf + zOf nf))
theorem Hx (h : 25 < n) (pk : PK σ p a kd l4 off d) (hv : V kd l4 off d) (hk : ∀ σ', Ai σ σ' → K (.int (Hr d (Ag kd))) σ') : Ab rows n 25 [.ref p] σ K := by
 refine Am (ρ := [some (.ref p)]) Ek (by assumption) rfl rfl rfl rfl (by kernel_rfl) ?_; unfold Ek
 refine Ac ?_
 kpf_c
 refine Am (ρ := [some (.ref p), some (.int 16), some (.int 24), none]) DH #[] rfl rfl rfl rfl (by kernel_rfl) ?_
 unfold DH
 refine A4 ?_
 kpf_c
 refine ⟨nb rfl, ?_⟩
 have tail : ∀ (l : List UInt8) (σ' : Sto), l.length ≤ 100 → Ai σ σ' → l = cut d (aOf (Ag kd) + zOf (Ag kd)) (aOf (Ag kd) + zOf (Ag kd) + zOf (Ag kd)) → Ak (Ab rows 24) #[.cond (.cmp .Is (.loc 3) (.cst .none)) #[.ret (.cst .none)] .nil,.ret (.call 1 #[.loc 3])] [some (.ref p), some (.int 16), some (.int 24), some (.bytes l)] σ' (Bh K) := by
  intro l σ' hl s e
  refine Ad (fun R hR => ?_) (A1 (Ac ?_))
  ·kpf_c; exact hR
  kpf_c
  refine AK #[] (l := l) rfl hl ?_
  rw [e]
  exact hk _ s
 have hb := hv.big
 have ho := hv.off
 have h := hv
 cases h with
 | v4 =>
  refine Al (fun R hR => ?_) (A4 ?_)
  ·kpf_c; exact pk.kind hR
  kpf_c
  exact Dg #[] pk (.inl ⟨rfl, rfl⟩) hv.len (at' := 16) (many := 4) (Nat.le_trans hb ho) fun σ₁ s1 => ⟨nb rfl, A1 (tail _ _ (D1 #[]) s1 rfl)⟩
 | v6 =>
  refine Ad (fun R hR => ?_) (Al (fun R hR => ?_) (A4 ?_))
  ·kpf_c; exact pk.kind hR
  ·kpf_c; exact pk.kind hR
  kpf_c
  exact Dg #[] pk (.inl ⟨rfl, rfl⟩) hv.len (at' := 24) (many := 16) (Nat.le_trans hb ho) fun σ₁ s1 => ⟨nb rfl, A1 (A1 (tail _ _ (D1 #[]) s1 rfl))⟩
noncomputable def inv (t : T6) : T6 := if Ay t.nf t.pr then ⟨t.nf, t.pr, t.da, t.sp, t.sa, (BI t.nf (t.dp / 256)).toNat * 256 + t.dp % 256⟩ else ⟨t.nf, t.pr, t.da, t.dp, t.sa, t.sp⟩
def okInv (t : T6) : Prop := Ay t.nf t.pr = true → 0 ≤ BI t.nf (t.dp / 256)
theorem GA (h : 36 < n) (ho : okInv t) (hk : K (tD (inv t)) σ) : Ab rows n 36 [tD t] σ K := by
 obtain ⟨nf, pr, sa, sp, da, dp⟩ := t
 refine Am (ρ := [some (tD ⟨nf, pr, sa, sp, da, dp⟩), none, none, none, none, none, none, none]) Ip (by assumption) rfl rfl rfl rfl (by kernel_rfl) ?_; unfold Ip
 refine A8 ?_
 kpf_c
 refine (tu6 rfl ?_)
 unfold inv at hk
 unfold okInv at ho
 dsimp only at hk ho ⊢
 cases hi : Ay nf pr with
 | false =>
  rw [hi] at hk
  refine Al (fun R hR => ?_) (Ac ?_)
  ·kpf_c
   refine AS #[] ?_
   rw [hi]; exact ⟨_, rfl, hR⟩
  ·kpf_c; exact ⟨#[], hk⟩
 | true =>
  rw [hi] at hk
  have ho := ho hi
  refine Ad (fun R hR => ?_) (A1 (A4 ?_))
  ·kpf_c
   refine AS #[] ?_
   rw [hi]; exact ⟨_, rfl, hR⟩
  kpf_c
  rw [show (dp : Int).fdiv (2 ^ (8 : Int).toNat) = ((dp / 256 : Nat) : Int) from JN dp 8]
  refine ⟨#[], B4 #[] ⟨nb rfl, ?_⟩⟩
  refine Ad (fun R hR => ?_) (A1 (Ac ?_))
  ·kpf_c; rw [show decide (BI nf (dp / 256) < 0) = false by simp only [decide_eq_false_iff_not]; lia]; exact hR
  kpf_c
  rw [show (255 : Int) = ((255 : Nat) : Int) from rfl, CS, Q7, show BI nf (dp / 256) * 256 + ((dp % 256 : Nat) : Int) = (((BI nf (dp / 256)).toNat * 256 + dp % 256 : Nat) : Int) by lia]
  exact ⟨.inr #[], #[], hk⟩
structure TK (σ : Sto) (tk : Addr) (num st : Nat) (o r : T6) : Prop where
 obj : ∃ C ia fs, σ tk = some (.inst C ia fs) ∧ fs.lookup (Z "number") = some (.int num) ∧ fs.lookup (Z "original") = some (tD o) ∧ fs.lookup (Z "reply") = some (tD r) ∧ fs.lookup (Z "until") = some (.int 1001) ∧ fs.lookup (Z "status") = some (.int st)
theorem TK.number {num st : Nat} {K : D → Prop} (h : TK σ tk num st o r) (k : K (.int num)) : C4 σ (.ref tk) (Z "number") K := by
 refine Jj (h.obj) fun C ia fs e h1 h2 h3 h4 h5 => ?_; exact at_ e h1 k
theorem TK.original {num st : Nat} {K : D → Prop} (h : TK σ tk num st o r) (k : K (tD o)) : C4 σ (.ref tk) (Z "original") K := by
 refine Jj (h.obj) fun C ia fs e h1 h2 h3 h4 h5 => ?_; exact at_ e h2 k
theorem TK.reply {num st : Nat} {K : D → Prop} (h : TK σ tk num st o r) (k : K (tD r)) : C4 σ (.ref tk) (Z "reply") K := by
 refine Jj (h.obj) fun C ia fs e h1 h2 h3 h4 h5 => ?_; exact at_ e h3 k
theorem TK.until {num st : Nat} {K : D → Prop} (h : TK σ tk num st o r) (k : K (.int 1001)) : C4 σ (.ref tk) (Z "until") K := by
 refine Jj (h.obj) fun C ia fs e h1 h2 h3 h4 h5 => ?_; exact at_ e h4 k
theorem TK.status {num st : Nat} {K : D → Prop} (h : TK σ tk num st o r) (k : K (.int st)) : C4 σ (.ref tk) (Z "status") K := by
 refine Jj (h.obj) fun C ia fs e h1 h2 h3 h4 h5 => ?_; exact at_ e h5 k
theorem TK.mono {num st : Nat} (h : TK σ tk num st o r) (s : Ai σ σ') : TK σ' tk num st o r := by
 refine By (h.obj) fun C ia fs e g => ?_; exact ⟨C, ia, fs, s.get e, g⟩
noncomputable def An (o r : T6) (dir : Nat) : T6 := if dir = 0 then o else r
theorem Fv (h : 37 < n) {num st : Nat} (tt : TK σ tk num st o r) (hk : K (tD (An o r dir)) σ) : Ab rows n 37 [.ref tk, .int dir] σ K := by
 refine Am (ρ := [some (.ref tk), some (.int dir)]) Gl (by assumption) rfl rfl rfl rfl (by kernel_rfl) ?_; unfold Gl
 refine Ac ?_
 unfold An at hk
 by_cases hd : dir = 0
 ·rw [if_pos hd] at hk
  refine Av (fun R hR => ?_) ?_
  ·kpf_c; exact ⟨_, rfl, by rw [hd]; exact hR⟩
  ·kpf_c; exact tt.original hk
 ·rw [if_neg hd] at hk
  refine Au (fun R hR => ?_) ?_
  ·kpf_c
   refine ⟨_, rfl, ?_⟩
   rw [show ((dir : Int) != 0) = true by simp only [bne_iff_ne]; lia]; exact hR
  ·kpf_c; exact tt.reply hk
structure BK (σ : Sto) (bk tk : Addr) (num st : Nat) (o r : T6) : Prop where
 book : ∃ C ia fs tb ts, σ bk = some (.inst C ia fs) ∧ fs.lookup (Z "table") = some (.ref tb) ∧ fs.lookup (Z "talks") = some (.ref ts) ∧ σ tb = some (.tdict [((0, o.l), .tup [.int num, .int 0]), ((0, r.l), .tup [.int num, .int 1])]) ∧ σ ts = some (.idict [((num : Int), .ref tk)])
 talk : TK σ tk num st o r
theorem BK.mono {num st : Nat} (h : BK σ bk tk num st o r) (s : Ai σ σ') : BK σ' bk tk num st o r := by
 obtain ⟨⟨C, ia, fs, tb, ts, h1, h2, h3, h4, h5⟩, h6⟩ := h
 exact ⟨⟨C, ia, fs, tb, ts, s.get h1, h2, h3, s.get h4, s.get h5⟩, h6.mono s⟩
def Off (σ : Sto) (a : Addr) (σ' : Sto) : Prop := ∀ x, x ≠ a → σ x ≠ none → σ' x = σ x
theorem Off.get {a b : Addr} {o' : Cv} (h : Off σ a σ') (e : σ b = some o') (n : b ≠ a) : σ' b = some o' := by
 rw [h b n (by rw [e]; exact fun c => nomatch c), e]
theorem Ai.toOff (h : Ai σ σ') (a : Addr) : Off σ a σ' := fun x ω hx => h x hx
theorem Off.trans {σ σ₁ σ₂ : Sto} (h : Off σ a σ₁) (g : Off σ₁ a σ₂) : Off σ a σ₂ := fun x hx hn => by
 have e := h x hx hn
 rw [g x hx (by rw [e]; exact hn), e]
theorem Fy (h : 39 < n) {num st : Nat} (bb : BK σ bk tk num st o r) (hor : o.l ≠ r.l) (ht : (dir = 0 ∧ t = o) ∨ (dir = 1 ∧ t = r)) (hk : K (.tup [.ref tk, .int dir]) σ) : Ab rows n 39 [.ref bk, .int 0, tD t, .int 1000] σ K := by
 refine Am (ρ := [some (.ref bk), some (.int 0), some (tD t), some (.int 1000), none, none]) Go (by assumption) rfl rfl rfl rfl (by kernel_rfl) ?_; unfold Go
 obtain ⟨⟨C, ia, fs, tb, ts, h1, h2, h3, h4, h5⟩, tt⟩ := bb
 have hit : (([((0, o.l), D.tup [.int num, .int 0]), ((0, r.l), .tup [.int num, .int 1])] : List ((Int × List Int) × D)).lookup (0, t.l)).getD .none = .tup [.int num, .int dir] := by
  rcases ht with ⟨rfl, rfl⟩ | ⟨rfl, rfl⟩
  ·simp [List.lookup]
  ·have : ((((0 : Int), t.l) : Int × List Int) == (0, o.l)) = false := by
    apply beq_false_of_ne
    intro e
    exact hor (Prod.mk.inj e).2.symm
   simp [List.lookup, this]
 refine A4 ?_
 kpf_c
 refine at_ h1 h2 ⟨⟨tb, _, rfl, h4⟩, #[], ?_⟩
 refine ⟨_, 0, t.l, h4, rfl, ?_⟩
 rw [hit]
 refine ⟨nb rfl, ?_⟩
 refine Ad (fun R hR => ?_) (A1 (A4 ?_))
 ·kpf_c; exact hR
 kpf_c
 refine at_ h1 h3 (AX 0 rfl #[] ?_)
 refine .inr ⟨_, .ref tk, h5, ?_, nb rfl, ?_⟩
 ·simp [List.lookup]
 refine Ad (fun R hR => ?_) (A1 (Ac ?_))
 ·kpf_c; exact tt.until hR
 kpf_c
 exact AX 1 rfl #[] ⟨#[], hk⟩
end
section
variable {a : Addr} {Φ : Bn} {d : List UInt8} {i kd l4 off v : Nat} {r : PSs} {ρ : Rho}
def okL (kd l4 off : Nat) (d : List UInt8) : Prop := off + 4 ≤ d.length ∧ (Ay (Ag kd) l4 = true → off + 8 ≤ d.length)
noncomputable def FL (kd l4 off : Nat) (d : List UInt8) : Bool := Ay (Ag kd) l4 && (CR (Ag kd)).contains (num (cut d off (off + 1)) : Int)
theorem Bo (h : 41 < n) {σ : Sto} {p a : Addr} {K : B9} (pk : PK σ p a kd l4 off d) (hv : V kd l4 off d) (h4 : okL kd l4 off d) (hk : K (.bool (FL kd l4 off d)) σ) : Ab rows n 41 [.ref p] σ K := by
 refine Am (ρ := [some (.ref p), none]) C2 (by assumption) rfl rfl rfl rfl (by kernel_rfl) ?_; unfold C2
 refine A4 ?_
 kpf_c
 refine E4 #[] pk hv.kd ⟨nb rfl, ?_⟩
 have ol : off < d.length := by have := h4.1; lia
 have g0 : d[off]? = some d[off] := List.getElem?_eq_getElem ol
 unfold FL at hk
 rw [Kl g0] at hk
 cases hi : Ay (Ag kd) l4 with
 | false =>
  rw [hi] at hk
  refine Al (fun R hR => ?_) (Ac hk)
  kpf_c
  refine pk.l4 (AS #[] ?_)
  rw [hi]
  exact ⟨false, rfl, fun e => absurd e #[], fun ω => hR⟩
 | true =>
  rw [hi] at hk
  refine Ad (fun R hR => ?_) (A1 (Ac ?_))
  ·kpf_c
   refine pk.l4 (AS #[] ?_)
   rw [hi]
   refine ⟨true, rfl, fun ω => pk.off ?_, fun e => absurd e #[]⟩
   rw [LC, show decide ((off : Int) < 0) = false by simp]
   refine ⟨fun ω => pk.off (pk.data (Bl pk.buf ?_)), fun e => absurd e #[]⟩
   rw [LD, show decide ((d.length : Int) ≤ (off : Int)) = false by have := h4.1; simp only [decide_eq_false_iff_not]; lia]
   exact ⟨fun ω => hR, fun e => absurd e #[]⟩
  kpf_c
  refine pk.data (pk.off (I6 pk.buf g0 (by have := hv.off; have := hv.len; lia) (IF #[] ?_)))
  exact hk
noncomputable def sf (p : Addr) (h td : D) (st ir : Nat) (tl : List (Str × D)) : List (Str × D) := [((Z "packet"), .ref p), ((Z "now"), .int 1000), ((Z "hook"), h), ((Z "talk"), td), ((Z "state"), .int st), ((Z "is_reply"), .int ir)] ++ tl
structure SC (σ : Sto) (s p : Addr) (td : D) (st ir : Nat) : Prop where
 obj : ∃ C ia h tl, tl.length ≤ 100 ∧ σ s = some (.inst C ia (sf p h td st ir tl))
section
variable {σ σ' : Sto} {s p : Addr} {td : D} {st ir : Nat} {K : D → Prop}
theorem SC.packet (h : SC σ s p td st ir) (k : K (.ref p)) : C4 σ (.ref s) (Z "packet") K := by
 refine CZ (h.obj) fun C ia h tl ω e => ?_; exact at_ e rfl k
theorem SC.now (h : SC σ s p td st ir) (k : K (.int 1000)) : C4 σ (.ref s) (Z "now") K := by
 refine CZ (h.obj) fun C ia h tl ω e => ?_; exact at_ e rfl k
theorem SC.talk (h : SC σ s p td st ir) (k : K td) : C4 σ (.ref s) (Z "talk") K := by
 refine CZ (h.obj) fun C ia h tl ω e => ?_; exact at_ e rfl k
theorem SC.state (h : SC σ s p td st ir) (k : K (.int st)) : C4 σ (.ref s) (Z "state") K := by
 refine CZ (h.obj) fun C ia h tl ω e => ?_; exact at_ e rfl k
theorem SC.is_reply (h : SC σ s p td st ir) (k : K (.int ir)) : C4 σ (.ref s) (Z "is_reply") K := by
 refine CZ (h.obj) fun C ia h tl ω e => ?_; exact at_ e rfl k
theorem SC.mono (h : SC σ s p td st ir) (g : Ai σ σ') : SC σ' s p td st ir := by
 refine CZ (h.obj) fun C ia h tl hl e => ?_; exact ⟨C, ia, h, tl, hl, g.get e⟩
theorem SC.upd {l l' : List UInt8} (h : SC σ s p td st ir) (ha : σ a = some (.barr l)) (g : Upd σ a (.barr l') σ') : SC σ' s p td st ir := by
 refine CZ (h.obj) fun C ia h tl hl e => ?_
 exact ⟨C, ia, h, tl, hl, g.get e (fun c => by rw [c, ha] at e; cases e)⟩
theorem SC.ne {l : List UInt8} (h : SC σ s p td st ir) (ha : σ a = some (.barr l)) : a ≠ s := fun c => by
 refine CZ (h.obj) fun C ia h tl hl e => ?_; rw [c, e] at ha; cases ha
theorem Nh {d : D} {K : KS} (h : SC σ s p td st ir) (hp : ρ[i]? = some (some (.ref s))) (k : ∀ σ', Off σ s σ' → SC σ' s p d st ir → Ak Φ r ρ σ' K) : Ap Φ (.attr (.loc i) (Z "talk")) d ρ σ fun ρ' σ' => Ak Φ r ρ' σ' K := by
 refine CZ (h.obj) fun C ia h tl hl e => ?_
 exact AL (sf p h d st ir tl) hp e (by unfold sf; rw [List.length_append]; show 6 + tl.length < 400; lia) (by rfl) (k _ (fun x hx ω => Sto.upd_ne _ _ hx) ⟨C, ia, h, tl, hl, Sto.upd_self ..⟩)
theorem KV {K : KS} (h : SC σ s p td st ir) (hp : ρ[i]? = some (some (.ref s))) (k : ∀ σ', Off σ s σ' → SC σ' s p td v ir → Ak Φ r ρ σ' K) : Ap Φ (.attr (.loc i) (Z "state")) (.int v) ρ σ fun ρ' σ' => Ak Φ r ρ' σ' K := by
 refine CZ (h.obj) fun C ia h tl hl e => ?_
 exact AL (sf p h td v ir tl) hp e (by unfold sf; rw [List.length_append]; show 6 + tl.length < 400; lia) (by rfl) (k _ (fun x hx ω => Sto.upd_ne _ _ hx) ⟨C, ia, h, tl, hl, Sto.upd_self ..⟩)
theorem KW {K : KS} (h : SC σ s p td st ir) (hp : ρ[i]? = some (some (.ref s))) (k : ∀ σ', Off σ s σ' → SC σ' s p td st v → Ak Φ r ρ σ' K) : Ap Φ (.attr (.loc i) (Z "is_reply")) (.int v) ρ σ fun ρ' σ' => Ak Φ r ρ' σ' K := by
 refine CZ (h.obj) fun C ia h tl hl e => ?_
 exact AL (sf p h td st v tl) hp e (by unfold sf; rw [List.length_append]; show 6 + tl.length < 400; lia) (by rfl) (k _ (fun x hx ω => Sto.upd_ne _ _ hx) ⟨C, ia, h, tl, hl, Sto.upd_self ..⟩)
end
structure EP (kd l4 off ipr ioff : Nat) (d : List UInt8) : Prop where
 v : V kd l4 off d
 ok : okL kd l4 off d
 err : FL kd l4 off d = true
 len : off + 8 ≤ d.length
 iv : V kd ipr ioff (d.drop (off + 8))
 iok : okL kd ipr ioff (d.drop (off + 8))
theorem EU (h : 40 < n) {σ : Sto} {bk tk p a : Addr} {num st : Nat} {o r : T6} {dir kd l4 off ipr ioff : Nat} {K : B9} (bb : BK σ bk tk num st o r) (hor : o.l ≠ r.l) (pk : PK σ p a kd l4 off d) (ep : EP kd l4 off ipr ioff d)
  (hi : okInv (DX (d.drop (off + 8)) (Ag kd) ipr ioff)) (hdir : dir = 0 ∨ dir = 1) (ht : inv (DX (d.drop (off + 8)) (Ag kd) ipr ioff) = An o r dir)
  (hk : ∀ σ', Ai σ σ' → K (if (An o r dir).da = Hr d (Ag kd) then .tup [.ref tk, .int dir] else .none) σ') : Ab rows n 40 [.ref bk, .ref p, .int 0, .int 1000] σ K := by
 refine Am (ρ := [some (.ref bk), some (.ref p), some (.int 0), some (.int 1000), none, none, none, none]) Ct (by assumption) rfl rfl rfl rfl (by kernel_rfl) ?_; unfold Ct
 refine A4 ?_
 kpf_c
 refine E4 #[] pk ep.v.kd ⟨nb rfl, A4 ?_⟩
 kpf_c
 refine pk.data (pk.off ?_)
 have hl := ep.v.len
 have ho := ep.v.off
 rw [B2, show (off : Int) + 8 = ((off + 8 : Nat) : Int) from rfl]
 refine Sg pk.buf (off + 8) (by lia) fun q hq => ?_
 have s1 : Ai σ (σ.upd q (.barr (d.drop (off + 8)))) := .new hq
 have hq1 : (σ.upd q (.barr (d.drop (off + 8)))) q = some (.barr (d.drop (off + 8))) := Sto.upd_self ..
 generalize σ.upd q (.barr (d.drop (off + 8))) = σ₁ at *
 refine G4 #[] hq1 ep.iv ep.iok.1 ep.iok.2 fun σ₂ s2 => ⟨nb rfl, ?_⟩
 generalize DX (d.drop (off + 8)) (Ag kd) ipr ioff = t at *
 refine Ad (fun R hR => ?_) (A1 (A4 ?_))
 ·kpf_c; exact hR
 kpf_c
 refine GA #[] hi ⟨nb rfl, ?_⟩
 rw [ht]
 refine Ad (fun R hR => ?_) (A1 (A4 ?_))
 ·kpf_c; exact hR
 kpf_c
 have s12 := s1.trans s2
 have bb2 := bb.mono s12
 have pk2 := pk.mono s12
 refine Fy #[] bb2 hor (dir := dir) (by rcases hdir with rfl | rfl; exact .inl ⟨rfl, rfl⟩; exact .inr ⟨rfl, rfl⟩) ⟨nb rfl, ?_⟩
 have e4 : (tD (An o r dir)) = .tup [.int (An o r dir).nf, .int (An o r dir).pr, .int (An o r dir).sa, .int (An o r dir).sp, .int (An o r dir).da, .int (An o r dir).dp] := rfl
 refine Hh ?_
 kpf_c
 refine ⟨fun ω => AX 0 rfl #[] (AX 1 rfl #[] (Fv #[] bb2.talk ?_)), fun e => absurd (show false = true from e) Bool.false_ne_true⟩
 refine AX 4 rfl #[] ?_
 refine Hx #[] pk2 ep.v fun σ₃ s3 => ?_
 have hk := hk σ₃ (s12.trans s3)
 rw [OA, Ax]
 by_cases he : (An o r dir).da = Hr d (Ag kd)
 ·rw [if_pos he] at hk
  rw [he, beq_self_eq_true]
  exact ⟨fun ω => ⟨fun e => absurd e #[], fun ω => A1 (Ac hk)⟩, fun e => absurd e #[]⟩
 ·rw [if_neg he] at hk
  rw [beq_false_of_ne he]
  exact ⟨fun e => absurd e #[], fun ω => ⟨fun ω => Ac hk, fun e => absurd e #[]⟩⟩
theorem H2 (h : 42 < n) {σ : Sto} {bk tk p a s : Addr} {num st st0 ir0 : Nat} {td : D} {o r : T6} {dir kd l4 off ipr ioff : Nat} {K : B9} (bb : BK σ bk tk num st o r) (hor : o.l ≠ r.l) (pk : PK σ p a kd l4 off d) (ep : EP kd l4 off ipr ioff d) (sc : SC σ s p td st0 ir0)
  (hi : okInv (DX (d.drop (off + 8)) (Ag kd) ipr ioff)) (hdir : dir = 0 ∨ dir = 1) (ht : inv (DX (d.drop (off + 8)) (Ag kd) ipr ioff) = An o r dir)
  (hk : ∀ σ', Off σ s σ' → (if (An o r dir).da = Hr d (Ag kd) then SC σ' s p (.ref tk) 4 dir else SC σ' s p .none 1 0) → K (.bool true) σ') : Ab rows n 42 [.ref bk, .ref s, .int 0] σ K := by
 refine Am (ρ := [some (.ref bk), some (.ref s), some (.int 0), none]) DG (by assumption) rfl rfl rfl rfl (by kernel_rfl) ?_; unfold DG
 refine Ad (fun R hR => ?_) (A1 (A4 ?_))
 ·kpf_c
  refine sc.packet (Bo #[] pk ep.v ep.ok ?_)
  rw [ep.err]
  exact ⟨true, rfl, hR⟩
 kpf_c
 refine sc.packet (sc.now (EU #[] bb hor pk ep hi hdir ht fun σ₁ s1 => ⟨nb rfl, ?_⟩))
 have sc1 := sc.mono s1
 by_cases he : (An o r dir).da = Hr d (Ag kd)
 ·rw [if_pos he]
  refine Ad (fun R hR => ?_) (A8 ?_)
  ·kpf_c; exact hR
  kst_p
  refine AX 0 rfl #[] ?_
  refine Nh sc1 (by rfl) fun σ₂ o2 sc2 => A8 ?_
  kst_p
  refine KV (v := 4) sc2 (by rfl) fun σ₃ o3 sc3 => A8 ?_
  kst_p
  refine AX 1 rfl #[] ?_
  refine KW sc3 (by rfl) fun σ₄ o4 sc4 => A1 (Ac ?_)
  exact hk _ (((s1.toOff s).trans o2).trans (o3.trans o4)) (by rw [if_pos he]; exact sc4)
 ·rw [if_neg he]
  refine Al (fun R hR => ?_) (A8 ?_)
  ·kpf_c; exact hR
  kst_p
  refine Nh sc1 (by rfl) fun σ₂ o2 sc2 => A8 ?_
  kst_p
  refine KV (v := 1) sc2 (by rfl) fun σ₃ o3 sc3 => A8 ?_
  kst_p
  refine KW (v := 0) sc3 (by rfl) fun σ₄ o4 sc4 => A1 (Ac ?_)
  exact hk _ (((s1.toOff s).trans o2).trans (o3.trans o4)) (by rw [if_neg he]; exact sc4)
end
section
variable {src : Bool} {d : List UInt8} {b kd l4 off : Nat}
noncomputable def mS (src : Bool) : Str := if src then (Z "src") else (Z "dst")
theorem CN (src : Bool) : (mS src == (Z "src")) = src := by cases src <;> kernel_rfl
noncomputable def EX (kd l4 off : Nat) (d : List UInt8) (src : Bool) : Option Nat :=
 if l4 = 6 ∨ l4 = 17 then some (if src then 0 else 2)
 else if Ay (Ag kd) l4 = true ∧ 0 ≤ BI (Ag kd) (num (cut d off (off + 1))) then some 4 else none
theorem Jh {q : Nat} (h : EX kd l4 off d src = some q) (ok : okL kd l4 off d) : off + q + 2 ≤ d.length := by
 unfold EX at h
 have := ok.1
 split at h
 ·cases h; split <;> lia
 ·split at h
  ·rename_i hh; cases h; have := ok.2 hh.1; lia
  ·cases h
theorem H1 (h : 44 < n) {p a : Addr} (pk : PK σ p a kd l4 off d) (hv : V kd l4 off d) (ok : okL kd l4 off d) (hk : ∀ σ', Ai σ σ' → K (.int (JG (EX kd l4 off d src))) σ') : Ab rows n 44 [.ref p, .str (mS src)] σ K := by
 refine Am (ρ := [some (.ref p), some (.str (mS src)), none, none]) DF (by assumption) rfl rfl rfl rfl (by kernel_rfl) ?_; unfold DF
 have e1 : ((l4 : Int) == 6) = (l4 == 6) := Ax l4 6
 have e2 : ((l4 : Int) == 17) = (l4 == 17) := Ax l4 17
 unfold EX at hk
 by_cases hp : l4 = 6 ∨ l4 = 17
 ·rw [if_pos hp] at hk
  refine Al (fun R hR => ?_) (Ac ?_)
  ·kpf_c
   refine pk.l4 ?_
   rw [FT, e1]
   rcases hp with rfl | rfl
   ·exact ⟨fun e => absurd e #[], fun ω => hR⟩
   ·exact ⟨fun ω => pk.l4 ⟨fun e => absurd e #[], fun ω => hR⟩, fun e => absurd e #[]⟩
  cases src with
  | true =>
   refine Au (fun R hR => ?_) (hk _ (.refl σ))
   kpf_c; rw [CN]; exact hR
  | false =>
   refine Av (fun R hR => ?_) (hk _ (.refl σ))
   kpf_c; rw [CN]; exact hR
 rw [if_neg hp] at hk
 refine Ad (fun R hR => ?_) (A1 (A4 ?_))
 ·kpf_c
  refine pk.l4 ?_
  rw [FT, e1, beq_false_of_ne (fun c => hp (.inl c))]
  refine ⟨fun ω => pk.l4 ?_, fun e => absurd e #[]⟩
  rw [FT, e2, beq_false_of_ne (fun c => hp (.inr c))]
  exact ⟨fun ω => hR, fun e => absurd e #[]⟩
 kpf_c
 refine E4 #[] pk hv.kd ⟨nb rfl, A4 ?_⟩
 kpf_c
 have hl := hv.len
 have ol : off < d.length := by have := ok.1; lia
 have g0 : d[off]? = some d[off] := List.getElem?_eq_getElem ol
 rw [Kl g0] at hk
 refine Dg #[] pk (.inr ⟨rfl, rfl⟩) hl (at' := 0) (many := 1) (by have := ok.1; lia) fun σ₁ s1 => ⟨nb rfl, ?_⟩
 have pk1 := pk.mono s1
 have gc : (cut d (off + 0) (off + 0 + 1))[0]? = some d[off] := by
  unfold cut
  rw [show off + 0 + 1 - (off + 0) = 1 by lia, show off + 0 = off by lia, List.drop_eq_getElem_cons ol]; rfl
 cases hi : Ay (Ag kd) l4 with
 | false =>
  rw [hi, if_neg (fun c => absurd c.1 #[])] at hk
  refine Ad (fun R hR => ?_) (A1 (Ac (hk _ s1)))
  kpf_c
  refine ⟨fun ω => pk1.l4 (AS #[] ?_), fun e => absurd (show true = false from e) #[]⟩
  rw [hi]
  exact ⟨false, rfl, fun e => absurd e #[], fun ω => hR⟩
 | true =>
  rw [hi] at hk
  by_cases ha : 0 ≤ BI (Ag kd) d[off].toNat
  ·rw [if_pos ⟨rfl, ha⟩] at hk
   refine Al (fun R hR => ?_) (Ac (hk _ s1))
   kpf_c
   refine ⟨fun ω => pk1.l4 (AS #[] ?_), fun e => absurd (show true = false from e) #[]⟩
   rw [hi]
   refine ⟨true, rfl, fun ω => Os (i := 0) gc (D1 #[]) (B4 #[] ?_), fun e => absurd e #[]⟩
   rw [LD, decide_eq_true ha]
   exact ⟨fun ω => hR, fun e => absurd e #[]⟩
  ·rw [if_neg (fun c => ha c.2)] at hk
   refine Ad (fun R hR => ?_) (A1 (Ac (hk _ s1)))
   kpf_c
   refine ⟨fun ω => pk1.l4 (AS #[] ?_), fun e => absurd (show true = false from e) #[]⟩
   rw [hi]
   refine ⟨true, rfl, fun ω => Os (i := 0) gc (D1 #[]) (B4 #[] ?_), fun e => absurd e #[]⟩
   rw [LD, decide_eq_false ha]
   exact ⟨fun e => absurd e #[], fun ω => hR⟩
def okT (t : T6) : Prop := t.sa < 256 ^ zOf t.nf ∧ t.da < 256 ^ zOf t.nf ∧ t.sp < 65536 ∧ t.dp < 65536
noncomputable def HJ (kd l4 off : Nat) (d : List UInt8) (t : T6) (src : Bool) : Option Nat := if l4 = t.pr then EX kd l4 off d src else none
noncomputable def M7 (pl : Option Nat) (t : T6) (src : Bool) : Nat := if pl = some 4 then t.sp else if src then t.sp else t.dp
noncomputable def rwA (kd l4 off : Nat) (d : List UInt8) (t : T6) (src : Bool) : List UInt8 := AD kd l4 off d (if src then aOf t.nf else aOf t.nf + zOf t.nf) (oct (if src then t.sa else t.da) (zOf t.nf))
noncomputable def Bc (kd l4 off : Nat) (d : List UInt8) (t : T6) (src : Bool) : List UInt8 :=
 match HJ kd l4 off d t src with
 | some q => AD kd l4 off (rwA kd l4 off d t src) (off + q) (oct (M7 (some q) t src) 2)
 | none => rwA kd l4 off d t src
theorem IL {d new : List UInt8} (h : b + new.length ≤ d.length) : (EW kd l4 off d b new).length = d.length := by
 unfold EW
 have hok := Hs (kd := kd) (l4 := l4) (off := off) (b := b) h
 generalize Dv kd l4 off d b (b + new.length) = R at *
 have hs := AU h
 generalize A7 d b new = cur at *
 induction R generalizing cur with
 | nil => exact hs
 | cons r R ih => exact ih (fun r hr => hok r (List.mem_cons_of_mem _ hr)) _ (by rw [EO (by rw [hs]; exact (hok r (List.mem_cons_self ..)).1), hs])
theorem Co {d new : List UInt8} (h : b + new.length ≤ d.length) : (AD kd l4 off d b new).length = d.length := by
 unfold AD
 split
 ·rfl
 ·exact IL h
theorem Fw (h : 45 < n) {p a : Addr} {t : T6} (pk : PK σ p a kd l4 off d) (hv : V kd l4 off d) (ok : okL kd l4 off d) (hn : t.nf = Ag kd) (ht : okT t) (hk : ∀ σ', Upd σ a (.barr (Bc kd l4 off d t src)) σ' → K .none σ') : Ab rows n 45 [.ref p, tD t, .str (mS src)] σ K := by
 obtain ⟨nf, pr, sa, sp, da, dp⟩ := t
 dsimp only at hn
 subst hn
 (refine oa4 ht fun t1 t2 t3 t4 => ?_; clear ht)
 dsimp only at t1 t2 t3 t4
 have hb := hv.big
 have ho := hv.off
 have hp := hv.pos
 refine Am (ρ := [some (.ref p), some (tD ⟨Ag kd, pr, sa, sp, da, dp⟩), some (.str (mS src)), none, none, none, none, none, none, none, none, none, none, none]) Gm (by assumption) rfl rfl rfl rfl (by kernel_rfl) ?_; unfold Gm
 refine A8 ?_
 kpf_c
 refine (tu6 rfl ?_)
 dsimp only [List.set_cons_zero, List.set_cons_succ]
 refine Ad (fun R hR => ?_) (A1 (A8 ?_))
 ·kpf_c
  refine E4 #[] pk hv.kd ?_
  rw [OA, beq_self_eq_true]; exact hR
 have two : ∀ (Q : Rho → Sto → Prop), Q [some (.ref p), some (tD ⟨Ag kd, pr, sa, sp, da, dp⟩), some (.str (mS src)), some (.int (Ag kd)), some (.int pr), some (.int sa), some (.int sp), some (.int da), some (.int dp), some (.int (aOf (Ag kd))), some (.int (zOf (Ag kd))), none, none, none] σ →
   wpE (Ab rows 45) (.ite (.cmp .Eq (.loc 3) {2}) (.tup #[{12},{4}]) (.tup #[{8},{16}])) [some (.ref p), some (tD ⟨Ag kd, pr, sa, sp, da, dp⟩), some (.str (mS src)), some (.int (Ag kd)), some (.int pr), some (.int sa), some (.int sp), some (.int da), some (.int dp), none, none, none, none, none] σ
   fun d σ' => Ap (Ab rows 45) (.tup #[.loc 9,.loc 10]) d [some (.ref p), some (tD ⟨Ag kd, pr, sa, sp, da, dp⟩), some (.str (mS src)), some (.int (Ag kd)), some (.int pr), some (.int sa), some (.int sp), some (.int da), some (.int dp), none, none, none, none, none] σ' Q := by
  intro Q hQ
  rcases hv.kd with rfl | rfl
  ·refine Au (fun R hR => ?_) ?_
   ·kpf_c; exact hR
   kpf_c
   exact ⟨#[], _, rfl, rfl, _, _, rfl, nb rfl, _, _, rfl, nb rfl, rfl, hQ⟩
  ·refine Av (fun R hR => ?_) ?_
   ·kpf_c; exact hR
   kpf_c
   exact ⟨#[], _, rfl, rfl, _, _, rfl, nb rfl, _, _, rfl, nb rfl, rfl, hQ⟩
 refine two _ ?_
 refine A4 ?_
 have pl : ∀ (Q : D → Sto → Prop), (∀ σ', Ai σ σ' → Q (.int (JG (HJ kd l4 off d ⟨Ag kd, pr, sa, sp, da, dp⟩ src))) σ') → wpE (Ab rows 45) (.ite (.cmp .Eq (.attr (.loc 0) (Z "l4")) (.loc 4)) (.call 44 #[.loc 0,.loc 2]) (.neg {1})) [some (.ref p), some (tD ⟨Ag kd, pr, sa, sp, da, dp⟩), some (.str (mS src)), some (.int (Ag kd)), some (.int pr), some (.int sa), some (.int sp), some (.int da), some (.int dp), some (.int (aOf (Ag kd))), some (.int (zOf (Ag kd))), none, none, none] σ Q := by
  intro Q hQ
  unfold HJ at hQ
  by_cases hl : l4 = pr
  ·rw [if_pos hl] at hQ
   refine Au (fun R hR => ?_) ?_
   ·kpf_c; refine pk.l4 ?_
    rw [FT, hl, beq_self_eq_true]; exact hR
   kpf_c
   exact H1 #[] pk hv ok hQ
  ·rw [if_neg hl] at hQ
   refine Av (fun R hR => ?_) (hQ _ (.refl σ))
   kpf_c; refine pk.l4 ?_
   rw [FT, Ax, beq_false_of_ne hl]; exact hR
 refine pl _ fun σ₁ s1 => ⟨nb rfl, ?_⟩
 have pk1 := pk.mono s1
 have hQ : ∀ q, HJ kd l4 off d ⟨Ag kd, pr, sa, sp, da, dp⟩ src = some q → off + q + 2 ≤ d.length := by
  intro q hq
  unfold HJ at hq
  split at hq
  ·exact Jh hq ok
  ·cases hq
 unfold Bc rwA at hk
 generalize HJ kd l4 off d ⟨Ag kd, pr, sa, sp, da, dp⟩ src = P at *
 dsimp only at hk
 have fin : ∀ (at' ad po : Nat), ad < 256 ^ zOf (Ag kd) → po < 65536 → at' + zOf (Ag kd) ≤ d.length → (∀ σ', Upd σ₁ a (.barr (match P with | some q => AD kd l4 off (AD kd l4 off d at' (oct ad (zOf (Ag kd)))) (off + q) (oct po 2) | none => AD kd l4 off d at' (oct ad (zOf (Ag kd))))) σ' → K .none σ') →
   Ak (Ab rows 45) #[.expr (.call 43 #[.loc 0,.cst (.str (Z "network")),.loc 9,.call 2 #[.loc 12,.loc 10]]),.cond (.cmp .GtE (.loc 11) {0}) #[.expr (.call 43 #[.loc 0,.cst (.str (Z "transport")),.loc 11,.call 2 #[.loc 13,{2}]])] .nil] [some (.ref p), some (tD ⟨Ag kd, pr, sa, sp, da, dp⟩), some (.str (mS src)), some (.int (Ag kd)), some (.int pr), some (.int sa), some (.int sp), some (.int da), some (.int dp), some (.int at'), some (.int (zOf (Ag kd))), some (.int (JG P)), some (.int ad), some (.int po)] σ₁ (Bh K) := by
  intro at' ad po had hpo hat hk
  refine BC ?_
  kpf_c
  have hz : zOf (Ag kd) ≤ 100 := by unfold zOf; split <;> decide
  refine CJ #[] had hz ?_
  have hol : (oct ad (zOf (Ag kd))).length = zOf (Ag kd) := A2 ..
  refine CH #[] pk1 hv.kd (.inl ⟨rfl, rfl⟩) hp (by rw [hol]; lia) fun σ₂ u2 => ⟨rfl, ?_⟩
  rw [show 0 + at' = at' by lia] at u2
  have pk2 := pk1.upd u2
  have hl2 : (AD kd l4 off d at' (oct ad (zOf (Ag kd)))).length = d.length := Co (by rw [hol]; exact hat)
  generalize AD kd l4 off d at' (oct ad (zOf (Ag kd))) = d2 at *
  cases P with
  | none =>
   refine Ad (fun R hR => ?_) (A1 (AR (hk _ u2)))
   kpf_c; exact hR
  | some q =>
   have hq := hQ q rfl
   refine Al (fun R hR => ?_) (BC ?_)
   ·kpf_c; rw [show decide ((0 : Int) ≤ JG (some q)) = true by show decide ((0 : Int) ≤ (q : Int)) = true; simp]; exact hR
   kpf_c
   refine CJ #[] (k := 2) (by lia) #[] ?_
   have ho2 : (oct po 2).length = 2 := A2 ..
   exact CH #[] pk2 hv.kd (.inr ⟨rfl, rfl⟩) (by rw [hl2]; exact hp) (by rw [ho2, hl2]; exact hq) fun σ₃ u3 => ⟨rfl, A1 (AR (hk _ (u2.trans u3)))⟩
 have hz : 1 ≤ zOf (Ag kd) := by unfold zOf; split <;> decide
 have fin2 : ∀ (at' ad po : Nat), (if src then aOf (Ag kd) else aOf (Ag kd) + zOf (Ag kd)) = at' → (if src then sa else da) = ad → (if src then sp else dp) = po →
   Ak (Ab rows 45) #[.cond (.cmp .Eq (.loc 11) {4}) #[.asg (.loc 13) (.loc 6)] .nil,.expr (.call 43 #[.loc 0,.cst (.str (Z "network")),.loc 9,.call 2 #[.loc 12,.loc 10]]),.cond (.cmp .GtE (.loc 11) {0}) #[.expr (.call 43 #[.loc 0,.cst (.str (Z "transport")),.loc 11,.call 2 #[.loc 13,{2}]])] .nil] [some (.ref p), some (tD ⟨Ag kd, pr, sa, sp, da, dp⟩), some (.str (mS src)), some (.int (Ag kd)), some (.int pr), some (.int sa), some (.int sp), some (.int da), some (.int dp), some (.int at'), some (.int (zOf (Ag kd))), some (.int (JG P)), some (.int ad), some (.int po)] σ₁ (Bh K) := by
  intro at' ad po e1 e2 e3
  rw [e1, e2] at hk
  have had : ad < 256 ^ zOf (Ag kd) := by rw [← e2]; split <;> assumption
  have hpo : po < 65536 := by rw [← e3]; split <;> assumption
  have hat : at' + zOf (Ag kd) ≤ d.length := by rw [← e1]; split <;> lia
  by_cases h4 : P = some 4
  ·subst h4
   refine Al (fun R hR => ?_) (A4 ?_)
   ·kpf_c; exact hR
   kpf_c
   refine ⟨nb rfl, A1 (fin at' ad sp had t3 hat fun σ' u => hk _ (u.pre s1))⟩
  ·refine Ad (fun R hR => ?_) (A1 (fin at' ad po had hpo hat fun σ' u => ?_))
   ·kpf_c
    have : ((JG P) == 4) = false := by
     cases P with
     | none => rfl
     | some q => exact (Ax q 4).trans (beq_false_of_ne fun c => h4 (by rw [c]))
    rw [this]; exact hR
   ·refine hk _ ?_
    have u := u.pre s1
    cases P with
    | none => exact u
    | some q =>
     have e : M7 (some q) ⟨Ag kd, pr, sa, sp, da, dp⟩ src = po := by unfold M7; rw [if_neg h4]; exact e3
     dsimp only at u ⊢
     rw [e]; exact u
 cases src with
 | true =>
  refine Al (fun R hR => ?_) (A8 ?_)
  ·kpf_c; rw [CN]; exact hR
  kpf_c
  refine ⟨#[], _, rfl, rfl, _, _, rfl, nb rfl, _, _, rfl, nb rfl, rfl, A1 ?_⟩
  exact fin2 _ _ _ rfl rfl rfl
 | false =>
  refine Ad (fun R hR => ?_) (A8 ?_)
  ·kpf_c; rw [CN]; exact hR
  kpf_c
  rw [show (aOf (Ag kd) : Int) + (zOf (Ag kd) : Int) = ((aOf (Ag kd) + zOf (Ag kd) : Nat) : Int) from rfl]
  refine ⟨#[], _, rfl, rfl, _, _, rfl, nb rfl, _, _, rfl, nb rfl, _, _, rfl, nb rfl, rfl, A1 ?_⟩
  exact fin2 _ _ _ rfl rfl rfl
end
section
variable {p s tk : Addr} {src : Bool} {d : List UInt8} {o r t : T6}
theorem H6 {kd l4 off : Nat} (hv : V kd l4 off d) (ok : okL kd l4 off d) (hn : t.nf = Ag kd) : (Bc kd l4 off d t src).length = d.length := by
 have hb := hv.big
 have ho := hv.off
 have e1 : (rwA kd l4 off d t src).length = d.length := by
  unfold rwA
  refine Co ?_
  rw [A2, hn]
  split <;> lia
 unfold Bc
 cases hr : HJ kd l4 off d t src with
 | none => exact e1
 | some q =>
  unfold HJ at hr
  split at hr
  ·have := Jh hr ok
   dsimp only
   rw [Co (by rw [A2, e1]; exact this), e1]
  ·cases hr
theorem E3 (h : 47 < n) {kd l4 off : Nat} (hv : V kd l4 off d) (ok : okL kd l4 off d) (hn : t.nf = Ag kd) (ht : okT t) (hk : ∀ σ', Ai σ σ' → K (.bytes (Bc kd l4 off d t src)) σ') : Ab rows n 47 [.bytes d, tD t, .str (mS src)] σ K := by
 refine Am (ρ := [some (.bytes d), some (tD t), some (.str (mS src)), none]) C3 (by assumption) rfl rfl rfl rfl (by kernel_rfl) ?_; unfold C3
 refine A4 ?_
 have kindE : ∀ (Q : D → Sto → Prop), Q (.int kd) σ → wpE (Ab rows 47) (.ite (.cmp .Eq (.idx (.loc 1) {0}) {2}) {2048} {34525}) [some (.bytes d), some (tD t), some (.str (mS src)), none] σ Q := by
  intro Q hQ
  rcases hv.kd with rfl | rfl
  ·refine Au (fun R hR => ?_) hQ
   kpf_c
   refine AX 0 rfl #[] ?_
   rw [hn]; exact hR
  ·refine Av (fun R hR => ?_) hQ
   kpf_c
   refine AX 0 rfl #[] ?_
   rw [hn]; exact hR
 show wpE _ _ _ _ _
 refine KA (Ew ?_)
 show wpE _ (.loc 0) _ _ fun x σ₁ => Fq _ #[.ite _ _ _] _ _ _
 show wpE _ (.ite _ _ _) _ _ _
 refine kindE _ ?_
 show Ab _ _ _ [_, _] _ _
 refine CI #[] hv fun σ₁ p a s1 hp ha pk => ⟨nb rfl, BC ?_⟩
 kpf_c
 refine Fw #[] pk hv ok hn ht fun σ₂ u2 => ⟨rfl, Ac ?_⟩
 kpf_c
 have pk2 := pk.upd u2
 refine pk2.data (Hm pk2.buf (hk _ ?_))
 intro x hx
 have e := s1 x hx
 rw [u2.2 x (Ea ha hx) (by rw [e]; exact hx), e]
theorem MO (d : List UInt8) (i n : Nat) (h : i + n = d.length) : cut d i (i + n) = d.drop i := by
 unfold cut
 exact List.take_of_length_le (by simp; lia)
noncomputable def riF (kd l4 off ipr ioff : Nat) (d : List UInt8) (t : T6) (src : Bool) : List UInt8 := AD kd l4 off d (off + 8) (Bc kd ipr ioff (d.drop (off + 8)) t src)
theorem EV (h : 48 < n) {p a : Addr} {kd l4 off ipr ioff : Nat} (pk : PK σ p a kd l4 off d) (ep : EP kd l4 off ipr ioff d) (hn : t.nf = Ag kd) (ht : okT t) (hk : ∀ σ', Upd σ a (.barr (riF kd l4 off ipr ioff d t src)) σ' → K .none σ') : Ab rows n 48 [.ref p, tD t, .str (mS src)] σ K := by
 refine Am (ρ := [some (.ref p), some (tD t), some (.str (mS src)), none]) Cu (by assumption) rfl rfl rfl rfl (by kernel_rfl) ?_; unfold Cu
 have hl := ep.v.len
 have hlen := ep.len
 refine A4 ?_
 kpf_c
 refine pk.data (Bl pk.buf (pk.off ?_))
 rw [ET, ET, Q3, show max (0 : Int) ((d.length : Int) - (off : Int) - 8) = ((d.length - off - 8 : Nat) : Int) by lia]
 refine Dg #[] pk (.inr ⟨rfl, rfl⟩) hl (at' := 8) (many := d.length - off - 8) (by lia) fun σ₁ s1 => ⟨nb rfl, ?_⟩
 rw [MO d (off + 8) _ (by lia)]
 have pk1 := pk.mono s1
 refine Al (fun R hR => ?_) (BC ?_)
 ·kpf_c; exact hR
 kpf_c
 refine E3 #[] ep.iv ep.iok hn ht fun σ₂ s2 => ?_
 have pk2 := pk1.mono s2
 have hrl : (Bc kd ipr ioff (d.drop (off + 8)) t src).length = d.length - (off + 8) := by rw [H6 ep.iv ep.iok hn, List.length_drop]
 exact CH #[] pk2 ep.v.kd (.inr ⟨rfl, rfl⟩) ep.v.pos (at' := 8) (by rw [hrl]; lia) fun σ₃ u3 => ⟨rfl, A1 (AR (hk _ (u3.pre (s1.trans s2))))⟩
noncomputable def Hf (src : Bool) (dir : Nat) : Nat := if (src == (dir != 1)) then 16 else 32
theorem JI (h : 46 < n) {dir : Nat} (hk : K (.int (Hf src dir)) σ) : Ab rows n 46 [.str (mS src), .int dir] σ K := by
 refine Am (ρ := [some (.str (mS src)), some (.int dir), none]) Gr (by assumption) rfl rfl rfl rfl (by kernel_rfl) ?_; unfold Gr
 refine A4 ?_
 kpf_c
 rw [CN]
 refine ⟨nb rfl, ?_⟩
 unfold Hf at hk
 have last : ∀ b : Bool, K (.int (if b then 16 else 32 : Nat)) σ → Ak (Ab rows 46) #[.ret (.ite (.loc 2) {16} {32})] [some (.str (mS src)), some (.int dir), some (.bool b)] σ (Bh K) := by
  intro b hk
  refine Ac ?_
  cases b with
  | true => exact Au (fun R hR => by kpf_c; exact ⟨_, rfl, hR⟩) hk
  | false => exact Av (fun R hR => by kpf_c; exact ⟨_, rfl, hR⟩) hk
 by_cases hd : dir = 1
 ·subst hd
  refine Al (fun R hR => ?_) (A4 ?_)
  ·kpf_c; exact hR
  kpf_c
  refine ⟨src, rfl, nb rfl, A1 (last _ ?_)⟩
  cases src <;> exact hk
 ·refine Ad (fun R hR => ?_) (A1 (last _ ?_))
  ·kpf_c; rw [show ((dir : Int) == 1) = false from (Ax dir 1).trans (beq_false_of_ne hd)]; exact hR
  ·rw [show (dir != 1) = true from bne_iff_ne.mpr hd] at hk
   cases src <;> exact hk
theorem EC (h : 49 < n) {st ir : Nat} (sc : SC σ s p .none st ir) (hk : K .none σ) : Ab rows n 49 [.ref s, .str (mS src)] σ K := by
 refine Am (ρ := [some (.ref s), some (.str (mS src)), none, none, none]) Bq (by assumption) rfl rfl rfl rfl (by kernel_rfl) ?_; unfold Bq
 refine A4 ?_
 kpf_c
 refine sc.talk ⟨nb rfl, ?_⟩
 refine Al (fun R hR => ?_) (Ac hk)
 kpf_c
 exact ⟨fun e => absurd e #[], fun ω => hR⟩
theorem KC {st dir num sst : Nat} {x y : Option D} (hn : 46 < n) (sc : SC σ s p (.ref tk) st dir) (tt : TK σ tk num sst o r) (R : Bool → Sto → Prop) (hR : R ((sst &&& Hf src dir) == 0) σ) :
  wpT (Ab rows n) (.bop .Or #[.cmp .Is (.loc 2) (.cst .none),.cmp .Eq (.bin .BitAnd (.attr (.loc 2) (Z "status")) (.call 46 #[.loc 1,.attr (.loc 0) (Z "is_reply")])) {0}]) [some (.ref s), some (.str (mS src)), some (.ref tk), x, y] σ R := by
 kpf_c
 refine ⟨fun ω => tt.status (sc.is_reply (JI hn ?_)), fun e => absurd (show false = true from e) Bool.false_ne_true⟩
 rw [Nz, CS, FT, show (((sst &&& Hf src dir : Nat) : Int) == 0) = ((sst &&& Hf src dir) == 0) from Ax _ 0]
 cases hb : (sst &&& Hf src dir) == 0 with
 | true => rw [hb] at hR; exact ⟨fun e => absurd e #[], fun ω => hR⟩
 | false => rw [hb] at hR; exact ⟨fun ω => hR, fun e => absurd e #[]⟩
theorem Cw (h : 49 < n) {st dir num sst : Nat} (sc : SC σ s p (.ref tk) st dir) (tt : TK σ tk num sst o r) (hb : sst &&& Hf src dir = 0) (hk : K .none σ) : Ab rows n 49 [.ref s, .str (mS src)] σ K := by
 refine Am (ρ := [some (.ref s), some (.str (mS src)), none, none, none]) Bq (by assumption) rfl rfl rfl rfl (by kernel_rfl) ?_; unfold Bq
 refine A4 ?_
 kpf_c
 refine sc.talk ⟨nb rfl, ?_⟩
 exact Al (fun R hR => KC #[] sc tt R (by rw [hb]; exact hR)) (Ac hk)
theorem DZ (h : 49 < n) {s p a tk : Addr} {st dir num sst kd l4 off : Nat} {d d1 : List UInt8} (sc : SC σ s p (.ref tk) st dir) (tt : TK σ tk num sst o r) (pk : PK σ p a kd l4 off d) (hv : V kd l4 off d) (ok : okL kd l4 off d) (hdir : dir = 0 ∨ dir = 1) (hb : sst &&& Hf src dir ≠ 0)
  (S : T6) (hS : An o r (1 - dir) = S) (hn : S.nf = Ag kd) (hT : okT S) (hiS : okInv S) (hTi : okT (inv S)) (hni : (inv S).nf = Ag kd)
  (h1 : (FL kd l4 off d = false ∧ d1 = d) ∨ (FL kd l4 off d = true ∧ ∃ ipr ioff, EP kd l4 off ipr ioff d ∧ d1 = riF kd l4 off ipr ioff d S (!src))) (hv1 : V kd l4 off d1) (ok1 : okL kd l4 off d1)
  (hk : ∀ σ', Upd σ a (.barr (Bc kd l4 off d1 (inv S) src)) σ' → K .none σ') : Ab rows n 49 [.ref s, .str (mS src)] σ K := by
 refine Am (ρ := [some (.ref s), some (.str (mS src)), none, none, none]) Bq (by assumption) rfl rfl rfl rfl (by kernel_rfl) ?_; unfold Bq
 refine A4 ?_
 kpf_c
 refine sc.talk ⟨nb rfl, ?_⟩
 refine Ad (fun R hR => KC #[] sc tt R ?_) (A1 (A4 ?_))
 ·rw [beq_false_of_ne hb]; exact hR
 kpf_c
 refine sc.is_reply ?_
 rw [ET, show (1 : Int) - (dir : Int) = ((1 - dir : Nat) : Int) from hdir.elim (fun e => by rw [e]; rfl) fun e => by rw [e]; rfl]
 refine Fv #[] tt ⟨nb rfl, ?_⟩
 rw [hS]
 have fin : ∀ σ₁, Upd σ a (.barr d1) σ₁ → Ak (Ab rows 49) #[.asg (.loc 4) (.call 36 #[.loc 3]),.cond (.cmp .IsNot (.loc 4) (.cst .none)) #[.expr (.call 45 #[.attr (.loc 0) (Z "packet"),.loc 4,.loc 1])] .nil] [some (.ref s), some (.str (mS src)), some (.ref tk), some (tD S), none] σ₁ (Bh K) := by
  intro σ₁ u1
  have sc1 := sc.upd pk.buf u1
  have pk1 := pk.upd u1
  refine A4 ?_
  kpf_c
  refine GA #[] hiS ⟨nb rfl, ?_⟩
  refine Al (fun R hR => ?_) (BC ?_)
  ·kpf_c; exact hR
  kpf_c
  exact sc1.packet (Fw #[] pk1 hv1 ok1 hni hTi fun σ₂ u2 => ⟨rfl, A1 (AR (hk _ (u1.trans u2)))⟩)
 rcases h1 with ⟨he, rfl⟩ | ⟨he, ipr, ioff, ep, rfl⟩
 ·refine Ad (fun R hR => ?_) (A1 (fin _ (Upd.same (.refl σ) pk.buf)))
  kpf_c
  refine sc.packet (Bo #[] pk hv ok ?_)
  rw [he]; exact ⟨_, rfl, hR⟩
 ·refine Al (fun R hR => ?_) (BC ?_)
  ·kpf_c
   refine sc.packet (Bo #[] pk hv ok ?_)
   rw [he]; exact ⟨_, rfl, hR⟩
  show wpE _ (.call 48 _) _ _ _
  refine KA (Ew (OR (Kz rfl (sc.packet (Ew (Kz rfl (Ew ?_)))))))
  have go : Ab rows 49 48 [.ref p, tD S, .str (mS (!src))] σ fun d σ' => d = .none ∧ Ak (Ab rows 49) .nil [some (.ref s), some (.str (mS src)), some (.ref tk), some (tD S), none] σ' (G9 (Ab rows 49) #[.asg (.loc 4) (.call 36 #[.loc 3]),.cond (.cmp .IsNot (.loc 4) (.cst .none)) #[.expr (.call 45 #[.attr (.loc 0) (Z "packet"),.loc 4,.loc 1])] .nil] (Bh K)) := EV #[] pk ep hn hT fun σ₁ u1 => ⟨rfl, A1 (fin _ u1)⟩
  cases src with
  | true =>
   refine Au (fun R hR => ?_) go
   kpf_c; rw [CN]; exact hR
  | false =>
   refine Av (fun R hR => ?_) go
   kpf_c; rw [CN]; exact hR
end
section
variable {k : Nat}
theorem Kh {α : Type} {l : List α} {i : Nat} (x : α) (h : i < l.length) : l.getD i x = l[i] := by rw [List.getD_eq_getElem?_getD, List.getElem?_eq_getElem h]; rfl
noncomputable def dig (ns : List Int) (k : Nat) : Int := ns.getD k 0
theorem AH (h : 51 < n) {ns : List Int} (hl : ns.length ≤ 1000) (hk0 : k ≤ 1000) (hk : K (.int (dig ns k)) σ) : Ab rows n 51 [.lst (ns.map .int), .int k] σ K := by
 refine Am (ρ := [some (.lst (ns.map .int)), some (.int k)]) DM (by assumption) rfl rfl rfl rfl (by kernel_rfl) ?_; unfold DM
 refine Ac ?_
 have hll : (ns.map D.int).length = ns.length := List.length_map ..
 by_cases hc : k < ns.length
 ·refine Au (fun R hR => ?_) ?_
  ·kpf_c
   refine Cf (by rw [hll]; lia) ?_
   rw [LC, hll, show decide ((k : Int) < (ns.length : Int)) = true by simp only [decide_eq_true_eq]; lia]; exact hR
  kpf_c
  refine ⟨.int (dig ns k), ?_, by lia, hk⟩
  unfold BX
  rw [if_pos (by lia), if_pos (by rw [hll]; lia), Int.toNat_natCast]
  show (ns.map D.int)[k]? = _
  rw [List.getElem?_map, List.getElem?_eq_getElem hc]
  unfold dig
  rw [Kh _ hc]; rfl
 ·refine Av (fun R hR => ?_) ?_
  ·kpf_c
   refine Cf (by rw [hll]; lia) ?_
   rw [LC, hll, show decide ((k : Int) < (ns.length : Int)) = false by simp only [decide_eq_false_iff_not]; lia]; exact hR
  kpf_c
  have : dig ns k = 0 := by unfold dig; rw [List.getD_eq_getElem?_getD, List.getElem?_eq_none (by lia)]; rfl
  rw [this] at hk; exact hk
noncomputable def K5 (v : Int) (k : Nat) : List UInt8 := (List.range k).map fun i => ((v.fdiv ((256 ^ (k - 1 - i) : Nat) : Int)).fmod 256).toNat.toUInt8
theorem GL (v : Int) (k : Nat) : (K5 v k).length = k := by simp [K5]
theorem Pr (v k : Nat) : K5 v k = oct v k := by
 unfold K5 oct
 refine List.map_congr_left fun i ω => ?_
 rw [Ck, show (256 : Int) = ((256 : Nat) : Int) from rfl, Cj, Int.toNat_natCast]
theorem B0 (h : n < 256) : n.toUInt8.toNat = n := by
 simp [Nat.toUInt8, UInt8.toNat_ofNat']
 lia
theorem MF (a : Int) : 0 ≤ a.fmod 256 ∧ a.fmod 256 < 256 := ⟨Int.fmod_nonneg_of_pos _ #[], Int.fmod_lt_of_pos _ #[]⟩
theorem Jb (h : 52 < n) {v : Int} (hz : k ≤ 100) (hk : K (.lst (A6 (K5 v k))) σ) : Ab rows n 52 [.int v, .int k] σ K := by
 refine Am (ρ := [some (.int v), some (.int k), none]) Dc (by assumption) rfl rfl rfl rfl (by kernel_rfl) ?_; unfold Dc
 refine Ac ?_
 kpf_c
 refine ⟨B5 k (by lia), (List.range k).map fun (i : Nat) => D.int (i : Int), ?_, ?_⟩
 ·show (if Builtin.Range.small 0 k 1 then some ((B1 0 k 1).map D.int) else none) = _
  rw [B5 k (by lia), Ci]
  simp
 refine Do (f := fun d => match d with | .int i => .int (((v.fdiv ((256 ^ (k - 1 - i.toNat) : Nat) : Int)).fmod 256).toNat.toUInt8.toNat : Int) | d => d) _ [] (fun x hx K' hk' => ?_) (by simp; lia) ?_
 ·(refine Af (List.mem_map.mp hx) fun i hi zq1 => ?_; subst zq1)
  have hi := List.mem_range.mp hi
  intro p o _
  rw [Fr]
  refine ⟨rfl, fun ω => ?_, fun e => absurd e #[]⟩
  show Be .Sub (.int k) (.int 1) fun a => Be .Sub a (.int i) fun b => Be .Pow (.int 256) b fun c => Be .FloorDiv (.int v) c fun e => Be .Mod e (.int 256) fun r => _
  rw [ET, ET, SX, LI, DR]
  have e : ((k : Int) - 1 - (i : Int)) = ((k - 1 - i : Nat) : Int) := Se (by assumption)
  rw [e, Int.toNat_natCast]
  have e2 : ((256 : Int) ^ (k - 1 - i)) = ((256 ^ (k - 1 - i) : Nat) : Int) := by norm_cast
  rw [e2]
  have hpos : 0 < 256 ^ (k - 1 - i) := Nat.pow_pos #[]
  have hlt : 256 ^ (k - 1 - i) < 2 ^ 1000 := Pv (k := k - 1 - i + 1) (Nat.pow_lt_pow_right #[] (by lia)) (by lia)
  refine ⟨⟨#[], #[], by lia, by lia⟩, ⟨by lia, by rw [Int.natAbs_natCast]; exact hlt⟩, #[], rfl, ?_⟩
  dsimp only at hk'
  have hr := MF (v.fdiv ((256 ^ (k - 1 - i) : Nat) : Int))
  rw [Int.toNat_natCast, B0 (by lia), Int.toNat_of_nonneg hr.1] at hk'
  exact hk'
 ·have : [] ++ ((List.range k).map fun (i : Nat) => D.int (i : Int)).map (fun d => match d with | .int i => D.int (((v.fdiv ((256 ^ (k - 1 - i.toNat) : Nat) : Int)).fmod 256).toNat.toUInt8.toNat : Int) | d => d) = A6 (K5 v k) := by
   unfold A6 K5
   rw [List.nil_append, List.map_map, List.map_map]
   rfl
  rw [this]; exact hk
theorem AC (h : 52 < n) {v k : Nat} (hz : k ≤ 100) (hk : K (.lst (A6 (oct v k))) σ) : Ab rows n 52 [.int v, .int k] σ K := Jb h hz (by rw [Pr]; exact hk)
noncomputable def wp : Bool → List UInt8 → Nat
 | _, [] => 0
 | e, u :: r => (if e then u.toNat * 256 else u.toNat) + wp (!e) r
noncomputable def ws (l : List UInt8) : Nat := wp true l
theorem Rt (l : List UInt8) : ∀ k : Nat, ((List.range l.length).map fun i => ((l.getD i 0).toNat * (if (i + k) % 2 = 0 then 256 else 1))).sum = wp (decide (k % 2 = 0)) l := by
 induction l with
 | nil => intro k; rfl
 | cons u r ih =>
  intro k
  rw [List.length_cons, List.range_succ_eq_map, List.map_cons, List.sum_cons, List.map_map]
  have := ih (k + 1)
  have e : ((fun i => ((u :: r).getD i 0).toNat * (if (i + k) % 2 = 0 then 256 else 1)) ∘ Nat.succ) = fun i => (r.getD i 0).toNat * (if (i + (k + 1)) % 2 = 0 then 256 else 1) := by
   funext i
   show ((u :: r).getD (i + 1) 0).toNat * (if (i + 1 + k) % 2 = 0 then 256 else 1) = _
   rw [List.getD_cons_succ, show i + 1 + k = i + (k + 1) by lia]
  rw [e, this]
  show u.toNat * (if (0 + k) % 2 = 0 then 256 else 1) + _ = (if decide (k % 2 = 0) then u.toNat * 256 else u.toNat) + wp (!decide (k % 2 = 0)) r
  rw [Nat.zero_add]
  by_cases hk : k % 2 = 0
  ·rw [if_pos hk, decide_eq_true hk, if_pos rfl, decide_eq_false (show ¬ (k + 1) % 2 = 0 by lia)]; rfl
  ·rw [if_neg hk, decide_eq_false hk, if_neg #[], decide_eq_true (show (k + 1) % 2 = 0 by lia), Nat.mul_one]; rfl
theorem OU (l : List Nat) : ((l.map fun (n : Nat) => (n : Int)).sum) = ((l.sum : Nat) : Int) := by
 induction l with
 | nil => rfl
 | cons a l ih => rw [List.map_cons, List.sum_cons, List.sum_cons, ih]; lia
theorem Eb {l : List D} {d : D} {K : D → Prop} (i : Nat) (h : l[i]? = some d) (hi : i < 1000000) (k : K d) : Kg σ (.lst l) (.int (i : Int)) K := by
 refine ⟨d, ?_, by lia, k⟩
 have hlt : i < l.length := (List.getElem?_eq_some_iff.mp h).1
 unfold BX
 rw [if_pos (by lia), if_pos (by lia)]
 simpa using h
theorem S4 (l : List D) (σ : Sto) (K : B9) : Fa .sum [.lst l] σ K = ∃ (ns : List Int), l = ns.map D.int ∧ K (.int ns.sum) σ := rfl
theorem LX (h : 53 < n) {l : List UInt8} (hl : l.length ≤ 10000) (hk : K (.int ((65535 - Bm (ws l) : Nat) : Int)) σ) : Ab rows n 53 [.lst (A6 l)] σ K := by
 refine Am (ρ := [some (.lst (A6 l)), none, none]) DN (by assumption) rfl rfl rfl rfl (by kernel_rfl) ?_; unfold DN
 have hil : (A6 l).length = l.length := List.length_map ..
 refine A4 ?_
 kpf_c
 refine Cf (by lia) ?_
 rw [hil, S5]
 refine ⟨B5 _ (by lia), (List.range l.length).map fun (i : Nat) => D.int (i : Int), ?_, ?_⟩
 ·show (if Builtin.Range.small 0 (l.length : Int) 1 then some ((B1 0 (l.length : Int) 1).map D.int) else none) = _
  rw [B5 _ (by lia), Ci]
  simp
 refine Do (f := fun d => match d with | .int i => .int (((l.getD i.toNat 0).toNat * (if (i.toNat + 0) % 2 = 0 then 256 else 1) : Nat) : Int) | d => d) _ [] (fun x hx K' hk' => ?_) (by simp; lia) ?_
 ·(refine Af (List.mem_map.mp hx) fun i hi zq1 => ?_; subst zq1)
  have hi := List.mem_range.mp hi
  intro p o _
  rw [Fr]
  refine ⟨rfl, fun ω => ?_, fun e => absurd e #[]⟩
  show Kg _ (.lst (A6 l)) (.int (i : Int)) _
  refine Eb (d := .int l[i].toNat) i ?_ (by lia) ?_
  ·unfold A6; rw [List.getElem?_map, List.getElem?_eq_getElem hi]; rfl
  dsimp only at hk'
  rw [Int.toNat_natCast, Kh _ hi, Nat.add_zero] at hk'
  have em : ((i : Int).fmod 2 == 0) = decide (i % 2 = 0) := by
   rw [show (2 : Int) = ((2 : Nat) : Int) from rfl, Cj]; exact Bp _ 0
  rw [DR]
  refine ⟨#[], ?_⟩
  rw [FT, em]
  by_cases hp : i % 2 = 0
  ·rw [if_pos hp] at hk'
   rw [decide_eq_true hp]
   refine ⟨fun ω => ?_, fun e => absurd e #[]⟩
   rw [JA]
   exact ⟨.inr #[], rfl, by norm_cast at hk' ⊢⟩
  ·rw [if_neg hp] at hk'
   rw [decide_eq_false hp]
   refine ⟨fun e => absurd e #[], fun ω => ?_⟩
   rw [JA]
   exact ⟨.inr #[], rfl, by norm_cast at hk' ⊢⟩
 rw [S4]
 refine ⟨((List.range l.length).map fun i => ((l.getD i 0).toNat * (if (i + 0) % 2 = 0 then 256 else 1))).map fun (n : Nat) => (n : Int), ?_, nb rfl, ?_⟩
 ·rw [List.nil_append, List.map_map, List.map_map, List.map_map]; rfl
 rw [OU, Rt]
 show Ak _ _ [some (.lst (A6 l)), some (.int ((ws l : Nat) : Int)), none] _ _
 generalize ws l = t at *
 refine Ac ?_
 unfold Bm at hk
 by_cases h0 : t = 0
 ·rw [if_pos h0] at hk
  show wpE _ (.ite _ _ _) _ _ _
  refine Au (fun R hR => ?_) ?_
  ·kpf_c; rw [h0]; exact hR
  ·exact hk
 ·rw [if_neg h0] at hk
  show wpE _ (.ite _ _ _) _ _ _
  refine Av (fun R hR => ?_) ?_
  ·kpf_c; rw [show ((t : Int) == 0) = false from (Ax t 0).trans (beq_false_of_ne h0)]; exact hR
  ·kpf_c
   refine ⟨#[], ?_⟩
   rw [show (t : Int) - 1 = ((t - 1 : Nat) : Int) by lia, show (65535 : Int) = ((65535 : Nat) : Int) from rfl, Cj]
   have : (((65535 : Nat) : Int) - (((t - 1) % 65535 : Nat) : Int) - 1) = ((65535 - ((t - 1) % 65535 + 1) : Nat) : Int) := by lia
   rw [show (((65535 : Nat) : Int) - ((((t - 1) % 65535 : Nat) : Int) + 1)) = ((65535 - ((t - 1) % 65535 + 1) : Nat) : Int) by lia]
   exact hk
end
section
variable {l : List UInt8}
theorem cat {a b : List UInt8} {K : D → Prop} (h : a.length + b.length ≤ 1000000) (k : K (.lst (A6 (a ++ b)))) : Be .Add (.lst (A6 a)) (.lst (A6 b)) K := by
 rw [SY]
 refine ⟨by simpa [A6] using h, ?_⟩
 unfold A6 at k ⊢
 rw [← List.map_append]; exact k
theorem Ij (l : List UInt8) (i j : Nat) : cut (A6 l) i j = A6 (cut l i j) := by
 unfold cut A6; rw [List.map_take, List.map_drop]
theorem AA (l : List UInt8) : (A6 l).length = l.length := List.length_map ..
theorem Sh (hl : l.length ≤ 1000000) (i j : Nat) (hi : i ≤ 1000000) (hj : j ≤ 1000000) (h : K (.lst (A6 (cut l i j))) σ) : JM σ (.lst (A6 l)) (.int (i : Int)) (.int (j : Int)) K :=
 ⟨_, _, by rw [AA]; exact hl, Cd _ _ hi, Cl _ _ hj, by rw [EA, Ij]; exact h⟩
theorem Nf (hl : l.length ≤ 1000000) (j : Nat) (hj : j ≤ 1000000) (h : K (.lst (A6 (l.take j))) σ) : JM σ (.lst (A6 l)) .none (.int (j : Int)) K :=
 ⟨0, _, by rw [AA]; exact hl, rfl, Cl _ _ hj, by
  have e : cut (A6 l) 0 (min j (A6 l).length) = A6 (l.take j) := by
   have := EA (A6 l) 0 j
   rw [Nat.zero_min] at this
   rw [this, Ij]
   unfold cut; rw [List.drop_zero, Nat.sub_zero]
  rw [e]; exact h⟩
theorem P5 (hl : l.length ≤ 1000000) (i : Nat) (hi : i ≤ 1000000) (h : K (.lst (A6 (l.drop i))) σ) : JM σ (.lst (A6 l)) (.int (i : Int)) .none K :=
 ⟨_, _, by rw [AA]; exact hl, Cd _ _ hi, rfl, by
  have e : cut (A6 l) (min i (A6 l).length) (A6 l).length = A6 (l.drop i) := by
   have := EA (A6 l) i (A6 l).length
   rw [Nat.min_self] at this
   rw [this, Ij]
   unfold cut; rw [AA, List.take_of_length_le (by simp)]
  rw [e]; exact h⟩
noncomputable def Cn (l : List UInt8) (pl : Nat) (ah : List UInt8) : List UInt8 := A7 l pl (oct (65535 - Bm (ws (ah ++ l))) 2)
theorem CW (h : 54 < n) {l ah : List UInt8} {pl : Nat} (hl : l.length ≤ 1000) (ha : ah.length ≤ 1000) (hp : pl ≤ 1000) (hk : K (.lst (A6 (Cn l pl ah))) σ) : Ab rows n 54 [.lst (A6 l), .int pl, .lst (A6 ah)] σ K := by
 refine Am (ρ := [some (.lst (A6 l)), some (.int pl), some (.lst (A6 ah)), none]) D9 (by assumption) rfl rfl rfl rfl (by kernel_rfl) ?_; unfold D9
 refine A4 ?_
 kpf_c
 refine ⟨by rw [AA, AA]; lia, ?_⟩
 rw [show A6 ah ++ A6 l = A6 (ah ++ l) by unfold A6; rw [List.map_append]]
 refine LX #[] (by rw [List.length_append]; lia) ⟨nb rfl, Ac ?_⟩
 unfold Cn A7 at hk
 rw [A2] at hk
 generalize 65535 - Bm (ws (ah ++ l)) = c at *
 kpf_c
 refine Nf (by lia) pl (by lia) (AC #[] (k := 2) #[] ?_)
 refine cat (by rw [List.length_take, A2]; lia) ?_
 rw [show (pl : Int) + 2 = ((pl + 2 : Nat) : Int) from rfl]
 refine P5 (by lia) (pl + 2) (by lia) ?_
 refine cat (by rw [List.length_append, List.length_take, A2, List.length_drop]; exact Nat.le_trans (Nat.add_le_add (Nat.add_le_add (Nat.le_trans (Nat.min_le_right _ _) hl) (Nat.le_refl 2)) (Nat.le_trans (Nat.sub_le _ _) hl)) #[]) hk
noncomputable def u8 (n : Nat) : UInt8 := n.toUInt8
theorem G3 (h : n < 256) : ((u8 n).toNat : Int) = (n : Int) := by unfold u8; rw [B0 h]
noncomputable def BW (nf sa da pr many : Nat) : List UInt8 := oct sa (zOf nf) ++ oct da (zOf nf) ++ [0, 0, 0, u8 pr] ++ oct many 4
theorem OO (nf : Nat) : zOf nf ≤ 16 := by unfold zOf; split <;> decide
theorem EM (nf sa da pr many : Nat) : (BW nf sa da pr many).length = zOf nf + zOf nf + 8 := by
 unfold BW; simp [A2]; lia
theorem Gz (h : 55 < n) {nf sa da pr many : Nat} (hn : nf = 2 ∨ nf = 10) (hp : pr < 256) (hk : K (.lst (A6 (BW nf sa da pr many))) σ) : Ab rows n 55 [.int nf, .int sa, .int da, .int pr, .int many] σ K := by
 refine Am (ρ := [some (.int nf), some (.int sa), some (.int da), some (.int pr), some (.int many), none]) Da (by assumption) rfl rfl rfl rfl (by kernel_rfl) ?_; unfold Da
 refine A4 ?_
 have tail : Ak (Ab rows 55) #[.ret (.bin .Add (.bin .Add (.bin .Add (.call 52 #[.loc 1,.loc 5]) (.call 52 #[.loc 2,.loc 5])) (.lst #[{0},{0},{0},.loc 3])) (.call 52 #[.loc 4,{4}]))] [some (.int nf), some (.int sa), some (.int da), some (.int pr), some (.int many), some (.int (zOf nf))] σ (Bh K) := by
  have hz := OO nf
  refine Ac ?_
  kpf_c
  refine AC #[] (by lia) (AC #[] (by lia) ?_)
  refine cat (by rw [A2, A2]; lia) ?_
  refine ⟨nb rfl, ?_⟩
  rw [show ([.int 0, .int 0, .int 0, .int (pr : Int)] : List D) = A6 [0, 0, 0, u8 pr] by unfold A6; rw [List.map_cons, List.map_cons, List.map_cons, List.map_cons, G3 hp]; rfl]
  refine cat (by rw [List.length_append, A2, A2]; simp; lia) ?_
  refine AC #[] (k := 4) #[] ?_
  exact cat (by simp [A2]; lia) hk
 rcases hn with rfl | rfl
 ·refine Au (fun R hR => ?_) ?_
  ·kpf_c; exact hR
  ·kpf_c; exact ⟨nb rfl, tail⟩
 ·refine Av (fun R hR => ?_) ?_
  ·kpf_c; exact hR
  ·kpf_c; exact ⟨nb rfl, tail⟩
noncomputable def Dl (sa da pr len ex : Nat) : List UInt8 := [u8 (69 + ex), 0] ++ oct (20 + 4 * ex + len) 2 ++ [18, 52, 64, 0, 63, u8 pr, 0, 0] ++ oct sa 4 ++ oct da 4 ++ List.replicate (4 * ex) 1
noncomputable def EN (pr ex : Nat) : List UInt8 := if ex = 0 then [] else [u8 pr, 0, 1, 4, 0, 0, 0, 0]
noncomputable def GS (sa da pr len ex : Nat) : List UInt8 := [96, 0, 0, 9] ++ oct ((EN pr ex).length + len) 2 ++ [u8 (if ex = 0 then pr else 60), 63] ++ oct sa 16 ++ oct da 16 ++ EN pr ex
noncomputable def Cb (nf sa da pr : Nat) (data : List UInt8) (ex : Nat) : List UInt8 := if nf = 2 then Cn (Dl sa da pr data.length ex) 10 [] ++ data else GS sa da pr data.length ex ++ data
theorem P9 (n : Nat) : (List.replicate n [D.int 1]).flatten = A6 (List.replicate n 1) := by
 unfold A6
 induction n with
 | zero => rfl
 | succ n ih => rw [List.replicate_succ, List.flatten_cons, ih, List.replicate_succ, List.map_cons]; rfl
theorem CD (sa da pr len ex : Nat) : (Dl sa da pr len ex).length = 20 + 4 * ex := by unfold Dl; simp [A2]; lia
theorem K8 (pr ex : Nat) : (EN pr ex).length ≤ 8 := by unfold EN; split <;> simp
theorem Bx {l ah : List UInt8} {pl : Nat} (h : pl + 2 ≤ l.length) : (Cn l pl ah).length = l.length := AU (by rw [A2]; exact h)
theorem CX (h : 56 < n) {nf sa da pr ex : Nat} {data : List UInt8} (hn : nf = 2 ∨ nf = 10) (hp : pr < 256) (he : ex ≤ 2) (hd : data.length ≤ 900) (hk : K (.lst (A6 (Cb nf sa da pr data ex))) σ) : Ab rows n 56 [.int nf, .int sa, .int da, .int pr, .lst (A6 data), .int ex] σ K := by
 refine Am (ρ := [some (.int nf), some (.int sa), some (.int da), some (.int pr), some (.lst (A6 data)), some (.int ex), none, none]) Db (by assumption) rfl rfl rfl rfl (by kernel_rfl) ?_; unfold Db
 have il := AA data
 unfold Cb at hk
 rcases hn with rfl | rfl
 ·rw [if_pos rfl] at hk
  refine Al (fun R hR => ?_) (A4 ?_)
  ·kpf_c; exact hR
  kpf_c
  refine ⟨nb rfl, .inl #[], Cf (by lia) ?_⟩
  rw [il, B2, show (20 : Int) + 4 * (ex : Int) + (data.length : Int) = ((20 + 4 * ex + data.length : Nat) : Int) from rfl]
  refine AC #[] (k := 2) #[] ?_
  rw [show ([.int (69 + (ex : Int)), .int 0] : List D) = A6 [u8 (69 + ex), 0] by unfold A6; rw [List.map_cons, G3 (by lia)]; show _ = [D.int ((69 + ex : Nat) : Int), .int 0]; rw [show ((69 + ex : Nat) : Int) = 69 + (ex : Int) by lia]]
  refine cat (by rw [A2]; exact nb rfl) ⟨nb rfl, ?_⟩
  rw [show ([.int 18, .int 52, .int 64, .int 0, .int 63, .int (pr : Int), .int 0, .int 0] : List D) = A6 [18, 52, 64, 0, 63, u8 pr, 0, 0] by unfold A6; simp only [List.map_cons, List.map_nil, G3 hp]; rfl]
  refine cat (by simp [A2]) ⟨nb rfl, A4 ?_⟩
  kpf_c
  refine AC #[] (k := 4) #[] (cat (by simp [A2]) (AC #[] (k := 4) #[] (cat (by simp [A2]) ?_)))
  refine ⟨#[], .inl #[], ⟨by lia, by lia, #[]⟩, ?_⟩
  rw [show ((4 : Int) * (ex : Int)).toNat = 4 * ex by lia, P9]
  refine cat (by simp [A2]; lia) ⟨nb rfl, Ac ?_⟩
  kpf_c
  have hl := CD sa da pr data.length ex
  refine ⟨#[], ?_⟩
  show Ab _ _ _ [.lst (A6 (Dl sa da pr data.length ex)), .int 10, .lst (A6 [])] _ _
  refine CW #[] (pl := 10) (by lia) #[] #[] (cat ?_ hk)
  rw [Bx (by lia)]; lia
 ·rw [if_neg #[]] at hk
  refine Ad (fun R hR => ?_) (A1 (A4 ?_))
  ·kpf_c; exact hR
  have ml := K8 pr ex
  have m1 : ∀ Q : D → Sto → Prop, Q (.lst (A6 (EN pr ex))) σ → wpE (Ab rows 56) (.ite (.cmp .Gt (.loc 5) {0}) (.lst #[.loc 3,{0},{1},{4},{0},{0},{0},{0}]) (.lst .nil)) [some (.int 10), some (.int sa), some (.int da), some (.int pr), some (.lst (A6 data)), some (.int ex), none, none] σ Q := by
   intro Q hQ
   unfold EN at hQ
   by_cases h0 : ex = 0
   ·rw [if_pos h0] at hQ
    refine Av (fun R hR => ?_) ?_
    ·kpf_c; rw [show decide ((0 : Int) < (ex : Int)) = false by simp only [decide_eq_false_iff_not]; lia]; exact hR
    ·kpf_c; exact ⟨#[], hQ⟩
   ·rw [if_neg h0] at hQ
    refine Au (fun R hR => ?_) ?_
    ·kpf_c; rw [show decide ((0 : Int) < (ex : Int)) = true by simp only [decide_eq_true_eq]; lia]; exact hR
    ·kpf_c
     rw [show ([.int (pr : Int), .int 0, .int 1, .int 4, .int 0, .int 0, .int 0, .int 0] : List D) = A6 [u8 pr, 0, 1, 4, 0, 0, 0, 0] by unfold A6; simp only [List.map_cons, List.map_nil, G3 hp]; rfl]
     exact ⟨nb rfl, hQ⟩
  refine m1 _ ⟨nb rfl, A4 ?_⟩
  have iml := AA (EN pr ex)
  have m2 : ∀ Q : D → Sto → Prop, Q (.lst (A6 [u8 (if ex = 0 then pr else 60), 63])) σ → wpE (Ab rows 56) (.lst #[.ite (.cmp .Gt (.loc 5) {0}) {60} (.loc 3),{63}]) [some (.int 10), some (.int sa), some (.int da), some (.int pr), some (.lst (A6 data)), some (.int ex), none, some (.lst (A6 (EN pr ex)))] σ Q := by
   intro Q hQ
   kpf_c
   by_cases h0 : ex = 0
   ·rw [if_pos h0] at hQ
    rw [show decide ((0 : Int) < (ex : Int)) = false by simp only [decide_eq_false_iff_not]; lia]
    refine ⟨fun e => absurd e #[], fun ω => ⟨nb rfl, ?_⟩⟩
    unfold A6 at hQ; rw [List.map_cons, G3 hp] at hQ; exact hQ
   ·rw [if_neg h0] at hQ
    rw [show decide ((0 : Int) < (ex : Int)) = true by simp only [decide_eq_true_eq]; lia]
    exact ⟨fun ω => ⟨nb rfl, hQ⟩, fun e => absurd e #[]⟩
  generalize hE : (PE.lst #[.ite (.cmp .Gt (.loc 5) {0}) {60} (.loc 3),{63}]) = E2 at *
  kpf_c
  refine ⟨nb rfl, Cf (by lia) (Cf (by lia) ?_)⟩
  rw [il, iml, B2, show ((EN pr ex).length : Int) + (data.length : Int) = (((EN pr ex).length + data.length : Nat) : Int) from rfl]
  refine AC #[] (k := 2) #[] ?_
  rw [show ([.int 96, .int 0, .int 0, .int 9] : List D) = A6 [96, 0, 0, 9] from rfl]
  refine cat (by rw [A2]; exact nb rfl) ?_
  refine m2 _ ?_
  refine cat (by simp [A2]) ⟨nb rfl, Ac ?_⟩
  kpf_c
  refine AC #[] (k := 16) #[] (cat (by simp [A2]) (AC #[] (k := 16) #[] (cat (by simp [A2]) ?_)))
  refine cat (by simp [A2]; lia) (cat (by simp [A2]; lia) ?_)
  unfold GS at hk
  exact hk
end
noncomputable def l4z (t : T6) (data : List UInt8) : List UInt8 :=
 if t.pr = 1 ∨ t.pr = 58 then oct t.dp 2 ++ [0, 0] ++ oct t.sp 2 ++ [0, 1] ++ data
 else if t.pr = 17 then oct t.sp 2 ++ oct t.dp 2 ++ oct (8 + data.length) 2 ++ [0, 0] ++ data
 else if t.pr = 6 then oct t.sp 2 ++ oct t.dp 2 ++ [1, 2, 3, 4, 250, 6, 7, 8, 80, 24, 2, 0, 0, 0, 0, 0] ++ data
 else [0, 0, 8, 0, 7, 7, 7, 7] ++ data
noncomputable def FZ (t : T6) (n : Nat) : List UInt8 := if t.pr = 1 then [] else BW t.nf t.sa t.da t.pr n
noncomputable def G2 (pr : Nat) (o : List UInt8) : List UInt8 := if pr = 17 ∧ cut o 6 8 = [0, 0] then o.take 6 ++ [255, 255] ++ o.drop 8 else o
noncomputable def l4f (t : T6) (data : List UInt8) (bare : Bool) : List UInt8 := match C7 t.pr with
 | none => l4z t data
 | some pl => if bare then l4z t data else G2 t.pr (Cn (l4z t data) pl (FZ t (l4z t data).length))
noncomputable def Bj (t : T6) (data : List UInt8) (ex : Nat) (bare : Bool) : List UInt8 := Cb t.nf t.sa t.da t.pr (l4f t data bare) ex
theorem Mz (t : T6) (data : List UInt8) : (l4z t data).length ≤ 20 + data.length := by
 unfold l4z; split
 ·simp [A2]; lia
 split
 ·simp [A2]; lia
 split
 ·simp [A2]; lia
 ·simp; lia
theorem Lr (a b : List UInt8) : A6 a ++ A6 b = A6 (a ++ b) := by unfold A6; rw [List.map_append]
theorem Lp : ∀ {a b : List UInt8}, (a.map fun u => (u.toNat : Int)) = (b.map fun u => (u.toNat : Int)) → a = b
 | [], [], _ => rfl
 | [], _ :: _, e => by cases e
 | _ :: _, [], e => by cases e
 | x :: a, y :: b, e => by
  rw [List.map_cons, List.map_cons] at e
  refine oa2 (List.cons.inj e) fun h1 h2 => ?_
  rw [Lp h2, UInt8.toNat_inj.mp (show x.toNat = y.toNat by lia)]
theorem Lq (a b : List UInt8) : ((a.map fun u => (u.toNat : Int)) == (b.map fun u => (u.toNat : Int))) = decide (a = b) := by
 by_cases h : a = b
 ·subst h; simp
 ·rw [decide_eq_false h]
  apply beq_false_of_ne
  intro e
  apply h
  exact Lp e
theorem PP {a b : List UInt8} {K : Bool → Prop} (k : K (decide (a = b))) : Dp .Eq (.lst (A6 a)) (.lst (A6 b)) K := by
 refine ⟨a.map fun u => (u.toNat : Int), b.map fun u => (u.toNat : Int), by unfold A6; rw [List.map_map]; rfl, by unfold A6; rw [List.map_map]; rfl, ?_⟩
 rw [Lq]; exact k
theorem Ps {a b : List UInt8} {K : Bool → Prop} (k : K (!decide (a = b))) : Dp .NotEq (.lst (A6 a)) (.lst (A6 b)) K := by
 refine ⟨a.map fun u => (u.toNat : Int), b.map fun u => (u.toNat : Int), by unfold A6; rw [List.map_map]; rfl, by unfold A6; rw [List.map_map]; rfl, ?_⟩
 rw [Lq]; exact k
theorem Cc (p a b : Nat) : ([(a : Int), (b : Int)] : List Int).contains (p : Int) = decide (p = a ∨ p = b) := by
 simp only [List.contains_cons, List.contains_nil, Bool.or_false]
 rw [Bp, Bp]
 by_cases h1 : p = a <;> by_cases h2 : p = b <;> simp [h1, h2]
theorem Dx (h : 57 < n) {t : T6} {data : List UInt8} {ex : Nat} {bare : Bool} (hn : t.nf = 2 ∨ t.nf = 10) (hp : t.pr < 256) (he : ex ≤ 2) (hd : data.length ≤ 800) (hk : K (.lst (A6 (Bj t data ex bare))) σ) : Ab rows n 57 [tD t, .lst (A6 data), .int ex, .bool bare] σ K := by
 obtain ⟨nf, pr, sa, sp, da, dp⟩ := t
 dsimp only at hn hp
 have hzl := Mz ⟨nf, pr, sa, sp, da, dp⟩ data
 refine Am (ρ := [some (tD ⟨nf, pr, sa, sp, da, dp⟩), some (.lst (A6 data)), some (.int ex), some (.bool bare), none, none, none, none, none, none, none, none, none]) DI (by assumption) rfl rfl rfl rfl (by kernel_rfl) ?_; unfold DI
 refine A8 ?_
 kpf_c
 refine (tu6 rfl ?_)
 dsimp only [List.set_cons_zero, List.set_cons_succ]
 have il := AA data
 have last : ∀ (z : List UInt8) (x y : Option D), z.length ≤ 820 → z = l4f ⟨nf, pr, sa, sp, da, dp⟩ data bare → Ak (Ab rows 57) #[.ret (.call 56 #[.loc 4,.loc 6,.loc 8,.loc 5,.loc 10,.loc 2])] [some (tD ⟨nf, pr, sa, sp, da, dp⟩), some (.lst (A6 data)), some (.int ex), some (.bool bare), some (.int nf), some (.int pr), some (.int sa), some (.int sp), some (.int da), some (.int dp), some (.lst (A6 z)), x, y] σ (Bh K) := by
  intro z x y hz e
  refine Ac ?_
  kpf_c
  refine CX #[] hn hp he (by lia) ?_
  rw [e]; exact hk
 have tail : ∀ (pl : Nat), pl ≤ 100 → C7 pr = some pl → pl + 2 ≤ (l4z ⟨nf, pr, sa, sp, da, dp⟩ data).length → 8 ≤ (l4z ⟨nf, pr, sa, sp, da, dp⟩ data).length → Ak (Ab rows 57) #[.cond (.not (.loc 3)) #[.asg (.loc 12) (.ite (.cmp .Eq (.loc 5) {1}) (.lst .nil) (.call 55 #[.loc 4,.loc 6,.loc 8,.loc 5,.blt .len #[.loc 10]])),.asg (.loc 10) (.call 54 #[.loc 10,.loc 11,.loc 12]),.cond (.bop .And #[.cmp .Eq (.loc 5) {17},.cmp .Eq (.slc (.loc 10) {6} {8}) (.lst #[{0},{0}])]) #[.asg (.loc 10) (.bin .Add (.bin .Add (.slc (.loc 10) (.cst .none) {6}) (.lst #[{255},{255}])) (.slc (.loc 10) {8} (.cst .none)))] .nil] .nil,.ret (.call 56 #[.loc 4,.loc 6,.loc 8,.loc 5,.loc 10,.loc 2])] [some (tD ⟨nf, pr, sa, sp, da, dp⟩), some (.lst (A6 data)), some (.int ex), some (.bool bare), some (.int nf), some (.int pr), some (.int sa), some (.int sp), some (.int da), some (.int dp), some (.lst (A6 (l4z ⟨nf, pr, sa, sp, da, dp⟩ data))), some (.int pl), none] σ (Bh K) := by
  intro pl hpl hs hlen h8
  cases bare with
  | true =>
   refine Ad (fun R hR => ?_) (A1 (last _ _ _ (by lia) ?_))
   ·kpf_c; exact ⟨_, rfl, hR⟩
   ·unfold l4f; dsimp only; rw [hs]; rfl
  | false =>
   refine Al (fun R hR => ?_) (A4 ?_)
   ·kpf_c; exact ⟨_, rfl, hR⟩
   have hs1 : l4f ⟨nf, pr, sa, sp, da, dp⟩ data false = G2 pr (Cn (l4z ⟨nf, pr, sa, sp, da, dp⟩ data) pl (FZ ⟨nf, pr, sa, sp, da, dp⟩ (l4z ⟨nf, pr, sa, sp, da, dp⟩ data).length)) := by
    unfold l4f; dsimp only; rw [hs]; rfl
   rw [hs1] at last
   generalize l4z ⟨nf, pr, sa, sp, da, dp⟩ data = z at *
   have iz := AA z
   have ah : ∀ Q : D → Sto → Prop, Q (.lst (A6 (FZ ⟨nf, pr, sa, sp, da, dp⟩ z.length))) σ → wpE (Ab rows 57) (.ite (.cmp .Eq (.loc 5) {1}) (.lst .nil) (.call 55 #[.loc 4,.loc 6,.loc 8,.loc 5,.blt .len #[.loc 10]])) [some (tD ⟨nf, pr, sa, sp, da, dp⟩), some (.lst (A6 data)), some (.int ex), some (.bool false), some (.int nf), some (.int pr), some (.int sa), some (.int sp), some (.int da), some (.int dp), some (.lst (A6 z)), some (.int pl), none] σ Q := by
    intro Q hQ
    unfold FZ at hQ
    dsimp only at hQ
    by_cases h1 : pr = 1
    ·rw [if_pos h1] at hQ
     refine Au (fun R hR => ?_) ?_
     ·kpf_c; rw [show ((pr : Int) == 1) = true by rw [h1]; rfl]; exact hR
     ·kpf_c; exact ⟨#[], hQ⟩
    ·rw [if_neg h1] at hQ
     refine Av (fun R hR => ?_) ?_
     ·kpf_c; rw [show ((pr : Int) == 1) = false from (Ax pr 1).trans (beq_false_of_ne h1)]; exact hR
     ·kpf_c
      refine Cf (by lia) ?_
      rw [iz]
      exact Gz #[] hn hp hQ
   refine ah _ ⟨nb rfl, A4 ?_⟩
   kpf_c
   have hal : (FZ ⟨nf, pr, sa, sp, da, dp⟩ z.length).length ≤ 1000 := by
    unfold FZ; split
    ·decide
    ·rw [EM]; have := OO nf; dsimp only; lia
   refine CW #[] (by lia) hal (by lia) ⟨nb rfl, ?_⟩
   have hol : (Cn z pl (FZ ⟨nf, pr, sa, sp, da, dp⟩ z.length)).length = z.length := Bx hlen
   generalize Cn z pl (FZ ⟨nf, pr, sa, sp, da, dp⟩ z.length) = o at *
   by_cases h17 : pr = 17
   ·by_cases hc : cut o 6 8 = [0, 0]
    ·refine Al (fun R hR => ?_) (A4 ?_)
     ·kpf_c
      rw [show ((pr : Int) == 17) = true by rw [h17]; rfl]
      refine ⟨fun ω => Sh (by lia) 6 8 #[] #[] ⟨#[], ?_⟩, fun e => absurd e #[]⟩
      refine PP (a := cut o 6 8) (b := [0, 0]) ?_
      rw [decide_eq_true hc]
      exact ⟨fun ω => hR, fun e => absurd e #[]⟩
     kpf_c
     refine Nf (by lia) 6 #[] ⟨#[], ?_⟩
     refine cat (b := [255, 255]) (by simp; lia) ?_
     refine P5 (by lia) 8 #[] (cat (by simp; lia) ⟨nb rfl, A1 (A1 (last _ _ _ (by simp; lia) ?_))⟩)
     unfold G2; rw [if_pos ⟨h17, hc⟩]
    ·refine Ad (fun R hR => ?_) (A1 (A1 (last _ _ _ (by lia) ?_)))
     ·kpf_c
      rw [show ((pr : Int) == 17) = true by rw [h17]; rfl]
      refine ⟨fun ω => Sh (by lia) 6 8 #[] #[] ⟨#[], ?_⟩, fun e => absurd e #[]⟩
      refine PP (a := cut o 6 8) (b := [0, 0]) ?_
      rw [decide_eq_false hc]
      exact ⟨fun e => absurd e #[], fun ω => hR⟩
     ·unfold G2; rw [if_neg (fun c => hc c.2)]
   ·refine Ad (fun R hR => ?_) (A1 (A1 (last _ _ _ (by lia) ?_)))
    ·kpf_c
     rw [show ((pr : Int) == 17) = false from (Ax pr 17).trans (beq_false_of_ne h17)]
     exact ⟨fun e => absurd e #[], fun ω => hR⟩
    ·unfold G2; rw [if_neg (fun c => h17 c.1)]
 unfold l4z at tail hzl
 dsimp only at tail hzl
 by_cases h1 : pr = 1 ∨ pr = 58
 ·rw [if_pos h1] at tail
  refine Al (fun R hR => ?_) (A4 ?_)
  ·kpf_c
   refine ⟨#[], [1, 58], rfl, ?_⟩
   rw [show ([1, 58] : List Int).contains (pr : Int) = true from (Cc pr 1 58).trans (decide_eq_true h1)]; exact hR
  kpf_c
  refine AC #[] (k := 2) #[] ⟨#[], ?_⟩
  refine cat (b := [0, 0]) (by simp [A2] <;> lia) (AC #[] (k := 2) #[] (cat (by simp [A2] <;> lia) ⟨#[], ?_⟩))
  refine cat (b := [0, 1]) (by simp [A2] <;> lia) (cat (by simp [A2] <;> lia) ⟨nb rfl, A4 ?_⟩)
  kpf_c
  refine ⟨nb rfl, A1 (tail 2 #[] ?_ (by simp [A2] <;> lia) (by simp [A2] <;> lia))⟩
  rcases h1 with rfl | rfl <;> rfl
 rw [if_neg h1] at tail hzl
 refine Ad (fun R hR => ?_) ?_
 ·kpf_c
  refine ⟨#[], [1, 58], rfl, ?_⟩
  rw [show ([1, 58] : List Int).contains (pr : Int) = false from (Cc pr 1 58).trans (decide_eq_false h1)]; exact hR
 by_cases h17 : pr = 17
 ·rw [if_pos h17] at tail
  refine Al (fun R hR => ?_) (A4 ?_)
  ·kpf_c; rw [show ((pr : Int) == 17) = true by rw [h17]; rfl]; exact hR
  kpf_c
  refine AC #[] (k := 2) #[] (AC #[] (k := 2) #[] (cat (by simp [A2] <;> lia) (Cf (by lia) ?_)))
  rw [il, B2, show (8 : Int) + (data.length : Int) = ((8 + data.length : Nat) : Int) from rfl]
  refine AC #[] (k := 2) #[] (cat (by simp [A2] <;> lia) ⟨#[], ?_⟩)
  refine cat (b := [0, 0]) (by simp [A2] <;> lia) (cat (by simp [A2] <;> lia) ⟨nb rfl, A4 ?_⟩)
  kpf_c
  refine ⟨nb rfl, A1 (A1 (tail 6 #[] ?_ (by simp [A2] <;> lia) (by simp [A2] <;> lia)))⟩
  rw [h17]; rfl
 rw [if_neg h17] at tail
 refine Ad (fun R hR => ?_) ?_
 ·kpf_c; rw [show ((pr : Int) == 17) = false from (Ax pr 17).trans (beq_false_of_ne h17)]; exact hR
 by_cases h6 : pr = 6
 ·rw [if_pos h6] at tail
  refine Al (fun R hR => ?_) (A4 ?_)
  ·kpf_c; rw [show ((pr : Int) == 6) = true by rw [h6]; rfl]; exact hR
  kpf_c
  refine AC #[] (k := 2) #[] (AC #[] (k := 2) #[] (cat (by simp [A2] <;> lia) ⟨#[], ?_⟩))
  refine cat (b := [1, 2, 3, 4, 250, 6, 7, 8, 80, 24, 2, 0, 0, 0, 0, 0]) (by simp [A2] <;> lia) ⟨nb rfl, A4 ?_⟩
  kpf_c
  rw [Lr]
  refine ⟨by rw [AA, AA]; simp [A2] <;> lia, nb rfl, A4 ?_⟩
  kpf_c
  refine ⟨nb rfl, A1 (A1 (A1 (tail 16 #[] ?_ (by simp [A2] <;> lia) (by simp [A2] <;> lia))))⟩
  rw [h6]; rfl
 refine Ad (fun R hR => ?_) (Ac ?_)
 ·kpf_c; rw [show ((pr : Int) == 6) = false from (Ax pr 6).trans (beq_false_of_ne h6)]; exact hR
 kpf_c
 refine ⟨#[], ?_⟩
 rw [show ([.int 0, .int 0, .int 8, .int 0, .int 7, .int 7, .int 7, .int 7] : List D) = A6 [0, 0, 8, 0, 7, 7, 7, 7] from rfl]
 refine ⟨by simp [AA]; lia, ?_⟩
 rw [show A6 [0, 0, 8, 0, 7, 7, 7, 7] ++ A6 data = A6 ([0, 0, 8, 0, 7, 7, 7, 7] ++ data) by unfold A6; rw [List.map_append]]
 refine CX #[] hn hp he (by simp; lia) ?_
 have e : l4f ⟨nf, pr, sa, sp, da, dp⟩ data bare = [0, 0, 8, 0, 7, 7, 7, 7] ++ data := by
  unfold l4f l4z
  dsimp only
  rw [if_neg h1, if_neg h17, if_neg h6]
  have : C7 pr = none := by unfold C7; rw [if_neg h6, if_neg h17, if_neg h1]
  rw [this]
 unfold Bj at hk
 rw [e] at hk
 exact hk
section
variable {τ : Sto} {t : T6}
noncomputable def Aw (nf : Nat) : Nat := if nf = 2 then 1 else 58
noncomputable def Az (kind : Nat) (inner : List UInt8) : List UInt8 := [u8 kind, 1, 0, 0, 0, 0, 5, 220] ++ inner
noncomputable def Ib (nf sa da n : Nat) : List UInt8 := if nf = 2 then [] else BW nf sa da 58 n
noncomputable def AB (nf sa da kind : Nat) (inner : List UInt8) : List UInt8 := Cb nf sa da (Aw nf) (Cn (Az kind inner) 2 (Ib nf sa da (Az kind inner).length)) 0
theorem E1 (h : 58 < n) {nf sa da kind : Nat} {inner : List UInt8} (hn : nf = 2 ∨ nf = 10) (hkd : kind < 256) (hd : inner.length ≤ 800) (hk : K (.lst (A6 (AB nf sa da kind inner))) σ) : Ab rows n 58 [.int nf, .int sa, .int da, .int kind, .lst (A6 inner)] σ K := by
 refine Am (ρ := [some (.int nf), some (.int sa), some (.int da), some (.int kind), some (.lst (A6 inner)), none, none]) DL (by assumption) rfl rfl rfl rfl (by kernel_rfl) ?_; unfold DL
 refine A4 ?_
 kpf_c
 rw [show ([.int (kind : Int), .int 1, .int 0, .int 0, .int 0, .int 0, .int 5, .int 220] : List D) = A6 [u8 kind, 1, 0, 0, 0, 0, 5, 220] by unfold A6; simp only [List.map_cons, List.map_nil, G3 hkd]; rfl, Lr]
 have hl : (Az kind inner).length = 8 + inner.length := by unfold Az; simp; lia
 refine ⟨nb rfl, by rw [AA]; lia, nb rfl, ?_⟩
 show Ak _ _ [some (.int nf), some (.int sa), some (.int da), some (.int kind), some (.lst (A6 inner)), some (.lst (A6 (Az kind inner))), none] _ _
 unfold AB at hk
 generalize Az kind inner = z at *
 have iz := AA z
 unfold Ib Aw at hk
 rcases hn with rfl | rfl
 ·rw [if_pos rfl, if_pos rfl] at hk
  refine Al (fun R hR => ?_) (Ac ?_)
  ·kpf_c; exact hR
  kpf_c
  refine ⟨#[], ?_⟩
  refine CW #[] (l := z) (ah := []) (pl := 2) (by lia) #[] #[] ?_
  exact CX #[] (nf := 2) (pr := 1) (ex := 0) (.inl rfl) #[] #[] (by rw [Bx (by lia)]; lia) hk
 ·rw [if_neg #[], if_neg #[]] at hk
  refine Ad (fun R hR => ?_) (A1 (A4 ?_))
  ·kpf_c; exact hR
  kpf_c
  refine Cf (by lia) ?_
  rw [iz]
  refine Gz #[] (nf := 10) (pr := 58) (.inr rfl) #[] ⟨nb rfl, Ac ?_⟩
  kpf_c
  refine CW #[] (pl := 2) (by lia) (by rw [EM]; decide) #[] ?_
  exact CX #[] (nf := 10) (pr := 58) (ex := 0) (.inr rfl) #[] #[] (by rw [Bx (by lia)]; lia) hk
noncomputable def N3 : List (Int × Int) := [(8, 0), (0, 8), (13, 14), (14, 13), (128, 129), (129, 128)]
structure okA (t : T6) : Prop where
 i : Ay t.nf t.pr = decide (t.pr = 1 ∨ t.pr = 58)
 k : Ay t.nf t.pr = true → 0 ≤ BI t.nf (t.dp / 256) ∧ N3.lookup ((t.dp / 256 : Nat) : Int) = some (BI t.nf (t.dp / 256))
theorem okA.okInv (h : okA t) : okInv t := fun e => (h.k e).1
theorem Ch (h : 59 < n) (ho : okA t) (hk : ∀ σ', Ai σ σ' → K (tD (inv t)) σ') : Ab rows n 59 [tD t] σ K := by
 obtain ⟨nf, pr, sa, sp, da, dp⟩ := t
 obtain ⟨h1, h2⟩ := ho
 dsimp only at h1 h2
 refine Am (ρ := [some (tD ⟨nf, pr, sa, sp, da, dp⟩), none, none, none, none, none, none, none]) Dd (by assumption) rfl rfl rfl rfl (by kernel_rfl) ?_; unfold Dd
 refine A8 ?_
 kpf_c
 refine (tu6 rfl ?_)
 dsimp only [List.set_cons_zero, List.set_cons_succ]
 unfold inv at hk
 dsimp only at hk
 rw [h1] at hk h2
 by_cases hp : pr = 1 ∨ pr = 58
 ·refine oa2 (h2 (decide_eq_true hp)) fun g1 g2 => ?_
  rw [decide_eq_true hp] at hk
  refine Ad (fun R hR => ?_) (A1 (A4 ?_))
  ·kpf_c
   refine ⟨#[], [1, 58], rfl, ?_⟩
   rw [show ([1, 58] : List Int).contains (pr : Int) = true from (Cc pr 1 58).trans (decide_eq_true hp)]; exact hR
  kpf_c
  refine ⟨⟨#[], #[], #[]⟩, fun q hq => ?_⟩
  refine ⟨⟨#[], #[]⟩, ?_⟩
  rw [show (256 : Int) = ((256 : Nat) : Int) from rfl, Ck]
  refine .inr ⟨_, .int (BI nf (dp / 256)), Sto.upd_self .., ?_, nb rfl, Ac ?_⟩
  ·have e : ∀ (l : List (Int × Int)) (k : Int) (v : Int), l.lookup k = some v → (l.map fun x => (x.1, D.int x.2)).lookup k = some (.int v) := by
    intro l k v
    induction l with
    | nil => intro h; cases h
    | cons a l ih =>
     obtain ⟨a, b⟩ := a
     rw [List.map_cons, List.lookup_cons, List.lookup_cons]
     cases k == a with
     | true => intro h; cases h; rfl
     | false => exact ih
   exact e N3 _ _ g2
  kpf_c
  refine ⟨.inl #[], #[], nb rfl, ?_⟩
  rw [Cj, show ((256 : Nat) : Int) * BI nf (dp / 256) + ((dp % 256 : Nat) : Int) = (((BI nf (dp / 256)).toNat * 256 + dp % 256 : Nat) : Int) by lia]
  exact hk _ (.new hq)
 ·rw [decide_eq_false hp] at hk
  refine Al (fun R hR => ?_) (Ac ?_)
  ·kpf_c
   refine ⟨#[], [1, 58], rfl, ?_⟩
   rw [show ([1, 58] : List Int).contains (pr : Int) = false from (Cc pr 1 58).trans (decide_eq_false hp)]; exact hR
  kpf_c
  exact ⟨nb rfl, hk _ (.refl σ)⟩
noncomputable def taken (t g : T6) (src : Bool) : T6 := if src then ⟨t.nf, t.pr, g.sa, g.sp, t.da, t.dp⟩ else if t.pr = 1 ∨ t.pr = 58 then ⟨t.nf, t.pr, t.sa, g.sp, g.da, t.dp⟩ else ⟨t.nf, t.pr, t.sa, t.sp, g.da, g.dp⟩
theorem Hy (h : 60 < n) {t g : T6} {src : Bool} (hk : K (tD (taken t g src)) σ) : Ab rows n 60 [tD t, tD g, .str (mS src)] σ K := by
 obtain ⟨nf, pr, sa, sp, da, dp⟩ := t
 obtain ⟨nf', pr', sa', sp', da', dp'⟩ := g
 refine Am (ρ := [some (tD ⟨nf, pr, sa, sp, da, dp⟩), some (tD ⟨nf', pr', sa', sp', da', dp'⟩), some (.str (mS src)), none]) DJ (by assumption) rfl rfl rfl rfl (by kernel_rfl) ?_; unfold DJ
 refine A4 ?_
 kpf_c
 refine AX 1 rfl #[] ⟨#[], [1, 58], rfl, ?_⟩
 rw [show ([1, 58] : List Int).contains (pr : Int) = decide (pr = 1 ∨ pr = 58) from Cc pr 1 58]
 refine ⟨nb rfl, ?_⟩
 unfold taken at hk
 dsimp only at hk
 cases src with
 | true =>
  refine Al (fun R hR => ?_) (Ac ?_)
  ·kpf_c; rw [CN]; exact hR
  kpf_c
  refine ⟨_, _, nb rfl, rfl, rfl, _, _, nb rfl, rfl, rfl, ?_⟩
  dsimp only [Fd]
  refine ⟨nb rfl, _, _, nb rfl, rfl, rfl, ?_⟩
  dsimp only [Fd]
  exact ⟨nb rfl, hk⟩
 | false =>
  refine Ad (fun R hR => ?_) (A1 (Ac ?_))
  ·kpf_c; rw [CN]; exact hR
  kpf_c
  refine ⟨_, _, nb rfl, rfl, rfl, _, rfl, ?_⟩
  by_cases hp : pr = 1 ∨ pr = 58
  ·rw [if_neg #[], if_pos hp] at hk
   rw [decide_eq_true hp]
   refine ⟨fun ω => AX 3 rfl #[] (AX 4 rfl #[] ⟨_, rfl, fun ω => AX 5 rfl #[] ⟨nb rfl, ?_⟩, fun e => absurd e #[]⟩), fun e => absurd e #[]⟩
   dsimp only [Fd]
   exact ⟨nb rfl, hk⟩
  ·rw [if_neg #[], if_neg hp] at hk
   rw [decide_eq_false hp]
   refine ⟨fun e => absurd e #[], fun ω => AX 3 rfl #[] (AX 4 rfl #[] ⟨_, rfl, fun e => absurd e #[], fun ω => AX 5 rfl #[] ⟨nb rfl, ?_⟩⟩)⟩
   dsimp only [Fd]
   exact ⟨nb rfl, hk⟩
theorem fresh {q : Addr} (s : Ai σ τ) (h : τ q = none) : σ q = none := by
 cases hq : σ q with
 | none => rfl
 | some o => rw [s.get hq] at h; cases h
theorem Aj {Φ : Bn} {i : Nat} {x : Str} {d : D} {ρ : Rho} {r : PSs} {K : KS} {p C ia : Addr} {fs : List (Str × D)} (gs : List (Str × D)) (hx : σ p = none) (hp : ρ[i]? = some (some (.ref p))) (s : Ai σ τ) (ho : τ p = some (.inst C ia fs)) (hf : fs.length < 400) (hg : IV x d fs = gs) (k : ∀ τ', Ai σ τ' → (∀ y, y ≠ p → τ' y = τ y) → τ' p = some (.inst C ia gs) → Ak Φ r ρ τ' K) :
  Ap Φ (.attr (.loc i) x) d ρ τ fun ρ' σ' => Ak Φ r ρ' σ' K := by
 refine AL gs hp ho hf hg (k _ (fun y hy => ?_) (fun y hy => Sto.upd_ne _ _ hy) (Sto.upd_self ..))
 rw [Sto.upd_ne _ _ (Ea hx hy), s y hy]
theorem HD (h : 50 < n) {p : Addr} {fl : D} {hk0 : Str} (hk : ∀ σ' x, Ai σ σ' → σ x = none → SC σ' x p .none 1 0 → K (.ref x) σ') : Ab rows n 50 [.ref p, fl, .int 1000, .str hk0] σ K := by
 refine Ki 445 (fun x => [some (.ref x), some (.ref p), some (fl), some (.int 1000), some (.str hk0)]) Kq h rfl rfl rfl (nb rfl) (fun ω => rfl) (fun ω => by kernel_rfl) ?_
 intro x ia hx
 unfold Kq
 have s0 : Ai σ (σ.upd x (.inst 445 ia [])) := .new hx
 have o0 : (σ.upd x (.inst 445 ia [])) x = some (.inst 445 ia []) := Sto.upd_self ..
 generalize σ.upd x (.inst 445 ia []) = σ0 at *
 refine A8 ?_
 kst_p
 show Ap _ _ _ _ _ _
 refine Aj [((Z "packet"), .ref p)] hx (by rfl) s0 o0 (nb rfl) (by rfl) fun σ1 s1 k1 o1 => ?_
 refine A8 ?_
 kst_p
 show Ap _ _ _ _ _ _
 refine Aj [((Z "packet"), .ref p), ((Z "now"), .int 1000)] hx (by rfl) s1 o1 (nb rfl) (by rfl) fun σ2 s2 k2 o2 => ?_
 refine A8 ?_
 kst_p
 show Ap _ _ _ _ _ _
 refine Aj [((Z "packet"), .ref p), ((Z "now"), .int 1000), ((Z "hook"), .str hk0)] hx (by rfl) s2 o2 (nb rfl) (by rfl) fun σ3 s3 k3 o3 => ?_
 refine A8 ?_
 kst_p
 show Ap _ _ _ _ _ _
 refine Aj [((Z "packet"), .ref p), ((Z "now"), .int 1000), ((Z "hook"), .str hk0), ((Z "talk"), .none)] hx (by rfl) s3 o3 (nb rfl) (by rfl) fun σ4 s4 k4 o4 => ?_
 refine A8 ?_
 kst_p
 show Ap _ _ _ _ _ _
 refine Aj [((Z "packet"), .ref p), ((Z "now"), .int 1000), ((Z "hook"), .str hk0), ((Z "talk"), .none), ((Z "state"), .int 1)] hx (by rfl) s4 o4 (nb rfl) (by rfl) fun σ5 s5 k5 o5 => ?_
 refine A8 ?_
 kst_p
 show Ap _ _ _ _ _ _
 refine Aj [((Z "packet"), .ref p), ((Z "now"), .int 1000), ((Z "hook"), .str hk0), ((Z "talk"), .none), ((Z "state"), .int 1), ((Z "is_reply"), .int 0)] hx (by rfl) s5 o5 (nb rfl) (by rfl) fun σ6 s6 k6 o6 => ?_
 refine A8 ?_
 kst_p
 show Ap _ _ _ _ _ _
 refine Aj [((Z "packet"), .ref p), ((Z "now"), .int 1000), ((Z "hook"), .str hk0), ((Z "talk"), .none), ((Z "state"), .int 1), ((Z "is_reply"), .int 0), ((Z "talks"), .none)] hx (by rfl) s6 o6 (nb rfl) (by rfl) fun σ7 s7 k7 o7 => ?_
 refine A8 ?_
 kst_p
 intro q7 hq7
 show Ap _ _ _ _ _ _
 refine Aj [((Z "packet"), .ref p), ((Z "now"), .int 1000), ((Z "hook"), .str hk0), ((Z "talk"), .none), ((Z "state"), .int 1), ((Z "is_reply"), .int 0), ((Z "talks"), .none), ((Z "sets"), .ref q7)] hx (by rfl) (s7.trans (.new hq7)) ((Ai.new hq7).get o7) (nb rfl) (by rfl) fun σ8 s8 k8 o8 => ?_
 refine A8 ?_
 kst_p
 intro q8 hq8
 show Ap _ _ _ _ _ _
 refine Aj [((Z "packet"), .ref p), ((Z "now"), .int 1000), ((Z "hook"), .str hk0), ((Z "talk"), .none), ((Z "state"), .int 1), ((Z "is_reply"), .int 0), ((Z "talks"), .none), ((Z "sets"), .ref q7), ((Z "objects"), .ref q8)] hx (by rfl) (s8.trans (.new hq8)) ((Ai.new hq8).get o8) (nb rfl) (by rfl) fun σ9 s9 k9 o9 => ?_
 refine A8 ?_
 kst_p
 show Ap _ _ _ _ _ _
 refine Aj [((Z "packet"), .ref p), ((Z "now"), .int 1000), ((Z "hook"), .str hk0), ((Z "talk"), .none), ((Z "state"), .int 1), ((Z "is_reply"), .int 0), ((Z "talks"), .none), ((Z "sets"), .ref q7), ((Z "objects"), .ref q8), ((Z "fields"), fl)] hx (by rfl) s9 o9 (nb rfl) (by rfl) fun σ10 s10 k10 o10 => ?_
 refine A8 ?_
 kst_p
 intro q10 hq10
 show Ap _ _ _ _ _ _
 refine Aj [((Z "packet"), .ref p), ((Z "now"), .int 1000), ((Z "hook"), .str hk0), ((Z "talk"), .none), ((Z "state"), .int 1), ((Z "is_reply"), .int 0), ((Z "talks"), .none), ((Z "sets"), .ref q7), ((Z "objects"), .ref q8), ((Z "fields"), fl), ((Z "readers"), .ref q10)] hx (by rfl) (s10.trans (.new hq10)) ((Ai.new hq10).get o10) (nb rfl) (by rfl) fun σ11 s11 k11 o11 => ?_
 refine A8 ?_
 kst_p
 intro q11 hq11
 show Ap _ _ _ _ _ _
 refine Aj [((Z "packet"), .ref p), ((Z "now"), .int 1000), ((Z "hook"), .str hk0), ((Z "talk"), .none), ((Z "state"), .int 1), ((Z "is_reply"), .int 0), ((Z "talks"), .none), ((Z "sets"), .ref q7), ((Z "objects"), .ref q8), ((Z "fields"), fl), ((Z "readers"), .ref q10), ((Z "doers"), .ref q11)] hx (by rfl) (s11.trans (.new hq11)) ((Ai.new hq11).get o11) (nb rfl) (by rfl) fun σ12 s12 k12 o12 => ?_
 refine A8 ?_
 kst_p
 intro q12 hq12
 show Ap _ _ _ _ _ _
 refine Aj [((Z "packet"), .ref p), ((Z "now"), .int 1000), ((Z "hook"), .str hk0), ((Z "talk"), .none), ((Z "state"), .int 1), ((Z "is_reply"), .int 0), ((Z "talks"), .none), ((Z "sets"), .ref q7), ((Z "objects"), .ref q8), ((Z "fields"), fl), ((Z "readers"), .ref q10), ((Z "doers"), .ref q11), ((Z "ops"), .ref q12)] hx (by rfl) (s12.trans (.new hq12)) ((Ai.new hq12).get o12) (nb rfl) (by rfl) fun σ13 s13 k13 o13 => ?_
 refine A8 ?_
 kst_p
 intro q13 hq13
 show Ap _ _ _ _ _ _
 refine Aj [((Z "packet"), .ref p), ((Z "now"), .int 1000), ((Z "hook"), .str hk0), ((Z "talk"), .none), ((Z "state"), .int 1), ((Z "is_reply"), .int 0), ((Z "talks"), .none), ((Z "sets"), .ref q7), ((Z "objects"), .ref q8), ((Z "fields"), fl), ((Z "readers"), .ref q10), ((Z "doers"), .ref q11), ((Z "ops"), .ref q12), ((Z "tools"), .ref q13)] hx (by rfl) (s13.trans (.new hq13)) ((Ai.new hq13).get o13) (nb rfl) (by rfl) fun σ14 s14 k14 o14 => ?_
 refine A8 ?_
 kst_p
 show Ap _ _ _ _ _ _
 refine Aj [((Z "packet"), .ref p), ((Z "now"), .int 1000), ((Z "hook"), .str hk0), ((Z "talk"), .none), ((Z "state"), .int 1), ((Z "is_reply"), .int 0), ((Z "talks"), .none), ((Z "sets"), .ref q7), ((Z "objects"), .ref q8), ((Z "fields"), fl), ((Z "readers"), .ref q10), ((Z "doers"), .ref q11), ((Z "ops"), .ref q12), ((Z "tools"), .ref q13), ((Z "order"), .str (Z "little"))] hx (by rfl) s14 o14 (nb rfl) (by rfl) fun σ15 s15 k15 o15 => ?_
 refine A8 ?_
 kst_p
 refine ⟨nb rfl, ?_⟩
 show Ap _ _ _ _ _ _
 refine Aj [((Z "packet"), .ref p), ((Z "now"), .int 1000), ((Z "hook"), .str hk0), ((Z "talk"), .none), ((Z "state"), .int 1), ((Z "is_reply"), .int 0), ((Z "talks"), .none), ((Z "sets"), .ref q7), ((Z "objects"), .ref q8), ((Z "fields"), fl), ((Z "readers"), .ref q10), ((Z "doers"), .ref q11), ((Z "ops"), .ref q12), ((Z "tools"), .ref q13), ((Z "order"), .str (Z "little")), ((Z "log"), .lst [])] hx (by rfl) s15 o15 (nb rfl) (by rfl) fun σ16 s16 k16 o16 => ?_
 refine A8 ?_
 kst_p
 refine ⟨nb rfl, ?_⟩
 show Ap _ _ _ _ _ _
 refine Aj [((Z "packet"), .ref p), ((Z "now"), .int 1000), ((Z "hook"), .str hk0), ((Z "talk"), .none), ((Z "state"), .int 1), ((Z "is_reply"), .int 0), ((Z "talks"), .none), ((Z "sets"), .ref q7), ((Z "objects"), .ref q8), ((Z "fields"), fl), ((Z "readers"), .ref q10), ((Z "doers"), .ref q11), ((Z "ops"), .ref q12), ((Z "tools"), .ref q13), ((Z "order"), .str (Z "little")), ((Z "log"), .lst []), ((Z "replies"), .lst [])] hx (by rfl) s16 o16 (nb rfl) (by rfl) fun σ17 s17 k17 o17 => ?_
 refine A8 ?_
 kst_p
 show Ap _ _ _ _ _ _
 refine Aj [((Z "packet"), .ref p), ((Z "now"), .int 1000), ((Z "hook"), .str hk0), ((Z "talk"), .none), ((Z "state"), .int 1), ((Z "is_reply"), .int 0), ((Z "talks"), .none), ((Z "sets"), .ref q7), ((Z "objects"), .ref q8), ((Z "fields"), fl), ((Z "readers"), .ref q10), ((Z "doers"), .ref q11), ((Z "ops"), .ref q12), ((Z "tools"), .ref q13), ((Z "order"), .str (Z "little")), ((Z "log"), .lst []), ((Z "replies"), .lst []), ((Z "steps"), .none)] hx (by rfl) s17 o17 (nb rfl) (by rfl) fun σ18 s18 k18 o18 => ?_
 refine A8 ?_
 kst_p
 intro q18 hq18
 show Ap _ _ _ _ _ _
 refine Aj [((Z "packet"), .ref p), ((Z "now"), .int 1000), ((Z "hook"), .str hk0), ((Z "talk"), .none), ((Z "state"), .int 1), ((Z "is_reply"), .int 0), ((Z "talks"), .none), ((Z "sets"), .ref q7), ((Z "objects"), .ref q8), ((Z "fields"), fl), ((Z "readers"), .ref q10), ((Z "doers"), .ref q11), ((Z "ops"), .ref q12), ((Z "tools"), .ref q13), ((Z "order"), .str (Z "little")), ((Z "log"), .lst []), ((Z "replies"), .lst []), ((Z "steps"), .none), ((Z "homes"), .ref q18)] hx (by rfl) (s18.trans (.new hq18)) ((Ai.new hq18).get o18) (nb rfl) (by rfl) fun σ19 s19 k19 o19 => ?_
 exact AR ⟨rfl, hk _ x s19 hx ⟨_, _, _, _, nb rfl, o19⟩⟩
noncomputable def tkf (num : Nat) (o r z : D) (un st : Int) : List (Str × D) := [((Z "number"), .int num), ((Z "original"), o), ((Z "reply"), r), ((Z "zone"), z), ((Z "until"), .int un), ((Z "since"), .int 0), ((Z "mark"), .int 0), ((Z "status"), .int st), ((Z "state"), .int 0), ((Z "sides"), .none), ((Z "master"), .int 0)]
theorem NN (h : 27 < n) {num : Nat} {o r z : D} (hk : ∀ σ' x C ia, Ai σ σ' → σ x = none → σ' x = some (.inst C ia (tkf num o r z 0 0)) → K (.ref x) σ') : Ab rows n 27 [.int num, o, r, z] σ K := by
 refine Ki 256 (fun x => [some (.ref x), some (.int num), some (o), some (r), some (z)]) MZ h rfl rfl rfl (nb rfl) (fun ω => rfl) (fun ω => by kernel_rfl) ?_
 intro x ia hx
 unfold MZ
 have s0 : Ai σ (σ.upd x (.inst 256 ia [])) := .new hx
 have o0 : (σ.upd x (.inst 256 ia [])) x = some (.inst 256 ia []) := Sto.upd_self ..
 generalize σ.upd x (.inst 256 ia []) = σ0 at *
 refine A8 ?_
 kst_p
 show Ap _ _ _ _ _ _
 refine Aj [((Z "number"), .int num)] hx (by rfl) s0 o0 (nb rfl) (by rfl) fun σ1 s1 k1 o1 => ?_
 refine A8 ?_
 kst_p
 show Ap _ _ _ _ _ _
 refine Aj [((Z "number"), .int num), ((Z "original"), o)] hx (by rfl) s1 o1 (nb rfl) (by rfl) fun σ2 s2 k2 o2 => ?_
 refine A8 ?_
 kst_p
 show Ap _ _ _ _ _ _
 refine Aj [((Z "number"), .int num), ((Z "original"), o), ((Z "reply"), r)] hx (by rfl) s2 o2 (nb rfl) (by rfl) fun σ3 s3 k3 o3 => ?_
 refine A8 ?_
 kst_p
 show Ap _ _ _ _ _ _
 refine Aj [((Z "number"), .int num), ((Z "original"), o), ((Z "reply"), r), ((Z "zone"), z)] hx (by rfl) s3 o3 (nb rfl) (by rfl) fun σ4 s4 k4 o4 => ?_
 refine A8 ?_
 kst_p
 show Ap _ _ _ _ _ _
 refine Aj [((Z "number"), .int num), ((Z "original"), o), ((Z "reply"), r), ((Z "zone"), z), ((Z "until"), .int 0)] hx (by rfl) s4 o4 (nb rfl) (by rfl) fun σ5 s5 k5 o5 => ?_
 refine A8 ?_
 kst_p
 show Ap _ _ _ _ _ _
 refine Aj [((Z "number"), .int num), ((Z "original"), o), ((Z "reply"), r), ((Z "zone"), z), ((Z "until"), .int 0), ((Z "since"), .int 0)] hx (by rfl) s5 o5 (nb rfl) (by rfl) fun σ6 s6 k6 o6 => ?_
 refine A8 ?_
 kst_p
 show Ap _ _ _ _ _ _
 refine Aj [((Z "number"), .int num), ((Z "original"), o), ((Z "reply"), r), ((Z "zone"), z), ((Z "until"), .int 0), ((Z "since"), .int 0), ((Z "mark"), .int 0)] hx (by rfl) s6 o6 (nb rfl) (by rfl) fun σ7 s7 k7 o7 => ?_
 refine A8 ?_
 kst_p
 show Ap _ _ _ _ _ _
 refine Aj [((Z "number"), .int num), ((Z "original"), o), ((Z "reply"), r), ((Z "zone"), z), ((Z "until"), .int 0), ((Z "since"), .int 0), ((Z "mark"), .int 0), ((Z "status"), .int 0)] hx (by rfl) s7 o7 (nb rfl) (by rfl) fun σ8 s8 k8 o8 => ?_
 refine A8 ?_
 kst_p
 show Ap _ _ _ _ _ _
 refine Aj [((Z "number"), .int num), ((Z "original"), o), ((Z "reply"), r), ((Z "zone"), z), ((Z "until"), .int 0), ((Z "since"), .int 0), ((Z "mark"), .int 0), ((Z "status"), .int 0), ((Z "state"), .int 0)] hx (by rfl) s8 o8 (nb rfl) (by rfl) fun σ9 s9 k9 o9 => ?_
 refine A8 ?_
 kst_p
 show Ap _ _ _ _ _ _
 refine Aj [((Z "number"), .int num), ((Z "original"), o), ((Z "reply"), r), ((Z "zone"), z), ((Z "until"), .int 0), ((Z "since"), .int 0), ((Z "mark"), .int 0), ((Z "status"), .int 0), ((Z "state"), .int 0), ((Z "sides"), .none)] hx (by rfl) s9 o9 (nb rfl) (by rfl) fun σ10 s10 k10 o10 => ?_
 refine A8 ?_
 kst_p
 show Ap _ _ _ _ _ _
 refine Aj [((Z "number"), .int num), ((Z "original"), o), ((Z "reply"), r), ((Z "zone"), z), ((Z "until"), .int 0), ((Z "since"), .int 0), ((Z "mark"), .int 0), ((Z "status"), .int 0), ((Z "state"), .int 0), ((Z "sides"), .none), ((Z "master"), .int 0)] hx (by rfl) s10 o10 (nb rfl) (by rfl) fun σ11 s11 k11 o11 => ?_
 exact AR ⟨rfl, hk _ x _ _ s11 hx o11⟩
theorem IH (h : 28 < n)  (hk : ∀ σ' x tb ts C ia fs, Ai σ σ' → σ x = none → σ tb = none → σ ts = none → tb ≠ ts → σ' x = some (.inst C ia fs) → fs.lookup (Z "table") = some (.ref tb) → fs.lookup (Z "talks") = some (.ref ts) → σ' tb = some .edict → σ' ts = some .edict → K (.ref x) σ') : Ab rows n 28 [.int 64, .int 0] σ K := by
 refine Ki 278 (fun x => [some (.ref x), some (.int 64), some (.int 0), some (.int 128)]) Fk h rfl rfl rfl (nb rfl) (fun ω => rfl) (fun ω => by kernel_rfl) ?_
 intro x ia hx
 unfold Fk
 have s0 : Ai σ (σ.upd x (.inst 278 ia [])) := .new hx
 have o0 : (σ.upd x (.inst 278 ia [])) x = some (.inst 278 ia []) := Sto.upd_self ..
 generalize σ.upd x (.inst 278 ia []) = σ0 at *
 refine A8 ?_
 kst_p
 show Ap _ _ _ _ _ _
 refine Aj [((Z "most"), .int 64)] hx (by rfl) s0 o0 (nb rfl) (by rfl) fun σ1 s1 k1 o1 => ?_
 refine A8 ?_
 kst_p
 show Ap _ _ _ _ _ _
 refine Aj [((Z "most"), .int 64), ((Z "seed"), .int 0)] hx (by rfl) s1 o1 (nb rfl) (by rfl) fun σ2 s2 k2 o2 => ?_
 refine A8 ?_
 kst_p
 show Ap _ _ _ _ _ _
 refine Aj [((Z "most"), .int 64), ((Z "seed"), .int 0), ((Z "tries"), .int 128)] hx (by rfl) s2 o2 (nb rfl) (by rfl) fun σ3 s3 k3 o3 => ?_
 refine A8 ?_
 kst_p
 intro q3 hq3
 show Ap _ _ _ _ _ _
 refine Aj [((Z "most"), .int 64), ((Z "seed"), .int 0), ((Z "tries"), .int 128), ((Z "table"), .ref q3)] hx (by rfl) (s3.trans (.new hq3)) ((Ai.new hq3).get o3) (nb rfl) (by rfl) fun σ4 s4 k4 o4 => ?_
 have nxq3 : q3 ≠ x := fun c => by rw [c, o3] at hq3; cases hq3
 have eq3 : σ4 q3 = some .edict := by rw [k4 _ nxq3, Sto.upd_self]
 refine A8 ?_
 kst_p
 intro q4 hq4
 show Ap _ _ _ _ _ _
 refine Aj [((Z "most"), .int 64), ((Z "seed"), .int 0), ((Z "tries"), .int 128), ((Z "table"), .ref q3), ((Z "talks"), .ref q4)] hx (by rfl) (s4.trans (.new hq4)) ((Ai.new hq4).get o4) (nb rfl) (by rfl) fun σ5 s5 k5 o5 => ?_
 have nxq4 : q4 ≠ x := fun c => by rw [c, o4] at hq4; cases hq4
 have eq4 : σ5 q4 = some .edict := by rw [k5 _ nxq4, Sto.upd_self]
 have dq4 : q3 ≠ q4 := fun c => by rw [← c, eq3] at hq4; cases hq4
 have eq3 : σ5 q3 = some .edict := by rw [k5 _ nxq3, Sto.upd_ne _ _ dq4, eq3]
 refine A8 ?_
 kst_p
 show Ap _ _ _ _ _ _
 refine Aj [((Z "most"), .int 64), ((Z "seed"), .int 0), ((Z "tries"), .int 128), ((Z "table"), .ref q3), ((Z "talks"), .ref q4), ((Z "last"), .int 0)] hx (by rfl) s5 o5 (nb rfl) (by rfl) fun σ6 s6 k6 o6 => ?_
 have eq3 : σ6 q3 = some .edict := by rw [k6 _ nxq3, eq3]
 have eq4 : σ6 q4 = some .edict := by rw [k6 _ nxq4, eq4]
 refine A8 ?_
 kst_p
 intro q6 hq6
 show Ap _ _ _ _ _ _
 refine Aj [((Z "most"), .int 64), ((Z "seed"), .int 0), ((Z "tries"), .int 128), ((Z "table"), .ref q3), ((Z "talks"), .ref q4), ((Z "last"), .int 0), ((Z "trackers"), .ref q6)] hx (by rfl) (s6.trans (.new hq6)) ((Ai.new hq6).get o6) (nb rfl) (by rfl) fun σ7 s7 k7 o7 => ?_
 have eq3 : σ7 q3 = some .edict := by rw [k7 _ nxq3, (Ai.new hq6).get eq3]
 have eq4 : σ7 q4 = some .edict := by rw [k7 _ nxq4, (Ai.new hq6).get eq4]
 refine A8 ?_
 kst_p
 refine ⟨nb rfl, ?_⟩
 show Ap _ _ _ _ _ _
 refine Aj [((Z "most"), .int 64), ((Z "seed"), .int 0), ((Z "tries"), .int 128), ((Z "table"), .ref q3), ((Z "talks"), .ref q4), ((Z "last"), .int 0), ((Z "trackers"), .ref q6), ((Z "expects"), .lst [])] hx (by rfl) s7 o7 (nb rfl) (by rfl) fun σ8 s8 k8 o8 => ?_
 have eq3 : σ8 q3 = some .edict := by rw [k8 _ nxq3, eq3]
 have eq4 : σ8 q4 = some .edict := by rw [k8 _ nxq4, eq4]
 refine A8 ?_
 kst_p
 intro q8 hq8
 show Ap _ _ _ _ _ _
 refine Aj [((Z "most"), .int 64), ((Z "seed"), .int 0), ((Z "tries"), .int 128), ((Z "table"), .ref q3), ((Z "talks"), .ref q4), ((Z "last"), .int 0), ((Z "trackers"), .ref q6), ((Z "expects"), .lst []), ((Z "flows"), .ref q8)] hx (by rfl) (s8.trans (.new hq8)) ((Ai.new hq8).get o8) (nb rfl) (by rfl) fun σ9 s9 k9 o9 => ?_
 have eq3 : σ9 q3 = some .edict := by rw [k9 _ nxq3, (Ai.new hq8).get eq3]
 have eq4 : σ9 q4 = some .edict := by rw [k9 _ nxq4, (Ai.new hq8).get eq4]
 refine A8 ?_
 kst_p
 show Ap _ _ _ _ _ _
 refine Aj [((Z "most"), .int 64), ((Z "seed"), .int 0), ((Z "tries"), .int 128), ((Z "table"), .ref q3), ((Z "talks"), .ref q4), ((Z "last"), .int 0), ((Z "trackers"), .ref q6), ((Z "expects"), .lst []), ((Z "flows"), .ref q8), ((Z "is_loose"), .bool true)] hx (by rfl) s9 o9 (nb rfl) (by rfl) fun σ10 s10 k10 o10 => ?_
 have eq3 : σ10 q3 = some .edict := by rw [k10 _ nxq3, eq3]
 have eq4 : σ10 q4 = some .edict := by rw [k10 _ nxq4, eq4]
 exact AR ⟨rfl, hk _ x q3 q4 _ _ _ s10 hx (fresh s3 hq3) (fresh s4 hq4) dq4 o10 rfl rfl eq3 eq4⟩
end
section
variable {d u v x y z : List UInt8} {P : List UInt8 → Prop} {b c e i k p : Nat}
theorem sp (hx : x.length = b) (hv : v.length = u.length) : A7 (x ++ (v ++ z)) b u = x ++ (u ++ z) := by
 unfold A7
 rw [List.take_left' hx, ← List.append_assoc x v z, List.drop_left' (by rw [List.length_append, hx, hv]), List.append_assoc]
theorem cu (hx : x.length = b) (hv : b + v.length = e) : cut (x ++ (v ++ z)) b e = v := by
 unfold cut
 rw [List.drop_left' hx, List.take_left' (Nat.eq_sub_of_add_eq' hv)]
theorem dec (h : b ≤ d.length) (k : ∀ x z, x.length = b → d.length = b + z.length → P (x ++ z)) : P d :=
 List.take_append_drop b d ▸ k _ _ (List.length_take_of_le h) (by rw [List.length_drop, Nat.add_sub_cancel' h])
theorem Ii (h : b + n ≤ d.length) (k : ∀ x v z, x.length = b → v.length = n → d.length = b + (n + z.length) → P (x ++ (v ++ z))) : P d :=
 dec (P := P) (Nat.le_trans (Nat.le_add_right b n) h) fun x y hx hy => dec (P := fun y => P (x ++ y)) (Nat.le_of_add_le_add_left (hy ▸ h)) fun v z hv hz => k x v z hx hv (hz ▸ hy)
theorem Gw (h : b + n ≤ d.length) : A7 d b (cut d b (b + n)) = d :=
 Ii (P := fun d => A7 d b (cut d b (b + n)) = d) h fun x v z hx hv ω => by rw [cu hx (by rw [hv]), sp hx rfl]
theorem DY (hl : u.length = v.length) (h : b + u.length ≤ d.length) : A7 (A7 d b u) b v = A7 d b v :=
 Ii (P := fun d => A7 (A7 d b u) b v = A7 d b v) h fun x w z hx hw ω => by rw [sp hx hw, sp hx hl, sp hx (hw.trans hl)]
theorem sp5 {x w m v z u : List UInt8} (hx : x.length + w.length + m.length = b) (hv : v.length = u.length) : A7 (x ++ (w ++ (m ++ (v ++ z)))) b u = x ++ (w ++ (m ++ (u ++ z))) := by
 have := sp (x := x ++ w ++ m) (z := z) (by rw [List.length_append, List.length_append, hx]) hv
 rwa [List.append_assoc, List.append_assoc, List.append_assoc, List.append_assoc] at this
theorem Gy (h1 : b + u.length ≤ c) (h2 : c + v.length ≤ d.length) : A7 (A7 d b u) c v = A7 (A7 d c v) b u := by
 refine Exists.elim (Nat.le.dest h1) fun k hk => ?_
 have h3 : b + (u.length + (k + v.length)) ≤ d.length := by rw [← Nat.add_assoc, ← Nat.add_assoc, hk]; exact h2
 refine Ii (P := fun d => A7 (A7 d b u) c v = A7 (A7 d c v) b u) (Nat.le_trans (Nat.le_add_right _ _) (Nat.add_assoc _ _ _ ▸ h3)) fun x w y hx hw hy => ?_
 refine Ii (P := fun y => A7 (A7 (x ++ (w ++ y)) b u) c v = A7 (A7 (x ++ (w ++ y)) c v) b u) (Nat.le_of_add_le_add_left (Nat.le_of_add_le_add_left (hy ▸ h3))) fun m w' z hm hw' ω => ?_
 rw [sp hx hw, sp5 (by rw [hx, hm, hk]) hw', sp5 (by rw [hx, hw, hm, hk]) hw', sp hx hw]
theorem BF (he : e = b + u.length) (h : e ≤ d.length) : cut (A7 d b u) b e = u :=
 Ii (P := fun d => cut (A7 d b u) b e = u) (he ▸ h) fun x v z hx hv ω => by rw [sp hx hv, cu hx he.symm]
theorem BB (hc : c ≤ b) (h : b + u.length ≤ d.length) : (A7 d b u).take c = d.take c :=
 Ii (P := fun d => (A7 d b u).take c = d.take c) h fun x v z hx hv ω => by rw [sp hx hv, List.take_append_of_le_length (hx ▸ hc), List.take_append_of_le_length (hx ▸ hc)]
theorem Rf (hx : x.length + v.length + k = b) : (x ++ (v ++ z)).drop b = z.drop k := by
 rw [← hx, Nat.add_assoc, List.drop_length_add_append, List.drop_length_add_append]
theorem R2 (hx : x.length + v.length + k = b) : (x ++ (v ++ z)).take b = x ++ (v ++ z.take k) := by
 rw [← hx, Nat.add_assoc, List.take_length_add_append, List.take_length_add_append]
theorem BE (hc : b + u.length ≤ c) (h : b + u.length ≤ d.length) : (A7 d b u).drop c = d.drop c :=
 Exists.elim (Nat.le.dest hc) fun k hk => Ii (P := fun d => (A7 d b u).drop c = d.drop c) h fun x v z hx hv ω => by rw [sp hx hv, Rf (by rw [hx, hk]), Rf (by rw [hx, hv, hk])]
theorem BS (hc : b + u.length ≤ c) (h : b + u.length ≤ d.length) : (A7 d b u).take c = A7 (d.take c) b u :=
 Exists.elim (Nat.le.dest hc) fun k hk => Ii (P := fun d => (A7 d b u).take c = A7 (d.take c) b u) h fun x v z hx hv ω => by rw [sp hx hv, R2 (by rw [hx, hk]), R2 (by rw [hx, hv, hk]), sp hx hv]
theorem Ig (hc : c ≤ b) (h : b + u.length ≤ d.length) : (A7 d b u).drop c = A7 (d.drop c) (b - c) u :=
 Ii (P := fun d => (A7 d b u).drop c = A7 (d.drop c) (b - c) u) h fun x v z hx hv ω => by rw [sp hx hv, List.drop_append_of_le_length (hx ▸ hc), List.drop_append_of_le_length (hx ▸ hc), sp (by rw [List.length_drop, hx]) hv]
theorem LS (h : b + u.length ≤ d.length) (hi : i < b ∨ b + u.length ≤ i) : (A7 d b u)[i]? = d[i]? :=
 hi.elim (fun hi => by rw [← List.getElem?_take_of_lt hi, BB (Nat.le_refl b) h, List.getElem?_take_of_lt hi]) fun hi => by rw [← Nat.add_zero i, ← List.getElem?_drop, BE hi h, List.getElem?_drop]
theorem Km (h : b + n ≤ d.length) : (cut d b (b + n)).length = n := by
 rw [BH, Nat.add_sub_cancel_left, Nat.min_eq_left (Nat.le_sub_of_add_le' h)]
theorem Dn (h : e ≤ c) : cut (d.take c) i e = cut d i e := by
 unfold cut
 rw [List.drop_take, List.take_take, Nat.min_eq_left (Nat.sub_le_sub_right h i)]
theorem ES (hh : e ≤ b ∨ b + u.length ≤ i) (h : b + u.length ≤ d.length) : cut (A7 d b u) i e = cut d i e :=
 hh.elim (fun hh => by rw [← Dn hh, BB (Nat.le_refl b) h, Dn hh]) fun hh => congrArg (List.take (e - i)) (BE hh h)
theorem J4 (h1 : i ≤ b) (h2 : b + u.length ≤ e) (h : e ≤ d.length) : cut (A7 d b u) i e = A7 (cut d i e) (b - i) u := by
 unfold cut
 rw [Ig h1 (Nat.le_trans h2 h), BS (by rw [← Nat.sub_add_comm h1]; exact Nat.sub_le_sub_right h2 i) (by rw [← Nat.sub_add_comm h1, List.length_drop]; exact Nat.sub_le_sub_right (Nat.le_trans h2 h) i)]
theorem BG (h : b + u.length ≤ x.length) : A7 (x ++ y) b u = A7 x b u ++ y :=
 Ii (P := fun x => A7 (x ++ y) b u = A7 x b u ++ y) h fun p v q hx hv ω => by rw [List.append_assoc, List.append_assoc, sp hx hv, sp hx hv, List.append_assoc, List.append_assoc]
theorem Bv (h : x.length ≤ b) : A7 (x ++ y) b u = x ++ A7 y (b - x.length) u :=
 Exists.elim (Nat.le.dest h) fun k hk => by
  unfold A7
  rw [← hk, Nat.add_sub_cancel_left, List.take_length_add_append, Nat.add_assoc, List.drop_length_add_append, List.append_assoc, List.append_assoc, List.append_assoc]
theorem par (n : Nat) (e : Bool) : (if n % 2 = 0 then !e else !!e) = if (n + 1) % 2 = 0 then e else !e := by
 rw [Bool.not_not, Nat.add_mod]
 exact (Nat.mod_two_eq_zero_or_one n).elim (fun h => by rw [h]; rfl) fun h => by rw [h]; rfl
theorem J7 (x y : List UInt8) : ∀ e : Bool, wp e (x ++ y) = wp e x + wp (if x.length % 2 = 0 then e else !e) y := by
 induction x with
 | nil => exact fun e => (Nat.zero_add _).symm
 | cons u x ih =>
  intro e
  show (if e then u.toNat * 256 else u.toNat) + wp (!e) (x ++ y) = (if e then u.toNat * 256 else u.toNat) + wp (!e) x + _
  rw [ih, List.length_cons, par, Nat.add_assoc]
theorem BR (h : x.length % 2 = 0) : ws (x ++ y) = ws x + ws y := by
 unfold ws; rw [J7, if_pos h]
theorem Qb (x : List UInt8) : ws (x ++ [0]) = ws x := by
 unfold ws; rw [J7]
 exact (congrArg (wp true x + ·) ((Bool.rec rfl rfl : ∀ e, wp e [(0 : UInt8)] = 0) _))
theorem NE (hb : b % 2 = 0) (he : e = b + u.length) (h : e ≤ d.length) (hu : u.length % 2 = 0 ∨ e = d.length) : ws (A7 d b u) + ws (cut d b e) = ws d + ws u := by
 subst he
 revert hu
 refine Ii (P := fun d' => (u.length % 2 = 0 ∨ b + u.length = d.length) → ws (A7 d' b u) + ws (cut d' b (b + u.length)) = ws d' + ws u) h fun x v z hx hv hz hu => ?_
 have ht := hx ▸ hb
 rw [sp hx hv, cu hx (by rw [hv]), BR ht, BR ht]
 have ad : ∀ p q r s : Nat, p + (q + r) + s = p + (s + r) + q := fun p q r s => by rw [Nat.add_assoc p, Nat.add_assoc p, Nat.add_comm s r, Nat.add_comm (r + s) q, Nat.add_assoc q]
 refine hu.elim (fun hu => ?_) fun hu => ?_
 ·rw [BR hu, BR (hv ▸ hu)]; exact ad _ _ _ _
 ·rw [hz] at hu
  rw [List.eq_nil_of_length_eq_zero (Nat.add_left_cancel (Nat.add_left_cancel hu)).symm, List.append_nil, List.append_nil]; exact Nat.add_right_comm _ _ _
theorem RU (hb : b % 2 = 0) (hp : p % 2 = 0) : (b - p) % 2 = 0 := Nat.mod_eq_zero_of_dvd (Nat.dvd_sub (Nat.dvd_of_mod_eq_zero hb) (Nat.dvd_of_mod_eq_zero hp))
theorem QO {p q b n : Nat} (h1 : p ≤ b) (h2 : b + n ≤ q) : cut (cut d p q) (b - p) (b - p + n) = cut d b (b + n) := by
 unfold cut
 rw [Nat.add_sub_cancel_left, Nat.add_sub_cancel_left, List.drop_take, List.drop_drop, Nat.add_sub_cancel' h1, List.take_take, Nat.sub_sub, Nat.add_sub_cancel' h1, Nat.min_eq_left (Nat.le_sub_of_add_le' h2)]
theorem LL {p q b : Nat} (h1 : p ≤ b) (h2 : b + u.length ≤ q) (h : q ≤ d.length) (hp : p % 2 = 0) (hb : b % 2 = 0) (hu : u.length % 2 = 0 ∨ b + u.length = q) : ws (cut (A7 d b u) p q) + ws (cut d b (b + u.length)) = ws (cut d p q) + ws u := by
 have e : b - p + u.length = b + u.length - p := (Nat.sub_add_comm h1).symm
 have hl : (cut d p q).length = q - p := by rw [BH, Nat.min_eq_left (Nat.sub_le_sub_right h p)]
 rw [J4 h1 h2 h, ← QO h1 h2]
 exact NE (RU hb hp) rfl (by rw [hl, e]; exact Nat.sub_le_sub_right h2 p) (hu.imp id fun c => by rw [hl, e, c])
theorem Ih (d : List UInt8) (o : Nat) : d.drop o = cut d o d.length := (List.take_of_length_le (by rw [List.length_drop]; exact Nat.le_refl _)).symm
theorem two {l : List UInt8} (h : l.length = 2 * (k + 1)) : ∃ a b r, l = a :: b :: r ∧ r.length = 2 * k := by
 cases l with
 | nil => cases h
 | cons a l =>
  cases l with
  | nil => cases h
  | cons b r => exact ⟨a, b, r, rfl, Nat.succ.inj (Nat.succ.inj h)⟩
theorem QC (k : Nat) : ∀ (old new : List UInt8), old.length = 2 * k → new.length = 2 * k → ∃ m, Gc old new + ws old = 65535 * m + ws new := by
 induction k with
 | zero => exact fun old new h1 h2 => by rw [List.eq_nil_of_length_eq_zero h1, List.eq_nil_of_length_eq_zero h2]; exact ⟨0, rfl⟩
 | succ k ih =>
  intro old new h1 h2
  refine By (two h1) fun a b r e1 h1 => By (two h2) fun c d s e2 h2 => oe1 (ih r s h1 h2) fun m hm => ⟨m + 1, ?_⟩
  rw [e1, e2]
  have ar : ∀ A C M W W' : Nat, A ≤ 65535 → M + W = 65535 * m + W' → 65535 - A + C + M + (A + W) = 65535 * (m + 1) + (C + W') := by lia
  have := ar (a.toNat * 256 + b.toNat) (c.toNat * 256 + d.toNat) _ _ _ (Nl a b) hm
  show 65535 - (a.toNat * 256 + b.toNat) + (c.toNat * 256 + d.toNat) + Gc r s + (a.toNat * 256 + (b.toNat + ws r)) = 65535 * (m + 1) + (c.toNat * 256 + (d.toNat + ws s))
  rw [← Nat.add_assoc (a.toNat * 256), ← Nat.add_assoc (c.toNat * 256)]; exact this
noncomputable def fin (u : Bool) (S : Nat) : Nat := if u && 65535 - Bm S == 0 then 65535 else 65535 - Bm S
theorem RT (u : Bool) (S : Nat) : fin u S ≤ 65535 := by
 unfold fin; split
 ·exact Nat.le_refl _
 ·exact Nat.sub_le _ _
theorem RS {S : Nat} : fin true S ≠ 0 := by
 unfold fin
 rw [Bool.true_and]
 by_cases h : (65535 - Bm S == 0) = true
 ·rw [if_pos h]; decide
 ·rw [if_neg h]; exact fun c => h (beq_iff_eq.mpr c)
theorem Pu {u : Bool} {S S' k : Nat} {old new : List UInt8} (hS : 0 < S) (hS' : 0 < S') (h1 : old.length = 2 * k) (h2 : new.length = 2 * k) (h : S' + ws old = S + ws new) : (if u && GN (fin u S) old new == 0 then 65535 else GN (fin u S) old new) = fin u S' := by
 refine oe1 (QC k old new h1 h2) fun m hm => ?_
 have hK : S + Gc old new = S' + 65535 * m := by
  have : ∀ a b c d x y : Nat, a + x = b + y → c + x = d + y → b + c = a + d := by lia
  exact this _ _ _ _ _ _ h hm
 have l1 := K7 S
 have n1 : (Bm S + Gc old new) % 65535 = S' % 65535 := by rw [Nat.add_mod, Lj, ← Nat.add_mod, hK, Nat.add_mul_mod_self_left]
 have main : ∀ T, 0 < T → T % 65535 = S' % 65535 → (if u && 65535 - Bm T == 0 then 65535 else 65535 - Bm T) = fin u S' := fun T hT hTS => by rw [HS hT hS' hTS]; rfl
 unfold GN
 by_cases hc : (u && 65535 - Bm S == 0) = true
 ·have hf : fin u S = 65535 := if_pos hc
  rw [hf, Nat.sub_self, Nat.zero_add]
  rw [Bool.and_eq_true] at hc
  have hN : Bm S = 65535 := Nat.le_antisymm l1 (Nat.le_of_sub_eq_zero (beq_iff_eq.mp hc.2))
  rw [hN, Nat.add_mod_left] at n1
  by_cases h0 : Gc old new = 0
  ·rw [h0] at n1
   have e : Bm S' = 65535 := Nat.le_antisymm (K7 S') (Nat.le_of_dvd (Li hS') (Nat.dvd_of_mod_eq_zero ((Lj S').trans n1.symm)))
   unfold fin
   rw [h0, e, hc.1]; decide
  ·exact main _ (Nat.pos_of_ne_zero h0) n1
 ·have hf : fin u S = 65535 - Bm S := if_neg hc
  rw [hf, Nat.sub_sub_self l1]
  exact main _ (Nat.add_pos_left (Li hS) _) n1
end
section
variable {t : Bool} {bf cur s' : List UInt8} {b m p : Nat}
theorem Lg (l : List UInt8) (u : UInt8) : num (l ++ [u]) = num l * 256 + u.toNat := by unfold num; rw [List.foldl_append]; rfl
theorem Lf (v k : Nat) : oct v (k + 1) = oct (v / 256) k ++ [(v % 256).toUInt8] := by
 unfold oct
 rw [List.range_succ, List.map_append, List.map_cons, List.map_nil, Nat.add_sub_cancel, Nat.sub_self, Nat.pow_zero, Nat.div_one]
 refine congrArg (·++ _) (List.map_congr_left fun i hi => ?_)
 rw [Nat.div_div_eq_div_mul, Nat.mul_comm, ← Nat.pow_succ, Nat.succ_eq_add_one, Nat.sub_right_comm, Nat.sub_add_cancel (Nat.sub_pos_of_lt (List.mem_range.mp hi))]
theorem CC (k : Nat) : ∀ v, v < 256 ^ k → num (oct v k) = v := by
 induction k with
 | zero => exact fun v h => (Nat.lt_one_iff.mp h).symm
 | succ k ih =>
  intro v h
  rw [Lf, Lg, ih (v / 256) (Nat.div_lt_of_lt_mul (by rw [Nat.mul_comm]; exact h)), B0 (Nat.mod_lt _ #[]), Nat.div_add_mod']
theorem Qy (k : Nat) : ∀ (l : List UInt8), l.length = k → oct (num l) k = l := by
 induction k with
 | zero => intro l h; rw [List.eq_nil_of_length_eq_zero h]; rfl
 | succ k ih =>
  intro l h
  refine (List.eq_nil_or_concat l).elim (fun e => by rw [e] at h; cases h) fun ⟨x, u, e⟩ => ?_
  rw [List.concat_eq_append] at e
  rw [e] at h ⊢
  have hu := UInt8.toNat_lt u
  rw [Lf, Lg, Nat.mul_add_mod_self_right, Nat.mod_eq_of_lt hu, Nat.add_comm, Nat.add_mul_div_right _ _ #[], Nat.div_eq_of_lt hu, Nat.zero_add, ih x (by rw [List.length_append] at h; exact Nat.succ.inj h)]
  exact congrArg (fun w => x ++ [w]) (UInt8.toNat_inj.mp (B0 hu))
theorem D3 {b e l h : Nat} (h1 : l ≤ b) (h2 : e ≤ h) (h3 : b < e) (h4 : b % 2 = 0) : Ao b e l h = (b, (e + 1) / 2 * 2) := by
 unfold Ao
 rw [Nat.max_eq_left h1, Nat.min_eq_left h2, if_neg (Nat.not_le_of_lt h3), Nat.div_mul_cancel (Nat.dvd_of_mod_eq_zero h4)]
theorem D2 {b e l h : Nat} (hh : h ≤ b ∨ e ≤ l) : Ao b e l h = (0, 0) :=
 if_pos (hh.elim (fun c => Nat.le_trans (Nat.min_le_right _ _) (Nat.le_trans c (Nat.le_max_left _ _))) fun c => Nat.le_trans (Nat.min_le_left _ _) (Nat.le_trans c (Nat.le_max_right _ _)))
theorem Og {P b e S S' k : Nat} {u : Bool} {sts : List (Nat × Nat)} (hc : cut bf P (P + 2) = oct (fin u S) 2) (hs : sts.foldl (BN bf cur) (fin u S) = BN bf cur (fin u S) (b, e)) (hbe : b < e) (h1 : (AT bf b e).length = 2 * k) (h2 : (AT cur b e).length = 2 * k) (hS : 0 < S) (hS' : 0 < S') (h : S' + ws (AT bf b e) = S + ws (AT cur b e)) :
  B6 bf cur P sts u = A7 cur P (oct (fin u S') 2) := by
 have hf := RT u S
 have hn : num (oct (fin u S) 2) = fin u S := CC 2 _ (Nat.lt_of_le_of_lt hf #[])
 unfold B6
 rw [hc, hn]
 have h0 : (u && fin u S == 0) = false := by
  cases u with
  | false => rfl
  | true => exact beq_false_of_ne RS
 rw [h0, if_neg #[]]
 dsimp only
 rw [hs]
 unfold BN
 dsimp only
 rw [if_pos hbe, Pu hS hS' h1 h2 h]
theorem Np {P : Nat} {u : Bool} {sts : List (Nat × Nat)} (hc : cut bf P (P + 2) = cut cur P (P + 2)) (hl : P + 2 ≤ cur.length) (hs : ∀ c, sts.foldl (BN bf cur) c = c) : B6 bf cur P sts u = cur := by
 unfold B6
 split
 ·rfl
 ·rename_i h
  dsimp only
  rw [hs, if_neg h, hc, Qy 2 _ (Km hl), Gw hl]
theorem Oh {P : Nat} {sts : List (Nat × Nat)} (hc : cut bf P (P + 2) = [0, 0]) : B6 bf cur P sts true = cur := by
 unfold B6
 rw [hc]; rfl
theorem Qh (h : m % 2 = 0) : (m + 1) / 2 * 2 = m := by lia
theorem Rv (h : m % 2 = 1) : (m + 1) / 2 * 2 = m + 1 := by lia
theorem Kw {d : List UInt8} (hb : b % 2 = 0) (h : b + n ≤ d.length) (hn : n % 2 = 0 ∨ b + n = d.length) : ws (AT d b ((b + n + 1) / 2 * 2)) = ws (cut d b (b + n)) := by
 refine Or.elim (Nat.mod_two_eq_zero_or_one n) (fun h0 => ?_) (fun h1 => ?_)
 ·rw [Qh (by rw [Nat.add_mod, hb, h0])]
  unfold AT
  rw [if_neg (by rw [Km h, Nat.add_sub_cancel_left]; exact Nat.lt_irrefl n)]
 ·have he : b + n = d.length := hn.elim (fun c => by rw [c] at h1; cases h1) id
  rw [Rv (by rw [Nat.add_mod, hb, h1])]
  have hc : cut d b (b + n + 1) = cut d b (b + n) := by
   unfold cut
   rw [List.take_of_length_le (by rw [List.length_drop, ← he]; exact Nat.sub_le_sub_right (Nat.le_succ _) b), List.take_of_length_le (by rw [List.length_drop, ← he]; exact Nat.le_refl _)]
  unfold AT
  rw [hc, if_pos (by rw [Km h, Nat.add_assoc, Nat.add_sub_cancel_left]; exact Nat.lt_succ_self n), Qb]
noncomputable def put (t : Bool) (p : Nat) (u Z : List UInt8) : List UInt8 := if t then A7 Z p u else Z
theorem CB {u Z : List UInt8} (h : t = true → p + u.length ≤ Z.length) : (put t p u Z).length = Z.length := by
 cases t with
 | false => rfl
 | true => exact AU (h rfl)
theorem Ml {u v Z : List UInt8} (h : t = true → p + u.length ≤ Z.length) (hb : b + v.length ≤ Z.length) (hd : t = true → p + u.length ≤ b ∨ b + v.length ≤ p) : A7 (put t p u Z) b v = put t p u (A7 Z b v) := by
 cases t with
 | false => rfl
 | true => exact (hd rfl).elim (fun c => Gy c hb) fun c => (Gy c (h rfl)).symm
theorem K1 {p i e : Nat} {u Z : List UInt8} (h : t = true → p + u.length ≤ Z.length) (hd : t = true → e ≤ p ∨ p + u.length ≤ i) : cut (put t p u Z) i e = cut Z i e := by
 cases t with
 | false => rfl
 | true => exact ES (hd rfl) (h rfl)
theorem Ni {p i : Nat} {u Z : List UInt8} (h : t = true → p + u.length ≤ Z.length) (hd : t = true → i < p ∨ p + u.length ≤ i) : (put t p u Z)[i]? = Z[i]? := by
 cases t with
 | false => rfl
 | true => exact LS (h rfl) (hd rfl)
noncomputable def Gx (hd vis : Bool) (P c : Nat) (Z h s : List UInt8) : List UInt8 := (if vis then A7 (if hd then A7 Z 10 h else Z) P s else (if hd then A7 Z 10 h else Z)).take c
structure GX (vis : Bool) (P c : Nat) (Z h s : List UInt8) : Prop where
 gp : 12 ≤ P
 gc : 12 ≤ c
 gz : 12 ≤ Z.length
 gv : vis = true → P + 2 ≤ c ∧ P + 2 ≤ Z.length
 gh : h.length = 2
 gs : s.length = 2
section
variable {hd vis : Bool} {P c : Nat} {Z h s : List UInt8}
theorem GX.hp (g : GX vis P c Z h s) (ω : hd = true) : 10 + h.length ≤ Z.length := by rw [g.gh]; exact g.gz
theorem GX.lq (g : GX vis P c Z h s) : (put hd 10 h Z).length = Z.length := CB g.hp
theorem GX.sq (g : GX vis P c Z h s) (e : vis = true) : P + s.length ≤ (put hd 10 h Z).length := by rw [g.lq, g.gs]; exact (g.gv e).2
theorem Eh (g : GX vis P c Z h s) : (Gx hd vis P c Z h s).length = min c Z.length := by
 show ((put vis P s (put hd 10 h Z)).take c).length = _
 rw [List.length_take, CB g.sq, g.lq]
theorem RR {u : List UInt8} (g : GX vis P c Z h s) (h1 : b + u.length ≤ c) (h2 : b + u.length ≤ Z.length) (h3 : hd = true → 12 ≤ b) (h4 : vis = true → b + u.length ≤ P ∨ P + 2 ≤ b) : A7 (Gx hd vis P c Z h s) b u = Gx hd vis P c (A7 Z b u) h s := by
 show A7 ((put vis P s (put hd 10 h Z)).take c) b u = (put vis P s (put hd 10 h (A7 Z b u))).take c
 rw [← Ml g.hp h2 (fun e => by rw [g.gh]; exact .inl (h3 e)), ← Ml g.sq (by rw [g.lq]; exact h2) (fun e => by rw [g.gs]; exact (h4 e).symm), BS h1 (by rw [CB g.sq, g.lq]; exact h2)]
theorem TH {h' : List UInt8} (g : GX vis P c Z h s) (e : h'.length = 2) : A7 (Gx true vis P c Z h s) 10 h' = Gx true vis P c Z h' s := by
 have l : (put true 10 h Z).length = Z.length := g.lq
 have l2 : 10 + h'.length ≤ (put true 10 h Z).length := by rw [l, e]; exact g.gz
 show A7 ((put vis P s (put true 10 h Z)).take c) 10 h' = (put vis P s (A7 Z 10 h')).take c
 rw [← DY (g.gh.trans e.symm) (g.hp rfl), ← BS (by rw [e]; exact g.gc) (by rw [CB g.sq]; exact l2), Ml g.sq l2 (fun ω => .inr (by rw [e]; exact g.gp))]; rfl
theorem TG (g : GX true P c Z h s) (e : s'.length = 2) : A7 (Gx hd true P c Z h s) P s' = Gx hd true P c Z h s' := by
 show A7 ((A7 (put hd 10 h Z) P s).take c) P s' = (A7 (put hd 10 h Z) P s').take c
 rw [← BS (by rw [e]; exact (g.gv rfl).1) (by rw [AU (g.sq rfl), g.lq, e]; exact (g.gv rfl).2), DY (g.gs.trans e.symm) (g.sq rfl)]
theorem CP {b e : Nat} (g : GX vis P c Z h s) (h1 : e ≤ c) (h3 : hd = true → e ≤ 10 ∨ 12 ≤ b) (h4 : vis = true → e ≤ P ∨ P + 2 ≤ b) : cut (Gx hd vis P c Z h s) b e = cut Z b e := by
 show cut ((put vis P s (put hd 10 h Z)).take c) b e = _
 rw [Dn h1, K1 g.sq (fun x => by rw [g.gs]; exact h4 x), K1 g.hp (fun x => by rw [g.gh]; exact h3 x)]
theorem Lu (g : GX vis P c Z h s) : cut (Gx true vis P c Z h s) 10 12 = h := by
 show cut ((put vis P s (put true 10 h Z)).take c) 10 12 = h
 rw [Dn g.gc, K1 g.sq (fun x => .inl g.gp)]
 exact BF (by rw [g.gh]) g.gz
theorem PI (g : GX true P c Z h s) : cut (Gx hd true P c Z h s) P (P + 2) = s := by
 show cut ((A7 (put hd 10 h Z) P s).take c) P (P + 2) = s
 rw [Dn (g.gv rfl).1]
 exact BF (by rw [g.gs]) (by rw [g.lq]; exact (g.gv rfl).2)
theorem SL (hv : vis = true) (g : GX vis P c Z h s) (e : s'.length = 2) : A7 (Gx hd vis P c Z h s) P s' = Gx hd vis P c Z h s' := by
 subst hv; exact TG g e
theorem Jn (hv : vis = true) (g : GX vis P c Z h s) : cut (Gx hd vis P c Z h s) P (P + 2) = s := by
 subst hv; exact PI g
end
end
section
variable {u : Bool} {h s : List UInt8} {v : Nat → Bool}
noncomputable def hS (off : Nat) (Z : List UInt8) : Nat := ws (Z.take off)
noncomputable def lS (nf pr off : Nat) (Z : List UInt8) : Nat := (if pr = 1 then 0 else ws (cut Z (aOf nf) (aOf nf + zOf nf + zOf nf)) + ws ([0, 0, 0, u8 pr] ++ oct (Z.length - off) 4)) + ws (Z.drop off)
noncomputable def hF (off : Nat) (Z : List UInt8) : List UInt8 := oct (fin false (hS off Z)) 2
noncomputable def sF (nf pr off : Nat) (Z : List UInt8) : List UInt8 := oct (fin (pr == 17) (lS nf pr off Z)) 2
noncomputable def Gp (kd pr off P c : Nat) (vis : Bool) (Z : List UInt8) : List UInt8 := Gx (kd == 2048) vis P c Z (hF off Z) (sF (Ag kd) pr off Z)
def sumOk (pr off P c : Nat) (vis : Bool) (Z : List UInt8) : Prop := match C7 pr with
 | none => vis = false
 | some pl => P = off + pl ∧ ((vis = true ∧ P + 2 ≤ c ∧ P + 2 ≤ Z.length) ∨ (vis = false ∧ (c < P + 2 ∨ Z.length < P + 2)) ∨ (vis = false ∧ pr = 17 ∧ cut Z P (P + 2) = [0, 0]))
structure Rg (kd pr off P c : Nat) (vis : Bool) (Z new : List UInt8) (b : Nat) : Prop where
 k2 : kd = 2048 ∨ kd = 34525
 o : aOf (Ag kd) + zOf (Ag kd) + zOf (Ag kd) ≤ off
 oc : off ≤ c
 oz : off ≤ Z.length
 even : b % 2 = 0
 pos : 0 < new.length
 ec : b + new.length ≤ c
 ez : b + new.length ≤ Z.length
 n : new.length % 2 = 0 ∨ (b + new.length = Z.length)
 reg : (aOf (Ag kd) ≤ b ∧ b + new.length ≤ aOf (Ag kd) + zOf (Ag kd) + zOf (Ag kd) ∧ new.length % 2 = 0) ∨ off ≤ b
 dis : (b + new.length ≤ P ∨ P + 2 ≤ b)
 p : off ≤ P
 sum : sumOk pr off P c vis Z
 h0 : kd = 2048 → 0 < hS off Z ∧ 0 < hS off (A7 Z b new)
 s0 : vis = true → 0 < lS (Ag kd) pr off Z ∧ 0 < lS (Ag kd) pr off (A7 Z b new)
theorem Eu (nf : Nat) : 8 ≤ aOf nf ∧ 20 ≤ aOf nf + zOf nf + zOf nf ∧ aOf nf % 2 = 0 := by unfold aOf zOf; split <;> decide
section
variable {kd pr off P c b : Nat} {vis : Bool} {Z new : List UInt8}
theorem Rg.o20 (r : Rg kd pr off P c vis Z new b) : 20 ≤ off := Nat.le_trans (Eu _).2.1 r.o
theorem Rg.lt (r : Rg kd pr off P c vis Z new b) : b < b + new.length := Nat.lt_add_of_pos_right r.pos
theorem Rg.gx (r : Rg kd pr off P c vis Z new b) (hh : h.length = 2) (hs : s.length = 2) : GX vis P c Z h s := by
 have h12 := Nat.le_trans (show 12 ≤ 20 by decide) r.o20
 refine ⟨Nat.le_trans h12 r.p, Nat.le_trans h12 r.oc, Nat.le_trans h12 r.oz, fun hv => ?_, hh, hs⟩
 have hsum := r.sum
 unfold sumOk at hsum
 cases hpl : C7 pr with
 | none => rw [hpl, hv] at hsum; cases hsum
 | some pl =>
  rw [hpl] at hsum
  exact oo3 hsum.2 (fun g => g.2) (fun g => by rw [hv] at g; cases g.1) fun g => by rw [hv] at g; cases g.1
theorem Rg.b12 (r : Rg kd pr off P c vis Z new b) (hk : kd = 2048) : 12 ≤ b := by
 have h1 := r.o
 refine Or.elim (r.reg) (fun zq1 => oa2 zq1 fun h ω => ?_) (fun h => ?_)
 ·rw [hk] at h; exact h
 ·rw [hk] at h1; exact Nat.le_trans #[] (Nat.le_trans h1 h)
theorem Rg.zl (r : Rg kd pr off P c vis Z new b) : (A7 Z b new).length = Z.length := AU r.ez
theorem Rg.gx' (r : Rg kd pr off P c vis Z new b) (hh : h.length = 2) (hs : s.length = 2) : GX vis P c (A7 Z b new) h s := by
 have g := r.gx hh hs
 exact ⟨g.gp, g.gc, by rw [r.zl]; exact g.gz, fun hv => by rw [r.zl]; exact g.gv hv, hh, hs⟩
theorem Rg.hsum (r : Rg kd pr off P c vis Z new b) (ha : b + new.length ≤ off) (hn : new.length % 2 = 0) : hS off (A7 Z b new) + ws (cut Z b (b + new.length)) = hS off Z + ws new :=
 LL (p := 0) (Nat.zero_le b) ha r.oz rfl r.even (.inl hn)
theorem Rg.hsum' (r : Rg kd pr off P c vis Z new b) (ha : off ≤ b) : hS off (A7 Z b new) = hS off Z := by
 unfold hS
 rw [BB ha r.ez]
theorem QD (r : Rg kd pr off P c vis Z new b) (h1 : aOf (Ag kd) ≤ b) (h2 : b + new.length ≤ aOf (Ag kd) + zOf (Ag kd) + zOf (Ag kd)) (hn : new.length % 2 = 0) (hp : pr ≠ 1) : lS (Ag kd) pr off (A7 Z b new) + ws (cut Z b (b + new.length)) = lS (Ag kd) pr off Z + ws new := by
 unfold lS
 rw [if_neg hp, if_neg hp, r.zl, BE (Nat.le_trans h2 r.o) r.ez, Nat.add_right_comm, Nat.add_right_comm _ _ (ws (cut Z b (b + new.length))), LL h1 h2 (Nat.le_trans r.o r.oz) (Eu _).2.2 r.even (.inl hn), Nat.add_right_comm _ (ws new), Nat.add_right_comm _ (ws new)]
theorem PA (r : Rg kd pr off P c vis Z new b) (hp : pr = 1) (h2 : b + new.length ≤ off) : lS (Ag kd) pr off (A7 Z b new) = lS (Ag kd) pr off Z := by
 unfold lS
 rw [if_pos hp, if_pos hp, BE h2 r.ez]
theorem SD (r : Rg kd pr off P c vis Z new b) (h1 : off ≤ b) (he : off % 2 = 0) : lS (Ag kd) pr off (A7 Z b new) + ws (cut Z b (b + new.length)) = lS (Ag kd) pr off Z + ws new := by
 unfold lS
 rw [Ih, Ih, r.zl, ES (.inl (Nat.le_trans r.o h1)) r.ez, Nat.add_assoc, LL h1 r.ez (Nat.le_refl _) he r.even r.n]; exact (Nat.add_assoc _ _ _).symm
theorem Sd {m : Nat} : m ≤ (m + 1) / 2 * 2 := by lia
theorem Jl {hd : Bool} {bf cur h s h2 s2 : List UInt8} {Q S S' : Nat} {sts : List (Nat × Nat)} (r : Rg kd pr off P c vis Z new b) (hbf : bf = Gx hd vis P c Z h s) (hcur : cur = Gx hd vis P c (A7 Z b new) h2 s2) (hhd : hd = (kd == 2048)) (lh : h.length = 2) (ls : s.length = 2) (lh2 : h2.length = 2) (ls2 : s2.length = 2)
  (hf : cut bf Q (Q + 2) = oct (fin u S) 2) (hs : ∀ x, sts.foldl (BN bf cur) x = BN bf cur x (b, (b + new.length + 1) / 2 * 2)) (hS : 0 < S) (hS' : 0 < S') (h' : S' + ws (cut Z b (b + new.length)) = S + ws new) : B6 bf cur Q sts u = A7 cur Q (oct (fin u S') 2) := by
 have g := r.gx lh ls
 have g' := r.gx' lh2 ls2
 have hlb : bf.length = min c Z.length := by rw [hbf]; exact Eh g
 have hlc : cur.length = min c Z.length := by rw [hcur, Eh g', r.zl]
 have h3 : hd = true → b + new.length ≤ 10 ∨ 12 ≤ b := fun e => .inr (r.b12 (by rw [hhd] at e; exact beq_iff_eq.mp e))
 have h4 : vis = true → b + new.length ≤ P ∨ P + 2 ≤ b := fun ω => r.dis
 have nn : new.length % 2 = 0 ∨ b + new.length = min c Z.length := r.n.imp id fun h => by rw [← h, Nat.min_eq_right r.ec]
 have hm : b + new.length ≤ min c Z.length := Nat.le_min.mpr ⟨r.ec, r.ez⟩
 have e1 : ws (AT bf b ((b + new.length + 1) / 2 * 2)) = ws (cut Z b (b + new.length)) := by
  rw [Kw r.even (by rw [hlb]; exact hm) (by rw [hlb]; exact nn), hbf, CP g r.ec h3 h4]
 have e2 : ws (AT cur b ((b + new.length + 1) / 2 * 2)) = ws new := by
  rw [Kw r.even (by rw [hlc]; exact hm) (by rw [hlc]; exact nn), hcur, CP g' r.ec h3 h4, BF rfl r.ez]
 have hu : b < (b + new.length + 1) / 2 * 2 := Nat.lt_of_lt_of_le r.lt Sd
 have hq : (b + new.length + 1) / 2 * 2 ≤ min c Z.length + 1 := Nat.le_trans (Nat.div_mul_le_self _ _) (Nat.succ_le_succ hm)
 have hk : (b + new.length + 1) / 2 * 2 - b = 2 * (((b + new.length + 1) / 2 * 2 - b) / 2) := (Nat.mul_div_cancel' (Nat.dvd_sub (Nat.dvd_mul_left 2 _) (Nat.dvd_of_mod_eq_zero r.even))).symm
 exact Og hf (hs _) hu ((BY hu (by rw [hlb]; exact hq)).trans hk) ((BY hu (by rw [hlc]; exact hq)).trans hk) hS hS' (by rw [e1, e2]; exact h')
theorem Sn {bf cur : List UInt8} {n b e P : Nat} {sts : List (Nat × Nat)} (hv : v P = u) (dis : e ≤ P ∨ P + 2 ≤ b) : ([(P, sts)].filter (Ef n b e)).foldl (fun cur r => B6 bf cur r.1 r.2 (v r.1)) cur = if P + 2 ≤ n then B6 bf cur P sts u else cur := by
 have k : Ef n b e (P, sts) = decide (P + 2 ≤ n) := by
  unfold Ef
  rw [← Bool.decide_or, decide_eq_true dis, Bool.and_true]
 rw [List.filter_cons, k, ← hv]
 by_cases h : P + 2 ≤ n
 ·rw [decide_eq_true h, if_pos rfl, if_pos h]; rfl
 ·rw [decide_eq_false h, if_neg Bool.false_ne_true, if_neg h]; rfl
theorem RQ {G s : List UInt8} (r : Rg kd pr off P c vis Z new b) (hG : G = Gx (kd == 2048) vis P c Z (hF off Z) s) (ls : s.length = 2) (hdl : kd = 2048 → Cr G = off) (hv : v 10 = false) : ((C0 kd G b (b + new.length)).filter (Ef G.length b (b + new.length))).foldl (fun cur r => B6 G cur r.1 r.2 (v r.1)) (Gx (kd == 2048) vis P c (A7 Z b new) (hF off Z) s) = Gx (kd == 2048) vis P c (A7 Z b new) (hF off (A7 Z b new)) s := by
 have lh : ∀ Z, (hF off Z).length = 2 := fun Z => A2 ..
 have g := r.gx (lh Z) ls
 have g' := r.gx' (lh Z) ls
 unfold C0
 refine r.k2.elim (fun hk => ?_) fun hk => ?_
 ·have hk' : (kd == 2048) = true := beq_iff_eq.mpr hk
  rw [if_pos hk, Sn hv (.inr (r.b12 hk)), hdl hk]
  rw [hk'] at hG ⊢
  have h12 : 10 + 2 ≤ min c Z.length := Nat.le_min.mpr ⟨g.gc, g.gz⟩
  rw [if_pos (by rw [hG, Eh g]; exact h12)]
  have hfield : cut G 10 (10 + 2) = oct (fin false (hS off Z)) 2 := by rw [hG]; exact Lu g
  refine oa2 (r.h0 hk) fun p1 p2 => r.reg.elim (fun a => oa3 a fun a1 a2 a3 => ?_) fun a1 => ?_
  ·have a4 := Nat.le_trans a2 r.o
   rw [D3 (Nat.zero_le _) a4 r.lt r.even, Jl r hG rfl hk'.symm (lh Z) ls (lh Z) ls hfield (fun x => rfl) p1 p2 (r.hsum a4 a3)]
   exact TH g' (A2 ..)
  ·rw [D2 (.inl a1), show hF off (A7 Z b new) = hF off Z by unfold hF; rw [r.hsum' a1]]
   exact Np (hfield.trans (Lu g').symm) (by rw [Eh g', r.zl]; exact h12) fun c => rfl
 ·rw [if_neg (by rw [hk]; decide), show (kd == 2048) = false by rw [hk]; rfl]; rfl
theorem Ry {G h h2 : List UInt8} (r : Rg kd pr off P c vis Z new b) (he : off % 2 = 0) (hG : G = Gx (kd == 2048) vis P c Z h (sF (Ag kd) pr off Z)) (lh : h.length = 2) (lh2 : h2.length = 2) (hv : v P = (pr == 17)) : ((Cp kd pr off G b (b + new.length)).filter (Ef G.length b (b + new.length))).foldl (fun cur r => B6 G cur r.1 r.2 (v r.1)) (Gx (kd == 2048) vis P c (A7 Z b new) h2 (sF (Ag kd) pr off Z)) = Gx (kd == 2048) vis P c (A7 Z b new) h2 (sF (Ag kd) pr off (A7 Z b new)) := by
 have ls : (sF (Ag kd) pr off Z).length = 2 := A2 ..
 have g := r.gx lh ls
 have g1 := r.gx' lh2 ls
 have vf : vis = false → Gx (kd == 2048) vis P c (A7 Z b new) h2 (sF (Ag kd) pr off Z) = Gx (kd == 2048) vis P c (A7 Z b new) h2 (sF (Ag kd) pr off (A7 Z b new)) := fun hv => by rw [hv]; rfl
 have hlen : G.length = min c Z.length := by rw [hG]; exact Eh g
 have hsum := r.sum
 unfold sumOk at hsum
 unfold Cp
 cases hpl : C7 pr with
 | none => rw [hpl] at hsum; exact vf hsum
 | some pl =>
  rw [hpl] at hsum
  refine oa2 hsum fun hP hsum => ?_
  dsimp only
  rw [← hP, Sn hv r.dis, hlen]
  by_cases hc : P + 2 ≤ min c Z.length
  ·rw [if_pos hc]
   refine oo3 hsum (fun a => ?_) (fun a => absurd hc (a.2.elim (fun x => Nat.not_le_of_lt (Nat.lt_of_le_of_lt (Nat.min_le_left _ _) x)) fun x => Nat.not_le_of_lt (Nat.lt_of_le_of_lt (Nat.min_le_right _ _) x))) (fun a => ?_)
   ·have hfield : cut G P (P + 2) = oct (fin (pr == 17) (lS (Ag kd) pr off Z)) 2 := by rw [hG]; exact Jn a.1 g
    refine oa2 (r.s0 a.1) fun p1 p2 => ?_
    have done : ∀ sts, (∀ x, sts.foldl (BN G (Gx (kd == 2048) vis P c (A7 Z b new) h2 (sF (Ag kd) pr off Z))) x = BN G (Gx (kd == 2048) vis P c (A7 Z b new) h2 (sF (Ag kd) pr off Z)) x (b, (b + new.length + 1) / 2 * 2)) → lS (Ag kd) pr off (A7 Z b new) + ws (cut Z b (b + new.length)) = lS (Ag kd) pr off Z + ws new →
      B6 G (Gx (kd == 2048) vis P c (A7 Z b new) h2 (sF (Ag kd) pr off Z)) P sts (pr == 17) = Gx (kd == 2048) vis P c (A7 Z b new) h2 (sF (Ag kd) pr off (A7 Z b new)) := fun sts hs h' =>
     (Jl r hG rfl rfl lh ls lh2 ls hfield hs p1 p2 h').trans (SL a.1 g1 (A2 ..))
    refine r.reg.elim (fun zq1 => oa3 zq1 fun a1 a2 a3 => ?_) (fun a1 => ?_)
    ·rw [D2 (b := b) (e := b + new.length) (l := off) (.inr (Nat.le_trans a2 r.o))]
     by_cases h1 : pr = 1
     ·rw [if_pos h1, show sF (Ag kd) pr off (A7 Z b new) = sF (Ag kd) pr off Z by unfold sF; rw [PA r h1 (Nat.le_trans a2 r.o)]]
      exact Np (hfield.trans (Jn a.1 g1).symm) (by rw [Eh g1, r.zl]; exact hc) fun c => rfl
     ·rw [if_neg h1]
      refine done _ (fun x => ?_) (QD r a1 a2 a3 h1)
      rw [show (if kd = 2048 then Ao b (b + new.length) 12 20 else Ao b (b + new.length) 8 40) = (b, (b + new.length + 1) / 2 * 2) from r.k2.elim (fun hk => by rw [if_pos hk]; rw [hk] at a1 a2; exact D3 a1 a2 r.lt r.even) fun hk => by rw [if_neg (by rw [hk]; decide)]; rw [hk] at a1 a2; exact D3 a1 a2 r.lt r.even]; rfl
    ·rw [D3 a1 (Nat.le_min.mpr ⟨r.ec, r.ez⟩) r.lt r.even]
     refine done _ (fun x => ?_) (SD r a1 he)
     by_cases h1 : pr = 1
     ·rw [if_pos h1]; rfl
     ·have h0 := Nat.le_trans r.o a1
      rw [if_neg h1, show (if kd = 2048 then Ao b (b + new.length) 12 20 else Ao b (b + new.length) 8 40) = (0, 0) from r.k2.elim (fun hk => by rw [if_pos hk]; rw [hk] at h0; exact D2 (.inl h0)) fun hk => by rw [if_neg (by rw [hk]; decide)]; rw [hk] at h0; exact D2 (.inl h0)]; rfl
   ·rw [show (pr == 17) = true from beq_iff_eq.mpr a.2.1, Oh (by rw [hG, CP g (Nat.le_min.mp hc).1 (fun ω => .inr g.gp) (fun e => by rw [a.1] at e; cases e)]; exact a.2.2)]
    exact vf a.1
  ·rw [if_neg hc]
   exact vf (hsum.elim (fun a => absurd (Nat.le_min.mpr a.2) hc) fun x => x.elim And.left And.left)
theorem P7 (r : Rg kd pr off P c vis Z new b) (he : off % 2 = 0) (hdl : kd = 2048 → Cr (Gp kd pr off P c vis Z) = off) : EW kd pr off (Gp kd pr off P c vis Z) b new = Gp kd pr off P c vis (A7 Z b new) := by
 have lh : ∀ Z, (hF off Z).length = 2 := fun Z => A2 ..
 have ls : (sF (Ag kd) pr off Z).length = 2 := A2 ..
 have g := r.gx (lh Z) ls
 unfold EW Dv
 rw [List.filter_append, List.foldl_append, show A7 (Gp kd pr off P c vis Z) b new = _ from RR g r.ec r.ez (fun e => r.b12 (beq_iff_eq.mp e)) (fun ω => r.dis)]
 rw [RQ (G := Gp kd pr off P c vis Z) r rfl ls hdl (v := fun p => pr == 17 && p != 10) (Bool.and_false _)]
 exact Ry r he rfl (lh Z) (lh _) (v := fun p => pr == 17 && p != 10) (by show (pr == 17 && P != 10) = _; rw [bne_iff_ne.mpr (fun e => absurd (e ▸ g.gp) #[]), Bool.and_true])
theorem Mn (r : Rg kd pr off P c vis Z new b) (he : off % 2 = 0) (hdl : kd = 2048 → Cr (Gp kd pr off P c vis Z) = off) : AD kd pr off (Gp kd pr off P c vis Z) b new = Gp kd pr off P c vis (A7 Z b new) := by
 unfold AD
 split
 ·rename_i h
  have g := r.gx (h := hF off Z) (s := sF (Ag kd) pr off Z) (A2 ..) (A2 ..)
  have hc : cut (Gp kd pr off P c vis Z) b (b + new.length) = cut Z b (b + new.length) := CP g r.ec (fun e => .inr (r.b12 (beq_iff_eq.mp e))) (fun ω => r.dis)
  rw [← h, hc, Gw r.ez]
 ·exact P7 r he hdl
end
end
section
variable {vis : Bool} {l : List UInt8} {da ex i nf pr sa : Nat}
noncomputable def AO (nf : Nat) : Nat := if nf = 2 then 2048 else 34525
theorem CQ (h : nf = 2 ∨ nf = 10) : Ag (AO nf) = nf := by rcases h with rfl | rfl <;> rfl
noncomputable def Ae (nf ex : Nat) : Nat := if nf = 2 then 20 + 4 * ex else if ex = 0 then 40 else 48
noncomputable def FM (nf pr sa da n ex : Nat) : List UInt8 := if nf = 2 then Dl sa da pr n ex else GS sa da pr n ex
noncomputable def Zp (nf pr sa da ex : Nat) (l : List UInt8) : List UInt8 := FM nf pr sa da l.length ex ++ l
theorem FN (sa da pr n ex : Nat) : (GS sa da pr n ex).length = if ex = 0 then 40 else 48 := by
 cases ex with
 | zero => rfl
 | succ ex => rfl
theorem Aq : (FM nf pr sa da n ex).length = Ae nf ex := by
 unfold FM Ae
 split
 ·exact CD ..
 ·exact FN ..
theorem Bf {nf pr sa da ex : Nat} {l : List UInt8} : (Zp nf pr sa da ex l).length = Ae nf ex + l.length := by
 unfold Zp; rw [List.length_append, Aq]
theorem Ga : Ae nf ex % 2 = 0 := by
 unfold Ae; split
 ·lia
 ·split <;> decide
theorem Bt {nf ex : Nat} : aOf nf + zOf nf + zOf nf ≤ Ae nf ex := by
 unfold Ae aOf zOf; split
 ·lia
 ·split <;> decide
theorem NC : (Zp nf pr sa da ex l).drop (Ae nf ex) = l := by
 unfold Zp
 rw [List.drop_append_of_le_length (by rw [Aq]; exact Nat.le_refl _), List.drop_eq_nil_of_le (by rw [Aq]; exact Nat.le_refl _)]; rfl
theorem QX : (Zp nf pr sa da ex l).take (Ae nf ex) = FM nf pr sa da l.length ex := by
 unfold Zp
 rw [List.take_append_of_le_length (by rw [Aq]; exact Nat.le_refl _), List.take_of_length_le (by rw [Aq]; exact Nat.le_refl _)]
theorem SJ (sa da pr n ex v : Nat) : A7 (Dl sa da pr n ex) 12 (oct v 4) = Dl v da pr n ex := rfl
theorem SK (sa da pr n ex v : Nat) : A7 (Dl sa da pr n ex) 16 (oct v 4) = Dl sa v pr n ex := rfl
theorem SH (sa da pr n ex v : Nat) : A7 (GS sa da pr n ex) 8 (oct v 16) = GS v da pr n ex := rfl
theorem SI (sa da pr n ex v : Nat) : A7 (GS sa da pr n ex) 24 (oct v 16) = GS sa v pr n ex := rfl
theorem T5 {nf pr sa da ex v : Nat} : A7 (Zp nf pr sa da ex l) (aOf nf) (oct v (zOf nf)) = Zp nf pr v da ex l := by
 have h := @Bt nf ex
 unfold Zp
 rw [BG (by rw [A2, Aq]; lia)]
 congr 1
 unfold FM aOf zOf
 split
 ·exact SJ ..
 ·exact SH ..
theorem T7 {nf pr sa da ex v : Nat} : A7 (Zp nf pr sa da ex l) (aOf nf + zOf nf) (oct v (zOf nf)) = Zp nf pr sa v ex l := by
 have h := @Bt nf ex
 unfold Zp
 rw [BG (by rw [A2, Aq]; lia)]
 congr 1
 unfold FM aOf zOf
 split
 ·exact SK ..
 ·exact SI ..
theorem Rl {nf pr sa da ex q : Nat} {l new : List UInt8} (h : q + new.length ≤ l.length) : A7 (Zp nf pr sa da ex l) (Ae nf ex + q) new = Zp nf pr sa da ex (A7 l q new) := by
 unfold Zp
 rw [Bv (by rw [Aq]; exact Nat.le_add_right _ _), Aq, Nat.add_sub_cancel_left, AU h]
theorem Bd {x y : List UInt8} {i e : Nat} (h : e ≤ x.length) : cut (x ++ y) i e = cut x i e := by
 rw [← Dn h, List.take_left' rfl]
theorem Gi {x y : List UInt8} {i e n : Nat} (hn : x.length = n) : cut (x ++ y) (n + i) (n + e) = cut y i e := by
 unfold cut; rw [← hn, List.drop_length_add_append, Nat.add_sub_add_left]
theorem OK : cut (Zp nf pr sa da ex l) (aOf nf) (aOf nf + zOf nf) = oct sa (zOf nf) := by
 have h := @Bt nf ex
 unfold Zp
 rw [Bd (by rw [Aq]; lia)]
 unfold FM aOf zOf
 split <;> rfl
theorem JC : cut (Zp nf pr sa da ex l) (aOf nf + zOf nf) (aOf nf + zOf nf + zOf nf) = oct da (zOf nf) := by
 have h := @Bt nf ex
 unfold Zp
 rw [Bd (by rw [Aq]; lia)]
 unfold FM aOf zOf
 split <;> rfl
theorem OL : cut (Zp nf pr sa da ex l) (aOf nf) (aOf nf + zOf nf + zOf nf) = oct sa (zOf nf) ++ oct da (zOf nf) := by
 have h := @Bt nf ex
 unfold Zp
 rw [Bd (by rw [Aq]; lia)]
 unfold FM aOf zOf
 split <;> rfl
theorem EB {nf pr sa da ex i e : Nat} {l : List UInt8} : cut (Zp nf pr sa da ex l) (Ae nf ex + i) (Ae nf ex + e) = cut l i e := Gi Aq
theorem Fp (nf : Nat) : zOf nf % 2 = 0 := by unfold zOf; split <;> decide
theorem SE : lS nf pr (Ae nf ex) (Zp nf pr sa da ex l) = ws ((if pr = 1 then [] else BW nf sa da pr l.length) ++ l) := by
 have he := Fp nf
 unfold lS
 rw [NC, Bf, OL, Nat.add_sub_cancel_left]
 by_cases h1 : pr = 1
 ·rw [if_pos h1, if_pos h1, List.nil_append, Nat.zero_add]
 ·rw [if_neg h1, if_neg h1]
  unfold BW
  rw [List.append_assoc (oct sa _ ++ oct da _ ++ _), List.append_assoc (oct sa _ ++ oct da _), List.append_assoc (oct sa _), BR (x := oct sa (zOf nf)) (by rw [A2]; exact he), BR (x := oct sa (zOf nf)) (by rw [A2]; exact he), BR (x := oct da (zOf nf)) (by rw [A2]; exact he), BR (x := [0, 0, 0, u8 pr]) (show 4 % 2 = 0 from rfl), BR (x := [0, 0, 0, u8 pr]) (show 4 % 2 = 0 from rfl), BR (x := oct l.length 4) (by rw [A2])]
  simp only [Nat.add_assoc]
theorem Rd : hS (Ae 2 ex) (Zp 2 pr sa da ex l) = ws (Dl sa da pr l.length ex) := by
 unfold hS; rw [QX]; rfl
theorem Gh (S : Nat) : fin false S = 65535 - Bm S := rfl
theorem HO {t : Bool} {p n : Nat} {u x l : List UInt8} (h : x.length = n) : put t (n + p) u (x ++ l) = x ++ put t p u l := by
 cases t with
 | false => rfl
 | true => exact (Bv (by rw [h]; exact Nat.le_add_right _ _)).trans (by rw [h, Nat.add_sub_cancel_left]; rfl)
theorem ND : 12 ≤ (Zp nf pr sa da ex l).length := by
 rw [Bf]
 exact Nat.le_trans #[] (Nat.le_trans (Eu nf).2.1 (Nat.le_trans Bt (Nat.le_add_right _ _)))
theorem Pl {nf pr sa da ex pl c : Nat} (hn : nf = 2 ∨ nf = 10) (hv : vis = true → pl + 2 ≤ l.length) (hc : Ae nf ex + l.length ≤ c) :
  Cb nf sa da pr (if vis then A7 l pl (oct (fin (pr == 17) (ws ((if pr = 1 then [] else BW nf sa da pr l.length) ++ l))) 2) else l) ex = Gp (AO nf) pr (Ae nf ex) (Ae nf ex + pl) c vis (Zp nf pr sa da ex l) := by
 have hs : sF (Ag (AO nf)) pr (Ae nf ex) (Zp nf pr sa da ex l) = oct (fin (pr == 17) (ws ((if pr = 1 then [] else BW nf sa da pr l.length) ++ l))) 2 := by
  unfold sF; rw [CQ hn, SE]
 unfold Gp
 rw [hs]
 have hsl : (oct (fin (pr == 17) (ws ((if pr = 1 then [] else BW nf sa da pr l.length) ++ l))) 2).length = 2 := A2 ..
 revert hsl
 generalize oct (fin (pr == 17) (ws ((if pr = 1 then [] else BW nf sa da pr l.length) ++ l))) 2 = s
 clear hs
 intro hsl
 have zl := @Bf nf pr sa da ex l
 have p1 : (AO nf == 2048) = true → 10 + (hF (Ae nf ex) (Zp nf pr sa da ex l)).length ≤ (Zp nf pr sa da ex l).length := fun ω => ND
 show Cb nf sa da pr (put vis pl s l) ex = (put vis (Ae nf ex + pl) s (put (AO nf == 2048) 10 (hF (Ae nf ex) (Zp nf pr sa da ex l)) (Zp nf pr sa da ex l))).take c
 rw [List.take_of_length_le (by rw [CB (fun e => by rw [CB p1, zl, hsl]; exact Nat.add_le_add_left (hv e) _), CB p1, zl]; exact hc)]
 unfold Cb
 rw [CB (t := vis) (fun h => by rw [hsl]; exact hv h)]
 rcases hn with rfl | rfl
 ·have hh : A7 (Zp 2 pr sa da ex l) 10 (hF (Ae 2 ex) (Zp 2 pr sa da ex l)) = Cn (Dl sa da pr l.length ex) 10 [] ++ l := by
   unfold hF
   rw [Rd, Gh]
   exact BG (by rw [A2, Aq]; exact Nat.le_trans #[] (Nat.le_trans (Eu 2).2.1 Bt))
  rw [if_pos rfl, show put (AO 2 == 2048) 10 (hF (Ae 2 ex) (Zp 2 pr sa da ex l)) (Zp 2 pr sa da ex l) = _ from hh, HO]
  have : 12 ≤ (Dl sa da pr l.length ex).length := by rw [CD]; exact Nat.le_trans #[] (Nat.le_add_right 20 _)
  rw [Bx this, CD]; rfl
 ·rw [if_neg #[]]
  exact (HO (FN ..)).symm
theorem QY {kd pr off P c c' : Nat} {Z : List UInt8} (hz : Z.length ≤ c) (hp : 12 ≤ P) (h12 : 12 ≤ Z.length) (hv : vis = true → P + 2 ≤ Z.length) (hc : P + 2 ≤ c' ∨ c' ≤ P) : (Gp kd pr off P c vis Z).take c' = Gp kd pr off P c' (vis && decide (P + 2 ≤ c')) Z := by
 have g : GX vis P c Z (hF off Z) (sF (Ag kd) pr off Z) := ⟨hp, Nat.le_trans h12 hz, h12, fun h => ⟨Nat.le_trans (hv h) hz, hv h⟩, A2 .., A2 ..⟩
 show ((put vis P (sF (Ag kd) pr off Z) (put (kd == 2048) 10 (hF off Z) Z)).take c).take c' = (put (vis && decide (P + 2 ≤ c')) P (sF (Ag kd) pr off Z) (put (kd == 2048) 10 (hF off Z) Z)).take c'
 rw [List.take_of_length_le (i := c) (by rw [CB g.sq, g.lq]; exact hz)]
 refine Or.elim hc (fun hc => ?_) (fun hc => ?_)
 ·rw [decide_eq_true hc, Bool.and_true]
 ·rw [decide_eq_false (Nat.not_le_of_lt (Nat.lt_of_le_of_lt hc (Nat.lt_add_of_pos_right #[]))), Bool.and_false]
  cases vis with
  | false => rfl
  | true => exact BB hc (g.sq rfl)
theorem MD {hd vis : Bool} {P c i : Nat} {Z h s : List UInt8} (g : GX vis P c Z h s) (h1 : i < c) (h3 : hd = true → i < 10 ∨ 12 ≤ i) (h4 : vis = true → i < P ∨ P + 2 ≤ i) : (Gx hd vis P c Z h s)[i]? = Z[i]? := by
 show ((put vis P s (put hd 10 h Z)).take c)[i]? = _
 rw [List.getElem?_take_of_lt h1, Ni g.sq (fun x => by rw [g.gs]; exact h4 x), Ni g.hp (fun x => by rw [g.gh]; exact h3 x)]
end
section
variable {l : List UInt8}
structure Wf (t : T6) : Prop where
 comb : (t.nf = 2 ∧ (t.pr = 17 ∨ t.pr = 1 ∨ t.pr = 6 ∨ t.pr = 47)) ∨ (t.nf = 10 ∧ (t.pr = 58 ∨ t.pr = 17 ∨ t.pr = 6))
 rng : okT t
 ping : Ay t.nf t.pr = true → (t.nf = 2 ∧ (t.dp / 256 = 0 ∨ t.dp / 256 = 8 ∨ t.dp / 256 = 13 ∨ t.dp / 256 = 14)) ∨ (t.nf = 10 ∧ (t.dp / 256 = 128 ∨ t.dp / 256 = 129))
 gre : t.pr = 47 → t.sp = 0 ∧ t.dp = 0
noncomputable def plN (pr : Nat) : Nat := match C7 pr with | some p => p | none => 0
noncomputable def NF (nf pr ex c : Nat) (bare : Bool) : Bool := (C7 pr).isSome && !bare && decide (Ae nf ex + plN pr + 2 ≤ c)
structure Cx (t : T6) (data : List UInt8) (ex c : Nat) (bare : Bool) : Prop where
 wf : Wf t
 ex4 : t.nf = 2 → ex ≤ 2
 ex6 : t.nf = 10 → ex ≤ 1
 hb : bare = true → t.nf = 2 ∧ t.pr = 17
 hd : data.length ≤ 9
 hc : c = 200 ∨ c = Ae t.nf ex + 8 ∨ (c = Ae t.nf ex + 4 ∧ Ay t.nf t.pr = false)
noncomputable def wc (t : T6) (data : List UInt8) (ex c : Nat) (bare : Bool) : List UInt8 := (Bj t data ex bare).take c
theorem Wf.nf {t : T6} (h : Wf t) : t.nf = 2 ∨ t.nf = 10 := by refine Or.elim (h.comb) (fun h => ?_) (fun h => ?_); exact .inl h.1; exact .inr h.1
theorem Hk (t : T6) (data : List UInt8) : (l4z t data).length = (if t.pr = 6 then 20 else 8) + data.length := by
 unfold l4z
 split
 ·rename_i h; rw [if_neg (by lia)]; simp [A2]; lia
 split
 ·rename_i h; rw [if_neg (by lia)]; simp [A2]; lia
 split
 ·simp [A2]; lia
 ·simp; lia
theorem Wf.prs {Q : Nat → Prop} {t : T6} (h : Wf t) (a : Q 17) (b : Q 1) (c : Q 6) (d : Q 47) (e : Q 58) : Q t.pr :=
 h.comb.elim (fun h => oo4 h.2 (fun h => h ▸ a) (fun h => h ▸ b) (fun h => h ▸ c) fun h => h ▸ d) fun h => oo3 h.2 (fun h => h ▸ e) (fun h => h ▸ a) fun h => h ▸ c
theorem MA (t : T6) (data : List UInt8) : 8 ≤ (l4z t data).length := by
 rw [Hk]
 exact Nat.le_trans (by split <;> decide) (Nat.le_add_right _ _)
theorem Pi {t : T6} (h : Wf t) : plN t.pr ≤ 16 ∧ plN t.pr + 2 ≤ (if t.pr = 6 then 20 else 8) := h.prs (Q := fun p => plN p ≤ 16 ∧ plN p + 2 ≤ (if p = 6 then 20 else 8)) #[] #[] #[] #[] #[]
theorem Ph {t : T6} (h : Wf t) (data : List UInt8) : plN t.pr + 2 ≤ (l4z t data).length := by
 rw [Hk]; exact Nat.le_trans (Pi h).2 (Nat.le_add_right _ _)
theorem Pj {t : T6} (h : Wf t) : (plN t.pr + 2 ≤ 8 ∨ 8 ≤ plN t.pr) ∧ (plN t.pr + 2 ≤ 4 ∨ 4 ≤ plN t.pr) := h.prs (Q := fun p => (plN p + 2 ≤ 8 ∨ 8 ≤ plN p) ∧ (plN p + 2 ≤ 4 ∨ 4 ≤ plN p)) #[] #[] #[] #[] #[]
theorem RM (t : T6) (data : List UInt8) (bare : Bool) (h : Wf t) : l4f t data bare = if ((C7 t.pr).isSome && !bare) then A7 (l4z t data) (plN t.pr) (oct (fin (t.pr == 17) (ws ((if t.pr = 1 then [] else BW t.nf t.sa t.da t.pr (l4z t data).length) ++ l4z t data))) 2) else l4z t data := by
 have hp := Ph h data
 have h8 := MA t data
 unfold l4f
 unfold plN at *
 cases hs : C7 t.pr with
 | none => rfl
 | some pl =>
  rw [hs] at hp
  dsimp only at hp ⊢
  cases bare with
  | true => rfl
  | false =>
   rw [if_neg Bool.false_ne_true, show ((some pl).isSome && !false) = true from rfl, if_pos rfl]
   unfold Cn FZ
   generalize (if t.pr = 1 then [] else BW t.nf t.sa t.da t.pr (l4z t data).length) ++ l4z t data = y
   generalize l4z t data = z at *
   unfold G2
   by_cases h17 : t.pr = 17
   ·have hpl : pl = 6 := by rw [h17] at hs; cases hs; rfl
    subst hpl
    have ho : (oct (65535 - Bm (ws y)) 2).length = 2 := A2 ..
    have hc : cut (A7 z 6 (oct (65535 - Bm (ws y)) 2)) 6 8 = oct (65535 - Bm (ws y)) 2 := BF (by rw [ho]) h8
    have hn : num (oct (65535 - Bm (ws y)) 2) = 65535 - Bm (ws y) := CC 2 _ (Nat.lt_of_le_of_lt (Nat.sub_le _ _) #[])
    rw [hc, show (t.pr == 17) = true from beq_iff_eq.mpr h17]
    unfold fin
    rw [Bool.true_and]
    by_cases h0 : 65535 - Bm (ws y) = 0
    ·rw [if_pos ⟨h17, by rw [h0]; rfl⟩, if_pos (beq_iff_eq.mpr h0)]
     show A7 (A7 z 6 (oct (65535 - Bm (ws y)) 2)) 6 [255, 255] = _
     rw [DY ho (by rw [ho]; exact h8)]
     rfl
    ·rw [if_neg (fun c => h0 (by rw [← hn, c.2]; rfl)), if_neg (fun c => h0 (beq_iff_eq.mp c))]
   ·rw [if_neg (fun c => h17 c.1), show (t.pr == 17) = false from beq_false_of_ne h17, Gh]
section
variable {t : T6} {data : List UInt8} {ex c : Nat} {bare : Bool}
theorem Cx.off48 (h : Cx t data ex c bare) : Ae t.nf ex ≤ 48 := by
 unfold Ae
 by_cases e : t.nf = 2
 ·rw [if_pos e]; exact Nat.le_trans (Nat.add_le_add_left (Nat.mul_le_mul_left 4 (h.ex4 e)) 20) #[]
 ·rw [if_neg e]; split <;> decide
theorem GI {nf ex : Nat} : 20 ≤ Ae nf ex := Nat.le_trans (Eu nf).2.1 Bt
theorem Cx.cle (h : Cx t data ex c bare) : Ae t.nf ex + 4 ≤ c ∧ (Ay t.nf t.pr = true → Ae t.nf ex + 8 ≤ c) ∧ (Ae t.nf ex + plN t.pr + 2 ≤ c ∨ c ≤ Ae t.nf ex + plN t.pr) := by
 have o := h.off48
 refine oo3 h.hc (fun e => ?_) (fun e => ?_) (fun e => ?_)
 ·rw [e]
  exact ⟨Nat.le_trans (Nat.add_le_add_right o 4) #[], fun ω => Nat.le_trans (Nat.add_le_add_right o 8) #[], .inl (Nat.le_trans (Nat.add_le_add_right (Nat.add_le_add o (Pi h.wf).1) 2) #[])⟩
 ·rw [e]
  exact ⟨Nat.add_le_add_left #[] _, fun ω => Nat.le_refl _, (Pj h.wf).1.imp (fun q => Nat.add_le_add_left q _) fun q => Nat.add_le_add_left q _⟩
 ·rw [e.1]
  exact ⟨Nat.le_refl _, (fun q => by rw [e.2] at q; cases q), (Pj h.wf).2.imp (fun q => Nat.add_le_add_left q _) fun q => Nat.add_le_add_left q _⟩
theorem Cx.zle (h : Cx t data ex c bare) : Ae t.nf ex + (l4z t data).length ≤ 1000 := by
 rw [Hk]
 have : (if t.pr = 6 then 20 else 8) ≤ 20 := by split <;> decide
 exact Nat.le_trans (Nat.add_le_add h.off48 (Nat.add_le_add this h.hd)) #[]
theorem Cx.pz (h : Cx t data ex c bare) : Ae t.nf ex + plN t.pr + 2 ≤ (Zp t.nf t.pr t.sa t.da ex (l4z t data)).length := by
 rw [Bf]; exact Nat.add_le_add_left (Ph h.wf data) _
theorem Cx.eq (h : Cx t data ex c bare) : wc t data ex c bare = Gp (AO t.nf) t.pr (Ae t.nf ex) (Ae t.nf ex + plN t.pr) c (NF t.nf t.pr ex c bare) (Zp t.nf t.pr t.sa t.da ex (l4z t data)) := by
 unfold wc Bj
 rw [RM t data bare h.wf, Pl (c := 1000) h.wf.nf (fun ω => Ph h.wf data) h.zle]
 rw [QY (by rw [Bf]; exact h.zle) (Nat.le_trans #[] (Nat.le_trans GI (Nat.le_add_right _ _))) ND (fun ω => h.pz) h.cle.2.2]
 rfl
theorem N8 (u : UInt8) (r : List UInt8) : u.toNat * 256 ≤ ws (u :: r) := by
 exact Nat.le_add_right _ _
theorem PH {pr sa da ex : Nat} (he : ex ≤ 2) : 0 < hS (Ae 2 ex) (Zp 2 pr sa da ex l) := by
 rw [Rd]
 have h := N8 (u8 (69 + ex)) ([0] ++ oct (20 + 4 * ex + l.length) 2 ++ [18, 52, 64, 0, 63, u8 pr, 0, 0] ++ oct sa 4 ++ oct da 4 ++ List.replicate (4 * ex) 1)
 have e : ws (Dl sa da pr l.length ex) = ws (u8 (69 + ex) :: ([0] ++ oct (20 + 4 * ex + l.length) 2 ++ [18, 52, 64, 0, 63, u8 pr, 0, 0] ++ oct sa 4 ++ oct da 4 ++ List.replicate (4 * ex) 1)) := rfl
 rw [e]
 refine Nat.lt_of_lt_of_le ?_ h
 rw [show (u8 (69 + ex)).toNat = 69 + ex from B0 (Nat.lt_of_le_of_lt (Nat.add_le_add_left he 69) #[])]
 exact Nat.mul_pos (Nat.lt_of_lt_of_le #[] (Nat.le_add_right 69 ex)) #[]
theorem Pz {nf pr sa da ex : Nat} (hp : 0 < pr ∧ pr < 256) (hl : pr = 1 → 0 < ws l) : 0 < lS nf pr (Ae nf ex) (Zp nf pr sa da ex l) := by
 unfold lS
 rw [NC]
 by_cases h1 : pr = 1
 ·rw [if_pos h1, Nat.zero_add]; exact hl h1
 ·rw [if_neg h1]
  have : pr ≤ ws ([0, 0, 0, u8 pr] ++ oct ((Zp nf pr sa da ex l).length - Ae nf ex) 4) := by
   have e : (u8 pr).toNat = pr := B0 hp.2
   show pr ≤ 0 + (0 + (0 + ((u8 pr).toNat + ws _)))
   rw [e, Nat.zero_add, Nat.zero_add, Nat.zero_add]
   exact Nat.le_add_right _ _
  exact Nat.lt_of_lt_of_le (Nat.lt_of_lt_of_le hp.1 this) (Nat.le_trans (Nat.le_add_left _ _) (Nat.le_add_right _ _))
theorem Kd (h : Wf t) : t.pr = 1 → 0 < ws (l4z t data) := by
 intro e
 unfold l4z
 rw [if_pos (.inl e)]
 rw [List.append_assoc _ [0, 1] data, BR (x := oct t.dp 2 ++ [0, 0] ++ oct t.sp 2) (by rw [List.length_append, List.length_append, A2, A2]; rfl)]
 exact Nat.lt_of_lt_of_le (show 0 < 0 + (1 + ws data) by rw [Nat.zero_add, Nat.add_comm]; exact Nat.succ_pos _) (Nat.le_add_left _ _)
theorem Wf.pr0 (h : Wf t) : 0 < t.pr ∧ t.pr < 256 := h.prs (Q := fun p => 0 < p ∧ p < 256) #[] #[] #[] #[] #[]
theorem LA (h : t.pr = 17) : cut (l4z t data) 6 8 = [0, 0] := by
 unfold l4z
 rw [h]; rfl
theorem Cx.sumOk (h : Cx t data ex c bare) : sumOk t.pr (Ae t.nf ex) (Ae t.nf ex + plN t.pr) c (NF t.nf t.pr ex c bare) (Zp t.nf t.pr t.sa t.da ex (l4z t data)) := by
 have hz := h.pz
 have hb := h.hb
 unfold Mine.sumOk NF plN at *
 cases hs : C7 t.pr with
 | none => rfl
 | some pl =>
  rw [hs] at hz
  refine ⟨rfl, ?_⟩
  cases bare with
  | true =>
   refine oa2 (hb rfl) fun b1 b2 => ?_
   rw [b2] at hs
   cases hs
   exact .inr (.inr ⟨rfl, b2, (EB (i := 6) (e := 8)).trans (LA b2)⟩)
  | false =>
   by_cases hv : Ae t.nf ex + pl + 2 ≤ c
   ·exact .inl ⟨by rw [decide_eq_true hv]; rfl, hv, hz⟩
   ·exact .inr (.inl ⟨by rw [decide_eq_false hv]; rfl, .inl (Nat.lt_of_not_le hv)⟩)
theorem Cx.gx (h : Cx t data ex c bare) : GX (NF t.nf t.pr ex c bare) (Ae t.nf ex + plN t.pr) c (Zp t.nf t.pr t.sa t.da ex (l4z t data)) (hF (Ae t.nf ex) (Zp t.nf t.pr t.sa t.da ex (l4z t data))) (sF (Ag (AO t.nf)) t.pr (Ae t.nf ex) (Zp t.nf t.pr t.sa t.da ex (l4z t data))) := by
 have o := @GI t.nf ex
 refine ⟨Nat.le_trans #[] (Nat.le_trans o (Nat.le_add_right _ _)), Nat.le_trans #[] (Nat.le_trans o (Nat.le_trans (Nat.le_add_right _ 4) h.cle.1)), ND, fun hv => ⟨?_, h.pz⟩, A2 .., A2 ..⟩
 unfold NF at hv
 exact of_decide_eq_true (Bool.and_eq_true_iff.mp hv).2
theorem Cx.lz (h : Cx t data ex c bare) : (wc t data ex c bare).length = min c (Ae t.nf ex + (l4z t data).length) := by
 rw [h.eq]
 unfold Gp
 rw [Eh h.gx, Bf]
theorem Cx.len (h : Cx t data ex c bare) : (wc t data ex c bare).length = min c (Ae t.nf ex + (if t.pr = 6 then 20 else 8) + data.length) := by
 rw [h.lz, Hk, Nat.add_assoc]
theorem Cx.lge (h : Cx t data ex c bare) {k : Nat} (hk : Ae t.nf ex + k ≤ c) (h8 : k ≤ 8) : Ae t.nf ex + k ≤ (wc t data ex c bare).length := by
 rw [h.lz]; exact Nat.le_min.mpr ⟨hk, Nat.add_le_add_left (Nat.le_trans h8 (MA t data)) _⟩
theorem Cx.hcle (h : Cx t data ex c bare) : c ≤ 200 :=
 oo3 h.hc Nat.le_of_eq (fun e => e ▸ Nat.le_trans (Nat.add_le_add_right h.off48 8) #[]) fun e => e.1 ▸ Nat.le_trans (Nat.add_le_add_right h.off48 4) #[]
theorem Cx.ok (h : Cx t data ex c bare) : okL (AO t.nf) t.pr (Ae t.nf ex) (wc t data ex c bare) :=
 ⟨h.lge h.cle.1 #[], fun hi => h.lge (h.cle.2.1 (by rw [CQ h.wf.nf] at hi; exact hi)) #[]⟩
theorem Cx.v (h : Cx t data ex c bare) : V (AO t.nf) t.pr (Ae t.nf ex) (wc t data ex c bare) := by
 have g := h.gx
 have ev := h.eq
 have pr0 := h.wf.pr0
 have o20 := @GI t.nf ex
 have oc := Nat.le_trans (Nat.le_add_right _ 4) h.cle.1
 have oP := Nat.le_trans o20 (Nat.le_add_right _ (plN t.pr))
 have get : ∀ i, i < 10 → (wc t data ex c bare)[i]? = (Zp t.nf t.pr t.sa t.da ex (l4z t data))[i]? := by
  intro i hi
  rw [ev]
  have := Nat.lt_of_lt_of_le hi (show 10 ≤ 20 by decide)
  exact MD g (Nat.lt_of_lt_of_le this (Nat.le_trans o20 oc)) (fun ω => .inl hi) (fun ω => .inl (Nat.lt_of_lt_of_le this oP))
 have hwl : (wc t data ex c bare).length ≤ 1000 := by rw [h.lz]; exact Nat.le_trans (Nat.min_le_right _ _) h.zle
 have hof : Ae t.nf ex ≤ (wc t data ex c bare).length := h.lge (k := 0) oc #[]
 refine Or.elim (h.wf.comb) (fun zq1 => oa2 zq1 fun n hp => ?_) (fun zq2 => oa2 zq2 fun n hp => ?_)
 ·have he := h.ex4 n
  have g68 : cut (wc t data ex c bare) 6 8 = [64, 0] := by
   rw [ev]
   unfold Gp
   rw [CP g (Nat.le_trans #[] (Nat.le_trans o20 oc)) (fun ω => .inl #[]) (fun ω => .inl (Nat.le_trans #[] oP)), n]
   unfold Zp
   rw [Bd (by rw [Aq]; exact Nat.le_trans #[] GI)]
   rfl
  have e0 := get 0 #[]
  have e9 := get 9 #[]
  have e : AO t.nf = 2048 := by rw [n]; rfl
  have eo : Ae t.nf ex = 20 + 4 * ex := by rw [n]; rfl
  rw [n] at e0 e9
  rw [e]
  have u0 : (u8 (69 + ex)).toNat = 64 + (5 + ex) := (B0 (Nat.lt_of_le_of_lt (Nat.add_le_add_left he 69) #[])).trans (Nat.add_assoc 64 5 ex)
  have l16 : 5 + ex < 16 := Nat.lt_of_le_of_lt (Nat.add_le_add_left he 5) #[]
  exact .v4 _ _ _ (u8 (69 + ex)) (u8 t.pr) hwl hof o20 e0 (by rw [u0, Nat.mul_add_div (show 0 < 16 by decide) 4 (5 + ex), Nat.div_eq_of_lt l16]) (by rw [u0, eo, Nat.mul_add_mod 16 4, Nat.mod_eq_of_lt l16, Nat.add_mul, Nat.mul_comm ex]) g68 e9 (B0 pr0.2)
 ·have he := h.ex6 n
  have e0 := get 0 #[]
  have e6 := get 6 #[]
  have e : AO t.nf = 34525 := by rw [n]; rfl
  have eo : Ae t.nf ex = if ex = 0 then 40 else 48 := by rw [n]; rfl
  rw [n] at e0 e6
  rw [e]
  have hp3 : t.pr = 6 ∨ t.pr = 17 ∨ t.pr = 58 := oo3 hp (fun h => .inr (.inr h)) (fun h => .inr (.inl h)) .inl
  refine .v6 _ _ _ 96 (u8 (if ex = 0 then t.pr else 60)) hwl hof (by rw [eo]; split <;> decide) e0 #[] e6 hp3 ?_
  by_cases h0 : ex = 0
  ·left
   rw [if_pos h0, eo, if_pos h0]
   exact ⟨B0 pr0.2, rfl⟩
  ·right
   have h1 : ex = 1 := Nat.le_antisymm he (Nat.pos_of_ne_zero h0)
   have o48 : Ae t.nf ex = 48 := by rw [eo, if_neg h0]
   rw [if_neg h0, o48]
   have get4 : ∀ i, 12 ≤ i → i < 48 → (wc t data ex c bare)[i]? = (Zp t.nf t.pr t.sa t.da ex (l4z t data))[i]? := fun i hi h2 => by
    rw [ev]
    exact MD g (Nat.lt_of_lt_of_le h2 (o48 ▸ oc)) (fun ω => .inr hi) (fun ω => .inl (Nat.lt_of_lt_of_le h2 (by rw [o48]; exact Nat.le_add_right _ _)))
   have g40 := get4 40 #[] #[]
   have g41 := get4 41 #[] #[]
   rw [n, h1] at g40 g41
   exact ⟨rfl, rfl, u8 t.pr, h1 ▸ g40, B0 pr0.2, h1 ▸ g41⟩
theorem V.hdl {kd pr off : Nat} {d : List UInt8} (h : V kd pr off d) : kd = 2048 → Cr d = off := by
 intro e
 cases h with
 | v4 _ _ _ u0 u9 h1 h2 h3 h4 h5 h6 =>
  unfold Cr
  cases d with
  | nil => cases h4
  | cons x r => cases h4; exact h6
 | v6 => cases e
end
end
section
variable {vis : Bool} {l : List UInt8} {b nf v : Nat}
section
variable {t g : T6} {data : List UInt8} {ex c : Nat} {bare : Bool}
theorem Wf.set (h : Wf t) {sa sp da dp : Nat} (r1 : sa < 256 ^ zOf t.nf) (r2 : da < 256 ^ zOf t.nf) (r3 : sp < 65536) (r4 : dp < 65536) (hp : Ay t.nf t.pr = true → dp = t.dp) (hg : t.pr = 47 → sp = 0 ∧ dp = 0) : Wf ⟨t.nf, t.pr, sa, sp, da, dp⟩ :=
 ⟨h.comb, ⟨r1, r2, r3, r4⟩, fun e => by have := h.ping e; rw [← hp e] at this; exact this, hg⟩
theorem Cx.set (h : Cx t data ex c bare) {t' : T6} (hw : Wf t') (hn : t'.nf = t.nf) (hp : t'.pr = t.pr) : Cx t' data ex c bare :=
 ⟨hw, by rw [hn]; exact h.ex4, by rw [hn]; exact h.ex6, by rw [hn, hp]; exact h.hb, h.hd, by rw [hn, hp]; exact h.hc⟩
theorem Ss : 0 < zOf nf := by unfold zOf; split <;> decide
theorem kd2 : AO nf = 2048 ∨ AO nf = 34525 := by unfold AO; split; exact .inl rfl; exact .inr rfl
theorem PG (hn : nf = 2 ∨ nf = 10) (e : AO nf = 2048) : nf = 2 := hn.elim id fun e' => by rw [e'] at e; cases e
theorem Mm {nf pr P sa da sa' da' b m : Nat} {l l' new : List UInt8} (hm : new.length = m) (hn : nf = 2 ∨ nf = 10) (oc : Ae nf ex ≤ c) (hP : Ae nf ex ≤ P) (hsum : sumOk pr (Ae nf ex) P c vis (Zp nf pr sa da ex l)) (he : nf = 2 → ex ≤ 2) (hp : 0 < pr ∧ pr < 256) (hl : pr = 1 → 0 < ws l) (hl' : pr = 1 → 0 < ws l') (hs : A7 (Zp nf pr sa da ex l) b new = Zp nf pr sa' da' ex l') (even : b % 2 = 0) (pos : 0 < m) (ec : b + m ≤ c) (ez : b + m ≤ Ae nf ex + l.length) (n : m % 2 = 0 ∨ b + m = Ae nf ex + l.length)
  (reg : (aOf nf ≤ b ∧ b + m ≤ aOf nf + zOf nf + zOf nf ∧ m % 2 = 0) ∨ Ae nf ex ≤ b) (dis : b + m ≤ P ∨ P + 2 ≤ b) (hdl : AO nf = 2048 → Cr (Gp (AO nf) pr (Ae nf ex) P c vis (Zp nf pr sa da ex l)) = Ae nf ex) : AD (AO nf) pr (Ae nf ex) (Gp (AO nf) pr (Ae nf ex) P c vis (Zp nf pr sa da ex l)) b new = Gp (AO nf) pr (Ae nf ex) P c vis (Zp nf pr sa' da' ex l') := by
 subst hm
 have zl : (Zp nf pr sa da ex l).length = Ae nf ex + l.length := Bf
 have fk := CQ hn
 rw [← zl] at ez n
 have rg : Rg (AO nf) pr (Ae nf ex) P c vis (Zp nf pr sa da ex l) new b :=
  ⟨kd2, by rw [fk]; exact Bt, oc, by rw [zl]; exact Nat.le_add_right _ _, even, pos, ec, ez, n, by rw [fk]; exact reg, dis, hP, hsum, fun e => by
   have n2 := PG hn e
   have he := he n2
   rw [hs, n2]; exact ⟨PH he, PH he⟩, fun ω => by rw [hs, fk]; exact ⟨Pz hp hl, Pz hp hl'⟩⟩
 rw [Mn rg Ga hdl, hs]
theorem adr (hb : b = aOf nf ∨ b = aOf nf + zOf nf) : aOf nf ≤ b ∧ b + zOf nf ≤ aOf nf + zOf nf + zOf nf ∧ b % 2 = 0 :=
 hb.elim (fun e => by rw [e]; exact ⟨Nat.le_refl _, Nat.le_add_right _ _, (Eu nf).2.2⟩) fun e => by rw [e]; exact ⟨Nat.le_add_right _ _, Nat.le_refl _, by rw [Nat.add_mod, (Eu nf).2.2, Fp]⟩
theorem T8 {nf pr sa da sa' da' b v : Nat} (hb : (b = aOf nf ∧ sa' = v ∧ da' = da) ∨ (b = aOf nf + zOf nf ∧ sa' = sa ∧ da' = v)) : A7 (Zp nf pr sa da ex l) b (oct v (zOf nf)) = Zp nf pr sa' da' ex l :=
 hb.elim (fun e => by rw [e.1, e.2.1, e.2.2]; exact T5) fun e => by rw [e.1, e.2.1, e.2.2]; exact T7
theorem Pe {nf pr P sa da sa' da' b v : Nat} (hb : (b = aOf nf ∧ sa' = v ∧ da' = da) ∨ (b = aOf nf + zOf nf ∧ sa' = sa ∧ da' = v)) (hn : nf = 2 ∨ nf = 10) (oc : Ae nf ex ≤ c) (hP : Ae nf ex ≤ P) (hsum : sumOk pr (Ae nf ex) P c vis (Zp nf pr sa da ex l)) (he : nf = 2 → ex ≤ 2) (hp : 0 < pr ∧ pr < 256) (hl : pr = 1 → 0 < ws l) (hdl : AO nf = 2048 → Cr (Gp (AO nf) pr (Ae nf ex) P c vis (Zp nf pr sa da ex l)) = Ae nf ex) :
  AD (AO nf) pr (Ae nf ex) (Gp (AO nf) pr (Ae nf ex) P c vis (Zp nf pr sa da ex l)) b (oct v (zOf nf)) = Gp (AO nf) pr (Ae nf ex) P c vis (Zp nf pr sa' da' ex l) :=
 have a := adr (hb.imp And.left And.left)
 have o := Nat.le_trans a.2.1 (@Bt nf ex)
 Mm (A2 ..) hn oc hP hsum he hp hl hl (T8 hb) a.2.2 Ss (Nat.le_trans o oc) (Nat.le_trans o (Nat.le_add_right _ _)) (.inl (Fp nf)) (.inl ⟨a.1, a.2.1, Fp nf⟩) (.inl (Nat.le_trans o hP)) hdl
theorem Cx.addr (h : Cx t data ex c bare) {sa' da' v b : Nat} (hb : (b = aOf t.nf ∧ sa' = v ∧ da' = t.da) ∨ (b = aOf t.nf + zOf t.nf ∧ sa' = t.sa ∧ da' = v)) (hw : Wf ⟨t.nf, t.pr, sa', t.sp, da', t.dp⟩) : AD (AO t.nf) t.pr (Ae t.nf ex) (wc t data ex c bare) b (oct v (zOf t.nf)) = wc ⟨t.nf, t.pr, sa', t.sp, da', t.dp⟩ data ex c bare := by
 have hx : Cx ⟨t.nf, t.pr, sa', t.sp, da', t.dp⟩ data ex c bare := h.set hw rfl rfl
 have hd := h.v.hdl
 rw [h.eq] at hd ⊢
 exact (Pe hb h.wf.nf (Nat.le_trans (Nat.le_add_right _ 4) h.cle.1) (Nat.le_add_right _ _) h.sumOk h.ex4 h.wf.pr0 (Kd h.wf) hd).trans hx.eq.symm
theorem Cx.l4put (h : Cx t data ex c bare) {sp' dp' v q : Nat} (hl : A7 (l4z t data) q (oct v 2) = l4z ⟨t.nf, t.pr, t.sa, sp', t.da, dp'⟩ data) (hw : Wf ⟨t.nf, t.pr, t.sa, sp', t.da, dp'⟩) (hq : q % 2 = 0) (hq4 : q + 2 ≤ 8) (hqc : Ae t.nf ex + q + 2 ≤ c) (hdis : q + 2 ≤ plN t.pr ∨ plN t.pr + 2 ≤ q) : AD (AO t.nf) t.pr (Ae t.nf ex) (wc t data ex c bare) (Ae t.nf ex + q) (oct v 2) = wc ⟨t.nf, t.pr, t.sa, sp', t.da, dp'⟩ data ex c bare := by
 have hx : Cx ⟨t.nf, t.pr, t.sa, sp', t.da, dp'⟩ data ex c bare := h.set hw rfl rfl
 have h8 := Nat.le_trans hq4 (MA t data)
 have hd := h.v.hdl
 rw [h.eq] at hd ⊢
 exact (Mm (sa' := t.sa) (da' := t.da) (l' := l4z ⟨t.nf, t.pr, t.sa, sp', t.da, dp'⟩ data) (A2 ..) h.wf.nf (Nat.le_trans (Nat.le_add_right _ 4) h.cle.1) (Nat.le_add_right _ _) h.sumOk h.ex4 h.wf.pr0 (Kd h.wf) (Kd hw) (by rw [Rl (by rw [A2]; exact h8), hl]) (by rw [Nat.add_mod, Ga, hq]) #[] hqc (Nat.add_le_add_left h8 _) (.inl rfl) (.inr (Nat.le_add_right _ _)) (hdis.imp (fun q => Nat.add_le_add_left q _) fun q => Nat.add_le_add_left q _) hd).trans hx.eq.symm
theorem I0 (h : t.pr = 17) : l4z t data = oct t.sp 2 ++ oct t.dp 2 ++ oct (8 + data.length) 2 ++ [0, 0] ++ data := by
 unfold l4z; rw [h]; rfl
theorem Ll (h : t.pr = 6) : l4z t data = oct t.sp 2 ++ oct t.dp 2 ++ [1, 2, 3, 4, 250, 6, 7, 8, 80, 24, 2, 0, 0, 0, 0, 0] ++ data := by
 unfold l4z; rw [h]; rfl
theorem QF (h : t.pr = 6 ∨ t.pr = 17) (v : Nat) : A7 (l4z t data) 0 (oct v 2) = l4z ⟨t.nf, t.pr, t.sa, v, t.da, t.dp⟩ data := by
 refine Or.elim h (fun h => ?_) (fun h => ?_)
 ·rw [Ll h, Ll (t := ⟨t.nf, t.pr, t.sa, v, t.da, t.dp⟩) h]; rfl
 ·rw [I0 h, I0 (t := ⟨t.nf, t.pr, t.sa, v, t.da, t.dp⟩) h]; rfl
theorem QE (h : t.pr = 6 ∨ t.pr = 17) (v : Nat) : A7 (l4z t data) 2 (oct v 2) = l4z ⟨t.nf, t.pr, t.sa, t.sp, t.da, v⟩ data := by
 refine Or.elim h (fun h => ?_) (fun h => ?_)
 ·rw [Ll h, Ll (t := ⟨t.nf, t.pr, t.sa, t.sp, t.da, v⟩) h]; rfl
 ·rw [I0 h, I0 (t := ⟨t.nf, t.pr, t.sa, t.sp, t.da, v⟩) h]; rfl
theorem PB (h : t.pr = 1 ∨ t.pr = 58) (v : Nat) : A7 (l4z t data) 4 (oct v 2) = l4z ⟨t.nf, t.pr, t.sa, v, t.da, t.dp⟩ data := by
 unfold l4z
 dsimp only
 rw [if_pos h, if_pos h]; rfl
theorem Wf.icmp (h : Wf t) : Ay t.nf t.pr = decide (t.pr = 1 ∨ t.pr = 58) := by
 refine Or.elim (h.comb) (fun zq1 => oa2 zq1 fun n zq2 => oo4 zq2 (fun h => ?_) (fun h => ?_) (fun h => ?_) (fun h => ?_)) (fun zq3 => oa2 zq3 fun n zq4 => oo3 zq4 (fun h => ?_) (fun h => ?_) (fun h => ?_)) <;> rw [n, h] <;> rfl
theorem Wf.ans (h : Wf t) (hi : Ay t.nf t.pr = true) : 0 ≤ BI t.nf (t.dp / 256) ∧ N3.lookup ((t.dp / 256 : Nat) : Int) = some (BI t.nf (t.dp / 256)) ∧ (CR t.nf).contains ((t.dp / 256 : Nat) : Int) = false := by
 refine Or.elim (h.ping hi) (fun zq1 => oa2 zq1 fun n zq2 => oo4 zq2 (fun h => ?_) (fun h => ?_) (fun h => ?_) (fun h => ?_)) (fun zq3 => oa2 zq3 fun n zq4 => Or.elim zq4 (fun h => ?_) (fun h => ?_)) <;> rw [n, h] <;> decide
theorem Wf.okA (h : Wf t) : okA t := ⟨h.icmp, fun e => ⟨(h.ans e).1, (h.ans e).2.1⟩⟩
theorem Cx.cut_l4 (h : Cx t data ex c bare) {i e : Nat} (he : Ae t.nf ex + e ≤ c) (hd : NF t.nf t.pr ex c bare = true → e ≤ plN t.pr ∨ plN t.pr + 2 ≤ i) : cut (wc t data ex c bare) (Ae t.nf ex + i) (Ae t.nf ex + e) = cut (l4z t data) i e := by
 rw [h.eq]
 unfold Gp
 rw [CP h.gx he (fun ω => .inr (Nat.le_trans #[] (Nat.le_trans GI (Nat.le_add_right _ _)))) (fun hv => (hd hv).imp (fun q => Nat.add_le_add_left q _) fun q => Nat.add_le_add_left q _), EB]
theorem Oc (v : Nat) (r : List UInt8) : cut (oct v 2 ++ r) 0 1 = [(v / 256 % 256).toUInt8] := by
 show [((v / 256 ^ 1 % 256).toUInt8)] = _
 rw [Nat.pow_one]
theorem Nm (u : UInt8) : num [u] = u.toNat := by simp [num]
theorem Cx.kind (h : Cx t data ex c bare) (hi : Ay t.nf t.pr = true) : num (cut (wc t data ex c bare) (Ae t.nf ex) (Ae t.nf ex + 1)) = t.dp / 256 := by
 have h8 := h.cle.2.1 hi
 have hp : t.pr = 1 ∨ t.pr = 58 := by have := h.wf.icmp; rw [hi] at this; exact of_decide_eq_true this.symm
 have hr := h.wf.rng.2.2.2
 have hpl : plN t.pr = 2 := by refine Or.elim hp (fun h => ?_) (fun h => ?_) <;> rw [h] <;> rfl
 have e := h.cut_l4 (i := 0) (e := 1) (Nat.le_trans (Nat.add_le_add_left #[] _) h8) (fun ω => .inl (by rw [hpl]; decide))
 rw [Nat.add_zero] at e
 rw [e]
 unfold l4z
 rw [if_pos hp, List.append_assoc, List.append_assoc, List.append_assoc, Oc, Nm, B0 (Nat.mod_lt _ #[]), Nat.mod_eq_of_lt (Nat.div_lt_of_lt_mul (show t.dp < 256 * 256 from hr))]
theorem Cx.notErr (h : Cx t data ex c bare) : FL (AO t.nf) t.pr (Ae t.nf ex) (wc t data ex c bare) = false := by
 unfold FL
 rw [CQ h.wf.nf]
 cases hi : Ay t.nf t.pr with
 | false => rfl
 | true => rw [h.kind hi, (h.wf.ans hi).2.2]; rfl
theorem Wf.taken (h : Wf t) (hg : Wf g) (hn : g.nf = t.nf) (hp : g.pr = t.pr) (src : Bool) : Wf (taken t g src) := by
 refine oa4 (h.rng) fun r1 r2 r3 r4 => ?_
 refine oa4 (hg.rng) fun s1 s2 s3 s4 => ?_
 rw [hn] at s1 s2
 have g1 := h.gre
 have g2 := hg.gre
 rw [hp] at g2
 have hic := h.icmp
 unfold Mine.taken
 split
 ·by_cases h47 : t.pr = 47
  ·exact h.set s1 r2 s3 r4 (fun ω => rfl) (fun ω => ⟨(g2 h47).1, (g1 h47).2⟩)
  ·exact h.set s1 r2 s3 r4 (fun ω => rfl) (fun e => absurd e h47)
 ·split
  ·rename_i hpp
   exact h.set r1 s2 s3 r4 (fun ω => rfl) (fun e => by rw [e] at hpp; exact absurd hpp #[])
  ·rename_i hpp
   exact h.set r1 s2 r3 s4 (fun e => by rw [hic, decide_eq_false hpp] at e; cases e) (fun e => ⟨(g1 e).1, (g2 e).2⟩)
theorem Wf.gre47 (h : Wf t) : ¬ (t.pr = 6 ∨ t.pr = 17) → Ay t.nf t.pr = false → t.pr = 47 := by
 rw [h.icmp]
 exact h.prs (Q := fun p => ¬ (p = 6 ∨ p = 17) → decide (p = 1 ∨ p = 58) = false → p = 47) #[] #[] #[] #[] #[]
theorem Pk (h : t.pr = 6 ∨ t.pr = 17) : 6 ≤ plN t.pr ∧ ¬ (t.pr = 1 ∨ t.pr = 58) := h.elim (fun h => by rw [h]; decide) fun h => by rw [h]; decide
theorem Wf.pp (h : Wf t) (hi : Ay t.nf t.pr = true) : (t.pr = 1 ∨ t.pr = 58) ∧ plN t.pr = 2 := by
 have := h.icmp
 rw [hi] at this
 have hp := of_decide_eq_true this.symm
 exact ⟨hp, hp.elim (fun h => by rw [h]; rfl) fun h => by rw [h]; rfl⟩
theorem Ba {src : Bool} : (taken t g src).nf = t.nf ∧ (taken t g src).pr = t.pr := by
 unfold taken; split
 ·exact ⟨rfl, rfl⟩
 ·split <;> exact ⟨rfl, rfl⟩
theorem Cx.rewrite (h : Cx t data ex c bare) (hg : Wf g) (hn : g.nf = t.nf) (hp : g.pr = t.pr) (src : Bool) : Bc (AO t.nf) t.pr (Ae t.nf ex) (wc t data ex c bare) g src = wc (taken t g src) data ex c bare := by
 refine oa4 (h.wf.rng) fun r1 r2 r3 r4 => ?_
 refine oa4 (hg.rng) fun s1 s2 s3 s4 => ?_
 rw [hn] at s1 s2
 have fk := CQ h.wf.nf
 have hcl := h.cle
 have g1 := h.wf.gre
 have g2 := hg.gre
 rw [hp] at g2
 have hic := h.wf.icmp
 have A : rwA (AO t.nf) t.pr (Ae t.nf ex) (wc t data ex c bare) g src = wc ⟨t.nf, t.pr, if src then g.sa else t.sa, t.sp, if src then t.da else g.da, t.dp⟩ data ex c bare ∧ Wf ⟨t.nf, t.pr, if src then g.sa else t.sa, t.sp, if src then t.da else g.da, t.dp⟩ := by
  unfold rwA
  rw [hn]
  cases src with
  | true =>
   have w : Wf ⟨t.nf, t.pr, g.sa, t.sp, t.da, t.dp⟩ := h.wf.set s1 r2 r3 r4 (fun ω => rfl) g1
   exact ⟨h.addr (v := g.sa) (.inl ⟨rfl, rfl, rfl⟩) w, w⟩
  | false =>
   have w : Wf ⟨t.nf, t.pr, t.sa, t.sp, g.da, t.dp⟩ := h.wf.set r1 s2 r3 r4 (fun ω => rfl) g1
   exact ⟨h.addr (v := g.da) (.inr ⟨rfl, rfl, rfl⟩) w, w⟩
 refine oa2 A fun A wA => ?_
 have hA := h.set wA rfl rfl
 have tw := h.wf.taken hg hn hp src
 unfold Bc HJ
 rw [if_pos hp.symm, A]
 unfold EX
 rw [fk]
 by_cases h617 : t.pr = 6 ∨ t.pr = 17
 ·rw [if_pos h617]
  have hpl := (Pk h617).1
  dsimp only
  cases src with
  | true =>
   have e : taken t g true = ⟨t.nf, t.pr, g.sa, g.sp, t.da, t.dp⟩ := rfl
   rw [e] at tw ⊢
   exact hA.l4put (q := 0) (v := g.sp) (QF h617 _) tw rfl #[] (Nat.le_trans (Nat.add_le_add_left #[] _) hcl.1) (.inl (Nat.le_trans #[] hpl))
  | false =>
   have e : taken t g false = ⟨t.nf, t.pr, t.sa, t.sp, g.da, g.dp⟩ := by unfold taken; rw [if_neg Bool.false_ne_true, if_neg (Pk h617).2]
   rw [e] at tw ⊢
   exact hA.l4put (q := 2) (v := g.dp) (QE h617 _) tw rfl #[] hcl.1 (.inl (Nat.le_trans #[] hpl))
 ·rw [if_neg h617]
  cases hi : Ay t.nf t.pr with
  | true =>
   have hpp := (h.wf.pp hi).1
   have hpl := (h.wf.pp hi).2
   have h8 := hcl.2.1 hi
   rw [h.kind hi, if_pos ⟨rfl, (h.wf.ans hi).1⟩]
   dsimp only
   have e : taken t g src = ⟨t.nf, t.pr, if src then g.sa else t.sa, g.sp, if src then t.da else g.da, t.dp⟩ := by
    unfold taken
    cases src with
    | true => rfl
    | false => rw [if_neg Bool.false_ne_true, if_pos hpp]; rfl
   rw [e] at tw ⊢
   exact hA.l4put (q := 4) (v := g.sp) (PB hpp _) tw rfl #[] (Nat.le_trans (Nat.add_le_add_left (show 4 + 2 ≤ 8 by decide) (Ae t.nf ex)) h8) (.inr (by rw [show plN _ = 2 from hpl]; decide))
  | false =>
   have h47 := h.wf.gre47 h617 hi
   rw [if_neg (fun c => absurd c.1 Bool.false_ne_true)]
   dsimp only
   refine oa2 (g1 h47) fun z1 z2 => ?_
   refine oa2 (g2 h47) fun z3 z4 => ?_
   have e : taken t g src = ⟨t.nf, t.pr, if src then g.sa else t.sa, t.sp, if src then t.da else g.da, t.dp⟩ := by
    unfold taken
    cases src with
    | true => rw [if_pos rfl, z1, z3]; rfl
    | false => rw [if_neg Bool.false_ne_true, if_neg (by rw [h47]; decide), z2, z4]; rfl
   rw [e]
theorem Cx.tup (h : Cx t data ex c bare) : DX (wc t data ex c bare) (Ag (AO t.nf)) t.pr (Ae t.nf ex) = t := by
 refine oa4 (h.wf.rng) fun r1 r2 r3 r4 => ?_
 have fk := CQ h.wf.nf
 have hcl := h.cle
 have hic := h.wf.icmp
 have ho := @Bt t.nf ex
 have ha := Eu t.nf
 have cutZ : ∀ i e, e ≤ Ae t.nf ex → (t.nf = 2 → 12 ≤ i) → cut (wc t data ex c bare) i e = cut (Zp t.nf t.pr t.sa t.da ex (l4z t data)) i e := fun i e he hi => by
  rw [h.eq]
  exact CP h.gx (Nat.le_trans he (Nat.le_trans (Nat.le_add_right _ 4) hcl.1)) (fun hk => .inr (hi (PG h.wf.nf (beq_iff_eq.mp hk)))) (fun ω => .inl (Nat.le_trans he (Nat.le_add_right _ _)))
 unfold DX
 rw [fk, cutZ _ _ (Nat.le_trans (Nat.le_add_right _ _) ho) (fun n => by rw [n]; decide), cutZ _ _ ho (fun n => by rw [n]; decide), OK, JC, CC _ _ r1, CC _ _ r2]
 have P : Dy (wc t data ex c bare) t.nf t.pr (Ae t.nf ex) = (t.sp, t.dp) := by
  unfold Dy
  by_cases h617 : t.pr = 6 ∨ t.pr = 17
  ·rw [if_pos h617]
   have hpl := (Pk h617).1
   have e1 := h.cut_l4 (i := 0) (e := 2) (Nat.le_trans (Nat.add_le_add_left #[] _) hcl.1) (fun ω => .inl (Nat.le_trans #[] hpl))
   have e2 := h.cut_l4 (i := 2) (e := 4) hcl.1 (fun ω => .inl (Nat.le_trans #[] hpl))
   rw [Nat.add_zero] at e1
   rw [e1, e2]
   have l1 : cut (l4z t data) 0 2 = oct t.sp 2 ∧ cut (l4z t data) 2 4 = oct t.dp 2 := by
    refine Or.elim h617 (fun h => ?_) (fun h => ?_)
    ·rw [Ll h]; exact ⟨rfl, rfl⟩
    ·rw [I0 h]; exact ⟨rfl, rfl⟩
   rw [l1.1, l1.2, CC 2 _ r3, CC 2 _ r4]
  ·rw [if_neg h617]
   cases hi : Ay t.nf t.pr with
   | true =>
    have hpp := (h.wf.pp hi).1
    have hpl := (h.wf.pp hi).2
    have h8 := hcl.2.1 hi
    rw [if_pos rfl, h.kind hi, if_pos (h.wf.ans hi).1]
    have e1 := h.cut_l4 (i := 0) (e := 2) (Nat.le_trans (Nat.add_le_add_left #[] _) h8) (fun ω => .inl (by rw [hpl]; decide))
    have e2 := h.cut_l4 (i := 4) (e := 6) (Nat.le_trans (Nat.add_le_add_left #[] _) h8) (fun ω => .inr (by rw [hpl]; decide))
    rw [Nat.add_zero] at e1
    rw [e1, e2]
    have l1 : cut (l4z t data) 0 2 = oct t.dp 2 ∧ cut (l4z t data) 4 6 = oct t.sp 2 := by
     unfold l4z
     rw [if_pos hpp]
     exact ⟨rfl, rfl⟩
    rw [l1.1, l1.2, CC 2 _ r3, CC 2 _ r4]
   | false =>
    have h47 := h.wf.gre47 h617 hi
    rw [if_neg Bool.false_ne_true, (h.wf.gre h47).1, (h.wf.gre h47).2]
 rw [P]
end
end
def kOk (nf kind : Nat) : Prop := (nf = 2 ∧ (kind = 3 ∨ kind = 11 ∨ kind = 4 ∨ kind = 12 ∨ kind = 5)) ∨ (nf = 10 ∧ (kind = 1 ∨ kind = 3 ∨ kind = 2 ∨ kind = 4))
theorem kOk.facts {nf kind : Nat} (h : kOk nf kind) : 0 < kind ∧ kind < 256 ∧ ¬ 0 ≤ BI nf kind ∧ (CR nf).contains (kind : Int) = true ∧ (nf = 2 ∨ nf = 10) := by
 refine Or.elim h (fun zq1 => oa2 zq1 fun n zq2 => oo5 zq2 (fun h => ?_) (fun h => ?_) (fun h => ?_) (fun h => ?_) (fun h => ?_)) (fun zq3 => oa2 zq3 fun n zq4 => oo4 zq4 (fun h => ?_) (fun h => ?_) (fun h => ?_) (fun h => ?_)) <;> rw [n, h] <;> decide
structure Er (nf oa ob kind : Nat) (inner : List UInt8) : Prop where
 k : kOk nf kind
 a : oa < 256 ^ zOf nf
 b : ob < 256 ^ zOf nf
 l : inner.length ≤ 200
 m : 4 ≤ inner.length
section
variable {nf oa ob kind : Nat} {inner : List UInt8}
theorem Er.fam (h : Er nf oa ob kind inner) : nf = 2 ∨ nf = 10 := h.k.facts.2.2.2.2
theorem Ej : (Az kind inner).length = 8 + inner.length := by unfold Az; rw [List.length_append]; rfl
theorem Rc {nf : Nat} : 0 < Aw nf ∧ Aw nf < 256 := by unfold Aw; split <;> decide
theorem RP {nf : Nat} : (Aw nf == 17) = false := by unfold Aw; split <;> rfl
theorem RJ {nf : Nat} : Ae nf 0 ≤ 40 := by unfold Ae; split <;> decide
theorem Er.z (h : Er nf oa ob kind inner) : Ae nf 0 + (Az kind inner).length ≤ 1000 := by
 rw [Ej]; exact Nat.le_trans (Nat.add_le_add RJ (Nat.add_le_add_left h.l 8)) #[]
theorem Er.oc (h : Er nf oa ob kind inner) : Ae nf 0 ≤ 1000 := Nat.le_trans (Nat.le_add_right _ _) h.z
theorem Er.pz (h : Er nf oa ob kind inner) : Ae nf 0 + 2 + 2 ≤ (Zp nf (Aw nf) oa ob 0 (Az kind inner)).length := by
 rw [Bf, Ej]; exact Nat.add_le_add_left (Nat.le_trans (show 4 ≤ 8 by decide) (Nat.le_add_right 8 _)) _
theorem Er.eq (h : Er nf oa ob kind inner) : AB nf oa ob kind inner = Gp (AO nf) (Aw nf) (Ae nf 0) (Ae nf 0 + 2) 1000 true (Zp nf (Aw nf) oa ob 0 (Az kind inner)) := by
 rw [← Pl (pl := 2) (vis := true) h.fam (fun ω => by rw [Ej]; exact Nat.le_trans #[] (Nat.le_add_right 8 _)) h.z, if_pos rfl]
 unfold AB Cn
 rw [RP, Gh]
 have e : Ib nf oa ob (Az kind inner).length = (if Aw nf = 1 then [] else BW nf oa ob (Aw nf) (Az kind inner).length) := by
  rcases h.fam with rfl | rfl <;> rfl
 rw [e]
theorem Er.gx (h : Er nf oa ob kind inner) : GX true (Ae nf 0 + 2) 1000 (Zp nf (Aw nf) oa ob 0 (Az kind inner)) (hF (Ae nf 0) (Zp nf (Aw nf) oa ob 0 (Az kind inner))) (sF (Ag (AO nf)) (Aw nf) (Ae nf 0) (Zp nf (Aw nf) oa ob 0 (Az kind inner))) := by
 exact ⟨Nat.le_trans #[] (Nat.le_trans GI (Nat.le_add_right _ _)), #[], ND, fun ω => ⟨Nat.le_trans h.pz (by rw [Bf]; exact h.z), h.pz⟩, A2 .., A2 ..⟩
theorem Er.len (h : Er nf oa ob kind inner) : (AB nf oa ob kind inner).length = Ae nf 0 + 8 + inner.length := by
 rw [h.eq]
 unfold Gp
 rw [Eh h.gx, Bf, Nat.min_eq_right h.z, Ej, Nat.add_assoc]
theorem Er.drop (h : Er nf oa ob kind inner) : (AB nf oa ob kind inner).drop (Ae nf 0 + 8) = inner := by
 have hL := h.len
 have o12 := Nat.le_trans (show 12 ≤ 20 by decide) (@GI nf 0)
 rw [Ih, hL, Nat.add_assoc, h.eq]
 unfold Gp
 rw [CP h.gx (by rw [← Ej (kind := kind)]; exact h.z) (fun ω => .inr (Nat.le_trans o12 (Nat.le_add_right _ 8))) (fun ω => .inr (Nat.add_le_add_left (show 4 ≤ 8 by decide) _)), EB]
 exact List.take_of_length_le (by rw [Nat.add_sub_cancel_left]; exact Nat.le_refl _)
theorem Er.kindE (h : Er nf oa ob kind inner) : num (cut (AB nf oa ob kind inner) (Ae nf 0) (Ae nf 0 + 1)) = kind := by
 rw [h.eq]
 unfold Gp
 rw [CP h.gx (Nat.le_trans (Nat.add_le_add_right RJ 1) #[]) (fun ω => .inr (Nat.le_trans #[] GI)) (fun ω => .inl (Nat.le_succ _))]
 have := @EB nf (Aw nf) oa ob 0 0 1 (Az kind inner)
 rw [Nat.add_zero] at this
 rw [this]
 show num [u8 kind] = kind
 rw [Nm]
 exact B0 h.k.facts.2.1
theorem SF {nf : Nat} (h : nf = 2 ∨ nf = 10) : Ay nf (Aw nf) = true := by rcases h with rfl | rfl <;> rfl
theorem Er.ok (h : Er nf oa ob kind inner) : okL (AO nf) (Aw nf) (Ae nf 0) (AB nf oa ob kind inner) := by
 unfold okL; rw [h.len]; exact ⟨Nat.le_trans (Nat.add_le_add_left (show 4 ≤ 8 by decide) _) (Nat.le_add_right _ _), fun ω => Nat.le_add_right _ _⟩
theorem Er.err (h : Er nf oa ob kind inner) : FL (AO nf) (Aw nf) (Ae nf 0) (AB nf oa ob kind inner) = true := by
 unfold FL; rw [CQ h.fam, SF h.fam, h.kindE, h.k.facts.2.2.2.1]; rfl
theorem Er.v (h : Er nf oa ob kind inner) : V (AO nf) (Aw nf) (Ae nf 0) (AB nf oa ob kind inner) := by
 have hl := h.len
 have g := h.gx
 have ev := h.eq
 have get : ∀ i, i < 10 → (AB nf oa ob kind inner)[i]? = (Zp nf (Aw nf) oa ob 0 (Az kind inner))[i]? := by
  intro i hi
  rw [ev]
  exact MD g (Nat.lt_trans hi #[]) (fun ω => .inl hi) (fun ω => .inl (Nat.lt_of_lt_of_le hi (Nat.le_trans #[] g.gp)))
 have hwl : (AB nf oa ob kind inner).length ≤ 1000 := by rw [hl, Nat.add_assoc, ← Ej (kind := kind)]; exact h.z
 have hof : Ae nf 0 ≤ (AB nf oa ob kind inner).length := by rw [hl, Nat.add_assoc]; exact Nat.le_add_right _ _
 have g68 : nf = 2 → cut (AB nf oa ob kind inner) 6 8 = [64, 0] := by
  intro n
  rw [ev]
  unfold Gp
  rw [CP g #[] (fun ω => .inl #[]) (fun ω => .inl (Nat.le_trans #[] g.gp)), n]
  unfold Zp
  rw [Bd (by rw [Aq]; decide)]
  rfl
 have e0 := get 0 #[]
 have e6 := get 6 #[]
 have e9 := get 9 #[]
 refine Or.elim (h.fam) (fun n => ?_) (fun n => ?_)
 ·have g68 := g68 n
  subst n
  exact .v4 _ _ _ (u8 69) (u8 1) hwl hof #[] e0 #[] #[] g68 e9 #[]
 ·subst n
  have z0 : (Zp 10 (Aw 10) oa ob 0 (Az kind inner))[0]? = some 96 := rfl
  have z6 : (Zp 10 (Aw 10) oa ob 0 (Az kind inner))[6]? = some (u8 58) := rfl
  rw [z0] at e0
  rw [z6] at e6
  exact .v6 _ _ _ 96 (u8 58) hwl hof #[] e0 #[] e6 (.inr (.inr rfl)) (.inl ⟨#[], rfl⟩)
theorem Er.tgt (h : Er nf oa ob kind inner) : Hr (AB nf oa ob kind inner) (Ag (AO nf)) = ob := by
 unfold Hr
 rw [CQ h.fam, h.eq]
 unfold Gp
 rw [CP h.gx (Nat.le_trans Bt h.oc) (fun hk => .inr (by rw [PG h.fam (beq_iff_eq.mp hk)]; decide)) (fun ω => .inl (Nat.le_trans Bt (Nat.le_add_right _ _))), JC, CC _ _ h.b]
theorem MK (h : kOk nf kind) : 0 < ws (Az kind inner) := by
 have h1 := N8 (u8 kind) ([1, 0, 0, 0, 0, 5, 220] ++ inner)
 have h2 : (u8 kind).toNat = kind := B0 h.facts.2.1
 have h3 := h.facts.1
 have e : ws (Az kind inner) = ws (u8 kind :: ([1, 0, 0, 0, 0, 5, 220] ++ inner)) := rfl
 rw [e]; exact Nat.lt_of_lt_of_le (Nat.mul_pos (by rw [h2]; exact h3) #[]) h1
theorem Er.sumOk (h : Er nf oa ob kind inner) : sumOk (Aw nf) (Ae nf 0) (Ae nf 0 + 2) 1000 true (Zp nf (Aw nf) oa ob 0 (Az kind inner)) := by
 unfold Mine.sumOk
 rw [show C7 (Aw nf) = some 2 by unfold Aw; split <;> rfl]
 exact ⟨rfl, .inl ⟨rfl, (h.gx.gv rfl).1, h.pz⟩⟩
theorem Er.addr (h : Er nf oa ob kind inner) {oa' ob' v b : Nat} (hb : (b = aOf nf ∧ oa' = v ∧ ob' = ob) ∨ (b = aOf nf + zOf nf ∧ oa' = oa ∧ ob' = v)) (hw : Er nf oa' ob' kind inner) : AD (AO nf) (Aw nf) (Ae nf 0) (AB nf oa ob kind inner) b (oct v (zOf nf)) = AB nf oa' ob' kind inner := by
 have hd := h.v.hdl
 rw [h.eq] at hd ⊢
 exact (Pe hb h.fam h.oc (Nat.le_add_right _ _) h.sumOk (fun ω => by decide) Rc (fun ω => MK h.k) hd).trans hw.eq.symm
theorem Er.innerE (h : Er nf oa ob kind inner) {inner' : List UInt8} (hl : inner'.length = inner.length) : AD (AO nf) (Aw nf) (Ae nf 0) (AB nf oa ob kind inner) (Ae nf 0 + 8) inner' = AB nf oa ob kind inner' := by
 have hw : Er nf oa ob kind inner' := ⟨h.k, h.a, h.b, by rw [hl]; exact h.l, by rw [hl]; exact h.m⟩
 have hs : A7 (Az kind inner) 8 inner' = Az kind inner' := by
  unfold Az
  rw [Bv (Nat.le_refl 8)]
  exact congrArg (fun w => [u8 kind, 1, 0, 0, 0, 0, 5, 220] ++ w) (show A7 inner 0 inner' = inner' by unfold A7; rw [List.take_zero, Nat.zero_add, hl, List.drop_length, List.nil_append, List.append_nil])
 have hz : 8 + inner'.length ≤ (Az kind inner).length := by rw [Ej, hl]; exact Nat.le_refl _
 have hd := h.v.hdl
 rw [h.eq] at hd ⊢
 exact (Mm (sa' := oa) (da' := ob) (l' := Az kind inner') rfl h.fam h.oc (Nat.le_add_right _ _) h.sumOk (fun ω => by decide) Rc (fun ω => MK h.k) (fun ω => MK h.k) (by rw [Rl hz, hs]) (by rw [Nat.add_mod, Ga]) (by rw [hl]; exact Nat.lt_of_lt_of_le #[] h.m) (by rw [Nat.add_assoc]; exact Nat.le_trans (Nat.add_le_add_left hz _) h.z) (by rw [Nat.add_assoc]; exact Nat.add_le_add_left hz _) (.inr (by rw [Ej, hl, Nat.add_assoc])) (.inr (Nat.le_add_right _ _)) (.inr (Nat.add_le_add_left (show 4 ≤ 8 by decide) _)) hd).trans hw.eq.symm
theorem Er.rewrite (h : Er nf oa ob kind inner) {g : T6} (hg : okT g) (hn : g.nf = nf) (src : Bool) : Bc (AO nf) (Aw nf) (Ae nf 0) (AB nf oa ob kind inner) g src = AB nf (if src then g.sa else oa) (if src then ob else g.da) kind inner ∧ Er nf (if src then g.sa else oa) (if src then ob else g.da) kind inner := by
 (refine oa4 hg fun s1 s2 s3 s4 => ?_; clear hg)
 rw [hn] at s1 s2
 have hw : Er nf (if src then g.sa else oa) (if src then ob else g.da) kind inner := by
  refine ⟨h.k, ?_, ?_, h.l, h.m⟩
  ·cases src; exact h.a; exact s1
  ·cases src; exact s2; exact h.b
 refine ⟨?_, hw⟩
 have hpl : HJ (AO nf) (Aw nf) (Ae nf 0) (AB nf oa ob kind inner) g src = none := by
  unfold HJ EX
  have n6 : ¬ (Aw nf = 6 ∨ Aw nf = 17) := by unfold Aw; split <;> decide
  split
  ·rw [CQ h.fam, h.kindE, if_neg (fun c => h.k.facts.2.2.1 c.2)]
  ·rfl
 unfold Bc
 rw [hpl]
 unfold rwA
 rw [hn]
 cases src with
 | true => exact h.addr (v := g.sa) (.inl ⟨rfl, rfl, rfl⟩) hw
 | false => exact h.addr (v := g.da) (.inr ⟨rfl, rfl, rfl⟩) hw
end
section
variable {nf oa ob kind ex c : Nat} {t g : T6} {data : List UInt8} {bare : Bool}
theorem Er.ep (h : Er nf oa ob kind (wc t data ex c bare)) (hx : Cx t data ex c bare) (hn : t.nf = nf) : EP (AO nf) (Aw nf) (Ae nf 0) t.pr (Ae nf ex) (AB nf oa ob kind (wc t data ex c bare)) := by
 refine ⟨h.v, h.ok, h.err, by rw [h.len]; exact Nat.le_add_right _ _, ?_, ?_⟩
 ·rw [h.drop, ← hn]; exact hx.v
 ·rw [h.drop, ← hn]; exact hx.ok
theorem Er.ri (h : Er nf oa ob kind (wc t data ex c bare)) (hx : Cx t data ex c bare) (hn : t.nf = nf) (hg : Wf g) (hgn : g.nf = t.nf) (hp : g.pr = t.pr) (src : Bool) : riF (AO nf) (Aw nf) (Ae nf 0) t.pr (Ae nf ex) (AB nf oa ob kind (wc t data ex c bare)) g src = AB nf oa ob kind (wc (taken t g src) data ex c bare) ∧ Er nf oa ob kind (wc (taken t g src) data ex c bare) := by
 have hx' : Cx (taken t g src) data ex c bare := hx.set (hx.wf.taken hg hgn hp src) Ba.1 Ba.2
 have hlen : (wc (taken t g src) data ex c bare).length = (wc t data ex c bare).length := by rw [hx.len, hx'.len, Ba.1, Ba.2]
 refine ⟨?_, ⟨h.k, h.a, h.b, by rw [hlen]; exact h.l, by rw [hlen]; exact h.m⟩⟩
 unfold riF
 rw [h.drop, ← hn, hx.rewrite hg hgn hp src, hn]
 exact h.innerE hlen
end
section
variable {bare : Bool} {Φ : Bn} {data : List UInt8} {ex : Nat} {ρ : Rho} {t : T6}
theorem FK {chk : Sto → Prop} {step : D → Rho → Sto → KS → Prop} {K : KS} (Inv : List D → Rho → Sto → Prop) (h1 : ∀ xs ρ σ, Inv xs ρ σ → chk σ) (h2 : ∀ x xs ρ σ, Inv (x :: xs) ρ σ → ∀ K' : KS, (∀ ρ' σ', Inv xs ρ' σ' → K' .next ρ' σ') → step x ρ σ K') (h3 : ∀ ρ σ, Inv [] ρ σ → K .next ρ σ) : ∀ (items : List D) (ρ : Rho) (σ : Sto), Inv items ρ σ → Ec chk step items ρ σ K
 | [], ρ, σ, h => ⟨h1 _ _ _ h, h3 _ _ h⟩
 | x :: xs, ρ, σ, h => ⟨h1 _ _ _ h, h2 x xs ρ σ h _ fun ρ' σ' h' => FK Inv h1 h2 h3 xs ρ' σ' h'⟩
theorem Jz {d : List UInt8} (hl : d.length ≤ 1000000) (k : K (.bytes d) σ) : Fa .bytes [.lst (A6 d)] σ K := by
 refine ⟨d.map fun u => (u.toNat : Int), by unfold A6; rw [List.map_map]; rfl, fun n hn => ?_, by simpa using hl, ?_⟩
 ·(refine Af (List.mem_map.mp hn) fun u ω zq1 => ?_; subst zq1)
  have := UInt8.toNat_lt u
  lia
 ·have : (d.map fun u => (u.toNat : Int)).map F9 = d := by
   rw [List.map_map]
   have : (F9 ∘ fun (u : UInt8) => (u.toNat : Int)) = id := by
    funext u
    show ((u.toNat : Int).toNat).toUInt8 = u
    rw [Int.toNat_natCast]
    exact UInt8.toNat_inj.mp (B0 (UInt8.toNat_lt u))
   rw [this, List.map_id]
  rw [this]; exact k
theorem Nr {nf : Nat} (hn : nf = 2 ∨ nf = 10) {A B : Prop} (Q : D → Prop) (h : Q (.int (AO nf))) (ha : Q (.int 2048) → A) (hb : Q (.int 34525) → B) : (((nf : Int) == 2) = true → A) ∧ (((nf : Int) == 2) = false → B) := by
 rcases hn with rfl | rfl
 ·exact ⟨fun ω => ha h, fun e => absurd e #[]⟩
 ·exact ⟨fun e => absurd e #[], fun ω => hb h⟩
theorem Nx {a : Addr} {l : List UInt8} (hs : σ a = some (.barr l)) (k : K (.lst (A6 l)) σ) : Fa .list [.ref a] σ K := ⟨l, hs, k⟩
def NK (st : Nat) : Prop := st = 398 ∨ st = 414 ∨ st = 430 ∨ st = 446
noncomputable def act (st : Nat) (src : Bool) (dir : Nat) : Bool := st / Hf src dir % 2 == 1
theorem NB {st dir : Nat} {src : Bool} (h : NK st) (hd : dir = 0 ∨ dir = 1) : (act st src dir = true → st &&& Hf src dir ≠ 0) ∧ (act st src dir = false → st &&& Hf src dir = 0) := by
 rcases h with rfl | rfl | rfl | rfl <;> rcases hd with rfl | rfl <;> cases src <;> decide
theorem Cx.c200 (h : Cx t data ex 200 bare) : wc t data ex 200 bare = Bj t data ex bare := by
 unfold wc
 refine List.take_of_length_le ?_
 have hl := h.len
 have ho := h.off48
 have hd := h.hd
 unfold wc at hl
 rw [List.length_take] at hl
 split at hl <;> lia
theorem Cz (h : Cx t data ex 200 bare) : (Bj t data ex bare).length ≤ 77 := by
 have hl := h.len
 have ho := h.off48
 have hd := h.hd
 rw [h.c200] at hl
 split at hl <;> lia
theorem FV {tk : Addr} {num st dir : Nat} {src fgn : Bool} {o r : T6} (tt : TK σ tk num st o r) (hst : NK st) (hd : dir = 0 ∨ dir = 1) (r17 : ρ[17]? = some (some (.bool fgn))) (r1 : ρ[1]? = some (some (.ref tk))) (r20 : ρ[20]? = some (some (.bool (src == (dir == 0))))) (R : Bool → Sto → Prop) (hR : R (!fgn && act st src dir) σ) :
  wpT Φ (.bop .And #[.not (.loc 17),.cmp .Eq (.bin .Mod (.bin .FloorDiv (.attr (.loc 1) (Z "status")) (.ite (.loc 20) {16} {32})) {2}) {1}]) ρ σ R := by
 kpf_c
 rw [r17, r1, r20]
 dsimp only
 refine ⟨fgn, rfl, ?_⟩
 cases fgn with
 | true => exact ⟨fun e => absurd e #[], fun ω => hR⟩
 | false =>
  refine ⟨fun ω => ?_, fun e => absurd e #[]⟩
  refine tt.status ⟨_, rfl, ?_⟩
  have e : Hf src dir = if (src == (dir == 0)) then 16 else 32 := by rcases hd with rfl | rfl <;> cases src <;> rfl
  unfold act at hR
  rw [e] at hR
  generalize (src == (dir == 0)) = b at *
  have go : ∀ k : Nat, (k = 16 ∨ k = 32) → R (st / k % 2 == 1) σ → Be .FloorDiv (.int st) (.int k) fun d => Be .Mod d (.int 2) fun d => Dp .Eq d (.int 1) fun r => (r = true → R true σ) ∧ (r = false → R r σ) := by
   intro k hk hR
   rw [LI, Ck, DR, show (2 : Int) = ((2 : Nat) : Int) from rfl, Cj, FT, show (((st / k % 2 : Nat) : Int) == 1) = (st / k % 2 == 1) from Ax _ 1]
   refine ⟨by rcases hk with rfl | rfl <;> decide, #[], ?_⟩
   cases h : (st / k % 2 == 1) <;> rw [h] at hR
   ·exact ⟨fun e => absurd e #[], fun ω => hR⟩
   ·exact ⟨fun ω => hR, fun e => absurd e #[]⟩
  cases b
  ·exact ⟨fun e => absurd e #[], fun ω => go 32 (.inr rfl) hR⟩
  ·exact ⟨fun ω => go 16 (.inl rfl) hR, fun e => absurd e #[]⟩
theorem Iv {s p : Addr} {td0 x : D} {st0 ir0 ir : Nat} {r : PSs} {K : KS} (sc : SC σ s p td0 st0 ir0) (r9 : ρ[9]? = some (some (.ref s))) (k : ∀ σ', Off σ s σ' → SC σ' s p x st0 ir → Ak Φ r ρ σ' K) : Ap Φ (.tup #[.attr (.loc 9) (Z "talk"),.attr (.loc 9) (Z "is_reply")]) (.tup [x, .int ir]) ρ σ fun ρ' σ' => Ak Φ r ρ' σ' K := by
 refine ⟨_, rfl, rfl, _, _, rfl, ?_⟩
 refine CZ (sc.obj) fun C ia h tl hl e => ?_
 show Ap Φ (.attr (.loc 9) (Z "talk")) x ρ σ _
 dsimp only [Ap]
 dsimp only [wpE]
 rw [r9]
 refine ⟨s, C, ia, _, rfl, e, by unfold sf; rw [List.length_append]; show 6 + tl.length < 400; lia, _, _, rfl, ?_⟩
 show Ap Φ (.attr (.loc 9) (Z "is_reply")) (.int ir) ρ (σ.upd s (.inst C ia (sf p h x st0 ir0 tl))) _
 dsimp only [Ap]
 dsimp only [wpE]
 rw [r9]
 refine ⟨s, C, ia, _, rfl, Sto.upd_self .., by unfold sf; rw [List.length_append]; show 6 + tl.length < 400; lia, rfl, ?_⟩
 refine k _ (fun y hy hn => ?_) ⟨C, ia, h, tl, hl, Sto.upd_self ..⟩
 rw [Sto.upd_ne _ _ hy, Sto.upd_ne _ _ hy]
end
section
variable {a : Addr}
section
variable {t : T6}
theorem dv (a x : Nat) : (a * 256 + x % 256) / 256 = a := by rw [Nat.add_comm, Nat.add_mul_div_right _ _ #[], Nat.div_eq_of_lt (Nat.mod_lt _ #[]), Nat.zero_add]
theorem md (a x : Nat) : (a * 256 + x % 256) % 256 = x % 256 := by rw [Nat.mul_add_mod_self_right, Nat.mod_mod]
theorem TF {a x : Nat} (h : a < 256) : a * 256 + x % 256 < 65536 := Nat.lt_of_lt_of_le (Nat.add_lt_add_left (Nat.mod_lt x (show 0 < 256 by decide)) _) (Nat.succ_mul a 256 ▸ Nat.mul_le_mul_right 256 h)
theorem Lc {nf k : Nat} (h : (nf = 2 ∧ (k = 0 ∨ k = 8 ∨ k = 13 ∨ k = 14)) ∨ (nf = 10 ∧ (k = 128 ∨ k = 129))) : (BI nf k).toNat < 256 ∧ (BI nf (BI nf k).toNat).toNat = k ∧ ((nf = 2 ∧ ((BI nf k).toNat = 0 ∨ (BI nf k).toNat = 8 ∨ (BI nf k).toNat = 13 ∨ (BI nf k).toNat = 14)) ∨ (nf = 10 ∧ ((BI nf k).toNat = 128 ∨ (BI nf k).toNat = 129))) := by
 refine Or.elim h (fun zq1 => oa2 zq1 fun n zq2 => oo4 zq2 (fun e => ?_) (fun e => ?_) (fun e => ?_) (fun e => ?_)) (fun zq3 => oa2 zq3 fun n zq4 => Or.elim zq4 (fun e => ?_) (fun e => ?_)) <;> rw [n, e] <;> decide
theorem Wf.inv (h : Wf t) : Wf (inv t) ∧ (inv t).nf = t.nf ∧ (inv t).pr = t.pr := by
 refine oa4 (h.rng) fun r1 r2 r3 r4 => ?_
 have g := h.gre
 unfold Mine.inv
 split
 ·rename_i hi
  have pa := Lc (h.ping hi)
  exact ⟨⟨h.comb, ⟨r2, r1, r3, TF pa.1⟩, fun ω => by dsimp only; rw [dv]; exact pa.2.2, fun e => by dsimp only at e; rw [h.icmp, e] at hi; cases hi⟩, rfl, rfl⟩
 ·exact ⟨⟨h.comb, ⟨r2, r1, r4, r3⟩, fun e => by dsimp only at e; exact absurd e (by assumption), fun e => ⟨(g e).2, (g e).1⟩⟩, rfl, rfl⟩
theorem Wf.inv2 (h : Wf t) : Mine.inv (Mine.inv t) = t := by
 obtain ⟨nf, pr, sa, sp, da, dp⟩ := t
 have hp := h.ping
 unfold Mine.inv
 dsimp only at hp ⊢
 cases hi : Ay nf pr with
 | false =>
  rw [if_neg Bool.false_ne_true]
  dsimp only
  rw [hi, if_neg Bool.false_ne_true]
 | true =>
  rw [if_pos rfl]
  dsimp only
  rw [hi, if_pos rfl]
  have e2 : (BI nf (((BI nf (dp / 256)).toNat * 256 + dp % 256) / 256)).toNat * 256 + ((BI nf (dp / 256)).toNat * 256 + dp % 256) % 256 = dp := by
   rw [dv, md, (Lc (hp hi)).2.1, Nat.div_add_mod']
  rw [e2]
end
noncomputable def frD (data : List UInt8) (ex : Nat) (bare : Bool) (e : D) : D := .tup [.lst (A6 data), .int ex, .bool bare, e]
noncomputable def Ie (t : T6) (dir : Nat) (outer : D) (fgn : Bool) : D := .tup [tD t, .int dir, outer, .bool fgn]
theorem CA {σ σ₁ σ₂ : Sto} (s : Ai σ σ₁) (o : Off σ₁ a σ₂) (ha : σ a = none) : Ai σ σ₂ := fun x hx => by
 have e := s x hx
 rw [o x (Ea ha hx) (by rw [e]; exact hx), e]
theorem Upd.off {σ σ' : Sto} {o : Cv} (h : Upd σ a o σ') : Off σ a σ' := h.2
theorem G6 (h : 61 < n) {bk tk : Addr} {num st dir ex : Nat} {o r : T6} {data : List UInt8} {bare : Bool} {sides : List Bool} (bb : BK σ bk tk num st o r) (hor : o.l ≠ r.l) (wo : Wf o) (wr : Wf r) (hst : NK st) (hdir : dir = 0 ∨ dir = 1) (hnp : r.nf = o.nf ∧ r.pr = o.pr) (hx : Cx (An o r dir) data ex 200 bare)
  (hk : ∀ σ', Ai σ σ' → K (.bool true) σ') : Ab rows n 61 [.ref bk, .ref tk, .lst (A6 (Bj (An o r dir) data ex bare)), .int o.nf, Ie (An o r dir) dir .none false, .lst (sides.map fun b => .str (mS b)), tD (inv (An o r (1 - dir))), frD data ex bare .none] σ K := by
 refine Am (ρ := [some (.ref bk), some (.ref tk), some (.lst (A6 (Bj (An o r dir) data ex bare))), some (.int o.nf), some (Ie (An o r dir) dir .none false), some (.lst (sides.map fun b => .str (mS b))), some (tD (inv (An o r (1 - dir)))), some (frD data ex bare .none), none, none, none, none, none, none, none, none, none, none, none, none, none, none, none, none, none]) Br (by assumption) rfl rfl rfl rfl (by kernel_rfl) ?_; unfold Br
 have wS : Wf (An o r (1 - dir)) := by unfold An; split; exact wo; exact wr
 have nS : (An o r (1 - dir)).nf = o.nf ∧ (An o r (1 - dir)).pr = o.pr := by unfold An; split; exact ⟨rfl, rfl⟩; exact hnp
 have nT : (An o r dir).nf = o.nf ∧ (An o r dir).pr = o.pr := by unfold An; split; exact ⟨rfl, rfl⟩; exact hnp
 refine oa3 (wS.inv) fun wG nG pG => ?_
 have hit : (dir = 0 ∧ An o r dir = o) ∨ (dir = 1 ∧ An o r dir = r) := by rcases hdir with rfl | rfl; exact .inl ⟨rfl, rfl⟩; exact .inr ⟨rfl, rfl⟩
 have wl := Cz hx
 have fk := CQ wo.nf
 generalize hT : An o r dir = T at *
 generalize hS : An o r (1 - dir) = S at *
 refine A4 ?_
 kpf_c
 refine Jz (by lia) ?_
 refine Nr wo.nf (fun k => Ab rows 61 13 [.bytes (Bj T data ex bare), k] σ _) ?_ id id
 have hv := hx.v
 rw [hx.c200, nT.1] at hv
 refine CI #[] hv fun σ₁ p a s1 hp ha pk1 => ⟨nb rfl, A4 ?_⟩
 kpf_c
 intro q hq
 refine HD #[] fun σ₂ s s2 hs sc2 => ⟨nb rfl, A8 ?_⟩
 have s12 : Ai σ₁ σ₂ := (Ai.new hq).trans s2
 have pk2 := pk1.mono s12
 have hsn : σ s = none := fresh s1 (by rw [Sto.upd_ne _ _ (fun c => by rw [c, Sto.upd_self] at hs; cases hs)] at hs; exact hs)
 have s02 : Ai σ σ₂ := s1.trans s12
 have bb2 := bb.mono s02
 kpf_c
 refine (tu4 rfl (A8 ?_))
 kpf_c
 refine (tu4 rfl ?_)
 refine Al (fun R hR => ?_) (A4 ?_)
 ·kpf_c; exact hR
 kpf_c
 have okd := hx.ok
 rw [hx.c200, nT.1] at okd
 have tup := hx.tup
 rw [hx.c200, nT.1] at tup
 refine Iz #[] pk2 hv okd.1 okd.2 fun σ₃ s3 => ?_
 rw [tup]
 have bb3 := bb2.mono s3
 have pk3 := pk2.mono s3
 have sc3 := sc2.mono s3
 have s03 := s02.trans s3
 refine Fy #[] bb3 hor hit ⟨nb rfl, ?_⟩
 refine Ad (fun R hR => ?_) (A1 (A8 ?_))
 ·kpf_c; exact hR
 show Ap _ _ (.tup [.ref tk, .int dir]) _ _ _
 refine Iv sc3 (by rfl) fun σ₄ o4 sc4 => A1 ?_
 have s04 := CA s03 o4 hsn
 have bb4 := bb.mono s04
 have pk4 : PK σ₄ p a (AO o.nf) T.pr (Ae o.nf ex) (Bj T data ex bare) := by
  obtain ⟨⟨C, ia, b, m, e⟩, hb⟩ := pk3
  have n1 : p ≠ s := fun c => by rw [← c] at hs; rw [(Ai.new hq).get pk1.obj.choose_spec.choose_spec.choose_spec.choose_spec] at hs; cases hs
  exact ⟨⟨C, ia, b, m, o4.get e n1⟩, o4.get hb (sc3.ne hb)⟩
 clear bb3 pk3 sc3 s03 bb2 pk2 sc2 tup
 refine Ad (fun R hR => ?_) (Ad (fun R hR => ?_) (Ad (fun R hR => ?_) (A1 (A1 (A1 ?_)))))
 ·kpf_c; exact ⟨_, rfl, hR⟩
 ·kpf_c
  refine sc4.talk ⟨fun ω => sc4.talk (bb4.talk.number (sc4.is_reply ⟨#[], bb4.talk.number ⟨#[], ?_⟩⟩)), fun e => absurd (show false = true from e) Bool.false_ne_true⟩
  refine ⟨[(num : Int), dir], [(num : Int), dir], rfl, rfl, ?_⟩
  rw [beq_self_eq_true]
  exact ⟨fun ω => hR, fun e => absurd e #[]⟩
 ·kpf_c
  exact ⟨fun e => absurd (show false = true from e) Bool.false_ne_true, fun ω => hR⟩
 refine Dw ?_
 kpf_c
 refine ⟨_, rfl, ?_⟩
 refine FK (fun xs ρ σ' => ∃ (L : List Bool) (w : T6) (x19 x20 x21 x22 x23 x24 : Option D), xs = L.map (fun b => .str (mS b)) ∧ Cx w data ex 200 bare ∧ w.nf = o.nf ∧ w.pr = T.pr ∧ Ai σ σ' ∧ SC σ' s p (.ref tk) 1 dir ∧ PK σ' p a (AO o.nf) T.pr (Ae o.nf ex) (Bj w data ex bare) ∧
  ρ = [some (.ref bk), some (.ref tk), some (.lst (A6 (Bj T data ex bare))), some (.int o.nf), some (Ie T dir .none false), some (.lst (sides.map fun b => .str (mS b))), some (tD (inv S)), some (frD data ex bare .none), some (.ref p), some (.ref s), some (.lst (A6 data)), some (.int ex), some (.bool bare), some .none, some (tD w), some (.int dir), some .none, some (.bool false), some (.tup [.ref tk, .int dir]), x19, x20, x21, x22, x23, x24]) ?_ ?_ ?_ _ _ _ ⟨sides, T, none, none, none, none, none, none, rfl, hx, nT.1, rfl, s04, sc4, pk4, rfl⟩
 ·exact fun ω ω ω ω => ⟨rfl, rfl⟩
 ·rintro x xs ρ σ' ⟨L, w, x19, x20, x21, x22, x23, x24, hxs, cw, wn, wp, s0, sc, pk, rfl⟩ K' hK'
  cases L with
  | nil => cases hxs
  | cons b L =>
  (refine oa2 (List.cons.inj hxs) fun zq1 zq2 => ?_; subst zq1; subst zq2)
  kpf_c
  refine ⟨nb rfl, BC ?_⟩
  kpf_c
  have tt := (bb.mono s0).talk
  have hvw := cw.v
  have okw := cw.ok
  have new := cw.notErr
  have rw1 := cw.rewrite (g := inv S) wG (by rw [nG, nS.1, wn]) (by rw [pG, nS.2, ← nT.2, wp]) b
  have cw' : Cx (taken w (inv S) b) data ex 200 bare := cw.set (cw.wf.taken wG (by rw [nG, nS.1, wn]) (by rw [pG, nS.2, ← nT.2, wp]) b) Ba.1 Ba.2
  rw [cw.c200, wn, wp] at hvw okw new
  rw [cw.c200, wn, wp, cw'.c200] at rw1
  have after : ∀ (w' : T6) (σ₅ : Sto), Cx w' data ex 200 bare → w'.nf = o.nf → w'.pr = T.pr → w' = (if act st b dir then taken w (inv S) b else w) → Upd σ' a (.barr (Bj w' data ex bare)) σ₅ → Ak (Ab rows 61) #[.asg (.loc 20) (.cmp .Eq (.cmp .Eq (.loc 19) (.cst (.str (Z "src")))) (.cmp .Eq (.loc 15) {0})),.cond (.bop .And #[.not (.loc 17),.cmp .Eq (.bin .Mod (.bin .FloorDiv (.attr (.loc 1) (Z "status")) (.ite (.loc 20) {16} {32})) {2}) {1}]) #[.cond (.cmp .Is (.loc 13) (.cst .none)) #[.asg (.loc 14) (.call 60 #[.loc 14,.loc 6,.loc 19])] #[.asg (.loc 14) (.call 60 #[.loc 14,.loc 6,.ite (.cmp .Eq (.loc 19) (.cst (.str (Z "src")))) (.cst (.str (Z "dst"))) (.cst (.str (Z "src")))]),.asg (.loc 21) (.call 59 #[.loc 6]),.asg (.loc 16) (.ite (.cmp .Eq (.loc 19) (.cst (.str (Z "src")))) (.tup #[.idx (.loc 21) {2},.idx (.loc 16) {1}]) (.tup #[.idx (.loc 16) {0},.idx (.loc 21) {4}]))]] .nil,.asg (.loc 22) (.call 57 #[.loc 14,.loc 10,.loc 11,.loc 12]),.cond (.cmp .IsNot (.loc 13) (.cst .none)) #[.asg (.tup #[.loc 23,.loc 24]) (.loc 13),.asg (.loc 22) (.call 58 #[.loc 3,.idx (.loc 16) {0},.idx (.loc 16) {1},.loc 23,.slc (.loc 22) (.cst .none) (.loc 24)])] .nil,.cond (.cmp .NotEq (.blt .list #[.attr (.loc 8) (Z "data")]) (.loc 22)) #[.ret (.cst (.bool false))] .nil] [some (.ref bk), some (.ref tk), some (.lst (A6 (Bj T data ex bare))), some (.int o.nf), some (Ie T dir .none false), some (.lst (sides.map fun b => .str (mS b))), some (tD (inv S)), some (frD data ex bare .none), some (.ref p), some (.ref s), some (.lst (A6 data)), some (.int ex), some (.bool bare), some .none, some (tD w), some (.int dir), some .none, some (.bool false), some (.tup [.ref tk, .int dir]), some (.str (mS b)), x20, x21, x22, x23, x24] σ₅ K' := by
   intro w' σ₅ cw' wn' wp' ew u5
   have pk5 := pk.upd u5
   have sc5 := sc.upd pk.buf u5
   have s05 : Ai σ σ₅ := CA s0 u5.off ha
   have tt5 := (bb.mono s05).talk
   have wl' := Cz cw'
   refine A4 ?_
   kpf_c
   rw [CN, show ((dir : Int) == 0) = (dir == 0) from Ax dir 0]
   refine ⟨nb rfl, ?_⟩
   have last : ∀ y19, Ak (Ab rows 61) #[.asg (.loc 22) (.call 57 #[.loc 14,.loc 10,.loc 11,.loc 12]),.cond (.cmp .IsNot (.loc 13) (.cst .none)) #[.asg (.tup #[.loc 23,.loc 24]) (.loc 13),.asg (.loc 22) (.call 58 #[.loc 3,.idx (.loc 16) {0},.idx (.loc 16) {1},.loc 23,.slc (.loc 22) (.cst .none) (.loc 24)])] .nil,.cond (.cmp .NotEq (.blt .list #[.attr (.loc 8) (Z "data")]) (.loc 22)) #[.ret (.cst (.bool false))] .nil] [some (.ref bk), some (.ref tk), some (.lst (A6 (Bj T data ex bare))), some (.int o.nf), some (Ie T dir .none false), some (.lst (sides.map fun b => .str (mS b))), some (tD (inv S)), some (frD data ex bare .none), some (.ref p), some (.ref s), some (.lst (A6 data)), some (.int ex), some (.bool bare), some .none, some (tD w'), some (.int dir), some .none, some (.bool false), some (.tup [.ref tk, .int dir]), y19, some (.bool (b == (dir == 0))), x21, x22, x23, x24] σ₅ K' := by
    intro y19
    refine A4 ?_
    kpf_c
    have ex2 : ex ≤ 2 := by refine Or.elim (cw'.wf.nf) (fun e => ?_) (fun e => ?_); exact cw'.ex4 e; have := cw'.ex6 e; lia
    refine Dx #[] (by rw [wn']; exact wo.nf) (cw'.wf.pr0).2 ex2 (by have := cw'.hd; lia) ⟨nb rfl, ?_⟩
    refine Ad (fun R hR => ?_) (A1 (Ad (fun R hR => ?_) (A1 (AR ?_))))
    ·kpf_c; exact hR
    ·kpf_c
     refine pk5.data (Nx pk5.buf (Ps ?_))
     rw [decide_eq_true rfl]; exact hR
    ·exact hK' _ _ ⟨L, w', _, _, _, _, _, _, rfl, cw', wn', wp', s05, sc5, pk5, rfl⟩
   cases ha : act st b dir with
   | true =>
    rw [ha, if_pos rfl] at ew
    refine Al (fun R hR => FV tt5 hst hdir (by rfl) (by rfl) (by rfl) R (by rw [ha]; exact hR)) (Al (fun R hR => ?_) (A4 ?_))
    ·kpf_c; exact hR
    kpf_c
    refine Hy #[] ⟨nb rfl, A1 (A1 ?_)⟩
    rw [← ew]
    exact last _
   | false =>
    rw [ha, if_neg Bool.false_ne_true] at ew
    refine Ad (fun R hR => FV tt5 hst hdir (by rfl) (by rfl) (by rfl) R (by rw [ha]; exact hR)) (A1 ?_)
    rw [← ew]
    exact last _
  refine oa2 (NB (src := b) hst hdir) fun ab1 ab2 => ?_
  cases ha' : act st b dir with
  | true =>
   refine DZ #[] sc tt pk hvw okw hdir (ab1 ha') S hS (by rw [fk]; exact nS.1) wS.rng wS.okA.okInv wG.rng (by rw [fk, nG]; exact nS.1) (.inl ⟨new, rfl⟩) hvw okw fun σ₅ u5 => ⟨rfl, ?_⟩
   rw [rw1] at u5
   exact after _ σ₅ cw' (by rw [Ba.1, wn]) (by rw [Ba.2, wp]) (by rw [ha']; rfl) u5
  | false =>
   refine Cw #[] sc tt (ab2 ha') ⟨rfl, ?_⟩
   exact after w σ' cw wn wp (by rw [ha']; rfl) (Upd.same (.refl σ') pk.buf)
 ·rintro ρ σ' ⟨L, w, x19, x20, x21, x22, x23, x24, hxs, cw, wn, wp, s0, sc, pk, rfl⟩
  rw [Dh]
  exact Ac (hk _ s0)
end
noncomputable def HQ (oa ob : Nat) : D := .tup [.int oa, .int ob]
theorem RW (b : Bool) {Φ : Bn} {i : Nat} {ρ : Rho} (hi : ρ[i]? = some (some (.str (mS b)))) (k : K (.str (mS (!b))) σ) : wpE Φ (.ite (.cmp .Eq (.loc i) (.cst (.str (Z "src")))) (.cst (.str (Z "dst"))) (.cst (.str (Z "src")))) ρ σ K := by
 cases b with
 | true =>
  refine Au (fun R hR => ?_) k
  kpf_c; rw [hi]; dsimp only; rw [Rj, CN]; exact hR
 | false =>
  refine Av (fun R hR => ?_) k
  kpf_c; rw [hi]; dsimp only; rw [Rj, CN]; exact hR
theorem IG (h : 61 < n) {bk tk : Addr} {num st dir ex c kind oa0 ob0 : Nat} {o r T : T6} {data : List UInt8} {bare fgn : Bool} {sides : List Bool} (bb : BK σ bk tk num st o r) (hor : o.l ≠ r.l) (wo : Wf o) (wr : Wf r) (hst : NK st) (hdir : dir = 0 ∨ dir = 1) (hnp : r.nf = o.nf ∧ r.pr = o.pr) (hx : Cx T data ex c bare) (hc : c ≤ 200) (nT : T.nf = o.nf ∧ T.pr = o.pr) (hT : inv T = An o r dir) (her : Er o.nf oa0 ob0 kind (wc T data ex c bare))
  (hf : fgn = decide ((An o r dir).da ≠ ob0))
  (hk : ∀ σ', Ai σ σ' → K (.bool true) σ') : Ab rows n 61 [.ref bk, .ref tk, .lst (A6 (AB o.nf oa0 ob0 kind (wc T data ex c bare))), .int o.nf, Ie T dir (HQ oa0 ob0) fgn, .lst (sides.map fun b => .str (mS b)), tD (An o r (1 - dir)), frD data ex bare (.tup [.int kind, .int c])] σ K := by
 refine Am (ρ := [some (.ref bk), some (.ref tk), some (.lst (A6 (AB o.nf oa0 ob0 kind (wc T data ex c bare)))), some (.int o.nf), some (Ie T dir (HQ oa0 ob0) fgn), some (.lst (sides.map fun b => .str (mS b))), some (tD (An o r (1 - dir))), some (frD data ex bare (.tup [.int kind, .int c])), none, none, none, none, none, none, none, none, none, none, none, none, none, none, none, none, none]) Br (by assumption) rfl rfl rfl rfl (by kernel_rfl) ?_; unfold Br
 have wS : Wf (An o r (1 - dir)) := by unfold An; split; exact wo; exact wr
 have nS : (An o r (1 - dir)).nf = o.nf ∧ (An o r (1 - dir)).pr = o.pr := by unfold An; split; exact ⟨rfl, rfl⟩; exact hnp
 refine oa3 (wS.inv) fun wG nG pG => ?_
 have fk := CQ wo.nf
 have hol := @RJ o.nf
 generalize hS : An o r (1 - dir) = S at *
 have hlen := her.len
 have hil := her.l
 generalize hd0 : AB o.nf oa0 ob0 kind (wc T data ex c bare) = d0 at *
 refine A4 ?_
 kpf_c
 refine Jz (by lia) ?_
 refine Nr wo.nf (fun k => Ab rows 61 13 [.bytes d0, k] σ _) ?_ id id
 have hv := her.v
 rw [hd0] at hv
 refine CI #[] hv fun σ₁ p a s1 hp ha pk1 => ⟨nb rfl, A4 ?_⟩
 kpf_c
 intro q hq
 refine HD #[] fun σ₂ s s2 hs sc2 => ⟨nb rfl, A8 ?_⟩
 have s12 : Ai σ₁ σ₂ := (Ai.new hq).trans s2
 have pk2 := pk1.mono s12
 have hsn : σ s = none := fresh s1 (by rw [Sto.upd_ne _ _ (fun c => by rw [c, Sto.upd_self] at hs; cases hs)] at hs; exact hs)
 have s02 : Ai σ σ₂ := s1.trans s12
 have bb2 := bb.mono s02
 kpf_c
 refine (tu4 rfl (A8 ?_))
 kpf_c
 refine (tu4 rfl ?_)
 have ep := her.ep hx nT.1
 have edrop := her.drop
 have etgt := her.tgt
 have tup := hx.tup
 rw [nT.1] at tup
 rw [hd0] at ep edrop etgt
 refine Ad (fun R hR => ?_) ?_
 ·kpf_c; exact hR
 refine Hh ?_
 kpf_c
 refine H2 #[] bb2 hor pk2 ep sc2 (by rw [edrop, tup]; exact hx.wf.okA.okInv) hdir (by rw [edrop, tup]; exact hT) fun σ₄ o4 hsc => ?_
 rw [etgt] at hsc
 refine ⟨true, rfl, fun e => absurd e #[], fun ω => A1 (A1 ?_)⟩
 have s04 := CA s02 o4 hsn
 have bb4 := bb.mono s04
 have pk4 : PK σ₄ p a (AO o.nf) (Aw o.nf) (Ae o.nf 0) d0 := by
  obtain ⟨⟨C, ia, b, m, e⟩, hb⟩ := pk2
  have n1 : p ≠ s := fun c => by rw [← c] at hs; rw [(Ai.new hq).get pk1.obj.choose_spec.choose_spec.choose_spec.choose_spec] at hs; cases hs
  exact ⟨⟨C, ia, b, m, o4.get e n1⟩, o4.get hb (sc2.ne hb)⟩
 clear bb2 pk2 sc2 tup ep edrop etgt
 obtain ⟨td, st', ir', sc4, htd⟩ : ∃ td st' ir', SC σ₄ s p td st' ir' ∧ ((fgn = true ∧ td = .none ∧ st' = 1 ∧ ir' = 0) ∨ (fgn = false ∧ td = .ref tk ∧ st' = 4 ∧ ir' = dir)) := by
  by_cases he : (An o r dir).da = ob0
  ·rw [if_pos he] at hsc
   exact ⟨_, _, _, hsc, .inr ⟨by rw [hf]; exact decide_eq_false (fun c => c he), rfl, rfl, rfl⟩⟩
  ·rw [if_neg he] at hsc
   exact ⟨_, _, _, hsc, .inl ⟨by rw [hf]; exact decide_eq_true he, rfl, rfl, rfl⟩⟩
 clear hsc hf
 have sidesDone : Ak (Ab rows 61) #[.for (.loc 19) (.loc 5) #[.expr (.call 49 #[.loc 9,.loc 19]),.asg (.loc 20) (.cmp .Eq (.cmp .Eq (.loc 19) (.cst (.str (Z "src")))) (.cmp .Eq (.loc 15) {0})),.cond (.bop .And #[.not (.loc 17),.cmp .Eq (.bin .Mod (.bin .FloorDiv (.attr (.loc 1) (Z "status")) (.ite (.loc 20) {16} {32})) {2}) {1}]) #[.cond (.cmp .Is (.loc 13) (.cst .none)) #[.asg (.loc 14) (.call 60 #[.loc 14,.loc 6,.loc 19])] #[.asg (.loc 14) (.call 60 #[.loc 14,.loc 6,.ite (.cmp .Eq (.loc 19) (.cst (.str (Z "src")))) (.cst (.str (Z "dst"))) (.cst (.str (Z "src")))]),.asg (.loc 21) (.call 59 #[.loc 6]),.asg (.loc 16) (.ite (.cmp .Eq (.loc 19) (.cst (.str (Z "src")))) (.tup #[.idx (.loc 21) {2},.idx (.loc 16) {1}]) (.tup #[.idx (.loc 16) {0},.idx (.loc 21) {4}]))]] .nil,.asg (.loc 22) (.call 57 #[.loc 14,.loc 10,.loc 11,.loc 12]),.cond (.cmp .IsNot (.loc 13) (.cst .none)) #[.asg (.tup #[.loc 23,.loc 24]) (.loc 13),.asg (.loc 22) (.call 58 #[.loc 3,.idx (.loc 16) {0},.idx (.loc 16) {1},.loc 23,.slc (.loc 22) (.cst .none) (.loc 24)])] .nil,.cond (.cmp .NotEq (.blt .list #[.attr (.loc 8) (Z "data")]) (.loc 22)) #[.ret (.cst (.bool false))] .nil],.ret (.cst (.bool true))] [some (.ref bk), some (.ref tk), some (.lst (A6 d0)), some (.int o.nf), some (Ie T dir (HQ oa0 ob0) fgn), some (.lst (sides.map fun b => .str (mS b))), some (tD S), some (frD data ex bare (.tup [.int kind, .int c])), some (.ref p), some (.ref s), some (.lst (A6 data)), some (.int ex), some (.bool bare), some (.tup [.int kind, .int c]), some (tD T), some (.int dir), some (HQ oa0 ob0), some (.bool fgn), none, none, none, none, none, none, none] σ₄ (Bh K) := by
  refine Dw ?_
  kpf_c
  refine ⟨_, rfl, ?_⟩
  have her0 := her
  rw [← hd0] at pk4
  refine FK (fun xs ρ σ' => ∃ (L : List Bool) (w : T6) (oa ob : Nat) (x19 x20 x21 x22 x23 x24 : Option D), xs = L.map (fun b => .str (mS b)) ∧ Cx w data ex c bare ∧ w.nf = o.nf ∧ w.pr = T.pr ∧ Er o.nf oa ob kind (wc w data ex c bare) ∧ Ai σ σ' ∧ SC σ' s p td st' ir' ∧ PK σ' p a (AO o.nf) (Aw o.nf) (Ae o.nf 0) (AB o.nf oa ob kind (wc w data ex c bare)) ∧
   ρ = [some (.ref bk), some (.ref tk), some (.lst (A6 d0)), some (.int o.nf), some (Ie T dir (HQ oa0 ob0) fgn), some (.lst (sides.map fun b => .str (mS b))), some (tD S), some (frD data ex bare (.tup [.int kind, .int c])), some (.ref p), some (.ref s), some (.lst (A6 data)), some (.int ex), some (.bool bare), some (.tup [.int kind, .int c]), some (tD w), some (.int dir), some (HQ oa ob), some (.bool fgn), none, x19, x20, x21, x22, x23, x24]) ?_ ?_ ?_ _ _ _ ⟨sides, T, oa0, ob0, none, none, none, none, none, none, rfl, hx, nT.1, rfl, her0, s04, sc4, pk4, rfl⟩
  ·exact fun ω ω ω ω => ⟨rfl, rfl⟩
  ·rintro x xs ρ σ' ⟨L, w, oa, ob, x19, x20, x21, x22, x23, x24, hxs, cw, wn, wp, er, s0, sc, pk, rfl⟩ K' hK'
   cases L with
   | nil => cases hxs
   | cons b L =>
   (refine oa2 (List.cons.inj hxs) fun zq1 zq2 => ?_; subst zq1; subst zq2)
   kpf_c
   refine ⟨nb rfl, BC ?_⟩
   kpf_c
   have tt := (bb.mono s0).talk
   have hgn : S.nf = w.nf := by rw [nS.1, wn]
   have hgp : S.pr = w.pr := by rw [nS.2, wp, nT.2]
   refine oa2 (er.ri cw wn wS hgn hgp (!b)) fun ri1 er1 => ?_
   refine oa2 (er1.rewrite wG.rng (by rw [nG, nS.1]) b) fun rw1 er2 => ?_
   have cw' : Cx (taken w S (!b)) data ex c bare := cw.set (cw.wf.taken wS hgn hgp (!b)) Ba.1 Ba.2
   have after : ∀ (w' : T6) (oa' ob' : Nat) (σ₅ : Sto), Cx w' data ex c bare → w'.nf = o.nf → w'.pr = T.pr → Er o.nf oa' ob' kind (wc w' data ex c bare) → (if (!fgn && act st b dir) then w' = taken w S (!b) ∧ oa' = (if b then (inv S).sa else oa) ∧ ob' = (if b then ob else (inv S).da) else w' = w ∧ oa' = oa ∧ ob' = ob) → Upd σ' a (.barr (AB o.nf oa' ob' kind (wc w' data ex c bare))) σ₅ → Ak (Ab rows 61) #[.asg (.loc 20) (.cmp .Eq (.cmp .Eq (.loc 19) (.cst (.str (Z "src")))) (.cmp .Eq (.loc 15) {0})),.cond (.bop .And #[.not (.loc 17),.cmp .Eq (.bin .Mod (.bin .FloorDiv (.attr (.loc 1) (Z "status")) (.ite (.loc 20) {16} {32})) {2}) {1}]) #[.cond (.cmp .Is (.loc 13) (.cst .none)) #[.asg (.loc 14) (.call 60 #[.loc 14,.loc 6,.loc 19])] #[.asg (.loc 14) (.call 60 #[.loc 14,.loc 6,.ite (.cmp .Eq (.loc 19) (.cst (.str (Z "src")))) (.cst (.str (Z "dst"))) (.cst (.str (Z "src")))]),.asg (.loc 21) (.call 59 #[.loc 6]),.asg (.loc 16) (.ite (.cmp .Eq (.loc 19) (.cst (.str (Z "src")))) (.tup #[.idx (.loc 21) {2},.idx (.loc 16) {1}]) (.tup #[.idx (.loc 16) {0},.idx (.loc 21) {4}]))]] .nil,.asg (.loc 22) (.call 57 #[.loc 14,.loc 10,.loc 11,.loc 12]),.cond (.cmp .IsNot (.loc 13) (.cst .none)) #[.asg (.tup #[.loc 23,.loc 24]) (.loc 13),.asg (.loc 22) (.call 58 #[.loc 3,.idx (.loc 16) {0},.idx (.loc 16) {1},.loc 23,.slc (.loc 22) (.cst .none) (.loc 24)])] .nil,.cond (.cmp .NotEq (.blt .list #[.attr (.loc 8) (Z "data")]) (.loc 22)) #[.ret (.cst (.bool false))] .nil] [some (.ref bk), some (.ref tk), some (.lst (A6 d0)), some (.int o.nf), some (Ie T dir (HQ oa0 ob0) fgn), some (.lst (sides.map fun b => .str (mS b))), some (tD S), some (frD data ex bare (.tup [.int kind, .int c])), some (.ref p), some (.ref s), some (.lst (A6 data)), some (.int ex), some (.bool bare), some (.tup [.int kind, .int c]), some (tD w), some (.int dir), some (HQ oa ob), some (.bool fgn), none, some (.str (mS b)), x20, x21, x22, x23, x24] σ₅ K' := by
    intro w' oa' ob' σ₅ cw' wn' wp' er' ew u5
    have pk5 := pk.upd u5
    have sc5 := sc.upd pk.buf u5
    have s05 : Ai σ σ₅ := CA s0 u5.off ha
    have tt5 := (bb.mono s05).talk
    refine A4 ?_
    kpf_c
    rw [CN, show ((dir : Int) == 0) = (dir == 0) from Ax dir 0]
    refine ⟨nb rfl, ?_⟩
    have ex2 : ex ≤ 2 := by refine Or.elim (cw'.wf.nf) (fun e => ?_) (fun e => ?_); exact cw'.ex4 e; have := cw'.ex6 e; lia
    have cx200 : Cx w' data ex 200 bare := ⟨cw'.wf, cw'.ex4, cw'.ex6, cw'.hb, cw'.hd, .inl rfl⟩
    have wl' := Cz cx200
    have wcl : (wc w' data ex c bare).length ≤ 77 := by unfold wc; rw [List.length_take]; exact Nat.le_trans (Nat.min_le_right _ _) (by assumption)
    have last : ∀ y21 (σ₆ : Sto), Ai σ₅ σ₆ → Ak (Ab rows 61) #[.asg (.loc 22) (.call 57 #[.loc 14,.loc 10,.loc 11,.loc 12]),.cond (.cmp .IsNot (.loc 13) (.cst .none)) #[.asg (.tup #[.loc 23,.loc 24]) (.loc 13),.asg (.loc 22) (.call 58 #[.loc 3,.idx (.loc 16) {0},.idx (.loc 16) {1},.loc 23,.slc (.loc 22) (.cst .none) (.loc 24)])] .nil,.cond (.cmp .NotEq (.blt .list #[.attr (.loc 8) (Z "data")]) (.loc 22)) #[.ret (.cst (.bool false))] .nil] [some (.ref bk), some (.ref tk), some (.lst (A6 d0)), some (.int o.nf), some (Ie T dir (HQ oa0 ob0) fgn), some (.lst (sides.map fun b => .str (mS b))), some (tD S), some (frD data ex bare (.tup [.int kind, .int c])), some (.ref p), some (.ref s), some (.lst (A6 data)), some (.int ex), some (.bool bare), some (.tup [.int kind, .int c]), some (tD w'), some (.int dir), some (HQ oa' ob'), some (.bool fgn), none, some (.str (mS b)), some (.bool (b == (dir == 0))), y21, x22, x23, x24] σ₆ K' := by
     intro y21 σ₆ s6
     have pk6 := pk5.mono s6
     refine A4 ?_
     kpf_c
     refine Dx #[] (by rw [wn']; exact wo.nf) (cw'.wf.pr0).2 ex2 (by have := cw'.hd; lia) ⟨nb rfl, ?_⟩
     refine Al (fun R hR => ?_) (A8 ?_)
     ·kpf_c; exact hR
     kpf_c
     refine (tu2 rfl (A4 ?_))
     kpf_c
     refine AX 0 rfl #[] (AX 1 rfl #[] (Nf (by lia) c (by lia) ?_))
     refine E1 #[] wo.nf er'.k.facts.2.1 (inner := wc w' data ex c bare) (by lia) ⟨nb rfl, A1 ?_⟩
     refine Ad (fun R hR => ?_) (A1 (AR ?_))
     ·kpf_c
      refine pk6.data (Nx pk6.buf (Ps ?_))
      rw [decide_eq_true rfl]; exact hR
     ·exact hK' _ _ ⟨L, w', oa', ob', _, _, _, _, _, _, rfl, cw', wn', wp', er', s05.trans s6, sc5.mono s6, pk6, rfl⟩
    cases ha : (!fgn && act st b dir) with
    | true =>
     rw [ha, if_pos rfl] at ew
     (refine oa3 ew fun e1 e2 e3 => ?_; clear ew)
     refine Al (fun R hR => FV tt5 hst hdir (by rfl) (by rfl) (by rfl) R (by rw [ha]; exact hR)) (Ad (fun R hR => ?_) (A4 ?_))
     ·kpf_c; exact hR
     generalize hE : (PE.ite (.cmp .Eq (.loc 19) (.cst (.str (Z "src")))) (.cst (.str (Z "dst"))) (.cst (.str (Z "src")))) = E2
     kpf_c
     rw [← hE]
     refine RW b (by rfl) ?_
     refine Hy #[] ⟨nb rfl, A4 ?_⟩
     rw [← e1]
     kpf_c
     refine Ch #[] wS.okA fun σ₆ s6 => ⟨nb rfl, A4 ?_⟩
     cases b with
     | true =>
      rw [if_pos rfl] at e2 e3
      refine Au (fun R hR => ?_) ?_
      ·kpf_c; rw [CN]; exact hR
      kpf_c
      refine AX 2 rfl #[] (AX 1 rfl #[] ⟨nb rfl, nb rfl, A1 (A1 ?_)⟩)
      rw [← e2, ← e3]
      exact last _ _ s6
     | false =>
      rw [if_neg Bool.false_ne_true] at e2 e3
      refine Av (fun R hR => ?_) ?_
      ·kpf_c; rw [CN]; exact hR
      kpf_c
      refine AX 0 rfl #[] (AX 4 rfl #[] ⟨nb rfl, nb rfl, A1 (A1 ?_)⟩)
      rw [← e2, ← e3]
      exact last _ _ s6
    | false =>
     rw [ha, if_neg Bool.false_ne_true] at ew
     (refine oa3 ew fun e1 e2 e3 => ?_; clear ew)
     refine Ad (fun R hR => FV tt5 hst hdir (by rfl) (by rfl) (by rfl) R (by rw [ha]; exact hR)) (A1 ?_)
     rw [← e1, ← e2, ← e3]
     exact last _ _ (.refl _)
   have stay : (!fgn && act st b dir) = false → Ak (Ab rows 61) _ _ σ' K' := fun hh => after w oa ob σ' cw wn wp er (by rw [hh, if_neg Bool.false_ne_true]; exact ⟨rfl, rfl, rfl⟩) (Upd.same (.refl σ') pk.buf)
   refine Or.elim htd (fun zq1 => oa4 zq1 fun f1 f2 f3 f4 => ?_) (fun zq2 => oa4 zq2 fun f1 f2 f3 f4 => ?_)
   ·rw [f2] at sc
    refine EC #[] sc ⟨rfl, stay (by rw [f1]; rfl)⟩
   ·rw [f2, f4] at sc
    refine oa2 (NB (src := b) hst hdir) fun ab1 ab2 => ?_
    cases ha' : act st b dir with
    | true =>
     have ep' := er.ep cw wn
     refine DZ (d1 := AB o.nf oa ob kind (wc (taken w S (!b)) data ex c bare)) #[] sc tt pk er.v er.ok hdir (ab1 ha') S hS (by rw [fk]; exact nS.1) wS.rng wS.okA.okInv wG.rng (by rw [fk, nG]; exact nS.1) (.inr ⟨er.err, _, _, ep', ri1.symm⟩) er1.v er1.ok fun σ₅ u5 => ⟨rfl, ?_⟩
     rw [rw1] at u5
     exact after _ _ _ σ₅ cw' (by rw [Ba.1, wn]) (by rw [Ba.2, wp]) er2 (by rw [f1, ha', show (!false && true) = true from rfl, if_pos rfl]; exact ⟨rfl, rfl, rfl⟩) u5
    | false =>
     exact Cw #[] sc tt (ab2 ha') ⟨rfl, stay (by rw [ha', Bool.and_false])⟩
  ·rintro ρ σ' ⟨L, w, oa, ob, x19, x20, x21, x22, x23, x24, hxs, cw, wn, wp, er, s0, sc, pk, rfl⟩
   rw [Dh]
   exact Ac (hk _ s0)
 rcases htd with ⟨rfl, rfl, rfl, rfl⟩ | ⟨rfl, rfl, rfl, rfl⟩
 ·refine Al (fun R hR => ?_) (Ad (fun R hR => ?_) (A1 (A1 sidesDone)))
  ·kpf_c; exact ⟨_, rfl, hR⟩
  ·kpf_c
   refine sc4.talk ⟨fun ω => sc4.state (sc4.is_reply ⟨#[], #[], ?_⟩), fun e => absurd (show false = true from e) Bool.false_ne_true⟩
   refine ⟨[1, 0], [1, 0], rfl, rfl, ?_⟩
   rw [beq_self_eq_true]
   exact ⟨fun ω => hR, fun e => absurd e #[]⟩
 ·refine Ad (fun R hR => ?_) (Ad (fun R hR => ?_) (Ad (fun R hR => ?_) (A1 (A1 (A1 sidesDone)))))
  ·kpf_c; exact ⟨_, rfl, hR⟩
  ·kpf_c
   refine sc4.talk ⟨fun ω => sc4.talk (bb4.talk.number (sc4.is_reply ⟨#[], bb4.talk.number ⟨#[], ?_⟩⟩)), fun e => absurd (show false = true from e) Bool.false_ne_true⟩
   refine ⟨[(num : Int), ir'], [(num : Int), ir'], rfl, rfl, ?_⟩
   rw [beq_self_eq_true]
   exact ⟨fun ω => hR, fun e => absurd e #[]⟩
  ·kpf_c
   refine ⟨fun ω => sc4.state ?_, fun e => absurd (show true = false from e) #[]⟩
   exact ⟨fun e => absurd e #[], fun ω => hR⟩
section
variable {i k nf : Nat}
noncomputable def DS (nf : Nat) : Nat := if nf = 2 then 0 else 536939960 * 2 ^ 96
theorem Re (nf : Nat) (hn : nf = 2 ∨ nf = 10) {Φ : Bn} {ρ : Rho} (hi : ρ[i]? = some (some (.int (nf : Int)))) (k : K (.int (DS nf)) σ) : wpE Φ (.ite (.cmp .Eq (.loc i) {2}) {0} (.bin .Mult {536939960} (.bin .Pow {2} {96}))) ρ σ K := by
 rcases hn with rfl | rfl
 ·refine Au (fun R hR => ?_) k
  kpf_c; rw [hi]; exact hR
 ·refine Av (fun R hR => ?_) ?_
  ·kpf_c; rw [hi]; exact hR
  kpf_c
  have e : (536939960 : Int) * 2 ^ (96 : Int).toNat = ((DS 10 : Nat) : Int) := by decide +kernel
  rw [e]
  exact ⟨⟨#[], #[], #[], #[]⟩, .inl #[], k⟩
noncomputable def m16 (x : Int) : Nat := (x.fmod 65536).toNat
theorem GO (x : Int) : x.fmod 65536 = ((m16 x : Nat) : Int) ∧ m16 x < 65536 := by
 have h1 := Int.fmod_nonneg_of_pos x (show (0 : Int) < 65536 by decide)
 have h2 := Int.fmod_lt_of_pos x (show (0 : Int) < 65536 by decide)
 exact ⟨(Int.toNat_of_nonneg h1).symm, (Int.toNat_lt h1).mpr h2⟩
noncomputable def mN (x : Int) (m : Nat) : Nat := (x.fmod m).toNat
theorem Mw (x : Int) {m : Nat} (hm : 0 < m) : x.fmod (m : Int) = ((mN x m : Nat) : Int) ∧ mN x m < m := by
 have h1 := Int.fmod_nonneg_of_pos x (Int.ofNat_lt.mpr hm)
 have h2 := Int.fmod_lt_of_pos x (Int.ofNat_lt.mpr hm)
 exact ⟨(Int.toNat_of_nonneg h1).symm, (Int.toNat_lt h1).mpr h2⟩
noncomputable def F5 (k : Nat) : Nat := ([167772160, 134742016, 3221225472, 2886729728] : List Nat).getD k 0
noncomputable def R7 (k : Nat) : Nat := ([4000, 53, 61000, 8053] : List Nat).getD k 0
noncomputable def Bb (nf : Nat) (ns : List Int) (b k : Nat) : Nat := DS nf + F5 k + m16 (dig ns (b + 2 + 2 * k) + 5)
noncomputable def C5 (ns : List Int) (b k : Nat) : Nat := m16 (dig ns (b + 3 + 2 * k) + R7 k)
noncomputable def kT (i : Nat) : Nat × Nat := ([(2, 17), (10, 58), (2, 1), (2, 6), (10, 17), (10, 6), (2, 47)] : List (Nat × Nat)).getD i (2, 17)
theorem QG (i : Nat) : ((kT i).1 = 2 ∧ ((kT i).2 = 17 ∨ (kT i).2 = 1 ∨ (kT i).2 = 6 ∨ (kT i).2 = 47)) ∨ ((kT i).1 = 10 ∧ ((kT i).2 = 58 ∨ (kT i).2 = 17 ∨ (kT i).2 = 6)) := by
 match i with
 | 0 => decide
 | 1 => decide
 | 2 => decide
 | 3 => decide
 | 4 => decide
 | 5 => decide
 | 6 => decide
 | n + 7 => left; exact ⟨rfl, .inl rfl⟩
noncomputable def F2 : List D := [.tup [.int 2, .int 17], .tup [.int 10, .int 58], .tup [.int 2, .int 1], .tup [.int 2, .int 6], .tup [.int 10, .int 17], .tup [.int 10, .int 6], .tup [.int 2, .int 47]]
theorem Ol (h : i < 7) : F2[i]? = some (.tup [.int (kT i).1, .int (kT i).2]) := by
 match i, h with
 | 0, _ => rfl
 | 1, _ => rfl
 | 2, _ => rfl
 | 3, _ => rfl
 | 4, _ => rfl
 | 5, _ => rfl
 | 6, _ => rfl
noncomputable def I2 : List D := [.int 0, .int 1, .int 2, .int 3]
theorem So (σ : Sto) : Ah σ (.rng 0 4 1) = some I2 := by
 have h : Builtin.Range.small 0 ((4 : Nat) : Int) 1 = true := B5 4 #[]
 have e : Ah σ (.rng 0 ((4 : Nat) : Int) 1) = if Builtin.Range.small 0 ((4 : Nat) : Int) 1 then some ((B1 0 ((4 : Nat) : Int) 1).map D.int) else none := rfl
 rw [h, if_pos rfl, Ci] at e
 exact e
theorem TC {x : D} (h : x ∈ I2) : ∃ k : Nat, k < 4 ∧ x = .int (k : Int) := by
 rcases List.mem_cons.mp h with rfl | h
 ·exact ⟨0, #[], rfl⟩
 rcases List.mem_cons.mp h with rfl | h
 ·exact ⟨1, #[], rfl⟩
 rcases List.mem_cons.mp h with rfl | h
 ·exact ⟨2, #[], rfl⟩
 rcases List.mem_cons.mp h with rfl | h
 ·exact ⟨3, #[], rfl⟩
 cases h
noncomputable def CV (f : Nat → Nat) : D := .lst [.int (f 0), .int (f 1), .int (f 2), .int (f 3)]
theorem Ri {f : Nat → Nat} {step : D → (Option D → Prop) → Prop} {K : List D → Prop} (h : ∀ k : Nat, k < 4 → ∀ K' : Option D → Prop, K' (some (.int (f k))) → step (.int (k : Int)) K') (hk : K [.int (f 0), .int (f 1), .int (f 2), .int (f 3)]) : Jt step I2 [] K := by
 refine Do (f := fun d => match d with | .int i => .int (f i.toNat) | d => d) _ [] (fun x hx K' hK' => ?_) #[] hk
 (refine Af (TC hx) fun k hk4 zq1 => ?_; subst zq1)
 exact h k hk4 K' (by simpa using hK')
structure N5 (o out : T6) (st : Nat) : Prop where
 wo : Wf o
 wu : Wf out
 nf : out.nf = o.nf
 pr : out.pr = o.pr
 ne : o.l ≠ (inv out).l
 st : NK st
 b1 : o.da + 1 < 256 ^ zOf o.nf
 b2 : out.sa + 1 < 256 ^ zOf o.nf
theorem Ot (h : k < 4) : ([.int 167772160, .int 134742016, .int 3221225472, .int 2886729728] : List D)[k]? = some (.int (F5 k)) := by
 match k, h with
 | 0, _ => rfl
 | 1, _ => rfl
 | 2, _ => rfl
 | 3, _ => rfl
theorem Oa (h : k < 4) : ([.int 4000, .int 53, .int 61000, .int 8053] : List D)[k]? = some (.int (R7 k)) := by
 match k, h with
 | 0, _ => rfl
 | 1, _ => rfl
 | 2, _ => rfl
 | 3, _ => rfl
theorem PN (hn : nf = 2 ∨ nf = 10) {x : Nat} (hx : x < 4294967295) : DS nf + x + 1 < 256 ^ zOf nf := by
 rcases hn with rfl | rfl
 ·show 0 + x + 1 < 256 ^ 4; lia
 ·show 536939960 * 2 ^ 96 + x + 1 < 256 ^ 16; lia
theorem OW (hn : nf = 2 ∨ nf = 10) (ns : List Int) (b k : Nat) : Bb nf ns b k + 1 < 256 ^ zOf nf := by
 have h := (GO (dig ns (b + 2 + 2 * k) + 5)).2
 have hf : F5 k ≤ 3221225472 := by
  match k with
  | 0 => decide
  | 1 => decide
  | 2 => decide
  | 3 => decide
  | n + 4 => exact Nat.zero_le _
 unfold Bb
 rw [Nat.add_assoc (DS nf)]
 exact PN hn (by lia)
end
noncomputable def De (nf p : Nat) : Nat := if nf = 2 then (if p % 2 = 0 then 13 else 8) else 128
noncomputable def pS (nf pr : Nat) (ns : List Int) (b k : Nat) : Nat := if pr = 1 ∨ pr = 58 then (if k % 2 = 0 then C5 ns b k else 256 * De nf (C5 ns b 1)) else if pr = 47 then 0 else C5 ns b k
noncomputable def FI (nf pr : Nat) (ns : List Int) (b : Nat) : T6 := ⟨nf, pr, Bb nf ns b 0, pS nf pr ns b 0, Bb nf ns b 1, pS nf pr ns b 1⟩
noncomputable def Dz (nf pr : Nat) (ns : List Int) (b w : Nat) : T6 := ⟨nf, pr, if w < 2 then Bb nf ns b 2 else Bb nf ns b 0, if w < 2 then pS nf pr ns b 2 else pS nf pr ns b 0, if w % 2 = 0 then Bb nf ns b 3 else Bb nf ns b 1, if w % 2 = 0 then pS nf pr ns b 3 else pS nf pr ns b 1⟩
noncomputable def stN (w : Nat) : Nat := 398 + (if w < 2 then 16 else 0) + (if w % 2 = 0 then 32 else 0)
theorem Nj (nf pr : Nat) (ns : List Int) (b k : Nat) : pS nf pr ns b k < 65536 := by
 have h : ∀ k, C5 ns b k < 65536 := fun k => (GO _).2
 unfold pS De
 split
 ·split
  ·exact h k
  ·split
   ·split <;> decide
   ·decide
 ·split
  ·decide
  ·exact h k
theorem QV {nf p : Nat} (hn : nf = 2 ∨ nf = 10) : (nf = 2 ∧ (256 * De nf p / 256 = 0 ∨ 256 * De nf p / 256 = 8 ∨ 256 * De nf p / 256 = 13 ∨ 256 * De nf p / 256 = 14)) ∨ (nf = 10 ∧ (256 * De nf p / 256 = 128 ∨ 256 * De nf p / 256 = 129)) := by
 rcases hn with rfl | rfl
 ·left
  unfold De
  rw [if_pos rfl]
  split
  ·exact ⟨rfl, .inr (.inr (.inl rfl))⟩
  ·exact ⟨rfl, .inr (.inl rfl)⟩
 ·right
  unfold De
  rw [if_neg #[]]
  exact ⟨rfl, .inl rfl⟩
theorem Rx {nf pr : Nat} (comb : (nf = 2 ∧ (pr = 17 ∨ pr = 1 ∨ pr = 6 ∨ pr = 47)) ∨ (nf = 10 ∧ (pr = 58 ∨ pr = 17 ∨ pr = 6))) (ns : List Int) (b w : Nat) (hw : w < 4) : N5 (FI nf pr ns b) (Dz nf pr ns b w) (stN w) := by
 have hn : nf = 2 ∨ nf = 10 := by refine Or.elim comb (fun h => ?_) (fun h => ?_); exact .inl h.1; exact .inr h.1
 have hs : ∀ k, Bb nf ns b k + 1 < 256 ^ zOf nf := fun k => OW hn ns b k
 have hic : Ay nf pr = decide (pr = 1 ∨ pr = 58) := by rcases comb with ⟨rfl, h | h | h | h⟩ | ⟨rfl, h | h | h⟩ <;> rw [h] <;> rfl
 have ping : ∀ k, k % 2 = 1 → Ay nf pr = true → (nf = 2 ∧ (pS nf pr ns b k / 256 = 0 ∨ pS nf pr ns b k / 256 = 8 ∨ pS nf pr ns b k / 256 = 13 ∨ pS nf pr ns b k / 256 = 14)) ∨ (nf = 10 ∧ (pS nf pr ns b k / 256 = 128 ∨ pS nf pr ns b k / 256 = 129)) := by
  intro k hk hi
  rw [hic] at hi
  have e : pS nf pr ns b k = 256 * De nf (C5 ns b 1) := by
   unfold pS; rw [if_pos (of_decide_eq_true hi), if_neg (by lia)]
  rw [e]
  exact QV hn
 have gre : ∀ k, pr = 47 → pS nf pr ns b k = 0 := by
  intro k h; unfold pS; rw [if_neg (by lia), if_pos h]
 have w1 : Wf (FI nf pr ns b) := ⟨comb, ⟨Nat.lt_of_succ_lt (hs 0), Nat.lt_of_succ_lt (hs 1), Nj .., Nj ..⟩, ping 1 rfl, fun h => ⟨gre _ h, gre _ h⟩⟩
 have w2 : Wf (Dz nf pr ns b w) := by
  refine ⟨comb, ⟨?_, ?_, ?_, ?_⟩, ?_, fun h => ⟨?_, ?_⟩⟩
  ·unfold Dz; dsimp only; split
   ·have := hs 2; lia
   ·have := hs 0; lia
  ·unfold Dz; dsimp only; split
   ·have := hs 3; lia
   ·have := hs 1; lia
  ·unfold Dz; dsimp only; split <;> exact Nj ..
  ·unfold Dz; dsimp only; split <;> exact Nj ..
  ·unfold Dz; dsimp only; split
   ·exact ping 3 rfl
   ·exact ping 1 rfl
  ·unfold Dz; dsimp only; split <;> exact gre _ h
  ·unfold Dz; dsimp only; split <;> exact gre _ h
 refine ⟨w1, w2, rfl, rfl, ?_, ?_, hs 1, ?_⟩
 ·have e : (inv (Dz nf pr ns b w)).sa = (Dz nf pr ns b w).da := by unfold inv; split <;> rfl
  intro c
  have c2 : ((FI nf pr ns b).sa : Int) = ((inv (Dz nf pr ns b w)).sa : Int) := by
   unfold T6.l at c
   exact (List.cons.inj (List.cons.inj (List.cons.inj c).2).2).1
  rw [e] at c2
  have c3 : Bb nf ns b 0 = (if w % 2 = 0 then Bb nf ns b 3 else Bb nf ns b 1) := by
   have : (FI nf pr ns b).sa = (Dz nf pr ns b w).da := by lia
   exact this
  have h0 := (GO (dig ns (b + 2 + 2 * 0) + 5)).2
  have h1 := (GO (dig ns (b + 2 + 2 * 1) + 5)).2
  have h3 := (GO (dig ns (b + 2 + 2 * 3) + 5)).2
  unfold Bb at c3
  have f0 : F5 0 = 167772160 := rfl
  have f1 : F5 1 = 134742016 := rfl
  have f3 : F5 3 = 2886729728 := rfl
  rw [f0, f1, f3] at c3
  split at c3 <;> lia
 ·unfold NK stN
  have hw' : w = 0 ∨ w = 1 ∨ w = 2 ∨ w = 3 := by lia
  rcases hw' with rfl | rfl | rfl | rfl <;> decide
 ·unfold Dz; dsimp only; split
  ·exact hs 2
  ·exact hs 0
theorem IE (h : 62 < n) {ns : List Int} {b num : Nat} (hl : ns.length ≤ 1000) (hb : b ≤ 100) (hnum : num ≤ 10) (hk : ∀ σ' tk o out st, Ai σ σ' → TK σ' tk (5 + num) st o (inv out) → N5 o out st → K (.tup [.ref tk, tD out]) σ') : Ab rows n 62 [.lst (ns.map .int), .int b, .int num] σ K := by
 refine Am (ρ := [some (.lst (ns.map .int)), some (.int b), some (.int num), none, none, none, none, none, none, none, none, none, none, none, none, none]) Et (by assumption) rfl rfl rfl rfl (by kernel_rfl) ?_; unfold Et
 refine A4 ?_
 kpf_c
 refine ⟨#[], #[], #[], #[], #[], #[], #[], nb rfl, nb rfl, A8 ?_⟩
 kpf_c
 refine AH #[] hl (by lia) ?_
 refine oa2 (Mw (dig ns b + num) (show 0 < 7 by decide)) fun e7 l7 => ?_
 refine ⟨#[], ?_⟩
 rw [show (dig ns b + (num : Int)).fmod 7 = ((mN (dig ns b + num) 7 : Nat) : Int) from e7]
 refine Eb _ (Ol l7) (by lia) ?_
 have comb := QG (mN (dig ns b + num) 7)
 generalize mN (dig ns b + num) 7 = i7 at *
 generalize (kT i7).1 = nf at *
 generalize (kT i7).2 = pr at *
 have hn : nf = 2 ∨ nf = 10 := by refine Or.elim comb (fun h => ?_) (fun h => ?_); exact .inl h.1; exact .inr h.1
 refine (tu2 rfl (A4 ?_))
 refine Re nf hn (by rfl) ⟨nb rfl, A4 ?_⟩
 kpf_c
 refine ⟨nb rfl, nb rfl, A4 ?_⟩
 kpf_c
 refine ⟨B5 4 #[], I2, So _, Ri (f := Bb nf ns b) (fun k hk4 K' hK' => ?_) ⟨nb rfl, A4 ?_⟩⟩
 ·intro p0 o0 _
  rw [Fr]
  refine ⟨rfl, fun ω => ?_, fun e => absurd e #[]⟩
  refine Eb _ (Ot hk4) (by lia) ?_
  rw [B2]
  refine ⟨.inl #[], ?_⟩
  dsimp only [B2]
  rw [show (b : Int) + 2 + 2 * (k : Int) = ((b + 2 + 2 * k : Nat) : Int) from rfl]
  refine AH #[] hl (by lia) ?_
  rw [B2, DR]
  refine ⟨#[], ?_⟩
  rw [(GO _).1, B2, show (DS nf : Int) + (F5 k : Int) + ((m16 (dig ns (b + 2 + 2 * k) + 5) : Nat) : Int) = ((Bb nf ns b k : Nat) : Int) by unfold Bb; lia]
  exact ⟨rfl, hK'⟩
 kpf_c
 refine ⟨B5 4 #[], I2, So _, Ri (f := C5 ns b) (fun k hk4 K' hK' => ?_) ⟨nb rfl, ?_⟩⟩
 ·intro p0 o0 _
  rw [Fr]
  refine ⟨rfl, fun ω => ?_, fun e => absurd e #[]⟩
  refine ⟨.inl #[], ?_⟩
  dsimp only [B2]
  rw [show (b : Int) + 3 + 2 * (k : Int) = ((b + 3 + 2 * k : Nat) : Int) from rfl]
  refine AH #[] hl (by lia) ⟨#[], Eb _ (Oa hk4) (by lia) ?_⟩
  rw [B2, DR]
  refine ⟨#[], ?_⟩
  rw [(GO _).1]
  exact ⟨rfl, hK'⟩
 have tail : ∀ (x10 : Option D), Ak (Ab rows 62) #[.cond (.cmp .Eq (.loc 5) {47}) #[.asg (.loc 9) (.lst #[{0},{0},{0},{0}])] .nil,.asg (.loc 11) (.tup #[.loc 4,.loc 5,.idx (.loc 8) {0},.idx (.loc 9) {0},.idx (.loc 8) {1},.idx (.loc 9) {1}]),.asg (.loc 12) (.loc 11),.asg (.loc 13) (.bin .Mod (.bin .Add (.call 51 #[.loc 0,.bin .Add (.loc 1) {1}]) (.loc 2)) {4}),.cond (.cmp .Lt (.loc 13) {2}) #[.asg (.loc 12) (.bin .Add (.bin .Add (.slc (.loc 12) (.cst .none) {2}) (.tup #[.idx (.loc 8) {2},.idx (.loc 9) {2}])) (.slc (.loc 12) {4} (.cst .none)))] .nil,.cond (.cmp .Eq (.bin .Mod (.loc 13) {2}) {0}) #[.asg (.loc 12) (.bin .Add (.slc (.loc 12) (.cst .none) {4}) (.tup #[.idx (.loc 8) {3},.idx (.loc 9) {3}]))] .nil,.asg (.loc 14) (.call 27 #[.bin .Add {5} (.loc 2),.loc 11,.call 59 #[.loc 12],{0}]),.asg (.attr (.loc 14) (Z "until")) {1001},.asg (.attr (.loc 14) (Z "status")) (.bin .Add (.bin .Add (.bin .Add {14} {384}) (.ite (.cmp .Lt (.loc 13) {2}) {16} {0})) (.ite (.cmp .Eq (.bin .Mod (.loc 13) {2}) {0}) {32} {0})),.ret (.tup #[.loc 14,.loc 12])] [some (.lst (ns.map .int)), some (.int b), some (.int num), some (.lst F2), some (.int nf), some (.int pr), some (.int (DS nf)), some (.lst [.int 167772160, .int 134742016, .int 3221225472, .int 2886729728]), some (CV (Bb nf ns b)), some (CV (fun k => if pr = 1 ∨ pr = 58 then (if k % 2 = 0 then C5 ns b k else 256 * De nf (C5 ns b 1)) else C5 ns b k)), x10, none, none, none, none, none] σ (Bh K) := by
  intro x10
  have tail2 : Ak (Ab rows 62) #[.asg (.loc 11) (.tup #[.loc 4,.loc 5,.idx (.loc 8) {0},.idx (.loc 9) {0},.idx (.loc 8) {1},.idx (.loc 9) {1}]),.asg (.loc 12) (.loc 11),.asg (.loc 13) (.bin .Mod (.bin .Add (.call 51 #[.loc 0,.bin .Add (.loc 1) {1}]) (.loc 2)) {4}),.cond (.cmp .Lt (.loc 13) {2}) #[.asg (.loc 12) (.bin .Add (.bin .Add (.slc (.loc 12) (.cst .none) {2}) (.tup #[.idx (.loc 8) {2},.idx (.loc 9) {2}])) (.slc (.loc 12) {4} (.cst .none)))] .nil,.cond (.cmp .Eq (.bin .Mod (.loc 13) {2}) {0}) #[.asg (.loc 12) (.bin .Add (.slc (.loc 12) (.cst .none) {4}) (.tup #[.idx (.loc 8) {3},.idx (.loc 9) {3}]))] .nil,.asg (.loc 14) (.call 27 #[.bin .Add {5} (.loc 2),.loc 11,.call 59 #[.loc 12],{0}]),.asg (.attr (.loc 14) (Z "until")) {1001},.asg (.attr (.loc 14) (Z "status")) (.bin .Add (.bin .Add (.bin .Add {14} {384}) (.ite (.cmp .Lt (.loc 13) {2}) {16} {0})) (.ite (.cmp .Eq (.bin .Mod (.loc 13) {2}) {0}) {32} {0})),.ret (.tup #[.loc 14,.loc 12])] [some (.lst (ns.map .int)), some (.int b), some (.int num), some (.lst F2), some (.int nf), some (.int pr), some (.int (DS nf)), some (.lst [.int 167772160, .int 134742016, .int 3221225472, .int 2886729728]), some (CV (Bb nf ns b)), some (CV (pS nf pr ns b)), x10, none, none, none, none, none] σ (Bh K) := by
   refine A4 ?_
   kpf_c
   refine Eb 0 rfl #[] (Eb 0 rfl #[] (Eb 1 rfl #[] (Eb 1 rfl #[] ⟨nb rfl, nb rfl, A4 ?_⟩)))
   kpf_c
   refine ⟨nb rfl, A4 ?_⟩
   kpf_c
   rw [show (b : Int) + 1 = ((b + 1 : Nat) : Int) from rfl]
   refine AH #[] hl (by lia) ⟨#[], nb rfl, ?_⟩
   refine oa2 (Mw (dig ns (b + 1) + num) (show 0 < 4 by decide)) fun e4 l4 => ?_
   rw [show (dig ns (b + 1) + (num : Int)).fmod 4 = ((mN (dig ns (b + 1) + num) 4 : Nat) : Int) from e4]
   generalize mN (dig ns (b + 1) + num) 4 = w at *
   have ok := Rx comb ns b w l4
   have elt : decide ((w : Int) < 2) = decide (w < 2) := decide_eq_decide.mpr (by lia)
   have eev : ((w : Int).fmod 2 == 0) = decide (w % 2 = 0) := by
    rw [show (2 : Int) = ((2 : Nat) : Int) from rfl, Cj]; exact Bp _ 0
   have tail3 : Ak (Ab rows 62) #[.asg (.loc 14) (.call 27 #[.bin .Add {5} (.loc 2),.loc 11,.call 59 #[.loc 12],{0}]),.asg (.attr (.loc 14) (Z "until")) {1001},.asg (.attr (.loc 14) (Z "status")) (.bin .Add (.bin .Add (.bin .Add {14} {384}) (.ite (.cmp .Lt (.loc 13) {2}) {16} {0})) (.ite (.cmp .Eq (.bin .Mod (.loc 13) {2}) {0}) {32} {0})),.ret (.tup #[.loc 14,.loc 12])] [some (.lst (ns.map .int)), some (.int b), some (.int num), some (.lst F2), some (.int nf), some (.int pr), some (.int (DS nf)), some (.lst [.int 167772160, .int 134742016, .int 3221225472, .int 2886729728]), some (CV (Bb nf ns b)), some (CV (pS nf pr ns b)), x10, some (tD (FI nf pr ns b)), some (tD (Dz nf pr ns b w)), some (.int w), none, none] σ (Bh K) := by
    refine A4 ?_
    kpf_c
    refine Ch #[] ok.wu.okA fun σ₁ s1 => ?_
    rw [show (5 : Int) + (num : Int) = ((5 + num : Nat) : Int) from rfl]
    refine NN #[] fun σ₂ x C ia s2 hx ho => ⟨nb rfl, A8 ?_⟩
    kst_p
    have s02 := s1.trans s2
    have hxn := fresh s1 hx
    refine Aj (tkf (5 + num) (tD (FI nf pr ns b)) (tD (inv (Dz nf pr ns b w))) (.int 0) 1001 0) hxn (by rfl) s02 ho (nb rfl) (by rfl) fun σ₃ s3 k3 o3 => A8 ?_
    have eS : ∀ Q : D → Sto → Prop, Q (.int (stN w)) σ₃ → wpE (Ab rows 62) (.bin .Add (.bin .Add (.bin .Add {14} {384}) (.ite (.cmp .Lt (.loc 13) {2}) {16} {0})) (.ite (.cmp .Eq (.bin .Mod (.loc 13) {2}) {0}) {32} {0})) [some (.lst (ns.map .int)), some (.int b), some (.int num), some (.lst F2), some (.int nf), some (.int pr), some (.int (DS nf)), some (.lst [.int 167772160, .int 134742016, .int 3221225472, .int 2886729728]), some (CV (Bb nf ns b)), some (CV (pS nf pr ns b)), x10, some (tD (FI nf pr ns b)), some (tD (Dz nf pr ns b w)), some (.int w), some (.ref x), none] σ₃ Q := by
     intro Q hQ
     kpf_c
     rw [elt, eev]
     unfold stN at hQ
     by_cases h1 : w < 2 <;> by_cases h2 : w % 2 = 0
     ·rw [if_pos h1, if_pos h2] at hQ
      rw [decide_eq_true h1, decide_eq_true h2]
      exact ⟨fun ω => ⟨#[], fun ω => hQ, fun e => absurd e #[]⟩, fun e => absurd e #[]⟩
     ·rw [if_pos h1, if_neg h2] at hQ
      rw [decide_eq_true h1, decide_eq_false h2]
      exact ⟨fun ω => ⟨#[], fun e => absurd e #[], fun ω => hQ⟩, fun e => absurd e #[]⟩
     ·rw [if_neg h1, if_pos h2] at hQ
      rw [decide_eq_false h1, decide_eq_true h2]
      exact ⟨fun e => absurd e #[], fun ω => ⟨#[], fun ω => hQ, fun e => absurd e #[]⟩⟩
     ·rw [if_neg h1, if_neg h2] at hQ
      rw [decide_eq_false h1, decide_eq_false h2]
      exact ⟨fun e => absurd e #[], fun ω => ⟨#[], fun e => absurd e #[], fun ω => hQ⟩⟩
    refine eS _ ?_
    show Ap _ _ _ _ _ _
    refine Aj (tkf (5 + num) (tD (FI nf pr ns b)) (tD (inv (Dz nf pr ns b w))) (.int 0) 1001 (stN w)) hxn (by rfl) s3 o3 (nb rfl) (by rfl) fun σ₄ s4 k4 o4 => Ac ?_
    kpf_c
    exact ⟨#[], hk _ _ _ _ _ s4 ⟨_, _, _, o4, rfl, rfl, rfl, rfl, rfl⟩ ok⟩
   have tail4 : ∀ (sa sp : Nat), (if w < 2 then Bb nf ns b 2 else Bb nf ns b 0) = sa → (if w < 2 then pS nf pr ns b 2 else pS nf pr ns b 0) = sp → Ak (Ab rows 62) #[.cond (.cmp .Eq (.bin .Mod (.loc 13) {2}) {0}) #[.asg (.loc 12) (.bin .Add (.slc (.loc 12) (.cst .none) {4}) (.tup #[.idx (.loc 8) {3},.idx (.loc 9) {3}]))] .nil,.asg (.loc 14) (.call 27 #[.bin .Add {5} (.loc 2),.loc 11,.call 59 #[.loc 12],{0}]),.asg (.attr (.loc 14) (Z "until")) {1001},.asg (.attr (.loc 14) (Z "status")) (.bin .Add (.bin .Add (.bin .Add {14} {384}) (.ite (.cmp .Lt (.loc 13) {2}) {16} {0})) (.ite (.cmp .Eq (.bin .Mod (.loc 13) {2}) {0}) {32} {0})),.ret (.tup #[.loc 14,.loc 12])] [some (.lst (ns.map .int)), some (.int b), some (.int num), some (.lst F2), some (.int nf), some (.int pr), some (.int (DS nf)), some (.lst [.int 167772160, .int 134742016, .int 3221225472, .int 2886729728]), some (CV (Bb nf ns b)), some (CV (pS nf pr ns b)), x10, some (tD (FI nf pr ns b)), some (tD ⟨nf, pr, sa, sp, Bb nf ns b 1, pS nf pr ns b 1⟩), some (.int w), none, none] σ (Bh K) := by
    intro sa sp e1 e2
    unfold Dz at tail3
    rw [e1, e2] at tail3
    by_cases h2 : w % 2 = 0
    ·rw [if_pos h2, if_pos h2] at tail3
     refine Al (fun R hR => ?_) (A4 ?_)
     ·kpf_c; refine ⟨#[], ?_⟩; rw [eev, decide_eq_true h2]; exact hR
     kpf_c
     refine ⟨_, _, nb rfl, rfl, rfl, ?_⟩
     refine Eb 3 rfl #[] (Eb 3 rfl #[] ⟨nb rfl, ?_⟩)
     dsimp only [Fd]
     exact ⟨nb rfl, nb rfl, A1 tail3⟩
    ·rw [if_neg h2, if_neg h2] at tail3
     refine Ad (fun R hR => ?_) (A1 tail3)
     kpf_c; refine ⟨#[], ?_⟩; rw [eev, decide_eq_false h2]; exact hR
   by_cases h1 : w < 2
   ·rw [if_pos h1, if_pos h1] at tail4
    refine Al (fun R hR => ?_) (A4 ?_)
    ·kpf_c; rw [elt, decide_eq_true h1]; exact hR
    kpf_c
    refine ⟨_, _, nb rfl, rfl, rfl, ?_⟩
    refine Eb 2 rfl #[] (Eb 2 rfl #[] ⟨nb rfl, ?_⟩)
    dsimp only [Fd]
    refine ⟨nb rfl, _, _, nb rfl, rfl, rfl, ?_⟩
    dsimp only [Fd]
    exact ⟨nb rfl, nb rfl, A1 (tail4 _ _ rfl rfl)⟩
   ·rw [if_neg h1, if_neg h1] at tail4
    refine Ad (fun R hR => ?_) (A1 (tail4 _ _ rfl rfl))
    kpf_c; rw [elt, decide_eq_false h1]; exact hR
  by_cases h47 : pr = 47
  ·refine Al (fun R hR => ?_) (A4 ?_)
   ·kpf_c; rw [h47]; exact hR
   kpf_c
   refine ⟨nb rfl, nb rfl, A1 ?_⟩
   have e : CV (pS nf pr ns b) = .lst [.int 0, .int 0, .int 0, .int 0] := by
    unfold CV pS; rw [if_neg (by lia), if_pos h47, if_neg (by lia), if_pos h47, if_neg (by lia), if_pos h47, if_neg (by lia), if_pos h47]; rfl
   rw [e] at tail2
   exact tail2
  ·refine Ad (fun R hR => ?_) (A1 ?_)
   ·kpf_c; rw [show ((pr : Int) == 47) = false from (Ax pr 47).trans (beq_false_of_ne h47)]; exact hR
   have e : CV (pS nf pr ns b) = CV (fun k => if pr = 1 ∨ pr = 58 then (if k % 2 = 0 then C5 ns b k else 256 * De nf (C5 ns b 1)) else C5 ns b k) := by
    unfold CV pS; dsimp only; rw [if_neg h47, if_neg h47, if_neg h47, if_neg h47]
   rw [← e]
   exact tail2
 by_cases hp : pr = 1 ∨ pr = 58
 ·refine Al (fun R hR => ?_) (A4 ?_)
  ·kpf_c
   refine ⟨#[], [1, 58], rfl, ?_⟩
   rw [show ([1, 58] : List Int).contains (pr : Int) = true from (Cc pr 1 58).trans (decide_eq_true hp)]; exact hR
  have asks : ∀ Q : D → Sto → Prop, Q (.int (De nf (C5 ns b 1))) σ → wpE (Ab rows 62) (.ite (.cmp .Eq (.loc 4) {2}) (.idx (.tup #[{8},{13}]) (.bin .Sub (.bin .Mod (.idx (.loc 9) {1}) {2}) {1})) {128}) [some (.lst (ns.map .int)), some (.int b), some (.int num), some (.lst F2), some (.int nf), some (.int pr), some (.int (DS nf)), some (.lst [.int 167772160, .int 134742016, .int 3221225472, .int 2886729728]), some (CV (Bb nf ns b)), some (CV (C5 ns b)), none, none, none, none, none, none] σ Q := by
   intro Q hQ
   rcases hn with rfl | rfl
   ·refine Au (fun R hR => by kpf_c; exact hR) ?_
    kpf_c
    refine ⟨#[], Eb 1 rfl #[] ?_⟩
    unfold De at hQ
    rw [if_pos rfl] at hQ
    rw [DR, show (2 : Int) = ((2 : Nat) : Int) from rfl, Cj, ET]
    refine Or.elim (Nat.mod_two_eq_zero_or_one (C5 ns b 1)) (fun h0 => ?_) (fun h1 => ?_)
    ·rw [if_pos h0] at hQ
     rw [h0]
     exact ⟨#[], _, rfl, #[], hQ⟩
    ·rw [if_neg (by lia)] at hQ
     rw [h1]
     exact ⟨#[], _, rfl, #[], hQ⟩
   ·exact Av (fun R hR => by kpf_c; exact hR) hQ
  refine asks _ ⟨nb rfl, A4 ?_⟩
  kpf_c
  refine Eb 0 rfl #[] ⟨.inl #[], Eb 2 rfl #[] ⟨.inl #[], nb rfl, nb rfl, A1 ?_⟩⟩
  rw [show (256 : Int) * ((De nf (C5 ns b 1) : Nat) : Int) = ((256 * De nf (C5 ns b 1) : Nat) : Int) from rfl]
  have e : CV (fun k => if pr = 1 ∨ pr = 58 then (if k % 2 = 0 then C5 ns b k else 256 * De nf (C5 ns b 1)) else C5 ns b k) = .lst [.int (C5 ns b 0), .int ((256 * De nf (C5 ns b 1) : Nat) : Int), .int (C5 ns b 2), .int ((256 * De nf (C5 ns b 1) : Nat) : Int)] := by
   unfold CV; dsimp only; rw [if_pos hp, if_pos hp, if_pos hp, if_pos hp]; rfl
  rw [e] at tail
  exact tail _
 ·refine Ad (fun R hR => ?_) (A1 ?_)
  ·kpf_c
   refine ⟨#[], [1, 58], rfl, ?_⟩
   rw [show ([1, 58] : List Int).contains (pr : Int) = false from (Cc pr 1 58).trans (decide_eq_false hp)]; exact hR
  have e : CV (fun k => if pr = 1 ∨ pr = 58 then (if k % 2 = 0 then C5 ns b k else 256 * De nf (C5 ns b 1)) else C5 ns b k) = CV (C5 ns b) := by
   unfold CV; dsimp only; rw [if_neg hp, if_neg hp, if_neg hp, if_neg hp]
  rw [e] at tail
  exact tail _
section
variable {j : Nat}
noncomputable def MP (nf pr ex j : Nat) : Nat := ([Ae nf ex + 8, 200, Ae nf ex + (if pr = 6 ∨ pr = 17 ∨ pr = 47 then 4 else 8), Ae nf ex + 8] : List Nat).getD j 200
noncomputable def Cq (nf : Nat) : List Nat := if nf = 2 then [3, 11, 4, 12, 5] else [1, 3, 2, 4]
theorem PC {nf j : Nat} (hn : nf = 2 ∨ nf = 10) (hj : j < (Cq nf).length) : kOk nf ((Cq nf).getD j 0) := by
 rcases hn with rfl | rfl
 ·match j, hj with
  | 0, _ => left; decide
  | 1, _ => left; decide
  | 2, _ => left; decide
  | 3, _ => left; decide
  | 4, _ => left; decide
 ·match j, hj with
  | 0, _ => right; decide
  | 1, _ => right; decide
  | 2, _ => right; decide
  | 3, _ => right; decide
theorem RY {nf pr ex j : Nat} (hj : j < 4) (hi : Ay nf pr = decide (pr = 1 ∨ pr = 58)) : MP nf pr ex j = 200 ∨ MP nf pr ex j = Ae nf ex + 8 ∨ (MP nf pr ex j = Ae nf ex + 4 ∧ Ay nf pr = false) := by
 match j, hj with
 | 0, _ => exact .inr (.inl rfl)
 | 1, _ => exact .inl rfl
 | 2, _ =>
  show Ae nf ex + (if pr = 6 ∨ pr = 17 ∨ pr = 47 then 4 else 8) = 200 ∨ _ ∨ _
  by_cases h : pr = 6 ∨ pr = 17 ∨ pr = 47
  ·right; right
   refine ⟨by show Ae nf ex + (if pr = 6 ∨ pr = 17 ∨ pr = 47 then 4 else 8) = _; rw [if_pos h], ?_⟩
   rw [hi]; exact decide_eq_false (by lia)
  ·right; left
   show Ae nf ex + (if pr = 6 ∨ pr = 17 ∨ pr = 47 then 4 else 8) = _
   rw [if_neg h]
 | 3, _ => exact .inr (.inl rfl)
theorem Oy (p a b c : Nat) : ([(a : Int), (b : Int), (c : Int)] : List Int).contains (p : Int) = decide (p = a ∨ p = b ∨ p = c) := by
 simp only [List.contains_cons, List.contains_nil, Bool.or_false]
 rw [Bp, Bp, Bp]
 by_cases h1 : p = a <;> by_cases h2 : p = b <;> by_cases h3 : p = c <;> simp [h1, h2, h3]
theorem PD {nf j : Nat} (hj : j < (Cq nf).length) : ((Cq nf).map fun (k : Nat) => D.int (k : Int))[j]? = some (.int ((Cq nf).getD j 0 : Nat)) := by
 rw [List.getElem?_map, List.getElem?_eq_getElem hj, Kh _ hj]; rfl
theorem RV {o out T : T6} {st ex c kind oa f : Nat} {data : List UInt8} {bare : Bool} (ok : N5 o out st) (hx : Cx T data ex c bare) (nT : T.nf = o.nf) (hk : kOk o.nf kind) (ha : oa < 256 ^ zOf o.nf) (hb : T.sa + f < 256 ^ zOf o.nf) : Er o.nf oa (T.sa + f) kind (wc T data ex c bare) := by
 exact ⟨hk, ha, hb, by rw [hx.lz]; exact Nat.le_trans (Nat.min_le_left _ _) (hx.hcle), Nat.le_trans (Nat.le_add_left 4 _) (hx.lge hx.cle.1 #[])⟩
end
section
variable {ns : List Int}
theorem Sp (σ : Sto) : Ah σ (.rng 0 2 1) = some [.int 0, .int 1] := by
 have h : Builtin.Range.small 0 ((2 : Nat) : Int) 1 = true := B5 2 #[]
 have e : Ah σ (.rng 0 ((2 : Nat) : Int) 1) = if Builtin.Range.small 0 ((2 : Nat) : Int) 1 then some ((B1 0 ((2 : Nat) : Int) 1).map D.int) else none := rfl
 rw [h, if_pos rfl, Ci] at e
 exact e
theorem Jf {tb : Addr} {es : List ((Int × List Int) × D)} {t : T6} {v : D} {K : Sto → Prop} (hs : σ tb = some (.tdict es) ∨ σ tb = some .edict ∧ es = []) (hl : es.lookup (0, t.l) = none) (hn : es.length ≤ 1000) (k : K (σ.upd tb (.tdict (es ++ [((0, t.l), v)])))) : P6 σ (.ref tb) (.tup [.int 0, tD t]) v K :=
 .inr (.inr ⟨es, 0, t.l, rfl, hs, hl, hn, k⟩)
theorem O0 {ts : Addr} {v : D} {K : Sto → Prop} (hs : σ ts = some .edict) (k : K (σ.upd ts (.idict [((n : Int), v)]))) : P6 σ (.ref ts) (.int (n : Int)) v K :=
 .inr (.inl ⟨[], n, rfl, .inr ⟨hs, rfl⟩, rfl, #[], k⟩)
theorem E0 (h : 63 < n) {num : Nat} (hl : ns.length ≤ 1000) (hnum : num ≤ 1) (hk : ∀ σ', Ai σ σ' → K (.bool true) σ') : Ab rows n 63 [.lst (ns.map .int), .int num] σ K := by
 refine Am (ρ := [some (.lst (ns.map .int)), some (.int num), none, none, none, none, none, none, none, none, none, none, none, none, none, none, none, none, none, none, none, none, none, none, none, none, none, none]) DK (by assumption) rfl rfl rfl rfl (by kernel_rfl) ?_; unfold DK
 refine A4 ?_
 kpf_c
 refine ⟨.inl #[], nb rfl, A8 ?_⟩
 rw [show (16 : Int) * (num : Int) = ((16 * num : Nat) : Int) from rfl]
 kpf_c
 have hb16 : 16 * num ≤ 100 := by lia
 refine IE #[] hl hb16 (by lia) fun σ₁ tk o out st s1 tt1 ok => ?_
 generalize 16 * num = b at *
 refine (tu2 rfl (A8 ?_))
 have wo := ok.wo
 have wu := ok.wu
 have hnf := wo.nf
 have hio := wo.icmp
 refine oa3 (wu.inv) fun wr rn rp => ?_
 have hnp : (inv out).nf = o.nf ∧ (inv out).pr = o.pr := ⟨by rw [rn, ok.nf], by rw [rp, ok.pr]⟩
 kpf_c
 refine ⟨_, _, nb rfl, rfl, rfl, ?_⟩
 refine (tu2 rfl (A4 ?_))
 kpf_c
 rw [ok.nf, ok.pr]
 refine IH #[] fun σ₂ bk tb ts C ia fs s2 hbk htb hts nbt ob fb ft eb et => ⟨nb rfl, A8 ?_⟩
 have s02 := s1.trans s2
 have tt2 := tt1.mono s2
 have bkn := fresh s1 hbk
 have tbn := fresh s1 htb
 have tsn := fresh s1 hts
 have nb1 : bk ≠ tb := fun c => by rw [c, eb] at ob; cases ob
 have nb2 : bk ≠ ts := fun c => by rw [c, et] at ob; cases ob
 have tkb : tk ≠ tb := fun c => by refine By (tt2.obj) fun ω ω ω e ω => ?_; rw [c, eb] at e; cases e
 have tks : tk ≠ ts := fun c => by refine By (tt2.obj) fun ω ω ω e ω => ?_; rw [c, et] at e; cases e
 kpf_c
 refine tt2.number ⟨#[], ?_⟩
 refine at_ ob fb (tt2.original ⟨#[], Jf (es := []) (.inr ⟨eb, rfl⟩) rfl #[] (A8 ?_)⟩)
 have st3 : ∀ (τ : Sto) (x : Cv), Ai σ τ → Ai σ (τ.upd tb x) := fun τ x s y hy => by rw [Sto.upd_ne _ _ (Ea tbn hy), s y hy]
 have tt3 : TK (σ₂.upd tb (.tdict ([] ++ [((0, o.l), .tup [.int ((5 + num : Nat) : Int), .int 0])]))) tk (5 + num) st o (inv out) := by
  refine By (tt2.obj) fun C ia fs e g => ?_; exact ⟨C, ia, fs, by rw [Sto.upd_ne _ _ tkb]; exact e, g⟩
 have ob3 : (σ₂.upd tb (.tdict ([] ++ [((0, o.l), .tup [.int ((5 + num : Nat) : Int), .int 0])]))) bk = some (.inst C ia fs) := by rw [Sto.upd_ne _ _ nb1]; exact ob
 have eb3 : (σ₂.upd tb (.tdict ([] ++ [((0, o.l), .tup [.int ((5 + num : Nat) : Int), .int 0])]))) tb = some (.tdict [((0, o.l), .tup [.int ((5 + num : Nat) : Int), .int 0])]) := Sto.upd_self ..
 have et3 : (σ₂.upd tb (.tdict ([] ++ [((0, o.l), .tup [.int ((5 + num : Nat) : Int), .int 0])]))) ts = some .edict := by rw [Sto.upd_ne _ _ (Ne.symm nbt)]; exact et
 have s03 := st3 σ₂ (.tdict ([] ++ [((0, o.l), .tup [.int ((5 + num : Nat) : Int), .int 0])])) s02
 generalize σ₂.upd tb (.tdict ([] ++ [((0, o.l), .tup [.int ((5 + num : Nat) : Int), .int 0])])) = σ₃ at *
 kpf_c
 have hlk : ([((0, o.l), D.tup [.int ((5 + num : Nat) : Int), .int 0])] : List ((Int × List Int) × D)).lookup (0, (inv out).l) = none := by
  have : ((((0 : Int), (inv out).l) : Int × List Int) == (0, o.l)) = false := by
   apply beq_false_of_ne
   intro e
   exact ok.ne (Prod.mk.inj e).2.symm
  simp [List.lookup, this]
 refine tt3.number ⟨#[], ?_⟩
 refine at_ ob3 fb (tt3.reply ⟨#[], Jf (.inl eb3) hlk (nb rfl) (A8 ?_)⟩)
 have tt4 : TK (σ₃.upd tb (.tdict ([((0, o.l), .tup [.int ((5 + num : Nat) : Int), .int 0])] ++ [((0, (inv out).l), .tup [.int ((5 + num : Nat) : Int), .int 1])]))) tk (5 + num) st o (inv out) := by
  refine By (tt3.obj) fun C ia fs e g => ?_; exact ⟨C, ia, fs, by rw [Sto.upd_ne _ _ tkb]; exact e, g⟩
 have ob4 : (σ₃.upd tb (.tdict ([((0, o.l), .tup [.int ((5 + num : Nat) : Int), .int 0])] ++ [((0, (inv out).l), .tup [.int ((5 + num : Nat) : Int), .int 1])]))) bk = some (.inst C ia fs) := by rw [Sto.upd_ne _ _ nb1]; exact ob3
 have eb4 : (σ₃.upd tb (.tdict ([((0, o.l), .tup [.int ((5 + num : Nat) : Int), .int 0])] ++ [((0, (inv out).l), .tup [.int ((5 + num : Nat) : Int), .int 1])]))) tb = some (.tdict [((0, o.l), .tup [.int ((5 + num : Nat) : Int), .int 0]), ((0, (inv out).l), .tup [.int ((5 + num : Nat) : Int), .int 1])]) := Sto.upd_self ..
 have et4 : (σ₃.upd tb (.tdict ([((0, o.l), .tup [.int ((5 + num : Nat) : Int), .int 0])] ++ [((0, (inv out).l), .tup [.int ((5 + num : Nat) : Int), .int 1])]))) ts = some .edict := by rw [Sto.upd_ne _ _ (Ne.symm nbt)]; exact et3
 have s04 := st3 σ₃ (.tdict ([((0, o.l), .tup [.int ((5 + num : Nat) : Int), .int 0])] ++ [((0, (inv out).l), .tup [.int ((5 + num : Nat) : Int), .int 1])])) s03
 generalize σ₃.upd tb (.tdict ([((0, o.l), .tup [.int ((5 + num : Nat) : Int), .int 0])] ++ [((0, (inv out).l), .tup [.int ((5 + num : Nat) : Int), .int 1])])) = σ₄ at *
 kpf_c
 refine at_ ob4 ft (tt4.number (O0 et4 (A4 ?_)))
 have bb5 : BK (σ₄.upd ts (.idict [(((5 + num : Nat) : Int), .ref tk)])) bk tk (5 + num) st o (inv out) := by
  refine ⟨⟨C, ia, fs, tb, ts, by rw [Sto.upd_ne _ _ nb2]; exact ob4, fb, ft, by rw [Sto.upd_ne _ _ nbt]; exact eb4, Sto.upd_self ..⟩, ?_⟩
  refine By (tt4.obj) fun C ia fs e g => ?_; exact ⟨C, ia, fs, by rw [Sto.upd_ne _ _ tks]; exact e, g⟩
 have s05 : Ai σ (σ₄.upd ts (.idict [(((5 + num : Nat) : Int), .ref tk)])) := fun y hy => by rw [Sto.upd_ne _ _ (Ea tsn hy), s04 y hy]
 generalize σ₄.upd ts (.idict [(((5 + num : Nat) : Int), .ref tk)]) = σ₅ at *
 clear tt1 tt2 tt3 tt4 ob3 ob4 eb3 eb4 et3 et4 s03 s04 st3 hlk eb et ob
 kpf_c
 rw [show (b : Int) + 10 = ((b + 10 : Nat) : Int) from rfl]
 refine AH #[] hl (by lia) ⟨nb rfl, A4 ?_⟩
 generalize dig ns (b + 10) = dg at *
 kpf_c
 refine Jb #[] (k := 9) #[] ⟨#[], ?_⟩
 refine oa2 (Mw (dg + 4 + num) (show 0 < 9 by decide)) fun e9 l9 => ?_
 rw [show (dg + 4 + (num : Int)).fmod 9 = ((mN (dg + 4 + num) 9 : Nat) : Int) from e9]
 refine P5 (by rw [GL]; decide) _ (by lia) ⟨nb rfl, ?_⟩
 have hdl : ((K5 (dg + 323512336240469276417) 9).drop (mN (dg + 4 + num) 9)).length ≤ 9 := by rw [List.length_drop, GL]; lia
 generalize (K5 (dg + 323512336240469276417) 9).drop (mN (dg + 4 + num) 9) = data at *
 refine A4 ?_
 obtain ⟨ex, ex4, ex6, hexE⟩ : ∃ ex : Nat, (o.nf = 2 → ex ≤ 2) ∧ (o.nf = 10 → ex ≤ 1) ∧ ∀ Q : D → Sto → Prop, Q (.int ex) σ₅ → wpE (Ab rows 63) (.ite (.cmp .Eq (.loc 5) {2}) (.bin .Mod (.bin .Add (.call 51 #[.loc 0,.bin .Add (.loc 2) {11}]) {1}) {3}) (.bin .Mod (.bin .Add (.call 51 #[.loc 0,.bin .Add (.loc 2) {11}]) {1}) {2})) [some (.lst (ns.map .int)), some (.int num), some (.int b), some (.ref tk), some (tD out), some (.int o.nf), some (.int o.pr), some (.ref bk), some (.int dg), some (.lst (A6 data)), none, none, none, none, none, none, none, none, none, none, none, none, none, none, none, none, none, none] σ₅ Q := by
  have a11 : (b : Int) + 11 = ((b + 11 : Nat) : Int) := rfl
  refine oa2 (Mw (dig ns (b + 11) + 1) (show 0 < 3 by decide)) fun e3 l3 => ?_
  refine oa2 (Mw (dig ns (b + 11) + 1) (show 0 < 2 by decide)) fun e2 l2 => ?_
  refine Or.elim hnf (fun n2 => ?_) (fun n10 => ?_)
  ·refine ⟨mN (dig ns (b + 11) + 1) 3, fun ω => by lia, fun e => by lia, fun Q hQ => ?_⟩
   refine Au (fun R hR => by kpf_c; rw [n2]; exact hR) ?_
   kpf_c
   rw [a11]
   refine AH #[] hl (by lia) ⟨#[], ?_⟩
   rw [show (dig ns (b + 11) + 1).fmod 3 = ((mN (dig ns (b + 11) + 1) 3 : Nat) : Int) from e3]
   exact hQ
  ·refine ⟨mN (dig ns (b + 11) + 1) 2, fun e => by lia, fun ω => by lia, fun Q hQ => ?_⟩
   refine Av (fun R hR => by kpf_c; rw [n10]; exact hR) ?_
   kpf_c
   rw [a11]
   refine AH #[] hl (by lia) ⟨#[], ?_⟩
   rw [show (dig ns (b + 11) + 1).fmod 2 = ((mN (dig ns (b + 11) + 1) 2 : Nat) : Int) from e2]
   exact hQ
 refine hexE _ ⟨nb rfl, A4 ?_⟩
 obtain ⟨bare, hbare, hbE⟩ : ∃ bare : Bool, (bare = true → o.nf = 2 ∧ o.pr = 17) ∧ ∀ Q : D → Sto → Prop, Q (.bool bare) σ₅ → wpE (Ab rows 63) (.bop .And #[.cmp .Eq (.loc 5) {2},.cmp .Eq (.loc 6) {17},.cmp .Eq (.bin .Mod (.bin .FloorDiv (.call 51 #[.loc 0,.bin .Add (.loc 2) {11}]) {3}) {4}) {3}]) [some (.lst (ns.map .int)), some (.int num), some (.int b), some (.ref tk), some (tD out), some (.int o.nf), some (.int o.pr), some (.ref bk), some (.int dg), some (.lst (A6 data)), some (.int ex), none, none, none, none, none, none, none, none, none, none, none, none, none, none, none, none, none] σ₅ Q := by
  have a11 : (b : Int) + 11 = ((b + 11 : Nat) : Int) := rfl
  by_cases h2 : o.nf = 2
  ·by_cases h17 : o.pr = 17
   ·refine ⟨((dig ns (b + 11)).fdiv 3).fmod 4 == 3, fun ω => ⟨h2, h17⟩, fun Q hQ => ?_⟩
    kpf_c
    rw [h2, h17]
    refine ⟨_, rfl, fun ω => ⟨_, rfl, fun ω => ?_, fun e => absurd e #[]⟩, fun e => absurd e #[]⟩
    rw [a11]
    refine AH #[] hl (by lia) ?_
    rw [LI, DR, FT]
    exact ⟨⟨#[], #[]⟩, #[], hQ⟩
   ·refine ⟨false, fun e => (by cases e), fun Q hQ => ?_⟩
    kpf_c
    rw [h2, show ((o.pr : Int) == 17) = false from (Ax o.pr 17).trans (beq_false_of_ne h17)]
    exact ⟨_, rfl, fun ω => ⟨_, rfl, fun e => absurd e #[], fun ω => hQ⟩, fun e => absurd e #[]⟩
  ·refine ⟨false, fun e => (by cases e), fun Q hQ => ?_⟩
   kpf_c
   rw [show ((o.nf : Int) == 2) = false from (Ax o.nf 2).trans (beq_false_of_ne h2)]
   exact ⟨_, rfl, fun e => absurd e #[], fun ω => hQ⟩
 refine hbE _ ⟨nb rfl, A4 ?_⟩
 obtain ⟨sb, hsE⟩ : ∃ sb : List Bool, ∀ Q : D → Sto → Prop, Q (.lst (sb.map fun x => .str (mS x))) σ₅ → wpE (Ab rows 63) (.ite (.cmp .Eq (.bin .Mod (.bin .FloorDiv (.call 51 #[.loc 0,.bin .Add (.loc 2) {1}]) {4}) {2}) {0}) (.lst #[.cst (.str (Z "dst")),.cst (.str (Z "src"))]) (.lst #[.cst (.str (Z "src")),.cst (.str (Z "dst"))])) [some (.lst (ns.map .int)), some (.int num), some (.int b), some (.ref tk), some (tD out), some (.int o.nf), some (.int o.pr), some (.ref bk), some (.int dg), some (.lst (A6 data)), some (.int ex), some (.bool bare), none, none, none, none, none, none, none, none, none, none, none, none, none, none, none, none] σ₅ Q := by
  have a1 : (b : Int) + 1 = ((b + 1 : Nat) : Int) := rfl
  cases ht : (((dig ns (b + 1)).fdiv 4).fmod 2 == 0) with
  | true =>
   refine ⟨[false, true], fun Q hQ => Au (fun R hR => ?_) ?_⟩
   ·kpf_c; rw [a1]
    refine AH #[] hl (by lia) ?_
    rw [LI, DR, FT, ht]
    exact ⟨⟨#[], #[]⟩, #[], hR⟩
   ·kpf_c; exact ⟨#[], hQ⟩
  | false =>
   refine ⟨[true, false], fun Q hQ => Av (fun R hR => ?_) ?_⟩
   ·kpf_c; rw [a1]
    refine AH #[] hl (by lia) ?_
    rw [LI, DR, FT, ht]
    exact ⟨⟨#[], #[]⟩, #[], hR⟩
   ·kpf_c; exact ⟨#[], hQ⟩
 refine hsE _ ⟨nb rfl, A4 ?_⟩
 have hhE : ∀ Q : D → Sto → Prop, Q (.int (Ae o.nf ex)) σ₅ → wpE (Ab rows 63) (.ite (.cmp .Eq (.loc 5) {2}) (.bin .Add {20} (.bin .Mult {4} (.loc 10))) (.bin .Add {40} (.bin .Mult {8} (.loc 10)))) [some (.lst (ns.map .int)), some (.int num), some (.int b), some (.ref tk), some (tD out), some (.int o.nf), some (.int o.pr), some (.ref bk), some (.int dg), some (.lst (A6 data)), some (.int ex), some (.bool bare), some (.lst (sb.map fun x => .str (mS x))), none, none, none, none, none, none, none, none, none, none, none, none, none, none, none] σ₅ Q := by
  intro Q hQ
  refine Or.elim hnf (fun n2 => ?_) (fun n10 => ?_)
  ·refine Au (fun R hR => by kpf_c; rw [n2]; exact hR) ?_
   kpf_c
   rw [n2] at hQ
   rw [show (20 : Int) + 4 * (ex : Int) = ((Ae 2 ex : Nat) : Int) by show _ = ((20 + 4 * ex : Nat) : Int); lia]
   exact ⟨.inl #[], hQ⟩
  ·refine Av (fun R hR => by kpf_c; rw [n10]; exact hR) ?_
   kpf_c
   rw [n10] at hQ
   have he := ex6 n10
   have e : (40 : Int) + 8 * (ex : Int) = ((Ae 10 ex : Nat) : Int) := by
    show _ = (((if ex = 0 then 40 else 48 : Nat)) : Int)
    split <;> lia
   rw [e]
   exact ⟨.inl #[], hQ⟩
 refine hhE _ ⟨nb rfl, Dw ?_⟩
 kpf_c
 refine ⟨B5 2 #[], _, Sp _, ?_⟩
 have ex2 : ex ≤ 2 := by refine Or.elim hnf (fun e => ?_) (fun e => ?_); exact ex4 e; have := ex6 e; lia
 have pr0 := wo.pr0
 have cx : ∀ (T : T6) (c : Nat), Wf T → T.nf = o.nf → T.pr = o.pr → (c = 200 ∨ c = Ae o.nf ex + 8 ∨ (c = Ae o.nf ex + 4 ∧ Ay o.nf o.pr = false)) → Cx T data ex c bare := fun T c w hn hp hc =>
  ⟨w, by rw [hn]; exact ex4, by rw [hn]; exact ex6, by rw [hn, hp]; exact hbare, hdl, by rw [hn, hp]; exact hc⟩
 refine FK (fun xs ρ σ' => ∃ (L : List Nat) (x8 x14 x15 x16 x17 x18 x19 x20 x21 x22 x23 x24 x25 x26 x27 : Option D), xs = L.map (fun (k : Nat) => .int (k : Int)) ∧ (∀ k ∈ L, k = 0 ∨ k = 1) ∧ Ai σ σ' ∧ BK σ' bk tk (5 + num) st o (inv out) ∧
  ρ = [some (.lst (ns.map .int)), some (.int num), some (.int b), some (.ref tk), some (tD out), some (.int o.nf), some (.int o.pr), some (.ref bk), x8, some (.lst (A6 data)), some (.int ex), some (.bool bare), some (.lst (sb.map fun x => .str (mS x))), some (.int (Ae o.nf ex)), x14, x15, x16, x17, x18, x19, x20, x21, x22, x23, x24, x25, x26, x27]) ?_ ?_ ?_ _ _ _ ⟨[0, 1], _, none, none, none, none, none, none, none, none, none, none, none, none, none, none, rfl, #[], s05, bb5, rfl⟩
 ·exact fun ω ω σ' ω => ⟨Sp σ', rfl⟩
 ·rintro x xs ρ σ' ⟨L, x8, x14, x15, x16, x17, x18, x19, x20, x21, x22, x23, x24, x25, x26, x27, hxs, hL, s6, bb, rfl⟩ K' hK'
  cases L with
  | nil => cases hxs
  | cons dir L =>
  (refine oa2 (List.cons.inj hxs) fun zq1 zq2 => ?_; subst zq1; subst zq2)
  have hdir := hL dir (List.mem_cons_self ..)
  have hL' : ∀ k ∈ L, k = 0 ∨ k = 1 := fun k hk => hL k (List.mem_cons_of_mem _ hk)
  have tt := bb.talk
  kpf_c
  refine ⟨nb rfl, A4 ?_⟩
  have ed : ((dir : Int) == 0) = decide (dir = 0) := Bp dir 0
  have sT : ∀ Q : D → Sto → Prop, Q (tD (An o (inv out) dir)) σ' → ∀ ρ : Rho, ρ[14]? = some (some (.int (dir : Int))) → ρ[3]? = some (some (.ref tk)) → wpE (Ab rows 63) (.ite (.cmp .Eq (.loc 14) {0}) (.attr (.loc 3) (Z "original")) (.attr (.loc 3) (Z "reply"))) ρ σ' Q := by
   intro Q hQ ρ r14 r3
   unfold An at hQ
   by_cases h0 : dir = 0
   ·rw [if_pos h0] at hQ
    refine Au (fun R hR => ?_) ?_
    ·kpf_c; rw [r14]; dsimp only; rw [FT, ed, decide_eq_true h0]; exact hR
    ·kpf_c; rw [r3]; exact tt.original hQ
   ·rw [if_neg h0] at hQ
    refine Av (fun R hR => ?_) ?_
    ·kpf_c; rw [r14]; dsimp only; rw [FT, ed, decide_eq_false h0]; exact hR
    ·kpf_c; rw [r3]; exact tt.reply hQ
  refine sT _ ⟨nb rfl, A4 ?_⟩ _ (by rfl) (by rfl)
  have wT : Wf (An o (inv out) dir) := by unfold An; split; exact wo; exact wr
  have nT : (An o (inv out) dir).nf = o.nf ∧ (An o (inv out) dir).pr = o.pr := by unfold An; split; exact ⟨rfl, rfl⟩; exact hnp
  have wS : Wf (An o (inv out) (1 - dir)) := by unfold An; split; exact wo; exact wr
  have gT : ∀ Q : D → Sto → Prop, (∀ σ₇, Ai σ' σ₇ → Q (tD (inv (An o (inv out) (1 - dir)))) σ₇) → ∀ ρ : Rho, ρ[14]? = some (some (.int (dir : Int))) → ρ[3]? = some (some (.ref tk)) → ρ[4]? = some (some (tD out)) → wpE (Ab rows 63) (.ite (.cmp .Eq (.loc 14) {0}) (.loc 4) (.call 59 #[.attr (.loc 3) (Z "original")])) ρ σ' Q := by
   intro Q hQ ρ r14 r3 r4
   rcases hdir with rfl | rfl
   ·refine Au (fun R hR => by kpf_c; rw [r14]; exact hR) ?_
    kpf_c; rw [r4]
    have := hQ σ' (.refl σ')
    rw [show An o (inv out) (1 - 0) = inv out from rfl, wu.inv2] at this
    exact this
   ·refine Av (fun R hR => by kpf_c; rw [r14]; exact hR) ?_
    kpf_c; rw [r3]
    exact tt.original (Ch #[] wo.okA hQ)
  refine gT _ (fun σ₇ s7 => ⟨nb rfl, A4 ?_⟩) _ (by rfl) (by rfl) (by rfl)
  kpf_c
  have cxT := cx (An o (inv out) dir) 200 wT nT.1 nT.2 (.inl rfl)
  refine Dx #[] (by rw [nT.1]; exact hnf) (by rw [nT.2]; exact pr0.2) ex2 (by lia) ⟨nb rfl, A4 ?_⟩
  kpf_c
  refine ⟨nb rfl, nb rfl, ?_⟩
  have bb7 := bb.mono s7
  refine Hh ?_
  kpf_c
  refine ⟨nb rfl, G6 #[] bb7 ok.ne wo wr ok.st hdir hnp cxT fun σ₈ s8 => ⟨true, rfl, fun e => absurd e #[], fun ω => A1 (A4 ?_)⟩⟩
  have s78 := s7.trans s8
  have bb8 := bb.mono s78
  kpf_c
  refine Ch #[] (wS.inv).1.okA fun σ₉ s9 => ?_
  rw [wS.inv2]
  refine ⟨nb rfl, A4 ?_⟩
  have s79 := s78.trans s9
  have bb9 := bb.mono s79
  obtain ⟨T, wT', nT', pT', hinv, bT, hTE⟩ : ∃ T : T6, Wf T ∧ T.nf = o.nf ∧ T.pr = o.pr ∧ inv T = An o (inv out) dir ∧ (T.sa + 1 < 256 ^ zOf o.nf ∧ (An o (inv out) dir).da = T.sa) ∧ ∀ Q : D → Sto → Prop, (∀ σ₁₀, Ai σ₉ σ₁₀ → Q (tD T) σ₁₀) → ∀ ρ : Rho, ρ[14]? = some (some (.int (dir : Int))) → ρ[3]? = some (some (.ref tk)) → ρ[4]? = some (some (tD out)) → wpE (Ab rows 63) (.ite (.cmp .Eq (.loc 14) {0}) (.call 59 #[.attr (.loc 3) (Z "original")]) (.loc 4)) ρ σ₉ Q := by
   refine oa3 (wo.inv) fun wi ni pi => ?_
   have isa : (inv o).sa = o.da := by unfold inv; split <;> rfl
   have ida : (inv out).da = out.sa := by unfold inv; split <;> rfl
   rcases hdir with rfl | rfl
   ·refine ⟨inv o, wi, ni, pi, wo.inv2, ⟨by rw [isa]; exact ok.b1, by rw [isa]; rfl⟩, fun Q hQ ρ r14 r3 r4 => ?_⟩
    refine Au (fun R hR => by kpf_c; rw [r14]; exact hR) ?_
    kpf_c; rw [r3]
    exact bb9.talk.original (Ch #[] wo.okA hQ)
   ·refine ⟨out, wu, ok.nf, ok.pr, rfl, ⟨ok.b2, ida⟩, fun Q hQ ρ r14 r3 r4 => ?_⟩
    refine Av (fun R hR => by kpf_c; rw [r14]; exact hR) ?_
    kpf_c; rw [r4]
    exact hQ σ₉ (.refl σ₉)
  refine hTE _ (fun σ₁₀ s10 => ⟨nb rfl, A4 ?_⟩) _ (by rfl) (by rfl) (by rfl)
  have s710 := s79.trans s10
  have bb10 := bb.mono s710
  kpf_c
  rw [show (b : Int) + 12 + (dir : Int) = ((b + 12 + dir : Nat) : Int) from rfl]
  refine AH #[] hl (by lia) ⟨nb rfl, A4 ?_⟩
  generalize dig ns (b + 12 + dir) = d2 at *
  refine oa2 (Mw (d2 + dir) (show 0 < 4 by decide)) fun e4 l4 => ?_
  have cutE : ∀ Q : D → Sto → Prop, Q (.int (MP o.nf o.pr ex (mN (d2 + dir) 4))) σ₁₀ → ∀ ρ : Rho, ρ[13]? = some (some (.int (Ae o.nf ex))) → ρ[6]? = some (some (.int o.pr)) → ρ[8]? = some (some (.int d2)) → ρ[14]? = some (some (.int (dir : Int))) → wpE (Ab rows 63) (.idx (.lst #[.bin .Add (.loc 13) {8},{200},.bin .Add (.loc 13) (.ite (.cmp .In (.loc 6) (.lst #[{6},{17},{47}])) {4} {8}),.bin .Add (.loc 13) {8}]) (.bin .Mod (.bin .Add (.loc 8) (.loc 14)) {4})) ρ σ₁₀ Q := by
   intro Q hQ ρ r13 r6 r8 r14
   kpf_c
   rw [r13, r6, r8, r14]
   dsimp only
   rw [B2]
   refine ⟨#[], [6, 17, 47], rfl, ?_⟩
   rw [show ([6, 17, 47] : List Int).contains (o.pr : Int) = decide (o.pr = 6 ∨ o.pr = 17 ∨ o.pr = 47) from Oy o.pr 6 17 47]
   have go : ∀ k : Nat, k = (if o.pr = 6 ∨ o.pr = 17 ∨ o.pr = 47 then 4 else 8) → Be .Add (.int (Ae o.nf ex)) (.int k) fun d => Be .Add (.int (Ae o.nf ex)) (.int 8) fun d' => 0 + 1 + 1 + 1 + 1 ≤ 1000 ∧ Be .Add (.int d2) (.int dir) fun s => Be .Mod s (.int 4) fun i => Kg σ₁₀ (.lst [.int ((Ae o.nf ex : Int) + 8), .int 200, d, d']) i fun v => Q v σ₁₀ := by
    intro k hk
    rw [B2, B2, B2, DR, show (d2 + (dir : Int)).fmod 4 = ((mN (d2 + dir) 4 : Nat) : Int) from e4]
    refine ⟨#[], #[], ?_⟩
    refine Eb (d := .int (MP o.nf o.pr ex (mN (d2 + dir) 4))) _ ?_ (by lia) hQ
    generalize mN (d2 + dir) 4 = j at *
    unfold MP
    rw [← hk]
    match j, l4 with
    | 0, _ => rfl
    | 1, _ => rfl
    | 2, _ => rfl
    | 3, _ => rfl
   by_cases hp : o.pr = 6 ∨ o.pr = 17 ∨ o.pr = 47
   ·rw [decide_eq_true hp]
    exact ⟨fun ω => go 4 (by rw [if_pos hp]), fun e => absurd e #[]⟩
   ·rw [decide_eq_false hp]
    exact ⟨fun e => absurd e #[], fun ω => go 8 (by rw [if_neg hp])⟩
  refine cutE _ ⟨nb rfl, A4 ?_⟩ _ (by rfl) (by rfl) (by rfl) (by rfl)
  have hcut := RY (nf := o.nf) (pr := o.pr) (ex := ex) l4 hio
  generalize MP o.nf o.pr ex (mN (d2 + dir) 4) = c at *
  have c200 : c ≤ 200 := by
   have ho : Ae o.nf ex ≤ 48 := by
    unfold Ae
    split
    ·rename_i e; have := ex4 e; lia
    ·split <;> decide
   lia
  have kindsE : ∀ Q : D → Sto → Prop, Q (.lst ((Cq o.nf).map fun (k : Nat) => .int (k : Int))) σ₁₀ → ∀ ρ : Rho, ρ[5]? = some (some (.int o.nf)) → wpE (Ab rows 63) (.ite (.cmp .Eq (.loc 5) {2}) (.lst #[{3},{11},{4},{12},{5}]) (.lst #[{1},{3},{2},{4}])) ρ σ₁₀ Q := by
   intro Q hQ ρ r5
   unfold Cq at hQ
   refine Or.elim hnf (fun n2 => ?_) (fun n10 => ?_)
   ·rw [if_pos n2] at hQ
    refine Au (fun R hR => by kpf_c; rw [r5, n2]; exact hR) ?_
    kpf_c; exact ⟨#[], hQ⟩
   ·rw [if_neg (by lia)] at hQ
    refine Av (fun R hR => by kpf_c; rw [r5, n10]; exact hR) ?_
    kpf_c; exact ⟨#[], hQ⟩
  refine kindsE _ ⟨nb rfl, A4 ?_⟩ _ (by rfl)
  kpf_c
  have kl : 0 < (Cq o.nf).length ∧ (Cq o.nf).length ≤ 5 := by unfold Cq; split <;> decide
  refine ⟨⟨#[], #[]⟩, Cf (by rw [List.length_map]; lia) ?_⟩
  rw [List.length_map, DR]
  refine oa2 (Mw (d2.fdiv 4) kl.1) fun ek lk => ?_
  refine ⟨by lia, ?_⟩
  rw [ek]
  refine Eb _ (PD lk) (by lia) ⟨nb rfl, A4 ?_⟩
  have hkind := PC hnf lk
  generalize (Cq o.nf).getD (mN (d2.fdiv 4) (Cq o.nf).length) 0 = kind at *
  kpf_c
  rw [show (b : Int) + 14 + (dir : Int) = ((b + 14 + dir : Nat) : Int) from rfl]
  refine AH #[] hl (by lia) ⟨#[], nb rfl, A4 ?_⟩
  generalize hfg : ((dig ns (b + 14 + dir)).fmod 8 == 7) = fgn at *
  refine Re o.nf hnf (by rfl) ⟨nb rfl, A4 ?_⟩
  refine oa2 (GO (dig ns (b + 14 + dir))) fun e16 l16 => ?_
  have outE : ∀ Q : D → Sto → Prop, Q (HQ (DS o.nf + 1681915904 + m16 (dig ns (b + 14 + dir))) (T.sa + (if fgn then 1 else 0))) σ₁₀ → ∀ ρ : Rho, ρ[24]? = some (some (.int (DS o.nf))) → ρ[0]? = some (some (.lst (ns.map .int))) → ρ[2]? = some (some (.int b)) → ρ[14]? = some (some (.int (dir : Int))) → ρ[15]? = some (some (tD T)) → ρ[23]? = some (some (.bool fgn)) → wpE (Ab rows 63) (.tup #[.bin .Add (.bin .Add (.loc 24) {1681915904}) (.bin .Mod (.call 51 #[.loc 0,.bin .Add (.bin .Add (.loc 2) {14}) (.loc 14)]) {65536}),.bin .Add (.idx (.loc 15) {2}) (.ite (.loc 23) {1} {0})]) ρ σ₁₀ Q := by
   intro Q hQ ρ r24 r0 r2 r14 r15 r23
   kpf_c
   rw [r24, r0, r2, r14, r15, r23]
   dsimp only
   rw [B2, B2]
   dsimp only [B2]
   rw [show (b : Int) + 14 + (dir : Int) = ((b + 14 + dir : Nat) : Int) from rfl]
   refine AH #[] hl (by lia) ?_
   rw [DR]
   refine ⟨#[], ?_⟩
   rw [e16, B2, show (DS o.nf : Int) + 1681915904 + ((m16 (dig ns (b + 14 + dir)) : Nat) : Int) = ((DS o.nf + 1681915904 + m16 (dig ns (b + 14 + dir)) : Nat) : Int) from rfl]
   refine AX 2 rfl #[] ⟨fgn, rfl, ?_⟩
   cases fgn with
   | true => exact ⟨fun ω => ⟨nb rfl, hQ⟩, fun e => absurd e #[]⟩
   | false => exact ⟨fun e => absurd e #[], fun ω => ⟨nb rfl, hQ⟩⟩
  refine outE _ ⟨nb rfl, A4 ?_⟩ _ (by rfl) (by rfl) (by rfl) (by rfl) (by rfl) (by rfl)
  have hoa : DS o.nf + 1681915904 + m16 (dig ns (b + 14 + dir)) < 256 ^ zOf o.nf := by
   have := PN hnf (x := 1681915904 + m16 (dig ns (b + 14 + dir))) (by lia)
   lia
  generalize DS o.nf + 1681915904 + m16 (dig ns (b + 14 + dir)) = oa at *
  have cxE := cx T c wT' nT' pT' hcut
  have cx200 := cx T 200 wT' nT' pT' (.inl rfl)
  have her : Er o.nf oa (T.sa + (if fgn then 1 else 0)) kind (wc T data ex c bare) := RV ok cxE nT' hkind hoa (by split <;> lia)
  kpf_c
  refine Dx #[] (by rw [nT']; exact hnf) (by rw [pT']; exact pr0.2) ex2 (by lia) ?_
  have wl := Cz cx200
  refine Nf (by lia) c (by lia) ⟨nb rfl, A4 ?_⟩
  kpf_c
  refine AX 0 rfl #[] (AX 1 rfl #[] ?_)
  have il := her.l
  refine E1 #[] hnf hkind.facts.2.1 (inner := wc T data ex c bare) (by lia) ⟨nb rfl, A4 ?_⟩
  kpf_c
  refine ⟨nb rfl, nb rfl, A4 ?_⟩
  kpf_c
  refine ⟨nb rfl, nb rfl, nb rfl, ?_⟩
  refine Hh ?_
  kpf_c
  have hf : fgn = decide ((An o (inv out) dir).da ≠ T.sa + (if fgn then 1 else 0)) := by
   rw [bT.2]
   cases fgn with
   | true => rw [if_pos rfl]; exact (decide_eq_true (by lia)).symm
   | false => rw [if_neg Bool.false_ne_true]; exact (decide_eq_false (by lia)).symm
  refine IG #[] bb10 ok.ne wo wr ok.st hdir hnp cxE c200 ⟨nT', pT'⟩ hinv her hf fun σ₁₁ s11 => ⟨true, rfl, fun e => absurd e #[], fun ω => A1 (AR ?_)⟩
  have s711 := s710.trans s11
  exact hK' _ _ ⟨L, _, _, _, _, _, _, _, _, _, _, _, _, _, _, _, rfl, hL', s6.trans s711, bb.mono s711, rfl⟩
 ·rintro ρ σ' ⟨L, x8, x14, x15, x16, x17, x18, x19, x20, x21, x22, x23, x24, x25, x26, x27, hxs, hL, s6, bb, rfl⟩
  rw [Dh]
  exact Ac (hk _ s6)
theorem spec_law (hl : ns.length ≤ 63) : Ab rows 65 64 [.lst (ns.map .int)] (fun ω => none) (fun d ω => d = .bool true) := by
 have h : 64 < 65 := by decide
 refine Am (ρ := [some (.lst (ns.map .int))]) Q4 (by assumption) rfl rfl rfl rfl (by kernel_rfl) ?_; unfold Q4
 refine Ac ?_
 kpf_c
 refine E0 (num := 0) #[] (by lia) #[] fun σ₁ ω => ⟨true, rfl, fun ω => ?_, fun e => absurd e #[]⟩
 refine E0 (num := 1) #[] (by lia) #[] fun σ₂ ω => rfl
end
end Mine
theorem PySem.Challenge.cw_pq1099_01_holds : PySem.Challenge.rw_pq1099_01.Holds :=
 Mine.final fun ns h => Mine.spec_law h
